import PyProof.Rows.All
import Wide.All
import OpenK.AllK
import Wide.FinOn
import HandS.ForMost
import HandS.Deep
import HandS.TupAny
import HandS.TupLe
import HandS.TupMul
import HandS.Style
import HandS.Zip
import HandS.Conv
import HandS.SortOrd
import HandS.SortRule
import HandS.SortInts
import HandS.TupSets
import KE.KDictKeyed
import KE.SortData
import KE.DataMinMax
import KE.DataCmp
import HandS.IsInst
import KE.KDictCopyH
import PyProof.DictRoadsH
import KE.GoesMore
import KE.KTupSum
import HandS.SetFor
import HandS.Strs
import PySem.Challenge.RW_cornerwebs_k85_whole_numbers_on_corners
set_option Elab.async false
set_option linter.all false
set_option maxRecDepth 1000000
set_option maxHeartbeats 4000000
/-! Layer D: values as data (D), a typing of the frozen objects (T), what a def's slots hold (Rel), what a step may do (Step). -/
namespace LD
open PySem PySem.Spec PyProof.Rows L2

/-- data: what a Python value is worth; lists, dicts by their content -/
inductive D where
  | non | bl (b : Bool) | int (i : Int) | str (x : Str)
  | tup (xs : List D) | lst (xs : List D)
  /-- a set of tuples of ints (what it is of, in no order, maybe twice) -/
  | st (rows : List (List Int))
  /-- a dict; t: its keys are tuples -/
  | dic (t : Bool) (ps : List (D × D))
  /-- an instance of the k-th class: its fields by place -/
  | ins (k : Nat) (fs : List D)
  /-- the dict that a web keeps for its lines -/
  | cch (ls : List D)
  /-- the law's script -/
  | scr (ns : List Int)

/-- what the text fixes -/
structure Gm where
  P : Program
  w : World
  K : PySem.W.Frag
  C : Nat → Addr
  fl : Nat → List Str

abbrev Ty := Addr → Option D
def Sub (T T' : Ty) : Prop := ∀ a d, T a = some d → T' a = some d
theorem Sub.refl (T : Ty) : Sub T T := fun _ _ h => h
theorem Sub.trans {T T1 T2 : Ty} (a : Sub T T1) (b : Sub T1 T2) : Sub T T2 := fun x d h => b x d (a x d h)
def tset (T : Ty) (p : Addr) (d : D) : Ty := fun b => if b = p then some d else T b
theorem tset_same {T : Ty} {p : Addr} {d : D} : tset T p d p = some d := by unfold tset; rw [if_pos rfl]
theorem tset_ne {T : Ty} {p b : Addr} {d : D} (h : b ≠ p) : tset T p d b = T b := by unfold tset; rw [if_neg h]
theorem Sub.tset {T : Ty} {p : Addr} {d : D} (h : T p = none) : Sub T (tset T p d) := fun a e q => by
  have n : a ≠ p := fun z => by rw [z, h] at q; cases q
  rw [tset_ne n]; exact q

/-- a list of ints of the module itself -/
def KL (K : PySem.W.Frag) (a : Addr) (ns : List Int) : Prop := ∃ (o : Obj) (its : Array Value) (n : Nat), K.lookup a = some o ∧ o.cls = .type "list" ∧ o.dict = none ∧ o.data = .seq its n ∧ its.size ≤ sizeLine ∧ Vals (ns.map V.int) its.toList

/-- v stands for d; an object by what it is typed as -/
def RepT (G : Gm) (T : Ty) : V → D → Prop
  | .non, d => d = .non
  | .bl b, d => d = .bl b
  | .int i, d => d = .int i
  | .str x, d => d = .str x
  | .ref a, d => T a = some d ∨ ∃ ns, d = .scr ns ∧ KL G.K a ns
  | _, _ => False
abbrev Reps (G : Gm) (T : Ty) : List V → List D → Prop := Paired (RepT G T)

theorem RepT.mono {G : Gm} {T T' : Ty} (s : Sub T T') : ∀ {v : V} {d : D}, RepT G T v d → RepT G T' v d
  | .non, _, h => h
  | .bl _, _, h => h
  | .int _, _, h => h
  | .str _, _, h => h
  | .ref _, _, h => h.elim (fun q => .inl (s _ _ q)) .inr
  | .byt _, _, h => h.elim
  | .flt _, _, h => h.elim
  | .ty _, _, h => h.elim
theorem Reps.mono {G : Gm} {T T' : Ty} (s : Sub T T') {vs : List V} {ds : List D} (h : Reps G T vs ds) : Reps G T' vs ds := Paired.mapP h fun _ _ q => q.mono s

/-- the object a is a dict whose keys are tuples: their keys, addresses, values -/
def DN0 (P : Program) (w : World) (h : Heap) (a : Addr) (xs : List (NestedKey × Addr × V)) : Prop := (a == sysModules) = false ∧ xs.length ≤ sizeLine ∧ ∃ ys : List (NestedKey × Addr × Value),
  Paired (fun (x : NestedKey × Addr × V) (y : NestedKey × Addr × Value) => x.1 = y.1 ∧ x.2.1 = y.2.1 ∧ RelV x.2.2 y.2.2) xs ys ∧ ∃ o es ep, h.get? a = some o ∧ o.ExactDict ∧ o.data = .dict es ep ∧ es.toList = ys.map (entryOfKey (nestedKind P w)) ∧ (ys.map (·.1)).Nodup
def DN (P : Program) (w : World) (a : Addr) (xs : List (NestedKey × Addr × V)) : HO := .ext fun h => DN0 P w h a xs
/-- a key that is a tuple, as a NestedKey -/
def nk : D → Option NestedKey
  | .non => some .none
  | .bl b => some (.num (if b = true then 1 else 0))
  | .int i => some (.num i)
  | .str x => some (.text x)
  | .tup ds => match nks ds with
    | some ks => some (.tup ks)
    | none => none
  | _ => none
where nks : List D → Option (List NestedKey)
  | [] => some []
  | d :: ds => match nk d with
    | some k => match nks ds with
      | some ks => some (k :: ks)
      | none => none
    | none => none
/-- a tuple that can be a key -/
def nkey (d : D) : Option NestedKey := match d with
  | .tup ds => match nk (.tup ds) with
    | some k => if k.depth ≤ 8 then some k else none
    | none => none
  | _ => none
def tupI (ns : List Int) : D := .tup (ns.map D.int)

def keyD : Key → D
  | .inl i => .int i
  | .inr x => .str x

/-- the object at a is d, its items as T says -/
def Shape (G : Gm) (T : Ty) (H : Hp) (a : Addr) : D → Prop
  | .tup ds => ∃ vs, H a = some (.tup vs) ∧ Reps G T vs ds ∧ ds.length ≤ sizeLine
  | .lst ds => ∃ vs, H a = some (.lst vs) ∧ Reps G T vs ds ∧ ds.length ≤ sizeLine
  | .scr ns => (∃ o, H a = some (.frz o (.lst (ns.map V.int)))) ∧ ns.length ≤ sizeLine
  | .dic false ps => ∃ kvs : List (Key × V), Rd H a (.dK kvs) ∧ Paired (fun (kv : Key × V) (p : D × D) => p.1 = keyD kv.1 ∧ RepT G T kv.2 p.2) kvs ps
  | .dic true ps => ∃ xs : List (NestedKey × Addr × V), Rd H a (DN G.P G.w a xs) ∧ Paired (fun (x : NestedKey × Addr × V) (p : D × D) => nkey p.1 = some x.1 ∧ T x.2.1 = some p.1 ∧ RepT G T x.2.2 p.2) xs ps
  | .st rows => ∃ L : List (Addr × List Int), H a = some (SetTO G.P G.w a L) ∧ (∀ p ∈ L, p.2 ∈ rows ∧ T p.1 = some (tupI p.2)) ∧ ∀ r ∈ rows, r ∈ L.map (·.2)
  | .ins k fs => ∃ dx vs, H a = some (.ins (G.C k) dx ((G.fl k).zip vs)) ∧ vs.length ≤ (G.fl k).length ∧ Reps G T vs fs
  | .cch ls => H a = some (.dK []) ∨ ∃ t, H a = some (.dK [(.inr "there", .ref t)]) ∧ T t = some (.dic true (ls.map fun l => (l, .bl true)))
  | _ => False

theorem rd_at {H H' : Hp} {a : Addr} {u : HO} (e : H' a = H a) (h : Rd H a u) : Rd H' a u := by
  rcases h with h | ⟨o, h⟩
  · exact .inl (e.trans h)
  · exact .inr ⟨o, e.trans h⟩
theorem rd_some {H : Hp} {a : Addr} {u : HO} (h : Rd H a u) : H a ≠ none := by
  rcases h with h | ⟨o, h⟩ <;> (rw [h]; exact fun z => nomatch z)

section
variable {G : Gm} {T T' : Ty} {H H' : Hp} {a : Addr} {d : D}
theorem Shape.mono (s : Sub T T') (e : H' a = H a) (h : Shape G T H a d) : Shape G T' H' a d := by
  cases d with
  | tup ds => obtain ⟨vs, r, q, z⟩ := h; exact ⟨vs, e.trans r, q.mono s, z⟩
  | lst ds => obtain ⟨vs, r, q, z⟩ := h; exact ⟨vs, e.trans r, q.mono s, z⟩
  | scr ns => obtain ⟨⟨o, h⟩, z⟩ := h; exact ⟨⟨o, e.trans h⟩, z⟩
  | dic t ps =>
    cases t with
    | false => obtain ⟨kvs, r, q⟩ := h; exact ⟨kvs, rd_at e r, Paired.mapP q fun _ _ z => ⟨z.1, z.2.mono s⟩⟩
    | true => obtain ⟨kvs, r, q⟩ := h; exact ⟨kvs, rd_at e r, Paired.mapP q fun _ _ z => ⟨z.1, s _ _ z.2.1, z.2.2.mono s⟩⟩
  | st rows => obtain ⟨L, r, q, z⟩ := h; exact ⟨L, e.trans r, fun p hp => ⟨(q p hp).1, s _ _ (q p hp).2⟩, z⟩
  | ins k fs => obtain ⟨dx, vs, r, l, q⟩ := h; exact ⟨dx, vs, e.trans r, l, q.mono s⟩
  | cch ls =>
    rcases h with h | ⟨t, h, q⟩
    · exact .inl (e.trans h)
    · exact .inr ⟨t, e.trans h, s _ _ q⟩
  | _ => exact (show False from h).elim
theorem Shape.some (h : Shape G T H a d) : H a ≠ none := by
  cases d with
  | tup ds => obtain ⟨vs, r, q⟩ := h; rw [r]; exact fun z => nomatch z
  | lst ds => obtain ⟨vs, r, q⟩ := h; rw [r]; exact fun z => nomatch z
  | scr ns => obtain ⟨⟨o, h⟩, z⟩ := h; rw [h]; exact fun z => nomatch z
  | dic t ps =>
    cases t with
    | false => obtain ⟨kvs, r, q⟩ := h; exact rd_some r
    | true => obtain ⟨kvs, r, q⟩ := h; exact rd_some r
  | st rows => obtain ⟨L, r, q⟩ := h; rw [r]; exact fun z => nomatch z
  | ins k fs => obtain ⟨dx, vs, r, l, q⟩ := h; rw [r]; exact fun z => nomatch z
  | cch ls => rcases h with h | ⟨t, h, q⟩ <;> (rw [h]; exact fun z => nomatch z)
  | _ => exact (show False from h).elim
end

def Good (G : Gm) (T : Ty) (H : Hp) : Prop := ∀ a d, T a = some d → Shape G T H a d
theorem Good.free {G : Gm} {T : Ty} {H : Hp} (g : Good G T H) {p : Addr} (h : H p = none) : T p = none := by
  cases q : T p with
  | none => rfl
  | some d => exact absurd h (g p d q).some

/-- what a step may do: R are the roots that it may change -/
structure Step (G : Gm) (T : Ty) (H : Hp) (T' : Ty) (H' : Hp) (R : Addr → Prop) : Prop where
  sub : Sub T T'
  good : Good G T' H'
  dom : ∀ a, H a ≠ none → H' a ≠ none
  frm : ∀ a o, H a = some o → T a = none → ¬ R a → H' a = some o ∧ T' a = none
theorem Step.refl {G : Gm} {T : Ty} {H : Hp} {R : Addr → Prop} (g : Good G T H) : Step G T H T H R := ⟨Sub.refl T, g, fun _ h => h, fun _ _ h t _ => ⟨h, t⟩⟩
theorem Step.trans {G : Gm} {T T1 T2 : Ty} {H H1 H2 : Hp} {R R' : Addr → Prop} (a : Step G T H T1 H1 R) (b : Step G T1 H1 T2 H2 R') (s : ∀ x, R' x → R x ∨ H x = none) : Step G T H T2 H2 R :=
  ⟨a.sub.trans b.sub, b.good, fun x h => b.dom x (a.dom x h), fun x o h t n => by
    obtain ⟨h1, t1⟩ := a.frm x o h t n
    exact b.frm x o h1 t1 fun z => (s x z).elim n fun q => by rw [h] at q; cases q⟩
theorem Step.mono {G : Gm} {T T1 : Ty} {H H1 : Hp} {R R' : Addr → Prop} (a : Step G T H T1 H1 R) (s : ∀ x, R x → R' x) : Step G T H T1 H1 R' :=
  ⟨a.sub, a.good, a.dom, fun x o h t n => a.frm x o h t fun z => n (s x z)⟩

/-- a new object, typed -/
theorem Step.lay {G : Gm} {T : Ty} {H : Hp} {R : Addr → Prop} (g : Good G T H) {p : Addr} (hp : H p = none) (o : HO) {d : D} (h : Shape G (tset T p d) (upd H p o) p d) : Step G T H (tset T p d) (upd H p o) R := by
  have tp : T p = none := g.free hp
  refine ⟨Sub.tset tp, fun a e q => ?_, fun a h z => ?_, fun a u h t _ => ?_⟩
  · by_cases ap : a = p
    · subst ap; rw [tset_same] at q; cases q; exact h
    · rw [tset_ne ap] at q
      exact (g a e q).mono (Sub.tset tp) (upd_ne ap)
  · by_cases ap : a = p
    · rw [ap] at h; exact h hp
    · rw [upd_ne ap] at z; exact h z
  · have ap : a ≠ p := ne_of_none h hp
    exact ⟨by rw [upd_ne ap]; exact h, by rw [tset_ne ap]; exact t⟩
/-- a new object, not typed (a temporary's root, or garbage) -/
theorem Step.new {G : Gm} {T : Ty} {H : Hp} {R : Addr → Prop} (g : Good G T H) {p : Addr} (hp : H p = none) (o : HO) : Step G T H T (upd H p o) R := by
  have tp : T p = none := g.free hp
  refine ⟨Sub.refl T, fun a e q => ?_, fun a h z => ?_, fun a u h t _ => ?_⟩
  · have ap : a ≠ p := fun z => by rw [z, tp] at q; cases q
    exact (g a e q).mono (Sub.refl T) (upd_ne ap)
  · by_cases ap : a = p
    · rw [ap] at h; exact h hp
    · rw [upd_ne ap] at z; exact h z
  · have ap : a ≠ p := ne_of_none h hp
    exact ⟨by rw [upd_ne ap]; exact h, t⟩
/-- a root is written -/
theorem Step.write {G : Gm} {T : Ty} {H : Hp} {R : Addr → Prop} (g : Good G T H) {p : Addr} (tp : T p = none) (r : R p) (o : HO) : Step G T H T (upd H p o) R := by
  refine ⟨Sub.refl T, fun a e q => ?_, fun a h z => ?_, fun a u h t n => ?_⟩
  · have ap : a ≠ p := fun z => by rw [z, tp] at q; cases q
    exact (g a e q).mono (Sub.refl T) (upd_ne ap)
  · by_cases ap : a = p
    · rw [ap, upd_same] at z; cases z
    · rw [upd_ne ap] at z; exact h z
  · have ap : a ≠ p := fun z => n (z ▸ r)
    exact ⟨by rw [upd_ne ap]; exact h, t⟩
/-- a root is frozen: typed from now on -/
theorem Step.freeze {G : Gm} {T : Ty} {H : Hp} {R : Addr → Prop} (g : Good G T H) {p : Addr} (tp : T p = none) (r : R p) {d : D} (h : Shape G T H p d) : Step G T H (tset T p d) H R := by
  refine ⟨Sub.tset tp, fun a e q => ?_, fun a h => h, fun a u h t n => ?_⟩
  · by_cases ap : a = p
    · subst ap; rw [tset_same] at q; cases q; exact h.mono (Sub.tset tp) rfl
    · rw [tset_ne ap] at q
      exact (g a e q).mono (Sub.tset tp) rfl
  · have ap : a ≠ p := fun z => n (z ▸ r)
    exact ⟨h, by rw [tset_ne ap]; exact t⟩

/-- the object at a belongs to one holder alone and may be written -/
structure Own (G : Gm) (T : Ty) (H : Hp) (a : Addr) (d : D) : Prop where
  ty : T a = none
  sh : Shape G T H a d
  mu : Mut (H a)
theorem Own.step {G : Gm} {T T' : Ty} {H H' : Hp} {R : Addr → Prop} {a : Addr} {d : D} (o : Own G T H a d) (s : Step G T H T' H' R) (n : ¬ R a) : Own G T' H' a d := by
  obtain ⟨u, hu⟩ : ∃ u, H a = some u := by
    cases q : H a with
    | none => exact absurd q o.sh.some
    | some u => exact ⟨u, rfl⟩
  obtain ⟨h1, t1⟩ := s.frm a u hu o.ty n
  exact ⟨t1, o.sh.mono s.sub (h1.trans hu.symm), by rw [h1, ← hu]; exact o.mu⟩
theorem Mut.nofrz {o : Obj} {u : HO} (h : Mut (some (.frz o u))) : False := h
theorem Own.lst {G : Gm} {T : Ty} {H : Hp} {a : Addr} {ds : List D} (o : Own G T H a (.lst ds)) : ∃ vs, H a = some (.lst vs) ∧ Reps G T vs ds ∧ ds.length ≤ sizeLine := by
  obtain ⟨_, ⟨vs, r, q⟩, mu⟩ := o
  exact ⟨vs, r, q⟩

/-- a slot: a value that stays as it is, or a root: the def's own (true), or its caller's (false) -/
inductive SV where
  | imm (d : D) | rt (k : Bool) (d : D)
abbrev DSt := List (Option SV)

structure Rel (G : Gm) (T : Ty) (st : DSt) (σ : L2.St) (H : Hp) : Prop where
  good : Good G T H
  len : st.length = σ.length
  imm : ∀ (i : Nat) d, st[i]? = some (some (.imm d)) → ∃ v, σ[i]? = some (some v) ∧ RepT G T v d
  rts : ∀ (i : Nat) k d, st[i]? = some (some (.rt k d)) → ∃ a, σ[i]? = some (some (.ref a)) ∧ Own G T H a d
  inj : ∀ (i j : Nat) k k' d d' a, st[i]? = some (some (.rt k d)) → st[j]? = some (some (.rt k' d')) → σ[i]? = some (some (.ref a)) → σ[j]? = some (some (.ref a)) → i = j
def Root (st : DSt) (σ : L2.St) (a : Addr) : Prop := ∃ (i : Nat) (k : Bool) (d : D), st[i]? = some (some (.rt k d)) ∧ σ[i]? = some (some (.ref a))

/-- what an expression is worth: data that stays; a new object's content (nobody else has it); the root in a slot -/
inductive R where
  | imm (d : D) | own (d : D) | slot (i : Nat)

def getD (st : DSt) (i : Nat) : Option D := match st[i]? with
  | some (some (.imm d)) => some d
  | some (some (.rt _ d)) => some d
  | _ => none
def cont (st : DSt) : R → Option D
  | .imm d => some d
  | .own d => some d
  | .slot i => getD st i

/-- a scalar's own value -/
def scaV : D → Option V
  | .non => some .non
  | .bl b => some (.bl b)
  | .int i => some (.int i)
  | .str x => some (.str x)
  | _ => none
/-- v can be read as d now -/
def Sees (G : Gm) (T : Ty) (H : Hp) (v : V) (d : D) : Prop := RepT G T v d ∨ ∃ a, v = .ref a ∧ Own G T H a d

/-- the value v of an expression is r; H₀ the heap at its start -/
def ResOk (G : Gm) (T : Ty) (st : DSt) (σ : L2.St) (H₀ H : Hp) (v : V) : R → Prop
  | .imm d => RepT G T v d
  | .own d => ∃ a, v = .ref a ∧ H₀ a = none ∧ Own G T H a d
  | .slot i => σ[i]? = some (some v) ∧ ∃ sv, st[i]? = some (some sv)

/-- a step of an expression: slots only lose roots -/
structure EStep (G : Gm) (T : Ty) (st : DSt) (σ : L2.St) (H : Hp) (T' : Ty) (st' : DSt) (H' : Hp) : Prop where
  rel : Rel G T' st' σ H'
  step : Step G T H T' H' (Root st σ)
  kind : ∀ (i : Nat) k d, st'[i]? = some (some (.rt k d)) → ∃ d0, st[i]? = some (some (.rt k d0))
  some : ∀ (i : Nat) sv, st[i]? = some (some sv) → ∃ sv', st'[i]? = some (some sv')

section
variable {G : Gm} {T T1 T2 : Ty} {st st1 st2 : DSt} {σ : L2.St} {H H1 H2 : Hp} {v : V} {d : D} {r : R}
theorem EStep.root (e : EStep G T st σ H T1 st1 H1) {a : Addr} (h : Root st1 σ a) : Root st σ a := by
  obtain ⟨i, k, d, h1, h2⟩ := h
  obtain ⟨d0, h0⟩ := e.kind i k d h1
  exact ⟨i, k, d0, h0, h2⟩
theorem EStep.refl (r : Rel G T st σ H) : EStep G T st σ H T st H := ⟨r, Step.refl r.good, fun _ _ d h => ⟨d, h⟩, fun _ sv h => ⟨sv, h⟩⟩
theorem EStep.trans (a : EStep G T st σ H T1 st1 H1) (b : EStep G T1 st1 σ H1 T2 st2 H2) : EStep G T st σ H T2 st2 H2 :=
  ⟨b.rel, a.step.trans b.step fun _ h => .inl (a.root h), fun i k d h => by
    obtain ⟨d1, h1⟩ := b.kind i k d h
    exact a.kind i k d1 h1, fun i sv h => by
    obtain ⟨s1, h1⟩ := a.some i sv h
    exact b.some i s1 h1⟩
theorem Rel.root_own (r : Rel G T st σ H) {a : Addr} (h : Root st σ a) : H a ≠ none ∧ T a = none := by
  obtain ⟨i, k, d, h1, h2⟩ := h
  obtain ⟨b, h3, o⟩ := r.rts i k d h1
  rw [h2] at h3; cases h3
  exact ⟨o.sh.some, o.ty⟩
/-- steps that leave the roots: new objects alone -/
theorem Rel.keep (r : Rel G T st σ H) (s : Step G T H T1 H1 fun _ => False) : Rel G T1 st σ H1 :=
  ⟨s.good, r.len, fun i d h => by obtain ⟨v, h1, h2⟩ := r.imm i d h; exact ⟨v, h1, h2.mono s.sub⟩,
    fun i k d h => by obtain ⟨a, h1, o⟩ := r.rts i k d h; exact ⟨a, h1, o.step s fun z => z⟩, r.inj⟩
theorem Rel.ekeep (r : Rel G T st σ H) (s : Step G T H T1 H1 fun _ => False) : EStep G T st σ H T1 st H1 :=
  ⟨r.keep s, s.mono fun _ z => z.elim, fun _ _ d h => ⟨d, h⟩, fun _ sv h => ⟨sv, h⟩⟩

theorem Sees.of_rep (h : RepT G T v d) : Sees G T H v d := .inl h
/-- what an expression gave, read later on -/
theorem sees_of {H₀ : Hp} (rl : Rel G T st σ H) (h : ResOk G T st σ H₀ H v r) (c : cont st r = some d) : Sees G T H v d := by
  cases r with
  | imm e => cases c; exact .inl h
  | own e => cases c; obtain ⟨a, ha, _, o⟩ := h; exact .inr ⟨a, ha, o⟩
  | slot i =>
    obtain ⟨h1, sv, h2⟩ := h
    cases sv with
    | imm e =>
      have e' : some e = some d := by rw [← c]; simp [cont, getD, h2]
      rw [Option.some.inj e'] at h2
      obtain ⟨w, h3, h4⟩ := rl.imm i d h2
      rw [h1] at h3; cases h3
      exact .inl h4
    | rt k e =>
      have e' : some e = some d := by rw [← c]; simp [cont, getD, h2]
      rw [Option.some.inj e'] at h2
      obtain ⟨a, h3, o⟩ := rl.rts i k d h2
      rw [h1] at h3; cases h3
      exact .inr ⟨a, rfl, o⟩
theorem ResOk.later {H₀ : Hp} (h : ResOk G T1 st1 σ H₀ H1 v r) (n : ∀ a d, r = .own d → Root st1 σ a → H₀ a ≠ none) (s : EStep G T1 st1 σ H1 T2 st2 H2) : ResOk G T2 st2 σ H₀ H2 v r := by
  cases r with
  | imm e => exact RepT.mono s.step.sub h
  | own e =>
    obtain ⟨a, ha, hn, o⟩ := h
    exact ⟨a, ha, hn, o.step s.step fun z => n a e rfl z hn⟩
  | slot i =>
    obtain ⟨h1, sv, h2⟩ := h
    exact ⟨h1, s.some i sv h2⟩
/-- .. where it was given behind a step from H -/
theorem ResOk.pass (rl : Rel G T st σ H) (e : EStep G T st σ H T1 st1 H1) (h : ResOk G T1 st1 σ H H1 v r) (s : EStep G T1 st1 σ H1 T2 st2 H2) : ResOk G T2 st2 σ H H2 v r :=
  h.later (fun a d _ z => (rl.root_own (e.root z)).1) s
theorem ResOk.back {H₀ : Hp} (dm : ∀ a, H₀ a ≠ none → H a ≠ none) (h : ResOk G T st σ H H1 v r) : ResOk G T st σ H₀ H1 v r := by
  cases r with
  | imm e => exact h
  | own e =>
    obtain ⟨a, ha, hn, o⟩ := h
    refine ⟨a, ha, ?_, o⟩
    cases q : H₀ a with
    | none => rfl
    | some u => exact absurd hn (dm a (by rw [q]; exact fun z => nomatch z))
  | slot i => exact h

/-- what is seen as a tuple, a list -/
theorem Sees.heap (g : Good G T H) (h : Sees G T H v d) (n : scaV d = none) : (∃ a, v = .ref a ∧ Shape G T H a d) ∨ ∃ a ns, v = .ref a ∧ d = .scr ns ∧ KL G.K a ns := by
  rcases h with h | ⟨a, e, o⟩
  · cases v with
    | ref a =>
      rcases h with h | ⟨ns, h, k⟩
      · exact .inl ⟨a, rfl, g a _ h⟩
      · exact .inr ⟨a, ns, rfl, h, k⟩
    | non => cases (show d = .non from h); cases n
    | bl b => cases (show d = .bl b from h); cases n
    | int i => cases (show d = .int i from h); cases n
    | str x => cases (show d = .str x from h); cases n
    | _ => exact (show False from h).elim
  · exact .inl ⟨a, e, o.sh⟩
theorem Sees.tup {ds : List D} (g : Good G T H) (h : Sees G T H v (.tup ds)) : ∃ a vs, v = .ref a ∧ SqT G.K H a vs ∧ H a = some (.tup vs) ∧ Reps G T vs ds ∧ ds.length ≤ sizeLine := by
  rcases h.heap g rfl with ⟨a, rfl, vs, r, q⟩ | ⟨a, ns, _, e, _⟩
  · exact ⟨a, vs, rfl, .of r, r, q⟩
  · cases e
theorem Sees.tupT {ds : List D} (h : Sees G T H v (.tup ds)) : RepT G T v (.tup ds) := by
  rcases h with h | ⟨a, e, o⟩
  · exact h
  · obtain ⟨_, ⟨vs, r, _⟩, mu⟩ := o
    rw [r] at mu; exact (show False from mu).elim
theorem reps_ints : ∀ ns : List Int, Reps G T (ns.map V.int) (ns.map D.int)
  | [] => .nil
  | _ :: ns => .cons rfl (reps_ints ns)
theorem Sees.lst {ds : List D} (g : Good G T H) (h : Sees G T H v (.lst ds)) : ∃ a vs, v = .ref a ∧ SqL G.K H a vs ∧ H a = some (.lst vs) ∧ Reps G T vs ds ∧ ds.length ≤ sizeLine := by
  rcases h.heap g rfl with ⟨a, rfl, vs, r, q⟩ | ⟨a, ns, _, e, _⟩
  · exact ⟨a, vs, rfl, .of r, r, q⟩
  · cases e
theorem Sees.scr {ns : List Int} (g : Good G T H) (h : Sees G T H v (.scr ns)) : ∃ a, v = .ref a ∧ SqL G.K H a (ns.map V.int) ∧ ns.length ≤ sizeLine := by
  rcases h.heap g rfl with ⟨a, rfl, ⟨o, r⟩, z⟩ | ⟨a, ns', rfl, e, k⟩
  · exact ⟨a, rfl, .inl (.inr ⟨o, r⟩), z⟩
  · cases e
    obtain ⟨ob, its, n, k1, k2, k3, k4, k5, k6⟩ := k
    have hl := k6.length
    simp only [List.length_map, Array.length_toList] at hl
    exact ⟨a, rfl, .inr ⟨ob, its, n, k1, k2, k3, k4, k5, k6⟩, by omega⟩
theorem Sees.sca (g : Good G T H) {u : V} (e : scaV d = some u) (h : Sees G T H v d) : v = u := by
  have no : ∀ a, ¬ Shape G T H a d := fun a z => by
    cases d with
    | non => exact z
    | bl b => exact z
    | int i => exact z
    | str x => exact z
    | _ => cases e
  rcases h with h | ⟨a, _, h⟩
  · cases v with
    | ref a =>
      rcases h with h | ⟨ds, h, _⟩
      · exact (no a (g a d h)).elim
      · rw [h] at e; cases e
    | non => rw [show d = .non from h] at e; cases e; rfl
    | bl b => rw [show d = .bl b from h] at e; cases e; rfl
    | int i => rw [show d = .int i from h] at e; cases e; rfl
    | str x => rw [show d = .str x from h] at e; cases e; rfl
    | _ => exact h.elim
  · exact (no a h.sh).elim
theorem Sees.int {i : Int} (g : Good G T H) (h : Sees G T H v (.int i)) : v = .int i := h.sca g rfl
theorem Sees.bl {b : Bool} (g : Good G T H) (h : Sees G T H v (.bl b)) : v = .bl b := h.sca g rfl
theorem Sees.str {x : Str} (g : Good G T H) (h : Sees G T H v (.str x)) : v = .str x := h.sca g rfl
theorem Sees.non (g : Good G T H) (h : Sees G T H v .non) : v = .non := h.sca g rfl
end
end LD

/-! Layer D: expressions. -/
namespace LD
open PySem PySem.Spec PyProof.Rows L2

abbrev M := DSt → Option (R × DSt)
abbrev MT := DSt → Option (Bool × DSt)
/-- the reading t keeps to the data-level meaning m -/
def OkE (G : Gm) (t : TE) (m : M) : Prop := ∀ (T : Ty) (st : DSt) (σ : L2.St) (H : Hp) (r : R) (st' : DSt), Rel G T st σ H → m st = some (r, st') →
  ∀ Q : VK, (∀ T' v H', EStep G T st σ H T' st' H' → ResOk G T' st' σ H H' v r → Q v H') → t σ H Q
def OkT (G : Gm) (t : TT) (m : MT) : Prop := ∀ (T : Ty) (st : DSt) (σ : L2.St) (H : Hp) (b : Bool) (st' : DSt), Rel G T st σ H → m st = some (b, st') →
  ∀ Q : Bool → Hp → Prop, (∀ T' H', EStep G T st σ H T' st' H' → Q b H') → t σ H Q

/-- new objects alone -/
abbrev NStep (G : Gm) (T : Ty) (H : Hp) (T' : Ty) (H' : Hp) : Prop := Step G T H T' H' fun _ => False
/-- what a plain operation gives -/
def ResN (G : Gm) (T : Ty) (H₀ H : Hp) (v : V) : R → Prop
  | .imm d => RepT G T v d
  | .own d => ∃ a, v = .ref a ∧ H₀ a = none ∧ Own G T H a d
  | .slot _ => False
def OkR2 (G : Gm) (r : R2) (f : D → D → Option R) : Prop := ∀ (T : Ty) (H : Hp) (x y : V) (dx dy : D) (res : R), Good G T H → Sees G T H x dx → Sees G T H y dy → f dx dy = some res →
  ∀ Q : VK, (∀ T' v H', NStep G T H T' H' → ResN G T' H H' v res → Q v H') → r x y H Q
def OkR1 (G : Gm) (r : V → Hp → VK → Prop) (f : D → Option R) : Prop := ∀ (T : Ty) (H : Hp) (x : V) (dx : D) (res : R), Good G T H → Sees G T H x dx → f dx = some res →
  ∀ Q : VK, (∀ T' v H', NStep G T H T' H' → ResN G T' H H' v res → Q v H') → r x H Q

section
variable {G : Gm} {T T1 T2 : Ty} {st st1 st2 : DSt} {σ : L2.St} {H H1 H2 : Hp} {v : V} {d : D} {r : R}
theorem ResN.res (e : EStep G T st σ H T1 st1 H1) (h : ResN G T2 H1 H2 v r) : ResOk G T2 st2 σ H H2 v r := by
  cases r with
  | imm d => exact h
  | own d =>
    obtain ⟨a, h1, h2, h3⟩ := h
    refine ⟨a, h1, ?_, h3⟩
    cases q : H a with
    | none => rfl
    | some u => exact absurd h2 (e.step.dom a (by rw [q]; exact fun z => nomatch z))
  | slot i => exact (show False from h).elim

/-! ### names, constants -/
def mVar (i : Nat) : M := fun st => match st[i]? with
  | some (some (.imm d)) => some (.imm d, st)
  | some (some (.rt _ _)) => some (.slot i, st)
  | _ => none
theorem ok_var (i : Nat) : OkE G (tVar i) (mVar i) := by
  intro T st σ H r st' rl e Q k
  unfold mVar at e
  split at e
  · rename_i d h
    cases e
    obtain ⟨v, h1, h2⟩ := rl.imm i d h
    exact ⟨v, h1, k T v H (EStep.refl rl) h2⟩
  · rename_i kk d h
    cases e
    obtain ⟨a, h1, o⟩ := rl.rts i kk d h
    exact ⟨.ref a, h1, k T _ H (EStep.refl rl) ⟨h1, _, h⟩⟩
  · cases e
def mC (d : D) : M := fun st => some (.imm d, st)
theorem ok_c {u : V} (h : ∀ T, RepT G T u d) : OkE G (tC u) (mC d) := by
  intro T st σ H r st' rl e Q k
  cases e
  exact k T u H (EStep.refl rl) (h T)

/-! ### one and two places -/
def mBin (f : D → D → Option R) (a b : M) : M := fun st => match a st with
  | none => none
  | some (ra, s1) => match b s1 with
    | none => none
    | some (rb, s2) => match cont s2 ra, cont s2 rb with
      | some x, some y => match f x y with
        | some res => some (res, s2)
        | none => none
      | _, _ => none
theorem ok_bin {rr : R2} {f : D → D → Option R} {ta tb : TE} {a b : M} (ha : OkE G ta a) (hb : OkE G tb b) (hr : OkR2 G rr f) : OkE G (tOp rr ta tb) (mBin f a b) := by
  intro T st σ H res st' rl e Q k
  unfold mBin at e
  split at e
  · cases e
  · rename_i ra s1 e1
    split at e
    · cases e
    · rename_i rb s2 e2
      split at e
      · rename_i x y cx cy
        split at e
        · rename_i z ez
          cases e
          refine ha T st σ H ra s1 rl e1 _ fun T1 v1 H1 E1 R1 => ?_
          refine hb T1 s1 σ H1 rb _ E1.rel e2 _ fun T2 v2 H2 E2 R2 => ?_
          have S1 := sees_of E2.rel (R1.pass rl E1 E2) cx
          have S2 := sees_of E2.rel R2 cy
          refine hr T2 H2 v1 v2 x y res E2.rel.good S1 S2 ez _ fun T3 v3 H3 N3 R3 => ?_
          have E := E1.trans E2
          exact k T3 v3 H3 (E.trans (E.rel.ekeep N3)) (R3.res E)
        · cases e
      · cases e
def mUn (f : D → Option R) (a : M) : M := fun st => match a st with
  | none => none
  | some (ra, s1) => match cont s1 ra with
    | some x => match f x with
      | some res => some (res, s1)
      | none => none
    | none => none
theorem ok_un {rr : V → Hp → VK → Prop} {f : D → Option R} {ta : TE} {a : M} (ha : OkE G ta a) (hr : OkR1 G rr f) : OkE G (tUn rr ta) (mUn f a) := by
  intro T st σ H res st' rl e Q k
  unfold mUn at e
  split at e
  · cases e
  · rename_i ra s1 e1
    split at e
    · rename_i x cx
      split at e
      · rename_i z ez
        cases e
        refine ha T st σ H ra _ rl e1 _ fun T1 v1 H1 E1 R1 => ?_
        refine hr T1 H1 v1 x res E1.rel.good (sees_of E1.rel R1 cx) ez _ fun T3 v3 H3 N3 R3 => ?_
        exact k T3 v3 H3 (E1.trans (E1.rel.ekeep N3)) (R3.res E1)
      · cases e
    · cases e

/-! ### the operators -/
def ri (i : Int) : Option R := some (.imm (.int i))
def rb (b : Bool) : Option R := some (.imm (.bl b))
/-- a scalar comes, the heap stays -/
theorem one (g : Good G T H) {Q : VK} {res : R} (k : ∀ T' v H', NStep G T H T' H' → ResN G T' H H' v res → Q v H') {u : V} (h : ResN G T H H u res) : Q u H := k T u H (Step.refl g) h

def dIn2 (f : Int → Int → Option R) : D → D → Option R
  | .int i, .int j => f i j
  | _, _ => none
theorem okI0 {g : Int → Int → Int} : OkR2 G (rI0 fun i j => .int (g i j)) (dIn2 fun i j => ri (g i j)) := by
  intro T H x y dx dy res gd sx sy e Q k
  unfold dIn2 at e
  split at e
  · rename_i i j
    cases e
    exact ⟨i, j, sx.int gd, sy.int gd, one gd k rfl⟩
  · cases e
theorem okB0 {g : Int → Int → Bool} : OkR2 G (rI0 fun i j => .bl (g i j)) (dIn2 fun i j => rb (g i j)) := by
  intro T H x y dx dy res gd sx sy e Q k
  unfold dIn2 at e
  split at e
  · rename_i i j
    cases e
    exact ⟨i, j, sx.int gd, sy.int gd, one gd k rfl⟩
  · cases e
theorem okI {C : Int → Int → Prop} [∀ i j, Decidable (C i j)] {g : Int → Int → Int} : OkR2 G (rI C fun i j => .int (g i j)) (dIn2 fun i j => if C i j then ri (g i j) else none) := by
  intro T H x y dx dy res gd sx sy e Q k
  unfold dIn2 at e
  split at e
  · rename_i i j
    dsimp only at e
    split at e
    · rename_i hc
      cases e
      exact ⟨i, j, sx.int gd, sy.int gd, hc, one gd k rfl⟩
    · cases e
  · cases e
instance (i j : Int) : Decidable (CDiv i j) := by unfold CDiv; infer_instance
instance (i j : Int) : Decidable (CMul i j) := by unfold CMul; infer_instance
instance (i j : Int) : Decidable (CPow i j) := by unfold CPow; infer_instance
def dAddI : D → D → Option R := dIn2 fun i j => ri (i + j)
def dSub : D → D → Option R := dIn2 fun i j => ri (i - j)
def dMul : D → D → Option R := dIn2 fun i j => if CMul i j then ri (i * j) else none
def dDiv : D → D → Option R := dIn2 fun i j => if CDiv i j then ri (i / j) else none
def dMod : D → D → Option R := dIn2 fun i j => if 0 < j then ri (i % j) else none
def dPow : D → D → Option R := dIn2 fun i j => if CPow i j then ri (i ^ j.toNat) else none
def dShl : D → D → Option R := dIn2 fun i j => if CPow i j then ri (i * 2 ^ j.toNat) else none
def dShr : D → D → Option R := dIn2 fun i j => if 0 ≤ j then ri (i / 2 ^ j.toNat) else none
def dLt : D → D → Option R := dIn2 fun i j => rb (decide (i < j))
def dLe : D → D → Option R := dIn2 fun i j => rb (decide (i ≤ j))
def dGt : D → D → Option R := dIn2 fun i j => rb (decide (j < i))
def dGe : D → D → Option R := dIn2 fun i j => rb (decide (j ≤ i))
theorem ok_addI : OkR2 G (rI0 fun i j => .int (i + j)) dAddI := okI0
theorem ok_sub : OkR2 G (rI0 fun i j => .int (i - j)) dSub := okI0
theorem ok_mul : OkR2 G (rI CMul fun i j => .int (i * j)) dMul := okI
theorem ok_div : OkR2 G (rI CDiv fun i j => .int (i / j)) dDiv := okI
theorem ok_mod : OkR2 G (rI (fun _ j => 0 < j) fun i j => .int (i % j)) dMod := okI
theorem ok_pow : OkR2 G (rI CPow fun i j => .int (i ^ j.toNat)) dPow := okI
theorem ok_shl : OkR2 G (rI CPow fun i j => .int (i * 2 ^ j.toNat)) dShl := okI
theorem ok_shr : OkR2 G (rI (fun _ j => 0 ≤ j) fun i j => .int (i / 2 ^ j.toNat)) dShr := okI
theorem ok_lt : OkR2 G (rI0 fun i j => .bl (decide (i < j))) dLt := okB0
theorem ok_le : OkR2 G (rI0 fun i j => .bl (decide (i ≤ j))) dLe := okB0
theorem ok_gt : OkR2 G (rI0 fun i j => .bl (decide (j < i))) dGt := okB0
theorem ok_ge : OkR2 G (rI0 fun i j => .bl (decide (j ≤ i))) dGe := okB0
/-- two rules for one operation: by what the data are -/
theorem OkR2.or {r r' : R2} {f f' : D → D → Option R} (h : OkR2 G r f) (h' : OkR2 G r' f') : OkR2 G (fun x y H Q => r x y H Q ∨ r' x y H Q) (fun x y => match f x y with | some z => some z | none => f' x y) := by
  intro T H x y dx dy res gd sx sy e Q k
  simp only at e
  split at e
  · rename_i z ez
    cases e
    exact .inl (h T H x y dx dy res gd sx sy ez Q k)
  · exact .inr (h' T H x y dx dy res gd sx sy e Q k)
/-- t + u -/
def dCat : D → D → Option R
  | .tup xs, .tup ys => if xs.length + ys.length ≤ sizeLine then some (.imm (.tup (xs ++ ys))) else none
  | _, _ => none
theorem reps_app {xs ys : List V} {ds es : List D} (h : Reps G T xs ds) (h' : Reps G T ys es) : Reps G T (xs ++ ys) (ds ++ es) := by
  induction h with
  | nil => exact h'
  | cons a t ih => exact .cons a ih
theorem ok_cat : OkR2 G (rCatA G.K) dCat := by
  intro T H x y dx dy res gd sx sy e Q k
  unfold dCat at e
  split at e
  · rename_i xs ys
    split at e
    · rename_i hz
      cases e
      obtain ⟨a, vs, rfl, qa, ra, ka, la⟩ := sx.tup gd
      obtain ⟨b, ws, rfl, qb, rb, kb, lb⟩ := sy.tup gd
      have l1 := ka.length
      have l2 := kb.length
      refine ⟨a, b, vs, ws, rfl, rfl, qa, qb, by omega, fun e => ?_, fun _ e => ?_, fun _ _ p hp => ?_⟩
      · subst e
        cases ka
        exact one gd k sy.tupT
      · subst e
        cases kb
        refine one gd k ?_
        show RepT G T (V.ref a) (.tup (xs ++ []))
        rw [List.append_nil]
        exact sx.tupT
      · have tp := gd.free hp
        refine k (tset T p (.tup (xs ++ ys))) (.ref p) _ (Step.lay gd hp _ ⟨vs ++ ws, upd_same, (reps_app ka kb).mono (Sub.tset tp), by rw [List.length_append]; exact hz⟩) (.inl tset_same)
    · cases e
  · cases e
/-- xs + ys of lists -/
def dCatL : D → D → Option R
  | .lst xs, .lst ys => if xs.length + ys.length ≤ sizeLine then some (.own (.lst (xs ++ ys))) else none
  | _, _ => none
end

/-! ### what a value is as a Dp (for == and in) -/
mutual
def toPy : D → PyData
  | .non => .none
  | .bl b => .bool b
  | .int i => .int i
  | .str x => .str x
  | .tup xs => .tuple (toPys xs)
  | .lst xs => .list (toPys xs)
  | .dic _ _ => .dict []
  | .st _ => .dict []
  | .ins _ _ => .dict []
  | .cch _ => .dict []
  | .scr _ => .dict []
def toPys : List D → List PyData
  | [] => []
  | x :: xs => toPy x :: toPys xs
end
section
variable {G : Gm} {T : Ty} {H : Hp}
theorem Sees.child {v : V} {d : D} (h : RepT G T v d) : Sees G T H v d := .inl h
mutual
theorem dp_of (g : Good G T H) : ∀ (d : D) (v : V), PyData.canLay0 (toPy d) = true → Sees G T H v d → Dp G.K H v (toPy d)
  | .non, v, _, h => by rw [h.non g]; exact .non
  | .bl b, v, _, h => by rw [h.bl g]; exact .bl b
  | .int i, v, _, h => by rw [h.int g]; exact .int i
  | .str x, v, _, h => by rw [h.str g]; exact .str x
  | .tup ds, v, c, h => by
    obtain ⟨a, vs, rfl, q, _, k, _⟩ := h.tup g
    exact .tup q (dps_of g ds vs (by simpa [toPy, PyData.canLay0] using c) k)
  | .lst ds, v, c, h => by
    obtain ⟨a, vs, rfl, q, _, k, _⟩ := h.lst g
    exact .lst q (dps_of g ds vs (by simpa [toPy, PyData.canLay0] using c) k)
  | .dic _ _, v, c, h => by simp [toPy, PyData.canLay0] at c
  | .st _, v, c, h => by simp [toPy, PyData.canLay0] at c
  | .ins _ _, v, c, h => by simp [toPy, PyData.canLay0] at c
  | .cch _, v, c, h => by simp [toPy, PyData.canLay0] at c
  | .scr _, v, c, h => by simp [toPy, PyData.canLay0] at c
theorem dps_of (g : Good G T H) : ∀ (ds : List D) (vs : List V), PyData.canLayAll0 (toPys ds) = true → Reps G T vs ds → DpAll G.K H vs (toPys ds)
  | [], vs, _, h => by cases h; exact .nil
  | d :: ds, vs, c, h => by
    cases h with
    | cons h t =>
      have c' : PyData.canLay0 (toPy d) = true ∧ PyData.canLayAll0 (toPys ds) = true := by simpa [toPys, PyData.canLayAll0] using c
      exact .cons (dp_of g d _ c'.1 (.inl h)) (dps_of g ds _ c'.2 t)
end
def shp (d : D) : Bool := SeqAt.shaped (toPy d)
def dEq (x y : D) : Option R := if shp x = true ∧ shp y = true then rb (PyData.eqv (toPy x) (toPy y)) else none
def dNe (x y : D) : Option R := if shp x = true ∧ shp y = true then rb (!PyData.eqv (toPy x) (toPy y)) else none
theorem ok_eq : OkR2 G (rEqD G.K) dEq := by
  intro T H x y dx dy res gd sx sy e Q k
  unfold dEq at e
  split at e
  · rename_i h
    cases e
    exact ⟨toPy dx, toPy dy, dp_of gd dx x (SeqAt.canLay_of_shaped h.1) sx, dp_of gd dy y (SeqAt.canLay_of_shaped h.2) sy, h.1, h.2, one gd k rfl⟩
  · cases e
theorem ok_ne : OkR2 G (rNeD G.K) dNe := by
  intro T H x y dx dy res gd sx sy e Q k
  unfold dNe at e
  split at e
  · rename_i h
    cases e
    exact ⟨toPy dx, toPy dy, dp_of gd dx x (SeqAt.canLay_of_shaped h.1) sx, dp_of gd dy y (SeqAt.canLay_of_shaped h.2) sy, h.1, h.2, one gd k rfl⟩
  · cases e
/-- is None, is not None -/
def isN : D → Bool
  | .non => true
  | _ => false
def dIsN (x y : D) : Option R := match y with | .non => rb (isN x) | _ => none
def dNotN (x y : D) : Option R := match y with | .non => rb (!isN x) | _ => none
theorem isN_eq {x : V} {d : D} (gd : Good G T H) (s : Sees G T H x d) : decide (x = .non) = isN d := by
  cases d with
  | non => rw [s.non gd]; rfl
  | bl b => rw [s.bl gd]; rfl
  | int i => rw [s.int gd]; rfl
  | str y => rw [s.str gd]; rfl
  | tup ds => obtain ⟨a, vs, rfl, _⟩ := s.tup gd; rfl
  | lst ds => obtain ⟨a, vs, rfl, _⟩ := s.lst gd; rfl
  | _ =>
    rcases s with s | ⟨a, rfl, _⟩
    · cases x <;> first | rfl | (cases s; done) | exact (show False from s).elim
    · rfl
theorem ok_isN : OkR2 G (fun x y H Q => y = .non ∧ Q (.bl (decide (x = .non))) H) dIsN := by
  intro T H x y dx dy res gd sx sy e Q k
  unfold dIsN at e
  split at e
  · cases e
    refine ⟨sy.non gd, ?_⟩
    rw [isN_eq gd sx]
    exact one gd k rfl
  · cases e
theorem ok_notN : OkR2 G (fun x y H Q => y = .non ∧ Q (.bl (!decide (x = .non))) H) dNotN := by
  intro T H x y dx dy res gd sx sy e Q k
  unfold dNotN at e
  split at e
  · cases e
    refine ⟨sy.non gd, ?_⟩
    rw [isN_eq gd sx]
    exact one gd k rfl
  · cases e
end
end LD

/-! Layer D: tests, and | or | not, displays, argument lists, subscripts, slices. -/
namespace LD
open PySem PySem.Spec PyProof.Rows L2

section
variable {G : Gm} {T T1 T2 : Ty} {st st1 st2 : DSt} {σ : L2.St} {H H1 H2 : Hp} {v : V} {d : D} {r : R}

/-! ### tests -/
def mT (a : M) : MT := fun st => match a st with
  | some (.imm (.bl b), s) => some (b, s)
  | _ => none
theorem rep_bl {b : Bool} (g : Good G T H) (h : RepT G T v (.bl b)) : v = .bl b := (Sees.of_rep (H := H) h).bl g
theorem ok_t {t : TE} {a : M} (h : OkE G t a) : OkT G (tB t) (mT a) := by
  intro T st σ H b st' rl e Q k
  unfold mT at e
  split at e
  · rename_i b' s e1
    cases e
    refine h T st σ H _ st' rl e1 _ fun T1 v1 H1 E1 R1 => ?_
    exact ⟨b, rep_bl E1.rel.good R1, k T1 H1 E1⟩
  · cases e
theorem ok_t' {t : TE} {a : M} (h : OkE G t a) : OkT G (tTest t) (mT a) := ok_t h
def mAndT (a b : MT) : MT := fun st => match a st with
  | some (true, s) => b s
  | z => z
def mOrT (a b : MT) : MT := fun st => match a st with
  | some (false, s) => b s
  | z => z
def mNotT (a : MT) : MT := fun st => match a st with
  | some (b, s) => some (!b, s)
  | none => none
theorem ok_andT {ta tb : TT} {a b : MT} (ha : OkT G ta a) (hb : OkT G tb b) : OkT G (tAnd ta tb) (mAndT a b) := by
  intro T st σ H c st' rl e Q k
  unfold mAndT at e
  split at e
  · rename_i s e1
    refine ha T st σ H _ s rl e1 _ fun T1 H1 E1 => ?_
    rw [if_pos rfl]
    exact hb T1 s σ H1 c st' E1.rel e _ fun T2 H2 E2 => k T2 H2 (E1.trans E2)
  · rename_i z hn
    refine ha T st σ H _ st' rl e _ fun T1 H1 E1 => ?_
    cases c with
    | true => exact absurd e (hn st')
    | false => rw [if_neg Bool.false_ne_true]; exact k T1 H1 E1
theorem ok_orT {ta tb : TT} {a b : MT} (ha : OkT G ta a) (hb : OkT G tb b) : OkT G (tOr ta tb) (mOrT a b) := by
  intro T st σ H c st' rl e Q k
  unfold mOrT at e
  split at e
  · rename_i s e1
    refine ha T st σ H _ s rl e1 _ fun T1 H1 E1 => ?_
    rw [if_neg Bool.false_ne_true]
    exact hb T1 s σ H1 c st' E1.rel e _ fun T2 H2 E2 => k T2 H2 (E1.trans E2)
  · rename_i z hn
    refine ha T st σ H _ st' rl e _ fun T1 H1 E1 => ?_
    cases c with
    | false => exact absurd e (hn st')
    | true => rw [if_pos rfl]; exact k T1 H1 E1
theorem ok_notT {ta : TT} {a : MT} (ha : OkT G ta a) : OkT G (tNot ta) (mNotT a) := by
  intro T st σ H c st' rl e Q k
  unfold mNotT at e
  split at e
  · rename_i b s e1
    cases e
    exact ha T st σ H _ st' rl e1 _ fun T1 H1 E1 => k T1 H1 E1
  · cases e
/-- .. as values -/
def mAndV (a b : M) : M := fun st => match a st with
  | some (.imm (.bl true), s) => b s
  | some (.imm (.bl false), s) => some (.imm (.bl false), s)
  | _ => none
def mOrV (a b : M) : M := fun st => match a st with
  | some (.imm (.bl false), s) => b s
  | some (.imm (.bl true), s) => some (.imm (.bl true), s)
  | _ => none
def mNotV (a : M) : M := fun st => match a st with
  | some (.imm (.bl b), s) => some (.imm (.bl (!b)), s)
  | _ => none
theorem ok_andV {ta tb : TE} {a b : M} (ha : OkE G ta a) (hb : OkE G tb b) : OkE G (tAndV ta tb) (mAndV a b) := by
  intro T st σ H r st' rl e Q k
  unfold mAndV at e
  split at e
  · rename_i s e1
    refine ha T st σ H _ s rl e1 _ fun T1 v1 H1 E1 R1 => ⟨true, rep_bl E1.rel.good R1, ?_⟩
    rw [if_pos rfl]
    exact hb T1 s σ H1 r st' E1.rel e _ fun T2 v2 H2 E2 R2 => k T2 v2 H2 (E1.trans E2) (R2.back E1.step.dom)
  · rename_i s e1
    cases e
    refine ha T st σ H _ st' rl e1 _ fun T1 v1 H1 E1 R1 => ⟨false, rep_bl E1.rel.good R1, ?_⟩
    rw [if_neg Bool.false_ne_true]
    exact k T1 _ H1 E1 rfl
  · cases e
theorem ok_orV {ta tb : TE} {a b : M} (ha : OkE G ta a) (hb : OkE G tb b) : OkE G (tOrV ta tb) (mOrV a b) := by
  intro T st σ H r st' rl e Q k
  unfold mOrV at e
  split at e
  · rename_i s e1
    refine ha T st σ H _ s rl e1 _ fun T1 v1 H1 E1 R1 => ⟨false, rep_bl E1.rel.good R1, ?_⟩
    rw [if_neg Bool.false_ne_true]
    exact hb T1 s σ H1 r st' E1.rel e _ fun T2 v2 H2 E2 R2 => k T2 v2 H2 (E1.trans E2) (R2.back E1.step.dom)
  · rename_i s e1
    cases e
    refine ha T st σ H _ st' rl e1 _ fun T1 v1 H1 E1 R1 => ⟨true, rep_bl E1.rel.good R1, ?_⟩
    rw [if_pos rfl]
    exact k T1 _ H1 E1 rfl
  · cases e
theorem ok_notV {ta : TE} {a : M} (ha : OkE G ta a) : OkE G (tNotV ta) (mNotV a) := by
  intro T st σ H r st' rl e Q k
  unfold mNotV at e
  split at e
  · rename_i b s e1
    cases e
    exact ha T st σ H _ st' rl e1 _ fun T1 v1 H1 E1 R1 => ⟨b, rep_bl E1.rel.good R1, k T1 _ H1 E1 rfl⟩
  · cases e
/-- a if t else b -/
def mIfE (c : MT) (a b : M) : M := fun st => match c st with
  | some (true, s) => a s
  | some (false, s) => b s
  | none => none
theorem ok_ifE {tc : TT} {ta tb : TE} {c : MT} {a b : M} (hc : OkT G tc c) (ha : OkE G ta a) (hb : OkE G tb b) : OkE G (tIf tc ta tb) (mIfE c a b) := by
  intro T st σ H r st' rl e Q k
  unfold mIfE at e
  split at e
  · rename_i s e1
    refine hc T st σ H _ s rl e1 _ fun T1 H1 E1 => ?_
    rw [if_pos rfl]
    exact ha T1 s σ H1 r st' E1.rel e _ fun T2 v2 H2 E2 R2 => k T2 v2 H2 (E1.trans E2) (R2.back E1.step.dom)
  · rename_i s e1
    refine hc T st σ H _ s rl e1 _ fun T1 H1 E1 => ?_
    rw [if_neg Bool.false_ne_true]
    exact hb T1 s σ H1 r st' E1.rel e _ fun T2 v2 H2 E2 R2 => k T2 v2 H2 (E1.trans E2) (R2.back E1.step.dom)
  · cases e
/-- a op b op c -/
def mChain (f g : D → D → Option R) (a b c : M) : M := fun st => match a st with
  | none => none
  | some (ra, s1) => match b s1 with
    | none => none
    | some (rb, s2) => match cont s2 ra, cont s2 rb with
      | some x, some y => match f x y with
        | some (.imm (.bl true)) => match c s2 with
          | none => none
          | some (rc, s3) => match cont s3 rb, cont s3 rc with
            | some y', some z => match g y' z with
              | some res => some (res, s3)
              | none => none
            | _, _ => none
        | some (.imm (.bl false)) => some (.imm (.bl false), s2)
        | _ => none
      | _, _ => none
theorem ok_chain {r r' : R2} {f g : D → D → Option R} {ta tb tc : TE} {a b c : M} (ha : OkE G ta a) (hb : OkE G tb b) (hc : OkE G tc c) (hf : OkR2 G r f) (hg : OkR2 G r' g) : OkE G (tChain r r' ta tb tc) (mChain f g a b c) := by
  intro T st σ H res st' rl e Q k
  unfold mChain at e
  split at e
  · cases e
  · rename_i ra s1 e1
    split at e
    · cases e
    · rename_i rb s2 e2
      split at e
      · rename_i x y cx cy
        refine ha T st σ H ra s1 rl e1 _ fun T1 v1 H1 E1 R1 => ?_
        refine hb T1 s1 σ H1 rb s2 E1.rel e2 _ fun T2 v2 H2 E2 R2 => ?_
        have S1 := sees_of E2.rel (R1.pass rl E1 E2) cx
        have S2 := sees_of E2.rel R2 cy
        have E := E1.trans E2
        split at e
        · rename_i z ez
          refine hf T2 H2 v1 v2 x y _ E2.rel.good S1 S2 ez _ fun T3 v3 H3 N3 R3 => ⟨true, rep_bl N3.good R3, ?_⟩
          have K3 := E.rel.ekeep N3
          rw [if_pos rfl]
          split at e
          · cases e
          · rename_i rc s3 e3
            split at e
            · rename_i y' z cy' cz
              split at e
              · rename_i w ew
                cases e
                refine hc T3 s2 σ H3 rc _ K3.rel e3 _ fun T4 v4 H4 E4 R4 => ?_
                have E24 := K3.trans E4
                have S2' := sees_of E4.rel (R2.pass E1.rel E2 E24) cy'
                refine hg T4 H4 v2 v4 y' z res E4.rel.good S2' (sees_of E4.rel R4 cz) ew _ fun T5 v5 H5 N5 R5 => ?_
                have EE := E.trans E24
                exact k T5 v5 H5 (EE.trans (EE.rel.ekeep N5)) (R5.res EE)
              · cases e
            · cases e
        · rename_i z ez
          cases e
          refine hf T2 H2 v1 v2 x y _ E2.rel.good S1 S2 ez _ fun T3 v3 H3 N3 R3 => ⟨false, rep_bl N3.good R3, ?_⟩
          rw [if_neg Bool.false_ne_true]
          exact k T3 _ H3 (E.trans (E.rel.ekeep N3)) rfl
        · cases e
      · cases e

/-! ### freezing -/
/-- a value that is kept elsewhere from now on -/
def freezeS (st : DSt) (i : Nat) : Option (D × DSt) := match st[i]? with
  | some (some (.imm d)) => some (d, st)
  | some (some (.rt true d)) => some (d, st.set i (some (.imm d)))
  | _ => none
def freeze (st : DSt) : R → Option (D × DSt)
  | .imm d => some (d, st)
  | .own d => some (d, st)
  | .slot i => freezeS st i
theorem rel_freeze {i : Nat} {a : Addr} (rl : Rel G T st σ H) (h : st[i]? = some (some (.rt true d))) (h2 : σ[i]? = some (some (.ref a))) (o : Own G T H a d) :
    EStep G T st σ H (tset T a d) (st.set i (some (.imm d))) H := by
  have hi : i < st.length := (List.getElem?_eq_some_iff.mp h).1
  have S : Step G T H (tset T a d) H (Root st σ) := Step.freeze rl.good o.ty ⟨i, true, d, h, h2⟩ o.sh
  refine ⟨⟨S.good, by rw [List.length_set]; exact rl.len, fun j e q => ?_, fun j k e q => ?_, fun j j' k k' e e' b q q' p p' => ?_⟩, S, fun j k e q => ?_, fun j sv q => ?_⟩
  · by_cases ij : i = j
    · subst ij
      rw [List.getElem?_set_self hi] at q
      cases q
      exact ⟨.ref a, h2, .inl tset_same⟩
    · rw [List.getElem?_set_ne ij] at q
      obtain ⟨v, h3, h4⟩ := rl.imm j e q
      exact ⟨v, h3, h4.mono S.sub⟩
  · by_cases ij : i = j
    · subst ij; rw [List.getElem?_set_self hi] at q; cases q
    · rw [List.getElem?_set_ne ij] at q
      obtain ⟨b, h3, o'⟩ := rl.rts j k e q
      have ab : b ≠ a := fun z => ij (rl.inj i j _ _ _ _ a h q h2 (z ▸ h3))
      exact ⟨b, h3, by rw [tset_ne ab]; exact o'.ty, o'.sh.mono S.sub rfl, o'.mu⟩
  · have ij : i ≠ j := fun z => by subst z; rw [List.getElem?_set_self hi] at q; cases q
    have ij' : i ≠ j' := fun z => by subst z; rw [List.getElem?_set_self hi] at q'; cases q'
    rw [List.getElem?_set_ne ij] at q
    rw [List.getElem?_set_ne ij'] at q'
    exact rl.inj j j' k k' e e' b q q' p p'
  · by_cases ij : i = j
    · subst ij; rw [List.getElem?_set_self hi] at q; cases q
    · rw [List.getElem?_set_ne ij] at q; exact ⟨e, q⟩
  · by_cases ij : i = j
    · subst ij; exact ⟨.imm d, List.getElem?_set_self hi⟩
    · exact ⟨sv, by rw [List.getElem?_set_ne ij]; exact q⟩
/-- behind an expression: its value is frozen -/
theorem ok_freeze (rl : Rel G T st σ H) (E1 : EStep G T st σ H T1 st1 H1) (R1 : ResOk G T1 st1 σ H H1 v r) (e : freeze st1 r = some (d, st2)) :
    ∃ T2, EStep G T st σ H T2 st2 H1 ∧ RepT G T2 v d := by
  cases r with
  | imm x => cases e; exact ⟨T1, E1, R1⟩
  | own x =>
    cases e
    obtain ⟨a, rfl, hn, o⟩ := R1
    have na : ¬ Root st1 σ a := fun z => (rl.root_own (E1.root z)).1 hn
    have S : Step G T1 H1 (tset T1 a d) H1 (fun b => b = a) := Step.freeze (R := fun b => b = a) E1.rel.good o.ty rfl o.sh
    have rl' : Rel G (tset T1 a d) st1 σ H1 := ⟨S.good, E1.rel.len, fun j e q => by obtain ⟨w, h3, h4⟩ := E1.rel.imm j e q; exact ⟨w, h3, h4.mono S.sub⟩, fun j k e q => by
      obtain ⟨b, h3, o'⟩ := E1.rel.rts j k e q
      exact ⟨b, h3, o'.step S fun z => na ⟨j, k, e, q, z ▸ h3⟩⟩, E1.rel.inj⟩
    refine ⟨tset T1 a d, ⟨rl', ?_, E1.kind, E1.some⟩, .inl tset_same⟩
    exact E1.step.trans S fun b z => by rw [show b = a from z]; exact .inr hn
  | slot i =>
    obtain ⟨h1, sv, h2⟩ := R1
    have e : freezeS st1 i = some (d, st2) := e
    unfold freezeS at e
    split at e
    · rename_i x h
      cases e
      obtain ⟨w, h3, h4⟩ := E1.rel.imm i d h
      rw [h1] at h3; cases h3
      exact ⟨T1, E1, h4⟩
    · rename_i x h
      cases e
      obtain ⟨a, h3, o⟩ := E1.rel.rts i true d h
      rw [h1] at h3; cases h3
      exact ⟨tset T1 a d, E1.trans (rel_freeze E1.rel h h1 o), .inl tset_same⟩
    · cases e

/-! ### argument lists whose values are kept -/
abbrev MA := DSt → Option (List D × DSt)
def OkA (G : Gm) (n : Nat) (t : TA) (m : MA) : Prop := ∀ (T : Ty) (st : DSt) (σ : L2.St) (H : Hp) (ds : List D) (st' : DSt), Rel G T st σ H → m st = some (ds, st') →
  ∀ Q : List V → Hp → Prop, (∀ T' vs H', EStep G T st σ H T' st' H' → Reps G T' vs ds → ds.length = n → Q vs H') → t σ H Q
def aNil : MA := fun st => some ([], st)
def aCons (a : M) (b : MA) : MA := fun st => match a st with
  | none => none
  | some (r, s1) => match freeze s1 r with
    | none => none
    | some (d, s2) => match b s2 with
      | none => none
      | some (ds, s3) => some (d :: ds, s3)
theorem ok_anil : OkA G 0 tNil aNil := by
  intro T st σ H ds st' rl e Q k
  cases e
  exact k T [] H (EStep.refl rl) .nil rfl
theorem ok_acons {n : Nat} {ta : TE} {tb : TA} {a : M} {b : MA} (ha : OkE G ta a) (hb : OkA G n tb b) : OkA G (n + 1) (tCons ta tb) (aCons a b) := by
  intro T st σ H ds st' rl e Q k
  unfold aCons at e
  split at e
  · cases e
  · rename_i r s1 e1
    split at e
    · cases e
    · rename_i d s2 e2
      split at e
      · cases e
      · rename_i es s3 e3
        cases e
        refine ha T st σ H r s1 rl e1 _ fun T1 v1 H1 E1 R1 => ?_
        obtain ⟨T2, E2, R2⟩ := ok_freeze rl E1 R1 e2
        refine hb T2 s2 σ H1 es _ E2.rel e3 _ fun T3 vs H3 E3 R3 hn => ?_
        exact k T3 (v1 :: vs) H3 (E2.trans E3) (.cons (R2.mono E3.step.sub) R3) (by rw [List.length_cons, hn])
/-- (a, b, ..) and [a, b, ..] -/
def mTup (a : MA) : M := fun st => match a st with
  | some (ds, s) => some (.imm (.tup ds), s)
  | none => none
def mLst (a : MA) : M := fun st => match a st with
  | some (ds, s) => some (.own (.lst ds), s)
  | none => none
theorem small_line {n : Nat} (h : n ≤ 1000) : n ≤ sizeLine := Nat.le_of_lt (small1000 h)
theorem ok_tup {n : Nat} {t : TA} {a : MA} (h : OkA G n t a) (hn : n ≤ 1000) : OkE G (tTup t) (mTup a) := by
  intro T st σ H r st' rl e Q k
  unfold mTup at e
  split at e
  · rename_i ds s e1
    cases e
    refine h T st σ H ds _ rl e1 _ fun T1 vs H1 E1 R1 l1 => ?_
    have lv := R1.length
    refine ⟨by rw [lv, l1]; exact small_line hn, fun p hp => ?_⟩
    have N := Step.lay (R := fun _ => False) E1.rel.good hp (.tup vs) (d := .tup ds) ⟨vs, upd_same, R1.mono (Sub.tset (E1.rel.good.free hp)), by rw [l1]; exact small_line hn⟩
    exact k _ (.ref p) _ (E1.trans (E1.rel.ekeep N)) (.inl tset_same)
  · cases e
theorem own_new {ds : List D} {vs : List V} {p : Addr} (g : Good G T H) (hp : H p = none) (h : Reps G T vs ds) (hl : ds.length ≤ sizeLine) : Own G T (upd H p (.lst vs)) p (.lst ds) :=
  ⟨g.free hp, ⟨vs, upd_same, h, hl⟩, by rw [upd_same]; trivial⟩
theorem ok_lst {n : Nat} {t : TA} {a : MA} (h : OkA G n t a) (hn : n ≤ 1000) : OkE G (tLst t) (mLst a) := by
  intro T st σ H r st' rl e Q k
  unfold mLst at e
  split at e
  · rename_i ds s e1
    cases e
    refine h T st σ H ds _ rl e1 _ fun T1 vs H1 E1 R1 l1 => ?_
    have lv := R1.length
    refine ⟨by rw [lv, l1]; exact small_line hn, fun p hp => ?_⟩
    have N := Step.new (R := fun _ => False) E1.rel.good hp (.lst vs)
    refine k _ (.ref p) _ (E1.trans (E1.rel.ekeep N)) (ResN.res (r := .own (.lst ds)) E1 ⟨p, rfl, hp, own_new E1.rel.good hp R1 (by rw [l1]; exact small_line hn)⟩)
  · cases e

/-! ### subscripts, slices -/
theorem ixN_len {n : Nat} {i : Int} {j : Nat} (h : ixN n i = some j) : j < n := (ixN_seq h).2.1
theorem reps_at {vs : List V} {ds : List D} {i : Int} {d : D} (h : Reps G T vs ds) (e : atI ds i = some d) : ∃ v, atI vs i = some v ∧ RepT G T v d := by
  unfold atI at e ⊢
  rw [h.length]
  cases q : ixN ds.length i with
  | none => rw [q] at e; cases e
  | some j =>
    rw [q] at e
    have e' : ds[j]? = some d := e
    clear e q
    show ∃ v, vs[j]? = some v ∧ _
    induction h generalizing j with
    | nil => simp at e'
    | cons a t ih =>
      cases j with
      | zero => simp at e'; subst e'; exact ⟨_, rfl, a⟩
      | succ j => exact ih j (by simpa using e')
def dIx : D → D → Option R
  | .lst xs, .int i => match atI xs i with | some d => some (.imm d) | none => none
  | .tup xs, .int i => match atI xs i with | some d => some (.imm d) | none => none
  | _, _ => none
theorem ok_ix : OkR2 G (rIx G.K) dIx := by
  intro T H x y dx dy res gd sx sy e Q k
  unfold dIx at e
  split at e
  · rename_i xs i
    split at e
    · rename_i d ed
      cases e
      obtain ⟨a, vs, rfl, q, _, r, _⟩ := sx.lst gd
      obtain ⟨v, h1, h2⟩ := reps_at r ed
      exact .inl ⟨a, vs, i, v, rfl, sy.int gd, q, h1, one gd k h2⟩
    · cases e
  · rename_i xs i
    split at e
    · rename_i d ed
      cases e
      obtain ⟨a, vs, rfl, q, _, r, _⟩ := sx.tup gd
      obtain ⟨v, h1, h2⟩ := reps_at r ed
      exact .inr (.inl ⟨a, vs, i, v, rfl, sy.int gd, q, h1, one gd k h2⟩)
    · cases e
  · cases e

/-- a slice's part -/
abbrev MO := DSt → Option (Option Int × DSt)
def OkO (G : Gm) (t : TO) (m : MO) : Prop := ∀ (T : Ty) (st : DSt) (σ : L2.St) (H : Hp) (o : Option Int) (st' : DSt), Rel G T st σ H → m st = some (o, st') →
  ∀ Q : Option Int → Hp → Prop, (∀ T' H', EStep G T st σ H T' st' H' → Q o H') → t σ H Q
def oNone : MO := fun st => some (none, st)
def oSome (a : M) : MO := fun st => match a st with
  | some (.imm (.int i), s) => some (some i, s)
  | _ => none
theorem ok_onone : OkO G tNoPart oNone := by
  intro T st σ H o st' rl e Q k
  cases e
  exact k T H (EStep.refl rl)
theorem ok_osome {t : TE} {a : M} (h : OkE G t a) : OkO G (tPart t) (oSome a) := by
  intro T st σ H o st' rl e Q k
  unfold oSome at e
  split at e
  · rename_i i s e1
    cases e
    exact h T st σ H _ st' rl e1 _ fun T1 v1 H1 E1 R1 => ⟨i, (Sees.of_rep (H := H1) R1).int E1.rel.good, k T1 H1 E1⟩
  · cases e
/-- the items of xs[lo:hi] -/
def cutD (xs : List D) (lo hi : Option Int) : List D := (xs.drop (HT.sIx xs.length 0 lo)).take (HT.sIx xs.length xs.length hi - HT.sIx xs.length 0 lo)
theorem reps_drop {vs : List V} {ds : List D} (h : Reps G T vs ds) : ∀ n : Nat, Reps G T (vs.drop n) (ds.drop n) := by
  induction h with
  | nil => intro n; simp; exact .nil
  | cons a t ih => intro n; cases n with
    | zero => exact .cons a t
    | succ n => exact ih n
theorem reps_take {vs : List V} {ds : List D} (h : Reps G T vs ds) : ∀ n : Nat, Reps G T (vs.take n) (ds.take n) := by
  induction h with
  | nil => intro n; simp; exact .nil
  | cons a t ih => intro n; cases n with
    | zero => exact .nil
    | succ n => exact .cons a (ih n)
theorem reps_cut {vs : List V} {ds : List D} (h : Reps G T vs ds) (lo hi : Option Int) : Reps G T (cutV vs lo hi) (cutD ds lo hi) := by
  unfold cutV cutD
  rw [h.length]
  exact reps_take (reps_drop h _) _
theorem cutD_len (xs : List D) (lo hi : Option Int) : (cutD xs lo hi).length ≤ xs.length := by
  unfold cutD
  rw [List.length_take, List.length_drop]
  omega
/-- a list or a tuple, cut -/
def dSl (x : D) (lo hi : Option Int) : Option R := match x with
  | .lst xs => some (.own (.lst (cutD xs lo hi)))
  | .tup xs => some (.imm (.tup (cutD xs lo hi)))
  | .scr ns => some (.own (.lst (cutD (ns.map D.int) lo hi)))
  | _ => none
def rSl (K : PySem.W.Frag) : V → Option Int → Option Int → Hp → VK → Prop := fun x lo hi H Q => rSlL K x lo hi H Q ∨ rSlA K x lo hi H Q
theorem cut_whole {α : Type} (xs : List α) (lo hi : Option Int) (h : HT.sIx xs.length 0 lo = 0 ∧ HT.sIx xs.length xs.length hi = xs.length) : (xs.drop (HT.sIx xs.length 0 lo)).take (HT.sIx xs.length xs.length hi - HT.sIx xs.length 0 lo) = xs := by
  rw [h.1, h.2]; simp
def mSl (a : M) (lo hi : MO) : M := fun st => match a st with
  | none => none
  | some (ra, s1) => match lo s1 with
    | none => none
    | some (l, s2) => match hi s2 with
      | none => none
      | some (u, s3) => match cont s3 ra with
        | some x => match dSl x l u with
          | some res => some (res, s3)
          | none => none
        | none => none
theorem ok_sl {ta : TE} {tl th : TO} {a : M} {lo hi : MO} (ha : OkE G ta a) (hl : OkO G tl lo) (hh : OkO G th hi) : OkE G (tSl (rSl G.K) ta tl th) (mSl a lo hi) := by
  intro T st σ H res st' rl e Q k
  unfold mSl at e
  split at e
  · cases e
  · rename_i ra s1 e1
    split at e
    · cases e
    · rename_i l s2 e2
      split at e
      · cases e
      · rename_i u s3 e3
        split at e
        · rename_i x cx
          split at e
          · rename_i w ew
            cases e
            refine ha T st σ H ra s1 rl e1 _ fun T1 v1 H1 E1 R1 => ?_
            refine hl T1 s1 σ H1 l s2 E1.rel e2 _ fun T2 H2 E2 => ?_
            refine hh T2 s2 σ H2 u _ E2.rel e3 _ fun T3 H3 E3 => ?_
            have E23 := E2.trans E3
            have E := E1.trans E23
            have S := sees_of E.rel (R1.pass rl E1 E23) cx
            have gd := E.rel.good
            unfold dSl at ew
            split at ew
            · rename_i xs
              cases ew
              obtain ⟨b, vs, rfl, q, _, r, z⟩ := S.lst gd
              refine .inl ⟨b, vs, rfl, q, fun p hp => ?_⟩
              have N := Step.new (R := fun _ => False) gd hp (.lst (cutV vs l u))
              exact k _ (.ref p) _ (E.trans (E.rel.ekeep N)) (ResN.res (r := .own (.lst (cutD xs l u))) E ⟨p, rfl, hp, own_new gd hp (reps_cut r l u) (Nat.le_trans (cutD_len _ _ _) z)⟩)
            · rename_i xs
              cases ew
              obtain ⟨b, vs, rfl, q, rd, r, z⟩ := S.tup gd
              refine .inr ⟨b, vs, rfl, q, fun hw => ?_, fun _ p hp => ?_⟩
              · have hx : cutD xs l u = xs := cut_whole xs l u (by rw [r.length] at hw; exact hw)
                refine k T3 _ H3 E ?_
                show RepT G T3 (V.ref b) (.tup (cutD xs l u))
                rw [hx]
                exact S.tupT
              · have N := Step.lay (R := fun _ => False) gd hp (.tup (cutV vs l u)) (d := .tup (cutD xs l u)) ⟨_, upd_same, (reps_cut r l u).mono (Sub.tset (gd.free hp)), Nat.le_trans (cutD_len _ _ _) z⟩
                exact k _ (.ref p) _ (E.trans (E.rel.ekeep N)) (.inl tset_same)
            · rename_i ns
              cases ew
              obtain ⟨b, rfl, q, z⟩ := S.scr gd
              have r := reps_ints (G := G) (T := T3) ns
              refine .inl ⟨b, ns.map V.int, rfl, q, fun p hp => ?_⟩
              have N := Step.new (R := fun _ => False) gd hp (.lst (cutV (ns.map V.int) l u))
              exact k _ (.ref p) _ (E.trans (E.rel.ekeep N)) (ResN.res (r := .own (.lst (cutD (ns.map D.int) l u))) E ⟨p, rfl, hp, own_new gd hp (reps_cut r l u) (Nat.le_trans (cutD_len _ _ _) (by rw [List.length_map]; exact z))⟩)
            · cases ew
          · cases e
        · cases e
end
theorem sl_both {X : Cx} : SlR X (rSl X.K) := SlR.or sl_list sl_tupA
end LD

/-! Layer D: statements. -/
namespace LD
open PySem PySem.Spec PyProof.Rows L2

/-- an own root -/
def RootO (st : DSt) (σ : L2.St) (a : Addr) : Prop := ∃ (i : Nat) (d : D), st[i]? = some (some (.rt true d)) ∧ σ[i]? = some (some (.ref a))
theorem RootO.root {st : DSt} {σ : L2.St} {a : Addr} (h : RootO st σ a) : Root st σ a := let ⟨i, d, h1, h2⟩ := h; ⟨i, true, d, h1, h2⟩
/-- a step of a statement -/
structure SStep (G : Gm) (T : Ty) (st : DSt) (σ : L2.St) (H : Hp) (T' : Ty) (st' : DSt) (σ' : L2.St) (H' : Hp) : Prop where
  rel : Rel G T' st' σ' H'
  step : Step G T H T' H' (Root st σ)
  own : ∀ (i : Nat) d a, st'[i]? = some (some (.rt true d)) → σ'[i]? = some (some (.ref a)) → H a = none ∨ RootO st σ a
  brw : ∀ (i : Nat) d, st'[i]? = some (some (.rt false d)) → (∃ d0, st[i]? = some (some (.rt false d0))) ∧ σ'[i]? = σ[i]?
inductive Fl where
  | nx | ret (r : R) | bk | ct
abbrev MS := DSt → Option (Fl × DSt)
/-- what is wanted of a flow -/
def Wish (G : Gm) (T : Ty) (st : DSt) (σ : L2.St) (H : Hp) (D : Ends) (st' : DSt) : Fl → Prop
  | .nx => ∀ T' σ' H', SStep G T st σ H T' st' σ' H' → D.nx σ' H'
  | .bk => ∀ T' σ' H', SStep G T st σ H T' st' σ' H' → D.bk σ' H'
  | .ct => ∀ T' σ' H', SStep G T st σ H T' st' σ' H' → D.ct σ' H'
  | .ret r => ∀ T' σ' H' v, SStep G T st σ H T' st' σ' H' → ResOk G T' st' σ' H H' v r → D.rt v H'
def OkS (G : Gm) (t : TS) (m : MS) : Prop := ∀ (T : Ty) (st : DSt) (σ : L2.St) (H : Hp) (f : Fl) (st' : DSt), Rel G T st σ H → m st = some (f, st') →
  ∀ D : Ends, Wish G T st σ H D st' f → t D σ H

section
variable {G : Gm} {T T1 T2 : Ty} {st st1 st2 : DSt} {σ σ1 σ2 : L2.St} {H H1 H2 : Hp} {v : V} {d : D} {r : R}
theorem SStep.root (s : SStep G T st σ H T1 st1 σ1 H1) {a : Addr} (h : Root st1 σ1 a) : Root st σ a ∨ H a = none := by
  obtain ⟨i, k, d, h1, h2⟩ := h
  cases k with
  | true =>
    rcases s.own i d a h1 h2 with z | z
    · exact .inr z
    · exact .inl z.root
  | false =>
    obtain ⟨⟨d0, h3⟩, h4⟩ := s.brw i d h1
    exact .inl ⟨i, false, d0, h3, h4.symm.trans h2⟩
theorem SStep.refl (rl : Rel G T st σ H) : SStep G T st σ H T st σ H :=
  ⟨rl, Step.refl rl.good, fun i d a h1 h2 => .inr ⟨i, d, h1, h2⟩, fun i d h => ⟨⟨d, h⟩, rfl⟩⟩
theorem none_of {a : Addr} (dm : ∀ a, H a ≠ none → H1 a ≠ none) (h : H1 a = none) : H a = none := by
  cases q : H a with
  | none => rfl
  | some u => exact absurd h (dm a (by rw [q]; exact fun z => nomatch z))
theorem SStep.trans (a : SStep G T st σ H T1 st1 σ1 H1) (b : SStep G T1 st1 σ1 H1 T2 st2 σ2 H2) : SStep G T st σ H T2 st2 σ2 H2 := by
  refine ⟨b.rel, a.step.trans b.step fun _ h => a.root h, fun i d x h1 h2 => ?_, fun i d h => ?_⟩
  · rcases b.own i d x h1 h2 with z | ⟨j, e, h3, h4⟩
    · exact .inl (none_of a.step.dom z)
    · exact a.own j e x h3 h4
  · obtain ⟨⟨d1, h1⟩, h2⟩ := b.brw i d h
    obtain ⟨h3, h4⟩ := a.brw i d1 h1
    exact ⟨h3, h2.trans h4⟩
theorem EStep.s (e : EStep G T st σ H T1 st1 H1) : SStep G T st σ H T1 st1 σ H1 :=
  ⟨e.rel, e.step, fun i d a h1 h2 => by obtain ⟨d0, h0⟩ := e.kind i true d h1; exact .inr ⟨i, d0, h0, h2⟩, fun i d h => ⟨e.kind i false d h, rfl⟩⟩
theorem Wish.pre {D : Ends} {f : Fl} (s : SStep G T st σ H T1 st1 σ1 H1) (w : Wish G T st σ H D st2 f) : Wish G T1 st1 σ1 H1 D st2 f := by
  cases f with
  | nx => exact fun T' σ' H' q => w T' σ' H' (s.trans q)
  | bk => exact fun T' σ' H' q => w T' σ' H' (s.trans q)
  | ct => exact fun T' σ' H' q => w T' σ' H' (s.trans q)
  | ret r => exact fun T' σ' H' v q h => w T' σ' H' v (s.trans q) (h.back s.step.dom)

/-! ### blocks -/
def sNx : MS := fun st => some (.nx, st)
def sSeq (a b : MS) : MS := fun st => match a st with
  | some (.nx, s) => b s
  | z => z
theorem ok_nx : OkS G tNext sNx := by
  intro T st σ H f st' rl e D w
  cases e
  exact w T σ H (SStep.refl rl)
theorem ok_seq {t u : TS} {a b : MS} (ha : OkS G t a) (hb : OkS G u b) : OkS G (tSeq t u) (sSeq a b) := by
  intro T st σ H f st' rl e D w
  unfold sSeq at e
  split at e
  · rename_i s e1
    refine ha T st σ H _ s rl e1 _ fun T1 σ1 H1 S1 => ?_
    exact hb T1 s σ1 H1 f st' S1.rel e D (w.pre S1)
  · rename_i z hn
    refine ha T st σ H f st' rl e _ ?_
    cases f with
    | nx => exact absurd e (hn st')
    | bk => exact w
    | ct => exact w
    | ret r => exact w
def sBk : MS := fun st => some (.bk, st)
def sCt : MS := fun st => some (.ct, st)
theorem ok_bk : OkS G tBreak sBk := by
  intro T st σ H f st' rl e D w
  cases e
  exact w T σ H (SStep.refl rl)
theorem ok_ct : OkS G tCont sCt := by
  intro T st σ H f st' rl e D w
  cases e
  exact w T σ H (SStep.refl rl)
/-- code that is never come to -/
def sNo : MS := fun _ => none
theorem ok_no : OkS G tNever sNo := by
  intro T st σ H f st' rl e D w
  cases e
def eNo : M := fun _ => none
def sDrop (a : M) : MS := fun st => match a st with
  | some (_, s) => some (.nx, s)
  | none => none
theorem ok_drop {t : TE} {a : M} (h : OkE G t a) : OkS G (tDrop t) (sDrop a) := by
  intro T st σ H f st' rl e D w
  unfold sDrop at e
  split at e
  · rename_i r s e1
    cases e
    exact h T st σ H _ st' rl e1 _ fun T1 v1 H1 E1 R1 => w T1 σ H1 E1.s
  · cases e
def sRet (a : M) : MS := fun st => match a st with
  | some (r, s) => some (.ret r, s)
  | none => none
theorem ok_ret {t : TE} {a : M} (h : OkE G t a) : OkS G (tRet t) (sRet a) := by
  intro T st σ H f st' rl e D w
  unfold sRet at e
  split at e
  · rename_i r s e1
    cases e
    exact h T st σ H _ st' rl e1 _ fun T1 v1 H1 E1 R1 => w T1 σ H1 v1 E1.s R1
  · cases e
def sRetN : MS := fun st => some (.ret (.imm .non), st)
theorem ok_retN : OkS G tRetN sRetN := by
  intro T st σ H f st' rl e D w
  cases e
  exact w T σ H .non (SStep.refl rl) rfl
def sIf (c : MT) (a b : MS) : MS := fun st => match c st with
  | some (true, s) => a s
  | some (false, s) => b s
  | none => none
theorem ok_if {tc : TT} {t u : TS} {c : MT} {a b : MS} (hc : OkT G tc c) (ha : OkS G t a) (hb : OkS G u b) : OkS G (tIfS tc t u) (sIf c a b) := by
  intro T st σ H f st' rl e D w
  unfold sIf at e
  split at e
  · rename_i s e1
    refine hc T st σ H _ s rl e1 _ fun T1 H1 E1 => ?_
    rw [if_pos rfl]
    exact ha T1 s σ H1 f st' E1.rel e D (w.pre E1.s)
  · rename_i s e1
    refine hc T st σ H _ s rl e1 _ fun T1 H1 E1 => ?_
    rw [if_neg Bool.false_ne_true]
    exact hb T1 s σ H1 f st' E1.rel e D (w.pre E1.s)
  · cases e

/-! ### storing into a slot -/
theorem set_imm {i : Nat} (rl : Rel G T st σ H) (h : RepT G T v d) : SStep G T st σ H T (st.set i (some (.imm d))) (σ.set i (some v)) H := by
  have old : ∀ (j : Nat) (k : Bool) (e : D), (st.set i (some (.imm d)))[j]? = some (some (.rt k e)) → st[j]? = some (some (.rt k e)) ∧ (σ.set i (some v))[j]? = σ[j]? := fun j k e q => by
    by_cases ij : i = j
    · subst ij
      by_cases hi : i < st.length
      · rw [List.getElem?_set_self hi] at q; cases q
      · rw [List.getElem?_eq_none (by rw [List.length_set]; omega)] at q; cases q
    · rw [List.getElem?_set_ne ij] at q
      exact ⟨q, List.getElem?_set_ne ij⟩
  refine ⟨⟨rl.good, by rw [List.length_set, List.length_set]; exact rl.len, fun j e q => ?_, fun j k e q => ?_, fun j j' k k' e e' b q q' p p' => ?_⟩, Step.refl rl.good, fun j e a q q' => ?_, fun j e q => ?_⟩
  · by_cases ij : i = j
    · subst ij
      by_cases hi : i < st.length
      · rw [List.getElem?_set_self hi] at q
        cases q
        exact ⟨v, List.getElem?_set_self (by rw [← rl.len]; exact hi), h⟩
      · rw [List.getElem?_eq_none (by rw [List.length_set]; omega)] at q; cases q
    · rw [List.getElem?_set_ne ij] at q
      rw [List.getElem?_set_ne ij]
      exact rl.imm j e q
  · obtain ⟨q1, q2⟩ := old j k e q
    rw [q2]
    exact rl.rts j k e q1
  · obtain ⟨q1, q2⟩ := old j k e q
    obtain ⟨q3, q4⟩ := old j' k' e' q'
    rw [q2] at p
    rw [q4] at p'
    exact rl.inj j j' k k' e e' b q1 q3 p p'
  · obtain ⟨q1, q2⟩ := old j true e q
    rw [q2] at q'
    exact .inr ⟨j, e, q1, q'⟩
  · obtain ⟨q1, q2⟩ := old j false e q
    exact ⟨⟨e, q1⟩, q2⟩
/-- a new root; H₀: a heap in which it was not there -/
theorem set_own {i : Nat} {a : Addr} (rl : Rel G T st σ H) (o : Own G T H a d) (n : ¬ Root st σ a) :
    Rel G T (st.set i (some (.rt true d))) (σ.set i (some (.ref a))) H ∧
    (∀ (j : Nat) (k : Bool) (e : D), (st.set i (some (.rt true d)))[j]? = some (some (.rt k e)) → (i = j ∧ k = true ∧ (σ.set i (some (V.ref a)))[j]? = some (some (.ref a))) ∨ (st[j]? = some (some (.rt k e)) ∧ (σ.set i (some (V.ref a)))[j]? = σ[j]?)) := by
  have old : ∀ (j : Nat) (k : Bool) (e : D), (st.set i (some (.rt true d)))[j]? = some (some (.rt k e)) → (i = j ∧ (k = true ∧ e = d) ∧ (σ.set i (some (V.ref a)))[j]? = some (some (.ref a))) ∨ (st[j]? = some (some (.rt k e)) ∧ (σ.set i (some (V.ref a)))[j]? = σ[j]?) := fun j k e q => by
    by_cases ij : i = j
    · subst ij
      by_cases hi : i < st.length
      · rw [List.getElem?_set_self hi] at q
        cases q
        exact .inl ⟨rfl, ⟨rfl, rfl⟩, List.getElem?_set_self (by rw [← rl.len]; exact hi)⟩
      · rw [List.getElem?_eq_none (by rw [List.length_set]; omega)] at q; cases q
    · rw [List.getElem?_set_ne ij] at q
      exact .inr ⟨q, List.getElem?_set_ne ij⟩
  refine ⟨⟨rl.good, by rw [List.length_set, List.length_set]; exact rl.len, fun j e q => ?_, fun j k e q => ?_, fun j j' k k' e e' b q q' p p' => ?_⟩, fun j k e q => ?_⟩
  · by_cases ij : i = j
    · subst ij
      by_cases hi : i < st.length
      · rw [List.getElem?_set_self hi] at q; cases q
      · rw [List.getElem?_eq_none (by rw [List.length_set]; omega)] at q; cases q
    · rw [List.getElem?_set_ne ij] at q
      rw [List.getElem?_set_ne ij]
      exact rl.imm j e q
  · rcases old j k e q with ⟨_, ⟨rfl, rfl⟩, q2⟩ | ⟨q1, q2⟩
    · exact ⟨a, q2, o⟩
    · rw [q2]; exact rl.rts j k e q1
  · rcases old j k e q with ⟨rfl, _, q2⟩ | ⟨q1, q2⟩
    · rw [q2] at p; cases p
      rcases old j' k' e' q' with ⟨rfl, _, _⟩ | ⟨q3, q4⟩
      · rfl
      · rw [q4] at p'
        exact (n ⟨j', k', e', q3, p'⟩).elim
    · rw [q2] at p
      rcases old j' k' e' q' with ⟨rfl, _, q4⟩ | ⟨q3, q4⟩
      · rw [q4] at p'; cases p'
        exact (n ⟨j, k, e, q1, p⟩).elim
      · rw [q4] at p'
        exact rl.inj j j' k k' e e' b q1 q3 p p'
  · rcases old j k e q with ⟨h1, h2, h3⟩ | h
    · exact .inl ⟨h1, h2.1, h3⟩
    · exact .inr h
theorem set_own' {i : Nat} {a : Addr} {H₀ : Hp} (E : SStep G T st σ H₀ T1 st1 σ1 H1) (o : Own G T1 H1 a d) (hn : H₀ a = none) (n : ¬ Root st1 σ1 a) : SStep G T st σ H₀ T1 (st1.set i (some (.rt true d))) (σ1.set i (some (.ref a))) H1 := by
  obtain ⟨rl, old⟩ := set_own (i := i) E.rel o n
  refine ⟨rl, E.step, fun j e b q q' => ?_, fun j e q => ?_⟩
  · rcases old j true e q with ⟨_, _, h⟩ | ⟨q1, q2⟩
    · rw [h] at q'; cases q'; exact .inl hn
    · rw [q2] at q'; exact E.own j e b q1 q'
  · rcases old j false e q with ⟨_, h, _⟩ | ⟨q1, q2⟩
    · cases h
    · obtain ⟨h1, h2⟩ := E.brw j e q1
      exact ⟨h1, q2.trans h2⟩
/-- x = e -/
def sSet (i : Nat) (a : M) : MS := fun st => match a st with
  | some (.imm d, s) => some (.nx, s.set i (some (.imm d)))
  | some (.own d, s) => some (.nx, s.set i (some (.rt true d)))
  | some (.slot j, s) => match freezeS s j with
    | some (d, s2) => some (.nx, s2.set i (some (.imm d)))
    | none => none
  | none => none
theorem ok_set {i : Nat} {t : TE} {a : M} (h : OkE G t a) : OkS G (tAsg t (gName i)) (sSet i a) := by
  intro T st σ H f st' rl e D w
  unfold sSet at e
  split at e
  · rename_i d s e1
    cases e
    refine h T st σ H _ s rl e1 _ fun T1 v1 H1 E1 R1 => ?_
    exact w T1 _ H1 (E1.s.trans (set_imm E1.rel R1))
  · rename_i d s e1
    cases e
    refine h T st σ H _ s rl e1 _ fun T1 v1 H1 E1 R1 => ?_
    obtain ⟨a, rfl, hn, o⟩ := R1
    exact w T1 _ H1 (set_own' E1.s o hn fun z => (rl.root_own (E1.root z)).1 hn)
  · rename_i j s e1
    split at e
    · rename_i d s2 e2
      cases e
      refine h T st σ H _ s rl e1 _ fun T1 v1 H1 E1 R1 => ?_
      obtain ⟨T2, E2, R2⟩ := ok_freeze rl E1 R1 (show freeze s (.slot j) = _ from e2)
      exact w T2 _ H1 (E2.s.trans (set_imm E2.rel R2))
    · cases e
  · cases e

/-! ### targets -/
abbrev MG := D → DSt → Option DSt
def OkG (G : Gm) (g : TG) (m : MG) : Prop := ∀ (T : Ty) (st : DSt) (σ : L2.St) (H : Hp) (v : V) (d : D) (st' : DSt), Rel G T st σ H → RepT G T v d → m d st = some st' →
  ∀ Q : L2.St → Hp → Prop, (∀ T' σ' H', SStep G T st σ H T' st' σ' H' → Q σ' H') → g v σ H Q
abbrev MGs := List D → DSt → Option DSt
def OkGs (G : Gm) (g : TGs) (m : MGs) : Prop := ∀ (T : Ty) (st : DSt) (σ : L2.St) (H : Hp) (vs : List V) (ds : List D) (st' : DSt), Rel G T st σ H → Reps G T vs ds → m ds st = some st' →
  ∀ Q : L2.St → Hp → Prop, (∀ T' σ' H', SStep G T st σ H T' st' σ' H' → Q σ' H') → g vs σ H Q
def gN (i : Nat) : MG := fun d st => some (st.set i (some (.imm d)))
def gsN : MGs := fun ds st => match ds with
  | [] => some st
  | _ => none
def gsC (a : MG) (b : MGs) : MGs := fun ds st => match ds with
  | [] => none
  | d :: r => match a d st with
    | none => none
    | some s => b r s
def gT (n : Nat) (b : MGs) : MG := fun d st => match d with
  | .tup ds => if ds.length = n then b ds st else none
  | _ => none
theorem ok_gN {i : Nat} : OkG G (gName i) (gN i) := by
  intro T st σ H v d st' rl r e Q k
  cases e
  exact k T _ H (set_imm rl r)
theorem ok_gsN : OkGs G gNil gsN := by
  intro T st σ H vs ds st' rl r e Q k
  unfold gsN at e
  split at e
  · cases e
    cases r
    exact ⟨rfl, k T σ H (SStep.refl rl)⟩
  · cases e
theorem ok_gsC {g : TG} {gs : TGs} {a : MG} {b : MGs} (ha : OkG G g a) (hb : OkGs G gs b) : OkGs G (gCons g gs) (gsC a b) := by
  intro T st σ H vs ds st' rl r e Q k
  unfold gsC at e
  split at e
  · cases e
  · rename_i d ds'
    split at e
    · cases e
    · rename_i s e1
      cases r with
      | cons r t =>
        refine ⟨_, _, rfl, ha T st σ H _ _ s rl r e1 _ fun T1 σ1 H1 S1 => ?_⟩
        exact hb T1 s σ1 H1 _ _ st' S1.rel (Reps.mono S1.step.sub t) e _ fun T2 σ2 H2 S2 => k T2 σ2 H2 (S1.trans S2)
theorem ok_gT {n : Nat} {gs : TGs} {b : MGs} (hb : OkGs G gs b) : OkG G (gTup G.K n gs) (gT n b) := by
  intro T st σ H v d st' rl r e Q k
  unfold gT at e
  split at e
  · rename_i ds
    split at e
    · rename_i hl
      obtain ⟨a, vs, rfl, q, _, r', _⟩ := (Sees.of_rep (H := H) r).tup rl.good
      exact ⟨a, vs, rfl, q, by rw [r'.length, hl], hb T st σ H vs ds st' rl r' e Q k⟩
    · cases e
  · cases e
/-- a, b = e; any target -/
def sAsg (a : M) (g : MG) : MS := fun st => match a st with
  | none => none
  | some (r, s1) => match freeze s1 r with
    | none => none
    | some (d, s2) => match g d s2 with
      | none => none
      | some s3 => some (.nx, s3)
theorem ok_asg {t : TE} {g : TG} {a : M} {b : MG} (ha : OkE G t a) (hb : OkG G g b) : OkS G (tAsg t g) (sAsg a b) := by
  intro T st σ H f st' rl e D w
  unfold sAsg at e
  split at e
  · cases e
  · rename_i r s1 e1
    split at e
    · cases e
    · rename_i d s2 e2
      split at e
      · cases e
      · rename_i s3 e3
        cases e
        refine ha T st σ H r s1 rl e1 _ fun T1 v1 H1 E1 R1 => ?_
        obtain ⟨T2, E2, R2⟩ := ok_freeze rl E1 R1 e2
        exact hb T2 s2 σ H1 v1 d _ E2.rel R2 e3 _ fun T3 σ3 H3 S3 => w T3 σ3 H3 (E2.s.trans S3)

/-! ### several at once: a, b = x, y -/
/-- slots' values to be -/
def SvOk (G : Gm) (T : Ty) (H₀ H : Hp) (v : V) : SV → Prop
  | .imm d => RepT G T v d
  | .rt k d => k = true ∧ ∃ a, v = .ref a ∧ H₀ a = none ∧ Own G T H a d
def refO : V × SV → Option Addr
  | (.ref a, .rt _ _) => some a
  | _ => none
structure SvsOk (G : Gm) (T : Ty) (H₀ H : Hp) (vs : List V) (svs : List SV) : Prop where
  all : Paired (SvOk G T H₀ H) vs svs
  nd : ((vs.zip svs).filterMap refO).Nodup
abbrev MR := DSt → Option (List SV × DSt)
def OkR (G : Gm) (n : Nat) (t : TA) (m : MR) : Prop := ∀ (T : Ty) (st : DSt) (σ : L2.St) (H : Hp) (svs : List SV) (st' : DSt), Rel G T st σ H → m st = some (svs, st') →
  ∀ Q : List V → Hp → Prop, (∀ T' vs H', EStep G T st σ H T' st' H' → SvsOk G T' H H' vs svs → svs.length = n → Q vs H') → t σ H Q
def rNil : MR := fun st => some ([], st)
def keepR (st : DSt) : R → Option (SV × DSt)
  | .imm d => some (.imm d, st)
  | .own d => some (.rt true d, st)
  | .slot i => match freezeS st i with
    | some (d, s) => some (.imm d, s)
    | none => none
def rCons (a : M) (b : MR) : MR := fun st => match a st with
  | none => none
  | some (r, s1) => match keepR s1 r with
    | none => none
    | some (sv, s2) => match b s2 with
      | none => none
      | some (svs, s3) => some (sv :: svs, s3)
theorem ok_rnil : OkR G 0 tNil rNil := by
  intro T st σ H svs st' rl e Q k
  cases e
  exact k T [] H (EStep.refl rl) ⟨.nil, List.nodup_nil⟩ rfl
theorem refs_fresh {svs : List SV} {vs : List V} {H₀ : Hp} (h : Paired (SvOk G T H₀ H) vs svs) : ∀ a ∈ (vs.zip svs).filterMap refO, H₀ a = none := by
  induction h with
  | nil => intro a ha; simp at ha
  | @cons v sv vs' svs' h t ih =>
    intro a ha
    rw [List.zip_cons_cons, List.filterMap_cons] at ha
    cases sv with
    | imm d =>
      have e : refO (v, SV.imm d) = none := by cases v <;> rfl
      rw [e] at ha
      exact ih a ha
    | rt k d =>
      obtain ⟨_, b, rfl, hn, _⟩ := h
      rcases List.mem_cons.mp ha with e | ha
      · rw [e]; exact hn
      · exact ih a ha
theorem ok_rcons {n : Nat} {ta : TE} {tb : TA} {a : M} {b : MR} (ha : OkE G ta a) (hb : OkR G n tb b) : OkR G (n + 1) (tCons ta tb) (rCons a b) := by
  intro T st σ H svs st' rl e Q k
  unfold rCons at e
  split at e
  · cases e
  · rename_i r s1 e1
    split at e
    · cases e
    · rename_i sv s2 e2
      split at e
      · cases e
      · rename_i rest s3 e3
        cases e
        refine ha T st σ H r s1 rl e1 _ fun T1 v1 H1 E1 R1 => ?_
        have mid : ∃ T2, EStep G T st σ H T2 s2 H1 ∧ SvOk G T2 H H1 v1 sv := by
          cases r with
          | imm d => cases e2; exact ⟨T1, E1, R1⟩
          | own d =>
            cases e2
            obtain ⟨x, h1, h2, h3⟩ := R1
            exact ⟨T1, E1, rfl, x, h1, h2, h3⟩
          | slot i =>
            unfold keepR at e2
            dsimp only at e2
            split at e2
            · rename_i d s hf
              cases e2
              obtain ⟨T2, E2, R2⟩ := ok_freeze rl E1 R1 (show freeze s1 (.slot i) = _ from hf)
              exact ⟨T2, E2, R2⟩
            · cases e2
        obtain ⟨T2, E2, O2⟩ := mid
        refine hb T2 s2 σ H1 rest _ E2.rel e3 _ fun T3 vs H3 E3 R3 hl => ?_
        have O3 : SvOk G T3 H H3 v1 sv := by
          cases sv with
          | imm d => exact RepT.mono E3.step.sub O2
          | rt kk d =>
            obtain ⟨hk, x, h1, h2, h3⟩ := O2
            exact ⟨hk, x, h1, h2, h3.step E3.step fun z => (rl.root_own (E2.root z)).1 h2⟩
        have R3' : Paired (SvOk G T3 H H3) vs rest := Paired.mapP R3.all fun v sv q => by
          cases sv with
          | imm d => exact q
          | rt kk d =>
            obtain ⟨hk, x, h1, h2, h3⟩ := q
            exact ⟨hk, x, h1, none_of E2.step.dom h2, h3⟩
        refine k T3 (v1 :: vs) H3 (E2.trans E3) ⟨.cons O3 R3', ?_⟩ (by rw [List.length_cons, hl])
        rw [List.zip_cons_cons, List.filterMap_cons]
        cases sv with
        | imm d =>
          have e : refO (v1, SV.imm d) = none := by cases v1 <;> rfl
          rw [e]; exact R3.nd
        | rt kk d =>
          obtain ⟨_, x, rfl, h2, h3⟩ := O2
          refine List.nodup_cons.mpr ⟨fun hm => ?_, R3.nd⟩
          exact h3.sh.some (refs_fresh R3.all x hm)
/-- the slots is take the values svs -/
def setAll : List Nat → List SV → DSt → DSt
  | i :: is, sv :: svs, st => setAll is svs (st.set i (some sv))
  | _, _, st => st
def setV : List Nat → List V → L2.St → L2.St
  | i :: is, v :: vs, σ => setV is vs (σ.set i (some v))
  | _, _, σ => σ
theorem set_all {H₀ : Hp} : ∀ {vs : List V} {svs : List SV} (is : List Nat) {st1 : DSt} {σ1 : L2.St}, SStep G T st σ H₀ T1 st1 σ1 H1 → SvsOk G T1 H₀ H1 vs svs → (∀ a ∈ (vs.zip svs).filterMap refO, ¬ Root st1 σ1 a) →
    SStep G T st σ H₀ T1 (setAll is svs st1) (setV is vs σ1) H1
  | _, _, is, st1, σ1, S, ⟨.nil, _⟩, _ => by cases is <;> exact S
  | _, _, [], st1, σ1, S, ⟨.cons _ _, _⟩, _ => S
  | v :: vs, sv :: svs, i :: is, st1, σ1, S, ⟨.cons h t, nd⟩, nr => by
    show SStep G T st σ H₀ T1 (setAll is svs (st1.set i (some sv))) (setV is vs (σ1.set i (some v))) H1
    rw [List.zip_cons_cons, List.filterMap_cons] at nd nr
    cases sv with
    | imm d =>
      have e : refO (v, SV.imm d) = none := by cases v <;> rfl
      rw [e] at nd nr
      have S2 := set_imm (i := i) S.rel (show RepT G T1 v d from h)
      refine set_all is (S.trans S2) ⟨t, nd⟩ fun a ha z => ?_
      obtain ⟨j, k, e, q, q'⟩ := z
      cases k with
      | true =>
        rcases S2.own j e a q q' with z | z
        · have hr : Root st1 σ1 a := by
            by_cases ij : i = j
            · subst ij
              by_cases hi : i < st1.length
              · rw [List.getElem?_set_self hi] at q; cases q
              · rw [List.getElem?_eq_none (by rw [List.length_set]; omega)] at q; cases q
            · rw [List.getElem?_set_ne ij] at q q'
              exact ⟨j, true, e, q, q'⟩
          exact (S.rel.root_own hr).1 z
        · exact nr a ha z.root
      | false =>
        obtain ⟨⟨d0, h3⟩, h4⟩ := S2.brw j e q
        exact nr a ha ⟨j, false, d0, h3, h4.symm.trans q'⟩
    | rt k d =>
      obtain ⟨rfl, a, rfl, hn, o⟩ := h
      have nd : (a :: (vs.zip svs).filterMap refO).Nodup := nd
      have nr : ∀ b ∈ a :: (vs.zip svs).filterMap refO, ¬ Root st1 σ1 b := nr
      obtain ⟨nd1, nd2⟩ := List.nodup_cons.mp nd
      refine set_all is (set_own' S o hn (nr a List.mem_cons_self)) ⟨t, nd2⟩ fun b hb z => ?_
      obtain ⟨_, old⟩ := set_own (i := i) S.rel o (nr a List.mem_cons_self)
      obtain ⟨j, k, e, q, q'⟩ := z
      rcases old j k e q with ⟨_, _, h⟩ | ⟨q1, q2⟩
      · rw [h] at q'; cases q'; exact nd1 hb
      · rw [q2] at q'; exact nr b (List.mem_cons_of_mem _ hb) ⟨j, k, e, q1, q'⟩
def sPar (is : List Nat) (a : MR) : MS := fun st => match a st with
  | none => none
  | some (svs, s) => some (.nx, setAll is svs s)
theorem par_core {n : Nat} {is : List Nat} {ta : TA} {a : MR} (ha : OkR G n ta a) (rl : Rel G T st σ H) {f : Fl} {st' : DSt} (e : sPar is a st = some (f, st')) {D : Ends} (w : Wish G T st σ H D st' f) {K : List V → Hp → Prop}
    (h : ∀ vs H1, vs.length = n → (∀ p, H1 p = none → ∀ o, D.nx (setV is vs σ) (upd H1 p o)) → D.nx (setV is vs σ) H1 → K vs H1) : ta σ H K := by
  unfold sPar at e
  split at e
  · cases e
  · rename_i svs s e1
    cases e
    refine ha T st σ H svs s rl e1 _ fun T1 vs H1 E1 R1 hl => ?_
    have nr : ∀ x ∈ (vs.zip svs).filterMap refO, ¬ Root s σ x := fun x hx z => (rl.root_own (E1.root z)).1 (refs_fresh R1.all x hx)
    have S := set_all is E1.s R1 nr
    refine h vs H1 (by rw [R1.all.length, hl]) (fun p hp o => ?_) (w T1 _ H1 S)
    exact w T1 _ _ (S.trans (S.rel.ekeep (Step.new S.rel.good hp o)).s)
theorem ok_par2 {i j : Nat} {ta : TA} {a : MR} (ha : OkR G 2 ta a) : OkS G (tPar i j ta) (sPar [i, j] a) := by
  intro T st σ H f st' rl e D w
  refine par_core ha rl e w fun vs H1 hl _ h => ?_
  match vs, hl with
  | [x, y], _ => exact ⟨x, y, rfl, h⟩
theorem ok_par3 {i j l : Nat} {ta : TA} {a : MR} (ha : OkR G 3 ta a) : OkS G (tPar3 i j l ta) (sPar [i, j, l] a) := by
  intro T st σ H f st' rl e D w
  refine par_core ha rl e w fun vs H1 hl _ h => ?_
  match vs, hl with
  | [x, y, z], _ => exact ⟨x, y, z, rfl, h⟩
/-- .. where the tuple is made and taken apart -/
theorem ok_parT {is : List Nat} {n : Nat} {K : PySem.W.Frag} {ta : TA} {gs : TGs} {a : MR} (ha : OkR G n ta a) (hn : n ≤ 1000) (hg : ∀ (vs : List V) (σ : L2.St) (H : Hp) (Q : L2.St → Hp → Prop), vs.length = n → Q (setV is vs σ) H → gs vs σ H Q) :
    OkS G (tAsg (tTup ta) (gTup K n gs)) (sPar is a) := by
  intro T st σ H f st' rl e D w
  refine par_core ha rl e w fun vs H1 hl h2 _ => ⟨by rw [hl]; exact small_line hn, fun p hp => ?_⟩
  refine ⟨p, vs, rfl, .of upd_same, hl, hg vs σ _ _ hl (h2 p hp _)⟩
theorem gs_names : ∀ (vs : List V) (σ : L2.St) (H : Hp) (Q : L2.St → Hp → Prop), vs.length = 0 → Q (setV [] vs σ) H → gNil vs σ H Q
  | [], _, _, _, _, h => ⟨rfl, h⟩
theorem gs_namesC {i : Nat} {is : List Nat} {n : Nat} {gs : TGs} (h : ∀ (vs : List V) (σ : L2.St) (H : Hp) (Q : L2.St → Hp → Prop), vs.length = n → Q (setV is vs σ) H → gs vs σ H Q) :
    ∀ (vs : List V) (σ : L2.St) (H : Hp) (Q : L2.St → Hp → Prop), vs.length = n + 1 → Q (setV (i :: is) vs σ) H → gCons (gName i) gs vs σ H Q
  | v :: vs, σ, H, Q, e, q => ⟨v, vs, rfl, h vs _ H Q (by simpa using e) q⟩
end
end LD

/-! Layer D: what is walked, for, while, comprehensions. -/
namespace LD
open PySem PySem.Spec PyProof.Rows L2

/-- the iterator J yields the items xs, whatever is made meanwhile -/
def Serves (G : Gm) (J : It) (T : Ty) (xs : List D) : Prop := ∀ (T1 : Ty) (H1 : Hp), Sub T T1 → Good G T1 H1 → ∀ i : Nat, (xs.length ≤ i → J.stop i H1) ∧
  ∀ d, xs[i]? = some d → J.go i H1 ∧ ∀ x H2, J.yld i H1 x H2 → ∃ T2, NStep G T1 H1 T2 H2 ∧ RepT G T2 x d
abbrev MI := DSt → Option (List D × DSt)
def OkI (G : Gm) (wi : TI) (mi : MI) : Prop := ∀ (T : Ty) (st : DSt) (σ : L2.St) (H : Hp) (xs : List D) (st' : DSt), Rel G T st σ H → mi st = some (xs, st') →
  ∀ Rr : It → Hp → Prop, (∀ T' J H', EStep G T st σ H T' st' H' → Serves G J T' xs → xs.length ≤ sizeLine → Rr J H') → wi σ H Rr

section
variable {G : Gm} {T T1 T2 : Ty} {st st1 st2 : DSt} {σ σ1 σ2 : L2.St} {H H1 H2 : Hp} {v : V} {d : D} {r : R}

theorem reps_ix {vs : List V} {ds : List D} {i : Nat} {d : D} (h : Reps G T vs ds) (e : ds[i]? = some d) : ∃ v, vs[i]? = some v ∧ RepT G T v d := by
  induction h generalizing i with
  | nil => simp at e
  | cons a t ih =>
    cases i with
    | zero => simp at e; subst e; exact ⟨_, rfl, a⟩
    | succ j => exact ih (by simpa using e)
theorem serves_list {a : Addr} {ds : List D} (h : T a = some (.lst ds)) : Serves G (Itl G.K a) T ds := by
  intro T1 H1 s g i
  obtain ⟨vs, hv, r, z⟩ := g a _ (s a _ h)
  refine ⟨fun hi => ⟨vs, .of hv, by rw [r.length]; exact hi⟩, fun d e => ?_⟩
  obtain ⟨v, ev, rv⟩ := reps_ix r e
  refine ⟨⟨vs, v, .of hv, ev⟩, fun x H2 ⟨e1, e2⟩ => ⟨T1, by rw [e1]; exact Step.refl g, ?_⟩⟩
  have := e2 vs (.of hv)
  rw [ev] at this; cases this
  exact rv
theorem serves_tup {a : Addr} {ds : List D} (h : T a = some (.tup ds)) : Serves G (Itt G.K a) T ds := by
  intro T1 H1 s g i
  obtain ⟨vs, hv, r, z⟩ := g a _ (s a _ h)
  refine ⟨fun hi => ⟨vs, .of hv, by rw [r.length]; exact hi⟩, fun d e => ?_⟩
  obtain ⟨v, ev, rv⟩ := reps_ix r e
  refine ⟨⟨vs, v, .of hv, ev⟩, fun x H2 ⟨e1, e2⟩ => ⟨T1, by rw [e1]; exact Step.refl g, ?_⟩⟩
  have := e2 vs (.of hv)
  rw [ev] at this; cases this
  exact rv
/-- a list or a tuple -/
def iSeq (K : PySem.W.Frag) (tl : TE) : TI := fun σ H Rr => tl σ H fun x H1 => ∃ a, x = .ref a ∧ (((∃ xs, SqL K H1 a xs) ∧ Rr (Itl K a) H1) ∨ ((∃ xs, SqT K H1 a xs) ∧ Rr (Itt K a) H1))
theorem pi_seq {X : Cx} {tg l : Expr} {tl : TE} (hl : PE X l tl) : PI X tg l (iSeq X.K tl) := by
  refine ⟨fun pins s σ H R I h => ?_⟩
  refine thn (hl.run pins s σ H _ I h) fun v s1 ⟨x, H1, I1, r1, q1⟩ => ?_
  obtain ⟨a, e, q⟩ := q1
  subst e
  cases r1
  rcases q with ⟨⟨xs, hq⟩, q⟩ | ⟨⟨xs, hq⟩, q⟩
  · obtain ⟨its, rv, p, hz⟩ := I1.list hq
    refine wpAny_pyIter_list p.isList ?_
    refine ⟨s1.heap.objs.size, [s1.heap.objs.size], _, _, H1, rfl, I1.kept (t' := s1.toks) fun b o e => Heap.get?_push_of_some _ e, turn_list a _, ⟨_, Heap.get?_push_size _ rfl, rfl, rfl⟩, fun b hb => ?_, q⟩
    have e : b = s1.heap.objs.size := by simpa using hb
    subst e
    exact I1.fpOk (Nat.le_refl _) (I1.hok.fresh (Nat.le_refl _))
  · obtain ⟨its, rv, p, hz⟩ := I1.tuple hq
    refine wpAny_pyIter_tuple (show s1.heap.IsTuple a its.toArray from p) ?_
    refine ⟨s1.heap.objs.size, [s1.heap.objs.size], _, _, H1, rfl, I1.kept (t' := s1.toks) fun b o e => Heap.get?_push_of_some _ e, turn_tuple a _, ⟨_, Heap.get?_push_size _ rfl, rfl, rfl⟩, fun b hb => ?_, q⟩
    have e : b = s1.heap.objs.size := by simpa using hb
    subst e
    exact I1.fpOk (Nat.le_refl _) (I1.hok.fresh (Nat.le_refl _))
def wSeq (a : M) : MI := fun st => match a st with
  | none => none
  | some (r, s) => match freeze s r with
    | some (.lst ds, s2) => some (ds, s2)
    | some (.tup ds, s2) => some (ds, s2)
    | _ => none
theorem rep_heap (g : Good G T H) {d : D} (h : RepT G T v d) (n : scaV d = none) (n2 : ∀ ns, d ≠ .scr ns) : ∃ a, v = .ref a ∧ T a = some d := by
  cases v with
  | ref a =>
    rcases h with h | ⟨ns, h, k⟩
    · exact ⟨a, rfl, h⟩
    · exact (n2 ns h).elim
  | non => cases (show d = .non from h); cases n
  | bl b => cases (show d = .bl b from h); cases n
  | int i => cases (show d = .int i from h); cases n
  | str x => cases (show d = .str x from h); cases n
  | _ => exact (show False from h).elim
theorem ok_wSeq {t : TE} {a : M} (ha : OkE G t a) : OkI G (iSeq G.K t) (wSeq a) := by
  intro T st σ H xs st' rl e Rr k
  unfold wSeq at e
  split at e
  · cases e
  · rename_i r s e1
    split at e
    · rename_i ds s2 e2
      cases e
      refine ha T st σ H r s rl e1 _ fun T1 v1 H1 E1 R1 => ?_
      obtain ⟨T2, E2, R2⟩ := ok_freeze rl E1 R1 e2
      obtain ⟨a, rfl, ha⟩ := rep_heap E2.rel.good R2 rfl (fun _ => nofun)
      obtain ⟨vs, hv, r', z⟩ := E2.rel.good a _ ha
      exact ⟨a, rfl, .inl ⟨⟨vs, .of hv⟩, k T2 _ H1 E2 (serves_list ha) z⟩⟩
    · rename_i ds s2 e2
      cases e
      refine ha T st σ H r s rl e1 _ fun T1 v1 H1 E1 R1 => ?_
      obtain ⟨T2, E2, R2⟩ := ok_freeze rl E1 R1 e2
      obtain ⟨a, rfl, ha⟩ := rep_heap E2.rel.good R2 rfl (fun _ => nofun)
      obtain ⟨vs, hv, r', z⟩ := E2.rel.good a _ ha
      exact ⟨a, rfl, .inr ⟨⟨vs, .of hv⟩, k T2 _ H1 E2 (serves_tup ha) z⟩⟩
    · cases e
/-- ints from lo on -/
def intsD (lo : Int) (n : Nat) : List D := (List.range n).map fun (k : Nat) => D.int (lo + (k : Int))
theorem intsD_len (lo : Int) (n : Nat) : (intsD lo n).length = n := by simp [intsD]
theorem serves_range (lo : Int) (n : Nat) : Serves G (Itr lo n) T (intsD lo n) := by
  intro T1 H1 s g i
  refine ⟨fun hi => by rw [intsD_len] at hi; exact hi, fun d e => ?_⟩
  have hi : i < n := by
    have := (List.getElem?_eq_some_iff.mp e).1
    rwa [intsD_len] at this
  refine ⟨hi, fun x H2 ⟨e1, e2⟩ => ⟨T1, by rw [e1]; exact Step.refl g, ?_⟩⟩
  have q : (intsD lo n)[i]? = some (.int (lo + (i : Int))) := by simp [intsD, hi]
  rw [q] at e; cases e
  rw [e2]
  rfl
def smallI (j : Int) : Prop := -16777216 ≤ j ∧ j ≤ 16777216
instance (j : Int) : Decidable (smallI j) := by unfold smallI; infer_instance
def wRng1 (a : MA) : MI := fun st => match a st with
  | some ([.int j], s) => if smallI j then some (intsD 0 j.toNat, s) else none
  | _ => none
def wRng2 (a : MA) : MI := fun st => match a st with
  | some ([.int i, .int j], s) => if smallI i ∧ smallI j ∧ smallI (j - i) then some (intsD i (j - i).toNat, s) else none
  | _ => none
theorem line_eq : sizeLine = 16777216 := sizeLine_eq
theorem ok_wRng1 {n : Nat} {t : TA} {a : MA} (ha : OkA G n t a) : OkI G (iRng1 t) (wRng1 a) := by
  intro T st σ H xs st' rl e Rr k
  unfold wRng1 at e
  split at e
  · rename_i j s e1
    split at e
    · rename_i hj
      cases e
      refine ha T st σ H _ _ rl e1 _ fun T1 vs H1 E1 R1 hl => ?_
      cases R1 with
      | cons r t =>
        cases t
        have hv := (Sees.of_rep (H := H1) r).int E1.rel.good
        subst hv
        obtain ⟨h1, h2⟩ := hj
        exact ⟨j, rfl, by omega, by omega, k T1 _ H1 E1 (serves_range 0 _) (by rw [intsD_len]; have := line_eq; omega)⟩
    · cases e
  · cases e
theorem ok_wRng2 {n : Nat} {t : TA} {a : MA} (ha : OkA G n t a) : OkI G (iRng2 t) (wRng2 a) := by
  intro T st σ H xs st' rl e Rr k
  unfold wRng2 at e
  split at e
  · rename_i i j s e1
    split at e
    · rename_i hj
      cases e
      refine ha T st σ H _ _ rl e1 _ fun T1 vs H1 E1 R1 hl => ?_
      cases R1 with
      | cons r t =>
        cases t with
        | cons r' t =>
          cases t
          have hv := (Sees.of_rep (H := H1) r).int E1.rel.good
          have hv' := (Sees.of_rep (H := H1) r').int E1.rel.good
          subst hv; subst hv'
          obtain ⟨⟨h1, h2⟩, ⟨h3, h4⟩, h5, h6⟩ := hj
          exact ⟨i, j, rfl, ⟨by omega, by omega, by omega, by omega⟩, k T1 _ H1 E1 (serves_range i _) (by rw [intsD_len]; have := line_eq; omega)⟩
    · cases e
  · cases e
/-- zip of two lists, of two tuples -/
def pairD : D × D → D := fun p => .tup [p.1, p.2]
theorem zip_stop {α β : Type} (xs : List α) (ys : List β) (i : Nat) (h : (xs.zip ys).length ≤ i) : xs.length ≤ i ∨ ys.length ≤ i := by
  rw [List.length_zip] at h; omega
theorem serves_pair {J : It} {ps : List (D × D)} (h : ∀ (T1 : Ty) (H1 : Hp), Sub T T1 → Good G T1 H1 → ∀ i : Nat, (ps.length ≤ i → J.stop i H1) ∧ ∀ p, ps[i]? = some p → J.go i H1 ∧
    ∀ x H2, J.yld i H1 x H2 → ∃ t u w, x = .ref t ∧ H1 t = none ∧ H2 = upd H1 t (.tup [u, w]) ∧ RepT G T1 u p.1 ∧ RepT G T1 w p.2) : Serves G J T (ps.map pairD) := by
  intro T1 H1 s g i
  obtain ⟨h1, h2⟩ := h T1 H1 s g i
  refine ⟨fun hi => h1 (by rw [List.length_map] at hi; exact hi), fun d e => ?_⟩
  rw [List.getElem?_map] at e
  cases q : ps[i]? with
  | none => rw [q] at e; cases e
  | some p =>
    rw [q] at e
    cases e
    obtain ⟨h3, h4⟩ := h2 p q
    refine ⟨h3, fun x H2 y => ?_⟩
    obtain ⟨t, u, w, rfl, hn, rfl, r1, r2⟩ := h4 x H2 y
    have s2 := Sub.tset (d := pairD p) (g.free hn)
    refine ⟨tset T1 t (pairD p), Step.lay g hn _ ⟨[u, w], upd_same, .cons (r1.mono s2) (.cons (r2.mono s2) .nil), by show 2 ≤ sizeLine; decide⟩, .inl tset_same⟩
theorem zip_at {α β : Type} {xs : List α} {ys : List β} {i : Nat} {p : α × β} (h : (xs.zip ys)[i]? = some p) : xs[i]? = some p.1 ∧ ys[i]? = some p.2 := by
  rw [List.getElem?_zip_eq_some] at h
  exact h
def wZip (a : MA) : MI := fun st => match a st with
  | some ([.lst xs, .lst ys], s) => some ((xs.zip ys).map pairD, s)
  | some ([.tup xs, .tup ys], s) => some ((xs.zip ys).map pairD, s)
  | _ => none
theorem ok_wZip {n : Nat} {t : TA} {a : MA} (ha : OkA G n t a) : OkI G (RZ.iZipA G.K t) (wZip a) := by
  intro T st σ H xs st' rl e Rr k
  unfold wZip at e
  split at e
  · rename_i xs ys s e1
    cases e
    refine ha T st σ H _ _ rl e1 _ fun T1 vs H1 E1 R1 hl => ?_
    cases R1 with
    | cons r t =>
      cases t with
      | cons r' t =>
        cases t
        obtain ⟨a, rfl, ha⟩ := rep_heap E1.rel.good r rfl (fun _ => nofun)
        obtain ⟨b, rfl, hb⟩ := rep_heap E1.rel.good r' rfl (fun _ => nofun)
        obtain ⟨vs, hv, rv, zv⟩ := E1.rel.good a _ ha
        obtain ⟨ws, hw, rw', zw⟩ := E1.rel.good b _ hb
        refine ⟨a, b, vs, ws, rfl, .inl ⟨.of hv, .of hw, k T1 _ H1 E1 (serves_pair fun T2 H2 s2 g2 i => ?_) (by rw [List.length_map, List.length_zip]; omega)⟩⟩
        obtain ⟨vs, hv, rv, zv⟩ := g2 a _ (s2 a _ ha)
        obtain ⟨ws, hw, rw', zw⟩ := g2 b _ (s2 b _ hb)
        refine ⟨fun hi => ⟨vs, ws, .of hv, .of hw, by rw [rv.length, rw'.length]; exact zip_stop xs ys i hi⟩, fun p e => ?_⟩
        obtain ⟨e1, e2⟩ := zip_at e
        obtain ⟨x, h1, h2⟩ := reps_ix rv e1
        obtain ⟨y, h3, h4⟩ := reps_ix rw' e2
        refine ⟨⟨vs, ws, x, y, .of hv, .of hw, h1, h3⟩, fun z H3 ⟨t, x', y', q1, q2, q3, q4, q5⟩ => ⟨t, x', y', q1, q2, q3, ?_, ?_⟩⟩
        · have := q4 vs (.of hv); rw [h1] at this; cases this; exact h2
        · have := q5 ws (.of hw); rw [h3] at this; cases this; exact h4
  · rename_i xs ys s e1
    cases e
    refine ha T st σ H _ _ rl e1 _ fun T1 vs H1 E1 R1 hl => ?_
    cases R1 with
    | cons r t =>
      cases t with
      | cons r' t =>
        cases t
        obtain ⟨a, rfl, ha⟩ := rep_heap E1.rel.good r rfl (fun _ => nofun)
        obtain ⟨b, rfl, hb⟩ := rep_heap E1.rel.good r' rfl (fun _ => nofun)
        obtain ⟨vs, hv, rv, zv⟩ := E1.rel.good a _ ha
        obtain ⟨ws, hw, rw', zw⟩ := E1.rel.good b _ hb
        refine ⟨a, b, vs, ws, rfl, .inr ⟨.of hv, .of hw, k T1 _ H1 E1 (serves_pair fun T2 H2 s2 g2 i => ?_) (by rw [List.length_map, List.length_zip]; omega)⟩⟩
        obtain ⟨vs, hv, rv, zv⟩ := g2 a _ (s2 a _ ha)
        obtain ⟨ws, hw, rw', zw⟩ := g2 b _ (s2 b _ hb)
        refine ⟨fun hi => ⟨vs, ws, .of hv, .of hw, by rw [rv.length, rw'.length]; exact zip_stop xs ys i hi⟩, fun p e => ?_⟩
        obtain ⟨e1, e2⟩ := zip_at e
        obtain ⟨x, h1, h2⟩ := reps_ix rv e1
        obtain ⟨y, h3, h4⟩ := reps_ix rw' e2
        refine ⟨⟨vs, ws, x, y, .of hv, .of hw, h1, h3⟩, fun z H3 ⟨t, x', y', q1, q2, q3, q4, q5⟩ => ⟨t, x', y', q1, q2, q3, ?_, ?_⟩⟩
        · have := q4 vs (.of hv); rw [h1] at this; cases this; exact h2
        · have := q5 ws (.of hw); rw [h3] at this; cases this; exact h4
  · cases e
/-- enumerate of a list -/
def enumD (i : Nat) : List D → List (D × D)
  | [] => []
  | x :: xs => (.int (i : Nat), x) :: enumD (i + 1) xs
theorem enumD_len : ∀ (xs : List D) (i : Nat), (enumD i xs).length = xs.length
  | [], _ => rfl
  | _ :: xs, i => by rw [enumD, List.length_cons, enumD_len xs, List.length_cons]
theorem enumD_at : ∀ (xs : List D) (i j : Nat) (p : D × D), (enumD i xs)[j]? = some p → p.1 = .int ((i + j : Nat) : Int) ∧ xs[j]? = some p.2
  | [], _, _, _, h => by simp [enumD] at h
  | x :: xs, i, 0, p, h => by
    simp [enumD] at h
    subst h
    exact ⟨rfl, rfl⟩
  | x :: xs, i, j + 1, p, h => by
    obtain ⟨h1, h2⟩ := enumD_at xs (i + 1) j p (by simpa [enumD] using h)
    refine ⟨?_, by simpa using h2⟩
    rw [h1]
    congr 2
    omega
def wEnum (a : MA) : MI := fun st => match a st with
  | some ([.lst xs], s) => some ((enumD 0 xs).map pairD, s)
  | _ => none
theorem ok_wEnum {n : Nat} {t : TA} {a : MA} (ha : OkA G n t a) : OkI G (iEnum G.K t) (wEnum a) := by
  intro T st σ H xs st' rl e Rr k
  unfold wEnum at e
  split at e
  · rename_i xs s e1
    cases e
    refine ha T st σ H _ _ rl e1 _ fun T1 vs H1 E1 R1 hl => ?_
    cases R1 with
    | cons r t =>
      cases t
      obtain ⟨a, rfl, ha⟩ := rep_heap E1.rel.good r rfl (fun _ => nofun)
      obtain ⟨vs, hv, rv, zv⟩ := E1.rel.good a _ ha
      refine ⟨a, vs, rfl, .of hv, k T1 _ H1 E1 (serves_pair fun T2 H2 s2 g2 i => ?_) (by rw [List.length_map, enumD_len]; exact zv)⟩
      obtain ⟨vs, hv, rv, zv⟩ := g2 a _ (s2 a _ ha)
      refine ⟨fun hi => ⟨vs, .of hv, by rw [rv.length]; rw [enumD_len] at hi; exact hi⟩, fun p e => ?_⟩
      obtain ⟨e1, e2⟩ := enumD_at xs 0 i p e
      obtain ⟨x, h1, h2⟩ := reps_ix rv e2
      refine ⟨⟨vs, x, .of hv, h1⟩, fun z H3 ⟨t, x', q1, q2, q3, q4⟩ => ⟨t, .int (i : Nat), x', q1, q2, q3, ?_, ?_⟩⟩
      · show p.1 = _; rw [e1, Nat.zero_add]
      · have := q4 vs (.of hv); rw [h1] at this; cases this; exact h2
  · cases e

/-! ### for -/
def forD (g : MG) (b : MS) : List D → DSt → Option (Fl × DSt)
  | [], st => some (.nx, st)
  | x :: xs, st => match g x st with
    | none => none
    | some s => match b s with
      | some (.nx, s2) => forD g b xs s2
      | some (.ct, s2) => forD g b xs s2
      | some (.bk, s2) => some (.nx, s2)
      | some (.ret r, s2) => some (.ret r, s2)
      | none => none
def sFor (w : MI) (g : MG) (b : MS) : MS := fun st => match w st with
  | none => none
  | some (xs, s) => forD g b xs s
theorem ok_for {wi : TI} {tg : TG} {tb : TS} {w : MI} {g : MG} {b : MS} (hw : OkI G wi w) (hg : OkG G tg g) (hb : OkS G tb b) : OkS G (tFor wi tg tb) (sFor w g b) := by
  intro T st σ H f st' rl e D wish
  unfold sFor at e
  split at e
  · cases e
  · rename_i xs s e1
    refine hw T st σ H xs s rl e1 _ fun T1 J H1 E1 sv hz => ?_
    refine ⟨fun i m σ' H' => m + i = xs.length ∧ ∃ T' st2, SStep G T st σ H T' st2 σ' H' ∧ Sub T1 T' ∧ forD g b (xs.drop i) st2 = some (f, st'),
      ⟨xs.length, rfl, T1, s, E1.s, Sub.refl _, e⟩, fun i m σ' H' ⟨hm, T', st2, S, sb, ef⟩ => ?_⟩
    obtain ⟨q1, q2⟩ := sv T' H' sb S.rel.good i
    by_cases hi : i < xs.length
    · have ex : xs[i]? = some xs[i] := List.getElem?_eq_getElem hi
      obtain ⟨go, yl⟩ := q2 _ ex
      rw [List.drop_eq_getElem_cons hi] at ef
      unfold forD at ef
      refine .inr ⟨go, fun σ3 H3 => ∃ T3 st3, SStep G T st σ H T3 st3 σ3 H3 ∧ Sub T1 T3 ∧ forD g b (xs.drop (i + 1)) st3 = some (f, st'), fun σ3 H3 ⟨T3, st3, S3, sb3, ef3⟩ => ⟨m - 1, by omega, by omega, T3, st3, S3, sb3, ef3⟩, fun x H2 y => ?_⟩
      obtain ⟨T2, N2, r2⟩ := yl x H2 y
      have E2 := S.rel.ekeep N2
      have S2 := S.trans E2.s
      split at ef
      · cases ef
      · rename_i s3 eg
        refine hg T2 st2 σ' H2 x xs[i] s3 E2.rel r2 eg _ fun T3 σ3 H3 S3 => ?_
        have S23 := S2.trans S3
        have sb3 : Sub T1 T3 := sb.trans (N2.sub.trans S3.step.sub)
        split at ef
        · rename_i s4 eb
          exact hb T3 s3 σ3 H3 _ _ S3.rel eb _ fun T4 σ4 H4 S4 => ⟨T4, s4, S23.trans S4, sb3.trans S4.step.sub, ef⟩
        · rename_i s4 eb
          exact hb T3 s3 σ3 H3 _ _ S3.rel eb _ fun T4 σ4 H4 S4 => ⟨T4, s4, S23.trans S4, sb3.trans S4.step.sub, ef⟩
        · rename_i s4 eb
          cases ef
          exact hb T3 s3 σ3 H3 _ _ S3.rel eb _ fun T4 σ4 H4 S4 => wish T4 σ4 H4 (S23.trans S4)
        · rename_i r s4 eb
          cases ef
          exact hb T3 s3 σ3 H3 _ _ S3.rel eb _ fun T4 σ4 H4 v4 S4 R4 => wish T4 σ4 H4 v4 (S23.trans S4) (R4.back S23.step.dom)
        · cases ef
    · have hi' : xs.length ≤ i := Nat.le_of_not_lt hi
      rw [List.drop_eq_nil_of_le hi'] at ef
      cases ef
      exact .inl ⟨q1 hi', wish T' σ' H' S⟩

/-! ### while -/
def whileD (c : MT) (b : MS) : Nat → DSt → Option (Fl × DSt)
  | 0, _ => none
  | n + 1, st => match c st with
    | none => none
    | some (false, s) => some (.nx, s)
    | some (true, s) => match b s with
      | some (.nx, s2) => whileD c b n s2
      | some (.ct, s2) => whileD c b n s2
      | some (.bk, s2) => some (.nx, s2)
      | some (.ret r, s2) => some (.ret r, s2)
      | none => none
def sWhile (n : Nat) (c : MT) (b : MS) : MS := whileD c b n
theorem ok_while {n : Nat} {tc : TT} {tb : TS} {c : MT} {b : MS} (hc : OkT G tc c) (hb : OkS G tb b) : OkS G (tWhile tc tb) (sWhile n c b) := by
  intro T st σ H f st' rl e D wish
  refine ⟨fun m σ' H' => ∃ T' st2, SStep G T st σ H T' st2 σ' H' ∧ whileD c b m st2 = some (f, st'), ⟨n, T, st, SStep.refl rl, e⟩, fun m σ' H' ⟨T', st2, S, ef⟩ => ?_⟩
  cases m with
  | zero => cases ef
  | succ m =>
    unfold whileD at ef
    split at ef
    · cases ef
    · rename_i s ec
      cases ef
      refine hc T' st2 σ' H' _ _ S.rel ec _ fun T1 H1 E1 => ?_
      rw [if_neg Bool.false_ne_true]
      exact wish T1 σ' H1 (S.trans E1.s)
    · rename_i s ec
      refine hc T' st2 σ' H' _ _ S.rel ec _ fun T1 H1 E1 => ?_
      rw [if_pos rfl]
      have S1 := S.trans E1.s
      refine ⟨fun σ3 H3 => ∃ T3 st3, SStep G T st σ H T3 st3 σ3 H3 ∧ whileD c b m st3 = some (f, st'), fun σ3 H3 q => ⟨m, Nat.lt_succ_self m, q⟩, ?_⟩
      split at ef
      · rename_i s4 eb
        exact hb T1 s σ' H1 _ _ E1.rel eb _ fun T4 σ4 H4 S4 => ⟨T4, s4, S1.trans S4, ef⟩
      · rename_i s4 eb
        exact hb T1 s σ' H1 _ _ E1.rel eb _ fun T4 σ4 H4 S4 => ⟨T4, s4, S1.trans S4, ef⟩
      · rename_i s4 eb
        cases ef
        exact hb T1 s σ' H1 _ _ E1.rel eb _ fun T4 σ4 H4 S4 => wish T4 σ4 H4 (S1.trans S4)
      · rename_i r s4 eb
        cases ef
        exact hb T1 s σ' H1 _ _ E1.rel eb _ fun T4 σ4 H4 v4 S4 R4 => wish T4 σ4 H4 v4 (S1.trans S4) (R4.back S1.step.dom)
      · cases ef
end
end LD

/-! Layer D: comprehensions. -/
namespace LD
open PySem PySem.Spec PyProof.Rows L2

def wipeD (st : DSt) : List Nat → DSt
  | [] => st
  | v :: vs => (wipeD st vs).set v none
/-- the slots vs as in s, the others as in t -/
def restD (s t : DSt) : List Nat → DSt
  | [] => t
  | v :: vs => match s[v]? with
    | some x => (restD s t vs).set v x
    | none => restD s t vs
theorem wipeD_len (st : DSt) : ∀ vs, (wipeD st vs).length = st.length
  | [] => rfl
  | v :: vs => by rw [wipeD, List.length_set, wipeD_len st vs]
theorem wipeD_in {st : DSt} {j : Nat} : ∀ {vs : List Nat}, j ∈ vs → ∀ sv, (wipeD st vs)[j]? ≠ some (some sv)
  | [], h, _ => by simp at h
  | v :: vs, h, sv => fun q => by
    rw [wipeD] at q
    by_cases e : v = j
    · subst e
      by_cases hv : v < (wipeD st vs).length
      · rw [List.getElem?_set_self hv] at q; cases q
      · rw [List.getElem?_eq_none (by rw [List.length_set]; omega)] at q; cases q
    · rw [List.getElem?_set_ne e] at q
      exact wipeD_in ((List.mem_cons.mp h).elim (fun z => absurd z.symm e) id) sv q
theorem wipeD_out {st : DSt} {j : Nat} : ∀ {vs : List Nat}, j ∉ vs → (wipeD st vs)[j]? = st[j]?
  | [], _ => rfl
  | v :: vs, h => by
    rw [wipeD, List.getElem?_set_ne (fun e => h (by simp [e])), wipeD_out fun z => h (by simp [z])]
theorem wipe_out' {σ : L2.St} {j : Nat} : ∀ {vs : List Nat}, j ∉ vs → (wipe σ vs)[j]? = σ[j]?
  | [], _ => rfl
  | v :: vs, h => by
    rw [wipe, List.getElem?_set_ne (fun e => h (by simp [e])), wipe_out' fun z => h (by simp [z])]
theorem wipe_in' {σ : L2.St} {j : Nat} : ∀ {vs : List Nat}, j ∈ vs → (wipe σ vs)[j]? = if j < σ.length then some none else none
  | [], h => by simp at h
  | v :: vs, h => by
    rw [wipe]
    by_cases e : v = j
    · subst e
      by_cases hl : v < σ.length
      · rw [List.getElem?_set_self (by rw [wipe_length]; exact hl), if_pos hl]
      · rw [List.getElem?_eq_none (by rw [List.length_set, wipe_length]; omega), if_neg hl]
    · rw [List.getElem?_set_ne e]
      exact wipe_in' ((List.mem_cons.mp h).elim (fun z => absurd z.symm e) id)
theorem wipe_ext {σ τ : L2.St} {vs : List Nat} (hl : σ.length = τ.length) (h : ∀ j, j ∉ vs → σ[j]? = τ[j]?) : wipe σ vs = wipe τ vs := by
  refine List.ext_getElem? fun j => ?_
  by_cases hj : j ∈ vs
  · rw [wipe_in' hj, wipe_in' hj, hl]
  · rw [wipe_out' hj, wipe_out' hj, h j hj]
theorem wipe_idem (σ : L2.St) (vs : List Nat) : wipe (wipe σ vs) vs = wipe σ vs := wipe_ext (wipe_length σ vs) fun j hj => wipe_out' hj
theorem restD_len (s t : DSt) : ∀ vs, (restD s t vs).length = t.length
  | [] => rfl
  | v :: vs => by
    rw [restD]
    split
    · rw [List.length_set, restD_len s t vs]
    · exact restD_len s t vs
theorem restD_in {s t : DSt} (hl : t.length = s.length) {j : Nat} : ∀ {vs : List Nat}, j ∈ vs → (restD s t vs)[j]? = s[j]?
  | [], h => by simp at h
  | v :: vs, h => by
    rw [restD]
    by_cases e : v = j
    · subst e
      split
      · rename_i x hx
        have hv : v < s.length := (List.getElem?_eq_some_iff.mp hx).1
        rw [List.getElem?_set_self (by rw [restD_len]; omega)]
        exact hx.symm
      · rename_i hx
        rw [hx]
        have hv : s.length ≤ v := List.getElem?_eq_none_iff.mp hx
        exact List.getElem?_eq_none (by rw [restD_len]; omega)
    · have ih := restD_in hl (vs := vs) ((List.mem_cons.mp h).elim (fun z => absurd z.symm e) id)
      split
      · rw [List.getElem?_set_ne e]; exact ih
      · exact ih
theorem restD_out {s t : DSt} {j : Nat} : ∀ {vs : List Nat}, j ∉ vs → (restD s t vs)[j]? = t[j]?
  | [], _ => rfl
  | v :: vs, h => by
    have ih := restD_out (s := s) (t := t) (j := j) (vs := vs) fun z => h (by simp [z])
    rw [restD]
    split
    · rw [List.getElem?_set_ne (fun e => h (by simp [e]))]; exact ih
    · exact ih

section
variable {G : Gm} {T T1 T2 : Ty} {st st1 st2 : DSt} {σ σ1 σ2 : L2.St} {H H1 H2 : Hp} {v : V} {d : D} {r : R} {vs : List Nat}

/-- a target that stores into slots of vs alone -/
def OkV (G : Gm) (vs : List Nat) (g : TG) (m : MG) : Prop := ∀ (T : Ty) (st : DSt) (σ : L2.St) (H : Hp) (v : V) (d : D) (st' : DSt), Rel G T st σ H → RepT G T v d → m d st = some st' →
  ∀ Q : L2.St → Hp → Prop, (∀ σ', Rel G T st' σ' H → (∀ j, j ∉ vs → st'[j]? = st[j]? ∧ σ'[j]? = σ[j]?) → (∀ (j : Nat) k e, st'[j]? = some (some (.rt k e)) → st[j]? = some (some (.rt k e))) → σ'.length = σ.length → Q σ' H) → g v σ H Q
def OkVs (G : Gm) (vs : List Nat) (g : TGs) (m : MGs) : Prop := ∀ (T : Ty) (st : DSt) (σ : L2.St) (H : Hp) (us : List V) (ds : List D) (st' : DSt), Rel G T st σ H → Reps G T us ds → m ds st = some st' →
  ∀ Q : L2.St → Hp → Prop, (∀ σ', Rel G T st' σ' H → (∀ j, j ∉ vs → st'[j]? = st[j]? ∧ σ'[j]? = σ[j]?) → (∀ (j : Nat) k e, st'[j]? = some (some (.rt k e)) → st[j]? = some (some (.rt k e))) → σ'.length = σ.length → Q σ' H) → g us σ H Q
theorem ok_vN {i : Nat} (hi : i ∈ vs) : OkV G vs (gName i) (gN i) := by
  intro T st σ H v d st' rl r e Q k
  cases e
  refine k _ (set_imm rl r).rel (fun j hj => ?_) (fun j kk e q => ?_) List.length_set
  · have ne : i ≠ j := fun z => hj (z ▸ hi)
    exact ⟨List.getElem?_set_ne ne, List.getElem?_set_ne ne⟩
  · by_cases ij : i = j
    · subst ij
      by_cases hl : i < st.length
      · rw [List.getElem?_set_self hl] at q; cases q
      · rw [List.getElem?_eq_none (by rw [List.length_set]; omega)] at q; cases q
    · rw [List.getElem?_set_ne ij] at q; exact q
theorem ok_vsN : OkVs G vs gNil gsN := by
  intro T st σ H us ds st' rl r e Q k
  unfold gsN at e
  split at e
  · cases e
    cases r
    exact ⟨rfl, k σ rl (fun _ _ => ⟨rfl, rfl⟩) (fun _ _ _ q => q) rfl⟩
  · cases e
theorem ok_vsC {g : TG} {gs : TGs} {a : MG} {b : MGs} (ha : OkV G vs g a) (hb : OkVs G vs gs b) : OkVs G vs (gCons g gs) (gsC a b) := by
  intro T st σ H us ds st' rl r e Q k
  unfold gsC at e
  split at e
  · cases e
  · rename_i d ds'
    split at e
    · cases e
    · rename_i s e1
      cases r with
      | cons r t =>
        refine ⟨_, _, rfl, ha T st σ H _ _ s rl r e1 _ fun σ1 R1 a1 b1 l1 => ?_⟩
        refine hb T s σ1 H _ _ st' R1 t e _ fun σ2 R2 a2 b2 l2 => k σ2 R2 (fun j hj => ?_) (fun j kk x q => b1 j kk x (b2 j kk x q)) (l2.trans l1)
        exact ⟨(a2 j hj).1.trans (a1 j hj).1, (a2 j hj).2.trans (a1 j hj).2⟩
theorem ok_vT {n : Nat} {gs : TGs} {b : MGs} (hb : OkVs G vs gs b) : OkV G vs (gTup G.K n gs) (gT n b) := by
  intro T st σ H v d st' rl r e Q k
  unfold gT at e
  split at e
  · rename_i ds
    split at e
    · rename_i hl
      obtain ⟨a, us, rfl, q, _, r', _⟩ := (Sees.of_rep (H := H) r).tup rl.good
      exact ⟨a, us, rfl, q, by rw [r'.length, hl], hb T st σ H us ds st' rl r' e Q k⟩
    · cases e
  · cases e

theorem root_wipe {a : Addr} (h : Root (wipeD st vs) (wipe σ vs) a) : Root st σ a := by
  obtain ⟨j, k, d, h1, h2⟩ := h
  have hj : j ∉ vs := fun z => wipeD_in z _ h1
  rw [wipeD_out hj] at h1
  rw [wipe_out' hj] at h2
  exact ⟨j, k, d, h1, h2⟩
theorem rel_wipe (rl : Rel G T st σ H) (vs : List Nat) : Rel G T (wipeD st vs) (wipe σ vs) H := by
  have o1 : ∀ {j sv}, (wipeD st vs)[j]? = some (some sv) → j ∉ vs ∧ st[j]? = some (some sv) := fun {j sv} h => by
    have hj : j ∉ vs := fun z => wipeD_in z _ h
    rw [wipeD_out hj] at h
    exact ⟨hj, h⟩
  refine ⟨rl.good, by rw [wipeD_len, wipe_length]; exact rl.len, fun j d h => ?_, fun j k d h => ?_, fun i j k k' d d' a h h' q q' => ?_⟩
  · obtain ⟨hj, h⟩ := o1 h
    rw [wipe_out' hj]
    exact rl.imm j d h
  · obtain ⟨hj, h⟩ := o1 h
    rw [wipe_out' hj]
    exact rl.rts j k d h
  · obtain ⟨hj, h⟩ := o1 h
    obtain ⟨hj', h'⟩ := o1 h'
    rw [wipe_out' hj] at q
    rw [wipe_out' hj'] at q'
    exact rl.inj i j k k' d d' a h h' q q'
/-- an own temporary is written -/
theorem Step.tmp {R : Addr → Prop} (s : Step G T H T1 H1 R) {p : Addr} (hp : H p = none) (tp : T1 p = none) (o : HO) : Step G T H T1 (upd H1 p o) R := by
  refine ⟨s.sub, fun a e q => ?_, fun a h z => ?_, fun a u h t n => ?_⟩
  · have ap : a ≠ p := fun z => by rw [z, tp] at q; cases q
    exact (s.good a e q).mono (Sub.refl _) (upd_ne ap)
  · by_cases ap : a = p
    · rw [ap, upd_same] at z; cases z
    · rw [upd_ne ap] at z; exact s.dom a h z
  · have ap : a ≠ p := ne_of_none h hp
    obtain ⟨h1, t1⟩ := s.frm a u h t n
    exact ⟨by rw [upd_ne ap]; exact h1, t1⟩
theorem Rel.tmp (rl : Rel G T st σ H) {p : Addr} (tp : T p = none) (np : ¬ Root st σ p) (o : HO) : Rel G T st σ (upd H p o) := by
  have gd : Good G T (upd H p o) := fun a e q => by
    have ap : a ≠ p := fun z => by rw [z, tp] at q; cases q
    exact (rl.good a e q).mono (Sub.refl _) (upd_ne ap)
  refine ⟨gd, rl.len, rl.imm, fun j k d h => ?_, rl.inj⟩
  obtain ⟨a, h1, o'⟩ := rl.rts j k d h
  have ap : a ≠ p := fun z => np ⟨j, k, d, h, z ▸ h1⟩
  exact ⟨a, h1, o'.ty, o'.sh.mono (Sub.refl _) (upd_ne ap), by rw [upd_ne ap]; exact o'.mu⟩
theorem EStep.tmp (e : EStep G T st σ H T1 st1 H1) {p : Addr} (hp : H p = none) (tp : T1 p = none) (np : ¬ Root st1 σ p) (o : HO) : EStep G T st σ H T1 st1 (upd H1 p o) :=
  ⟨e.rel.tmp tp np o, e.step.tmp hp tp o, e.kind, e.some⟩

/-! ### the list -/
def lcD (vs : List Nat) (g : MG) (c : MT) (m : M) : List D → DSt → Option (List D × DSt)
  | [], st => some ([], st)
  | x :: xs, st => match g x st with
    | none => none
    | some s1 => match c s1 with
      | none => none
      | some (false, s2) => lcD vs g c m xs (wipeD s2 vs)
      | some (true, s2) => match m s2 with
        | none => none
        | some (r, s3) => match freeze s3 r with
          | none => none
          | some (d, s4) => match lcD vs g c m xs (wipeD s4 vs) with
            | none => none
            | some (ds, s5) => some (d :: ds, s5)
def mLc (vs : List Nat) (w : MI) (g : MG) (c : MT) (m : M) : M := fun st => match w st with
  | none => none
  | some (xs, s) => match lcD vs g c m xs (wipeD s vs) with
    | none => none
    | some (ds, t) => some (.own (.lst ds), restD s t vs)
def tYesD : MT := fun st => some (true, st)
theorem ok_yes : OkT G tYes tYesD := by
  intro T st σ H b st' rl e Q k
  cases e
  exact k T H (EStep.refl rl)

/-- a turn over wiped slots -/
theorem turn_wipe {s0 s1 s4 : DSt} {τ : L2.St} (hw : ∀ j ∈ vs, ∀ sv, s0[j]? ≠ some (some sv)) (rl : Rel G T s0 (wipe σ vs) H) (ag : ∀ j, j ∉ vs → s1[j]? = s0[j]? ∧ τ[j]? = (wipe σ vs)[j]?)
    (nr : ∀ (j : Nat) k e, s1[j]? = some (some (.rt k e)) → s0[j]? = some (some (.rt k e))) (hl : τ.length = σ.length) (E : EStep G T s1 τ H T1 s4 H1) : EStep G T s0 (wipe σ vs) H T1 (wipeD s4 vs) H1 := by
  have ew : wipe τ vs = wipe σ vs := by
    rw [← wipe_idem σ vs]
    exact wipe_ext (by rw [hl, wipe_length]) fun j hj => (ag j hj).2
  have rt : ∀ a, Root s1 τ a → Root s0 (wipe σ vs) a := fun a ⟨j, k, d, h1, h2⟩ => by
    have h3 := nr j k d h1
    have hj : j ∉ vs := fun z => hw j z _ h3
    exact ⟨j, k, d, h3, (ag j hj).2.symm.trans h2⟩
  have rw4 := rel_wipe E.rel vs
  rw [ew] at rw4
  refine ⟨rw4, E.step.mono rt, fun j k d h => ?_, fun j sv h => ?_⟩
  · have hj : j ∉ vs := fun z => wipeD_in z _ h
    rw [wipeD_out hj] at h
    obtain ⟨d0, h0⟩ := E.kind j k d h
    exact ⟨d0, nr j k d0 h0⟩
  · have hj : j ∉ vs := fun z => hw j z _ h
    rw [← (ag j hj).1] at h
    obtain ⟨sv', h'⟩ := E.some j sv h
    exact ⟨sv', by rw [wipeD_out hj]; exact h'⟩
/-- behind the loop: the slots as they stood -/
theorem back_wipe {s t : DSt} (rl : Rel G T s σ H) (E : EStep G T (wipeD s vs) (wipe σ vs) H T1 t H1) : EStep G T s σ H T1 (restD s t vs) H1 := by
  have hl : t.length = s.length := by rw [E.rel.len, wipe_length, ← rl.len]
  have out : ∀ {j sv}, j ∉ vs → (restD s t vs)[j]? = some (some sv) → t[j]? = some (some sv) := fun {j sv} hj h => by rw [restD_out hj] at h; exact h
  have inn : ∀ {j sv}, j ∈ vs → (restD s t vs)[j]? = some (some sv) → s[j]? = some (some sv) := fun {j sv} hj h => by rw [restD_in hl hj] at h; exact h
  -- an own root of a wiped slot is kept
  have kept : ∀ {j k d a}, j ∈ vs → s[j]? = some (some (.rt k d)) → σ[j]? = some (some (.ref a)) → Own G T H a d → Own G T1 H1 a d := fun {j k d a} hj h h2 o => o.step E.step fun ⟨j', k', d', h3, h4⟩ => by
    have hj' : j' ∉ vs := fun z => wipeD_in z _ h3
    rw [wipeD_out hj'] at h3
    rw [wipe_out' hj'] at h4
    exact hj' (rl.inj j j' k k' d d' a h h3 h2 h4 ▸ hj)
  have rootO : ∀ {j k d}, j ∉ vs → t[j]? = some (some (.rt k d)) → ∃ d0, s[j]? = some (some (.rt k d0)) := fun {j k d} hj h => by
    obtain ⟨d0, h0⟩ := E.kind j k d h
    rw [wipeD_out hj] at h0
    exact ⟨d0, h0⟩
  refine ⟨⟨E.step.good, by rw [restD_len, hl]; exact rl.len, fun j d h => ?_, fun j k d h => ?_, fun i j k k' d d' a h h' q q' => ?_⟩, E.step.mono fun a h => root_wipe h, fun j k d h => ?_, fun j sv h => ?_⟩
  · by_cases hj : j ∈ vs
    · obtain ⟨v, h1, h2⟩ := rl.imm j d (inn hj h)
      exact ⟨v, h1, h2.mono E.step.sub⟩
    · obtain ⟨v, h1, h2⟩ := E.rel.imm j d (out hj h)
      rw [wipe_out' hj] at h1
      exact ⟨v, h1, h2⟩
  · by_cases hj : j ∈ vs
    · obtain ⟨a, h1, o⟩ := rl.rts j k d (inn hj h)
      exact ⟨a, h1, kept hj (inn hj h) h1 o⟩
    · obtain ⟨a, h1, o⟩ := E.rel.rts j k d (out hj h)
      rw [wipe_out' hj] at h1
      exact ⟨a, h1, o⟩
  · have r1 : ∃ e, s[i]? = some (some (.rt k e)) := by
      by_cases hi : i ∈ vs
      · exact ⟨d, inn hi h⟩
      · exact rootO hi (out hi h)
    have r2 : ∃ e, s[j]? = some (some (.rt k' e)) := by
      by_cases hj : j ∈ vs
      · exact ⟨d', inn hj h'⟩
      · exact rootO hj (out hj h')
    obtain ⟨e1, r1⟩ := r1
    obtain ⟨e2, r2⟩ := r2
    exact rl.inj i j k k' e1 e2 a r1 r2 q q'
  · by_cases hj : j ∈ vs
    · exact ⟨d, inn hj h⟩
    · exact rootO hj (out hj h)
  · by_cases hj : j ∈ vs
    · exact ⟨sv, by rw [restD_in hl hj]; exact h⟩
    · obtain ⟨sv', h'⟩ := E.some j sv (by rw [wipeD_out hj]; exact h)
      exact ⟨sv', by rw [restD_out hj]; exact h'⟩

theorem ok_lc {wi : TI} {tg : TG} {tt : TT} {te : TE} {w : MI} {g : MG} {c : MT} {m : M} (hw : OkI G wi w) (hg : OkV G vs tg g) (hc : OkT G tt c) (hm : OkE G te m) : OkE G (tLc wi tg tt te vs) (mLc vs w g c m) := by
  intro T st σ H r st' rl e Q k
  unfold mLc at e
  split at e
  · cases e
  · rename_i xs s e1
    split at e
    · cases e
    · rename_i ds t e2
      cases e
      refine hw T st σ H xs s rl e1 _ fun T1 J H1 E1 sv hz D hD => ?_
      have tD : T1 D = none := E1.rel.good.free hD
      have R0 := rel_wipe E1.rel vs
      have noroot : ∀ {T' : Ty} {st2 : DSt} {H' : Hp}, EStep G T1 (wipeD s vs) (wipe σ vs) H1 T' st2 H' → ¬ Root st2 (wipe σ vs) D := fun {T' st2 H'} E z => (R0.root_own (E.root z)).1 hD
      refine ⟨fun i mm H' => mm + i = xs.length ∧ ∃ T' st2 acc accV rest, EStep G T1 (wipeD s vs) (wipe σ vs) H1 T' st2 H' ∧ (∀ j ∈ vs, ∀ sv, st2[j]? ≠ some (some sv)) ∧ T' D = none ∧ H' D = some (.lst accV) ∧ Reps G T' accV acc ∧ acc.length ≤ i ∧
          lcD vs g c m (xs.drop i) st2 = some (rest, t) ∧ acc ++ rest = ds,
        ⟨xs.length, rfl, T1, wipeD s vs, [], [], ds, (EStep.refl R0).tmp hD tD (noroot (EStep.refl R0)) _, fun j hj sv => wipeD_in hj sv, tD, upd_same, .nil, Nat.zero_le _, e2, rfl⟩, fun i mm H' ⟨hmm, T', st2, acc, accV, rest, E, hwp, tD', hD', ra, la, ef, ed⟩ => ?_⟩
      obtain ⟨q1, q2⟩ := sv T' H' E.step.sub E.rel.good i
      by_cases hi : i < xs.length
      · obtain ⟨go, yl⟩ := q2 _ (List.getElem?_eq_getElem hi)
        rw [List.drop_eq_getElem_cons hi] at ef
        unfold lcD at ef
        refine .inr ⟨go, fun H3 => ∃ T3 st3 acc3 accV3 rest3, EStep G T1 (wipeD s vs) (wipe σ vs) H1 T3 st3 H3 ∧ (∀ j ∈ vs, ∀ sv, st3[j]? ≠ some (some sv)) ∧ T3 D = none ∧ H3 D = some (.lst accV3) ∧ Reps G T3 accV3 acc3 ∧ acc3.length ≤ i + 1 ∧
          lcD vs g c m (xs.drop (i + 1)) st3 = some (rest3, t) ∧ acc3 ++ rest3 = ds, fun H3 ⟨T3, st3, acc3, accV3, rest3, z⟩ => ⟨mm - 1, by omega, by omega, T3, st3, acc3, accV3, rest3, z⟩, fun x H2 y => ?_⟩
        obtain ⟨T2, N2, r2⟩ := yl x H2 y
        have E2 := E.trans (E.rel.ekeep N2)
        split at ef
        · cases ef
        · rename_i s1 eg
          refine hg T2 st2 (wipe σ vs) H2 x _ s1 E2.rel r2 eg _ fun τ Rτ ag nr lτ => ?_
          have hlτ : τ.length = σ.length := lτ.trans (wipe_length σ vs)
          have ewτ : wipe τ vs = wipe σ vs := by
            have h1 := wipe_ext (σ := τ) (τ := wipe σ vs) (vs := vs) (by rw [hlτ, wipe_length]) fun j hj => (ag j hj).2
            rw [wipe_idem] at h1
            exact h1
          refine ⟨ewτ, ?_⟩
          split at ef
          · cases ef
          · rename_i s2 ec
            refine hc T2 s1 τ H2 _ s2 Rτ ec _ fun T3 H3 E3 => ?_
            rw [if_neg Bool.false_ne_true]
            have EE := E2.trans (turn_wipe hwp E2.rel ag nr hlτ E3)
            have nD : ¬ Root (wipeD s vs) (wipe σ vs) D := noroot (EStep.refl R0)
            obtain ⟨k1, k2⟩ := (E.rel.ekeep N2).step.frm D _ hD' tD' (noroot E)
            obtain ⟨k3, k4⟩ := (turn_wipe hwp E2.rel ag nr hlτ E3).step.frm D _ k1 k2 (noroot E2)
            exact ⟨T3, wipeD s2 vs, acc, accV, rest, EE, fun j hj sv => wipeD_in hj sv, k4, k3, (ra.mono N2.sub).mono E3.step.sub, by omega, ef, ed⟩
          · rename_i s2 ec
            refine hc T2 s1 τ H2 _ s2 Rτ ec _ fun T3 H3 E3 => ?_
            rw [if_pos rfl]
            split at ef
            · cases ef
            · rename_i rr s3 em
              split at ef
              · cases ef
              · rename_i dd s4 ez
                split at ef
                · cases ef
                · rename_i ds5 s5 er
                  cases ef
                  refine hm T3 s2 τ H3 rr s3 E3.rel em _ fun T4 y4 H4 E4 R4 => ?_
                  obtain ⟨T5, E5, R5⟩ := ok_freeze E3.rel E4 R4 ez
                  have E35 := E3.trans E5
                  have TW := turn_wipe hwp E2.rel ag nr hlτ E35
                  have EE := E2.trans TW
                  obtain ⟨k1, k2⟩ := (E.rel.ekeep N2).step.frm D _ hD' tD' (noroot E)
                  obtain ⟨k3, k4⟩ := TW.step.frm D _ k1 k2 (noroot E2)
                  have la2 := ra.length
                  refine ⟨accV, k3, by omega, T5, wipeD s4 vs, acc ++ [dd], accV ++ [y4], ds5, EE.tmp hD k4 (noroot EE) _, fun j hj sv => wipeD_in hj sv, k4, upd_same, reps_app ((ra.mono N2.sub).mono E35.step.sub) (.cons R5 .nil), by rw [List.length_append]; show _ + 1 ≤ _; omega, er, ?_⟩
                  rw [List.append_assoc]
                  exact ed
      · have hi' : xs.length ≤ i := Nat.le_of_not_lt hi
        rw [List.drop_eq_nil_of_le hi'] at ef
        cases ef
        rw [List.append_nil] at ed
        subst ed
        refine .inl ⟨q1 hi', k T' (.ref D) H' (E1.trans (back_wipe E1.rel E)) ?_⟩
        exact ⟨D, rfl, none_of E1.step.dom hD, tD', ⟨accV, hD', ra, by omega⟩, by rw [hD']; trivial⟩
end
end LD

/-! Layer D: defs and their calls. -/
namespace LD
open PySem PySem.Spec PyProof.Rows L2

def ArgOk (G : Gm) (T : Ty) (H : Hp) (v : V) : SV → Prop
  | .imm d => RepT G T v d
  | .rt k d => k = false ∧ ∃ a, v = .ref a ∧ Own G T H a d
def RtArg (vs : List V) (svs : List SV) (a : Addr) : Prop := ∃ (i : Nat) (k : Bool) (d : D), svs[i]? = some (.rt k d) ∧ vs[i]? = some (.ref a)
def ResF (G : Gm) (T : Ty) (H₀ H : Hp) (v : V) : R → Prop
  | .imm d => RepT G T v d
  | .own d => ∃ a, v = .ref a ∧ H₀ a = none ∧ Own G T H a d
  | .slot _ => False
structure OutsOk (G : Gm) (T : Ty) (H : Hp) (vs : List V) (os : List SV) : Prop where
  at_ : ∀ (i : Nat) k d, os[i]? = some (.rt k d) → ∃ a, vs[i]? = some (.ref a) ∧ Own G T H a d
structure ArgsOk (G : Gm) (T : Ty) (H : Hp) (vs : List V) (svs : List SV) : Prop where
  all : Paired (ArgOk G T H) vs svs
  inj : ∀ (i j : Nat) k k' d d' a, svs[i]? = some (.rt k d) → svs[j]? = some (.rt k' d') → vs[i]? = some (.ref a) → vs[j]? = some (.ref a) → i = j
abbrev FM := List SV → Option (R × List SV)
/-- the promise of a def whose data-level meaning is f -/
def spD (G : Gm) (np : Nat) (f : FM) : Sp := fun vs H Q _ => ∃ (T : Ty) (svs : List SV) (r : R) (os : List SV), Good G T H ∧ ArgsOk G T H vs svs ∧ svs.length = np ∧ f svs = some (r, os) ∧
  ∀ T' H' v, Step G T H T' H' (RtArg vs svs) → ResF G T' H H' v r → OutsOk G T' H' vs os → Q v H'
/-- what the borrowed ones are at the end -/
def outsD : List SV → DSt → Option (List SV)
  | [], _ => some []
  | .imm d :: r, _ :: st => match outsD r st with
    | some os => some (.imm d :: os)
    | none => none
  | .rt _ _ :: r, some (.rt false d) :: st => match outsD r st with
    | some os => some (.rt false d :: os)
    | none => none
  | _, _ => none
def retD (st : DSt) : R → Option R
  | .imm d => some (.imm d)
  | .own d => some (.own d)
  | .slot i => match st[i]? with
    | some (some (.imm d)) => some (.imm d)
    | some (some (.rt true d)) => some (.own d)
    | _ => none
def endD (svs : List SV) (st : DSt) (r : R) : Option (R × List SV) := match retD st r with
  | none => none
  | some r' => match outsD svs st with
    | none => none
    | some os => some (r', os)
def runF (n : Nat) (body : MS) : FM := fun svs => match body (svs.map some ++ List.replicate (n - svs.length) none) with
  | some (.nx, s) => endD svs s (.imm .non)
  | some (.ret r, s) => endD svs s r
  | _ => none

theorem outsD_at : ∀ {svs : List SV} {st : DSt} {os : List SV}, outsD svs st = some os → ∀ (i : Nat) k d, os[i]? = some (.rt k d) → st[i]? = some (some (.rt false d))
  | [], st, os, h, i, k, d, e => by cases h; simp at e
  | .imm x :: r, y :: st, os, h, i, k, d, e => by
    unfold outsD at h
    split at h
    · rename_i os' h'
      cases h
      cases i with
      | zero => simp at e
      | succ i => simpa using outsD_at h' i k d (by simpa using e)
    · cases h
  | .imm x :: r, [], os, h, i, k, d, e => by simp [outsD] at h
  | .rt kk x :: r, [], os, h, i, k, d, e => by simp [outsD] at h
  | .rt kk x :: r, none :: st, os, h, i, k, d, e => by simp [outsD] at h
  | .rt kk x :: r, some (.imm z) :: st, os, h, i, k, d, e => by simp [outsD] at h
  | .rt kk x :: r, some (.rt true z) :: st, os, h, i, k, d, e => by simp [outsD] at h
  | .rt kk x :: r, some (.rt false z) :: st, os, h, i, k, d, e => by
    unfold outsD at h
    split at h
    · rename_i os' h'
      cases h
      cases i with
      | zero => simp at e; simp [e.2]
      | succ i => simpa using outsD_at h' i k d (by simpa using e)
    · cases h

section
variable {G : Gm} {T T1 T2 : Ty} {st st1 st2 : DSt} {σ σ1 σ2 : L2.St} {H H1 H2 : Hp} {v : V} {d : D} {r : R}

theorem args_get {vs : List V} {svs : List SV} (h : Paired (ArgOk G T H) vs svs) : ∀ {i : Nat} {sv : SV}, svs[i]? = some sv → ∃ v, vs[i]? = some v ∧ ArgOk G T H v sv := by
  induction h with
  | nil => intro i sv e; simp at e
  | cons a t ih =>
    intro i sv e
    cases i with
    | zero => simp at e; subst e; exact ⟨_, rfl, a⟩
    | succ j => obtain ⟨v, h1, h2⟩ := ih (by simpa using e); exact ⟨v, by simpa using h1, h2⟩
theorem start_get {svs : List SV} {n : Nat} {i : Nat} {sv : SV} (h : (svs.map some ++ List.replicate n none)[i]? = some (some sv)) : svs[i]? = some sv := by
  by_cases hi : i < svs.length
  · rw [List.getElem?_append_left (by simpa using hi), List.getElem?_map] at h
    cases e : svs[i]? with
    | none => rw [e] at h; cases h
    | some x => rw [e] at h; cases h; rfl
  · rw [List.getElem?_append_right (by simpa using hi), List.getElem?_replicate] at h
    split at h <;> cases h
theorem start_at {N : List Str} {vs : List V} {i : Nat} {v : V} (h : vs[i]? = some v) : (L2.start N vs)[i]? = some (some v) := by
  unfold L2.start
  have hi : i < vs.length := (List.getElem?_eq_some_iff.mp h).1
  rw [List.getElem?_append_left (by simpa using hi), List.getElem?_map, h]
  rfl
theorem start_back {N : List Str} {vs : List V} {i : Nat} {v : V} (h : (L2.start N vs)[i]? = some (some v)) : vs[i]? = some v := by
  unfold L2.start at h
  by_cases hi : i < vs.length
  · rw [List.getElem?_append_left (by simpa using hi), List.getElem?_map] at h
    cases e : vs[i]? with
    | none => rw [e] at h; cases h
    | some a => rw [e] at h; cases h; rfl
  · rw [List.getElem?_append_right (by simpa using hi), List.getElem?_replicate] at h
    split at h <;> cases h
/-- a body keeps the promise -/
theorem spd_body {N : List Str} {n : Nat} (hn : N.length = n) {np : Nat} {t : TS} {m : MS} (h : OkS G t m) {vs : List V} {Q : VK} {E : XK} (hs : spD G np (runF n m) vs H Q E) :
    t { nx := fun _ H' => Q .non H', rt := Q } (L2.start N vs) H := by
  obtain ⟨T, svs, r, os, gd, ar, hl, ef, k⟩ := hs
  have lv := ar.all.length
  have rl : Rel G T (svs.map some ++ List.replicate (n - svs.length) none) (L2.start N vs) H := by
    refine ⟨gd, ?_, fun i d e => ?_, fun i kk d e => ?_, fun i j k k' d d' a e e' q q' => ?_⟩
    · unfold L2.start; rw [List.length_append, List.length_append, List.length_map, List.length_map, List.length_replicate, List.length_replicate, hn]; omega
    · obtain ⟨v, h1, h2⟩ := args_get ar.all (start_get e)
      exact ⟨v, start_at h1, h2⟩
    · obtain ⟨v, h1, _, a, h2, h3⟩ := args_get ar.all (start_get e)
      subst h2
      exact ⟨a, start_at h1, h3⟩
    · exact ar.inj i j k k' d d' a (start_get e) (start_get e') (start_back q) (start_back q')
  have rr : ∀ a, Root (svs.map some ++ List.replicate (n - svs.length) none) (L2.start N vs) a → RtArg vs svs a := fun a ⟨i, k, d, h1, h2⟩ => ⟨i, k, d, start_get h1, start_back h2⟩
  have noO : ∀ a, ¬ RootO (svs.map some ++ List.replicate (n - svs.length) none) (L2.start N vs) a := fun a ⟨i, d, h1, h2⟩ => by
    obtain ⟨v, _, hk, _⟩ := args_get ar.all (start_get h1)
    cases hk
  have fin : ∀ {T' : Ty} {st' : DSt} {σ' : L2.St} {H' : Hp} {v : V} {r0 : R}, SStep G T (svs.map some ++ List.replicate (n - svs.length) none) (L2.start N vs) H T' st' σ' H' → ResOk G T' st' σ' H H' v r0 → endD svs st' r0 = some (r, os) → Q v H' := by
    intro T' st' σ' H' v r0 S R0 ee
    unfold endD at ee
    split at ee
    · cases ee
    · rename_i r' er
      split at ee
      · cases ee
      · rename_i os' eo
        cases ee
        refine k T' H' v (S.step.mono rr) ?_ ⟨fun i kk d e => ?_⟩
        · cases r0 with
          | imm d => cases er; exact R0
          | own d => cases er; exact R0
          | slot i =>
            obtain ⟨h1, sv, h2⟩ := R0
            unfold retD at er
            dsimp only at er
            split at er
            · rename_i d e
              cases er
              obtain ⟨w, h3, h4⟩ := S.rel.imm i d e
              rw [h1] at h3; cases h3
              exact h4
            · rename_i d e
              cases er
              obtain ⟨a, h3, o⟩ := S.rel.rts i true d e
              rw [h1] at h3; cases h3
              rcases S.own i d a e h1 with z | z
              · exact ⟨a, rfl, z, o⟩
              · exact (noO a z).elim
            · cases er
        · have e2 := outsD_at eo i kk d e
          obtain ⟨a, h3, o⟩ := S.rel.rts i false d e2
          obtain ⟨_, h4⟩ := S.brw i d e2
          exact ⟨a, start_back (h4.symm.trans h3), o⟩
  unfold runF at ef
  split at ef
  · rename_i s e
    exact h T _ (L2.start N vs) H _ s rl e _ fun T' σ' H' S => fin S (show ResOk G T' s σ' H H' .non (.imm .non) from rfl) ef
  · rename_i r0 s e
    exact h T _ (L2.start N vs) H _ s rl e _ fun T' σ' H' v S R0 => fin S R0 ef
  · cases ef
theorem spd_len {np : Nat} {f : FM} {vs : List V} {Q : VK} {E : XK} (hs : spD G np f vs H Q E) : vs.length = np := by
  obtain ⟨T, svs, r, os, gd, ar, hl, _⟩ := hs
  rw [ar.all.length, hl]
end

/-- THE RULE for a def -/
theorem fn_ok {P : Program} {w : World} {mg : Str → Option Value} {base : Heap} {G : Gm} {x qual : Str} {s₀ : Stmt} {f : Addr} {fd : FuncData} {N ps : List Str} {k n np : Nat} {m : MS} (F : Fun G.K x qual s₀ f fd) (S : FnScope N ps (defScope s₀)) (hn : N.length = n) (hp : ps.length = np)
    (hb : ∀ (cdv : Value) (A : Around) (outer : List Env) (s : Shared) (H : Hp) (E : XK), Room k (A.deeper (envOfC qual (defScope s₀) s.heap.objs.size f cdv)) →
      ∃ t, PSs (cxOf CX0 P w G.K mg base N qual (defScope s₀) f cdv A outer s H E).nox (defBody s₀) t ∧ OkS G t m) : FnOk P w G.K mg base CX0 (k + 1) f fd ps (spD G np (runF n m)) :=
  F.ok S (fun vs H Q E h => by rw [hp]; exact spd_len h) fun cdv A outer s H vs Q E hr h => by
    obtain ⟨t, h1, h2⟩ := hb cdv A outer s H E hr
    exact ⟨t, h1, spd_body hn h2 h⟩

/-! ### calls -/
/-- an argument: a value that is kept, or a root that is lent -/
abbrev MCa := DSt → Option (List R × DSt)
def CaOk (G : Gm) (T : Ty) (σ : L2.St) (v : V) : R → Prop
  | .imm d => RepT G T v d
  | .slot i => σ[i]? = some (some v)
  | .own _ => False
def OkCa (G : Gm) (n : Nat) (t : TA) (m : MCa) : Prop := ∀ (T : Ty) (st : DSt) (σ : L2.St) (H : Hp) (rs : List R) (st' : DSt), Rel G T st σ H → m st = some (rs, st') →
  ∀ Q : List V → Hp → Prop, (∀ T' vs H', EStep G T st σ H T' st' H' → Paired (CaOk G T' σ) vs rs → rs.length = n → Q vs H') → t σ H Q
def cNil : MCa := fun st => some ([], st)
def cVal (a : M) (b : MCa) : MCa := fun st => match a st with
  | none => none
  | some (r, s1) => match freeze s1 r with
    | none => none
    | some (d, s2) => match b s2 with
      | none => none
      | some (rs, s3) => some (.imm d :: rs, s3)
def cIo (i : Nat) (b : MCa) : MCa := fun st => match st[i]? with
  | some (some (.rt _ _)) => match b st with
    | none => none
    | some (rs, s3) => some (.slot i :: rs, s3)
  | _ => none
section
variable {G : Gm} {T T1 T2 : Ty} {st st1 st2 : DSt} {σ σ1 σ2 : L2.St} {H H1 H2 : Hp} {v : V} {d : D} {r : R}
theorem CaOk.mono (s : Sub T T1) (h : CaOk G T σ v r) : CaOk G T1 σ v r := by
  cases r with
  | imm d => exact RepT.mono s h
  | slot i => exact h
  | own d => exact h
theorem ok_cnil : OkCa G 0 tNil cNil := by
  intro T st σ H rs st' rl e Q k
  cases e
  exact k T [] H (EStep.refl rl) .nil rfl
theorem ok_cval {n : Nat} {ta : TE} {tb : TA} {a : M} {b : MCa} (ha : OkE G ta a) (hb : OkCa G n tb b) : OkCa G (n + 1) (tCons ta tb) (cVal a b) := by
  intro T st σ H rs st' rl e Q k
  unfold cVal at e
  split at e
  · cases e
  · rename_i r s1 e1
    split at e
    · cases e
    · rename_i d s2 e2
      split at e
      · cases e
      · rename_i rs' s3 e3
        cases e
        refine ha T st σ H r s1 rl e1 _ fun T1 v1 H1 E1 R1 => ?_
        obtain ⟨T2, E2, R2⟩ := ok_freeze rl E1 R1 e2
        exact hb T2 s2 σ H1 rs' _ E2.rel e3 _ fun T3 vs H3 E3 R3 hn => k T3 (v1 :: vs) H3 (E2.trans E3) (.cons (show CaOk G T3 σ v1 (.imm d) from RepT.mono E3.step.sub R2) R3) (by rw [List.length_cons, hn])
theorem ok_cio {n i : Nat} {tb : TA} {b : MCa} (hb : OkCa G n tb b) : OkCa G (n + 1) (tCons (tVar i) tb) (cIo i b) := by
  intro T st σ H rs st' rl e Q k
  unfold cIo at e
  split at e
  · rename_i kk d h
    split at e
    · cases e
    · rename_i rs' s3 e3
      cases e
      obtain ⟨a, h1, o⟩ := rl.rts i kk d h
      refine ⟨.ref a, h1, ?_⟩
      exact hb T st σ H rs' _ rl e3 _ fun T3 vs H3 E3 R3 hn => k T3 (.ref a :: vs) H3 E3 (.cons h1 R3) (by rw [List.length_cons, hn])
  · cases e
/-- what the callee gets -/
def svsD (st : DSt) : List R → Option (List SV)
  | [] => some []
  | .imm d :: rs => match svsD st rs with
    | some svs => some (.imm d :: svs)
    | none => none
  | .slot i :: rs => match st[i]? with
    | some (some (.rt _ d)) => match svsD st rs with
      | some svs => some (.rt false d :: svs)
      | none => none
    | _ => none
  | .own _ :: _ => none
def slotsD : List R → List Nat
  | [] => []
  | .slot i :: rs => i :: slotsD rs
  | _ :: rs => slotsD rs
/-- the lent ones come back -/
def backD : List R → List SV → DSt → Option DSt
  | [], [], st => some st
  | .imm _ :: rs, .imm _ :: os, st => backD rs os st
  | .slot i :: rs, .rt _ d :: os, st => match st[i]? with
    | some (some (.rt k _)) => backD rs os (st.set i (some (.rt k d)))
    | _ => none
  | _, _, _ => none
def noDup : List Nat → Bool
  | [] => true
  | x :: xs => !xs.contains x && noDup xs
theorem noDup_iff : ∀ {l : List Nat}, noDup l = true → l.Nodup
  | [], _ => List.nodup_nil
  | x :: xs, h => by
    simp only [noDup, Bool.and_eq_true, Bool.not_eq_true', List.contains_eq_mem, decide_eq_false_iff_not] at h
    exact List.nodup_cons.mpr ⟨h.1, noDup_iff h.2⟩
def mCall (f : FM) (a : MCa) : M := fun st => match a st with
  | none => none
  | some (rs, s) => match svsD s rs with
    | none => none
    | some svs => if noDup (slotsD rs) = true then match f svs with
      | none => none
      | some (r, os) => match r with
        | .slot _ => none
        | r => match backD rs os s with
          | none => none
          | some s' => some (r, s')
      else none
theorem svsD_at : ∀ {rs : List R} {svs : List SV}, svsD st rs = some svs → ∀ (i : Nat) sv, svs[i]? = some sv → (∃ d, sv = .imm d ∧ rs[i]? = some (.imm d)) ∨ ∃ j k d, sv = .rt false d ∧ rs[i]? = some (.slot j) ∧ st[j]? = some (some (.rt k d))
  | [], svs, h, i, sv, e => by cases h; simp at e
  | .imm d :: rs, svs, h, i, sv, e => by
    unfold svsD at h
    split at h
    · rename_i s' h'
      cases h
      cases i with
      | zero => simp at e; exact .inl ⟨d, e.symm, rfl⟩
      | succ i => simpa using svsD_at h' i sv (by simpa using e)
    · cases h
  | .slot j :: rs, svs, h, i, sv, e => by
    unfold svsD at h
    split at h
    · rename_i k d hj
      split at h
      · rename_i s' h'
        cases h
        cases i with
        | zero => simp at e; exact .inr ⟨j, k, d, e.symm, rfl, hj⟩
        | succ i => simpa using svsD_at h' i sv (by simpa using e)
      · cases h
    · cases h
  | .own _ :: _, svs, h, i, sv, e => by simp [svsD] at h
theorem svsD_len : ∀ {rs : List R} {svs : List SV}, svsD st rs = some svs → svs.length = rs.length
  | [], svs, h => by cases h; rfl
  | .imm d :: rs, svs, h => by
    unfold svsD at h
    split at h
    · rename_i s' h'; cases h; rw [List.length_cons, List.length_cons, svsD_len h']
    · cases h
  | .slot j :: rs, svs, h => by
    unfold svsD at h
    split at h
    · split at h
      · rename_i s' h'; cases h; rw [List.length_cons, List.length_cons, svsD_len h']
      · cases h
    · cases h
  | .own _ :: _, svs, h => by simp [svsD] at h
theorem mem_slots : ∀ {rs : List R} {i j : Nat}, rs[i]? = some (.slot j) → j ∈ slotsD rs
  | [], _, _, h => by simp at h
  | .imm _ :: rs, 0, _, h => by simp at h
  | .own _ :: rs, 0, _, h => by simp at h
  | .slot k :: rs, 0, _, h => by simp at h; simp [slotsD, h]
  | .imm _ :: rs, i + 1, j, h => by simpa [slotsD] using mem_slots (rs := rs) (i := i) (j := j) (by simpa using h)
  | .own _ :: rs, i + 1, j, h => by simpa [slotsD] using mem_slots (rs := rs) (i := i) (j := j) (by simpa using h)
  | .slot k :: rs, i + 1, j, h => by
    have := mem_slots (rs := rs) (i := i) (j := j) (by simpa using h)
    simp [slotsD, this]
theorem slots_inj : ∀ {rs : List R} {i i' j : Nat}, (slotsD rs).Nodup → rs[i]? = some (.slot j) → rs[i']? = some (.slot j) → i = i'
  | [], _, _, _, _, h, _ => by simp at h
  | x :: rs, 0, 0, _, _, _, _ => rfl
  | .imm _ :: rs, i + 1, i' + 1, j, nd, h, h' => by rw [slots_inj (rs := rs) (i := i) (i' := i') (j := j) nd (by simpa using h) (by simpa using h')]
  | .own _ :: rs, i + 1, i' + 1, j, nd, h, h' => by rw [slots_inj (rs := rs) (i := i) (i' := i') (j := j) nd (by simpa using h) (by simpa using h')]
  | .slot k :: rs, i + 1, i' + 1, j, nd, h, h' => by rw [slots_inj (rs := rs) (i := i) (i' := i') (j := j) (List.nodup_cons.mp nd).2 (by simpa using h) (by simpa using h')]
  | .imm _ :: rs, 0, _, _, _, h, _ => by simp at h
  | .own _ :: rs, 0, _, _, _, h, _ => by simp at h
  | .imm _ :: rs, _, 0, _, _, _, h => by simp at h
  | .own _ :: rs, _, 0, _, _, _, h => by simp at h
  | .slot k :: rs, 0, i' + 1, j, nd, h, h' => by
    simp at h; subst h
    exact absurd (mem_slots (rs := rs) (i := i') (by simpa using h')) (List.nodup_cons.mp nd).1
  | .slot k :: rs, i + 1, 0, j, nd, h, h' => by
    simp at h'; subst h'
    exact absurd (mem_slots (rs := rs) (i := i) (by simpa using h)) (List.nodup_cons.mp nd).1
theorem backD_at : ∀ {rs : List R} {os : List SV} {st st' : DSt}, backD rs os st = some st' → (slotsD rs).Nodup → st'.length = st.length ∧ (∀ j, j ∉ slotsD rs → st'[j]? = st[j]?) ∧
    ∀ j, j ∈ slotsD rs → ∃ (i : Nat) (k kk : Bool) (d d' : D), rs[i]? = some (.slot j) ∧ os[i]? = some (.rt kk d') ∧ st[j]? = some (some (.rt k d)) ∧ st'[j]? = some (some (.rt k d'))
  | [], [], st, st', h, _ => by cases h; exact ⟨rfl, fun _ _ => rfl, fun j hj => by simp [slotsD] at hj⟩
  | [], _ :: _, _, _, h, _ => by simp [backD] at h
  | .imm _ :: rs, .imm _ :: os, st, st', h, nd => by
    obtain ⟨h1, h2, h3⟩ := backD_at (rs := rs) (os := os) (st := st) (st' := st') (by simpa [backD] using h) nd
    refine ⟨h1, h2, fun j hj => ?_⟩
    obtain ⟨i, k, kk, d, d', q1, q2, q3, q4⟩ := h3 j hj
    exact ⟨i + 1, k, kk, d, d', by simpa using q1, by simpa using q2, q3, q4⟩
  | .imm _ :: rs, .rt _ _ :: os, st, st', h, nd => by simp [backD] at h
  | .imm _ :: rs, [], st, st', h, nd => by simp [backD] at h
  | .slot i :: rs, [], st, st', h, nd => by simp [backD] at h
  | .slot i :: rs, .imm _ :: os, st, st', h, nd => by simp [backD] at h
  | .own _ :: rs, os, st, st', h, nd => by cases os <;> simp [backD] at h
  | .slot i :: rs, .rt kk d :: os, st, st', h, nd => by
    unfold backD at h
    split at h
    · rename_i k d0 hi
      have hil : i < st.length := (List.getElem?_eq_some_iff.mp hi).1
      have nd : (i :: slotsD rs).Nodup := nd
      obtain ⟨nd1, nd2⟩ := List.nodup_cons.mp nd
      obtain ⟨h1, h2, h3⟩ := backD_at h nd2
      refine ⟨by rw [h1, List.length_set], fun j hj => ?_, fun j hj => ?_⟩
      · have hj : j ∉ i :: slotsD rs := hj
        have n1 : i ≠ j := fun z => hj (by simp [z])
        have n2 : j ∉ slotsD rs := fun z => hj (by simp [z])
        rw [h2 j n2, List.getElem?_set_ne n1]
      · rcases List.mem_cons.mp (show j ∈ i :: slotsD rs from hj) with e | hj
        · subst e
          exact ⟨0, k, kk, d0, d, rfl, rfl, hi, by rw [h2 j nd1, List.getElem?_set_self hil]⟩
        · obtain ⟨i', k', kk', e, e', q1, q2, q3, q4⟩ := h3 j hj
          have n1 : i ≠ j := fun z => nd1 (z ▸ hj)
          rw [List.getElem?_set_ne n1] at q3
          exact ⟨i' + 1, k', kk', e, e', by simpa using q1, by simpa using q2, q3, q4⟩
    · cases h
theorem pget {α β : Type} {F : α → β → Prop} {l₁ : List α} {l₂ : List β} (h : Paired F l₁ l₂) : ∀ {j : Nat} {x : β}, l₂[j]? = some x → ∃ y, l₁[j]? = some y ∧ F y x := by
  induction h with
  | nil => intro j x e; simp at e
  | cons a t ih =>
    intro j x e
    cases j with
    | zero => simp at e; subst e; exact ⟨_, rfl, a⟩
    | succ j => obtain ⟨y, h1, h2⟩ := ih (by simpa using e); exact ⟨y, by simpa using h1, h2⟩
theorem paired_of {α β : Type} {F : α → β → Prop} : ∀ {l₁ : List α} {l₂ : List β}, l₁.length = l₂.length → (∀ (i : Nat) x y, l₁[i]? = some x → l₂[i]? = some y → F x y) → Paired F l₁ l₂
  | [], [], _, _ => .nil
  | a :: l₁, b :: l₂, h, f => .cons (f 0 a b rfl rfl) (paired_of (by simpa using h) fun i x y h1 h2 => f (i + 1) x y (by simpa using h1) (by simpa using h2))
  | [], _ :: _, h, _ => by simp at h
  | _ :: _, [], h, _ => by simp at h
theorem ok_call {np n : Nat} {f : FM} {ta : TA} {a : MCa} {E : XK} (ha : OkCa G n ta a) (hnp : n = np) : OkE G (tCall (spD G np f) [] E ta) (mCall f a) := by
  intro T st σ H r st' rl e Q k
  unfold mCall at e
  split at e
  · cases e
  · rename_i rs s e1
    split at e
    · cases e
    · rename_i svs e2
      split at e
      · rename_i nd
        have nd := noDup_iff nd
        split at e
        · cases e
        · rename_i r0 os e3
          refine ha T st σ H rs s rl e1 _ fun T1 vs H1 E1 R1 hl => ?_
          have lvs := R1.length
          have lsv := svsD_len e2
          have AO : ArgsOk G T1 H1 vs svs := by
            refine ⟨paired_of (by rw [lvs, lsv]) fun i x y h1 h2 => ?_, fun i j kk k' d d' b h1 h2 q1 q2 => ?_⟩
            · rcases svsD_at e2 i y h2 with ⟨d, rfl, h3⟩ | ⟨j, kk, d, rfl, h3, h4⟩
              · obtain ⟨w, h5, h6⟩ := pget R1 h3
                rw [h1] at h5; cases h5
                exact h6
              · obtain ⟨w, h5, h6⟩ := pget R1 h3
                rw [h1] at h5; cases h5
                obtain ⟨b, h7, o⟩ := E1.rel.rts j kk d h4
                have h6 : σ[j]? = some (some x) := h6
                rw [h6] at h7; cases h7
                exact ⟨rfl, b, rfl, o⟩
            · rcases svsD_at e2 i _ h1 with ⟨_, z, _⟩ | ⟨m1, k1, d1, z1, h3, h4⟩
              · cases z
              · rcases svsD_at e2 j _ h2 with ⟨_, z, _⟩ | ⟨m2, k2, d2, z2, h5, h6⟩
                · cases z
                · obtain ⟨w, h7, h8⟩ := pget R1 h3
                  rw [q1] at h7; cases h7
                  obtain ⟨w, h9, h10⟩ := pget R1 h5
                  rw [q2] at h9; cases h9
                  have := E1.rel.inj m1 m2 k1 k2 d1 d2 b h4 h6 h8 h10
                  subst this
                  exact slots_inj nd h3 h5
          have rr : ∀ b, RtArg vs svs b → ∃ m kk d, m ∈ slotsD rs ∧ s[m]? = some (some (.rt kk d)) ∧ σ[m]? = some (some (.ref b)) := fun b ⟨i, kk, d, h1, h2⟩ => by
            rcases svsD_at e2 i _ h1 with ⟨_, z, _⟩ | ⟨m1, k1, d1, z1, h3, h4⟩
            · cases z
            · obtain ⟨w, h7, h8⟩ := pget R1 h3
              rw [h2] at h7; cases h7
              exact ⟨m1, k1, d1, mem_slots h3, h4, h8⟩
          show spD G np f (vs ++ []) H1 Q E
          rw [List.append_nil]
          refine ⟨T1, svs, r0, os, E1.rel.good, AO, by rw [lsv, hl, hnp], e3, fun T' H' v S RF OO => ?_⟩
          -- the state behind the call
          have core : ∀ s', backD rs os s = some s' → EStep G T1 s σ H1 T' s' H' := fun s' eb => by
            obtain ⟨b1, b2, b3⟩ := backD_at eb nd
            have own : ∀ (j : Nat) kk d, s'[j]? = some (some (.rt kk d)) → ∃ d0 a, s[j]? = some (some (.rt kk d0)) ∧ σ[j]? = some (some (.ref a)) ∧ Own G T' H' a d := fun j kk d h => by
              by_cases hj : j ∈ slotsD rs
              · obtain ⟨i, k', kk', d0, d', q1, q2, q3, q4⟩ := b3 j hj
                rw [h] at q4; cases q4
                obtain ⟨a, h1, o⟩ := OO.at_ i kk' d q2
                obtain ⟨w, h2, h3⟩ := pget R1 q1
                rw [h1] at h2; cases h2
                exact ⟨d0, a, q3, h3, o⟩
              · rw [b2 j hj] at h
                obtain ⟨a, h1, o⟩ := E1.rel.rts j kk d h
                refine ⟨d, a, h, h1, o.step S fun z => ?_⟩
                obtain ⟨m, k', d', hm, h2, h3⟩ := rr a z
                exact hj (E1.rel.inj j m kk k' d d' a h h2 h1 h3 ▸ hm)
            refine ⟨⟨S.good, by rw [b1]; exact E1.rel.len, fun j d h => ?_, fun j kk d h => ?_, fun i j k1 k2 d d' a h h' q q' => ?_⟩, S.mono fun b z => ?_, fun j kk d h => ?_, fun j sv h => ?_⟩
            · by_cases hj : j ∈ slotsD rs
              · obtain ⟨i, k', kk', d0, d', q1, q2, q3, q4⟩ := b3 j hj
                rw [h] at q4; cases q4
              · rw [b2 j hj] at h
                obtain ⟨w, h1, h2⟩ := E1.rel.imm j d h
                exact ⟨w, h1, h2.mono S.sub⟩
            · obtain ⟨d0, a, _, h1, o⟩ := own j kk d h
              exact ⟨a, h1, o⟩
            · obtain ⟨e1', _, h1, _, _⟩ := own i k1 d h
              obtain ⟨e2', _, h2, _, _⟩ := own j k2 d' h'
              exact E1.rel.inj i j k1 k2 e1' e2' a h1 h2 q q'
            · obtain ⟨m, kk, d, _, h1, h2⟩ := rr b z
              exact ⟨m, kk, d, h1, h2⟩
            · obtain ⟨d0, _, h1, _, _⟩ := own j kk d h
              exact ⟨d0, h1⟩
            · by_cases hj : j ∈ slotsD rs
              · obtain ⟨i, k', kk', d0, d', q1, q2, q3, q4⟩ := b3 j hj
                exact ⟨_, q4⟩
              · exact ⟨sv, by rw [b2 j hj]; exact h⟩
          cases r0 with
          | slot i => cases e
          | imm d =>
            dsimp only at e
            split at e
            · cases e
            · rename_i s' eb
              cases e
              exact k T' v H' (E1.trans (core _ eb)) RF
          | own d =>
            dsimp only at e
            split at e
            · cases e
            · rename_i s' eb
              cases e
              obtain ⟨b, h1, h2, o⟩ := RF
              exact k T' v H' (E1.trans (core _ eb)) ⟨b, h1, none_of E1.step.dom h2, o⟩
      · cases e
end
end LD

/-! Layer D: roots written (append, extend, pop, xs[i] = e), built-ins, comparisons. -/
namespace LD
open PySem PySem.Spec PyProof.Rows L2

section
variable {G : Gm} {T T1 T2 : Ty} {st st1 st2 : DSt} {σ σ1 σ2 : L2.St} {H H1 H2 : Hp} {v : V} {d : D} {r : R}

/-- the root in slot i is written -/
theorem rel_write {i : Nat} {k : Bool} {a : Addr} {o : HO} {d' : D} (rl : Rel G T st σ H) (h : st[i]? = some (some (.rt k d))) (h2 : σ[i]? = some (some (.ref a))) (ow : Own G T H a d)
    (sh : Shape G T (upd H a o) a d') (mu : Mut (some o)) : EStep G T st σ H T (st.set i (some (.rt k d'))) (upd H a o) := by
  have hi : i < st.length := (List.getElem?_eq_some_iff.mp h).1
  have S : Step G T H T (upd H a o) (Root st σ) := Step.write rl.good ow.ty ⟨i, k, d, h, h2⟩ o
  refine ⟨⟨S.good, by rw [List.length_set]; exact rl.len, fun j e q => ?_, fun j kk e q => ?_, fun j j' kk k' e e' b q q' p p' => ?_⟩, S, fun j kk e q => ?_, fun j sv q => ?_⟩
  · by_cases ij : i = j
    · subst ij; rw [List.getElem?_set_self hi] at q; cases q
    · rw [List.getElem?_set_ne ij] at q; exact rl.imm j e q
  · by_cases ij : i = j
    · subst ij
      rw [List.getElem?_set_self hi] at q
      cases q
      exact ⟨a, h2, ow.ty, sh, by rw [upd_same]; exact mu⟩
    · rw [List.getElem?_set_ne ij] at q
      obtain ⟨b, h3, o'⟩ := rl.rts j kk e q
      have ab : b ≠ a := fun z => ij (rl.inj i j _ _ _ _ a h q h2 (z ▸ h3))
      exact ⟨b, h3, o'.ty, o'.sh.mono (Sub.refl T) (upd_ne ab), by rw [upd_ne ab]; exact o'.mu⟩
  · have back : ∀ {j : Nat} {kk : Bool} {e : D}, (st.set i (some (SV.rt k d')))[j]? = some (some (SV.rt kk e)) → ∃ e0 : D, st[j]? = some (some (SV.rt kk e0)) := fun {j kk e} q => by
      by_cases ij : i = j
      · subst ij; rw [List.getElem?_set_self hi] at q; cases q; exact ⟨d, h⟩
      · rw [List.getElem?_set_ne ij] at q; exact ⟨e, q⟩
    obtain ⟨e0, q0⟩ := back q
    obtain ⟨e1, q1⟩ := back q'
    exact rl.inj j j' kk k' e0 e1 b q0 q1 p p'
  · by_cases ij : i = j
    · subst ij; rw [List.getElem?_set_self hi] at q; cases q; exact ⟨d, h⟩
    · rw [List.getElem?_set_ne ij] at q; exact ⟨e, q⟩
  · by_cases ij : i = j
    · subst ij; exact ⟨_, List.getElem?_set_self hi⟩
    · exact ⟨sv, by rw [List.getElem?_set_ne ij]; exact q⟩

/-- a slot that holds a list -/
def isL (st : DSt) (i : Nat) : Bool := match st[i]? with
  | some (some (.rt _ (.lst _))) => true
  | _ => false
theorem isL_of {i : Nat} (rl : Rel G T st σ H) (h : isL st i = true) : ∃ a xs, σ[i]? = some (some (.ref a)) ∧ H a = some (.lst xs) := by
  unfold isL at h
  split at h
  · rename_i k ds e
    obtain ⟨a, h1, o⟩ := rl.rts i k _ e
    obtain ⟨vs, h2, _⟩ := o.lst
    exact ⟨a, vs, h1, h2⟩
  · cases h
/-- xs.append(e) -/
def mApp (i : Nat) (m : M) : M := fun st => if isL st i = true then match m st with
    | none => none
    | some (r, s1) => match freeze s1 r with
      | none => none
      | some (d, s2) => match s2[i]? with
        | some (some (.rt k (.lst xs))) => if xs.length < sizeLine then some (.imm .non, s2.set i (some (.rt k (.lst (xs ++ [d]))))) else none
        | _ => none
  else none
theorem ok_app {i : Nat} {t : TE} {m : M} (hm : OkE G t m) : OkE G (tBM G.K "list" rAppend (tVar i) (tCons t tNil)) (mApp i m) := by
  intro T st σ H r st' rl e Q k
  unfold mApp at e
  split at e
  · rename_i hl
    obtain ⟨a, vs0, ha, hv0⟩ := isL_of rl hl
    split at e
    · cases e
    · rename_i r0 s1 e1
      split at e
      · cases e
      · rename_i d s2 e2
        split at e
        · rename_i kk xs e3
          split at e
          · rename_i hz
            cases e
            refine ⟨.ref a, ha, .inl ⟨rfl, vs0, .of hv0⟩, ?_⟩
            refine hm T st σ H r0 s1 rl e1 _ fun T1 v1 H1 E1 R1 => ?_
            obtain ⟨T2, E2, R2⟩ := ok_freeze rl E1 R1 e2
            obtain ⟨b, hb, o⟩ := E2.rel.rts i kk _ e3
            rw [ha] at hb; cases hb
            obtain ⟨vs, hv, rv, z⟩ := o.lst
            have hlen := rv.length
            refine ⟨a, vs, v1, rfl, rfl, hv, by omega, ?_⟩
            have W := rel_write E2.rel e3 ha o (o := .lst (vs ++ [v1])) (d' := .lst (xs ++ [d])) ⟨_, upd_same, reps_app rv (.cons R2 .nil), by rw [List.length_append]; show xs.length + 1 ≤ _; omega⟩ trivial
            exact k T2 .non _ (E2.trans W) rfl
          · cases e
        · cases e
  · cases e
/-- xs.extend(e), e a list -/
def mExt (i : Nat) (m : M) : M := fun st => if isL st i = true then match m st with
    | none => none
    | some (r, s1) => match cont s1 r with
      | some (.lst ds) => match s1[i]? with
        | some (some (.rt k (.lst xs))) => if xs.length + ds.length ≤ sizeLine then some (.imm .non, s1.set i (some (.rt k (.lst (xs ++ ds))))) else none
        | _ => none
      | _ => none
  else none
theorem ok_ext {i : Nat} {t : TE} {m : M} (hm : OkE G t m) : OkE G (tBM G.K "list" rExtend (tVar i) (tCons t tNil)) (mExt i m) := by
  intro T st σ H r st' rl e Q k
  unfold mExt at e
  split at e
  · rename_i hl
    obtain ⟨a, vs0, ha, hv0⟩ := isL_of rl hl
    split at e
    · cases e
    · rename_i r0 s1 e1
      split at e
      · rename_i ds e2
        split at e
        · rename_i kk xs e3
          split at e
          · rename_i hz
            cases e
            refine ⟨.ref a, ha, .inl ⟨rfl, vs0, .of hv0⟩, ?_⟩
            refine hm T st σ H r0 s1 rl e1 _ fun T1 v1 H1 E1 R1 => ?_
            obtain ⟨c, ws, rfl, _, hw, rw', zw⟩ := (sees_of E1.rel R1 e2).lst E1.rel.good
            obtain ⟨b, hb, o⟩ := E1.rel.rts i kk _ e3
            rw [ha] at hb; cases hb
            obtain ⟨vs, hv, rv, z⟩ := o.lst
            have l1 := rv.length
            have l2 := rw'.length
            refine ⟨a, c, vs, ws, rfl, rfl, hv, hw, by omega, ?_⟩
            have W := rel_write E1.rel e3 ha o (o := .lst (vs ++ ws)) (d' := .lst (xs ++ ds)) ⟨_, upd_same, reps_app rv rw', by rw [List.length_append]; omega⟩ trivial
            exact k T1 .non _ (E1.trans W) rfl
          · cases e
        · cases e
      · cases e
  · cases e
/-- xs.pop() -/
def mPop (i : Nat) : M := fun st => match st[i]? with
  | some (some (.rt k (.lst xs))) => match xs[xs.length - 1]? with
    | some d => some (.imm d, st.set i (some (.rt k (.lst xs.dropLast))))
    | none => none
  | _ => none
theorem reps_dropLast {vs : List V} {ds : List D} (h : Reps G T vs ds) : Reps G T vs.dropLast ds.dropLast := by
  rw [List.dropLast_eq_take, List.dropLast_eq_take, h.length]
  exact reps_take h _
theorem ok_pop {i : Nat} : OkE G (tBM0 G.K "list" rPop (tVar i)) (mPop i) := by
  intro T st σ H r st' rl e Q k
  unfold mPop at e
  split at e
  · rename_i kk xs e3
    split at e
    · rename_i d ed
      cases e
      obtain ⟨a, ha, o⟩ := rl.rts i kk _ e3
      obtain ⟨vs, hv, rv, z⟩ := o.lst
      obtain ⟨y, h1, h2⟩ := reps_ix rv ed
      refine ⟨.ref a, ha, .inl ⟨rfl, vs, .of hv⟩, a, vs, y, rfl, rfl, hv, by rw [rv.length]; exact h1, ?_⟩
      have W := rel_write rl e3 ha o (o := .lst vs.dropLast) (d' := .lst xs.dropLast) ⟨_, upd_same, reps_dropLast rv, by rw [List.length_dropLast]; omega⟩ trivial
      exact k T y _ W h2
    · cases e
  · cases e
/-- xs.pop(i) -/
def mPopAt (i : Nat) (m : M) : M := fun st => if isL st i = true then match m st with
    | some (.imm (.int j), s1) => match s1[i]? with
      | some (some (.rt k (.lst xs))) => if -(2 ^ 63) ≤ j ∧ j < 2 ^ 63 then match ixN xs.length j with
        | some n => match xs[n]? with
          | some d => some (.imm d, s1.set i (some (.rt k (.lst (xs.eraseIdx n)))))
          | none => none
        | none => none
        else none
      | _ => none
    | _ => none
  else none
theorem reps_erase {vs : List V} {ds : List D} (h : Reps G T vs ds) : ∀ n : Nat, Reps G T (vs.eraseIdx n) (ds.eraseIdx n) := by
  induction h with
  | nil => intro n; exact .nil
  | cons a t ih => intro n; cases n with
    | zero => exact t
    | succ n => exact .cons a (ih n)
theorem ok_popAt {i : Nat} {t : TE} {m : M} (hm : OkE G t m) : OkE G (tBM G.K "list" rPopAt (tVar i) (tCons t tNil)) (mPopAt i m) := by
  intro T st σ H r st' rl e Q k
  unfold mPopAt at e
  split at e
  · rename_i hl
    obtain ⟨a, vs0, ha, hv0⟩ := isL_of rl hl
    split at e
    · rename_i j s1 e1
      split at e
      · rename_i kk xs e3
        split at e
        · rename_i hj
          split at e
          · rename_i n en
            split at e
            · rename_i d ed
              cases e
              refine ⟨.ref a, ha, .inl ⟨rfl, vs0, .of hv0⟩, ?_⟩
              refine hm T st σ H _ s1 rl e1 _ fun T1 v1 H1 E1 R1 => ?_
              have ev := (Sees.of_rep (H := H1) R1).int E1.rel.good
              subst ev
              obtain ⟨b, hb, o⟩ := E1.rel.rts i kk _ e3
              rw [ha] at hb; cases hb
              obtain ⟨vs, hv, rv, z⟩ := o.lst
              obtain ⟨y, h1, h2⟩ := reps_ix rv ed
              refine ⟨a, vs, j, n, y, rfl, rfl, hv, hj.1, hj.2, by rw [rv.length]; exact (ixN_seq en).1, h1, ?_⟩
              have W := rel_write E1.rel e3 ha o (o := .lst (vs.eraseIdx n)) (d' := .lst (xs.eraseIdx n)) ⟨_, upd_same, reps_erase rv n, by
                have := len_erase xs n
                omega⟩ trivial
              exact k T1 y _ (E1.trans W) h2
            · cases e
          · cases e
        · cases e
      · cases e
    · cases e
  · cases e
/-- xs[j] = e as a target -/
def gIx (i : Nat) (m : M) : MG := fun d st => if isL st i = true then match m st with
  | some (.imm (.int j), s1) => match s1[i]? with
    | some (some (.rt k (.lst xs))) => match ixN xs.length j with
      | some n => some (s1.set i (some (.rt k (.lst (xs.set n d)))))
      | none => none
    | _ => none
  | _ => none
  else none
theorem reps_set {vs : List V} {ds : List D} (h : Reps G T vs ds) {v : V} {d : D} (r : RepT G T v d) : ∀ n : Nat, Reps G T (vs.set n v) (ds.set n d) := by
  induction h with
  | nil => intro n; exact .nil
  | cons a t ih => intro n; cases n with
    | zero => exact .cons r t
    | succ n => exact .cons a (ih n)
theorem ok_gIx' {i : Nat} {t : TE} {m : M} {r' : V → V → V → Hp → (Hp → Prop) → Prop} (hm : OkE G t m) (im : ∀ o i v H Q, rSetL o i v H Q → r' o i v H Q) : OkG G (gSub (tVar i) t r') (gIx i m) := by
  intro T st σ H v d st' rl rv0 e Q k
  unfold gIx at e
  split at e
  · rename_i hl
    obtain ⟨a, vs0, ha, hv0⟩ := isL_of rl hl
    split at e
    · rename_i j s1 e1
      split at e
      · rename_i kk xs e3
        split at e
        · rename_i n en
          cases e
          refine ⟨.ref a, ha, ?_⟩
          refine hm T st σ H _ s1 rl e1 _ fun T1 v1 H1 E1 R1 => ?_
          have ev := (Sees.of_rep (H := H1) R1).int E1.rel.good
          subst ev
          obtain ⟨b, hb, o⟩ := E1.rel.rts i kk _ e3
          rw [ha] at hb; cases hb
          obtain ⟨vs, hv, rv, z⟩ := o.lst
          refine im _ _ _ _ _ ⟨a, vs, j, n, rfl, rfl, hv, by rw [rv.length]; exact en, ?_⟩
          have W := rel_write E1.rel e3 ha o (o := .lst (vs.set n v)) (d' := .lst (xs.set n d)) ⟨_, upd_same, reps_set rv (rv0.mono E1.step.sub) n, by rw [List.length_set]; exact z⟩ trivial
          exact k T1 σ _ (E1.trans W).s
        · cases e
      · cases e
    · cases e
  · cases e
theorem ok_gIx {i : Nat} {t : TE} {m : M} (hm : OkE G t m) : OkG G (gSub (tVar i) t rSetL) (gIx i m) := ok_gIx' hm fun _ _ _ _ _ z => z
end
end LD

/-! Layer D: built-ins, comparisons, in. -/
namespace LD
open PySem PySem.Spec PyProof.Rows L2

/-! ### rules told by data -/
def r2 (G : Gm) (f : D → D → Option R) : R2 := fun x y H Q => ∃ (T : Ty) (dx dy : D) (res : R), Good G T H ∧ Sees G T H x dx ∧ Sees G T H y dy ∧ f dx dy = some res ∧ ∀ T' v H', NStep G T H T' H' → ResN G T' H H' v res → Q v H'
theorem ok_r2 {G : Gm} {f : D → D → Option R} : OkR2 G (r2 G f) f := fun T H x y dx dy res g sx sy e Q k => ⟨T, dx, dy, res, g, sx, sy, e, k⟩
def rB (G : Gm) (f : List D → Option R) : List V → Hp → VK → Prop := fun xs H Q => ∃ (T : Ty) (ds : List D) (res : R), Good G T H ∧ Paired (Sees G T H) xs ds ∧ f ds = some res ∧ ∀ T' v H', NStep G T H T' H' → ResN G T' H H' v res → Q v H'
theorem CallR.imp {X : Cx} {f : Value} {r r' : List V → Hp → VK → Prop} (h : CallR X f r) (i : ∀ xs H Q, r' xs H Q → r xs H Q) : CallR X f r' := fun pins s σ H xs us Q I rv q => h pins s σ H xs us Q I rv (i xs H Q q)
theorem OpR.imp {X : Cx} {f : Value → Value → Sem Value} {r r' : R2} (h : OpR X f r) (i : ∀ x y H Q, r' x y H Q → r x y H Q) : OpR X f r' := fun pins s σ H x y v u Q I rx ry q => h pins s σ H x y v u Q I rx ry (i x y H Q q)
theorem OpR.r2 {X : Cx} {G : Gm} {f : Value → Value → Sem Value} {r : R2} {g : D → D → Option R} (h : OpR X f r) (o : OkR2 G r g) : OpR X f (r2 G g) := LD.OpR.imp h fun x y H Q ⟨T, dx, dy, res, gd, sx, sy, e, k⟩ => o T H x y dx dy res gd sx sy e Q k

/-! ### arguments that are only read -/
abbrev ML := DSt → Option (List R × DSt)
def OkL (G : Gm) (n : Nat) (t : TA) (m : ML) : Prop := ∀ (T : Ty) (st : DSt) (σ : L2.St) (H : Hp) (rs : List R) (st' : DSt), Rel G T st σ H → m st = some (rs, st') →
  ∀ Q : List V → Hp → Prop, (∀ T' vs H', EStep G T st σ H T' st' H' → Paired (ResOk G T' st' σ H H') vs rs → rs.length = n → Q vs H') → t σ H Q
def lNil : ML := fun st => some ([], st)
def lCons (a : M) (b : ML) : ML := fun st => match a st with
  | none => none
  | some (r, s1) => match b s1 with
    | none => none
    | some (rs, s2) => some (r :: rs, s2)
section
variable {G : Gm} {T T1 T2 : Ty} {st st1 st2 : DSt} {σ σ1 σ2 : L2.St} {H H1 H2 : Hp} {v : V} {d : D} {r : R}
theorem ok_lnil : OkL G 0 tNil lNil := by
  intro T st σ H rs st' rl e Q k
  cases e
  exact k T [] H (EStep.refl rl) .nil rfl
theorem ok_lcons {n : Nat} {ta : TE} {tb : TA} {a : M} {b : ML} (ha : OkE G ta a) (hb : OkL G n tb b) : OkL G (n + 1) (tCons ta tb) (lCons a b) := by
  intro T st σ H rs st' rl e Q k
  unfold lCons at e
  split at e
  · cases e
  · rename_i r s1 e1
    split at e
    · cases e
    · rename_i rs' s2 e2
      cases e
      refine ha T st σ H r s1 rl e1 _ fun T1 v1 H1 E1 R1 => ?_
      refine hb T1 s1 σ H1 rs' _ E1.rel e2 _ fun T2 vs H2 E2 R2 hn => ?_
      exact k T2 (v1 :: vs) H2 (E1.trans E2) (.cons (R1.pass rl E1 E2) (Paired.mapP R2 fun _ _ q => q.back E1.step.dom)) (by rw [List.length_cons, hn])
def conts (st : DSt) : List R → Option (List D)
  | [] => some []
  | r :: rs => match cont st r with
    | none => none
    | some d => match conts st rs with
      | none => none
      | some ds => some (d :: ds)
theorem conts_sees {H₀ : Hp} (rl : Rel G T st σ H) {vs : List V} {rs : List R} (h : Paired (ResOk G T st σ H₀ H) vs rs) : ∀ {ds : List D}, conts st rs = some ds → Paired (Sees G T H) vs ds := by
  induction h with
  | nil => intro ds e; cases e; exact .nil
  | cons a t ih =>
    intro ds e
    unfold conts at e
    split at e
    · cases e
    · rename_i d ed
      split at e
      · cases e
      · rename_i ds' es
        cases e
        exact .cons (sees_of rl a ed) (ih es)
def mB (f : List D → Option R) (a : ML) : M := fun st => match a st with
  | none => none
  | some (rs, s) => match conts s rs with
    | none => none
    | some ds => match f ds with
      | none => none
      | some res => some (res, s)
theorem ok_b {n : Nat} {f : List D → Option R} {ta : TA} {a : ML} (ha : OkL G n ta a) : OkE G (tCB (rB G f) ta) (mB f a) := by
  intro T st σ H r st' rl e Q k
  unfold mB at e
  split at e
  · cases e
  · rename_i rs s e1
    split at e
    · cases e
    · rename_i ds ec
      split at e
      · cases e
      · rename_i res ef
        cases e
        refine ha T st σ H rs _ rl e1 _ fun T1 vs H1 E1 R1 hn => ?_
        exact ⟨T1, ds, r, E1.rel.good, conts_sees E1.rel R1 ec, ef, fun T2 v2 H2 N2 R2 => k T2 v2 H2 (E1.trans (E1.rel.ekeep N2)) (R2.res E1)⟩

theorem p1 {F : V → D → Prop} {xs : List V} {d : D} (h : Paired F xs [d]) : ∃ x, xs = [x] ∧ F x d := by
  cases h with
  | cons a t => cases t; exact ⟨_, rfl, a⟩
theorem p2 {F : V → D → Prop} {xs : List V} {d e : D} (h : Paired F xs [d, e]) : ∃ x y, xs = [x, y] ∧ F x d ∧ F y e := by
  cases h with
  | cons a t =>
    cases t with
    | cons b t => cases t; exact ⟨_, _, rfl, a, b⟩

/-! ### len, list, tuple, int, abs, sums -/
def dLen : List D → Option R
  | [.lst ds] => ri ds.length
  | [.tup ds] => ri ds.length
  | _ => none
def dList : List D → Option R
  | [.lst ds] => some (.own (.lst ds))
  | [.tup ds] => some (.own (.lst ds))
  | _ => none
def dTuple : List D → Option R
  | [.lst ds] => some (.imm (.tup ds))
  | [.tup ds] => some (.imm (.tup ds))
  | _ => none
def dInt : List D → Option R
  | [.int i] => ri i
  | [.bl b] => ri (if b then 1 else 0)
  | _ => none
def dAbs : List D → Option R
  | [.int i] => ri (if i < 0 then -i else i)
  | _ => none
def bls : List D → Option (List Bool)
  | [] => some []
  | .bl b :: ds => match bls ds with
    | some bs => some (b :: bs)
    | none => none
  | _ => none
def nums : List D → Option (List Int)
  | [] => some []
  | .int b :: ds => match nums ds with
    | some bs => some (b :: bs)
    | none => none
  | _ => none
def dAll : List D → Option R
  | [.lst ds] => match bls ds with
    | some bs => rb (bs.all id)
    | none => none
  | _ => none
def dAny : List D → Option R
  | [.lst ds] => match bls ds with
    | some bs => rb (bs.any id)
    | none => none
  | _ => none
def dSum : List D → Option R
  | [.lst ds] => match nums ds with
    | some ns => ri ns.sum
    | none => none
  | _ => none
theorem bls_eq : ∀ {ds : List D} {bs : List Bool}, bls ds = some bs → ds = bs.map D.bl
  | [], bs, h => by cases h; rfl
  | d :: ds, bs, h => by
    unfold bls at h
    split at h <;> try (cases h; done)
    · rename_i e1 e2; cases e2
    · rename_i b ds' e1
      cases e1
      split at h
      · rename_i bs' e2
        cases h
        rw [List.map_cons, ← bls_eq e2]
      · cases h
theorem nums_eq : ∀ {ds : List D} {bs : List Int}, nums ds = some bs → ds = bs.map D.int
  | [], bs, h => by cases h; rfl
  | d :: ds, bs, h => by
    unfold nums at h
    split at h <;> try (cases h; done)
    · rename_i e1 e2; cases e2
    · rename_i b ds' e1
      cases e1
      split at h
      · rename_i bs' e2
        cases h
        rw [List.map_cons, ← nums_eq e2]
      · cases h
theorem reps_bls (g : Good G T H) {bs : List Bool} : ∀ {vs : List V}, Reps G T vs (bs.map D.bl) → vs = bs.map V.bl := by
  induction bs with
  | nil => intro vs h; cases h; rfl
  | cons b bs ih =>
    intro vs h
    cases h with
    | cons a t => rw [(Sees.of_rep (H := H) a).bl g, ih t, List.map_cons]
theorem reps_nums (g : Good G T H) {bs : List Int} : ∀ {vs : List V}, Reps G T vs (bs.map D.int) → vs = bs.map V.int := by
  induction bs with
  | nil => intro vs h; cases h; rfl
  | cons b bs ih =>
    intro vs h
    cases h with
    | cons a t => rw [(Sees.of_rep (H := H) a).int g, ih t, List.map_cons]
section
variable {X : Cx}
theorem cr_len (hk : X.K = G.K := by rfl) : CallR X (.builtin "len") (rB G dLen) := by
  refine CallR.imp call_len_seq fun xs H Q h => ?_
  obtain ⟨T, ds, res, g, h, e, k⟩ := h
  unfold dLen at e
  split at e <;> try (cases e; done)
  · cases e
    obtain ⟨x, rfl, s⟩ := p1 h
    obtain ⟨a, vs, rfl, q, _, r, _⟩ := s.lst g
    exact ⟨a, vs, rfl, .inl (hk ▸ q), by rw [r.length]; exact one g k rfl⟩
  · cases e
    obtain ⟨x, rfl, s⟩ := p1 h
    obtain ⟨a, vs, rfl, q, _, r, _⟩ := s.tup g
    exact ⟨a, vs, rfl, .inr (hk ▸ q), by rw [r.length]; exact one g k rfl⟩
theorem cr_list (hk : X.K = G.K := by rfl) : CallR X (.type "list") (rB G dList) := by
  refine CallR.imp call_list_of fun xs H Q h => ?_
  obtain ⟨T, ds, res, g, h, e, k⟩ := h
  unfold dList at e
  split at e <;> try (cases e; done)
  · cases e
    obtain ⟨x, rfl, s⟩ := p1 h
    obtain ⟨a, vs, rfl, q, _, r, z⟩ := s.lst g
    exact ⟨a, vs, rfl, .inl (hk ▸ q), fun p hp => k T (.ref p) _ (Step.new g hp _) ⟨p, rfl, hp, own_new g hp r z⟩⟩
  · cases e
    obtain ⟨x, rfl, s⟩ := p1 h
    obtain ⟨a, vs, rfl, q, _, r, z⟩ := s.tup g
    exact ⟨a, vs, rfl, .inr (hk ▸ q), fun p hp => k T (.ref p) _ (Step.new g hp _) ⟨p, rfl, hp, own_new g hp r z⟩⟩
theorem cr_tuple (hk : X.K = G.K := by rfl) : CallR X (.type "tuple") (rB G dTuple) := by
  refine CallR.imp call_tuple_of fun xs H Q h => ?_
  obtain ⟨T, ds, res, g, h, e, k⟩ := h
  unfold dTuple at e
  split at e <;> try (cases e; done)
  · cases e
    obtain ⟨x, rfl, s⟩ := p1 h
    obtain ⟨a, vs, rfl, q, _, r, z⟩ := s.lst g
    exact ⟨a, vs, rfl, .inl ⟨hk ▸ q, fun p hp => k _ (.ref p) _ (Step.lay g hp _ (d := .tup _) ⟨vs, upd_same, r.mono (Sub.tset (g.free hp)), z⟩) (.inl tset_same)⟩⟩
  · cases e
    obtain ⟨x, rfl, s⟩ := p1 h
    obtain ⟨a, vs, rfl, q, _, r, z⟩ := s.tup g
    exact ⟨a, vs, rfl, .inr ⟨hk ▸ q, one g k s.tupT⟩⟩
theorem cr_int : CallR X (.type "int") (rB G dInt) := by
  refine CallR.imp call_int1 fun xs H Q h => ?_
  obtain ⟨T, ds, res, g, h, e, k⟩ := h
  unfold dInt at e
  split at e <;> try (cases e; done)
  · cases e
    obtain ⟨x, rfl, s⟩ := p1 h
    exact .inl ⟨_, by rw [s.int g], one g k rfl⟩
  · cases e
    obtain ⟨x, rfl, s⟩ := p1 h
    exact .inr ⟨_, by rw [s.bl g], one g k rfl⟩
theorem cr_abs : CallR X (.builtin "abs") (rB G dAbs) := by
  refine CallR.imp call_abs fun xs H Q h => ?_
  obtain ⟨T, ds, res, g, h, e, k⟩ := h
  unfold dAbs at e
  split at e <;> try (cases e; done)
  · cases e
    obtain ⟨x, rfl, s⟩ := p1 h
    exact ⟨_, by rw [s.int g], one g k rfl⟩
theorem cr_allD (hc : X.calm = true) (hk : X.K = G.K := by rfl) : CallR X (.builtin "all") (rB G dAll) := by
  refine CallR.imp (cr_all hc) fun xs H Q h => ?_
  obtain ⟨T, ds, res, g, h, e, k⟩ := h
  unfold dAll at e
  split at e <;> try (cases e; done)
  · rename_i ds'
    split at e <;> try (cases e; done)
    rename_i bs eb
    cases e
    obtain ⟨x, rfl, s⟩ := p1 h
    obtain ⟨a, vs, rfl, q, _, r, z⟩ := s.lst g
    rw [bls_eq eb] at r
    rw [reps_bls g r] at q
    exact ⟨a, bs, rfl, hk ▸ q, one g k rfl⟩
theorem cr_anyD (hc : X.calm = true) (hk : X.K = G.K := by rfl) : CallR X (.builtin "any") (rB G dAny) := by
  refine CallR.imp (cr_any hc) fun xs H Q h => ?_
  obtain ⟨T, ds, res, g, h, e, k⟩ := h
  unfold dAny at e
  split at e <;> try (cases e; done)
  · rename_i ds'
    split at e <;> try (cases e; done)
    rename_i bs eb
    cases e
    obtain ⟨x, rfl, s⟩ := p1 h
    obtain ⟨a, vs, rfl, q, _, r, z⟩ := s.lst g
    rw [bls_eq eb] at r
    rw [reps_bls g r] at q
    exact ⟨a, bs, rfl, hk ▸ q, one g k rfl⟩
theorem cr_sumD (hc : X.calm = true) (hk : X.K = G.K := by rfl) : CallR X (.builtin "sum") (rB G dSum) := by
  refine CallR.imp (cr_sum hc) fun xs H Q h => ?_
  obtain ⟨T, ds, res, g, h, e, k⟩ := h
  unfold dSum at e
  split at e <;> try (cases e; done)
  · rename_i ds'
    split at e <;> try (cases e; done)
    rename_i bs eb
    cases e
    obtain ⟨x, rfl, s⟩ := p1 h
    obtain ⟨a, vs, rfl, q, _, r, z⟩ := s.lst g
    rw [nums_eq eb] at r
    rw [reps_nums g r] at q
    exact ⟨a, bs, rfl, hk ▸ q, one g k rfl⟩
/-- max(a, b), min(a, b) of ints -/
def dMax2 : List D → Option R
  | [.int i, .int j] => ri (if j > i then j else i)
  | _ => none
def dMin2 : List D → Option R
  | [.int i, .int j] => ri (if j < i then j else i)
  | _ => none
theorem cr_max2 (hc : X.calm = true) : CallR X (.builtin "max") (rB G dMax2) := by
  refine CallR.imp (call_max2 hc) fun xs H Q h => ?_
  obtain ⟨T, ds, res, g, h, e, k⟩ := h
  unfold dMax2 at e
  split at e <;> try (cases e; done)
  · cases e
    obtain ⟨x, y, rfl, s, s'⟩ := p2 h
    exact ⟨_, _, by rw [s.int g, s'.int g], one g k rfl⟩
theorem cr_min2 (hc : X.calm = true) : CallR X (.builtin "min") (rB G dMin2) := by
  refine CallR.imp (call_min2 hc) fun xs H Q h => ?_
  obtain ⟨T, ds, res, g, h, e, k⟩ := h
  unfold dMin2 at e
  split at e <;> try (cases e; done)
  · cases e
    obtain ⟨x, y, rfl, s, s'⟩ := p2 h
    exact ⟨_, _, by rw [s.int g, s'.int g], one g k rfl⟩

/-! ### data compared -/
theorem reads_of {pins : List (Addr × Obj)} {s : Shared} (I : Inv X pins σ H s) (hk : X.K = G.K) (g : Good G T H) {u : Value} (c : PyData.canLay0 (toPy d) = true) (sv : Sees G T H v d) (ru : RelV v u) : ∃ as, Reads s.heap u (toPy d) as :=
  Dp.reads I (toPy d) v u (hk ▸ dp_of g d v c sv) ru
theorem toPys_map : ∀ ds : List D, toPys ds = ds.map toPy
  | [] => rfl
  | d :: ds => by rw [toPys, toPys_map ds, List.map_cons]
def isNone : PyData → Bool
  | .none => true
  | _ => false
/-- x < y and its like: data that are alike -/
def okLt (x y : D) : Bool := shp x && shp y && PySem.W.alike (toPy x) (toPy y) && !isNone (toPy x)
def ltD (x y : D) : Bool := PySem.W.dataLt (toPy x) (toPy y)
def dLtD (x y : D) : Option R := if okLt x y = true then rb (ltD x y) else none
def dGtD (x y : D) : Option R := if okLt x y = true then rb (ltD y x) else none
def dLeD (x y : D) : Option R := if okLt x y = true then rb (!ltD y x) else none
def dGeD (x y : D) : Option R := if okLt x y = true then rb (!ltD x y) else none
theorem okLt_of {x y : D} (h : okLt x y = true) : shp x = true ∧ shp y = true ∧ PySem.W.alike (toPy x) (toPy y) = true ∧ toPy x ≠ .none := by
  unfold okLt at h
  simp only [Bool.and_eq_true, Bool.not_eq_true'] at h
  refine ⟨h.1.1.1, h.1.1.2, h.1.2, fun e => ?_⟩
  rw [e] at h
  exact absurd h.2 (by simp [isNone])
theorem cmp_core {op : CmpOp} {f : D → D → Bool} {fo : D → D → Option R} (hf : ∀ x y res, fo x y = some res → okLt x y = true ∧ res = .imm (.bl (f x y))) (hu : X.A.units + 64 < cLine) (hk : X.K = G.K)
    (rule : ∀ {s : Shared} {a b : Value} {x y : D} {as bs : List Addr} {Q : Value → Shared → Prop} {E : Value → Shared → Prop}, Reads s.heap a (toPy x) as → Reads s.heap b (toPy y) bs → PySem.W.alike (toPy x) (toPy y) = true → toPy x ≠ .none → X.A.units + min (toPy x).depth (toPy y).depth < cLine → Q (.bool (f x y)) s →
      wpAny (model X.prog X.w) X.A (compareOp op a b) Q E s) : OpR X (compareOp op) (r2 G fo) := by
  intro pins s σ H x y v u Q I rx ry h
  obtain ⟨T, dx, dy, res, g, sx, sy, e, k⟩ := h
  obtain ⟨h, rfl⟩ := hf dx dy res e
  obtain ⟨h1, h2, h3, h4⟩ := okLt_of h
  obtain ⟨as, ra⟩ := reads_of I hk g (SeqAt.canLay_of_shaped h1) sx rx
  obtain ⟨bs, rb'⟩ := reads_of I hk g (SeqAt.canLay_of_shaped h2) sy ry
  refine rule ra rb' h3 h4 ?_ ⟨.bl _, H, I, rfl, one g k rfl⟩
  have := SeqAt.depth_of_shaped h1
  have := Nat.min_le_left (toPy dx).depth (toPy dy).depth
  omega
theorem op_ltD (hu : X.A.units + 64 < cLine) (hk : X.K = G.K := by rfl) : OpR X (compareOp .Lt) (r2 G dLtD) :=
  cmp_core (f := ltD) (fun x y res h => by unfold dLtD at h; split at h <;> cases h; exact ⟨by assumption, rfl⟩) hu hk fun ra rb h hn hu hq => PySem.W.lt_data ra rb h hn hu hq
theorem op_gtD (hu : X.A.units + 64 < cLine) (hk : X.K = G.K := by rfl) : OpR X (compareOp .Gt) (r2 G dGtD) :=
  cmp_core (f := fun x y => ltD y x) (fun x y res h => by unfold dGtD at h; split at h <;> cases h; exact ⟨by assumption, rfl⟩) hu hk fun ra rb h hn hu hq => PySem.W.gt_data ra rb h hn hu hq
theorem op_leD (hu : X.A.units + 64 < cLine) (hk : X.K = G.K := by rfl) : OpR X (compareOp .LtE) (r2 G dLeD) :=
  cmp_core (f := fun x y => !ltD y x) (fun x y res h => by unfold dLeD at h; split at h <;> cases h; exact ⟨by assumption, rfl⟩) hu hk fun ra rb h hn hu hq => PySem.W.le_data ra rb h hn hu hq
theorem op_geD (hu : X.A.units + 64 < cLine) (hk : X.K = G.K := by rfl) : OpR X (compareOp .GtE) (r2 G dGeD) :=
  cmp_core (f := fun x y => !ltD x y) (fun x y res h => by unfold dGeD at h; split at h <;> cases h; exact ⟨by assumption, rfl⟩) hu hk fun ra rb h hn hu hq => PySem.W.ge_data ra rb h hn hu hq
/-- x in y, y a list or a tuple -/
def eqD (x y : D) : Bool := PyData.eqv (toPy x) (toPy y)
def dIn (x y : D) : Option R := match y with
  | .lst ds => if shp x = true ∧ shp (.lst ds) = true then rb (ds.any fun z => eqD z x) else none
  | .tup ds => if shp x = true ∧ shp (.tup ds) = true then rb (ds.any fun z => eqD z x) else none
  | _ => none
def dNotIn (x y : D) : Option R := match y with
  | .lst ds => if shp x = true ∧ shp (.lst ds) = true then rb (!ds.any fun z => eqD z x) else none
  | .tup ds => if shp x = true ∧ shp (.tup ds) = true then rb (!ds.any fun z => eqD z x) else none
  | _ => none
theorem any_py (x : D) (ds : List D) : ((toPys ds).any fun z => PyData.eqv z (toPy x)) = ds.any fun z => eqD z x := by
  rw [toPys_map, List.any_map]; rfl
theorem canAll {ds : List D} (h : shp (.lst ds) = true) : PyData.canLayAll0 (toPys ds) = true := by
  have := SeqAt.canLay_of_shaped h
  simpa [toPy, PyData.canLay0] using this
theorem canAllT {ds : List D} (h : shp (.tup ds) = true) : PyData.canLayAll0 (toPys ds) = true := by
  have := SeqAt.canLay_of_shaped h
  simpa [toPy, PyData.canLay0] using this
theorem op_inD (hu : X.A.units + 65 < cLine) (hk : X.K = G.K := by rfl) : OpR X (compareOp .In) (r2 G dIn) := by
  intro pins s σ H x y v u Q I rx ry h
  obtain ⟨T, dx, dy, res, g, sx, sy, e, k⟩ := h
  unfold dIn at e
  split at e
  · rename_i ds
    split at e <;> try (cases e; done)
    rename_i h
    cases e
    obtain ⟨as, ra⟩ := reads_of I hk g (SeqAt.canLay_of_shaped h.1) sx rx
    obtain ⟨bs, rb'⟩ := reads_of I hk g (SeqAt.canLay_of_shaped h.2) sy ry
    exact SeqAt.in_list_reads rb' ra (canAll h.2) (SeqAt.canLay_of_shaped h.1) (room_in_shaped h.1 hu) ⟨.bl _, H, I, by rw [any_py]; rfl, one g k rfl⟩
  · rename_i ds
    split at e <;> try (cases e; done)
    rename_i h
    cases e
    obtain ⟨as, ra⟩ := reads_of I hk g (SeqAt.canLay_of_shaped h.1) sx rx
    obtain ⟨bs, rb'⟩ := reads_of I hk g (SeqAt.canLay_of_shaped h.2) sy ry
    exact SeqAt.in_tuple_reads rb' ra (canAllT h.2) (SeqAt.canLay_of_shaped h.1) (room_in_shaped h.1 hu) ⟨.bl _, H, I, by rw [any_py]; rfl, one g k rfl⟩
  · cases e
theorem op_notInD (hu : X.A.units + 65 < cLine) (hk : X.K = G.K := by rfl) : OpR X (compareOp .NotIn) (r2 G dNotIn) := by
  intro pins s σ H x y v u Q I rx ry h
  obtain ⟨T, dx, dy, res, g, sx, sy, e, k⟩ := h
  unfold dNotIn at e
  split at e
  · rename_i ds
    split at e <;> try (cases e; done)
    rename_i h
    cases e
    obtain ⟨as, ra⟩ := reads_of I hk g (SeqAt.canLay_of_shaped h.1) sx rx
    obtain ⟨bs, rb'⟩ := reads_of I hk g (SeqAt.canLay_of_shaped h.2) sy ry
    exact SeqAt.notIn_list_reads rb' ra (canAll h.2) (SeqAt.canLay_of_shaped h.1) (room_in_shaped h.1 hu) ⟨.bl _, H, I, by rw [any_py]; rfl, one g k rfl⟩
  · rename_i ds
    split at e <;> try (cases e; done)
    rename_i h
    cases e
    obtain ⟨as, ra⟩ := reads_of I hk g (SeqAt.canLay_of_shaped h.1) sx rx
    obtain ⟨bs, rb'⟩ := reads_of I hk g (SeqAt.canLay_of_shaped h.2) sy ry
    exact SeqAt.notIn_tuple_reads rb' ra (canAllT h.2) (SeqAt.canLay_of_shaped h.1) (room_in_shaped h.1 hu) ⟨.bl _, H, I, by rw [any_py]; rfl, one g k rfl⟩
  · cases e
/-- list + list -/
theorem ok_catL : OkR2 G rCat dCatL := by
  intro T H x y dx dy res gd sx sy e Q k
  unfold dCatL at e
  split at e <;> try (cases e; done)
  rename_i xs ys
  split at e <;> try (cases e; done)
  rename_i hz
  cases e
  obtain ⟨a, vs, rfl, _, ha, ra, za⟩ := sx.lst gd
  obtain ⟨b, ws, rfl, _, hb, rb, zb⟩ := sy.lst gd
  have l1 := ra.length
  have l2 := rb.length
  refine ⟨a, b, vs, ws, rfl, rfl, ha, hb, by omega, fun p hp => ?_⟩
  exact k T (.ref p) _ (Step.new gd hp _) ⟨p, rfl, hp, own_new gd hp (reps_app ra rb) (by rw [List.length_append]; omega)⟩
/-- +: ints, tuples, lists -/
def dAdd (x y : D) : Option R := match x, y with
  | .int i, .int j => ri (i + j)
  | .tup xs, .tup ys => dCat (.tup xs) (.tup ys)
  | .lst xs, .lst ys => dCatL (.lst xs) (.lst ys)
  | _, _ => none
theorem op_addD (hk : X.K = G.K := by rfl) : OpR X (binaryOp .Add) (r2 G dAdd) := by
  refine LD.OpR.imp (OpR.or op_add (OpR.or op_catA op_cat)) fun x y H Q h => ?_
  obtain ⟨T, dx, dy, res, g, sx, sy, e, k⟩ := h
  rw [hk]
  unfold dAdd at e
  split at e <;> try (cases e; done)
  · exact .inl (ok_addI T H x y _ _ res g sx sy e Q k)
  · exact .inr (.inl (ok_cat T H x y _ _ res g sx sy e Q k))
  · exact .inr (.inr (ok_catL T H x y _ _ res g sx sy e Q k))
end
end
end LD

/-! Layer D: sorted, min, max of data (tuples without items among them too). -/
namespace LDS
open PySem PySem.W PySem.Calls PySem.SeqAt PyProof.Rows

section
variable {prog : Program} {w : World} {A : Around} {E : Value → Shared → Prop} {s : Shared}
theorem call_tuple_lt {Q : Value → Shared → Prop} {l b : Addr} {items items2 : Array Value} {e r : Nat → Bool} (hl : s.heap.IsTuple l items) (hb : s.heap.IsTuple b items2)
    (he : ∀ j (h1 : j < items.size) (h2 : j < items2.size), EqAt A.in1 s items[j] items2[j] (e j)) (hr : ∀ j (h1 : j < items.size) (h2 : j < items2.size), e j = false → RcLt A.in1 s items[j] items2[j] (r j))
    (h : Q (.bool (firstLt e r (decide (items.size < items2.size)) (List.range (min items.size items2.size)))) s) : wpAny (model prog w) A (call (.builtin "tuple.__lt__") [.ref l, .ref b]) Q E s := by
  obtain ⟨⟨cls, dd, data, sl⟩, ho, hc, n, hd⟩ := id hl
  obtain ⟨⟨cls2, dd2, data2, sl2⟩, ho2, hc2, n2, hd2⟩ := id hb
  simp only at hc hd hc2 hd2
  subst hc hd hc2 hd2
  exact call_meets F.slot_tuple_lt ⟨_, ho, rfl⟩ F.entry_tuple_lt (F.args_tuple_lt_2 _ _) (SeqAt.tuple_ltAt l b items items2 n n2 dd dd2 sl sl2 e r) ⟨ho, ho2, he, hr, h⟩
/-- one tuple against another, whatever the sort knows of their kind -/
theorem oneLt_tup {f : Bool} {xs ys : List PyData} {a b : Value} {as bs : List Addr} {Q : Bool → Shared → Prop} (ra : Reads s.heap a (.tuple xs) as) (rb : Reads s.heap b (.tuple ys) bs) (hal : alikeAll xs ys = true)
    (hu : A.units + min (PyData.tuple xs).depth (PyData.tuple ys).depth < cLine) (hq : Q (dataLt (.tuple xs) (.tuple ys)) s) : wpAny (model prog w) A (oneLt' f a b) Q E s := by
  cases f with
  | false => exact oneLt_alike (fun z => nomatch z) ra rb (by simpa [alike] using hal) (fun z => nomatch z) hu hq
  | true =>
    cases ra with
    | @tuple l o vs n _ as₁ h1 h2 h3 h4 =>
      cases rb with
      | @tuple l' o' vs' n' _ bs₁ k1 k2 k3 k4 =>
        have n1 : vs.size = xs.length := by simpa using ReadsAll.length _ _ _ h4
        have n2 : vs'.size = ys.length := by simpa using ReadsAll.length _ _ _ k4
        rw [dataLt_tuple, ← firstLt_toks xs ys hal, ← n1, ← n2] at hq
        rw [oneLt'_eq]
        simp only [if_true]
        refine wpAny_bind (wpAny_cRoomFor (room_here hu) ?_)
        refine wpAny_bind (wpAny_callSpecialIfBound?_slot (T := "tuple") ⟨_, h1, h2⟩ F.slot_tuple_lt (call_tuple_lt (e := pairEq xs ys) (r := fun j => dataLt (xs.getD j .none) (ys.getD j .none)) ⟨_, h1, h2, _, h3⟩ ⟨_, k1, k2, _, k3⟩ (fun j j1 j2 => ?_) (fun j j1 j2 hj => ?_) ?_))
        · have := eqAt_alikeAll xs ys A.in1 s vs.toList vs'.toList _ _ h4 k4 hal (room_in hu) j (by simpa using j1) (by simpa using j2)
          simpa using this
        · have := rcLt_alikeAll xs ys A.in1 s vs.toList vs'.toList _ _ h4 k4 hal (room_in hu) j (by simpa using j1) (by simpa using j2) hj
          simpa using this
        · exact wpAny_truthy_bool hq
/-- the first items of tuples, where there are such -/
theorem firsts0 {M : Model} : ∀ (vs : List Value) (ds : List PyData) {Q : List (Option Value) → Shared → Prop}, EachIs (fun v d => ∃ as, Reads s.heap v d as) vs ds → (∀ d ∈ ds, ∃ xs, d = .tuple xs) →
    (∀ hs : List (Option Value), hs.length = ds.length → (∀ (i : Nat) h d, hs[i]? = some h → ds[i]? = some d → (h.isSome = false ↔ d = .tuple [])) → Q hs s) → wpAny M A (vs.mapM firstOfTuple') Q E s
  | _, _, Q, .nil, _, h => by rw [List.mapM_nil]; exact wpAny_pure (h [] rfl fun i h d e => by simp at e)
  | v :: vs, d :: ds, Q, .cons ⟨as, r⟩ t, ht, h => by
    obtain ⟨xs, rfl⟩ := ht d (List.mem_cons_self ..)
    cases r with
    | @tuple a o its n _ _ ho hc hd hr =>
      rw [List.mapM_cons]
      refine wpAny_bind ?_
      rw [kas_first_eq]
      refine wpAny_bind (Looks.here (show Looks M s.heap (typeOf (.ref a)) o.cls from (Looks.ld ho).andThen .now) ?_)
      rw [hc, if_neg (by first | decide | simp)]
      refine wpAny_bind (listItems_at ho hd (wpAny_pure ?_))
      refine wpAny_bind (firsts0 vs ds (Q := fun hs s' => wpAny M A (pure (its[0]? :: hs)) Q E s') t (fun d hd => ht d (List.mem_cons_of_mem _ hd)) fun hs hl hh => wpAny_pure (h _ (by rw [List.length_cons, hl, List.length_cons]) fun i x d e1 e2 => ?_))
      cases i with
      | zero =>
        simp at e1 e2
        subst e1 e2
        have hn : its.size = xs.length := by simpa using ReadsAll.length _ _ _ hr
        constructor
        · intro z
          cases xs with
          | nil => rfl
          | cons y ys =>
            have : 0 < its.size := by rw [hn]; simp
            rw [Array.getElem?_eq_getElem this] at z
            cases z
        · intro z
          cases z
          have : its.size = 0 := by rw [hn]; rfl
          rw [Array.getElem?_eq_none (by omega)]
          rfl
      | succ i => exact hh i x d (by simpa using e1) (by simpa using e2)
/-- tuples, one without items among them -/
theorem sortsAt0 {vs : List Value} {ds : List PyData} (e : EachIs (fun v d => ∃ as, Reads s.heap v d as) vs ds) (hal : AllAlike ds) (ht : ∀ d ∈ ds, ∃ xs, d = .tuple xs) (h0 : PyData.tuple [] ∈ ds) (hu : ∀ d, d ∈ ds → A.units + d.depth < cLine) : SortsAt prog w A s (dataKind s.heap ds) vs := by
  have room : ∀ {d d' : PyData}, d ∈ ds → A.units + min d.depth d'.depth < cLine := fun {d d'} hd => Nat.lt_of_le_of_lt (Nat.add_le_add_left (Nat.min_le_left _ _) _) (hu d hd)
  have lt : ∀ f : Bool, ∀ (E : Value → Shared → Prop) (x y : Value) (a b : List (Int ⊕ List Nat)) (Q : Bool → Shared → Prop), (dataKind s.heap ds).keyOf x = some a → (dataKind s.heap ds).keyOf y = some b → Q (PyProof.Rows.lexLt itemOrd a b) s → wpAny (model prog w) A (oneLt' f x y) Q E s := by
    intro f E x y a b Q ha hb hq
    obtain ⟨d, as, hd, ra, rfl⟩ := dataKind_inv ha
    obtain ⟨d', as', hd', rb, rfl⟩ := dataKind_inv hb
    have hdd := hal d hd d' hd'
    have hr := room (d' := d') hd
    obtain ⟨xs, rfl⟩ := ht d hd
    obtain ⟨ys, rfl⟩ := ht d' hd'
    exact oneLt_tup ra rb (by simpa [alike] using hdd) hr hq
  refine ⟨fun v hv => ?_, ?_⟩
  · obtain ⟨d, hd, as, r⟩ := e.left v hv
    exact ⟨_, dataKind_some hal hd r⟩
  · cases ds with
    | nil => simp at h0
    | cons d₀ ds₀ =>
      have nall : ∀ hs : List (Option Value), hs.length = (d₀ :: ds₀).length → (∀ (i : Nat) h d, hs[i]? = some h → (d₀ :: ds₀)[i]? = some d → (h.isSome = false ↔ d = .tuple [])) → ¬ (hs.toArray.all (·.isSome)) = true := by
        intro hs hl hh z
        obtain ⟨i, hi, ei⟩ := List.mem_iff_getElem.mp h0
        have hi' : i < hs.length := by rw [hl]; exact hi
        have q := (hh i hs[i] (.tuple []) (List.getElem?_eq_getElem hi') (by rw [List.getElem?_eq_getElem hi, ei])).mpr rfl
        simp only [List.all_toArray, List.all_eq_true] at z
        have := z hs[i] (List.getElem_mem hi')
        rw [q] at this
        cases this
      by_cases hd : d₀ = .tuple []
      · refine ⟨oneType', fun E x y a b Q ha hb hq => ?_, fun h2 E Q hq => ?_⟩
        · rw [keyLt'_oneType]
          exact lt true E x y a b Q ha hb hq
        · rw [keyKind'_eq, List.mapM_toArray, map_eq_pure_bind]
          refine wpAny_bind (wpAny_bind (firsts0 vs _ e ht fun hs hl hh => wpAny_pure ?_))
          rw [if_neg (nall hs hl hh)]
          obtain ⟨h1, hr, rfl⟩ : ∃ h1 hr, hs = h1 :: hr := by
            cases hs with
            | nil => simp at hl
            | cons x y => exact ⟨x, y, rfl⟩
          have q1 := (hh 0 h1 d₀ rfl rfl).mpr hd
          have q2 : h1 = none := by cases h1 with
            | none => rfl
            | some x => cases q1
          subst q2
          rw [if_neg (by simp)]
          rw [oneTypeOnly'_eq, List.mapM_toArray, map_eq_pure_bind]
          refine wpAny_bind (wpAny_bind (wpAny_bind (kas_mapM (r := Value.type "tuple") _ (fun v hv Q' hq' => ?_) (wpAny_pure ?_))))
          · obtain ⟨d, hd', as, r⟩ := e.left v hv
            obtain ⟨xs, rfl⟩ := ht d hd'
            exact (looks_reads r).here hq'
          · have hall : ((List.map (fun _ => Value.type "tuple") vs).toArray.all fun x => x == Value.type "tuple") = true := by
              simp only [List.all_toArray, List.all_map, List.all_eq_true]
              intro _ _
              exact beq_self_eq_true _
            obtain ⟨v₁, vr, rfl⟩ : ∃ v₁ vr, vs = v₁ :: vr := by
              cases vs with
              | nil => simp at h2
              | cons x y => exact ⟨x, y, rfl⟩
            have h0' : (List.map (fun _ => Value.type "tuple") (v₁ :: vr)).toArray[0]? = some (Value.type "tuple") := by simp
            rw [h0']
            simp only [hall, if_true]
            exact wpAny_pure (wpAny_pure hq)
      · refine ⟨general', fun E x y a b Q ha hb hq => ?_, fun h2 E Q hq => ?_⟩
        · show wpAny (model prog w) A (oneLt' false x y) Q E s
          exact lt false E x y a b Q ha hb hq
        · rw [keyKind'_eq, List.mapM_toArray, map_eq_pure_bind]
          refine wpAny_bind (wpAny_bind (firsts0 vs _ e ht fun hs hl hh => wpAny_pure ?_))
          rw [if_neg (nall hs hl hh)]
          obtain ⟨h1, hr, rfl⟩ : ∃ h1 hr, hs = h1 :: hr := by
            cases hs with
            | nil => simp at hl
            | cons x y => exact ⟨x, y, rfl⟩
          have q2 : h1.isSome = true := by
            cases q : h1.isSome with
            | true => rfl
            | false => exact absurd ((hh 0 h1 d₀ rfl rfl).mp q) hd
          rw [if_pos (by simpa using q2)]
          exact wpAny_pure hq
/-- sorted(xs) where a tuple without items may be among tuples -/
def Sortable0 (ds : List PyData) : Prop := Sortable ds ∨ ((∀ d ∈ ds, ∃ xs, d = .tuple xs) ∧ PyData.tuple [] ∈ ds)
theorem sorts0 {vs : List Value} {ds : List PyData} (e : EachIs (fun v d => ∃ as, Reads s.heap v d as) vs ds) (hal : AllAlike ds) (hk : Sortable0 ds) (hu : ∀ d, d ∈ ds → A.units + d.depth < cLine) : SortsAt prog w A s (dataKind s.heap ds) vs := by
  rcases hk with h | ⟨h1, h2⟩
  · exact SortsAt.data e hal h hu
  · exact sortsAt0 e hal h1 h2 hu
variable {β : Type} {vs : List Value} {bs : List β} {enc : β → PyData} {R : Value → β → Prop}
theorem sorted0 {l : Addr} {Q : Value → Shared → Prop} (hl : s.heap.IsList l vs.toArray) (e : EachIs R vs bs) (er : EachIs (fun v b => ∃ as, Reads s.heap v (enc b) as) vs bs) (hal : AllAlike (bs.map enc)) (hk : Sortable0 (bs.map enc)) (hL : bs.length ≤ sizeLine)
    (hu : ∀ b, b ∈ bs → A.units + 2 + (enc b).depth < cLine) (h : ∀ out, out.length = bs.length → EachIs R out (bs.mergeSort (dataLe false enc)) → Q (.ref (s.heap.objs.size + 1)) { s with heap := sortedAll s.heap vs (List.toArray out) }) :
    wpAny (model prog w) A (call (.builtin "sorted") [.ref l]) Q E s := by
  have er' : EachIs (fun v b => ∃ as, Reads (sortingHeap (copyHeap s.heap vs) (s.heap.objs.size + 1) vs) v (enc b) as) vs bs := er.mono fun _ _ ⟨as, r⟩ => ⟨as, PyProof.Rows.Reads.keeps (fun _ _ => sorting_copy_old) r⟩
  exact sorted_vals hl (sorts0 (s := { s with heap := sortingHeap (copyHeap s.heap vs) (s.heap.objs.size + 1) vs }) (each_map (R := fun v d => ∃ as, Reads (sortingHeap (copyHeap s.heap vs) (s.heap.objs.size + 1) vs) v d as) enc er') hal hk (bound_map hu)) (by rw [e.length]; exact hL)
    (h _ (by rw [sortVals_length false rfl]; exact e.length) (sortVals_data false e er' hal))
end
end LDS

/-! Layer D: sorted, min, max of a list; isinstance; sets of tuples; unary minus. -/
namespace LD
open PySem PySem.W PySem.Calls PySem.Spec PyProof.Rows L2

section
variable {G : Gm} {T T1 T2 : Ty} {st st1 st2 : DSt} {σ σ1 σ2 : L2.St} {H H1 H2 : Hp} {v : V} {d : D} {r : R}

/-! ### sorted -/
def isTup : D → Bool
  | .tup _ => true
  | _ => false
def isInt : D → Bool
  | .int _ => true
  | _ => false
def alikes (ds : List D) : Bool := ds.all fun x => ds.all fun y => alike (toPy x) (toPy y)
def okSort (ds : List D) : Bool := ds.all shp && alikes ds && (ds.all isInt || ds.all isTup)
def sortD (ds : List D) : List D := ds.mergeSort (dataLe false toPy)
def dSorted : List D → Option R
  | [.lst ds] => if okSort ds = true then some (.own (.lst (sortD ds))) else none
  | _ => none
theorem alikes_of {ds : List D} (h : alikes ds = true) {x y : D} (hx : x ∈ ds) (hy : y ∈ ds) : alike (toPy x) (toPy y) = true := by
  unfold alikes at h
  rw [List.all_eq_true] at h
  exact List.all_eq_true.mp (h x hx) y hy
theorem sortable_of {ds : List D} (h : (ds.all isInt || ds.all isTup) = true) : LDS.Sortable0 (ds.map toPy) := by
  rw [Bool.or_eq_true] at h
  rcases h with h | h
  · refine .inl (.inr fun d hd => ?_)
    obtain ⟨x, hx, rfl⟩ := List.mem_map.mp hd
    have := List.all_eq_true.mp h x hx
    cases x <;> simp [isInt] at this
    exact ⟨(fun z => nomatch z), fun xs z => nomatch z⟩
  · have ht : ∀ d ∈ ds.map toPy, ∃ xs, d = .tuple xs := fun d hd => by
      obtain ⟨x, hx, rfl⟩ := List.mem_map.mp hd
      have := List.all_eq_true.mp h x hx
      cases x <;> simp [isTup] at this
      exact ⟨_, rfl⟩
    by_cases h0 : PyData.tuple [] ∈ ds.map toPy
    · exact .inr ⟨ht, h0⟩
    · refine .inl (.inl fun d hd => ?_)
      obtain ⟨xs, rfl⟩ := ht d hd
      cases xs with
      | nil => exact absurd hd h0
      | cons x r => exact ⟨x, r, rfl⟩
theorem each_of {R : Value → D → Prop} : ∀ {vs : List V} {ds : List D} {us : List Value}, Reps G T vs ds → Vals vs us → (∀ v d u, d ∈ ds → RepT G T v d → RelV v u → R u d) → EachIs R us ds
  | _, _, _, .nil, .nil, _ => .nil
  | _, _, _, .cons a t, .cons b u, h => .cons (h _ _ _ (List.mem_cons_self ..) a b) (each_of t u fun v d u hd => h v d u (List.mem_cons_of_mem _ hd))
theorem of_each : ∀ {us : List Value} {ds : List D}, EachIs (fun u d => ∃ v, RelV v u ∧ RepT G T v d) us ds → ∃ vs, Vals vs us ∧ Reps G T vs ds
  | _, _, .nil => ⟨[], .nil, .nil⟩
  | _, _, .cons ⟨v, a, b⟩ t => let ⟨vs, p, q⟩ := of_each t; ⟨v :: vs, .cons a p, .cons b q⟩
variable {X : Cx}
theorem cr_sorted (hu : X.A.units + 66 < cLine) (hk : X.K = G.K := by rfl) : CallR X (.builtin "sorted") (rB G dSorted) := by
  intro pins s σ H xs us Q I rv h
  obtain ⟨T, ds, res, g, h, e, k⟩ := h
  unfold dSorted at e
  split at e <;> try (cases e; done)
  rename_i ds'
  split at e <;> try (cases e; done)
  rename_i ok
  cases e
  obtain ⟨x, rfl, sx⟩ := p1 h
  obtain ⟨a, vs, rfl, q, hH, r, z⟩ := sx.lst g
  rw [Vals.ref1 rv]
  simp only [okSort, Bool.and_eq_true] at ok
  obtain ⟨⟨ok1, ok2⟩, ok3⟩ := ok
  have sh : ∀ d ∈ ds', shp d = true := fun d hd => List.all_eq_true.mp ok1 d hd
  obtain ⟨its, rv', pl, hz⟩ := I.list (X := X) (hk ▸ q : SqL X.K H a vs)
  refine LDS.sorted0 (enc := toPy) (bs := ds') (R := fun u d => ∃ v, RelV v u ∧ RepT G T v d) pl.isList (each_of r rv' fun v d u _ a b => ⟨v, b, a⟩) (each_of r rv' fun v d u hd a b => reads_of I hk g (SeqAt.canLay_of_shaped (sh d hd)) (.inl a) b) ?_ (sortable_of ok3) z (fun d hd => ?_) fun out hl ho => ?_
  · intro d hd d' hd'
    obtain ⟨x, hx, rfl⟩ := List.mem_map.mp hd
    obtain ⟨y, hy, rfl⟩ := List.mem_map.mp hd'
    exact alikes_of ok2 hx hy
  · have := SeqAt.depth_of_shaped (sh d hd)
    omega
  · obtain ⟨ws, w1, w2⟩ := of_each ho
    obtain ⟨c, at_⟩ := sortedAll_at s.heap its out.toArray
    have hlen : ws.length = ds'.length := by rw [w1.length, hl]
    have hn : H (s.heap.objs.size + 1) = none := I.hok.fresh (Nat.le_succ _)
    refine ⟨.ref (s.heap.objs.size + 1), upd H (s.heap.objs.size + 1) (.lst ws), I.laid (t' := s.toks) (fun _ _ q => sortedAll_old q) (Nat.le_succ _) (show ObjOk X.prog X.w _ _ _ (.lst ws) from ⟨by omega, out, c, w1, at_⟩), rfl, ?_⟩
    exact k T _ _ (Step.new g hn _) ⟨_, rfl, hn, own_new g hn w2 (by show (ds'.mergeSort (dataLe false toPy)).length ≤ sizeLine; rw [← w2.length]; omega)⟩

/-! ### min, max of a list -/
mutual
theorem toPy_inj : ∀ (x y : D), PyData.canLay0 (toPy x) = true → toPy x = toPy y → x = y
  | .non, y, c, h => by cases y <;> simp [toPy] at h <;> rfl
  | .bl b, y, c, h => by cases y <;> simp [toPy] at h; rw [h]
  | .int b, y, c, h => by cases y <;> simp [toPy] at h; rw [h]
  | .str b, y, c, h => by cases y <;> simp [toPy] at h; rw [h]
  | .tup ds, y, c, h => by
    cases y <;> simp [toPy] at h
    rw [toPys_inj ds _ (by simpa [toPy, PyData.canLay0] using c) h]
  | .lst ds, y, c, h => by
    cases y <;> simp [toPy] at h
    rw [toPys_inj ds _ (by simpa [toPy, PyData.canLay0] using c) h]
  | .dic _ _, y, c, h => by simp [toPy, PyData.canLay0] at c
  | .st _, y, c, h => by simp [toPy, PyData.canLay0] at c
  | .ins _ _, y, c, h => by simp [toPy, PyData.canLay0] at c
  | .cch _, y, c, h => by simp [toPy, PyData.canLay0] at c
  | .scr _, y, c, h => by simp [toPy, PyData.canLay0] at c
theorem toPys_inj : ∀ (xs ys : List D), PyData.canLayAll0 (toPys xs) = true → toPys xs = toPys ys → xs = ys
  | [], ys, c, h => by
    cases ys with
    | nil => rfl
    | cons y ys => simp [toPys] at h
  | x :: xs, ys, c, h => by
    cases ys with
    | nil => simp [toPys] at h
    | cons y ys =>
      have c' : PyData.canLay0 (toPy x) = true ∧ PyData.canLayAll0 (toPys xs) = true := by simpa [toPys, PyData.canLayAll0] using c
      simp [toPys] at h
      rw [toPy_inj x y c'.1 h.1, toPys_inj xs ys c'.2 h.2]
end
def minDD (x : D) (xs : List D) : D := xs.foldl (fun a y => if ltD y a then y else a) x
def maxDD (x : D) (xs : List D) : D := xs.foldl (fun a y => if ltD a y then y else a) x
theorem minDD_py (x : D) (xs : List D) : toPy (minDD x xs) = minD (toPy x) (xs.map toPy) := by
  unfold minDD minD
  induction xs generalizing x with
  | nil => rfl
  | cons y ys ih =>
    rw [List.map_cons, List.foldl_cons, List.foldl_cons, ih]
    show List.foldl _ _ _ = List.foldl _ (if ltD y x = true then toPy y else toPy x) _
    congr 1
    split <;> rfl
theorem maxDD_py (x : D) (xs : List D) : toPy (maxDD x xs) = maxD (toPy x) (xs.map toPy) := by
  unfold maxDD maxD
  induction xs generalizing x with
  | nil => rfl
  | cons y ys ih =>
    rw [List.map_cons, List.foldl_cons, List.foldl_cons, ih]
    show List.foldl _ _ _ = List.foldl _ (if ltD x y = true then toPy y else toPy x) _
    congr 1
    split <;> rfl
theorem fold_mem {f : D → D → D} (hf : ∀ a b, f a b = a ∨ f a b = b) : ∀ (xs : List D) (x : D), xs.foldl f x ∈ x :: xs
  | [], x => List.mem_cons_self ..
  | y :: ys, x => by
    rw [List.foldl_cons]
    rcases List.mem_cons.mp (fold_mem hf ys (f x y)) with h | h
    · rw [h]
      rcases hf x y with e | e <;> rw [e]
      · exact List.mem_cons_self ..
      · exact List.mem_cons_of_mem _ (List.mem_cons_self ..)
    · exact List.mem_cons_of_mem _ (List.mem_cons_of_mem _ h)
theorem minDD_mem (x : D) (xs : List D) : minDD x xs ∈ x :: xs := fold_mem (fun a b => by split <;> simp) xs x
theorem maxDD_mem (x : D) (xs : List D) : maxDD x xs ∈ x :: xs := fold_mem (fun a b => by split <;> simp) xs x
def okMin (ds : List D) : Bool := shp (.lst ds) && alikes ds && ds.all fun d => !isNone (toPy d)
def dMinL : List D → Option R
  | [.lst (d :: ds)] => if okMin (d :: ds) = true then some (.imm (minDD d ds)) else none
  | _ => none
def dMaxL : List D → Option R
  | [.lst (d :: ds)] => if okMin (d :: ds) = true then some (.imm (maxDD d ds)) else none
  | _ => none
theorem vals_at : ∀ {vs : List V} {us : List Value}, Vals vs us → ∀ (i : Nat) u, us[i]? = some u → ∃ v, vs[i]? = some v ∧ RelV v u
  | _, _, .cons a t, 0, u, h => by cases h; exact ⟨_, rfl, a⟩
  | _, _, .cons a t, i + 1, u, h => vals_at t i u h
theorem can_mem : ∀ {ds : List D}, PyData.canLayAll0 (toPys ds) = true → ∀ d ∈ ds, PyData.canLay0 (toPy d) = true
  | x :: xs, c, d, hd => by
    have c' : PyData.canLay0 (toPy x) = true ∧ PyData.canLayAll0 (toPys xs) = true := by simpa [toPys, PyData.canLayAll0] using c
    rcases List.mem_cons.mp hd with h | h
    · rw [h]; exact c'.1
    · exact can_mem c'.2 d h
theorem reps_at' : ∀ {vs : List V} {ds : List D}, Reps G T vs ds → ∀ (i : Nat) v, vs[i]? = some v → ∃ d, ds[i]? = some d ∧ RepT G T v d
  | _, _, .cons a t, 0, u, h => by cases h; exact ⟨_, rfl, a⟩
  | _, _, .cons a t, i + 1, u, h => reps_at' t i u h
theorem minmax_core {nm : String} {fo : List D → Option R} {f : D → List D → D} {fp : PyData → List PyData → PyData} (hf : ∀ x xs, toPy (f x xs) = fp (toPy x) (xs.map toPy)) (hm : ∀ x xs, f x xs ∈ x :: xs)
    (ho : ∀ l res, fo l = some res → ∃ d ds, l = [.lst (d :: ds)] ∧ okMin (d :: ds) = true ∧ res = .imm (f d ds)) (hu : X.A.units + 66 < cLine) (hk : X.K = G.K)
    (rule : ∀ {s : Shared} {l : Addr} {vs : Array Value} {x : PyData} {xs : List PyData} {as : List Addr} {Q : Value → Shared → Prop} {E : Value → Shared → Prop}, s.heap.IsList l vs → ReadsAll s.heap vs.toList (x :: xs) as → AlikeAll (x :: xs) → X.A.units + 1 + PyData.depthAll (x :: xs) < cLine →
      (∀ (i : Nat) v h' tk bs, vs[i]? = some v → Reads h' v (fp x xs) bs → (∀ b o, s.heap.get? b = some o → h'.get? b = some o) → Q v { s with heap := h', toks := tk }) → wpAny (model X.prog X.w) X.A (call (.builtin nm) [.ref l]) Q E s) : CallR X (.builtin nm) (rB G fo) := by
  intro pins s σ H xs us Q I rv h
  obtain ⟨T, l, res, g, h, e, k⟩ := h
  obtain ⟨d, ds, rfl, ok, rfl⟩ := ho l res e
  obtain ⟨x, rfl, sx⟩ := p1 h
  obtain ⟨a, vs, rfl, q, hH, r, z⟩ := sx.lst g
  rw [Vals.ref1 rv]
  simp only [okMin, Bool.and_eq_true] at ok
  obtain ⟨⟨ok1, ok2⟩, ok3⟩ := ok
  have can := canAll ok1
  obtain ⟨its, rv', pl, hz⟩ := I.list (X := X) (hk ▸ q : SqL X.K H a vs)
  have da : DpAll X.K H vs (toPys (d :: ds)) := hk ▸ dps_of g _ vs can r
  obtain ⟨as, ra⟩ := Dp.readsAll I _ _ _ da rv'
  have ra' : ReadsAll s.heap its (toPy d :: ds.map toPy) as := by rw [toPys_map] at ra; exact ra
  refine rule (vs := its.toArray) pl.isList (by simpa using ra') ⟨?_, ?_⟩ ?_ fun i u h' tk bs hi ru hold => ?_
  · intro x hx y hy
    rw [← List.map_cons] at hx hy
    obtain ⟨x', hx', rfl⟩ := List.mem_map.mp hx
    obtain ⟨y', hy', rfl⟩ := List.mem_map.mp hy
    exact alikes_of ok2 hx' hy'
  · intro x hx
    rw [← List.map_cons] at hx
    obtain ⟨x', hx', rfl⟩ := List.mem_map.mp hx
    have := List.all_eq_true.mp ok3 x' hx'
    intro e
    rw [e] at this
    simp [isNone] at this
  · have := SeqAt.depth_of_shaped ok1
    have e : PyData.depthAll (toPy d :: ds.map toPy) + 1 ≤ (toPy (.lst (d :: ds))).depth := by
      rw [← List.map_cons, ← toPys_map]
      simp [toPy, PyData.depth]
      try omega
    omega
  · have hi' : its[i]? = some u := by simpa using hi
    obtain ⟨w, hw, rw'⟩ := vals_at rv' i u hi'
    obtain ⟨y, hy, ry⟩ := reps_at' r i w hw
    have hym : y ∈ d :: ds := List.mem_of_getElem? hy
    obtain ⟨cs, r1⟩ := reads_of I hk g (can_mem can y hym) (.inl ry) rw'
    have r2 := PyProof.Rows.Reads.keeps (h' := h') hold r1
    rw [← hf] at ru
    have e1 : toPy y = toPy (f d ds) := alike_unique _ _ _ _ _ (alikes_of ok2 hym (hm d ds)) r2 ru
    have e2 : y = f d ds := toPy_inj _ _ (can_mem can y hym) e1
    have J : Inv X pins σ H { s with heap := h', toks := tk } := I.kept (t' := tk) hold
    exact ⟨w, H, J, rw', k T w H (Step.refl g) (e2 ▸ ry)⟩
theorem cr_minL (hc : X.A.handled = none) (hu : X.A.units + 66 < cLine) (hk : X.K = G.K := by rfl) : CallR X (.builtin "min") (rB G dMinL) :=
  minmax_core (f := minDD) (fp := minD) minDD_py minDD_mem (fun l res e => by
    unfold dMinL at e
    split at e <;> try (cases e; done)
    split at e <;> cases e
    exact ⟨_, _, rfl, by assumption, rfl⟩) hu hk fun hl hr ha hu h => min_list_data hc hl hr ha hu h
theorem cr_maxL (hc : X.A.handled = none) (hu : X.A.units + 66 < cLine) (hk : X.K = G.K := by rfl) : CallR X (.builtin "max") (rB G dMaxL) :=
  minmax_core (f := maxDD) (fp := maxD) maxDD_py maxDD_mem (fun l res e => by
    unfold dMaxL at e
    split at e <;> try (cases e; done)
    split at e <;> cases e
    exact ⟨_, _, rfl, by assumption, rfl⟩) hu hk fun hl hr ha hu h => max_list_data hc hl hr ha hu h

/-! ### isinstance with a built-in type -/
def tyNm : D → Option String
  | .non => some "NoneType"
  | .bl _ => some "bool"
  | .int _ => some "int"
  | .str _ => some "str"
  | .tup _ => some "tuple"
  | .lst _ => some "list"
  | _ => none
def isiD (n : String) (d : D) : Option Bool := match tyNm d with
  | some t => kitB t n
  | none => none
theorem ty_of (g : Good G T H) {x : V} {d : D} {t : String} (s : Sees G T H x d) (h : tyNm d = some t) : TyOf G.K H x (.type t) := by
  cases d with
  | non => cases h; rw [s.non g]; exact .non
  | bl b => cases h; rw [s.bl g]; exact .bl b
  | int b => cases h; rw [s.int g]; exact .int b
  | str b => cases h; rw [s.str g]; exact .str b
  | tup ds =>
    cases h
    rcases s with s | ⟨a, rfl, o⟩
    · cases x with
      | ref a =>
        rcases s with s | ⟨_, z, _⟩
        · obtain ⟨vs, e, _⟩ := g a _ s
          exact .tup e
        · cases z
      | _ => first | (cases s; done) | exact (show False from s).elim
    · obtain ⟨vs, e, _⟩ := o.sh
      exact .tup e
  | lst ds =>
    cases h
    rcases s with s | ⟨a, rfl, o⟩
    · cases x with
      | ref a =>
        rcases s with s | ⟨_, z, _⟩
        · obtain ⟨vs, e, _⟩ := g a _ s
          exact .lst e
        · cases z
      | _ => first | (cases s; done) | exact (show False from s).elim
    · obtain ⟨vs, e, _⟩ := o.sh
      exact .lst e
  | _ => cases h
def mIsi (n : String) (a : M) : M := fun st => match a st with
  | none => none
  | some (r, s) => match cont s r with
    | none => none
    | some d => match isiD n d with
      | none => none
      | some b => some (.imm (.bl b), s)
theorem ok_isi {n : String} {te : TE} {a : M} (ha : OkE G te a) : OkE G (tCB (rIsi G.K) (tCons te (tCons (tC (.ty n)) tNil))) (mIsi n a) := by
  intro T st σ H r st' rl e Q k
  unfold mIsi at e
  split at e
  · cases e
  · rename_i r1 s1 e1
    split at e
    · cases e
    · rename_i d c
      split at e
      · cases e
      · rename_i b hb
        cases e
        refine ha T st σ H r1 _ rl e1 _ fun T1 v1 H1 E1 R1 => ?_
        unfold isiD at hb
        split at hb
        · rename_i t ht
          exact ⟨v1, .ty n, .type t, .type n, b, rfl, .ty n, .base (ty_of E1.rel.good (sees_of E1.rel R1 c) ht), kit_ty hb, k T1 (.bl b) H1 E1 rfl⟩
        · cases hb
theorem isi_int_non : isiD "int" .non = some false := by decide +kernel
theorem isi_int_bl (b : Bool) : isiD "int" (.bl b) = some true := by show kitB "bool" "int" = _; decide +kernel
theorem isi_int_int (i : Int) : isiD "int" (.int i) = some true := by show kitB "int" "int" = _; decide +kernel
theorem isi_int_str (x : Str) : isiD "int" (.str x) = some false := by show kitB "str" "int" = _; decide +kernel
theorem isi_int_tup (x : List D) : isiD "int" (.tup x) = some false := by show kitB "tuple" "int" = _; decide +kernel
theorem isi_int_lst (x : List D) : isiD "int" (.lst x) = some false := by show kitB "list" "int" = _; decide +kernel
theorem isi_bool_non : isiD "bool" .non = some false := by decide +kernel
theorem isi_bool_bl (b : Bool) : isiD "bool" (.bl b) = some true := by show kitB "bool" "bool" = _; decide +kernel
theorem isi_bool_int (i : Int) : isiD "bool" (.int i) = some false := by show kitB "int" "bool" = _; decide +kernel
theorem isi_bool_str (x : Str) : isiD "bool" (.str x) = some false := by show kitB "str" "bool" = _; decide +kernel
theorem isi_bool_tup (x : List D) : isiD "bool" (.tup x) = some false := by show kitB "tuple" "bool" = _; decide +kernel
theorem isi_bool_lst (x : List D) : isiD "bool" (.lst x) = some false := by show kitB "list" "bool" = _; decide +kernel
theorem isi_tuple_non : isiD "tuple" .non = some false := by decide +kernel
theorem isi_tuple_bl (b : Bool) : isiD "tuple" (.bl b) = some false := by show kitB "bool" "tuple" = _; decide +kernel
theorem isi_tuple_int (i : Int) : isiD "tuple" (.int i) = some false := by show kitB "int" "tuple" = _; decide +kernel
theorem isi_tuple_str (x : Str) : isiD "tuple" (.str x) = some false := by show kitB "str" "tuple" = _; decide +kernel
theorem isi_tuple_tup (x : List D) : isiD "tuple" (.tup x) = some true := by show kitB "tuple" "tuple" = _; decide +kernel
theorem isi_tuple_lst (x : List D) : isiD "tuple" (.lst x) = some false := by show kitB "list" "tuple" = _; decide +kernel

/-! ### sets of tuples of ints -/
def intsT : D → Option (List Int)
  | .tup ds => nums ds
  | _ => none
def intsTs : List D → Option (List (List Int))
  | [] => some []
  | d :: ds => match intsT d with
    | none => none
    | some r => match intsTs ds with
      | none => none
      | some rs => some (r :: rs)
theorem intsT_eq {d : D} {r : List Int} (h : intsT d = some r) : d = tupI r := by
  cases d <;> try (cases h; done)
  rw [nums_eq h]; rfl
theorem intsTs_eq : ∀ {ds : List D} {rs : List (List Int)}, intsTs ds = some rs → ds = rs.map tupI
  | [], _, h => by cases h; rfl
  | d :: ds, rs, h => by
    unfold intsTs at h
    split at h <;> try (cases h; done)
    rename_i r e1
    split at h <;> try (cases h; done)
    rename_i rs' e2
    cases h
    rw [List.map_cons, ← intsT_eq e1, ← intsTs_eq e2]
/-- set(xs) of a list of tuples of ints -/
def dSetT : List D → Option R
  | [.lst ds] => match intsTs ds with
    | some rs => if rs.length < 64 then some (.own (.st rs)) else none
    | none => none
  | _ => none
def rowsOk (d : Nat) (rs : List (List Int)) : Bool := rs.all fun r => r.length == d && r.all fun i => decide (0 ≤ i ∧ i < 64)
def setD (rs : List (List Int)) : List (List Int) := rs.eraseDups.mergeSort fun a b => decide (TS.code 64 a ≤ TS.code 64 b)
def dSortedT : List D → Option R
  | [.st []] => some (.own (.lst []))
  | [.st (r :: rs)] => if 1 ≤ r.length ∧ rowsOk r.length (r :: rs) = true then some (.own (.lst ((setD (r :: rs)).map tupI))) else none
  | _ => none
theorem rows_tups (g : Good G T H) : ∀ {vs : List V} {rs : List (List Int)}, Reps G T vs (rs.map tupI) → ∃ ks : List (Addr × List Int), vs = ks.map (fun p => V.ref p.1) ∧ rs = ks.map (·.2) ∧ ∀ p ∈ ks, T p.1 = some (tupI p.2)
  | _, [], h => by cases h; exact ⟨[], rfl, rfl, fun _ z => by simp at z⟩
  | _, r :: rs, h => by
    cases h with
    | @cons v _ vs _ a t =>
      obtain ⟨ks, e1, e2, e3⟩ := rows_tups g t
      cases v with
      | ref p =>
        rcases a with a | ⟨_, z, _⟩
        · exact ⟨(p, r) :: ks, by rw [e1]; rfl, by rw [e2]; rfl, fun q hq => by
            rcases List.mem_cons.mp hq with z | z
            · rw [z]; exact a
            · exact e3 q z⟩
        · cases z
      | _ => first | (cases a; done) | exact (show False from a).elim
theorem tup_at (g : Good G T H) {p : Addr} {r : List Int} (h : T p = some (tupI r)) : H p = some (.tup (r.map V.int)) ∧ r.length ≤ sizeLine := by
  obtain ⟨vs, e, q, z⟩ := g p _ h
  rw [reps_nums g q] at e
  exact ⟨e, by simpa using z⟩
theorem cr_setT (hc : X.calm = true) (hu : X.A.units + 64 < cLine) (hk : X.K = G.K := by rfl) (hp : X.prog = G.P := by rfl) (hw : X.w = G.w := by rfl) : CallR X (.type "set") (rB G dSetT) := by
  refine CallR.imp (cr_setOfT hc hu) fun xs H Q h => ?_
  obtain ⟨T, ds, res, g, h, e, k⟩ := h
  unfold dSetT at e
  split at e <;> try (cases e; done)
  split at e <;> try (cases e; done)
  rename_i rs er
  split at e <;> try (cases e; done)
  rename_i h64
  cases e
  obtain ⟨x, rfl, s⟩ := p1 h
  obtain ⟨a, vs, rfl, q, hH, r, z⟩ := s.lst g
  rw [intsTs_eq er] at r
  obtain ⟨ks, e1, e2, e3⟩ := rows_tups g r
  rw [hk, hp, hw]
  refine ⟨a, ks, rfl, by rw [← e1]; exact q, fun p hp => .inl (.inl (tup_at g (e3 p hp)).1), by rw [e2, List.length_map] at h64; exact h64, fun b L hb h1 h2 => ?_⟩
  refine k T _ _ (Step.new g hb _) ⟨b, rfl, hb, g.free hb, ⟨L, upd_same, fun p hp => ⟨?_, e3 p (h1 p hp)⟩, fun r hr => ?_⟩, by rw [upd_same]; exact True.intro⟩
  · rw [e2]; exact List.mem_map_of_mem (h1 p hp)
  · rw [e2] at hr
    obtain ⟨p, hp, rfl⟩ := List.mem_map.mp hr
    exact h2 p hp
theorem code_inj {B : Int} : ∀ (a b : List Int), a.length = b.length → TS.Bd B a → TS.Bd B b → TS.code B a = TS.code B b → a = b
  | [], [], _, _, _, _ => rfl
  | [], _ :: _, h, _, _, _ => by simp at h
  | _ :: _, [], h, _, _, _ => by simp at h
  | x :: xs, y :: ys, h, ha, hb, e => by
    have hl : xs.length = ys.length := by simpa using h
    rcases Int.lt_trichotomy x y with z | z | z
    · have := TS.code_lt hl ha.tail hb.tail z; omega
    · subst z
      have e' : TS.code B xs = TS.code B ys := by
        have e2 : x * B ^ xs.length + TS.code B xs = x * B ^ ys.length + TS.code B ys := e
        rw [← hl] at e2
        omega
      rw [code_inj xs ys hl ha.tail hb.tail e']
    · have := TS.code_lt hl.symm hb.tail ha.tail z; omega
theorem rowsOk_of {d : Nat} {rs : List (List Int)} (h : rowsOk d rs = true) {r : List Int} (hr : r ∈ rs) : r.length = d ∧ TS.Bd 64 r := by
  unfold rowsOk at h
  have := List.all_eq_true.mp h r hr
  simp only [Bool.and_eq_true, beq_iff_eq] at this
  exact ⟨this.1, fun m hm => by simpa using List.all_eq_true.mp this.2 m hm⟩
theorem setD_perm (rs : List (List Int)) : (setD rs).Perm rs.eraseDups := List.mergeSort_perm _ _
theorem mem_setD {rs : List (List Int)} {r : List Int} : r ∈ setD rs ↔ r ∈ rs := by rw [(setD_perm rs).mem_iff, List.mem_eraseDups]
theorem nodup_eraseDups {α : Type} [BEq α] [LawfulBEq α] : ∀ (n : Nat) (l : List α), l.length ≤ n → l.eraseDups.Nodup
  | n, [], _ => by simp
  | 0, x :: l, h => by simp at h
  | n + 1, x :: l, h => by
    rw [List.eraseDups_cons, List.nodup_cons]
    have hl : (l.filter fun b => !b == x).length ≤ n := Nat.le_trans (List.length_filter_le _ _) (by simpa using h)
    refine ⟨fun z => ?_, nodup_eraseDups n _ hl⟩
    rw [List.mem_eraseDups, List.mem_filter] at z
    simp at z
theorem setD_nodup (rs : List (List Int)) : (setD rs).Nodup := (setD_perm rs).nodup_iff.mpr (nodup_eraseDups _ _ (Nat.le_refl _))
theorem setD_sorted (rs : List (List Int)) : (setD rs).Pairwise fun a b => TS.code 64 a ≤ TS.code 64 b := by
  refine List.Pairwise.imp (fun h => of_decide_eq_true h) (List.pairwise_mergeSort (fun a b c h1 h2 => ?_) (fun a b => ?_) _)
  · have h1 := of_decide_eq_true h1
    have h2 := of_decide_eq_true h2
    exact decide_eq_true (Int.le_trans h1 h2)
  · rcases Int.le_total (TS.code 64 a) (TS.code 64 b) with z | z
    · simp [z]
    · simp [z]
theorem perm_of_nodup {α : Type} [DecidableEq α] {l m : List α} (hl : l.Nodup) (hm : m.Nodup) (h : ∀ a, a ∈ l ↔ a ∈ m) : l.Perm m := (List.perm_ext_iff_of_nodup hl hm).mpr h
theorem cr_sortedS (hc : X.calm = true) (hk : X.K = G.K := by rfl) (hp : X.prog = G.P := by rfl) (hw : X.w = G.w := by rfl) : CallR X (.builtin "sorted") (rB G dSortedT) := by
  refine CallR.imp (cr_sortedT hc) fun xs H Q h => ?_
  obtain ⟨T, ds, res, g, h, e, k⟩ := h
  have main : ∀ (d : Nat) (rows : List (List Int)), ds = [.st rows] → 1 ≤ d → rowsOk d rows = true → (∀ T' v H', NStep G T H T' H' → ResN G T' H H' v (R.own (.lst ((setD rows).map tupI))) → Q v H') → rSortedT X.K X.prog X.w xs H Q := by
    intro d rows ed hd ok k
    subst ed
    obtain ⟨x, rfl, s⟩ := p1 h
    have q : ∃ a, x = .ref a ∧ Shape G T H a (.st rows) := by
      rcases s.heap g rfl with h | ⟨a, ns, _, z, _⟩
      · exact h
      · cases z
    obtain ⟨a, rfl, L, eL, m1, m2⟩ := q
    rw [hk, hp, hw]
    refine ⟨a, L, d, 64, rfl, eL, fun p hp => .inl (.inl (tup_at g (m1 p hp).2).1), hd, fun p hp => rowsOk_of ok (m1 p hp).1, fun L' p pm nd h64 pw hn => ?_⟩
    have e1 : L'.map (·.2) = setD rows := by
      refine List.Perm.eq_of_pairwise (le := fun a b => TS.code 64 a ≤ TS.code 64 b) (fun x y hx hy h1 h2 => ?_) (by rw [List.pairwise_map]; exact pw) (setD_sorted rows) (perm_of_nodup nd (setD_nodup rows) fun r => ?_)
      · obtain ⟨p, hp, rfl⟩ := List.mem_map.mp hx
        have o1 := rowsOk_of ok (m1 p (pm.mem_iff.mp hp)).1
        have o2 := rowsOk_of ok (mem_setD.mp hy)
        exact code_inj _ _ (o1.1.trans o2.1.symm) o1.2 o2.2 (Int.le_antisymm h1 h2)
      · rw [mem_setD, (pm.map (·.2)).mem_iff]
        refine ⟨fun z => ?_, m2 r⟩
        obtain ⟨p, hp, rfl⟩ := List.mem_map.mp z
        exact (m1 p hp).1
    have r1 : ∀ L'' : List (Addr × List Int), (∀ p ∈ L'', T p.1 = some (tupI p.2)) → Reps G T (L''.map fun q => V.ref q.1) ((L''.map (·.2)).map tupI) := by
      intro L''
      induction L'' with
      | nil => intro _; exact .nil
      | cons p L'' ih => intro h; exact .cons (.inl (h p (List.mem_cons_self ..))) (ih fun q hq => h q (List.mem_cons_of_mem _ hq))
    have r2 := r1 L' fun p hp => (m1 p (pm.mem_iff.mp hp)).2
    rw [e1] at r2
    refine k T _ _ (Step.new g hn _) ⟨p, rfl, hn, own_new g hn r2 ?_⟩
    rw [← e1, List.length_map, List.length_map, sizeLine_eq]
    omega
  unfold dSortedT at e
  split at e <;> try (cases e; done)
  · cases e
    exact main 1 [] rfl (Nat.le_refl _) rfl (by rw [show setD [] = [] from List.mergeSort_nil]; exact k)
  · rename_i r rs
    split at e <;> try (cases e; done)
    rename_i hh
    cases e
    exact main r.length (r :: rs) rfl hh.1 hh.2 k

/-! ### -x, not on ints -/
def dNeg : D → Option R
  | .int i => ri (-i)
  | _ => none
theorem ok_neg : OkR1 G (rU fun i => .int (-i)) dNeg := by
  intro T H x dx res gd sx e Q k
  unfold dNeg at e
  split at e <;> try (cases e; done)
  cases e
  exact ⟨_, sx.int gd, one gd k rfl⟩
end
end LD

/-! Layer D: dicts whose keys are tuples (of tuples). -/
namespace LD
open PySem PySem.W PySem.Calls PySem.Spec PyProof.Rows L2

section
variable {G : Gm} {T T1 T2 : Ty} {st st1 st2 : DSt} {σ σ1 σ2 : L2.St} {H H1 H2 : Hp} {v : V} {d : D} {r : R} {X : Cx}

/-! ### keys in the heap -/
mutual
theorem nested_of {pins : List (Addr × Obj)} {s : Shared} (I : Inv X pins σ H s) (g : Good G T H) : ∀ (d : D) (v : V) (u : Value) (k : NestedKey), RepT G T v d → RelV v u → nk d = some k → NestedIs s.heap k u
  | .non, v, u, k, h, ru, e => by
    rw [nk] at e; cases e
    rw [(Sees.of_rep (H := H) h).non g] at ru
    cases (show u = Value.none from ru)
    exact .none
  | .bl b, v, u, k, h, ru, e => by
    rw [nk] at e; cases e
    rw [(Sees.of_rep (H := H) h).bl g] at ru
    cases (show u = Value.bool b from ru)
    exact .bool rfl
  | .int i, v, u, k, h, ru, e => by
    rw [nk] at e; cases e
    rw [(Sees.of_rep (H := H) h).int g] at ru
    obtain ⟨t, q⟩ := (show ∃ t, u = Value.int i t from ru)
    rw [q]
    exact .int i t
  | .str x, v, u, k, h, ru, e => by
    rw [nk] at e; cases e
    rw [(Sees.of_rep (H := H) h).str g] at ru
    obtain ⟨t, q⟩ := (show ∃ t, u = Value.str x t from ru)
    rw [q]
    exact .text x t
  | .tup ds, v, u, k, h, ru, e => by
    rw [nk] at e
    split at e
    · rename_i ks eks
      cases e
      cases v with
      | ref a =>
        rcases h with h | ⟨_, z, _⟩
        · obtain ⟨vs, e1, r1, _⟩ := g a _ h
          obtain ⟨_, its, rv, o, h1, h2, n, h3⟩ := (show ObjOk X.prog X.w H s.heap a (.tup vs) from I.hok a _ e1)
          cases (show u = Value.ref a from ru)
          exact .tup h1 h2 h3 (by simpa using nested_all I g ds vs its ks r1 rv eks)
        · cases z
      | _ => first | (cases h; done) | exact (show False from h).elim
    · cases e
  | .lst _, v, u, k, h, ru, e => by rw [nk] at e; all_goals (first | (cases e; done) | (intros; intro z; cases z))
  | .st _, v, u, k, h, ru, e => by rw [nk] at e; all_goals (first | (cases e; done) | (intros; intro z; cases z))
  | .dic _ _, v, u, k, h, ru, e => by rw [nk] at e; all_goals (first | (cases e; done) | (intros; intro z; cases z))
  | .ins _ _, v, u, k, h, ru, e => by rw [nk] at e; all_goals (first | (cases e; done) | (intros; intro z; cases z))
  | .cch _, v, u, k, h, ru, e => by rw [nk] at e; all_goals (first | (cases e; done) | (intros; intro z; cases z))
  | .scr _, v, u, k, h, ru, e => by rw [nk] at e; all_goals (first | (cases e; done) | (intros; intro z; cases z))
theorem nested_all {pins : List (Addr × Obj)} {s : Shared} (I : Inv X pins σ H s) (g : Good G T H) : ∀ (ds : List D) (vs : List V) (us : List Value) (ks : List NestedKey), Reps G T vs ds → Vals vs us → nk.nks ds = some ks → NestedAll s.heap ks us
  | [], _, _, ks, .nil, .nil, e => by
    rw [nk.nks] at e; cases e
    exact .nil
  | d :: ds, _, _, ks, .cons a t, .cons b u, e => by
    rw [nk.nks] at e
    split at e
    · rename_i k ek
      split at e
      · rename_i ks' eks
        cases e
        exact .cons (nested_of I g d _ _ k a b ek) (nested_all I g ds _ _ ks' t u eks)
      · cases e
    · cases e
end
theorem nkey_of {d : D} {k : NestedKey} (h : nkey d = some k) : nk d = some k ∧ k.depth ≤ 8 := by
  unfold nkey at h
  split at h
  · split at h
    · rename_i e
      split at h
      · cases h; exact ⟨e, by assumption⟩
      · cases h
    · cases h
  · cases h
theorem key_is {pins : List (Addr × Obj)} {s : Shared} (I : Inv X pins σ H s) (g : Good G T H) {a : Addr} {k : NestedKey} {P : Program} {w : World} (h : T a = some d) (e : nkey d = some k) : (nestedKind P w).is s.heap k a :=
  ⟨nested_of I g d (.ref a) (.ref a) k (.inl h) rfl (nkey_of e).1, (nkey_of e).2⟩
abbrev DX (x : NestedKey × Addr × V) (y : NestedKey × Addr × Value) : Prop := x.1 = y.1 ∧ x.2.1 = y.2.1 ∧ RelV x.2.2 y.2.2
abbrev DP (G : Gm) (T : Ty) (x : NestedKey × Addr × V) (p : D × D) : Prop := nkey p.1 = some x.1 ∧ T x.2.1 = some p.1 ∧ RepT G T x.2.2 p.2
theorem dictOf {pins : List (Addr × Obj)} {s : Shared} (I : Inv X pins σ H s) (g : Good G T H) {a : Addr} {xs : List (NestedKey × Addr × V)} {ps : List (D × D)} {P : Program} {w : World} (h : DN0 P w s.heap a xs) (q : Paired (DP G T) xs ps) :
    ∃ ys, Paired DX xs ys ∧ s.heap.DictOfH (nestedKind P w) a ys := by
  obtain ⟨h1, h2, ys, p, o, es, ep, e1, e2, e3, e4, e5⟩ := h
  refine ⟨ys, p, o, es, ep, e1, e2, e3, e4, ?_, e5⟩
  clear e1 e2 e3 e4 e5 h2
  induction p generalizing ps with
  | nil => intro x hx; simp at hx
  | @cons x y xs ys hx t ih =>
    cases q with
    | cons hq tq =>
      intro z hz
      rcases List.mem_cons.mp hz with e | e
      · rw [e, ← hx.1, ← hx.2.1]
        exact key_is I g hq.2.1 hq.1
      · exact ih tq z e
/-- a key's place -/
def keyAt (k : NestedKey) : List (D × D) → Option D
  | [] => none
  | p :: ps => if nkey p.1 = some k then some p.2 else keyAt k ps
def putD (k : NestedKey) (d e : D) (ps : List (D × D)) : List (D × D) := if (keyAt k ps).isSome = true then ps.map fun p => if nkey p.1 = some k then (p.1, e) else p else ps ++ [(d, e)]
def atN (k : NestedKey) : List (NestedKey × Addr × V) → Option V
  | [] => none
  | p :: ps => if p.1 = k then some p.2.2 else atN k ps
def putN (k : NestedKey) (a : Addr) (v : V) (xs : List (NestedKey × Addr × V)) : List (NestedKey × Addr × V) := if (atN k xs).isSome = true then xs.map fun x => if x.1 = k then (x.1, x.2.1, v) else x else xs ++ [(k, a, v)]
theorem at_D {k : NestedKey} {xs : List (NestedKey × Addr × V)} {ps : List (D × D)} (q : Paired (DP G T) xs ps) : (atN k xs = none ∧ keyAt k ps = none) ∨ ∃ v d, atN k xs = some v ∧ keyAt k ps = some d ∧ RepT G T v d := by
  induction q with
  | nil => exact .inl ⟨rfl, rfl⟩
  | @cons x p xs ps h t ih =>
    unfold atN keyAt
    rw [h.1]
    by_cases e : x.1 = k
    · rw [if_pos e, if_pos (by rw [e])]
      exact .inr ⟨_, _, rfl, rfl, h.2.2⟩
    · rw [if_neg e, if_neg (fun z => e (Option.some.inj z))]
      exact ih
theorem at_X {k : NestedKey} {xs : List (NestedKey × Addr × V)} {ys : List (NestedKey × Addr × Value)} (q : Paired DX xs ys) : (atN k xs = none ∧ atKey ys k = none) ∨ ∃ v p, atN k xs = some v ∧ atKey ys k = some p ∧ RelV v p.2 := by
  induction q with
  | nil => exact .inl ⟨rfl, rfl⟩
  | @cons x y xs ys h t ih =>
    unfold atN
    unfold atKey at ih ⊢
    rw [List.find?_cons]
    by_cases e : x.1 = k
    · rw [if_pos e]
      have e' : y.1 = k := h.1.symm.trans e
      rw [show decide (y.1 = k) = true from decide_eq_true e']
      exact .inr ⟨_, _, rfl, rfl, h.2.2⟩
    · rw [if_neg e]
      have e' : ¬ y.1 = k := fun z => e (h.1.trans z)
      rw [show decide (y.1 = k) = false from decide_eq_false e']
      exact ih
theorem paired_app {α β : Type} {F : α → β → Prop} {xs xs' : List α} {ys ys' : List β} (h : Paired F xs ys) (h' : Paired F xs' ys') : Paired F (xs ++ xs') (ys ++ ys') := by
  induction h with
  | nil => exact h'
  | cons a t ih => exact .cons a ih
theorem put_D {k : NestedKey} {a : Addr} {v : V} {d e : D} {xs : List (NestedKey × Addr × V)} {ps : List (D × D)} (q : Paired (DP G T) xs ps) (hk : nkey d = some k) (ha : T a = some d) (rv : RepT G T v e) : Paired (DP G T) (putN k a v xs) (putD k d e ps) := by
  unfold putN putD
  rcases at_D (k := k) q with ⟨h1, h2⟩ | ⟨v', d', h1, h2, _⟩
  · rw [h1, h2]
    exact paired_app q (.cons ⟨hk, ha, rv⟩ .nil)
  · rw [h1, h2]
    simp only [Option.isSome_some, if_true]
    clear h1 h2
    induction q with
    | nil => exact .nil
    | @cons x p xs ps h t ih =>
      refine .cons ?_ ih
      dsimp only
      by_cases z : x.1 = k
      · rw [if_pos z, if_pos (by rw [h.1, z])]
        exact ⟨h.1, h.2.1, rv⟩
      · rw [if_neg z, if_neg (by rw [h.1]; exact fun y => z (Option.some.inj y))]
        exact h
theorem put_X {k : NestedKey} {a : Addr} {v : V} {u : Value} {xs : List (NestedKey × Addr × V)} {ys : List (NestedKey × Addr × Value)} (q : Paired DX xs ys) (rv : RelV v u) : Paired DX (putN k a v xs) (storedH ys k a u) := by
  unfold putN storedH
  rcases at_X (k := k) q with ⟨h1, h2⟩ | ⟨v', d', h1, h2, _⟩
  · rw [h1, h2]
    exact paired_app q (.cons ⟨rfl, rfl, rv⟩ .nil)
  · rw [h1, h2]
    simp only [Option.isSome_some, if_true]
    clear h1 h2
    induction q with
    | nil => exact .nil
    | @cons x p xs ps h t ih =>
      refine .cons ?_ ih
      unfold putAt
      dsimp only
      by_cases z : x.1 = k
      · rw [if_pos z, if_pos (h.1.symm.trans z)]
        exact ⟨h.1, h.2.1, rv⟩
      · rw [if_neg z, if_neg (fun y => z (h.1.trans y))]
        exact h
theorem putN_len {k : NestedKey} {a : Addr} {v : V} (xs : List (NestedKey × Addr × V)) : (putN k a v xs).length ≤ xs.length + 1 := by
  unfold putN
  split
  · rw [List.length_map]; omega
  · rw [List.length_append]; simp
theorem DN.obj {P : Program} {w : World} {h : Heap} {a : Addr} {xs : List (NestedKey × Addr × V)} (d : DN0 P w h a xs) : ObjOk P w H h a (DN P w a xs) := by
  have d' := d
  obtain ⟨_, _, ys, p, o, es, ep, e1, _⟩ := d'
  refine ⟨d, ⟨o, e1⟩, fun h1 h2 x k => ?_⟩
  obtain ⟨z1, z2, ys, p, o, es, ep, e1, e2⟩ := x
  exact ⟨z1, z2, ys, p, o, es, ep, k o e1, e2⟩
theorem DN.of {P : Program} {w : World} {h : Heap} {a : Addr} {xs : List (NestedKey × Addr × V)} {ys : List (NestedKey × Addr × Value)} (hs : (a == sysModules) = false) (hz : xs.length ≤ sizeLine) (p : Paired DX xs ys) (q : h.DictOfH (nestedKind P w) a ys) : DN0 P w h a xs := by
  obtain ⟨o, es, ep, e1, e2, e3, e4, _, e5⟩ := q
  exact ⟨hs, hz, ys, p, o, es, ep, e1, e2, e3, e4, e5⟩

/-! ### {} -/
def tDNewN (P : Program) (w : World) : TE := fun _ H Q => ∀ p, H p = none → Q (.ref p) (upd H p (DN P w p []))
theorem pe_dnewN {pos : Pos} : PE X (.Dict [] [] pos) (tDNewN X.prog X.w) := ⟨fun pins s σ H Q I h =>
  wpAny_Dict_empty ⟨.ref s.heap.objs.size, _, I.laid (a := s.heap.objs.size) (o := DN X.prog X.w s.heap.objs.size []) (t' := s.toks) (fun _ _ q => Heap.get?_push_of_some _ q) (Nat.le_refl _)
    (DN.obj ⟨beq_eq_false_iff_ne.mpr (Ne.symm (Nat.ne_of_lt I.big)), Nat.zero_le _, [], .nil, _, #[], 0, Heap.get?_push_size _ rfl, ⟨rfl, rfl, rfl⟩, rfl, rfl, List.nodup_nil⟩), rfl, h _ (I.hok.fresh (Nat.le_refl _))⟩⟩
def mDNew : M := fun st => some (.own (.dic true []), st)
theorem ok_dnew : OkE G (tDNewN G.P G.w) mDNew := by
  intro T st σ H r st' rl e Q k
  cases e
  intro p hp
  exact k T (.ref p) _ (rl.ekeep (Step.new rl.good hp _)) ⟨p, rfl, hp, rl.good.free hp, ⟨[], .inl upd_same, .nil⟩, by rw [upd_same]; exact True.intro⟩

/-! ### d[k] = e -/
def rSetN (G : Gm) : V → V → V → Hp → (Hp → Prop) → Prop := fun o i v H Q => ∃ T p a xs ps dk k, Good G T H ∧ o = .ref p ∧ i = .ref a ∧ H p = some (DN G.P G.w p xs) ∧ Paired (DP G T) xs ps ∧ T a = some dk ∧ nkey dk = some k ∧ xs.length < sizeLine ∧ Q (upd H p (DN G.P G.w p (putN k a v xs)))
theorem set_dictN (hu : X.A.units + 64 < cLine) (hp : X.prog = G.P := by rfl) (hw : X.w = G.w := by rfl) : PSet X (rSetN G) := by
  intro pins s σ H o i v ov iv u Q I ro ri rv h
  obtain ⟨T, p, a, xs, ps, dk, k, g, rfl, rfl, hH, hq, ha, hk, hz, q⟩ := h
  rw [← hp, ← hw] at hH q
  cases ro
  cases ri
  have d0 : DN0 X.prog X.w s.heap p xs := (I.hok p _ hH).1
  obtain ⟨ys, hx, hd⟩ := dictOf I g d0 hq
  have hl : xs.length = ys.length := hx.length
  refine wpAny_setItem_heap (knd := nestedKind X.prog X.w) (show X.A.units + 1 + 8 < cLine by omega) (key_is I g ha hk) hd (fun h' hd' hs => ?_) (by omega)
  refine ⟨upd H p (DN X.prog X.w p (putN k a v xs)), ?_, q⟩
  have hthere : ∃ u, h'.get? p = some u := by
    obtain ⟨o, _, _, e, _⟩ := hd'
    exact ⟨o, e⟩
  refine I.write (x := p) (e := p) (t' := _) (by rw [hH]; trivial) (.inl rfl) (fun b u hb q => (hs.2 b hb).trans q) hthere ?_
  refine DN.obj (DN.of d0.1 ?_ (put_X hx rv) hd')
  have := putN_len (k := k) (a := a) (v := v) xs
  omega
def isDic (st : DSt) (i : Nat) : Bool := match st[i]? with
  | some (some (.rt _ (.dic true _))) => true
  | _ => false
def gKey (i : Nat) (m : M) : MG := fun d st => if isDic st i = true then match m st with
  | some (.imm dk, s1) => match s1[i]? with
    | some (some (.rt k (.dic true ps))) => match nkey dk with
      | some key => if ps.length < sizeLine then some (s1.set i (some (.rt k (.dic true (putD key dk d ps))))) else none
      | none => none
    | _ => none
  | _ => none
  else none
theorem isDic_of {i : Nat} (rl : Rel G T st σ H) (h : isDic st i = true) : ∃ a, σ[i]? = some (some (.ref a)) := by
  unfold isDic at h
  split at h
  · rename_i k ds e
    obtain ⟨a, h1, o⟩ := rl.rts i k _ e
    exact ⟨a, h1⟩
  · cases h
theorem mut_rd {a : Addr} {u : HO} (m : Mut (H a)) (h : Rd H a u) : H a = some u := by
  rcases h with h | ⟨o, h⟩
  · exact h
  · rw [h] at m; exact m.elim
theorem ref_of {v : V} {ds : List D} (h : RepT G T v (.tup ds)) : ∃ a, v = .ref a ∧ T a = some (.tup ds) := by
  cases v with
  | ref a =>
    rcases h with h | ⟨_, z, _⟩
    · exact ⟨a, rfl, h⟩
    · cases z
  | _ => first | (cases h; done) | exact (show False from h).elim
theorem nkey_tup {k : NestedKey} (h : nkey d = some k) : ∃ ds, d = .tup ds := by
  unfold nkey at h
  split at h
  · exact ⟨_, rfl⟩
  · cases h
theorem ok_gKey {i : Nat} {t : TE} {m : M} {r' : V → V → V → Hp → (Hp → Prop) → Prop} (hm : OkE G t m) (im : ∀ o i v H Q, rSetN G o i v H Q → r' o i v H Q) : OkG G (gSub (tVar i) t r') (gKey i m) := by
  intro T st σ H v d st' rl rv0 e Q k
  unfold gKey at e
  split at e
  · rename_i hl
    obtain ⟨a, ha⟩ := isDic_of rl hl
    split at e
    · rename_i dk s1 e1
      split at e
      · rename_i kk ps e3
        split at e
        · rename_i key ek
          split at e
          · rename_i hz
            cases e
            refine ⟨.ref a, ha, ?_⟩
            refine hm T st σ H _ s1 rl e1 _ fun T1 v1 H1 E1 R1 => ?_
            obtain ⟨b, hb, o⟩ := E1.rel.rts i kk _ e3
            rw [ha] at hb; cases hb
            obtain ⟨xs, rx, px⟩ := o.sh
            have ex := mut_rd o.mu rx
            obtain ⟨ds, rfl⟩ := nkey_tup ek
            obtain ⟨c, rfl, hc⟩ := ref_of (show RepT G T1 v1 _ from R1)
            have hlen : xs.length = ps.length := px.length
            refine im _ _ _ _ _ ⟨T1, a, c, xs, ps, _, key, E1.rel.good, rfl, rfl, ex, px, hc, ek, by omega, ?_⟩
            have W := rel_write E1.rel e3 ha o (o := DN G.P G.w a (putN key c v xs)) (d' := .dic true (putD key (.tup ds) d ps)) ⟨_, .inl upd_same, put_D px ek hc (rv0.mono E1.step.sub)⟩ trivial
            exact k T1 σ _ (E1.trans W).s
          · cases e
        · cases e
      · cases e
    · cases e
  · cases e
/-- a target xs[j], d[k] by what the name holds -/
def gItem (i : Nat) (m : M) : MG := fun d st => if isL st i = true then gIx i m d st else gKey i m d st
def rSetA (G : Gm) : V → V → V → Hp → (Hp → Prop) → Prop := fun o i v H Q => rSetL o i v H Q ∨ rSetN G o i v H Q
theorem set_any (hu : X.A.units + 64 < cLine) (hp : X.prog = G.P := by rfl) (hw : X.w = G.w := by rfl) : PSet X (rSetA G) := by
  intro pins s σ H o i v ov iv u Q I ro ri rv h
  rcases h with h | h
  · exact set_list pins s σ H o i v ov iv u Q I ro ri rv h
  · exact set_dictN hu hp hw pins s σ H o i v ov iv u Q I ro ri rv h
theorem ok_gItem {i : Nat} {t : TE} {m : M} (hm : OkE G t m) : OkG G (gSub (tVar i) t (rSetA G)) (gItem i m) := by
  intro T st σ H v d st' rl rv0 e Q k
  unfold gItem at e
  split at e
  · exact ok_gIx' hm (fun _ _ _ _ _ z => .inl z) T st σ H v d st' rl rv0 e Q k
  · exact ok_gKey hm (fun _ _ _ _ _ z => .inr z) T st σ H v d st' rl rv0 e Q k

/-! ### list(d), len(d), k in d, d[k] -/
theorem CallR.or {f : Value} {r r' : List V → Hp → VK → Prop} (h : CallR X f r) (h' : CallR X f r') : CallR X f (fun xs H Q => r xs H Q ∨ r' xs H Q) := fun pins s σ H xs us Q I rv q => q.elim (h pins s σ H xs us Q I rv) (h' pins s σ H xs us Q I rv)
theorem cr_or {f : Value} {a b c : List D → Option R} (h : CallR X f (rB G a)) (h' : CallR X f (rB G b)) (hc : ∀ ds r, c ds = some r → a ds = some r ∨ b ds = some r) : CallR X f (rB G c) :=
  CallR.imp (CallR.or h h') fun xs H Q ⟨T, ds, res, g, hp, e, k⟩ => (hc ds res e).elim (fun z => .inl ⟨T, ds, res, g, hp, z, k⟩) fun z => .inr ⟨T, ds, res, g, hp, z, k⟩
def dListN : List D → Option R
  | [.dic true ps] => if ps.length ≤ sizeLine then some (.own (.lst (ps.map (·.1)))) else none
  | _ => none
theorem keys_reps {xs : List (NestedKey × Addr × V)} {ps : List (D × D)} (q : Paired (DP G T) xs ps) : Reps G T (xs.map fun x => V.ref x.2.1) (ps.map (·.1)) := by
  induction q with
  | nil => exact .nil
  | cons a t ih => exact .cons (.inl a.2.1) ih
theorem keys_vals {xs : List (NestedKey × Addr × V)} {ys : List (NestedKey × Addr × Value)} (q : Paired DX xs ys) {us : List Value} (h : us = ys.map fun y => Value.ref y.2.1) : Vals (xs.map fun x => V.ref x.2.1) us := by
  subst h
  induction q with
  | nil => exact .nil
  | cons a t ih => exact .cons (by dsimp only; rw [a.2.1]; rfl) ih
theorem dic_at (g : Good G T H) {x : V} {ps : List (D × D)} (s : Sees G T H x (.dic true ps)) : ∃ a xs, x = .ref a ∧ Rd H a (DN G.P G.w a xs) ∧ Paired (DP G T) xs ps := by
  rcases s.heap g rfl with ⟨a, e, xs, h, q⟩ | ⟨a, ns, _, z, _⟩
  · exact ⟨a, xs, e, h, q⟩
  · cases z
theorem cr_listN (hc : X.A.handled = none) (hp : X.prog = G.P := by rfl) (hw : X.w = G.w := by rfl) : CallR X (.type "list") (rB G dListN) := by
  intro pins s σ H xs us Q I rv h
  obtain ⟨T, ds, res, g, h, e, k⟩ := h
  unfold dListN at e
  split at e <;> try (cases e; done)
  rename_i ps
  split at e <;> try (cases e; done)
  rename_i hz
  cases e
  obtain ⟨x, rfl, sx⟩ := p1 h
  obtain ⟨a, xs, rfl, hr, q⟩ := dic_at g sx
  rw [Vals.ref1 rv]
  have d0 : DN0 G.P G.w s.heap a xs := (hr.ok I.hok).1
  obtain ⟨hs, hz', ys, px, o, es, ep, e1, e2, e3, e4, e5⟩ := d0
  have hlen : es.size = ys.length := size_of_entries e4
  have hl : xs.length = ys.length := px.length
  refine kdl_call (KdlSrc.rawDict (es := es) (ep := ep) hs) hc ⟨o, e1, e2, e3⟩ (by omega) fun h' tk acc' c' hk hD hacc => ?_
  have hn : H s.heap.objs.size = none := I.hok.fresh (Nat.le_refl _)
  have eacc : acc'.toList = ys.map fun y => Value.ref y.2.1 := by
    refine List.ext_getElem? fun j => ?_
    rw [Array.getElem?_toList]
    by_cases hj : j < acc'.size
    · have hj' : j < es.size := by rw [← hacc.1]; exact hj
      have hje : acc'[j]? = some acc'[j] := Array.getElem?_eq_getElem hj
      obtain ⟨_, ev⟩ := hacc.2 j _ hje
      have he := entry_at e4 j
      rw [Array.getElem?_eq_getElem hj'] at he
      rw [hje, ev, List.getElem?_map]
      cases hy : ys[j]? with
      | none => rw [hy] at he; cases he
      | some y =>
        rw [hy] at he
        have he' := Option.some.inj he
        rw [he']
        rfl
    · rw [Array.getElem?_eq_none (by omega), List.getElem?_eq_none (by rw [List.length_map]; have := hacc.1; omega)]
  have hlist : h'.get? s.heap.objs.size = some { cls := .type "list", data := .seq acc'.toList.toArray c' } := by
    rw [Array.toArray_toList]; exact hD
  refine ⟨.ref s.heap.objs.size, upd H s.heap.objs.size (.lst (xs.map fun x => V.ref x.2.1)), I.laid (t' := tk) hk (Nat.le_refl _) (show ObjOk X.prog X.w _ _ _ (.lst _) from ⟨by rw [List.length_map]; exact hz', acc'.toList, c', keys_vals px eacc, hlist⟩), rfl, ?_⟩
  exact k T _ _ (Step.new g hn _) ⟨_, rfl, hn, own_new g hn (keys_reps q) (by rw [List.length_map]; exact hz)⟩
/-- list(x): a list, a tuple, a dict -/
def dListA (ds : List D) : Option R := match dList ds with
  | some r => some r
  | none => dListN ds
theorem cr_listA (hc : X.A.handled = none) (hk : X.K = G.K := by rfl) (hp : X.prog = G.P := by rfl) (hw : X.w = G.w := by rfl) : CallR X (.type "list") (rB G dListA) :=
  cr_or (cr_list hk) (cr_listN hc hp hw) fun ds r h => by
    unfold dListA at h
    split at h
    · rename_i e; cases h; exact .inl e
    · exact .inr h
def dSortedA (ds : List D) : Option R := match dSorted ds with
  | some r => some r
  | none => dSortedT ds
theorem cr_sortedA (hc : X.calm = true) (hu : X.A.units + 66 < cLine) (hk : X.K = G.K := by rfl) (hp : X.prog = G.P := by rfl) (hw : X.w = G.w := by rfl) : CallR X (.builtin "sorted") (rB G dSortedA) :=
  cr_or (cr_sorted hu hk) (cr_sortedS hc hk hp hw) fun ds r h => by
    unfold dSortedA at h
    split at h
    · rename_i e; cases h; exact .inl e
    · exact .inr h
end
end LD

/-! Layer D: instances: made, read, their fields stored. -/
namespace LD
open PySem PySem.Spec PyProof.Rows L2

section
variable {G : Gm} {T T1 T2 : Ty} {st st1 st2 : DSt} {σ σ1 σ2 : L2.St} {H H1 H2 : Hp} {v : V} {d : D} {r : R} {X : Cx}

/-! ### o.f = .. as a target -/
def gFl (K : PySem.W.Frag) (ta : TE) (f : Str) : TG := fun v σ H Q => ta σ H fun x H1 => ∃ a C dx fs, x = .ref a ∧ H1 a = some (.ins C dx fs) ∧ Cls K C ∧ NoAttr K C f ∧ fs.length < 1000 ∧ Q σ (upd H1 a (.ins C dx (putF f v fs)))
theorem pg_fl {o : Expr} {f : Str} {pos : Pos} {ta : TE} (ho : PE X o ta)
    (ha : ∀ v, assign (.Attribute o f pos) X.env v = (do
      let ov ← holding [v] (eval o X.env)
      standAt pos.atName
      holding [v, ov] (setAttr ov f v)
      release [v, ov] []) := by intro _; rfl) : PG X (.Attribute o f pos) (gFl X.K ta f) := by
  refine ⟨fun pins s σ H v u Q I r h => ?_⟩
  rw [ha]
  refine wpAny_bind (wpAny_holding (thn (ho.run pins s σ H _ I h) fun ov s1 ⟨x, H1, I1, rx, a, C, dx, fs, ex, ea, c, n, l, q⟩ => ?_))
  subst ex
  obtain rfl : ov = Value.ref a := rx
  refine wpAny_bind (wpAny_standAt (wpAny_bind (wpAny_holding (setattr_ok I1 ea c n l r fun s3 I3 => ?_))))
  exact wpAny_release ⟨σ, _, I3, q⟩
/-- what a class's field by place needs -/
structure FldOk (G : Gm) (k j : Nat) (f : Str) : Prop where
  cl : Cls G.K (G.C k)
  na : NoAttr G.K (G.C k) f
  get : ∀ (vs : List V) v, vs[j]? = some v → ((G.fl k).zip vs).lookup f = some v
  put : ∀ (vs : List V) v, vs.length = j → putF f v ((G.fl k).zip vs) = (G.fl k).zip (vs ++ [v])
  few : j < (G.fl k).length ∧ (G.fl k).length ≤ 100
/-- slot i's instance gets its next field -/
def gFld (i k j : Nat) : MG := fun d st => match st[i]? with
  | some (some (.rt kk (.ins k' fs))) => if k' = k ∧ fs.length = j then some (st.set i (some (.rt kk (.ins k (fs ++ [d]))))) else none
  | _ => none
theorem ok_gFld {i k j : Nat} {f : Str} (F : FldOk G k j f) : OkG G (gFl G.K (tVar i) f) (gFld i k j) := by
  intro T st σ H v d st' rl rv0 e Q kq
  unfold gFld at e
  split at e
  · rename_i kk k' fs e3
    split at e
    · rename_i hh
      obtain ⟨rfl, hj⟩ := hh
      cases e
      obtain ⟨a, ha, o⟩ := rl.rts i kk _ e3
      obtain ⟨dx, vs, hv, hl, rv⟩ := o.sh
      have lv := rv.length
      refine ⟨.ref a, ha, a, G.C k', dx, _, rfl, hv, F.cl, F.na, ?_, ?_⟩
      · have := F.few.2
        rw [List.length_zip]; omega
      · rw [F.put vs v (by omega)]
        have W := rel_write rl e3 ha o (o := .ins (G.C k') dx ((G.fl k').zip (vs ++ [v]))) (d' := .ins k' (fs ++ [d])) ⟨dx, vs ++ [v], upd_same, by
          have := F.few.1
          rw [List.length_append]; show vs.length + 1 ≤ _; omega, reps_app rv (.cons rv0 .nil)⟩ trivial
        exact kq T σ _ W.s
    · cases e
  · cases e

/-! ### o.f, read -/
def mFld (k j : Nat) (a : M) : M := fun st => match a st with
  | none => none
  | some (r, s) => match cont s r with
    | some (.ins k' fs) => if k' = k then match fs[j]? with
      | some d => some (.imm d, s)
      | none => none
      else none
    | _ => none
theorem ok_fld {k j : Nat} {f : Str} {te : TE} {a : M} (F : FldOk G k j f) (ha : OkE G te a) : OkE G (tFld G.K te f) (mFld k j a) := by
  intro T st σ H r st' rl e Q kq
  unfold mFld at e
  split at e
  · cases e
  · rename_i r1 s1 e1
    split at e
    · rename_i k' fs hc
      split at e
      · rename_i hk
        subst hk
        split at e
        · rename_i d hd
          cases e
          refine ha T st σ H r1 _ rl e1 _ fun T1 v1 H1 E1 R1 => ?_
          have sv := sees_of E1.rel R1 hc
          have q : ∃ a, v1 = .ref a ∧ Shape G T1 H1 a (.ins k' fs) := by
            rcases sv.heap E1.rel.good rfl with h | ⟨a, ns, _, z, _⟩
            · exact h
            · cases z
          obtain ⟨a, rfl, dx, vs, hv, hl, rv⟩ := q
          obtain ⟨w, h1, h2⟩ := reps_ix rv hd
          exact ⟨a, G.C k', dx, _, w, rfl, hv, F.cl, F.na, F.get vs w h1, kq T1 w H1 E1 h2⟩
        · cases e
      · cases e
    · cases e

/-! ### the dict that a web keeps -/
def mCch : M := fun st => some (.imm (.cch []), st)
theorem ok_cch : OkE G tDNewK mCch := by
  intro T st σ H r st' rl e Q k
  cases e
  intro p hp
  exact k _ (.ref p) _ (rl.ekeep (Step.lay rl.good hp _ (d := .cch []) (.inl upd_same))) (.inl tset_same)

/-! ### C(..) -/
def mMake (k : Nat) (f : FM) (a : MCa) : M := fun st => match a st with
  | none => none
  | some (rs, s) => match svsD s rs with
    | none => none
    | some svs => if slotsD rs = [] then match f (.rt false (.ins k []) :: svs) with
      | some (.imm .non, .rt _ (.ins k' fs) :: _) => if k' = k then some (.own (.ins k fs), s) else none
      | _ => none
      else none
theorem svs_imm {s : DSt} : ∀ {rs : List R} {svs : List SV}, svsD s rs = some svs → slotsD rs = [] → ∀ (i : Nat) k d, svs[i]? ≠ some (.rt k d)
  | [], svs, h, _, i, k, d => by cases h; simp
  | .imm x :: rs, svs, h, h', i, k, d => by
    unfold svsD at h
    split at h
    · rename_i s' e
      cases h
      cases i with
      | zero => simp
      | succ i => simpa using svs_imm e h' i k d
    · cases h
  | .slot j :: rs, svs, h, h', i, k, d => by simp [slotsD] at h'
  | .own _ :: _, svs, h, h', i, k, d => by simp [svsD] at h
theorem ok_make {k np n : Nat} {f : FM} {ta : TA} {a : MCa} {E : XK} (ha : OkCa G n ta a) (hnp : np = n + 1) : OkE G (tMake (G.C k) (spD G np f) [] E ta) (mMake k f a) := by
  intro T st σ H r st' rl e Q kq
  unfold mMake at e
  split at e
  · cases e
  · rename_i rs s e1
    split at e
    · cases e
    · rename_i svs e2
      split at e
      · rename_i hs
        split at e
        · rename_i kk k' fs os e3
          split at e
          · rename_i hk
            subst hk
            cases e
            refine ha T st σ H rs _ rl e1 _ fun T1 vs H1 E1 R1 hl => ?_
            intro x dx hx hdx hne
            have lvs := R1.length
            have lsv := svsD_len e2
            have S0 : NStep G T1 H1 T1 (upd H1 dx (.own x)) := Step.new E1.rel.good hdx _
            have hx' : (upd H1 dx (.own x)) x = none := by rw [upd_ne (Ne.symm hne)]; exact hx
            have S1 : NStep G T1 (upd H1 dx (.own x)) T1 (upd (upd H1 dx (.own x)) x (.ins (G.C k') dx [])) := Step.new S0.good hx' _
            have S : NStep G T1 H1 T1 (upd (upd H1 dx (.own x)) x (.ins (G.C k') dx [])) := S0.trans S1 fun _ z => .inl z
            have sh : Shape G T1 (upd (upd H1 dx (.own x)) x (.ins (G.C k') dx [])) x (.ins k' []) := ⟨dx, [], by rw [upd_same, List.zip_nil_right], Nat.zero_le _, .nil⟩
            have tx : T1 x = none := E1.rel.good.free hx
            have ow : Own G T1 (upd (upd H1 dx (.own x)) x (.ins (G.C k') dx [])) x (.ins k' []) := ⟨tx, sh, by rw [upd_same]; exact True.intro⟩
            have nosv := svs_imm e2 hs
            have args : Paired (ArgOk G T1 (upd (upd H1 dx (.own x)) x (.ins (G.C k') dx []))) vs svs := by
              refine paired_of (by rw [lvs, lsv]) fun i y sv h1 h2 => ?_
              rcases svsD_at e2 i sv h2 with ⟨d, rfl, h3⟩ | ⟨j, kk, d, rfl, h3, h4⟩
              · obtain ⟨w, h5, h6⟩ := pget R1 h3
                rw [h1] at h5; cases h5
                exact h6
              · exact (nosv i false d h2).elim
            rw [List.append_nil]
            refine ⟨T1, .rt false (.ins k' []) :: svs, _, _, S.good, ⟨.cons ⟨rfl, x, rfl, ow⟩ args, fun i j k1 k2 d d' b h h' q q' => ?_⟩, by rw [List.length_cons, lsv, hl, hnp], e3, fun T' H' v Sc RF OO => ?_⟩
            · cases i with
              | zero => cases j with
                | zero => rfl
                | succ j => exact (nosv j k2 d' (by simpa using h')).elim
              | succ i => exact (nosv i k1 d (by simpa using h)).elim
            · have rr : ∀ b, RtArg (V.ref x :: vs) (SV.rt false (.ins k' []) :: svs) b → b = x := fun b ⟨i, k1, d, h1, h2⟩ => by
                cases i with
                | zero => simp at h2; exact h2.symm
                | succ i => exact (nosv i k1 d (by simpa using h1)).elim
              refine ⟨(Sees.of_rep (H := H') (show RepT G T' v .non from RF)).non Sc.good, ?_⟩
              obtain ⟨b, hb, o⟩ := OO.at_ 0 _ _ rfl
              have hb : V.ref x = V.ref b := by simpa using hb
              cases hb
              have Sx : Step G T1 H1 T' H' (fun b => b = x) := (S.mono (R' := fun b => b = x) fun _ z => z.elim).trans Sc fun b z => .inl (rr b z)
              have rl2 : Rel G T' st' σ H' := ⟨Sx.good, E1.rel.len, fun j d h => by
                obtain ⟨w, h3, h4⟩ := E1.rel.imm j d h
                exact ⟨w, h3, h4.mono Sx.sub⟩, fun j k1 d h => by
                obtain ⟨c, h3, o'⟩ := E1.rel.rts j k1 d h
                exact ⟨c, h3, o'.step Sx fun z => o'.sh.some (z ▸ hx)⟩, E1.rel.inj⟩
              have hx0 : H x = none := none_of E1.step.dom hx
              have EE : EStep G T st σ H T' st' H' := ⟨rl2, E1.step.trans Sx fun b z => .inr (by rw [show b = x from z]; exact hx0), E1.kind, E1.some⟩
              exact kq T' (.ref x) H' EE ⟨x, rfl, hx0, o⟩
          · cases e
        · cases e
      · cases e
end
end LD

/-! Layer D: a tuple times a number. -/
namespace LD
open PySem PySem.Spec PyProof.Rows L2

/-- t * 1 is t -/
theorem tuple_mul1 (l : Addr) (items : Array Value) (n : Nat) (dd : Option Addr) (sl : Array (Option Value)) (u : Tok) :
    Meets (Builtin.«tuple.__mul__» ⟨[.ref l, .int 1 u], []⟩) (fun _ R s => s.heap.get? l = some { cls := .type "tuple", dict := dd, data := .seq items n, slots := sl } ∧ R (.ok (.ret (Value.ref l))) s) :=
  .of_wp fun prog w A R s h => by
    obtain ⟨hp, g, d, tk, os⟩ := s
    obtain ⟨hl, h⟩ := h
    have f1 := AutoSeq1.idx_int
    wp_walk using wpAny_loadPart' hl
    exact ⟨_, rfl, h⟩
def rRep1 (K : PySem.W.Frag) : R2 := fun x y H Q => ∃ l xs, x = .ref l ∧ y = .int 1 ∧ SqT K H l xs ∧ Q (.ref l) H
section
variable {X : Cx} {G : Gm}
theorem op_rep1 : OpR X (binaryOp .Mult) (rRep1 X.K) := by
  intro pins s σ H x y v u Q I rx ry h
  obtain ⟨l, xs, rfl, rfl, hT, q⟩ := h
  cases rx
  obtain ⟨t, rfl⟩ := ry
  obtain ⟨its, r, ⟨⟨cls, dd, data, sl⟩, ho, hc, n, hd⟩, hs⟩ := I.tuple hT
  simp only at hc hd
  subst hc hd
  refine wpAny_binaryOp_repeat_ref (T := "tuple") (U := "int") (by decide) ⟨_, ho, rfl⟩ (fun s' => typeIs_int s' 1 t) noFill_tuple_mul F.fills_int_mul F.slot_int_rmul repeat_tuple F.slot_int_index.lookup
    (call_meets F.slot_int_rmul (typeIs_int s 1 t) F.entry_int_rmul (F.args_int_rmul_2 _ _) (int_rmul_tuple 1 t l its.toArray n dd sl)
      ⟨ho, rfl, ⟨_, ho, rfl⟩, call_meets F.slot_tuple_mul ⟨_, ho, rfl⟩ F.entry_tuple_mul (F.args_tuple_mul_2 _ _) (tuple_mul1 l its.toArray n dd sl t) ⟨ho, ?_⟩⟩)
  exact ⟨.ref l, H, I, rfl, q⟩
/-- *: ints, a tuple and a number -/
def dMulA (x y : D) : Option R := match x, y with
  | .int i, .int j => if CMul i j then ri (i * j) else none
  | .tup xs, .int k => if k = 1 then some (.imm (.tup xs)) else if xs ≠ [] ∧ 2 ≤ k ∧ k ≤ 1000 ∧ xs.length ≤ 1000 then some (.imm (.tup (List.replicate k.toNat xs).flatten)) else none
  | _, _ => none
theorem reps_rep {T : Ty} {vs : List V} {ds : List D} (h : Reps G T vs ds) : ∀ n : Nat, Reps G T (List.replicate n vs).flatten (List.replicate n ds).flatten
  | 0 => .nil
  | n + 1 => by
    rw [List.replicate_succ, List.replicate_succ, List.flatten_cons, List.flatten_cons]
    exact reps_app h (reps_rep h n)
theorem op_mulD (hk : X.K = G.K := by rfl) : OpR X (binaryOp .Mult) (r2 G dMulA) := by
  refine LD.OpR.imp (OpR.or op_mul (OpR.or op_rep1 op_repT)) fun x y H Q h => ?_
  obtain ⟨T, dx, dy, res, g, sx, sy, e, k⟩ := h
  rw [hk]
  unfold dMulA at e
  split at e <;> try (cases e; done)
  · split at e
    · rename_i i j hc
      cases e
      exact .inl ⟨i, j, sx.int g, sy.int g, hc, one g k rfl⟩
    · cases e
  · rename_i xs kk
    obtain ⟨a, vs, rfl, q, _, r, z⟩ := sx.tup g
    split at e
    · rename_i h1
      cases e
      refine .inr (.inl ⟨a, vs, rfl, by rw [sy.int g, h1], q, one g k sx.tupT⟩)
    · split at e
      · rename_i h1 h2
        cases e
        have lv := r.length
        have hne : vs ≠ [] := fun z => h2.1 (by
          rw [z] at lv
          exact List.eq_nil_of_length_eq_zero lv.symm)
        refine .inr (.inr ⟨a, kk, vs, rfl, sy.int g, q, hne, h2.2.1, h2.2.2.1, by omega, fun p hp => ?_⟩)
        refine k _ (.ref p) _ (Step.lay g hp _ (d := .tup _) ⟨_, upd_same, (reps_rep r _).mono (Sub.tset (g.free hp)), ?_⟩) (.inl tset_same)
        rw [PyProof.Rows.lm_len_rep_flat, sizeLine_eq]
        have a1 : kk.toNat * xs.length ≤ 1000 * 1000 := Nat.mul_le_mul (by omega) (by omega)
        omega
      · cases e
end
end LD

/-! Layer D: comparisons, ints told apart from the rest. -/
namespace LD
open PySem PySem.Spec PyProof.Rows L2
def two (f : Int → Int → Bool) (g : D → D → Option R) (x y : D) : Option R := match x, y with
  | .int i, .int j => rb (f i j)
  | x, y => g x y
theorem two_of {f : Int → Int → Bool} {g : D → D → Option R} {x y : D} {r : R} (h : two f g x y = some r) : dIn2 (fun i j => rb (f i j)) x y = some r ∨ g x y = some r := by
  unfold two at h
  split at h
  · exact .inl h
  · exact .inr h
def dLtA : D → D → Option R := two (fun i j => decide (i < j)) dLtD
def dLeA : D → D → Option R := two (fun i j => decide (i ≤ j)) dLeD
def dGtA : D → D → Option R := two (fun i j => decide (j < i)) dGtD
def dGeA : D → D → Option R := two (fun i j => decide (j ≤ i)) dGeD
def dEqA : D → D → Option R := two (fun i j => decide (i = j)) dEq
def dNeA : D → D → Option R := two (fun i j => !decide (i = j)) dNe
section
variable {X : Cx} {G : Gm}
theorem op_two {f : Value → Value → Sem Value} {g : Int → Int → Bool} {h : D → D → Option R} {r' : R2} (a : OpR X f (rI0 fun i j => .bl (g i j))) (b : OpR X f r') (ob : OkR2 G r' h) : OpR X f (r2 G (two g h)) :=
  LD.OpR.imp (OpR.or a b) fun x y H Q ⟨T, dx, dy, res, gd, sx, sy, e, k⟩ => (two_of e).elim (fun z => .inl (okB0 T H x y dx dy res gd sx sy z Q k)) fun z => .inr (ob T H x y dx dy res gd sx sy z Q k)
theorem op_ltA (hu : X.A.units + 64 < cLine) (hk : X.K = G.K := by rfl) : OpR X (compareOp .Lt) (r2 G dLtA) := op_two op_lt (op_ltD hu hk) ok_r2
theorem op_leA (hu : X.A.units + 64 < cLine) (hk : X.K = G.K := by rfl) : OpR X (compareOp .LtE) (r2 G dLeA) := op_two op_le (op_leD hu hk) ok_r2
theorem op_gtA (hu : X.A.units + 64 < cLine) (hk : X.K = G.K := by rfl) : OpR X (compareOp .Gt) (r2 G dGtA) := op_two op_gt (op_gtD hu hk) ok_r2
theorem op_geA (hu : X.A.units + 64 < cLine) (hk : X.K = G.K := by rfl) : OpR X (compareOp .GtE) (r2 G dGeA) := op_two op_ge (op_geD hu hk) ok_r2
theorem eq_big (i j : Int) : SeqAt.shaped (.int i) = true := by rfl
theorem op_eqA (hu : X.A.units + 64 < cLine) (hk : X.K = G.K := by rfl) : OpR X (compareOp .Eq) (r2 G dEqA) := by
  refine LD.OpR.imp (op_eqD hu) fun x y H Q ⟨T, dx, dy, res, gd, sx, sy, e, k⟩ => ?_
  rw [hk]
  refine ok_eq T H x y dx dy res gd sx sy ?_ Q k
  unfold dEqA two at e
  split at e
  · rw [← e]
    unfold dEq
    rw [if_pos ⟨rfl, rfl⟩]
    congr 1
  · exact e
theorem op_neA (hu : X.A.units + 64 < cLine) (hk : X.K = G.K := by rfl) : OpR X (compareOp .NotEq) (r2 G dNeA) := by
  refine LD.OpR.imp (op_neD hu) fun x y H Q ⟨T, dx, dy, res, gd, sx, sy, e, k⟩ => ?_
  rw [hk]
  refine ok_ne T H x y dx dy res gd sx sy ?_ Q k
  unfold dNeA two at e
  split at e
  · rw [← e]
    unfold dNe
    rw [if_pos ⟨rfl, rfl⟩]
    congr 1
  · exact e
end
end LD

/-! Layer D: what the printed proofs name: built-ins, room, fields by place, list(range(..)), the head. -/
namespace LD
open PySem PySem.Spec PyProof.Rows L2
theorem boot_len_ : bootBuiltins "len" = some (.builtin "len") := by decide +kernel
theorem boot_abs_ : bootBuiltins "abs" = some (.builtin "abs") := by decide +kernel
theorem boot_isinstance_ : bootBuiltins "isinstance" = some (.builtin "isinstance") := by decide +kernel
theorem boot_sorted_ : bootBuiltins "sorted" = some (.builtin "sorted") := by decide +kernel
theorem boot_max_ : bootBuiltins "max" = some (.builtin "max") := by decide +kernel
theorem boot_min_ : bootBuiltins "min" = some (.builtin "min") := by decide +kernel
theorem boot_sum_ : bootBuiltins "sum" = some (.builtin "sum") := by decide +kernel
theorem boot_all_ : bootBuiltins "all" = some (.builtin "all") := by decide +kernel
theorem boot_any_ : bootBuiltins "any" = some (.builtin "any") := by decide +kernel
theorem boot_int_ : bootBuiltins "int" = some (.type "int") := by decide +kernel
theorem boot_bool_ : bootBuiltins "bool" = some (.type "bool") := by decide +kernel
theorem boot_str_ : bootBuiltins "str" = some (.type "str") := by decide +kernel
theorem boot_list_ : bootBuiltins "list" = some (.type "list") := by decide +kernel
theorem boot_tuple_ : bootBuiltins "tuple" = some (.type "tuple") := by decide +kernel
theorem boot_dict_ : bootBuiltins "dict" = some (.type "dict") := by decide +kernel
theorem boot_set_ : bootBuiltins "set" = some (.type "set") := by decide +kernel
theorem boot_zip_ : bootBuiltins "zip" = some (.type "zip") := by decide +kernel
theorem boot_enumerate_ : bootBuiltins "enumerate" = some (.type "enumerate") := by decide +kernel
theorem boot_range_ : bootBuiltins "range" = some (.type "range") := by decide +kernel
theorem boot_reversed_ : bootBuiltins "reversed" = some (.type "reversed") := by decide +kernel
theorem u65 {k : Nat} {A : Around} (hr : Room k A) : A.units + 65 < cLine := by have := hr.un; omega
theorem u66 {k : Nat} {A : Around} (hr : Room k A) : A.units + 66 < cLine := by have := hr.un; omega
section
variable {G : Gm}
def fl3 : List Str := ["corners", "lines", "looked"]
theorem n01 : (("lines" : Str) == "corners") = false := by decide +kernel
theorem n02 : (("looked" : Str) == "corners") = false := by decide +kernel
theorem n12 : (("looked" : Str) == "lines") = false := by decide +kernel
theorem d10 : ¬ ("corners" : Str) = "lines" := by decide +kernel
theorem d20 : ¬ ("corners" : Str) = "looked" := by decide +kernel
theorem d21 : ¬ ("lines" : Str) = "looked" := by decide +kernel
theorem fld3_0 {k : Nat} (c : Cls G.K (G.C k)) (n : NoAttr G.K (G.C k) "corners") (e : G.fl k = fl3) (h : (G.fl k).length = 3) : FldOk G k 0 "corners" := by
  refine ⟨c, n, fun vs v q => ?_, fun vs v q => ?_, by omega⟩
  · rw [e]
    match vs, q with
    | x :: _, q => cases q; show List.lookup _ ((("corners" : Str), _) :: _) = _; rw [List.lookup_cons, beq_self_eq_true]
  · rw [e]
    match vs, q with
    | [], _ => rfl
theorem fld3_1 {k : Nat} (c : Cls G.K (G.C k)) (n : NoAttr G.K (G.C k) "lines") (e : G.fl k = fl3) (h : (G.fl k).length = 3) : FldOk G k 1 "lines" := by
  refine ⟨c, n, fun vs v q => ?_, fun vs v q => ?_, by omega⟩
  · rw [e]
    match vs, q with
    | x :: y :: _, q =>
      cases q
      show List.lookup _ ((("corners" : Str), _) :: (("lines" : Str), _) :: _) = _
      rw [List.lookup_cons, n01, List.lookup_cons, beq_self_eq_true]
  · rw [e]
    match vs, q with
    | [x], _ =>
      show (if ("corners" : Str) = "lines" then _ else (("corners" : Str), x) :: putF "lines" v []) = _
      rw [if_neg d10]
      rfl
theorem fld3_2 {k : Nat} (c : Cls G.K (G.C k)) (n : NoAttr G.K (G.C k) "looked") (e : G.fl k = fl3) (h : (G.fl k).length = 3) : FldOk G k 2 "looked" := by
  refine ⟨c, n, fun vs v q => ?_, fun vs v q => ?_, by omega⟩
  · rw [e]
    match vs, q with
    | x :: y :: z :: _, q =>
      cases q
      show List.lookup _ ((("corners" : Str), _) :: (("lines" : Str), _) :: (("looked" : Str), _) :: _) = _
      rw [List.lookup_cons, n02, List.lookup_cons, n12, List.lookup_cons, beq_self_eq_true]
  · rw [e]
    match vs, q with
    | [x, y], _ =>
      show (if ("corners" : Str) = "looked" then _ else (("corners" : Str), x) :: (if ("lines" : Str) = "looked" then _ else (("lines" : Str), y) :: putF "looked" v [])) = _
      rw [if_neg d20, if_neg d21]
      rfl
/-! ### list(range(..)) -/
def mRg1 (a : M) : M := fun st => match a st with
  | some (.imm (.int j), s) => if smallI j then some (.own (.lst (intsD 0 j.toNat)), s) else none
  | _ => none
def mRg2 (a b : M) : M := fun st => match a st with
  | some (.imm (.int i), s) => match b s with
    | some (.imm (.int j), s2) => if smallI i ∧ smallI j ∧ j - i ≤ 16777216 then some (.own (.lst (intsD i (j - i).toNat)), s2) else none
    | _ => none
  | _ => none
theorem reps_rg {T : Ty} (a b : Int) : Reps G T (rgV a b) (intsD a (b - a).toNat) := by
  unfold rgV intsD
  refine paired_of (by simp) fun i x y h1 h2 => ?_
  rw [List.getElem?_map] at h1 h2
  cases e : (List.range (b - a).toNat)[i]? with
  | none => rw [e] at h1; cases h1
  | some n =>
    rw [e] at h1 h2
    cases h1
    cases h2
    rfl
theorem ok_rg {T : Ty} {st st' : DSt} {σ : L2.St} {H H1 : Hp} {T1 : Ty} (E1 : EStep G T st σ H T1 st' H1) {a b : Int} (h1 : smallI a) (h2 : smallI b) (h3 : b - a ≤ 16777216) {Q : VK}
    (k : ∀ T' v H', EStep G T st σ H T' st' H' → ResOk G T' st' σ H H' v (.own (.lst (intsD a (b - a).toNat))) → Q v H') : RgOk a b ∧ ∀ q, H1 q = none → Q (.ref q) (upd H1 q (.lst (rgV a b))) := by
  unfold smallI at h1 h2
  refine ⟨⟨by omega, by omega, by omega, by omega, by omega⟩, fun q hq => ?_⟩
  have N : NStep G T1 H1 T1 (upd H1 q (.lst (rgV a b))) := Step.new E1.rel.good hq _
  refine k T1 _ _ (E1.trans (E1.rel.ekeep N)) ⟨q, rfl, none_of E1.step.dom hq, own_new E1.rel.good hq (reps_rg a b) ?_⟩
  rw [intsD_len, sizeLine_eq]
  omega
theorem ok_listRg1 {t : TE} {m : M} (h : OkE G t m) : OkE G (tLstRg (tRg1 t)) (mRg1 m) := by
  intro T st σ H r st' rl e Q k
  unfold mRg1 at e
  split at e
  · rename_i j s e1
    split at e
    · rename_i hj
      cases e
      refine h T st σ H _ _ rl e1 _ fun T1 v1 H1 E1 R1 => ?_
      refine ⟨j, (Sees.of_rep (H := H1) (show RepT G T1 v1 (.int j) from R1)).int E1.rel.good, ok_rg E1 (by unfold smallI; omega) hj (by unfold smallI at hj; omega) fun T' v H' E R => k T' v H' E ?_⟩
      have : (j - 0).toNat = j.toNat := by rw [Int.sub_zero]
      rw [this] at R
      exact R
    · cases e
  · cases e
theorem ok_listRg2 {t u : TE} {m n : M} (h : OkE G t m) (h' : OkE G u n) : OkE G (tLstRg (tRg2 t u)) (mRg2 m n) := by
  intro T st σ H r st' rl e Q k
  unfold mRg2 at e
  split at e
  · rename_i i s e1
    split at e
    · rename_i j s2 e2
      split at e
      · rename_i hj
        cases e
        refine h T st σ H _ s rl e1 _ fun T1 v1 H1 E1 R1 => ?_
        refine h' T1 s σ H1 _ _ E1.rel e2 _ fun T2 v2 H2 E2 R2 => ?_
        exact ⟨i, j, (Sees.of_rep (H := H1) (show RepT G T1 v1 (.int i) from R1)).int E1.rel.good, (Sees.of_rep (H := H2) (show RepT G T2 v2 (.int j) from R2)).int E2.rel.good, ok_rg (E1.trans E2) hj.1 hj.2.1 hj.2.2 k⟩
      · cases e
    · cases e
  · cases e

/-! ### the end -/
def spLaw (K : PySem.W.Frag) : Sp := fun vs H Q _ => ∃ (a : Addr) (ns : List Int), vs = [.ref a] ∧ SqL K H a (ns.map V.int) ∧ ns.length ≤ 63 ∧ Only H ∧ ∀ v H', v = .bl true → Q v H'
theorem law_ok {P : Program} {w : World} {mg : Str → Option Value} {base : Heap} {k : Nat} {f : Addr} {fd : FuncData} {m : FM} (F : FnOk P w G.K mg base CX0 k f fd ["script"] (spD G 1 m))
    (h : ∀ ns : List Int, ns.length ≤ 63 → ∃ os, m [.imm (.scr ns)] = some (.imm (.bl true), os)) : FnOk P w G.K mg base CX0 k f fd ["script"] (spLaw G.K) := by
  refine F.imp fun vs H Q E hs => ?_
  obtain ⟨a, ns, rfl, hS, hl, hO, k⟩ := hs
  obtain ⟨os, hm⟩ := h ns hl
  have fin : ∀ T : Ty, Good G T H → RepT G T (.ref a) (.scr ns) → spD G 1 m [.ref a] H Q E := fun T g r =>
    ⟨T, [.imm (.scr ns)], _, os, g, ⟨.cons r .nil, fun i j k k' d d' b h1 _ _ _ => by
      cases i with
      | zero => simp at h1
      | succ i => simp at h1⟩, rfl, hm, fun T' H' v S R _ => k v H' (rep_bl S.good R)⟩
  rcases hS with hS | ⟨o, its, n, h1, h2, h3, h4, h5, h6⟩
  · have hz : ∃ o, H a = some (.frz o (.lst (ns.map V.int))) := by
      rcases hS with q | q
      · rcases hO a with z | ⟨o, xs, z⟩
        · rw [z] at q; cases q
        · rw [z] at q; cases q
      · exact q
    refine fin (tset (fun _ => none) a (.scr ns)) (fun b d q => ?_) (.inl tset_same)
    by_cases e : b = a
    · subst e
      rw [tset_same] at q
      cases q
      exact ⟨hz, by rw [sizeLine_eq]; omega⟩
    · rw [tset_ne e] at q
      cases q
  · exact fin (fun _ => none) (fun b d q => by cases q) (.inr ⟨ns, rfl, o, its, n, h1, h2, h3, h4, h5, h6⟩)
end
end LD

/-! Layer D: evaluating loops and comprehensions at the data level. -/
namespace LD
open PySem PySem.Spec PyProof.Rows L2

theorem restD_wipe (s : DSt) (vs : List Nat) : restD s (wipeD s vs) vs = s := by
  refine List.ext_getElem? fun j => ?_
  by_cases h : j ∈ vs
  · rw [restD_in (wipeD_len s vs) h]
  · rw [restD_out h, wipeD_out h]
/-- a comprehension whose turns leave the slots -/
theorem lc_pure {vs : List Nat} {g : MG} {c : MT} {m : M} {st : DSt} (p : D → Bool) (F : D → D) : ∀ (xs : List D), (∀ x ∈ xs, ∃ s1, g x st = some s1 ∧ wipeD s1 vs = st ∧ c s1 = some (p x, s1) ∧ (p x = true → ∃ r, m s1 = some (r, s1) ∧ freeze s1 r = some (F x, s1))) →
    lcD vs g c m xs st = some ((xs.filter p).map F, st)
  | [], _ => rfl
  | x :: xs, h => by
    obtain ⟨s1, h1, h2, h3, h4⟩ := h x (List.mem_cons_self ..)
    have ih := lc_pure p F xs fun y hy => h y (List.mem_cons_of_mem _ hy)
    unfold lcD
    rw [h1]
    dsimp only
    rw [h3]
    cases e : p x with
    | false =>
      dsimp only
      rw [h2, ih, List.filter_cons, e]
      rfl
    | true =>
      obtain ⟨r, h5, h6⟩ := h4 e
      dsimp only
      rw [h5]
      dsimp only
      rw [h6]
      dsimp only
      rw [h2, ih, List.filter_cons, e]
      rfl
theorem mLc_pure {vs : List Nat} {w : MI} {g : MG} {c : MT} {m : M} {st s : DSt} {xs : List D} (p : D → Bool) (F : D → D) (hw : w st = some (xs, s))
    (h : ∀ x ∈ xs, ∃ s1, g x (wipeD s vs) = some s1 ∧ wipeD s1 vs = wipeD s vs ∧ c s1 = some (p x, s1) ∧ (p x = true → ∃ r, m s1 = some (r, s1) ∧ freeze s1 r = some (F x, s1))) :
    mLc vs w g c m st = some (.own (.lst ((xs.filter p).map F)), s) := by
  unfold mLc
  rw [hw]
  dsimp only
  rw [lc_pure p F xs h]
  dsimp only
  rw [restD_wipe]
/-- .. whose turns keep P -/
theorem lc_inv {vs : List Nat} {g : MG} {c : MT} {m : M} (P : DSt → Prop) (Q : D → Prop) : ∀ (xs : List D), (∀ x ∈ xs, ∀ st, P st → ∃ s1 b s2, g x st = some s1 ∧ c s1 = some (b, s2) ∧ ((b = false ∧ P (wipeD s2 vs)) ∨ (b = true ∧ ∃ r s3 d s4, m s2 = some (r, s3) ∧ freeze s3 r = some (d, s4) ∧ Q d ∧ P (wipeD s4 vs)))) →
    ∀ st, P st → ∃ ds t, lcD vs g c m xs st = some (ds, t) ∧ (∀ d ∈ ds, Q d) ∧ ds.length ≤ xs.length ∧ P t
  | [], _, st, hp => ⟨[], st, rfl, fun d hd => by simp at hd, Nat.le_refl _, hp⟩
  | x :: xs, h, st, hp => by
    obtain ⟨s1, b, s2, h1, h2, h3⟩ := h x (List.mem_cons_self ..) st hp
    have ih := lc_inv P Q xs fun y hy => h y (List.mem_cons_of_mem _ hy)
    unfold lcD
    rw [h1]
    dsimp only
    rw [h2]
    rcases h3 with ⟨rfl, h3⟩ | ⟨rfl, r, s3, d, s4, h3, h4, h5, h6⟩
    · obtain ⟨ds, t, q1, q2, q3, q4⟩ := ih _ h3
      exact ⟨ds, t, q1, q2, by rw [List.length_cons]; omega, q4⟩
    · obtain ⟨ds, t, q1, q2, q3, q4⟩ := ih _ h6
      refine ⟨d :: ds, t, ?_, fun e he => ?_, by rw [List.length_cons, List.length_cons]; omega, q4⟩
      · dsimp only
        rw [h3]
        dsimp only
        rw [h4]
        dsimp only
        rw [q1]
      · rcases List.mem_cons.mp he with z | z
        · rw [z]; exact h5
        · exact q2 e z
theorem forD_step {g : MG} {b : MS} {x : D} {xs : List D} {st s1 s2 : DSt} (h1 : g x st = some s1) (h2 : b s1 = some (.nx, s2) ∨ b s1 = some (.ct, s2)) : forD g b (x :: xs) st = forD g b xs s2 := by
  rw [forD, h1]
  dsimp only
  rcases h2 with h2 | h2 <;> rw [h2]
theorem forD_ret {g : MG} {b : MS} {x : D} {xs : List D} {st s1 s2 : DSt} {r : R} (h1 : g x st = some s1) (h2 : b s1 = some (.ret r, s2)) : forD g b (x :: xs) st = some (.ret r, s2) := by
  rw [forD, h1]
  dsimp only
  rw [h2]
/-- a loop that keeps P, by the items that are done -/
theorem forD_inv {g : MG} {b : MS} (P : List D → DSt → Prop) : ∀ (xs done : List D), (∀ x, ∀ pre post, done ++ xs = pre ++ x :: post → ∀ st, P pre st → ∃ s1 s2, g x st = some s1 ∧ (b s1 = some (.nx, s2) ∨ b s1 = some (.ct, s2)) ∧ P (pre ++ [x]) s2) →
    ∀ st, P done st → ∃ s, forD g b xs st = some (.nx, s) ∧ P (done ++ xs) s
  | [], done, _, st, hp => ⟨st, rfl, by rw [List.append_nil]; exact hp⟩
  | x :: xs, done, h, st, hp => by
    obtain ⟨s1, s2, h1, h2, h3⟩ := h x done xs rfl st hp
    obtain ⟨s, q1, q2⟩ := forD_inv P xs (done ++ [x]) (fun y pre post e => h y pre post (by rw [← e]; simp)) s2 h3
    exact ⟨s, (forD_step h1 h2).trans q1, by rw [show done ++ x :: xs = done ++ [x] ++ xs by simp]; exact q2⟩
/-- a loop that may leave by return -/
theorem forD_inv' {g : MG} {b : MS} (P : List D → DSt → Prop) (Rr : Fl → DSt → Prop) : ∀ (xs done : List D), (∀ x, ∀ pre post, done ++ xs = pre ++ x :: post → ∀ st, P pre st → ∃ s1 f s2, g x st = some s1 ∧ b s1 = some (f, s2) ∧ (((f = .nx ∨ f = .ct) ∧ P (pre ++ [x]) s2) ∨ ∃ r, f = .ret r ∧ Rr f s2)) →
    ∀ st, P done st → ∃ f s, forD g b xs st = some (f, s) ∧ ((f = .nx ∧ P (done ++ xs) s) ∨ Rr f s)
  | [], done, _, st, hp => ⟨.nx, st, rfl, .inl ⟨rfl, by rw [List.append_nil]; exact hp⟩⟩
  | x :: xs, done, h, st, hp => by
    obtain ⟨s1, f, s2, h1, h2, h3⟩ := h x done xs rfl st hp
    rcases h3 with ⟨hf, h3⟩ | ⟨r, rfl, h3⟩
    · obtain ⟨f', s, q1, q2⟩ := forD_inv' P Rr xs (done ++ [x]) (fun y pre post e => h y pre post (by rw [← e]; simp)) s2 h3
      refine ⟨f', s, (forD_step h1 ?_).trans q1, ?_⟩
      · rcases hf with rfl | rfl
        · exact .inl h2
        · exact .inr h2
      · rw [show done ++ x :: xs = done ++ [x] ++ xs by simp]; exact q2
    · exact ⟨_, s2, forD_ret h1 h2, .inr h3⟩
/-- ints counted up: by the number alone -/
theorem intsD_succ (lo : Int) (n : Nat) : intsD lo (n + 1) = .int lo :: intsD (lo + 1) n := by
  unfold intsD
  rw [List.range_succ_eq_map, List.map_cons, List.map_map]
  congr 1
  · simp
  · refine List.map_congr_left fun k _ => ?_
    show D.int _ = D.int _
    congr 1
    simp
    omega
theorem intsD_last (lo : Int) (n : Nat) : intsD lo (n + 1) = intsD lo n ++ [.int (lo + n)] := by
  unfold intsD
  rw [List.range_succ, List.map_append]
  rfl
theorem forD_ints {g : MG} {b : MS} (P : Nat → DSt → Prop) : ∀ (n k : Nat), (∀ i, k ≤ i → i < k + n → ∀ st, P i st → ∃ s1 s2, g (.int i) st = some s1 ∧ (b s1 = some (.nx, s2) ∨ b s1 = some (.ct, s2)) ∧ P (i + 1) s2) →
    ∀ st, P k st → ∃ s, forD g b (intsD k n) st = some (.nx, s) ∧ P (k + n) s
  | 0, k, _, st, hp => ⟨st, rfl, hp⟩
  | n + 1, k, h, st, hp => by
    obtain ⟨s1, s2, h1, h2, h3⟩ := h k (Nat.le_refl _) (by omega) st hp
    obtain ⟨s, q1, q2⟩ := forD_ints P n (k + 1) (fun i hi hj => h i (by omega) (by omega)) s2 h3
    refine ⟨s, ?_, by rw [show k + (n + 1) = k + 1 + n by omega]; exact q2⟩
    rw [intsD_succ, forD_step h1 h2]
    exact q1
theorem ints_mem {lo : Int} {n : Nat} {d : D} : d ∈ intsD lo n ↔ ∃ k : Nat, k < n ∧ d = .int (lo + k) := by
  unfold intsD
  rw [List.mem_map]
  constructor
  · rintro ⟨k, hk, rfl⟩
    exact ⟨k, List.mem_range.mp hk, rfl⟩
  · rintro ⟨k, hk, rfl⟩
    exact ⟨k, List.mem_range.mpr hk, rfl⟩
/-! ### data compared -/
theorem eqD_int (i j : Int) : eqD (.int i) (.int j) = decide (i = j) := by
  show PyData.eqv (.int i) (.int j) = _
  by_cases h : i = j <;> simp [PyData.eqv, h]
end LD

/-! Layer D: the combinators where they are applied. -/
namespace LD
open PySem PySem.Spec PyProof.Rows L2
theorem a_mVar (i : Nat) (st : DSt) : mVar i st = (match st[i]? with
  | some (some (.imm d)) => some (.imm d, st)
  | some (some (.rt _ _)) => some (.slot i, st)
  | _ => none) := by rfl
theorem a_mC (d : D) (st : DSt) : mC d st = (some (.imm d, st)) := by rfl
theorem a_mBin (f : D → D → Option R) (a b : M) (st : DSt) : mBin f a b st = (match a st with
  | none => none
  | some (ra, s1) => match b s1 with
    | none => none
    | some (rb, s2) => match cont s2 ra, cont s2 rb with
      | some x, some y => match f x y with
        | some res => some (res, s2)
        | none => none
      | _, _ => none) := by rfl
theorem a_mUn (f : D → Option R) (a : M) (st : DSt) : mUn f a st = (match a st with
  | none => none
  | some (ra, s1) => match cont s1 ra with
    | some x => match f x with
      | some res => some (res, s1)
      | none => none
    | none => none) := by rfl
theorem a_mT (a : M) (st : DSt) : mT a st = (match a st with
  | some (.imm (.bl b), s) => some (b, s)
  | _ => none) := by rfl
theorem a_mAndT (a b : MT) (st : DSt) : mAndT a b st = (match a st with
  | some (true, s) => b s
  | z => z) := by rfl
theorem a_mOrT (a b : MT) (st : DSt) : mOrT a b st = (match a st with
  | some (false, s) => b s
  | z => z) := by rfl
theorem a_mNotT (a : MT) (st : DSt) : mNotT a st = (match a st with
  | some (b, s) => some (!b, s)
  | none => none) := by rfl
theorem a_mAndV (a b : M) (st : DSt) : mAndV a b st = (match a st with
  | some (.imm (.bl true), s) => b s
  | some (.imm (.bl false), s) => some (.imm (.bl false), s)
  | _ => none) := by rfl
theorem a_mOrV (a b : M) (st : DSt) : mOrV a b st = (match a st with
  | some (.imm (.bl false), s) => b s
  | some (.imm (.bl true), s) => some (.imm (.bl true), s)
  | _ => none) := by rfl
theorem a_mNotV (a : M) (st : DSt) : mNotV a st = (match a st with
  | some (.imm (.bl b), s) => some (.imm (.bl (!b)), s)
  | _ => none) := by rfl
theorem a_mIfE (c : MT) (a b : M) (st : DSt) : mIfE c a b st = (match c st with
  | some (true, s) => a s
  | some (false, s) => b s
  | none => none) := by rfl
theorem a_mChain (f g : D → D → Option R) (a b c : M) (st : DSt) : mChain f g a b c st = (match a st with
  | none => none
  | some (ra, s1) => match b s1 with
    | none => none
    | some (rb, s2) => match cont s2 ra, cont s2 rb with
      | some x, some y => match f x y with
        | some (.imm (.bl true)) => match c s2 with
          | none => none
          | some (rc, s3) => match cont s3 rb, cont s3 rc with
            | some y', some z => match g y' z with
              | some res => some (res, s3)
              | none => none
            | _, _ => none
        | some (.imm (.bl false)) => some (.imm (.bl false), s2)
        | _ => none
      | _, _ => none) := by rfl
theorem a_mTup (a : MA) (st : DSt) : mTup a st = (match a st with
  | some (ds, s) => some (.imm (.tup ds), s)
  | none => none) := by rfl
theorem a_mLst (a : MA) (st : DSt) : mLst a st = (match a st with
  | some (ds, s) => some (.own (.lst ds), s)
  | none => none) := by rfl
theorem a_aNil  (st : DSt) : aNil  st = (some ([], st)) := by rfl
theorem a_aCons (a : M) (b : MA) (st : DSt) : aCons a b st = (match a st with
  | none => none
  | some (r, s1) => match freeze s1 r with
    | none => none
    | some (d, s2) => match b s2 with
      | none => none
      | some (ds, s3) => some (d :: ds, s3)) := by rfl
theorem a_lNil  (st : DSt) : lNil  st = (some ([], st)) := by rfl
theorem a_lCons (a : M) (b : ML) (st : DSt) : lCons a b st = (match a st with
  | none => none
  | some (r, s1) => match b s1 with
    | none => none
    | some (rs, s2) => some (r :: rs, s2)) := by rfl
theorem a_mB (f : List D → Option R) (a : ML) (st : DSt) : mB f a st = (match a st with
  | none => none
  | some (rs, s) => match conts s rs with
    | none => none
    | some ds => match f ds with
      | none => none
      | some res => some (res, s)) := by rfl
theorem a_mCall (f : FM) (a : MCa) (st : DSt) : mCall f a st = (match a st with
  | none => none
  | some (rs, s) => match svsD s rs with
    | none => none
    | some svs => if noDup (slotsD rs) = true then match f svs with
      | none => none
      | some (r, os) => match r with
        | .slot _ => none
        | r => match backD rs os s with
          | none => none
          | some s' => some (r, s')
      else none) := by rfl
theorem a_cNil  (st : DSt) : cNil  st = (some ([], st)) := by rfl
theorem a_cVal (a : M) (b : MCa) (st : DSt) : cVal a b st = (match a st with
  | none => none
  | some (r, s1) => match freeze s1 r with
    | none => none
    | some (d, s2) => match b s2 with
      | none => none
      | some (rs, s3) => some (.imm d :: rs, s3)) := by rfl
theorem a_cIo (i : Nat) (b : MCa) (st : DSt) : cIo i b st = (match st[i]? with
  | some (some (.rt _ _)) => match b st with
    | none => none
    | some (rs, s3) => some (.slot i :: rs, s3)
  | _ => none) := by rfl
theorem a_mIsi (n : String) (a : M) (st : DSt) : mIsi n a st = (match a st with
  | none => none
  | some (r, s) => match cont s r with
    | none => none
    | some d => match isiD n d with
      | none => none
      | some b => some (.imm (.bl b), s)) := by rfl
theorem a_mFld (k j : Nat) (a : M) (st : DSt) : mFld k j a st = (match a st with
  | none => none
  | some (r, s) => match cont s r with
    | some (.ins k' fs) => if k' = k then match fs[j]? with
      | some d => some (.imm d, s)
      | none => none
      else none
    | _ => none) := by rfl
theorem a_mMake (k : Nat) (f : FM) (a : MCa) (st : DSt) : mMake k f a st = (match a st with
  | none => none
  | some (rs, s) => match svsD s rs with
    | none => none
    | some svs => if slotsD rs = [] then match f (.rt false (.ins k []) :: svs) with
      | some (.imm .non, .rt _ (.ins k' fs) :: _) => if k' = k then some (.own (.ins k fs), s) else none
      | _ => none
      else none) := by rfl
theorem a_mCch  (st : DSt) : mCch  st = (some (.imm (.cch []), st)) := by rfl
theorem a_mDNew  (st : DSt) : mDNew  st = (some (.own (.dic true []), st)) := by rfl
theorem a_mSl (a : M) (lo hi : MO) (st : DSt) : mSl a lo hi st = (match a st with
  | none => none
  | some (ra, s1) => match lo s1 with
    | none => none
    | some (l, s2) => match hi s2 with
      | none => none
      | some (u, s3) => match cont s3 ra with
        | some x => match dSl x l u with
          | some res => some (res, s3)
          | none => none
        | none => none) := by rfl
theorem a_oNone  (st : DSt) : oNone  st = (some (none, st)) := by rfl
theorem a_oSome (a : M) (st : DSt) : oSome a st = (match a st with
  | some (.imm (.int i), s) => some (some i, s)
  | _ => none) := by rfl
theorem a_sNx  (st : DSt) : sNx  st = (some (.nx, st)) := by rfl
theorem a_sSeq (a b : MS) (st : DSt) : sSeq a b st = (match a st with
  | some (.nx, s) => b s
  | z => z) := by rfl
theorem a_sRet (a : M) (st : DSt) : sRet a st = (match a st with
  | some (r, s) => some (.ret r, s)
  | none => none) := by rfl
theorem a_sRetN  (st : DSt) : sRetN  st = (some (.ret (.imm .non), st)) := by rfl
theorem a_sIf (c : MT) (a b : MS) (st : DSt) : sIf c a b st = (match c st with
  | some (true, s) => a s
  | some (false, s) => b s
  | none => none) := by rfl
theorem a_sSet (i : Nat) (a : M) (st : DSt) : sSet i a st = (match a st with
  | some (.imm d, s) => some (.nx, s.set i (some (.imm d)))
  | some (.own d, s) => some (.nx, s.set i (some (.rt true d)))
  | some (.slot j, s) => match freezeS s j with
    | some (d, s2) => some (.nx, s2.set i (some (.imm d)))
    | none => none
  | none => none) := by rfl
theorem a_sAsg (a : M) (g : MG) (st : DSt) : sAsg a g st = (match a st with
  | none => none
  | some (r, s1) => match freeze s1 r with
    | none => none
    | some (d, s2) => match g d s2 with
      | none => none
      | some s3 => some (.nx, s3)) := by rfl
theorem a_sPar (is : List Nat) (a : MR) (st : DSt) : sPar is a st = (match a st with
  | none => none
  | some (svs, s) => some (.nx, setAll is svs s)) := by rfl
theorem a_sDrop (a : M) (st : DSt) : sDrop a st = (match a st with
  | some (_, s) => some (.nx, s)
  | none => none) := by rfl
theorem a_sBk  (st : DSt) : sBk  st = (some (.bk, st)) := by rfl
theorem a_sCt  (st : DSt) : sCt  st = (some (.ct, st)) := by rfl
theorem a_gN (i : Nat) (d : D) (st : DSt) : gN i d st = (some (st.set i (some (.imm d)))) := by rfl
theorem a_gsN  (ds : List D) (st : DSt) : gsN  ds st = (match ds with
  | [] => some st
  | _ => none) := by rfl
theorem a_gsC (a : MG) (b : MGs) (ds : List D) (st : DSt) : gsC a b ds st = (match ds with
  | [] => none
  | d :: r => match a d st with
    | none => none
    | some s => b r s) := by rfl
theorem a_gT (n : Nat) (b : MGs) (d : D) (st : DSt) : gT n b d st = (match d with
  | .tup ds => if ds.length = n then b ds st else none
  | _ => none) := by rfl
theorem a_gFld (i k j : Nat) (d : D) (st : DSt) : gFld i k j d st = (match st[i]? with
  | some (some (.rt kk (.ins k' fs))) => if k' = k ∧ fs.length = j then some (st.set i (some (.rt kk (.ins k (fs ++ [d]))))) else none
  | _ => none) := by rfl
theorem a_gItem (i : Nat) (m : M) (d : D) (st : DSt) : gItem i m d st = (if isL st i = true then gIx i m d st else gKey i m d st) := by rfl
theorem a_gIx (i : Nat) (m : M) (d : D) (st : DSt) : gIx i m d st = (if isL st i = true then match m st with
  | some (.imm (.int j), s1) => match s1[i]? with
    | some (some (.rt k (.lst xs))) => match ixN xs.length j with
      | some n => some (s1.set i (some (.rt k (.lst (xs.set n d)))))
      | none => none
    | _ => none
  | _ => none
  else none) := by rfl
theorem a_gKey (i : Nat) (m : M) (d : D) (st : DSt) : gKey i m d st = (if isDic st i = true then match m st with
  | some (.imm dk, s1) => match s1[i]? with
    | some (some (.rt k (.dic true ps))) => match nkey dk with
      | some key => if ps.length < sizeLine then some (s1.set i (some (.rt k (.dic true (putD key dk d ps))))) else none
      | none => none
    | _ => none
  | _ => none
  else none) := by rfl
theorem a_rNil  (st : DSt) : rNil  st = (some ([], st)) := by rfl
theorem a_rCons (a : M) (b : MR) (st : DSt) : rCons a b st = (match a st with
  | none => none
  | some (r, s1) => match keepR s1 r with
    | none => none
    | some (sv, s2) => match b s2 with
      | none => none
      | some (svs, s3) => some (sv :: svs, s3)) := by rfl
theorem a_mApp (i : Nat) (m : M) (st : DSt) : mApp i m st = (if isL st i = true then match m st with
    | none => none
    | some (r, s1) => match freeze s1 r with
      | none => none
      | some (d, s2) => match s2[i]? with
        | some (some (.rt k (.lst xs))) => if xs.length < sizeLine then some (.imm .non, s2.set i (some (.rt k (.lst (xs ++ [d]))))) else none
        | _ => none
  else none) := by rfl
theorem a_mExt (i : Nat) (m : M) (st : DSt) : mExt i m st = (if isL st i = true then match m st with
    | none => none
    | some (r, s1) => match cont s1 r with
      | some (.lst ds) => match s1[i]? with
        | some (some (.rt k (.lst xs))) => if xs.length + ds.length ≤ sizeLine then some (.imm .non, s1.set i (some (.rt k (.lst (xs ++ ds))))) else none
        | _ => none
      | _ => none
  else none) := by rfl
theorem a_mPop (i : Nat) (st : DSt) : mPop i st = (match st[i]? with
  | some (some (.rt k (.lst xs))) => match xs[xs.length - 1]? with
    | some d => some (.imm d, st.set i (some (.rt k (.lst xs.dropLast))))
    | none => none
  | _ => none) := by rfl
theorem a_mPopAt (i : Nat) (m : M) (st : DSt) : mPopAt i m st = (if isL st i = true then match m st with
    | some (.imm (.int j), s1) => match s1[i]? with
      | some (some (.rt k (.lst xs))) => if -(2 ^ 63) ≤ j ∧ j < 2 ^ 63 then match ixN xs.length j with
        | some n => match xs[n]? with
          | some d => some (.imm d, s1.set i (some (.rt k (.lst (xs.eraseIdx n)))))
          | none => none
        | none => none
        else none
      | _ => none
    | _ => none
  else none) := by rfl
theorem a_wSeq (a : M) (st : DSt) : wSeq a st = (match a st with
  | none => none
  | some (r, s) => match freeze s r with
    | some (.lst ds, s2) => some (ds, s2)
    | some (.tup ds, s2) => some (ds, s2)
    | _ => none) := by rfl
theorem a_wRng1 (a : MA) (st : DSt) : wRng1 a st = (match a st with
  | some ([.int j], s) => if smallI j then some (intsD 0 j.toNat, s) else none
  | _ => none) := by rfl
theorem a_wRng2 (a : MA) (st : DSt) : wRng2 a st = (match a st with
  | some ([.int i, .int j], s) => if smallI i ∧ smallI j ∧ smallI (j - i) then some (intsD i (j - i).toNat, s) else none
  | _ => none) := by rfl
theorem a_wZip (a : MA) (st : DSt) : wZip a st = (match a st with
  | some ([.lst xs, .lst ys], s) => some ((xs.zip ys).map pairD, s)
  | some ([.tup xs, .tup ys], s) => some ((xs.zip ys).map pairD, s)
  | _ => none) := by rfl
theorem a_wEnum (a : MA) (st : DSt) : wEnum a st = (match a st with
  | some ([.lst xs], s) => some ((enumD 0 xs).map pairD, s)
  | _ => none) := by rfl
theorem a_sFor (w : MI) (g : MG) (b : MS) (st : DSt) : sFor w g b st = (match w st with
  | none => none
  | some (xs, s) => forD g b xs s) := by rfl
theorem a_tYesD  (st : DSt) : tYesD  st = (some (true, st)) := by rfl
theorem a_mRg1 (a : M) (st : DSt) : mRg1 a st = (match a st with
  | some (.imm (.int j), s) => if smallI j then some (.own (.lst (intsD 0 j.toNat)), s) else none
  | _ => none) := by rfl
theorem a_mRg2 (a b : M) (st : DSt) : mRg2 a b st = (match a st with
  | some (.imm (.int i), s) => match b s with
    | some (.imm (.int j), s2) => if smallI i ∧ smallI j ∧ j - i ≤ 16777216 then some (.own (.lst (intsD i (j - i).toNat)), s2) else none
    | _ => none
  | _ => none) := by rfl
theorem noDup0 : noDup [] = true := rfl
theorem noDup1 (i : Nat) : noDup [i] = true := rfl
end LD

/-! Layer D: in, [] of dicts with tuple keys. -/
namespace LD
open PySem PySem.W PySem.Calls PySem.Spec PyProof.Rows L2
section
variable {G : Gm} {T T1 T2 : Ty} {st st1 st2 : DSt} {σ σ1 σ2 : L2.St} {H H1 H2 : Hp} {v : V} {d : D} {r : R} {X : Cx}
/-- a key: seen as frozen (a tuple is never a root) -/
theorem key_ref {x : V} {ds : List D} (g : Good G T H) (s : Sees G T H x (.tup ds)) : ∃ a, x = .ref a ∧ T a = some (.tup ds) := by
  have := s.tupT
  exact ref_of this
def dInN (x y : D) : Option R := match y with
  | .dic true ps => match nkey x with
    | some k => rb (keyAt k ps).isSome
    | none => none
  | _ => none
def dNotInN (x y : D) : Option R := match y with
  | .dic true ps => match nkey x with
    | some k => rb (!(keyAt k ps).isSome)
    | none => none
  | _ => none
def dGetN (x y : D) : Option R := match x with
  | .dic true ps => match nkey y with
    | some k => match keyAt k ps with
      | some d => some (.imm d)
      | none => none
    | none => none
  | _ => none
theorem op_inN (hu : X.A.units + 64 < cLine) (hp : X.prog = G.P := by rfl) (hw : X.w = G.w := by rfl) : OpR X (compareOp .In) (r2 G dInN) := by
  intro pins s σ H x y v u Q I rx ry h
  obtain ⟨T, dx, dy, res, g, sx, sy, e, k⟩ := h
  unfold dInN at e
  split at e <;> try (cases e; done)
  rename_i ps
  split at e <;> try (cases e; done)
  rename_i key ek
  cases e
  obtain ⟨ds, rfl⟩ := nkey_tup ek
  obtain ⟨a, rfl, ha⟩ := key_ref g sx
  obtain ⟨b, xs, rfl, hr, q⟩ := dic_at g sy
  cases rx
  cases ry
  have d0 : DN0 G.P G.w s.heap b xs := (hr.ok I.hok).1
  obtain ⟨ys, hx, hd⟩ := dictOf I g d0 q
  rw [hp, hw]
  refine wpAny_in_heap (knd := nestedKind G.P G.w) (show X.A.units + 1 + 8 < cLine by omega) (key_is I g ha ek) d0.1 hd ?_
  have e1 : (atKey ys key).isSome = (keyAt key ps).isSome := by
    rcases at_X (k := key) hx with ⟨h1, h2⟩ | ⟨v', p', h1, h2, _⟩
    · rcases at_D (k := key) q with ⟨h3, h4⟩ | ⟨v2, d2, h3, h4, _⟩
      · rw [h2, h4]; rfl
      · rw [h1] at h3; cases h3
    · rcases at_D (k := key) q with ⟨h3, h4⟩ | ⟨v2, d2, h3, h4, _⟩
      · rw [h1] at h3; cases h3
      · rw [h2, h4]; rfl
  rw [e1]
  rw [← hp, ← hw]
  exact ⟨.bl _, H, I.tok _, rfl, one g k rfl⟩
theorem op_notInN (hu : X.A.units + 64 < cLine) (hp : X.prog = G.P := by rfl) (hw : X.w = G.w := by rfl) : OpR X (compareOp .NotIn) (r2 G dNotInN) := by
  intro pins s σ H x y v u Q I rx ry h
  obtain ⟨T, dx, dy, res, g, sx, sy, e, k⟩ := h
  unfold dNotInN at e
  split at e <;> try (cases e; done)
  rename_i ps
  split at e <;> try (cases e; done)
  rename_i key ek
  cases e
  obtain ⟨ds, rfl⟩ := nkey_tup ek
  obtain ⟨a, rfl, ha⟩ := key_ref g sx
  obtain ⟨b, xs, rfl, hr, q⟩ := dic_at g sy
  cases rx
  cases ry
  have d0 : DN0 G.P G.w s.heap b xs := (hr.ok I.hok).1
  obtain ⟨ys, hx, hd⟩ := dictOf I g d0 q
  rw [hp, hw]
  show wpAny _ _ (do return Value.bool (!(← contains (Value.ref b) (Value.ref a)))) _ _ s
  refine wpAny_bind (wpAny_contains_heap (knd := nestedKind G.P G.w) (show X.A.units + 1 + 8 < cLine by omega) (key_is I g ha ek) d0.1 hd (wpAny_pure ?_))
  have e1 : (atKey ys key).isSome = (keyAt key ps).isSome := by
    rcases at_X (k := key) hx with ⟨h1, h2⟩ | ⟨v', p', h1, h2, _⟩
    · rcases at_D (k := key) q with ⟨h3, h4⟩ | ⟨v2, d2, h3, h4, _⟩
      · rw [h2, h4]; rfl
      · rw [h1] at h3; cases h3
    · rcases at_D (k := key) q with ⟨h3, h4⟩ | ⟨v2, d2, h3, h4, _⟩
      · rw [h1] at h3; cases h3
      · rw [h2, h4]; rfl
  rw [e1]
  rw [← hp, ← hw]
  exact ⟨.bl _, H, I.tok _, rfl, one g k rfl⟩
/-- in, for lists, tuples, dicts -/
def dInA (x y : D) : Option R := match y with
  | .dic true ps => dInN x (.dic true ps)
  | y => dIn x y
def dNotInA (x y : D) : Option R := match y with
  | .dic true ps => dNotInN x (.dic true ps)
  | y => dNotIn x y
theorem op_inA (hu : X.A.units + 65 < cLine) (hk : X.K = G.K := by rfl) (hp : X.prog = G.P := by rfl) (hw : X.w = G.w := by rfl) : OpR X (compareOp .In) (r2 G dInA) :=
  LD.OpR.imp (OpR.or (op_inD (G := G) hu hk) (op_inN (G := G) (by omega) hp hw)) fun x y H Q ⟨T, dx, dy, res, g, sx, sy, e, k⟩ => by
    unfold dInA at e
    split at e
    · exact .inr ⟨T, dx, _, res, g, sx, sy, e, k⟩
    · exact .inl ⟨T, dx, _, res, g, sx, sy, e, k⟩
theorem op_notInA (hu : X.A.units + 65 < cLine) (hk : X.K = G.K := by rfl) (hp : X.prog = G.P := by rfl) (hw : X.w = G.w := by rfl) : OpR X (compareOp .NotIn) (r2 G dNotInA) :=
  LD.OpR.imp (OpR.or (op_notInD (G := G) hu hk) (op_notInN (G := G) (by omega) hp hw)) fun x y H Q ⟨T, dx, dy, res, g, sx, sy, e, k⟩ => by
    unfold dNotInA at e
    split at e
    · exact .inr ⟨T, dx, _, res, g, sx, sy, e, k⟩
    · exact .inl ⟨T, dx, _, res, g, sx, sy, e, k⟩

/-! ### dict(pairs) -/
def pairsOf : List D → Option (List (D × D))
  | [] => some []
  | .tup [k, v] :: ds => match nkey k with
    | none => none
    | some _ => match pairsOf ds with
      | some ps => some ((k, v) :: ps)
      | none => none
  | _ => none
def putAll (ps acc : List (D × D)) : List (D × D) := ps.foldl (fun acc p => match nkey p.1 with | some key => putD key p.1 p.2 acc | none => acc) acc
def dDictN : List D → Option R
  | [.lst ds] => match pairsOf ds with
    | some ps => some (.own (.dic true (putAll ps [])))
    | none => none
  | _ => none
def putAllN (xs acc : List (NestedKey × Addr × V)) : List (NestedKey × Addr × V) := xs.foldl (fun acc x => putN x.1 x.2.1 x.2.2 acc) acc
theorem putAll_D : ∀ {xs : List (NestedKey × Addr × V)} {ps : List (D × D)}, Paired (DP G T) xs ps → ∀ {ax : List (NestedKey × Addr × V)} {ap : List (D × D)}, Paired (DP G T) ax ap → Paired (DP G T) (putAllN xs ax) (putAll ps ap)
  | _, _, .nil, _, _, h => h
  | _, _, .cons (a := x) (b := p) a t, ax, ap, h => by
    unfold putAllN putAll
    rw [List.foldl_cons, List.foldl_cons]
    have e : (match nkey p.1 with | some key => putD key p.1 p.2 ap | none => ap) = putD x.1 p.1 p.2 ap := by rw [a.1]
    rw [e]
    exact putAll_D t (put_D h a.1 a.2.1 a.2.2)
theorem putAll_X : ∀ {xs : List (NestedKey × Addr × V)} {ys : List (NestedKey × Addr × Value)}, Paired DX xs ys → ∀ {ax : List (NestedKey × Addr × V)} {ay : List (NestedKey × Addr × Value)}, Paired DX ax ay → Paired DX (putAllN xs ax) (storedAllH ay ys)
  | _, _, .nil, _, _, h => h
  | _, _, .cons (a := x) (b := y) a t, ax, ay, h => by
    unfold putAllN storedAllH
    rw [List.foldl_cons, List.foldl_cons]
    have e := put_X (k := x.1) (a := x.2.1) h a.2.2
    rw [a.1, a.2.1] at e
    rw [a.1, a.2.1]
    exact putAll_X t e
theorem putAllN_len : ∀ (xs acc : List (NestedKey × Addr × V)), (putAllN xs acc).length ≤ acc.length + xs.length
  | [], acc => Nat.le_refl _
  | x :: xs, acc => by
    have h1 := putAllN_len xs (putN x.1 x.2.1 x.2.2 acc)
    have h2 := putN_len (k := x.1) (a := x.2.1) (v := x.2.2) acc
    unfold putAllN at h1 ⊢
    rw [List.foldl_cons, List.length_cons]
    omega
theorem pairs_rows {pins : List (Addr × Obj)} {s : Shared} (I : Inv X pins σ H s) (g : Good G T H) : ∀ {vs : List V} {ds : List D} {its : List Value} {ps : List (D × D)}, Reps G T vs ds → Vals vs its → pairsOf ds = some ps →
    ∃ (ts : List Addr) (xs : List (NestedKey × Addr × V)) (ys : List (NestedKey × Addr × Value)), its = ts.map Value.ref ∧ Paired DX xs ys ∧ Paired (DP G T) xs ps ∧ ts.length = ys.length ∧ ∀ (j : Nat) t y, ts[j]? = some t → ys[j]? = some y → PairAt s.heap t (.ref y.2.1) y.2.2
  | _, _, _, ps, .nil, .nil, e => by
    cases e
    exact ⟨[], [], [], rfl, .nil, .nil, rfl, fun j t y h => by simp at h⟩
  | _, d :: ds, _, ps, .cons (a := v) a t, .cons (b := u) b us, e => by
    unfold pairsOf at e
    split at e
    · rename_i h0; cases h0
    · rename_i k x ds' h0
      cases h0
      split at e
      · cases e
      · rename_i key ek
        split at e
        · rename_i ps' ep
          cases e
          obtain ⟨ts, xs, ys, h1, h2, h3, h4, h5⟩ := pairs_rows I g t us ep
          obtain ⟨c, rfl, hc⟩ := ref_of a
          obtain ⟨ws, hw, rw', _⟩ := g c _ hc
          obtain ⟨ks, rfl⟩ := nkey_tup ek
          cases rw' with
          | cons r1 rest =>
            cases rest with
            | @cons w2 _ _ _ r2 rest =>
              cases rest
              obtain ⟨b1, rfl, hb1⟩ := ref_of r1
              obtain ⟨_, its2, rv, tup⟩ := (show ObjOk X.prog X.w H s.heap c (.tup _) from I.hok c _ hw)
              cases rv with
              | cons e1 rv =>
                cases rv with
                | @cons _ u2 _ _ e2 rv =>
                  cases rv
                  cases e1
                  cases b
                  refine ⟨c :: ts, (key, b1, w2) :: xs, (key, b1, u2) :: ys, by rw [h1]; rfl, .cons ⟨rfl, rfl, e2⟩ h2, .cons ⟨ek, hb1, r2⟩ h3, by rw [List.length_cons, List.length_cons, h4], fun j t y q1 q2 => ?_⟩
                  cases j with
                  | zero =>
                    simp at q1 q2
                    subst q1 q2
                    exact .inl tup
                  | succ j => exact h5 j t y (by simpa using q1) (by simpa using q2)
        · cases e
    · cases e
theorem cr_dictN (hc : X.A.handled = none) (hu : X.A.units + 64 < cLine) (hk : X.K = G.K := by rfl) (hp : X.prog = G.P := by rfl) (hw : X.w = G.w := by rfl) : CallR X (.type "dict") (rB G dDictN) := by
  intro pins s σ H xs us Q I rv h
  obtain ⟨T, ds, res, g, h, e, k⟩ := h
  unfold dDictN at e
  split at e <;> try (cases e; done)
  rename_i ds'
  split at e <;> try (cases e; done)
  rename_i ps ep
  cases e
  obtain ⟨x, rfl, sx⟩ := p1 h
  obtain ⟨a, vs, rfl, q, hH, r, z⟩ := sx.lst g
  rw [Vals.ref1 rv]
  obtain ⟨its, rv', pl, hz⟩ := I.list (X := X) (hk ▸ q : SqL X.K H a vs)
  obtain ⟨ts, xs, ys, h1, h2, h3, h4, h5⟩ := pairs_rows I g r rv' ep
  have l1 : xs.length = ys.length := h2.length
  have l2 : vs.length = its.length := rv'.length
  have l3 : its.length = ys.length := by rw [h1, List.length_map, h4]
  have P := PairArg.list (prog := X.prog) (w := X.w) a its.toArray (fun j => ts.getD j 0) (ys.map fun y => (Value.ref y.2.1, y.2.2))
  have items : PairItems s.heap its.toArray (fun j => ts.getD j 0) (ys.map fun y => (Value.ref y.2.1, y.2.2)) := by
    refine ⟨by rw [List.size_toArray, List.length_map, l3], fun j kk vv hj => ?_⟩
    rw [List.getElem?_map] at hj
    cases ey : ys[j]? with
    | none => rw [ey] at hj; cases hj
    | some y =>
      rw [ey] at hj
      cases hj
      have hjl : j < ts.length := by rw [h4]; exact (List.getElem?_eq_some_iff.mp ey).1
      have et : ts[j]? = some ts[j] := List.getElem?_eq_getElem hjl
      have eg : ts.getD j 0 = ts[j] := by simp [hjl]
      refine ⟨?_, ?_⟩
      · rw [h1]
        simp [eg, hjl]
      · show PairAt s.heap (ts.getD j 0) (.ref y.2.1) y.2.2
        rw [eg]
        exact h5 j _ y et ey
  have hkeys : ∀ y ∈ ys, (nestedKind X.prog X.w).is s.heap y.1 y.2.1 := fun y hy => by
    obtain ⟨j, hj, rfl⟩ := List.mem_iff_getElem.mp hy
    have ey : ys[j]? = some ys[j] := List.getElem?_eq_getElem hj
    obtain ⟨x, ex, dx⟩ := pget h2 ey
    have lp : xs.length = ps.length := h3.length
    have hjp : j < ps.length := by omega
    obtain ⟨x', ex', px⟩ := pget h3 (List.getElem?_eq_getElem hjp)
    rw [ex] at ex'
    cases ex'
    rw [← dx.1, ← dx.2.1]
    exact key_is I g px.2.1 px.1
  refine call_dict_pairsH (knd := nestedKind X.prog X.w) (ps := ys) P hc (show X.A.units + 1 + 1 + 8 < cLine by omega) ⟨?_, items⟩ ⟨by rw [List.length_map], fun i key v hr => ?_⟩ (fun h' hkp y hy => nestedKind_stays.stays (fun b o vs n hb _ => hkp b o (Nat.ne_of_lt (Heap.lt_size hb)) (fun z => nomatch z) hb) (hkeys y hy)) (by rw [List.length_map]; omega) fun h' tk hd hkp => ?_
  · exact pl
  · have hr : (ys.map fun y => (Value.ref y.2.1, y.2.2))[i]? = some (key, v) := hr
    rw [List.getElem?_map] at hr
    cases ey : ys[i]? with
    | none => rw [ey] at hr; cases hr
    | some y =>
      rw [ey] at hr
      cases hr
      exact ⟨y.1, y.2.1, rfl, rfl⟩
  · have hn : H s.heap.objs.size = none := I.hok.fresh (Nat.le_refl _)
    have hlen := putAllN_len xs []
    rw [List.length_nil] at hlen
    have d0 : DN0 X.prog X.w h' s.heap.objs.size (putAllN xs []) := DN.of (beq_eq_false_iff_ne.mpr (Ne.symm (Nat.ne_of_lt I.big))) (by omega) (putAll_X h2 .nil) hd
    refine ⟨.ref s.heap.objs.size, upd H s.heap.objs.size (DN X.prog X.w s.heap.objs.size (putAllN xs [])), I.laid (t' := tk) (fun b o q => hkp b o (fun z => nomatch z) q) (Nat.le_refl _) (DN.obj d0), rfl, ?_⟩
    rw [hp, hw]
    exact k T _ _ (Step.new g hn _) ⟨_, rfl, hn, g.free hn, ⟨_, .inl upd_same, putAll_D h3 .nil⟩, by rw [upd_same]; exact True.intro⟩
end
end LD

/-! Layer D: the lines that a web keeps; methods without arguments. -/
namespace LD
open PySem PySem.Spec PyProof.Rows L2
section
variable {G : Gm} {T T1 T2 : Ty} {st st1 st2 : DSt} {σ σ1 σ2 : L2.St} {H H1 H2 : Hp} {v : V} {d : D} {r : R} {X : Cx}
/-- {} kept for the lines in slot i -/
def mCchV (i : Nat) : M := fun st => match st[i]? with
  | some (some (.imm (.tup ls))) => some (.imm (.cch ls), st)
  | _ => none
theorem ok_cchV (i : Nat) : OkE G tDNewK (mCchV i) := by
  intro T st σ H r st' rl e Q k
  unfold mCchV at e
  split at e
  · rename_i ls h
    cases e
    intro p hp
    exact k _ (.ref p) _ (rl.ekeep (Step.lay rl.good hp _ (d := .cch ls) (.inl upd_same))) (.inl tset_same)
  · cases e
def lnT (l : D) : D × D := (l, .bl true)
/-- the dict of lines is filled -/
theorem good_cch (g : Good G T H) {c t : Addr} {ls : List D} (hc : T c = some (.cch ls)) (ht : T t = some (.dic true (ls.map fun l => (l, .bl true)))) : Good G T (upd H c (.dK [(.inr "there", .ref t)])) := fun a d q => by
  by_cases e : a = c
  · subst e
    rw [hc] at q
    cases q
    exact .inr ⟨t, upd_same, ht⟩
  · exact (g a d q).mono (Sub.refl T) (upd_ne e)
theorem rel_cch (rl : Rel G T st σ H) {c t : Addr} {ls : List D} (hc : T c = some (.cch ls)) (ht : T t = some (.dic true (ls.map fun l => (l, .bl true)))) : EStep G T st σ H T st (upd H c (.dK [(.inr "there", .ref t)])) := by
  have g := good_cch rl.good hc ht
  have nr : ∀ a, T a = none → a ≠ c := fun a h z => by rw [z, hc] at h; cases h
  refine ⟨⟨g, rl.len, rl.imm, fun i k d h => ?_, rl.inj⟩, ⟨Sub.refl T, g, fun a h z => ?_, fun a o h q n => ?_⟩, fun i k d h => ⟨d, h⟩, fun i sv h => ⟨sv, h⟩⟩
  · obtain ⟨a, h1, o⟩ := rl.rts i k d h
    have ne := nr a o.ty
    exact ⟨a, h1, o.ty, o.sh.mono (Sub.refl T) (upd_ne ne), by rw [upd_ne ne]; exact o.mu⟩
  · by_cases e : a = c
    · rw [e, upd_same] at z; cases z
    · rw [upd_ne e] at z; exact h z
  · have ne := nr a q
    exact ⟨by rw [upd_ne ne]; exact h, q⟩
open Classical in
/-- if 'there' not in self.looked: self.looked['there'] = e; return self.looked['there'] -/
noncomputable def sThere (i k : Nat) (m : M) : MS := fun st => match st[i]? with
  | some (some (.imm (.ins k' [_, _, .cch ls]))) => if k' = k then match m st with
    | some (.own (.dic true ps), s) => if ps = ls.map (fun l => (l, D.bl true)) ∧ s = st then some (.ret (.imm (.dic true ps)), st) else none
    | _ => none
    else none
  | _ => none
abbrev thr : Str := "there"
theorem web_at (rl : Rel G T st σ H) {i k : Nat} {x y : D} {ls : List D} (h : st[i]? = some (some (.imm (.ins k [x, y, .cch ls])))) : ∃ p, σ[i]? = some (some (.ref p)) ∧ T p = some (.ins k [x, y, .cch ls]) := by
  obtain ⟨v, h1, h2⟩ := rl.imm i _ h
  obtain ⟨p, rfl, h3⟩ := rep_heap rl.good h2 rfl (fun _ => nofun)
  exact ⟨p, h1, h3⟩
theorem web_obj (g : Good G T H) {p : Addr} {k : Nat} {x y : D} {ls : List D} (h : T p = some (.ins k [x, y, .cch ls])) : ∃ dx vs c, H p = some (.ins (G.C k) dx ((G.fl k).zip vs)) ∧ vs[2]? = some (.ref c) ∧ T c = some (.cch ls) := by
  obtain ⟨dx, vs, h1, h2, h3⟩ := g p _ h
  obtain ⟨w, e1, e2⟩ := reps_ix h3 (show [x, y, D.cch ls][2]? = some (.cch ls) from rfl)
  obtain ⟨c, rfl, hc⟩ := rep_heap g e2 rfl (fun _ => nofun)
  exact ⟨dx, vs, c, h1, e1, hc⟩
theorem ok_there {i k : Nat} {te : TE} {m : M} (F : FldOk G k 2 "looked") (hm : OkE G te m) :
    OkS G (tSeq (tIfS (tB (tDNotIn (tC (.str thr)) (tFld G.K (tVar i) "looked"))) (sDPut (tFld G.K (tVar i) "looked") (tC (.str thr)) te) tNext) (tRet (tDGet (tFld G.K (tVar i) "looked") (tC (.str thr))))) (sThere i k m) := by
  intro T st σ H f st' rl e D w
  unfold sThere at e
  split at e
  · rename_i k' x y ls hi
    split at e
    · rename_i hk
      subst hk
      split at e
      · rename_i ps s em
        split at e
        · rename_i hh
          obtain ⟨rfl, rfl⟩ := hh
          cases e
          obtain ⟨p, hp, tp⟩ := web_at rl hi
          obtain ⟨dx, vs, c, h1, h2, h3⟩ := web_obj rl.good tp
          -- the test
          refine ⟨.ref p, hp, p, G.C k', dx, _, .ref c, rfl, h1, F.cl, F.na, F.get vs _ h2, ?_⟩
          rcases rl.good c _ h3 with q | ⟨t, q, ht⟩
          · refine ⟨c, none, rfl, DGet.k (k := .inr thr) q, true, rfl, ?_⟩
            dsimp only
            rw [if_pos rfl]
            refine hm T _ σ H _ _ rl em _ fun T1 v1 H1 E1 R1 => ?_
            obtain ⟨T2, E2, R2⟩ := ok_freeze rl E1 R1 (show freeze _ (.own _) = some (_, _) from rfl)
            obtain ⟨t, rfl, ht⟩ := rep_heap E2.rel.good R2 rfl (fun _ => nofun)
            have tp2 := E2.step.sub p _ tp
            obtain ⟨dx2, vs2, c2, g1, g2, g3⟩ := web_obj E2.rel.good tp2
            refine ⟨.ref p, hp, p, G.C k', dx2, _, .ref c2, rfl, g1, F.cl, F.na, F.get vs2 _ g2, ?_⟩
            have put : DPut H1 c2 (.str thr) (.ref t) (upd H1 c2 (.dK [(.inr thr, .ref t)])) := by
              rcases E2.rel.good c2 _ g3 with q2 | ⟨t2, q2, _⟩
              · exact DPut.k (k := .inr thr) (v := .ref t) q2 (by rw [sizeLine_eq]; decide)
              · have e2 : putK [((.inr thr : Key), V.ref t2)] (.inr thr) (.ref t) = [(.inr thr, .ref t)] := by
                  unfold putK
                  simp
                have := DPut.k (k := .inr thr) (v := .ref t) q2 (by rw [sizeLine_eq]; show 1 < 16777216; decide)
                rw [e2] at this
                exact this
            refine ⟨c2, _, rfl, put, ?_⟩
            have npc : p ≠ c2 := fun z => by rw [z, g3] at tp2; cases tp2
            have E3 := rel_cch E2.rel g3 ht
            refine ⟨.ref p, hp, p, G.C k', dx2, _, .ref c2, rfl, by rw [upd_ne npc]; exact g1, F.cl, F.na, F.get vs2 _ g2, ?_⟩
            refine ⟨c2, .ref t, rfl, ?_, ?_⟩
            · have := DGet.k (k := .inr thr) (H := upd H1 c2 (.dK [(.inr thr, .ref t)])) (a := c2) (kvs := [(.inr thr, .ref t)]) upd_same
              have e3 : valV [((.inr thr : Key), V.ref t)] (.inr thr) = some (.ref t) := by simp [valV]
              rw [e3] at this
              exact this
            · exact w T2 σ _ (.ref t) (E2.trans E3).s (show RepT G T2 (.ref t) _ from .inl ht)
          · have e3 : valV [((.inr "there" : Key), V.ref t)] (.inr thr) = some (.ref t) := by simp [valV]
            have dg := DGet.k (k := .inr thr) q
            rw [e3] at dg
            refine ⟨c, some (.ref t), rfl, dg, false, rfl, ?_⟩
            dsimp only
            rw [if_neg Bool.false_ne_true]
            refine ⟨.ref p, hp, p, G.C k', dx, _, .ref c, rfl, h1, F.cl, F.na, F.get vs _ h2, c, .ref t, rfl, dg, ?_⟩
            exact w T σ H (.ref t) (SStep.refl rl) (show RepT G T (.ref t) _ from .inl ht)
        · cases e
      · cases e
    · cases e
  · cases e

/-! ### o.m() -/
def mMeth (f : FM) (a : M) : M := fun st => match a st with
  | none => none
  | some (r, s1) => match freeze s1 r with
    | none => none
    | some (d, s2) => match f [.imm d] with
      | some (.imm e, _) => some (.imm e, s2)
      | some (.own e, _) => some (.own e, s2)
      | _ => none
/-- no field has the method's name -/
def NoFld (G : Gm) (k : Nat) (m : Str) : Prop := ∀ vs : List V, ((G.fl k).zip vs).lookup m = none
def insK (k : Nat) : D → Bool
  | .ins k' _ => k' == k
  | _ => false
def mMethK (k : Nat) (f : FM) (a : M) : M := fun st => match a st with
  | none => none
  | some (r, s1) => match freeze s1 r with
    | none => none
    | some (d, s2) => if insK k d = true then match f [.imm d] with
      | some (.imm e, _) => some (.imm e, s2)
      | some (.own e, _) => some (.own e, s2)
      | _ => none
      else none
theorem ok_meth0 {k : Nat} {m : Str} {f : FM} {te : TE} {a : M} {E : XK} (ha : OkE G te a) (nf : NoFld G k m) : OkE G (tMeth (G.C k) m (spD G 1 f) [] E te tNil) (mMethK k f a) := by
  intro T st σ H r st' rl e Q kq
  unfold mMethK at e
  split at e
  · cases e
  · rename_i r1 s1 e1
    split at e
    · cases e
    · rename_i d s2 e2
      split at e
      · rename_i hk
        refine ha T st σ H r1 s1 rl e1 _ fun T1 v1 H1 E1 R1 => ?_
        obtain ⟨T2, E2, R2⟩ := ok_freeze rl E1 R1 e2
        have hd : ∃ fs, d = .ins k fs := by
          cases d <;> simp [insK] at hk
          subst hk
          exact ⟨_, rfl⟩
        obtain ⟨fs, rfl⟩ := hd
        obtain ⟨p, rfl, hp⟩ := rep_heap E2.rel.good R2 rfl (fun _ => nofun)
        obtain ⟨dx, vs, g1, g2, g3⟩ := E2.rel.good p _ hp
        refine ⟨p, dx, _, rfl, g1, nf vs, ?_⟩
        have args : ArgsOk G T2 H1 [.ref p] [.imm (.ins k fs)] := ⟨.cons (.inl hp) .nil, fun i j k1 k2 d1 d2 b h _ _ _ => by
          cases i with
          | zero => simp at h
          | succ i => simp at h⟩
        have none_root : ∀ b, RtArg [V.ref p] [SV.imm (.ins k fs)] b → False := fun b ⟨i, k1, d1, h, _⟩ => by
          cases i with
          | zero => simp at h
          | succ i => simp at h
        show spD G 1 f ([V.ref p] ++ []) H1 Q E
        rw [List.append_nil]
        have fin : ∀ T' H', Step G T2 H1 T' H' (RtArg [V.ref p] [SV.imm (.ins k fs)]) → EStep G T st σ H T' s2 H' := fun T' H' S => E2.trans (E2.rel.ekeep (S.mono fun b z => none_root b z))
        split at e
        · rename_i ee os ef
          cases e
          exact ⟨T2, _, _, os, E2.rel.good, args, rfl, ef, fun T' H' v S R _ => kq T' v H' (fin T' H' S) R⟩
        · rename_i ee os ef
          cases e
          refine ⟨T2, _, _, os, E2.rel.good, args, rfl, ef, fun T' H' v S R _ => kq T' v H' (fin T' H' S) ?_⟩
          obtain ⟨b, h1, h2, h3⟩ := R
          exact ⟨b, h1, none_of E2.step.dom h2, h3⟩
        · cases e
      · cases e
end
end LD

/-! Layer D: dicts whose keys are ints and texts. -/
namespace LD
open PySem PySem.W PySem.Calls PySem.Spec PyProof.Rows L2
section
variable {G : Gm} {T T1 T2 : Ty} {st st1 st2 : DSt} {σ σ1 σ2 : L2.St} {H H1 H2 : Hp} {v : V} {d : D} {r : R} {X : Cx}
def keyK : D → Option Key
  | .int i => some (.inl i)
  | .str x => some (.inr x)
  | _ => none
abbrev PK (G : Gm) (T : Ty) (kv : Key × V) (p : D × D) : Prop := p.1 = keyD kv.1 ∧ RepT G T kv.2 p.2
theorem keyK_D (k : Key) : keyK (keyD k) = some k := by cases k <;> rfl
theorem keyK_eq {d : D} {k : Key} (h : keyK d = some k) : d = keyD k := by
  cases d <;> simp [keyK] at h
  · rw [← h]; rfl
  · rw [← h]; rfl
theorem sees_key (g : Good G T H) {x : V} {k : Key} (s : Sees G T H x (keyD k)) : x = kV k := by
  cases k with
  | inl i => exact s.int g
  | inr z => exact s.str g
def keyAtK (k : Key) : List (D × D) → Option D
  | [] => none
  | p :: ps => if keyK p.1 = some k then some p.2 else keyAtK k ps
def putDK (k : Key) (e : D) (ps : List (D × D)) : List (D × D) := if (keyAtK k ps).isSome = true then ps.map fun p => if keyK p.1 = some k then (p.1, e) else p else ps ++ [(keyD k, e)]
theorem at_K {k : Key} {kvs : List (Key × V)} {ps : List (D × D)} (q : Paired (PK G T) kvs ps) : (valV kvs k = none ∧ keyAtK k ps = none) ∨ ∃ v d, valV kvs k = some v ∧ keyAtK k ps = some d ∧ RepT G T v d := by
  induction q with
  | nil => exact .inl ⟨rfl, rfl⟩
  | @cons x p xs ps h t ih =>
    have e1 : valV (x :: xs) k = if x.1 = k then some x.2 else valV xs k := by
      unfold valV
      rw [List.find?_cons]
      by_cases e : x.1 = k
      · rw [if_pos e, decide_eq_true e]; rfl
      · rw [if_neg e, decide_eq_false e]
    have e2 : keyAtK k (p :: ps) = if x.1 = k then some p.2 else keyAtK k ps := by
      show (if keyK p.1 = some k then some p.2 else keyAtK k ps) = _
      rw [h.1, keyK_D]
      by_cases e : x.1 = k
      · rw [if_pos e, if_pos (by rw [e])]
      · rw [if_neg e, if_neg (fun z => e (Option.some.inj z))]
    rw [e1, e2]
    by_cases e : x.1 = k
    · rw [if_pos e, if_pos e]; exact .inr ⟨_, _, rfl, rfl, h.2⟩
    · rw [if_neg e, if_neg e]; exact ih
theorem any_val {κ : Type} [DecidableEq κ] (kvs : List (κ × V)) (k : κ) : (kvs.any fun kv => decide (kv.1 = k)) = (valV kvs k).isSome := by
  unfold valV
  induction kvs with
  | nil => rfl
  | cons x xs ih =>
    rw [List.any_cons, List.find?_cons]
    cases e : decide (x.1 = k) with
    | true => rfl
    | false => simpa using ih
theorem put_K {k : Key} {v : V} {e : D} {kvs : List (Key × V)} {ps : List (D × D)} (q : Paired (PK G T) kvs ps) (rv : RepT G T v e) : Paired (PK G T) (putK kvs k v) (putDK k e ps) := by
  unfold putK putDK
  rw [any_val]
  rcases at_K (k := k) q with ⟨h1, h2⟩ | ⟨v', d', h1, h2, _⟩
  · rw [h1, h2]
    exact paired_app q (.cons ⟨rfl, rv⟩ .nil)
  · rw [h1, h2]
    simp only [Option.isSome_some, if_true]
    clear h1 h2
    induction q with
    | nil => exact .nil
    | @cons x p xs ps h t ih =>
      refine .cons ?_ ih
      dsimp only
      by_cases z : x.1 = k
      · rw [if_pos z, if_pos (by rw [h.1, keyK_D, z])]
        exact ⟨h.1, rv⟩
      · rw [if_neg z, if_neg (by rw [h.1, keyK_D]; exact fun y => z (Option.some.inj y))]
        exact h
theorem dicK_at (g : Good G T H) {x : V} {ps : List (D × D)} (s : Sees G T H x (.dic false ps)) : ∃ a kvs, x = .ref a ∧ Rd H a (.dK kvs) ∧ Paired (PK G T) kvs ps := by
  rcases s.heap g rfl with ⟨a, e, xs, h, q⟩ | ⟨a, ns, _, z, _⟩
  · exact ⟨a, xs, e, h, q⟩
  · cases z
def dInK (x y : D) : Option R := match y with
  | .dic false ps => match keyK x with
    | some k => rb (keyAtK k ps).isSome
    | none => none
  | _ => none
def dNotInK (x y : D) : Option R := match y with
  | .dic false ps => match keyK x with
    | some k => rb (!(keyAtK k ps).isSome)
    | none => none
  | _ => none
def dGetK (x y : D) : Option R := match x with
  | .dic false ps => match keyK y with
    | some k => match keyAtK k ps with
      | some d => some (.imm d)
      | none => none
    | none => none
  | _ => none
theorem iso_K {k : Key} {kvs : List (Key × V)} {ps : List (D × D)} (q : Paired (PK G T) kvs ps) : (valV kvs k).isSome = (keyAtK k ps).isSome := by
  rcases at_K (k := k) q with ⟨h1, h2⟩ | ⟨v', d', h1, h2, _⟩ <;> rw [h1, h2] <;> rfl
theorem op_inK (hu : X.A.units + 64 < cLine) : OpR X (compareOp .In) (r2 G dInK) := by
  intro pins s σ H x y v u Q I rx ry h
  obtain ⟨T, dx, dy, res, g, sx, sy, e, k⟩ := h
  unfold dInK at e
  split at e <;> try (cases e; done)
  rename_i ps
  split at e <;> try (cases e; done)
  rename_i key ek
  cases e
  rw [keyK_eq ek] at sx
  rw [sees_key g sx] at rx
  obtain ⟨b, kvs, rfl, hr, q⟩ := dicK_at g sy
  cases ry
  refine d_in (by omega) I (.inl ⟨kvs, key, hr, rfl, rfl⟩) rx fun s' I' => ?_
  rw [iso_K q]
  exact ⟨.bl _, H, I', rfl, one g k rfl⟩
theorem op_notInK (hu : X.A.units + 64 < cLine) : OpR X (compareOp .NotIn) (r2 G dNotInK) := by
  intro pins s σ H x y v u Q I rx ry h
  obtain ⟨T, dx, dy, res, g, sx, sy, e, k⟩ := h
  unfold dNotInK at e
  split at e <;> try (cases e; done)
  rename_i ps
  split at e <;> try (cases e; done)
  rename_i key ek
  cases e
  rw [keyK_eq ek] at sx
  rw [sees_key g sx] at rx
  obtain ⟨b, kvs, rfl, hr, q⟩ := dicK_at g sy
  cases ry
  refine d_notIn (by omega) I (.inl ⟨kvs, key, hr, rfl, rfl⟩) rx fun s' I' => ?_
  rw [iso_K q]
  exact ⟨.bl _, H, I', rfl, one g k rfl⟩
/-- in: lists, tuples, dicts of both kinds -/
def dInB (x y : D) : Option R := match y with
  | .dic false ps => dInK x (.dic false ps)
  | y => dInA x y
def dNotInB (x y : D) : Option R := match y with
  | .dic false ps => dNotInK x (.dic false ps)
  | y => dNotInA x y
theorem op_inB (hu : X.A.units + 65 < cLine) (hk : X.K = G.K := by rfl) (hp : X.prog = G.P := by rfl) (hw : X.w = G.w := by rfl) : OpR X (compareOp .In) (r2 G dInB) :=
  LD.OpR.imp (OpR.or (op_inA (G := G) hu hk hp hw) (op_inK (G := G) (by omega))) fun x y H Q ⟨T, dx, dy, res, g, sx, sy, e, k⟩ => by
    unfold dInB at e
    split at e
    · exact .inr ⟨T, dx, _, res, g, sx, sy, e, k⟩
    · exact .inl ⟨T, dx, _, res, g, sx, sy, e, k⟩
theorem op_notInB (hu : X.A.units + 65 < cLine) (hk : X.K = G.K := by rfl) (hp : X.prog = G.P := by rfl) (hw : X.w = G.w := by rfl) : OpR X (compareOp .NotIn) (r2 G dNotInB) :=
  LD.OpR.imp (OpR.or (op_notInA (G := G) hu hk hp hw) (op_notInK (G := G) (by omega))) fun x y H Q ⟨T, dx, dy, res, g, sx, sy, e, k⟩ => by
    unfold dNotInB at e
    split at e
    · exact .inr ⟨T, dx, _, res, g, sx, sy, e, k⟩
    · exact .inl ⟨T, dx, _, res, g, sx, sy, e, k⟩

/-! ### d[k] -/
theorem ix_K (hu : X.A.units + 64 < cLine) : IxR X (r2 G dGetK) := by
  intro value slice pins s σ H x y v u Q I rx ry h hs
  obtain ⟨T, dx, dy, res, g, sx, sy, e, k⟩ := h
  unfold dGetK at e
  split at e <;> try (cases e; done)
  rename_i ps
  split at e <;> try (cases e; done)
  rename_i key ek
  split at e <;> try (cases e; done)
  rename_i dd ed
  cases e
  rw [keyK_eq ek] at sy
  rw [sees_key g sy] at ry
  obtain ⟨b, kvs, rfl, hr, q⟩ := dicK_at g sx
  cases rx
  rcases at_K (k := key) q with ⟨h1, h2⟩ | ⟨v', d', h1, h2, h3⟩
  · rw [h2] at ed; cases ed
  · rw [h2] at ed; cases ed
    have dg : DGet H b (kV key) (some v') := .inl ⟨kvs, key, hr, rfl, h1.symm⟩
    exact tail_any (dict_typeIs I dg) slot_dict_getitem.lookup (d_getItem (by omega) I dg ry fun w' s' I' rw' => ⟨v', H, I', rw', one g k h3⟩) hs
theorem ix_N (hu : X.A.units + 64 < cLine) (hp : X.prog = G.P := by rfl) (hw : X.w = G.w := by rfl) : IxR X (r2 G dGetN) := by
  intro value slice pins s σ H x y v u Q I rx ry h hs
  obtain ⟨T, dx, dy, res, g, sx, sy, e, k⟩ := h
  unfold dGetN at e
  split at e <;> try (cases e; done)
  rename_i ps
  split at e <;> try (cases e; done)
  rename_i key ek
  split at e <;> try (cases e; done)
  rename_i dd ed
  cases e
  obtain ⟨ds, rfl⟩ := nkey_tup ek
  obtain ⟨a, rfl, ha⟩ := key_ref g sy
  obtain ⟨b, xs, rfl, hr, q⟩ := dic_at g sx
  cases rx
  cases ry
  have d0 : DN0 G.P G.w s.heap b xs := (hr.ok I.hok).1
  obtain ⟨ys, hx, hd⟩ := dictOf I g d0 q
  rcases at_D (k := key) q with ⟨h1, h2⟩ | ⟨v', d', h1, h2, h3⟩
  · rw [h2] at ed; cases ed
  · rw [h2] at ed; cases ed
    rcases at_X (k := key) hx with ⟨h4, h5⟩ | ⟨v2, p2, h4, h5, h6⟩
    · rw [h1] at h4; cases h4
    · rw [h1] at h4; cases h4
      refine tail_any hd.typeIs slot_dict_getitem.lookup ?_ hs
      rw [hp, hw]
      refine wpAny_getItem_heap (knd := nestedKind G.P G.w) (show X.A.units + 1 + 8 < cLine by omega) (key_is I g ha ek) hd h5 ?_
      rw [← hp, ← hw]
      exact ⟨v', H, I.tok _, h6, one g k h3⟩
/-- [] of lists, tuples, dicts -/
def dIxA (x y : D) : Option R := match x with
  | .dic true ps => dGetN (.dic true ps) y
  | .dic false ps => dGetK (.dic false ps) y
  | x => dIx x y
theorem ix_A (hu : X.A.units + 64 < cLine) (hk : X.K = G.K := by rfl) (hp : X.prog = G.P := by rfl) (hw : X.w = G.w := by rfl) : IxR X (r2 G dIxA) := by
  have h1 : IxR X (r2 G dIx) := fun value slice pins s σ H x y v u Q I rx ry h hs => by
    obtain ⟨T, dx, dy, res, g, sx, sy, e, k⟩ := h
    exact ix_seq value slice pins s σ H x y v u Q I rx ry (by rw [hk]; exact ok_ix T H x y dx dy res g sx sy e Q k) hs
  intro value slice pins s σ H x y v u Q I rx ry h hs
  obtain ⟨T, dx, dy, res, g, sx, sy, e, k⟩ := h
  unfold dIxA at e
  split at e
  · exact ix_N hu hp hw value slice pins s σ H x y v u Q I rx ry ⟨T, _, dy, res, g, sx, sy, e, k⟩ hs
  · exact ix_K hu value slice pins s σ H x y v u Q I rx ry ⟨T, _, dy, res, g, sx, sy, e, k⟩ hs
  · exact h1 value slice pins s σ H x y v u Q I rx ry ⟨T, _, dy, res, g, sx, sy, e, k⟩ hs

/-! ### {}, dict(pairs) -/
def mDNewI : M := fun st => some (.own (.dic false []), st)
theorem ok_dnewI : OkE G tDNewK mDNewI := by
  intro T st σ H r st' rl e Q k
  cases e
  intro p hp
  exact k T (.ref p) _ (rl.ekeep (Step.new rl.good hp _)) ⟨p, rfl, hp, rl.good.free hp, ⟨[], .inl upd_same, .nil⟩, by rw [upd_same]; exact True.intro⟩
def pairsK' : List D → Option (List (D × D))
  | [] => some []
  | .tup [k, v] :: ds => match keyK k with
    | none => none
    | some _ => match pairsK' ds with
      | some ps => some ((k, v) :: ps)
      | none => none
  | _ => none
def putAllK (ps acc : List (D × D)) : List (D × D) := ps.foldl (fun acc p => match keyK p.1 with | some key => putDK key p.2 acc | none => acc) acc
def dDictK : List D → Option R
  | [.lst ds] => match pairsK' ds with
    | some ps => some (.own (.dic false (putAllK ps [])))
    | none => none
  | _ => none
theorem putAll_K : ∀ {xs : List (Key × V)} {ps : List (D × D)}, Paired (PK G T) xs ps → ∀ {ax : List (Key × V)} {ap : List (D × D)}, Paired (PK G T) ax ap → Paired (PK G T) (mergeK ax xs) (putAllK ps ap)
  | _, _, .nil, _, _, h => h
  | _, _, .cons (a := x) (b := p) a t, ax, ap, h => by
    unfold mergeK putAllK
    rw [List.foldl_cons, List.foldl_cons]
    have e : (match keyK p.1 with | some key => putDK key p.2 ap | none => ap) = putDK x.1 p.2 ap := by rw [a.1, keyK_D]
    rw [e]
    exact putAll_K t (put_K h a.2)
theorem pairs_rowsK (g : Good G T H) : ∀ {vs : List V} {ds : List D} {ps : List (D × D)}, Reps G T vs ds → pairsK' ds = some ps →
    ∃ (ts : List Addr) (kvs : List (Key × V)), vs = ts.map V.ref ∧ Paired (fun p kv => SqT G.K H p [kV kv.1, kv.2]) ts kvs ∧ Paired (PK G T) kvs ps
  | _, _, ps, .nil, e => by
    cases e
    exact ⟨[], [], rfl, .nil, .nil⟩
  | _, d :: ds, ps, .cons (a := v) a t, e => by
    unfold pairsK' at e
    split at e
    · rename_i h0; cases h0
    · rename_i k x ds' h0
      cases h0
      split at e
      · cases e
      · rename_i key ek
        split at e
        · rename_i ps' ep
          cases e
          obtain ⟨ts, kvs, h1, h2, h3⟩ := pairs_rowsK g t ep
          obtain ⟨c, rfl, hc⟩ := ref_of a
          obtain ⟨ws, hw, rw', _⟩ := g c _ hc
          cases rw' with
          | @cons w1 _ _ _ r1 rest =>
            cases rest with
            | @cons w2 _ _ _ r2 rest =>
              cases rest
              have ek' := keyK_eq ek
              subst ek'
              have e1 := sees_key g (Sees.of_rep (H := H) r1)
              subst e1
              exact ⟨c :: ts, (key, w2) :: kvs, by rw [h1]; rfl, .cons (.inl (.inl hw)) h2, .cons ⟨rfl, r2⟩ h3⟩
        · cases e
    · cases e
theorem cr_dictK (hc : X.calm = true) (hk : X.K = G.K := by rfl) : CallR X (.type "dict") (rB G dDictK) := by
  refine CallR.imp (call_dictP hc) fun xs H Q h => ?_
  obtain ⟨T, ds, res, g, h, e, k⟩ := h
  unfold dDictK at e
  split at e <;> try (cases e; done)
  split at e <;> try (cases e; done)
  rename_i ps ep
  cases e
  obtain ⟨x, rfl, sx⟩ := p1 h
  obtain ⟨a, vs, rfl, q, hH, r, z⟩ := sx.lst g
  obtain ⟨ts, kvs, h1, h2, h3⟩ := pairs_rowsK g r ep
  rw [hk]
  refine ⟨a, ts, kvs, rfl, by rw [← h1]; exact q, h2, fun p hp => ?_⟩
  exact k T _ _ (Step.new g hp _) ⟨p, rfl, hp, g.free hp, ⟨_, .inl upd_same, putAll_K h3 .nil⟩, by rw [upd_same]; exact True.intro⟩
end
end LD

/-! Layer D: stores into dicts with int keys, get, a display of one pair, tuple(range(..)), defs that call themselves. -/
namespace LD
open PySem PySem.W PySem.Calls PySem.Spec PyProof.Rows L2
section
variable {G : Gm} {T T1 T2 : Ty} {st st1 st2 : DSt} {σ σ1 σ2 : L2.St} {H H1 H2 : Hp} {v : V} {d : D} {r : R} {X : Cx}
def rSetK : V → V → V → Hp → (Hp → Prop) → Prop := fun o i v H Q => ∃ p k kvs, o = .ref p ∧ i = kV k ∧ H p = some (.dK kvs) ∧ kvs.length < sizeLine ∧ Q (upd H p (.dK (putK kvs k v)))
theorem set_K (hu : X.A.units + 64 < cLine) : PSet X rSetK := by
  intro pins s σ H o i v ov iv u Q I ro ri rv h
  obtain ⟨p, k, kvs, rfl, rfl, hp, hz, q⟩ := h
  cases ro
  exact d_setItem (by omega) I (DPut.k hp hz) ri rv fun s' I' => ⟨_, I', q⟩
def isDicK (st : DSt) (i : Nat) : Bool := match st[i]? with
  | some (some (.rt _ (.dic false _))) => true
  | _ => false
theorem isDicK_of {i : Nat} (rl : Rel G T st σ H) (h : isDicK st i = true) : ∃ a, σ[i]? = some (some (.ref a)) := by
  unfold isDicK at h
  split at h
  · rename_i k ds e
    obtain ⟨a, h1, o⟩ := rl.rts i k _ e
    exact ⟨a, h1⟩
  · cases h
def gKeyK (i : Nat) (m : M) : MG := fun d st => if isDicK st i = true then match m st with
  | some (.imm dk, s1) => match s1[i]? with
    | some (some (.rt k (.dic false ps))) => match keyK dk with
      | some key => if ps.length < sizeLine then some (s1.set i (some (.rt k (.dic false (putDK key d ps))))) else none
      | none => none
    | _ => none
  | _ => none
  else none
theorem ok_gKeyK {i : Nat} {t : TE} {m : M} {r' : V → V → V → Hp → (Hp → Prop) → Prop} (hm : OkE G t m) (im : ∀ o i v H Q, rSetK o i v H Q → r' o i v H Q) : OkG G (gSub (tVar i) t r') (gKeyK i m) := by
  intro T st σ H v d st' rl rv0 e Q k
  unfold gKeyK at e
  split at e
  · rename_i hl
    obtain ⟨a, ha⟩ := isDicK_of rl hl
    split at e
    · rename_i dk s1 e1
      split at e
      · rename_i kk ps e3
        split at e
        · rename_i key ek
          split at e
          · rename_i hz
            cases e
            refine ⟨.ref a, ha, ?_⟩
            refine hm T st σ H _ s1 rl e1 _ fun T1 v1 H1 E1 R1 => ?_
            obtain ⟨b, hb, o⟩ := E1.rel.rts i kk _ e3
            rw [ha] at hb; cases hb
            obtain ⟨kvs, rx, px⟩ := o.sh
            have ex := mut_rd o.mu rx
            have ek' := keyK_eq ek
            subst ek'
            have ev := sees_key E1.rel.good (Sees.of_rep (H := H1) (show RepT G T1 v1 _ from R1))
            subst ev
            have hlen : kvs.length = ps.length := Paired.length px
            refine im _ _ _ _ _ ⟨a, key, kvs, rfl, rfl, ex, by omega, ?_⟩
            have W := rel_write E1.rel e3 ha o (o := .dK (putK kvs key v)) (d' := .dic false (putDK key d ps)) ⟨_, .inl upd_same, put_K px (rv0.mono E1.step.sub)⟩ trivial
            exact k T1 σ _ (E1.trans W).s
          · cases e
        · cases e
      · cases e
    · cases e
  · cases e
/-- a target xs[j], d[k] by what the name holds -/
def gItemB (i : Nat) (m : M) : MG := fun d st => if isL st i = true then gIx i m d st else if isDic st i = true then gKey i m d st else gKeyK i m d st
def rSetB (G : Gm) : V → V → V → Hp → (Hp → Prop) → Prop := fun o i v H Q => rSetA G o i v H Q ∨ rSetK o i v H Q
theorem set_anyB (hu : X.A.units + 64 < cLine) (hp : X.prog = G.P := by rfl) (hw : X.w = G.w := by rfl) : PSet X (rSetB G) := by
  intro pins s σ H o i v ov iv u Q I ro ri rv h
  rcases h with h | h
  · exact set_any hu hp hw pins s σ H o i v ov iv u Q I ro ri rv h
  · exact set_K hu pins s σ H o i v ov iv u Q I ro ri rv h
theorem ok_gItemB {i : Nat} {t : TE} {m : M} (hm : OkE G t m) : OkG G (gSub (tVar i) t (rSetB G)) (gItemB i m) := by
  intro T st σ H v d st' rl rv0 e Q k
  unfold gItemB at e
  split at e
  · exact ok_gIx' hm (fun _ _ _ _ _ z => .inl (.inl z)) T st σ H v d st' rl rv0 e Q k
  · split at e
    · exact ok_gKey hm (fun _ _ _ _ _ z => .inl (.inr z)) T st σ H v d st' rl rv0 e Q k
    · exact ok_gKeyK hm (fun _ _ _ _ _ z => .inr z) T st σ H v d st' rl rv0 e Q k

/-! ### d.get(k), d.get(k, x) -/
def mGet1 (a b : M) : M := fun st => match a st with
  | none => none
  | some (ra, s1) => match cont s1 ra with
    | some (.dic false _) => match b s1 with
      | some (.imm dk, s2) => match cont s2 ra with
        | some (.dic false ps) => match keyK dk with
          | some key => some (.imm ((keyAtK key ps).getD .non), s2)
          | none => none
        | _ => none
      | _ => none
    | _ => none
theorem ok_get1 {ta tb : TE} {a b : M} (ha : OkE G ta a) (hb : OkE G tb b) : OkE G (tDGet1 ta tb) (mGet1 a b) := by
  intro T st σ H r st' rl e Q k
  unfold mGet1 at e
  split at e
  · cases e
  · rename_i ra s1 e1
    split at e
    · rename_i ps0 c1
      split at e
      · rename_i dk s2 e2
        split at e
        · rename_i ps c2
          split at e
          · rename_i key ek
            cases e
            refine ha T st σ H ra s1 rl e1 _ fun T1 v1 H1 E1 R1 => ?_
            obtain ⟨p, kvs0, rfl, hr0, _⟩ := dicK_at E1.rel.good (sees_of E1.rel R1 c1)
            refine ⟨p, rfl, .inl ⟨kvs0, hr0⟩, ?_⟩
            refine hb T1 s1 σ H1 _ _ E1.rel e2 _ fun T2 v2 H2 E2 R2 => ?_
            have sv := sees_of E2.rel (R1.pass rl E1 E2) c2
            obtain ⟨p', kvs, ep, hr, q⟩ := dicK_at E2.rel.good sv
            cases ep
            have ek' := keyK_eq ek
            subst ek'
            have ev := sees_key E2.rel.good (Sees.of_rep (H := H2) (show RepT G T2 v2 _ from R2))
            subst ev
            refine ⟨valV kvs key, .inl ⟨kvs, key, hr, rfl, rfl⟩, k T2 _ H2 (E1.trans E2) ?_⟩
            rcases at_K (k := key) q with ⟨h1, h2⟩ | ⟨v', d', h1, h2, h3⟩
            · rw [h1, h2]; rfl
            · rw [h1, h2]; exact h3
          · cases e
        · cases e
      · cases e
    · cases e
def mGet2 (a b c : M) : M := fun st => match a st with
  | none => none
  | some (ra, s1) => match cont s1 ra with
    | some (.dic false _) => match b s1 with
      | some (.imm dk, s2) => match c s2 with
        | some (.imm dx, s3) => match cont s3 ra with
          | some (.dic false ps) => match keyK dk with
            | some key => some (.imm ((keyAtK key ps).getD dx), s3)
            | none => none
          | _ => none
        | _ => none
      | _ => none
    | _ => none
theorem ok_get2 {ta tb tc : TE} {a b c : M} (ha : OkE G ta a) (hb : OkE G tb b) (hc : OkE G tc c) : OkE G (tDGet2 ta tb tc) (mGet2 a b c) := by
  intro T st σ H r st' rl e Q k
  unfold mGet2 at e
  split at e
  · cases e
  · rename_i ra s1 e1
    split at e
    · rename_i ps0 c1
      split at e
      · rename_i dk s2 e2
        split at e
        · rename_i dx s3 e3
          split at e
          · rename_i ps c2
            split at e
            · rename_i key ek
              cases e
              refine ha T st σ H ra s1 rl e1 _ fun T1 v1 H1 E1 R1 => ?_
              obtain ⟨p, kvs0, rfl, hr0, _⟩ := dicK_at E1.rel.good (sees_of E1.rel R1 c1)
              refine ⟨p, rfl, .inl ⟨kvs0, hr0⟩, ?_⟩
              refine hb T1 s1 σ H1 _ s2 E1.rel e2 _ fun T2 v2 H2 E2 R2 => ?_
              refine hc T2 s2 σ H2 _ _ E2.rel e3 _ fun T3 v3 H3 E3 R3 => ?_
              have E23 := E2.trans E3
              have sv := sees_of E3.rel (R1.pass rl E1 E23) c2
              obtain ⟨p', kvs, ep, hr, q⟩ := dicK_at E3.rel.good sv
              cases ep
              have ek' := keyK_eq ek
              subst ek'
              have ev := sees_key E2.rel.good (Sees.of_rep (H := H2) (show RepT G T2 v2 _ from R2))
              subst ev
              refine ⟨valV kvs key, .inl ⟨kvs, key, hr, rfl, rfl⟩, k T3 _ H3 (E1.trans E23) ?_⟩
              rcases at_K (k := key) q with ⟨h1, h2⟩ | ⟨v', d', h1, h2, h3⟩
              · rw [h1, h2]; exact R3
              · rw [h1, h2]; exact h3
            · cases e
          · cases e
        · cases e
      · cases e
    · cases e

/-! ### tuple(range(..)) -/
def mTg1 (a : M) : M := fun st => match a st with
  | some (.imm (.int j), s) => if smallI j then some (.imm (.tup (intsD 0 j.toNat)), s) else none
  | _ => none
theorem ok_tupRg1 {t : TE} {m : M} (h : OkE G t m) : OkE G (tTupRg (tRg1 t)) (mTg1 m) := by
  intro T st σ H r st' rl e Q k
  unfold mTg1 at e
  split at e
  · rename_i j s e1
    split at e
    · rename_i hj
      cases e
      refine h T st σ H _ _ rl e1 _ fun T1 v1 H1 E1 R1 => ?_
      unfold smallI at hj
      refine ⟨j, (Sees.of_rep (H := H1) (show RepT G T1 v1 (.int j) from R1)).int E1.rel.good, ⟨by omega, by omega, by omega, by omega, by omega⟩, fun q hq => ?_⟩
      have er : (j - 0).toNat = j.toNat := by rw [Int.sub_zero]
      have rp : Reps G T1 (rgV 0 j) (intsD 0 j.toNat) := by rw [← er]; exact reps_rg 0 j
      have N : NStep G T1 H1 (tset T1 q (.tup (intsD 0 j.toNat))) (upd H1 q (.tup (rgV 0 j))) := Step.lay E1.rel.good hq _ ⟨_, upd_same, rp.mono (Sub.tset (E1.rel.good.free hq)), by rw [intsD_len, sizeLine_eq]; omega⟩
      exact k _ _ _ (E1.trans (E1.rel.ekeep N)) (.inl tset_same)
    · cases e
  · cases e
/-! ### a def that calls itself, by the depth of its calls -/
theorem fn_none {P : Program} {w : World} {mg : Str → Option Value} {base : Heap} {k : Nat} {f : Addr} {fd : FuncData} {ps : List Str} {np : Nat} : FnOk P w G.K mg base CX0 k f fd ps (spD G np fun _ => none) :=
  have no : ∀ vs H Q E, ¬ spD G np (fun _ => none) vs H Q E := fun vs H Q E h => by
    obtain ⟨_, _, _, _, _, _, _, e, _⟩ := h
    cases e
  ⟨fun vs H Q E h => (no vs H Q E h).elim, fun A outer s H args us vs Q E _ _ _ _ h => (no vs H Q E h).elim⟩
end
end LD

/-! Layer D: a display of one pair with an int or text key. -/
namespace LD
open PySem PySem.W PySem.Calls PySem.Spec PyProof.Rows L2
section
variable {G : Gm} {T T1 T2 : Ty} {st st1 st2 : DSt} {σ σ1 σ2 : L2.St} {H H1 H2 : Hp} {v : V} {d : D} {r : R} {X : Cx}
def mDisp1 (a b : M) : M := fun st => match a st with
  | some (.imm dk, s1) => match b s1 with
    | some (.imm dv, s2) => match keyK dk with
      | some key => some (.own (.dic false [(keyD key, dv)]), s2)
      | none => none
    | _ => none
  | _ => none
theorem ok_disp1 {ta tb : TE} {a b : M} (ha : OkE G ta a) (hb : OkE G tb b) : OkE G (tDisp [(ta, tb)]) (mDisp1 a b) := by
  intro T st σ H r st' rl e Q k
  unfold mDisp1 at e
  split at e
  · rename_i dk s1 e1
    split at e
    · rename_i dv s2 e2
      split at e
      · rename_i key ek
        cases e
        intro p hp
        have tp : T p = none := rl.good.free hp
        have E0 := rl.ekeep (Step.new rl.good hp (.dK []))
        refine ha T st σ _ _ s1 E0.rel e1 _ fun T1 v1 H1 E1 R1 => ?_
        refine hb T1 s1 σ H1 _ _ E1.rel e2 _ fun T2 v2 H2 E2 R2 => ?_
        have E12 := E1.trans E2
        have E := E0.trans E12
        have nr : ¬ Root st σ p := fun z => (rl.root_own z).1 hp
        obtain ⟨hp2, tp2⟩ := E12.step.frm p _ upd_same tp nr
        have nr2 : ¬ Root st' σ p := fun z => nr (E.root z)
        have ek' := keyK_eq ek
        subst ek'
        have ev := sees_key E1.rel.good (Sees.of_rep (H := H1) (show RepT G T1 v1 _ from R1))
        subst ev
        refine ⟨hp2, [(key, v2)], rfl, (by show 1 ≤ 15; decide), ?_⟩
        have W : Step G T2 H2 T2 (upd H2 p (.dK (mergeK [] [(key, v2)]))) fun x => x = p := Step.write (R := fun x => x = p) E2.rel.good tp2 rfl _
        have rel2 : Rel G T2 st' σ (upd H2 p (.dK (mergeK [] [(key, v2)]))) :=
          ⟨W.good, E2.rel.len, E2.rel.imm, fun i k d h => by
            obtain ⟨a, h1, o⟩ := E2.rel.rts i k d h
            exact ⟨a, h1, o.step W fun z => nr2 (z ▸ ⟨i, k, d, h, h1⟩)⟩, E2.rel.inj⟩
        have em : mergeK [] [(key, v2)] = [(key, v2)] := rfl
        refine k T2 _ _ ⟨rel2, E.step.trans W fun x z => .inr (z ▸ hp), E.kind, E.some⟩ ⟨p, rfl, hp, tp2, ⟨[(key, v2)], .inl upd_same, .cons ⟨rfl, R2⟩ .nil⟩, by rw [upd_same]; exact True.intro⟩
      · cases e
    · cases e
  · cases e
end
end LD

/-! Layer D: small things for methods. -/
namespace LD
open PySem PySem.W PySem.Calls PySem.Spec PyProof.Rows L2
theorem u1 {k : Nat} {A : Around} (hr : Room k A) : A.units + 1 < cLine := by have := hr.un; omega
theorem n03 : (("there" : Str) == "corners") = false := by decide +kernel
theorem n13 : (("there" : Str) == "lines") = false := by decide +kernel
theorem n23 : (("there" : Str) == "looked") = false := by decide +kernel
theorem nofld3 {G : Gm} (h : G.fl 0 = fl3) : NoFld G 0 "there" := fun vs => by
  rw [h]
  unfold fl3
  match vs with
  | [] => rfl
  | [a] => simp [List.zip, List.zipWith, List.lookup, n03]
  | [a, b] => simp [List.zip, List.zipWith, List.lookup, n03, n13]
  | a :: b :: c :: r => simp [List.zip, List.zipWith, List.lookup, n03, n13, n23]
/-! ### a comprehension within a comprehension's element -/
theorem lookup_relabel {env : Env} : ∀ {names : List (Str × NameKind)} {x : Str}, (names.lookup x = some .cell ∨ names.lookup x = some .free) →
    ((names.map fun (n, k) => if (k == NameKind.free && env.scope.kind == .function && env.kindOf n == some .cell) then (n, NameKind.cell) else (n, k)).lookup x = some .cell
      ∨ (names.map fun (n, k) => if (k == NameKind.free && env.scope.kind == .function && env.kindOf n == some .cell) then (n, NameKind.cell) else (n, k)).lookup x = some .free)
  | [], _, h => by simp at h
  | (n, k) :: r, x, h => by
    have ih := @lookup_relabel env r x
    rw [List.map_cons]
    cases hx : x == n with
    | true =>
      simp only [List.lookup, hx] at h
      by_cases hc : (k == NameKind.free && env.scope.kind == .function && env.kindOf n == some .cell) = true
      · simp only [hc, if_true, List.lookup, hx]
        exact .inl trivial
      · simp only [hc, if_false, Bool.false_eq_true, List.lookup, hx]
        exact h
    | false =>
      simp only [List.lookup, hx] at h
      by_cases hc : (k == NameKind.free && env.scope.kind == .function && env.kindOf n == some .cell) = true
      · simp only [hc, if_true, List.lookup, hx]
        exact ih h
      · simp only [hc, if_false, Bool.false_eq_true, List.lookup, hx]
        exact ih h
theorem blkOk_nest {X : Cx} {s : Shared} {H : Hp} {sc sc2 scope : Scope} {cl : List (Str × Addr)} {C : Addr} {env : Env} {fp : List Addr} {own : List (Str × Nat)} {N : List Str} (h : blkC N sc2 scope own = true) (hN : X.N = N := by rfl) (hs : sc2 = sc := by rfl) :
    BlkOk (X.blk s H sc (compEnvC sc2 cl C env) fp).N (X.blk s H sc (compEnvC sc2 cl C env) fp).env.scope scope own := by
  obtain ⟨h1, h2, h3, h4, h5⟩ := blkOk_by h
  exact ⟨h1, h2, by rw [show (X.blk s H sc (compEnvC sc2 cl C env) fp).N = N from hN]; exact h3, fun y hy e => lookup_relabel (h4 y hy e), by rw [show (X.blk s H sc (compEnvC sc2 cl C env) fp).N = N from hN]; exact h5⟩
end LD

/-! Layer D: the combinators where they are applied. -/
namespace LD
open PySem PySem.Spec PyProof.Rows L2
theorem a_mCchV (i : Nat) (st : DSt) : mCchV i st = (match st[i]? with
  | some (some (.imm (.tup ls))) => some (.imm (.cch ls), st)
  | _ => none) := by rfl
theorem a_mMethK (k : Nat) (f : FM) (a : M) (st : DSt) : mMethK k f a st = (match a st with
  | none => none
  | some (r, s1) => match freeze s1 r with
    | none => none
    | some (d, s2) => if insK k d = true then match f [.imm d] with
      | some (.imm e, _) => some (.imm e, s2)
      | some (.own e, _) => some (.own e, s2)
      | _ => none
      else none) := by rfl
theorem a_mDNewI  (st : DSt) : mDNewI  st = (some (.own (.dic false []), st)) := by rfl
theorem a_mGet1 (a b : M) (st : DSt) : mGet1 a b st = (match a st with
  | none => none
  | some (ra, s1) => match cont s1 ra with
    | some (.dic false _) => match b s1 with
      | some (.imm dk, s2) => match cont s2 ra with
        | some (.dic false ps) => match keyK dk with
          | some key => some (.imm ((keyAtK key ps).getD .non), s2)
          | none => none
        | _ => none
      | _ => none
    | _ => none) := by rfl
theorem a_mGet2 (a b c : M) (st : DSt) : mGet2 a b c st = (match a st with
  | none => none
  | some (ra, s1) => match cont s1 ra with
    | some (.dic false _) => match b s1 with
      | some (.imm dk, s2) => match c s2 with
        | some (.imm dx, s3) => match cont s3 ra with
          | some (.dic false ps) => match keyK dk with
            | some key => some (.imm ((keyAtK key ps).getD dx), s3)
            | none => none
          | _ => none
        | _ => none
      | _ => none
    | _ => none) := by rfl
theorem a_mTg1 (a : M) (st : DSt) : mTg1 a st = (match a st with
  | some (.imm (.int j), s) => if smallI j then some (.imm (.tup (intsD 0 j.toNat)), s) else none
  | _ => none) := by rfl
theorem a_mDisp1 (a b : M) (st : DSt) : mDisp1 a b st = (match a st with
  | some (.imm dk, s1) => match b s1 with
    | some (.imm dv, s2) => match keyK dk with
      | some key => some (.own (.dic false [(keyD key, dv)]), s2)
      | none => none
    | _ => none
  | _ => none) := by rfl
theorem a_gItemB (i : Nat) (m : M) (d : D) (st : DSt) : gItemB i m d st = (if isL st i = true then gIx i m d st else if isDic st i = true then gKey i m d st else gKeyK i m d st) := by rfl
theorem a_gKeyK (i : Nat) (m : M) (d : D) (st : DSt) : gKeyK i m d st = (if isDicK st i = true then match m st with
  | some (.imm dk, s1) => match s1[i]? with
    | some (some (.rt k (.dic false ps))) => match keyK dk with
      | some key => if ps.length < sizeLine then some (s1.set i (some (.rt k (.dic false (putDK key d ps))))) else none
      | none => none
    | _ => none
  | _ => none
  else none) := by rfl
theorem dIxA_lst (xs : List D) (y : D) : dIxA (.lst xs) y = dIx (.lst xs) y := rfl
theorem dIxA_tup (xs : List D) (y : D) : dIxA (.tup xs) y = dIx (.tup xs) y := rfl
theorem dIxA_dicN (xs : List (D × D)) (y : D) : dIxA (.dic true xs) y = dGetN (.dic true xs) y := rfl
theorem dIxA_dicK (xs : List (D × D)) (y : D) : dIxA (.dic false xs) y = dGetK (.dic false xs) y := rfl
theorem dInB_lst (xs : List D) (y : D) : dInB y (.lst xs) = dIn y (.lst xs) := rfl
theorem dInB_tup (xs : List D) (y : D) : dInB y (.tup xs) = dIn y (.tup xs) := rfl
theorem dInB_dicN (xs : List (D × D)) (y : D) : dInB y (.dic true xs) = dInN y (.dic true xs) := rfl
theorem dInB_dicK (xs : List (D × D)) (y : D) : dInB y (.dic false xs) = dInK y (.dic false xs) := rfl
theorem dNotInB_lst (xs : List D) (y : D) : dNotInB y (.lst xs) = dNotIn y (.lst xs) := rfl
theorem dNotInB_tup (xs : List D) (y : D) : dNotInB y (.tup xs) = dNotIn y (.tup xs) := rfl
theorem dNotInB_dicN (xs : List (D × D)) (y : D) : dNotInB y (.dic true xs) = dNotInN y (.dic true xs) := rfl
theorem dNotInB_dicK (xs : List (D × D)) (y : D) : dNotInB y (.dic false xs) = dNotInK y (.dic false xs) := rfl
open Classical in
theorem a_sThere (i k : Nat) (m : M) (st : DSt) : sThere i k m st = (match st[i]? with
  | some (some (.imm (.ins k' [_, _, .cch ls]))) => if k' = k then match m st with
    | some (.own (.dic true ps), s) => if ps = ls.map (fun l => (l, D.bl true)) ∧ s = st then some (.ret (.imm (.dic true ps)), st) else none
    | _ => none
    else none
  | _ => none) := by rfl
end LD

/-! Layer D: loops and comprehensions over encoded lists. -/
namespace LD
open PySem PySem.Spec PyProof.Rows L2
theorem mLc_map {α : Type} {enc : α → D} {vs : List Nat} {w : MI} {g : MG} {c : MT} {m : M} {st s : DSt} {xs : List α} (p : α → Bool) (F : α → D) (hw : w st = some (xs.map enc, s))
    (h : ∀ x ∈ xs, ∃ s1, g (enc x) (wipeD s vs) = some s1 ∧ wipeD s1 vs = wipeD s vs ∧ c s1 = some (p x, s1) ∧ (p x = true → ∃ r, m s1 = some (r, s1) ∧ freeze s1 r = some (F x, s1))) :
    mLc vs w g c m st = some (.own (.lst ((xs.filter p).map F)), s) := by
  have k : ∀ (xs : List α), (∀ x ∈ xs, ∃ s1, g (enc x) (wipeD s vs) = some s1 ∧ wipeD s1 vs = wipeD s vs ∧ c s1 = some (p x, s1) ∧ (p x = true → ∃ r, m s1 = some (r, s1) ∧ freeze s1 r = some (F x, s1))) →
      lcD vs g c m (xs.map enc) (wipeD s vs) = some ((xs.filter p).map F, wipeD s vs) := by
    intro xs
    induction xs with
    | nil => intro _; rfl
    | cons x xs ih =>
      intro h
      obtain ⟨s1, h1, h2, h3, h4⟩ := h x (List.mem_cons_self ..)
      have ih := ih fun y hy => h y (List.mem_cons_of_mem _ hy)
      rw [List.map_cons, lcD, h1]
      dsimp only
      rw [h3]
      cases e : p x with
      | false =>
        dsimp only
        rw [h2, ih, List.filter_cons, e]
        rfl
      | true =>
        obtain ⟨r, h5, h6⟩ := h4 e
        dsimp only
        rw [h5]
        dsimp only
        rw [h6]
        dsimp only
        rw [h2, ih, List.filter_cons, e]
        rfl
  unfold mLc
  rw [hw]
  dsimp only
  rw [k xs h]
  dsimp only
  rw [restD_wipe]
theorem mLc_all {α : Type} {enc : α → D} {vs : List Nat} {w : MI} {g : MG} {m : M} {st s : DSt} {xs : List α} (F : α → D) (hw : w st = some (xs.map enc, s))
    (h : ∀ x ∈ xs, ∃ s1, g (enc x) (wipeD s vs) = some s1 ∧ wipeD s1 vs = wipeD s vs ∧ ∃ r, m s1 = some (r, s1) ∧ freeze s1 r = some (F x, s1)) :
    mLc vs w g tYesD m st = some (.own (.lst (xs.map F)), s) := by
  have := mLc_map (c := tYesD) (m := m) (g := g) (enc := enc) (fun _ => true) F hw fun x hx => by
    obtain ⟨s1, h1, h2, h3⟩ := h x hx
    exact ⟨s1, h1, h2, rfl, fun _ => h3⟩
  rw [List.filter_eq_self.mpr (fun _ _ => rfl)] at this
  exact this
/-- a loop that folds -/
theorem forD_fold {α β : Type} {enc : α → D} {g : MG} {b : MS} (P : β → DSt → Prop) (f : β → α → β) : ∀ (xs : List α), (∀ x ∈ xs, ∀ y st, P y st → ∃ s1 s2, g (enc x) st = some s1 ∧ (b s1 = some (.nx, s2) ∨ b s1 = some (.ct, s2)) ∧ P (f y x) s2) →
    ∀ y st, P y st → ∃ s, forD g b (xs.map enc) st = some (.nx, s) ∧ P (xs.foldl f y) s
  | [], _, y, st, hp => ⟨st, rfl, hp⟩
  | x :: xs, h, y, st, hp => by
    obtain ⟨s1, s2, h1, h2, h3⟩ := h x (List.mem_cons_self ..) y st hp
    obtain ⟨s, q1, q2⟩ := forD_fold P f xs (fun z hz => h z (List.mem_cons_of_mem _ hz)) _ s2 h3
    exact ⟨s, by rw [List.map_cons, forD_step h1 h2]; exact q1, q2⟩
/-- a loop that leaves with the first find -/
theorem forD_find {α γ : Type} {enc : α → D} {g : MG} {b : MS} (P : DSt → Prop) (f : α → Option γ) (out : γ → R) : ∀ (xs : List α), (∀ x ∈ xs, ∀ st, P st → ∃ s1 fl s2, g (enc x) st = some s1 ∧ b s1 = some (fl, s2) ∧ ((f x = none ∧ (fl = .nx ∨ fl = .ct) ∧ P s2) ∨ ∃ v, f x = some v ∧ fl = .ret (out v) ∧ P s2)) →
    ∀ st, P st → ∃ s, P s ∧ forD g b (xs.map enc) st = some (match xs.findSome? f with | none => .nx | some v => .ret (out v), s)
  | [], _, st, hp => ⟨st, hp, rfl⟩
  | x :: xs, h, st, hp => by
    obtain ⟨s1, fl, s2, h1, h2, h3⟩ := h x (List.mem_cons_self ..) st hp
    rcases h3 with ⟨e, hf, h3⟩ | ⟨v, e, hf, h3⟩
    · have h2' : b s1 = some (.nx, s2) ∨ b s1 = some (.ct, s2) := by
        rcases hf with hf | hf
        · exact .inl (hf ▸ h2)
        · exact .inr (hf ▸ h2)
      obtain ⟨s, q1, q2⟩ := forD_find P f out xs (fun z hz => h z (List.mem_cons_of_mem _ hz)) s2 h3
      refine ⟨s, q1, ?_⟩
      rw [List.map_cons, forD_step h1 h2', List.findSome?_cons, e]
      exact q2
    · refine ⟨s2, h3, ?_⟩
      rw [List.map_cons, forD_ret h1 (by rw [h2, hf]), List.findSome?_cons, e]
theorem intsD_range (n : Nat) : intsD 0 n = (List.range n).map fun (k : Nat) => D.int (k : Int) := by
  unfold intsD
  refine List.map_congr_left fun k _ => ?_
  rw [Int.zero_add]
theorem intsD_nat (lo n : Nat) : intsD (lo : Int) n = (List.range' lo n).map fun (k : Nat) => D.int (k : Int) := by
  unfold intsD
  rw [List.range'_eq_map_range, List.map_map]
  refine List.map_congr_left fun k _ => ?_
  show D.int _ = D.int _
  congr 1
end LD

/-! Layer D: dicts as lists of typed pairs. -/
namespace LD
open PySem PySem.Spec PyProof.Rows L2
def aGet {α β : Type} [DecidableEq α] (a : α) : List (α × β) → Option β
  | [] => none
  | q :: ps => if q.1 = a then some q.2 else aGet a ps
def aPut {α β : Type} [DecidableEq α] (a : α) (b : β) (ps : List (α × β)) : List (α × β) := if (aGet a ps).isSome = true then ps.map fun q => if q.1 = a then (q.1, b) else q else ps ++ [(a, b)]
section
variable {α β : Type} [DecidableEq α]
theorem aGet_mem {a : α} {b : β} : ∀ {ps : List (α × β)}, aGet a ps = some b → (a, b) ∈ ps
  | [], h => by cases h
  | q :: ps, h => by
    unfold aGet at h
    split at h
    · rename_i e
      cases h
      rw [← e]
      exact List.mem_cons_self ..
    · exact List.mem_cons_of_mem _ (aGet_mem h)
theorem aGet_none {a : α} : ∀ {ps : List (α × β)}, aGet a ps = none ↔ a ∉ ps.map (·.1)
  | [] => by simp [aGet]
  | q :: ps => by
    unfold aGet
    by_cases e : q.1 = a
    · rw [if_pos e]
      simp [e]
    · rw [if_neg e, aGet_none]
      simp only [List.map_cons, List.mem_cons, not_or]
      exact ⟨fun h => ⟨fun z => e z.symm, h⟩, fun h => h.2⟩
theorem aGet_map (f : α → β) (a : α) : ∀ l : List α, aGet a (l.map fun x => (x, f x)) = if a ∈ l then some (f a) else none
  | [] => by simp [aGet]
  | x :: l => by
    rw [List.map_cons]
    unfold aGet
    by_cases e : x = a
    · subst e; simp
    · rw [if_neg e, aGet_map f a l]
      have : a ≠ x := fun z => e z.symm
      simp [this]
theorem aGet_put_self (a : α) (b : β) (ps : List (α × β)) : aGet a (aPut a b ps) = some b := by
  unfold aPut
  cases e : aGet a ps with
  | none =>
    rw [if_neg (by simp)]
    induction ps with
    | nil => simp [aGet]
    | cons q ps ih =>
      unfold aGet at e
      by_cases h : q.1 = a
      · rw [if_pos h] at e; cases e
      · rw [if_neg h] at e
        rw [List.cons_append, aGet, if_neg h, ih e]
  | some v =>
    rw [if_pos (by simp)]
    induction ps with
    | nil => cases e
    | cons q ps ih =>
      unfold aGet at e
      rw [List.map_cons]
      by_cases h : q.1 = a
      · simp [h, aGet]
      · rw [if_neg h] at e
        rw [if_neg h, aGet, if_neg h, ih e]
theorem aGet_put_ne {a c : α} (b : β) (ps : List (α × β)) (h : c ≠ a) : aGet c (aPut a b ps) = aGet c ps := by
  unfold aPut
  split
  · induction ps with
    | nil => rfl
    | cons q ps ih =>
      rw [List.map_cons]
      by_cases e : q.1 = a
      · have e2 : ¬ q.1 = c := fun z => h (by rw [← z, e])
        have e3 : ¬ a = c := fun z => h z.symm
        simp only [e, if_true, aGet, e3, if_false]
        by_cases hs : (aGet a ps).isSome = true
        · exact ih hs
        · have : (ps.map fun q => if q.1 = a then (q.1, b) else q) = ps := by
            have hn : aGet a ps = none := by
              cases q : aGet a ps with
              | none => rfl
              | some v => rw [q] at hs; exact absurd rfl hs
            have := aGet_none.mp hn
            conv => rhs; rw [← List.map_id ps]
            refine List.map_congr_left fun q hq => ?_
            have : ¬ q.1 = a := fun z => this (z ▸ List.mem_map_of_mem hq)
            simp [this]
          rw [this]
      · rename_i hs
        simp only [e, if_false, aGet]
        by_cases e4 : q.1 = c
        · simp [e4]
        · simp only [e4, if_false]
          refine ih ?_
          rw [aGet, if_neg e] at hs
          exact hs
  · induction ps with
    | nil =>
      have e3 : ¬ a = c := fun z => h z.symm
      simp [aGet, e3]
    | cons q ps ih =>
      rename_i hs
      rw [List.cons_append, aGet, aGet]
      by_cases e4 : q.1 = c
      · simp [e4]
      · rw [if_neg e4, if_neg e4]
        by_cases e : q.1 = a
        · exfalso
          rw [aGet, if_pos e] at hs
          exact hs rfl
        · refine ih ?_
          rw [aGet, if_neg e] at hs
          exact hs
/-! tuple keys -/
variable {enc : α → D} {key : α → NestedKey}
theorem keyAt_as (hk : ∀ a, nkey (enc a) = some (key a)) (inj : ∀ a b, key a = key b → a = b) (val : β → D) (a : α) : ∀ ps : List (α × β), keyAt (key a) (ps.map fun q => (enc q.1, val q.2)) = (aGet a ps).map val
  | [] => rfl
  | q :: ps => by
    rw [List.map_cons, keyAt, aGet]
    by_cases e : q.1 = a
    · rw [if_pos (by show nkey (enc q.1) = _; rw [e, hk]), if_pos e]
      rfl
    · rw [if_neg (by show ¬ nkey (enc q.1) = _; rw [hk]; exact fun z => e (inj _ _ (Option.some.inj z))), if_neg e, keyAt_as hk inj val a ps]
theorem putD_as (hk : ∀ a, nkey (enc a) = some (key a)) (inj : ∀ a b, key a = key b → a = b) (val : β → D) (a : α) (b : β) (ps : List (α × β)) : putD (key a) (enc a) (val b) (ps.map fun q => (enc q.1, val q.2)) = (aPut a b ps).map fun q => (enc q.1, val q.2) := by
  unfold putD aPut
  rw [keyAt_as hk inj, Option.isSome_map]
  split
  · rw [List.map_map, List.map_map]
    refine List.map_congr_left fun q _ => ?_
    show (if nkey (enc q.1) = some (key a) then (enc q.1, val b) else (enc q.1, val q.2)) = _
    by_cases e : q.1 = a
    · rw [if_pos (by rw [e, hk])]
      simp [e]
    · rw [if_neg (by rw [hk]; exact fun z => e (inj _ _ (Option.some.inj z)))]
      simp [e]
  · rw [List.map_append]
    rfl
theorem pairsOf_as (hk : ∀ a, nkey (enc a) = some (key a)) (val : β → D) : ∀ ps : List (α × β), pairsOf (ps.map fun q => .tup [enc q.1, val q.2]) = some (ps.map fun q => (enc q.1, val q.2))
  | [] => rfl
  | q :: ps => by
    rw [List.map_cons, pairsOf, hk, pairsOf_as hk val ps]
    rfl
def aPuts (ps acc : List (α × β)) : List (α × β) := ps.foldl (fun acc q => aPut q.1 q.2 acc) acc
theorem putAll_as (hk : ∀ a, nkey (enc a) = some (key a)) (inj : ∀ a b, key a = key b → a = b) (val : β → D) : ∀ (ps acc : List (α × β)), putAll (ps.map fun q => (enc q.1, val q.2)) (acc.map fun q => (enc q.1, val q.2)) = (aPuts ps acc).map fun q => (enc q.1, val q.2)
  | [], acc => rfl
  | q :: ps, acc => by
    have e : putAll ((q :: ps).map fun q => (enc q.1, val q.2)) (acc.map fun q => (enc q.1, val q.2)) = putAll (ps.map fun q => (enc q.1, val q.2)) (putD (key q.1) (enc q.1) (val q.2) (acc.map fun q => (enc q.1, val q.2))) := by
      show putAll ((enc q.1, val q.2) :: _) _ = _
      unfold putAll
      rw [List.foldl_cons]
      show List.foldl _ (match nkey (enc q.1) with | some key => putD key (enc q.1) (val q.2) _ | none => _) _ = _
      rw [hk]
    rw [e, putD_as hk inj, putAll_as hk inj val ps]
    rfl
theorem aPuts_nodup : ∀ (ps acc : List (α × β)), ((acc ++ ps).map (·.1)).Nodup → aPuts ps acc = acc ++ ps
  | [], acc, _ => by simp [aPuts]
  | q :: ps, acc, h => by
    have h0 : aGet q.1 acc = none := by
      rw [aGet_none]
      intro z
      rw [List.map_append, List.nodup_append] at h
      exact h.2.2 q.1 z q.1 (List.mem_cons_self ..) rfl
    have e : aPuts (q :: ps) acc = aPuts ps (acc ++ [q]) := by
      show aPuts ps (aPut q.1 q.2 acc) = _
      unfold aPut
      rw [h0, if_neg (by simp)]
    rw [e, aPuts_nodup ps _ (by rw [List.append_assoc]; exact h), List.append_assoc]
    rfl
/-! int keys -/
variable {kk : α → Key}
theorem keyAtK_as (inj : ∀ a b, kk a = kk b → a = b) (val : β → D) (a : α) : ∀ ps : List (α × β), keyAtK (kk a) (ps.map fun q => (keyD (kk q.1), val q.2)) = (aGet a ps).map val
  | [] => rfl
  | q :: ps => by
    rw [List.map_cons, keyAtK, aGet]
    by_cases e : q.1 = a
    · rw [if_pos (by show keyK (keyD (kk q.1)) = _; rw [e, keyK_D]), if_pos e]
      rfl
    · rw [if_neg (by show ¬ keyK (keyD (kk q.1)) = _; rw [keyK_D]; exact fun z => e (inj _ _ (Option.some.inj z))), if_neg e, keyAtK_as inj val a ps]
theorem putDK_as (inj : ∀ a b, kk a = kk b → a = b) (val : β → D) (a : α) (b : β) (ps : List (α × β)) : putDK (kk a) (val b) (ps.map fun q => (keyD (kk q.1), val q.2)) = (aPut a b ps).map fun q => (keyD (kk q.1), val q.2) := by
  unfold putDK aPut
  rw [keyAtK_as inj, Option.isSome_map]
  split
  · rw [List.map_map, List.map_map]
    refine List.map_congr_left fun q _ => ?_
    show (if keyK (keyD (kk q.1)) = some (kk a) then (keyD (kk q.1), val b) else (keyD (kk q.1), val q.2)) = _
    by_cases e : q.1 = a
    · rw [if_pos (by rw [e, keyK_D])]
      simp [e]
    · rw [if_neg (by rw [keyK_D]; exact fun z => e (inj _ _ (Option.some.inj z)))]
      simp [e]
  · rw [List.map_append]
    rfl
end
end LD

/-! Layer D: enumerate, sum, max, min of tuples; len(set(..)), sorted(set(..)). -/
namespace LD
open PySem PySem.W PySem.Calls PySem.Spec PyProof.Rows L2
/-! ### enumerate of a tuple -/
def Itet (K : PySem.W.Frag) (a : Addr) : It :=
  ⟨fun i H => ∃ (xs : List V) (x : V), SqT K H a xs ∧ xs[i]? = some x,
    fun i H v H' => ∃ T x, v = .ref T ∧ H T = none ∧ H' = upd H T (.tup [.int (i : Nat), x]) ∧ ∀ xs, SqT K H a xs → xs[i]? = some x,
    fun i H => ∃ xs : List V, SqT K H a xs ∧ xs.length ≤ i⟩
theorem turn_enumT {P : Program} {w : World} {K : PySem.W.Frag} {elts : List Expr} {kk : Nat} {tpos : Pos} (a e it : Addr) :
    Turn P w K (.Tuple elts kk tpos) (Itet K a) [e, it] e (fun i h => (∃ old, IsEnum h e it ((i : Nat) : Int) old) ∧ h.IsTupleIter it a i ∧ e ≠ it) where
  mem := by simp
  obj := fun i h st b hb => by
    obtain ⟨⟨old, he⟩, ⟨o, ho, hc, hd⟩, _⟩ := st
    have e' : b = e ∨ b = it := by simpa using hb
    rcases e' with z | z
    · rw [z]; exact ⟨_, he, fun v q => nomatch q⟩
    · rw [z]; exact ⟨o, ho, fun v q => by rw [hd] at q; cases q⟩
  keep := fun i h h' st k => let ⟨⟨old, he⟩, hi, hne⟩ := st; ⟨⟨old, k e (by simp) _ he⟩, hi.at fun o q => k it (by simp) o q, hne⟩
  item := by
    intro X hP hw hK hc i pins s σ H E I hf st hg
    subst hP hw hK
    obtain ⟨⟨old, he⟩, hit, hne⟩ := st
    obtain ⟨xs, x, hq, hx⟩ := hg
    obtain ⟨its, rv, p, hz⟩ := I.tuple hq
    obtain ⟨u, hu, ru⟩ := rv.get hx
    have pt : s.heap.IsTuple a its.toArray := p
    have hel : e < s.heap.objs.size := Heap.lt_size he
    have hil : it < s.heap.objs.size := by obtain ⟨_, q, _⟩ := hit; exact Heap.lt_size q
    have hia : it ≠ a := fun z => by
      obtain ⟨o, ho, hc1, _⟩ := hit
      obtain ⟨o2, ho2, hc2, _⟩ := pt
      rw [z, ho2] at ho; cases ho
      rw [hc2] at hc1; exact absurd hc1 (by decide)
    have hea : e ≠ a := fun z => by
      obtain ⟨o2, ho2, hc2, _⟩ := pt
      have he := he
      unfold IsEnum at he
      rw [z, ho2] at he; cases he
      exact absurd hc2 (show ¬ Value.type "enumerate" = Value.type "tuple" by decide)
    have hi : i < its.toArray.size := by
      have := (List.getElem?_eq_some_iff.mp hu).1
      simpa using this
    refine wpAny_pyNext_enum_itemD (Draws.tuple (A := X.A.in1) (I.ok.hd hc) it a (Ne.symm hia) its.toArray) he ⟨hit, pt⟩ hi hne (by simp [hne, hea]) fun x' h' tk hP ho hst' hT hsz hk => ?_
    have ex : x' = u := by
      have hP : its.toArray[i]? = some x' := hP
      rw [List.getElem?_toArray, hu] at hP; cases hP; rfl
    subst ex
    refine ⟨_, rfl, wpAny_letOwnedTupleGo_enum (s := { s with heap := h', toks := tk + 1 }) ho fun h'' he' sb => ?_⟩
    have hT2 : h''.get? s.heap.objs.size = some { cls := .type "tuple", data := .seq #[.int i tk, x'] } := (sb.2 _ (Nat.ne_of_gt hel)).trans hT
    have new : ObjOk X.prog X.w (upd H s.heap.objs.size (.tup [.int (i : Nat), x])) h'' s.heap.objs.size (.tup [.int (i : Nat), x]) :=
      ⟨by show 2 ≤ sizeLine; decide, [.int i tk, x'], .cons ⟨_, rfl⟩ (.cons ru .nil), ⟨_, hT2, rfl, _, rfl⟩⟩
    have I1 : Inv X pins σ (upd H s.heap.objs.size (.tup [.int (i : Nat), x])) { s with heap := h'', toks := tk + 1 } :=
      I.turnedNew (ch := [e, it]) (fun b ob hb q => (sb.2 b (fun z => hb (by simp [z]))).trans (hk b ob (fun z => hb (by simp [z])) (fun z => hb (by simp [z])) q)) hf (Nat.le_refl _) new
    refine ⟨.ref s.heap.objs.size, _, I1, rfl, ⟨_, x, rfl, I.hok.fresh (Nat.le_refl _), rfl, fun ys hy => by rw [I.tuple_inj hy hq]; exact hx⟩, ⟨⟨x', ?_⟩, hst'.1.at fun o q => (sb.2 it (Ne.symm hne)).trans q, hne⟩, fun b hb => ?_⟩
    · have e1 : ((i + 1 : Nat) : Int) = (i : Int) + 1 := by omega
      rw [e1]; exact he'
    · have hb' : b < s.heap.objs.size := by
        have e' : b = e ∨ b = it := by simpa using hb
        rcases e' with z | z
        · rw [z]; exact hel
        · rw [z]; exact hil
      rw [upd_ne (Nat.ne_of_lt hb')]
      exact (hf b hb).1
  done := by
    intro X hP hw hK hc i pins s σ H E I hf st hg
    subst hP hw hK
    obtain ⟨⟨old, he⟩, hit, hne⟩ := st
    obtain ⟨xs, hq, hx⟩ := hg
    obtain ⟨its, rv, p, hz⟩ := I.tuple hq
    have pt : s.heap.IsTuple a its.toArray := p
    obtain ⟨f0, f1, f2, f3, f4, f5⟩ := hf it (by simp)
    have hl := rv.length
    have hT : s.TypeIs (.ref e) "enumerate" := ⟨_, he, rfl⟩
    unfold pyNext
    refine wpAny_bind (wpAny_attempt (wpAny_callSpecial?_slot (name := Str.ofString "__next__") hT F.slot_enumerate_next
      (wpAny_call_entry F.slot_enumerate_next hT F.entry_enumerate_next ?_ (F.args_enumerate_next_1 _))))
    show wpAny _ _ (field (.ref e) 2 >>= _) _ _ _
    refine wpAny_bind (wpAny_field he rfl (x := .ref it) rfl ?_)
    refine wpAny_bind (wpAny_nextOf_tuple_end (A := X.A.in1) (I.ok.hd hc) hit pt (by simp; omega) fun h' x he' hx' => ?_)
    obtain ⟨o, ho, hc'⟩ := hx'
    refine wpAny_bind (wpAny_isInstance (T := "StopIteration") (b := true) ⟨o, ho, hc'⟩ isSubtype_stop ?_)
    exact wpAny_pure ⟨rfl, I.turned (t' := s.toks) (fun b o hb q => he' b o hb q) f0 f1 f3 f4 f5⟩
  self := fun A i s Q E st h => let ⟨⟨_, he⟩, _⟩ := st; wpAny_pyIter_enum he h
theorem meets_enumerate_newT (l : Addr) (items : Array Value) (n : Nat) (dct : Option Addr) (sl : Array (Option Value)) :
    Meets (Builtin.«enumerate.__new__» ⟨[.type "enumerate", .ref l], []⟩) (fun _ R s => s.heap.get? l = some { cls := .type "tuple", data := .seq items n, dict := dct, slots := sl } ∧
      R (.ok (.ret (.ref (s.heap.push { cls := .type "tuple_iterator", data := .fields #[.ref l, .int 0 0] }).objs.size)))
        { s with heap := (s.heap.push { cls := .type "tuple_iterator", data := .fields #[.ref l, .int 0 0] }).push { cls := .type "enumerate", data := .fields #[.none, .bool false, .ref s.heap.objs.size, rawInt 0, .none, .none] } }) :=
  .of_wp fun prog w A R s h => by
    obtain ⟨hp, g, d, tk, os⟩ := s; obtain ⟨hl, h⟩ := h
    have hsub := sub_enumerate
    have hL : Heap.IsTuple (Shared.heap ⟨hp, g, d, tk, os⟩) l items := ⟨_, hl, rfl, n, rfl⟩
    wp_walk using AutoSeq1.wpAny_loadPart' hl
    refine wpAny_stack_any fun st => wpAny_pure ?_
    split
    · rename_i c _ _ _ _ _
      cases (c == Value.type "enumerate")
      · wp_walk using AutoSeq1.wpAny_loadPart' hl, wpAny_pyIter_tuple hL
        exact ⟨_, rfl, h⟩
      · wp_walk using AutoSeq1.wpAny_loadPart' hl, wpAny_pyIter_tuple hL
        exact ⟨_, rfl, h⟩
    · wp_walk using AutoSeq1.wpAny_loadPart' hl, wpAny_pyIter_tuple hL
      exact ⟨_, rfl, h⟩
section
variable {prog : Program} {w : World} {A : Around} {E : Value → Shared → Prop} {s : Shared}
theorem call_enumerate_tuple {l : Addr} {items : Array Value} {Q : Value → Shared → Prop} (hL : s.heap.IsTuple l items)
    (h : ∀ h', IsEnum h' (s.heap.objs.size + 1) s.heap.objs.size 0 .none → h'.IsTupleIter s.heap.objs.size l 0 → h'.objs.size = s.heap.objs.size + 2 →
      (∀ b o, s.heap.get? b = some o → h'.get? b = some o) → Q (.ref (s.heap.objs.size + 1)) { s with heap := h' }) :
    wpAny (model prog w) A (call (.type "enumerate") [.ref l]) Q E s := by
  obtain ⟨⟨c, dct, dt, sl⟩, hl, hc, n, hd⟩ := hL
  replace hc : c = .type "tuple" := hc
  replace hd : dt = .seq items n := hd
  subst hc hd
  refine callType_new F.called_enumerate (by decide) (F.typeCall_enumerate_1 _) (F.newCall_enumerate_1 _) (fun obj => F.args_object_init_2 obj _) F.entry_enumerate_new
    (meets_enumerate_newT l items n dct sl) ⟨hl, ?_⟩
  have hz : (s.heap.push { cls := .type "tuple_iterator", data := .fields #[.ref l, .int 0 0] }).objs.size = s.heap.objs.size + 1 := Heap.size_push ..
  show _ ∧ _
  rw [hz]
  have he : IsEnum ((s.heap.push { cls := .type "tuple_iterator", data := .fields #[.ref l, .int 0 0] }).push
      { cls := .type "enumerate", data := .fields #[.none, .bool false, .ref s.heap.objs.size, rawInt 0, .none, .none] }) (s.heap.objs.size + 1) s.heap.objs.size 0 .none := by
    have := Heap.get?_push_size (s.heap.push { cls := .type "tuple_iterator", data := .fields #[.ref l, .int 0 0] })
      (o := { cls := .type "enumerate", data := .fields #[.none, .bool false, .ref s.heap.objs.size, rawInt 0, .none, .none] }) rfl
    rw [hz] at this; exact this
  refine ⟨⟨_, he, rfl⟩, h _ he ⟨_, Heap.get?_push_of_some _ (Heap.get?_push_size _ rfl), rfl, rfl⟩ (by rw [Heap.size_push, hz]) fun b o x => Heap.get?_push_of_some _ (Heap.get?_push_of_some _ x)⟩
end
def iEnumB (K : PySem.W.Frag) (ta : TA) : TI := fun σ H R => ta σ H fun vs H1 => ∃ a xs, vs = [.ref a] ∧ ((SqL K H1 a xs ∧ R (Ite K a) H1) ∨ (SqT K H1 a xs ∧ R (Itet K a) H1))
theorem pi_enumB {X : Cx} {e : Expr} {ta : TA} {p pos tpos : Pos} {elts : List Expr} {kk : Nat} (hg : Gl X "enumerate") (hm : X.mg "enumerate" = none) (ha : PA X [e] ta) (hs : starEach [e] X.env = [(false, eval e X.env)] := by rfl) :
    PI X (.Tuple elts kk tpos) (.Call (.Name "enumerate" p) [e] [] pos) (iEnumB X.K ta) := by
  refine ⟨fun pins s σ H R I h => ?_⟩
  refine Call_ (ld_blt I hg hm boot_enumerate (PyProof.Rows.callWith_type1 (thn (ha.run pos pins s σ H _ I h) fun us s1 ⟨vs, H1, I1, r1, q1⟩ => ?_) hs rfl))
  obtain ⟨a, xs, ex, hq⟩ := q1
  subst ex
  cases r1 with
  | cons r rr =>
    cases rr
    cases r
    have hb : ∀ b, b ∈ [s1.heap.objs.size + 1, s1.heap.objs.size] → s1.heap.objs.size ≤ b := fun b hb => by
      have e' : b = s1.heap.objs.size + 1 ∨ b = s1.heap.objs.size := by simpa using hb
      rcases e' with z | z
      · rw [z]; exact Nat.le_add_right _ _
      · rw [z]; exact Nat.le_refl _
    rcases hq with ⟨hq, q⟩ | ⟨hq, q⟩
    · obtain ⟨its, rv, p', hz⟩ := I1.list hq
      refine call_enumerate_list p'.isList fun h' he hit hsz hk => wpAny_pyIter_enum he ?_
      have I2 : Inv X pins σ H1 { s1 with heap := h' } := I1.kept (t' := s1.toks) hk
      exact ⟨s1.heap.objs.size + 1, [s1.heap.objs.size + 1, s1.heap.objs.size], _, _, H1, rfl, I2, turn_enum a (s1.heap.objs.size + 1) s1.heap.objs.size, ⟨⟨.none, he⟩, hit, Nat.succ_ne_self _⟩, fun b h => I1.fpOk (hb b h) (I1.hok.fresh (hb b h)), q⟩
    · obtain ⟨its, rv, p', hz⟩ := I1.tuple hq
      refine call_enumerate_tuple (show s1.heap.IsTuple a its.toArray from p') fun h' he hit hsz hk => wpAny_pyIter_enum he ?_
      have I2 : Inv X pins σ H1 { s1 with heap := h' } := I1.kept (t' := s1.toks) hk
      exact ⟨s1.heap.objs.size + 1, [s1.heap.objs.size + 1, s1.heap.objs.size], _, _, H1, rfl, I2, turn_enumT a (s1.heap.objs.size + 1) s1.heap.objs.size, ⟨⟨.none, he⟩, hit, Nat.succ_ne_self _⟩, fun b h => I1.fpOk (hb b h) (I1.hok.fresh (hb b h)), q⟩
section
variable {G : Gm} {T T1 T2 : Ty} {st st1 st2 : DSt} {σ σ1 σ2 : L2.St} {H H1 H2 : Hp} {v : V} {d : D} {r : R}
def wEnumB (a : MA) : MI := fun st => match a st with
  | some ([.lst xs], s) => some ((enumD 0 xs).map pairD, s)
  | some ([.tup xs], s) => some ((enumD 0 xs).map pairD, s)
  | _ => none
theorem ok_wEnumB {n : Nat} {t : TA} {a : MA} (ha : OkA G n t a) : OkI G (iEnumB G.K t) (wEnumB a) := by
  intro T st σ H xs st' rl e Rr k
  unfold wEnumB at e
  split at e
  · rename_i xs s e1
    cases e
    refine ha T st σ H _ _ rl e1 _ fun T1 vs H1 E1 R1 hl => ?_
    cases R1 with
    | cons r t =>
      cases t
      obtain ⟨a, rfl, ha⟩ := rep_heap E1.rel.good r rfl (fun _ => nofun)
      obtain ⟨vs, hv, rv, zv⟩ := E1.rel.good a _ ha
      refine ⟨a, vs, rfl, .inl ⟨.of hv, k T1 _ H1 E1 (serves_pair fun T2 H2 s2 g2 i => ?_) (by rw [List.length_map, enumD_len]; exact zv)⟩⟩
      obtain ⟨vs, hv, rv, zv⟩ := g2 a _ (s2 a _ ha)
      refine ⟨fun hi => ⟨vs, .of hv, by rw [rv.length]; rw [enumD_len] at hi; exact hi⟩, fun p e => ?_⟩
      obtain ⟨e1, e2⟩ := enumD_at xs 0 i p e
      obtain ⟨x, h1, h2⟩ := reps_ix rv e2
      refine ⟨⟨vs, x, .of hv, h1⟩, fun z H3 ⟨t, x', q1, q2, q3, q4⟩ => ⟨t, .int (i : Nat), x', q1, q2, q3, ?_, ?_⟩⟩
      · show p.1 = _; rw [e1, Nat.zero_add]
      · have := q4 vs (.of hv); rw [h1] at this; cases this; exact h2
  · rename_i xs s e1
    cases e
    refine ha T st σ H _ _ rl e1 _ fun T1 vs H1 E1 R1 hl => ?_
    cases R1 with
    | cons r t =>
      cases t
      obtain ⟨a, rfl, ha⟩ := rep_heap E1.rel.good r rfl (fun _ => nofun)
      obtain ⟨vs, hv, rv, zv⟩ := E1.rel.good a _ ha
      have sq : ∀ {H : Hp} {vs : List V}, H a = some (.tup vs) → SqT G.K H a vs := fun h => .inl (.inl h)
      refine ⟨a, vs, rfl, .inr ⟨sq hv, k T1 _ H1 E1 (serves_pair fun T2 H2 s2 g2 i => ?_) (by rw [List.length_map, enumD_len]; exact zv)⟩⟩
      obtain ⟨vs, hv, rv, zv⟩ := g2 a _ (s2 a _ ha)
      refine ⟨fun hi => ⟨vs, sq hv, by rw [rv.length]; rw [enumD_len] at hi; exact hi⟩, fun p e => ?_⟩
      obtain ⟨e1, e2⟩ := enumD_at xs 0 i p e
      obtain ⟨x, h1, h2⟩ := reps_ix rv e2
      refine ⟨⟨vs, x, sq hv, h1⟩, fun z H3 ⟨t, x', q1, q2, q3, q4⟩ => ⟨t, .int (i : Nat), x', q1, q2, q3, ?_, ?_⟩⟩
      · show p.1 = _; rw [e1, Nat.zero_add]
      · have := q4 vs (sq hv); rw [h1] at this; cases this; exact h2
  · cases e
end
end LD

/-! Layer D: sum, max, min of tuples; len(set(..)), sorted(set(..)). -/
namespace LD
open PySem PySem.W PySem.Calls PySem.Spec PyProof.Rows L2
section
variable {G : Gm} {T T1 T2 : Ty} {st st1 st2 : DSt} {σ σ1 σ2 : L2.St} {H H1 H2 : Hp} {v : V} {d : D} {r : R} {X : Cx}
/-! ### sums -/
def rSumT (K : PySem.W.Frag) : List V → Hp → VK → Prop := fun vs H Q => ∃ (a : Addr) (ns : List Int), vs = [V.ref a] ∧ SqT K H a (ns.map V.int) ∧ Q (.int ns.sum) H
theorem cr_sumTup (hc : X.calm = true) : CallR X (.builtin "sum") (rSumT X.K) := by
  intro pins s σ H vs us Q I r h
  obtain ⟨a, ns, rfl, hs, q⟩ := h
  obtain ⟨its, rv, pt, _⟩ := I.tuple hs
  rw [Vals.ref1 r]
  have hl : s.heap.IsTuple a its.toArray := pt
  obtain ⟨xs, e⟩ := rv.ints.allInts.items
  have hn : numsOf (intItems xs).toList = ns := by rw [← e]; exact rv.ints.numsOf
  rw [nums_intItems] at hn
  rw [e] at hl
  refine ktm_sumG (I.ok.hd hc) hl fun h' tk t' hk => ?_
  refine ⟨.int ns.sum, H, I.kept hk, ⟨t', ?_⟩, q⟩
  rw [preSum_eq, List.take_of_length_le (by simp), hn]
def dSumA : List D → Option R
  | [.lst ds] => dSum [.lst ds]
  | [.tup ds] => dSum [.lst ds]
  | _ => none
theorem cr_sumA (hc : X.calm = true) (hk : X.K = G.K := by rfl) : CallR X (.builtin "sum") (rB G dSumA) := by
  refine CallR.imp (CallR.or (cr_sumD (G := G) hc hk) (cr_sumTup hc)) fun xs H Q h => ?_
  obtain ⟨T, ds, res, g, h, e, k⟩ := h
  unfold dSumA at e
  split at e <;> try (cases e; done)
  · exact .inl ⟨T, _, res, g, h, e, k⟩
  · rename_i ds'
    have e : (match nums ds' with | some ns => ri ns.sum | none => none) = some res := e
    split at e <;> try (cases e; done)
    rename_i bs eb
    cases e
    obtain ⟨x, rfl, s⟩ := p1 h
    obtain ⟨a, vs, rfl, q, _, r, z⟩ := s.tup g
    rw [nums_eq eb] at r
    rw [reps_nums g r] at q
    exact .inr ⟨a, bs, rfl, hk ▸ q, one g k rfl⟩
/-! ### least and greatest of a tuple -/
theorem minmax_tup {nm : String} {fo : List D → Option R} {f : D → List D → D} {fp : PyData → List PyData → PyData} (hf : ∀ x xs, toPy (f x xs) = fp (toPy x) (xs.map toPy)) (hm : ∀ x xs, f x xs ∈ x :: xs)
    (ho : ∀ l res, fo l = some res → ∃ d ds, l = [.tup (d :: ds)] ∧ okMin (d :: ds) = true ∧ res = .imm (f d ds)) (hu : X.A.units + 66 < cLine) (hk : X.K = G.K)
    (rule : ∀ {s : Shared} {l : Addr} {vs : Array Value} {x : PyData} {xs : List PyData} {as : List Addr} {Q : Value → Shared → Prop} {E : Value → Shared → Prop}, s.heap.IsTuple l vs → ReadsAll s.heap vs.toList (x :: xs) as → AlikeAll (x :: xs) → X.A.units + 1 + PyData.depthAll (x :: xs) < cLine →
      (∀ (i : Nat) v h' tk bs, vs[i]? = some v → Reads h' v (fp x xs) bs → (∀ b o, s.heap.get? b = some o → h'.get? b = some o) → Q v { s with heap := h', toks := tk }) → wpAny (model X.prog X.w) X.A (call (.builtin nm) [.ref l]) Q E s) : CallR X (.builtin nm) (rB G fo) := by
  intro pins s σ H xs us Q I rv h
  obtain ⟨T, l, res, g, h, e, k⟩ := h
  obtain ⟨d, ds, rfl, ok, rfl⟩ := ho l res e
  obtain ⟨x, rfl, sx⟩ := p1 h
  obtain ⟨a, vs, rfl, q, hH, r, z⟩ := sx.tup g
  rw [Vals.ref1 rv]
  simp only [okMin, Bool.and_eq_true] at ok
  obtain ⟨⟨ok1, ok2⟩, ok3⟩ := ok
  have can := canAll ok1
  obtain ⟨its, rv', pl, hz⟩ := I.tuple (X := X) (hk ▸ q : SqT X.K H a vs)
  have da : DpAll X.K H vs (toPys (d :: ds)) := hk ▸ dps_of g _ vs can r
  obtain ⟨as, ra⟩ := Dp.readsAll I _ _ _ da rv'
  have ra' : ReadsAll s.heap its (toPy d :: ds.map toPy) as := by rw [toPys_map] at ra; exact ra
  refine rule (vs := its.toArray) (show s.heap.IsTuple a its.toArray from pl) (by simpa using ra') ⟨?_, ?_⟩ ?_ fun i u h' tk bs hi ru hold => ?_
  · intro x hx y hy
    rw [← List.map_cons] at hx hy
    obtain ⟨x', hx', rfl⟩ := List.mem_map.mp hx
    obtain ⟨y', hy', rfl⟩ := List.mem_map.mp hy
    exact alikes_of ok2 hx' hy'
  · intro x hx
    rw [← List.map_cons] at hx
    obtain ⟨x', hx', rfl⟩ := List.mem_map.mp hx
    have := List.all_eq_true.mp ok3 x' hx'
    intro e
    rw [e] at this
    simp [isNone] at this
  · have := SeqAt.depth_of_shaped ok1
    have e : PyData.depthAll (toPy d :: ds.map toPy) + 1 ≤ (toPy (.lst (d :: ds))).depth := by
      rw [← List.map_cons, ← toPys_map]
      simp [toPy, PyData.depth]
      try omega
    omega
  · have hi' : its[i]? = some u := by simpa using hi
    obtain ⟨w, hw, rw'⟩ := vals_at rv' i u hi'
    obtain ⟨y, hy, ry⟩ := reps_at' r i w hw
    have hym : y ∈ d :: ds := List.mem_of_getElem? hy
    obtain ⟨cs, r1⟩ := reads_of I hk g (can_mem can y hym) (.inl ry) rw'
    have r2 := PyProof.Rows.Reads.keeps (h' := h') hold r1
    rw [← hf] at ru
    have e1 : toPy y = toPy (f d ds) := alike_unique _ _ _ _ _ (alikes_of ok2 hym (hm d ds)) r2 ru
    have e2 : y = f d ds := toPy_inj _ _ (can_mem can y hym) e1
    have J : Inv X pins σ H { s with heap := h', toks := tk } := I.kept (t' := tk) hold
    exact ⟨w, H, J, rw', k T w H (Step.refl g) (e2 ▸ ry)⟩
def dMinT : List D → Option R
  | [.tup (d :: ds)] => if okMin (d :: ds) = true then some (.imm (minDD d ds)) else none
  | _ => none
def dMaxT : List D → Option R
  | [.tup (d :: ds)] => if okMin (d :: ds) = true then some (.imm (maxDD d ds)) else none
  | _ => none
def dMinA (l : List D) : Option R := match dMinL l with
  | some r => some r
  | none => dMinT l
def dMaxA (l : List D) : Option R := match dMaxL l with
  | some r => some r
  | none => dMaxT l
theorem orB {f g : List D → Option R} {xs : List V} {H : Hp} {Q : VK} (h : rB G (fun l => match f l with | some r => some r | none => g l) xs H Q) : rB G f xs H Q ∨ rB G g xs H Q := by
  obtain ⟨T, ds, res, gd, h, e, k⟩ := h
  dsimp only at e
  split at e
  · rename_i r q
    cases e
    exact .inl ⟨T, ds, _, gd, h, q, k⟩
  · exact .inr ⟨T, ds, res, gd, h, e, k⟩
theorem cr_minA (hc : X.A.handled = none) (hu : X.A.units + 66 < cLine) (hk : X.K = G.K := by rfl) : CallR X (.builtin "min") (rB G dMinA) :=
  CallR.imp (CallR.or (cr_minL (G := G) hc hu hk) (minmax_tup (G := G) (fo := dMinT) (f := minDD) (fp := minD) minDD_py minDD_mem (fun l res e => by
    unfold dMinT at e
    split at e <;> try (cases e; done)
    split at e <;> cases e
    exact ⟨_, _, rfl, by assumption, rfl⟩) hu hk fun hl hr ha hu h => min_tuple_data hc hl hr ha hu h)) fun _ _ _ h => orB h
theorem cr_maxA (hc : X.A.handled = none) (hu : X.A.units + 66 < cLine) (hk : X.K = G.K := by rfl) : CallR X (.builtin "max") (rB G dMaxA) :=
  CallR.imp (CallR.or (cr_maxL (G := G) hc hu hk) (minmax_tup (G := G) (fo := dMaxT) (f := maxDD) (fp := maxD) maxDD_py maxDD_mem (fun l res e => by
    unfold dMaxT at e
    split at e <;> try (cases e; done)
    split at e <;> cases e
    exact ⟨_, _, rfl, by assumption, rfl⟩) hu hk fun hl hr ha hu h => max_tuple_data hc hl hr ha hu h)) fun _ _ _ h => orB h
end
/-! ### a set of the ints of a list -/
section
variable {P : Program} {w : World} {A : Around} {E : Value → Shared → Prop} {s : Shared}
set_option maxRecDepth 100000 in
set_option maxHeartbeats 3200000 in
theorem set_of_list {l : Addr} {items : Array Value} (ns : List Int) {Q : Value → Shared → Prop} (hh : A.handled = none) (hl : s.heap.IsList l items) (hit : IntsAre items.toList ns) (hb : ns.length + 1 < scanBound)
    (h : ∀ (h' : Heap) (tk c : Nat), SetR w h' s.heap.objs.size (fun j => decide (j ∈ ns)) c → (∀ b o, s.heap.get? b = some o → h'.get? b = some o) → Q (.ref s.heap.objs.size) { s with heap := h', toks := tk }) :
    wpAny (model P w) A (call (.type "set") [.ref l]) Q E s := by
  have hisz : items.size = ns.length := by
    have q := IntsAre.length hit
    rwa [Array.length_toList] at q
  obtain ⟨c, tl, hmro⟩ := F.called_set.mro
  have k1 := F.called_set.made
  have k2 := F.called_set.sub
  refine wpAny_call (codeAny_of_tree ?_)
  show wpAny _ _ (callAny (.type "set") _) _ _ _
  refine wpAny_pure ⟨Code.quiet_builtin _ (by decide +kernel), codeAny_builtin F.entry_type_call ?_⟩
  rw [Around.under_plain (weight_type_call_type "set" [.ref l] []) rfl]
  have k3 := F.called_set.notType
  have k4 := F.called_set.canCreate
  have k5 := F.typeCall_set_1 (.ref l)
  repeat (any_goals (first | assumption | wp_step))
  refine codeAny_mono (code_set_led1 (.ref l) (E := E) (Q₁ := fun obj s₁ => obj = .ref s.heap.objs.size ∧ s₁ = { s with heap := s.heap.push { cls := .type "set", dict := none, data := .set #[] 0 (.fresh 0 0 (!w.params.followText "set-order")) } }) ⟨rfl, rfl⟩) fun r s₁ hr => ?_
  cases r with
  | error e => exact hr
  | ok fl =>
    cases fl with
    | ret obj =>
      obtain ⟨rfl, rfl⟩ := hr
      have hS : (s.heap.push { cls := .type "set", dict := none, data := .set #[] 0 (.fresh 0 0 (!w.params.followText "set-order")) }).get? s.heap.objs.size = some { cls := .type "set", dict := none, data := .set #[] 0 (.fresh 0 0 (!w.params.followText "set-order")) } := Heap.get?_push_size _ rfl
      have hT : Shared.TypeIs { s with heap := s.heap.push { cls := .type "set", dict := none, data := .set #[] 0 (.fresh 0 0 (!w.params.followText "set-order")) } } (.ref s.heap.objs.size) "set" := ⟨_, hS, rfl⟩
      have k6 := F.called_set.init.lookup
      have k7 := F.called_set.init.bind (.ref s.heap.objs.size)
      repeat (any_goals (first | assumption | wp_step))
      refine codeAny_mono (codeAny_call_builtin (R := wants (fun r s₂ => r = .none ∧ ∃ h' tk c, s₂ = { s with heap := h', toks := tk } ∧ SetR w h' s.heap.objs.size (fun j => decide (j ∈ ns)) c ∧
          (∀ b o, s.heap.get? b = some o → h'.get? b = some o)) E) F.called_set.init.plain F.entry_set_init (check_set_init_1 hT ?_)) fun r₂ s₂ hr₂ => ?_
      · obtain ⟨⟨ocls, odict, odata, oslots⟩, hol, hcl, nl, hdl⟩ := hl
        simp only at hcl hdl
        subst hcl; subst hdl
        have hol' : (s.heap.push { cls := .type "set", dict := none, data := .set #[] 0 (.fresh 0 0 (!w.params.followText "set-order")) }).get? l = some { cls := .type "list", dict := odict, data := .seq items nl, slots := oslots } := Heap.get?_push_of_some _ hol
        have k8 := F.sub_list_set
        have k9 := F.sub_list_frozenset
        have ka : (Value.type "list" == Value.type "dict") = false := by decide
        have hl1 : (s.heap.push { cls := .type "set", dict := none, data := .set #[] 0 (.fresh 0 0 (!w.params.followText "set-order")) }).IsList l items := ⟨_, hol', rfl, nl, rfl⟩
        unfold Builtin.«set.__init__» noKeywords Builtin.Frozenset.updateFrom
        generalize hPI : pyIter = PI
        wp_walk
        subst hPI
        refine wpAny_pyIter_list hl1 ?_
        refine wpAny_bind (wpAny_runValue ?_)
        have hlS : l < s.heap.objs.size := Heap.lt_size hol
        have hh3 : A.in1.in1.in1.handled = none := by simp [hh]
        have hz1 : (s.heap.push { cls := .type "set", dict := none, data := .set #[] 0 (.fresh 0 0 (!w.params.followText "set-order")) }).objs.size = s.heap.objs.size + 1 := Heap.size_push ..
        have hneI : l ≠ (s.heap.push { cls := .type "set", dict := none, data := .set #[] 0 (.fresh 0 0 (!w.params.followText "set-order")) }).objs.size := by
          rw [hz1]; exact Nat.ne_of_lt (Nat.lt_succ_of_lt hlS)
        have hSf : s.heap.objs.size ∉ [(s.heap.push { cls := .type "set", dict := none, data := .set #[] 0 (.fresh 0 0 (!w.params.followText "set-order")) }).objs.size, l] := by
          rw [hz1]
          intro z
          rcases List.mem_cons.mp z with z | z
          · exact absurd z (Nat.ne_of_lt (Nat.lt_succ_self _))
          · exact absurd (List.mem_singleton.mp z) (Nat.ne_of_gt hlS)
        have hval : ∀ (i : Nat) (v : Value), items[i]? = some v → ∃ k t, ns[i]? = some k ∧ v = .int k t := fun i v hv => by
          have hi : i < ns.length := by rw [← hisz]; exact (Array.getElem?_eq_some_iff.mp hv).1
          obtain ⟨t, e⟩ := IntsAre.int_at hit i v (by rw [Array.getElem?_toList]; exact hv)
          refine ⟨ns[i], t, List.getElem?_eq_getElem hi, ?_⟩
          rw [e, List.getD_eq_getElem?_getD, List.getElem?_eq_getElem hi] <;> rfl
        refine set_update_ints ((Walks.list hh3 _ l hneI items).toS) s.heap.objs.size hSf ns hisz hb hval (items.size - 0) 0 _ (by omega) (Nat.zero_le _)
          ⟨⟨_, Heap.get?_push_size _ rfl, rfl, rfl⟩, (hl1.push _)⟩ ⟨0, Nat.le_refl 0, setR_new_at (Heap.get?_push_of_some _ hS)⟩ fun s' c' hm hc' hS' => ?_
        obtain ⟨h', g2, d', tk', os'⟩ := s'
        have eg : g2 = s.gens := hm.gens
        have ed : d' = s.drawn := hm.drawn
        have eo : os' = s.os := hm.os
        subst eg; subst ed; subst eo
        show wpAny _ _ _ _ _ _
        refine wpAny_pure ?_
        show wpAny _ _ (ret Value.none) _ _ _
        refine wpAny_pure ⟨rfl, h', tk', c', rfl, hS', fun b o e => ?_⟩
        have hb0 : b < s.heap.objs.size := Heap.lt_size e
        refine hm.heap b o (fun z => ?_) (Heap.get?_push_of_some _ (Heap.get?_push_of_some _ e))
        rcases List.mem_cons.mp z with z | z
        · exact Nat.ne_of_lt hb0 z
        · exact Nat.ne_of_lt (Nat.lt_succ_of_lt hb0) ((List.mem_singleton.mp z).trans hz1)
      · cases r₂ with
        | error e => exact hr₂
        | ok fl₂ =>
          cases fl₂ with
          | ret r =>
            obtain ⟨rfl, h', tk, c', rfl, hS', hk'⟩ := hr₂
            repeat (any_goals (first | assumption | wp_step))
            exact h _ _ _ hS' hk'
          | _ => exact hr₂.elim
    | _ => exact hr.elim
end
/-- the ints without those met before, ascending -/
def incI (ns : List Int) : List Int := ns.eraseDups.mergeSort fun a b => decide (a ≤ b)
theorem incI_perm (ns : List Int) : (incI ns).Perm ns.eraseDups := List.mergeSort_perm _ _
theorem mem_incI {ns : List Int} {k : Int} : k ∈ incI ns ↔ k ∈ ns := by rw [(incI_perm ns).mem_iff, List.mem_eraseDups]
theorem incI_nodup (ns : List Int) : (incI ns).Nodup := (incI_perm ns).nodup_iff.mpr (nodup_eraseDups _ _ (Nat.le_refl _))
theorem incI_lt (ns : List Int) : (incI ns).Pairwise (· < ·) := by
  have h1 : (incI ns).Pairwise fun a b => a ≤ b := by
    refine List.Pairwise.imp (fun h => of_decide_eq_true h) (List.pairwise_mergeSort (fun a b c h1 h2 => ?_) (fun a b => ?_) _)
    · have h1 := of_decide_eq_true h1
      have h2 := of_decide_eq_true h2
      exact decide_eq_true (Int.le_trans h1 h2)
    · rcases Int.le_total a b with z | z
      · simp [z]
      · simp [z]
  exact (List.Pairwise.and h1 (incI_nodup ns)).imp fun {a b} h => by omega
theorem inc_unique {xs ys : List Int} (hx : xs.Pairwise (· < ·)) (hy : ys.Pairwise (· < ·)) (h : ∀ k, k ∈ xs ↔ k ∈ ys) : xs = ys := by
  have nx : xs.Nodup := hx.imp fun h => by omega
  have ny : ys.Nodup := hy.imp fun h => by omega
  exact List.Perm.eq_of_pairwise (le := fun a b => a < b) (fun a b _ _ h1 h2 => by omega) hx hy (perm_of_nodup nx ny h)
theorem setR_len {w : World} {h : Heap} {a : Addr} {ns : List Int} {n : Nat} (R : SetR w h a (fun j => decide (j ∈ ns)) n) : n = (incI ns).length ∧ ∃ o es ep t, h.get? a = some o ∧ o.ExactSet ∧ o.data = .set es ep t ∧ t.fits es.size = true ∧ es.size = n := by
  obtain ⟨o, es, ep, t, h1, h2, h3, h4, h5, h6, h7, h8, h9, h10⟩ := R
  refine ⟨?_, o, es, ep, t, h1, h2, h3, h8, h9⟩
  have e : (es.toList.map keyOf).Perm (incI ns) := perm_of_nodup h5 (incI_nodup ns) fun k => by rw [mem_incI, ← h6 k, decide_eq_true_eq]
  have := e.length_eq
  rw [List.length_map, Array.length_toList] at this
  omega
section
variable {G : Gm} {T T1 T2 : Ty} {st st1 st2 : DSt} {σ σ1 σ2 : L2.St} {H H1 H2 : Hp} {v : V} {d : D} {r : R} {X : Cx}
/-- the ints of a list or a tuple -/
def numsA : D → Option (List Int)
  | .lst ds => nums ds
  | .tup ds => nums ds
  | _ => none
theorem numsA_at (g : Good G T H) {x : V} {d : D} {ns : List Int} (s : Sees G T H x d) (e : numsA d = some ns) : ∃ a, x = .ref a ∧ (SqL G.K H a (ns.map V.int) ∨ SqT G.K H a (ns.map V.int)) := by
  unfold numsA at e
  split at e <;> try (cases e; done)
  · obtain ⟨a, vs, rfl, q, _, r, z⟩ := s.lst g
    rw [nums_eq e] at r
    rw [reps_nums g r] at q
    exact ⟨a, rfl, .inl q⟩
  · obtain ⟨a, vs, rfl, q, _, r, z⟩ := s.tup g
    rw [nums_eq e] at r
    rw [reps_nums g r] at q
    exact ⟨a, rfl, .inr q⟩
theorem set_ints {pins : List (Addr × Obj)} {s : Shared} {a : Addr} {ns : List Int} {Q : Value → Shared → Prop} {E : Value → Shared → Prop} (hc : X.calm = true) (I : Inv X pins σ H s) (h : SqL X.K H a (ns.map V.int) ∨ SqT X.K H a (ns.map V.int)) (hb : ns.length + 1 < scanBound)
    (k : ∀ (h' : Heap) (tk c : Nat), SetR X.w h' s.heap.objs.size (fun j => decide (j ∈ ns)) c → (∀ b o, s.heap.get? b = some o → h'.get? b = some o) → Q (.ref s.heap.objs.size) { s with heap := h', toks := tk }) :
    wpAny (model X.prog X.w) X.A (call (.type "set") [.ref a]) Q E s := by
  rcases h with h | h
  · obtain ⟨its, rv, pl, hz⟩ := I.list h
    exact set_of_list ns (I.ok.hd hc) pl.isList (by simpa using rv.ints) hb k
  · obtain ⟨its, rv, pt, hz⟩ := I.tuple h
    exact call_set_tupI ns (I.ok.hd hc) (show s.heap.IsTuple a its.toArray from pt) (by simpa using rv.ints) hb fun h' tk c R _ kk => k h' tk c R kk
/-- len(set(xs)) -/
def dLenSet : List D → Option R
  | [d] => match numsA d with
    | some ns => if ns.length ≤ 4000 then ri (incI ns).length else none
    | none => match d with
      | .lst ds => match intsTs ds with
        | some rs => if rs.length < 64 then ri (setD rs).length else none
        | none => none
      | _ => none
  | _ => none
theorem pe_lenSet {a : Expr} {ta : TE} {p p2 q pos : Pos} (hg : Gl X "len") (hm : X.mg "len" = none) (hg2 : Gl X "set") (hm2 : X.mg "set" = none) (ha : PE X a ta) (hc : X.calm = true) (hu : X.A.units + 64 < cLine) (hk : X.K = G.K := by rfl) (hp : X.prog = G.P := by rfl) (hw : X.w = G.w := by rfl)
    (na : starEach [a] X.env = (false, eval a X.env) :: starEach [] X.env := by rfl) : PE X (.Call (.Name "len" p) [.Call (.Name "set" p2) [a] [] q] [] pos) (tCB (rB G dLenSet) (tCons ta tNil)) := by
  refine ⟨fun pins s σ H Q I h => ?_⟩
  refine Call_ (ld_blt I hg hm boot_len ?_)
  refine callWith_builtin1 (args_cons ?_ rfl) rfl rfl
  refine Call_ (ld_blt I hg2 hm2 boot_set ?_)
  refine callWith_type1 (args_cons (thn (ha.run pins s σ H _ I h) fun v s1 ⟨x, H1, I1, r1, q1⟩ => args_nil ?_) na) na rfl
  obtain ⟨T, ds, res, g, hs, e, k⟩ := q1
  unfold dLenSet at e
  split at e <;> try (cases e; done)
  rename_i d
  obtain ⟨x', ex, sx⟩ := p1 hs
  cases ex
  split at e
  · rename_i ns en
    split at e <;> try (cases e; done)
    rename_i h4
    cases e
    obtain ⟨b, rfl, hq⟩ := numsA_at g sx en
    cases r1
    refine set_ints hc I1 (by rw [hk]; exact hq) (by unfold scanBound; omega) fun h' tk c R kk => args_nil ?_
    obtain ⟨e1, o, es, ep, t, ho, hex, hd, hf, hn⟩ := setR_len R
    have hle : (incI ns).length ≤ ns.length := by
      have h1 : ∀ (n : Nat) (l : List Int), l.length ≤ n → l.eraseDups.length ≤ l.length := fun n => by
        induction n with
        | zero => intro l hl; cases l with
          | nil => simp
          | cons _ _ => simp at hl
        | succ n ih => intro l hl; cases l with
          | nil => simp
          | cons x l =>
            rw [List.eraseDups_cons, List.length_cons, List.length_cons]
            have h2 : (l.filter fun b => !b == x).length ≤ l.length := List.length_filter_le _ _
            have := ih _ (by simp at hl; omega : (l.filter fun b => !b == x).length ≤ n)
            omega
      rw [(incI_perm ns).length_eq]
      exact h1 _ ns (Nat.le_refl _)
    have I2 : Inv X pins σ H1 { s1 with heap := h', toks := tk } := I1.kept kk
    refine call_len_set ho hex hd hf (by omega) ⟨.int ((incI ns).length : Nat), H1, I2.tok _, ⟨_, by rw [hn, e1]⟩, one g k rfl⟩
  · split at e <;> try (cases e; done)
    rename_i ds' _
    split at e <;> try (cases e; done)
    rename_i rs er
    split at e <;> try (cases e; done)
    rename_i h64
    cases e
    obtain ⟨b, vs, rfl, hq, hH, r, z⟩ := sx.lst g
    cases r1
    rw [intsTs_eq er] at r
    obtain ⟨ks, e1, e2, e3⟩ := rows_tups g r
    obtain ⟨its, rv, pl, hz⟩ := I1.list (X := X) (hk ▸ hq : SqL X.K H1 b vs)
    rw [e1] at rv
    have hks : ks.length < 64 := by rw [e2, List.length_map] at h64; exact h64
    refine call_set_tups (P := X.prog) (w := X.w) ks (I1.ok.hd hc) pl.isList (by simpa using refs_of_vals rv) (fun p hp' => I1.isT (hk ▸ .inl (.inl (tup_at g (e3 p hp')).1))) hks (by omega) fun h' tk L es ep t R gt kk => args_nil ?_
    obtain ⟨o, ho, hex, hd⟩ := R.ob
    have e5 : (L.map (·.2)).Perm (setD rs) := perm_of_nodup R.nd (setD_nodup rs) fun a => by
      rw [mem_setD, e2]
      constructor
      · intro hx
        obtain ⟨p, hp', rfl⟩ := List.mem_map.mp hx
        exact List.mem_map_of_mem (List.mem_of_mem_take (gt.sub p hp'))
      · intro hx
        obtain ⟨p, hp', rfl⟩ := List.mem_map.mp hx
        exact gt.all p (by rw [List.take_length]; exact hp')
    have R' : SetTR X.prog X.w (Shared.heap { s1 with heap := h', toks := tk }) s1.heap.objs.size L es ep t := R
    have hsz : es.size = L.length := R'.size
    have e6 : es.size = (setD rs).length := by rw [hsz, ← e5.length_eq, List.length_map]
    have I2 : Inv X pins σ H1 { s1 with heap := h', toks := tk } := I1.kept kk
    have h6 : es.size < 64 := by rw [hsz]; exact R.few
    exact call_len_set ho hex hd R'.fits (by omega) ⟨.int ((setD rs).length : Nat), H1, I2.tok _, ⟨_, by rw [e6]⟩, one g k rfl⟩
/-- sorted(set(xs)) of ints -/
def dSortSet : List D → Option R
  | [d] => match numsA d with
    | some ns => if ns.length < 64 then some (.own (.lst ((incI ns).map D.int))) else none
    | none => none
  | _ => none
theorem pe_sortSet {a : Expr} {ta : TE} {p p2 q pos : Pos} (hg : Gl X "sorted") (hm : X.mg "sorted" = none) (hg2 : Gl X "set") (hm2 : X.mg "set" = none) (ha : PE X a ta) (hc : X.calm = true) (hk : X.K = G.K := by rfl) (hw : X.w = G.w := by rfl)
    (na : starEach [a] X.env = (false, eval a X.env) :: starEach [] X.env := by rfl) : PE X (.Call (.Name "sorted" p) [.Call (.Name "set" p2) [a] [] q] [] pos) (tCB (rB G dSortSet) (tCons ta tNil)) := by
  refine ⟨fun pins s σ H Q I h => ?_⟩
  refine Call_ (ld_blt I hg hm boot_sorted_ ?_)
  refine callWith_builtin1 (args_cons ?_ rfl) rfl rfl
  refine Call_ (ld_blt I hg2 hm2 boot_set ?_)
  refine callWith_type1 (args_cons (thn (ha.run pins s σ H _ I h) fun v s1 ⟨x, H1, I1, r1, q1⟩ => args_nil ?_) na) na rfl
  obtain ⟨T, ds, res, g, hs, e, k⟩ := q1
  unfold dSortSet at e
  split at e <;> try (cases e; done)
  rename_i d
  obtain ⟨x', ex, sx⟩ := p1 hs
  cases ex
  split at e <;> try (cases e; done)
  rename_i ns en
  split at e <;> try (cases e; done)
  rename_i h4
  cases e
  obtain ⟨b, rfl, hq⟩ := numsA_at g sx en
  cases r1
  refine set_ints hc I1 (by rw [hk]; exact hq) (by unfold scanBound; omega) fun h' tk c R kk => args_nil ?_
  have e1 := (setR_len R).1
  have hle : (incI ns).length ≤ ns.length := by
    have h2 : (incI ns).length = ns.eraseDups.length := (incI_perm ns).length_eq
    have h1 : ∀ (n : Nat) (l : List Int), l.length ≤ n → l.eraseDups.length ≤ l.length := fun n => by
      induction n with
      | zero => intro l hl; cases l with
        | nil => simp
        | cons _ _ => simp at hl
      | succ n ih => intro l hl; cases l with
        | nil => simp
        | cons x l =>
          rw [List.eraseDups_cons, List.length_cons, List.length_cons]
          have h2 : (l.filter fun b => !b == x).length ≤ l.length := List.length_filter_le _ _
          have := ih _ (by simp at hl; omega : (l.filter fun b => !b == x).length ≤ n)
          omega
    rw [h2]
    exact h1 _ ns (Nat.le_refl _)
  have I2 : Inv X pins σ H1 { s1 with heap := h', toks := tk } := I1.kept kk
  refine sorted_set (s := { s1 with heap := h', toks := tk }) R (I2.ok.hd hc) (by omega) fun s' p out c' ns' k' g' o' hp' hg' hi' hs' hm' hl' => ?_
  have hn' : H1 p = none := I2.hok.fresh hp'
  have J : Inv X pins σ (upd H1 p (.lst (ns'.map V.int))) { s1 with heap := s'.heap, gens := s'.gens, drawn := s'.drawn, toks := s'.toks } :=
    I1.call (ch := []) (Un.laid (fun b o e => k' b o (kk b o e)) (Nat.le_trans (Nat.le_of_lt R.lt) hp') hn') (I2.hok.laid k' hp' ⟨by rw [List.length_map, hl', sizeLine_eq]; omega, out.toList, c', vals_of_ints hi', hg'⟩) (by rw [g']; exact I2.bare) (fun _ z => nomatch z)
  have e : s' = { s1 with heap := s'.heap, gens := s'.gens, drawn := s'.drawn, toks := s'.toks } := by
    cases s'
    cases s1
    cases o'
    rfl
  rw [e]
  have en' : ns' = incI ns := inc_unique hs' (incI_lt ns) fun k => by rw [hm' k, mem_incI, decide_eq_true_eq]
  subst en'
  refine ⟨.ref p, _, J, rfl, k T _ _ (Step.new g hn' _) ⟨p, rfl, hn', own_new g hn' (reps_ints _) ?_⟩⟩
  rw [List.length_map, sizeLine_eq]
  omega
end
end LD

namespace LW
open PySem PySem.Spec PyProof.Rows L2 LD
abbrev top (i : Nat) : Stmt := PySem.Challenge.pw_cornerwebs_k85_whole_numbers_on_corners.main.body.getD i (.Pass ⟨0, 0, 0, 0⟩)
abbrev st_law_hand : Stmt := top 38
abbrev st_law_draw : Stmt := top 39
abbrev st_law_pairs : Stmt := top 40
abbrev st_law_lines : Stmt := top 41
abbrev st_law_tuples : Stmt := top 43
abbrev st_law_orders : Stmt := top 44
abbrev st_differences : Stmt := top 19
abbrev st_graceful_on : Stmt := top 20
abbrev st_graceful : Stmt := top 21
abbrev st_sums_at : Stmt := top 22
abbrev st_summed_on : Stmt := top 23
abbrev st_even_sums : Stmt := top 24
abbrev st_is_integer : Stmt := top 5
abbrev st_is_within : Stmt := top 6
abbrev st_is_count : Stmt := top 10
abbrev st_is_tuple : Stmt := top 7
abbrev st_is_line : Stmt := top 11
abbrev st_are_lines : Stmt := top 12
abbrev st_Web : Stmt := inClass (top 13) 0
abbrev st_there : Stmt := inClass (top 13) 2
abbrev st_has_line : Stmt := top 14
abbrev st_near_of : Stmt := top 15
abbrev st_summed_colours : Stmt := top 25
abbrev st_least_sum_colours : Stmt := top 26
abbrev st_law_steps : Stmt := top 42
abbrev st_are_let : Stmt := top 27
abbrev st_apart_on : Stmt := top 28
abbrev st_difference_colours : Stmt := top 29
abbrev st_pieces_of : Stmt := top 31
abbrev st_all_pieces : Stmt := top 32
abbrev st_is_one : Stmt := top 33
abbrev st_is_tree_of : Stmt := top 35
abbrev st_is_tree : Stmt := top 36
abbrev st_law : Stmt := top 45
structure Tx (K : PySem.W.Frag) (mg : Str → Option Value) (fs : Nat → Addr) (fd : Nat → FuncData) (C : Addr) : Prop where
  z_abs : mg "abs" = none
  z_all : mg "all" = none
  z_any : mg "any" = none
  z_bool : mg "bool" = none
  z_dict : mg "dict" = none
  z_enumerate : mg "enumerate" = none
  z_int : mg "int" = none
  z_isinstance : mg "isinstance" = none
  z_len : mg "len" = none
  z_list : mg "list" = none
  z_max : mg "max" = none
  z_min : mg "min" = none
  z_range : mg "range" = none
  z_set : mg "set" = none
  z_sorted : mg "sorted" = none
  z_sum : mg "sum" = none
  z_tuple : mg "tuple" = none
  z_zip : mg "zip" = none
  c_MOST_CORNERS : ∃ t, mg "MOST_CORNERS" = some (.int 7 t)
  c_MOST_GRACEFUL : ∃ t, mg "MOST_GRACEFUL" = some (.int 8 t)
  c_MOST_SUMMED : ∃ t, mg "MOST_SUMMED" = some (.int 7 t)
  f_law_hand : Fun K "_law_hand" "_law_hand" st_law_hand (fs 0) (fd 0)
  b_law_hand : Binds K (fd 0) ["script"] []
  m_law_hand : mg "_law_hand" = some (.ref (fs 0))
  k_law_hand : PySem.W.keepIn K (.ref (fs 0)) = true
  f_law_draw : Fun K "_law_draw" "_law_draw" st_law_draw (fs 1) (fd 1)
  b_law_draw : Binds K (fd 1) ["hand", "sides"] []
  m_law_draw : mg "_law_draw" = some (.ref (fs 1))
  k_law_draw : PySem.W.keepIn K (.ref (fs 1)) = true
  f_law_pairs : Fun K "_law_pairs" "_law_pairs" st_law_pairs (fs 2) (fd 2)
  b_law_pairs : Binds K (fd 2) ["corners"] []
  m_law_pairs : mg "_law_pairs" = some (.ref (fs 2))
  k_law_pairs : PySem.W.keepIn K (.ref (fs 2)) = true
  f_law_lines : Fun K "_law_lines" "_law_lines" st_law_lines (fs 3) (fd 3)
  b_law_lines : Binds K (fd 3) ["hand", "corners"] []
  m_law_lines : mg "_law_lines" = some (.ref (fs 3))
  k_law_lines : PySem.W.keepIn K (.ref (fs 3)) = true
  f_law_tuples : Fun K "_law_tuples" "_law_tuples" st_law_tuples (fs 4) (fd 4)
  b_law_tuples : Binds K (fd 4) ["size", "least", "most"] []
  m_law_tuples : mg "_law_tuples" = some (.ref (fs 4))
  k_law_tuples : PySem.W.keepIn K (.ref (fs 4)) = true
  f_law_orders : Fun K "_law_orders" "_law_orders" st_law_orders (fs 5) (fd 5)
  b_law_orders : Binds K (fd 5) ["numbers"] []
  m_law_orders : mg "_law_orders" = some (.ref (fs 5))
  k_law_orders : PySem.W.keepIn K (.ref (fs 5)) = true
  f_differences : Fun K "differences" "differences" st_differences (fs 6) (fd 6)
  b_differences : Binds K (fd 6) ["web", "told"] []
  m_differences : mg "differences" = some (.ref (fs 6))
  k_differences : PySem.W.keepIn K (.ref (fs 6)) = true
  f_graceful_on : Fun K "graceful_on" "graceful_on" st_graceful_on (fs 7) (fd 7)
  b_graceful_on : Binds K (fd 7) ["web", "told"] []
  m_graceful_on : mg "graceful_on" = some (.ref (fs 7))
  k_graceful_on : PySem.W.keepIn K (.ref (fs 7)) = true
  f_graceful : Fun K "graceful" "graceful" st_graceful (fs 8) (fd 8)
  b_graceful : Binds K (fd 8) ["web"] []
  m_graceful : mg "graceful" = some (.ref (fs 8))
  k_graceful : PySem.W.keepIn K (.ref (fs 8)) = true
  f_sums_at : Fun K "sums_at" "sums_at" st_sums_at (fs 9) (fd 9)
  b_sums_at : Binds K (fd 9) ["web", "told"] []
  m_sums_at : mg "sums_at" = some (.ref (fs 9))
  k_sums_at : PySem.W.keepIn K (.ref (fs 9)) = true
  f_summed_on : Fun K "summed_on" "summed_on" st_summed_on (fs 10) (fd 10)
  b_summed_on : Binds K (fd 10) ["web", "told"] []
  m_summed_on : mg "summed_on" = some (.ref (fs 10))
  k_summed_on : PySem.W.keepIn K (.ref (fs 10)) = true
  f_even_sums : Fun K "even_sums" "even_sums" st_even_sums (fs 11) (fd 11)
  b_even_sums : Binds K (fd 11) ["web"] []
  m_even_sums : mg "even_sums" = some (.ref (fs 11))
  k_even_sums : PySem.W.keepIn K (.ref (fs 11)) = true
  f_is_integer : Fun K "is_integer" "is_integer" st_is_integer (fs 12) (fd 12)
  b_is_integer : Binds K (fd 12) ["thing"] []
  m_is_integer : mg "is_integer" = some (.ref (fs 12))
  k_is_integer : PySem.W.keepIn K (.ref (fs 12)) = true
  f_is_within : Fun K "is_within" "is_within" st_is_within (fs 13) (fd 13)
  b_is_within : Binds K (fd 13) ["thing", "low", "high"] []
  m_is_within : mg "is_within" = some (.ref (fs 13))
  k_is_within : PySem.W.keepIn K (.ref (fs 13)) = true
  f_is_count : Fun K "is_count" "is_count" st_is_count (fs 14) (fd 14)
  b_is_count : Binds K (fd 14) ["thing"] []
  m_is_count : mg "is_count" = some (.ref (fs 14))
  k_is_count : PySem.W.keepIn K (.ref (fs 14)) = true
  f_is_tuple : Fun K "is_tuple" "is_tuple" st_is_tuple (fs 15) (fd 15)
  b_is_tuple : Binds K (fd 15) ["thing", "least", "most"] []
  m_is_tuple : mg "is_tuple" = some (.ref (fs 15))
  k_is_tuple : PySem.W.keepIn K (.ref (fs 15)) = true
  f_is_line : Fun K "is_line" "is_line" st_is_line (fs 16) (fd 16)
  b_is_line : Binds K (fd 16) ["corners", "thing"] []
  m_is_line : mg "is_line" = some (.ref (fs 16))
  k_is_line : PySem.W.keepIn K (.ref (fs 16)) = true
  f_are_lines : Fun K "are_lines" "are_lines" st_are_lines (fs 17) (fd 17)
  b_are_lines : Binds K (fd 17) ["corners", "thing"] []
  m_are_lines : mg "are_lines" = some (.ref (fs 17))
  k_are_lines : PySem.W.keepIn K (.ref (fs 17)) = true
  f_Web : Fun K "__init__" "Web.__init__" st_Web (fs 18) (fd 18)
  b_Web : Binds K (fd 18) ["self", "corners", "lines"] []
  m_Web : mg "Web" = some (.ref C)
  mkW : Mk K C (fs 18)
  cl : Cls K C
  na_corners : NoAttr K C "corners"
  na_lines : NoAttr K C "lines"
  na_looked : NoAttr K C "looked"
  f_there : Fun K "there" "Web.there" st_there (fs 19) (fd 19)
  b_there : Binds K (fd 19) ["self"] []
  mt_there : Meth K C "there" (fs 19)
  f_has_line : Fun K "has_line" "has_line" st_has_line (fs 20) (fd 20)
  b_has_line : Binds K (fd 20) ["web", "a", "b"] []
  m_has_line : mg "has_line" = some (.ref (fs 20))
  k_has_line : PySem.W.keepIn K (.ref (fs 20)) = true
  f_near_of : Fun K "near_of" "near_of" st_near_of (fs 21) (fd 21)
  b_near_of : Binds K (fd 21) ["web", "a"] []
  m_near_of : mg "near_of" = some (.ref (fs 21))
  k_near_of : PySem.W.keepIn K (.ref (fs 21)) = true
  f_summed_colours : Fun K "summed_colours" "summed_colours" st_summed_colours (fs 22) (fd 22)
  b_summed_colours : Binds K (fd 22) ["web", "told", "best"] []
  m_summed_colours : mg "summed_colours" = some (.ref (fs 22))
  k_summed_colours : PySem.W.keepIn K (.ref (fs 22)) = true
  f_least_sum_colours : Fun K "least_sum_colours" "least_sum_colours" st_least_sum_colours (fs 23) (fd 23)
  b_least_sum_colours : Binds K (fd 23) ["web"] []
  m_least_sum_colours : mg "least_sum_colours" = some (.ref (fs 23))
  k_least_sum_colours : PySem.W.keepIn K (.ref (fs 23)) = true
  f_law_steps : Fun K "_law_steps" "_law_steps" st_law_steps (fs 24) (fd 24)
  b_law_steps : Binds K (fd 24) ["corners", "lines", "a"] []
  m_law_steps : mg "_law_steps" = some (.ref (fs 24))
  k_law_steps : PySem.W.keepIn K (.ref (fs 24)) = true
  f_are_let : Fun K "are_let" "are_let" st_are_let (fs 25) (fd 25)
  b_are_let : Binds K (fd 25) ["web", "told", "number"] []
  m_are_let : mg "are_let" = some (.ref (fs 25))
  k_are_let : PySem.W.keepIn K (.ref (fs 25)) = true
  f_apart_on : Fun K "apart_on" "apart_on" st_apart_on (fs 26) (fd 26)
  b_apart_on : Binds K (fd 26) ["web", "most", "told"] []
  m_apart_on : mg "apart_on" = some (.ref (fs 26))
  k_apart_on : PySem.W.keepIn K (.ref (fs 26)) = true
  f_difference_colours : Fun K "difference_colours" "difference_colours" st_difference_colours (fs 27) (fd 27)
  b_difference_colours : Binds K (fd 27) ["web"] []
  m_difference_colours : mg "difference_colours" = some (.ref (fs 27))
  k_difference_colours : PySem.W.keepIn K (.ref (fs 27)) = true
  f_pieces_of : Fun K "pieces_of" "pieces_of" st_pieces_of (fs 28) (fd 28)
  b_pieces_of : Binds K (fd 28) ["web", "lot"] []
  m_pieces_of : mg "pieces_of" = some (.ref (fs 28))
  k_pieces_of : PySem.W.keepIn K (.ref (fs 28)) = true
  f_all_pieces : Fun K "all_pieces" "all_pieces" st_all_pieces (fs 29) (fd 29)
  b_all_pieces : Binds K (fd 29) ["web"] []
  m_all_pieces : mg "all_pieces" = some (.ref (fs 29))
  k_all_pieces : PySem.W.keepIn K (.ref (fs 29)) = true
  f_is_one : Fun K "is_one" "is_one" st_is_one (fs 30) (fd 30)
  b_is_one : Binds K (fd 30) ["web"] []
  m_is_one : mg "is_one" = some (.ref (fs 30))
  k_is_one : PySem.W.keepIn K (.ref (fs 30)) = true
  f_is_tree_of : Fun K "is_tree_of" "is_tree_of" st_is_tree_of (fs 31) (fd 31)
  b_is_tree_of : Binds K (fd 31) ["web"] []
  m_is_tree_of : mg "is_tree_of" = some (.ref (fs 31))
  k_is_tree_of : PySem.W.keepIn K (.ref (fs 31)) = true
  f_is_tree : Fun K "is_tree" "is_tree" st_is_tree (fs 32) (fd 32)
  b_is_tree : Binds K (fd 32) ["web"] []
  m_is_tree : mg "is_tree" = some (.ref (fs 32))
  k_is_tree : PySem.W.keepIn K (.ref (fs 32)) = true
  f_law : Fun K "law" "law" st_law (fs 33) (fd 33)
  b_law : Binds K (fd 33) ["script"] []
  m_law : mg "law" = some (.ref (fs 33))
  k_law : PySem.W.keepIn K (.ref (fs 33)) = true
def mkG (P : Program) (w : World) (K : PySem.W.Frag) (C : Addr) : Gm := ⟨P, w, K, fun _ => C, fun _ => ["corners", "lines", "looked"]⟩
theorem nofld_there {P : Program} {w : World} {K : PySem.W.Frag} {C : Addr} : NoFld (mkG P w K C) 0 "there" := LD.nofld3 rfl
noncomputable section
variable {P : Program} {w : World} {K : PySem.W.Frag} {mg : Str → Option Value} {base : Heap} {fs : Nat → Addr} {fd : Nat → FuncData} {C : Addr}
theorem Tx.fl_corners (T : Tx K mg fs fd C) (P : Program) (w : World) : FldOk (mkG P w K C) 0 0 "corners" := fld3_0 T.cl T.na_corners rfl rfl
theorem Tx.fl_lines (T : Tx K mg fs fd C) (P : Program) (w : World) : FldOk (mkG P w K C) 0 1 "lines" := fld3_1 T.cl T.na_lines rfl rfl
theorem Tx.fl_looked (T : Tx K mg fs fd C) (P : Program) (w : World) : FldOk (mkG P w K C) 0 2 "looked" := fld3_2 T.cl T.na_looked rfl rfl
theorem sc_law_hand : FnScope ["script", "cells", "cell"] ["script"] (defScope st_law_hand) := ⟨rfl, rfl, rfl, by decide +kernel, rfl, by decide +kernel, by decide +kernel⟩
def c_law_hand_0 : M := mLc [2] (wSeq (mSl (mVar 0) oNone (oSome (mC (.int 63))))) (gN 2) tYesD (mB dAbs (lCons (mB dInt (lCons (mVar 2) lNil)) lNil))
def s_law_hand_0 : MS := (sSet 1 c_law_hand_0)
def s_law_hand_1 : MS := (sRet (mLst (aCons (mVar 1) (aCons (mC (.int 0)) (aCons (mC (.int 0)) (aCons (mBin dAdd (mC (.int 7)) (mB dLen (lCons (mVar 1) lNil))) (aCons (mC (.int 0)) aNil)))))))
def b_law_hand : MS := (sSeq s_law_hand_0
 s_law_hand_1)
def m_law_hand : FM := runF 3 b_law_hand
theorem ok_law_hand (T : Tx K mg fs fd C) : FnOk P w K mg base CX0 1 (fs 0) (fd 0) ["script"] (spD (mkG P w K C) 1 m_law_hand) :=
  fn_ok (G := (mkG P w K C)) T.f_law_hand sc_law_hand rfl rfl fun cdv A outer s H E hr => ⟨_, (pss_cons (ps_setLc (i := 1) (own := [("cell", 2)]) rfl sc_law_hand.nd rfl rfl (sw_true rfl rfl rfl (by decide +kernel)) (pi_seq (pe_slice sl_both (pv 0) po_none (po_some pe_int))) (blkOk_by (N := ["script", "cells", "cell"]) (sc := defScope st_law_hand) (by decide +kernel)) (fun _ _ _ _ _ => (pg_name (i := 2) sc_law_hand.nd rfl (Or.inl rfl))) (fun _ _ _ _ _ => pts_nil) (fun _ _ _ _ _ => (pe_callB (cr_abs (G := (mkG P w K C))) rfl T.z_abs boot_abs_ (pa_cons (pe_callTy (cr_int (G := (mkG P w K C))) rfl T.z_int boot_int_ (pa_cons (pv 2) pa_nil)) pa_nil))))
 (pss_one (ps_ret (pe_lst (pa_cons (pv 1) (pa_cons pe_int (pa_cons pe_int (pa_cons (pe_op (op_addD (G := (mkG P w K C))) pe_int (pe_callB (cr_len (G := (mkG P w K C))) rfl T.z_len boot_len_ (pa_cons (pv 1) pa_nil))) (pa_cons pe_int pa_nil))))))))),
  (ok_seq (ok_set (ok_lc (ok_wSeq (ok_sl (ok_var 0) ok_onone (ok_osome (ok_c fun _ => rfl)))) (ok_vN (by decide)) ok_yes (ok_b (ok_lcons (ok_b (ok_lcons (ok_var 2) ok_lnil)) ok_lnil))))
 (ok_ret (ok_lst (ok_acons (ok_var 1) (ok_acons (ok_c fun _ => rfl) (ok_acons (ok_c fun _ => rfl) (ok_acons (ok_bin (ok_c fun _ => rfl) (ok_b (ok_lcons (ok_var 1) ok_lnil)) ok_r2) (ok_acons (ok_c fun _ => rfl) ok_anil))))) (by decide))))⟩
theorem sc_law_draw : FnScope ["hand", "sides", "cell", "digit", "number"] ["hand", "sides"] (defScope st_law_draw) := ⟨rfl, rfl, rfl, by decide +kernel, rfl, by decide +kernel, by decide +kernel⟩
def s_law_draw_1 : MS := (sSet 2 (mBin dIx (mBin dIx (mVar 0) (mC (.int 0))) (mBin dIx (mVar 0) (mC (.int 1)))))
def s_law_draw_2 : MS := (sAsg (mBin dAdd (mBin dIx (mVar 0) (mC (.int 1))) (mC (.int 1))) (gItem 0 (mC (.int 1))))
def s_law_draw_3 : MS := (sAsg (mBin dMod (mB dInt (lCons (mBin dAdd (mBin dAdd (mBin dMulA (mBin dIx (mVar 0) (mC (.int 3))) (mC (.int 69621))) (mBin dMulA (mVar 2) (mC (.int 16)))) (mC (.int 29))) lNil)) (mC (.int 2147483629))) (gItem 0 (mC (.int 3))))
def s_law_draw_5 : MS := (sAsg (mVar 2) (gItem 0 (mC (.int 2))))
def s_law_draw_4 : MS := (sIf (mT (mBin dGeA (mVar 2) (mBin dPow (mC (.int 10)) (mC (.int 18)))))
 s_law_draw_5
 sNx)
def s_law_draw_0 : MS := (sIf (mAndT (mT (mBin dEqA (mBin dIx (mVar 0) (mC (.int 2))) (mC (.int 0)))) (mT (mBin dLtA (mBin dIx (mVar 0) (mC (.int 1))) (mB dLen (lCons (mBin dIx (mVar 0) (mC (.int 0))) lNil)))))
 (sSeq s_law_draw_1
 (sSeq s_law_draw_2
 (sSeq s_law_draw_3
 s_law_draw_4)))
 sNx)
def s_law_draw_7 : MS := (sSet 3 (mBin dMod (mB dInt (lCons (mBin dIx (mVar 0) (mC (.int 2))) lNil)) (mVar 1)))
def s_law_draw_8 : MS := (sAsg (mBin dDiv (mBin dIx (mVar 0) (mC (.int 2))) (mVar 1)) (gItem 0 (mC (.int 2))))
def s_law_draw_9 : MS := (sRet (mVar 3))
def s_law_draw_6 : MS := (sIf (mT (mBin dGtA (mBin dIx (mVar 0) (mC (.int 2))) (mC (.int 0))))
 (sSeq s_law_draw_7
 (sSeq s_law_draw_8
 s_law_draw_9))
 sNx)
def s_law_draw_10 : MS := (sAsg (mBin dAdd (mBin dIx (mVar 0) (mC (.int 4))) (mC (.int 1))) (gItem 0 (mC (.int 4))))
def s_law_draw_11 : MS := (sSet 4 (mBin dMod (mB dInt (lCons (mBin dMulA (mB dInt (lCons (mBin dAdd (mBin dIx (mVar 0) (mC (.int 3))) (mBin dMulA (mC (.int 7919)) (mBin dIx (mVar 0) (mC (.int 4))))) lNil)) (mC (.int 48271))) lNil)) (mC (.int 2147483647))))
def s_law_draw_12 : MS := (sSet 4 (mBin dMod (mB dInt (lCons (mBin dMulA (mVar 4) (mBin dAdd (mBin dDiv (mVar 4) (mC (.int 1009))) (mC (.int 69621)))) lNil)) (mC (.int 2147483647))))
def s_law_draw_13 : MS := (sSet 4 (mBin dMod (mB dInt (lCons (mBin dMulA (mVar 4) (mBin dAdd (mBin dDiv (mVar 4) (mC (.int 2003))) (mC (.int 40692)))) lNil)) (mC (.int 2147483399))))
def s_law_draw_14 : MS := (sRet (mBin dMod (mB dInt (lCons (mBin dDiv (mVar 4) (mC (.int 16))) lNil)) (mVar 1)))
def b_law_draw : MS := (sSeq s_law_draw_0
 (sSeq s_law_draw_6
 (sSeq s_law_draw_10
 (sSeq s_law_draw_11
 (sSeq s_law_draw_12
 (sSeq s_law_draw_13
 s_law_draw_14))))))
def m_law_draw : FM := runF 5 b_law_draw
theorem ok_law_draw (T : Tx K mg fs fd C) : FnOk P w K mg base CX0 1 (fs 1) (fd 1) ["hand", "sides"] (spD (mkG P w K C) 2 m_law_draw) :=
  fn_ok (G := (mkG P w K C)) T.f_law_draw sc_law_draw rfl rfl fun cdv A outer s H E hr => ⟨_, (pss_cons (ps_if (PW.pt (pw_and (pt_cmpR (op_eqA (G := (mkG P w K C)) hr.units) (pe_ix ix_seq (pv 0) pe_int (fun _ _ => rfl)) pe_int (nomark _)) (pw_and1 (pt_cmpR (op_ltA (G := (mkG P w K C)) hr.units) (pe_ix ix_seq (pv 0) pe_int (fun _ _ => rfl)) (pe_callB (cr_len (G := (mkG P w K C))) rfl T.z_len boot_len_ (pa_cons (pe_ix ix_seq (pv 0) pe_int (fun _ _ => rfl)) pa_nil)) (nomark _)))))
 (pss_cons (ps_set (i := 2) sc_law_draw.nd rfl (Or.inl rfl) (pe_ix ix_seq (pe_ix ix_seq (pv 0) pe_int (fun _ _ => rfl)) (pe_ix ix_seq (pv 0) pe_int (fun _ _ => rfl)) (fun _ _ => rfl)))
 (pss_cons (ps_asg (pe_op (op_addD (G := (mkG P w K C))) (pe_ix ix_seq (pv 0) pe_int (fun _ _ => rfl)) pe_int) (pg_sub (pv 0) pe_int (set_any (G := (mkG P w K C)) hr.units)))
 (pss_cons (ps_asg (pe_op op_mod (pe_callTy (cr_int (G := (mkG P w K C))) rfl T.z_int boot_int_ (pa_cons (pe_op (op_addD (G := (mkG P w K C))) (pe_op (op_addD (G := (mkG P w K C))) (pe_op (op_mulD (G := (mkG P w K C))) (pe_ix ix_seq (pv 0) pe_int (fun _ _ => rfl)) pe_int) (pe_op (op_mulD (G := (mkG P w K C))) (pv 2) pe_int)) pe_int) pa_nil)) pe_int) (pg_sub (pv 0) pe_int (set_any (G := (mkG P w K C)) hr.units)))
 (pss_one (ps_if (pt_cmpR (op_geA (G := (mkG P w K C)) hr.units) (pv 2) (pe_op op_pow pe_int pe_int) (nomark _))
 (pss_one (ps_asg (pv 2) (pg_sub (pv 0) pe_int (set_any (G := (mkG P w K C)) hr.units))))
 pss_nil)))))
 pss_nil)
 (pss_cons (ps_if (pt_cmpR (op_gtA (G := (mkG P w K C)) hr.units) (pe_ix ix_seq (pv 0) pe_int (fun _ _ => rfl)) pe_int (nomark _))
 (pss_cons (ps_set (i := 3) sc_law_draw.nd rfl (Or.inl rfl) (pe_op op_mod (pe_callTy (cr_int (G := (mkG P w K C))) rfl T.z_int boot_int_ (pa_cons (pe_ix ix_seq (pv 0) pe_int (fun _ _ => rfl)) pa_nil)) (pv 1)))
 (pss_cons (ps_asg (pe_op op_fdiv (pe_ix ix_seq (pv 0) pe_int (fun _ _ => rfl)) (pv 1)) (pg_sub (pv 0) pe_int (set_any (G := (mkG P w K C)) hr.units)))
 (pss_one (ps_ret (pv 3)))))
 pss_nil)
 (pss_cons (ps_asg (pe_op (op_addD (G := (mkG P w K C))) (pe_ix ix_seq (pv 0) pe_int (fun _ _ => rfl)) pe_int) (pg_sub (pv 0) pe_int (set_any (G := (mkG P w K C)) hr.units)))
 (pss_cons (ps_set (i := 4) sc_law_draw.nd rfl (Or.inl rfl) (pe_op op_mod (pe_callTy (cr_int (G := (mkG P w K C))) rfl T.z_int boot_int_ (pa_cons (pe_op (op_mulD (G := (mkG P w K C))) (pe_callTy (cr_int (G := (mkG P w K C))) rfl T.z_int boot_int_ (pa_cons (pe_op (op_addD (G := (mkG P w K C))) (pe_ix ix_seq (pv 0) pe_int (fun _ _ => rfl)) (pe_op (op_mulD (G := (mkG P w K C))) pe_int (pe_ix ix_seq (pv 0) pe_int (fun _ _ => rfl)))) pa_nil)) pe_int) pa_nil)) pe_int))
 (pss_cons (ps_set (i := 4) sc_law_draw.nd rfl (Or.inl rfl) (pe_op op_mod (pe_callTy (cr_int (G := (mkG P w K C))) rfl T.z_int boot_int_ (pa_cons (pe_op (op_mulD (G := (mkG P w K C))) (pv 4) (pe_op (op_addD (G := (mkG P w K C))) (pe_op op_fdiv (pv 4) pe_int) pe_int)) pa_nil)) pe_int))
 (pss_cons (ps_set (i := 4) sc_law_draw.nd rfl (Or.inl rfl) (pe_op op_mod (pe_callTy (cr_int (G := (mkG P w K C))) rfl T.z_int boot_int_ (pa_cons (pe_op (op_mulD (G := (mkG P w K C))) (pv 4) (pe_op (op_addD (G := (mkG P w K C))) (pe_op op_fdiv (pv 4) pe_int) pe_int)) pa_nil)) pe_int))
 (pss_one (ps_ret (pe_op op_mod (pe_callTy (cr_int (G := (mkG P w K C))) rfl T.z_int boot_int_ (pa_cons (pe_op op_fdiv (pv 4) pe_int) pa_nil)) (pv 1)))))))))),
  (ok_seq (ok_if (ok_andT (ok_t' (ok_bin (ok_bin (ok_var 0) (ok_c fun _ => rfl) ok_ix) (ok_c fun _ => rfl) ok_r2)) (ok_t' (ok_bin (ok_bin (ok_var 0) (ok_c fun _ => rfl) ok_ix) (ok_b (ok_lcons (ok_bin (ok_var 0) (ok_c fun _ => rfl) ok_ix) ok_lnil)) ok_r2)))
 (ok_seq (ok_set (ok_bin (ok_bin (ok_var 0) (ok_c fun _ => rfl) ok_ix) (ok_bin (ok_var 0) (ok_c fun _ => rfl) ok_ix) ok_ix))
 (ok_seq (ok_asg (ok_bin (ok_bin (ok_var 0) (ok_c fun _ => rfl) ok_ix) (ok_c fun _ => rfl) ok_r2) (ok_gItem (ok_c fun _ => rfl)))
 (ok_seq (ok_asg (ok_bin (ok_b (ok_lcons (ok_bin (ok_bin (ok_bin (ok_bin (ok_var 0) (ok_c fun _ => rfl) ok_ix) (ok_c fun _ => rfl) ok_r2) (ok_bin (ok_var 2) (ok_c fun _ => rfl) ok_r2) ok_r2) (ok_c fun _ => rfl) ok_r2) ok_lnil)) (ok_c fun _ => rfl) ok_mod) (ok_gItem (ok_c fun _ => rfl)))
 (ok_if (ok_t' (ok_bin (ok_var 2) (ok_bin (ok_c fun _ => rfl) (ok_c fun _ => rfl) ok_pow) ok_r2))
 (ok_asg (ok_var 2) (ok_gItem (ok_c fun _ => rfl)))
 ok_nx))))
 ok_nx)
 (ok_seq (ok_if (ok_t' (ok_bin (ok_bin (ok_var 0) (ok_c fun _ => rfl) ok_ix) (ok_c fun _ => rfl) ok_r2))
 (ok_seq (ok_set (ok_bin (ok_b (ok_lcons (ok_bin (ok_var 0) (ok_c fun _ => rfl) ok_ix) ok_lnil)) (ok_var 1) ok_mod))
 (ok_seq (ok_asg (ok_bin (ok_bin (ok_var 0) (ok_c fun _ => rfl) ok_ix) (ok_var 1) ok_div) (ok_gItem (ok_c fun _ => rfl)))
 (ok_ret (ok_var 3))))
 ok_nx)
 (ok_seq (ok_asg (ok_bin (ok_bin (ok_var 0) (ok_c fun _ => rfl) ok_ix) (ok_c fun _ => rfl) ok_r2) (ok_gItem (ok_c fun _ => rfl)))
 (ok_seq (ok_set (ok_bin (ok_b (ok_lcons (ok_bin (ok_b (ok_lcons (ok_bin (ok_bin (ok_var 0) (ok_c fun _ => rfl) ok_ix) (ok_bin (ok_c fun _ => rfl) (ok_bin (ok_var 0) (ok_c fun _ => rfl) ok_ix) ok_r2) ok_r2) ok_lnil)) (ok_c fun _ => rfl) ok_r2) ok_lnil)) (ok_c fun _ => rfl) ok_mod))
 (ok_seq (ok_set (ok_bin (ok_b (ok_lcons (ok_bin (ok_var 4) (ok_bin (ok_bin (ok_var 4) (ok_c fun _ => rfl) ok_div) (ok_c fun _ => rfl) ok_r2) ok_r2) ok_lnil)) (ok_c fun _ => rfl) ok_mod))
 (ok_seq (ok_set (ok_bin (ok_b (ok_lcons (ok_bin (ok_var 4) (ok_bin (ok_bin (ok_var 4) (ok_c fun _ => rfl) ok_div) (ok_c fun _ => rfl) ok_r2) ok_r2) ok_lnil)) (ok_c fun _ => rfl) ok_mod))
 (ok_ret (ok_bin (ok_b (ok_lcons (ok_bin (ok_var 4) (ok_c fun _ => rfl) ok_div) ok_lnil)) (ok_var 1) ok_mod))))))))⟩
theorem sc_law_pairs : FnScope ["corners", "found", "a", "b"] ["corners"] (defScope st_law_pairs) := ⟨rfl, rfl, rfl, by decide +kernel, rfl, by decide +kernel, by decide +kernel⟩
def s_law_pairs_0 : MS := (sSet 1 (mLst aNil))
def c_law_pairs_0 : M := mLc [3] (wRng2 (aCons (mBin dAdd (mVar 2) (mC (.int 1))) (aCons (mVar 0) aNil))) (gN 3) tYesD (mTup (aCons (mVar 2) (aCons (mVar 3) aNil)))
def s_law_pairs_2 : MS := (sDrop (mExt 1 c_law_pairs_0))
def s_law_pairs_1 : MS := (sFor (wRng1 (aCons (mVar 0) aNil)) (gN 2)
 s_law_pairs_2)
def s_law_pairs_3 : MS := (sRet (mVar 1))
def b_law_pairs : MS := (sSeq s_law_pairs_0
 (sSeq s_law_pairs_1
 s_law_pairs_3))
def m_law_pairs : FM := runF 4 b_law_pairs
theorem ok_law_pairs (T : Tx K mg fs fd C) : FnOk P w K mg base CX0 1 (fs 2) (fd 2) ["corners"] (spD (mkG P w K C) 1 m_law_pairs) :=
  fn_ok (G := (mkG P w K C)) T.f_law_pairs sc_law_pairs rfl rfl fun cdv A outer s H E hr => ⟨_, (pss_cons (ps_set (i := 1) sc_law_pairs.nd rfl (Or.inl rfl) (pe_lst pa_nil))
 (pss_cons (ps_for PassesOwn.never rfl (pi_range1 rfl T.z_range (pa_cons (pv 0) pa_nil)) (pg_name (i := 2) sc_law_pairs.nd rfl (Or.inr rfl))
 (pss_one (ps_expr (pe_bm PySem.F.plainAttrs_list PySem.F.slot_list_extend PySem.F.type_list_extend mt_extend (pv 1) (pa_cons (pe_lc (own := [("b", 3)])   rfl sc_law_pairs.nd (pi_range2 rfl T.z_range (pa_cons (pe_op (op_addD (G := (mkG P w K C))) (pv 2) pe_int) (pa_cons (pv 0) pa_nil))) (blkOk_by (N := ["corners", "found", "a", "b"]) (sc := defScope st_law_pairs) (by decide +kernel)) (fun _ _ _ _ _ => (pg_name (i := 3) sc_law_pairs.nd rfl (Or.inl rfl))) (fun _ _ _ _ _ => pts_nil) (fun _ _ _ _ _ => (pe_tup (pa_cons (pv 2) (pa_cons (pv 3) pa_nil))))) pa_nil)))))
 (pss_one (ps_ret (pv 1))))),
  (ok_seq (ok_set (ok_lst ok_anil (by decide)))
 (ok_seq (ok_for (ok_wRng1 (ok_acons (ok_var 0) ok_anil)) ok_gN
 (ok_drop (ok_ext (ok_lc (ok_wRng2 (ok_acons (ok_bin (ok_var 2) (ok_c fun _ => rfl) ok_r2) (ok_acons (ok_var 0) ok_anil))) (ok_vN (by decide)) ok_yes (ok_tup (ok_acons (ok_var 2) (ok_acons (ok_var 3) ok_anil)) (by decide))))))
 (ok_ret (ok_var 1))))⟩
theorem sc_law_lines : FnScope ["hand", "corners", "kind", "often", "found", "line", "b"] ["hand", "corners"] (defScope st_law_lines) := ⟨rfl, rfl, rfl, by decide +kernel, rfl, by decide +kernel, by decide +kernel⟩
def s_law_lines_0 : MS := (sPar [2, 3] (rCons (mCall m_law_draw (cIo 0 (cVal (mC (.int 4)) cNil))) (rCons (mBin dAdd (mC (.int 2)) (mCall m_law_draw (cIo 0 (cVal (mC (.int 3)) cNil)))) rNil)))
def c_law_lines_0 : M := mLc [5] (wSeq (mCall m_law_pairs (cVal (mVar 1) cNil))) (gN 5) (mT (mBin dNeA (mBin dEqA (mCall m_law_draw (cIo 0 (cVal (mVar 3) cNil))) (mC (.int 0))) (mBin dEqA (mVar 2) (mC (.int 1))))) (mVar 5)
def s_law_lines_1 : MS := (sSet 4 c_law_lines_0)
def c_law_lines_1 : M := mLc [6] (wRng2 (aCons (mC (.int 1)) (aCons (mVar 1) aNil))) (gN 6) tYesD (mTup (aCons (mCall m_law_draw (cIo 0 (cVal (mVar 6) cNil))) (aCons (mVar 6) aNil)))
def s_law_lines_3 : MS := (sDrop (mExt 4 c_law_lines_1))
def s_law_lines_2 : MS := (sIf (mT (mBin dGtA (mVar 2) (mC (.int 1))))
 s_law_lines_3
 sNx)
def s_law_lines_4 : MS := (sRet (mB dTuple (lCons (mB dSortedA (lCons (mB dSetT (lCons (mVar 4) lNil)) lNil)) lNil)))
def b_law_lines : MS := (sSeq s_law_lines_0
 (sSeq s_law_lines_1
 (sSeq s_law_lines_2
 s_law_lines_4)))
def m_law_lines : FM := runF 7 b_law_lines
theorem ok_law_lines (T : Tx K mg fs fd C) : FnOk P w K mg base CX0 2 (fs 3) (fd 3) ["hand", "corners"] (spD (mkG P w K C) 2 m_law_lines) :=
  fn_ok (G := (mkG P w K C)) T.f_law_lines sc_law_lines rfl rfl fun cdv A outer s H E hr => ⟨_, (pss_cons (ps_asg (pe_tup (pa_cons (pe_call (ok_law_draw T) (hr.mono (by decide)) rfl T.m_law_draw T.k_law_draw T.b_law_draw .nil pass0 (pa_cons (pv 0) (pa_cons pe_int pa_nil))) (pa_cons (pe_op (op_addD (G := (mkG P w K C))) pe_int (pe_call (ok_law_draw T) (hr.mono (by decide)) rfl T.m_law_draw T.k_law_draw T.b_law_draw .nil pass0 (pa_cons (pv 0) (pa_cons pe_int pa_nil)))) pa_nil))) (pg_tup rfl (pgs_cons (pg_name (i := 2) sc_law_lines.nd rfl (Or.inr rfl)) (pgs_cons (pg_name (i := 3) sc_law_lines.nd rfl (Or.inr rfl)) pgs_nil))))
 (pss_cons (ps_setLc (i := 4) (own := [("line", 5)]) rfl sc_law_lines.nd rfl rfl (sw_true rfl rfl rfl (by decide +kernel)) (pi_seq (pe_call (ok_law_pairs T) (hr.mono (by decide)) rfl T.m_law_pairs T.k_law_pairs T.b_law_pairs .nil pass0 (pa_cons (pv 1) pa_nil))) (blkOk_by (N := ["hand", "corners", "kind", "often", "found", "line", "b"]) (sc := defScope st_law_lines) (by decide +kernel)) (fun _ _ _ _ _ => (pg_name (i := 5) sc_law_lines.nd rfl (Or.inl rfl))) (fun _ _ _ _ _ => pts_one (pt_cmpR (op_neA (G := (mkG P w K C)) hr.units) (pe_cmpR (op_eqA (G := (mkG P w K C)) hr.units) (pe_call (ok_law_draw T) (hr.mono (by decide)) rfl T.m_law_draw T.k_law_draw T.b_law_draw .nil pass0 (pa_cons (pv 0) (pa_cons (pv 3) pa_nil))) pe_int (nomark _)) (pe_cmpR (op_eqA (G := (mkG P w K C)) hr.units) (pv 2) pe_int (nomark _)) (nomark _))) (fun _ _ _ _ _ => (pv 5)))
 (pss_cons (ps_if (pt_cmpR (op_gtA (G := (mkG P w K C)) hr.units) (pv 2) pe_int (nomark _))
 (pss_one (ps_expr (pe_bm PySem.F.plainAttrs_list PySem.F.slot_list_extend PySem.F.type_list_extend mt_extend (pv 4) (pa_cons (pe_lc (own := [("b", 6)])   rfl sc_law_lines.nd (pi_range2 rfl T.z_range (pa_cons pe_int (pa_cons (pv 1) pa_nil))) (blkOk_by (N := ["hand", "corners", "kind", "often", "found", "line", "b"]) (sc := defScope st_law_lines) (by decide +kernel)) (fun _ _ _ _ _ => (pg_name (i := 6) sc_law_lines.nd rfl (Or.inl rfl))) (fun _ _ _ _ _ => pts_nil) (fun _ _ _ _ _ => (pe_tup (pa_cons (pe_call (ok_law_draw T) (hr.mono (by decide)) rfl T.m_law_draw T.k_law_draw T.b_law_draw .nil pass0 (pa_cons (pv 0) (pa_cons (pv 6) pa_nil))) (pa_cons (pv 6) pa_nil))))) pa_nil))))
 pss_nil)
 (pss_one (ps_ret (pe_callTy (cr_tuple (G := (mkG P w K C))) rfl T.z_tuple boot_tuple_ (pa_cons (pe_callB (cr_sortedA rfl (u66 hr) (G := (mkG P w K C))) rfl T.z_sorted boot_sorted_ (pa_cons (pe_callTy (cr_setT rfl hr.units (G := (mkG P w K C))) rfl T.z_set boot_set_ (pa_cons (pv 4) pa_nil)) pa_nil)) pa_nil))))))),
  (ok_seq (ok_parT (ok_rcons (ok_call (ok_cio (i := 0) (ok_cval (ok_c fun _ => rfl) ok_cnil)) rfl) (ok_rcons (ok_bin (ok_c fun _ => rfl) (ok_call (ok_cio (i := 0) (ok_cval (ok_c fun _ => rfl) ok_cnil)) rfl) ok_r2) ok_rnil)) (by decide) (gs_namesC (gs_namesC gs_names)))
 (ok_seq (ok_set (ok_lc (ok_wSeq (ok_call (ok_cval (ok_var 1) ok_cnil) rfl)) (ok_vN (by decide)) (ok_t' (ok_bin (ok_bin (ok_call (ok_cio (i := 0) (ok_cval (ok_var 3) ok_cnil)) rfl) (ok_c fun _ => rfl) ok_r2) (ok_bin (ok_var 2) (ok_c fun _ => rfl) ok_r2) ok_r2)) (ok_var 5)))
 (ok_seq (ok_if (ok_t' (ok_bin (ok_var 2) (ok_c fun _ => rfl) ok_r2))
 (ok_drop (ok_ext (ok_lc (ok_wRng2 (ok_acons (ok_c fun _ => rfl) (ok_acons (ok_var 1) ok_anil))) (ok_vN (by decide)) ok_yes (ok_tup (ok_acons (ok_call (ok_cio (i := 0) (ok_cval (ok_var 6) ok_cnil)) rfl) (ok_acons (ok_var 6) ok_anil)) (by decide)))))
 ok_nx)
 (ok_ret (ok_b (ok_lcons (ok_b (ok_lcons (ok_b (ok_lcons (ok_var 4) ok_lnil)) ok_lnil)) ok_lnil))))))⟩
theorem sc_law_tuples : FnScope ["size", "least", "most", "found", "turn", "longer", "row", "one"] ["size", "least", "most"] (defScope st_law_tuples) := ⟨rfl, rfl, rfl, by decide +kernel, rfl, by decide +kernel, by decide +kernel⟩
def s_law_tuples_0 : MS := (sSet 3 (mLst (aCons (mTup aNil) aNil)))
def s_law_tuples_2 : MS := (sSet 5 (mLst aNil))
def c_law_tuples_0 : M := mLc [7] (wRng2 (aCons (mVar 1) (aCons (mBin dAdd (mVar 2) (mC (.int 1))) aNil))) (gN 7) tYesD (mBin dAdd (mVar 6) (mTup (aCons (mVar 7) aNil)))
def s_law_tuples_4 : MS := (sDrop (mExt 5 c_law_tuples_0))
def s_law_tuples_3 : MS := (sFor (wSeq (mVar 3)) (gN 6)
 s_law_tuples_4)
def s_law_tuples_5 : MS := (sSet 3 (mVar 5))
def s_law_tuples_1 : MS := (sFor (wRng1 (aCons (mVar 0) aNil)) (gN 4)
 (sSeq s_law_tuples_2
 (sSeq s_law_tuples_3
 s_law_tuples_5)))
def s_law_tuples_6 : MS := (sRet (mVar 3))
def b_law_tuples : MS := (sSeq s_law_tuples_0
 (sSeq s_law_tuples_1
 s_law_tuples_6))
def m_law_tuples : FM := runF 8 b_law_tuples
theorem ok_law_tuples (T : Tx K mg fs fd C) : FnOk P w K mg base CX0 1 (fs 4) (fd 4) ["size", "least", "most"] (spD (mkG P w K C) 3 m_law_tuples) :=
  fn_ok (G := (mkG P w K C)) T.f_law_tuples sc_law_tuples rfl rfl fun cdv A outer s H E hr => ⟨_, (pss_cons (ps_set (i := 3) sc_law_tuples.nd rfl (Or.inl rfl) (pe_lst (pa_cons (pe_tup pa_nil) pa_nil)))
 (pss_cons (ps_for PassesOwn.never rfl (pi_range1 rfl T.z_range (pa_cons (pv 0) pa_nil)) (pg_name (i := 4) sc_law_tuples.nd rfl (Or.inl rfl))
 (pss_cons (ps_set (i := 5) sc_law_tuples.nd rfl (Or.inl rfl) (pe_lst pa_nil))
 (pss_cons (ps_for PassesOwn.never rfl (pi_seq (pv 3)) (pg_name (i := 6) sc_law_tuples.nd rfl (Or.inr rfl))
 (pss_one (ps_expr (pe_bm PySem.F.plainAttrs_list PySem.F.slot_list_extend PySem.F.type_list_extend mt_extend (pv 5) (pa_cons (pe_lc (own := [("one", 7)])   rfl sc_law_tuples.nd (pi_range2 rfl T.z_range (pa_cons (pv 1) (pa_cons (pe_op (op_addD (G := (mkG P w K C))) (pv 2) pe_int) pa_nil))) (blkOk_by (N := ["size", "least", "most", "found", "turn", "longer", "row", "one"]) (sc := defScope st_law_tuples) (by decide +kernel)) (fun _ _ _ _ _ => (pg_name (i := 7) sc_law_tuples.nd rfl (Or.inl rfl))) (fun _ _ _ _ _ => pts_nil) (fun _ _ _ _ _ => (pe_op (op_addD (G := (mkG P w K C))) (pv 6) (pe_tup (pa_cons (pv 7) pa_nil))))) pa_nil)))))
 (pss_one (ps_set (i := 3) sc_law_tuples.nd rfl (Or.inl rfl) (pv 5))))))
 (pss_one (ps_ret (pv 3))))),
  (ok_seq (ok_set (ok_lst (ok_acons (ok_tup ok_anil (by decide)) ok_anil) (by decide)))
 (ok_seq (ok_for (ok_wRng1 (ok_acons (ok_var 0) ok_anil)) ok_gN
 (ok_seq (ok_set (ok_lst ok_anil (by decide)))
 (ok_seq (ok_for (ok_wSeq (ok_var 3)) ok_gN
 (ok_drop (ok_ext (ok_lc (ok_wRng2 (ok_acons (ok_var 1) (ok_acons (ok_bin (ok_var 2) (ok_c fun _ => rfl) ok_r2) ok_anil))) (ok_vN (by decide)) ok_yes (ok_bin (ok_var 6) (ok_tup (ok_acons (ok_var 7) ok_anil) (by decide)) ok_r2)))))
 (ok_set (ok_var 5)))))
 (ok_ret (ok_var 3))))⟩
theorem sc_law_orders : FnScope ["numbers", "found", "turn", "longer", "order", "one"] ["numbers"] (defScope st_law_orders) := ⟨rfl, rfl, rfl, by decide +kernel, rfl, by decide +kernel, by decide +kernel⟩
def s_law_orders_0 : MS := (sSet 1 (mLst (aCons (mTup aNil) aNil)))
def s_law_orders_2 : MS := (sSet 3 (mLst aNil))
def c_law_orders_0 : M := mLc [5] (wSeq (mVar 0)) (gN 5) (mT (mBin dNotInB (mVar 5) (mVar 4))) (mBin dAdd (mVar 4) (mTup (aCons (mVar 5) aNil)))
def s_law_orders_4 : MS := (sDrop (mExt 3 c_law_orders_0))
def s_law_orders_3 : MS := (sFor (wSeq (mVar 1)) (gN 4)
 s_law_orders_4)
def s_law_orders_5 : MS := (sSet 1 (mVar 3))
def s_law_orders_1 : MS := (sFor (wRng1 (aCons (mB dLen (lCons (mVar 0) lNil)) aNil)) (gN 2)
 (sSeq s_law_orders_2
 (sSeq s_law_orders_3
 s_law_orders_5)))
def s_law_orders_6 : MS := (sRet (mVar 1))
def b_law_orders : MS := (sSeq s_law_orders_0
 (sSeq s_law_orders_1
 s_law_orders_6))
def m_law_orders : FM := runF 6 b_law_orders
theorem ok_law_orders (T : Tx K mg fs fd C) : FnOk P w K mg base CX0 1 (fs 5) (fd 5) ["numbers"] (spD (mkG P w K C) 1 m_law_orders) :=
  fn_ok (G := (mkG P w K C)) T.f_law_orders sc_law_orders rfl rfl fun cdv A outer s H E hr => ⟨_, (pss_cons (ps_set (i := 1) sc_law_orders.nd rfl (Or.inl rfl) (pe_lst (pa_cons (pe_tup pa_nil) pa_nil)))
 (pss_cons (ps_for PassesOwn.never rfl (pi_range1 rfl T.z_range (pa_cons (pe_callB (cr_len (G := (mkG P w K C))) rfl T.z_len boot_len_ (pa_cons (pv 0) pa_nil)) pa_nil)) (pg_name (i := 2) sc_law_orders.nd rfl (Or.inl rfl))
 (pss_cons (ps_set (i := 3) sc_law_orders.nd rfl (Or.inl rfl) (pe_lst pa_nil))
 (pss_cons (ps_for PassesOwn.never rfl (pi_seq (pv 1)) (pg_name (i := 4) sc_law_orders.nd rfl (Or.inr rfl))
 (pss_one (ps_expr (pe_bm PySem.F.plainAttrs_list PySem.F.slot_list_extend PySem.F.type_list_extend mt_extend (pv 3) (pa_cons (pe_lc (own := [("one", 5)])   rfl sc_law_orders.nd (pi_seq (pv 0)) (blkOk_by (N := ["numbers", "found", "turn", "longer", "order", "one"]) (sc := defScope st_law_orders) (by decide +kernel)) (fun _ _ _ _ _ => (pg_name (i := 5) sc_law_orders.nd rfl (Or.inl rfl))) (fun _ _ _ _ _ => pts_one (pt_cmpR (op_notInB (G := (mkG P w K C)) (u65 hr)) (pv 5) (pv 4) (by with_unfolding_all rfl))) (fun _ _ _ _ _ => (pe_op (op_addD (G := (mkG P w K C))) (pv 4) (pe_tup (pa_cons (pv 5) pa_nil))))) pa_nil)))))
 (pss_one (ps_set (i := 1) sc_law_orders.nd rfl (Or.inl rfl) (pv 3))))))
 (pss_one (ps_ret (pv 1))))),
  (ok_seq (ok_set (ok_lst (ok_acons (ok_tup ok_anil (by decide)) ok_anil) (by decide)))
 (ok_seq (ok_for (ok_wRng1 (ok_acons (ok_b (ok_lcons (ok_var 0) ok_lnil)) ok_anil)) ok_gN
 (ok_seq (ok_set (ok_lst ok_anil (by decide)))
 (ok_seq (ok_for (ok_wSeq (ok_var 1)) ok_gN
 (ok_drop (ok_ext (ok_lc (ok_wSeq (ok_var 0)) (ok_vN (by decide)) (ok_t' (ok_bin (ok_var 5) (ok_var 4) ok_r2)) (ok_bin (ok_var 4) (ok_tup (ok_acons (ok_var 5) ok_anil) (by decide)) ok_r2)))))
 (ok_set (ok_var 3)))))
 (ok_ret (ok_var 1))))⟩
theorem sc_differences : FnScope ["web", "told", "many", "a", "b"] ["web", "told"] (defScope st_differences) := ⟨rfl, rfl, rfl, by decide +kernel, rfl, by decide +kernel, by decide +kernel⟩
def s_differences_0 : MS := (sSet 2 (mB dLen (lCons (mVar 1) lNil)))
def c_differences_0 : M := mLc [3, 4] (wSeq (mFld 0 1 (mVar 0))) (gT 2 (gsC (gN 3) (gsC (gN 4) gsN))) (mT (mBin dLtA (mVar 4) (mVar 2))) (mB dAbs (lCons (mBin dSub (mBin dIxA (mVar 1) (mVar 3)) (mBin dIxA (mVar 1) (mVar 4))) lNil))
def s_differences_1 : MS := (sRet c_differences_0)
def b_differences : MS := (sSeq s_differences_0
 s_differences_1)
def m_differences : FM := runF 5 b_differences
theorem ok_differences (T : Tx K mg fs fd C) : FnOk P w K mg base CX0 1 (fs 6) (fd 6) ["web", "told"] (spD (mkG P w K C) 2 m_differences) :=
  fn_ok (G := (mkG P w K C)) T.f_differences sc_differences rfl rfl fun cdv A outer s H E hr => ⟨_, (pss_cons (ps_set (i := 2) sc_differences.nd rfl (Or.inr rfl) (pe_callB (cr_len (G := (mkG P w K C))) rfl T.z_len boot_len_ (pa_cons (pv 1) pa_nil)))
 (pss_one (ps_ret (pe_lc (own := [("a", 3), ("b", 4)])   rfl sc_differences.nd (pi_seq (pe_fld (pv 0) rfl)) (blkOk_by (N := ["web", "told", "many", "a", "b"]) (sc := defScope st_differences) (by decide +kernel)) (fun _ _ _ _ _ => (pg_tup rfl (pgs_cons (pg_name (i := 3) sc_differences.nd rfl (Or.inl rfl)) (pgs_cons (pg_name (i := 4) sc_differences.nd rfl (Or.inl rfl)) pgs_nil)))) (fun _ _ _ _ _ => pts_one (pt_cmpR (op_ltA (G := (mkG P w K C)) hr.units) (pv 4) (pv 2) (nomark _))) (fun _ _ _ _ _ => (pe_callB (cr_abs (G := (mkG P w K C))) rfl T.z_abs boot_abs_ (pa_cons (pe_op op_sub (pe_ix (ix_A (G := (mkG P w K C)) hr.units) (pv 1) (pv 3) (fun _ _ => rfl)) (pe_ix (ix_A (G := (mkG P w K C)) hr.units) (pv 1) (pv 4) (fun _ _ => rfl))) pa_nil))))))),
  (ok_seq (ok_set (ok_b (ok_lcons (ok_var 1) ok_lnil)))
 (ok_ret (ok_lc (ok_wSeq (ok_fld (T.fl_lines P w) (ok_var 0))) (ok_vT (ok_vsC (ok_vN (by decide)) (ok_vsC (ok_vN (by decide)) ok_vsN))) (ok_t' (ok_bin (ok_var 4) (ok_var 2) ok_r2)) (ok_b (ok_lcons (ok_bin (ok_bin (ok_var 1) (ok_var 3) ok_r2) (ok_bin (ok_var 1) (ok_var 4) ok_r2) ok_sub) ok_lnil)))))⟩
theorem sc_graceful_on : FnScope ["web", "told", "some", "number", "found"] ["web", "told"] (defScope st_graceful_on) := ⟨rfl, rfl, rfl, by decide +kernel, rfl, by decide +kernel, by decide +kernel⟩
def s_graceful_on_0 (rf : FM) : MS := (sSet 2 (mCall m_differences (cVal (mVar 0) (cVal (mVar 1) cNil))))
def s_graceful_on_2 (rf : FM) : MS := (sRet (mC .non))
def s_graceful_on_1 (rf : FM) : MS := (sIf (mT (mBin dLtA (mB dLenSet (lCons (mVar 2) lNil)) (mB dLen (lCons (mVar 2) lNil))))
 (s_graceful_on_2 rf)
 sNx)
def s_graceful_on_4 (rf : FM) : MS := (sRet (mVar 1))
def s_graceful_on_3 (rf : FM) : MS := (sIf (mT (mBin dEqA (mB dLen (lCons (mVar 1) lNil)) (mFld 0 0 (mVar 0))))
 (s_graceful_on_4 rf)
 sNx)
def s_graceful_on_7 (rf : FM) : MS := (sSet 4 (mCall rf (cVal (mVar 0) (cVal (mBin dAdd (mVar 1) (mTup (aCons (mVar 3) aNil))) cNil))))
def s_graceful_on_9 (rf : FM) : MS := (sRet (mVar 4))
def s_graceful_on_8 (rf : FM) : MS := (sIf (mT (mBin dNotN (mVar 4) (mC .non)))
 (s_graceful_on_9 rf)
 sNx)
def s_graceful_on_6 (rf : FM) : MS := (sIf (mT (mBin dNotInB (mVar 3) (mVar 1)))
 (sSeq (s_graceful_on_7 rf)
 (s_graceful_on_8 rf))
 sNx)
def s_graceful_on_5 (rf : FM) : MS := (sFor (wRng1 (aCons (mBin dAdd (mB dLen (lCons (mFld 0 1 (mVar 0)) lNil)) (mC (.int 1))) aNil)) (gN 3)
 (s_graceful_on_6 rf))
def s_graceful_on_10 (rf : FM) : MS := (sRet (mC .non))
def b_graceful_on (rf : FM) : MS := (sSeq (s_graceful_on_0 rf)
 (sSeq (s_graceful_on_1 rf)
 (sSeq (s_graceful_on_3 rf)
 (sSeq (s_graceful_on_5 rf)
 (s_graceful_on_10 rf)))))
def m_graceful_on : Nat → FM
  | 0 => fun _ => none
  | z + 1 => runF 5 (b_graceful_on (m_graceful_on z))
theorem ok_graceful_on (T : Tx K mg fs fd C) : ∀ z : Nat, FnOk P w K mg base CX0 (2 + z) (fs 7) (fd 7) ["web", "told"] (spD (mkG P w K C) 2 (m_graceful_on z))
  | 0 => fn_none (G := (mkG P w K C))
  | z + 1 => by
    have ih := ok_graceful_on T z
    exact fn_ok (G := (mkG P w K C)) T.f_graceful_on sc_graceful_on rfl rfl fun cdv A outer s H E hr => ⟨_, (pss_cons (ps_set (i := 2) sc_graceful_on.nd rfl (Or.inl rfl) (pe_call (ok_differences T) (hr.mono (by (try simp only [Nat.add_eq]); omega)) rfl T.m_differences T.k_differences T.b_differences .nil pass0 (pa_cons (pv 0) (pa_cons (pv 1) pa_nil))))
 (pss_cons (ps_if (pt_cmpR (op_ltA (G := (mkG P w K C)) hr.units) (pe_lenSet (G := (mkG P w K C)) rfl T.z_len rfl T.z_set (pv 2) rfl hr.units) (pe_callB (cr_len (G := (mkG P w K C))) rfl T.z_len boot_len_ (pa_cons (pv 2) pa_nil)) (nomark _))
 (pss_one (ps_ret pe_non))
 pss_nil)
 (pss_cons (ps_if (pt_cmpR (op_eqA (G := (mkG P w K C)) hr.units) (pe_callB (cr_len (G := (mkG P w K C))) rfl T.z_len boot_len_ (pa_cons (pv 1) pa_nil)) (pe_fld (pv 0) rfl) (nomark _))
 (pss_one (ps_ret (pv 1)))
 pss_nil)
 (pss_cons (ps_for PassesOwn.never rfl (pi_range1 rfl T.z_range (pa_cons (pe_op (op_addD (G := (mkG P w K C))) (pe_callB (cr_len (G := (mkG P w K C))) rfl T.z_len boot_len_ (pa_cons (pe_fld (pv 0) rfl) pa_nil)) pe_int) pa_nil)) (pg_name (i := 3) sc_graceful_on.nd rfl (Or.inl rfl))
 (pss_one (ps_if (pt_cmpR (op_notInB (G := (mkG P w K C)) (u65 hr)) (pv 3) (pv 1) (by with_unfolding_all rfl))
 (pss_cons (ps_set (i := 4) sc_graceful_on.nd rfl (Or.inl rfl) (pe_call ih (hr.mono (by (try simp only [Nat.add_eq]); omega)) rfl T.m_graceful_on T.k_graceful_on T.b_graceful_on .nil pass0 (pa_cons (pv 0) (pa_cons (pe_op (op_addD (G := (mkG P w K C))) (pv 1) (pe_tup (pa_cons (pv 3) pa_nil))) pa_nil))))
 (pss_one (ps_if (pt_cmpR op_notN (pv 4) pe_non (nomark _))
 (pss_one (ps_ret (pv 4)))
 pss_nil)))
 pss_nil)))
 (pss_one (ps_ret pe_non)))))),
  (ok_seq (ok_set (ok_call (ok_cval (ok_var 0) (ok_cval (ok_var 1) ok_cnil)) rfl))
 (ok_seq (ok_if (ok_t' (ok_bin (ok_b (ok_lcons (ok_var 2) ok_lnil)) (ok_b (ok_lcons (ok_var 2) ok_lnil)) ok_r2))
 (ok_ret (ok_c fun _ => rfl))
 ok_nx)
 (ok_seq (ok_if (ok_t' (ok_bin (ok_b (ok_lcons (ok_var 1) ok_lnil)) (ok_fld (T.fl_corners P w) (ok_var 0)) ok_r2))
 (ok_ret (ok_var 1))
 ok_nx)
 (ok_seq (ok_for (ok_wRng1 (ok_acons (ok_bin (ok_b (ok_lcons (ok_fld (T.fl_lines P w) (ok_var 0)) ok_lnil)) (ok_c fun _ => rfl) ok_r2) ok_anil)) ok_gN
 (ok_if (ok_t' (ok_bin (ok_var 3) (ok_var 1) ok_r2))
 (ok_seq (ok_set (ok_call (ok_cval (ok_var 0) (ok_cval (ok_bin (ok_var 1) (ok_tup (ok_acons (ok_var 3) ok_anil) (by decide)) ok_r2) ok_cnil)) rfl))
 (ok_if (ok_t' (ok_bin (ok_var 4) (ok_c fun _ => rfl) ok_notN))
 (ok_ret (ok_var 4))
 ok_nx))
 ok_nx))
 (ok_ret (ok_c fun _ => rfl))))))⟩
theorem sc_graceful : FnScope ["web"] ["web"] (defScope st_graceful) := ⟨rfl, rfl, rfl, by decide +kernel, rfl, by decide +kernel, by decide +kernel⟩
def s_graceful_1 : MS := sNo
def s_graceful_0 : MS := (sIf (mT (mBin dGtA (mB dLen (lCons (mFld 0 1 (mVar 0)) lNil)) (mC (.int 8))))
 s_graceful_1
 sNx)
def s_graceful_2 : MS := (sRet (mCall (m_graceful_on 9) (cVal (mVar 0) (cVal (mTup aNil) cNil))))
def b_graceful : MS := (sSeq s_graceful_0
 s_graceful_2)
def m_graceful : FM := runF 1 b_graceful
theorem ok_graceful (T : Tx K mg fs fd C) : FnOk P w K mg base CX0 12 (fs 8) (fd 8) ["web"] (spD (mkG P w K C) 1 m_graceful) :=
  fn_ok (G := (mkG P w K C)) T.f_graceful sc_graceful rfl rfl fun cdv A outer s H E hr => ⟨_, (pss_cons (ps_if (pt_cmpR (op_gtA (G := (mkG P w K C)) hr.units) (pe_callB (cr_len (G := (mkG P w K C))) rfl T.z_len boot_len_ (pa_cons (pe_fld (pv 0) rfl) pa_nil)) (pe_glob (v := .int 8) rfl T.c_MOST_GRACEFUL.choose_spec ⟨_, rfl⟩) (nomark _))
 (pss_one ps_never)
 pss_nil)
 (pss_one (ps_ret (pe_call (ok_graceful_on T 9) (hr.mono (by decide)) rfl T.m_graceful_on T.k_graceful_on T.b_graceful_on .nil pass0 (pa_cons (pv 0) (pa_cons (pe_tup pa_nil) pa_nil)))))),
  (ok_seq (ok_if (ok_t' (ok_bin (ok_b (ok_lcons (ok_fld (T.fl_lines P w) (ok_var 0)) ok_lnil)) (ok_c fun _ => rfl) ok_r2))
 ok_no
 ok_nx)
 (ok_ret (ok_call (ok_cval (ok_var 0) (ok_cval (ok_tup ok_anil (by decide)) ok_cnil)) rfl)))⟩
theorem sc_sums_at : FnScope ["web", "told", "found", "a", "numbers", "at", "line"] ["web", "told"] (defScope st_sums_at) := ⟨rfl, rfl, rfl, by decide +kernel, rfl, by decide +kernel, by decide +kernel⟩
def s_sums_at_0 : MS := (sSet 2 (mLst aNil))
def c_sums_at_0 : M := mLc [5, 6] (wEnumB (aCons (mFld 0 1 (mVar 0)) aNil)) (gT 2 (gsC (gN 5) (gsC (gN 6) gsN))) (mT (mBin dInB (mVar 3) (mVar 6))) (mVar 5)
def s_sums_at_2 : MS := (sSet 4 c_sums_at_0)
def c_sums_at_1 : M := mLc [5] (wSeq (mVar 4)) (gN 5) tYesD (mBin dLtA (mVar 5) (mB dLen (lCons (mVar 1) lNil)))
def c_sums_at_2 : M := mLc [5] (wSeq (mVar 4)) (gN 5) tYesD (mBin dIxA (mVar 1) (mVar 5))
def s_sums_at_4 : MS := (sDrop (mApp 2 (mB dSumA (lCons c_sums_at_2 lNil))))
def s_sums_at_3 : MS := (sIf (mT (mB dAll (lCons c_sums_at_1 lNil)))
 s_sums_at_4
 sNx)
def s_sums_at_1 : MS := (sFor (wRng1 (aCons (mFld 0 0 (mVar 0)) aNil)) (gN 3)
 (sSeq s_sums_at_2
 s_sums_at_3))
def s_sums_at_5 : MS := (sRet (mVar 2))
def b_sums_at : MS := (sSeq s_sums_at_0
 (sSeq s_sums_at_1
 s_sums_at_5))
def m_sums_at : FM := runF 7 b_sums_at
theorem ok_sums_at (T : Tx K mg fs fd C) : FnOk P w K mg base CX0 1 (fs 9) (fd 9) ["web", "told"] (spD (mkG P w K C) 2 m_sums_at) :=
  fn_ok (G := (mkG P w K C)) T.f_sums_at sc_sums_at rfl rfl fun cdv A outer s H E hr => ⟨_, (pss_cons (ps_set (i := 2) sc_sums_at.nd rfl (Or.inl rfl) (pe_lst pa_nil))
 (pss_cons (ps_for PassesOwn.never rfl (pi_range1 rfl T.z_range (pa_cons (pe_fld (pv 0) rfl) pa_nil)) (pg_name (i := 3) sc_sums_at.nd rfl (Or.inr rfl))
 (pss_cons (ps_setLc (i := 4) (own := [("at", 5), ("line", 6)]) rfl sc_sums_at.nd rfl rfl (sw_true rfl rfl rfl (by decide +kernel)) (pi_enumB rfl T.z_enumerate (pa_cons (pe_fld (pv 0) rfl) pa_nil)) (blkOk_by (N := ["web", "told", "found", "a", "numbers", "at", "line"]) (sc := defScope st_sums_at) (by decide +kernel)) (fun _ _ _ _ _ => (pg_tup rfl (pgs_cons (pg_name (i := 5) sc_sums_at.nd rfl (Or.inl rfl)) (pgs_cons (pg_name (i := 6) sc_sums_at.nd rfl (Or.inl rfl)) pgs_nil)))) (fun _ _ _ _ _ => pts_one (pt_cmpR (op_inB (G := (mkG P w K C)) (u65 hr)) (pv 3) (pv 6) (by with_unfolding_all rfl))) (fun _ _ _ _ _ => (pv 5)))
 (pss_one (ps_if (pt_val (pe_callB (cr_allD rfl (G := (mkG P w K C))) rfl T.z_all boot_all_ (pa_cons (pe_lc (own := [("at", 5)])   rfl sc_sums_at.nd (pi_seq (pv 4)) (blkOk_by (N := ["web", "told", "found", "a", "numbers", "at", "line"]) (sc := defScope st_sums_at) (by decide +kernel)) (fun _ _ _ _ _ => (pg_name (i := 5) sc_sums_at.nd rfl (Or.inl rfl))) (fun _ _ _ _ _ => pts_nil) (fun _ _ _ _ _ => (pe_cmpR (op_ltA (G := (mkG P w K C)) hr.units) (pv 5) (pe_callB (cr_len (G := (mkG P w K C))) rfl T.z_len boot_len_ (pa_cons (pv 1) pa_nil)) (nomark _)))) pa_nil)))
 (pss_one (ps_expr (pe_bm PySem.F.plainAttrs_list PySem.F.slot_list_append PySem.F.type_list_append mt_append (pv 2) (pa_cons (pe_callB (cr_sumA rfl (G := (mkG P w K C))) rfl T.z_sum boot_sum_ (pa_cons (pe_lc (own := [("at", 5)])   rfl sc_sums_at.nd (pi_seq (pv 4)) (blkOk_by (N := ["web", "told", "found", "a", "numbers", "at", "line"]) (sc := defScope st_sums_at) (by decide +kernel)) (fun _ _ _ _ _ => (pg_name (i := 5) sc_sums_at.nd rfl (Or.inl rfl))) (fun _ _ _ _ _ => pts_nil) (fun _ _ _ _ _ => (pe_ix (ix_A (G := (mkG P w K C)) hr.units) (pv 1) (pv 5) (fun _ _ => rfl)))) pa_nil)) pa_nil))))
 pss_nil))))
 (pss_one (ps_ret (pv 2))))),
  (ok_seq (ok_set (ok_lst ok_anil (by decide)))
 (ok_seq (ok_for (ok_wRng1 (ok_acons (ok_fld (T.fl_corners P w) (ok_var 0)) ok_anil)) ok_gN
 (ok_seq (ok_set (ok_lc (ok_wEnumB (ok_acons (ok_fld (T.fl_lines P w) (ok_var 0)) ok_anil)) (ok_vT (ok_vsC (ok_vN (by decide)) (ok_vsC (ok_vN (by decide)) ok_vsN))) (ok_t' (ok_bin (ok_var 3) (ok_var 6) ok_r2)) (ok_var 5)))
 (ok_if (ok_t (ok_b (ok_lcons (ok_lc (ok_wSeq (ok_var 4)) (ok_vN (by decide)) ok_yes (ok_bin (ok_var 5) (ok_b (ok_lcons (ok_var 1) ok_lnil)) ok_r2)) ok_lnil)))
 (ok_drop (ok_app (ok_b (ok_lcons (ok_lc (ok_wSeq (ok_var 4)) (ok_vN (by decide)) ok_yes (ok_bin (ok_var 1) (ok_var 5) ok_r2)) ok_lnil))))
 ok_nx)))
 (ok_ret (ok_var 2))))⟩
theorem sc_summed_on : FnScope ["web", "told", "number", "found"] ["web", "told"] (defScope st_summed_on) := ⟨rfl, rfl, rfl, by decide +kernel, rfl, by decide +kernel, by decide +kernel⟩
def s_summed_on_1 (rf : FM) : MS := (sRet (mC .non))
def s_summed_on_0 (rf : FM) : MS := (sIf (mT (mBin dGtA (mB dLenSet (lCons (mCall m_sums_at (cVal (mVar 0) (cVal (mVar 1) cNil))) lNil)) (mC (.int 1))))
 (s_summed_on_1 rf)
 sNx)
def s_summed_on_3 (rf : FM) : MS := (sRet (mVar 1))
def s_summed_on_2 (rf : FM) : MS := (sIf (mT (mBin dEqA (mB dLen (lCons (mVar 1) lNil)) (mB dLen (lCons (mFld 0 1 (mVar 0)) lNil))))
 (s_summed_on_3 rf)
 sNx)
def s_summed_on_6 (rf : FM) : MS := (sSet 3 (mCall rf (cVal (mVar 0) (cVal (mBin dAdd (mVar 1) (mTup (aCons (mVar 2) aNil))) cNil))))
def s_summed_on_8 (rf : FM) : MS := (sRet (mVar 3))
def s_summed_on_7 (rf : FM) : MS := (sIf (mT (mBin dNotN (mVar 3) (mC .non)))
 (s_summed_on_8 rf)
 sNx)
def s_summed_on_5 (rf : FM) : MS := (sIf (mT (mBin dNotInB (mVar 2) (mVar 1)))
 (sSeq (s_summed_on_6 rf)
 (s_summed_on_7 rf))
 sNx)
def s_summed_on_4 (rf : FM) : MS := (sFor (wRng2 (aCons (mC (.int 1)) (aCons (mBin dAdd (mB dLen (lCons (mFld 0 1 (mVar 0)) lNil)) (mC (.int 1))) aNil))) (gN 2)
 (s_summed_on_5 rf))
def s_summed_on_9 (rf : FM) : MS := (sRet (mC .non))
def b_summed_on (rf : FM) : MS := (sSeq (s_summed_on_0 rf)
 (sSeq (s_summed_on_2 rf)
 (sSeq (s_summed_on_4 rf)
 (s_summed_on_9 rf))))
def m_summed_on : Nat → FM
  | 0 => fun _ => none
  | z + 1 => runF 4 (b_summed_on (m_summed_on z))
theorem ok_summed_on (T : Tx K mg fs fd C) : ∀ z : Nat, FnOk P w K mg base CX0 (2 + z) (fs 10) (fd 10) ["web", "told"] (spD (mkG P w K C) 2 (m_summed_on z))
  | 0 => fn_none (G := (mkG P w K C))
  | z + 1 => by
    have ih := ok_summed_on T z
    exact fn_ok (G := (mkG P w K C)) T.f_summed_on sc_summed_on rfl rfl fun cdv A outer s H E hr => ⟨_, (pss_cons (ps_if (pt_cmpR (op_gtA (G := (mkG P w K C)) hr.units) (pe_lenSet (G := (mkG P w K C)) rfl T.z_len rfl T.z_set (pe_call (ok_sums_at T) (hr.mono (by (try simp only [Nat.add_eq]); omega)) rfl T.m_sums_at T.k_sums_at T.b_sums_at .nil pass0 (pa_cons (pv 0) (pa_cons (pv 1) pa_nil))) rfl hr.units) pe_int (nomark _))
 (pss_one (ps_ret pe_non))
 pss_nil)
 (pss_cons (ps_if (pt_cmpR (op_eqA (G := (mkG P w K C)) hr.units) (pe_callB (cr_len (G := (mkG P w K C))) rfl T.z_len boot_len_ (pa_cons (pv 1) pa_nil)) (pe_callB (cr_len (G := (mkG P w K C))) rfl T.z_len boot_len_ (pa_cons (pe_fld (pv 0) rfl) pa_nil)) (nomark _))
 (pss_one (ps_ret (pv 1)))
 pss_nil)
 (pss_cons (ps_for PassesOwn.never rfl (pi_range2 rfl T.z_range (pa_cons pe_int (pa_cons (pe_op (op_addD (G := (mkG P w K C))) (pe_callB (cr_len (G := (mkG P w K C))) rfl T.z_len boot_len_ (pa_cons (pe_fld (pv 0) rfl) pa_nil)) pe_int) pa_nil))) (pg_name (i := 2) sc_summed_on.nd rfl (Or.inl rfl))
 (pss_one (ps_if (pt_cmpR (op_notInB (G := (mkG P w K C)) (u65 hr)) (pv 2) (pv 1) (by with_unfolding_all rfl))
 (pss_cons (ps_set (i := 3) sc_summed_on.nd rfl (Or.inl rfl) (pe_call ih (hr.mono (by (try simp only [Nat.add_eq]); omega)) rfl T.m_summed_on T.k_summed_on T.b_summed_on .nil pass0 (pa_cons (pv 0) (pa_cons (pe_op (op_addD (G := (mkG P w K C))) (pv 1) (pe_tup (pa_cons (pv 2) pa_nil))) pa_nil))))
 (pss_one (ps_if (pt_cmpR op_notN (pv 3) pe_non (nomark _))
 (pss_one (ps_ret (pv 3)))
 pss_nil)))
 pss_nil)))
 (pss_one (ps_ret pe_non))))),
  (ok_seq (ok_if (ok_t' (ok_bin (ok_b (ok_lcons (ok_call (ok_cval (ok_var 0) (ok_cval (ok_var 1) ok_cnil)) rfl) ok_lnil)) (ok_c fun _ => rfl) ok_r2))
 (ok_ret (ok_c fun _ => rfl))
 ok_nx)
 (ok_seq (ok_if (ok_t' (ok_bin (ok_b (ok_lcons (ok_var 1) ok_lnil)) (ok_b (ok_lcons (ok_fld (T.fl_lines P w) (ok_var 0)) ok_lnil)) ok_r2))
 (ok_ret (ok_var 1))
 ok_nx)
 (ok_seq (ok_for (ok_wRng2 (ok_acons (ok_c fun _ => rfl) (ok_acons (ok_bin (ok_b (ok_lcons (ok_fld (T.fl_lines P w) (ok_var 0)) ok_lnil)) (ok_c fun _ => rfl) ok_r2) ok_anil))) ok_gN
 (ok_if (ok_t' (ok_bin (ok_var 2) (ok_var 1) ok_r2))
 (ok_seq (ok_set (ok_call (ok_cval (ok_var 0) (ok_cval (ok_bin (ok_var 1) (ok_tup (ok_acons (ok_var 2) ok_anil) (by decide)) ok_r2) ok_cnil)) rfl))
 (ok_if (ok_t' (ok_bin (ok_var 3) (ok_c fun _ => rfl) ok_notN))
 (ok_ret (ok_var 3))
 ok_nx))
 ok_nx))
 (ok_ret (ok_c fun _ => rfl)))))⟩
theorem sc_even_sums : FnScope ["web"] ["web"] (defScope st_even_sums) := ⟨rfl, rfl, rfl, by decide +kernel, rfl, by decide +kernel, by decide +kernel⟩
def s_even_sums_1 : MS := sNo
def s_even_sums_0 : MS := (sIf (mT (mBin dGtA (mB dLen (lCons (mFld 0 1 (mVar 0)) lNil)) (mC (.int 7))))
 s_even_sums_1
 sNx)
def s_even_sums_2 : MS := (sRet (mCall (m_summed_on 9) (cVal (mVar 0) (cVal (mTup aNil) cNil))))
def b_even_sums : MS := (sSeq s_even_sums_0
 s_even_sums_2)
def m_even_sums : FM := runF 1 b_even_sums
theorem ok_even_sums (T : Tx K mg fs fd C) : FnOk P w K mg base CX0 12 (fs 11) (fd 11) ["web"] (spD (mkG P w K C) 1 m_even_sums) :=
  fn_ok (G := (mkG P w K C)) T.f_even_sums sc_even_sums rfl rfl fun cdv A outer s H E hr => ⟨_, (pss_cons (ps_if (pt_cmpR (op_gtA (G := (mkG P w K C)) hr.units) (pe_callB (cr_len (G := (mkG P w K C))) rfl T.z_len boot_len_ (pa_cons (pe_fld (pv 0) rfl) pa_nil)) (pe_glob (v := .int 7) rfl T.c_MOST_SUMMED.choose_spec ⟨_, rfl⟩) (nomark _))
 (pss_one ps_never)
 pss_nil)
 (pss_one (ps_ret (pe_call (ok_summed_on T 9) (hr.mono (by decide)) rfl T.m_summed_on T.k_summed_on T.b_summed_on .nil pass0 (pa_cons (pv 0) (pa_cons (pe_tup pa_nil) pa_nil)))))),
  (ok_seq (ok_if (ok_t' (ok_bin (ok_b (ok_lcons (ok_fld (T.fl_lines P w) (ok_var 0)) ok_lnil)) (ok_c fun _ => rfl) ok_r2))
 ok_no
 ok_nx)
 (ok_ret (ok_call (ok_cval (ok_var 0) (ok_cval (ok_tup ok_anil (by decide)) ok_cnil)) rfl)))⟩
theorem sc_is_integer : FnScope ["thing"] ["thing"] (defScope st_is_integer) := ⟨rfl, rfl, rfl, by decide +kernel, rfl, by decide +kernel, by decide +kernel⟩
def s_is_integer_0 : MS := (sRet (mAndV (mIsi "int" (mVar 0)) (mNotV (mIsi "bool" (mVar 0)))))
def b_is_integer : MS := s_is_integer_0
def m_is_integer : FM := runF 1 b_is_integer
theorem ok_is_integer (T : Tx K mg fs fd C) : FnOk P w K mg base CX0 1 (fs 12) (fd 12) ["thing"] (spD (mkG P w K C) 1 m_is_integer) :=
  fn_ok (G := (mkG P w K C)) T.f_is_integer sc_is_integer rfl rfl fun cdv A outer s H E hr => ⟨_, (pss_one (ps_ret (pe_and (pe_callB call_isi rfl T.z_isinstance boot_isinstance (pa_cons (pv 0) (pa_cons (pe_bltn (v := .ty "int") rfl T.z_int boot_int_ rfl) pa_nil))) (pe_one (pe_not (pe_callB call_isi rfl T.z_isinstance boot_isinstance (pa_cons (pv 0) (pa_cons (pe_bltn (v := .ty "bool") rfl T.z_bool boot_bool_ rfl) pa_nil)))))))),
  (ok_ret (ok_andV (ok_isi (ok_var 0)) (ok_notV (ok_isi (ok_var 0)))))⟩
theorem sc_is_within : FnScope ["thing", "low", "high"] ["thing", "low", "high"] (defScope st_is_within) := ⟨rfl, rfl, rfl, by decide +kernel, rfl, by decide +kernel, by decide +kernel⟩
def s_is_within_0 : MS := (sRet (mAndV (mCall m_is_integer (cVal (mVar 0) cNil)) (mChain dLeA dLeA (mVar 1) (mVar 0) (mVar 2))))
def b_is_within : MS := s_is_within_0
def m_is_within : FM := runF 3 b_is_within
theorem ok_is_within (T : Tx K mg fs fd C) : FnOk P w K mg base CX0 2 (fs 13) (fd 13) ["thing", "low", "high"] (spD (mkG P w K C) 3 m_is_within) :=
  fn_ok (G := (mkG P w K C)) T.f_is_within sc_is_within rfl rfl fun cdv A outer s H E hr => ⟨_, (pss_one (ps_ret (pe_and (pe_call (ok_is_integer T) (hr.mono (by decide)) rfl T.m_is_integer T.k_is_integer T.b_is_integer .nil pass0 (pa_cons (pv 0) pa_nil)) (pe_one (pe_chain (op_leA (G := (mkG P w K C)) hr.units) (op_leA (G := (mkG P w K C)) hr.units) (pv 1) (pv 0) (pv 2)))))),
  (ok_ret (ok_andV (ok_call (ok_cval (ok_var 0) ok_cnil) rfl) (ok_chain (ok_var 1) (ok_var 0) (ok_var 2) ok_r2 ok_r2)))⟩
theorem sc_is_count : FnScope ["thing"] ["thing"] (defScope st_is_count) := ⟨rfl, rfl, rfl, by decide +kernel, rfl, by decide +kernel, by decide +kernel⟩
def s_is_count_0 : MS := (sRet (mCall m_is_within (cVal (mVar 0) (cVal (mC (.int 1)) (cVal (mC (.int 7)) cNil)))))
def b_is_count : MS := s_is_count_0
def m_is_count : FM := runF 1 b_is_count
theorem ok_is_count (T : Tx K mg fs fd C) : FnOk P w K mg base CX0 3 (fs 14) (fd 14) ["thing"] (spD (mkG P w K C) 1 m_is_count) :=
  fn_ok (G := (mkG P w K C)) T.f_is_count sc_is_count rfl rfl fun cdv A outer s H E hr => ⟨_, (pss_one (ps_ret (pe_call (ok_is_within T) (hr.mono (by decide)) rfl T.m_is_within T.k_is_within T.b_is_within .nil pass0 (pa_cons (pv 0) (pa_cons pe_int (pa_cons (pe_glob (v := .int 7) rfl T.c_MOST_CORNERS.choose_spec ⟨_, rfl⟩) pa_nil)))))),
  (ok_ret (ok_call (ok_cval (ok_var 0) (ok_cval (ok_c fun _ => rfl) (ok_cval (ok_c fun _ => rfl) ok_cnil))) rfl))⟩
theorem sc_is_tuple : FnScope ["thing", "least", "most"] ["thing", "least", "most"] (defScope st_is_tuple) := ⟨rfl, rfl, rfl, by decide +kernel, rfl, by decide +kernel, by decide +kernel⟩
def s_is_tuple_0 : MS := (sRet (mAndV (mIsi "tuple" (mVar 0)) (mChain dLeA dLeA (mVar 1) (mB dLen (lCons (mVar 0) lNil)) (mVar 2))))
def b_is_tuple : MS := s_is_tuple_0
def m_is_tuple : FM := runF 3 b_is_tuple
theorem ok_is_tuple (T : Tx K mg fs fd C) : FnOk P w K mg base CX0 1 (fs 15) (fd 15) ["thing", "least", "most"] (spD (mkG P w K C) 3 m_is_tuple) :=
  fn_ok (G := (mkG P w K C)) T.f_is_tuple sc_is_tuple rfl rfl fun cdv A outer s H E hr => ⟨_, (pss_one (ps_ret (pe_and (pe_callB call_isi rfl T.z_isinstance boot_isinstance (pa_cons (pv 0) (pa_cons (pe_bltn (v := .ty "tuple") rfl T.z_tuple boot_tuple_ rfl) pa_nil))) (pe_one (pe_chain (op_leA (G := (mkG P w K C)) hr.units) (op_leA (G := (mkG P w K C)) hr.units) (pv 1) (pe_callB (cr_len (G := (mkG P w K C))) rfl T.z_len boot_len_ (pa_cons (pv 0) pa_nil)) (pv 2)))))),
  (ok_ret (ok_andV (ok_isi (ok_var 0)) (ok_chain (ok_var 1) (ok_b (ok_lcons (ok_var 0) ok_lnil)) (ok_var 2) ok_r2 ok_r2)))⟩
theorem sc_is_line : FnScope ["corners", "thing", "one"] ["corners", "thing"] (defScope st_is_line) := ⟨rfl, rfl, rfl, by decide +kernel, rfl, by decide +kernel, by decide +kernel⟩
def c_is_line_0 : M := mLc [2] (wSeq (mVar 1)) (gN 2) tYesD (mCall m_is_within (cVal (mVar 2) (cVal (mC (.int 0)) (cVal (mBin dSub (mVar 0) (mC (.int 1))) cNil))))
def s_is_line_1 : MS := (sRet (mC (.bl false)))
def s_is_line_0 : MS := (sIf (mOrT (mNotT (mT (mCall m_is_tuple (cVal (mVar 1) (cVal (mC (.int 2)) (cVal (mC (.int 2)) cNil)))))) (mNotT (mT (mB dAll (lCons c_is_line_0 lNil)))))
 s_is_line_1
 sNx)
def s_is_line_2 : MS := (sRet (mBin dLtA (mBin dIx (mVar 1) (mC (.int 0))) (mBin dIx (mVar 1) (mC (.int 1)))))
def b_is_line : MS := (sSeq s_is_line_0
 s_is_line_2)
def m_is_line : FM := runF 3 b_is_line
theorem ok_is_line (T : Tx K mg fs fd C) : FnOk P w K mg base CX0 3 (fs 16) (fd 16) ["corners", "thing"] (spD (mkG P w K C) 2 m_is_line) :=
  fn_ok (G := (mkG P w K C)) T.f_is_line sc_is_line rfl rfl fun cdv A outer s H E hr => ⟨_, (pss_cons (ps_if (PW.pt (pw_or (pt_not (pt_val (pe_call (ok_is_tuple T) (hr.mono (by decide)) rfl T.m_is_tuple T.k_is_tuple T.b_is_tuple .nil pass0 (pa_cons (pv 1) (pa_cons pe_int (pa_cons pe_int pa_nil)))))) (pw_or1 (pt_not (pt_val (pe_callB (cr_allD rfl (G := (mkG P w K C))) rfl T.z_all boot_all_ (pa_cons (pe_lc (own := [("one", 2)])   rfl sc_is_line.nd (pi_seq (pv 1)) (blkOk_by (N := ["corners", "thing", "one"]) (sc := defScope st_is_line) (by decide +kernel)) (fun _ _ _ _ _ => (pg_name (i := 2) sc_is_line.nd rfl (Or.inl rfl))) (fun _ _ _ _ _ => pts_nil) (fun _ _ _ _ _ => (pe_call (ok_is_within T) (hr.mono (by decide)) rfl T.m_is_within T.k_is_within T.b_is_within .nil pass0 (pa_cons (pv 2) (pa_cons pe_int (pa_cons (pe_op op_sub (pv 0) pe_int) pa_nil)))))) pa_nil)))))))
 (pss_one (ps_ret pe_bl))
 pss_nil)
 (pss_one (ps_ret (pe_cmpR (op_ltA (G := (mkG P w K C)) hr.units) (pe_ix ix_seq (pv 1) pe_int (fun _ _ => rfl)) (pe_ix ix_seq (pv 1) pe_int (fun _ _ => rfl)) (nomark _))))),
  (ok_seq (ok_if (ok_orT (ok_notT (ok_t (ok_call (ok_cval (ok_var 1) (ok_cval (ok_c fun _ => rfl) (ok_cval (ok_c fun _ => rfl) ok_cnil))) rfl))) (ok_notT (ok_t (ok_b (ok_lcons (ok_lc (ok_wSeq (ok_var 1)) (ok_vN (by decide)) ok_yes (ok_call (ok_cval (ok_var 2) (ok_cval (ok_c fun _ => rfl) (ok_cval (ok_bin (ok_var 0) (ok_c fun _ => rfl) ok_sub) ok_cnil))) rfl)) ok_lnil)))))
 (ok_ret (ok_c fun _ => rfl))
 ok_nx)
 (ok_ret (ok_bin (ok_bin (ok_var 1) (ok_c fun _ => rfl) ok_ix) (ok_bin (ok_var 1) (ok_c fun _ => rfl) ok_ix) ok_r2)))⟩
theorem sc_are_lines : FnScope ["corners", "thing", "line", "one", "other"] ["corners", "thing"] (defScope st_are_lines) := ⟨rfl, rfl, rfl, by decide +kernel, rfl, by decide +kernel, by decide +kernel⟩
def c_are_lines_0 : M := mLc [2] (wSeq (mVar 1)) (gN 2) tYesD (mCall m_is_line (cVal (mVar 0) (cVal (mVar 2) cNil)))
def s_are_lines_1 : MS := (sRet (mC (.bl false)))
def s_are_lines_0 : MS := (sIf (mOrT (mNotT (mT (mIsi "tuple" (mVar 1)))) (mNotT (mT (mB dAll (lCons c_are_lines_0 lNil)))))
 s_are_lines_1
 sNx)
def c_are_lines_1 : M := mLc [3, 4] (wZip (aCons (mVar 1) (aCons (mSl (mVar 1) (oSome (mC (.int 1))) oNone) aNil))) (gT 2 (gsC (gN 3) (gsC (gN 4) gsN))) tYesD (mBin dLtA (mVar 3) (mVar 4))
def s_are_lines_2 : MS := (sRet (mB dAll (lCons c_are_lines_1 lNil)))
def b_are_lines : MS := (sSeq s_are_lines_0
 s_are_lines_2)
def m_are_lines : FM := runF 5 b_are_lines
theorem ok_are_lines (T : Tx K mg fs fd C) : FnOk P w K mg base CX0 4 (fs 17) (fd 17) ["corners", "thing"] (spD (mkG P w K C) 2 m_are_lines) :=
  fn_ok (G := (mkG P w K C)) T.f_are_lines sc_are_lines rfl rfl fun cdv A outer s H E hr => ⟨_, (pss_cons (ps_if (PW.pt (pw_or (pt_not (pt_val (pe_callB call_isi rfl T.z_isinstance boot_isinstance (pa_cons (pv 1) (pa_cons (pe_bltn (v := .ty "tuple") rfl T.z_tuple boot_tuple_ rfl) pa_nil))))) (pw_or1 (pt_not (pt_val (pe_callB (cr_allD rfl (G := (mkG P w K C))) rfl T.z_all boot_all_ (pa_cons (pe_lc (own := [("line", 2)])   rfl sc_are_lines.nd (pi_seq (pv 1)) (blkOk_by (N := ["corners", "thing", "line", "one", "other"]) (sc := defScope st_are_lines) (by decide +kernel)) (fun _ _ _ _ _ => (pg_name (i := 2) sc_are_lines.nd rfl (Or.inl rfl))) (fun _ _ _ _ _ => pts_nil) (fun _ _ _ _ _ => (pe_call (ok_is_line T) (hr.mono (by decide)) rfl T.m_is_line T.k_is_line T.b_is_line .nil pass0 (pa_cons (pv 0) (pa_cons (pv 2) pa_nil))))) pa_nil)))))))
 (pss_one (ps_ret pe_bl))
 pss_nil)
 (pss_one (ps_ret (pe_callB (cr_allD rfl (G := (mkG P w K C))) rfl T.z_all boot_all_ (pa_cons (pe_lc (own := [("one", 3), ("other", 4)])   rfl sc_are_lines.nd (RZ.pi_zipA rfl T.z_zip (pa_cons (pv 1) (pa_cons (pe_slice sl_both (pv 1) (po_some pe_int) po_none) pa_nil))) (blkOk_by (N := ["corners", "thing", "line", "one", "other"]) (sc := defScope st_are_lines) (by decide +kernel)) (fun _ _ _ _ _ => (pg_tup rfl (pgs_cons (pg_name (i := 3) sc_are_lines.nd rfl (Or.inl rfl)) (pgs_cons (pg_name (i := 4) sc_are_lines.nd rfl (Or.inl rfl)) pgs_nil)))) (fun _ _ _ _ _ => pts_nil) (fun _ _ _ _ _ => (pe_cmpR (op_ltA (G := (mkG P w K C)) hr.units) (pv 3) (pv 4) (nomark _)))) pa_nil))))),
  (ok_seq (ok_if (ok_orT (ok_notT (ok_t (ok_isi (ok_var 1)))) (ok_notT (ok_t (ok_b (ok_lcons (ok_lc (ok_wSeq (ok_var 1)) (ok_vN (by decide)) ok_yes (ok_call (ok_cval (ok_var 0) (ok_cval (ok_var 2) ok_cnil)) rfl)) ok_lnil)))))
 (ok_ret (ok_c fun _ => rfl))
 ok_nx)
 (ok_ret (ok_b (ok_lcons (ok_lc (ok_wZip (ok_acons (ok_var 1) (ok_acons (ok_sl (ok_var 1) (ok_osome (ok_c fun _ => rfl)) ok_onone) ok_anil))) (ok_vT (ok_vsC (ok_vN (by decide)) (ok_vsC (ok_vN (by decide)) ok_vsN))) ok_yes (ok_bin (ok_var 3) (ok_var 4) ok_r2)) ok_lnil))))⟩
theorem sc_Web : FnScope ["self", "corners", "lines"] ["self", "corners", "lines"] (defScope st_Web) := ⟨rfl, rfl, rfl, by decide +kernel, rfl, by decide +kernel, by decide +kernel⟩
def s_Web_1 : MS := sNo
def s_Web_0 : MS := (sIf (mNotT (mT (mCall m_is_count (cVal (mVar 1) cNil))))
 s_Web_1
 sNx)
def s_Web_3 : MS := sNo
def s_Web_2 : MS := (sIf (mNotT (mT (mCall m_are_lines (cVal (mVar 1) (cVal (mVar 2) cNil)))))
 s_Web_3
 sNx)
def s_Web_4 : MS := (sAsg (mTup (aCons (mVar 1) (aCons (mVar 2) aNil))) (gT 2 (gsC (gFld 0 0 0) (gsC (gFld 0 0 1) gsN))))
def s_Web_5 : MS := (sAsg (mCchV 2) (gFld 0 0 2))
def b_Web : MS := (sSeq s_Web_0
 (sSeq s_Web_2
 (sSeq s_Web_4
 s_Web_5)))
def m_Web : FM := runF 3 b_Web
theorem ok_Web (T : Tx K mg fs fd C) : FnOk P w K mg base CX0 5 (fs 18) (fd 18) ["self", "corners", "lines"] (spD (mkG P w K C) 3 m_Web) :=
  fn_ok (G := (mkG P w K C)) T.f_Web sc_Web rfl rfl fun cdv A outer s H E hr => ⟨_, (pss_cons (ps_if (pt_not (pt_val (pe_call (ok_is_count T) (hr.mono (by decide)) rfl T.m_is_count T.k_is_count T.b_is_count .nil pass0 (pa_cons (pv 1) pa_nil))))
 (pss_one ps_never)
 pss_nil)
 (pss_cons (ps_if (pt_not (pt_val (pe_call (ok_are_lines T) (hr.mono (by decide)) rfl T.m_are_lines T.k_are_lines T.b_are_lines .nil pass0 (pa_cons (pv 1) (pa_cons (pv 2) pa_nil)))))
 (pss_one ps_never)
 pss_nil)
 (pss_cons (ps_asg (pe_tup (pa_cons (pv 1) (pa_cons (pv 2) pa_nil))) (pg_tup rfl (pgs_cons (pg_fl (pv 0)) (pgs_cons (pg_fl (pv 0)) pgs_nil))))
 (pss_one (ps_asg pe_dnewK (pg_fl (pv 0))))))),
  (ok_seq (ok_if (ok_notT (ok_t (ok_call (ok_cval (ok_var 1) ok_cnil) rfl)))
 ok_no
 ok_nx)
 (ok_seq (ok_if (ok_notT (ok_t (ok_call (ok_cval (ok_var 1) (ok_cval (ok_var 2) ok_cnil)) rfl)))
 ok_no
 ok_nx)
 (ok_seq (ok_asg (ok_tup (ok_acons (ok_var 1) (ok_acons (ok_var 2) ok_anil)) (by decide)) (ok_gT (ok_gsC (ok_gFld (T.fl_corners P w)) (ok_gsC (ok_gFld (T.fl_lines P w)) ok_gsN))))
 (ok_asg (ok_cchV 2) (ok_gFld (T.fl_looked P w))))))⟩
theorem sc_there : FnScope ["self", "line"] ["self"] (defScope st_there) := ⟨rfl, rfl, rfl, by decide +kernel, rfl, by decide +kernel, by decide +kernel⟩
def c_there_0 : M := mLc [1] (wSeq (mFld 0 1 (mVar 0))) (gN 1) tYesD (mTup (aCons (mVar 1) (aCons (mC (.bl true)) aNil)))
def b_there : MS := sThere 0 0 (mB dDictN (lCons c_there_0 lNil))
def m_there : FM := runF 2 b_there
theorem ok_there (T : Tx K mg fs fd C) : FnOk P w K mg base CX0 1 (fs 19) (fd 19) ["self"] (spD (mkG P w K C) 1 m_there) :=
  fn_ok (G := (mkG P w K C)) T.f_there sc_there rfl rfl fun cdv A outer s H E hr => ⟨_, (pss_cons (ps_if (pt_cmp (pc_dnotin (u1 hr) pe_str (pe_fld (pv 0) rfl))) (pss_one (ps_dput (u1 hr) (pe_fld (pv 0) rfl) pe_str (pe_callTy (cr_dictN (G := (mkG P w K C)) hr.hd hr.units) rfl T.z_dict boot_dict_ (pa_cons (pe_lc (own := [("line", 1)])   rfl sc_there.nd (pi_seq (pe_fld (pv 0) rfl)) (blkOk_by (N := ["self", "line"]) (sc := defScope st_there) (by decide +kernel)) (fun _ _ _ _ _ => (pg_name (i := 1) sc_there.nd rfl (Or.inl rfl))) (fun _ _ _ _ _ => pts_nil) (fun _ _ _ _ _ => (pe_tup (pa_cons (pv 1) (pa_cons pe_bl pa_nil))))) pa_nil)) rfl)) pss_nil) (pss_one (ps_ret (pe_dget (u1 hr) (pe_fld (pv 0) rfl) pe_str (fun _ _ => rfl))))),
  (LD.ok_there (T.fl_looked P w) (ok_b (ok_lcons (ok_lc (ok_wSeq (ok_fld (T.fl_lines P w) (ok_var 0))) (ok_vN (by decide)) ok_yes (ok_tup (ok_acons (ok_var 1) (ok_acons (ok_c fun _ => rfl) ok_anil)) (by decide))) ok_lnil)))⟩
theorem sc_has_line : FnScope ["web", "a", "b"] ["web", "a", "b"] (defScope st_has_line) := ⟨rfl, rfl, rfl, by decide +kernel, rfl, by decide +kernel, by decide +kernel⟩
def s_has_line_0 : MS := (sRet (mBin dInB (mTup (aCons (mB dMin2 (lCons (mVar 1) (lCons (mVar 2) lNil))) (aCons (mB dMax2 (lCons (mVar 1) (lCons (mVar 2) lNil))) aNil))) (mMethK 0 m_there (mVar 0))))
def b_has_line : MS := s_has_line_0
def m_has_line : FM := runF 3 b_has_line
theorem ok_has_line (T : Tx K mg fs fd C) : FnOk P w K mg base CX0 2 (fs 20) (fd 20) ["web", "a", "b"] (spD (mkG P w K C) 3 m_has_line) :=
  fn_ok (G := (mkG P w K C)) T.f_has_line sc_has_line rfl rfl fun cdv A outer s H E hr => ⟨_, (pss_one (ps_ret (pe_cmpR (op_inB (G := (mkG P w K C)) (u65 hr)) (pe_tup (pa_cons (pe_callB (cr_min2 (G := (mkG P w K C)) rfl) rfl T.z_min boot_min_ (pa_cons (pv 1) (pa_cons (pv 2) pa_nil))) (pa_cons (pe_callB (cr_max2 (G := (mkG P w K C)) rfl) rfl T.z_max boot_max_ (pa_cons (pv 1) (pa_cons (pv 2) pa_nil))) pa_nil))) (pe_meth0 (pv 0) T.cl T.mt_there (ok_there T) (hr.mono (by decide)) T.b_there .nil pass0) (by with_unfolding_all rfl)))),
  (ok_ret (ok_bin (ok_tup (ok_acons (ok_b (ok_lcons (ok_var 1) (ok_lcons (ok_var 2) ok_lnil))) (ok_acons (ok_b (ok_lcons (ok_var 1) (ok_lcons (ok_var 2) ok_lnil))) ok_anil)) (by decide)) (ok_meth0 (ok_var 0) nofld_there) ok_r2))⟩
theorem sc_near_of : FnScope ["web", "a", "b"] ["web", "a"] (defScope st_near_of) := ⟨rfl, rfl, rfl, by decide +kernel, rfl, by decide +kernel, by decide +kernel⟩
def c_near_of_0 : M := mLc [2] (wRng1 (aCons (mFld 0 0 (mVar 0)) aNil)) (gN 2) (mT (mCall m_has_line (cVal (mVar 0) (cVal (mVar 1) (cVal (mVar 2) cNil))))) (mVar 2)
def s_near_of_0 : MS := (sRet c_near_of_0)
def b_near_of : MS := s_near_of_0
def m_near_of : FM := runF 3 b_near_of
theorem ok_near_of (T : Tx K mg fs fd C) : FnOk P w K mg base CX0 3 (fs 21) (fd 21) ["web", "a"] (spD (mkG P w K C) 2 m_near_of) :=
  fn_ok (G := (mkG P w K C)) T.f_near_of sc_near_of rfl rfl fun cdv A outer s H E hr => ⟨_, (pss_one (ps_ret (pe_lc (own := [("b", 2)])   rfl sc_near_of.nd (pi_range1 rfl T.z_range (pa_cons (pe_fld (pv 0) rfl) pa_nil)) (blkOk_by (N := ["web", "a", "b"]) (sc := defScope st_near_of) (by decide +kernel)) (fun _ _ _ _ _ => (pg_name (i := 2) sc_near_of.nd rfl (Or.inl rfl))) (fun _ _ _ _ _ => pts_one (pt_val (pe_call (ok_has_line T) (hr.mono (by decide)) rfl T.m_has_line T.k_has_line T.b_has_line .nil pass0 (pa_cons (pv 0) (pa_cons (pv 1) (pa_cons (pv 2) pa_nil)))))) (fun _ _ _ _ _ => (pv 2))))),
  (ok_ret (ok_lc (ok_wRng1 (ok_acons (ok_fld (T.fl_corners P w) (ok_var 0)) ok_anil)) (ok_vN (by decide)) (ok_t (ok_call (ok_cval (ok_var 0) (ok_cval (ok_var 1) (ok_cval (ok_var 2) ok_cnil))) rfl)) (ok_var 2)))⟩
theorem sc_summed_colours : FnScope ["web", "told", "best", "least", "near", "colour", "b"] ["web", "told", "best"] (defScope st_summed_colours) := ⟨rfl, rfl, rfl, by decide +kernel, rfl, by decide +kernel, by decide +kernel⟩
def s_summed_colours_0 (rf : FM) : MS := (sSet 3 (mBin dSub (mBin dAdd (mB dSumA (lCons (mVar 1) lNil)) (mFld 0 0 (mVar 0))) (mB dLen (lCons (mVar 1) lNil))))
def s_summed_colours_2 (rf : FM) : MS := (sRet (mVar 2))
def s_summed_colours_1 (rf : FM) : MS := (sIf (mAndT (mT (mBin dNotN (mVar 2) (mC .non))) (mT (mBin dGeA (mVar 3) (mBin dIxA (mVar 2) (mC (.int 0))))))
 (s_summed_colours_2 rf)
 sNx)
def s_summed_colours_4 (rf : FM) : MS := (sRet (mTup (aCons (mB dSumA (lCons (mVar 1) lNil)) (aCons (mVar 1) aNil))))
def s_summed_colours_3 (rf : FM) : MS := (sIf (mT (mBin dEqA (mB dLen (lCons (mVar 1) lNil)) (mFld 0 0 (mVar 0))))
 (s_summed_colours_4 rf)
 sNx)
def c_summed_colours_0 (rf : FM) : M := mLc [6] (wSeq (mCall m_near_of (cVal (mVar 0) (cVal (mB dLen (lCons (mVar 1) lNil)) cNil)))) (gN 6) (mT (mBin dLtA (mVar 6) (mB dLen (lCons (mVar 1) lNil)))) (mBin dIxA (mVar 1) (mVar 6))
def s_summed_colours_5 (rf : FM) : MS := (sSet 4 (c_summed_colours_0 rf))
def s_summed_colours_8 (rf : FM) : MS := (sSet 2 (mCall rf (cVal (mVar 0) (cVal (mBin dAdd (mVar 1) (mTup (aCons (mVar 5) aNil))) (cVal (mVar 2) cNil)))))
def s_summed_colours_7 (rf : FM) : MS := (sIf (mT (mBin dNotInB (mVar 5) (mVar 4)))
 (s_summed_colours_8 rf)
 sNx)
def s_summed_colours_6 (rf : FM) : MS := (sFor (wRng2 (aCons (mC (.int 1)) (aCons (mBin dAdd (mFld 0 0 (mVar 0)) (mC (.int 1))) aNil))) (gN 5)
 (s_summed_colours_7 rf))
def s_summed_colours_9 (rf : FM) : MS := (sRet (mVar 2))
def b_summed_colours (rf : FM) : MS := (sSeq (s_summed_colours_0 rf)
 (sSeq (s_summed_colours_1 rf)
 (sSeq (s_summed_colours_3 rf)
 (sSeq (s_summed_colours_5 rf)
 (sSeq (s_summed_colours_6 rf)
 (s_summed_colours_9 rf))))))
def m_summed_colours : Nat → FM
  | 0 => fun _ => none
  | z + 1 => runF 7 (b_summed_colours (m_summed_colours z))
theorem ok_summed_colours (T : Tx K mg fs fd C) : ∀ z : Nat, FnOk P w K mg base CX0 (4 + z) (fs 22) (fd 22) ["web", "told", "best"] (spD (mkG P w K C) 3 (m_summed_colours z))
  | 0 => fn_none (G := (mkG P w K C))
  | z + 1 => by
    have ih := ok_summed_colours T z
    exact fn_ok (G := (mkG P w K C)) T.f_summed_colours sc_summed_colours rfl rfl fun cdv A outer s H E hr => ⟨_, (pss_cons (ps_set (i := 3) sc_summed_colours.nd rfl (Or.inl rfl) (pe_op op_sub (pe_op (op_addD (G := (mkG P w K C))) (pe_callB (cr_sumA rfl (G := (mkG P w K C))) rfl T.z_sum boot_sum_ (pa_cons (pv 1) pa_nil)) (pe_fld (pv 0) rfl)) (pe_callB (cr_len (G := (mkG P w K C))) rfl T.z_len boot_len_ (pa_cons (pv 1) pa_nil))))
 (pss_cons (ps_if (PW.pt (pw_and (pt_cmpR op_notN (pv 2) pe_non (nomark _)) (pw_and1 (pt_cmpR (op_geA (G := (mkG P w K C)) hr.units) (pv 3) (pe_ix (ix_A (G := (mkG P w K C)) hr.units) (pv 2) pe_int (fun _ _ => rfl)) (nomark _)))))
 (pss_one (ps_ret (pv 2)))
 pss_nil)
 (pss_cons (ps_if (pt_cmpR (op_eqA (G := (mkG P w K C)) hr.units) (pe_callB (cr_len (G := (mkG P w K C))) rfl T.z_len boot_len_ (pa_cons (pv 1) pa_nil)) (pe_fld (pv 0) rfl) (nomark _))
 (pss_one (ps_ret (pe_tup (pa_cons (pe_callB (cr_sumA rfl (G := (mkG P w K C))) rfl T.z_sum boot_sum_ (pa_cons (pv 1) pa_nil)) (pa_cons (pv 1) pa_nil)))))
 pss_nil)
 (pss_cons (ps_setLc (i := 4) (own := [("b", 6)]) rfl sc_summed_colours.nd rfl rfl (sw_true rfl rfl rfl (by decide +kernel)) (pi_seq (pe_call (ok_near_of T) (hr.mono (by (try simp only [Nat.add_eq]); omega)) rfl T.m_near_of T.k_near_of T.b_near_of .nil pass0 (pa_cons (pv 0) (pa_cons (pe_callB (cr_len (G := (mkG P w K C))) rfl T.z_len boot_len_ (pa_cons (pv 1) pa_nil)) pa_nil)))) (blkOk_by (N := ["web", "told", "best", "least", "near", "colour", "b"]) (sc := defScope st_summed_colours) (by decide +kernel)) (fun _ _ _ _ _ => (pg_name (i := 6) sc_summed_colours.nd rfl (Or.inl rfl))) (fun _ _ _ _ _ => pts_one (pt_cmpR (op_ltA (G := (mkG P w K C)) hr.units) (pv 6) (pe_callB (cr_len (G := (mkG P w K C))) rfl T.z_len boot_len_ (pa_cons (pv 1) pa_nil)) (nomark _))) (fun _ _ _ _ _ => (pe_ix (ix_A (G := (mkG P w K C)) hr.units) (pv 1) (pv 6) (fun _ _ => rfl))))
 (pss_cons (ps_for PassesOwn.never rfl (pi_range2 rfl T.z_range (pa_cons pe_int (pa_cons (pe_op (op_addD (G := (mkG P w K C))) (pe_fld (pv 0) rfl) pe_int) pa_nil))) (pg_name (i := 5) sc_summed_colours.nd rfl (Or.inl rfl))
 (pss_one (ps_if (pt_cmpR (op_notInB (G := (mkG P w K C)) (u65 hr)) (pv 5) (pv 4) (by with_unfolding_all rfl))
 (pss_one (ps_set (i := 2) sc_summed_colours.nd rfl (Or.inl rfl) (pe_call ih (hr.mono (by (try simp only [Nat.add_eq]); omega)) rfl T.m_summed_colours T.k_summed_colours T.b_summed_colours .nil pass0 (pa_cons (pv 0) (pa_cons (pe_op (op_addD (G := (mkG P w K C))) (pv 1) (pe_tup (pa_cons (pv 5) pa_nil))) (pa_cons (pv 2) pa_nil))))))
 pss_nil)))
 (pss_one (ps_ret (pv 2)))))))),
  (ok_seq (ok_set (ok_bin (ok_bin (ok_b (ok_lcons (ok_var 1) ok_lnil)) (ok_fld (T.fl_corners P w) (ok_var 0)) ok_r2) (ok_b (ok_lcons (ok_var 1) ok_lnil)) ok_sub))
 (ok_seq (ok_if (ok_andT (ok_t' (ok_bin (ok_var 2) (ok_c fun _ => rfl) ok_notN)) (ok_t' (ok_bin (ok_var 3) (ok_bin (ok_var 2) (ok_c fun _ => rfl) ok_r2) ok_r2)))
 (ok_ret (ok_var 2))
 ok_nx)
 (ok_seq (ok_if (ok_t' (ok_bin (ok_b (ok_lcons (ok_var 1) ok_lnil)) (ok_fld (T.fl_corners P w) (ok_var 0)) ok_r2))
 (ok_ret (ok_tup (ok_acons (ok_b (ok_lcons (ok_var 1) ok_lnil)) (ok_acons (ok_var 1) ok_anil)) (by decide)))
 ok_nx)
 (ok_seq (ok_set (ok_lc (ok_wSeq (ok_call (ok_cval (ok_var 0) (ok_cval (ok_b (ok_lcons (ok_var 1) ok_lnil)) ok_cnil)) rfl)) (ok_vN (by decide)) (ok_t' (ok_bin (ok_var 6) (ok_b (ok_lcons (ok_var 1) ok_lnil)) ok_r2)) (ok_bin (ok_var 1) (ok_var 6) ok_r2)))
 (ok_seq (ok_for (ok_wRng2 (ok_acons (ok_c fun _ => rfl) (ok_acons (ok_bin (ok_fld (T.fl_corners P w) (ok_var 0)) (ok_c fun _ => rfl) ok_r2) ok_anil))) ok_gN
 (ok_if (ok_t' (ok_bin (ok_var 5) (ok_var 4) ok_r2))
 (ok_set (ok_call (ok_cval (ok_var 0) (ok_cval (ok_bin (ok_var 1) (ok_tup (ok_acons (ok_var 5) ok_anil) (by decide)) ok_r2) (ok_cval (ok_var 2) ok_cnil))) rfl))
 ok_nx))
 (ok_ret (ok_var 2)))))))⟩
theorem sc_least_sum_colours : FnScope ["web"] ["web"] (defScope st_least_sum_colours) := ⟨rfl, rfl, rfl, by decide +kernel, rfl, by decide +kernel, by decide +kernel⟩
def s_least_sum_colours_0 : MS := (sRet (mCall (m_summed_colours 9) (cVal (mVar 0) (cVal (mTup aNil) (cVal (mC .non) cNil)))))
def b_least_sum_colours : MS := s_least_sum_colours_0
def m_least_sum_colours : FM := runF 1 b_least_sum_colours
theorem ok_least_sum_colours (T : Tx K mg fs fd C) : FnOk P w K mg base CX0 14 (fs 23) (fd 23) ["web"] (spD (mkG P w K C) 1 m_least_sum_colours) :=
  fn_ok (G := (mkG P w K C)) T.f_least_sum_colours sc_least_sum_colours rfl rfl fun cdv A outer s H E hr => ⟨_, (pss_one (ps_ret (pe_call (ok_summed_colours T 9) (hr.mono (by decide)) rfl T.m_summed_colours T.k_summed_colours T.b_summed_colours .nil pass0 (pa_cons (pv 0) (pa_cons (pe_tup pa_nil) (pa_cons pe_non pa_nil)))))),
  (ok_ret (ok_call (ok_cval (ok_var 0) (ok_cval (ok_tup ok_anil (by decide)) (ok_cval (ok_c fun _ => rfl) ok_cnil))) rfl))⟩
theorem sc_law_steps : FnScope ["corners", "lines", "a", "found", "waiting", "at", "here", "one", "other", "there"] ["corners", "lines", "a"] (defScope st_law_steps) := ⟨rfl, rfl, rfl, by decide +kernel, rfl, by decide +kernel, by decide +kernel⟩
def s_law_steps_0 : MS := (sPar [3, 4, 5] (rCons (mDisp1 (mVar 2) (mC (.int 0))) (rCons (mLst (aCons (mVar 2) aNil)) (rCons (mC (.int 0)) rNil))))
def s_law_steps_2 : MS := (sSet 6 (mBin dIxA (mVar 4) (mVar 5)))
def s_law_steps_4 : MS := (sSet 9 (mIfE (mT (mBin dEqA (mVar 7) (mVar 6))) (mVar 8) (mIfE (mT (mBin dEqA (mVar 8) (mVar 6))) (mVar 7) (mC .non))))
def s_law_steps_6 : MS := (sAsg (mBin dAdd (mBin dIxA (mVar 3) (mVar 6)) (mC (.int 1))) (gItemB 3 (mVar 9)))
def s_law_steps_7 : MS := (sDrop (mApp 4 (mVar 9)))
def s_law_steps_5 : MS := (sIf (mAndT (mT (mBin dNotN (mVar 9) (mC .non))) (mT (mBin dNotInB (mVar 9) (mVar 3))))
 (sSeq s_law_steps_6
 s_law_steps_7)
 sNx)
def s_law_steps_3 : MS := (sFor (wSeq (mVar 1)) (gT 2 (gsC (gN 7) (gsC (gN 8) gsN)))
 (sSeq s_law_steps_4
 s_law_steps_5))
def s_law_steps_8 : MS := (sSet 5 (mBin dAdd (mVar 5) (mC (.int 1))))
def s_law_steps_1 : MS := (sWhile 100000 (mT (mBin dLtA (mVar 5) (mB dLen (lCons (mVar 4) lNil))))
 (sSeq s_law_steps_2
 (sSeq s_law_steps_3
 s_law_steps_8)))
def s_law_steps_9 : MS := (sRet (mVar 3))
def b_law_steps : MS := (sSeq s_law_steps_0
 (sSeq s_law_steps_1
 s_law_steps_9))
def m_law_steps : FM := runF 10 b_law_steps
theorem ok_law_steps (T : Tx K mg fs fd C) : FnOk P w K mg base CX0 1 (fs 24) (fd 24) ["corners", "lines", "a"] (spD (mkG P w K C) 3 m_law_steps) :=
  fn_ok (G := (mkG P w K C)) T.f_law_steps sc_law_steps rfl rfl fun cdv A outer s H E hr => ⟨_, (pss_cons (ps_par3 (i := 3) (j := 4) (l := 5) rfl sc_law_steps.nd rfl rfl rfl (by decide) (by decide) (by decide) rfl rfl rfl (pa_cons (pe_disp (pps_cons (pv 2) pe_int pps_nil) rfl rfl (by simp) (by decide)) (pa_cons (pe_lst (pa_cons (pv 2) pa_nil)) (pa_cons pe_int pa_nil))) rfl)
 (pss_cons (ps_while PassesOwn.never (pt_cmpR (op_ltA (G := (mkG P w K C)) hr.units) (pv 5) (pe_callB (cr_len (G := (mkG P w K C))) rfl T.z_len boot_len_ (pa_cons (pv 4) pa_nil)) (nomark _))
 (pss_cons (ps_set (i := 6) sc_law_steps.nd rfl (Or.inl rfl) (pe_ix (ix_A (G := (mkG P w K C)) hr.units) (pv 4) (pv 5) (fun _ _ => rfl)))
 (pss_cons (ps_for PassesOwn.never rfl (pi_seq (pv 1)) (pg_tup rfl (pgs_cons (pg_name (i := 7) sc_law_steps.nd rfl (Or.inl rfl)) (pgs_cons (pg_name (i := 8) sc_law_steps.nd rfl (Or.inl rfl)) pgs_nil)))
 (pss_cons (ps_set (i := 9) sc_law_steps.nd rfl (Or.inl rfl) (pe_ifExp (pt_cmpR (op_eqA (G := (mkG P w K C)) hr.units) (pv 7) (pv 6) (nomark _)) (pv 8) (pe_ifExp (pt_cmpR (op_eqA (G := (mkG P w K C)) hr.units) (pv 8) (pv 6) (nomark _)) (pv 7) pe_non)))
 (pss_one (ps_if (PW.pt (pw_and (pt_cmpR op_notN (pv 9) pe_non (nomark _)) (pw_and1 (pt_cmpR (op_notInB (G := (mkG P w K C)) (u65 hr)) (pv 9) (pv 3) (by with_unfolding_all rfl)))))
 (pss_cons (ps_asg (pe_op (op_addD (G := (mkG P w K C))) (pe_ix (ix_A (G := (mkG P w K C)) hr.units) (pv 3) (pv 6) (fun _ _ => rfl)) pe_int) (pg_sub (pv 3) (pv 9) (set_anyB (G := (mkG P w K C)) hr.units)))
 (pss_one (ps_expr (pe_bm PySem.F.plainAttrs_list PySem.F.slot_list_append PySem.F.type_list_append mt_append (pv 4) (pa_cons (pv 9) pa_nil)))))
 pss_nil))))
 (pss_one (ps_set (i := 5) sc_law_steps.nd rfl (Or.inl rfl) (pe_op (op_addD (G := (mkG P w K C))) (pv 5) pe_int))))))
 (pss_one (ps_ret (pv 3))))),
  (ok_seq (ok_par3 (ok_rcons (ok_disp1 (ok_var 2) (ok_c fun _ => rfl)) (ok_rcons (ok_lst (ok_acons (ok_var 2) ok_anil) (by decide)) (ok_rcons (ok_c fun _ => rfl) ok_rnil))))
 (ok_seq (ok_while (ok_t' (ok_bin (ok_var 5) (ok_b (ok_lcons (ok_var 4) ok_lnil)) ok_r2))
 (ok_seq (ok_set (ok_bin (ok_var 4) (ok_var 5) ok_r2))
 (ok_seq (ok_for (ok_wSeq (ok_var 1)) (ok_gT (ok_gsC ok_gN (ok_gsC ok_gN ok_gsN)))
 (ok_seq (ok_set (ok_ifE (ok_t' (ok_bin (ok_var 7) (ok_var 6) ok_r2)) (ok_var 8) (ok_ifE (ok_t' (ok_bin (ok_var 8) (ok_var 6) ok_r2)) (ok_var 7) (ok_c fun _ => rfl))))
 (ok_if (ok_andT (ok_t' (ok_bin (ok_var 9) (ok_c fun _ => rfl) ok_notN)) (ok_t' (ok_bin (ok_var 9) (ok_var 3) ok_r2)))
 (ok_seq (ok_asg (ok_bin (ok_bin (ok_var 3) (ok_var 6) ok_r2) (ok_c fun _ => rfl) ok_r2) (ok_gItemB (ok_var 9)))
 (ok_drop (ok_app (ok_var 9))))
 ok_nx)))
 (ok_set (ok_bin (ok_var 5) (ok_c fun _ => rfl) ok_r2)))))
 (ok_ret (ok_var 3))))⟩
theorem sc_are_let : FnScope ["web", "told", "number", "a", "near", "b", "other", "c"] ["web", "told", "number"] (defScope st_are_let) := ⟨rfl, rfl, rfl, by decide +kernel, rfl, by decide +kernel, by decide +kernel⟩
def s_are_let_0 : MS := (sSet 3 (mB dLen (lCons (mVar 1) lNil)))
def s_are_let_1 : MS := (sSet 4 (mCall m_near_of (cVal (mVar 0) (cVal (mVar 3) cNil))))
def s_are_let_4 : MS := (sRet (mC (.bl false)))
def s_are_let_3 : MS := (sIf (mAndT (mT (mBin dInB (mVar 5) (mVar 4))) (mT (mBin dLtA (mB dAbs (lCons (mBin dSub (mVar 2) (mVar 6)) lNil)) (mC (.int 2)))))
 s_are_let_4
 sNx)
def c_are_let_0 : M := mLc [7] (wSeq (mCall m_near_of (cVal (mVar 0) (cVal (mVar 5) cNil)))) (gN 7) tYesD (mBin dInB (mVar 7) (mVar 4))
def s_are_let_6 : MS := (sRet (mC (.bl false)))
def s_are_let_5 : MS := (sIf (mAndT (mT (mBin dEqA (mVar 2) (mVar 6))) (mT (mB dAny (lCons c_are_let_0 lNil))))
 s_are_let_6
 sNx)
def s_are_let_2 : MS := (sFor (wEnumB (aCons (mVar 1) aNil)) (gT 2 (gsC (gN 5) (gsC (gN 6) gsN)))
 (sSeq s_are_let_3
 s_are_let_5))
def s_are_let_7 : MS := (sRet (mC (.bl true)))
def b_are_let : MS := (sSeq s_are_let_0
 (sSeq s_are_let_1
 (sSeq s_are_let_2
 s_are_let_7)))
def m_are_let : FM := runF 8 b_are_let
theorem ok_are_let (T : Tx K mg fs fd C) : FnOk P w K mg base CX0 4 (fs 25) (fd 25) ["web", "told", "number"] (spD (mkG P w K C) 3 m_are_let) :=
  fn_ok (G := (mkG P w K C)) T.f_are_let sc_are_let rfl rfl fun cdv A outer s H E hr => ⟨_, (pss_cons (ps_set (i := 3) sc_are_let.nd rfl (Or.inl rfl) (pe_callB (cr_len (G := (mkG P w K C))) rfl T.z_len boot_len_ (pa_cons (pv 1) pa_nil)))
 (pss_cons (ps_set (i := 4) sc_are_let.nd rfl (Or.inr rfl) (pe_call (ok_near_of T) (hr.mono (by decide)) rfl T.m_near_of T.k_near_of T.b_near_of .nil pass0 (pa_cons (pv 0) (pa_cons (pv 3) pa_nil))))
 (pss_cons (ps_for PassesOwn.never rfl (pi_enumB rfl T.z_enumerate (pa_cons (pv 1) pa_nil)) (pg_tup rfl (pgs_cons (pg_name (i := 5) sc_are_let.nd rfl (Or.inl rfl)) (pgs_cons (pg_name (i := 6) sc_are_let.nd rfl (Or.inl rfl)) pgs_nil)))
 (pss_cons (ps_if (PW.pt (pw_and (pt_cmpR (op_inB (G := (mkG P w K C)) (u65 hr)) (pv 5) (pv 4) (by with_unfolding_all rfl)) (pw_and1 (pt_cmpR (op_ltA (G := (mkG P w K C)) hr.units) (pe_callB (cr_abs (G := (mkG P w K C))) rfl T.z_abs boot_abs_ (pa_cons (pe_op op_sub (pv 2) (pv 6)) pa_nil)) pe_int (nomark _)))))
 (pss_one (ps_ret pe_bl))
 pss_nil)
 (pss_one (ps_if (PW.pt (pw_and (pt_cmpR (op_eqA (G := (mkG P w K C)) hr.units) (pv 2) (pv 6) (nomark _)) (pw_and1 (pt_val (pe_callB (cr_anyD rfl (G := (mkG P w K C))) rfl T.z_any boot_any_ (pa_cons (pe_lc (own := [("c", 7)])   rfl sc_are_let.nd (pi_seq (pe_call (ok_near_of T) (hr.mono (by decide)) rfl T.m_near_of T.k_near_of T.b_near_of .nil pass0 (pa_cons (pv 0) (pa_cons (pv 5) pa_nil)))) (blkOk_by (N := ["web", "told", "number", "a", "near", "b", "other", "c"]) (sc := defScope st_are_let) (by decide +kernel)) (fun _ _ _ _ _ => (pg_name (i := 7) sc_are_let.nd rfl (Or.inl rfl))) (fun _ _ _ _ _ => pts_nil) (fun _ _ _ _ _ => (pe_cmpR (op_inB (G := (mkG P w K C)) (u65 hr)) (pv 7) (pv 4) (by with_unfolding_all rfl)))) pa_nil))))))
 (pss_one (ps_ret pe_bl))
 pss_nil))))
 (pss_one (ps_ret pe_bl))))),
  (ok_seq (ok_set (ok_b (ok_lcons (ok_var 1) ok_lnil)))
 (ok_seq (ok_set (ok_call (ok_cval (ok_var 0) (ok_cval (ok_var 3) ok_cnil)) rfl))
 (ok_seq (ok_for (ok_wEnumB (ok_acons (ok_var 1) ok_anil)) (ok_gT (ok_gsC ok_gN (ok_gsC ok_gN ok_gsN)))
 (ok_seq (ok_if (ok_andT (ok_t' (ok_bin (ok_var 5) (ok_var 4) ok_r2)) (ok_t' (ok_bin (ok_b (ok_lcons (ok_bin (ok_var 2) (ok_var 6) ok_sub) ok_lnil)) (ok_c fun _ => rfl) ok_r2)))
 (ok_ret (ok_c fun _ => rfl))
 ok_nx)
 (ok_if (ok_andT (ok_t' (ok_bin (ok_var 2) (ok_var 6) ok_r2)) (ok_t (ok_b (ok_lcons (ok_lc (ok_wSeq (ok_call (ok_cval (ok_var 0) (ok_cval (ok_var 5) ok_cnil)) rfl)) (ok_vN (by decide)) ok_yes (ok_bin (ok_var 7) (ok_var 4) ok_r2)) ok_lnil))))
 (ok_ret (ok_c fun _ => rfl))
 ok_nx)))
 (ok_ret (ok_c fun _ => rfl)))))⟩
theorem sc_apart_on : FnScope ["web", "most", "told", "number", "found"] ["web", "most", "told"] (defScope st_apart_on) := ⟨rfl, rfl, rfl, by decide +kernel, rfl, by decide +kernel, by decide +kernel⟩
def s_apart_on_1 (rf : FM) : MS := (sRet (mVar 2))
def s_apart_on_0 (rf : FM) : MS := (sIf (mT (mBin dEqA (mB dLen (lCons (mVar 2) lNil)) (mFld 0 0 (mVar 0))))
 (s_apart_on_1 rf)
 sNx)
def s_apart_on_4 (rf : FM) : MS := (sSet 4 (mCall rf (cVal (mVar 0) (cVal (mVar 1) (cVal (mBin dAdd (mVar 2) (mTup (aCons (mVar 3) aNil))) cNil)))))
def s_apart_on_6 (rf : FM) : MS := (sRet (mVar 4))
def s_apart_on_5 (rf : FM) : MS := (sIf (mT (mBin dNotN (mVar 4) (mC .non)))
 (s_apart_on_6 rf)
 sNx)
def s_apart_on_3 (rf : FM) : MS := (sIf (mT (mCall m_are_let (cVal (mVar 0) (cVal (mVar 2) (cVal (mVar 3) cNil)))))
 (sSeq (s_apart_on_4 rf)
 (s_apart_on_5 rf))
 sNx)
def s_apart_on_2 (rf : FM) : MS := (sFor (wRng1 (aCons (mBin dAdd (mVar 1) (mC (.int 1))) aNil)) (gN 3)
 (s_apart_on_3 rf))
def s_apart_on_7 (rf : FM) : MS := (sRet (mC .non))
def b_apart_on (rf : FM) : MS := (sSeq (s_apart_on_0 rf)
 (sSeq (s_apart_on_2 rf)
 (s_apart_on_7 rf)))
def m_apart_on : Nat → FM
  | 0 => fun _ => none
  | z + 1 => runF 5 (b_apart_on (m_apart_on z))
theorem ok_apart_on (T : Tx K mg fs fd C) : ∀ z : Nat, FnOk P w K mg base CX0 (5 + z) (fs 26) (fd 26) ["web", "most", "told"] (spD (mkG P w K C) 3 (m_apart_on z))
  | 0 => fn_none (G := (mkG P w K C))
  | z + 1 => by
    have ih := ok_apart_on T z
    exact fn_ok (G := (mkG P w K C)) T.f_apart_on sc_apart_on rfl rfl fun cdv A outer s H E hr => ⟨_, (pss_cons (ps_if (pt_cmpR (op_eqA (G := (mkG P w K C)) hr.units) (pe_callB (cr_len (G := (mkG P w K C))) rfl T.z_len boot_len_ (pa_cons (pv 2) pa_nil)) (pe_fld (pv 0) rfl) (nomark _))
 (pss_one (ps_ret (pv 2)))
 pss_nil)
 (pss_cons (ps_for PassesOwn.never rfl (pi_range1 rfl T.z_range (pa_cons (pe_op (op_addD (G := (mkG P w K C))) (pv 1) pe_int) pa_nil)) (pg_name (i := 3) sc_apart_on.nd rfl (Or.inl rfl))
 (pss_one (ps_if (pt_val (pe_call (ok_are_let T) (hr.mono (by (try simp only [Nat.add_eq]); omega)) rfl T.m_are_let T.k_are_let T.b_are_let .nil pass0 (pa_cons (pv 0) (pa_cons (pv 2) (pa_cons (pv 3) pa_nil)))))
 (pss_cons (ps_set (i := 4) sc_apart_on.nd rfl (Or.inl rfl) (pe_call ih (hr.mono (by (try simp only [Nat.add_eq]); omega)) rfl T.m_apart_on T.k_apart_on T.b_apart_on .nil pass0 (pa_cons (pv 0) (pa_cons (pv 1) (pa_cons (pe_op (op_addD (G := (mkG P w K C))) (pv 2) (pe_tup (pa_cons (pv 3) pa_nil))) pa_nil)))))
 (pss_one (ps_if (pt_cmpR op_notN (pv 4) pe_non (nomark _))
 (pss_one (ps_ret (pv 4)))
 pss_nil)))
 pss_nil)))
 (pss_one (ps_ret pe_non)))),
  (ok_seq (ok_if (ok_t' (ok_bin (ok_b (ok_lcons (ok_var 2) ok_lnil)) (ok_fld (T.fl_corners P w) (ok_var 0)) ok_r2))
 (ok_ret (ok_var 2))
 ok_nx)
 (ok_seq (ok_for (ok_wRng1 (ok_acons (ok_bin (ok_var 1) (ok_c fun _ => rfl) ok_r2) ok_anil)) ok_gN
 (ok_if (ok_t (ok_call (ok_cval (ok_var 0) (ok_cval (ok_var 2) (ok_cval (ok_var 3) ok_cnil))) rfl))
 (ok_seq (ok_set (ok_call (ok_cval (ok_var 0) (ok_cval (ok_var 1) (ok_cval (ok_bin (ok_var 2) (ok_tup (ok_acons (ok_var 3) ok_anil) (by decide)) ok_r2) ok_cnil))) rfl))
 (ok_if (ok_t' (ok_bin (ok_var 4) (ok_c fun _ => rfl) ok_notN))
 (ok_ret (ok_var 4))
 ok_nx))
 ok_nx))
 (ok_ret (ok_c fun _ => rfl))))⟩
theorem sc_difference_colours : FnScope ["web", "most", "found"] ["web"] (defScope st_difference_colours) := ⟨rfl, rfl, rfl, by decide +kernel, rfl, by decide +kernel, by decide +kernel⟩
def s_difference_colours_0 : MS := (sPar [1, 2] (rCons (mUn dNeg (mC (.int 1))) (rCons (mC .non) rNil)))
def s_difference_colours_2 : MS := (sSet 1 (mBin dAdd (mVar 1) (mC (.int 1))))
def s_difference_colours_3 : MS := (sSet 2 (mCall (m_apart_on 9) (cVal (mVar 0) (cVal (mVar 1) (cVal (mTup aNil) cNil)))))
def s_difference_colours_1 : MS := (sWhile 100000 (mT (mBin dIsN (mVar 2) (mC .non)))
 (sSeq s_difference_colours_2
 s_difference_colours_3))
def s_difference_colours_4 : MS := (sRet (mTup (aCons (mVar 1) (aCons (mVar 2) aNil))))
def b_difference_colours : MS := (sSeq s_difference_colours_0
 (sSeq s_difference_colours_1
 s_difference_colours_4))
def m_difference_colours : FM := runF 3 b_difference_colours
theorem ok_difference_colours (T : Tx K mg fs fd C) : FnOk P w K mg base CX0 15 (fs 27) (fd 27) ["web"] (spD (mkG P w K C) 1 m_difference_colours) :=
  fn_ok (G := (mkG P w K C)) T.f_difference_colours sc_difference_colours rfl rfl fun cdv A outer s H E hr => ⟨_, (pss_cons (ps_asg (pe_tup (pa_cons (pe_un un_neg pe_int) (pa_cons pe_non pa_nil))) (pg_tup rfl (pgs_cons (pg_name (i := 1) sc_difference_colours.nd rfl (Or.inl rfl)) (pgs_cons (pg_name (i := 2) sc_difference_colours.nd rfl (Or.inl rfl)) pgs_nil))))
 (pss_cons (ps_while PassesOwn.never (pt_cmpR op_isN (pv 2) pe_non (nomark _))
 (pss_cons (ps_set (i := 1) sc_difference_colours.nd rfl (Or.inl rfl) (pe_op (op_addD (G := (mkG P w K C))) (pv 1) pe_int))
 (pss_one (ps_set (i := 2) sc_difference_colours.nd rfl (Or.inl rfl) (pe_call (ok_apart_on T 9) (hr.mono (by decide)) rfl T.m_apart_on T.k_apart_on T.b_apart_on .nil pass0 (pa_cons (pv 0) (pa_cons (pv 1) (pa_cons (pe_tup pa_nil) pa_nil))))))))
 (pss_one (ps_ret (pe_tup (pa_cons (pv 1) (pa_cons (pv 2) pa_nil))))))),
  (ok_seq (ok_parT (ok_rcons (ok_un (ok_c fun _ => rfl) ok_neg) (ok_rcons (ok_c fun _ => rfl) ok_rnil)) (by decide) (gs_namesC (gs_namesC gs_names)))
 (ok_seq (ok_while (ok_t' (ok_bin (ok_var 2) (ok_c fun _ => rfl) ok_isN))
 (ok_seq (ok_set (ok_bin (ok_var 1) (ok_c fun _ => rfl) ok_r2))
 (ok_set (ok_call (ok_cval (ok_var 0) (ok_cval (ok_var 1) (ok_cval (ok_tup ok_anil (by decide)) ok_cnil))) rfl))))
 (ok_ret (ok_tup (ok_acons (ok_var 1) (ok_acons (ok_var 2) ok_anil)) (by decide)))))⟩
theorem sc_pieces_of : FnScope ["web", "lot", "found", "left", "piece", "waiting", "here", "there", "corner"] ["web", "lot"] (defScope st_pieces_of) := ⟨rfl, rfl, rfl, by decide +kernel, rfl, by decide +kernel, by decide +kernel⟩
def s_pieces_of_0 : MS := (sPar [2, 3] (rCons (mLst aNil) (rCons (mB dListA (lCons (mVar 1) lNil)) rNil)))
def s_pieces_of_2 : MS := (sPar [4, 5] (rCons (mLst (aCons (mBin dIxA (mVar 3) (mC (.int 0))) aNil)) (rCons (mLst (aCons (mBin dIxA (mVar 3) (mC (.int 0))) aNil)) rNil)))
def s_pieces_of_4 : MS := (sSet 6 (mPop 5))
def s_pieces_of_7 : MS := (sDrop (mApp 4 (mVar 7)))
def s_pieces_of_8 : MS := (sDrop (mApp 5 (mVar 7)))
def s_pieces_of_6 : MS := (sIf (mAndT (mT (mBin dInB (mVar 7) (mVar 3))) (mT (mBin dNotInB (mVar 7) (mVar 4))))
 (sSeq s_pieces_of_7
 s_pieces_of_8)
 sNx)
def s_pieces_of_5 : MS := (sFor (wSeq (mCall m_near_of (cVal (mVar 0) (cVal (mVar 6) cNil)))) (gN 7)
 s_pieces_of_6)
def s_pieces_of_3 : MS := (sWhile 100000 (mT (mBin dGtA (mB dLen (lCons (mVar 5) lNil)) (mC (.int 0))))
 (sSeq s_pieces_of_4
 s_pieces_of_5))
def s_pieces_of_9 : MS := (sDrop (mApp 2 (mB dTuple (lCons (mB dSortedA (lCons (mVar 4) lNil)) lNil))))
def c_pieces_of_0 : M := mLc [8] (wSeq (mVar 3)) (gN 8) (mT (mBin dNotInB (mVar 8) (mVar 4))) (mVar 8)
def s_pieces_of_10 : MS := (sSet 3 c_pieces_of_0)
def s_pieces_of_1 : MS := (sWhile 100000 (mT (mBin dGtA (mB dLen (lCons (mVar 3) lNil)) (mC (.int 0))))
 (sSeq s_pieces_of_2
 (sSeq s_pieces_of_3
 (sSeq s_pieces_of_9
 s_pieces_of_10))))
def s_pieces_of_11 : MS := (sRet (mB dSortedA (lCons (mVar 2) lNil)))
def b_pieces_of : MS := (sSeq s_pieces_of_0
 (sSeq s_pieces_of_1
 s_pieces_of_11))
def m_pieces_of : FM := runF 9 b_pieces_of
theorem ok_pieces_of (T : Tx K mg fs fd C) : FnOk P w K mg base CX0 4 (fs 28) (fd 28) ["web", "lot"] (spD (mkG P w K C) 2 m_pieces_of) :=
  fn_ok (G := (mkG P w K C)) T.f_pieces_of sc_pieces_of rfl rfl fun cdv A outer s H E hr => ⟨_, (pss_cons (ps_par (i := 2) (j := 3) rfl sc_pieces_of.nd rfl rfl (by decide) rfl rfl (pa_cons (pe_lst pa_nil) (pa_cons (pe_callTy (cr_listA hr.hd (G := (mkG P w K C))) rfl T.z_list boot_list_ (pa_cons (pv 1) pa_nil)) pa_nil)) rfl)
 (pss_cons (ps_while PassesOwn.never (pt_cmpR (op_gtA (G := (mkG P w K C)) hr.units) (pe_callB (cr_len (G := (mkG P w K C))) rfl T.z_len boot_len_ (pa_cons (pv 3) pa_nil)) pe_int (nomark _))
 (pss_cons (ps_asg (pe_tup (pa_cons (pe_lst (pa_cons (pe_ix (ix_A (G := (mkG P w K C)) hr.units) (pv 3) pe_int (fun _ _ => rfl)) pa_nil)) (pa_cons (pe_lst (pa_cons (pe_ix (ix_A (G := (mkG P w K C)) hr.units) (pv 3) pe_int (fun _ _ => rfl)) pa_nil)) pa_nil))) (pg_tup rfl (pgs_cons (pg_name (i := 4) sc_pieces_of.nd rfl (Or.inr rfl)) (pgs_cons (pg_name (i := 5) sc_pieces_of.nd rfl (Or.inl rfl)) pgs_nil))))
 (pss_cons (ps_while PassesOwn.never (pt_cmpR (op_gtA (G := (mkG P w K C)) hr.units) (pe_callB (cr_len (G := (mkG P w K C))) rfl T.z_len boot_len_ (pa_cons (pv 5) pa_nil)) pe_int (nomark _))
 (pss_cons (ps_set (i := 6) sc_pieces_of.nd rfl (Or.inl rfl) (pe_bm0 PySem.F.plainAttrs_list PySem.F.slot_list_pop PySem.F.type_list_pop mt_pop (pv 5)))
 (pss_one (ps_for PassesOwn.never rfl (pi_seq (pe_call (ok_near_of T) (hr.mono (by decide)) rfl T.m_near_of T.k_near_of T.b_near_of .nil pass0 (pa_cons (pv 0) (pa_cons (pv 6) pa_nil)))) (pg_name (i := 7) sc_pieces_of.nd rfl (Or.inl rfl))
 (pss_one (ps_if (PW.pt (pw_and (pt_cmpR (op_inB (G := (mkG P w K C)) (u65 hr)) (pv 7) (pv 3) (by with_unfolding_all rfl)) (pw_and1 (pt_cmpR (op_notInB (G := (mkG P w K C)) (u65 hr)) (pv 7) (pv 4) (by with_unfolding_all rfl)))))
 (pss_cons (ps_expr (pe_bm PySem.F.plainAttrs_list PySem.F.slot_list_append PySem.F.type_list_append mt_append (pv 4) (pa_cons (pv 7) pa_nil)))
 (pss_one (ps_expr (pe_bm PySem.F.plainAttrs_list PySem.F.slot_list_append PySem.F.type_list_append mt_append (pv 5) (pa_cons (pv 7) pa_nil)))))
 pss_nil))))))
 (pss_cons (ps_expr (pe_bm PySem.F.plainAttrs_list PySem.F.slot_list_append PySem.F.type_list_append mt_append (pv 2) (pa_cons (pe_callTy (cr_tuple (G := (mkG P w K C))) rfl T.z_tuple boot_tuple_ (pa_cons (pe_callB (cr_sortedA rfl (u66 hr) (G := (mkG P w K C))) rfl T.z_sorted boot_sorted_ (pa_cons (pv 4) pa_nil)) pa_nil)) pa_nil)))
 (pss_one (ps_setLc (i := 3) (own := [("corner", 8)]) rfl sc_pieces_of.nd rfl rfl (sw_true rfl rfl rfl (by decide +kernel)) (pi_seq (pv 3)) (blkOk_by (N := ["web", "lot", "found", "left", "piece", "waiting", "here", "there", "corner"]) (sc := defScope st_pieces_of) (by decide +kernel)) (fun _ _ _ _ _ => (pg_name (i := 8) sc_pieces_of.nd rfl (Or.inl rfl))) (fun _ _ _ _ _ => pts_one (pt_cmpR (op_notInB (G := (mkG P w K C)) (u65 hr)) (pv 8) (pv 4) (by with_unfolding_all rfl))) (fun _ _ _ _ _ => (pv 8))))))))
 (pss_one (ps_ret (pe_callB (cr_sortedA rfl (u66 hr) (G := (mkG P w K C))) rfl T.z_sorted boot_sorted_ (pa_cons (pv 2) pa_nil)))))),
  (ok_seq (ok_par2 (ok_rcons (ok_lst ok_anil (by decide)) (ok_rcons (ok_b (ok_lcons (ok_var 1) ok_lnil)) ok_rnil)))
 (ok_seq (ok_while (ok_t' (ok_bin (ok_b (ok_lcons (ok_var 3) ok_lnil)) (ok_c fun _ => rfl) ok_r2))
 (ok_seq (ok_parT (ok_rcons (ok_lst (ok_acons (ok_bin (ok_var 3) (ok_c fun _ => rfl) ok_r2) ok_anil) (by decide)) (ok_rcons (ok_lst (ok_acons (ok_bin (ok_var 3) (ok_c fun _ => rfl) ok_r2) ok_anil) (by decide)) ok_rnil)) (by decide) (gs_namesC (gs_namesC gs_names)))
 (ok_seq (ok_while (ok_t' (ok_bin (ok_b (ok_lcons (ok_var 5) ok_lnil)) (ok_c fun _ => rfl) ok_r2))
 (ok_seq (ok_set ok_pop)
 (ok_for (ok_wSeq (ok_call (ok_cval (ok_var 0) (ok_cval (ok_var 6) ok_cnil)) rfl)) ok_gN
 (ok_if (ok_andT (ok_t' (ok_bin (ok_var 7) (ok_var 3) ok_r2)) (ok_t' (ok_bin (ok_var 7) (ok_var 4) ok_r2)))
 (ok_seq (ok_drop (ok_app (ok_var 7)))
 (ok_drop (ok_app (ok_var 7))))
 ok_nx))))
 (ok_seq (ok_drop (ok_app (ok_b (ok_lcons (ok_b (ok_lcons (ok_var 4) ok_lnil)) ok_lnil))))
 (ok_set (ok_lc (ok_wSeq (ok_var 3)) (ok_vN (by decide)) (ok_t' (ok_bin (ok_var 8) (ok_var 4) ok_r2)) (ok_var 8)))))))
 (ok_ret (ok_b (ok_lcons (ok_var 2) ok_lnil)))))⟩
theorem sc_all_pieces : FnScope ["web"] ["web"] (defScope st_all_pieces) := ⟨rfl, rfl, rfl, by decide +kernel, rfl, by decide +kernel, by decide +kernel⟩
def s_all_pieces_0 : MS := (sRet (mCall m_pieces_of (cVal (mVar 0) (cVal (mTg1 (mFld 0 0 (mVar 0))) cNil))))
def b_all_pieces : MS := s_all_pieces_0
def m_all_pieces : FM := runF 1 b_all_pieces
theorem ok_all_pieces (T : Tx K mg fs fd C) : FnOk P w K mg base CX0 5 (fs 29) (fd 29) ["web"] (spD (mkG P w K C) 1 m_all_pieces) :=
  fn_ok (G := (mkG P w K C)) T.f_all_pieces sc_all_pieces rfl rfl fun cdv A outer s H E hr => ⟨_, (pss_one (ps_ret (pe_call (ok_pieces_of T) (hr.mono (by decide)) rfl T.m_pieces_of T.k_pieces_of T.b_pieces_of .nil pass0 (pa_cons (pv 0) (pa_cons (pe_tupRg rfl rfl T.z_tuple (prg_1 rfl T.z_range (pe_fld (pv 0) rfl))) pa_nil))))),
  (ok_ret (ok_call (ok_cval (ok_var 0) (ok_cval (ok_tupRg1 (ok_fld (T.fl_corners P w) (ok_var 0))) ok_cnil)) rfl))⟩
theorem sc_is_one : FnScope ["web"] ["web"] (defScope st_is_one) := ⟨rfl, rfl, rfl, by decide +kernel, rfl, by decide +kernel, by decide +kernel⟩
def s_is_one_0 : MS := (sRet (mBin dEqA (mB dLen (lCons (mCall m_all_pieces (cVal (mVar 0) cNil)) lNil)) (mC (.int 1))))
def b_is_one : MS := s_is_one_0
def m_is_one : FM := runF 1 b_is_one
theorem ok_is_one (T : Tx K mg fs fd C) : FnOk P w K mg base CX0 6 (fs 30) (fd 30) ["web"] (spD (mkG P w K C) 1 m_is_one) :=
  fn_ok (G := (mkG P w K C)) T.f_is_one sc_is_one rfl rfl fun cdv A outer s H E hr => ⟨_, (pss_one (ps_ret (pe_cmpR (op_eqA (G := (mkG P w K C)) hr.units) (pe_callB (cr_len (G := (mkG P w K C))) rfl T.z_len boot_len_ (pa_cons (pe_call (ok_all_pieces T) (hr.mono (by decide)) rfl T.m_all_pieces T.k_all_pieces T.b_all_pieces .nil pass0 (pa_cons (pv 0) pa_nil)) pa_nil)) pe_int (nomark _)))),
  (ok_ret (ok_bin (ok_b (ok_lcons (ok_call (ok_cval (ok_var 0) ok_cnil) rfl) ok_lnil)) (ok_c fun _ => rfl) ok_r2))⟩
theorem sc_is_tree_of : FnScope ["web"] ["web"] (defScope st_is_tree_of) := ⟨rfl, rfl, rfl, by decide +kernel, rfl, by decide +kernel, by decide +kernel⟩
def s_is_tree_of_0 : MS := (sRet (mAndV (mCall m_is_one (cVal (mVar 0) cNil)) (mBin dEqA (mB dLen (lCons (mFld 0 1 (mVar 0)) lNil)) (mBin dSub (mFld 0 0 (mVar 0)) (mC (.int 1))))))
def b_is_tree_of : MS := s_is_tree_of_0
def m_is_tree_of : FM := runF 1 b_is_tree_of
theorem ok_is_tree_of (T : Tx K mg fs fd C) : FnOk P w K mg base CX0 7 (fs 31) (fd 31) ["web"] (spD (mkG P w K C) 1 m_is_tree_of) :=
  fn_ok (G := (mkG P w K C)) T.f_is_tree_of sc_is_tree_of rfl rfl fun cdv A outer s H E hr => ⟨_, (pss_one (ps_ret (pe_and (pe_call (ok_is_one T) (hr.mono (by decide)) rfl T.m_is_one T.k_is_one T.b_is_one .nil pass0 (pa_cons (pv 0) pa_nil)) (pe_one (pe_cmpR (op_eqA (G := (mkG P w K C)) hr.units) (pe_callB (cr_len (G := (mkG P w K C))) rfl T.z_len boot_len_ (pa_cons (pe_fld (pv 0) rfl) pa_nil)) (pe_op op_sub (pe_fld (pv 0) rfl) pe_int) (nomark _)))))),
  (ok_ret (ok_andV (ok_call (ok_cval (ok_var 0) ok_cnil) rfl) (ok_bin (ok_b (ok_lcons (ok_fld (T.fl_lines P w) (ok_var 0)) ok_lnil)) (ok_bin (ok_fld (T.fl_corners P w) (ok_var 0)) (ok_c fun _ => rfl) ok_sub) ok_r2)))⟩
theorem sc_is_tree : FnScope ["web"] ["web"] (defScope st_is_tree) := ⟨rfl, rfl, rfl, by decide +kernel, rfl, by decide +kernel, by decide +kernel⟩
def s_is_tree_0 : MS := (sRet (mCall m_is_tree_of (cVal (mVar 0) cNil)))
def b_is_tree : MS := s_is_tree_0
def m_is_tree : FM := runF 1 b_is_tree
theorem ok_is_tree (T : Tx K mg fs fd C) : FnOk P w K mg base CX0 8 (fs 32) (fd 32) ["web"] (spD (mkG P w K C) 1 m_is_tree) :=
  fn_ok (G := (mkG P w K C)) T.f_is_tree sc_is_tree rfl rfl fun cdv A outer s H E hr => ⟨_, (pss_one (ps_ret (pe_call (ok_is_tree_of T) (hr.mono (by decide)) rfl T.m_is_tree_of T.k_is_tree_of T.b_is_tree_of .nil pass0 (pa_cons (pv 0) pa_nil)))),
  (ok_ret (ok_call (ok_cval (ok_var 0) ok_cnil) rfl))⟩
theorem sc_law : FnScope ["script", "hand", "turn", "corners", "lines", "web", "many", "good", "row", "unlike", "sums", "corner", "rows", "most", "far", "fits", "a", "b", "apart", "number", "line"] ["script"] (defScope st_law) := ⟨rfl, rfl, rfl, by decide +kernel, rfl, by decide +kernel, by decide +kernel⟩
def s_law_0 : MS := (sSet 1 (mCall m_law_hand (cVal (mVar 0) cNil)))
def s_law_2 : MS := (sRet (mC (.bl false)))
def s_law_1 : MS := (sIf (mOrT (mT (mBin dNeA (mCall m_graceful (cVal (mMake 0 m_Web (cVal (mC (.int 2)) (cVal (mTup (aCons (mTup (aCons (mC (.int 0)) (aCons (mC (.int 1)) aNil))) aNil)) cNil))) cNil)) (mTup (aCons (mC (.int 0)) (aCons (mC (.int 1)) aNil))))) (mT (mBin dNeA (mCall m_even_sums (cVal (mMake 0 m_Web (cVal (mC (.int 2)) (cVal (mTup (aCons (mTup (aCons (mC (.int 0)) (aCons (mC (.int 1)) aNil))) aNil)) cNil))) cNil)) (mTup (aCons (mC (.int 1)) aNil)))))
 s_law_2
 sNx)
def s_law_4 : MS := (sSet 3 (mBin dAdd (mC (.int 1)) (mCall m_law_draw (cIo 1 (cVal (mC (.int 4)) cNil)))))
def s_law_5 : MS := (sSet 4 (mCall m_law_lines (cIo 1 (cVal (mVar 3) cNil))))
def s_law_6 : MS := (sPar [5, 6] (rCons (mMake 0 m_Web (cVal (mVar 3) (cVal (mVar 4) cNil))) (rCons (mB dLen (lCons (mVar 4) lNil)) rNil)))
def s_law_7 : MS := (sSet 7 (mLst aNil))
def c_law_0 : M := mLc [16, 17] (wSeq (mVar 4)) (gT 2 (gsC (gN 16) (gsC (gN 17) gsN))) tYesD (mB dAbs (lCons (mBin dSub (mBin dIxA (mVar 8) (mVar 16)) (mBin dIxA (mVar 8) (mVar 17))) lNil))
def s_law_9 : MS := (sSet 9 (mBin dEqA (mB dLenSet (lCons c_law_0 lNil)) (mVar 6)))
def c_law_1 : M := mLc [16, 17] (wSeq (mVar 4)) (gT 2 (gsC (gN 16) (gsC (gN 17) gsN))) tYesD (mBin dEqA (mBin dIxA (mVar 8) (mVar 16)) (mBin dIxA (mVar 8) (mVar 17)))
def s_law_11 : MS := (sDrop (mApp 7 (mVar 8)))
def s_law_10 : MS := (sIf (mAndT (mT (mVar 9)) (mAndT (mT (mBin dEqA (mB dLenSet (lCons (mVar 8) lNil)) (mVar 3))) (mNotT (mT (mB dAny (lCons c_law_1 lNil))))))
 s_law_11
 sNx)
def s_law_8 : MS := (sFor (wSeq (mCall m_law_tuples (cVal (mVar 3) (cVal (mC (.int 0)) (cVal (mVar 6) cNil))))) (gN 8)
 (sSeq s_law_9
 s_law_10))
def s_law_13 : MS := (sRet (mC (.bl false)))
def s_law_12 : MS := (sIf (mOrT (mT (mBin dNeA (mCall m_graceful (cVal (mVar 5) cNil)) (mIfE (mT (mBin dGtA (mB dLen (lCons (mVar 7) lNil)) (mC (.int 0)))) (mBin dIxA (mVar 7) (mC (.int 0))) (mC .non)))) (mAndT (mT (mCall m_is_tree (cVal (mVar 5) cNil))) (mT (mBin dEqA (mB dLen (lCons (mVar 7) lNil)) (mC (.int 0))))))
 s_law_13
 sNx)
def s_law_14 : MS := (sSet 7 (mLst aNil))
def s_law_16 : MS := (sSet 10 (mLst aNil))
def c_law_2 : M := mLc [19, 20] (wZip (aCons (mVar 8) (aCons (mVar 4) aNil))) (gT 2 (gsC (gN 19) (gsC (gN 20) gsN))) (mT (mBin dInB (mVar 11) (mVar 20))) (mVar 19)
def s_law_18 : MS := (sDrop (mApp 10 (mB dSumA (lCons c_law_2 lNil))))
def s_law_17 : MS := (sFor (wRng1 (aCons (mVar 3) aNil)) (gN 11)
 s_law_18)
def s_law_20 : MS := (sDrop (mApp 7 (mVar 8)))
def s_law_19 : MS := (sIf (mT (mBin dEqA (mB dLenSet (lCons (mVar 10) lNil)) (mC (.int 1))))
 s_law_20
 sNx)
def s_law_15 : MS := (sFor (wSeq (mCall m_law_orders (cVal (mRg2 (mC (.int 1)) (mBin dAdd (mVar 6) (mC (.int 1)))) cNil))) (gN 8)
 (sSeq s_law_16
 (sSeq s_law_17
 s_law_19)))
def s_law_22 : MS := (sRet (mC (.bl false)))
def s_law_21 : MS := (sIf (mT (mBin dNeA (mCall m_even_sums (cVal (mVar 5) cNil)) (mIfE (mT (mBin dGtA (mB dLen (lCons (mVar 7) lNil)) (mC (.int 0)))) (mBin dIxA (mVar 7) (mC (.int 0))) (mC .non))))
 s_law_22
 sNx)
def s_law_23 : MS := (sSet 12 (mLst aNil))
def c_law_3 : M := mLc [16, 17] (wSeq (mVar 4)) (gT 2 (gsC (gN 16) (gsC (gN 17) gsN))) tYesD (mBin dNeA (mBin dIxA (mVar 8) (mVar 16)) (mBin dIxA (mVar 8) (mVar 17)))
def s_law_26 : MS := (sDrop (mApp 12 (mTup (aCons (mB dSumA (lCons (mVar 8) lNil)) (aCons (mVar 8) aNil)))))
def s_law_25 : MS := (sIf (mT (mB dAll (lCons c_law_3 lNil)))
 s_law_26
 sNx)
def s_law_24 : MS := (sFor (wSeq (mCall m_law_tuples (cVal (mVar 3) (cVal (mC (.int 1)) (cVal (mVar 3) cNil))))) (gN 8)
 s_law_25)
def s_law_28 : MS := (sRet (mC (.bl false)))
def s_law_27 : MS := (sIf (mT (mBin dNeA (mCall m_least_sum_colours (cVal (mVar 5) cNil)) (mB dMinA (lCons (mVar 12) lNil))))
 s_law_28
 sNx)
def s_law_29 : MS := (sPar [12, 13] (rCons (mLst aNil) (rCons (mBin dSub (mBin dMulA (mC (.int 2)) (mVar 3)) (mC (.int 2))) rNil)))
def c_law_4 : M := mLc [16] (wRng1 (aCons (mVar 3) aNil)) (gN 16) tYesD (mCall m_law_steps (cVal (mVar 3) (cVal (mVar 4) (cVal (mVar 16) cNil))))
def s_law_30 : MS := (sSet 14 c_law_4)
def s_law_32 : MS := (sSet 15 (mC (.bl true)))
def s_law_35 : MS := (sSet 18 (mGet2 (mBin dIxA (mVar 14) (mVar 16)) (mVar 17) (mC (.int 99))))
def s_law_36 : MS := (sSet 15 (mAndV (mVar 15) (mAndV (mOrV (mBin dNeA (mVar 18) (mC (.int 1))) (mBin dGtA (mB dAbs (lCons (mBin dSub (mBin dIxA (mVar 8) (mVar 16)) (mBin dIxA (mVar 8) (mVar 17))) lNil)) (mC (.int 1)))) (mOrV (mBin dNeA (mVar 18) (mC (.int 2))) (mBin dNeA (mBin dIxA (mVar 8) (mVar 16)) (mBin dIxA (mVar 8) (mVar 17)))))))
def s_law_34 : MS := (sFor (wRng2 (aCons (mBin dAdd (mVar 16) (mC (.int 1))) (aCons (mVar 3) aNil))) (gN 17)
 (sSeq s_law_35
 s_law_36))
def s_law_33 : MS := (sFor (wRng1 (aCons (mVar 3) aNil)) (gN 16)
 s_law_34)
def s_law_38 : MS := (sDrop (mApp 12 (mTup (aCons (mB dMaxA (lCons (mVar 8) lNil)) (aCons (mVar 8) aNil)))))
def s_law_37 : MS := (sIf (mT (mVar 15))
 s_law_38
 sNx)
def s_law_31 : MS := (sFor (wSeq (mCall m_law_tuples (cVal (mVar 3) (cVal (mC (.int 0)) (cVal (mVar 13) cNil))))) (gN 8)
 (sSeq s_law_32
 (sSeq s_law_33
 s_law_37)))
def s_law_40 : MS := (sRet (mC (.bl false)))
def s_law_39 : MS := (sIf (mT (mBin dNeA (mCall m_difference_colours (cVal (mVar 5) cNil)) (mB dMinA (lCons (mVar 12) lNil))))
 s_law_40
 sNx)
def s_law_3 : MS := (sFor (wRng1 (aCons (mC (.int 3)) aNil)) (gN 2)
 (sSeq s_law_4
 (sSeq s_law_5
 (sSeq s_law_6
 (sSeq s_law_7
 (sSeq s_law_8
 (sSeq s_law_12
 (sSeq s_law_14
 (sSeq s_law_15
 (sSeq s_law_21
 (sSeq s_law_23
 (sSeq s_law_24
 (sSeq s_law_27
 (sSeq s_law_29
 (sSeq s_law_30
 (sSeq s_law_31
 s_law_39))))))))))))))))
def s_law_41 : MS := (sRet (mC (.bl true)))
def b_law : MS := (sSeq s_law_0
 (sSeq s_law_1
 (sSeq s_law_3
 s_law_41)))
def m_law : FM := runF 21 b_law
theorem ok_law (T : Tx K mg fs fd C) : FnOk P w K mg base CX0 16 (fs 33) (fd 33) ["script"] (spD (mkG P w K C) 1 m_law) :=
  fn_ok (G := (mkG P w K C)) T.f_law sc_law rfl rfl fun cdv A outer s H E hr => ⟨_, (pss_cons (ps_set (i := 1) sc_law.nd rfl (Or.inl rfl) (pe_call (ok_law_hand T) (hr.mono (by decide)) rfl T.m_law_hand T.k_law_hand T.b_law_hand .nil pass0 (pa_cons (pv 0) pa_nil)))
 (pss_cons (ps_if (PW.pt (pw_or (pt_cmpR (op_neA (G := (mkG P w K C)) hr.units) (pe_call (ok_graceful T) (hr.mono (by decide)) rfl T.m_graceful T.k_graceful T.b_graceful .nil pass0 (pa_cons (pe_make T.mkW (ok_Web T) (hr.mono (by decide)) rfl T.m_Web T.b_Web .nil pass0 (pa_cons pe_int (pa_cons (pe_tup (pa_cons (pe_tup (pa_cons pe_int (pa_cons pe_int pa_nil))) pa_nil)) pa_nil))) pa_nil)) (pe_tup (pa_cons pe_int (pa_cons pe_int pa_nil))) (nomark _)) (pw_or1 (pt_cmpR (op_neA (G := (mkG P w K C)) hr.units) (pe_call (ok_even_sums T) (hr.mono (by decide)) rfl T.m_even_sums T.k_even_sums T.b_even_sums .nil pass0 (pa_cons (pe_make T.mkW (ok_Web T) (hr.mono (by decide)) rfl T.m_Web T.b_Web .nil pass0 (pa_cons pe_int (pa_cons (pe_tup (pa_cons (pe_tup (pa_cons pe_int (pa_cons pe_int pa_nil))) pa_nil)) pa_nil))) pa_nil)) (pe_tup (pa_cons pe_int pa_nil)) (nomark _)))))
 (pss_one (ps_ret pe_bl))
 pss_nil)
 (pss_cons (ps_for PassesOwn.never rfl (pi_range1 rfl T.z_range (pa_cons pe_int pa_nil)) (pg_name (i := 2) sc_law.nd rfl (Or.inl rfl))
 (pss_cons (ps_set (i := 3) sc_law.nd rfl (Or.inr rfl) (pe_op (op_addD (G := (mkG P w K C))) pe_int (pe_call (ok_law_draw T) (hr.mono (by decide)) rfl T.m_law_draw T.k_law_draw T.b_law_draw .nil pass0 (pa_cons (pv 1) (pa_cons pe_int pa_nil)))))
 (pss_cons (ps_set (i := 4) sc_law.nd rfl (Or.inr rfl) (pe_call (ok_law_lines T) (hr.mono (by decide)) rfl T.m_law_lines T.k_law_lines T.b_law_lines .nil pass0 (pa_cons (pv 1) (pa_cons (pv 3) pa_nil))))
 (pss_cons (ps_par (i := 5) (j := 6) rfl sc_law.nd rfl rfl (by decide) rfl rfl (pa_cons (pe_make T.mkW (ok_Web T) (hr.mono (by decide)) rfl T.m_Web T.b_Web .nil pass0 (pa_cons (pv 3) (pa_cons (pv 4) pa_nil))) (pa_cons (pe_callB (cr_len (G := (mkG P w K C))) rfl T.z_len boot_len_ (pa_cons (pv 4) pa_nil)) pa_nil)) rfl)
 (pss_cons (ps_set (i := 7) sc_law.nd rfl (Or.inl rfl) (pe_lst pa_nil))
 (pss_cons (ps_for PassesOwn.never rfl (pi_seq (pe_call (ok_law_tuples T) (hr.mono (by decide)) rfl T.m_law_tuples T.k_law_tuples T.b_law_tuples .nil pass0 (pa_cons (pv 3) (pa_cons pe_int (pa_cons (pv 6) pa_nil))))) (pg_name (i := 8) sc_law.nd rfl (Or.inr rfl))
 (pss_cons (ps_set (i := 9) sc_law.nd rfl (Or.inl rfl) (pe_cmpR (op_eqA (G := (mkG P w K C)) hr.units) (pe_lenSet (G := (mkG P w K C)) rfl T.z_len rfl T.z_set (pe_lc (own := [("a", 16), ("b", 17)])   rfl sc_law.nd (pi_seq (pv 4)) (blkOk_by (N := ["script", "hand", "turn", "corners", "lines", "web", "many", "good", "row", "unlike", "sums", "corner", "rows", "most", "far", "fits", "a", "b", "apart", "number", "line"]) (sc := defScope st_law) (by decide +kernel)) (fun _ _ _ _ _ => (pg_tup rfl (pgs_cons (pg_name (i := 16) sc_law.nd rfl (Or.inl rfl)) (pgs_cons (pg_name (i := 17) sc_law.nd rfl (Or.inl rfl)) pgs_nil)))) (fun _ _ _ _ _ => pts_nil) (fun _ _ _ _ _ => (pe_callB (cr_abs (G := (mkG P w K C))) rfl T.z_abs boot_abs_ (pa_cons (pe_op op_sub (pe_ix (ix_A (G := (mkG P w K C)) hr.units) (pv 8) (pv 16) (fun _ _ => rfl)) (pe_ix (ix_A (G := (mkG P w K C)) hr.units) (pv 8) (pv 17) (fun _ _ => rfl))) pa_nil)))) rfl hr.units) (pv 6) (nomark _)))
 (pss_one (ps_if (PW.pt (pw_and (pt_val (pv 9)) (pw_and (pt_cmpR (op_eqA (G := (mkG P w K C)) hr.units) (pe_lenSet (G := (mkG P w K C)) rfl T.z_len rfl T.z_set (pv 8) rfl hr.units) (pv 3) (nomark _)) (pw_and1 (pt_not (pt_val (pe_callB (cr_anyD rfl (G := (mkG P w K C))) rfl T.z_any boot_any_ (pa_cons (pe_lc (own := [("a", 16), ("b", 17)])   rfl sc_law.nd (pi_seq (pv 4)) (blkOk_by (N := ["script", "hand", "turn", "corners", "lines", "web", "many", "good", "row", "unlike", "sums", "corner", "rows", "most", "far", "fits", "a", "b", "apart", "number", "line"]) (sc := defScope st_law) (by decide +kernel)) (fun _ _ _ _ _ => (pg_tup rfl (pgs_cons (pg_name (i := 16) sc_law.nd rfl (Or.inl rfl)) (pgs_cons (pg_name (i := 17) sc_law.nd rfl (Or.inl rfl)) pgs_nil)))) (fun _ _ _ _ _ => pts_nil) (fun _ _ _ _ _ => (pe_cmpR (op_eqA (G := (mkG P w K C)) hr.units) (pe_ix (ix_A (G := (mkG P w K C)) hr.units) (pv 8) (pv 16) (fun _ _ => rfl)) (pe_ix (ix_A (G := (mkG P w K C)) hr.units) (pv 8) (pv 17) (fun _ _ => rfl)) (nomark _)))) pa_nil))))))))
 (pss_one (ps_expr (pe_bm PySem.F.plainAttrs_list PySem.F.slot_list_append PySem.F.type_list_append mt_append (pv 7) (pa_cons (pv 8) pa_nil))))
 pss_nil))))
 (pss_cons (ps_if (PW.pt (pw_or (pt_cmpR (op_neA (G := (mkG P w K C)) hr.units) (pe_call (ok_graceful T) (hr.mono (by decide)) rfl T.m_graceful T.k_graceful T.b_graceful .nil pass0 (pa_cons (pv 5) pa_nil)) (pe_ifExp (pt_cmpR (op_gtA (G := (mkG P w K C)) hr.units) (pe_callB (cr_len (G := (mkG P w K C))) rfl T.z_len boot_len_ (pa_cons (pv 7) pa_nil)) pe_int (nomark _)) (pe_ix (ix_A (G := (mkG P w K C)) hr.units) (pv 7) pe_int (fun _ _ => rfl)) pe_non) (nomark _)) (pw_or1 (PW.pt (pw_and (pt_val (pe_call (ok_is_tree T) (hr.mono (by decide)) rfl T.m_is_tree T.k_is_tree T.b_is_tree .nil pass0 (pa_cons (pv 5) pa_nil))) (pw_and1 (pt_cmpR (op_eqA (G := (mkG P w K C)) hr.units) (pe_callB (cr_len (G := (mkG P w K C))) rfl T.z_len boot_len_ (pa_cons (pv 7) pa_nil)) pe_int (nomark _))))))))
 (pss_one (ps_ret pe_bl))
 pss_nil)
 (pss_cons (ps_set (i := 7) sc_law.nd rfl (Or.inl rfl) (pe_lst pa_nil))
 (pss_cons (ps_for PassesOwn.never rfl (pi_seq (pe_call (ok_law_orders T) (hr.mono (by decide)) rfl T.m_law_orders T.k_law_orders T.b_law_orders .nil pass0 (pa_cons (pe_listRg rfl rfl T.z_list (prg_2 rfl T.z_range pe_int (pe_op (op_addD (G := (mkG P w K C))) (pv 6) pe_int))) pa_nil))) (pg_name (i := 8) sc_law.nd rfl (Or.inr rfl))
 (pss_cons (ps_set (i := 10) sc_law.nd rfl (Or.inl rfl) (pe_lst pa_nil))
 (pss_cons (ps_for PassesOwn.never rfl (pi_range1 rfl T.z_range (pa_cons (pv 3) pa_nil)) (pg_name (i := 11) sc_law.nd rfl (Or.inr rfl))
 (pss_one (ps_expr (pe_bm PySem.F.plainAttrs_list PySem.F.slot_list_append PySem.F.type_list_append mt_append (pv 10) (pa_cons (pe_callB (cr_sumA rfl (G := (mkG P w K C))) rfl T.z_sum boot_sum_ (pa_cons (pe_lc (own := [("number", 19), ("line", 20)])   rfl sc_law.nd (RZ.pi_zipA rfl T.z_zip (pa_cons (pv 8) (pa_cons (pv 4) pa_nil))) (blkOk_by (N := ["script", "hand", "turn", "corners", "lines", "web", "many", "good", "row", "unlike", "sums", "corner", "rows", "most", "far", "fits", "a", "b", "apart", "number", "line"]) (sc := defScope st_law) (by decide +kernel)) (fun _ _ _ _ _ => (pg_tup rfl (pgs_cons (pg_name (i := 19) sc_law.nd rfl (Or.inl rfl)) (pgs_cons (pg_name (i := 20) sc_law.nd rfl (Or.inl rfl)) pgs_nil)))) (fun _ _ _ _ _ => pts_one (pt_cmpR (op_inB (G := (mkG P w K C)) (u65 hr)) (pv 11) (pv 20) (by with_unfolding_all rfl))) (fun _ _ _ _ _ => (pv 19))) pa_nil)) pa_nil)))))
 (pss_one (ps_if (pt_cmpR (op_eqA (G := (mkG P w K C)) hr.units) (pe_lenSet (G := (mkG P w K C)) rfl T.z_len rfl T.z_set (pv 10) rfl hr.units) pe_int (nomark _))
 (pss_one (ps_expr (pe_bm PySem.F.plainAttrs_list PySem.F.slot_list_append PySem.F.type_list_append mt_append (pv 7) (pa_cons (pv 8) pa_nil))))
 pss_nil)))))
 (pss_cons (ps_if (pt_cmpR (op_neA (G := (mkG P w K C)) hr.units) (pe_call (ok_even_sums T) (hr.mono (by decide)) rfl T.m_even_sums T.k_even_sums T.b_even_sums .nil pass0 (pa_cons (pv 5) pa_nil)) (pe_ifExp (pt_cmpR (op_gtA (G := (mkG P w K C)) hr.units) (pe_callB (cr_len (G := (mkG P w K C))) rfl T.z_len boot_len_ (pa_cons (pv 7) pa_nil)) pe_int (nomark _)) (pe_ix (ix_A (G := (mkG P w K C)) hr.units) (pv 7) pe_int (fun _ _ => rfl)) pe_non) (nomark _))
 (pss_one (ps_ret pe_bl))
 pss_nil)
 (pss_cons (ps_set (i := 12) sc_law.nd rfl (Or.inl rfl) (pe_lst pa_nil))
 (pss_cons (ps_for PassesOwn.never rfl (pi_seq (pe_call (ok_law_tuples T) (hr.mono (by decide)) rfl T.m_law_tuples T.k_law_tuples T.b_law_tuples .nil pass0 (pa_cons (pv 3) (pa_cons pe_int (pa_cons (pv 3) pa_nil))))) (pg_name (i := 8) sc_law.nd rfl (Or.inr rfl))
 (pss_one (ps_if (pt_val (pe_callB (cr_allD rfl (G := (mkG P w K C))) rfl T.z_all boot_all_ (pa_cons (pe_lc (own := [("a", 16), ("b", 17)])   rfl sc_law.nd (pi_seq (pv 4)) (blkOk_by (N := ["script", "hand", "turn", "corners", "lines", "web", "many", "good", "row", "unlike", "sums", "corner", "rows", "most", "far", "fits", "a", "b", "apart", "number", "line"]) (sc := defScope st_law) (by decide +kernel)) (fun _ _ _ _ _ => (pg_tup rfl (pgs_cons (pg_name (i := 16) sc_law.nd rfl (Or.inl rfl)) (pgs_cons (pg_name (i := 17) sc_law.nd rfl (Or.inl rfl)) pgs_nil)))) (fun _ _ _ _ _ => pts_nil) (fun _ _ _ _ _ => (pe_cmpR (op_neA (G := (mkG P w K C)) hr.units) (pe_ix (ix_A (G := (mkG P w K C)) hr.units) (pv 8) (pv 16) (fun _ _ => rfl)) (pe_ix (ix_A (G := (mkG P w K C)) hr.units) (pv 8) (pv 17) (fun _ _ => rfl)) (nomark _)))) pa_nil)))
 (pss_one (ps_expr (pe_bm PySem.F.plainAttrs_list PySem.F.slot_list_append PySem.F.type_list_append mt_append (pv 12) (pa_cons (pe_tup (pa_cons (pe_callB (cr_sumA rfl (G := (mkG P w K C))) rfl T.z_sum boot_sum_ (pa_cons (pv 8) pa_nil)) (pa_cons (pv 8) pa_nil))) pa_nil))))
 pss_nil)))
 (pss_cons (ps_if (pt_cmpR (op_neA (G := (mkG P w K C)) hr.units) (pe_call (ok_least_sum_colours T) (hr.mono (by decide)) rfl T.m_least_sum_colours T.k_least_sum_colours T.b_least_sum_colours .nil pass0 (pa_cons (pv 5) pa_nil)) (pe_callB (cr_minA hr.hd (u66 hr) (G := (mkG P w K C))) rfl T.z_min boot_min_ (pa_cons (pv 12) pa_nil)) (nomark _))
 (pss_one (ps_ret pe_bl))
 pss_nil)
 (pss_cons (ps_par (i := 12) (j := 13) rfl sc_law.nd rfl rfl (by decide) rfl rfl (pa_cons (pe_lst pa_nil) (pa_cons (pe_op op_sub (pe_op (op_mulD (G := (mkG P w K C))) pe_int (pv 3)) pe_int) pa_nil)) rfl)
 (pss_cons (ps_setLc (i := 14) (own := [("a", 16)]) rfl sc_law.nd rfl rfl (sw_true rfl rfl rfl (by decide +kernel)) (pi_range1 rfl T.z_range (pa_cons (pv 3) pa_nil)) (blkOk_by (N := ["script", "hand", "turn", "corners", "lines", "web", "many", "good", "row", "unlike", "sums", "corner", "rows", "most", "far", "fits", "a", "b", "apart", "number", "line"]) (sc := defScope st_law) (by decide +kernel)) (fun _ _ _ _ _ => (pg_name (i := 16) sc_law.nd rfl (Or.inl rfl))) (fun _ _ _ _ _ => pts_nil) (fun _ _ _ _ _ => (pe_call (ok_law_steps T) (hr.mono (by decide)) rfl T.m_law_steps T.k_law_steps T.b_law_steps .nil pass0 (pa_cons (pv 3) (pa_cons (pv 4) (pa_cons (pv 16) pa_nil))))))
 (pss_cons (ps_for PassesOwn.never rfl (pi_seq (pe_call (ok_law_tuples T) (hr.mono (by decide)) rfl T.m_law_tuples T.k_law_tuples T.b_law_tuples .nil pass0 (pa_cons (pv 3) (pa_cons pe_int (pa_cons (pv 13) pa_nil))))) (pg_name (i := 8) sc_law.nd rfl (Or.inr rfl))
 (pss_cons (ps_set (i := 15) sc_law.nd rfl (Or.inl rfl) pe_bl)
 (pss_cons (ps_for PassesOwn.never rfl (pi_range1 rfl T.z_range (pa_cons (pv 3) pa_nil)) (pg_name (i := 16) sc_law.nd rfl (Or.inl rfl))
 (pss_one (ps_for PassesOwn.never rfl (pi_range2 rfl T.z_range (pa_cons (pe_op (op_addD (G := (mkG P w K C))) (pv 16) pe_int) (pa_cons (pv 3) pa_nil))) (pg_name (i := 17) sc_law.nd rfl (Or.inl rfl))
 (pss_cons (ps_set (i := 18) sc_law.nd rfl (Or.inl rfl) (pe_dget2 (u1 hr) (pe_ix (ix_A (G := (mkG P w K C)) hr.units) (pv 14) (pv 16) (fun _ _ => rfl)) (pv 17) pe_int ⟨rfl, rfl, rfl, rfl⟩))
 (pss_one (ps_set (i := 15) sc_law.nd rfl (Or.inl rfl) (pe_and (pv 15) (pe_and (pe_or (pe_cmpR (op_neA (G := (mkG P w K C)) hr.units) (pv 18) pe_int (nomark _)) (pe_one (pe_cmpR (op_gtA (G := (mkG P w K C)) hr.units) (pe_callB (cr_abs (G := (mkG P w K C))) rfl T.z_abs boot_abs_ (pa_cons (pe_op op_sub (pe_ix (ix_A (G := (mkG P w K C)) hr.units) (pv 8) (pv 16) (fun _ _ => rfl)) (pe_ix (ix_A (G := (mkG P w K C)) hr.units) (pv 8) (pv 17) (fun _ _ => rfl))) pa_nil)) pe_int (nomark _)))) (pe_one (pe_or (pe_cmpR (op_neA (G := (mkG P w K C)) hr.units) (pv 18) pe_int (nomark _)) (pe_one (pe_cmpR (op_neA (G := (mkG P w K C)) hr.units) (pe_ix (ix_A (G := (mkG P w K C)) hr.units) (pv 8) (pv 16) (fun _ _ => rfl)) (pe_ix (ix_A (G := (mkG P w K C)) hr.units) (pv 8) (pv 17) (fun _ _ => rfl)) (nomark _)))))))))))))
 (pss_one (ps_if (pt_val (pv 15))
 (pss_one (ps_expr (pe_bm PySem.F.plainAttrs_list PySem.F.slot_list_append PySem.F.type_list_append mt_append (pv 12) (pa_cons (pe_tup (pa_cons (pe_callB (cr_maxA hr.hd (u66 hr) (G := (mkG P w K C))) rfl T.z_max boot_max_ (pa_cons (pv 8) pa_nil)) (pa_cons (pv 8) pa_nil))) pa_nil))))
 pss_nil)))))
 (pss_one (ps_if (pt_cmpR (op_neA (G := (mkG P w K C)) hr.units) (pe_call (ok_difference_colours T) (hr.mono (by decide)) rfl T.m_difference_colours T.k_difference_colours T.b_difference_colours .nil pass0 (pa_cons (pv 5) pa_nil)) (pe_callB (cr_minA hr.hd (u66 hr) (G := (mkG P w K C))) rfl T.z_min boot_min_ (pa_cons (pv 12) pa_nil)) (nomark _))
 (pss_one (ps_ret pe_bl))
 pss_nil))))))))))))))))))
 (pss_one (ps_ret pe_bl))))),
  (ok_seq (ok_set (ok_call (ok_cval (ok_var 0) ok_cnil) rfl))
 (ok_seq (ok_if (ok_orT (ok_t' (ok_bin (ok_call (ok_cval (ok_make (ok_cval (ok_c fun _ => rfl) (ok_cval (ok_tup (ok_acons (ok_tup (ok_acons (ok_c fun _ => rfl) (ok_acons (ok_c fun _ => rfl) ok_anil)) (by decide)) ok_anil) (by decide)) ok_cnil)) rfl) ok_cnil) rfl) (ok_tup (ok_acons (ok_c fun _ => rfl) (ok_acons (ok_c fun _ => rfl) ok_anil)) (by decide)) ok_r2)) (ok_t' (ok_bin (ok_call (ok_cval (ok_make (ok_cval (ok_c fun _ => rfl) (ok_cval (ok_tup (ok_acons (ok_tup (ok_acons (ok_c fun _ => rfl) (ok_acons (ok_c fun _ => rfl) ok_anil)) (by decide)) ok_anil) (by decide)) ok_cnil)) rfl) ok_cnil) rfl) (ok_tup (ok_acons (ok_c fun _ => rfl) ok_anil) (by decide)) ok_r2)))
 (ok_ret (ok_c fun _ => rfl))
 ok_nx)
 (ok_seq (ok_for (ok_wRng1 (ok_acons (ok_c fun _ => rfl) ok_anil)) ok_gN
 (ok_seq (ok_set (ok_bin (ok_c fun _ => rfl) (ok_call (ok_cio (i := 1) (ok_cval (ok_c fun _ => rfl) ok_cnil)) rfl) ok_r2))
 (ok_seq (ok_set (ok_call (ok_cio (i := 1) (ok_cval (ok_var 3) ok_cnil)) rfl))
 (ok_seq (ok_par2 (ok_rcons (ok_make (ok_cval (ok_var 3) (ok_cval (ok_var 4) ok_cnil)) rfl) (ok_rcons (ok_b (ok_lcons (ok_var 4) ok_lnil)) ok_rnil)))
 (ok_seq (ok_set (ok_lst ok_anil (by decide)))
 (ok_seq (ok_for (ok_wSeq (ok_call (ok_cval (ok_var 3) (ok_cval (ok_c fun _ => rfl) (ok_cval (ok_var 6) ok_cnil))) rfl)) ok_gN
 (ok_seq (ok_set (ok_bin (ok_b (ok_lcons (ok_lc (ok_wSeq (ok_var 4)) (ok_vT (ok_vsC (ok_vN (by decide)) (ok_vsC (ok_vN (by decide)) ok_vsN))) ok_yes (ok_b (ok_lcons (ok_bin (ok_bin (ok_var 8) (ok_var 16) ok_r2) (ok_bin (ok_var 8) (ok_var 17) ok_r2) ok_sub) ok_lnil))) ok_lnil)) (ok_var 6) ok_r2))
 (ok_if (ok_andT (ok_t (ok_var 9)) (ok_andT (ok_t' (ok_bin (ok_b (ok_lcons (ok_var 8) ok_lnil)) (ok_var 3) ok_r2)) (ok_notT (ok_t (ok_b (ok_lcons (ok_lc (ok_wSeq (ok_var 4)) (ok_vT (ok_vsC (ok_vN (by decide)) (ok_vsC (ok_vN (by decide)) ok_vsN))) ok_yes (ok_bin (ok_bin (ok_var 8) (ok_var 16) ok_r2) (ok_bin (ok_var 8) (ok_var 17) ok_r2) ok_r2)) ok_lnil))))))
 (ok_drop (ok_app (ok_var 8)))
 ok_nx)))
 (ok_seq (ok_if (ok_orT (ok_t' (ok_bin (ok_call (ok_cval (ok_var 5) ok_cnil) rfl) (ok_ifE (ok_t' (ok_bin (ok_b (ok_lcons (ok_var 7) ok_lnil)) (ok_c fun _ => rfl) ok_r2)) (ok_bin (ok_var 7) (ok_c fun _ => rfl) ok_r2) (ok_c fun _ => rfl)) ok_r2)) (ok_andT (ok_t (ok_call (ok_cval (ok_var 5) ok_cnil) rfl)) (ok_t' (ok_bin (ok_b (ok_lcons (ok_var 7) ok_lnil)) (ok_c fun _ => rfl) ok_r2))))
 (ok_ret (ok_c fun _ => rfl))
 ok_nx)
 (ok_seq (ok_set (ok_lst ok_anil (by decide)))
 (ok_seq (ok_for (ok_wSeq (ok_call (ok_cval (ok_listRg2 (ok_c fun _ => rfl) (ok_bin (ok_var 6) (ok_c fun _ => rfl) ok_r2)) ok_cnil) rfl)) ok_gN
 (ok_seq (ok_set (ok_lst ok_anil (by decide)))
 (ok_seq (ok_for (ok_wRng1 (ok_acons (ok_var 3) ok_anil)) ok_gN
 (ok_drop (ok_app (ok_b (ok_lcons (ok_lc (ok_wZip (ok_acons (ok_var 8) (ok_acons (ok_var 4) ok_anil))) (ok_vT (ok_vsC (ok_vN (by decide)) (ok_vsC (ok_vN (by decide)) ok_vsN))) (ok_t' (ok_bin (ok_var 11) (ok_var 20) ok_r2)) (ok_var 19)) ok_lnil)))))
 (ok_if (ok_t' (ok_bin (ok_b (ok_lcons (ok_var 10) ok_lnil)) (ok_c fun _ => rfl) ok_r2))
 (ok_drop (ok_app (ok_var 8)))
 ok_nx))))
 (ok_seq (ok_if (ok_t' (ok_bin (ok_call (ok_cval (ok_var 5) ok_cnil) rfl) (ok_ifE (ok_t' (ok_bin (ok_b (ok_lcons (ok_var 7) ok_lnil)) (ok_c fun _ => rfl) ok_r2)) (ok_bin (ok_var 7) (ok_c fun _ => rfl) ok_r2) (ok_c fun _ => rfl)) ok_r2))
 (ok_ret (ok_c fun _ => rfl))
 ok_nx)
 (ok_seq (ok_set (ok_lst ok_anil (by decide)))
 (ok_seq (ok_for (ok_wSeq (ok_call (ok_cval (ok_var 3) (ok_cval (ok_c fun _ => rfl) (ok_cval (ok_var 3) ok_cnil))) rfl)) ok_gN
 (ok_if (ok_t (ok_b (ok_lcons (ok_lc (ok_wSeq (ok_var 4)) (ok_vT (ok_vsC (ok_vN (by decide)) (ok_vsC (ok_vN (by decide)) ok_vsN))) ok_yes (ok_bin (ok_bin (ok_var 8) (ok_var 16) ok_r2) (ok_bin (ok_var 8) (ok_var 17) ok_r2) ok_r2)) ok_lnil)))
 (ok_drop (ok_app (ok_tup (ok_acons (ok_b (ok_lcons (ok_var 8) ok_lnil)) (ok_acons (ok_var 8) ok_anil)) (by decide))))
 ok_nx))
 (ok_seq (ok_if (ok_t' (ok_bin (ok_call (ok_cval (ok_var 5) ok_cnil) rfl) (ok_b (ok_lcons (ok_var 12) ok_lnil)) ok_r2))
 (ok_ret (ok_c fun _ => rfl))
 ok_nx)
 (ok_seq (ok_par2 (ok_rcons (ok_lst ok_anil (by decide)) (ok_rcons (ok_bin (ok_bin (ok_c fun _ => rfl) (ok_var 3) ok_r2) (ok_c fun _ => rfl) ok_sub) ok_rnil)))
 (ok_seq (ok_set (ok_lc (ok_wRng1 (ok_acons (ok_var 3) ok_anil)) (ok_vN (by decide)) ok_yes (ok_call (ok_cval (ok_var 3) (ok_cval (ok_var 4) (ok_cval (ok_var 16) ok_cnil))) rfl)))
 (ok_seq (ok_for (ok_wSeq (ok_call (ok_cval (ok_var 3) (ok_cval (ok_c fun _ => rfl) (ok_cval (ok_var 13) ok_cnil))) rfl)) ok_gN
 (ok_seq (ok_set (ok_c fun _ => rfl))
 (ok_seq (ok_for (ok_wRng1 (ok_acons (ok_var 3) ok_anil)) ok_gN
 (ok_for (ok_wRng2 (ok_acons (ok_bin (ok_var 16) (ok_c fun _ => rfl) ok_r2) (ok_acons (ok_var 3) ok_anil))) ok_gN
 (ok_seq (ok_set (ok_get2 (ok_bin (ok_var 14) (ok_var 16) ok_r2) (ok_var 17) (ok_c fun _ => rfl)))
 (ok_set (ok_andV (ok_var 15) (ok_andV (ok_orV (ok_bin (ok_var 18) (ok_c fun _ => rfl) ok_r2) (ok_bin (ok_b (ok_lcons (ok_bin (ok_bin (ok_var 8) (ok_var 16) ok_r2) (ok_bin (ok_var 8) (ok_var 17) ok_r2) ok_sub) ok_lnil)) (ok_c fun _ => rfl) ok_r2)) (ok_orV (ok_bin (ok_var 18) (ok_c fun _ => rfl) ok_r2) (ok_bin (ok_bin (ok_var 8) (ok_var 16) ok_r2) (ok_bin (ok_var 8) (ok_var 17) ok_r2) ok_r2))))))))
 (ok_if (ok_t (ok_var 15))
 (ok_drop (ok_app (ok_tup (ok_acons (ok_b (ok_lcons (ok_var 8) ok_lnil)) (ok_acons (ok_var 8) ok_anil)) (by decide))))
 ok_nx))))
 (ok_if (ok_t' (ok_bin (ok_call (ok_cval (ok_var 5) ok_cnil) rfl) (ok_b (ok_lcons (ok_var 12) ok_lnil)) ok_r2))
 (ok_ret (ok_c fun _ => rfl))
 ok_nx)))))))))))))))))
 (ok_ret (ok_c fun _ => rfl)))))⟩
end

end LW
namespace LW
open PySem PySem.Spec PyProof.Rows L2 LD
theorem e_is_integer (i : Int) : m_is_integer [.imm (.int i)] = some (.imm (.bl true), [.imm (.int i)]) := by
  simp only [s_is_integer_0, b_is_integer, m_is_integer, a_mVar, a_mC, a_mBin, a_mUn, a_mT, a_mAndT, a_mOrT, a_mNotT, a_mAndV, a_mOrV, a_mNotV, a_mIfE, a_mChain, a_mTup, a_mLst, a_aNil, a_aCons, a_lNil, a_lCons, a_mB, a_mCall, a_cNil, a_cVal, a_cIo, a_mIsi, a_mFld, a_mMake, a_mCch, a_mDNew, a_mSl, a_oNone, a_oSome, a_sNx, a_sSeq, a_sRet, a_sRetN, a_sIf, a_sSet, a_sAsg, a_sPar, a_sDrop, a_sBk, a_sCt, a_gN, a_gsN, a_gsC, a_gT, a_gFld, a_gItem, a_gIx, a_gKey, a_rNil, a_rCons, a_mApp, a_mExt, a_mPop, a_mPopAt, a_wSeq, a_wRng1, a_wRng2, a_wZip, a_wEnum, a_sFor, a_tYesD, a_mRg1, a_mRg2, runF, endD, retD, outsD, List.map_cons, List.map_nil, List.length_cons, List.length_nil, List.replicate_succ, List.replicate_zero, List.replicate, List.cons_append, List.nil_append, cont, getD, freeze, freezeS, conts, svsD, slotsD, backD, noDup0, noDup1, slotsD, keepR, setAll, List.getElem?_cons_zero, List.getElem?_cons_succ, List.set_cons_zero, List.set_cons_succ, ri, rb, if_true, reduceCtorEq, isL, isDic, Bool.not_true, Bool.not_false, a_mCchV, a_mMethK, a_mDNewI, a_mGet1, a_mGet2, a_mTg1, a_mDisp1, a_gItemB, a_gKeyK, dIxA_lst, dIxA_tup, dIxA_dicN, dIxA_dicK, dInB_lst, dInB_tup, dInB_dicN, dInB_dicK, dNotInB_lst, dNotInB_tup, dNotInB_dicN, dNotInB_dicK, isDicK, isi_int_int, isi_bool_int, Bool.not_false]
theorem e_is_within (i a b : Int) : m_is_within [.imm (.int i), .imm (.int a), .imm (.int b)] = some (.imm (.bl (decide (a ≤ i) && decide (i ≤ b))), [.imm (.int i), .imm (.int a), .imm (.int b)]) := by
  by_cases h : a ≤ i
  · simp [s_is_within_0, b_is_within, m_is_within, a_mVar, a_mC, a_mBin, a_mUn, a_mT, a_mAndT, a_mOrT, a_mNotT, a_mAndV, a_mOrV, a_mNotV, a_mIfE, a_mChain, a_mTup, a_mLst, a_aNil, a_aCons, a_lNil, a_lCons, a_mB, a_mCall, a_cNil, a_cVal, a_cIo, a_mIsi, a_mFld, a_mMake, a_mCch, a_mDNew, a_mSl, a_oNone, a_oSome, a_sNx, a_sSeq, a_sRet, a_sRetN, a_sIf, a_sSet, a_sAsg, a_sPar, a_sDrop, a_sBk, a_sCt, a_gN, a_gsN, a_gsC, a_gT, a_gFld, a_gItem, a_gIx, a_gKey, a_rNil, a_rCons, a_mApp, a_mExt, a_mPop, a_mPopAt, a_wSeq, a_wRng1, a_wRng2, a_wZip, a_wEnum, a_sFor, a_tYesD, a_mRg1, a_mRg2, runF, endD, retD, outsD, List.map_cons, List.map_nil, List.length_cons, List.length_nil, List.replicate_succ, List.replicate_zero, List.replicate, List.cons_append, List.nil_append, cont, getD, freeze, freezeS, conts, svsD, slotsD, backD, noDup0, noDup1, slotsD, keepR, setAll, List.getElem?_cons_zero, List.getElem?_cons_succ, List.set_cons_zero, List.set_cons_succ, ri, rb, if_true, reduceCtorEq, isL, isDic, Bool.not_true, Bool.not_false, a_mCchV, a_mMethK, a_mDNewI, a_mGet1, a_mGet2, a_mTg1, a_mDisp1, a_gItemB, a_gKeyK, dIxA_lst, dIxA_tup, dIxA_dicN, dIxA_dicK, dInB_lst, dInB_tup, dInB_dicN, dInB_dicK, dNotInB_lst, dNotInB_tup, dNotInB_dicN, dNotInB_dicK, isDicK, e_is_integer, dLeA, two, h]
  · simp [s_is_within_0, b_is_within, m_is_within, a_mVar, a_mC, a_mBin, a_mUn, a_mT, a_mAndT, a_mOrT, a_mNotT, a_mAndV, a_mOrV, a_mNotV, a_mIfE, a_mChain, a_mTup, a_mLst, a_aNil, a_aCons, a_lNil, a_lCons, a_mB, a_mCall, a_cNil, a_cVal, a_cIo, a_mIsi, a_mFld, a_mMake, a_mCch, a_mDNew, a_mSl, a_oNone, a_oSome, a_sNx, a_sSeq, a_sRet, a_sRetN, a_sIf, a_sSet, a_sAsg, a_sPar, a_sDrop, a_sBk, a_sCt, a_gN, a_gsN, a_gsC, a_gT, a_gFld, a_gItem, a_gIx, a_gKey, a_rNil, a_rCons, a_mApp, a_mExt, a_mPop, a_mPopAt, a_wSeq, a_wRng1, a_wRng2, a_wZip, a_wEnum, a_sFor, a_tYesD, a_mRg1, a_mRg2, runF, endD, retD, outsD, List.map_cons, List.map_nil, List.length_cons, List.length_nil, List.replicate_succ, List.replicate_zero, List.replicate, List.cons_append, List.nil_append, cont, getD, freeze, freezeS, conts, svsD, slotsD, backD, noDup0, noDup1, slotsD, keepR, setAll, List.getElem?_cons_zero, List.getElem?_cons_succ, List.set_cons_zero, List.set_cons_succ, ri, rb, if_true, reduceCtorEq, isL, isDic, Bool.not_true, Bool.not_false, a_mCchV, a_mMethK, a_mDNewI, a_mGet1, a_mGet2, a_mTg1, a_mDisp1, a_gItemB, a_gKeyK, dIxA_lst, dIxA_tup, dIxA_dicN, dIxA_dicK, dInB_lst, dInB_tup, dInB_dicN, dInB_dicK, dNotInB_lst, dNotInB_tup, dNotInB_dicN, dNotInB_dicK, isDicK, e_is_integer, dLeA, two, h]
theorem e_is_count (i : Int) : m_is_count [.imm (.int i)] = some (.imm (.bl (decide (1 ≤ i) && decide (i ≤ 7))), [.imm (.int i)]) := by
  simp [s_is_count_0, b_is_count, m_is_count, a_mVar, a_mC, a_mBin, a_mUn, a_mT, a_mAndT, a_mOrT, a_mNotT, a_mAndV, a_mOrV, a_mNotV, a_mIfE, a_mChain, a_mTup, a_mLst, a_aNil, a_aCons, a_lNil, a_lCons, a_mB, a_mCall, a_cNil, a_cVal, a_cIo, a_mIsi, a_mFld, a_mMake, a_mCch, a_mDNew, a_mSl, a_oNone, a_oSome, a_sNx, a_sSeq, a_sRet, a_sRetN, a_sIf, a_sSet, a_sAsg, a_sPar, a_sDrop, a_sBk, a_sCt, a_gN, a_gsN, a_gsC, a_gT, a_gFld, a_gItem, a_gIx, a_gKey, a_rNil, a_rCons, a_mApp, a_mExt, a_mPop, a_mPopAt, a_wSeq, a_wRng1, a_wRng2, a_wZip, a_wEnum, a_sFor, a_tYesD, a_mRg1, a_mRg2, runF, endD, retD, outsD, List.map_cons, List.map_nil, List.length_cons, List.length_nil, List.replicate_succ, List.replicate_zero, List.replicate, List.cons_append, List.nil_append, cont, getD, freeze, freezeS, conts, svsD, slotsD, backD, noDup0, noDup1, slotsD, keepR, setAll, List.getElem?_cons_zero, List.getElem?_cons_succ, List.set_cons_zero, List.set_cons_succ, ri, rb, if_true, reduceCtorEq, isL, isDic, Bool.not_true, Bool.not_false, a_mCchV, a_mMethK, a_mDNewI, a_mGet1, a_mGet2, a_mTg1, a_mDisp1, a_gItemB, a_gKeyK, dIxA_lst, dIxA_tup, dIxA_dicN, dIxA_dicK, dInB_lst, dInB_tup, dInB_dicN, dInB_dicK, dNotInB_lst, dNotInB_tup, dNotInB_dicN, dNotInB_dicK, isDicK, e_is_within]
theorem e_is_tuple (ds : List D) (a b : Int) : m_is_tuple [.imm (.tup ds), .imm (.int a), .imm (.int b)] = some (.imm (.bl (decide (a ≤ ds.length) && decide ((ds.length : Int) ≤ b))), [.imm (.tup ds), .imm (.int a), .imm (.int b)]) := by
  by_cases h : a ≤ ds.length
  · simp [s_is_tuple_0, b_is_tuple, m_is_tuple, a_mVar, a_mC, a_mBin, a_mUn, a_mT, a_mAndT, a_mOrT, a_mNotT, a_mAndV, a_mOrV, a_mNotV, a_mIfE, a_mChain, a_mTup, a_mLst, a_aNil, a_aCons, a_lNil, a_lCons, a_mB, a_mCall, a_cNil, a_cVal, a_cIo, a_mIsi, a_mFld, a_mMake, a_mCch, a_mDNew, a_mSl, a_oNone, a_oSome, a_sNx, a_sSeq, a_sRet, a_sRetN, a_sIf, a_sSet, a_sAsg, a_sPar, a_sDrop, a_sBk, a_sCt, a_gN, a_gsN, a_gsC, a_gT, a_gFld, a_gItem, a_gIx, a_gKey, a_rNil, a_rCons, a_mApp, a_mExt, a_mPop, a_mPopAt, a_wSeq, a_wRng1, a_wRng2, a_wZip, a_wEnum, a_sFor, a_tYesD, a_mRg1, a_mRg2, runF, endD, retD, outsD, List.map_cons, List.map_nil, List.length_cons, List.length_nil, List.replicate_succ, List.replicate_zero, List.replicate, List.cons_append, List.nil_append, cont, getD, freeze, freezeS, conts, svsD, slotsD, backD, noDup0, noDup1, slotsD, keepR, setAll, List.getElem?_cons_zero, List.getElem?_cons_succ, List.set_cons_zero, List.set_cons_succ, ri, rb, if_true, reduceCtorEq, isL, isDic, Bool.not_true, Bool.not_false, a_mCchV, a_mMethK, a_mDNewI, a_mGet1, a_mGet2, a_mTg1, a_mDisp1, a_gItemB, a_gKeyK, dIxA_lst, dIxA_tup, dIxA_dicN, dIxA_dicK, dInB_lst, dInB_tup, dInB_dicN, dInB_dicK, dNotInB_lst, dNotInB_tup, dNotInB_dicN, dNotInB_dicK, isDicK, isi_tuple_tup, dLeA, two, dLen, h]
  · simp [s_is_tuple_0, b_is_tuple, m_is_tuple, a_mVar, a_mC, a_mBin, a_mUn, a_mT, a_mAndT, a_mOrT, a_mNotT, a_mAndV, a_mOrV, a_mNotV, a_mIfE, a_mChain, a_mTup, a_mLst, a_aNil, a_aCons, a_lNil, a_lCons, a_mB, a_mCall, a_cNil, a_cVal, a_cIo, a_mIsi, a_mFld, a_mMake, a_mCch, a_mDNew, a_mSl, a_oNone, a_oSome, a_sNx, a_sSeq, a_sRet, a_sRetN, a_sIf, a_sSet, a_sAsg, a_sPar, a_sDrop, a_sBk, a_sCt, a_gN, a_gsN, a_gsC, a_gT, a_gFld, a_gItem, a_gIx, a_gKey, a_rNil, a_rCons, a_mApp, a_mExt, a_mPop, a_mPopAt, a_wSeq, a_wRng1, a_wRng2, a_wZip, a_wEnum, a_sFor, a_tYesD, a_mRg1, a_mRg2, runF, endD, retD, outsD, List.map_cons, List.map_nil, List.length_cons, List.length_nil, List.replicate_succ, List.replicate_zero, List.replicate, List.cons_append, List.nil_append, cont, getD, freeze, freezeS, conts, svsD, slotsD, backD, noDup0, noDup1, slotsD, keepR, setAll, List.getElem?_cons_zero, List.getElem?_cons_succ, List.set_cons_zero, List.set_cons_succ, ri, rb, if_true, reduceCtorEq, isL, isDic, Bool.not_true, Bool.not_false, a_mCchV, a_mMethK, a_mDNewI, a_mGet1, a_mGet2, a_mTg1, a_mDisp1, a_gItemB, a_gKeyK, dIxA_lst, dIxA_tup, dIxA_dicN, dIxA_dicK, dInB_lst, dInB_tup, dInB_dicN, dInB_dicK, dNotInB_lst, dNotInB_tup, dNotInB_dicN, dNotInB_dicK, isDicK, isi_tuple_tup, dLeA, two, dLen, h]
end LW

namespace LW
open PySem PySem.Spec PyProof.Rows L2 LD
abbrev nI (n : Nat) : D := .int (n : Int)
def eT (l : List Nat) : D := .tup (l.map nI)
def eP (p : Nat × Nat) : D := .tup [nI p.1, nI p.2]
def eL (L : List (Nat × Nat)) : D := .tup (L.map eP)
def eWeb (n : Nat) (L : List (Nat × Nat)) : D := .ins 0 [nI n, eL L, .cch (L.map eP)]
theorem e_is_line {n : Nat} {p : Nat × Nat} (h : p.1 < p.2) (h2 : p.2 < n) : m_is_line [.imm (nI n), .imm (eP p)] = some (.imm (.bl true), [.imm (nI n), .imm (eP p)]) := by
  have a1 : (p.1 : Int) < n := by omega
  have a2 : (p.1 : Int) ≤ n - 1 := by omega
  have a3 : (p.2 : Int) ≤ n - 1 := by omega
  have a4 : (p.1 : Int) < p.2 := by omega
  have a5 : (0 : Int) ≤ p.1 := by omega
  have a6 : (0 : Int) ≤ p.2 := by omega
  simp [s_is_line_1, s_is_line_0, s_is_line_2, b_is_line, m_is_line, eP, a_mVar, a_mC, a_mBin, a_mUn, a_mT, a_mAndT, a_mOrT, a_mNotT, a_mAndV, a_mOrV, a_mNotV, a_mIfE, a_mChain, a_mTup, a_mLst, a_aNil, a_aCons, a_lNil, a_lCons, a_mB, a_mCall, a_cNil, a_cVal, a_cIo, a_mIsi, a_mFld, a_mMake, a_mCch, a_mDNew, a_mSl, a_oNone, a_oSome, a_sNx, a_sSeq, a_sRet, a_sRetN, a_sIf, a_sSet, a_sAsg, a_sPar, a_sDrop, a_sBk, a_sCt, a_gN, a_gsN, a_gsC, a_gT, a_gFld, a_gItem, a_gIx, a_gKey, a_rNil, a_rCons, a_mApp, a_mExt, a_mPop, a_mPopAt, a_wSeq, a_wRng1, a_wRng2, a_wZip, a_wEnum, a_sFor, a_tYesD, a_mRg1, a_mRg2, runF, endD, retD, outsD, List.map_cons, List.map_nil, List.length_cons, List.length_nil, List.replicate_succ, List.replicate_zero, List.replicate, List.cons_append, List.nil_append, cont, getD, freeze, freezeS, conts, svsD, slotsD, backD, noDup0, noDup1, slotsD, keepR, setAll, List.getElem?_cons_zero, List.getElem?_cons_succ, List.set_cons_zero, List.set_cons_succ, ri, rb, if_true, reduceCtorEq, isL, isDic, Bool.not_true, Bool.not_false, a_mCchV, a_mMethK, a_mDNewI, a_mGet1, a_mGet2, a_mTg1, a_mDisp1, a_gItemB, a_gKeyK, dIxA_lst, dIxA_tup, dIxA_dicN, dIxA_dicK, dInB_lst, dInB_tup, dInB_dicN, dInB_dicK, dNotInB_lst, dNotInB_tup, dNotInB_dicN, dNotInB_dicK, isDicK, e_is_tuple, c_is_line_0, mLc, lcD, wSeq, wipeD, restD, e_is_within, dSub, dIn2, dAll, bls, a1, a2, a3, a4, a5, a6, dIx, dLtA, two, atI, ixN]

/-! ### the order of tuples -/
def lexI : List Int → List Int → Bool
  | [], [] => false
  | [], _ :: _ => true
  | _ :: _, [] => false
  | x :: xs, y :: ys => decide (x < y) || (decide (x = y) && lexI xs ys)
theorem lex_stp (a b : Int ⊕ List Nat) (r t : List (Int ⊕ List Nat)) : PyProof.Rows.lexLt itemOrd (a :: r) (b :: t) = (itemLt a b || (!itemLt b a && PyProof.Rows.lexLt itemOrd r t)) := rfl
theorem lex_toks : ∀ xs ys : List Int, PyProof.Rows.lexLt PyProof.Rows.itemOrd (PySem.W.keyToksAll (toPys (xs.map D.int))) (PySem.W.keyToksAll (toPys (ys.map D.int))) = lexI xs ys
  | [], [] => by decide
  | [], y :: ys => by simp [toPys, PySem.W.keyToksAll, PyProof.Rows.lexLt, lexI, PyProof.Rows.itemLt]
  | x :: xs, [] => by simp [toPys, PySem.W.keyToksAll, PyProof.Rows.lexLt, lexI, PyProof.Rows.itemLt]
  | x :: xs, y :: ys => by
    have ih := lex_toks xs ys
    simp only [List.map_cons, toPys, toPy, PySem.W.keyToksAll, PySem.W.keyToks, List.cons_append, List.nil_append, lexI]
    rw [lex_stp, lex_stp, ih]
    by_cases h1 : x < y
    · have h2 : ¬ y < x := by omega
      simp [PyProof.Rows.itemLt, h1, h2]
    · by_cases h2 : y < x
      · have h3 : ¬ x = y := by omega
        simp [PyProof.Rows.itemLt, h1, h2, h3]
      · have h3 : x = y := by omega
        simp [PyProof.Rows.itemLt, h3]
theorem lt_tup (xs ys : List Int) : ltD (.tup (xs.map D.int)) (.tup (ys.map D.int)) = lexI xs ys := by
  show PySem.W.dataLt (toPy _) (toPy _) = _
  simp only [toPy]
  exact lex_toks xs ys
theorem alike_ints : ∀ xs ys : List Int, PySem.W.alikeAll (toPys (xs.map D.int)) (toPys (ys.map D.int)) = true
  | [], _ => by simp [toPys, PySem.W.alikeAll]
  | _ :: _, [] => by simp [toPys, PySem.W.alikeAll]
  | x :: xs, y :: ys => by simp [toPys, toPy, PySem.W.alikeAll, PySem.W.alike, alike_ints xs ys]
theorem depth_ints : ∀ xs : List Int, PyData.depthAll (toPys (xs.map D.int)) ≤ 1
  | [] => by simp [toPys, PyData.depthAll]
  | x :: xs => by
    have := depth_ints xs
    simp [toPys, toPy, PyData.depthAll, PyData.depth]
    omega
theorem can_ints : ∀ xs : List Int, PyData.canLayAll0 (toPys (xs.map D.int)) = true
  | [] => by simp [toPys, PyData.canLayAll0]
  | x :: xs => by simp [toPys, toPy, PyData.canLayAll0, PyData.canLay0, can_ints xs]
theorem shp_tup (xs : List Int) : shp (.tup (xs.map D.int)) = true := by
  have := depth_ints xs
  simp [shp, SeqAt.shaped, toPy, PyData.canLay0, can_ints, PyData.depth]
  omega
theorem okLt_tup (xs ys : List Int) : okLt (.tup (xs.map D.int)) (.tup (ys.map D.int)) = true := by
  simp only [okLt, shp_tup, toPy, PySem.W.alike, alike_ints, isNone, Bool.and_self, Bool.not_false]

theorem bls_map {α : Type} (f : α → Bool) : ∀ l : List α, bls (l.map fun x => D.bl (f x)) = some (l.map f)
  | [] => rfl
  | x :: l => by rw [List.map_cons, bls, bls_map f l]; rfl
theorem nums_map : ∀ l : List Int, nums (l.map D.int) = some l
  | [] => rfl
  | x :: l => by rw [List.map_cons, nums, nums_map l]
theorem eP_eq (p : Nat × Nat) : eP p = .tup ([(p.1 : Int), (p.2 : Int)].map D.int) := rfl
theorem eT_eq (l : List Nat) : eT l = .tup ((l.map fun (n : Nat) => (n : Int)).map D.int) := by
  unfold eT; rw [List.map_map]; rfl
/-- lines in order -/
def ltP (p q : Nat × Nat) : Prop := p.1 < q.1 ∨ (p.1 = q.1 ∧ p.2 < q.2)
instance (p q : Nat × Nat) : Decidable (ltP p q) := by unfold ltP; infer_instance
theorem lt_eP (p q : Nat × Nat) : ltD (eP p) (eP q) = decide (ltP p q) := by
  rw [eP_eq, eP_eq, lt_tup]
  unfold ltP
  simp only [lexI]
  by_cases h1 : p.1 < q.1
  · have : (p.1 : Int) < q.1 := by omega
    simp [h1, this]
  · have h1' : ¬ (p.1 : Int) < q.1 := by omega
    by_cases h2 : p.1 = q.1
    · by_cases h3 : p.2 < q.2
      · have : (p.2 : Int) < q.2 := by omega
        simp [h2, h3, this]
      · have : ¬ (p.2 : Int) < q.2 := by omega
        simp [h2, h3, this]
    · have : ¬ (p.1 : Int) = q.1 := by omega
      simp [h1, h2, h1', this]
theorem okLt_eP (p q : Nat × Nat) : okLt (eP p) (eP q) = true := by rw [eP_eq, eP_eq]; exact okLt_tup _ _
def okL (n : Nat) (L : List (Nat × Nat)) : Prop := (∀ p ∈ L, p.1 < p.2 ∧ p.2 < n) ∧ L.Pairwise ltP
theorem all_id_true {α : Type} (l : List α) : (l.map fun _ => true).all id = true := by
  rw [List.all_eq_true]; intro x hx
  obtain ⟨_, _, rfl⟩ := List.mem_map.mp hx
  rfl
theorem zip_tail_lt : ∀ {L : List (Nat × Nat)}, L.Pairwise ltP → ∀ q ∈ L.zip (L.drop 1), ltP q.1 q.2
  | [], _, q, hq => by simp at hq
  | [x], _, q, hq => by simp at hq
  | x :: y :: L, h, q, hq => by
    obtain ⟨h1, h2⟩ := List.pairwise_cons.mp h
    rw [List.drop_succ_cons, List.drop_zero, List.zip_cons_cons] at hq
    rcases List.mem_cons.mp hq with e | hq
    · rw [e]; exact h1 y (List.mem_cons_self ..)
    · exact zip_tail_lt h2 q (by rw [List.drop_succ_cons, List.drop_zero]; exact hq)
theorem two_tup {f : Int → Int → Bool} {g : D → D → Option R} (xs : List D) (y : D) : two f g (.tup xs) y = g (.tup xs) y := by cases y <;> rfl
theorem isi_eL (L : List (Nat × Nat)) : isiD "tuple" (eL L) = some true := isi_tuple_tup _
theorem cut_tail (xs : List D) : LD.cutD xs (some 1) none = xs.drop 1 := by
  unfold LD.cutD
  rw [show HT.sIx xs.length 0 (some 1) = min 1 xs.length from HT.sIx_nat _ _ 1, HT.sIx_none]
  cases xs with
  | nil => rfl
  | cons x xs =>
    have : min 1 (x :: xs).length = 1 := by rw [List.length_cons]; omega
    rw [this]
    exact List.take_of_length_le (by rw [List.length_drop]; exact Nat.le_refl _)
theorem e_are_lines {n : Nat} {L : List (Nat × Nat)} (h : okL n L) : m_are_lines [.imm (nI n), .imm (eL L)] = some (.imm (.bl true), [.imm (nI n), .imm (eL L)]) := by
  have h1 : ∀ st : DSt, st = [some (.imm (nI n)), some (.imm (eL L)), none, none, none] → c_are_lines_0 st = some (.own (.lst ((L.map eP).map fun _ => .bl true)), st) := by
    rintro st rfl
    have := mLc_pure (vs := [2]) (w := wSeq (mVar 1)) (g := gN 2) (c := tYesD) (m := mCall m_is_line (cVal (mVar 0) (cVal (mVar 2) cNil))) (st := [some (.imm (nI n)), some (.imm (eL L)), none, none, none]) (s := [some (.imm (nI n)), some (.imm (eL L)), none, none, none]) (xs := L.map eP) (fun _ => true) (fun _ => .bl true) (by simp only [a_mVar, a_mC, a_mBin, a_mUn, a_mT, a_mAndT, a_mOrT, a_mNotT, a_mAndV, a_mOrV, a_mNotV, a_mIfE, a_mChain, a_mTup, a_mLst, a_aNil, a_aCons, a_lNil, a_lCons, a_mB, a_mCall, a_cNil, a_cVal, a_cIo, a_mIsi, a_mFld, a_mMake, a_mCch, a_mDNew, a_mSl, a_oNone, a_oSome, a_sNx, a_sSeq, a_sRet, a_sRetN, a_sIf, a_sSet, a_sAsg, a_sPar, a_sDrop, a_sBk, a_sCt, a_gN, a_gsN, a_gsC, a_gT, a_gFld, a_gItem, a_gIx, a_gKey, a_rNil, a_rCons, a_mApp, a_mExt, a_mPop, a_mPopAt, a_wSeq, a_wRng1, a_wRng2, a_wZip, a_wEnum, a_sFor, a_tYesD, a_mRg1, a_mRg2, runF, endD, retD, outsD, List.map_cons, List.map_nil, List.length_cons, List.length_nil, List.replicate_succ, List.replicate_zero, List.replicate, List.cons_append, List.nil_append, cont, getD, freeze, freezeS, conts, svsD, slotsD, backD, noDup0, noDup1, slotsD, keepR, setAll, List.getElem?_cons_zero, List.getElem?_cons_succ, List.set_cons_zero, List.set_cons_succ, ri, rb, if_true, reduceCtorEq, isL, isDic, Bool.not_true, Bool.not_false, a_mCchV, a_mMethK, a_mDNewI, a_mGet1, a_mGet2, a_mTg1, a_mDisp1, a_gItemB, a_gKeyK, dIxA_lst, dIxA_tup, dIxA_dicN, dIxA_dicK, dInB_lst, dInB_tup, dInB_dicN, dInB_dicK, dNotInB_lst, dNotInB_tup, dNotInB_dicN, dNotInB_dicK, isDicK, eL]) fun x hx => ?_
    · rw [List.filter_eq_self.mpr (fun _ _ => rfl)] at this
      exact this
    · obtain ⟨p, hp, rfl⟩ := List.mem_map.mp hx
      obtain ⟨a, b⟩ := h.1 p hp
      refine ⟨[some (.imm (nI n)), some (.imm (eL L)), some (.imm (eP p)), none, none], by simp only [a_mVar, a_mC, a_mBin, a_mUn, a_mT, a_mAndT, a_mOrT, a_mNotT, a_mAndV, a_mOrV, a_mNotV, a_mIfE, a_mChain, a_mTup, a_mLst, a_aNil, a_aCons, a_lNil, a_lCons, a_mB, a_mCall, a_cNil, a_cVal, a_cIo, a_mIsi, a_mFld, a_mMake, a_mCch, a_mDNew, a_mSl, a_oNone, a_oSome, a_sNx, a_sSeq, a_sRet, a_sRetN, a_sIf, a_sSet, a_sAsg, a_sPar, a_sDrop, a_sBk, a_sCt, a_gN, a_gsN, a_gsC, a_gT, a_gFld, a_gItem, a_gIx, a_gKey, a_rNil, a_rCons, a_mApp, a_mExt, a_mPop, a_mPopAt, a_wSeq, a_wRng1, a_wRng2, a_wZip, a_wEnum, a_sFor, a_tYesD, a_mRg1, a_mRg2, runF, endD, retD, outsD, List.map_cons, List.map_nil, List.length_cons, List.length_nil, List.replicate_succ, List.replicate_zero, List.replicate, List.cons_append, List.nil_append, cont, getD, freeze, freezeS, conts, svsD, slotsD, backD, noDup0, noDup1, slotsD, keepR, setAll, List.getElem?_cons_zero, List.getElem?_cons_succ, List.set_cons_zero, List.set_cons_succ, ri, rb, if_true, reduceCtorEq, isL, isDic, Bool.not_true, Bool.not_false, a_mCchV, a_mMethK, a_mDNewI, a_mGet1, a_mGet2, a_mTg1, a_mDisp1, a_gItemB, a_gKeyK, dIxA_lst, dIxA_tup, dIxA_dicN, dIxA_dicK, dInB_lst, dInB_tup, dInB_dicN, dInB_dicK, dNotInB_lst, dNotInB_tup, dNotInB_dicN, dNotInB_dicK, isDicK, wipeD], by simp only [a_mVar, a_mC, a_mBin, a_mUn, a_mT, a_mAndT, a_mOrT, a_mNotT, a_mAndV, a_mOrV, a_mNotV, a_mIfE, a_mChain, a_mTup, a_mLst, a_aNil, a_aCons, a_lNil, a_lCons, a_mB, a_mCall, a_cNil, a_cVal, a_cIo, a_mIsi, a_mFld, a_mMake, a_mCch, a_mDNew, a_mSl, a_oNone, a_oSome, a_sNx, a_sSeq, a_sRet, a_sRetN, a_sIf, a_sSet, a_sAsg, a_sPar, a_sDrop, a_sBk, a_sCt, a_gN, a_gsN, a_gsC, a_gT, a_gFld, a_gItem, a_gIx, a_gKey, a_rNil, a_rCons, a_mApp, a_mExt, a_mPop, a_mPopAt, a_wSeq, a_wRng1, a_wRng2, a_wZip, a_wEnum, a_sFor, a_tYesD, a_mRg1, a_mRg2, runF, endD, retD, outsD, List.map_cons, List.map_nil, List.length_cons, List.length_nil, List.replicate_succ, List.replicate_zero, List.replicate, List.cons_append, List.nil_append, cont, getD, freeze, freezeS, conts, svsD, slotsD, backD, noDup0, noDup1, slotsD, keepR, setAll, List.getElem?_cons_zero, List.getElem?_cons_succ, List.set_cons_zero, List.set_cons_succ, ri, rb, if_true, reduceCtorEq, isL, isDic, Bool.not_true, Bool.not_false, a_mCchV, a_mMethK, a_mDNewI, a_mGet1, a_mGet2, a_mTg1, a_mDisp1, a_gItemB, a_gKeyK, dIxA_lst, dIxA_tup, dIxA_dicN, dIxA_dicK, dInB_lst, dInB_tup, dInB_dicN, dInB_dicK, dNotInB_lst, dNotInB_tup, dNotInB_dicN, dNotInB_dicK, isDicK, wipeD], by simp only [a_mVar, a_mC, a_mBin, a_mUn, a_mT, a_mAndT, a_mOrT, a_mNotT, a_mAndV, a_mOrV, a_mNotV, a_mIfE, a_mChain, a_mTup, a_mLst, a_aNil, a_aCons, a_lNil, a_lCons, a_mB, a_mCall, a_cNil, a_cVal, a_cIo, a_mIsi, a_mFld, a_mMake, a_mCch, a_mDNew, a_mSl, a_oNone, a_oSome, a_sNx, a_sSeq, a_sRet, a_sRetN, a_sIf, a_sSet, a_sAsg, a_sPar, a_sDrop, a_sBk, a_sCt, a_gN, a_gsN, a_gsC, a_gT, a_gFld, a_gItem, a_gIx, a_gKey, a_rNil, a_rCons, a_mApp, a_mExt, a_mPop, a_mPopAt, a_wSeq, a_wRng1, a_wRng2, a_wZip, a_wEnum, a_sFor, a_tYesD, a_mRg1, a_mRg2, runF, endD, retD, outsD, List.map_cons, List.map_nil, List.length_cons, List.length_nil, List.replicate_succ, List.replicate_zero, List.replicate, List.cons_append, List.nil_append, cont, getD, freeze, freezeS, conts, svsD, slotsD, backD, noDup0, noDup1, slotsD, keepR, setAll, List.getElem?_cons_zero, List.getElem?_cons_succ, List.set_cons_zero, List.set_cons_succ, ri, rb, if_true, reduceCtorEq, isL, isDic, Bool.not_true, Bool.not_false, a_mCchV, a_mMethK, a_mDNewI, a_mGet1, a_mGet2, a_mTg1, a_mDisp1, a_gItemB, a_gKeyK, dIxA_lst, dIxA_tup, dIxA_dicN, dIxA_dicK, dInB_lst, dInB_tup, dInB_dicN, dInB_dicK, dNotInB_lst, dNotInB_tup, dNotInB_dicN, dNotInB_dicK, isDicK], fun _ => ⟨.imm (.bl true), ?_, rfl⟩⟩
      simp only [a_mVar, a_mC, a_mBin, a_mUn, a_mT, a_mAndT, a_mOrT, a_mNotT, a_mAndV, a_mOrV, a_mNotV, a_mIfE, a_mChain, a_mTup, a_mLst, a_aNil, a_aCons, a_lNil, a_lCons, a_mB, a_mCall, a_cNil, a_cVal, a_cIo, a_mIsi, a_mFld, a_mMake, a_mCch, a_mDNew, a_mSl, a_oNone, a_oSome, a_sNx, a_sSeq, a_sRet, a_sRetN, a_sIf, a_sSet, a_sAsg, a_sPar, a_sDrop, a_sBk, a_sCt, a_gN, a_gsN, a_gsC, a_gT, a_gFld, a_gItem, a_gIx, a_gKey, a_rNil, a_rCons, a_mApp, a_mExt, a_mPop, a_mPopAt, a_wSeq, a_wRng1, a_wRng2, a_wZip, a_wEnum, a_sFor, a_tYesD, a_mRg1, a_mRg2, runF, endD, retD, outsD, List.map_cons, List.map_nil, List.length_cons, List.length_nil, List.replicate_succ, List.replicate_zero, List.replicate, List.cons_append, List.nil_append, cont, getD, freeze, freezeS, conts, svsD, slotsD, backD, noDup0, noDup1, slotsD, keepR, setAll, List.getElem?_cons_zero, List.getElem?_cons_succ, List.set_cons_zero, List.set_cons_succ, ri, rb, if_true, reduceCtorEq, isL, isDic, Bool.not_true, Bool.not_false, a_mCchV, a_mMethK, a_mDNewI, a_mGet1, a_mGet2, a_mTg1, a_mDisp1, a_gItemB, a_gKeyK, dIxA_lst, dIxA_tup, dIxA_dicN, dIxA_dicK, dInB_lst, dInB_tup, dInB_dicN, dInB_dicK, dNotInB_lst, dNotInB_tup, dNotInB_dicN, dNotInB_dicK, isDicK, e_is_line a b]
  have h2 : ∀ st : DSt, st = [some (.imm (nI n)), some (.imm (eL L)), none, none, none] → c_are_lines_1 st = some (.own (.lst ((((L.map eP).zip ((L.map eP).drop 1)).map LD.pairD).map fun _ => .bl true)), st) := by
    rintro st rfl
    have := mLc_pure (vs := [3, 4]) (w := wZip (aCons (mVar 1) (aCons (mSl (mVar 1) (oSome (mC (.int 1))) oNone) aNil))) (g := gT 2 (gsC (gN 3) (gsC (gN 4) gsN))) (c := tYesD) (m := mBin dLtA (mVar 3) (mVar 4)) (st := [some (.imm (nI n)), some (.imm (eL L)), none, none, none]) (s := [some (.imm (nI n)), some (.imm (eL L)), none, none, none]) (xs := ((L.map eP).zip ((L.map eP).drop 1)).map LD.pairD) (fun _ => true) (fun _ => .bl true) ?_ fun x hx => ?_
    · rw [List.filter_eq_self.mpr (fun _ _ => rfl)] at this
      exact this
    · have c1 : dSl (eL L) (some 1) none = some (.imm (.tup ((L.map eP).drop 1))) := by
        show some (R.imm (.tup (LD.cutD (L.map eP) (some 1) none))) = _
        rw [cut_tail]
      simp only [a_mVar, a_mC, a_mBin, a_mUn, a_mT, a_mAndT, a_mOrT, a_mNotT, a_mAndV, a_mOrV, a_mNotV, a_mIfE, a_mChain, a_mTup, a_mLst, a_aNil, a_aCons, a_lNil, a_lCons, a_mB, a_mCall, a_cNil, a_cVal, a_cIo, a_mIsi, a_mFld, a_mMake, a_mCch, a_mDNew, a_mSl, a_oNone, a_oSome, a_sNx, a_sSeq, a_sRet, a_sRetN, a_sIf, a_sSet, a_sAsg, a_sPar, a_sDrop, a_sBk, a_sCt, a_gN, a_gsN, a_gsC, a_gT, a_gFld, a_gItem, a_gIx, a_gKey, a_rNil, a_rCons, a_mApp, a_mExt, a_mPop, a_mPopAt, a_wSeq, a_wRng1, a_wRng2, a_wZip, a_wEnum, a_sFor, a_tYesD, a_mRg1, a_mRg2, runF, endD, retD, outsD, List.map_cons, List.map_nil, List.length_cons, List.length_nil, List.replicate_succ, List.replicate_zero, List.replicate, List.cons_append, List.nil_append, cont, getD, freeze, freezeS, conts, svsD, slotsD, backD, noDup0, noDup1, slotsD, keepR, setAll, List.getElem?_cons_zero, List.getElem?_cons_succ, List.set_cons_zero, List.set_cons_succ, ri, rb, if_true, reduceCtorEq, isL, isDic, Bool.not_true, Bool.not_false, a_mCchV, a_mMethK, a_mDNewI, a_mGet1, a_mGet2, a_mTg1, a_mDisp1, a_gItemB, a_gKeyK, dIxA_lst, dIxA_tup, dIxA_dicN, dIxA_dicK, dInB_lst, dInB_tup, dInB_dicN, dInB_dicK, dNotInB_lst, dNotInB_tup, dNotInB_dicN, dNotInB_dicK, isDicK, c1]
      rfl
    · obtain ⟨q, hq, rfl⟩ := List.mem_map.mp hx
      rw [← List.map_drop, List.zip_map] at hq
      obtain ⟨⟨a, b⟩, hq', rfl⟩ := List.mem_map.mp hq
      have hlt := zip_tail_lt h.2 _ hq'
      refine ⟨[some (.imm (nI n)), some (.imm (eL L)), none, some (.imm (eP a)), some (.imm (eP b))], by simp [a_mVar, a_mC, a_mBin, a_mUn, a_mT, a_mAndT, a_mOrT, a_mNotT, a_mAndV, a_mOrV, a_mNotV, a_mIfE, a_mChain, a_mTup, a_mLst, a_aNil, a_aCons, a_lNil, a_lCons, a_mB, a_mCall, a_cNil, a_cVal, a_cIo, a_mIsi, a_mFld, a_mMake, a_mCch, a_mDNew, a_mSl, a_oNone, a_oSome, a_sNx, a_sSeq, a_sRet, a_sRetN, a_sIf, a_sSet, a_sAsg, a_sPar, a_sDrop, a_sBk, a_sCt, a_gN, a_gsN, a_gsC, a_gT, a_gFld, a_gItem, a_gIx, a_gKey, a_rNil, a_rCons, a_mApp, a_mExt, a_mPop, a_mPopAt, a_wSeq, a_wRng1, a_wRng2, a_wZip, a_wEnum, a_sFor, a_tYesD, a_mRg1, a_mRg2, runF, endD, retD, outsD, List.map_cons, List.map_nil, List.length_cons, List.length_nil, List.replicate_succ, List.replicate_zero, List.replicate, List.cons_append, List.nil_append, cont, getD, freeze, freezeS, conts, svsD, slotsD, backD, noDup0, noDup1, slotsD, keepR, setAll, List.getElem?_cons_zero, List.getElem?_cons_succ, List.set_cons_zero, List.set_cons_succ, ri, rb, if_true, reduceCtorEq, isL, isDic, Bool.not_true, Bool.not_false, a_mCchV, a_mMethK, a_mDNewI, a_mGet1, a_mGet2, a_mTg1, a_mDisp1, a_gItemB, a_gKeyK, dIxA_lst, dIxA_tup, dIxA_dicN, dIxA_dicK, dInB_lst, dInB_tup, dInB_dicN, dInB_dicK, dNotInB_lst, dNotInB_tup, dNotInB_dicN, dNotInB_dicK, isDicK, wipeD, LD.pairD], by simp only [a_mVar, a_mC, a_mBin, a_mUn, a_mT, a_mAndT, a_mOrT, a_mNotT, a_mAndV, a_mOrV, a_mNotV, a_mIfE, a_mChain, a_mTup, a_mLst, a_aNil, a_aCons, a_lNil, a_lCons, a_mB, a_mCall, a_cNil, a_cVal, a_cIo, a_mIsi, a_mFld, a_mMake, a_mCch, a_mDNew, a_mSl, a_oNone, a_oSome, a_sNx, a_sSeq, a_sRet, a_sRetN, a_sIf, a_sSet, a_sAsg, a_sPar, a_sDrop, a_sBk, a_sCt, a_gN, a_gsN, a_gsC, a_gT, a_gFld, a_gItem, a_gIx, a_gKey, a_rNil, a_rCons, a_mApp, a_mExt, a_mPop, a_mPopAt, a_wSeq, a_wRng1, a_wRng2, a_wZip, a_wEnum, a_sFor, a_tYesD, a_mRg1, a_mRg2, runF, endD, retD, outsD, List.map_cons, List.map_nil, List.length_cons, List.length_nil, List.replicate_succ, List.replicate_zero, List.replicate, List.cons_append, List.nil_append, cont, getD, freeze, freezeS, conts, svsD, slotsD, backD, noDup0, noDup1, slotsD, keepR, setAll, List.getElem?_cons_zero, List.getElem?_cons_succ, List.set_cons_zero, List.set_cons_succ, ri, rb, if_true, reduceCtorEq, isL, isDic, Bool.not_true, Bool.not_false, a_mCchV, a_mMethK, a_mDNewI, a_mGet1, a_mGet2, a_mTg1, a_mDisp1, a_gItemB, a_gKeyK, dIxA_lst, dIxA_tup, dIxA_dicN, dIxA_dicK, dInB_lst, dInB_tup, dInB_dicN, dInB_dicK, dNotInB_lst, dNotInB_tup, dNotInB_dicN, dNotInB_dicK, isDicK, wipeD], by simp only [a_mVar, a_mC, a_mBin, a_mUn, a_mT, a_mAndT, a_mOrT, a_mNotT, a_mAndV, a_mOrV, a_mNotV, a_mIfE, a_mChain, a_mTup, a_mLst, a_aNil, a_aCons, a_lNil, a_lCons, a_mB, a_mCall, a_cNil, a_cVal, a_cIo, a_mIsi, a_mFld, a_mMake, a_mCch, a_mDNew, a_mSl, a_oNone, a_oSome, a_sNx, a_sSeq, a_sRet, a_sRetN, a_sIf, a_sSet, a_sAsg, a_sPar, a_sDrop, a_sBk, a_sCt, a_gN, a_gsN, a_gsC, a_gT, a_gFld, a_gItem, a_gIx, a_gKey, a_rNil, a_rCons, a_mApp, a_mExt, a_mPop, a_mPopAt, a_wSeq, a_wRng1, a_wRng2, a_wZip, a_wEnum, a_sFor, a_tYesD, a_mRg1, a_mRg2, runF, endD, retD, outsD, List.map_cons, List.map_nil, List.length_cons, List.length_nil, List.replicate_succ, List.replicate_zero, List.replicate, List.cons_append, List.nil_append, cont, getD, freeze, freezeS, conts, svsD, slotsD, backD, noDup0, noDup1, slotsD, keepR, setAll, List.getElem?_cons_zero, List.getElem?_cons_succ, List.set_cons_zero, List.set_cons_succ, ri, rb, if_true, reduceCtorEq, isL, isDic, Bool.not_true, Bool.not_false, a_mCchV, a_mMethK, a_mDNewI, a_mGet1, a_mGet2, a_mTg1, a_mDisp1, a_gItemB, a_gKeyK, dIxA_lst, dIxA_tup, dIxA_dicN, dIxA_dicK, dInB_lst, dInB_tup, dInB_dicN, dInB_dicK, dNotInB_lst, dNotInB_tup, dNotInB_dicN, dNotInB_dicK, isDicK], fun _ => ⟨.imm (.bl true), ?_, rfl⟩⟩
      have e : dLtA (eP a) (eP b) = some (.imm (.bl true)) := by
        have e1 : dLtA (eP a) (eP b) = dLtD (eP a) (eP b) := two_tup _ _
        rw [e1]
        unfold dLtD
        rw [if_pos (okLt_eP a b), lt_eP, decide_eq_true hlt]
        rfl
      simp only [a_mVar, a_mC, a_mBin, a_mUn, a_mT, a_mAndT, a_mOrT, a_mNotT, a_mAndV, a_mOrV, a_mNotV, a_mIfE, a_mChain, a_mTup, a_mLst, a_aNil, a_aCons, a_lNil, a_lCons, a_mB, a_mCall, a_cNil, a_cVal, a_cIo, a_mIsi, a_mFld, a_mMake, a_mCch, a_mDNew, a_mSl, a_oNone, a_oSome, a_sNx, a_sSeq, a_sRet, a_sRetN, a_sIf, a_sSet, a_sAsg, a_sPar, a_sDrop, a_sBk, a_sCt, a_gN, a_gsN, a_gsC, a_gT, a_gFld, a_gItem, a_gIx, a_gKey, a_rNil, a_rCons, a_mApp, a_mExt, a_mPop, a_mPopAt, a_wSeq, a_wRng1, a_wRng2, a_wZip, a_wEnum, a_sFor, a_tYesD, a_mRg1, a_mRg2, runF, endD, retD, outsD, List.map_cons, List.map_nil, List.length_cons, List.length_nil, List.replicate_succ, List.replicate_zero, List.replicate, List.cons_append, List.nil_append, cont, getD, freeze, freezeS, conts, svsD, slotsD, backD, noDup0, noDup1, slotsD, keepR, setAll, List.getElem?_cons_zero, List.getElem?_cons_succ, List.set_cons_zero, List.set_cons_succ, ri, rb, if_true, reduceCtorEq, isL, isDic, Bool.not_true, Bool.not_false, a_mCchV, a_mMethK, a_mDNewI, a_mGet1, a_mGet2, a_mTg1, a_mDisp1, a_gItemB, a_gKeyK, dIxA_lst, dIxA_tup, dIxA_dicN, dIxA_dicK, dInB_lst, dInB_tup, dInB_dicN, dInB_dicK, dNotInB_lst, dNotInB_tup, dNotInB_dicN, dNotInB_dicK, isDicK, e]
  have d1 : ∀ l : List D, dAll [.lst (l.map fun _ => D.bl true)] = some (.imm (.bl true)) := fun l => by
    show (match bls (l.map fun x => D.bl ((fun _ => true) x)) with | some bs => rb (bs.all id) | none => none) = _
    rw [bls_map]
    dsimp only
    rw [all_id_true]
    rfl
  simp only [s_are_lines_1, s_are_lines_0, s_are_lines_2, b_are_lines, m_are_lines, a_mVar, a_mC, a_mBin, a_mUn, a_mT, a_mAndT, a_mOrT, a_mNotT, a_mAndV, a_mOrV, a_mNotV, a_mIfE, a_mChain, a_mTup, a_mLst, a_aNil, a_aCons, a_lNil, a_lCons, a_mB, a_mCall, a_cNil, a_cVal, a_cIo, a_mIsi, a_mFld, a_mMake, a_mCch, a_mDNew, a_mSl, a_oNone, a_oSome, a_sNx, a_sSeq, a_sRet, a_sRetN, a_sIf, a_sSet, a_sAsg, a_sPar, a_sDrop, a_sBk, a_sCt, a_gN, a_gsN, a_gsC, a_gT, a_gFld, a_gItem, a_gIx, a_gKey, a_rNil, a_rCons, a_mApp, a_mExt, a_mPop, a_mPopAt, a_wSeq, a_wRng1, a_wRng2, a_wZip, a_wEnum, a_sFor, a_tYesD, a_mRg1, a_mRg2, runF, endD, retD, outsD, List.map_cons, List.map_nil, List.length_cons, List.length_nil, List.replicate_succ, List.replicate_zero, List.replicate, List.cons_append, List.nil_append, cont, getD, freeze, freezeS, conts, svsD, slotsD, backD, noDup0, noDup1, slotsD, keepR, setAll, List.getElem?_cons_zero, List.getElem?_cons_succ, List.set_cons_zero, List.set_cons_succ, ri, rb, if_true, reduceCtorEq, isL, isDic, Bool.not_true, Bool.not_false, a_mCchV, a_mMethK, a_mDNewI, a_mGet1, a_mGet2, a_mTg1, a_mDisp1, a_gItemB, a_gKeyK, dIxA_lst, dIxA_tup, dIxA_dicN, dIxA_dicK, dInB_lst, dInB_tup, dInB_dicN, dInB_dicK, dNotInB_lst, dNotInB_tup, dNotInB_dicN, dNotInB_dicK, isDicK, h1, h2, d1, isi_eL]
end LW

namespace LW
open PySem PySem.Spec PyProof.Rows L2 LD
theorem e_Web {n : Nat} {L : List (Nat × Nat)} (hn : 1 ≤ n ∧ n ≤ 7) (h : okL n L) : m_Web [.rt false (.ins 0 []), .imm (nI n), .imm (eL L)] = some (.imm .non, [.rt false (eWeb n L), .imm (nI n), .imm (eL L)]) := by
  have h1 : (1 : Int) ≤ n := by omega
  have h2 : (n : Int) ≤ 7 := by omega
  have h3 := e_are_lines h
  unfold eL at h3 ⊢
  simp [s_Web_1, s_Web_0, s_Web_3, s_Web_2, s_Web_4, s_Web_5, b_Web, m_Web, a_mVar, a_mC, a_mBin, a_mUn, a_mT, a_mAndT, a_mOrT, a_mNotT, a_mAndV, a_mOrV, a_mNotV, a_mIfE, a_mChain, a_mTup, a_mLst, a_aNil, a_aCons, a_lNil, a_lCons, a_mB, a_mCall, a_cNil, a_cVal, a_cIo, a_mIsi, a_mFld, a_mMake, a_mCch, a_mDNew, a_mSl, a_oNone, a_oSome, a_sNx, a_sSeq, a_sRet, a_sRetN, a_sIf, a_sSet, a_sAsg, a_sPar, a_sDrop, a_sBk, a_sCt, a_gN, a_gsN, a_gsC, a_gT, a_gFld, a_gItem, a_gIx, a_gKey, a_rNil, a_rCons, a_mApp, a_mExt, a_mPop, a_mPopAt, a_wSeq, a_wRng1, a_wRng2, a_wZip, a_wEnum, a_sFor, a_tYesD, a_mRg1, a_mRg2, runF, endD, retD, outsD, List.map_cons, List.map_nil, List.length_cons, List.length_nil, List.replicate_succ, List.replicate_zero, List.replicate, List.cons_append, List.nil_append, cont, getD, freeze, freezeS, conts, svsD, slotsD, backD, noDup0, noDup1, slotsD, keepR, setAll, List.getElem?_cons_zero, List.getElem?_cons_succ, List.set_cons_zero, List.set_cons_succ, ri, rb, if_true, reduceCtorEq, isL, isDic, Bool.not_true, Bool.not_false, a_mCchV, a_mMethK, a_mDNewI, a_mGet1, a_mGet2, a_mTg1, a_mDisp1, a_gItemB, a_gKeyK, dIxA_lst, dIxA_tup, dIxA_dicN, dIxA_dicK, dInB_lst, dInB_tup, dInB_dicN, dInB_dicK, dNotInB_lst, dNotInB_tup, dNotInB_dicN, dNotInB_dicK, isDicK, e_is_count, h3, slotsD, h1, h2, eWeb, eL]
def handD (cells : List Int) (k h s c : Int) : D := .lst [.lst (cells.map D.int), .int k, .int h, .int s, .int c]
theorem at_hand {cells : List Int} {k h s c : Int} : atI [D.lst (cells.map D.int), .int k, .int h, .int s, .int c] 0 = some (.lst (cells.map D.int)) ∧ atI [D.lst (cells.map D.int), .int k, .int h, .int s, .int c] 1 = some (.int k) ∧ atI [D.lst (cells.map D.int), .int k, .int h, .int s, .int c] 2 = some (.int h) ∧
    atI [D.lst (cells.map D.int), .int k, .int h, .int s, .int c] 3 = some (.int s) ∧ atI [D.lst (cells.map D.int), .int k, .int h, .int s, .int c] 4 = some (.int c) := by
  simp [atI, ixN]
theorem at_cells {cells : List Int} {k : Int} (h0 : 0 ≤ k) (h1 : k < cells.length) : ∃ v, atI (cells.map D.int) k = some (.int v) := by
  have h2 : k.toNat < cells.length := by omega
  refine ⟨cells[k.toNat], ?_⟩
  unfold atI ixN
  rw [if_pos h0, if_pos (by rw [List.length_map]; exact h1)]
  simp [h2]
theorem cmulR (i : Int) {j : Int} (h1 : -18446744073709551616 < j) (h2 : j < 18446744073709551616) : CMul i j := by
  unfold CMul; omega
theorem cmulL {i : Int} (j : Int) (h1 : -18446744073709551616 < i) (h2 : i < 18446744073709551616) : CMul i j := by
  unfold CMul; omega
theorem ixN5 : ixN 5 0 = some 0 ∧ ixN 5 1 = some 1 ∧ ixN 5 2 = some 2 ∧ ixN 5 3 = some 3 ∧ ixN 5 4 = some 4 := by decide

theorem mod_ex (x : Int) {m : Int} (h : 0 < m) : ∃ y : Int, x % m = y ∧ 0 ≤ y ∧ y < m := ⟨_, rfl, Int.emod_nonneg _ (by omega), Int.emod_lt_of_pos _ h⟩
theorem nat_ex {y : Int} (h : 0 ≤ y) {m : Nat} (h2 : y < m) : ∃ r : Nat, y = (r : Int) ∧ r < m := ⟨y.toNat, by omega, by omega⟩

theorem at_h0 {a b c d e : D} : atI [a, b, c, d, e] 0 = some a := by simp [atI, ixN]
theorem at_h1 {a b c d e : D} : atI [a, b, c, d, e] 1 = some b := by simp [atI, ixN]
theorem at_h2 {a b c d e : D} : atI [a, b, c, d, e] 2 = some c := by simp [atI, ixN]
theorem at_h3 {a b c d e : D} : atI [a, b, c, d, e] 3 = some d := by simp [atI, ixN]
theorem at_h4 {a b c d e : D} : atI [a, b, c, d, e] 4 = some e := by simp [atI, ixN]
theorem draw_0 (cells : List Int) (k h s c : Int) (sides : Nat) (hk : 0 ≤ k) : ∃ (k' h' s' : Int) (x : Option SV), 0 ≤ k' ∧
    s_law_draw_0 [some (.rt false (handD cells k h s c)), some (.imm (nI sides)), none, none, none] = some (.nx, [some (.rt false (handD cells k' h' s' c)), some (.imm (nI sides)), x, none, none]) := by
  obtain ⟨i0, i1, i2, i3, i4⟩ := ixN5
  have m1 : ∀ s, CMul s 69621 := fun s => cmulR _ (by omega) (by omega)
  have m2 : ∀ s, CMul s 16 := fun s => cmulR _ (by omega) (by omega)
  have m3 : CPow 10 18 := ⟨by omega, by omega, by decide⟩
  by_cases a1 : h = 0
  · by_cases a2 : k < cells.length
    · obtain ⟨cell, ec⟩ := at_cells hk a2
      have hk1 : 0 ≤ k + 1 := by omega
      by_cases a3 : (10 : Int) ^ 18 ≤ cell
      · refine ⟨k + 1, cell, (s * 69621 + cell * 16 + 29) % 2147483629, some (.imm (.int cell)), hk1, ?_⟩
        have a3' : (1000000000000000000 : Int) ≤ cell := by omega
        simp [s_law_draw_1, s_law_draw_2, s_law_draw_3, s_law_draw_5, s_law_draw_4, s_law_draw_0, s_law_draw_7, s_law_draw_8, s_law_draw_9, s_law_draw_6, s_law_draw_10, s_law_draw_11, s_law_draw_12, s_law_draw_13, s_law_draw_14, b_law_draw, m_law_draw, a_mVar, a_mC, a_mBin, a_mUn, a_mT, a_mAndT, a_mOrT, a_mNotT, a_mAndV, a_mOrV, a_mNotV, a_mIfE, a_mChain, a_mTup, a_mLst, a_aNil, a_aCons, a_lNil, a_lCons, a_mB, a_mCall, a_cNil, a_cVal, a_cIo, a_mIsi, a_mFld, a_mMake, a_mCch, a_mDNew, a_mSl, a_oNone, a_oSome, a_sNx, a_sSeq, a_sRet, a_sRetN, a_sIf, a_sSet, a_sAsg, a_sPar, a_sDrop, a_sBk, a_sCt, a_gN, a_gsN, a_gsC, a_gT, a_gFld, a_gItem, a_gIx, a_gKey, a_rNil, a_rCons, a_mApp, a_mExt, a_mPop, a_mPopAt, a_wSeq, a_wRng1, a_wRng2, a_wZip, a_wEnum, a_sFor, a_tYesD, a_mRg1, a_mRg2, runF, endD, retD, outsD, List.map_cons, List.map_nil, List.length_cons, List.length_nil, List.replicate_succ, List.replicate_zero, List.replicate, List.cons_append, List.nil_append, cont, getD, freeze, freezeS, conts, svsD, slotsD, backD, noDup0, noDup1, slotsD, keepR, setAll, List.getElem?_cons_zero, List.getElem?_cons_succ, List.set_cons_zero, List.set_cons_succ, ri, rb, if_true, reduceCtorEq, isL, isDic, Bool.not_true, Bool.not_false, a_mCchV, a_mMethK, a_mDNewI, a_mGet1, a_mGet2, a_mTg1, a_mDisp1, a_gItemB, a_gKeyK, dIxA_lst, dIxA_tup, dIxA_dicN, dIxA_dicK, dInB_lst, dInB_tup, dInB_dicN, dInB_dicK, dNotInB_lst, dNotInB_tup, dNotInB_dicN, dNotInB_dicK, isDicK, handD, dEqA, dLtA, dGeA, two, dIx, dLen, dInt, dMulA, dAdd, dMod, dPow, dIn2, at_h0, at_h1, at_h2, at_h3, at_h4, ec, a1, a2, a3', i0, i1, i2, i3, i4, m1, m2, m3]
      · refine ⟨k + 1, h, (s * 69621 + cell * 16 + 29) % 2147483629, some (.imm (.int cell)), hk1, ?_⟩
        have a3' : ¬ (1000000000000000000 : Int) ≤ cell := by omega
        simp [s_law_draw_1, s_law_draw_2, s_law_draw_3, s_law_draw_5, s_law_draw_4, s_law_draw_0, s_law_draw_7, s_law_draw_8, s_law_draw_9, s_law_draw_6, s_law_draw_10, s_law_draw_11, s_law_draw_12, s_law_draw_13, s_law_draw_14, b_law_draw, m_law_draw, a_mVar, a_mC, a_mBin, a_mUn, a_mT, a_mAndT, a_mOrT, a_mNotT, a_mAndV, a_mOrV, a_mNotV, a_mIfE, a_mChain, a_mTup, a_mLst, a_aNil, a_aCons, a_lNil, a_lCons, a_mB, a_mCall, a_cNil, a_cVal, a_cIo, a_mIsi, a_mFld, a_mMake, a_mCch, a_mDNew, a_mSl, a_oNone, a_oSome, a_sNx, a_sSeq, a_sRet, a_sRetN, a_sIf, a_sSet, a_sAsg, a_sPar, a_sDrop, a_sBk, a_sCt, a_gN, a_gsN, a_gsC, a_gT, a_gFld, a_gItem, a_gIx, a_gKey, a_rNil, a_rCons, a_mApp, a_mExt, a_mPop, a_mPopAt, a_wSeq, a_wRng1, a_wRng2, a_wZip, a_wEnum, a_sFor, a_tYesD, a_mRg1, a_mRg2, runF, endD, retD, outsD, List.map_cons, List.map_nil, List.length_cons, List.length_nil, List.replicate_succ, List.replicate_zero, List.replicate, List.cons_append, List.nil_append, cont, getD, freeze, freezeS, conts, svsD, slotsD, backD, noDup0, noDup1, slotsD, keepR, setAll, List.getElem?_cons_zero, List.getElem?_cons_succ, List.set_cons_zero, List.set_cons_succ, ri, rb, if_true, reduceCtorEq, isL, isDic, Bool.not_true, Bool.not_false, a_mCchV, a_mMethK, a_mDNewI, a_mGet1, a_mGet2, a_mTg1, a_mDisp1, a_gItemB, a_gKeyK, dIxA_lst, dIxA_tup, dIxA_dicN, dIxA_dicK, dInB_lst, dInB_tup, dInB_dicN, dInB_dicK, dNotInB_lst, dNotInB_tup, dNotInB_dicN, dNotInB_dicK, isDicK, handD, dEqA, dLtA, dGeA, two, dIx, dLen, dInt, dMulA, dAdd, dMod, dPow, dIn2, at_h0, at_h1, at_h2, at_h3, at_h4, ec, a1, a2, a3', i0, i1, i2, i3, i4, m1, m2, m3]
    · refine ⟨k, h, s, none, hk, ?_⟩
      simp [s_law_draw_1, s_law_draw_2, s_law_draw_3, s_law_draw_5, s_law_draw_4, s_law_draw_0, s_law_draw_7, s_law_draw_8, s_law_draw_9, s_law_draw_6, s_law_draw_10, s_law_draw_11, s_law_draw_12, s_law_draw_13, s_law_draw_14, b_law_draw, m_law_draw, a_mVar, a_mC, a_mBin, a_mUn, a_mT, a_mAndT, a_mOrT, a_mNotT, a_mAndV, a_mOrV, a_mNotV, a_mIfE, a_mChain, a_mTup, a_mLst, a_aNil, a_aCons, a_lNil, a_lCons, a_mB, a_mCall, a_cNil, a_cVal, a_cIo, a_mIsi, a_mFld, a_mMake, a_mCch, a_mDNew, a_mSl, a_oNone, a_oSome, a_sNx, a_sSeq, a_sRet, a_sRetN, a_sIf, a_sSet, a_sAsg, a_sPar, a_sDrop, a_sBk, a_sCt, a_gN, a_gsN, a_gsC, a_gT, a_gFld, a_gItem, a_gIx, a_gKey, a_rNil, a_rCons, a_mApp, a_mExt, a_mPop, a_mPopAt, a_wSeq, a_wRng1, a_wRng2, a_wZip, a_wEnum, a_sFor, a_tYesD, a_mRg1, a_mRg2, runF, endD, retD, outsD, List.map_cons, List.map_nil, List.length_cons, List.length_nil, List.replicate_succ, List.replicate_zero, List.replicate, List.cons_append, List.nil_append, cont, getD, freeze, freezeS, conts, svsD, slotsD, backD, noDup0, noDup1, slotsD, keepR, setAll, List.getElem?_cons_zero, List.getElem?_cons_succ, List.set_cons_zero, List.set_cons_succ, ri, rb, if_true, reduceCtorEq, isL, isDic, Bool.not_true, Bool.not_false, a_mCchV, a_mMethK, a_mDNewI, a_mGet1, a_mGet2, a_mTg1, a_mDisp1, a_gItemB, a_gKeyK, dIxA_lst, dIxA_tup, dIxA_dicN, dIxA_dicK, dInB_lst, dInB_tup, dInB_dicN, dInB_dicK, dNotInB_lst, dNotInB_tup, dNotInB_dicN, dNotInB_dicK, isDicK, handD, dEqA, dLtA, dGeA, two, dIx, dLen, dInt, at_h0, at_h1, at_h2, at_h3, at_h4, a1, a2]
  · refine ⟨k, h, s, none, hk, ?_⟩
    simp [s_law_draw_1, s_law_draw_2, s_law_draw_3, s_law_draw_5, s_law_draw_4, s_law_draw_0, s_law_draw_7, s_law_draw_8, s_law_draw_9, s_law_draw_6, s_law_draw_10, s_law_draw_11, s_law_draw_12, s_law_draw_13, s_law_draw_14, b_law_draw, m_law_draw, a_mVar, a_mC, a_mBin, a_mUn, a_mT, a_mAndT, a_mOrT, a_mNotT, a_mAndV, a_mOrV, a_mNotV, a_mIfE, a_mChain, a_mTup, a_mLst, a_aNil, a_aCons, a_lNil, a_lCons, a_mB, a_mCall, a_cNil, a_cVal, a_cIo, a_mIsi, a_mFld, a_mMake, a_mCch, a_mDNew, a_mSl, a_oNone, a_oSome, a_sNx, a_sSeq, a_sRet, a_sRetN, a_sIf, a_sSet, a_sAsg, a_sPar, a_sDrop, a_sBk, a_sCt, a_gN, a_gsN, a_gsC, a_gT, a_gFld, a_gItem, a_gIx, a_gKey, a_rNil, a_rCons, a_mApp, a_mExt, a_mPop, a_mPopAt, a_wSeq, a_wRng1, a_wRng2, a_wZip, a_wEnum, a_sFor, a_tYesD, a_mRg1, a_mRg2, runF, endD, retD, outsD, List.map_cons, List.map_nil, List.length_cons, List.length_nil, List.replicate_succ, List.replicate_zero, List.replicate, List.cons_append, List.nil_append, cont, getD, freeze, freezeS, conts, svsD, slotsD, backD, noDup0, noDup1, slotsD, keepR, setAll, List.getElem?_cons_zero, List.getElem?_cons_succ, List.set_cons_zero, List.set_cons_succ, ri, rb, if_true, reduceCtorEq, isL, isDic, Bool.not_true, Bool.not_false, a_mCchV, a_mMethK, a_mDNewI, a_mGet1, a_mGet2, a_mTg1, a_mDisp1, a_gItemB, a_gKeyK, dIxA_lst, dIxA_tup, dIxA_dicN, dIxA_dicK, dInB_lst, dInB_tup, dInB_dicN, dInB_dicK, dNotInB_lst, dNotInB_tup, dNotInB_dicN, dNotInB_dicK, isDicK, handD, dEqA, dLtA, dGeA, two, dIx, dLen, dInt, at_h0, at_h1, at_h2, at_h3, at_h4, a1]
theorem e_draw (cells : List Int) (k h s c : Int) (sides : Nat) (hk : 0 ≤ k) (h1 : 1 ≤ sides) (h2 : sides ≤ 1000) : ∃ (r : Nat) (k' h' s' c' : Int), r < sides ∧ 0 ≤ k' ∧
    m_law_draw [.rt false (handD cells k h s c), .imm (nI sides)] = some (.imm (nI r), [.rt false (handD cells k' h' s' c'), .imm (nI sides)]) := by
  obtain ⟨k', h', s', x, hk', e0⟩ := draw_0 cells k h s c sides hk
  obtain ⟨i0, i1, i2, i3, i4⟩ := ixN5
  have s1 : (0 : Int) < sides := by omega
  have s1n : 0 < sides := by omega
  have s2 : ∀ x, CDiv x sides := fun x => ⟨s1, by omega⟩
  by_cases a1 : 0 < h'
  · obtain ⟨y, hy, y0, y1⟩ := mod_ex h' s1
    refine ⟨y.toNat, k', h' / sides, s', c, by omega, hk', ?_⟩
    have e6 : ∀ x, s_law_draw_6 [some (.rt false (handD cells k' h' s' c)), some (.imm (nI sides)), x, none, none] = some (.ret (.imm (.int y)), [some (.rt false (handD cells k' (h' / sides) s' c)), some (.imm (nI sides)), x, some (.imm (.int y)), none]) := fun x => by
      simp [s_law_draw_1, s_law_draw_2, s_law_draw_3, s_law_draw_5, s_law_draw_4, s_law_draw_0, s_law_draw_7, s_law_draw_8, s_law_draw_9, s_law_draw_6, s_law_draw_10, s_law_draw_11, s_law_draw_12, s_law_draw_13, s_law_draw_14, b_law_draw, m_law_draw, a_mVar, a_mC, a_mBin, a_mUn, a_mT, a_mAndT, a_mOrT, a_mNotT, a_mAndV, a_mOrV, a_mNotV, a_mIfE, a_mChain, a_mTup, a_mLst, a_aNil, a_aCons, a_lNil, a_lCons, a_mB, a_mCall, a_cNil, a_cVal, a_cIo, a_mIsi, a_mFld, a_mMake, a_mCch, a_mDNew, a_mSl, a_oNone, a_oSome, a_sNx, a_sSeq, a_sRet, a_sRetN, a_sIf, a_sSet, a_sAsg, a_sPar, a_sDrop, a_sBk, a_sCt, a_gN, a_gsN, a_gsC, a_gT, a_gFld, a_gItem, a_gIx, a_gKey, a_rNil, a_rCons, a_mApp, a_mExt, a_mPop, a_mPopAt, a_wSeq, a_wRng1, a_wRng2, a_wZip, a_wEnum, a_sFor, a_tYesD, a_mRg1, a_mRg2, runF, endD, retD, outsD, List.map_cons, List.map_nil, List.length_cons, List.length_nil, List.replicate_succ, List.replicate_zero, List.replicate, List.cons_append, List.nil_append, cont, getD, freeze, freezeS, conts, svsD, slotsD, backD, noDup0, noDup1, slotsD, keepR, setAll, List.getElem?_cons_zero, List.getElem?_cons_succ, List.set_cons_zero, List.set_cons_succ, ri, rb, if_true, reduceCtorEq, isL, isDic, Bool.not_true, Bool.not_false, a_mCchV, a_mMethK, a_mDNewI, a_mGet1, a_mGet2, a_mTg1, a_mDisp1, a_gItemB, a_gKeyK, dIxA_lst, dIxA_tup, dIxA_dicN, dIxA_dicK, dInB_lst, dInB_tup, dInB_dicN, dInB_dicK, dNotInB_lst, dNotInB_tup, dNotInB_dicN, dNotInB_dicK, isDicK, handD, dGtA, two, dIx, dInt, dMod, dDiv, dIn2, at_h0, at_h1, at_h2, at_h3, at_h4, a1, i0, i1, i2, i3, i4, s1n, s2, hy]
    have ey : ((y.toNat : Nat) : Int) = y := by omega
    simp [m_law_draw, b_law_draw, a_mVar, a_mC, a_mBin, a_mUn, a_mT, a_mAndT, a_mOrT, a_mNotT, a_mAndV, a_mOrV, a_mNotV, a_mIfE, a_mChain, a_mTup, a_mLst, a_aNil, a_aCons, a_lNil, a_lCons, a_mB, a_mCall, a_cNil, a_cVal, a_cIo, a_mIsi, a_mFld, a_mMake, a_mCch, a_mDNew, a_mSl, a_oNone, a_oSome, a_sNx, a_sSeq, a_sRet, a_sRetN, a_sIf, a_sSet, a_sAsg, a_sPar, a_sDrop, a_sBk, a_sCt, a_gN, a_gsN, a_gsC, a_gT, a_gFld, a_gItem, a_gIx, a_gKey, a_rNil, a_rCons, a_mApp, a_mExt, a_mPop, a_mPopAt, a_wSeq, a_wRng1, a_wRng2, a_wZip, a_wEnum, a_sFor, a_tYesD, a_mRg1, a_mRg2, runF, endD, retD, outsD, List.map_cons, List.map_nil, List.length_cons, List.length_nil, List.replicate_succ, List.replicate_zero, List.replicate, List.cons_append, List.nil_append, cont, getD, freeze, freezeS, conts, svsD, slotsD, backD, noDup0, noDup1, slotsD, keepR, setAll, List.getElem?_cons_zero, List.getElem?_cons_succ, List.set_cons_zero, List.set_cons_succ, ri, rb, if_true, reduceCtorEq, isL, isDic, Bool.not_true, Bool.not_false, a_mCchV, a_mMethK, a_mDNewI, a_mGet1, a_mGet2, a_mTg1, a_mDisp1, a_gItemB, a_gKeyK, dIxA_lst, dIxA_tup, dIxA_dicN, dIxA_dicK, dInB_lst, dInB_tup, dInB_dicN, dInB_dicK, dNotInB_lst, dNotInB_tup, dNotInB_dicN, dNotInB_dicK, isDicK, e0, e6, nI, ey]
  · have e6 : ∀ x, s_law_draw_6 [some (.rt false (handD cells k' h' s' c)), some (.imm (nI sides)), x, none, none] = some (.nx, [some (.rt false (handD cells k' h' s' c)), some (.imm (nI sides)), x, none, none]) := fun x => by
      simp [s_law_draw_1, s_law_draw_2, s_law_draw_3, s_law_draw_5, s_law_draw_4, s_law_draw_0, s_law_draw_7, s_law_draw_8, s_law_draw_9, s_law_draw_6, s_law_draw_10, s_law_draw_11, s_law_draw_12, s_law_draw_13, s_law_draw_14, b_law_draw, m_law_draw, a_mVar, a_mC, a_mBin, a_mUn, a_mT, a_mAndT, a_mOrT, a_mNotT, a_mAndV, a_mOrV, a_mNotV, a_mIfE, a_mChain, a_mTup, a_mLst, a_aNil, a_aCons, a_lNil, a_lCons, a_mB, a_mCall, a_cNil, a_cVal, a_cIo, a_mIsi, a_mFld, a_mMake, a_mCch, a_mDNew, a_mSl, a_oNone, a_oSome, a_sNx, a_sSeq, a_sRet, a_sRetN, a_sIf, a_sSet, a_sAsg, a_sPar, a_sDrop, a_sBk, a_sCt, a_gN, a_gsN, a_gsC, a_gT, a_gFld, a_gItem, a_gIx, a_gKey, a_rNil, a_rCons, a_mApp, a_mExt, a_mPop, a_mPopAt, a_wSeq, a_wRng1, a_wRng2, a_wZip, a_wEnum, a_sFor, a_tYesD, a_mRg1, a_mRg2, runF, endD, retD, outsD, List.map_cons, List.map_nil, List.length_cons, List.length_nil, List.replicate_succ, List.replicate_zero, List.replicate, List.cons_append, List.nil_append, cont, getD, freeze, freezeS, conts, svsD, slotsD, backD, noDup0, noDup1, slotsD, keepR, setAll, List.getElem?_cons_zero, List.getElem?_cons_succ, List.set_cons_zero, List.set_cons_succ, ri, rb, if_true, reduceCtorEq, isL, isDic, Bool.not_true, Bool.not_false, a_mCchV, a_mMethK, a_mDNewI, a_mGet1, a_mGet2, a_mTg1, a_mDisp1, a_gItemB, a_gKeyK, dIxA_lst, dIxA_tup, dIxA_dicN, dIxA_dicK, dInB_lst, dInB_tup, dInB_dicN, dInB_dicK, dNotInB_lst, dNotInB_tup, dNotInB_dicN, dNotInB_dicK, isDicK, handD, dGtA, two, dIx, dInt, dMod, dDiv, dIn2, at_h0, at_h1, at_h2, at_h3, at_h4, a1]
    have m4 : ∀ x : Int, CMul 7919 x := fun x => cmulL _ (by omega) (by omega)
    have m5 : ∀ x : Int, CMul x 48271 := fun x => cmulR _ (by omega) (by omega)
    have d1 : ∀ x : Int, CDiv x 1009 := fun x => ⟨by omega, by omega⟩
    have d2 : ∀ x : Int, CDiv x 2003 := fun x => ⟨by omega, by omega⟩
    have d3 : ∀ x : Int, CDiv x 16 := fun x => ⟨by omega, by omega⟩
    obtain ⟨n1, hn1, p1, q1⟩ := mod_ex ((s' + 7919 * (c + 1)) * 48271) (m := 2147483647) (by omega)
    obtain ⟨n2, hn2, p2, q2⟩ := mod_ex (n1 * (n1 / 1009 + 69621)) (m := 2147483647) (by omega)
    obtain ⟨n3, hn3, p3, q3⟩ := mod_ex (n2 * (n2 / 2003 + 40692)) (m := 2147483399) (by omega)
    obtain ⟨y, hy, y0, y1⟩ := mod_ex (n3 / 16) s1
    have m6 : ∀ x, CMul n1 x := fun x => cmulL _ (by omega) (by omega)
    have m7 : ∀ x, CMul n2 x := fun x => cmulL _ (by omega) (by omega)
    refine ⟨y.toNat, k', h', s', c + 1, by omega, hk', ?_⟩
    have ey : ((y.toNat : Nat) : Int) = y := by omega
    simp only [m_law_draw, b_law_draw, a_mVar, a_mC, a_mBin, a_mUn, a_mT, a_mAndT, a_mOrT, a_mNotT, a_mAndV, a_mOrV, a_mNotV, a_mIfE, a_mChain, a_mTup, a_mLst, a_aNil, a_aCons, a_lNil, a_lCons, a_mB, a_mCall, a_cNil, a_cVal, a_cIo, a_mIsi, a_mFld, a_mMake, a_mCch, a_mDNew, a_mSl, a_oNone, a_oSome, a_sNx, a_sSeq, a_sRet, a_sRetN, a_sIf, a_sSet, a_sAsg, a_sPar, a_sDrop, a_sBk, a_sCt, a_gN, a_gsN, a_gsC, a_gT, a_gFld, a_gItem, a_gIx, a_gKey, a_rNil, a_rCons, a_mApp, a_mExt, a_mPop, a_mPopAt, a_wSeq, a_wRng1, a_wRng2, a_wZip, a_wEnum, a_sFor, a_tYesD, a_mRg1, a_mRg2, runF, endD, retD, outsD, List.map_cons, List.map_nil, List.length_cons, List.length_nil, List.replicate_succ, List.replicate_zero, List.replicate, List.cons_append, List.nil_append, cont, getD, freeze, freezeS, conts, svsD, slotsD, backD, noDup0, noDup1, slotsD, keepR, setAll, List.getElem?_cons_zero, List.getElem?_cons_succ, List.set_cons_zero, List.set_cons_succ, ri, rb, if_true, reduceCtorEq, isL, isDic, Bool.not_true, Bool.not_false, a_mCchV, a_mMethK, a_mDNewI, a_mGet1, a_mGet2, a_mTg1, a_mDisp1, a_gItemB, a_gKeyK, dIxA_lst, dIxA_tup, dIxA_dicN, dIxA_dicK, dInB_lst, dInB_tup, dInB_dicN, dInB_dicK, dNotInB_lst, dNotInB_tup, dNotInB_dicN, dNotInB_dicK, isDicK, e0, e6]
    simp [s_law_draw_10, s_law_draw_11, s_law_draw_12, s_law_draw_13, s_law_draw_14, a_mVar, a_mC, a_mBin, a_mUn, a_mT, a_mAndT, a_mOrT, a_mNotT, a_mAndV, a_mOrV, a_mNotV, a_mIfE, a_mChain, a_mTup, a_mLst, a_aNil, a_aCons, a_lNil, a_lCons, a_mB, a_mCall, a_cNil, a_cVal, a_cIo, a_mIsi, a_mFld, a_mMake, a_mCch, a_mDNew, a_mSl, a_oNone, a_oSome, a_sNx, a_sSeq, a_sRet, a_sRetN, a_sIf, a_sSet, a_sAsg, a_sPar, a_sDrop, a_sBk, a_sCt, a_gN, a_gsN, a_gsC, a_gT, a_gFld, a_gItem, a_gIx, a_gKey, a_rNil, a_rCons, a_mApp, a_mExt, a_mPop, a_mPopAt, a_wSeq, a_wRng1, a_wRng2, a_wZip, a_wEnum, a_sFor, a_tYesD, a_mRg1, a_mRg2, runF, endD, retD, outsD, List.map_cons, List.map_nil, List.length_cons, List.length_nil, List.replicate_succ, List.replicate_zero, List.replicate, List.cons_append, List.nil_append, cont, getD, freeze, freezeS, conts, svsD, slotsD, backD, noDup0, noDup1, slotsD, keepR, setAll, List.getElem?_cons_zero, List.getElem?_cons_succ, List.set_cons_zero, List.set_cons_succ, ri, rb, if_true, reduceCtorEq, isL, isDic, Bool.not_true, Bool.not_false, a_mCchV, a_mMethK, a_mDNewI, a_mGet1, a_mGet2, a_mTg1, a_mDisp1, a_gItemB, a_gKeyK, dIxA_lst, dIxA_tup, dIxA_dicN, dIxA_dicK, dInB_lst, dInB_tup, dInB_dicN, dInB_dicK, dNotInB_lst, dNotInB_tup, dNotInB_dicN, dNotInB_dicK, isDicK, nI, ey, handD, dIx, dInt, dMod, dDiv, dAdd, dMulA, dIn2, at_h0, at_h1, at_h2, at_h3, at_h4, i0, i1, i2, i3, i4, s1n, s2, m4, m5, m6, m7, d1, d2, d3, hn1, hn2, hn3, hy]
end LW

namespace LW
open PySem PySem.Spec PyProof.Rows L2 LD
def absD : D → D
  | .int i => .int (if i < 0 then -i else i)
  | d => d
theorem e_hand (ns : List Int) : ∃ (cells : List Int) (s : Int), m_law_hand [.imm (.scr ns)] = some (.own (handD cells 0 0 s 0), [.imm (.scr ns)]) := by
  have hc : ∀ st : DSt, st = [some (.imm (.scr ns)), none, none] → ∃ cells : List Int, c_law_hand_0 st = some (.own (.lst (cells.map D.int)), st) := by
    rintro st rfl
    have := mLc_pure (vs := [2]) (w := wSeq (mSl (mVar 0) oNone (oSome (mC (.int 63))))) (g := gN 2) (c := tYesD) (m := mB dAbs (lCons (mB dInt (lCons (mVar 2) lNil)) lNil)) (st := [some (.imm (.scr ns)), none, none]) (s := [some (.imm (.scr ns)), none, none]) (xs := (LD.cutD (ns.map D.int) none (some 63))) (fun _ => true) absD (by simp only [a_mVar, a_mC, a_mBin, a_mUn, a_mT, a_mAndT, a_mOrT, a_mNotT, a_mAndV, a_mOrV, a_mNotV, a_mIfE, a_mChain, a_mTup, a_mLst, a_aNil, a_aCons, a_lNil, a_lCons, a_mB, a_mCall, a_cNil, a_cVal, a_cIo, a_mIsi, a_mFld, a_mMake, a_mCch, a_mDNew, a_mSl, a_oNone, a_oSome, a_sNx, a_sSeq, a_sRet, a_sRetN, a_sIf, a_sSet, a_sAsg, a_sPar, a_sDrop, a_sBk, a_sCt, a_gN, a_gsN, a_gsC, a_gT, a_gFld, a_gItem, a_gIx, a_gKey, a_rNil, a_rCons, a_mApp, a_mExt, a_mPop, a_mPopAt, a_wSeq, a_wRng1, a_wRng2, a_wZip, a_wEnum, a_sFor, a_tYesD, a_mRg1, a_mRg2, runF, endD, retD, outsD, List.map_cons, List.map_nil, List.length_cons, List.length_nil, List.replicate_succ, List.replicate_zero, List.replicate, List.cons_append, List.nil_append, cont, getD, freeze, freezeS, conts, svsD, slotsD, backD, noDup0, noDup1, slotsD, keepR, setAll, List.getElem?_cons_zero, List.getElem?_cons_succ, List.set_cons_zero, List.set_cons_succ, ri, rb, if_true, reduceCtorEq, isL, isDic, Bool.not_true, Bool.not_false, a_mCchV, a_mMethK, a_mDNewI, a_mGet1, a_mGet2, a_mTg1, a_mDisp1, a_gItemB, a_gKeyK, dIxA_lst, dIxA_tup, dIxA_dicN, dIxA_dicK, dInB_lst, dInB_tup, dInB_dicN, dInB_dicK, dNotInB_lst, dNotInB_tup, dNotInB_dicN, dNotInB_dicK, isDicK, dSl]) fun x hx => ?_
    · rw [List.filter_eq_self.mpr (fun _ _ => rfl)] at this
      refine ⟨((ns.drop (HT.sIx (ns.map D.int).length 0 none)).take (HT.sIx (ns.map D.int).length (ns.map D.int).length (some 63) - HT.sIx (ns.map D.int).length 0 none)).map fun i => if i < 0 then -i else i, ?_⟩
      rw [show c_law_hand_0 = _ from rfl] at *
      unfold LD.cutD at this
      rw [← List.map_drop, ← List.map_take, List.map_map] at this
      rw [List.map_map]
      exact this
    · have hx' : x ∈ ns.map D.int := List.mem_of_mem_drop (List.mem_of_mem_take hx)
      obtain ⟨i, hi, rfl⟩ := List.mem_map.mp hx'
      exact ⟨[some (.imm (.scr ns)), none, some (.imm (.int i))], by simp [a_mVar, a_mC, a_mBin, a_mUn, a_mT, a_mAndT, a_mOrT, a_mNotT, a_mAndV, a_mOrV, a_mNotV, a_mIfE, a_mChain, a_mTup, a_mLst, a_aNil, a_aCons, a_lNil, a_lCons, a_mB, a_mCall, a_cNil, a_cVal, a_cIo, a_mIsi, a_mFld, a_mMake, a_mCch, a_mDNew, a_mSl, a_oNone, a_oSome, a_sNx, a_sSeq, a_sRet, a_sRetN, a_sIf, a_sSet, a_sAsg, a_sPar, a_sDrop, a_sBk, a_sCt, a_gN, a_gsN, a_gsC, a_gT, a_gFld, a_gItem, a_gIx, a_gKey, a_rNil, a_rCons, a_mApp, a_mExt, a_mPop, a_mPopAt, a_wSeq, a_wRng1, a_wRng2, a_wZip, a_wEnum, a_sFor, a_tYesD, a_mRg1, a_mRg2, runF, endD, retD, outsD, List.map_cons, List.map_nil, List.length_cons, List.length_nil, List.replicate_succ, List.replicate_zero, List.replicate, List.cons_append, List.nil_append, cont, getD, freeze, freezeS, conts, svsD, slotsD, backD, noDup0, noDup1, slotsD, keepR, setAll, List.getElem?_cons_zero, List.getElem?_cons_succ, List.set_cons_zero, List.set_cons_succ, ri, rb, if_true, reduceCtorEq, isL, isDic, Bool.not_true, Bool.not_false, a_mCchV, a_mMethK, a_mDNewI, a_mGet1, a_mGet2, a_mTg1, a_mDisp1, a_gItemB, a_gKeyK, dIxA_lst, dIxA_tup, dIxA_dicN, dIxA_dicK, dInB_lst, dInB_tup, dInB_dicN, dInB_dicK, dNotInB_lst, dNotInB_tup, dNotInB_dicN, dNotInB_dicK, isDicK, wipeD], by simp [a_mVar, a_mC, a_mBin, a_mUn, a_mT, a_mAndT, a_mOrT, a_mNotT, a_mAndV, a_mOrV, a_mNotV, a_mIfE, a_mChain, a_mTup, a_mLst, a_aNil, a_aCons, a_lNil, a_lCons, a_mB, a_mCall, a_cNil, a_cVal, a_cIo, a_mIsi, a_mFld, a_mMake, a_mCch, a_mDNew, a_mSl, a_oNone, a_oSome, a_sNx, a_sSeq, a_sRet, a_sRetN, a_sIf, a_sSet, a_sAsg, a_sPar, a_sDrop, a_sBk, a_sCt, a_gN, a_gsN, a_gsC, a_gT, a_gFld, a_gItem, a_gIx, a_gKey, a_rNil, a_rCons, a_mApp, a_mExt, a_mPop, a_mPopAt, a_wSeq, a_wRng1, a_wRng2, a_wZip, a_wEnum, a_sFor, a_tYesD, a_mRg1, a_mRg2, runF, endD, retD, outsD, List.map_cons, List.map_nil, List.length_cons, List.length_nil, List.replicate_succ, List.replicate_zero, List.replicate, List.cons_append, List.nil_append, cont, getD, freeze, freezeS, conts, svsD, slotsD, backD, noDup0, noDup1, slotsD, keepR, setAll, List.getElem?_cons_zero, List.getElem?_cons_succ, List.set_cons_zero, List.set_cons_succ, ri, rb, if_true, reduceCtorEq, isL, isDic, Bool.not_true, Bool.not_false, a_mCchV, a_mMethK, a_mDNewI, a_mGet1, a_mGet2, a_mTg1, a_mDisp1, a_gItemB, a_gKeyK, dIxA_lst, dIxA_tup, dIxA_dicN, dIxA_dicK, dInB_lst, dInB_tup, dInB_dicN, dInB_dicK, dNotInB_lst, dNotInB_tup, dNotInB_dicN, dNotInB_dicK, isDicK, wipeD], by simp only [a_mVar, a_mC, a_mBin, a_mUn, a_mT, a_mAndT, a_mOrT, a_mNotT, a_mAndV, a_mOrV, a_mNotV, a_mIfE, a_mChain, a_mTup, a_mLst, a_aNil, a_aCons, a_lNil, a_lCons, a_mB, a_mCall, a_cNil, a_cVal, a_cIo, a_mIsi, a_mFld, a_mMake, a_mCch, a_mDNew, a_mSl, a_oNone, a_oSome, a_sNx, a_sSeq, a_sRet, a_sRetN, a_sIf, a_sSet, a_sAsg, a_sPar, a_sDrop, a_sBk, a_sCt, a_gN, a_gsN, a_gsC, a_gT, a_gFld, a_gItem, a_gIx, a_gKey, a_rNil, a_rCons, a_mApp, a_mExt, a_mPop, a_mPopAt, a_wSeq, a_wRng1, a_wRng2, a_wZip, a_wEnum, a_sFor, a_tYesD, a_mRg1, a_mRg2, runF, endD, retD, outsD, List.map_cons, List.map_nil, List.length_cons, List.length_nil, List.replicate_succ, List.replicate_zero, List.replicate, List.cons_append, List.nil_append, cont, getD, freeze, freezeS, conts, svsD, slotsD, backD, noDup0, noDup1, slotsD, keepR, setAll, List.getElem?_cons_zero, List.getElem?_cons_succ, List.set_cons_zero, List.set_cons_succ, ri, rb, if_true, reduceCtorEq, isL, isDic, Bool.not_true, Bool.not_false, a_mCchV, a_mMethK, a_mDNewI, a_mGet1, a_mGet2, a_mTg1, a_mDisp1, a_gItemB, a_gKeyK, dIxA_lst, dIxA_tup, dIxA_dicN, dIxA_dicK, dInB_lst, dInB_tup, dInB_dicN, dInB_dicK, dNotInB_lst, dNotInB_tup, dNotInB_dicN, dNotInB_dicK, isDicK], fun _ => ⟨.imm (absD (.int i)), by simp [a_mVar, a_mC, a_mBin, a_mUn, a_mT, a_mAndT, a_mOrT, a_mNotT, a_mAndV, a_mOrV, a_mNotV, a_mIfE, a_mChain, a_mTup, a_mLst, a_aNil, a_aCons, a_lNil, a_lCons, a_mB, a_mCall, a_cNil, a_cVal, a_cIo, a_mIsi, a_mFld, a_mMake, a_mCch, a_mDNew, a_mSl, a_oNone, a_oSome, a_sNx, a_sSeq, a_sRet, a_sRetN, a_sIf, a_sSet, a_sAsg, a_sPar, a_sDrop, a_sBk, a_sCt, a_gN, a_gsN, a_gsC, a_gT, a_gFld, a_gItem, a_gIx, a_gKey, a_rNil, a_rCons, a_mApp, a_mExt, a_mPop, a_mPopAt, a_wSeq, a_wRng1, a_wRng2, a_wZip, a_wEnum, a_sFor, a_tYesD, a_mRg1, a_mRg2, runF, endD, retD, outsD, List.map_cons, List.map_nil, List.length_cons, List.length_nil, List.replicate_succ, List.replicate_zero, List.replicate, List.cons_append, List.nil_append, cont, getD, freeze, freezeS, conts, svsD, slotsD, backD, noDup0, noDup1, slotsD, keepR, setAll, List.getElem?_cons_zero, List.getElem?_cons_succ, List.set_cons_zero, List.set_cons_succ, ri, rb, if_true, reduceCtorEq, isL, isDic, Bool.not_true, Bool.not_false, a_mCchV, a_mMethK, a_mDNewI, a_mGet1, a_mGet2, a_mTg1, a_mDisp1, a_gItemB, a_gKeyK, dIxA_lst, dIxA_tup, dIxA_dicN, dIxA_dicK, dInB_lst, dInB_tup, dInB_dicN, dInB_dicK, dNotInB_lst, dNotInB_tup, dNotInB_dicN, dNotInB_dicK, isDicK, dAbs, dInt, absD], rfl⟩⟩
  obtain ⟨cells, hc⟩ := hc _ rfl
  refine ⟨cells, 7 + cells.length, ?_⟩
  simp [s_law_hand_0, s_law_hand_1, b_law_hand, m_law_hand, a_mVar, a_mC, a_mBin, a_mUn, a_mT, a_mAndT, a_mOrT, a_mNotT, a_mAndV, a_mOrV, a_mNotV, a_mIfE, a_mChain, a_mTup, a_mLst, a_aNil, a_aCons, a_lNil, a_lCons, a_mB, a_mCall, a_cNil, a_cVal, a_cIo, a_mIsi, a_mFld, a_mMake, a_mCch, a_mDNew, a_mSl, a_oNone, a_oSome, a_sNx, a_sSeq, a_sRet, a_sRetN, a_sIf, a_sSet, a_sAsg, a_sPar, a_sDrop, a_sBk, a_sCt, a_gN, a_gsN, a_gsC, a_gT, a_gFld, a_gItem, a_gIx, a_gKey, a_rNil, a_rCons, a_mApp, a_mExt, a_mPop, a_mPopAt, a_wSeq, a_wRng1, a_wRng2, a_wZip, a_wEnum, a_sFor, a_tYesD, a_mRg1, a_mRg2, runF, endD, retD, outsD, List.map_cons, List.map_nil, List.length_cons, List.length_nil, List.replicate_succ, List.replicate_zero, List.replicate, List.cons_append, List.nil_append, cont, getD, freeze, freezeS, conts, svsD, slotsD, backD, noDup0, noDup1, slotsD, keepR, setAll, List.getElem?_cons_zero, List.getElem?_cons_succ, List.set_cons_zero, List.set_cons_succ, ri, rb, if_true, reduceCtorEq, isL, isDic, Bool.not_true, Bool.not_false, a_mCchV, a_mMethK, a_mDNewI, a_mGet1, a_mGet2, a_mTg1, a_mDisp1, a_gItemB, a_gKeyK, dIxA_lst, dIxA_tup, dIxA_dicN, dIxA_dicK, dInB_lst, dInB_tup, dInB_dicN, dInB_dicK, dNotInB_lst, dNotInB_tup, dNotInB_dicN, dNotInB_dicK, isDicK, hc, dAdd, dLen, handD]
end LW

namespace LW
open PySem PySem.Spec PyProof.Rows L2 LD
theorem filter_true {α : Type} (l : List α) : l.filter (fun _ => true) = l := List.filter_eq_self.mpr fun _ _ => rfl
def pairF (a : Nat) : D → D := fun d => .tup [nI a, d]
theorem c_pairs {n a : Nat} (hn : n ≤ 7) (ha : a < n) (x : Option SV) : c_law_pairs_0 [some (.imm (nI n)), x, some (.imm (nI a)), none] = some (.own (.lst (((List.range (n - (a + 1))).map fun k => (a, a + 1 + k)).map eP)), [some (.imm (nI n)), x, some (.imm (nI a)), none]) := by
  have h1 : smallI ((a : Int) + 1) := by unfold smallI; omega
  have h2 : smallI (n : Int) := by unfold smallI; omega
  have h3 : smallI ((n : Int) - (a + 1)) := by unfold smallI; omega
  have hz : ((n : Int) - (a + 1)).toNat = n - (a + 1) := by omega
  have := mLc_pure (vs := [3]) (w := (wRng2 (aCons (mBin dAdd (mVar 2) (mC (.int 1))) (aCons (mVar 0) aNil)))) (g := gN 3) (c := tYesD) (m := (mTup (aCons (mVar 2) (aCons (mVar 3) aNil)))) (st := [some (.imm (nI n)), x, some (.imm (nI a)), none]) (s := [some (.imm (nI n)), x, some (.imm (nI a)), none]) (xs := intsD ((a : Int) + 1) (n - (a + 1))) (fun _ => true) (pairF a) (by simp [a_mVar, a_mC, a_mBin, a_mUn, a_mT, a_mAndT, a_mOrT, a_mNotT, a_mAndV, a_mOrV, a_mNotV, a_mIfE, a_mChain, a_mTup, a_mLst, a_aNil, a_aCons, a_lNil, a_lCons, a_mB, a_mCall, a_cNil, a_cVal, a_cIo, a_mIsi, a_mFld, a_mMake, a_mCch, a_mDNew, a_mSl, a_oNone, a_oSome, a_sNx, a_sSeq, a_sRet, a_sRetN, a_sIf, a_sSet, a_sAsg, a_sPar, a_sDrop, a_sBk, a_sCt, a_gN, a_gsN, a_gsC, a_gT, a_gFld, a_gItem, a_gIx, a_gKey, a_rNil, a_rCons, a_mApp, a_mExt, a_mPop, a_mPopAt, a_wSeq, a_wRng1, a_wRng2, a_wZip, a_wEnum, a_sFor, a_tYesD, a_mRg1, a_mRg2, runF, endD, retD, outsD, List.map_cons, List.map_nil, List.length_cons, List.length_nil, List.replicate_succ, List.replicate_zero, List.replicate, List.cons_append, List.nil_append, cont, getD, freeze, freezeS, conts, svsD, slotsD, backD, noDup0, noDup1, slotsD, keepR, setAll, List.getElem?_cons_zero, List.getElem?_cons_succ, List.set_cons_zero, List.set_cons_succ, ri, rb, if_true, reduceCtorEq, isL, isDic, Bool.not_true, Bool.not_false, a_mCchV, a_mMethK, a_mDNewI, a_mGet1, a_mGet2, a_mTg1, a_mDisp1, a_gItemB, a_gKeyK, dIxA_lst, dIxA_tup, dIxA_dicN, dIxA_dicK, dInB_lst, dInB_tup, dInB_dicN, dInB_dicK, dNotInB_lst, dNotInB_tup, dNotInB_dicN, dNotInB_dicK, isDicK, dAdd, h1, h2, h3, hz]) fun d hd => ?_
  · rw [filter_true] at this
    have e : (intsD ((a : Int) + 1) (n - (a + 1))).map (pairF a) = ((List.range (n - (a + 1))).map fun k => (a, a + 1 + k)).map eP := by
      unfold intsD
      rw [List.map_map, List.map_map]
      refine List.map_congr_left fun k _ => ?_
      have e2 : (a : Int) + 1 + (k : Int) = ((a + 1 + k : Nat) : Int) := by omega
      rw [Function.comp, Function.comp, e2]
      rfl
    rw [e] at this
    exact this
  · obtain ⟨k, hk, rfl⟩ := ints_mem.mp hd
    exact ⟨[some (.imm (nI n)), x, some (.imm (nI a)), some (.imm (.int ((a : Int) + 1 + k)))], by simp [a_mVar, a_mC, a_mBin, a_mUn, a_mT, a_mAndT, a_mOrT, a_mNotT, a_mAndV, a_mOrV, a_mNotV, a_mIfE, a_mChain, a_mTup, a_mLst, a_aNil, a_aCons, a_lNil, a_lCons, a_mB, a_mCall, a_cNil, a_cVal, a_cIo, a_mIsi, a_mFld, a_mMake, a_mCch, a_mDNew, a_mSl, a_oNone, a_oSome, a_sNx, a_sSeq, a_sRet, a_sRetN, a_sIf, a_sSet, a_sAsg, a_sPar, a_sDrop, a_sBk, a_sCt, a_gN, a_gsN, a_gsC, a_gT, a_gFld, a_gItem, a_gIx, a_gKey, a_rNil, a_rCons, a_mApp, a_mExt, a_mPop, a_mPopAt, a_wSeq, a_wRng1, a_wRng2, a_wZip, a_wEnum, a_sFor, a_tYesD, a_mRg1, a_mRg2, runF, endD, retD, outsD, List.map_cons, List.map_nil, List.length_cons, List.length_nil, List.replicate_succ, List.replicate_zero, List.replicate, List.cons_append, List.nil_append, cont, getD, freeze, freezeS, conts, svsD, slotsD, backD, noDup0, noDup1, slotsD, keepR, setAll, List.getElem?_cons_zero, List.getElem?_cons_succ, List.set_cons_zero, List.set_cons_succ, ri, rb, if_true, reduceCtorEq, isL, isDic, Bool.not_true, Bool.not_false, a_mCchV, a_mMethK, a_mDNewI, a_mGet1, a_mGet2, a_mTg1, a_mDisp1, a_gItemB, a_gKeyK, dIxA_lst, dIxA_tup, dIxA_dicN, dIxA_dicK, dInB_lst, dInB_tup, dInB_dicN, dInB_dicK, dNotInB_lst, dNotInB_tup, dNotInB_dicN, dNotInB_dicK, isDicK, wipeD], by simp [a_mVar, a_mC, a_mBin, a_mUn, a_mT, a_mAndT, a_mOrT, a_mNotT, a_mAndV, a_mOrV, a_mNotV, a_mIfE, a_mChain, a_mTup, a_mLst, a_aNil, a_aCons, a_lNil, a_lCons, a_mB, a_mCall, a_cNil, a_cVal, a_cIo, a_mIsi, a_mFld, a_mMake, a_mCch, a_mDNew, a_mSl, a_oNone, a_oSome, a_sNx, a_sSeq, a_sRet, a_sRetN, a_sIf, a_sSet, a_sAsg, a_sPar, a_sDrop, a_sBk, a_sCt, a_gN, a_gsN, a_gsC, a_gT, a_gFld, a_gItem, a_gIx, a_gKey, a_rNil, a_rCons, a_mApp, a_mExt, a_mPop, a_mPopAt, a_wSeq, a_wRng1, a_wRng2, a_wZip, a_wEnum, a_sFor, a_tYesD, a_mRg1, a_mRg2, runF, endD, retD, outsD, List.map_cons, List.map_nil, List.length_cons, List.length_nil, List.replicate_succ, List.replicate_zero, List.replicate, List.cons_append, List.nil_append, cont, getD, freeze, freezeS, conts, svsD, slotsD, backD, noDup0, noDup1, slotsD, keepR, setAll, List.getElem?_cons_zero, List.getElem?_cons_succ, List.set_cons_zero, List.set_cons_succ, ri, rb, if_true, reduceCtorEq, isL, isDic, Bool.not_true, Bool.not_false, a_mCchV, a_mMethK, a_mDNewI, a_mGet1, a_mGet2, a_mTg1, a_mDisp1, a_gItemB, a_gKeyK, dIxA_lst, dIxA_tup, dIxA_dicN, dIxA_dicK, dInB_lst, dInB_tup, dInB_dicN, dInB_dicK, dNotInB_lst, dNotInB_tup, dNotInB_dicN, dNotInB_dicK, isDicK, wipeD], by simp only [a_mVar, a_mC, a_mBin, a_mUn, a_mT, a_mAndT, a_mOrT, a_mNotT, a_mAndV, a_mOrV, a_mNotV, a_mIfE, a_mChain, a_mTup, a_mLst, a_aNil, a_aCons, a_lNil, a_lCons, a_mB, a_mCall, a_cNil, a_cVal, a_cIo, a_mIsi, a_mFld, a_mMake, a_mCch, a_mDNew, a_mSl, a_oNone, a_oSome, a_sNx, a_sSeq, a_sRet, a_sRetN, a_sIf, a_sSet, a_sAsg, a_sPar, a_sDrop, a_sBk, a_sCt, a_gN, a_gsN, a_gsC, a_gT, a_gFld, a_gItem, a_gIx, a_gKey, a_rNil, a_rCons, a_mApp, a_mExt, a_mPop, a_mPopAt, a_wSeq, a_wRng1, a_wRng2, a_wZip, a_wEnum, a_sFor, a_tYesD, a_mRg1, a_mRg2, runF, endD, retD, outsD, List.map_cons, List.map_nil, List.length_cons, List.length_nil, List.replicate_succ, List.replicate_zero, List.replicate, List.cons_append, List.nil_append, cont, getD, freeze, freezeS, conts, svsD, slotsD, backD, noDup0, noDup1, slotsD, keepR, setAll, List.getElem?_cons_zero, List.getElem?_cons_succ, List.set_cons_zero, List.set_cons_succ, ri, rb, if_true, reduceCtorEq, isL, isDic, Bool.not_true, Bool.not_false, a_mCchV, a_mMethK, a_mDNewI, a_mGet1, a_mGet2, a_mTg1, a_mDisp1, a_gItemB, a_gKeyK, dIxA_lst, dIxA_tup, dIxA_dicN, dIxA_dicK, dInB_lst, dInB_tup, dInB_dicN, dInB_dicK, dNotInB_lst, dNotInB_tup, dNotInB_dicN, dNotInB_dicK, isDicK], fun _ => ⟨.imm (pairF a (.int ((a : Int) + 1 + k))), by simp [a_mVar, a_mC, a_mBin, a_mUn, a_mT, a_mAndT, a_mOrT, a_mNotT, a_mAndV, a_mOrV, a_mNotV, a_mIfE, a_mChain, a_mTup, a_mLst, a_aNil, a_aCons, a_lNil, a_lCons, a_mB, a_mCall, a_cNil, a_cVal, a_cIo, a_mIsi, a_mFld, a_mMake, a_mCch, a_mDNew, a_mSl, a_oNone, a_oSome, a_sNx, a_sSeq, a_sRet, a_sRetN, a_sIf, a_sSet, a_sAsg, a_sPar, a_sDrop, a_sBk, a_sCt, a_gN, a_gsN, a_gsC, a_gT, a_gFld, a_gItem, a_gIx, a_gKey, a_rNil, a_rCons, a_mApp, a_mExt, a_mPop, a_mPopAt, a_wSeq, a_wRng1, a_wRng2, a_wZip, a_wEnum, a_sFor, a_tYesD, a_mRg1, a_mRg2, runF, endD, retD, outsD, List.map_cons, List.map_nil, List.length_cons, List.length_nil, List.replicate_succ, List.replicate_zero, List.replicate, List.cons_append, List.nil_append, cont, getD, freeze, freezeS, conts, svsD, slotsD, backD, noDup0, noDup1, slotsD, keepR, setAll, List.getElem?_cons_zero, List.getElem?_cons_succ, List.set_cons_zero, List.set_cons_succ, ri, rb, if_true, reduceCtorEq, isL, isDic, Bool.not_true, Bool.not_false, a_mCchV, a_mMethK, a_mDNewI, a_mGet1, a_mGet2, a_mTg1, a_mDisp1, a_gItemB, a_gKeyK, dIxA_lst, dIxA_tup, dIxA_dicN, dIxA_dicK, dInB_lst, dInB_tup, dInB_dicN, dInB_dicK, dNotInB_lst, dNotInB_tup, dNotInB_dicN, dNotInB_dicK, isDicK, pairF], rfl⟩⟩
theorem pairs_loop {n : Nat} (hn : n ≤ 7) : s_law_pairs_1 [some (.imm (nI n)), some (.rt true (.lst [])), none, none] = forD (gN 2) s_law_pairs_2 (intsD ((0 : Nat) : Int) n) [some (.imm (nI n)), some (.rt true (.lst [])), none, none] := by
  have h2 : smallI (n : Int) := by unfold smallI; omega
  simp [s_law_pairs_1, a_mVar, a_mC, a_mBin, a_mUn, a_mT, a_mAndT, a_mOrT, a_mNotT, a_mAndV, a_mOrV, a_mNotV, a_mIfE, a_mChain, a_mTup, a_mLst, a_aNil, a_aCons, a_lNil, a_lCons, a_mB, a_mCall, a_cNil, a_cVal, a_cIo, a_mIsi, a_mFld, a_mMake, a_mCch, a_mDNew, a_mSl, a_oNone, a_oSome, a_sNx, a_sSeq, a_sRet, a_sRetN, a_sIf, a_sSet, a_sAsg, a_sPar, a_sDrop, a_sBk, a_sCt, a_gN, a_gsN, a_gsC, a_gT, a_gFld, a_gItem, a_gIx, a_gKey, a_rNil, a_rCons, a_mApp, a_mExt, a_mPop, a_mPopAt, a_wSeq, a_wRng1, a_wRng2, a_wZip, a_wEnum, a_sFor, a_tYesD, a_mRg1, a_mRg2, runF, endD, retD, outsD, List.map_cons, List.map_nil, List.length_cons, List.length_nil, List.replicate_succ, List.replicate_zero, List.replicate, List.cons_append, List.nil_append, cont, getD, freeze, freezeS, conts, svsD, slotsD, backD, noDup0, noDup1, slotsD, keepR, setAll, List.getElem?_cons_zero, List.getElem?_cons_succ, List.set_cons_zero, List.set_cons_succ, ri, rb, if_true, reduceCtorEq, isL, isDic, Bool.not_true, Bool.not_false, a_mCchV, a_mMethK, a_mDNewI, a_mGet1, a_mGet2, a_mTg1, a_mDisp1, a_gItemB, a_gKeyK, dIxA_lst, dIxA_tup, dIxA_dicN, dIxA_dicK, dInB_lst, dInB_tup, dInB_dicN, dInB_dicK, dNotInB_lst, dNotInB_tup, dNotInB_dicN, dNotInB_dicK, isDicK, h2]
theorem pairs_step {n i : Nat} (hn : n ≤ 7) (hi : i < n) (Ps : List (Nat × Nat)) (hz : Ps.length + (n - (i + 1)) ≤ sizeLine) : s_law_pairs_2 [some (.imm (nI n)), some (.rt true (.lst (Ps.map eP))), some (.imm (nI i)), none] = some (.nx, [some (.imm (nI n)), some (.rt true (.lst ((Ps ++ (List.range (n - (i + 1))).map fun k => (i, i + 1 + k)).map eP))), some (.imm (nI i)), none]) := by
  have hc := c_pairs hn hi (some (.rt true (.lst (Ps.map eP))))
  have e1 : mExt 1 c_law_pairs_0 [some (.imm (nI n)), some (.rt true (.lst (Ps.map eP))), some (.imm (nI i)), none] = some (.imm .non, [some (.imm (nI n)), some (.rt true (.lst (Ps.map eP ++ ((List.range (n - (i + 1))).map fun k => (i, i + 1 + k)).map eP))), some (.imm (nI i)), none]) := by
    simp only [a_mExt, isL, List.getElem?_cons_succ, List.getElem?_cons_zero, if_true, hc, cont]
    rw [if_pos (by rw [List.length_map, List.length_map, List.length_map, List.length_range]; exact hz)]
    simp only [List.set_cons_succ, List.set_cons_zero]
  simp only [s_law_pairs_2, a_sDrop, e1, List.map_append]
theorem small7 {m n i : Nat} (hn : n ≤ 7) (hi : i < n) (h : m ≤ i * n) : m + (n - (i + 1)) ≤ sizeLine := by
  rw [sizeLine_eq]
  have : i * n ≤ 7 * 7 := Nat.mul_le_mul (by omega) hn
  omega
theorem e_pairs {n : Nat} (hn : n ≤ 7) : ∃ Ps : List (Nat × Nat), m_law_pairs [.imm (nI n)] = some (.own (.lst (Ps.map eP)), [.imm (nI n)]) ∧ (∀ p ∈ Ps, p.1 < p.2 ∧ p.2 < n) ∧ Ps.length ≤ n * n := by
  have hl := pairs_loop hn
  obtain ⟨s, q1, Ps, y, rfl, q3, q4⟩ := forD_ints (g := gN 2) (b := s_law_pairs_2) (fun i st => ∃ (Ps : List (Nat × Nat)) (y : Option SV), st = [some (.imm (nI n)), some (.rt true (.lst (Ps.map eP))), y, none] ∧ (∀ p ∈ Ps, p.1 < p.2 ∧ p.2 < n) ∧ Ps.length ≤ i * n) n 0 (fun i _ hi st ⟨Ps, y, e, h1, h2⟩ => by
    subst e
    have hi : i < n := by omega
    refine ⟨_, _, rfl, .inl (pairs_step hn hi Ps (small7 hn hi h2)), Ps ++ (List.range (n - (i + 1))).map fun k => (i, i + 1 + k), _, rfl, fun p hp => ?_, ?_⟩
    · rcases List.mem_append.mp hp with z | z
      · exact h1 p z
      · obtain ⟨k, hk, rfl⟩ := List.mem_map.mp z
        have := List.mem_range.mp hk
        exact ⟨by show i < i + 1 + k; omega, by show i + 1 + k < n; omega⟩
    · rw [List.length_append, List.length_map, List.length_range, Nat.add_mul]
      omega) _ ⟨[], none, rfl, fun p hp => by simp at hp, by simp⟩
  rw [List.map_nil] at q1
  rw [q1] at hl
  refine ⟨Ps, ?_, q3, by rw [Nat.zero_add] at q4; exact q4⟩
  simp [m_law_pairs, b_law_pairs, s_law_pairs_0, s_law_pairs_3, a_mVar, a_mC, a_mBin, a_mUn, a_mT, a_mAndT, a_mOrT, a_mNotT, a_mAndV, a_mOrV, a_mNotV, a_mIfE, a_mChain, a_mTup, a_mLst, a_aNil, a_aCons, a_lNil, a_lCons, a_mB, a_mCall, a_cNil, a_cVal, a_cIo, a_mIsi, a_mFld, a_mMake, a_mCch, a_mDNew, a_mSl, a_oNone, a_oSome, a_sNx, a_sSeq, a_sRet, a_sRetN, a_sIf, a_sSet, a_sAsg, a_sPar, a_sDrop, a_sBk, a_sCt, a_gN, a_gsN, a_gsC, a_gT, a_gFld, a_gItem, a_gIx, a_gKey, a_rNil, a_rCons, a_mApp, a_mExt, a_mPop, a_mPopAt, a_wSeq, a_wRng1, a_wRng2, a_wZip, a_wEnum, a_sFor, a_tYesD, a_mRg1, a_mRg2, runF, endD, retD, outsD, List.map_cons, List.map_nil, List.length_cons, List.length_nil, List.replicate_succ, List.replicate_zero, List.replicate, List.cons_append, List.nil_append, cont, getD, freeze, freezeS, conts, svsD, slotsD, backD, noDup0, noDup1, slotsD, keepR, setAll, List.getElem?_cons_zero, List.getElem?_cons_succ, List.set_cons_zero, List.set_cons_succ, ri, rb, if_true, reduceCtorEq, isL, isDic, Bool.not_true, Bool.not_false, a_mCchV, a_mMethK, a_mDNewI, a_mGet1, a_mGet2, a_mTg1, a_mDisp1, a_gItemB, a_gKeyK, dIxA_lst, dIxA_tup, dIxA_dicN, dIxA_dicK, dInB_lst, dInB_tup, dInB_dicN, dInB_dicK, dNotInB_lst, dNotInB_tup, dNotInB_dicN, dNotInB_dicK, isDicK, hl]
end LW

namespace LW
open PySem PySem.Spec PyProof.Rows L2 LD
/-- a hand that can be drawn from -/
def isHand (d : D) : Prop := ∃ (cells : List Int) (k h s c : Int), 0 ≤ k ∧ d = handD cells k h s c
theorem x_draw {d : D} (h : isHand d) (sides : Nat) (h1 : 1 ≤ sides) (h2 : sides ≤ 1000) : ∃ (r : Nat) (d' : D), r < sides ∧ isHand d' ∧ m_law_draw [.rt false d, .imm (nI sides)] = some (.imm (nI r), [.rt false d', .imm (nI sides)]) := by
  obtain ⟨cells, k, h, s, c, hk, rfl⟩ := h
  obtain ⟨r, k', h', s', c', q1, q2, q3⟩ := e_draw cells k h s c sides hk h1 h2
  exact ⟨r, _, q1, ⟨cells, k', h', s', c', q2, rfl⟩, q3⟩
theorem lines_0 {d : D} (h : isHand d) (n : Nat) (b : Bool) : ∃ (kind often : Nat) (d' : D), often ≤ 1000 ∧ 1 ≤ often ∧ isHand d' ∧
    s_law_lines_0 [some (.rt b d), some (.imm (nI n)), none, none, none, none, none] = some (.nx, [some (.rt b d'), some (.imm (nI n)), some (.imm (nI kind)), some (.imm (nI often)), none, none, none]) := by
  obtain ⟨r1, d1, a1, a2, a3⟩ := x_draw h 4 (by omega) (by omega)
  obtain ⟨r2, d2, b1, b2, b3⟩ := x_draw a2 3 (by omega) (by omega)
  refine ⟨r1, 2 + r2, d2, by omega, by omega, b2, ?_⟩
  have a3' : m_law_draw [.rt false d, .imm (.int 4)] = some (.imm (nI r1), [.rt false d1, .imm (.int 4)]) := a3
  have b3' : m_law_draw [.rt false d1, .imm (.int 3)] = some (.imm (nI r2), [.rt false d2, .imm (.int 3)]) := b3
  have e : D.int (2 + (r2 : Int)) = nI (2 + r2) := by show D.int _ = D.int _; congr 1
  simp [s_law_lines_0, a_mVar, a_mC, a_mBin, a_mUn, a_mT, a_mAndT, a_mOrT, a_mNotT, a_mAndV, a_mOrV, a_mNotV, a_mIfE, a_mChain, a_mTup, a_mLst, a_aNil, a_aCons, a_lNil, a_lCons, a_mB, a_mCall, a_cNil, a_cVal, a_cIo, a_mIsi, a_mFld, a_mMake, a_mCch, a_mDNew, a_mSl, a_oNone, a_oSome, a_sNx, a_sSeq, a_sRet, a_sRetN, a_sIf, a_sSet, a_sAsg, a_sPar, a_sDrop, a_sBk, a_sCt, a_gN, a_gsN, a_gsC, a_gT, a_gFld, a_gItem, a_gIx, a_gKey, a_rNil, a_rCons, a_mApp, a_mExt, a_mPop, a_mPopAt, a_wSeq, a_wRng1, a_wRng2, a_wZip, a_wEnum, a_sFor, a_tYesD, a_mRg1, a_mRg2, runF, endD, retD, outsD, List.map_cons, List.map_nil, List.length_cons, List.length_nil, List.replicate_succ, List.replicate_zero, List.replicate, List.cons_append, List.nil_append, cont, getD, freeze, freezeS, conts, svsD, slotsD, backD, noDup0, noDup1, slotsD, keepR, setAll, List.getElem?_cons_zero, List.getElem?_cons_succ, List.set_cons_zero, List.set_cons_succ, ri, rb, if_true, reduceCtorEq, isL, isDic, Bool.not_true, Bool.not_false, a_mCchV, a_mMethK, a_mDNewI, a_mGet1, a_mGet2, a_mTg1, a_mDisp1, a_gItemB, a_gKeyK, dIxA_lst, dIxA_tup, dIxA_dicN, dIxA_dicK, dInB_lst, dInB_tup, dInB_dicN, dInB_dicK, dNotInB_lst, dNotInB_tup, dNotInB_dicN, dNotInB_dicK, isDicK, a3', b3', dAdd]
  try exact e

def okP (n : Nat) (d : D) : Prop := ∃ p : Nat × Nat, d = eP p ∧ p.1 < p.2 ∧ p.2 < n
theorem ne_bool (a b : Bool) : dNeA (.bl a) (.bl b) = some (.imm (.bl (a != b))) := by
  cases a <;> cases b <;> rfl
theorem lines_1 {d : D} (h : isHand d) {n kind often : Nat} (hn : n ≤ 7) (ho : often ≤ 1000) (ho1 : 1 ≤ often) (b : Bool) : ∃ (ds : List D) (d' : D), isHand d' ∧ (∀ x ∈ ds, okP n x) ∧ ds.length ≤ n * n ∧
    s_law_lines_1 [some (.rt b d), some (.imm (nI n)), some (.imm (nI kind)), some (.imm (nI often)), none, none, none] = some (.nx, [some (.rt b d'), some (.imm (nI n)), some (.imm (nI kind)), some (.imm (nI often)), some (.rt true (.lst ds)), none, none]) := by
  obtain ⟨Ps, p1, p2, p3⟩ := e_pairs hn
  obtain ⟨ds, t, q1, q2, q3, d', hd', rfl⟩ := lc_inv (vs := [5]) (g := gN 5) (c := (mT (mBin dNeA (mBin dEqA (mCall m_law_draw (cIo 0 (cVal (mVar 3) cNil))) (mC (.int 0))) (mBin dEqA (mVar 2) (mC (.int 1)))))) (m := mVar 5)
    (fun st => ∃ d', isHand d' ∧ st = [some (.rt b d'), some (.imm (nI n)), some (.imm (nI kind)), some (.imm (nI often)), none, none, none]) (okP n) (Ps.map eP) (fun x hx st ⟨d0, h0, e0⟩ => by
      subst e0
      obtain ⟨p, hp, rfl⟩ := List.mem_map.mp hx
      obtain ⟨r, d1, a1, a2, a3⟩ := x_draw h0 often ho1 ho
      have hc : (mT (mBin dNeA (mBin dEqA (mCall m_law_draw (cIo 0 (cVal (mVar 3) cNil))) (mC (.int 0))) (mBin dEqA (mVar 2) (mC (.int 1))))) [some (.rt b d0), some (.imm (nI n)), some (.imm (nI kind)), some (.imm (nI often)), none, some (.imm (eP p)), none] =
          some ((decide ((r : Int) = 0) != decide ((kind : Int) = 1)), [some (.rt b d1), some (.imm (nI n)), some (.imm (nI kind)), some (.imm (nI often)), none, some (.imm (eP p)), none]) := by
        simp [a_mVar, a_mC, a_mBin, a_mUn, a_mT, a_mAndT, a_mOrT, a_mNotT, a_mAndV, a_mOrV, a_mNotV, a_mIfE, a_mChain, a_mTup, a_mLst, a_aNil, a_aCons, a_lNil, a_lCons, a_mB, a_mCall, a_cNil, a_cVal, a_cIo, a_mIsi, a_mFld, a_mMake, a_mCch, a_mDNew, a_mSl, a_oNone, a_oSome, a_sNx, a_sSeq, a_sRet, a_sRetN, a_sIf, a_sSet, a_sAsg, a_sPar, a_sDrop, a_sBk, a_sCt, a_gN, a_gsN, a_gsC, a_gT, a_gFld, a_gItem, a_gIx, a_gKey, a_rNil, a_rCons, a_mApp, a_mExt, a_mPop, a_mPopAt, a_wSeq, a_wRng1, a_wRng2, a_wZip, a_wEnum, a_sFor, a_tYesD, a_mRg1, a_mRg2, runF, endD, retD, outsD, List.map_cons, List.map_nil, List.length_cons, List.length_nil, List.replicate_succ, List.replicate_zero, List.replicate, List.cons_append, List.nil_append, cont, getD, freeze, freezeS, conts, svsD, slotsD, backD, noDup0, noDup1, slotsD, keepR, setAll, List.getElem?_cons_zero, List.getElem?_cons_succ, List.set_cons_zero, List.set_cons_succ, ri, rb, if_true, reduceCtorEq, isL, isDic, Bool.not_true, Bool.not_false, a_mCchV, a_mMethK, a_mDNewI, a_mGet1, a_mGet2, a_mTg1, a_mDisp1, a_gItemB, a_gKeyK, dIxA_lst, dIxA_tup, dIxA_dicN, dIxA_dicK, dInB_lst, dInB_tup, dInB_dicN, dInB_dicK, dNotInB_lst, dNotInB_tup, dNotInB_dicN, dNotInB_dicK, isDicK, a3, dEqA, two, ne_bool]
      refine ⟨[some (.rt b d0), some (.imm (nI n)), some (.imm (nI kind)), some (.imm (nI often)), none, some (.imm (eP p)), none], _, _, rfl, hc, ?_⟩
      cases e : (decide ((r : Int) = 0) != decide ((kind : Int) = 1)) with
      | false => exact .inl ⟨rfl, d1, a2, rfl⟩
      | true => exact .inr ⟨rfl, .imm (eP p), _, eP p, _, rfl, rfl, ⟨p, rfl, p2 p hp⟩, d1, a2, rfl⟩) [some (.rt b d), some (.imm (nI n)), some (.imm (nI kind)), some (.imm (nI often)), none, none, none] ⟨d, h, rfl⟩
  refine ⟨ds, d', hd', q2, by rw [List.length_map] at q3; omega, ?_⟩
  have hw : (wSeq (mCall m_law_pairs (cVal (mVar 1) cNil))) [some (.rt b d), some (.imm (nI n)), some (.imm (nI kind)), some (.imm (nI often)), none, none, none] = some (Ps.map eP, [some (.rt b d), some (.imm (nI n)), some (.imm (nI kind)), some (.imm (nI often)), none, none, none]) := by
    simp [a_mVar, a_mC, a_mBin, a_mUn, a_mT, a_mAndT, a_mOrT, a_mNotT, a_mAndV, a_mOrV, a_mNotV, a_mIfE, a_mChain, a_mTup, a_mLst, a_aNil, a_aCons, a_lNil, a_lCons, a_mB, a_mCall, a_cNil, a_cVal, a_cIo, a_mIsi, a_mFld, a_mMake, a_mCch, a_mDNew, a_mSl, a_oNone, a_oSome, a_sNx, a_sSeq, a_sRet, a_sRetN, a_sIf, a_sSet, a_sAsg, a_sPar, a_sDrop, a_sBk, a_sCt, a_gN, a_gsN, a_gsC, a_gT, a_gFld, a_gItem, a_gIx, a_gKey, a_rNil, a_rCons, a_mApp, a_mExt, a_mPop, a_mPopAt, a_wSeq, a_wRng1, a_wRng2, a_wZip, a_wEnum, a_sFor, a_tYesD, a_mRg1, a_mRg2, runF, endD, retD, outsD, List.map_cons, List.map_nil, List.length_cons, List.length_nil, List.replicate_succ, List.replicate_zero, List.replicate, List.cons_append, List.nil_append, cont, getD, freeze, freezeS, conts, svsD, slotsD, backD, noDup0, noDup1, slotsD, keepR, setAll, List.getElem?_cons_zero, List.getElem?_cons_succ, List.set_cons_zero, List.set_cons_succ, ri, rb, if_true, reduceCtorEq, isL, isDic, Bool.not_true, Bool.not_false, a_mCchV, a_mMethK, a_mDNewI, a_mGet1, a_mGet2, a_mTg1, a_mDisp1, a_gItemB, a_gKeyK, dIxA_lst, dIxA_tup, dIxA_dicN, dIxA_dicK, dInB_lst, dInB_tup, dInB_dicN, dInB_dicK, dNotInB_lst, dNotInB_tup, dNotInB_dicN, dNotInB_dicK, isDicK, p1]
  have hcc : c_law_lines_0 [some (.rt b d), some (.imm (nI n)), some (.imm (nI kind)), some (.imm (nI often)), none, none, none] = some (.own (.lst ds), [some (.rt b d'), some (.imm (nI n)), some (.imm (nI kind)), some (.imm (nI often)), none, none, none]) := by
    unfold c_law_lines_0 mLc
    rw [hw]
    dsimp only
    have ew : wipeD [some (.rt b d), some (.imm (nI n)), some (.imm (nI kind)), some (.imm (nI often)), none, none, none] [5] = [some (.rt b d), some (.imm (nI n)), some (.imm (nI kind)), some (.imm (nI often)), none, none, none] := rfl
    rw [ew, q1]
    rfl
  simp only [s_law_lines_1, a_sSet, hcc, List.set_cons_succ, List.set_cons_zero]
theorem lines_2 {d : D} (h : isHand d) {n kind often : Nat} (hn : n ≤ 7) {ds : List D} (hd : ∀ x ∈ ds, okP n x) (hl : ds.length ≤ n * n) (b : Bool) : ∃ (ds' : List D) (d' : D), isHand d' ∧ (∀ x ∈ ds', okP n x) ∧ ds'.length ≤ n * n + n ∧
    s_law_lines_2 [some (.rt b d), some (.imm (nI n)), some (.imm (nI kind)), some (.imm (nI often)), some (.rt true (.lst ds)), none, none] = some (.nx, [some (.rt b d'), some (.imm (nI n)), some (.imm (nI kind)), some (.imm (nI often)), some (.rt true (.lst ds')), none, none]) := by
  by_cases hk : (1 : Int) < kind
  · obtain ⟨es, t, q1, q2, q3, d', hd', rfl⟩ := lc_inv (vs := [6]) (g := gN 6) (c := tYesD) (m := (mTup (aCons (mCall m_law_draw (cIo 0 (cVal (mVar 6) cNil))) (aCons (mVar 6) aNil))))
      (fun st => ∃ d', isHand d' ∧ st = [some (.rt b d'), some (.imm (nI n)), some (.imm (nI kind)), some (.imm (nI often)), some (.rt true (.lst ds)), none, none]) (okP n) (intsD 1 ((n : Int) - 1).toNat) (fun x hx st ⟨d0, h0, e0⟩ => by
        subst e0
        obtain ⟨k, hk, rfl⟩ := ints_mem.mp hx
        have ek : D.int (1 + (k : Int)) = nI (1 + k) := by
          have : (1 : Int) + k = ((1 + k : Nat) : Int) := by omega
          rw [this]
        rw [ek]
        obtain ⟨m, hm⟩ : ∃ m, m = 1 + k := ⟨_, rfl⟩
        rw [← hm]
        obtain ⟨r, d1, a1, a2, a3⟩ := x_draw h0 m (by omega) (by omega)
        have hc : (mTup (aCons (mCall m_law_draw (cIo 0 (cVal (mVar 6) cNil))) (aCons (mVar 6) aNil))) [some (.rt b d0), some (.imm (nI n)), some (.imm (nI kind)), some (.imm (nI often)), some (.rt true (.lst ds)), none, some (.imm (nI m))] =
            some (.imm (eP (r, m)), [some (.rt b d1), some (.imm (nI n)), some (.imm (nI kind)), some (.imm (nI often)), some (.rt true (.lst ds)), none, some (.imm (nI m))]) := by
          simp only [a_mVar, a_mC, a_mBin, a_mUn, a_mT, a_mAndT, a_mOrT, a_mNotT, a_mAndV, a_mOrV, a_mNotV, a_mIfE, a_mChain, a_mTup, a_mLst, a_aNil, a_aCons, a_lNil, a_lCons, a_mB, a_mCall, a_cNil, a_cVal, a_cIo, a_mIsi, a_mFld, a_mMake, a_mCch, a_mDNew, a_mSl, a_oNone, a_oSome, a_sNx, a_sSeq, a_sRet, a_sRetN, a_sIf, a_sSet, a_sAsg, a_sPar, a_sDrop, a_sBk, a_sCt, a_gN, a_gsN, a_gsC, a_gT, a_gFld, a_gItem, a_gIx, a_gKey, a_rNil, a_rCons, a_mApp, a_mExt, a_mPop, a_mPopAt, a_wSeq, a_wRng1, a_wRng2, a_wZip, a_wEnum, a_sFor, a_tYesD, a_mRg1, a_mRg2, runF, endD, retD, outsD, List.map_cons, List.map_nil, List.length_cons, List.length_nil, List.replicate_succ, List.replicate_zero, List.replicate, List.cons_append, List.nil_append, cont, getD, freeze, freezeS, conts, svsD, slotsD, backD, noDup0, noDup1, slotsD, keepR, setAll, List.getElem?_cons_zero, List.getElem?_cons_succ, List.set_cons_zero, List.set_cons_succ, ri, rb, if_true, reduceCtorEq, isL, isDic, Bool.not_true, Bool.not_false, a_mCchV, a_mMethK, a_mDNewI, a_mGet1, a_mGet2, a_mTg1, a_mDisp1, a_gItemB, a_gKeyK, dIxA_lst, dIxA_tup, dIxA_dicN, dIxA_dicK, dInB_lst, dInB_tup, dInB_dicN, dInB_dicK, dNotInB_lst, dNotInB_tup, dNotInB_dicN, dNotInB_dicK, isDicK, a3, eP]
        exact ⟨_, true, _, rfl, rfl, .inr ⟨rfl, _, _, _, _, hc, rfl, ⟨(r, m), rfl, a1, by show m < n; omega⟩, d1, a2, rfl⟩⟩) [some (.rt b d), some (.imm (nI n)), some (.imm (nI kind)), some (.imm (nI often)), some (.rt true (.lst ds)), none, none] ⟨d, h, rfl⟩
    rw [intsD_len] at q3
    have hz : ds.length + es.length ≤ sizeLine := by
      rw [sizeLine_eq]
      have : n * n ≤ 7 * 7 := Nat.mul_le_mul hn hn
      omega
    have hw : (wRng2 (aCons (mC (.int 1)) (aCons (mVar 1) aNil))) [some (.rt b d), some (.imm (nI n)), some (.imm (nI kind)), some (.imm (nI often)), some (.rt true (.lst ds)), none, none] = some (intsD 1 ((n : Int) - 1).toNat, [some (.rt b d), some (.imm (nI n)), some (.imm (nI kind)), some (.imm (nI often)), some (.rt true (.lst ds)), none, none]) := by
      have h1 : smallI 1 := by unfold smallI; omega
      have h2 : smallI (n : Int) := by unfold smallI; omega
      have h3 : smallI ((n : Int) - 1) := by unfold smallI; omega
      simp [a_mVar, a_mC, a_mBin, a_mUn, a_mT, a_mAndT, a_mOrT, a_mNotT, a_mAndV, a_mOrV, a_mNotV, a_mIfE, a_mChain, a_mTup, a_mLst, a_aNil, a_aCons, a_lNil, a_lCons, a_mB, a_mCall, a_cNil, a_cVal, a_cIo, a_mIsi, a_mFld, a_mMake, a_mCch, a_mDNew, a_mSl, a_oNone, a_oSome, a_sNx, a_sSeq, a_sRet, a_sRetN, a_sIf, a_sSet, a_sAsg, a_sPar, a_sDrop, a_sBk, a_sCt, a_gN, a_gsN, a_gsC, a_gT, a_gFld, a_gItem, a_gIx, a_gKey, a_rNil, a_rCons, a_mApp, a_mExt, a_mPop, a_mPopAt, a_wSeq, a_wRng1, a_wRng2, a_wZip, a_wEnum, a_sFor, a_tYesD, a_mRg1, a_mRg2, runF, endD, retD, outsD, List.map_cons, List.map_nil, List.length_cons, List.length_nil, List.replicate_succ, List.replicate_zero, List.replicate, List.cons_append, List.nil_append, cont, getD, freeze, freezeS, conts, svsD, slotsD, backD, noDup0, noDup1, slotsD, keepR, setAll, List.getElem?_cons_zero, List.getElem?_cons_succ, List.set_cons_zero, List.set_cons_succ, ri, rb, if_true, reduceCtorEq, isL, isDic, Bool.not_true, Bool.not_false, a_mCchV, a_mMethK, a_mDNewI, a_mGet1, a_mGet2, a_mTg1, a_mDisp1, a_gItemB, a_gKeyK, dIxA_lst, dIxA_tup, dIxA_dicN, dIxA_dicK, dInB_lst, dInB_tup, dInB_dicN, dInB_dicK, dNotInB_lst, dNotInB_tup, dNotInB_dicN, dNotInB_dicK, isDicK, h1, h2, h3]
    have hcc : c_law_lines_1 [some (.rt b d), some (.imm (nI n)), some (.imm (nI kind)), some (.imm (nI often)), some (.rt true (.lst ds)), none, none] = some (.own (.lst es), [some (.rt b d'), some (.imm (nI n)), some (.imm (nI kind)), some (.imm (nI often)), some (.rt true (.lst ds)), none, none]) := by
      unfold c_law_lines_1 mLc
      rw [hw]
      dsimp only
      have ew : wipeD [some (.rt b d), some (.imm (nI n)), some (.imm (nI kind)), some (.imm (nI often)), some (.rt true (.lst ds)), none, none] [6] = [some (.rt b d), some (.imm (nI n)), some (.imm (nI kind)), some (.imm (nI often)), some (.rt true (.lst ds)), none, none] := rfl
      rw [ew, q1]
      rfl
    refine ⟨ds ++ es, d', hd', fun x hx => ?_, by rw [List.length_append]; omega, ?_⟩
    · rcases List.mem_append.mp hx with z | z
      · exact hd x z
      · exact q2 x z
    · have he : mExt 4 c_law_lines_1 [some (.rt b d), some (.imm (nI n)), some (.imm (nI kind)), some (.imm (nI often)), some (.rt true (.lst ds)), none, none] = some (.imm .non, [some (.rt b d'), some (.imm (nI n)), some (.imm (nI kind)), some (.imm (nI often)), some (.rt true (.lst (ds ++ es))), none, none]) := by
        simp only [a_mExt, isL, List.getElem?_cons_succ, List.getElem?_cons_zero, if_true, hcc, cont]
        rw [if_pos hz]
        simp only [List.set_cons_succ, List.set_cons_zero]
      have hcnd : (mT (mBin dGtA (mVar 2) (mC (.int 1)))) [some (.rt b d), some (.imm (nI n)), some (.imm (nI kind)), some (.imm (nI often)), some (.rt true (.lst ds)), none, none] = some (true, [some (.rt b d), some (.imm (nI n)), some (.imm (nI kind)), some (.imm (nI often)), some (.rt true (.lst ds)), none, none]) := by
        simp [a_mVar, a_mC, a_mBin, a_mUn, a_mT, a_mAndT, a_mOrT, a_mNotT, a_mAndV, a_mOrV, a_mNotV, a_mIfE, a_mChain, a_mTup, a_mLst, a_aNil, a_aCons, a_lNil, a_lCons, a_mB, a_mCall, a_cNil, a_cVal, a_cIo, a_mIsi, a_mFld, a_mMake, a_mCch, a_mDNew, a_mSl, a_oNone, a_oSome, a_sNx, a_sSeq, a_sRet, a_sRetN, a_sIf, a_sSet, a_sAsg, a_sPar, a_sDrop, a_sBk, a_sCt, a_gN, a_gsN, a_gsC, a_gT, a_gFld, a_gItem, a_gIx, a_gKey, a_rNil, a_rCons, a_mApp, a_mExt, a_mPop, a_mPopAt, a_wSeq, a_wRng1, a_wRng2, a_wZip, a_wEnum, a_sFor, a_tYesD, a_mRg1, a_mRg2, runF, endD, retD, outsD, List.map_cons, List.map_nil, List.length_cons, List.length_nil, List.replicate_succ, List.replicate_zero, List.replicate, List.cons_append, List.nil_append, cont, getD, freeze, freezeS, conts, svsD, slotsD, backD, noDup0, noDup1, slotsD, keepR, setAll, List.getElem?_cons_zero, List.getElem?_cons_succ, List.set_cons_zero, List.set_cons_succ, ri, rb, if_true, reduceCtorEq, isL, isDic, Bool.not_true, Bool.not_false, a_mCchV, a_mMethK, a_mDNewI, a_mGet1, a_mGet2, a_mTg1, a_mDisp1, a_gItemB, a_gKeyK, dIxA_lst, dIxA_tup, dIxA_dicN, dIxA_dicK, dInB_lst, dInB_tup, dInB_dicN, dInB_dicK, dNotInB_lst, dNotInB_tup, dNotInB_dicN, dNotInB_dicK, isDicK, dGtA, two, hk]
      simp only [s_law_lines_2, s_law_lines_3, a_sIf, hcnd, a_sDrop, he]
  · refine ⟨ds, d, h, hd, by omega, ?_⟩
    simp [s_law_lines_2, a_mVar, a_mC, a_mBin, a_mUn, a_mT, a_mAndT, a_mOrT, a_mNotT, a_mAndV, a_mOrV, a_mNotV, a_mIfE, a_mChain, a_mTup, a_mLst, a_aNil, a_aCons, a_lNil, a_lCons, a_mB, a_mCall, a_cNil, a_cVal, a_cIo, a_mIsi, a_mFld, a_mMake, a_mCch, a_mDNew, a_mSl, a_oNone, a_oSome, a_sNx, a_sSeq, a_sRet, a_sRetN, a_sIf, a_sSet, a_sAsg, a_sPar, a_sDrop, a_sBk, a_sCt, a_gN, a_gsN, a_gsC, a_gT, a_gFld, a_gItem, a_gIx, a_gKey, a_rNil, a_rCons, a_mApp, a_mExt, a_mPop, a_mPopAt, a_wSeq, a_wRng1, a_wRng2, a_wZip, a_wEnum, a_sFor, a_tYesD, a_mRg1, a_mRg2, runF, endD, retD, outsD, List.map_cons, List.map_nil, List.length_cons, List.length_nil, List.replicate_succ, List.replicate_zero, List.replicate, List.cons_append, List.nil_append, cont, getD, freeze, freezeS, conts, svsD, slotsD, backD, noDup0, noDup1, slotsD, keepR, setAll, List.getElem?_cons_zero, List.getElem?_cons_succ, List.set_cons_zero, List.set_cons_succ, ri, rb, if_true, reduceCtorEq, isL, isDic, Bool.not_true, Bool.not_false, a_mCchV, a_mMethK, a_mDNewI, a_mGet1, a_mGet2, a_mTg1, a_mDisp1, a_gItemB, a_gKeyK, dIxA_lst, dIxA_tup, dIxA_dicN, dIxA_dicK, dInB_lst, dInB_tup, dInB_dicN, dInB_dicK, dNotInB_lst, dNotInB_tup, dNotInB_dicN, dNotInB_dicK, isDicK, dGtA, two, hk]
end LW

namespace LW
open PySem PySem.Spec PyProof.Rows L2 LD
theorem pick {n : Nat} : ∀ {ds : List D}, (∀ x ∈ ds, okP n x) → ∃ Ps : List (Nat × Nat), ds = Ps.map eP ∧ ∀ p ∈ Ps, p.1 < p.2 ∧ p.2 < n
  | [], _ => ⟨[], rfl, fun p hp => by simp at hp⟩
  | d :: ds, h => by
    obtain ⟨p, rfl, h1⟩ := h d (List.mem_cons_self ..)
    obtain ⟨Ps, e, h2⟩ := pick fun x hx => h x (List.mem_cons_of_mem _ hx)
    refine ⟨p :: Ps, by rw [e]; rfl, fun q hq => ?_⟩
    rcases List.mem_cons.mp hq with z | z
    · rw [z]; exact h1
    · exact h2 q z
def rowP (p : Nat × Nat) : List Int := [(p.1 : Int), (p.2 : Int)]
def unP (r : List Int) : Nat × Nat := ((r.getD 0 0).toNat, (r.getD 1 0).toNat)
theorem unP_rowP (p : Nat × Nat) : unP (rowP p) = p := by simp [unP, rowP]
theorem intsTs_map : ∀ Ps : List (Nat × Nat), intsTs (Ps.map eP) = some (Ps.map rowP)
  | [] => rfl
  | p :: Ps => by
    rw [List.map_cons, intsTs, show intsT (eP p) = some (rowP p) from nums_map [(p.1 : Int), (p.2 : Int)], intsTs_map Ps]
    rfl
theorem code2 (p : Nat × Nat) : TS.code 64 (rowP p) = (p.1 : Int) * 64 + p.2 := L2.code_pair _ _
theorem sort_lines {n : Nat} (hn : n ≤ 7) {Ps : List (Nat × Nat)} (h : ∀ p ∈ Ps, p.1 < p.2 ∧ p.2 < n) : ∃ L, okL n L ∧ (setD (Ps.map rowP)).map tupI = L.map eP ∧ ∀ p, p ∈ L ↔ p ∈ Ps := by
  have hr : ∀ r ∈ setD (Ps.map rowP), ∃ p ∈ Ps, rowP p = r := fun r hr => List.mem_map.mp (mem_setD.mp hr)
  refine ⟨(setD (Ps.map rowP)).map unP, ⟨fun p hp => ?_, ?_⟩, ?_, fun p => ⟨fun hp => ?_, fun hp => ?_⟩⟩
  · obtain ⟨r, h1, rfl⟩ := List.mem_map.mp hp
    obtain ⟨q, hq, rfl⟩ := hr r h1
    rw [unP_rowP]
    exact h q hq
  · rw [List.pairwise_map]
    have h1 := List.Pairwise.and (setD_sorted (Ps.map rowP)) (setD_nodup (Ps.map rowP))
    refine List.Pairwise.imp_of_mem (fun {a b} ha hb hab => ?_) h1
    obtain ⟨p, hp, rfl⟩ := hr a ha
    obtain ⟨q, hq, rfl⟩ := hr b hb
    rw [unP_rowP, unP_rowP]
    obtain ⟨c1, c2⟩ := hab
    rw [code2, code2] at c1
    have hpq : p ≠ q := fun z => c2 (by rw [z])
    have b1 := h p hp
    have b2 := h q hq
    unfold ltP
    by_cases e : p.1 = q.1
    · right
      refine ⟨e, ?_⟩
      have : p.2 ≠ q.2 := fun z => hpq (Prod.ext e z)
      omega
    · left
      omega
  · rw [List.map_map]
    refine List.map_congr_left fun r hr' => ?_
    obtain ⟨q, hq, rfl⟩ := hr r hr'
    rw [Function.comp, unP_rowP]
    rfl
  · obtain ⟨r, h1, rfl⟩ := List.mem_map.mp hp
    obtain ⟨q, hq, rfl⟩ := hr r h1
    rw [unP_rowP]; exact hq
  · exact List.mem_map.mpr ⟨rowP p, mem_setD.mpr (List.mem_map_of_mem hp), unP_rowP p⟩
theorem sorted_rows {n : Nat} (hn : n ≤ 7) {Ps : List (Nat × Nat)} (h : ∀ p ∈ Ps, p.1 < p.2 ∧ p.2 < n) : dSortedA [.st (Ps.map rowP)] = some (.own (.lst ((setD (Ps.map rowP)).map tupI))) := by
  have e : dSortedA [.st (Ps.map rowP)] = dSortedT [.st (Ps.map rowP)] := rfl
  rw [e]
  cases Ps with
  | nil => rw [show setD (List.map rowP []) = [] from List.mergeSort_nil]; rfl
  | cons p Ps =>
    rw [List.map_cons]
    unfold dSortedT
    have ok : rowsOk (rowP p).length (rowP p :: Ps.map rowP) = true := by
      unfold rowsOk
      rw [List.all_eq_true]
      intro r hr
      rw [← List.map_cons] at hr
      obtain ⟨q, hq, rfl⟩ := List.mem_map.mp hr
      have := h q hq
      have h1 : (q.1 : Int) < 64 := by omega
      have h2 : (q.2 : Int) < 64 := by omega
      have h3 : (0 : Int) ≤ q.1 := by omega
      have h4 : (0 : Int) ≤ q.2 := by omega
      simp only [rowP, List.length_cons, List.length_nil, beq_self_eq_true, Bool.true_and, List.all_cons, List.all_nil, h1, h2, h3, h4, and_self, decide_true, Bool.and_self]
    dsimp only
    rw [if_pos ⟨by simp [rowP], ok⟩]
theorem lines_4 {d : D} {n kind often : Nat} (hn : n ≤ 7) {ds : List D} (hd : ∀ x ∈ ds, okP n x) (hl : ds.length ≤ n * n + n) (b : Bool) : ∃ L, okL n L ∧
    s_law_lines_4 [some (.rt b d), some (.imm (nI n)), some (.imm (nI kind)), some (.imm (nI often)), some (.rt true (.lst ds)), none, none] = some (.ret (.imm (eL L)), [some (.rt b d), some (.imm (nI n)), some (.imm (nI kind)), some (.imm (nI often)), some (.rt true (.lst ds)), none, none]) := by
  obtain ⟨Ps, rfl, hp⟩ := pick hd
  obtain ⟨L, h1, h2, _⟩ := sort_lines hn hp
  have h64 : (Ps.map rowP).length < 64 := by
    rw [List.length_map] at hl ⊢
    have : n * n ≤ 7 * 7 := Nat.mul_le_mul hn hn
    omega
  have e1 : dSetT [.lst (Ps.map eP)] = some (.own (.st (Ps.map rowP))) := by
    show (match intsTs (Ps.map eP) with | some rs => if rs.length < 64 then some (R.own (.st rs)) else none | none => none) = _
    rw [intsTs_map]
    dsimp only
    rw [if_pos h64]
  refine ⟨L, h1, ?_⟩
  simp only [s_law_lines_4, a_mVar, a_mC, a_mBin, a_mUn, a_mT, a_mAndT, a_mOrT, a_mNotT, a_mAndV, a_mOrV, a_mNotV, a_mIfE, a_mChain, a_mTup, a_mLst, a_aNil, a_aCons, a_lNil, a_lCons, a_mB, a_mCall, a_cNil, a_cVal, a_cIo, a_mIsi, a_mFld, a_mMake, a_mCch, a_mDNew, a_mSl, a_oNone, a_oSome, a_sNx, a_sSeq, a_sRet, a_sRetN, a_sIf, a_sSet, a_sAsg, a_sPar, a_sDrop, a_sBk, a_sCt, a_gN, a_gsN, a_gsC, a_gT, a_gFld, a_gItem, a_gIx, a_gKey, a_rNil, a_rCons, a_mApp, a_mExt, a_mPop, a_mPopAt, a_wSeq, a_wRng1, a_wRng2, a_wZip, a_wEnum, a_sFor, a_tYesD, a_mRg1, a_mRg2, runF, endD, retD, outsD, List.map_cons, List.map_nil, List.length_cons, List.length_nil, List.replicate_succ, List.replicate_zero, List.replicate, List.cons_append, List.nil_append, cont, getD, freeze, freezeS, conts, svsD, slotsD, backD, noDup0, noDup1, slotsD, keepR, setAll, List.getElem?_cons_zero, List.getElem?_cons_succ, List.set_cons_zero, List.set_cons_succ, ri, rb, if_true, reduceCtorEq, isL, isDic, Bool.not_true, Bool.not_false, a_mCchV, a_mMethK, a_mDNewI, a_mGet1, a_mGet2, a_mTg1, a_mDisp1, a_gItemB, a_gKeyK, dIxA_lst, dIxA_tup, dIxA_dicN, dIxA_dicK, dInB_lst, dInB_tup, dInB_dicN, dInB_dicK, dNotInB_lst, dNotInB_tup, dNotInB_dicN, dNotInB_dicK, isDicK, e1, sorted_rows hn hp, h2, dTuple, eL]
theorem e_lines {d : D} (h : isHand d) {n : Nat} (hn : n ≤ 7) : ∃ L d', isHand d' ∧ okL n L ∧ m_law_lines [.rt false d, .imm (nI n)] = some (.imm (eL L), [.rt false d', .imm (nI n)]) := by
  obtain ⟨kind, often, d1, o1, o2, h1, e0⟩ := lines_0 h n false
  obtain ⟨ds, d2, h2, q2, l2, e1⟩ := lines_1 (kind := kind) h1 hn o1 o2 false
  obtain ⟨ds', d3, h3, q3, l3, e2⟩ := lines_2 (kind := kind) (often := often) h2 hn q2 l2 false
  obtain ⟨L, hL, e4⟩ := lines_4 (d := d3) (kind := kind) (often := often) hn q3 l3 false
  refine ⟨L, d3, h3, hL, ?_⟩
  simp only [m_law_lines, b_law_lines, a_mVar, a_mC, a_mBin, a_mUn, a_mT, a_mAndT, a_mOrT, a_mNotT, a_mAndV, a_mOrV, a_mNotV, a_mIfE, a_mChain, a_mTup, a_mLst, a_aNil, a_aCons, a_lNil, a_lCons, a_mB, a_mCall, a_cNil, a_cVal, a_cIo, a_mIsi, a_mFld, a_mMake, a_mCch, a_mDNew, a_mSl, a_oNone, a_oSome, a_sNx, a_sSeq, a_sRet, a_sRetN, a_sIf, a_sSet, a_sAsg, a_sPar, a_sDrop, a_sBk, a_sCt, a_gN, a_gsN, a_gsC, a_gT, a_gFld, a_gItem, a_gIx, a_gKey, a_rNil, a_rCons, a_mApp, a_mExt, a_mPop, a_mPopAt, a_wSeq, a_wRng1, a_wRng2, a_wZip, a_wEnum, a_sFor, a_tYesD, a_mRg1, a_mRg2, runF, endD, retD, outsD, List.map_cons, List.map_nil, List.length_cons, List.length_nil, List.replicate_succ, List.replicate_zero, List.replicate, List.cons_append, List.nil_append, cont, getD, freeze, freezeS, conts, svsD, slotsD, backD, noDup0, noDup1, slotsD, keepR, setAll, List.getElem?_cons_zero, List.getElem?_cons_succ, List.set_cons_zero, List.set_cons_succ, ri, rb, if_true, reduceCtorEq, isL, isDic, Bool.not_true, Bool.not_false, a_mCchV, a_mMethK, a_mDNewI, a_mGet1, a_mGet2, a_mTg1, a_mDisp1, a_gItemB, a_gKeyK, dIxA_lst, dIxA_tup, dIxA_dicN, dIxA_dicK, dInB_lst, dInB_tup, dInB_dicN, dInB_dicK, dNotInB_lst, dNotInB_tup, dNotInB_dicN, dNotInB_dicK, isDicK, e0, e1, e2, e4]
end LW

namespace LW
open PySem PySem.Spec PyProof.Rows L2 LD
/-! lines of a web: there, has_line, near_of -/
def kP (p : Nat × Nat) : NestedKey := .tup [.num p.1, .num p.2]
theorem nk_eP (p : Nat × Nat) : nk (eP p) = some (kP p) := by simp [eP, nk, nk.nks, kP]
theorem dep_P (p : Nat × Nat) : (kP p).depth ≤ 2 := by simp [kP, NestedKey.depth, NestedKey.depthAll]
theorem nkey_eP (p : Nat × Nat) : nkey (eP p) = some (kP p) := by
  have h1 := nk_eP p
  have h2 : (kP p).depth ≤ 8 := Nat.le_trans (dep_P p) (by omega)
  unfold eP at h1 ⊢
  show (match nk (.tup [nI p.1, nI p.2]) with | some k => if k.depth ≤ 8 then some k else none | none => none) = _
  rw [h1]
  dsimp only
  rw [if_pos h2]
theorem kP_inj (p q : Nat × Nat) (h : kP p = kP q) : p = q := by
  simp [kP] at h
  exact Prod.ext (by omega) (by omega)
theorem okL_nodup {n : Nat} {L : List (Nat × Nat)} (h : okL n L) : L.Nodup := by
  refine h.2.imp fun {a b} hab => ?_
  rintro rfl
  unfold ltP at hab
  omega
/-- the dict of lines -/
def eThere (L : List (Nat × Nat)) : D := .dic true (L.map fun p => (eP p, .bl true))
theorem dict_L {n : Nat} {L : List (Nat × Nat)} (h : okL n L) : dDictN [.lst (L.map fun p => .tup [eP p, .bl true])] = some (.own (eThere L)) := by
  have h1 : pairsOf (L.map fun p => .tup [eP p, .bl true]) = some (L.map fun p => (eP p, .bl true)) := by
    have := pairsOf_as (α := Nat × Nat) (β := Bool) (enc := eP) (key := kP) nkey_eP (fun b => D.bl b) (L.map fun p => (p, true))
    rw [List.map_map, List.map_map] at this
    exact this
  have h2 : putAll (L.map fun p => (eP p, .bl true)) [] = L.map fun p => (eP p, .bl true) := by
    have := putAll_as (α := Nat × Nat) (β := Bool) (enc := eP) (key := kP) nkey_eP kP_inj (fun b => D.bl b) (L.map fun p => (p, true)) []
    rw [List.map_map, List.map_nil, aPuts_nodup _ _ (by
      rw [List.nil_append, List.map_map]
      have e : ((fun (x : (Nat × Nat) × Bool) => x.1) ∘ fun (p : Nat × Nat) => (p, true)) = id := rfl
      rw [e, List.map_id]
      exact okL_nodup h), List.nil_append, List.map_map] at this
    exact this
  show (match pairsOf (L.map fun p => .tup [eP p, .bl true]) with | some ps => some (R.own (.dic true (putAll ps []))) | none => none) = _
  rw [h1]
  dsimp only
  rw [h2]
  rfl
theorem e_there {n : Nat} {L : List (Nat × Nat)} (h : okL n L) : m_there [.imm (eWeb n L)] = some (.imm (eThere L), [.imm (eWeb n L)]) := by
  have h1 : c_there_0 [some (.imm (eWeb n L)), none] = some (.own (.lst (L.map fun p => .tup [eP p, .bl true])), [some (.imm (eWeb n L)), none]) := by
    refine mLc_all (enc := eP) (xs := L) (fun p => .tup [eP p, .bl true]) ?_ fun p hp => ?_
    · simp only [a_mVar, a_mC, a_mBin, a_mUn, a_mT, a_mAndT, a_mOrT, a_mNotT, a_mAndV, a_mOrV, a_mNotV, a_mIfE, a_mChain, a_mTup, a_mLst, a_aNil, a_aCons, a_lNil, a_lCons, a_mB, a_mCall, a_cNil, a_cVal, a_cIo, a_mIsi, a_mFld, a_mMake, a_mCch, a_mDNew, a_mSl, a_oNone, a_oSome, a_sNx, a_sSeq, a_sRet, a_sRetN, a_sIf, a_sSet, a_sAsg, a_sPar, a_sDrop, a_sBk, a_sCt, a_gN, a_gsN, a_gsC, a_gT, a_gFld, a_gItem, a_gIx, a_gKey, a_rNil, a_rCons, a_mApp, a_mExt, a_mPop, a_mPopAt, a_wSeq, a_wRng1, a_wRng2, a_wZip, a_wEnum, a_sFor, a_tYesD, a_mRg1, a_mRg2, runF, endD, retD, outsD, List.map_cons, List.map_nil, List.length_cons, List.length_nil, List.replicate_succ, List.replicate_zero, List.replicate, List.cons_append, List.nil_append, cont, getD, freeze, freezeS, conts, svsD, slotsD, backD, noDup0, noDup1, slotsD, keepR, setAll, List.getElem?_cons_zero, List.getElem?_cons_succ, List.set_cons_zero, List.set_cons_succ, ri, rb, if_true, reduceCtorEq, isL, isDic, Bool.not_true, Bool.not_false, a_mCchV, a_mMethK, a_mDNewI, a_mGet1, a_mGet2, a_mTg1, a_mDisp1, a_gItemB, a_gKeyK, dIxA_lst, dIxA_tup, dIxA_dicN, dIxA_dicK, dInB_lst, dInB_tup, dInB_dicN, dInB_dicK, dNotInB_lst, dNotInB_tup, dNotInB_dicN, dNotInB_dicK, isDicK, eWeb, eL]
    · exact ⟨[some (.imm (eWeb n L)), some (.imm (eP p))], rfl, rfl, .imm (.tup [eP p, .bl true]), rfl, rfl⟩
  have h2 := dict_L h
  have h3 : (mB dDictN (lCons c_there_0 lNil)) [some (.imm (eWeb n L)), none] = some (.own (eThere L), [some (.imm (eWeb n L)), none]) := by
    simp only [a_mVar, a_mC, a_mBin, a_mUn, a_mT, a_mAndT, a_mOrT, a_mNotT, a_mAndV, a_mOrV, a_mNotV, a_mIfE, a_mChain, a_mTup, a_mLst, a_aNil, a_aCons, a_lNil, a_lCons, a_mB, a_mCall, a_cNil, a_cVal, a_cIo, a_mIsi, a_mFld, a_mMake, a_mCch, a_mDNew, a_mSl, a_oNone, a_oSome, a_sNx, a_sSeq, a_sRet, a_sRetN, a_sIf, a_sSet, a_sAsg, a_sPar, a_sDrop, a_sBk, a_sCt, a_gN, a_gsN, a_gsC, a_gT, a_gFld, a_gItem, a_gIx, a_gKey, a_rNil, a_rCons, a_mApp, a_mExt, a_mPop, a_mPopAt, a_wSeq, a_wRng1, a_wRng2, a_wZip, a_wEnum, a_sFor, a_tYesD, a_mRg1, a_mRg2, runF, endD, retD, outsD, List.map_cons, List.map_nil, List.length_cons, List.length_nil, List.replicate_succ, List.replicate_zero, List.replicate, List.cons_append, List.nil_append, cont, getD, freeze, freezeS, conts, svsD, slotsD, backD, noDup0, noDup1, slotsD, keepR, setAll, List.getElem?_cons_zero, List.getElem?_cons_succ, List.set_cons_zero, List.set_cons_succ, ri, rb, if_true, reduceCtorEq, isL, isDic, Bool.not_true, Bool.not_false, a_mCchV, a_mMethK, a_mDNewI, a_mGet1, a_mGet2, a_mTg1, a_mDisp1, a_gItemB, a_gKeyK, dIxA_lst, dIxA_tup, dIxA_dicN, dIxA_dicK, dInB_lst, dInB_tup, dInB_dicN, dInB_dicK, dNotInB_lst, dNotInB_tup, dNotInB_dicN, dNotInB_dicK, isDicK, h1, h2]
  have h4 : b_there [some (.imm (eWeb n L)), none] = some (.ret (.imm (eThere L)), [some (.imm (eWeb n L)), none]) := by
    unfold b_there
    rw [a_sThere]
    simp only [List.getElem?_cons_zero, eWeb, if_true]
    unfold eWeb at h3
    rw [h3]
    simp [eThere, eL]
    try rfl
  simp only [m_there, a_mVar, a_mC, a_mBin, a_mUn, a_mT, a_mAndT, a_mOrT, a_mNotT, a_mAndV, a_mOrV, a_mNotV, a_mIfE, a_mChain, a_mTup, a_mLst, a_aNil, a_aCons, a_lNil, a_lCons, a_mB, a_mCall, a_cNil, a_cVal, a_cIo, a_mIsi, a_mFld, a_mMake, a_mCch, a_mDNew, a_mSl, a_oNone, a_oSome, a_sNx, a_sSeq, a_sRet, a_sRetN, a_sIf, a_sSet, a_sAsg, a_sPar, a_sDrop, a_sBk, a_sCt, a_gN, a_gsN, a_gsC, a_gT, a_gFld, a_gItem, a_gIx, a_gKey, a_rNil, a_rCons, a_mApp, a_mExt, a_mPop, a_mPopAt, a_wSeq, a_wRng1, a_wRng2, a_wZip, a_wEnum, a_sFor, a_tYesD, a_mRg1, a_mRg2, runF, endD, retD, outsD, List.map_cons, List.map_nil, List.length_cons, List.length_nil, List.replicate_succ, List.replicate_zero, List.replicate, List.cons_append, List.nil_append, cont, getD, freeze, freezeS, conts, svsD, slotsD, backD, noDup0, noDup1, slotsD, keepR, setAll, List.getElem?_cons_zero, List.getElem?_cons_succ, List.set_cons_zero, List.set_cons_succ, ri, rb, if_true, reduceCtorEq, isL, isDic, Bool.not_true, Bool.not_false, a_mCchV, a_mMethK, a_mDNewI, a_mGet1, a_mGet2, a_mTg1, a_mDisp1, a_gItemB, a_gKeyK, dIxA_lst, dIxA_tup, dIxA_dicN, dIxA_dicK, dInB_lst, dInB_tup, dInB_dicN, dInB_dicK, dNotInB_lst, dNotInB_tup, dNotInB_dicN, dNotInB_dicK, isDicK, h4]
theorem in_there (x y : Nat) (L : List (Nat × Nat)) : dInB (eP (x, y)) (eThere L) = some (.imm (.bl (decide ((x, y) ∈ L)))) := by
  show (match nkey (eP (x, y)) with | some k => rb (keyAt k (L.map fun p => (eP p, .bl true))).isSome | none => none) = _
  rw [nkey_eP]
  dsimp only
  have e : (L.map fun p => (eP p, D.bl true)) = (L.map fun p => (p, true)).map fun q => (eP q.1, D.bl q.2) := by rw [List.map_map]; rfl
  rw [e, keyAt_as nkey_eP kP_inj (fun b => D.bl b), aGet_map (fun _ => true)]
  by_cases h : (x, y) ∈ L <;> simp [h, rb]
theorem min_nI (a b : Nat) : dMin2 [nI a, nI b] = some (.imm (nI (min a b))) := by
  show some (R.imm (.int _)) = _
  congr 3
  omega
theorem max_nI (a b : Nat) : dMax2 [nI a, nI b] = some (.imm (nI (max a b))) := by
  show some (R.imm (.int _)) = _
  congr 3
  omega
/-- a line between a and b -/
def adj (L : List (Nat × Nat)) (a b : Nat) : Bool := decide ((min a b, max a b) ∈ L)
theorem e_has_line {n : Nat} {L : List (Nat × Nat)} (h : okL n L) (a b : Nat) : m_has_line [.imm (eWeb n L), .imm (nI a), .imm (nI b)] = some (.imm (.bl (adj L a b)), [.imm (eWeb n L), .imm (nI a), .imm (nI b)]) := by
  have h1 := e_there h
  have h2 := in_there (min a b) (max a b) L
  have h2 : dInB (.tup [nI (min a b), nI (max a b)]) (eThere L) = _ := h2
  have h3 : insK 0 (eWeb n L) = true := rfl
  simp only [s_has_line_0, b_has_line, m_has_line, a_mVar, a_mC, a_mBin, a_mUn, a_mT, a_mAndT, a_mOrT, a_mNotT, a_mAndV, a_mOrV, a_mNotV, a_mIfE, a_mChain, a_mTup, a_mLst, a_aNil, a_aCons, a_lNil, a_lCons, a_mB, a_mCall, a_cNil, a_cVal, a_cIo, a_mIsi, a_mFld, a_mMake, a_mCch, a_mDNew, a_mSl, a_oNone, a_oSome, a_sNx, a_sSeq, a_sRet, a_sRetN, a_sIf, a_sSet, a_sAsg, a_sPar, a_sDrop, a_sBk, a_sCt, a_gN, a_gsN, a_gsC, a_gT, a_gFld, a_gItem, a_gIx, a_gKey, a_rNil, a_rCons, a_mApp, a_mExt, a_mPop, a_mPopAt, a_wSeq, a_wRng1, a_wRng2, a_wZip, a_wEnum, a_sFor, a_tYesD, a_mRg1, a_mRg2, runF, endD, retD, outsD, List.map_cons, List.map_nil, List.length_cons, List.length_nil, List.replicate_succ, List.replicate_zero, List.replicate, List.cons_append, List.nil_append, cont, getD, freeze, freezeS, conts, svsD, slotsD, backD, noDup0, noDup1, slotsD, keepR, setAll, List.getElem?_cons_zero, List.getElem?_cons_succ, List.set_cons_zero, List.set_cons_succ, ri, rb, if_true, reduceCtorEq, isL, isDic, Bool.not_true, Bool.not_false, a_mCchV, a_mMethK, a_mDNewI, a_mGet1, a_mGet2, a_mTg1, a_mDisp1, a_gItemB, a_gKeyK, dIxA_lst, dIxA_tup, dIxA_dicN, dIxA_dicK, dInB_lst, dInB_tup, dInB_dicN, dInB_dicK, dNotInB_lst, dNotInB_tup, dNotInB_dicN, dNotInB_dicK, isDicK, min_nI, max_nI, h1, h3, h2, adj]
/-- the near corners -/
def near (n : Nat) (L : List (Nat × Nat)) (a : Nat) : List Nat := (List.range n).filter (adj L a)
theorem e_near {n : Nat} {L : List (Nat × Nat)} (h : okL n L) (hn : n ≤ 1000) (a : Nat) : m_near_of [.imm (eWeb n L), .imm (nI a)] = some (.own (.lst ((near n L a).map nI)), [.imm (eWeb n L), .imm (nI a)]) := by
  have hs : smallI (n : Int) := by unfold smallI; omega
  have h1 : c_near_of_0 [some (.imm (eWeb n L)), some (.imm (nI a)), none] = some (.own (.lst ((near n L a).map nI)), [some (.imm (eWeb n L)), some (.imm (nI a)), none]) := by
    refine mLc_map (enc := nI) (xs := List.range n) (adj L a) nI ?_ fun b hb => ?_
    · have e := intsD_range n
      simp only [a_mVar, a_mC, a_mBin, a_mUn, a_mT, a_mAndT, a_mOrT, a_mNotT, a_mAndV, a_mOrV, a_mNotV, a_mIfE, a_mChain, a_mTup, a_mLst, a_aNil, a_aCons, a_lNil, a_lCons, a_mB, a_mCall, a_cNil, a_cVal, a_cIo, a_mIsi, a_mFld, a_mMake, a_mCch, a_mDNew, a_mSl, a_oNone, a_oSome, a_sNx, a_sSeq, a_sRet, a_sRetN, a_sIf, a_sSet, a_sAsg, a_sPar, a_sDrop, a_sBk, a_sCt, a_gN, a_gsN, a_gsC, a_gT, a_gFld, a_gItem, a_gIx, a_gKey, a_rNil, a_rCons, a_mApp, a_mExt, a_mPop, a_mPopAt, a_wSeq, a_wRng1, a_wRng2, a_wZip, a_wEnum, a_sFor, a_tYesD, a_mRg1, a_mRg2, runF, endD, retD, outsD, List.map_cons, List.map_nil, List.length_cons, List.length_nil, List.replicate_succ, List.replicate_zero, List.replicate, List.cons_append, List.nil_append, cont, getD, freeze, freezeS, conts, svsD, slotsD, backD, noDup0, noDup1, slotsD, keepR, setAll, List.getElem?_cons_zero, List.getElem?_cons_succ, List.set_cons_zero, List.set_cons_succ, ri, rb, if_true, reduceCtorEq, isL, isDic, Bool.not_true, Bool.not_false, a_mCchV, a_mMethK, a_mDNewI, a_mGet1, a_mGet2, a_mTg1, a_mDisp1, a_gItemB, a_gKeyK, dIxA_lst, dIxA_tup, dIxA_dicN, dIxA_dicK, dInB_lst, dInB_tup, dInB_dicN, dInB_dicK, dNotInB_lst, dNotInB_tup, dNotInB_dicN, dNotInB_dicK, isDicK, eWeb, hs, Int.toNat_natCast, e]
      try rfl
    · refine ⟨[some (.imm (eWeb n L)), some (.imm (nI a)), some (.imm (nI b))], rfl, rfl, ?_, fun _ => ⟨.imm (nI b), rfl, rfl⟩⟩
      simp only [a_mVar, a_mC, a_mBin, a_mUn, a_mT, a_mAndT, a_mOrT, a_mNotT, a_mAndV, a_mOrV, a_mNotV, a_mIfE, a_mChain, a_mTup, a_mLst, a_aNil, a_aCons, a_lNil, a_lCons, a_mB, a_mCall, a_cNil, a_cVal, a_cIo, a_mIsi, a_mFld, a_mMake, a_mCch, a_mDNew, a_mSl, a_oNone, a_oSome, a_sNx, a_sSeq, a_sRet, a_sRetN, a_sIf, a_sSet, a_sAsg, a_sPar, a_sDrop, a_sBk, a_sCt, a_gN, a_gsN, a_gsC, a_gT, a_gFld, a_gItem, a_gIx, a_gKey, a_rNil, a_rCons, a_mApp, a_mExt, a_mPop, a_mPopAt, a_wSeq, a_wRng1, a_wRng2, a_wZip, a_wEnum, a_sFor, a_tYesD, a_mRg1, a_mRg2, runF, endD, retD, outsD, List.map_cons, List.map_nil, List.length_cons, List.length_nil, List.replicate_succ, List.replicate_zero, List.replicate, List.cons_append, List.nil_append, cont, getD, freeze, freezeS, conts, svsD, slotsD, backD, noDup0, noDup1, slotsD, keepR, setAll, List.getElem?_cons_zero, List.getElem?_cons_succ, List.set_cons_zero, List.set_cons_succ, ri, rb, if_true, reduceCtorEq, isL, isDic, Bool.not_true, Bool.not_false, a_mCchV, a_mMethK, a_mDNewI, a_mGet1, a_mGet2, a_mTg1, a_mDisp1, a_gItemB, a_gKeyK, dIxA_lst, dIxA_tup, dIxA_dicN, dIxA_dicK, dInB_lst, dInB_tup, dInB_dicN, dInB_dicK, dNotInB_lst, dNotInB_tup, dNotInB_dicN, dNotInB_dicK, isDicK, e_has_line h]
  simp only [s_near_of_0, b_near_of, m_near_of, a_mVar, a_mC, a_mBin, a_mUn, a_mT, a_mAndT, a_mOrT, a_mNotT, a_mAndV, a_mOrV, a_mNotV, a_mIfE, a_mChain, a_mTup, a_mLst, a_aNil, a_aCons, a_lNil, a_lCons, a_mB, a_mCall, a_cNil, a_cVal, a_cIo, a_mIsi, a_mFld, a_mMake, a_mCch, a_mDNew, a_mSl, a_oNone, a_oSome, a_sNx, a_sSeq, a_sRet, a_sRetN, a_sIf, a_sSet, a_sAsg, a_sPar, a_sDrop, a_sBk, a_sCt, a_gN, a_gsN, a_gsC, a_gT, a_gFld, a_gItem, a_gIx, a_gKey, a_rNil, a_rCons, a_mApp, a_mExt, a_mPop, a_mPopAt, a_wSeq, a_wRng1, a_wRng2, a_wZip, a_wEnum, a_sFor, a_tYesD, a_mRg1, a_mRg2, runF, endD, retD, outsD, List.map_cons, List.map_nil, List.length_cons, List.length_nil, List.replicate_succ, List.replicate_zero, List.replicate, List.cons_append, List.nil_append, cont, getD, freeze, freezeS, conts, svsD, slotsD, backD, noDup0, noDup1, slotsD, keepR, setAll, List.getElem?_cons_zero, List.getElem?_cons_succ, List.set_cons_zero, List.set_cons_succ, ri, rb, if_true, reduceCtorEq, isL, isDic, Bool.not_true, Bool.not_false, a_mCchV, a_mMethK, a_mDNewI, a_mGet1, a_mGet2, a_mTg1, a_mDisp1, a_gItemB, a_gKeyK, dIxA_lst, dIxA_tup, dIxA_dicN, dIxA_dicK, dInB_lst, dInB_tup, dInB_dicN, dInB_dicK, dNotInB_lst, dNotInB_tup, dNotInB_dicN, dNotInB_dicK, isDicK, h1]
theorem near_lt {n : Nat} {L : List (Nat × Nat)} {a b : Nat} (h : b ∈ near n L a) : b < n := List.mem_range.mp (List.mem_filter.mp h).1
theorem adj_lt {n : Nat} {L : List (Nat × Nat)} (h : okL n L) {a b : Nat} (e : adj L a b = true) : a < n ∧ b < n ∧ a ≠ b := by
  unfold adj at e
  obtain ⟨h1, h2⟩ := h.1 _ (of_decide_eq_true e)
  simp only at h1 h2
  omega
theorem adj_comm (L : List (Nat × Nat)) (a b : Nat) : adj L a b = adj L b a := by
  unfold adj
  rw [Nat.min_comm, Nat.max_comm]
end LW

/-! Layer T: what a def's data-level function computes, told by typed Lean values. Slots by what is known of them (Sp), rules for each combinator. -/
namespace TL
open PySem PySem.Spec PyProof.Rows L2 LD

/-- what is known of a slot -/
inductive Sp where
  | any | imm (d : D) | val (d : D) | own (d : D) | lent (d : D)
def SpOk : Sp → Option SV → Prop
  | .any, _ => True
  | .imm d, s => s = some (.imm d)
  | .val d, s => s = some (.imm d) ∨ s = some (.rt true d)
  | .own d, s => s = some (.rt true d)
  | .lent d, s => s = some (.rt false d)
inductive Sl : List Sp → DSt → Prop
  | nil : Sl [] []
  | cons {p : Sp} {s : Option SV} {ps : List Sp} {st : DSt} : SpOk p s → Sl ps st → Sl (p :: ps) (s :: st)
section
variable {ps qs : List Sp} {st : DSt}
theorem Sl.at (h : Sl ps st) : ∀ {i : Nat} {p : Sp}, ps[i]? = some p → ∃ s, st[i]? = some s ∧ SpOk p s := by
  induction h with
  | nil => intro i p e; simp at e
  | cons a t ih =>
    intro i p e
    cases i with
    | zero => simp at e; subst e; exact ⟨_, rfl, a⟩
    | succ i => exact ih (by simpa using e)
theorem Sl.set {p : Sp} {s : Option SV} (h : Sl ps st) (hp : SpOk p s) : ∀ {i : Nat}, Sl (ps.set i p) (st.set i s) := by
  induction h with
  | nil => intro i; exact .nil
  | cons a t ih =>
    intro i
    cases i with
    | zero => exact .cons hp t
    | succ i => exact .cons a ih
/-- the spec alone is weaker -/
theorem Sl.set1 {p : Sp} (h : Sl ps st) : ∀ {i : Nat}, (∀ s, st[i]? = some s → SpOk p s) → Sl (ps.set i p) st := by
  induction h with
  | nil => intro i _; exact .nil
  | cons a t ih =>
    intro i q
    cases i with
    | zero => exact .cons (q _ rfl) t
    | succ i => exact .cons a (ih fun s e => q s (by simpa using e))
theorem Sl.length (h : Sl ps st) : ps.length = st.length := by
  induction h with
  | nil => rfl
  | cons a t ih => rw [List.length_cons, List.length_cons, ih]

inductive Le1 : Sp → Sp → Prop
  | rf {p : Sp} : Le1 p p
  | an {p : Sp} : Le1 p .any
  | iv {d : D} : Le1 (.imm d) (.val d)
  | ov {d : D} : Le1 (.own d) (.val d)
theorem Le1.ok {p q : Sp} (h : Le1 p q) {s : Option SV} (k : SpOk p s) : SpOk q s := by
  cases h with
  | rf => exact k
  | an => trivial
  | iv => exact .inl k
  | ov => exact .inr k
inductive Les : List Sp → List Sp → Prop
  | nil : Les [] []
  | cons {p q : Sp} {ps qs : List Sp} : Le1 p q → Les ps qs → Les (p :: ps) (q :: qs)
theorem Sl.le (h : Sl ps st) : ∀ {qs : List Sp}, Les ps qs → Sl qs st := by
  induction h with
  | nil => intro qs l; cases l; exact .nil
  | cons a t ih => intro qs l; cases l with
    | cons x y => exact .cons (x.ok a) (ih y)
theorem Les.refl : ∀ (ps : List Sp), Les ps ps
  | [] => .nil
  | _ :: ps => .cons .rf (Les.refl ps)

end
/-- what is known of a result -/
inductive RK where
  | imm (d : D) | own (d : D) | fr (d : D) | var (i : Nat) (d : D)
def RK.d : RK → D
  | .imm d => d
  | .own d => d
  | .fr d => d
  | .var _ d => d
def ROk : RK → R → Prop
  | .imm d, r => r = .imm d
  | .own d, r => r = .own d
  | .fr d, r => r = .imm d ∨ r = .own d
  | .var i d, r => r = .imm d ∨ r = .slot i
def rd (ps : List Sp) (i : Nat) : Option D := match ps[i]? with
  | some (.imm d) => some d
  | some (.val d) => some d
  | some (.own d) => some d
  | some (.lent d) => some d
  | _ => none
def Rdy (ps : List Sp) : RK → Prop
  | .var i d => rd ps i = some d
  | _ => True
section
variable {ps qs : List Sp} {st : DSt} {d : D} {i : Nat}
theorem rd_ok (h : Sl ps st) (e : rd ps i = some d) : getD st i = some d := by
  unfold rd at e
  split at e <;> try (cases e; done)
  all_goals
    rename_i x q
    cases e
    obtain ⟨s, h1, h2⟩ := h.at q
    unfold getD
    rw [h1]
  · rw [show s = _ from h2]
  · rcases h2 with h2 | h2 <;> rw [h2]
  · rw [show s = _ from h2]
  · rw [show s = _ from h2]
theorem cont_ok (h : Sl ps st) {k : RK} {r : R} (q : ROk k r) (y : Rdy ps k) : cont st r = some k.d := by
  cases k with
  | imm d => rw [show r = _ from q]; rfl
  | own d => rw [show r = _ from q]; rfl
  | fr d => rcases q with q | q <;> (rw [q]; rfl)
  | var i d =>
    rcases q with q | q
    · rw [q]; rfl
    · rw [q]; exact rd_ok h y
/-- keeping a result -/
inductive Fz : List Sp → RK → List Sp → Prop
  | imm {ps : List Sp} {d : D} : Fz ps (.imm d) ps
  | own {ps : List Sp} {d : D} : Fz ps (.own d) ps
  | fr {ps : List Sp} {d : D} : Fz ps (.fr d) ps
  | vi {ps : List Sp} {i : Nat} {d : D} : ps[i]? = some (.imm d) → Fz ps (.var i d) ps
  | vv {ps : List Sp} {i : Nat} {d : D} : ps[i]? = some (.val d) → Fz ps (.var i d) ps
  | vo {ps : List Sp} {i : Nat} {d : D} : ps[i]? = some (.own d) → Fz ps (.var i d) (ps.set i (.val d))
theorem set_self {α : Type} : ∀ {l : List α} {i : Nat} {x : α}, l[i]? = some x → l.set i x = l
  | [], i, x, h => rfl
  | y :: l, 0, x, h => by simp at h; subst h; rfl
  | y :: l, i + 1, x, h => by
    rw [List.set_cons_succ, set_self (by simpa using h)]
theorem fz_ok {k : RK} (f : Fz ps k qs) (h : Sl ps st) {r : R} (q : ROk k r) : ∃ st', freeze st r = some (k.d, st') ∧ Sl qs st' := by
  cases f with
  | imm => rw [show r = _ from q]; exact ⟨st, rfl, h⟩
  | own => rw [show r = _ from q]; exact ⟨st, rfl, h⟩
  | fr => rcases q with q | q <;> (rw [q]; exact ⟨st, rfl, h⟩)
  | @vi i d e =>
    rcases q with q | q
    · rw [q]; exact ⟨st, rfl, h⟩
    · rw [q]
      obtain ⟨s, h1, h2⟩ := h.at e
      refine ⟨st, ?_, h⟩
      show freezeS st i = _
      unfold freezeS
      rw [h1, show s = _ from h2]
      rfl
  | @vv i d e =>
    rcases q with q | q
    · rw [q]; exact ⟨st, rfl, h⟩
    · rw [q]
      obtain ⟨s, h1, h2⟩ := h.at e
      rcases h2 with h2 | h2
      · refine ⟨st, ?_, h⟩
        show freezeS st i = _
        unfold freezeS
        rw [h1, h2]
        rfl
      · refine ⟨st.set i (some (.imm d)), ?_, ?_⟩
        · show freezeS st i = _
          unfold freezeS
          rw [h1, h2]
          rfl
        · have := h.set (i := i) (p := .val d) (s := some (.imm d)) (show _ ∨ _ from Or.inl rfl)
          rw [set_self e] at this
          exact this
  | @vo i d e =>
    obtain ⟨s, h1, h2⟩ := h.at e
    have h2 : s = _ := h2
    rcases q with q | q
    · rw [q]
      refine ⟨st, rfl, h.set1 fun s' e' => ?_⟩
      rw [h1] at e'; cases e'
      exact .inr h2
    · rw [q]
      refine ⟨st.set i (some (.imm d)), ?_, h.set (p := .val d) (s := some (.imm d)) (show _ ∨ _ from Or.inl rfl)⟩
      show freezeS st i = _
      unfold freezeS
      rw [h1, h2]
      rfl

end
/-! ### judgements -/
def Ev (m : M) (ps : List Sp) (k : RK) (qs : List Sp) : Prop := ∀ st, Sl ps st → ∃ r st', m st = some (r, st') ∧ Sl qs st' ∧ ROk k r
def EvT (c : MT) (ps : List Sp) (b : Bool) (qs : List Sp) : Prop := ∀ st, Sl ps st → ∃ st', c st = some (b, st') ∧ Sl qs st'
def EvA (a : MA) (ps : List Sp) (ds : List D) (qs : List Sp) : Prop := ∀ st, Sl ps st → ∃ st', a st = some (ds, st') ∧ Sl qs st'
inductive ROks : List RK → List R → Prop
  | nil : ROks [] []
  | cons {k : RK} {r : R} {ks : List RK} {rs : List R} : ROk k r → ROks ks rs → ROks (k :: ks) (r :: rs)
def EvL (a : ML) (ps : List Sp) (ks : List RK) (qs : List Sp) : Prop := ∀ st, Sl ps st → ∃ rs st', a st = some (rs, st') ∧ Sl qs st' ∧ ROks ks rs
def EvC (a : MCa) (ps : List Sp) (rs : List R) (qs : List Sp) : Prop := ∀ st, Sl ps st → ∃ st', a st = some (rs, st') ∧ Sl qs st'
inductive SpOks : List Sp → List SV → Prop
  | nil : SpOks [] []
  | cons {w : Sp} {s : SV} {ws : List Sp} {ss : List SV} : SpOk w (some s) → SpOks ws ss → SpOks (w :: ws) (s :: ss)
def EvR (a : MR) (ps : List Sp) (ws : List Sp) (qs : List Sp) : Prop := ∀ st, Sl ps st → ∃ svs st', a st = some (svs, st') ∧ Sl qs st' ∧ SpOks ws svs
def EvO (a : MO) (ps : List Sp) (o : Option Int) (qs : List Sp) : Prop := ∀ st, Sl ps st → ∃ st', a st = some (o, st') ∧ Sl qs st'
def EvI (w : MI) (ps : List Sp) (xs : List D) (qs : List Sp) : Prop := ∀ st, Sl ps st → ∃ st', w st = some (xs, st') ∧ Sl qs st'
def EvG (g : MG) (d : D) (ps qs : List Sp) : Prop := ∀ st, Sl ps st → ∃ st', g d st = some st' ∧ Sl qs st'
def EvGs (g : MGs) (ds : List D) (ps qs : List Sp) : Prop := ∀ st, Sl ps st → ∃ st', g ds st = some st' ∧ Sl qs st'
/-- a def's result -/
def FR (f : FM) (svs : List SV) (k : RK) (os : List SV) : Prop := ∃ r, f svs = some (r, os) ∧ ROk k r
def NoVar : RK → Prop
  | .var _ _ => False
  | _ => True

section
variable {ps ps1 ps2 ps3 ps4 qs : List Sp} {k k1 k2 k3 : RK} {a b c m : M} {d z : D}
theorem Ev.le (h : Ev m ps k qs) {qs' : List Sp} (l : Les qs qs') : Ev m ps k qs' := fun st s => by
  obtain ⟨r, st', h1, h2, h3⟩ := h st s
  exact ⟨r, st', h1, h2.le l, h3⟩
theorem Ev.cast (h : Ev m ps k qs) {k' : RK} (e : k = k') : Ev m ps k' qs := e ▸ h
/-- the same data in another way -/
theorem ev_as (h : Ev m ps (.imm d) qs) (z : D) (e : d = z) : Ev m ps (.imm z) qs := e ▸ h
theorem ev_asO (h : Ev m ps (.own d) qs) (z : D) (e : d = z) : Ev m ps (.own z) qs := e ▸ h
theorem ev_asF (h : Ev m ps (.fr d) qs) (z : D) (e : d = z) : Ev m ps (.fr z) qs := e ▸ h
theorem ev_asV {i : Nat} (h : Ev m ps (.var i d) qs) (z : D) (e : d = z) : Ev m ps (.var i z) qs := e ▸ h
theorem ev_imm {i : Nat} (e : ps[i]? = some (.imm d)) : Ev (mVar i) ps (.imm d) ps := fun st s => by
  obtain ⟨x, h1, h2⟩ := s.at e
  refine ⟨.imm d, st, ?_, s, rfl⟩
  unfold mVar
  rw [h1, show x = _ from h2]
theorem ev_var {i : Nat} (e : rd ps i = some d) : Ev (mVar i) ps (.var i d) ps := fun st s => by
  have h := rd_ok s e
  unfold getD at h
  split at h <;> try (cases h; done)
  · rename_i x q
    cases h
    exact ⟨.imm d, st, by unfold mVar; rw [q], s, .inl rfl⟩
  · rename_i x q
    cases h
    exact ⟨.slot i, st, by unfold mVar; rw [q], s, .inr rfl⟩
theorem ev_c (d : D) : Ev (mC d) ps (.imm d) ps := fun st s => ⟨.imm d, st, rfl, s, rfl⟩
theorem ev_bin0 {f : D → D → Option R} (ha : Ev a ps k1 ps1) (hb : Ev b ps1 k2 qs) (r1 : Rdy qs k1) (r2 : Rdy qs k2) {r : R} (e : f k1.d k2.d = some r) {k : RK} (hr : ROk k r) : Ev (mBin f a b) ps k qs := fun st s => by
  obtain ⟨x, s1, a1, a2, a3⟩ := ha st s
  obtain ⟨y, s2, b1, b2, b3⟩ := hb s1 a2
  refine ⟨r, s2, ?_, b2, hr⟩
  unfold mBin
  rw [a1]
  dsimp only
  rw [b1]
  dsimp only
  rw [cont_ok b2 a3 r1, cont_ok b2 b3 r2]
  dsimp only
  rw [e]
theorem ev_bin {f : D → D → Option R} (ha : Ev a ps k1 ps1) (hb : Ev b ps1 k2 qs) (r1 : Rdy qs k1) (r2 : Rdy qs k2) (e : f k1.d k2.d = some (.imm z)) : Ev (mBin f a b) ps (.imm z) qs := ev_bin0 ha hb r1 r2 e rfl
theorem ev_binO {f : D → D → Option R} (ha : Ev a ps k1 ps1) (hb : Ev b ps1 k2 qs) (r1 : Rdy qs k1) (r2 : Rdy qs k2) (e : f k1.d k2.d = some (.own z)) : Ev (mBin f a b) ps (.own z) qs := ev_bin0 ha hb r1 r2 e rfl
theorem ev_un {f : D → Option R} (ha : Ev a ps k1 qs) (r1 : Rdy qs k1) (e : f k1.d = some (.imm z)) : Ev (mUn f a) ps (.imm z) qs := fun st s => by
  obtain ⟨x, s1, a1, a2, a3⟩ := ha st s
  refine ⟨_, s1, ?_, a2, rfl⟩
  unfold mUn
  rw [a1]
  dsimp only
  rw [cont_ok a2 a3 r1]
  dsimp only
  rw [e]
/-! tests -/
variable {x y u : Bool} {ca cb : MT}
theorem evT_t (h : Ev m ps (.imm (.bl x)) qs) : EvT (mT m) ps x qs := fun st s => by
  obtain ⟨r, s1, h1, h2, h3⟩ := h st s
  refine ⟨s1, ?_, h2⟩
  unfold mT
  rw [h1, show r = _ from h3]
theorem EvT.cast (h : EvT ca ps x qs) (e : x = y) : EvT ca ps y qs := e ▸ h
theorem EvT.le (h : EvT ca ps x qs) {qs' : List Sp} (l : Les qs qs') : EvT ca ps x qs' := fun st s => by
  obtain ⟨st', h1, h2⟩ := h st s
  exact ⟨st', h1, h2.le l⟩
theorem evT_and (ha : EvT ca ps x qs) (hb : EvT cb qs y qs) : EvT (mAndT ca cb) ps (x && y) qs := fun st s => by
  obtain ⟨s1, a1, a2⟩ := ha st s
  cases x with
  | false => exact ⟨s1, by unfold mAndT; rw [a1]; rfl, a2⟩
  | true =>
    obtain ⟨s2, b1, b2⟩ := hb s1 a2
    exact ⟨s2, by unfold mAndT; rw [a1]; exact b1, b2⟩
theorem evT_or (ha : EvT ca ps x qs) (hb : EvT cb qs y qs) : EvT (mOrT ca cb) ps (x || y) qs := fun st s => by
  obtain ⟨s1, a1, a2⟩ := ha st s
  cases x with
  | true => exact ⟨s1, by unfold mOrT; rw [a1]; rfl, a2⟩
  | false =>
    obtain ⟨s2, b1, b2⟩ := hb s1 a2
    exact ⟨s2, by unfold mOrT; rw [a1]; exact b1, b2⟩
/-- .. where the second is looked at only then -/
theorem evT_andO {Y : Option Bool} (h : (bif x then Y else some false) = some u) (ha : EvT ca ps x qs) (hb : ∀ y, Y = some y → EvT cb qs y qs) : EvT (mAndT ca cb) ps u qs := fun st s => by
  obtain ⟨s1, a1, a2⟩ := ha st s
  cases x with
  | false => cases h; exact ⟨s1, by unfold mAndT; rw [a1], a2⟩
  | true =>
    obtain ⟨s2, b1, b2⟩ := hb u h s1 a2
    exact ⟨s2, by unfold mAndT; rw [a1]; exact b1, b2⟩
theorem evT_orO {Y : Option Bool} (h : (bif x then some true else Y) = some u) (ha : EvT ca ps x qs) (hb : ∀ y, Y = some y → EvT cb qs y qs) : EvT (mOrT ca cb) ps u qs := fun st s => by
  obtain ⟨s1, a1, a2⟩ := ha st s
  cases x with
  | true => cases h; exact ⟨s1, by unfold mOrT; rw [a1], a2⟩
  | false =>
    obtain ⟨s2, b1, b2⟩ := hb u h s1 a2
    exact ⟨s2, by unfold mOrT; rw [a1]; exact b1, b2⟩
theorem evT_not (ha : EvT ca ps x qs) : EvT (mNotT ca) ps (!x) qs := fun st s => by
  obtain ⟨s1, a1, a2⟩ := ha st s
  exact ⟨s1, by unfold mNotT; rw [a1], a2⟩
theorem evT_yes : EvT tYesD ps true ps := fun st s => ⟨st, rfl, s⟩
/-! flags -/
theorem ev_and (ha : Ev a ps (.imm (.bl x)) qs) (hb : Ev b qs (.imm (.bl y)) qs) : Ev (mAndV a b) ps (.imm (.bl (x && y))) qs := fun st s => by
  obtain ⟨r, s1, a1, a2, a3⟩ := ha st s
  cases show r = _ from a3
  cases x with
  | false => exact ⟨_, s1, by unfold mAndV; rw [a1]; rfl, a2, rfl⟩
  | true =>
    obtain ⟨r2, s2, b1, b2, b3⟩ := hb s1 a2
    exact ⟨r2, s2, by unfold mAndV; rw [a1]; exact b1, b2, b3⟩
theorem ev_or (ha : Ev a ps (.imm (.bl x)) qs) (hb : Ev b qs (.imm (.bl y)) qs) : Ev (mOrV a b) ps (.imm (.bl (x || y))) qs := fun st s => by
  obtain ⟨r, s1, a1, a2, a3⟩ := ha st s
  cases show r = _ from a3
  cases x with
  | true => exact ⟨_, s1, by unfold mOrV; rw [a1]; rfl, a2, rfl⟩
  | false =>
    obtain ⟨r2, s2, b1, b2, b3⟩ := hb s1 a2
    exact ⟨r2, s2, by unfold mOrV; rw [a1]; exact b1, b2, b3⟩
theorem ev_andO {Y : Option Bool} (h : (bif x then Y else some false) = some u) (ha : Ev a ps (.imm (.bl x)) qs) (hb : ∀ y, Y = some y → Ev b qs (.imm (.bl y)) qs) : Ev (mAndV a b) ps (.imm (.bl u)) qs := fun st s => by
  obtain ⟨r, s1, a1, a2, a3⟩ := ha st s
  cases show r = _ from a3
  cases x with
  | false => cases h; exact ⟨_, s1, by unfold mAndV; rw [a1], a2, rfl⟩
  | true =>
    obtain ⟨r2, s2, b1, b2, b3⟩ := hb u h s1 a2
    exact ⟨r2, s2, by unfold mAndV; rw [a1]; exact b1, b2, b3⟩
theorem ev_orO {Y : Option Bool} (h : (bif x then some true else Y) = some u) (ha : Ev a ps (.imm (.bl x)) qs) (hb : ∀ y, Y = some y → Ev b qs (.imm (.bl y)) qs) : Ev (mOrV a b) ps (.imm (.bl u)) qs := fun st s => by
  obtain ⟨r, s1, a1, a2, a3⟩ := ha st s
  cases show r = _ from a3
  cases x with
  | true => cases h; exact ⟨_, s1, by unfold mOrV; rw [a1], a2, rfl⟩
  | false =>
    obtain ⟨r2, s2, b1, b2, b3⟩ := hb u h s1 a2
    exact ⟨r2, s2, by unfold mOrV; rw [a1]; exact b1, b2, b3⟩
theorem ev_not (ha : Ev a ps (.imm (.bl x)) qs) : Ev (mNotV a) ps (.imm (.bl (!x))) qs := fun st s => by
  obtain ⟨r, s1, a1, a2, a3⟩ := ha st s
  cases show r = _ from a3
  exact ⟨_, s1, by unfold mNotV; rw [a1], a2, rfl⟩
/-- a if c else b -/
theorem ev_if {α : Type} (enc : α → D) {v w : α} (hc : EvT ca ps x ps1) (ha : Ev a ps1 (.imm (enc v)) qs) (hb : Ev b ps1 (.imm (enc w)) qs) : Ev (mIfE ca a b) ps (.imm (enc (bif x then v else w))) qs := fun st s => by
  obtain ⟨s1, a1, a2⟩ := hc st s
  cases x with
  | true =>
    obtain ⟨r, s2, b1, b2, b3⟩ := ha s1 a2
    exact ⟨r, s2, by unfold mIfE; rw [a1]; exact b1, b2, b3⟩
  | false =>
    obtain ⟨r, s2, b1, b2, b3⟩ := hb s1 a2
    exact ⟨r, s2, by unfold mIfE; rw [a1]; exact b1, b2, b3⟩
theorem ev_ifO {α : Type} (enc : α → D) {V W : Option α} {t : α} (h : (bif x then V else W) = some t) (hc : EvT ca ps x ps1) (ha : ∀ v, V = some v → Ev a ps1 (.imm (enc v)) qs) (hb : ∀ v, W = some v → Ev b ps1 (.imm (enc v)) qs) : Ev (mIfE ca a b) ps (.imm (enc t)) qs := fun st s => by
  obtain ⟨s1, a1, a2⟩ := hc st s
  cases x with
  | true =>
    obtain ⟨r, s2, b1, b2, b3⟩ := ha t h s1 a2
    exact ⟨r, s2, by unfold mIfE; rw [a1]; exact b1, b2, b3⟩
  | false =>
    obtain ⟨r, s2, b1, b2, b3⟩ := hb t h s1 a2
    exact ⟨r, s2, by unfold mIfE; rw [a1]; exact b1, b2, b3⟩
/-- a value of which is only asked that it can be kept -/
def EvF (m : M) (ps : List Sp) (d : D) (qs : List Sp) : Prop := ∀ st, Sl ps st → ∃ r st' st'', m st = some (r, st') ∧ freeze st' r = some (d, st'') ∧ Sl qs st' ∧ Sl qs st''
theorem evF_of (h : Ev m ps k ps1) (f : Fz ps1 k qs) (l : Les ps1 qs) : EvF m ps k.d qs := fun st s => by
  obtain ⟨r, st', h1, h2, h3⟩ := h st s
  obtain ⟨st'', h4, h5⟩ := fz_ok f h2 h3
  exact ⟨r, st', st'', h1, h4, h2.le l, h5⟩
theorem EvF.cast (h : EvF m ps d qs) {d' : D} (e : d = d') : EvF m ps d' qs := e ▸ h
theorem evF_if {α : Type} (enc : α → D) {v w : α} (hc : EvT ca ps x ps1) (ha : EvF a ps1 (enc v) qs) (hb : EvF b ps1 (enc w) qs) : EvF (mIfE ca a b) ps (enc (bif x then v else w)) qs := fun st s => by
  obtain ⟨s1, a1, a2⟩ := hc st s
  cases x with
  | true =>
    obtain ⟨r, s2, s3, b1, b2⟩ := ha s1 a2
    exact ⟨r, s2, s3, by unfold mIfE; rw [a1]; exact b1, b2⟩
  | false =>
    obtain ⟨r, s2, s3, b1, b2⟩ := hb s1 a2
    exact ⟨r, s2, s3, by unfold mIfE; rw [a1]; exact b1, b2⟩
theorem evF_ifO {α : Type} (enc : α → D) {V W : Option α} {t : α} (h : (bif x then V else W) = some t) (hc : EvT ca ps x ps1) (ha : ∀ v, V = some v → EvF a ps1 (enc v) qs) (hb : ∀ v, W = some v → EvF b ps1 (enc v) qs) : EvF (mIfE ca a b) ps (enc t) qs := fun st s => by
  obtain ⟨s1, a1, a2⟩ := hc st s
  cases x with
  | true =>
    obtain ⟨r, s2, s3, b1, b2⟩ := ha t h s1 a2
    exact ⟨r, s2, s3, by unfold mIfE; rw [a1]; exact b1, b2⟩
  | false =>
    obtain ⟨r, s2, s3, b1, b2⟩ := hb t h s1 a2
    exact ⟨r, s2, s3, by unfold mIfE; rw [a1]; exact b1, b2⟩
/-- a < b < c -/
theorem ev_chain {f g : D → D → Option R} (ha : Ev a ps k1 ps1) (hb : Ev b ps1 k2 ps2) (r1 : Rdy ps2 k1) (r2 : Rdy ps2 k2) (e : f k1.d k2.d = some (.imm (.bl x))) (hc : Ev c ps2 k3 ps2) (r3 : Rdy ps2 k3)
    (e2 : g k2.d k3.d = some (.imm (.bl y))) : Ev (mChain f g a b c) ps (.imm (.bl (x && y))) ps2 := fun st s => by
  obtain ⟨p, s1, a1, a2, a3⟩ := ha st s
  obtain ⟨q, s2, b1, b2, b3⟩ := hb s1 a2
  obtain ⟨t, s3, c1, c2, c3⟩ := hc s2 b2
  cases x with
  | false =>
    refine ⟨_, s2, ?_, b2, rfl⟩
    unfold mChain
    rw [a1]
    dsimp only
    rw [b1]
    dsimp only
    rw [cont_ok b2 a3 r1, cont_ok b2 b3 r2]
    dsimp only
    rw [e]
    rfl
  | true =>
    refine ⟨_, s3, ?_, c2, rfl⟩
    unfold mChain
    rw [a1]
    dsimp only
    rw [b1]
    dsimp only
    rw [cont_ok b2 a3 r1, cont_ok b2 b3 r2]
    dsimp only
    rw [e]
    dsimp only
    rw [c1]
    dsimp only
    rw [cont_ok c2 b3 r2, cont_ok c2 c3 r3]
    dsimp only
    rw [e2]
    rfl
/-! rows of expressions -/
variable {ma mb : MA} {ds : List D}
theorem evA_nil : EvA aNil ps [] ps := fun st s => ⟨st, rfl, s⟩
theorem evA_cons (ha : Ev a ps k ps1) (hf : Fz ps1 k ps2) (hb : EvA mb ps2 ds qs) : EvA (aCons a mb) ps (k.d :: ds) qs := fun st s => by
  obtain ⟨r, s1, a1, a2, a3⟩ := ha st s
  obtain ⟨s2, f1, f2⟩ := fz_ok hf a2 a3
  obtain ⟨s3, b1, b2⟩ := hb s2 f2
  refine ⟨s3, ?_, b2⟩
  unfold aCons
  rw [a1]
  dsimp only
  rw [f1]
  dsimp only
  rw [b1]
theorem ev_tup (h : EvA ma ps ds qs) : Ev (mTup ma) ps (.imm (.tup ds)) qs := fun st s => by
  obtain ⟨s1, h1, h2⟩ := h st s
  exact ⟨_, s1, by unfold mTup; rw [h1], h2, rfl⟩
theorem ev_lst (h : EvA ma ps ds qs) : Ev (mLst ma) ps (.own (.lst ds)) qs := fun st s => by
  obtain ⟨s1, h1, h2⟩ := h st s
  exact ⟨_, s1, by unfold mLst; rw [h1], h2, rfl⟩
variable {la lb : ML} {ks : List RK}
theorem evL_nil : EvL lNil ps [] ps := fun st s => ⟨[], st, rfl, s, .nil⟩
theorem evL_cons (ha : Ev a ps k ps1) (hb : EvL lb ps1 ks qs) : EvL (lCons a lb) ps (k :: ks) qs := fun st s => by
  obtain ⟨r, s1, a1, a2, a3⟩ := ha st s
  obtain ⟨rs, s2, b1, b2, b3⟩ := hb s1 a2
  refine ⟨r :: rs, s2, ?_, b2, .cons a3 b3⟩
  unfold lCons
  rw [a1]
  dsimp only
  rw [b1]
def Rdys (ps : List Sp) : List RK → Prop
  | [] => True
  | k :: ks => Rdy ps k ∧ Rdys ps ks
theorem conts_ok {st : DSt} (h : Sl ps st) {ks : List RK} {rs : List R} (q : ROks ks rs) : Rdys ps ks → conts st rs = some (ks.map RK.d) := by
  induction q with
  | nil => intro _; rfl
  | cons a t ih =>
    intro y
    unfold conts
    rw [cont_ok h a y.1]
    dsimp only
    rw [ih y.2]
    rfl
theorem ev_b0 {f : List D → Option R} (h : EvL la ps ks qs) (y : Rdys qs ks) {r : R} (e : f (ks.map RK.d) = some r) (hr : ROk k r) : Ev (mB f la) ps k qs := fun st s => by
  obtain ⟨rs, s1, h1, h2, h3⟩ := h st s
  refine ⟨_, s1, ?_, h2, hr⟩
  unfold mB
  rw [h1]
  dsimp only
  rw [conts_ok h2 h3 y]
  dsimp only
  rw [e]
theorem ev_b {f : List D → Option R} (h : EvL la ps ks qs) (y : Rdys qs ks) (e : f (ks.map RK.d) = some (.imm z)) : Ev (mB f la) ps (.imm z) qs := ev_b0 h y e rfl
theorem ev_bO {f : List D → Option R} (h : EvL la ps ks qs) (y : Rdys qs ks) (e : f (ks.map RK.d) = some (.own z)) : Ev (mB f la) ps (.own z) qs := ev_b0 h y e rfl
/-- of one -/
theorem ev_b1 {f : List D → Option R} (h : Ev a ps k1 qs) (y : Rdy qs k1) (e : f [k1.d] = some (.imm z)) : Ev (mB f (lCons a lNil)) ps (.imm z) qs := ev_b (evL_cons h evL_nil) ⟨y, trivial⟩ e
theorem ev_b1O {f : List D → Option R} (h : Ev a ps k1 qs) (y : Rdy qs k1) (e : f [k1.d] = some (.own z)) : Ev (mB f (lCons a lNil)) ps (.own z) qs := ev_bO (evL_cons h evL_nil) ⟨y, trivial⟩ e
theorem ev_b2 {f : List D → Option R} (h : Ev a ps k1 ps1) (h2 : Ev b ps1 k2 qs) (y : Rdy qs k1) (y2 : Rdy qs k2) (e : f [k1.d, k2.d] = some (.imm z)) : Ev (mB f (lCons a (lCons b lNil))) ps (.imm z) qs := ev_b (evL_cons h (evL_cons h2 evL_nil)) ⟨y, y2, trivial⟩ e
theorem ev_isi {n : String} (h : Ev a ps k1 qs) (y : Rdy qs k1) (e : isiD n k1.d = some x) : Ev (mIsi n a) ps (.imm (.bl x)) qs := fun st s => by
  obtain ⟨r, s1, h1, h2, h3⟩ := h st s
  refine ⟨_, s1, ?_, h2, rfl⟩
  unfold mIsi
  rw [h1]
  dsimp only
  rw [cont_ok h2 h3 y]
  dsimp only
  rw [e]
theorem ev_fld {kk j : Nat} {fs : List D} (h : Ev a ps k1 qs) (y : Rdy qs k1) (e : k1.d = .ins kk fs) (e2 : fs[j]? = some z) : Ev (mFld kk j a) ps (.imm z) qs := fun st s => by
  obtain ⟨r, s1, h1, h2, h3⟩ := h st s
  refine ⟨_, s1, ?_, h2, rfl⟩
  unfold mFld
  rw [h1]
  dsimp only
  rw [cont_ok h2 h3 y, e]
  dsimp only
  rw [if_pos rfl, e2]
/-! slices -/
theorem evO_none : EvO oNone ps none ps := fun st s => ⟨st, rfl, s⟩
theorem evO_some {j : Int} (h : Ev a ps (.imm (.int j)) qs) : EvO (oSome a) ps (some j) qs := fun st s => by
  obtain ⟨r, s1, h1, h2, h3⟩ := h st s
  exact ⟨s1, by unfold oSome; rw [h1, show r = _ from h3], h2⟩
theorem ev_sl0 {lo hi : MO} {l u : Option Int} (ha : Ev a ps k1 ps1) (hl : EvO lo ps1 l ps2) (hh : EvO hi ps2 u qs) (y : Rdy qs k1) {r : R} (e : dSl k1.d l u = some r) (hr : ROk k r) : Ev (mSl a lo hi) ps k qs := fun st s => by
  obtain ⟨p, s1, a1, a2, a3⟩ := ha st s
  obtain ⟨s2, b1, b2⟩ := hl s1 a2
  obtain ⟨s3, c1, c2⟩ := hh s2 b2
  refine ⟨r, s3, ?_, c2, hr⟩
  unfold mSl
  rw [a1]
  dsimp only
  rw [b1]
  dsimp only
  rw [c1]
  dsimp only
  rw [cont_ok c2 a3 y]
  dsimp only
  rw [e]
/-! calls -/
variable {ca1 cb1 : MCa} {rs : List R}
theorem evC_nil : EvC cNil ps [] ps := fun st s => ⟨st, rfl, s⟩
theorem evC_val (ha : Ev a ps k ps1) (hf : Fz ps1 k ps2) (hb : EvC cb1 ps2 rs qs) : EvC (cVal a cb1) ps (.imm k.d :: rs) qs := fun st s => by
  obtain ⟨r, s1, a1, a2, a3⟩ := ha st s
  obtain ⟨s2, f1, f2⟩ := fz_ok hf a2 a3
  obtain ⟨s3, b1, b2⟩ := hb s2 f2
  refine ⟨s3, ?_, b2⟩
  unfold cVal
  rw [a1]
  dsimp only
  rw [f1]
  dsimp only
  rw [b1]
def isRt (ps : List Sp) (i : Nat) : Bool := match ps[i]? with
  | some (.own _) => true
  | some (.lent _) => true
  | _ => false
theorem isRt_ok {st : DSt} {i : Nat} (h : Sl ps st) (e : isRt ps i = true) : ∃ kk d, st[i]? = some (some (.rt kk d)) ∧ rd ps i = some d ∧ (∀ d', SpOk (match ps[i]? with | some (.own _) => .own d' | some (.lent _) => .lent d' | _ => .any) (some (.rt kk d'))) := by
  unfold isRt at e
  split at e <;> try (cases e; done)
  · rename_i d q
    obtain ⟨s, h1, h2⟩ := h.at q
    refine ⟨true, d, by rw [h1, show s = _ from h2], by unfold rd; rw [q], fun d' => ?_⟩
    first | rfl | (rw [q]; rfl)
  · rename_i d q
    obtain ⟨s, h1, h2⟩ := h.at q
    refine ⟨false, d, by rw [h1, show s = _ from h2], by unfold rd; rw [q], fun d' => ?_⟩
    first | rfl | (rw [q]; rfl)
theorem evC_io {i : Nat} (e : isRt ps i = true) (hb : EvC cb1 ps rs qs) : EvC (cIo i cb1) ps (.slot i :: rs) qs := fun st s => by
  obtain ⟨kk, d, h1, _⟩ := isRt_ok s e
  obtain ⟨s3, b1, b2⟩ := hb st s
  refine ⟨s3, ?_, b2⟩
  unfold cIo
  rw [h1]
  dsimp only
  rw [b1]
/-- what the callee gets -/
def svsS (ps : List Sp) : List R → Option (List SV)
  | [] => some []
  | .imm d :: rs => match svsS ps rs with
    | some svs => some (.imm d :: svs)
    | none => none
  | .slot i :: rs => if isRt ps i = true then match rd ps i with
    | some d => match svsS ps rs with
      | some svs => some (.rt false d :: svs)
      | none => none
    | none => none
    else none
  | .own _ :: _ => none
theorem svsS_ok {st : DSt} (h : Sl ps st) : ∀ {rs : List R} {svs : List SV}, svsS ps rs = some svs → svsD st rs = some svs
  | [], svs, e => e
  | .imm d :: rs, svs, e => by
    unfold svsS at e
    split at e
    · rename_i s' e'
      cases e
      unfold svsD
      rw [svsS_ok h e']
    · cases e
  | .own _ :: _, svs, e => by cases e
  | .slot i :: rs, svs, e => by
    unfold svsS at e
    split at e
    · rename_i hr
      split at e
      · rename_i d hd
        split at e
        · rename_i s' e'
          cases e
          obtain ⟨kk, d1, h1, h2, _⟩ := isRt_ok h hr
          rw [hd] at h2; cases h2
          unfold svsD
          rw [h1]
          dsimp only
          rw [svsS_ok h e']
        · cases e
      · cases e
    · cases e
def setRt (ps : List Sp) (i : Nat) (d : D) : List Sp := ps.set i (match ps[i]? with | some (.own _) => .own d | some (.lent _) => .lent d | _ => .any)
def backS : List R → List SV → List Sp → Option (List Sp)
  | [], [], ps => some ps
  | .imm _ :: rs, .imm _ :: os, ps => backS rs os ps
  | .slot i :: rs, .rt _ d :: os, ps => if isRt ps i = true then backS rs os (setRt ps i d) else none
  | _, _, _ => none
theorem backS_ok : ∀ {rs : List R} {os : List SV} {ps qs : List Sp} {st : DSt}, Sl ps st → backS rs os ps = some qs → ∃ st', backD rs os st = some st' ∧ Sl qs st'
  | [], [], ps, qs, st, h, e => by cases e; exact ⟨st, rfl, h⟩
  | [], _ :: _, ps, qs, st, h, e => by cases e
  | .imm _ :: rs, .imm _ :: os, ps, qs, st, h, e => backS_ok (rs := rs) (os := os) h e
  | .imm _ :: rs, .rt _ _ :: os, ps, qs, st, h, e => by cases e
  | .imm _ :: rs, [], ps, qs, st, h, e => by cases e
  | .own _ :: rs, os, ps, qs, st, h, e => by cases os <;> cases e
  | .slot i :: rs, [], ps, qs, st, h, e => by cases e
  | .slot i :: rs, .imm _ :: os, ps, qs, st, h, e => by cases e
  | .slot i :: rs, .rt kk d :: os, ps, qs, st, h, e => by
    unfold backS at e
    split at e
    · rename_i hr
      obtain ⟨k', d1, h1, _, h3⟩ := isRt_ok h hr
      have h4 : Sl (setRt ps i d) (st.set i (some (.rt k' d))) := h.set (h3 d)
      obtain ⟨st', b1, b2⟩ := backS_ok (rs := rs) (os := os) h4 e
      refine ⟨st', ?_, b2⟩
      unfold backD
      rw [h1]
      exact b1
    · cases e
theorem ev_call {f : FM} {svs os : List SV} {ps1 : List Sp} (ha : EvC ca1 ps rs ps1) (h1 : svsS ps1 rs = some svs) (h2 : noDup (slotsD rs) = true) (h3 : FR f svs k os) (h4 : backS rs os ps1 = some qs) (nv : NoVar k) : Ev (mCall f ca1) ps k qs := fun st s => by
  obtain ⟨s1, a1, a2⟩ := ha st s
  obtain ⟨r, f1, f2⟩ := h3
  obtain ⟨s2, b1, b2⟩ := backS_ok a2 h4
  refine ⟨r, s2, ?_, b2, f2⟩
  unfold mCall
  rw [a1]
  dsimp only
  rw [svsS_ok a2 h1]
  dsimp only
  rw [if_pos h2, f1]
  dsimp only
  cases k with
  | var i d => exact nv.elim
  | imm d => rw [show r = _ from f2]; dsimp only; rw [b1]
  | own d => rw [show r = _ from f2]; dsimp only; rw [b1]
  | fr d => rcases f2 with f2 | f2 <;> (rw [f2]; dsimp only; rw [b1])
theorem ev_make {kk : Nat} {f : FM} {svs os : List SV} {fs : List D} {z : D} (ha : EvC ca1 ps rs qs) (h1 : svsS qs rs = some svs) (h2 : slotsD rs = []) (h3 : f (.rt false (.ins kk []) :: svs) = some (.imm .non, .rt false (.ins kk fs) :: os)) (e : .ins kk fs = z) : Ev (mMake kk f ca1) ps (.own z) qs := fun st s => by
  obtain ⟨s1, a1, a2⟩ := ha st s
  refine ⟨_, s1, ?_, a2, rfl⟩
  unfold mMake
  rw [a1]
  dsimp only
  rw [svsS_ok a2 h1]
  dsimp only
  rw [if_pos h2, h3]
  dsimp only
  rw [if_pos rfl, e]
theorem ev_meth0 {kk : Nat} {f : FM} {os : List SV} (ha : Ev a ps k1 ps1) (hf : Fz ps1 k1 qs) (hi : insK kk k1.d = true) (h3 : FR f [.imm k1.d] k os) (nv : NoVar k) : Ev (mMethK kk f a) ps k qs := fun st s => by
  obtain ⟨p, s1, a1, a2, a3⟩ := ha st s
  obtain ⟨s2, f1, f2⟩ := fz_ok hf a2 a3
  obtain ⟨r, g1, g2⟩ := h3
  refine ⟨r, s2, ?_, f2, g2⟩
  unfold mMethK
  rw [a1]
  dsimp only
  rw [f1]
  dsimp only
  rw [if_pos hi, g1]
  cases k with
  | var i d => exact nv.elim
  | imm d => rw [show r = _ from g2]
  | own d => rw [show r = _ from g2]
  | fr d => rcases g2 with g2 | g2 <;> rw [g2]
/-! lists that change -/
theorem setRt_ok {st : DSt} {i : Nat} (h : Sl ps st) (e : isRt ps i = true) : ∃ kk d, rd ps i = some d ∧ st[i]? = some (some (.rt kk d)) ∧ ∀ d', Sl (setRt ps i d') (st.set i (some (.rt kk d'))) := by
  obtain ⟨kk, d, h1, h2, h3⟩ := isRt_ok h e
  exact ⟨kk, d, h2, h1, fun d' => h.set (h3 d')⟩
theorem isL_ok {st : DSt} {i : Nat} {xs : List D} (h : Sl ps st) (e : isRt ps i = true) (e2 : rd ps i = some (.lst xs)) : isL st i = true := by
  obtain ⟨kk, d, h2, h1, _⟩ := setRt_ok h e
  rw [e2] at h2; cases h2
  unfold isL
  rw [h1]
theorem ev_app {i : Nat} {xs : List D} (e0 : isRt ps i = true) (e1 : rd ps i = some (.lst xs)) (ha : Ev a ps k ps1) (hf : Fz ps1 k ps2) (e2 : isRt ps2 i = true) (e3 : rd ps2 i = some (.lst xs)) (hz : xs.length < sizeLine) :
    Ev (mApp i a) ps (.imm .non) (setRt ps2 i (.lst (xs ++ [k.d]))) := fun st s => by
  obtain ⟨r, s1, a1, a2, a3⟩ := ha st s
  obtain ⟨s2, f1, f2⟩ := fz_ok hf a2 a3
  obtain ⟨kk, d, h2, h1, h3⟩ := setRt_ok f2 e2
  rw [e3] at h2; cases h2
  refine ⟨_, _, ?_, h3 _, rfl⟩
  unfold mApp
  rw [if_pos (isL_ok s e0 e1), a1]
  dsimp only
  rw [f1]
  dsimp only
  rw [h1]
  dsimp only
  rw [if_pos hz]
theorem ev_ext {i : Nat} {xs ys : List D} (e0 : isRt ps i = true) (e1 : rd ps i = some (.lst xs)) (ha : Ev a ps k ps1) (y : Rdy ps1 k) (ek : k.d = .lst ys) (e2 : isRt ps1 i = true) (e3 : rd ps1 i = some (.lst xs)) (hz : xs.length + ys.length ≤ sizeLine) :
    Ev (mExt i a) ps (.imm .non) (setRt ps1 i (.lst (xs ++ ys))) := fun st s => by
  obtain ⟨r, s1, a1, a2, a3⟩ := ha st s
  obtain ⟨kk, d, h2, h1, h3⟩ := setRt_ok a2 e2
  rw [e3] at h2; cases h2
  refine ⟨_, _, ?_, h3 _, rfl⟩
  unfold mExt
  rw [if_pos (isL_ok s e0 e1), a1]
  dsimp only
  rw [cont_ok a2 a3 y, ek]
  dsimp only
  rw [h1]
  dsimp only
  rw [if_pos hz]
theorem ev_pop {i : Nat} {xs : List D} (e0 : isRt ps i = true) (e1 : rd ps i = some (.lst xs)) (hx : xs[xs.length - 1]? = some z) : Ev (mPop i) ps (.imm z) (setRt ps i (.lst xs.dropLast)) := fun st s => by
  obtain ⟨kk, d, h2, h1, h3⟩ := setRt_ok s e0
  rw [e1] at h2; cases h2
  refine ⟨_, _, ?_, h3 _, rfl⟩
  unfold mPop
  rw [h1]
  dsimp only
  rw [hx]
theorem ev_popAt {i : Nat} {xs : List D} {j : Int} {n : Nat} (e0 : isRt ps i = true) (e1 : rd ps i = some (.lst xs)) (ha : Ev a ps (.imm (.int j)) ps1) (e2 : isRt ps1 i = true) (e3 : rd ps1 i = some (.lst xs)) (hj : -(2 ^ 63) ≤ j ∧ j < 2 ^ 63) (hn : ixN xs.length j = some n) (hx : xs[n]? = some z) :
    Ev (mPopAt i a) ps (.imm z) (setRt ps1 i (.lst (xs.eraseIdx n))) := fun st s => by
  obtain ⟨r, s1, a1, a2, a3⟩ := ha st s
  obtain ⟨kk, d, h2, h1, h3⟩ := setRt_ok a2 e2
  rw [e3] at h2; cases h2
  refine ⟨_, _, ?_, h3 _, rfl⟩
  unfold mPopAt
  rw [if_pos (isL_ok s e0 e1), a1, show r = _ from a3]
  dsimp only
  rw [h1]
  dsimp only
  rw [if_pos hj, hn]
  dsimp only
  rw [hx]
/-! ranges, dicts -/
theorem ev_rg1 {j : Int} (ha : Ev a ps (.imm (.int j)) qs) (hs : smallI j) : Ev (mRg1 a) ps (.own (.lst (intsD 0 j.toNat))) qs := fun st s => by
  obtain ⟨r, s1, a1, a2, a3⟩ := ha st s
  refine ⟨_, s1, ?_, a2, rfl⟩
  unfold mRg1
  rw [a1, show r = _ from a3]
  dsimp only
  rw [if_pos hs]
theorem ev_tg1 {j : Int} (ha : Ev a ps (.imm (.int j)) qs) (hs : smallI j) : Ev (mTg1 a) ps (.imm (.tup (intsD 0 j.toNat))) qs := fun st s => by
  obtain ⟨r, s1, a1, a2, a3⟩ := ha st s
  refine ⟨_, s1, ?_, a2, rfl⟩
  unfold mTg1
  rw [a1, show r = _ from a3]
  dsimp only
  rw [if_pos hs]
theorem ev_rg2 {i j : Int} (ha : Ev a ps (.imm (.int i)) ps1) (hb : Ev b ps1 (.imm (.int j)) qs) (hs : smallI i ∧ smallI j ∧ j - i ≤ 16777216) : Ev (mRg2 a b) ps (.own (.lst (intsD i (j - i).toNat))) qs := fun st s => by
  obtain ⟨r, s1, a1, a2, a3⟩ := ha st s
  obtain ⟨r2, s2, b1, b2, b3⟩ := hb s1 a2
  refine ⟨_, s2, ?_, b2, rfl⟩
  unfold mRg2
  rw [a1, show r = _ from a3]
  dsimp only
  rw [b1, show r2 = _ from b3]
  dsimp only
  rw [if_pos hs]
theorem ev_dnew : Ev mDNew ps (.own (.dic true [])) ps := fun st s => ⟨_, st, rfl, s, rfl⟩
theorem ev_dnewI : Ev mDNewI ps (.own (.dic false [])) ps := fun st s => ⟨_, st, rfl, s, rfl⟩
theorem ev_disp1 {dk dv : D} {key : Key} (ha : Ev a ps (.imm dk) ps1) (hb : Ev b ps1 (.imm dv) qs) (hk : keyK dk = some key) : Ev (mDisp1 a b) ps (.own (.dic false [(keyD key, dv)])) qs := fun st s => by
  obtain ⟨r, s1, a1, a2, a3⟩ := ha st s
  obtain ⟨r2, s2, b1, b2, b3⟩ := hb s1 a2
  refine ⟨_, s2, ?_, b2, rfl⟩
  unfold mDisp1
  rw [a1, show r = _ from a3]
  dsimp only
  rw [b1, show r2 = _ from b3]
  dsimp only
  rw [hk]
theorem ev_get1 {dk : D} {key : Key} {dps : List (D × D)} (ha : Ev a ps k1 ps1) (y : Rdy ps1 k1) (e1 : k1.d = .dic false dps) (hb : Ev b ps1 (.imm dk) qs) (y2 : Rdy qs k1) (hk : keyK dk = some key) (e : (keyAtK key dps).getD .non = z) : Ev (mGet1 a b) ps (.imm z) qs := fun st s => by
  obtain ⟨r, s1, a1, a2, a3⟩ := ha st s
  obtain ⟨r2, s2, b1, b2, b3⟩ := hb s1 a2
  refine ⟨_, s2, ?_, b2, rfl⟩
  unfold mGet1
  rw [a1]
  dsimp only
  rw [cont_ok a2 a3 y, e1]
  dsimp only
  rw [b1, show r2 = _ from b3]
  dsimp only
  rw [cont_ok b2 a3 y2, e1]
  dsimp only
  rw [hk]
  dsimp only
  rw [e]
theorem ev_get2 {dk dx : D} {key : Key} {dps : List (D × D)} (ha : Ev a ps k1 ps1) (y : Rdy ps1 k1) (e1 : k1.d = .dic false dps) (hb : Ev b ps1 (.imm dk) ps2) (hc : Ev c ps2 (.imm dx) qs) (y2 : Rdy qs k1) (hk : keyK dk = some key) (e : (keyAtK key dps).getD dx = z) : Ev (mGet2 a b c) ps (.imm z) qs := fun st s => by
  obtain ⟨r, s1, a1, a2, a3⟩ := ha st s
  obtain ⟨r2, s2, b1, b2, b3⟩ := hb s1 a2
  obtain ⟨r3, s3, c1, c2, c3⟩ := hc s2 b2
  refine ⟨_, s3, ?_, c2, rfl⟩
  unfold mGet2
  rw [a1]
  dsimp only
  rw [cont_ok a2 a3 y, e1]
  dsimp only
  rw [b1, show r2 = _ from b3]
  dsimp only
  rw [c1, show r3 = _ from c3]
  dsimp only
  rw [cont_ok c2 a3 y2, e1]
  dsimp only
  rw [hk]
  dsimp only
  rw [e]
end
end TL

/-! Layer T: targets, loops, comprehensions, statements, defs. -/
namespace TL
open PySem PySem.Spec PyProof.Rows L2 LD

/-! ### typed words -/
inductive Res (σ ρ : Type) where
  | go (s : σ) | ret (v : ρ)
/-- a name for a value -/
def lett {α β : Type} (a : α) (f : α → β) : β := f a
def mapO {α β : Type} (f : α → Option β) : List α → Option (List β)
  | [] => some []
  | x :: xs => (f x).bind fun y => (mapO f xs).bind fun ys => some (y :: ys)
def compO {α β : Type} (c : α → Option Bool) (f : α → Option β) : List α → Option (List β)
  | [] => some []
  | x :: xs => (c x).bind fun t => bif t then (f x).bind fun y => (compO c f xs).bind fun ys => some (y :: ys) else compO c f xs
def forO {σ α : Type} (f : σ → α → Option σ) : List α → σ → Option σ
  | [], s => some s
  | x :: xs, s => (f s x).bind (forO f xs)
def forR {σ α ρ : Type} (f : σ → α → Option (Res σ ρ)) : List α → σ → Option (Res σ ρ)
  | [], s => some (.go s)
  | x :: xs, s => (f s x).bind fun r => match r with
    | .go s' => forR f xs s'
    | .ret v => some (.ret v)
def whR {σ ρ : Type} (c : σ → Option Bool) (b : σ → Option (Res σ ρ)) : Nat → σ → Option (Res σ ρ)
  | 0, _ => none
  | n + 1, s => (c s).bind fun t => bif t then (b s).bind fun r => (match r with
    | .go s' => whR c b n s'
    | .ret v => some (.ret v)) else some (.go s)
def whO {σ : Type} (c : σ → Option Bool) (b : σ → Option σ) : Nat → σ → Option σ
  | 0, _ => none
  | n + 1, s => (c s).bind fun t => bif t then (b s).bind (whO c b n) else some s
def thenR {σ ρ τ : Type} (ret : ρ → τ) (a : Option (Res σ ρ)) (k : σ → Option τ) : Option τ := a.bind fun r => match r with
  | .go s => k s
  | .ret v => some (ret v)
section
variable {α β σ ρ τ : Type} {P : Prop}
theorem bndE {a : Option α} {f : α → Option β} {r : β} (h : a.bind f = some r) (k : ∀ x, a = some x → f x = some r → P) : P := by
  cases a with
  | none => cases h
  | some x => exact k x rfl h
theorem thenE {ret : ρ → τ} {a : Option (Res σ ρ)} {f : σ → Option τ} {r : τ} (h : thenR ret a f = some r) (k1 : ∀ s, a = some (.go s) → f s = some r → P) (k2 : ∀ v, a = some (.ret v) → ret v = r → P) : P := by
  unfold thenR at h
  cases a with
  | none => cases h
  | some x =>
    cases x with
    | go s => exact k1 s rfl h
    | ret v => exact k2 v rfl (Option.some.inj h)
theorem bif_t {x : Bool} {u v : α} {z : α} (hx : x = true) (h : (bif x then u else v) = z) : u = z := by subst hx; exact h
theorem bif_f {x : Bool} {u v : α} {z : α} (hx : x = false) (h : (bif x then u else v) = z) : v = z := by subst hx; exact h
end

section
variable {ps ps1 ps2 ps3 ps4 qs : List Sp} {k k1 k2 k3 : RK} {a b c m e : M} {d z : D} {i : Nat}
/-! ### targets -/
theorem evG_n : EvG (gN i) d ps (ps.set i (.imm d)) := fun st s => ⟨_, rfl, s.set (p := .imm d) (s := some (.imm d)) rfl⟩
theorem evGs_nil : EvGs gsN [] ps ps := fun st s => ⟨st, rfl, s⟩
theorem evGs_cons {g : MG} {gs : MGs} {ds : List D} (h1 : EvG g d ps ps1) (h2 : EvGs gs ds ps1 qs) : EvGs (gsC g gs) (d :: ds) ps qs := fun st s => by
  obtain ⟨s1, a1, a2⟩ := h1 st s
  obtain ⟨s2, b1, b2⟩ := h2 s1 a2
  refine ⟨s2, ?_, b2⟩
  unfold gsC
  dsimp only
  rw [a1]
  exact b1
theorem evG_t {n : Nat} {gs : MGs} {ds : List D} (h : EvGs gs ds ps qs) (hn : ds.length = n) : EvG (gT n gs) (.tup ds) ps qs := fun st s => by
  obtain ⟨s1, a1, a2⟩ := h st s
  refine ⟨s1, ?_, a2⟩
  unfold gT
  dsimp only
  rw [if_pos hn]
  exact a1
theorem EvG.cast {g : MG} (h : EvG g d ps qs) (e : d = z) : EvG g z ps qs := e ▸ h
theorem isL_false {st : DSt} (h : Sl ps st) {t : Bool} {kvs : List (D × D)} (e : isRt ps i = true) (e2 : rd ps i = some (.dic t kvs)) : isL st i = false := by
  obtain ⟨kk, d, h2, h1, _⟩ := setRt_ok h e
  rw [e2] at h2; cases h2
  unfold isL
  rw [h1]
theorem evG_ix {xs : List D} {j : Int} {n : Nat} (e0 : isRt ps i = true) (e1 : rd ps i = some (.lst xs)) (ha : Ev m ps (.imm (.int j)) ps1) (e2 : isRt ps1 i = true) (e3 : rd ps1 i = some (.lst xs)) (hn : ixN xs.length j = some n) :
    EvG (gItemB i m) d ps (setRt ps1 i (.lst (xs.set n d))) := fun st s => by
  obtain ⟨r, s1, a1, a2, a3⟩ := ha st s
  obtain ⟨kk, d', h2, h1, h3⟩ := setRt_ok a2 e2
  rw [e3] at h2; cases h2
  refine ⟨_, ?_, h3 _⟩
  unfold gItemB
  rw [if_pos (isL_ok s e0 e1)]
  unfold gIx
  rw [if_pos (isL_ok s e0 e1), a1, show r = _ from a3]
  dsimp only
  rw [h1]
  dsimp only
  rw [hn]
theorem evG_key {kvs : List (D × D)} {dk : D} {key : NestedKey} (e0 : isRt ps i = true) (e1 : rd ps i = some (.dic true kvs)) (ha : Ev m ps (.imm dk) ps1) (e2 : isRt ps1 i = true) (e3 : rd ps1 i = some (.dic true kvs)) (hk : nkey dk = some key) (hz : kvs.length < sizeLine) :
    EvG (gItemB i m) d ps (setRt ps1 i (.dic true (putD key dk d kvs))) := fun st s => by
  obtain ⟨r, s1, a1, a2, a3⟩ := ha st s
  obtain ⟨kk, d', h2, h1, h3⟩ := setRt_ok a2 e2
  rw [e3] at h2; cases h2
  obtain ⟨kk', d'', h2', h1', _⟩ := setRt_ok s e0
  rw [e1] at h2'; cases h2'
  have hd : isDic st i = true := by unfold isDic; rw [h1']
  refine ⟨_, ?_, h3 _⟩
  unfold gItemB
  rw [if_neg (by rw [isL_false s e0 e1]; exact Bool.false_ne_true), if_pos hd]
  unfold gKey
  rw [if_pos hd, a1, show r = _ from a3]
  dsimp only
  rw [h1]
  dsimp only
  rw [hk]
  dsimp only
  rw [if_pos hz]
theorem evG_keyK {kvs : List (D × D)} {dk : D} {key : Key} (e0 : isRt ps i = true) (e1 : rd ps i = some (.dic false kvs)) (ha : Ev m ps (.imm dk) ps1) (e2 : isRt ps1 i = true) (e3 : rd ps1 i = some (.dic false kvs)) (hk : keyK dk = some key) (hz : kvs.length < sizeLine) :
    EvG (gItemB i m) d ps (setRt ps1 i (.dic false (putDK key d kvs))) := fun st s => by
  obtain ⟨r, s1, a1, a2, a3⟩ := ha st s
  obtain ⟨kk, d', h2, h1, h3⟩ := setRt_ok a2 e2
  rw [e3] at h2; cases h2
  obtain ⟨kk', d'', h2', h1', _⟩ := setRt_ok s e0
  rw [e1] at h2'; cases h2'
  have hd : isDicK st i = true := by unfold isDicK; rw [h1']
  have hd2 : isDic st i = false := by unfold isDic; rw [h1']
  refine ⟨_, ?_, h3 _⟩
  unfold gItemB
  rw [if_neg (by rw [isL_false s e0 e1]; exact Bool.false_ne_true), if_neg (by rw [hd2]; exact Bool.false_ne_true)]
  unfold gKeyK
  rw [if_pos hd, a1, show r = _ from a3]
  dsimp only
  rw [h1]
  dsimp only
  rw [hk]
  dsimp only
  rw [if_pos hz]
/-! ### what is gone through -/
theorem evI_seqL {xs : List D} (h : Ev a ps k ps1) (f : Fz ps1 k qs) (e : k.d = .lst xs) : EvI (wSeq a) ps xs qs := fun st s => by
  obtain ⟨r, s1, a1, a2, a3⟩ := h st s
  obtain ⟨s2, f1, f2⟩ := fz_ok f a2 a3
  refine ⟨s2, ?_, f2⟩
  unfold wSeq
  rw [a1]
  dsimp only
  rw [f1, e]
theorem evI_seqT {xs : List D} (h : Ev a ps k ps1) (f : Fz ps1 k qs) (e : k.d = .tup xs) : EvI (wSeq a) ps xs qs := fun st s => by
  obtain ⟨r, s1, a1, a2, a3⟩ := h st s
  obtain ⟨s2, f1, f2⟩ := fz_ok f a2 a3
  refine ⟨s2, ?_, f2⟩
  unfold wSeq
  rw [a1]
  dsimp only
  rw [f1, e]
theorem EvI.cast {w : MI} {xs ys : List D} (h : EvI w ps xs qs) (e : xs = ys) : EvI w ps ys qs := e ▸ h
theorem EvI.le {w : MI} {xs : List D} (h : EvI w ps xs qs) {qs' : List Sp} (l : Les qs qs') : EvI w ps xs qs' := fun st s => by
  obtain ⟨st', h1, h2⟩ := h st s
  exact ⟨st', h1, h2.le l⟩
theorem evI_rg1 {ma : MA} {j : Int} (h : EvA ma ps [.int j] qs) (hs : smallI j) : EvI (wRng1 ma) ps (intsD 0 j.toNat) qs := fun st s => by
  obtain ⟨s1, a1, a2⟩ := h st s
  exact ⟨s1, by unfold wRng1; rw [a1]; dsimp only; rw [if_pos hs], a2⟩
theorem evI_rg2 {ma : MA} {j l : Int} (h : EvA ma ps [.int j, .int l] qs) (hs : smallI j ∧ smallI l ∧ smallI (l - j)) : EvI (wRng2 ma) ps (intsD j (l - j).toNat) qs := fun st s => by
  obtain ⟨s1, a1, a2⟩ := h st s
  exact ⟨s1, by unfold wRng2; rw [a1]; dsimp only; rw [if_pos hs], a2⟩
theorem evI_zipL {ma : MA} {xs ys : List D} (h : EvA ma ps [.lst xs, .lst ys] qs) : EvI (wZip ma) ps ((xs.zip ys).map pairD) qs := fun st s => by
  obtain ⟨s1, a1, a2⟩ := h st s
  exact ⟨s1, by unfold wZip; rw [a1], a2⟩
theorem evI_zipT {ma : MA} {xs ys : List D} (h : EvA ma ps [.tup xs, .tup ys] qs) : EvI (wZip ma) ps ((xs.zip ys).map pairD) qs := fun st s => by
  obtain ⟨s1, a1, a2⟩ := h st s
  exact ⟨s1, by unfold wZip; rw [a1], a2⟩
theorem evI_enumL {ma : MA} {xs : List D} (h : EvA ma ps [.lst xs] qs) : EvI (wEnum ma) ps ((enumD 0 xs).map pairD) qs := fun st s => by
  obtain ⟨s1, a1, a2⟩ := h st s
  exact ⟨s1, by unfold wEnum; rw [a1], a2⟩
/-! ### comprehensions -/
def wipeS (ps : List Sp) : List Nat → List Sp
  | [] => ps
  | v :: vs => (wipeS ps vs).set v .any
theorem wipe_ok {st : DSt} (h : Sl ps st) : ∀ vs, Sl (wipeS ps vs) (wipeD st vs)
  | [] => h
  | v :: vs => (wipe_ok h vs).set (p := .any) (s := none) trivial
theorem wipeS_at {j : Nat} : ∀ {vs : List Nat}, j ∉ vs → (wipeS ps vs)[j]? = ps[j]?
  | [], _ => rfl
  | v :: vs, hj => by
    have h1 : v ≠ j := fun z => hj (by rw [z]; exact List.mem_cons_self ..)
    rw [wipeS, List.getElem?_set_ne h1]
    exact wipeS_at fun z => hj (List.mem_cons_of_mem _ z)
theorem rest_ok {s t : DSt} {vs : List Nat} (hs : Sl ps s) (ht : Sl (wipeS ps vs) t) : Sl ps (restD s t vs) := by
  have hl : t.length = s.length := by
    have h1 := hs.length
    have h2 := ht.length
    have h3 : ∀ vs, (wipeS ps vs).length = ps.length := fun vs => by
      induction vs with
      | nil => rfl
      | cons v vs ih => rw [wipeS, List.length_set, ih]
    rw [h3] at h2
    omega
  have key : ∀ (ps : List Sp) (u : DSt), ps.length = u.length → (∀ (i : Nat) (p : Sp), ps[i]? = some p → ∃ x : Option SV, u[i]? = some x ∧ SpOk p x) → Sl ps u := by
    intro ps
    induction ps with
    | nil => intro u h _; cases u with
      | nil => exact .nil
      | cons _ _ => cases h
    | cons p ps ih => intro u h q; cases u with
      | nil => cases h
      | cons x u =>
        refine .cons ?_ (ih u (by simpa using h) fun i p' e => q (i + 1) p' (by simpa using e))
        obtain ⟨y, h1, h2⟩ := q 0 p rfl
        simp at h1; subst h1; exact h2
  have hr : (restD s t vs).length = t.length := by
    have : ∀ vs, (restD s t vs).length = t.length := fun vs => by
      induction vs with
      | nil => rfl
      | cons v vs ih =>
        unfold restD
        split
        · rw [List.length_set, ih]
        · exact ih
    exact this vs
  refine key ps _ (by rw [hs.length, hr, hl]) fun i p e => ?_
  by_cases hi : i ∈ vs
  · obtain ⟨x, h1, h2⟩ := hs.at e
    exact ⟨x, by rw [restD_in hl hi]; exact h1, h2⟩
  · have e' : (wipeS ps vs)[i]? = some p := by rw [wipeS_at hi]; exact e
    obtain ⟨x, h1, h2⟩ := ht.at e'
    exact ⟨x, by rw [restD_out hi]; exact h1, h2⟩
/-- m's value can be kept, the slots stay as they are known -/
def Kept (m : M) (ps : List Sp) (d : D) : Prop := ∃ k qs, Ev m ps k qs ∧ Fz qs k ps ∧ k.d = d
theorem kept_imm (h : Ev m ps (.imm d) ps) : Kept m ps d := ⟨_, _, h, .imm, rfl⟩
theorem kept_own (h : Ev m ps (.own d) ps) : Kept m ps d := ⟨_, _, h, .own, rfl⟩
theorem kept_fr (h : Ev m ps (.fr d) ps) : Kept m ps d := ⟨_, _, h, .fr, rfl⟩
theorem kept_var (h : Ev m ps (.var i d) ps) (f : Fz ps (.var i d) ps) : Kept m ps d := ⟨_, _, h, f, rfl⟩
theorem lc_core {α : Type} {ea : α → D} {w : MI} {g : MG} {c : MT} {vs : List Nat} {xs : List α} (T : α → Option D) (hw : EvI w ps (xs.map ea) ps1)
    (h : ∀ x ∈ xs, ∃ ps3, EvG g (ea x) (wipeS ps1 vs) ps3 ∧ wipeS ps3 vs = wipeS ps1 vs ∧ ((T x = none ∧ EvT c ps3 false ps3) ∨ ∃ z, T x = some z ∧ EvT c ps3 true ps3 ∧ Kept m ps3 z)) :
    Ev (mLc vs w g c m) ps (.own (.lst (xs.filterMap T))) ps1 := by
  have key : ∀ (xs : List α), (∀ x ∈ xs, ∃ ps3, EvG g (ea x) (wipeS ps1 vs) ps3 ∧ wipeS ps3 vs = wipeS ps1 vs ∧ ((T x = none ∧ EvT c ps3 false ps3) ∨ ∃ z, T x = some z ∧ EvT c ps3 true ps3 ∧ Kept m ps3 z)) →
      ∀ st, Sl (wipeS ps1 vs) st → ∃ st', lcD vs g c m (xs.map ea) st = some (xs.filterMap T, st') ∧ Sl (wipeS ps1 vs) st' := by
    intro xs
    induction xs with
    | nil => intro _ st s; exact ⟨st, rfl, s⟩
    | cons x xs ih =>
      intro h st s
      obtain ⟨ps3, g1, g2, h1⟩ := h x (List.mem_cons_self ..)
      obtain ⟨s1, g3, g4⟩ := g1 st s
      have ih := ih fun y hy => h y (List.mem_cons_of_mem _ hy)
      rcases h1 with ⟨h2, h3⟩ | ⟨z, h2, h3, kk, qq, h4, h5, h6⟩
      · obtain ⟨s2, c1, c2⟩ := h3 s1 g4
        have c3 := wipe_ok c2 vs
        rw [g2] at c3
        obtain ⟨s3, i1, i2⟩ := ih _ c3
        refine ⟨s3, ?_, i2⟩
        rw [List.map_cons, lcD, g3]
        dsimp only
        rw [c1]
        dsimp only
        rw [i1, List.filterMap_cons, h2]
      · obtain ⟨s2, c1, c2⟩ := h3 s1 g4
        obtain ⟨r, s3, m1, m2, m3⟩ := h4 s2 c2
        obtain ⟨s4, f1, f2⟩ := fz_ok h5 m2 m3
        have c3 := wipe_ok f2 vs
        rw [g2] at c3
        obtain ⟨s5, i1, i2⟩ := ih _ c3
        refine ⟨s5, ?_, i2⟩
        rw [List.map_cons, lcD, g3]
        dsimp only
        rw [c1]
        dsimp only
        rw [m1]
        dsimp only
        rw [f1]
        dsimp only
        rw [i1, List.filterMap_cons, h2, h6]
  intro st s
  obtain ⟨s1, w1, w2⟩ := hw st s
  obtain ⟨t, k1, k2⟩ := key xs h _ (wipe_ok w2 vs)
  refine ⟨_, _, ?_, rest_ok w2 k2, rfl⟩
  unfold mLc
  rw [w1]
  dsimp only
  rw [k1]
/-! typed forms; ea, eb: how the items are laid -/
def tL {α : Type} (e : α → D) (xs : List α) : D := .lst (xs.map e)
def tT {α : Type} (e : α → D) (xs : List α) : D := .tup (xs.map e)
section
variable {α β : Type} {ea : α → D} {eb : β → D} {w : MI} {g : MG} {c : MT} {vs : List Nat} {xs : List α} {P : α → List Sp}
theorem ev_lc (p : α → Bool) (F : α → β) (hw : EvI w ps (xs.map ea) ps1) (hg : ∀ x, EvG g (ea x) (wipeS ps1 vs) (P x)) (hv : ∀ x, wipeS (P x) vs = wipeS ps1 vs)
    (hc : ∀ x, EvT c (P x) (p x) (P x)) (hm : ∀ x, Kept m (P x) (eb (F x))) : Ev (mLc vs w g c m) ps (.own (tL eb ((xs.filter p).map F))) ps1 := by
  have := lc_core (m := m) (c := c) (fun x => bif p x then some (eb (F x)) else none) hw fun x _ => ⟨P x, hg x, hv x, by
    cases q : p x with
    | false => exact .inl ⟨rfl, q ▸ hc x⟩
    | true => exact .inr ⟨_, rfl, q ▸ hc x, hm x⟩⟩
  refine Ev.cast this ?_
  unfold tL
  congr 2
  clear this hw
  induction xs with
  | nil => rfl
  | cons x xs ih =>
    rw [List.filterMap_cons, List.filter_cons]
    cases p x with
    | false => exact ih
    | true =>
      simp only [cond_true, if_true, List.map_cons]
      rw [ih]
theorem ev_lcM (F : α → β) (hw : EvI w ps (xs.map ea) ps1) (hg : ∀ x, EvG g (ea x) (wipeS ps1 vs) (P x)) (hv : ∀ x, wipeS (P x) vs = wipeS ps1 vs)
    (hm : ∀ x, Kept m (P x) (eb (F x))) : Ev (mLc vs w g tYesD m) ps (.own (tL eb (xs.map F))) ps1 := by
  have := ev_lc (eb := eb) (fun _ => true) F hw hg hv (fun x => evT_yes) hm
  rwa [List.filter_eq_self.mpr (fun _ _ => rfl)] at this
/-- only some of them -/
theorem ev_lcP (p : α → Bool) (hw : EvI w ps (xs.map ea) ps1) (hg : ∀ x, EvG g (ea x) (wipeS ps1 vs) (P x)) (hv : ∀ x, wipeS (P x) vs = wipeS ps1 vs)
    (hc : ∀ x, EvT c (P x) (p x) (P x)) (hm : ∀ x, Kept m (P x) (ea x)) : Ev (mLc vs w g c m) ps (.own (tL ea (xs.filter p))) ps1 := by
  have := ev_lc (eb := ea) p (fun x => x) hw hg hv hc hm
  rwa [List.map_id'] at this
theorem ev_lcO {C : α → Option Bool} {F : α → Option β} {ys : List β} (h : compO C F xs = some ys) (hw : EvI w ps (xs.map ea) ps1) (hg : ∀ x, EvG g (ea x) (wipeS ps1 vs) (P x)) (hv : ∀ x, wipeS (P x) vs = wipeS ps1 vs)
    (hc : ∀ x t, C x = some t → EvT c (P x) t (P x)) (hm : ∀ x y, F x = some y → Kept m (P x) (eb y)) : Ev (mLc vs w g c m) ps (.own (tL eb ys)) ps1 := by
  have key : ∀ (xs : List α) (ys : List β), compO C F xs = some ys → (∀ x ∈ xs, (C x = some false) ∨ ∃ y, C x = some true ∧ F x = some y) ∧ xs.filterMap (fun x => match C x with | some true => (match F x with | some y => some (eb y) | none => none) | _ => none) = ys.map eb := by
    intro xs
    induction xs with
    | nil => intro ys h; cases h; exact ⟨fun x hx => by simp at hx, rfl⟩
    | cons x xs ih =>
      intro ys h
      unfold compO at h
      refine bndE h fun t ht h => ?_
      cases t with
      | false =>
        obtain ⟨q1, q2⟩ := ih ys h
        refine ⟨fun y hy => ?_, ?_⟩
        · rcases List.mem_cons.mp hy with rfl | hy
          · exact .inl ht
          · exact q1 y hy
        · rw [List.filterMap_cons, ht]
          exact q2
      | true =>
        refine bndE h fun y hy h => ?_
        refine bndE h fun ys' hys h => ?_
        cases h
        obtain ⟨q1, q2⟩ := ih ys' hys
        refine ⟨fun u hu => ?_, ?_⟩
        · rcases List.mem_cons.mp hu with rfl | hu
          · exact .inr ⟨y, ht, hy⟩
          · exact q1 u hu
        · rw [List.filterMap_cons, ht, hy]
          dsimp only
          rw [q2]
          rfl
  obtain ⟨q1, q2⟩ := key xs ys h
  have := lc_core (m := m) (c := c) (fun x => match C x with | some true => (match F x with | some y => some (eb y) | none => none) | _ => none) hw fun x hx => ⟨P x, hg x, hv x, by
    rcases q1 x hx with q | ⟨y, q, q'⟩
    · exact .inl ⟨by rw [q], hc x _ q⟩
    · exact .inr ⟨eb y, by rw [q, q'], hc x _ q, hm x y q'⟩⟩
  rw [q2] at this
  exact this
theorem compO_map {F : α → Option β} : ∀ xs : List α, compO (fun _ => some true) F xs = mapO F xs
  | [] => rfl
  | x :: xs => by unfold compO mapO; rw [compO_map xs]; rfl
theorem ev_lcMO {F : α → Option β} {ys : List β} (h : mapO F xs = some ys) (hw : EvI w ps (xs.map ea) ps1) (hg : ∀ x, EvG g (ea x) (wipeS ps1 vs) (P x)) (hv : ∀ x, wipeS (P x) vs = wipeS ps1 vs)
    (hm : ∀ x y, F x = some y → Kept m (P x) (eb y)) : Ev (mLc vs w g tYesD m) ps (.own (tL eb ys)) ps1 :=
  ev_lcO (C := fun _ => some true) (F := F) ((compO_map xs).trans h) hw hg hv (fun x t e => by cases e; exact evT_yes) hm
end
theorem Sl.setI {st : DSt} (h : Sl ps st) : Sl (ps.set i (.imm d)) (st.set i (some (.imm d))) := h.set (p := .imm d) (s := some (.imm d)) rfl
theorem Sl.setO {st : DSt} (h : Sl ps st) : Sl (ps.set i (.own d)) (st.set i (some (.rt true d))) := h.set (p := .own d) (s := some (.rt true d)) rfl
/-! ### statements -/
inductive Po where
  | nx (ps : List Sp) | ret (k : RK) (svs os : List SV)
def outsS : List SV → List Sp → Option (List SV)
  | [], _ => some []
  | .imm d :: r, _ :: ps => match outsS r ps with
    | some os => some (.imm d :: os)
    | none => none
  | .rt _ _ :: r, .lent d :: ps => match outsS r ps with
    | some os => some (.rt false d :: os)
    | none => none
  | _, _ => none
theorem outs_ok : ∀ {svs : List SV} {ps : List Sp} {st : DSt} {os : List SV}, Sl ps st → outsS svs ps = some os → outsD svs st = some os
  | [], ps, st, os, h, e => e
  | .imm d :: r, [], st, os, h, e => by cases e
  | .imm d :: r, p :: ps, st, os, h, e => by
    cases h with
    | cons a t =>
      unfold outsS at e
      split at e
      · rename_i os' e'
        cases e
        unfold outsD
        rw [outs_ok t e']
      · cases e
  | .rt kk d :: r, [], st, os, h, e => by cases e
  | .rt kk d :: r, .lent d' :: ps, st, os, h, e => by
    cases h with
    | @cons _ s _ _ a t =>
      unfold outsS at e
      split at e
      · rename_i os' e'
        cases e
        rw [show s = _ from a]
        unfold outsD
        rw [outs_ok t e']
      · cases e
  | .rt kk d :: r, .any :: ps, st, os, h, e => by cases e
  | .rt kk d :: r, .imm _ :: ps, st, os, h, e => by cases e
  | .rt kk d :: r, .val _ :: ps, st, os, h, e => by cases e
  | .rt kk d :: r, .own _ :: ps, st, os, h, e => by cases e
def PoOk : Po → Fl → DSt → Prop
  | .nx ps, fl, st => fl = .nx ∧ Sl ps st
  | .ret k svs os, fl, st => ∃ r r', fl = .ret r ∧ retD st r = some r' ∧ ROk k r' ∧ NoVar k ∧ outsD svs st = some os
def Run (s : MS) (ps : List Sp) (o : Po) : Prop := ∀ st, Sl ps st → ∃ fl st', s st = some (fl, st') ∧ PoOk o fl st'
variable {s t u : MS} {o : Po} {svs os : List SV}
theorem Run.cast (h : Run s ps o) {o' : Po} (e : o = o') : Run s ps o' := e ▸ h
theorem Run.le (h : Run s ps (.nx ps1)) (l : Les ps1 ps2) : Run s ps (.nx ps2) := fun st q => by
  obtain ⟨fl, st', h1, h2, h3⟩ := h st q
  exact ⟨fl, st', h1, h2, h3.le l⟩
theorem Run.pre (h : Run s ps1 o) (l : Les ps ps1) : Run s ps o := fun st q => h st (q.le l)
theorem run_nx : Run sNx ps (.nx ps) := fun st q => ⟨.nx, st, rfl, rfl, q⟩
theorem run_seq (h1 : Run s ps (.nx ps1)) (h2 : Run t ps1 o) : Run (sSeq s t) ps o := fun st q => by
  obtain ⟨fl, s1, a1, rfl, a3⟩ := h1 st q
  obtain ⟨f2, s2, b1, b2⟩ := h2 s1 a3
  exact ⟨f2, s2, by unfold sSeq; rw [a1]; exact b1, b2⟩
theorem run_seqR (h1 : Run s ps (.ret k svs os)) : Run (sSeq s t) ps (.ret k svs os) := fun st q => by
  obtain ⟨fl, s1, a1, r, r', rfl, a2⟩ := h1 st q
  exact ⟨_, s1, by unfold sSeq; rw [a1], r, r', rfl, a2⟩
theorem run_if {ct : MT} {x : Bool} (hc : EvT ct ps x ps1) (h1 : x = true → Run s ps1 o) (h2 : x = false → Run t ps1 o) : Run (sIf ct s t) ps o := fun st q => by
  obtain ⟨s1, a1, a2⟩ := hc st q
  cases x with
  | true =>
    obtain ⟨f2, s2, b1, b2⟩ := h1 rfl s1 a2
    exact ⟨f2, s2, by unfold sIf; rw [a1]; exact b1, b2⟩
  | false =>
    obtain ⟨f2, s2, b1, b2⟩ := h2 rfl s1 a2
    exact ⟨f2, s2, by unfold sIf; rw [a1]; exact b1, b2⟩
theorem run_drop (h : Ev e ps k qs) : Run (sDrop e) ps (.nx qs) := fun st q => by
  obtain ⟨r, s1, a1, a2, a3⟩ := h st q
  exact ⟨.nx, s1, by unfold sDrop; rw [a1], rfl, a2⟩
theorem run_setI (h : Ev e ps (.imm d) qs) : Run (sSet i e) ps (.nx (qs.set i (.imm d))) := fun st q => by
  obtain ⟨r, s1, a1, a2, a3⟩ := h st q
  exact ⟨.nx, _, by unfold sSet; rw [a1, show r = _ from a3], rfl, a2.setI⟩
theorem run_setO (h : Ev e ps (.own d) qs) : Run (sSet i e) ps (.nx (qs.set i (.own d))) := fun st q => by
  obtain ⟨r, s1, a1, a2, a3⟩ := h st q
  exact ⟨.nx, _, by unfold sSet; rw [a1, show r = _ from a3], rfl, a2.setO⟩
theorem run_setFr (h : Ev e ps (.fr d) qs) : Run (sSet i e) ps (.nx (qs.set i (.val d))) := fun st q => by
  obtain ⟨r, s1, a1, a2, a3⟩ := h st q
  rcases a3 with a3 | a3
  · exact ⟨.nx, _, by unfold sSet; rw [a1, a3], rfl, a2.set (p := .val d) (s := some (.imm d)) (show _ ∨ _ from .inl rfl)⟩
  · exact ⟨.nx, _, by unfold sSet; rw [a1, a3], rfl, a2.set (p := .val d) (s := some (.rt true d)) (show _ ∨ _ from .inr rfl)⟩
theorem run_setF (h : EvF e ps d qs) : Run (sSet i e) ps (.nx (qs.set i (.val d))) := fun st q => by
  obtain ⟨r, s1, s2, a1, a2, a3, a4⟩ := h st q
  cases r with
  | imm x => cases a2; exact ⟨.nx, _, by unfold sSet; rw [a1], rfl, a3.set (p := .val d) (s := some (.imm d)) (show _ ∨ _ from .inl rfl)⟩
  | own x => cases a2; exact ⟨.nx, _, by unfold sSet; rw [a1], rfl, a3.set (p := .val d) (s := some (.rt true d)) (show _ ∨ _ from .inr rfl)⟩
  | slot j => exact ⟨.nx, _, by unfold sSet; rw [a1]; dsimp only; rw [show freezeS s1 j = _ from a2], rfl, a4.set (p := .val d) (s := some (.imm d)) (show _ ∨ _ from .inl rfl)⟩
/-- x = y of a list -/
theorem run_setV {j : Nat} (h : Ev e ps (.var j d) ps1) (f : Fz ps1 (.var j d) qs) : Run (sSet i e) ps (.nx (qs.set i (.imm d))) := fun st q => by
  obtain ⟨r, s1, a1, a2, a3⟩ := h st q
  obtain ⟨s2, f1, f2⟩ := fz_ok f a2 a3
  rcases a3 with a3 | a3
  · subst a3
    cases f1
    exact ⟨.nx, _, by unfold sSet; rw [a1], rfl, f2.setI⟩
  · subst a3
    exact ⟨.nx, _, by unfold sSet; rw [a1]; dsimp only; rw [show freezeS s1 j = _ from f1]; rfl, rfl, f2.setI⟩
theorem run_asg {g : MG} (h : Ev e ps k ps1) (f : Fz ps1 k ps2) (hg : EvG g k.d ps2 qs) : Run (sAsg e g) ps (.nx qs) := fun st q => by
  obtain ⟨r, s1, a1, a2, a3⟩ := h st q
  obtain ⟨s2, f1, f2⟩ := fz_ok f a2 a3
  obtain ⟨s3, g1, g2⟩ := hg s2 f2
  refine ⟨.nx, s3, ?_, rfl, g2⟩
  unfold sAsg
  rw [a1]
  dsimp only
  rw [f1]
  dsimp only
  rw [g1]
theorem evR_nil : EvR rNil ps [] ps := fun st q => ⟨[], st, rfl, q, .nil⟩
inductive Kp : RK → Sp → Prop
  | imm {d : D} : Kp (.imm d) (.imm d)
  | own {d : D} : Kp (.own d) (.own d)
  | fr {d : D} : Kp (.fr d) (.val d)
  | var {i : Nat} {d : D} : Kp (.var i d) (.imm d)
theorem evR_cons {ma : MR} {w : Sp} {ws : List Sp} (h : Ev e ps k ps1) (f : Fz ps1 k ps2) (kp : Kp k w) (hb : EvR ma ps2 ws qs) : EvR (rCons e ma) ps (w :: ws) qs := fun st q => by
  obtain ⟨r, s1, a1, a2, a3⟩ := h st q
  obtain ⟨s2, f1, f2⟩ := fz_ok f a2 a3
  have key : ∃ sv s2', keepR s1 r = some (sv, s2') ∧ Sl ps2 s2' ∧ SpOk w (some sv) := by
    cases kp with
    | imm => cases show r = _ from a3; cases f; exact ⟨_, s1, rfl, a2, rfl⟩
    | own => cases show r = _ from a3; cases f; exact ⟨_, s1, rfl, a2, rfl⟩
    | @fr d =>
      cases f
      rcases a3 with a3 | a3
      · subst a3; exact ⟨_, s1, rfl, a2, (show _ ∨ _ from .inl rfl)⟩
      · subst a3; exact ⟨_, s1, rfl, a2, (show _ ∨ _ from .inr rfl)⟩
    | @var j d =>
      rcases a3 with a3 | a3
      · subst a3; cases f1; exact ⟨_, s1, rfl, f2, rfl⟩
      · subst a3
        refine ⟨.imm d, s2, ?_, f2, rfl⟩
        unfold keepR
        dsimp only
        rw [show freezeS s1 j = _ from f1]
        rfl
  obtain ⟨sv, s2', k1, k2, k3⟩ := key
  obtain ⟨svs, s3, b1, b2, b3⟩ := hb s2' k2
  refine ⟨sv :: svs, s3, ?_, b2, .cons k3 b3⟩
  unfold rCons
  rw [a1]
  dsimp only
  rw [k1]
  dsimp only
  rw [b1]
def setAllS : List Nat → List Sp → List Sp → List Sp
  | i :: is, w :: ws, ps => setAllS is ws (ps.set i w)
  | _, _, ps => ps
theorem setAll_ok : ∀ {is : List Nat} {ws : List Sp} {svs : List SV} {ps : List Sp} {st : DSt}, Sl ps st → SpOks ws svs → Sl (setAllS is ws ps) (setAll is svs st)
  | [], ws, svs, ps, st, h, q => by
    have e1 : setAllS [] ws ps = ps := by cases ws <;> rfl
    have e2 : setAll [] svs st = st := by cases svs <;> rfl
    rw [e1, e2]; exact h
  | i :: is, _, _, ps, st, h, .nil => h
  | i :: is, _, _, ps, st, h, .cons a t => setAll_ok (is := is) (h.set a) t
theorem run_par {is : List Nat} {ma : MR} {ws : List Sp} (h : EvR ma ps ws qs) : Run (sPar is ma) ps (.nx (setAllS is ws qs)) := fun st q => by
  obtain ⟨svs, s1, a1, a2, a3⟩ := h st q
  exact ⟨.nx, _, by unfold sPar; rw [a1], rfl, setAll_ok a2 a3⟩
/-! return -/
theorem run_retI (h : Ev e ps (.imm d) qs) (ho : outsS svs qs = some os) : Run (sRet e) ps (.ret (.imm d) svs os) := fun st q => by
  obtain ⟨r, s1, a1, a2, a3⟩ := h st q
  exact ⟨_, s1, by unfold sRet; rw [a1], r, r, rfl, by rw [show r = _ from a3]; rfl, a3, trivial, outs_ok a2 ho⟩
theorem run_retO (h : Ev e ps (.own d) qs) (ho : outsS svs qs = some os) : Run (sRet e) ps (.ret (.own d) svs os) := fun st q => by
  obtain ⟨r, s1, a1, a2, a3⟩ := h st q
  exact ⟨_, s1, by unfold sRet; rw [a1], r, r, rfl, by rw [show r = _ from a3]; rfl, a3, trivial, outs_ok a2 ho⟩
theorem run_retFr (h : Ev e ps (.fr d) qs) (ho : outsS svs qs = some os) : Run (sRet e) ps (.ret (.fr d) svs os) := fun st q => by
  obtain ⟨r, s1, a1, a2, a3⟩ := h st q
  exact ⟨_, s1, by unfold sRet; rw [a1], r, r, rfl, by rcases a3 with a3 | a3 <;> (rw [a3]; rfl), a3, trivial, outs_ok a2 ho⟩
theorem run_retVo {j : Nat} (h : Ev e ps (.var j d) qs) (hj : qs[j]? = some (.own d)) (ho : outsS svs qs = some os) : Run (sRet e) ps (.ret (.fr d) svs os) := fun st q => by
  obtain ⟨r, s1, a1, a2, a3⟩ := h st q
  obtain ⟨x, h1, h2⟩ := a2.at hj
  have h2 : x = _ := h2
  rcases a3 with a3 | a3
  · exact ⟨_, s1, by unfold sRet; rw [a1], r, .imm d, rfl, by rw [a3]; rfl, .inl rfl, trivial, outs_ok a2 ho⟩
  · exact ⟨_, s1, by unfold sRet; rw [a1], r, .own d, rfl, by rw [a3]; unfold retD; dsimp only; rw [h1, h2], .inr rfl, trivial, outs_ok a2 ho⟩
/-- return of a name whose list is the def's own -/
theorem run_retVV {j : Nat} (hj : ps[j]? = some (.own d)) (ho : outsS svs ps = some os) : Run (sRet (mVar j)) ps (.ret (.own d) svs os) := fun st q => by
  obtain ⟨x, h1, h2⟩ := q.at hj
  have h2 : x = _ := h2
  refine ⟨.ret (.slot j), st, ?_, .slot j, .own d, rfl, ?_, rfl, trivial, outs_ok q ho⟩
  · unfold sRet mVar; rw [h1, h2]
  · unfold retD; dsimp only; rw [h1, h2]
theorem run_retVv {j : Nat} (h : Ev e ps (.var j d) qs) (hj : qs[j]? = some (.val d)) (ho : outsS svs qs = some os) : Run (sRet e) ps (.ret (.fr d) svs os) := fun st q => by
  obtain ⟨r, s1, a1, a2, a3⟩ := h st q
  obtain ⟨x, h1, h2⟩ := a2.at hj
  rcases a3 with a3 | a3
  · exact ⟨_, s1, by unfold sRet; rw [a1], r, .imm d, rfl, by rw [a3]; rfl, .inl rfl, trivial, outs_ok a2 ho⟩
  · rcases h2 with h2 | h2
    · exact ⟨_, s1, by unfold sRet; rw [a1], r, .imm d, rfl, by rw [a3]; unfold retD; dsimp only; rw [h1, h2], .inl rfl, trivial, outs_ok a2 ho⟩
    · exact ⟨_, s1, by unfold sRet; rw [a1], r, .own d, rfl, by rw [a3]; unfold retD; dsimp only; rw [h1, h2], .inr rfl, trivial, outs_ok a2 ho⟩
theorem run_retN (ho : outsS svs ps = some os) : Run sRetN ps (.ret (.imm .non) svs os) := fun st q => ⟨_, st, rfl, _, .imm .non, rfl, rfl, rfl, trivial, outs_ok q ho⟩
/-- weaker words about the result -/
theorem run_fr_own (h : Run s ps (.ret (.own d) svs os)) : Run s ps (.ret (.fr d) svs os) := fun st q => by
  obtain ⟨fl, s1, a1, r, r', rfl, a2, a3, a4, a5⟩ := h st q
  exact ⟨_, s1, a1, r, r', rfl, a2, .inr a3, trivial, a5⟩
theorem run_fr_imm (h : Run s ps (.ret (.imm d) svs os)) : Run s ps (.ret (.fr d) svs os) := fun st q => by
  obtain ⟨fl, s1, a1, r, r', rfl, a2, a3, a4, a5⟩ := h st q
  exact ⟨_, s1, a1, r, r', rfl, a2, .inl a3, trivial, a5⟩
/-! ### loops -/
def PoR {σ ρ : Type} (S : σ → List Sp) (Rt : ρ → Po) : Res σ ρ → Po
  | .go s => .nx (S s)
  | .ret v => Rt v
def Retp {ρ : Type} (Rt : ρ → Po) : Prop := ∀ v, ∃ k svs os, Rt v = .ret k svs os
section
variable {α σ ρ : Type} {ea : α → D} {w : MI} {g : MG} {xs : List α} {S : σ → List Sp} {Rt : ρ → Po} {s0 : σ} {P : σ → α → List Sp}
theorem run_forR {f : σ → α → Option (Res σ ρ)} (hw : EvI w ps (xs.map ea) ps1) (hl : Les ps1 (S s0)) (hR : Retp Rt) (hg : ∀ s x, EvG g (ea x) (S s) (P s x)) (hb : ∀ s x r, f s x = some r → Run t (P s x) (PoR S Rt r)) {r : Res σ ρ} (h : forR f xs s0 = some r) :
    Run (sFor w g t) ps (PoR S Rt r) := by
  have key : ∀ (xs : List α) (s0 : σ) (r : Res σ ρ), forR f xs s0 = some r → ∀ st, Sl (S s0) st → ∃ fl st', forD g t (xs.map ea) st = some (fl, st') ∧ PoOk (PoR S Rt r) fl st' := by
    intro xs
    induction xs with
    | nil => intro s0 r h st q; cases h; exact ⟨.nx, st, rfl, rfl, q⟩
    | cons x xs ih =>
      intro s0 r h st q
      unfold forR at h
      refine bndE h fun r1 hr h => ?_
      obtain ⟨s1, g1, g2⟩ := hg s0 x st q
      obtain ⟨fl, s2, b1, b2⟩ := hb s0 x r1 hr s1 g2
      cases r1 with
      | go s' =>
        obtain ⟨rfl, b2⟩ := b2
        obtain ⟨fl2, s3, i1, i2⟩ := ih s' r h s2 b2
        refine ⟨fl2, s3, ?_, i2⟩
        rw [List.map_cons, forD, g1]
        dsimp only
        rw [b1]
        exact i1
      | ret v =>
        cases h
        obtain ⟨k, sv, os, e⟩ := hR v
        have b2' : PoOk (Rt v) fl s2 := b2
        rw [e] at b2'
        obtain ⟨r, r', rfl, b3⟩ := b2'
        refine ⟨_, s2, ?_, b2⟩
        rw [List.map_cons, forD, g1]
        dsimp only
        rw [b1]
  intro st q
  obtain ⟨s1, w1, w2⟩ := hw st q
  obtain ⟨fl, s2, k1, k2⟩ := key xs s0 r h s1 (w2.le hl)
  refine ⟨fl, s2, ?_, k2⟩
  unfold sFor
  rw [w1]
  exact k1
theorem run_for {f : σ → α → Option σ} (hw : EvI w ps (xs.map ea) ps1) (hl : Les ps1 (S s0)) (hg : ∀ s x, EvG g (ea x) (S s) (P s x)) (hb : ∀ s x r, f s x = some r → Run t (P s x) (.nx (S r))) {r : σ} (h : forO f xs s0 = some r) :
    Run (sFor w g t) ps (.nx (S r)) := by
  have e : ∀ (xs : List α) (s0 : σ), forR (ρ := Empty) (fun s x => (f s x).map .go) xs s0 = (forO f xs s0).map .go := by
    intro xs
    induction xs with
    | nil => intro s0; rfl
    | cons x xs ih =>
      intro s0
      unfold forR forO
      cases f s0 x with
      | none => rfl
      | some s' => exact ih s'
  have h' := e xs s0
  rw [h] at h'
  exact run_forR (Rt := fun v : Empty => v.elim) (f := fun s x => (f s x).map .go) hw hl (fun v => v.elim) hg (fun s x r hr => by
    cases q : f s x with
    | none => rw [q] at hr; cases hr
    | some s' => rw [q] at hr; cases hr; exact hb s x s' q) h'
theorem run_whR {c : σ → Option Bool} {f : σ → Option (Res σ ρ)} {ct : MT} {n : Nat} (hl : Les ps (S s0)) (hR : Retp Rt) (hc : ∀ s x, c s = some x → EvT ct (S s) x (S s)) (hb : ∀ s r, f s = some r → Run t (S s) (PoR S Rt r)) {r : Res σ ρ} (h : whR c f n s0 = some r) :
    Run (sWhile n ct t) ps (PoR S Rt r) := by
  have key : ∀ (n : Nat) (s0 : σ) (r : Res σ ρ), whR c f n s0 = some r → ∀ st, Sl (S s0) st → ∃ fl st', whileD ct t n st = some (fl, st') ∧ PoOk (PoR S Rt r) fl st' := by
    intro n
    induction n with
    | zero => intro s0 r h; cases h
    | succ n ih =>
      intro s0 r h st q
      unfold whR at h
      refine bndE h fun x hx h => ?_
      obtain ⟨s1, c1, c2⟩ := hc s0 x hx st q
      cases x with
      | false =>
        cases h
        refine ⟨.nx, s1, ?_, rfl, c2⟩
        unfold whileD
        rw [c1]
      | true =>
        refine bndE h fun r1 hr h => ?_
        obtain ⟨fl, s2, b1, b2⟩ := hb s0 r1 hr s1 c2
        cases r1 with
        | go s' =>
          obtain ⟨rfl, b2⟩ := b2
          obtain ⟨fl2, s3, i1, i2⟩ := ih s' r h s2 b2
          refine ⟨fl2, s3, ?_, i2⟩
          unfold whileD
          rw [c1]
          dsimp only
          rw [b1]
          exact i1
        | ret v =>
          cases h
          obtain ⟨k, sv, os, e⟩ := hR v
          have b2' : PoOk (Rt v) fl s2 := b2
          rw [e] at b2'
          obtain ⟨r, r', rfl, b3⟩ := b2'
          refine ⟨_, s2, ?_, b2⟩
          unfold whileD
          rw [c1]
          dsimp only
          rw [b1]
  intro st q
  exact key n s0 r h st (q.le hl)
theorem run_wh {c : σ → Option Bool} {f : σ → Option σ} {ct : MT} {n : Nat} (hl : Les ps (S s0)) (hc : ∀ s x, c s = some x → EvT ct (S s) x (S s)) (hb : ∀ s r, f s = some r → Run t (S s) (.nx (S r))) {r : σ} (h : whO c f n s0 = some r) :
    Run (sWhile n ct t) ps (.nx (S r)) := by
  have e : ∀ (n : Nat) (s0 : σ), whR (ρ := Empty) c (fun s => (f s).map .go) n s0 = (whO c f n s0).map .go := by
    intro n
    induction n with
    | zero => intro s0; rfl
    | succ n ih =>
      intro s0
      unfold whR whO
      cases c s0 with
      | none => rfl
      | some x =>
        cases x with
        | false => rfl
        | true =>
          show Option.bind _ _ = Option.map _ (Option.bind _ _)
          cases f s0 with
          | none => rfl
          | some s' => exact ih s'
  have h' := e n s0
  rw [h] at h'
  exact run_whR (Rt := fun v : Empty => v.elim) (f := fun s => (f s).map .go) hl (fun v => v.elim) hc (fun s r hr => by
    cases q : f s with
    | none => rw [q] at hr; cases hr
    | some s' => rw [q] at hr; cases hr; exact hb s s' q) h'
end
/-- a value gets a name -/
theorem run_let {α τ : Type} {x : α} {f : α → Option τ} {r : τ} (S : α → List Sp) (hs : Run s ps (.nx (S x))) (h : lett x f = some r) (kk : ∀ x, f x = some r → Run t (S x) o) : Run (sSeq s t) ps o := run_seq hs (kk x h)
theorem lettE {α τ : Type} {x : α} {f : α → Option τ} {r : τ} {P : Prop} (h : lett x f = some r) (kk : f x = some r → P) : P := kk h
/-! ### defs -/
def spv : SV → Sp
  | .imm d => .imm d
  | .rt false d => .lent d
  | .rt true d => .own d
theorem spv_ok : ∀ (svs : List SV) (n : Nat), Sl (svs.map spv ++ List.replicate n .any) (svs.map some ++ List.replicate n none)
  | [], 0 => .nil
  | [], n + 1 => .cons trivial (spv_ok [] n)
  | .imm d :: svs, n => .cons rfl (spv_ok svs n)
  | .rt true d :: svs, n => .cons rfl (spv_ok svs n)
  | .rt false d :: svs, n => .cons rfl (spv_ok svs n)
theorem fn_run {n : Nat} {body : MS} (h0 : svs.map spv ++ List.replicate (n - svs.length) .any = ps) (h : Run body ps (.ret k svs os)) : FR (runF n body) svs k os := by
  subst h0
  obtain ⟨fl, st', h1, r, r', rfl, h2, h3, h4, h5⟩ := h _ (spv_ok svs _)
  refine ⟨r', ?_, h3⟩
  unfold runF
  rw [h1]
  dsimp only
  unfold endD
  rw [h2]
  dsimp only
  rw [h5]
theorem fn_nx {n : Nat} {body : MS} (h0 : svs.map spv ++ List.replicate (n - svs.length) .any = ps) (h : Run body ps (.nx qs)) (ho : outsS svs qs = some os) : FR (runF n body) svs (.imm .non) os := by
  subst h0
  obtain ⟨fl, st', h1, rfl, h2⟩ := h _ (spv_ok svs _)
  refine ⟨.imm .non, ?_, rfl⟩
  unfold runF
  rw [h1]
  dsimp only
  unfold endD
  rw [show retD st' (.imm .non) = some (.imm .non) from rfl]
  dsimp only
  rw [outs_ok h2 ho]
theorem FR.cast {f : FM} (h : FR f svs k os) {k' : RK} (e : k = k') : FR f svs k' os := e ▸ h
end
end TL

/-! Layer T: typed values as data; what the operations do with them. -/
namespace TL
open PySem PySem.Spec PyProof.Rows L2 LD
abbrev tN (n : Nat) : D := .int (n : Int)
abbrev tZ (i : Int) : D := .int i
abbrev tB (b : Bool) : D := .bl b
abbrev tS (x : Str) : D := .str x
def tO {α : Type} (e : α → D) : Option α → D
  | none => .non
  | some x => e x
def tP {α β : Type} (e : α → D) (f : β → D) (p : α × β) : D := .tup [e p.1, f p.2]
def tP3 {α β γ : Type} (e : α → D) (f : β → D) (g : γ → D) (p : α × β × γ) : D := .tup [e p.1, f p.2.1, g p.2.2]
def tU (_ : Unit) : D := .non
section
variable {α β γ κ : Type} {e : α → D} {f : β → D}
/-! ### the same data as of another type -/
theorem map_NZ (xs : List Nat) : (xs.map fun (n : Nat) => (n : Int)).map tZ = xs.map tN := by rw [List.map_map]; rfl
theorem cast_T {α' : Type} {e' : α' → D} {c : α → α'} (h : ∀ a, e' (c a) = e a) (xs : List α) : tT e xs = tT e' (xs.map c) := by
  unfold tT
  rw [List.map_map]
  congr 1
  exact List.map_congr_left fun a _ => (h a).symm
theorem cast_L {α' : Type} {e' : α' → D} {c : α → α'} (h : ∀ a, e' (c a) = e a) (xs : List α) : tL e xs = tL e' (xs.map c) := by
  unfold tL
  rw [List.map_map]
  congr 1
  exact List.map_congr_left fun a _ => (h a).symm
theorem cast_O {α' : Type} {e' : α' → D} {c : α → α'} (h : ∀ a, e' (c a) = e a) (x : Option α) : tO e x = tO e' (x.map c) := by
  cases x with
  | none => rfl
  | some x => exact (h x).symm
/-! ### equality -/
structure Nice (e : α → D) (k : Nat) [DecidableEq α] : Prop where
  can : ∀ a, PyData.canLay0 (toPy (e a)) = true
  dep : ∀ a, PyData.depth (toPy (e a)) ≤ k
  eqv : ∀ a b, PyData.eqv (toPy (e a)) (toPy (e b)) = decide (a = b)
theorem shp_of {k : Nat} [DecidableEq α] (h : Nice e k) (hk : k ≤ 64 := by decide) (a : α) : shp (e a) = true := by
  have h1 := h.can a
  have h2 := h.dep a
  unfold shp SeqAt.shaped
  rw [h1, Bool.true_and]
  exact decide_eq_true (by omega)
theorem nice_N : Nice tN 0 := ⟨fun a => rfl, fun a => Nat.le_refl _, fun a b => by
  show ((a : Int) == (b : Int)) = _
  by_cases h : a = b
  · subst h; simp
  · have : ¬ (a : Int) = (b : Int) := by omega
    simp [h, this]⟩
theorem nice_Z : Nice tZ 0 := ⟨fun a => rfl, fun a => Nat.le_refl _, fun a b => by
  show (a == b) = _
  by_cases h : a = b <;> simp [h]⟩
theorem nice_B : Nice tB 0 := ⟨fun a => rfl, fun a => Nat.le_refl _, fun a b => by cases a <;> cases b <;> rfl⟩
theorem can_all {k : Nat} [DecidableEq α] (h : Nice e k) : ∀ xs : List α, PyData.canLayAll0 (toPys (xs.map e)) = true
  | [] => by simp [toPys, PyData.canLayAll0]
  | x :: xs => by simp [toPys, PyData.canLayAll0, h.can x, can_all h xs]
theorem dep_all {k : Nat} [DecidableEq α] (h : Nice e k) : ∀ xs : List α, PyData.depthAll (toPys (xs.map e)) ≤ k
  | [] => by simp [toPys, PyData.depthAll]
  | x :: xs => by
    have h1 := h.dep x
    have h2 := dep_all h xs
    simp [toPys, PyData.depthAll]
    omega
theorem eqv_all {k : Nat} [DecidableEq α] (h : Nice e k) : ∀ xs ys : List α, PyData.eqvAll (toPys (xs.map e)) (toPys (ys.map e)) = decide (xs = ys)
  | [], [] => by simp [toPys, PyData.eqvAll]
  | [], y :: ys => by simp [toPys, PyData.eqvAll]
  | x :: xs, [] => by simp [toPys, PyData.eqvAll]
  | x :: xs, y :: ys => by
    simp only [List.map_cons, toPys, PyData.eqvAll, h.eqv x y, eqv_all h xs ys, List.cons.injEq]
    by_cases h1 : x = y <;> by_cases h2 : xs = ys <;> simp [h1, h2]
theorem nice_T {k : Nat} [DecidableEq α] (h : Nice e k) : Nice (tT e) (k + 1) := ⟨fun a => by simp [tT, toPy, PyData.canLay0, can_all h], fun a => by
    have := dep_all h a
    simp [tT, toPy, PyData.depth]
    omega, fun a b => by
    simp only [tT, toPy, PyData.eqv]
    exact eqv_all h a b⟩
theorem nice_L {k : Nat} [DecidableEq α] (h : Nice e k) : Nice (tL e) (k + 1) := ⟨fun a => by simp [tL, toPy, PyData.canLay0, can_all h], fun a => by
    have := dep_all h a
    simp [tL, toPy, PyData.depth]
    omega, fun a b => by
    simp only [tL, toPy, PyData.eqv]
    exact eqv_all h a b⟩
theorem nice_P {k l : Nat} [DecidableEq α] [DecidableEq β] (h : Nice e k) (h2 : Nice f l) : Nice (tP e f) (max k l + 1) := ⟨fun a => by simp [tP, toPy, toPys, PyData.canLay0, PyData.canLayAll0, h.can, h2.can], fun a => by
    have := h.dep a.1
    have := h2.dep a.2
    simp [tP, toPy, toPys, PyData.depth, PyData.depthAll]
    omega, fun a b => by
    obtain ⟨a1, a2⟩ := a
    obtain ⟨b1, b2⟩ := b
    simp only [tP, toPy, toPys, PyData.eqv, PyData.eqvAll, h.eqv, h2.eqv, Prod.mk.injEq]
    by_cases q1 : a1 = b1 <;> by_cases q2 : a2 = b2 <;> simp [q1, q2]⟩
theorem nice_P3 {k l m : Nat} {g : γ → D} [DecidableEq α] [DecidableEq β] [DecidableEq γ] (h : Nice e k) (h2 : Nice f l) (h3 : Nice g m) : Nice (tP3 e f g) (max k (max l m) + 1) := ⟨fun a => by simp [tP3, toPy, toPys, PyData.canLay0, PyData.canLayAll0, h.can, h2.can, h3.can], fun a => by
    have := h.dep a.1
    have := h2.dep a.2.1
    have := h3.dep a.2.2
    simp [tP3, toPy, toPys, PyData.depth, PyData.depthAll]
    omega, fun a b => by
    obtain ⟨a1, a2, a3⟩ := a
    obtain ⟨b1, b2, b3⟩ := b
    simp only [tP3, toPy, toPys, PyData.eqv, PyData.eqvAll, h.eqv, h2.eqv, h3.eqv, Prod.mk.injEq]
    by_cases q1 : a1 = b1 <;> by_cases q2 : a2 = b2 <;> by_cases q3 : a3 = b3 <;> simp [q1, q2, q3]⟩
/-- never None -/
structure NN (e : α → D) : Prop where
  nn : ∀ a, e a ≠ .non
theorem nn_N : NN tN := ⟨fun _ => nofun⟩
theorem nn_Z : NN tZ := ⟨fun _ => nofun⟩
theorem nn_B : NN tB := ⟨fun _ => nofun⟩
theorem nn_T : NN (tT e) := ⟨fun _ => nofun⟩
theorem nn_L : NN (tL e) := ⟨fun _ => nofun⟩
theorem nn_P : NN (tP e f) := ⟨fun _ => nofun⟩
theorem nn_P3 {g : γ → D} : NN (tP3 e f g) := ⟨fun _ => nofun⟩
theorem eqv_non {d : D} (h : PyData.canLay0 (toPy d) = true) (n : d ≠ .non) : PyData.eqv .none (toPy d) = false ∧ PyData.eqv (toPy d) .none = false := by
  cases d <;> first
    | exact absurd rfl n
    | exact ⟨rfl, rfl⟩
    | simp [toPy, PyData.eqv]
theorem nice_O {k : Nat} [DecidableEq α] (h : Nice e k) (n : NN e) : Nice (tO e) k := ⟨fun a => by
    cases a with
    | none => rfl
    | some x => exact h.can x, fun a => by
    cases a with
    | none => simp [tO, toPy, PyData.depth]
    | some x => exact h.dep x, fun a b => by
    cases a with
    | none => cases b with
      | none => rfl
      | some y => exact (eqv_non (h.can y) (n.nn y)).1
    | some x => cases b with
      | none => exact (eqv_non (h.can x) (n.nn x)).2
      | some y =>
        rw [show tO e (some x) = e x from rfl, show tO e (some y) = e y from rfl, h.eqv]
        by_cases q : x = y <;> simp [q]⟩
theorem dEq_of {k : Nat} [DecidableEq α] (h : Nice e k) (hk : k ≤ 64 := by decide) (a b : α) : dEq (e a) (e b) = some (.imm (tB (decide (a = b)))) := by
  unfold dEq
  rw [if_pos ⟨shp_of h hk a, shp_of h hk b⟩, h.eqv]
  rfl
theorem dNe_of {k : Nat} [DecidableEq α] (h : Nice e k) (hk : k ≤ 64 := by decide) (a b : α) : dNe (e a) (e b) = some (.imm (tB (!decide (a = b)))) := by
  unfold dNe
  rw [if_pos ⟨shp_of h hk a, shp_of h hk b⟩, h.eqv]
  rfl
theorem two_split {g : Int → Int → Bool} {h : D → D → Option R} (x y : D) : (∃ i j, x = .int i ∧ y = .int j ∧ two g h x y = rb (g i j)) ∨ two g h x y = h x y := by
  cases x with
  | int i => cases y with
    | int j => exact .inl ⟨i, j, rfl, rfl, rfl⟩
    | _ => exact .inr rfl
  | _ => exact .inr rfl
theorem o_eq {k : Nat} [DecidableEq α] (h : Nice e k) (hk : k ≤ 64 := by decide) (a b : α) : dEqA (e a) (e b) = some (.imm (tB (decide (a = b)))) := by
  rcases two_split (g := fun i j => decide (i = j)) (h := dEq) (e a) (e b) with ⟨i, j, e1, e2, e3⟩ | h1
  · have e4 := h.eqv a b
    rw [e1, e2] at e4
    have e4 : (i == j) = decide (a = b) := e4
    show two _ _ _ _ = _
    rw [e3, ← e4]
    by_cases q : i = j <;> simp [q, rb]
  · show two _ _ _ _ = _
    rw [h1]
    exact dEq_of h hk a b
theorem o_ne {k : Nat} [DecidableEq α] (h : Nice e k) (hk : k ≤ 64 := by decide) (a b : α) : dNeA (e a) (e b) = some (.imm (tB (!decide (a = b)))) := by
  rcases two_split (g := fun i j => !decide (i = j)) (h := dNe) (e a) (e b) with ⟨i, j, e1, e2, e3⟩ | h1
  · have e4 := h.eqv a b
    rw [e1, e2] at e4
    have e4 : (i == j) = decide (a = b) := e4
    show two _ _ _ _ = _
    rw [e3, ← e4]
    by_cases q : i = j <;> simp [q, rb]
  · show two _ _ _ _ = _
    rw [h1]
    exact dNe_of h hk a b
theorem any_eq {k : Nat} [DecidableEq α] (h : Nice e k) (a : α) : ∀ xs : List α, ((xs.map e).any fun z => eqD z (e a)) = decide (a ∈ xs)
  | [] => by simp
  | x :: xs => by
    rw [List.map_cons, List.any_cons, any_eq h a xs]
    show (PyData.eqv (toPy (e x)) (toPy (e a)) || _) = _
    rw [h.eqv]
    by_cases q : x = a
    · subst q; simp
    · have q' : ¬ a = x := fun z => q z.symm
      simp [q, q']
theorem shp_lst {k : Nat} [DecidableEq α] (h : Nice e k) (hk : k + 1 ≤ 64 := by decide) (xs : List α) : shp (.lst (xs.map e)) = true ∧ shp (.tup (xs.map e)) = true :=
  ⟨shp_of (nice_L h) hk xs, shp_of (nice_T h) hk xs⟩
theorem o_inL {k : Nat} [DecidableEq α] (h : Nice e k) (hk : k + 1 ≤ 64 := by decide) (a : α) (xs : List α) : dInB (e a) (tL e xs) = some (.imm (tB (decide (a ∈ xs)))) := by
  show (if shp (e a) = true ∧ shp (.lst (xs.map e)) = true then rb ((xs.map e).any fun z => eqD z (e a)) else none) = _
  rw [if_pos ⟨shp_of h (by omega) a, (shp_lst h hk xs).1⟩, any_eq h]
  rfl
theorem o_inT {k : Nat} [DecidableEq α] (h : Nice e k) (hk : k + 1 ≤ 64 := by decide) (a : α) (xs : List α) : dInB (e a) (tT e xs) = some (.imm (tB (decide (a ∈ xs)))) := by
  show (if shp (e a) = true ∧ shp (.tup (xs.map e)) = true then rb ((xs.map e).any fun z => eqD z (e a)) else none) = _
  rw [if_pos ⟨shp_of h (by omega) a, (shp_lst h hk xs).2⟩, any_eq h]
  rfl
theorem o_ninL {k : Nat} [DecidableEq α] (h : Nice e k) (hk : k + 1 ≤ 64 := by decide) (a : α) (xs : List α) : dNotInB (e a) (tL e xs) = some (.imm (tB (!decide (a ∈ xs)))) := by
  show (if shp (e a) = true ∧ shp (.lst (xs.map e)) = true then rb (!(xs.map e).any fun z => eqD z (e a)) else none) = _
  rw [if_pos ⟨shp_of h (by omega) a, (shp_lst h hk xs).1⟩, any_eq h]
  rfl
theorem o_ninT {k : Nat} [DecidableEq α] (h : Nice e k) (hk : k + 1 ≤ 64 := by decide) (a : α) (xs : List α) : dNotInB (e a) (tT e xs) = some (.imm (tB (!decide (a ∈ xs)))) := by
  show (if shp (e a) = true ∧ shp (.tup (xs.map e)) = true then rb (!(xs.map e).any fun z => eqD z (e a)) else none) = _
  rw [if_pos ⟨shp_of h (by omega) a, (shp_lst h hk xs).2⟩, any_eq h]
  rfl
/-- a member of a pair -/
theorem o_inP {k : Nat} [DecidableEq α] (h : Nice e k) (hk : k + 1 ≤ 64 := by decide) (a : α) (p : α × α) : dInB (e a) (tP e e p) = some (.imm (tB (decide (a = p.1) || decide (a = p.2)))) := by
  have := o_inT h hk a [p.1, p.2]
  have e1 : tT e [p.1, p.2] = tP e e p := rfl
  rw [e1] at this
  rw [this]
  simp
theorem o_ninP {k : Nat} [DecidableEq α] (h : Nice e k) (hk : k + 1 ≤ 64 := by decide) (a : α) (p : α × α) : dNotInB (e a) (tP e e p) = some (.imm (tB (!(decide (a = p.1) || decide (a = p.2))))) := by
  have := o_ninT h hk a [p.1, p.2]
  have e1 : tT e [p.1, p.2] = tP e e p := rfl
  rw [e1] at this
  rw [this]
  simp
/-! ### is None -/
theorem o_isN (n : NN e) (x : Option α) : dIsN (tO e x) .non = some (.imm (tB x.isNone)) := by
  cases x with
  | none => rfl
  | some x =>
    show rb (isN (e x)) = _
    have := n.nn x
    cases q : e x <;> first | rfl | exact absurd q this
theorem o_notN (n : NN e) (x : Option α) : dNotN (tO e x) .non = some (.imm (tB x.isSome)) := by
  cases x with
  | none => rfl
  | some x =>
    show rb (!isN (e x)) = _
    have := n.nn x
    cases q : e x <;> first | rfl | exact absurd q this
/-! ### order -/
/-- a strict order of all -/
structure Lin (lt : α → α → Bool) : Prop where
  irr : ∀ a, lt a a = false
  trans : ∀ a b c, lt a b = true → lt b c = true → lt a c = true
  tri : ∀ a b, lt a b = false → lt b a = false → a = b
structure Cmp (e : α → D) (lt : α → α → Bool) (k : Nat) [DecidableEq α] : Prop where
  nice : Nice e k
  lin : Lin lt
  alike : ∀ a b, PySem.W.alike (toPy (e a)) (toPy (e b)) = true
  nn : NN e
  lt : ∀ a b, PySem.W.dataLt (toPy (e a)) (toPy (e b)) = lt a b
def ltN (a b : Nat) : Bool := decide (a < b)
def ltZ (a b : Int) : Bool := decide (a < b)
def ltT [DecidableEq α] (lt : α → α → Bool) : List α → List α → Bool
  | [], [] => false
  | [], _ :: _ => true
  | _ :: _, [] => false
  | x :: xs, y :: ys => bif decide (x = y) then ltT lt xs ys else lt x y
def ltPr [DecidableEq α] (lt : α → α → Bool) (lt' : β → β → Bool) (p q : α × β) : Bool := bif decide (p.1 = q.1) then lt' p.2 q.2 else lt p.1 q.1
theorem lin_N : Lin ltN := ⟨fun a => by simp [ltN], fun a b c h h' => by simp [ltN] at *; omega, fun a b h h' => by simp [ltN] at *; omega⟩
theorem lin_Z : Lin ltZ := ⟨fun a => by simp [ltZ], fun a b c h h' => by simp [ltZ] at *; omega, fun a b h h' => by simp [ltZ] at *; omega⟩
theorem ltT_irr [DecidableEq α] {lt : α → α → Bool} (h : Lin lt) : ∀ a, ltT lt a a = false
  | [] => rfl
  | x :: xs => by simp [ltT, ltT_irr h xs]
theorem ltT_trans [DecidableEq α] {lt : α → α → Bool} (h : Lin lt) : ∀ a b c, ltT lt a b = true → ltT lt b c = true → ltT lt a c = true
  | [], [], _, q, _ => by cases q
  | [], _ :: _, [], _, q => by cases q
  | [], _ :: _, _ :: _, _, _ => rfl
  | _ :: _, [], _, q, _ => by cases q
  | _ :: _, _ :: _, [], _, q => by cases q
  | x :: xs, y :: ys, z :: zs, q, q' => by
    unfold ltT at *
    by_cases e1 : x = y
    · subst e1
      rw [decide_eq_true rfl] at q
      by_cases e2 : x = z
      · subst e2
        rw [decide_eq_true rfl] at q' ⊢
        exact ltT_trans h xs ys zs q q'
      · rw [decide_eq_false e2] at q' ⊢
        exact q'
    · rw [decide_eq_false e1] at q
      by_cases e2 : y = z
      · subst e2
        rw [decide_eq_false e1]
        exact q
      · rw [decide_eq_false e2] at q'
        have e3 : ¬ x = z := fun e => by
          subst e
          have := h.trans x y x q q'
          rw [h.irr] at this; cases this
        rw [decide_eq_false e3]
        exact h.trans x y z q q'
theorem ltT_tri [DecidableEq α] {lt : α → α → Bool} (h : Lin lt) : ∀ a b, ltT lt a b = false → ltT lt b a = false → a = b
  | [], [], _, _ => rfl
  | [], _ :: _, q, _ => by cases q
  | _ :: _, [], _, q => by cases q
  | x :: xs, y :: ys, q, q' => by
    unfold ltT at *
    by_cases e1 : x = y
    · subst e1
      rw [decide_eq_true rfl] at q q'
      rw [ltT_tri h xs ys q q']
    · have e2 : ¬ y = x := fun e => e1 e.symm
      rw [decide_eq_false e1] at q
      rw [decide_eq_false e2] at q'
      exact absurd (h.tri x y q q') e1
theorem lin_T [DecidableEq α] {lt : α → α → Bool} (h : Lin lt) : Lin (ltT lt) := ⟨ltT_irr h, ltT_trans h, ltT_tri h⟩
theorem lin_P [DecidableEq α] [DecidableEq β] {lt : α → α → Bool} {lt' : β → β → Bool} (h : Lin lt) (h' : Lin lt') : Lin (ltPr lt lt') := ⟨fun a => by simp [ltPr, h'.irr], fun a b c q q' => by
  obtain ⟨x, u⟩ := a
  obtain ⟨y, v⟩ := b
  obtain ⟨z, w⟩ := c
  unfold ltPr at *
  dsimp only at *
  by_cases e1 : x = y
  · subst e1
    rw [decide_eq_true rfl] at q
    by_cases e2 : x = z
    · subst e2
      rw [decide_eq_true rfl] at q' ⊢
      exact h'.trans _ _ _ q q'
    · rw [decide_eq_false e2] at q' ⊢
      exact q'
  · rw [decide_eq_false e1] at q
    by_cases e2 : y = z
    · subst e2
      rw [decide_eq_false e1]
      exact q
    · rw [decide_eq_false e2] at q'
      have e3 : ¬ x = z := fun e => by
        subst e
        have := h.trans x y x q q'
        rw [h.irr] at this; cases this
      rw [decide_eq_false e3]
      exact h.trans x y z q q', fun a b q q' => by
  obtain ⟨x, u⟩ := a
  obtain ⟨y, v⟩ := b
  unfold ltPr at *
  dsimp only at *
  by_cases e1 : x = y
  · subst e1
    rw [decide_eq_true rfl] at q q'
    rw [h'.tri _ _ q q']
  · have e2 : ¬ y = x := fun e => e1 e.symm
    rw [decide_eq_false e1] at q
    rw [decide_eq_false e2] at q'
    exact absurd (h.tri x y q q') e1⟩
theorem isNone_of (n : NN e) (a : α) (c : PyData.canLay0 (toPy (e a)) = true) : isNone (toPy (e a)) = false := by
  have := n.nn a
  cases q : e a <;> first | rfl | exact absurd q this
theorem cmp_Z : Cmp tZ ltZ 0 := ⟨nice_Z, lin_Z, fun _ _ => rfl, nn_Z, fun a b => by
  show PySem.W.dataLt (.int a) (.int b) = _
  simp [PySem.W.dataLt, PySem.W.keyToks, PyProof.Rows.lexLt, PyProof.Rows.itemLt, ltZ]⟩
theorem cmp_N : Cmp tN ltN 0 := ⟨nice_N, lin_N, fun _ _ => rfl, nn_N, fun a b => by
  show PySem.W.dataLt (.int a) (.int b) = _
  simp [PySem.W.dataLt, PySem.W.keyToks, PyProof.Rows.lexLt, PyProof.Rows.itemLt, ltN]⟩
theorem alike_all {lt : α → α → Bool} {k : Nat} [DecidableEq α] (h : Cmp e lt k) : ∀ xs ys : List α, PySem.W.alikeAll (toPys (xs.map e)) (toPys (ys.map e)) = true
  | [], _ => by simp [toPys, PySem.W.alikeAll]
  | _ :: _, [] => by simp [toPys, PySem.W.alikeAll]
  | x :: xs, y :: ys => by simp [toPys, PySem.W.alikeAll, h.alike, alike_all h xs ys]
theorem lex_one (r t : List (Int ⊕ List Nat)) (a : Int ⊕ List Nat) : PyProof.Rows.lexLt PyProof.Rows.itemOrd (a :: r) (a :: t) = PyProof.Rows.lexLt PyProof.Rows.itemOrd r t := PyProof.Rows.lex_self (O := PyProof.Rows.itemOrd) a r t
theorem toks_all {lt : α → α → Bool} {k : Nat} [DecidableEq α] (h : Cmp e lt k) : ∀ xs ys : List α, PyProof.Rows.lexLt PyProof.Rows.itemOrd (PySem.W.keyToksAll (toPys (xs.map e))) (PySem.W.keyToksAll (toPys (ys.map e))) = ltT lt xs ys
  | [], [] => by simp [toPys, PySem.W.keyToksAll, PyProof.Rows.lexLt, PyProof.Rows.itemLt, ltT]
  | [], y :: ys => by simp [toPys, PySem.W.keyToksAll, PyProof.Rows.lexLt, PyProof.Rows.itemLt, ltT]
  | x :: xs, [] => by simp [toPys, PySem.W.keyToksAll, PyProof.Rows.lexLt, PyProof.Rows.itemLt, ltT]
  | x :: xs, y :: ys => by
    have ih := toks_all h xs ys
    simp only [List.map_cons, toPys, PySem.W.keyToksAll, ltT]
    rw [lex_one]
    obtain ⟨t1, t2⟩ := PySem.W.toks_eqv _ _ (h.alike x y)
    rw [h.nice.eqv] at t1 t2
    by_cases q : x = y
    · rw [decide_eq_true q] at t1
      rw [decide_eq_true q, t1 rfl, PySem.W.lex_pre, cond_true, ih]
    · rw [decide_eq_false q] at t2
      rw [decide_eq_false q, t2 rfl, cond_false]
      exact h.lt x y
theorem cmp_T {lt : α → α → Bool} {k : Nat} [DecidableEq α] (h : Cmp e lt k) : Cmp (tT e) (ltT lt) (k + 1) := ⟨nice_T h.nice, lin_T h.lin, fun a b => by simp [tT, toPy, PySem.W.alike, alike_all h], nn_T, fun a b => by
  show PyProof.Rows.lexLt PyProof.Rows.itemOrd (PySem.W.keyToks (toPy (tT e a))) (PySem.W.keyToks (toPy (tT e b))) = _
  simp only [tT, toPy, PySem.W.keyToks]
  exact toks_all h a b⟩
theorem cmp_P {lt : α → α → Bool} {lt' : β → β → Bool} {k l : Nat} [DecidableEq α] [DecidableEq β] (h : Cmp e lt k) (h' : Cmp f lt' l) : Cmp (tP e f) (ltPr lt lt') (max k l + 1) := ⟨nice_P h.nice h'.nice, lin_P h.lin h'.lin, fun a b => by simp [tP, toPy, toPys, PySem.W.alike, PySem.W.alikeAll, h.alike, h'.alike], nn_P, fun a b => by
  obtain ⟨a1, a2⟩ := a
  obtain ⟨b1, b2⟩ := b
  show PyProof.Rows.lexLt PyProof.Rows.itemOrd (PySem.W.keyToks (toPy (tP e f (a1, a2)))) (PySem.W.keyToks (toPy (tP e f (b1, b2)))) = _
  simp only [tP, toPy, toPys, PySem.W.keyToks, PySem.W.keyToksAll, ltPr]
  rw [lex_one]
  obtain ⟨t1, t2⟩ := PySem.W.toks_eqv _ _ (h.alike a1 b1)
  obtain ⟨t3, t4⟩ := PySem.W.toks_eqv _ _ (h'.alike a2 b2)
  rw [h.nice.eqv] at t1 t2
  rw [h'.nice.eqv] at t3 t4
  by_cases q : a1 = b1
  · rw [decide_eq_true q] at t1
    rw [decide_eq_true q, t1 rfl, PySem.W.lex_pre, cond_true, lex_one]
    by_cases q2 : a2 = b2
    · rw [decide_eq_true q2] at t3
      have h3 := h'.lt a2 b2
      unfold PySem.W.dataLt at h3
      rw [t3 rfl] at h3
      rw [t3 rfl, PySem.W.lex_pre, ← h3, ← List.append_nil (PySem.W.keyToks (toPy (f b2))), PySem.W.lex_pre]
      simp [PyProof.Rows.lexLt, PyProof.Rows.itemLt]
    · rw [decide_eq_false q2] at t4
      rw [t4 rfl]
      exact h'.lt a2 b2
  · rw [decide_eq_false q] at t2
    rw [decide_eq_false q, t2 rfl, cond_false]
    exact h.lt a1 b1⟩
section
variable {lt : α → α → Bool} {k : Nat} [DecidableEq α]
theorem okLt_of (h : Cmp e lt k) (hk : k ≤ 64) (a b : α) : okLt (e a) (e b) = true := by
  unfold okLt
  rw [shp_of h.nice hk a, shp_of h.nice hk b, h.alike, isNone_of h.nn a (h.nice.can a)]
  rfl
theorem ltD_of (h : Cmp e lt k) (a b : α) : ltD (e a) (e b) = lt a b := h.lt a b
theorem o_cmp (h : Cmp e lt k) (hk : k ≤ 64 := by decide) (a b : α) : dLtA (e a) (e b) = some (.imm (tB (lt a b))) ∧ dGtA (e a) (e b) = some (.imm (tB (lt b a))) ∧ dLeA (e a) (e b) = some (.imm (tB (!lt b a))) ∧ dGeA (e a) (e b) = some (.imm (tB (!lt a b))) := by
  have main : ∀ (g : Int → Int → Bool) (hh : D → D → Option R) (z : Bool), hh (e a) (e b) = rb z → (∀ i j, e a = .int i → e b = .int j → g i j = z) → two g hh (e a) (e b) = some (.imm (tB z)) := by
    intro g hh z h1 h2
    rcases two_split (g := g) (h := hh) (e a) (e b) with ⟨i, j, e1, e2, e3⟩ | h3
    · rw [e3, h2 i j e1 e2]; rfl
    · rw [h3, h1]; rfl
  have li : ∀ (x y : α) (i j : Int), e x = .int i → e y = .int j → lt x y = decide (i < j) := fun x y i j e1 e2 => by
    rw [← h.lt x y, e1, e2]
    simp [toPy, PySem.W.dataLt, PySem.W.keyToks, PyProof.Rows.lexLt, PyProof.Rows.itemLt]
  refine ⟨main _ _ _ ?_ ?_, main _ _ _ ?_ ?_, main _ _ _ ?_ ?_, main _ _ _ ?_ ?_⟩
  · unfold dLtD; rw [if_pos (okLt_of h hk a b), ltD_of h]
  · intro i j e1 e2; rw [li a b i j e1 e2]
  · unfold dGtD; rw [if_pos (okLt_of h hk a b), ltD_of h]
  · intro i j e1 e2; rw [li b a j i e2 e1]
  · unfold dLeD; rw [if_pos (okLt_of h hk a b), ltD_of h]
  · intro i j e1 e2; rw [li b a j i e2 e1]
    by_cases q : j < i
    · have : ¬ i ≤ j := by omega
      simp [q, this]
    · have : i ≤ j := by omega
      simp [q, this]
  · unfold dGeD; rw [if_pos (okLt_of h hk a b), ltD_of h]
  · intro i j e1 e2; rw [li a b i j e1 e2]
    by_cases q : i < j
    · have : ¬ j ≤ i := by omega
      simp [q, this]
    · have : j ≤ i := by omega
      simp [q, this]
theorem o_lt (h : Cmp e lt k) (hk : k ≤ 64 := by decide) (a b : α) : dLtA (e a) (e b) = some (.imm (tB (lt a b))) := (o_cmp h hk a b).1
theorem o_gt (h : Cmp e lt k) (hk : k ≤ 64 := by decide) (a b : α) : dGtA (e a) (e b) = some (.imm (tB (lt b a))) := (o_cmp h hk a b).2.1
theorem o_le (h : Cmp e lt k) (hk : k ≤ 64 := by decide) (a b : α) : dLeA (e a) (e b) = some (.imm (tB (!lt b a))) := (o_cmp h hk a b).2.2.1
theorem o_ge (h : Cmp e lt k) (hk : k ≤ 64 := by decide) (a b : α) : dGeA (e a) (e b) = some (.imm (tB (!lt a b))) := (o_cmp h hk a b).2.2.2
def minO (lt : α → α → Bool) : List α → Option α
  | [] => none
  | x :: xs => some (xs.foldl (fun a y => bif lt y a then y else a) x)
def maxO (lt : α → α → Bool) : List α → Option α
  | [] => none
  | x :: xs => some (xs.foldl (fun a y => bif lt a y then y else a) x)
theorem okMin_of (h : Cmp e lt k) (hk : k + 1 ≤ 64) (xs : List α) : okMin (xs.map e) = true := by
  unfold okMin alikes
  rw [(shp_lst h.nice hk xs).1, Bool.true_and, Bool.and_eq_true]
  refine ⟨List.all_eq_true.mpr fun x hx => List.all_eq_true.mpr fun y hy => ?_, List.all_eq_true.mpr fun x hx => ?_⟩
  · obtain ⟨x', _, rfl⟩ := List.mem_map.mp hx
    obtain ⟨y', _, rfl⟩ := List.mem_map.mp hy
    exact h.alike x' y'
  · obtain ⟨x', _, rfl⟩ := List.mem_map.mp hx
    rw [isNone_of h.nn x' (h.nice.can x')]
    rfl
theorem minDD_of (h : Cmp e lt k) : ∀ (xs : List α) (x : α), minDD (e x) (xs.map e) = e (xs.foldl (fun a y => bif lt y a then y else a) x)
  | [], x => rfl
  | y :: xs, x => by
    have e1 : minDD (e x) ((y :: xs).map e) = minDD (if ltD (e y) (e x) = true then e y else e x) (xs.map e) := rfl
    rw [e1, ltD_of h, List.foldl_cons]
    cases q : lt y x with
    | true => rw [if_pos rfl]; exact minDD_of h xs y
    | false => rw [if_neg Bool.false_ne_true]; exact minDD_of h xs x
theorem maxDD_of (h : Cmp e lt k) : ∀ (xs : List α) (x : α), maxDD (e x) (xs.map e) = e (xs.foldl (fun a y => bif lt a y then y else a) x)
  | [], x => rfl
  | y :: xs, x => by
    have e1 : maxDD (e x) ((y :: xs).map e) = maxDD (if ltD (e x) (e y) = true then e y else e x) (xs.map e) := rfl
    rw [e1, ltD_of h, List.foldl_cons]
    cases q : lt x y with
    | true => rw [if_pos rfl]; exact maxDD_of h xs y
    | false => rw [if_neg Bool.false_ne_true]; exact maxDD_of h xs x
theorem o_minL (h : Cmp e lt k) (hk : k + 1 ≤ 64 := by decide) {xs : List α} {z : α} (q : minO lt xs = some z) : dMinA [tL e xs] = some (.imm (e z)) := by
  cases xs with
  | nil => cases q
  | cons x xs =>
    cases q
    have e1 : dMinL [tL e (x :: xs)] = some (.imm (minDD (e x) (xs.map e))) := by
      show (if okMin ((x :: xs).map e) = true then _ else _) = _
      rw [if_pos (okMin_of h hk (x :: xs))]
    unfold dMinA
    rw [e1, minDD_of h]
theorem o_minT (h : Cmp e lt k) (hk : k + 1 ≤ 64 := by decide) {xs : List α} {z : α} (q : minO lt xs = some z) : dMinA [tT e xs] = some (.imm (e z)) := by
  cases xs with
  | nil => cases q
  | cons x xs =>
    cases q
    have e1 : dMinT [tT e (x :: xs)] = some (.imm (minDD (e x) (xs.map e))) := by
      show (if okMin ((x :: xs).map e) = true then _ else _) = _
      rw [if_pos (okMin_of h hk (x :: xs))]
    have e2 : dMinL [tT e (x :: xs)] = none := rfl
    unfold dMinA
    rw [e2]
    dsimp only
    rw [e1, minDD_of h]
theorem o_maxL (h : Cmp e lt k) (hk : k + 1 ≤ 64 := by decide) {xs : List α} {z : α} (q : maxO lt xs = some z) : dMaxA [tL e xs] = some (.imm (e z)) := by
  cases xs with
  | nil => cases q
  | cons x xs =>
    cases q
    have e1 : dMaxL [tL e (x :: xs)] = some (.imm (maxDD (e x) (xs.map e))) := by
      show (if okMin ((x :: xs).map e) = true then _ else _) = _
      rw [if_pos (okMin_of h hk (x :: xs))]
    unfold dMaxA
    rw [e1, maxDD_of h]
theorem o_maxT (h : Cmp e lt k) (hk : k + 1 ≤ 64 := by decide) {xs : List α} {z : α} (q : maxO lt xs = some z) : dMaxA [tT e xs] = some (.imm (e z)) := by
  cases xs with
  | nil => cases q
  | cons x xs =>
    cases q
    have e1 : dMaxT [tT e (x :: xs)] = some (.imm (maxDD (e x) (xs.map e))) := by
      show (if okMin ((x :: xs).map e) = true then _ else _) = _
      rw [if_pos (okMin_of h hk (x :: xs))]
    have e2 : dMaxL [tT e (x :: xs)] = none := rfl
    unfold dMaxA
    rw [e2]
    dsimp only
    rw [e1, maxDD_of h]
end
/-! ### numbers -/
theorem o_addN (a b : Nat) : dAdd (tN a) (tN b) = some (.imm (tN (a + b))) := by
  show some (R.imm (.int _)) = some (R.imm (.int _))
  congr 3
theorem o_addZ (a b : Int) : dAdd (tZ a) (tZ b) = some (.imm (tZ (a + b))) := rfl
theorem o_subZ (a b : Int) : dSub (tZ a) (tZ b) = some (.imm (tZ (a - b))) := rfl
theorem o_subNZ (a b : Nat) : dSub (tN a) (tN b) = some (.imm (tZ ((a : Int) - b))) := rfl
def subN (a b : Nat) : Option Nat := if b ≤ a then some (a - b) else none
theorem o_subN {a b c : Nat} (h : subN a b = some c) : dSub (tN a) (tN b) = some (.imm (tN c)) := by
  unfold subN at h
  split at h <;> cases h
  show some (R.imm (.int _)) = some (R.imm (.int _))
  congr 3
  omega
theorem o_absZ (a : Int) : dAbs [tZ a] = some (.imm (tN a.natAbs)) := by
  show some (R.imm (.int _)) = some (R.imm (.int _))
  congr 3
  split <;> omega
/-- a factor that is small -/
theorem mul_core (a b : Nat) (h : CMul (a : Int) (b : Int)) : dMulA (tN a) (tN b) = some (.imm (tN (a * b))) := by
  have e : dMulA (tN a) (tN b) = if CMul (a : Int) (b : Int) then ri ((a : Int) * (b : Int)) else none := rfl
  rw [e, if_pos h]
  show some (R.imm (.int ((a : Int) * (b : Int)))) = some (R.imm (.int ((a * b : Nat) : Int)))
  rw [Int.natCast_mul]
theorem o_mulNl (a b : Nat) (h : a < 18446744073709551616 := by decide) : dMulA (tN a) (tN b) = some (.imm (tN (a * b))) := mul_core a b (by unfold CMul; omega)
theorem o_mulNr (a b : Nat) (h : b < 18446744073709551616 := by decide) : dMulA (tN a) (tN b) = some (.imm (tN (a * b))) := mul_core a b (by unfold CMul; omega)
def mulN (a b : Nat) : Option Nat := if a < 18446744073709551616 then some (a * b) else none
theorem o_mulN {a b c : Nat} (h : mulN a b = some c) : dMulA (tN a) (tN b) = some (.imm (tN c)) := by
  unfold mulN at h
  split at h <;> cases h
  exact o_mulNl a b (by assumption)
def mulZ (a b : Int) : Option Int := if CMul a b then some (a * b) else none
theorem o_mulZ {a b c : Int} (h : mulZ a b = some c) : dMulA (tZ a) (tZ b) = some (.imm (tZ c)) := by
  unfold mulZ at h
  split at h <;> cases h
  show (if CMul a b then _ else _) = _
  rw [if_pos (by assumption)]
  rfl
def divN (a b : Nat) : Option Nat := if 0 < b ∧ b < 1073741824 then some (a / b) else none
theorem o_divN {a b c : Nat} (h : divN a b = some c) : dDiv (tN a) (tN b) = some (.imm (tN c)) := by
  unfold divN at h
  split at h <;> cases h
  rename_i h
  show (if CDiv a b then _ else _) = _
  rw [if_pos ⟨by omega, by omega⟩]
  show some (R.imm (.int _)) = some (R.imm (.int _))
  congr 3
def modN (a b : Nat) : Option Nat := if 0 < b then some (a % b) else none
theorem o_modN {a b c : Nat} (h : modN a b = some c) : dMod (tN a) (tN b) = some (.imm (tN c)) := by
  unfold modN at h
  split at h <;> cases h
  rename_i h
  show (if (0 : Int) < b then _ else _) = _
  rw [if_pos (by omega)]
  show some (R.imm (.int _)) = some (R.imm (.int _))
  congr 3
theorem o_divNc (a b : Nat) (h : 0 < b ∧ b < 1073741824 := by decide) : dDiv (tN a) (tN b) = some (.imm (tN (a / b))) := o_divN (by unfold divN; rw [if_pos h])
theorem o_modNc (a b : Nat) (h : 0 < b := by decide) : dMod (tN a) (tN b) = some (.imm (tN (a % b))) := o_modN (by unfold modN; rw [if_pos h])
def divZ (a b : Int) : Option Int := if CDiv a b then some (a / b) else none
theorem o_divZ {a b c : Int} (h : divZ a b = some c) : dDiv (tZ a) (tZ b) = some (.imm (tZ c)) := by
  unfold divZ at h
  split at h <;> cases h
  show (if CDiv a b then _ else _) = _
  rw [if_pos (by assumption)]
  rfl
def modZ (a b : Int) : Option Int := if 0 < b then some (a % b) else none
theorem o_modZ {a b c : Int} (h : modZ a b = some c) : dMod (tZ a) (tZ b) = some (.imm (tZ c)) := by
  unfold modZ at h
  split at h <;> cases h
  show (if 0 < b then _ else _) = _
  rw [if_pos (by assumption)]
  rfl
def shlN (a b : Nat) : Option Nat := if a < 18446744073709551616 ∧ b ≤ 1000000 then some (a * 2 ^ b) else none
theorem o_shlN {a b c : Nat} (h : shlN a b = some c) : dShl (tN a) (tN b) = some (.imm (tN c)) := by
  unfold shlN at h
  split at h <;> cases h
  rename_i h
  show (if CPow a b then _ else _) = _
  rw [if_pos ⟨by omega, by omega, by simpa using h.1⟩]
  show some (R.imm (.int _)) = some (R.imm (.int _))
  congr 3
theorem o_negN (a : Nat) : dNeg (tN a) = some (.imm (tZ (-(a : Int)))) := rfl
theorem o_negZ (a : Int) : dNeg (tZ a) = some (.imm (tZ (-a))) := rfl
theorem o_min2N (a b : Nat) : dMin2 [tN a, tN b] = some (.imm (tN (min a b))) := by
  show some (R.imm (.int _)) = some (R.imm (.int _))
  congr 3
  omega
theorem o_max2N (a b : Nat) : dMax2 [tN a, tN b] = some (.imm (tN (max a b))) := by
  show some (R.imm (.int _)) = some (R.imm (.int _))
  congr 3
  omega
theorem o_min2Z (a b : Int) : dMin2 [tZ a, tZ b] = some (.imm (tZ (min a b))) := by
  show some (R.imm (.int _)) = some (R.imm (.int _))
  congr 3
  omega
theorem o_max2Z (a b : Int) : dMax2 [tZ a, tZ b] = some (.imm (tZ (max a b))) := by
  show some (R.imm (.int _)) = some (R.imm (.int _))
  congr 3
  omega
theorem o_intN (a : Nat) : dInt [tN a] = some (.imm (tN a)) := rfl
theorem o_intZ (a : Int) : dInt [tZ a] = some (.imm (tZ a)) := rfl
theorem o_intB (a : Bool) : dInt [tB a] = some (.imm (tN (bif a then 1 else 0))) := by cases a <;> rfl
/-! ### rows -/
theorem o_lenL (xs : List α) : dLen [tL e xs] = some (.imm (tN xs.length)) := by
  show some (R.imm (.int ((xs.map e).length : Nat))) = _
  rw [List.length_map]
theorem o_lenT (xs : List α) : dLen [tT e xs] = some (.imm (tN xs.length)) := by
  show some (R.imm (.int ((xs.map e).length : Nat))) = _
  rw [List.length_map]
theorem nums_N : ∀ xs : List Nat, nums (xs.map tN) = some (xs.map fun (n : Nat) => (n : Int))
  | [] => rfl
  | x :: xs => by rw [List.map_cons, nums, nums_N xs]; rfl
theorem nums_Z : ∀ xs : List Int, nums (xs.map tZ) = some xs
  | [] => rfl
  | x :: xs => by rw [List.map_cons, nums, nums_Z xs]
theorem sum_cast : ∀ xs : List Nat, (xs.map fun (n : Nat) => (n : Int)).sum = ((xs.sum : Nat) : Int)
  | [] => rfl
  | x :: xs => by rw [List.map_cons, List.sum_cons, List.sum_cons, sum_cast xs]; omega
theorem o_sumLN (xs : List Nat) : dSumA [tL tN xs] = some (.imm (tN xs.sum)) := by
  show (match nums (xs.map tN) with | some ns => ri ns.sum | none => none) = _
  rw [nums_N]
  show some (R.imm (.int _)) = _
  rw [sum_cast]
theorem o_sumTN (xs : List Nat) : dSumA [tT tN xs] = some (.imm (tN xs.sum)) := o_sumLN xs
theorem o_sumLZ (xs : List Int) : dSumA [tL tZ xs] = some (.imm (tZ xs.sum)) := by
  show (match nums (xs.map tZ) with | some ns => ri ns.sum | none => none) = _
  rw [nums_Z]
  rfl
theorem o_sumTZ (xs : List Int) : dSumA [tT tZ xs] = some (.imm (tZ xs.sum)) := o_sumLZ xs
theorem bls_B : ∀ xs : List Bool, bls (xs.map tB) = some xs
  | [] => rfl
  | x :: xs => by rw [List.map_cons, bls, bls_B xs]
theorem o_all (xs : List Bool) : dAll [tL tB xs] = some (.imm (tB (xs.all id))) := by
  show (match bls (xs.map tB) with | some bs => rb (bs.all id) | none => none) = _
  rw [bls_B]
  rfl
theorem o_any (xs : List Bool) : dAny [tL tB xs] = some (.imm (tB (xs.any id))) := by
  show (match bls (xs.map tB) with | some bs => rb (bs.any id) | none => none) = _
  rw [bls_B]
  rfl
theorem o_listL (xs : List α) : dListA [tL e xs] = some (.own (tL e xs)) := rfl
theorem o_listT (xs : List α) : dListA [tT e xs] = some (.own (tL e xs)) := rfl
theorem o_tupL (xs : List α) : dTuple [tL e xs] = some (.imm (tT e xs)) := rfl
theorem o_tupT (xs : List α) : dTuple [tT e xs] = some (.imm (tT e xs)) := rfl
/-! items -/
theorem atI_nat {δ : Type} (xs : List δ) (n : Nat) : atI xs (n : Int) = xs[n]? := by
  unfold atI ixN
  rw [if_pos (by omega)]
  by_cases h : n < xs.length
  · rw [if_pos (by omega)]
    rfl
  · rw [if_neg (by omega)]
    simp at h
    exact (List.getElem?_eq_none h).symm
theorem atI_map (xs : List α) (i : Int) : atI (xs.map e) i = (atI xs i).map e := by
  unfold atI
  rw [List.length_map]
  cases ixN xs.length i with
  | none => rfl
  | some j =>
    show (xs.map e)[j]? = (xs[j]?).map e
    rw [List.getElem?_map]
theorem o_ixL {xs : List α} {i : Nat} {z : α} (h : xs[i]? = some z) : dIxA (tL e xs) (tN i) = some (.imm (e z)) := by
  show (match atI (xs.map e) (i : Int) with | some d => some (R.imm d) | none => none) = _
  rw [atI_map, atI_nat, h]
  rfl
theorem o_ixT {xs : List α} {i : Nat} {z : α} (h : xs[i]? = some z) : dIxA (tT e xs) (tN i) = some (.imm (e z)) := by
  show (match atI (xs.map e) (i : Int) with | some d => some (R.imm d) | none => none) = _
  rw [atI_map, atI_nat, h]
  rfl
def atZ {δ : Type} (xs : List δ) (i : Int) : Option δ := atI xs i
theorem o_ixLZ {xs : List α} {i : Int} {z : α} (h : atZ xs i = some z) : dIxA (tL e xs) (tZ i) = some (.imm (e z)) := by
  show (match atI (xs.map e) i with | some d => some (R.imm d) | none => none) = _
  rw [atI_map, show atI xs i = some z from h]
  rfl
theorem o_ixTZ {xs : List α} {i : Int} {z : α} (h : atZ xs i = some z) : dIxA (tT e xs) (tZ i) = some (.imm (e z)) := by
  show (match atI (xs.map e) i with | some d => some (R.imm d) | none => none) = _
  rw [atI_map, show atI xs i = some z from h]
  rfl
theorem o_ixP0 (p : α × β) : dIxA (tP e f p) (tN 0) = some (.imm (e p.1)) := by
  show (match atI [e p.1, f p.2] 0 with | some d => some (R.imm d) | none => none) = _
  simp [atI, ixN]
theorem o_ixP1 (p : α × β) : dIxA (tP e f p) (tN 1) = some (.imm (f p.2)) := by
  show (match atI [e p.1, f p.2] 1 with | some d => some (R.imm d) | none => none) = _
  simp [atI, ixN]
def lastO {δ : Type} (xs : List δ) : Option δ := xs.getLast?
theorem atI_last {δ : Type} (xs : List δ) : atI xs (-1) = xs.getLast? := by
  unfold atI ixN
  rw [if_neg (by omega)]
  cases xs with
  | nil => rfl
  | cons x xs =>
    rw [if_pos (by rw [List.length_cons]; omega), List.getLast?_eq_getElem?]
    show (x :: xs)[_]? = _
    congr 1
    rw [List.length_cons]
    omega
/-! sums of rows -/
def catO {δ : Type} (xs ys : List δ) : Option (List δ) := if xs.length + ys.length ≤ sizeLine then some (xs ++ ys) else none
theorem o_catT {xs ys zs : List α} (h : catO xs ys = some zs) : dAdd (tT e xs) (tT e ys) = some (.imm (tT e zs)) := by
  unfold catO at h
  split at h <;> cases h
  rename_i h
  show (if (xs.map e).length + (ys.map e).length ≤ sizeLine then some (R.imm (.tup (xs.map e ++ ys.map e))) else none) = _
  rw [if_pos (by rw [List.length_map, List.length_map]; exact h)]
  unfold tT
  rw [List.map_append]
theorem o_catL {xs ys zs : List α} (h : catO xs ys = some zs) : dAdd (tL e xs) (tL e ys) = some (.own (tL e zs)) := by
  unfold catO at h
  split at h <;> cases h
  rename_i h
  show (if (xs.map e).length + (ys.map e).length ≤ sizeLine then some (R.own (.lst (xs.map e ++ ys.map e))) else none) = _
  rw [if_pos (by rw [List.length_map, List.length_map]; exact h)]
  unfold tL
  rw [List.map_append]
/-! cuts -/
def cutN {δ : Type} (xs : List δ) (lo hi : Option Nat) : List δ := (xs.drop (match lo with | some l => min l xs.length | none => 0)).take ((match hi with | some h => min h xs.length | none => xs.length) - (match lo with | some l => min l xs.length | none => 0))
def cutZ {δ : Type} (xs : List δ) (lo hi : Option Int) : List δ := (xs.drop (HT.sIx xs.length 0 lo)).take (HT.sIx xs.length xs.length hi - HT.sIx xs.length 0 lo)
theorem cut_map (xs : List α) (lo hi : Option Int) : LD.cutD (xs.map e) lo hi = (cutZ xs lo hi).map e := by
  unfold LD.cutD cutZ
  rw [List.length_map, List.map_take, List.map_drop]
theorem o_slT (xs : List α) (lo hi : Option Int) : dSl (tT e xs) lo hi = some (.imm (tT e (cutZ xs lo hi))) := by
  show some (R.imm (.tup (LD.cutD (xs.map e) lo hi))) = _
  rw [cut_map]
  rfl
theorem o_slL (xs : List α) (lo hi : Option Int) : dSl (tL e xs) lo hi = some (.own (tL e (cutZ xs lo hi))) := by
  show some (R.own (.lst (LD.cutD (xs.map e) lo hi))) = _
  rw [cut_map]
  rfl
/-! sorted -/
def insT (lt : α → α → Bool) (x : α) : List α → List α
  | [] => [x]
  | y :: ys => bif lt y x then y :: insT lt x ys else x :: y :: ys
def sortT (lt : α → α → Bool) : List α → List α
  | [] => []
  | x :: xs => insT lt x (sortT lt xs)
theorem insT_perm (lt : α → α → Bool) (x : α) : ∀ ys, (insT lt x ys).Perm (x :: ys)
  | [] => .refl _
  | y :: ys => by
    unfold insT
    cases lt y x with
    | true => exact (List.Perm.cons y (insT_perm lt x ys)).trans (.swap ..)
    | false => exact .refl _
theorem sortT_perm (lt : α → α → Bool) : ∀ xs, (sortT lt xs).Perm xs
  | [] => .refl _
  | x :: xs => (insT_perm lt x _).trans (List.Perm.cons x (sortT_perm lt xs))
theorem insT_sorted {lt : α → α → Bool} (h : Lin lt) (x : α) : ∀ ys, ys.Pairwise (fun a b => lt b a = false) → (insT lt x ys).Pairwise (fun a b => lt b a = false)
  | [], _ => by simp [insT]
  | y :: ys, q => by
    obtain ⟨q1, q2⟩ := List.pairwise_cons.mp q
    unfold insT
    cases e : lt y x with
    | true =>
      refine List.pairwise_cons.mpr ⟨fun z hz => ?_, insT_sorted h x ys q2⟩
      rcases List.mem_cons.mp ((insT_perm lt x ys).mem_iff.mp hz) with rfl | hz
      · cases e2 : lt z y with
        | false => rfl
        | true =>
          have := h.trans _ _ _ e e2
          rw [h.irr] at this; cases this
      · exact q1 z hz
    | false =>
      refine List.pairwise_cons.mpr ⟨fun z hz => ?_, q⟩
      rcases List.mem_cons.mp hz with rfl | hz
      · exact e
      · cases e2 : lt z x with
        | false => rfl
        | true =>
          exfalso
          have e3 := q1 z hz
          cases e4 : lt y z with
          | true =>
            have := h.trans _ _ _ e4 e2
            rw [e] at this; cases this
          | false =>
            have := h.tri _ _ e3 e4
            subst this
            rw [e] at e2; cases e2
theorem sortT_sorted {lt : α → α → Bool} (h : Lin lt) : ∀ xs, (sortT lt xs).Pairwise (fun a b => lt b a = false)
  | [] => .nil
  | x :: xs => insT_sorted h x _ (sortT_sorted h xs)
theorem sort_unique {lt : α → α → Bool} (h : Lin lt) {xs ys : List α} (p : xs.Perm ys) (hx : xs.Pairwise (fun a b => lt b a = false)) (hy : ys.Pairwise (fun a b => lt b a = false)) : xs = ys :=
  List.Perm.eq_of_pairwise (le := fun a b => lt b a = false) (fun a b _ _ h1 h2 => h.tri a b h2 h1) hx hy p
theorem sortT_merge {lt : α → α → Bool} (h : Lin lt) (xs : List α) : (xs.mergeSort fun a b => !lt b a) = sortT lt xs := by
  refine sort_unique h ((List.mergeSort_perm _ _).trans (sortT_perm lt xs).symm) ?_ (sortT_sorted h xs)
  refine List.Pairwise.imp (fun q => by simpa using q) (List.pairwise_mergeSort (le := fun a b => !lt b a) (fun a b c h1 h2 => ?_) (fun a b => ?_) xs)
  · simp only [Bool.not_eq_true'] at h1 h2 ⊢
    cases e : lt c a with
    | false => rfl
    | true =>
      exfalso
      cases e2 : lt a b with
      | true =>
        have := h.trans _ _ _ e e2
        rw [h2] at this; cases this
      | false =>
        have := h.tri _ _ e2 h1
        subst this
        rw [e] at h2; cases h2
  · cases e : lt b a with
    | false => rfl
    | true =>
      cases e2 : lt a b with
      | false => rfl
      | true =>
        have := h.trans _ _ _ e e2
        rw [h.irr] at this; cases this
theorem dataLe_of {lt : α → α → Bool} {k : Nat} [DecidableEq α] (h : Cmp e lt k) (a b : α) : PySem.W.dataLe false toPy (e a) (e b) = !lt b a := by
  rw [← h.lt b a]
  rfl
theorem o_sort {lt : α → α → Bool} {k : Nat} [DecidableEq α] (h : Cmp e lt k) (hk : k ≤ 64) (hs : (∀ a, isInt (e a) = true) ∨ ∀ a, isTup (e a) = true) (xs : List α) : dSortedA [tL e xs] = some (.own (tL e (sortT lt xs))) := by
  have e1 : dSorted [tL e xs] = some (.own (.lst (sortD (xs.map e)))) := by
    show (if okSort (xs.map e) = true then _ else _) = _
    rw [if_pos]
    unfold okSort alikes
    rw [Bool.and_eq_true, Bool.and_eq_true]
    refine ⟨⟨List.all_eq_true.mpr fun x hx => ?_, List.all_eq_true.mpr fun x hx => List.all_eq_true.mpr fun y hy => ?_⟩, ?_⟩
    · obtain ⟨x', _, rfl⟩ := List.mem_map.mp hx
      exact shp_of h.nice hk x'
    · obtain ⟨x', _, rfl⟩ := List.mem_map.mp hx
      obtain ⟨y', _, rfl⟩ := List.mem_map.mp hy
      exact h.alike x' y'
    · rw [Bool.or_eq_true]
      rcases hs with hs | hs
      · left
        refine List.all_eq_true.mpr fun x hx => ?_
        obtain ⟨x', _, rfl⟩ := List.mem_map.mp hx
        exact hs x'
      · right
        refine List.all_eq_true.mpr fun x hx => ?_
        obtain ⟨x', _, rfl⟩ := List.mem_map.mp hx
        exact hs x'
  unfold dSortedA
  rw [e1]
  dsimp only
  unfold sortD tL
  rw [← sortT_merge h.lin, ← List.map_mergeSort (r := fun a b => !lt b a) (f := e) fun a _ b _ => (dataLe_of h a b).symm]
theorem o_sortN (xs : List Nat) : dSortedA [tL tN xs] = some (.own (tL tN (sortT ltN xs))) := o_sort cmp_N (by decide) (.inl fun _ => rfl) xs
theorem o_sortTs {lt : List α → List α → Bool} {k : Nat} [DecidableEq α] (h : Cmp (tT e) lt k) (hk : k ≤ 64 := by decide) (xs : List (List α)) : dSortedA [tL (tT e) xs] = some (.own (tL (tT e) (sortT lt xs))) := o_sort h hk (.inr fun _ => rfl) xs
theorem o_sortPs {lt : α × β → α × β → Bool} {k : Nat} [DecidableEq α] [DecidableEq β] (h : Cmp (tP e f) lt k) (hk : k ≤ 64 := by decide) (xs : List (α × β)) : dSortedA [tL (tP e f) xs] = some (.own (tL (tP e f) (sortT lt xs))) := o_sort h hk (.inr fun _ => rfl) xs
/-! sets -/
theorem eraseDups_map {δ : Type} [BEq δ] [LawfulBEq δ] {δ' : Type} [BEq δ'] [LawfulBEq δ'] {g : δ → δ'} (inj : ∀ a b, g a = g b → a = b) : ∀ (n : Nat) (xs : List δ), xs.length ≤ n → (xs.map g).eraseDups = xs.eraseDups.map g
  | _, [], _ => by simp
  | 0, x :: xs, h => by simp at h
  | n + 1, x :: xs, h => by
    rw [List.map_cons, List.eraseDups_cons, List.eraseDups_cons, List.map_cons]
    congr 1
    have e1 : (xs.map g).filter (fun b => !b == g x) = (xs.filter fun b => !b == x).map g := by
      rw [List.filter_map]
      congr 1
      refine List.filter_congr fun y _ => ?_
      show (!(g y == g x)) = !(y == x)
      by_cases q : y = x
      · subst q; simp
      · have : ¬ g y = g x := fun z => q (inj _ _ z)
        rw [beq_eq_false_iff_ne.mpr q, beq_eq_false_iff_ne.mpr this]
    rw [e1]
    refine eraseDups_map inj n _ ?_
    have := List.length_filter_le (fun b => !b == x) xs
    simp at h
    omega
def nDist {δ : Type} [BEq δ] (xs : List δ) : Nat := xs.eraseDups.length
theorem incI_cast (xs : List Nat) : (incI (xs.map fun (n : Nat) => (n : Int))).length = nDist xs := by
  rw [(incI_perm _).length_eq, eraseDups_map (fun a b h => by omega) xs.length xs (Nat.le_refl _), List.length_map]
  rfl
def lenSetO {δ : Type} [BEq δ] (xs : List δ) : Option Nat := if xs.length < 64 then some (nDist xs) else none
theorem o_lenSetLN {xs : List Nat} {n : Nat} (h : lenSetO xs = some n) : dLenSet [tL tN xs] = some (.imm (tN n)) := by
  unfold lenSetO at h
  split at h <;> cases h
  rename_i h
  unfold dLenSet
  dsimp only
  rw [show numsA (tL tN xs) = some _ from nums_N xs]
  dsimp only
  rw [if_pos (by rw [List.length_map]; omega), incI_cast]
  rfl
theorem o_lenSetTN {xs : List Nat} {n : Nat} (h : lenSetO xs = some n) : dLenSet [tT tN xs] = some (.imm (tN n)) := by
  unfold lenSetO at h
  split at h <;> cases h
  rename_i h
  unfold dLenSet
  dsimp only
  rw [show numsA (tT tN xs) = some _ from nums_N xs]
  dsimp only
  rw [if_pos (by rw [List.length_map]; omega), incI_cast]
  rfl
theorem o_lenSetLZ {xs : List Int} {n : Nat} (h : lenSetO xs = some n) : dLenSet [tL tZ xs] = some (.imm (tN n)) := by
  unfold lenSetO at h
  split at h <;> cases h
  rename_i h
  unfold dLenSet
  dsimp only
  rw [show numsA (tL tZ xs) = some _ from nums_Z xs]
  dsimp only
  rw [if_pos (by omega), (incI_perm xs).length_eq]
  rfl
end
end TL

/-! Layer T: typed lists that change, ranges, zips, dicts. -/
namespace TL
open PySem PySem.Spec PyProof.Rows L2 LD
section
variable {α β γ κ τ : Type} {e : α → D} {f : β → D} {ps ps1 ps2 qs : List Sp} {k k1 : RK} {a b c m : M} {d z : D} {i : Nat}
/-! ### lists -/
def appO (xs : List α) (v : α) : Option (List α) := if xs.length < sizeLine then some (xs ++ [v]) else none
def extO (xs ys : List α) : Option (List α) := if xs.length + ys.length ≤ sizeLine then some (xs ++ ys) else none
theorem run_app {xs ys : List α} {v : α} (h : appO xs v = some ys) (e0 : isRt ps i = true) (e1 : rd ps i = some (tL e xs)) (ha : Ev a ps k ps1) (hf : Fz ps1 k ps2) (hk : k.d = e v) (e2 : isRt ps2 i = true) (e3 : rd ps2 i = some (tL e xs)) :
    Run (sDrop (mApp i a)) ps (.nx (setRt ps2 i (tL e ys))) := by
  unfold appO at h
  split at h <;> cases h
  rename_i hz
  have := ev_app e0 e1 ha hf e2 e3 (by rw [List.length_map]; exact hz)
  refine (run_drop this).cast ?_
  unfold tL
  rw [List.map_append, hk]
  rfl
theorem run_ext {xs ys zs : List α} (h : extO xs ys = some zs) (e0 : isRt ps i = true) (e1 : rd ps i = some (tL e xs)) (ha : Ev a ps k ps1) (y : Rdy ps1 k) (hk : k.d = tL e ys) (e2 : isRt ps1 i = true) (e3 : rd ps1 i = some (tL e xs)) :
    Run (sDrop (mExt i a)) ps (.nx (setRt ps1 i (tL e zs))) := by
  unfold extO at h
  split at h <;> cases h
  rename_i hz
  have := ev_ext e0 e1 ha y hk e2 e3 (by rw [List.length_map, List.length_map]; exact hz)
  refine (run_drop this).cast ?_
  unfold tL
  rw [List.map_append]
def popO (xs : List α) : Option (α × List α) := xs.getLast?.map fun z => (z, xs.dropLast)
theorem ev_popT {xs : List α} {t : α × List α} (h : popO xs = some t) (e0 : isRt ps i = true) (e1 : rd ps i = some (tL e xs)) : Ev (mPop i) ps (.imm (e t.1)) (setRt ps i (tL e t.2)) := by
  unfold popO at h
  cases q : xs.getLast? with
  | none => rw [q] at h; cases h
  | some z =>
    rw [q] at h
    cases h
    have hx : (xs.map e)[(xs.map e).length - 1]? = some (e z) := by
      rw [List.length_map, List.getElem?_map, ← List.getLast?_eq_getElem?, q]
      rfl
    have := ev_pop e0 e1 hx
    unfold tL
    rw [List.map_dropLast]
    exact this
def popAtO (xs : List α) (n : Nat) : Option (α × List α) := if n < 4611686018427387904 then xs[n]?.map fun z => (z, xs.eraseIdx n) else none
theorem ixN_nat {n m : Nat} (h : n < m) : ixN m (n : Int) = some n := by
  unfold ixN
  rw [if_pos (by omega), if_pos (by omega)]
  rfl
theorem map_erase (xs : List α) : ∀ n : Nat, (xs.map e).eraseIdx n = (xs.eraseIdx n).map e := by
  induction xs with
  | nil => intro n; rfl
  | cons x xs ih =>
    intro n
    cases n with
    | zero => rfl
    | succ n => simp [ih n]
theorem ev_popAtT {xs : List α} {n : Nat} {t : α × List α} (h : popAtO xs n = some t) (e0 : isRt ps i = true) (e1 : rd ps i = some (tL e xs)) (ha : Ev a ps (.imm (tN n)) ps1) (e2 : isRt ps1 i = true) (e3 : rd ps1 i = some (tL e xs)) :
    Ev (mPopAt i a) ps (.imm (e t.1)) (setRt ps1 i (tL e t.2)) := by
  unfold popAtO at h
  split at h <;> try (cases h; done)
  rename_i hn
  cases q : xs[n]? with
  | none => rw [q] at h; cases h
  | some z =>
    rw [q] at h
    cases h
    have hl : n < xs.length := (List.getElem?_eq_some_iff.mp q).1
    have := ev_popAt (z := e z) e0 e1 ha e2 e3 (by omega) (ixN_nat (by rw [List.length_map]; exact hl)) (by rw [List.getElem?_map, q]; rfl)
    refine this.cast rfl |> fun t => ?_
    unfold tL
    rw [← map_erase]
    exact this
def setO (xs : List α) (n : Nat) (v : α) : Option (List α) := if n < xs.length then some (xs.set n v) else none
theorem evG_ixT {xs ys : List α} {n : Nat} {v : α} (h : setO xs n v = some ys) (e0 : isRt ps i = true) (e1 : rd ps i = some (tL e xs)) (ha : Ev m ps (.imm (tN n)) ps1) (e2 : isRt ps1 i = true) (e3 : rd ps1 i = some (tL e xs)) :
    EvG (gItemB i m) (e v) ps (setRt ps1 i (tL e ys)) := by
  unfold setO at h
  split at h <;> cases h
  rename_i hn
  have := evG_ix (d := e v) e0 e1 ha e2 e3 (ixN_nat (by rw [List.length_map]; exact hn))
  unfold tL
  rw [List.map_set]
  exact this
/-! ### ranges -/
def rgO (n : Nat) : Option (List Nat) := if n ≤ 16777216 then some (List.range n) else none
def rgZ (n : Int) : Option (List Nat) := if smallI n then some (List.range n.toNat) else none
def rg2O (a b : Nat) : Option (List Nat) := if a ≤ 16777216 ∧ b ≤ 16777216 then some (List.range' a (b - a)) else none
def rg2Z (a : Nat) (b : Int) : Option (List Nat) := if a ≤ 16777216 ∧ smallI b ∧ smallI (b - a) then some (List.range' a (b - a).toNat) else none
theorem evI_rgT {n : Nat} {xs : List Nat} (h : rgO n = some xs) (ha : Ev a ps (.imm (tN n)) qs) : EvI (wRng1 (aCons a aNil)) ps (xs.map tN) qs := by
  unfold rgO at h
  split at h <;> cases h
  have := evI_rg1 (evA_cons ha .imm evA_nil) (j := n) (by unfold smallI; omega)
  rw [Int.toNat_natCast, intsD_range] at this
  exact this
theorem evI_rgTZ {n : Int} {xs : List Nat} (h : rgZ n = some xs) (ha : Ev a ps (.imm (tZ n)) qs) : EvI (wRng1 (aCons a aNil)) ps (xs.map tN) qs := by
  unfold rgZ at h
  split at h <;> cases h
  have := evI_rg1 (evA_cons ha .imm evA_nil) (j := n) (by assumption)
  rw [intsD_range] at this
  exact this
theorem evI_rg2T {x y : Nat} {xs : List Nat} (h : rg2O x y = some xs) (ha : Ev a ps (.imm (tN x)) ps1) (hb : Ev b ps1 (.imm (tN y)) qs) : EvI (wRng2 (aCons a (aCons b aNil))) ps (xs.map tN) qs := by
  unfold rg2O at h
  split at h <;> cases h
  have := evI_rg2 (evA_cons ha .imm (evA_cons hb .imm evA_nil)) (j := x) (l := y) ⟨by unfold smallI; omega, by unfold smallI; omega, by unfold smallI; omega⟩
  rw [show ((y : Int) - x).toNat = y - x by omega, intsD_nat] at this
  exact this
theorem evI_rg2TZ {x : Nat} {y : Int} {xs : List Nat} (h : rg2Z x y = some xs) (ha : Ev a ps (.imm (tN x)) ps1) (hb : Ev b ps1 (.imm (tZ y)) qs) : EvI (wRng2 (aCons a (aCons b aNil))) ps (xs.map tN) qs := by
  unfold rg2Z at h
  split at h <;> cases h
  rename_i hh
  have := evI_rg2 (evA_cons ha .imm (evA_cons hb .imm evA_nil)) (j := x) (l := y) ⟨by unfold smallI; omega, hh.2.1, hh.2.2⟩
  rw [intsD_nat] at this
  exact this
theorem ev_rgL {n : Nat} {xs : List Nat} (h : rgO n = some xs) (ha : Ev a ps (.imm (tN n)) qs) : Ev (mRg1 a) ps (.own (tL tN xs)) qs := by
  unfold rgO at h
  split at h <;> cases h
  have := ev_rg1 ha (by unfold smallI; omega)
  rw [Int.toNat_natCast, intsD_range] at this
  exact this
theorem ev_rgLZ {n : Int} {xs : List Nat} (h : rgZ n = some xs) (ha : Ev a ps (.imm (tZ n)) qs) : Ev (mRg1 a) ps (.own (tL tN xs)) qs := by
  unfold rgZ at h
  split at h <;> cases h
  have := ev_rg1 ha (by assumption)
  rw [intsD_range] at this
  exact this
theorem ev_rgTu {n : Nat} {xs : List Nat} (h : rgO n = some xs) (ha : Ev a ps (.imm (tN n)) qs) : Ev (mTg1 a) ps (.imm (tT tN xs)) qs := by
  unfold rgO at h
  split at h <;> cases h
  have := ev_tg1 ha (by unfold smallI; omega)
  rw [Int.toNat_natCast, intsD_range] at this
  exact this
theorem ev_rg2L {x y : Nat} {xs : List Nat} (h : rg2O x y = some xs) (ha : Ev a ps (.imm (tN x)) ps1) (hb : Ev b ps1 (.imm (tN y)) qs) : Ev (mRg2 a b) ps (.own (tL tN xs)) qs := by
  unfold rg2O at h
  split at h <;> cases h
  have := ev_rg2 ha hb ⟨by unfold smallI; omega, by unfold smallI; omega, by omega⟩
  rw [show ((y : Int) - x).toNat = y - x by omega, intsD_nat] at this
  exact this
/-! ### pairs of two rows, of places and items -/
theorem zip_map (xs : List α) (ys : List β) : ((xs.map e).zip (ys.map f)).map LD.pairD = (xs.zip ys).map (tP e f) := by
  rw [List.zip_map, List.map_map]
  rfl
theorem evI_zipTL {ma : MA} {xs : List α} {ys : List β} (h : EvA ma ps [tL e xs, tL f ys] qs) : EvI (wZip ma) ps ((xs.zip ys).map (tP e f)) qs := (evI_zipL h).cast (zip_map xs ys)
theorem evI_zipTT {ma : MA} {xs : List α} {ys : List β} (h : EvA ma ps [tT e xs, tT f ys] qs) : EvI (wZip ma) ps ((xs.zip ys).map (tP e f)) qs := (evI_zipT h).cast (zip_map xs ys)
def enumF (n : Nat) : List α → List (Nat × α)
  | [] => []
  | x :: xs => (n, x) :: enumF (n + 1) xs
theorem enum_map : ∀ (xs : List α) (n : Nat), (enumD n (xs.map e)).map LD.pairD = (enumF n xs).map (tP tN e)
  | [], _ => rfl
  | x :: xs, n => by
    rw [List.map_cons, enumD, List.map_cons, enum_map xs (n + 1), enumF, List.map_cons]
    rfl
theorem evI_enB {ma : MA} {xs : List D} (h : EvA ma ps [.lst xs] qs ∨ EvA ma ps [.tup xs] qs) : EvI (wEnumB ma) ps ((enumD 0 xs).map LD.pairD) qs := fun st s => by
  rcases h with h | h
  · obtain ⟨s1, a1, a2⟩ := h st s
    exact ⟨s1, by unfold wEnumB; rw [a1], a2⟩
  · obtain ⟨s1, a1, a2⟩ := h st s
    exact ⟨s1, by unfold wEnumB; rw [a1], a2⟩
theorem evI_enTL {ma : MA} {xs : List α} (h : EvA ma ps [tL e xs] qs) : EvI (wEnumB ma) ps ((enumF 0 xs).map (tP tN e)) qs := (evI_enB (.inl h)).cast (enum_map xs 0)
theorem evI_enTT {ma : MA} {xs : List α} (h : EvA ma ps [tT e xs] qs) : EvI (wEnumB ma) ps ((enumF 0 xs).map (tP tN e)) qs := (evI_enB (.inr h)).cast (enum_map xs 0)
/-! ### dicts -/
structure KeyK (e : κ → D) (kk : κ → Key) : Prop where
  eq : ∀ a, e a = keyD (kk a)
  inj : ∀ a b, kk a = kk b → a = b
structure KeyN (e : κ → D) (kk : κ → NestedKey) : Prop where
  eq : ∀ a, nkey (e a) = some (kk a)
  inj : ∀ a b, kk a = kk b → a = b
def tD (e : κ → D) (f : β → D) (l : List (κ × β)) : D := .dic false (l.map fun p => (e p.1, f p.2))
def tDt (e : κ → D) (f : β → D) (l : List (κ × β)) : D := .dic true (l.map fun p => (e p.1, f p.2))
theorem keyK_N : KeyK tN fun n => .inl (n : Int) := ⟨fun _ => rfl, fun a b h => by have := Sum.inl.inj h; omega⟩
theorem keyK_S : KeyK tS fun x => .inr x := ⟨fun _ => rfl, fun a b h => Sum.inr.inj h⟩
section
variable {ek : κ → D} {kk : κ → Key} {kn : κ → NestedKey} [DecidableEq κ]
theorem tD_eq (h : KeyK ek kk) (l : List (κ × β)) : (l.map fun (p : κ × β) => (ek p.1, f p.2)) = l.map fun p => (keyD (kk p.1), f p.2) := List.map_congr_left fun p _ => by rw [h.eq]
theorem keyK_of (h : KeyK ek kk) (x : κ) : keyK (ek x) = some (kk x) := by rw [h.eq, keyK_D]
theorem atK (h : KeyK ek kk) (x : κ) (l : List (κ × β)) : keyAtK (kk x) (l.map fun (p : κ × β) => (ek p.1, f p.2)) = (aGet x l).map f := by rw [tD_eq h]; exact keyAtK_as h.inj f x l
theorem o_getK (h : KeyK ek kk) {x : κ} {l : List (κ × β)} {v : β} (q : aGet x l = some v) : dIxA (tD ek f l) (ek x) = some (.imm (f v)) := by
  show (match keyK (ek x) with | some k => (match keyAtK k (l.map fun (p : κ × β) => (ek p.1, f p.2)) with | some d => some (R.imm d) | none => none) | none => none) = _
  rw [keyK_of h]
  dsimp only
  rw [atK h, q]
  rfl
theorem o_inK (h : KeyK ek kk) (x : κ) (l : List (κ × β)) : dInB (ek x) (tD ek f l) = some (.imm (tB (aGet x l).isSome)) := by
  show (match keyK (ek x) with | some k => rb (keyAtK k (l.map fun (p : κ × β) => (ek p.1, f p.2))).isSome | none => none) = _
  rw [keyK_of h]
  dsimp only
  rw [atK h, Option.isSome_map]
  rfl
theorem o_ninK (h : KeyK ek kk) (x : κ) (l : List (κ × β)) : dNotInB (ek x) (tD ek f l) = some (.imm (tB (!(aGet x l).isSome))) := by
  show (match keyK (ek x) with | some k => rb (!(keyAtK k (l.map fun (p : κ × β) => (ek p.1, f p.2))).isSome) | none => none) = _
  rw [keyK_of h]
  dsimp only
  rw [atK h, Option.isSome_map]
  rfl
theorem atNt (h : KeyN ek kn) (x : κ) (l : List (κ × β)) : keyAt (kn x) (l.map fun (p : κ × β) => (ek p.1, f p.2)) = (aGet x l).map f := keyAt_as h.eq h.inj f x l
theorem o_getN (h : KeyN ek kn) {x : κ} {l : List (κ × β)} {v : β} (q : aGet x l = some v) : dIxA (tDt ek f l) (ek x) = some (.imm (f v)) := by
  show (match nkey (ek x) with | some k => (match keyAt k (l.map fun (p : κ × β) => (ek p.1, f p.2)) with | some d => some (R.imm d) | none => none) | none => none) = _
  rw [h.eq]
  dsimp only
  rw [atNt h, q]
  rfl
theorem o_inN (h : KeyN ek kn) (x : κ) (l : List (κ × β)) : dInB (ek x) (tDt ek f l) = some (.imm (tB (aGet x l).isSome)) := by
  show (match nkey (ek x) with | some k => rb (keyAt k (l.map fun (p : κ × β) => (ek p.1, f p.2))).isSome | none => none) = _
  rw [h.eq]
  dsimp only
  rw [atNt h, Option.isSome_map]
  rfl
theorem o_ninN (h : KeyN ek kn) (x : κ) (l : List (κ × β)) : dNotInB (ek x) (tDt ek f l) = some (.imm (tB (!(aGet x l).isSome))) := by
  show (match nkey (ek x) with | some k => rb (!(keyAt k (l.map fun (p : κ × β) => (ek p.1, f p.2))).isSome) | none => none) = _
  rw [h.eq]
  dsimp only
  rw [atNt h, Option.isSome_map]
  rfl
def putO (l : List (κ × β)) (x : κ) (v : β) : Option (List (κ × β)) := if l.length < sizeLine then some (aPut x v l) else none
theorem evG_keyT (h : KeyK ek kk) {l l' : List (κ × β)} {x : κ} {v : β} (q : putO l x v = some l') (e0 : isRt ps i = true) (e1 : rd ps i = some (tD ek f l)) (ha : Ev m ps (.imm (ek x)) ps1) (e2 : isRt ps1 i = true) (e3 : rd ps1 i = some (tD ek f l)) :
    EvG (gItemB i m) (f v) ps (setRt ps1 i (tD ek f l')) := by
  unfold putO at q
  split at q <;> cases q
  rename_i hz
  have := evG_keyK (d := f v) e0 e1 ha e2 e3 (keyK_of h x) (by rw [List.length_map]; exact hz)
  unfold tD
  rw [tD_eq h] at this ⊢
  rw [← putDK_as h.inj f]
  exact this
theorem evG_keyNT (h : KeyN ek kn) {l l' : List (κ × β)} {x : κ} {v : β} (q : putO l x v = some l') (e0 : isRt ps i = true) (e1 : rd ps i = some (tDt ek f l)) (ha : Ev m ps (.imm (ek x)) ps1) (e2 : isRt ps1 i = true) (e3 : rd ps1 i = some (tDt ek f l)) :
    EvG (gItemB i m) (f v) ps (setRt ps1 i (tDt ek f l')) := by
  unfold putO at q
  split at q <;> cases q
  rename_i hz
  have := evG_key (d := f v) e0 e1 ha e2 e3 (h.eq x) (by rw [List.length_map]; exact hz)
  unfold tDt
  rw [← putD_as h.eq h.inj f]
  exact this
theorem ev_get1T (h : KeyK ek kk) {l : List (κ × β)} {x : κ} (ha : Ev a ps k1 ps1) (y : Rdy ps1 k1) (e1 : k1.d = tD ek f l) (hb : Ev b ps1 (.imm (ek x)) qs) (y2 : Rdy qs k1) : Ev (mGet1 a b) ps (.imm (tO f (aGet x l))) qs :=
  ev_get1 ha y e1 hb y2 (keyK_of h x) (by rw [atK h]; cases aGet x l <;> rfl)
theorem ev_get2T (h : KeyK ek kk) {l : List (κ × β)} {x : κ} {v : β} (ha : Ev a ps k1 ps1) (y : Rdy ps1 k1) (e1 : k1.d = tD ek f l) (hb : Ev b ps1 (.imm (ek x)) ps2) (hc : Ev c ps2 (.imm (f v)) qs) (y2 : Rdy qs k1) : Ev (mGet2 a b c) ps (.imm (f ((aGet x l).getD v))) qs :=
  ev_get2 ha y e1 hb hc y2 (keyK_of h x) (by rw [atK h]; cases aGet x l <;> rfl)
theorem ev_disp1T (h : KeyK ek kk) {x : κ} {v : β} (ha : Ev a ps (.imm (ek x)) ps1) (hb : Ev b ps1 (.imm (f v)) qs) : Ev (mDisp1 a b) ps (.own (tD ek f [(x, v)])) qs :=
  (ev_disp1 ha hb (keyK_of h x)).cast (by rw [← h.eq]; rfl)
theorem ev_dnewT : Ev mDNewI ps (.own (tD ek f [])) ps := ev_dnewI
theorem ev_dnewNT : Ev mDNew ps (.own (tDt ek f [])) ps := ev_dnew
theorem pairs_K (h : KeyK ek kk) : ∀ l : List (κ × β), pairsK' (l.map (tP ek f)) = some (l.map fun (p : κ × β) => (ek p.1, f p.2))
  | [] => rfl
  | p :: l => by
    rw [List.map_cons]
    show (match keyK (ek p.1) with | none => none | some _ => (match pairsK' (l.map (tP ek f)) with | some ps => some ((ek p.1, f p.2) :: ps) | none => none)) = _
    rw [keyK_of h, pairs_K h l]
    rfl
theorem putAllK_as (h : KeyK ek kk) : ∀ (l acc : List (κ × β)), putAllK (l.map fun (p : κ × β) => (ek p.1, f p.2)) (acc.map fun (p : κ × β) => (ek p.1, f p.2)) = (aPuts l acc).map fun p => (ek p.1, f p.2)
  | [], acc => rfl
  | p :: l, acc => by
    have e1 : putAllK ((p :: l).map fun (p : κ × β) => (ek p.1, f p.2)) (acc.map fun (p : κ × β) => (ek p.1, f p.2)) = putAllK (l.map fun (p : κ × β) => (ek p.1, f p.2)) (putDK (kk p.1) (f p.2) (acc.map fun (p : κ × β) => (ek p.1, f p.2))) := by
      rw [List.map_cons]
      unfold putAllK
      rw [List.foldl_cons]
      dsimp only
      rw [keyK_of h]
    have e2 : putDK (kk p.1) (f p.2) (acc.map fun (p : κ × β) => (ek p.1, f p.2)) = (aPut p.1 p.2 acc).map fun p => (ek p.1, f p.2) := by
      rw [tD_eq h, tD_eq h]
      exact putDK_as h.inj f p.1 p.2 acc
    rw [e1, e2, putAllK_as h l]
    rfl
theorem o_dictK (h : KeyK ek kk) (l : List (κ × β)) : dDictK [tL (tP ek f) l] = some (.own (tD ek f (aPuts l []))) := by
  show (match pairsK' (l.map (tP ek f)) with | some ps => some (R.own (.dic false (putAllK ps []))) | none => none) = _
  rw [pairs_K h]
  dsimp only
  have := putAllK_as (f := f) h l []
  rw [List.map_nil] at this
  rw [this]
  rfl
theorem pairs_N (h : KeyN ek kn) : ∀ l : List (κ × β), pairsOf (l.map (tP ek f)) = some (l.map fun (p : κ × β) => (ek p.1, f p.2))
  | [] => rfl
  | p :: l => by
    rw [List.map_cons]
    show (match nkey (ek p.1) with | none => none | some _ => (match pairsOf (l.map (tP ek f)) with | some ps => some ((ek p.1, f p.2) :: ps) | none => none)) = _
    rw [h.eq, pairs_N h l]
    rfl
theorem o_dictN (h : KeyN ek kn) (l : List (κ × β)) : dDictN [tL (tP ek f) l] = some (.own (tDt ek f (aPuts l []))) := by
  show (match pairsOf (l.map (tP ek f)) with | some ps => some (R.own (.dic true (putAll ps []))) | none => none) = _
  rw [pairs_N h]
  dsimp only
  have := putAll_as (val := f) h.eq h.inj l []
  rw [List.map_nil] at this
  rw [this]
  rfl
end
end
/-! keys that are tuples -/
theorem nks_map {α : Type} {e : α → D} {g : α → NestedKey} (h : ∀ a, nk (e a) = some (g a)) : ∀ xs : List α, nk.nks (xs.map e) = some (xs.map g)
  | [] => rfl
  | x :: xs => by rw [List.map_cons, nk.nks, h, nks_map h xs]; rfl
/-- what can stand within a key -/
structure NkE {α : Type} (e : α → D) (g : α → NestedKey) (k : Nat) : Prop where
  eq : ∀ a, nk (e a) = some (g a)
  inj : ∀ a b, g a = g b → a = b
  dep : ∀ a, (g a).depth ≤ k
section
variable {α β γ : Type} {e : α → D} {f : β → D} {g : α → NestedKey} {g' : β → NestedKey} {k l : Nat}
theorem nk_N : NkE tN (fun n => .num n) 1 := ⟨fun _ => rfl, fun a b h => by simp at h; omega, fun a => by simp [NestedKey.depth]⟩
theorem depAll (h : NkE e g k) : ∀ xs : List α, NestedKey.depthAll (xs.map g) ≤ k
  | [] => by simp [NestedKey.depthAll]
  | x :: xs => by
    have := h.dep x
    have := depAll h xs
    simp [NestedKey.depthAll]
    omega
theorem nk_T (h : NkE e g k) : NkE (tT e) (fun xs => .tup (xs.map g)) (k + 1) := ⟨fun xs => by
    show (match nk.nks (xs.map e) with | some ks => some (NestedKey.tup ks) | none => none) = _
    rw [nks_map h.eq], fun a b q => by
    have q : a.map g = b.map g := by simpa using q
    exact List.map_inj_right (f := g) (fun x y z => h.inj x y z) |>.mp q, fun a => by
    have := depAll h a
    simp [NestedKey.depth]
    omega⟩
theorem nk_P (h : NkE e g k) (h' : NkE f g' l) : NkE (tP e f) (fun p => .tup [g p.1, g' p.2]) (max k l + 1) := ⟨fun p => by
    show (match nk.nks [e p.1, f p.2] with | some ks => some (NestedKey.tup ks) | none => none) = _
    rw [nk.nks, h.eq]
    dsimp only
    rw [nk.nks, h'.eq]
    rfl, fun a b q => by
    have q : g a.1 = g b.1 ∧ g' a.2 = g' b.2 := by simpa using q
    exact Prod.ext (h.inj _ _ q.1) (h'.inj _ _ q.2), fun a => by
    have := h.dep a.1
    have := h'.dep a.2
    simp [NestedKey.depth, NestedKey.depthAll]
    omega⟩
theorem keyN_T (h : NkE e g k) (hk : k + 1 ≤ 8 := by decide) : KeyN (tT e) (fun xs => .tup (xs.map g)) := ⟨fun xs => by
    have h1 := (nk_T h).eq xs
    have h2 := (nk_T h).dep xs
    unfold tT at h1 ⊢
    show (match nk (.tup (xs.map e)) with | some k => if k.depth ≤ 8 then some k else none | none => none) = _
    rw [h1]
    dsimp only
    rw [if_pos (by omega)], (nk_T h).inj⟩
theorem keyN_P (h : NkE e g k) (h' : NkE f g' l) (hk : max k l + 1 ≤ 8 := by decide) : KeyN (tP e f) (fun p => .tup [g p.1, g' p.2]) := ⟨fun p => by
    have h1 := (nk_P h h').eq p
    have h2 := (nk_P h h').dep p
    unfold tP at h1 ⊢
    show (match nk (.tup [e p.1, f p.2]) with | some k => if k.depth ≤ 8 then some k else none | none => none) = _
    rw [h1]
    dsimp only
    rw [if_pos (by omega)], (nk_P h h').inj⟩
end
end TL

/-! Layer T: small words for the printed proofs. -/
namespace TL
open PySem PySem.Spec PyProof.Rows L2 LD
section
variable {α β σ ρ τ : Type} {e : α → D} {f : β → D} {ps ps1 ps2 qs : List Sp} {k k1 : RK} {a b c m : M} {d z : D} {i : Nat} {s t u : MS} {o : Po} {svs os : List SV}
theorem ev_some {x y : α} (q : some x = some y) (h : Ev m ps (.imm (e x)) qs) : Ev m ps (.imm (e y)) qs := Option.some.inj q ▸ h
theorem evT_some {c : MT} {x y : Bool} (q : some x = some y) (h : EvT c ps x qs) : EvT c ps y qs := Option.some.inj q ▸ h
theorem evF_some {x y : α} (q : some x = some y) (h : EvF m ps (e x) qs) : EvF m ps (e y) qs := Option.some.inj q ▸ h
theorem kept_some {x y : α} (q : some x = some y) (h : Kept m ps (e x)) : Kept m ps (e y) := Option.some.inj q ▸ h
theorem run_some {F : α → Po} {x y : α} (q : some x = some y) (h : Run s ps (F x)) : Run s ps (F y) := Option.some.inj q ▸ h
theorem run_assoc (h : Run (sSeq s (sSeq t u)) ps o) : Run (sSeq (sSeq s t) u) ps o := fun st q => by
  obtain ⟨fl, st', h1, h2⟩ := h st q
  refine ⟨fl, st', ?_, h2⟩
  unfold sSeq at h1 ⊢
  cases e1 : s st with
  | none => rw [e1] at h1; cases h1
  | some x =>
    rw [e1] at h1
    obtain ⟨f1, s1⟩ := x
    cases f1 <;> exact h1
theorem run_if_seq {ct : MT} {x : Bool} (hc : EvT ct ps x ps1) (h1 : x = true → Run (sSeq s u) ps1 o) (h2 : x = false → Run (sSeq t u) ps1 o) : Run (sSeq (sIf ct s t) u) ps o := fun st q => by
  obtain ⟨s1, a1, a2⟩ := hc st q
  cases x with
  | true =>
    obtain ⟨f2, s2, b1, b2⟩ := h1 rfl s1 a2
    refine ⟨f2, s2, ?_, b2⟩
    unfold sSeq sIf at *
    rw [a1]
    exact b1
  | false =>
    obtain ⟨f2, s2, b1, b2⟩ := h2 rfl s1 a2
    refine ⟨f2, s2, ?_, b2⟩
    unfold sSeq sIf at *
    rw [a1]
    exact b1
/-- never -/
theorem noE {r : α} {P : Prop} (h : (none : Option α) = some r) : P := nomatch h
theorem thenE' {ret : ρ → τ} {a : Option (Res σ ρ)} {f : σ → Option τ} {r : τ} {F : τ → Po} (h : thenR ret a f = some r) (k1 : ∀ s', a = some (.go s') → f s' = some r → Run s ps (F r)) (k2 : ∀ v, a = some (.ret v) → Run s ps (F (ret v))) : Run s ps (F r) :=
  thenE h k1 fun v hv e => e ▸ k2 v hv
theorem EvG.post {g : MG} (h : EvG g d ps qs) {qs' : List Sp} (l : Les qs qs') : EvG g d ps qs' := fun st s => by
  obtain ⟨st', h1, h2⟩ := h st s
  exact ⟨st', h1, h2.le l⟩
theorem Ev.pre (h : Ev m ps1 k qs) (l : Les ps ps1) : Ev m ps k qs := fun st s => h st (s.le l)
/-- two names at once from a value that is a pair -/
theorem pair_d {p : α × β} : tP e f p = .tup [e p.1, f p.2] := rfl
/-- a row of exactly two, three -/
def un2 : List α → Option (α × α)
  | [x, y] => some (x, y)
  | _ => none
theorem un2_eq {xs : List α} {p : α × α} (h : un2 xs = some p) : tT e xs = tP e e p := by
  unfold un2 at h
  split at h <;> cases h
  rfl
theorem ev_un1 {o : Option α} {x : α} (h : o = some x) (v : Ev m ps (.imm (tO e o)) qs) : Ev m ps (.imm (e x)) qs := by subst h; exact v
theorem ev_un1O {o : Option α} {x : α} (h : o = some x) (v : Ev m ps (.own (tO e o)) qs) : Ev m ps (.own (e x)) qs := by subst h; exact v
theorem ev_un1F {o : Option α} {x : α} (h : o = some x) (v : Ev m ps (.fr (tO e o)) qs) : Ev m ps (.fr (e x)) qs := by subst h; exact v
theorem ev_un1V {o : Option α} {x : α} {j : Nat} (h : o = some x) (v : Ev m ps (.var j (tO e o)) qs) : Ev m ps (.var j (e x)) qs := by subst h; exact v
section
variable {w : MI} {g : MG} {vs : List Nat} {xs : List α} {ea : α → D} {Pp : α → List Sp}
/-- [x for x in xs] -/
theorem ev_lcM' (hw : EvI w ps (xs.map ea) ps1) (hg : ∀ x, EvG g (ea x) (wipeS ps1 vs) (Pp x)) (hv : ∀ x, wipeS (Pp x) vs = wipeS ps1 vs)
    (hm : ∀ x, Kept m (Pp x) (ea x)) : Ev (mLc vs w g tYesD m) ps (.own (tL ea xs)) ps1 := by
  have := ev_lcM (eb := ea) (fun x => x) hw hg hv hm
  rwa [List.map_id'] at this
end
abbrev tH (d : D) : D := d
theorem retp_of {K : ρ → RK} {svs : List SV} {os : ρ → List SV} : Retp fun v => Po.ret (K v) svs (os v) := fun v => ⟨_, _, _, rfl⟩
end
end TL

/-! Layer T: loops by an invariant; loops that only gather. -/
namespace TL
open PySem PySem.Spec PyProof.Rows L2 LD
section
variable {α σ : Type} {ps ps1 : List Sp} {w : MI} {g : MG} {t : MS} {ea : α → D}
theorem run_forI {S : σ → List Sp} {P : σ → α → List Sp} (I : σ → Prop) : ∀ {xs : List α} {s0 : σ}, I s0 → (∀ s x, EvG g (ea x) (S s) (P s x)) → (∀ s x, x ∈ xs → I s → ∃ s', I s' ∧ Run t (P s x) (.nx (S s'))) →
    ∃ s', I s' ∧ ∀ st, Sl (S s0) st → ∃ st', forD g t (xs.map ea) st = some (.nx, st') ∧ Sl (S s') st'
  | [], s0, h0, _, _ => ⟨s0, h0, fun st q => ⟨st, rfl, q⟩⟩
  | x :: xs, s0, h0, hg, hb => by
    obtain ⟨s1, i1, r1⟩ := hb s0 x (List.mem_cons_self ..) h0
    obtain ⟨s2, i2, r2⟩ := run_forI I (xs := xs) (s0 := s1) i1 hg fun s y hy => hb s y (List.mem_cons_of_mem _ hy)
    refine ⟨s2, i2, fun st q => ?_⟩
    obtain ⟨a1, b1, b2⟩ := hg s0 x st q
    obtain ⟨fl, a2, c1, rfl, c2⟩ := r1 a1 b2
    obtain ⟨a3, d1, d2⟩ := r2 a2 c2
    refine ⟨a3, ?_, d2⟩
    rw [List.map_cons, forD, b1]
    dsimp only
    rw [c1]
    exact d1
theorem run_forInv {S : σ → List Sp} {P : σ → α → List Sp} (I : σ → Prop) {xs : List α} {s0 : σ} (h0 : I s0) (hw : EvI w ps (xs.map ea) ps1) (hl : Les ps1 (S s0)) (hg : ∀ s x, EvG g (ea x) (S s) (P s x)) (hb : ∀ s x, x ∈ xs → I s → ∃ s', I s' ∧ Run t (P s x) (.nx (S s'))) :
    ∃ s', I s' ∧ Run (sFor w g t) ps (.nx (S s')) := by
  obtain ⟨s', i', r⟩ := run_forI (t := t) (S := S) (P := P) I h0 hg hb
  refine ⟨s', i', fun st q => ?_⟩
  obtain ⟨s1, w1, w2⟩ := hw st q
  obtain ⟨s2, k1, k2⟩ := r s1 (w2.le hl)
  exact ⟨.nx, s2, by unfold sFor; rw [w1]; exact k1, rfl, k2⟩
end
section
variable {α β σ : Type}
/-- a loop that only adds to a list -/
theorem forO_ext {f : List β → α → Option (List β)} (F : α → List β) : ∀ (xs : List α) (s : List β), s.length + (xs.flatMap F).length ≤ sizeLine → (∀ x ∈ xs, ∀ s : List β, s.length + (F x).length ≤ sizeLine → f s x = some (s ++ F x)) → forO f xs s = some (s ++ xs.flatMap F)
  | [], s, _, _ => by simp [forO]
  | x :: xs, s, hz, h => by
    rw [List.flatMap_cons, List.length_append] at hz
    rw [forO, h x (List.mem_cons_self ..) s (by omega)]
    show forO f xs (s ++ F x) = _
    rw [forO_ext F xs (s ++ F x) (by rw [List.length_append]; omega) fun y hy => h y (List.mem_cons_of_mem _ hy), List.flatMap_cons, List.append_assoc]
/-- .. one at a time, of those with p -/
theorem forO_app {f : List β → α → Option (List β)} (p : α → Bool) (F : α → β) : ∀ (xs : List α) (s : List β), s.length + xs.length < sizeLine → (∀ x ∈ xs, ∀ s : List β, s.length < sizeLine → f s x = some (bif p x then s ++ [F x] else s)) → forO f xs s = some (s ++ (xs.filter p).map F)
  | [], s, _, _ => by simp [forO]
  | x :: xs, s, hz, h => by
    rw [List.length_cons] at hz
    rw [forO, h x (List.mem_cons_self ..) s (by omega), List.filter_cons]
    show forO f xs _ = _
    cases q : p x with
    | false => exact forO_app p F xs s (by omega) fun y hy => h y (List.mem_cons_of_mem _ hy)
    | true =>
      show forO f xs (s ++ [F x]) = _
      rw [forO_app p F xs (s ++ [F x]) (by rw [List.length_append]; show _ + 1 + _ < _; omega) fun y hy => h y (List.mem_cons_of_mem _ hy)]
      simp
theorem mapO_some {f : α → Option β} (F : α → β) : ∀ xs : List α, (∀ x ∈ xs, f x = some (F x)) → mapO f xs = some (xs.map F)
  | [], _ => rfl
  | x :: xs, h => by
    rw [mapO, h x (List.mem_cons_self ..)]
    show Option.bind _ _ = _
    rw [mapO_some F xs fun y hy => h y (List.mem_cons_of_mem _ hy)]
    rfl
theorem compO_some {c : α → Option Bool} {f : α → Option β} (p : α → Bool) (F : α → β) : ∀ xs : List α, (∀ x ∈ xs, c x = some (p x)) → (∀ x ∈ xs, p x = true → f x = some (F x)) → compO c f xs = some ((xs.filter p).map F)
  | [], _, _ => rfl
  | x :: xs, h, h2 => by
    rw [compO, h x (List.mem_cons_self ..)]
    have ih := compO_some p F xs (fun y hy => h y (List.mem_cons_of_mem _ hy)) fun y hy => h2 y (List.mem_cons_of_mem _ hy)
    show (bif p x then _ else _) = _
    rw [List.filter_cons]
    cases q : p x with
    | false => exact ih
    | true =>
      rw [h2 x (List.mem_cons_self ..) q]
      show Option.bind _ _ = _
      rw [ih]
      rfl
end
end TL

/-! Layer T: sorted(set(..)). -/
namespace TL
open PySem PySem.Spec PyProof.Rows L2 LD
theorem eraseDups_nodup {α : Type} [BEq α] [LawfulBEq α] (xs : List α) : xs.eraseDups.Nodup := nodup_eraseDups _ _ (Nat.le_refl _)
def sortSetN (xs : List Nat) : Option (List Nat) := if xs.length < 64 then some (sortT ltN xs.eraseDups) else none
def sortSetZ (xs : List Int) : Option (List Int) := if xs.length < 64 then some (sortT ltZ xs.eraseDups) else none
theorem sortT_lt {α : Type} {lt : α → α → Bool} (h : Lin lt) {xs : List α} (hn : xs.Nodup) : (sortT lt xs).Pairwise (fun a b => lt a b = true) := by
  have h1 := sortT_sorted h xs
  have h2 : (sortT lt xs).Nodup := (sortT_perm lt xs).nodup_iff.mpr hn
  refine (List.Pairwise.and h1 h2).imp fun {a b} q => ?_
  cases e : lt a b with
  | true => rfl
  | false => exact absurd (h.tri a b e q.1) q.2
theorem mem_sortT {α : Type} {lt : α → α → Bool} {xs : List α} {x : α} : x ∈ sortT lt xs ↔ x ∈ xs := (sortT_perm lt xs).mem_iff
theorem incI_N (xs : List Nat) : incI (xs.map fun (n : Nat) => (n : Int)) = (sortT ltN xs.eraseDups).map fun (n : Nat) => (n : Int) := by
  refine inc_unique (incI_lt _) ?_ fun k => ?_
  · rw [List.pairwise_map]
    refine (sortT_lt lin_N (eraseDups_nodup xs)).imp fun {a b} h => ?_
    have := of_decide_eq_true h
    omega
  · rw [mem_incI, List.mem_map, List.mem_map]
    constructor
    · rintro ⟨a, ha, rfl⟩
      exact ⟨a, mem_sortT.mpr (List.mem_eraseDups.mpr ha), rfl⟩
    · rintro ⟨a, ha, rfl⟩
      exact ⟨a, List.mem_eraseDups.mp (mem_sortT.mp ha), rfl⟩
theorem incI_Z (xs : List Int) : incI xs = sortT ltZ xs.eraseDups := by
  refine inc_unique (incI_lt _) ((sortT_lt lin_Z (eraseDups_nodup xs)).imp fun {a b} h => of_decide_eq_true h) fun k => ?_
  rw [mem_incI, mem_sortT, List.mem_eraseDups]
theorem o_sortSet_core {d : D} {xs ys : List Nat} (hd : numsA d = some (xs.map fun (n : Nat) => (n : Int))) (h : sortSetN xs = some ys) : dSortSet [d] = some (.own (tL tN ys)) := by
  unfold sortSetN at h
  split at h <;> cases h
  rename_i h
  unfold dSortSet
  dsimp only
  rw [hd]
  dsimp only
  rw [if_pos (by rw [List.length_map]; exact h), incI_N, map_NZ]
  rfl
theorem o_sortSetLN {xs ys : List Nat} (h : sortSetN xs = some ys) : dSortSet [tL tN xs] = some (.own (tL tN ys)) := o_sortSet_core (nums_N xs) h
theorem o_sortSetTN {xs ys : List Nat} (h : sortSetN xs = some ys) : dSortSet [tT tN xs] = some (.own (tL tN ys)) := o_sortSet_core (nums_N xs) h
theorem o_sortSetLZ {xs ys : List Int} (h : sortSetZ xs = some ys) : dSortSet [tL tZ xs] = some (.own (tL tZ ys)) := by
  unfold sortSetZ at h
  split at h <;> cases h
  rename_i h
  unfold dSortSet
  dsimp only
  rw [show numsA (tL tZ xs) = some xs from nums_Z xs]
  dsimp only
  rw [if_pos h, incI_Z]
  rfl
/-! sets of rows of numbers below 64, all of one length -/
theorem lex_code : ∀ {a b : List Int}, a.length = b.length → TS.Bd 64 a → TS.Bd 64 b → ltT ltZ a b = true → TS.code 64 a < TS.code 64 b
  | [], [], _, _, _, h => by cases h
  | [], _ :: _, h, _, _, _ => by simp at h
  | _ :: _, [], h, _, _, _ => by simp at h
  | x :: xs, y :: ys, h, ha, hb, q => by
    have hl : xs.length = ys.length := by simpa using h
    unfold ltT at q
    by_cases e : x = y
    · subst e
      rw [decide_eq_true rfl] at q
      have ih := lex_code hl ha.tail hb.tail q
      show x * 64 ^ xs.length + TS.code 64 xs < x * 64 ^ ys.length + TS.code 64 ys
      rw [hl]
      omega
    · rw [decide_eq_false e] at q
      exact TS.code_lt hl ha.tail hb.tail (of_decide_eq_true q)
section
variable {α : Type} [BEq α] [LawfulBEq α] {e : α → D} {lt : α → α → Bool}
/-- how a value is a row of numbers -/
structure RowE (e : α → D) (r : α → List Int) (lt : α → α → Bool) : Prop where
  eq : ∀ a, intsT (e a) = some (r a)
  tup : ∀ a, e a = tupI (r a)
  inj : ∀ a b, r a = r b → a = b
  lt : ∀ a b, lt a b = ltT ltZ (r a) (r b)
theorem intsTs_of {r : α → List Int} (h : RowE e r lt) : ∀ xs : List α, intsTs (xs.map e) = some (xs.map r)
  | [] => rfl
  | x :: xs => by rw [List.map_cons, intsTs, h.eq, intsTs_of h xs]; rfl
theorem setD_of {r : α → List Int} (h : RowE e r lt) (hl : Lin lt) {d : Nat} {xs : List α} (ok : ∀ x ∈ xs, (r x).length = d ∧ TS.Bd 64 (r x)) : setD (xs.map r) = (sortT lt xs.eraseDups).map r := by
  have key : ∀ y ∈ setD (xs.map r), y.length = d ∧ TS.Bd 64 y := fun y hy => by
    obtain ⟨x, hx, rfl⟩ := List.mem_map.mp (mem_setD.mp hy)
    exact ok x hx
  refine List.Perm.eq_of_pairwise (le := fun a b => TS.code 64 a ≤ TS.code 64 b) (fun a b ha hb h1 h2 => ?_) (setD_sorted _) ?_ (perm_of_nodup (setD_nodup _) ?_ fun a => ?_)
  · obtain ⟨x, hx, rfl⟩ := List.mem_map.mp hb
    have o1 := key a ha
    have o2 := ok x (List.mem_eraseDups.mp (mem_sortT.mp hx))
    exact code_inj _ _ (o1.1.trans o2.1.symm) o1.2 o2.2 (Int.le_antisymm h1 h2)
  · rw [List.pairwise_map]
    refine (sortT_lt hl (eraseDups_nodup xs)).imp_of_mem fun {a b} ha hb q => ?_
    have o1 := ok a (List.mem_eraseDups.mp (mem_sortT.mp ha))
    have o2 := ok b (List.mem_eraseDups.mp (mem_sortT.mp hb))
    have q2 : ltT ltZ (r a) (r b) = true := by rw [← h.lt]; exact q
    exact Int.le_of_lt (lex_code (o1.1.trans o2.1.symm) o1.2 o2.2 q2)
  · exact List.Pairwise.map r (fun a b hab q => hab (h.inj a b q)) ((sortT_perm lt _).nodup_iff.mpr (eraseDups_nodup xs))
  · rw [mem_setD, List.mem_map, List.mem_map]
    constructor
    · rintro ⟨x, hx, rfl⟩
      exact ⟨x, mem_sortT.mpr (List.mem_eraseDups.mpr hx), rfl⟩
    · rintro ⟨x, hx, rfl⟩
      exact ⟨x, List.mem_eraseDups.mp (mem_sortT.mp hx), rfl⟩
def rowOk (d : Nat) (r : List Int) : Bool := r.length == d && r.all fun i => decide (0 ≤ i ∧ i < 64)
theorem ev_sortSet {ps qs : List Sp} {k : RK} {a : M} {r : α → List Int} (h : RowE e r lt) (hl : Lin lt) {xs : List α} {d : Nat} (h64 : xs.length < 64) (hd : 1 ≤ d) (ok : (xs.all fun x => rowOk d (r x)) = true) (ha : Ev a ps k qs) (y : Rdy qs k) (hk : k.d = tL e xs) :
    Ev (mB dSortedA (lCons (mB dSetT (lCons a lNil)) lNil)) ps (.own (tL e (sortT lt xs.eraseDups))) qs := by
  have e1 : dSetT [k.d] = some (.own (.st (xs.map r))) := by
    rw [hk]
    show (match intsTs (xs.map e) with | some rs => if rs.length < 64 then some (R.own (.st rs)) else none | none => none) = _
    rw [intsTs_of h]
    dsimp only
    rw [if_pos (by rw [List.length_map]; exact h64)]
  have ok' : ∀ x ∈ xs, (r x).length = d ∧ TS.Bd 64 (r x) := fun x hx => by
    have := List.all_eq_true.mp ok x hx
    unfold rowOk at this
    simp only [Bool.and_eq_true, beq_iff_eq] at this
    exact ⟨this.1, fun m hm => by simpa using List.all_eq_true.mp this.2 m hm⟩
  have e2 : dSortedA [.st (xs.map r)] = some (.own (.lst ((setD (xs.map r)).map tupI))) := by
    have e0 : dSortedA [.st (xs.map r)] = dSortedT [.st (xs.map r)] := rfl
    rw [e0]
    cases xs with
    | nil => rw [show setD (List.map r []) = [] from List.mergeSort_nil]; rfl
    | cons x xs =>
      rw [List.map_cons]
      unfold dSortedT
      dsimp only
      have hx := ok' x (List.mem_cons_self ..)
      have ok2 : rowsOk (r x).length (r x :: xs.map r) = true := by
        unfold rowsOk
        rw [← List.map_cons, List.all_map, hx.1]
        exact ok
      rw [if_pos ⟨by rw [hx.1]; exact hd, ok2⟩]
  refine (ev_b1O (z := .lst ((setD (xs.map r)).map tupI)) (ev_b1O (z := .st (xs.map r)) ha y e1) trivial e2).cast ?_
  rw [setD_of h hl ok', List.map_map]
  unfold tL
  congr 2
  exact List.map_congr_left fun x _ => (h.tup x).symm
end
def rowPN (p : Nat × Nat) : List Int := [(p.1 : Int), (p.2 : Int)]
theorem row_P : RowE (tP tN tN) rowPN (ltPr ltN ltN) := ⟨fun a => rfl, fun a => rfl, fun a b h => by
    simp only [rowPN, List.cons.injEq, and_true] at h
    exact Prod.ext (by omega) (by omega), fun a b => by
    unfold rowPN ltT ltPr ltT ltT
    by_cases h : a.1 = b.1
    · rw [decide_eq_true h, decide_eq_true (show (a.1 : Int) = b.1 by omega)]
      by_cases h2 : a.2 = b.2
      · rw [cond_true, cond_true, decide_eq_true (show (a.2 : Int) = b.2 by omega), cond_true]
        unfold ltN
        exact decide_eq_false (by omega)
      · rw [cond_true, cond_true, decide_eq_false (show ¬ (a.2 : Int) = b.2 by omega), cond_false]
        unfold ltN ltZ
        by_cases q : a.2 < b.2
        · rw [decide_eq_true q, decide_eq_true (show (a.2 : Int) < b.2 by omega)]
        · rw [decide_eq_false q, decide_eq_false (show ¬ (a.2 : Int) < b.2 by omega)]
    · rw [decide_eq_false h, decide_eq_false (show ¬ (a.1 : Int) = b.1 by omega), cond_false, cond_false]
      unfold ltN ltZ
      by_cases q : a.1 < b.1
      · rw [decide_eq_true q, decide_eq_true (show (a.1 : Int) < b.1 by omega)]
      · rw [decide_eq_false q, decide_eq_false (show ¬ (a.1 : Int) < b.1 by omega)]⟩
def sortSetP (xs : List (Nat × Nat)) : Option (List (Nat × Nat)) := if xs.length < 64 ∧ (xs.all fun p => decide (p.1 < 64) && decide (p.2 < 64)) = true then some (sortT (ltPr ltN ltN) xs.eraseDups) else none
theorem ev_sortSetP {ps qs : List Sp} {k : RK} {a : M} {xs ys : List (Nat × Nat)} (h : sortSetP xs = some ys) (ha : Ev a ps k qs) (y : Rdy qs k) (hk : k.d = tL (tP tN tN) xs := by rfl) : Ev (mB dSortedA (lCons (mB dSetT (lCons a lNil)) lNil)) ps (.own (tL (tP tN tN) ys)) qs := by
  unfold sortSetP at h
  split at h <;> cases h
  rename_i hh
  refine ev_sortSet row_P (lin_P lin_N lin_N) hh.1 (d := 2) (by omega) (List.all_eq_true.mpr fun p hp => ?_) ha y hk
  have := List.all_eq_true.mp hh.2 p hp
  simp only [Bool.and_eq_true, decide_eq_true_eq] at this
  unfold rowOk rowPN
  have h1 : (p.1 : Int) < 64 := by omega
  have h2 : (p.2 : Int) < 64 := by omega
  have h3 : (0 : Int) ≤ p.1 := by omega
  have h4 : (0 : Int) ≤ p.2 := by omega
  simp [h1, h2, h3, h4]
theorem row_T : RowE (tT tN) (fun xs => xs.map fun (n : Nat) => (n : Int)) (ltT ltN) := ⟨fun a => nums_N a, fun a => by
    unfold tupI tT
    rw [map_NZ], fun a b h => List.map_inj_right (fun x y q => by omega) |>.mp h, fun a b => by
    induction a generalizing b with
    | nil => cases b <;> rfl
    | cons x a ih =>
      cases b with
      | nil => rfl
      | cons y b =>
        rw [List.map_cons, List.map_cons]
        unfold ltT
        rw [ih b]
        by_cases h : x = y
        · rw [decide_eq_true h, decide_eq_true (show (x : Int) = y by omega), cond_true, cond_true]
        · rw [decide_eq_false h, decide_eq_false (show ¬ (x : Int) = y by omega), cond_false, cond_false]
          unfold ltN ltZ
          by_cases q : x < y
          · rw [decide_eq_true q, decide_eq_true (show (x : Int) < y by omega)]
          · rw [decide_eq_false q, decide_eq_false (show ¬ (x : Int) < y by omega)]⟩
def sortSetT (xs : List (List Nat)) : Option (List (List Nat)) := match xs with
  | [] => some []
  | x :: xs => if (x :: xs).length < 64 ∧ 1 ≤ x.length ∧ ((x :: xs).all fun p => p.length == x.length && p.all fun i => decide (i < 64)) = true then some (sortT (ltT ltN) (x :: xs).eraseDups) else none
theorem ev_sortSetT {ps qs : List Sp} {k : RK} {a : M} {xs ys : List (List Nat)} (h : sortSetT xs = some ys) (ha : Ev a ps k qs) (y : Rdy qs k) (hk : k.d = tL (tT tN) xs := by rfl) : Ev (mB dSortedA (lCons (mB dSetT (lCons a lNil)) lNil)) ps (.own (tL (tT tN) ys)) qs := by
  cases xs with
  | nil =>
    cases h
    exact ev_sortSet row_T (lin_T lin_N) (xs := []) (d := 1) (by decide) (by omega) rfl ha y hk
  | cons x xs =>
    unfold sortSetT at h
    dsimp only at h
    split at h <;> cases h
    rename_i hh
    refine ev_sortSet row_T (lin_T lin_N) hh.1 (d := x.length) hh.2.1 (List.all_eq_true.mpr fun p hp => ?_) ha y hk
    have := List.all_eq_true.mp hh.2.2 p hp
    rw [Bool.and_eq_true] at this
    unfold rowOk
    rw [Bool.and_eq_true]
    refine ⟨by rw [List.length_map]; exact this.1, ?_⟩
    rw [List.all_map]
    refine List.all_eq_true.mpr fun i hi => ?_
    have := of_decide_eq_true (List.all_eq_true.mp this.2 i hi)
    exact decide_eq_true (show (0 : Int) ≤ (i : Int) ∧ (i : Int) < 64 by omega)
/-! len(set(..)) of rows -/
theorem o_lenSet_rows {α : Type} [BEq α] [LawfulBEq α] {e : α → D} {r : α → List Int} {lt : α → α → Bool} (h : RowE e r lt) {xs : List α} (h64 : xs.length < 64) (hn : numsA (tL e xs) = none ∨ xs = []) : dLenSet [tL e xs] = some (.imm (tN (nDist xs))) := by
  unfold dLenSet
  dsimp only
  rcases hn with hn | rfl
  · rw [hn]
    dsimp only [tL]
    rw [intsTs_of h]
    dsimp only
    rw [if_pos (by rw [List.length_map]; exact h64)]
    have : (setD (xs.map r)).length = nDist xs := by
      rw [(setD_perm _).length_eq, eraseDups_map (fun a b q => h.inj a b q) xs.length xs (Nat.le_refl _), List.length_map]
      rfl
    rw [this]
    rfl
  · have e1 : incI [] = [] := by unfold incI; simp
    show ri ((incI []).length : Nat) = _
    rw [e1]
    rfl
theorem o_lenSetLP {xs : List (Nat × Nat)} {n : Nat} (h : lenSetO xs = some n) : dLenSet [tL (tP tN tN) xs] = some (.imm (tN n)) := by
  unfold lenSetO at h
  split at h <;> cases h
  refine o_lenSet_rows row_P (by assumption) ?_
  cases xs with
  | nil => exact .inr rfl
  | cons x xs => exact .inl rfl
theorem o_lenSetLT {xs : List (List Nat)} {n : Nat} (h : lenSetO xs = some n) : dLenSet [tL (tT tN) xs] = some (.imm (tN n)) := by
  unfold lenSetO at h
  split at h <;> cases h
  refine o_lenSet_rows row_T (by assumption) ?_
  cases xs with
  | nil => exact .inr rfl
  | cons x xs => exact .inl rfl
end TL

namespace LW
open PySem PySem.Spec PyProof.Rows L2 LD TL
/-! a web as a typed value -/
structure W where
  n : Nat
  L : List (Nat × Nat)
  hn : 1 ≤ n ∧ n ≤ 7
  hL : okL n L
deriving DecidableEq
def eW (w : W) : D := eWeb w.n w.L
theorem nn_W : NN eW := ⟨fun _ => nofun⟩
instance (n : Nat) (L : List (Nat × Nat)) : Decidable (okL n L) := by unfold okL; infer_instance
def mkW (n : Nat) (L : List (Nat × Nat)) : Option W := if h : (1 ≤ n ∧ n ≤ 7) ∧ okL n L then some ⟨n, L, h.1, h.2⟩ else none
section
variable {ps ps1 qs : List TL.Sp} {k : RK} {a : M} {w : W}
theorem ev_corners (h : Ev a ps k qs) (y : Rdy qs k) (e : k.d = eW w) : Ev (mFld 0 0 a) ps (.imm (tN w.n)) qs := ev_fld h y e rfl
theorem ev_lines (h : Ev a ps k qs) (y : Rdy qs k) (e : k.d = eW w) : Ev (mFld 0 1 a) ps (.imm (tT (tP tN tN) w.L)) qs := ev_fld h y e rfl
end
theorem fr_has_line (w : W) (a b : Nat) : FR m_has_line [.imm (eW w), .imm (tN a), .imm (tN b)] (.imm (tB (adj w.L a b))) [.imm (eW w), .imm (tN a), .imm (tN b)] :=
  ⟨_, e_has_line w.hL a b, rfl⟩
theorem fr_near_of (w : W) (a : Nat) : FR m_near_of [.imm (eW w), .imm (tN a)] (.own (tL tN (near w.n w.L a))) [.imm (eW w), .imm (tN a)] :=
  ⟨_, e_near w.hL (by have := w.hn; omega) a, rfl⟩
theorem make_W {w : W} {n : Nat} {L : List (Nat × Nat)} (h : mkW n L = some w) : m_Web [.rt false (.ins 0 []), .imm (tN n), .imm (tT (tP tN tN) L)] = some (.imm .non, [.rt false (eW w), .imm (tN n), .imm (tT (tP tN tN) L)]) := by
  unfold mkW at h
  split at h <;> cases h
  rename_i h
  exact e_Web h.1 h.2
end LW

namespace LW
open PySem PySem.Spec PyProof.Rows L2 LD TL
/-! draws as typed steps -/
theorem fr_draw {d : D} (h : isHand d) (sides : Nat) (h1 : 1 ≤ sides) (h2 : sides ≤ 1000) : ∃ (r : Nat) (d' : D), r < sides ∧ isHand d' ∧ FR m_law_draw [.rt false d, .imm (tN sides)] (.imm (tN r)) [.rt false d', .imm (tN sides)] := by
  obtain ⟨r, d', a, b, c⟩ := x_draw h sides h1 h2
  exact ⟨r, d', a, b, _, c, rfl⟩
section
variable {ps ps1 : List TL.Sp} {i : Nat} {d : D} {a : M}
theorem own_rt (e : ps[i]? = some (.own d)) : isRt ps i = true ∧ rd ps i = some d := by
  unfold isRt rd
  rw [e]
  exact ⟨rfl, rfl⟩
theorem own_set (e : ps[i]? = some (.own d)) (d' : D) : setRt ps i d' = ps.set i (.own d') := by
  unfold setRt
  rw [e]
theorem ev_lentcall {f : FM} {z d' : D} {k : RK} (e : ps[i]? = some (.own d)) (ha : Ev a ps (.imm z) ps) (h : FR f [.rt false d, .imm z] k [.rt false d', .imm z]) (nv : NoVar k) : Ev (mCall f (cIo i (cVal a cNil))) ps k (ps.set i (.own d')) := by
  obtain ⟨e1, e2⟩ := own_rt e
  refine ev_call (svs := [.rt false d, .imm z]) (evC_io e1 (evC_val ha .imm evC_nil)) ?_ rfl h ?_ nv
  · unfold svsS svsS
    rw [if_pos e1, e2]
    rfl
  · unfold backS
    rw [if_pos e1, own_set e]
    rfl
theorem ev_draw {sides : Nat} (hd : isHand d) (e : ps[i]? = some (.own d)) (ha : Ev a ps (.imm (tN sides)) ps) (h1 : 1 ≤ sides) (h2 : sides ≤ 1000) :
    ∃ (r : Nat) (d' : D), r < sides ∧ isHand d' ∧ Ev (mCall m_law_draw (cIo i (cVal a cNil))) ps (.imm (tN r)) (ps.set i (.own d')) := by
  obtain ⟨r, d', q1, q2, q3⟩ := fr_draw hd sides h1 h2
  exact ⟨r, d', q1, q2, ev_lentcall e ha q3 trivial⟩
theorem ev_linesD {n : Nat} (hd : isHand d) (e : ps[i]? = some (.own d)) (ha : Ev a ps (.imm (tN n)) ps) (hn : n ≤ 7) :
    ∃ (L : List (Nat × Nat)) (d' : D), okL n L ∧ isHand d' ∧ Ev (mCall m_law_lines (cIo i (cVal a cNil))) ps (.imm (tT (tP tN tN) L)) (ps.set i (.own d')) := by
  obtain ⟨L, d', q1, q2, q3⟩ := e_lines hd hn
  exact ⟨L, d', q2, q1, ev_lentcall e ha ⟨_, q3, rfl⟩ trivial⟩
end
theorem fr_hand (ns : List Int) : ∃ d, isHand d ∧ FR m_law_hand [.imm (.scr ns)] (.own d) [.imm (.scr ns)] := by
  obtain ⟨cells, s, e⟩ := e_hand ns
  exact ⟨_, ⟨cells, 0, 0, s, 0, Int.le_refl _, rfl⟩, _, e, rfl⟩
/-! all webs -/
noncomputable def allSub {α : Type} (ps : List α) : (List α → Bool) → Bool := List.rec (motive := fun _ => (List α → Bool) → Bool) (fun f => f []) (fun p _ ih f => cond (ih fun L => f (p :: L)) (ih f) false) ps
theorem allSub_sound {α : Type} : ∀ {ps : List α} {f : List α → Bool}, allSub ps f = true → ∀ L, L.Sublist ps → f L = true
  | [], f, h, L, hs => by cases hs; exact h
  | p :: ps, f, h, L, hs => by
    have h' : cond (allSub ps fun L => f (p :: L)) (allSub ps f) false = true := h
    cases e : allSub ps fun L => f (p :: L) with
    | false => rw [e] at h'; cases h'
    | true =>
      rw [e] at h'
      cases hs with
      | cons _ hs => exact allSub_sound (show allSub ps f = true from h') L hs
      | cons_cons _ hs => exact allSub_sound e _ hs
def pairsK (n : Nat) : List (Nat × Nat) := ([(0, 1), (0, 2), (0, 3), (0, 4), (0, 5), (0, 6), (1, 2), (1, 3), (1, 4), (1, 5), (1, 6), (2, 3), (2, 4), (2, 5), (2, 6), (3, 4), (3, 5), (3, 6), (4, 5), (4, 6), (5, 6)] : List (Nat × Nat)).filter fun p => decide (p.2 < n)
theorem pairs_sorted : ∀ n, n < 8 → (pairsK n).Pairwise ltP := by decide +kernel
theorem pairs_mem0 : ((List.range 8).all fun n => (List.range 7).all fun a => (List.range 7).all fun b => !(decide (a < b) && decide (b < n)) || (pairsK n).contains (a, b)) = true := by decide +kernel
theorem pairs_mem {n a b : Nat} (h1 : n ≤ 7) (h4 : a < b) (h5 : b < n) : (a, b) ∈ pairsK n := by
  have h := List.all_eq_true.mp (List.all_eq_true.mp (List.all_eq_true.mp pairs_mem0 n (List.mem_range.mpr (by omega))) a (List.mem_range.mpr (by omega))) b (List.mem_range.mpr (by omega))
  rw [decide_eq_true h4, decide_eq_true h5] at h
  simpa using h
theorem ltP_asymm {p q : Nat × Nat} (h : ltP p q) (h' : ltP q p) : False := by unfold ltP at *; omega
theorem sub_of_sorted : ∀ {P L : List (Nat × Nat)}, P.Pairwise ltP → L.Pairwise ltP → (∀ x ∈ L, x ∈ P) → L.Sublist P
  | [], [], _, _, _ => List.Sublist.slnil
  | [], x :: L, _, _, h => by have := h x (List.mem_cons_self ..); cases this
  | q :: P, [], _, _, _ => List.nil_sublist _
  | q :: P, p :: L, hP, hL, h => by
    obtain ⟨p1, p2⟩ := List.pairwise_cons.mp hP
    obtain ⟨l1, l2⟩ := List.pairwise_cons.mp hL
    rcases List.mem_cons.mp (h p (List.mem_cons_self ..)) with e | hp
    · subst e
      refine List.Sublist.cons_cons _ (sub_of_sorted p2 l2 fun x hx => ?_)
      rcases List.mem_cons.mp (h x (List.mem_cons_of_mem _ hx)) with e | z
      · subst e; exact (ltP_asymm (l1 x hx) (l1 x hx)).elim
      · exact z
    · refine List.Sublist.cons _ (sub_of_sorted p2 hL fun x hx => ?_)
      rcases List.mem_cons.mp (h x hx) with e | z
      · subst e
        rcases List.mem_cons.mp hx with e | hx
        · subst e; exact hp
        · exact (ltP_asymm (l1 x hx) (p1 p hp)).elim
      · exact z
theorem okL_sub {n : Nat} (hn : n ≤ 7) {L : List (Nat × Nat)} (h : okL n L) : L.Sublist (pairsK n) := sub_of_sorted (pairs_sorted n (by omega)) h.2 fun p hp => by
  obtain ⟨a, b⟩ := h.1 p hp
  exact pairs_mem hn a b
theorem allWebs {n : Nat} (hn : n ≤ 7) {f : List (Nat × Nat) → Bool} (h : allSub (pairsK n) f = true) {L : List (Nat × Nat)} (hL : okL n L) : f L = true := allSub_sound h L (okL_sub hn hL)
theorem mkW_some {n : Nat} {L : List (Nat × Nat)} (h1 : 1 ≤ n ∧ n ≤ 7) (h2 : okL n L) : mkW n L = some ⟨n, L, h1, h2⟩ := by
  unfold mkW
  rw [dif_pos ⟨h1, h2⟩]
/-- went on -/
def isGo : Option (Res Unit Bool) → Bool
  | some (.go _) => true
  | _ => false
theorem of_isGo {o : Option (Res Unit Bool)} (h : isGo o = true) : o = some (.go ()) := by
  unfold isGo at h
  split at h
  · rfl
  · cases h
end LW

namespace LW
open PySem PySem.Spec PyProof.Rows L2 LD TL
-- _law_tuples (('N',), ('N',), ('N',)): ('L', ('T', ('N',)))
abbrev rt_law_tuples (v_size : Nat) (v_least : Nat) (v_most : Nat) : ((List (List Nat))) → Po := fun r => .ret (.fr ((tL (tT tN)) r)) [.imm (tN v_size), .imm (tN v_least), .imm (tN v_most)] [.imm (tN v_size), .imm (tN v_least), .imm (tN v_most)]
def q_law_tuples_3 (v_least : Nat) (v_most : Nat) : (List (List Nat)) → (List Nat) → Option ((List (List Nat))) := fun s x => (rg2O v_least ((v_most + 1))).bind fun x4 => (mapO (fun (a5 : Nat) => (catO x ([a5])).bind fun x6 => some x6) x4).bind fun x8 => (extO s x8).bind fun x9 => some x9
theorem tq_law_tuples_3 (v_least : Nat) (v_most : Nat) (v_size : Nat) (v_found : (List (List Nat))) (v_turn : Nat)  (w_longer : (List (List Nat)))  (r : _) (h : forO (q_law_tuples_3 v_least v_most) v_found w_longer = some r) : Run (s_law_tuples_3) [.imm (tN v_size), .imm (tN v_least), .imm (tN v_most), .val ((tL (tT tN)) v_found), .imm (tN v_turn), .own ((tL (tT tN)) w_longer), .any, .any] ((fun q => .nx ((fun (s : (List (List Nat))) => ([.imm (tN v_size), .imm (tN v_least), .imm (tN v_most), .val ((tL (tT tN)) v_found), .imm (tN v_turn), .own ((tL (tT tN)) s), .any, .any] : List TL.Sp)) q)) r) := by
  refine' run_for (S := (fun (s : (List (List Nat))) => ([.imm (tN v_size), .imm (tN v_least), .imm (tN v_most), .val ((tL (tT tN)) v_found), .imm (tN v_turn), .own ((tL (tT tN)) s), .any, .any] : List TL.Sp))) (ea := (tT tN)) ?hw ?hl ?hg ?hb h
  case hw => exact (evI_seqL (ev_var rfl) (.vv rfl) rfl)
  case hl => exact (.cons .rf (.cons .rf (.cons .rf (.cons .rf (.cons .rf (.cons .rf (.cons .an (.cons .an .nil))))))))
  case hg => exact (fun s x => evG_n)
  case hb => exact (fun s x r h => bndE h fun x4 hx4 h => bndE h fun x8 hx8 h => bndE h fun x9 hx9 h => run_some (F := (fun q => .nx ((fun (s : (List (List Nat))) => ([.imm (tN v_size), .imm (tN v_least), .imm (tN v_most), .val ((tL (tT tN)) v_found), .imm (tN v_turn), .own ((tL (tT tN)) s), .any, .any] : List TL.Sp)) q))) h (Run.le (run_ext (e := (tT tN)) hx9 rfl rfl (ev_lcMO (ea := tN) (eb := (tT tN)) hx8 (evI_rg2T hx4 (ev_imm rfl) (ev_bin (ev_imm rfl) (ev_as (ev_c _) (tN 1) rfl) trivial trivial (o_addN _ _))) (fun a5 => evG_n) (fun _ => rfl) (fun a5 y7 hq => bndE hq fun x6 hx6 hq => kept_some (e := (tT tN)) hq (kept_imm (ev_bin (ev_imm rfl) (ev_as (ev_tup (evA_cons (ev_imm rfl) .imm evA_nil)) ((tT tN) [a5]) rfl) trivial trivial (o_catT (e := tN) hx6))))) trivial rfl rfl rfl) (.cons .rf (.cons .rf (.cons .rf (.cons .rf (.cons .rf (.cons .rf (.cons .an (.cons .an .nil))))))))))
def q_law_tuples_1 (v_least : Nat) (v_most : Nat) : (List (List Nat)) → Nat → Option ((List (List Nat))) := fun s x => lett (([] : (List (List Nat)))) fun v3 => (forO (q_law_tuples_3 v_least v_most) s v3).bind fun t10 => some t10
theorem tq_law_tuples_1 (v_least : Nat) (v_most : Nat) (v_size : Nat)  (w_found : (List (List Nat))) (x11 : _) (hx11 : rgO v_size = some x11) (r : _) (h : forO (q_law_tuples_1 v_least v_most) x11 w_found = some r) : Run (s_law_tuples_1) [.imm (tN v_size), .imm (tN v_least), .imm (tN v_most), .own ((tL (tT tN)) w_found), .any, .any, .any, .any] ((fun q => .nx ((fun (s : (List (List Nat))) => ([.imm (tN v_size), .imm (tN v_least), .imm (tN v_most), .val ((tL (tT tN)) s), .any, .any, .any, .any] : List TL.Sp)) q)) r) := by
  refine' run_for (S := (fun (s : (List (List Nat))) => ([.imm (tN v_size), .imm (tN v_least), .imm (tN v_most), .val ((tL (tT tN)) s), .any, .any, .any, .any] : List TL.Sp))) (ea := tN) ?hw ?hl ?hg ?hb h
  case hw => exact (evI_rgT hx11 (ev_imm rfl))
  case hl => exact (.cons .rf (.cons .rf (.cons .rf (.cons .ov (.cons .an (.cons .an (.cons .an (.cons .an .nil))))))))
  case hg => exact (fun s x => evG_n)
  case hb => exact (fun s x r h => run_let (fun v3 => List.set _ 5 (.own ((tL (tT tN)) v3))) (run_setO (ev_asO (ev_lst evA_nil) ((tL (tT tN)) ([] : (List (List Nat)))) rfl)) h fun v3 h => bndE h fun t10 ht h => run_seq (Run.pre (tq_law_tuples_3 v_least v_most v_size s x  v3  _ ht) (.cons .rf (.cons .rf (.cons .rf (.cons .rf (.cons .rf (.cons .rf (.cons .an (.cons .an .nil))))))))) (run_some (F := (fun q => .nx ((fun (s : (List (List Nat))) => ([.imm (tN v_size), .imm (tN v_least), .imm (tN v_most), .val ((tL (tT tN)) s), .any, .any, .any, .any] : List TL.Sp)) q))) h (Run.le (run_setV (ev_var rfl) (.vo rfl)) (.cons .rf (.cons .rf (.cons .rf (.cons .iv (.cons .an (.cons .an (.cons .an (.cons .an .nil)))))))))))
def p_law_tuples (v_size : Nat) (v_least : Nat) (v_most : Nat) : Option ((List (List Nat))) := lett ([([] : (List Nat))]) fun v1 => (rgO v_size).bind fun x2 => (forO (q_law_tuples_1 v_least v_most) x2 v1).bind fun t12 => some t12
theorem t_law_tuples (v_size : Nat) (v_least : Nat) (v_most : Nat) (r : ((List (List Nat)))) (h : p_law_tuples v_size v_least v_most = some r) : FR m_law_tuples [.imm (tN v_size), .imm (tN v_least), .imm (tN v_most)] (.fr ((tL (tT tN)) r)) [.imm (tN v_size), .imm (tN v_least), .imm (tN v_most)] :=
  fn_run (n := 8) (body := b_law_tuples) (ps := [.imm (tN v_size), .imm (tN v_least), .imm (tN v_most), .any, .any, .any, .any, .any]) rfl (run_let (fun v1 => List.set _ 3 (.own ((tL (tT tN)) v1))) (run_setO (ev_asO (ev_lst (evA_cons (ev_as (ev_tup evA_nil) ((tT tN) ([] : (List Nat))) rfl) .imm evA_nil)) ((tL (tT tN)) [([] : (List Nat))]) rfl)) h fun v1 h => bndE h fun x2 hx2 h => bndE h fun t12 ht h => run_seq (Run.pre (tq_law_tuples_1 v_least v_most v_size  v1 x2 hx2 _ ht) (.cons .rf (.cons .rf (.cons .rf (.cons .rf (.cons .an (.cons .an (.cons .an (.cons .an .nil))))))))) (run_some (F := (rt_law_tuples v_size v_least v_most)) h (run_retVv (ev_var rfl) rfl rfl)))
-- differences (('W',), ('T', ('N',))): ('L', ('N',))
abbrev rt_differences (v_web : W) (v_told : (List Nat)) : ((List Nat)) → Po := fun r => .ret (.own ((tL tN) r)) [.imm (eW v_web), .imm ((tT tN) v_told)] [.imm (eW v_web), .imm ((tT tN) v_told)]
def p_differences (v_web : W) (v_told : (List Nat)) : Option ((List Nat)) := (compO (fun (a1 : (Nat × Nat)) => some ((ltN a1.2 v_told.length))) (fun (a1 : (Nat × Nat)) => (v_told[a1.1]?).bind fun x2 => (v_told[a1.2]?).bind fun x3 => some ((((x2 : Int) - (x3 : Int))).natAbs)) v_web.L).bind fun x5 => some x5
theorem t_differences (v_web : W) (v_told : (List Nat)) (r : ((List Nat))) (h : p_differences v_web v_told = some r) : FR m_differences [.imm (eW v_web), .imm ((tT tN) v_told)] (.own ((tL tN) r)) [.imm (eW v_web), .imm ((tT tN) v_told)] :=
  fn_run (n := 5) (body := b_differences) (ps := [.imm (eW v_web), .imm ((tT tN) v_told), .any, .any, .any]) rfl (run_seq (run_setI (ev_b1 (ev_imm rfl) trivial (o_lenT _))) (bndE h fun x5 hx5 h => run_some (F := (rt_differences v_web v_told)) h (run_retO (ev_lcO (ea := (tP tN tN)) (eb := tN) hx5 (evI_seqT (ev_lines (ev_imm rfl) trivial rfl) .imm rfl) (fun a1 => (evG_t (evGs_cons evG_n (evGs_cons evG_n evGs_nil)) rfl)) (fun _ => rfl) (fun a1 y4 hq => evT_some hq (evT_t (ev_bin (ev_imm rfl) (ev_imm rfl) trivial trivial (o_lt cmp_N (by decide) _ _)))) (fun a1 y4 hq => bndE hq fun x2 hx2 hq => bndE hq fun x3 hx3 hq => kept_some (e := tN) hq (kept_imm (ev_b1 (ev_bin (ev_bin (ev_imm rfl) (ev_imm rfl) trivial trivial (o_ixT (e := tN) hx2)) (ev_bin (ev_imm rfl) (ev_imm rfl) trivial trivial (o_ixT (e := tN) hx3)) trivial trivial (o_subNZ _ _)) trivial (o_absZ _))))) rfl)))
-- graceful_on (('W',), ('T', ('N',))): ('O', ('T', ('N',)))
abbrev rt_graceful_on (v_web : W) (v_told : (List Nat)) : ((Option (List Nat))) → Po := fun r => .ret (.imm ((tO (tT tN)) r)) [.imm (eW v_web), .imm ((tT tN) v_told)] [.imm (eW v_web), .imm ((tT tN) v_told)]
def q_graceful_on_5 (rf : W → (List Nat) → Option ((Option (List Nat)))) (v_web : W) (v_told : (List Nat)) : Unit → Nat → Option (Res (Unit) ((Option (List Nat)))) := fun _ x => bif (!decide (x ∈ v_told)) then (catO v_told ([x])).bind fun x4 => (rf v_web x4).bind fun x5 => bif (x5).isSome then some (.ret x5) else some (.go (())) else some (.go (()))
theorem tq_graceful_on_5 (rf : W → (List Nat) → Option ((Option (List Nat)))) (rfm : FM) (hrf : ∀ (a0 : W) (a1 : (List Nat)) (r : ((Option (List Nat)))), rf a0 a1 = some r → FR rfm [.imm (eW a0), .imm ((tT tN) a1)] (.imm ((tO (tT tN)) r)) [.imm (eW a0), .imm ((tT tN) a1)]) (v_web : W) (v_told : (List Nat)) (v_some : (List Nat))   (x6 : _) (hx6 : rgO ((v_web.L.length + 1)) = some x6) (r : _) (h : forR (q_graceful_on_5 rf v_web v_told) x6 () = some r) : Run (s_graceful_on_5 rfm) [.imm (eW v_web), .imm ((tT tN) v_told), .own ((tL tN) v_some), .any, .any] ((PoR (fun (_ : Unit) => ([.imm (eW v_web), .imm ((tT tN) v_told), .own ((tL tN) v_some), .any, .any] : List TL.Sp)) (rt_graceful_on v_web v_told)) r) := by
  refine' run_forR (S := (fun (_ : Unit) => ([.imm (eW v_web), .imm ((tT tN) v_told), .own ((tL tN) v_some), .any, .any] : List TL.Sp))) (ea := tN) ?hw ?hl retp_of ?hg ?hb h
  case hw => exact (evI_rgT hx6 (ev_bin (ev_b1 (ev_lines (ev_imm rfl) trivial rfl) trivial (o_lenT _)) (ev_as (ev_c _) (tN 1) rfl) trivial trivial (o_addN _ _)))
  case hl => exact (.cons .rf (.cons .rf (.cons .rf (.cons .an (.cons .an .nil)))))
  case hg => exact (fun _ x => evG_n)
  case hb => exact (fun _ x r h => run_if (evT_t (ev_bin (ev_imm rfl) (ev_imm rfl) trivial trivial (o_ninT nice_N (by decide) _ _))) (fun hc => have h := bif_t hc h; bndE h fun x4 hx4 h => bndE h fun x5 hx5 h => run_seq (run_setI (ev_call (svs := [.imm (eW v_web), .imm ((tT tN) x4)]) (evC_val (ev_imm rfl) .imm (evC_val (ev_bin (ev_imm rfl) (ev_as (ev_tup (evA_cons (ev_imm rfl) .imm evA_nil)) ((tT tN) [x]) rfl) trivial trivial (o_catT (e := tN) hx4)) .imm evC_nil)) rfl rfl (hrf v_web x4 _ hx5) rfl trivial)) (run_if (evT_t (ev_bin (ev_imm rfl) (ev_c _) trivial trivial (o_notN nn_T x5))) (fun hc => have h := bif_t hc h; run_some (F := (PoR (fun (_ : Unit) => ([.imm (eW v_web), .imm ((tT tN) v_told), .own ((tL tN) v_some), .any, .any] : List TL.Sp)) (rt_graceful_on v_web v_told))) h (run_retI (ev_imm rfl) rfl)) (fun hc => have h := bif_f hc h; run_some (F := (PoR (fun (_ : Unit) => ([.imm (eW v_web), .imm ((tT tN) v_told), .own ((tL tN) v_some), .any, .any] : List TL.Sp)) (rt_graceful_on v_web v_told))) h (Run.le run_nx (.cons .rf (.cons .rf (.cons .rf (.cons .an (.cons .an .nil))))))))) (fun hc => have h := bif_f hc h; run_some (F := (PoR (fun (_ : Unit) => ([.imm (eW v_web), .imm ((tT tN) v_told), .own ((tL tN) v_some), .any, .any] : List TL.Sp)) (rt_graceful_on v_web v_told))) h (Run.le run_nx (.cons .rf (.cons .rf (.cons .rf (.cons .an (.cons .an .nil))))))))
def p_graceful_on : Nat → W → (List Nat) → Option ((Option (List Nat)))
  | 0 => fun _ _ => none
  | z + 1 => fun v_web v_told => lett (p_graceful_on z) fun rf => (p_differences v_web v_told).bind fun x1 => (lenSetO x1).bind fun x2 => bif (ltN x2 x1.length) then some none else bif (decide (v_told.length = v_web.n)) then some ((some v_told)) else (rgO ((v_web.L.length + 1))).bind fun x3 => thenR (fun v => v) (forR (q_graceful_on_5 rf v_web v_told) x3 (())) fun t7 => some none
theorem t_graceful_on : ∀ (z : Nat) (v_web : W) (v_told : (List Nat)) (r : ((Option (List Nat)))), p_graceful_on z v_web v_told = some r → FR (m_graceful_on z) [.imm (eW v_web), .imm ((tT tN) v_told)] (.imm ((tO (tT tN)) r)) [.imm (eW v_web), .imm ((tT tN) v_told)]
  | 0, _, _, _, h => nomatch h
  | z + 1, v_web, v_told, r, h => (fun (rf : W → (List Nat) → Option ((Option (List Nat)))) (rfm : FM) (hrf : ∀ (a0 : W) (a1 : (List Nat)) (r : ((Option (List Nat)))), rf a0 a1 = some r → FR rfm [.imm (eW a0), .imm ((tT tN) a1)] (.imm ((tO (tT tN)) r)) [.imm (eW a0), .imm ((tT tN) a1)]) (h : ((p_differences v_web v_told).bind fun x1 => (lenSetO x1).bind fun x2 => bif (ltN x2 x1.length) then some none else bif (decide (v_told.length = v_web.n)) then some ((some v_told)) else (rgO ((v_web.L.length + 1))).bind fun x3 => thenR (fun v => v) (forR (q_graceful_on_5 rf v_web v_told) x3 (())) fun t7 => some none) = some r) => (fn_run (n := 5) (body := b_graceful_on rfm) (ps := [.imm (eW v_web), .imm ((tT tN) v_told), .any, .any, .any]) rfl (bndE h fun x1 hx1 h => run_seq (run_setO (ev_call (svs := [.imm (eW v_web), .imm ((tT tN) v_told)]) (evC_val (ev_imm rfl) .imm (evC_val (ev_imm rfl) .imm evC_nil)) rfl rfl (t_differences v_web v_told _ hx1) rfl trivial)) (bndE h fun x2 hx2 h => run_if_seq (evT_t (ev_bin (ev_b1 (ev_var rfl) (by exact rfl) (o_lenSetLN hx2)) (ev_b1 (ev_var rfl) (by exact rfl) (o_lenL _)) trivial trivial (o_lt cmp_N (by decide) _ _))) (fun hc => have h := bif_t hc h; run_some (F := (rt_graceful_on v_web v_told)) h (run_seqR (run_retI (ev_as (ev_c _) ((tO (tT tN)) none) (((fun _ => rfl) (())).symm)) rfl))) (fun hc => have h := bif_f hc h; run_seq run_nx (run_if_seq (evT_t (ev_bin (ev_b1 (ev_imm rfl) trivial (o_lenT _)) (ev_corners (ev_imm rfl) trivial rfl) trivial trivial (o_eq nice_N (by decide) v_told.length v_web.n))) (fun hc => have h := bif_t hc h; run_some (F := (rt_graceful_on v_web v_told)) h (run_seqR (run_retI (ev_as (ev_imm rfl) ((tO (tT tN)) ((some v_told))) (((fun _ => rfl) v_told).symm)) rfl))) (fun hc => have h := bif_f hc h; run_seq run_nx (bndE h fun x3 hx3 h => thenE' (F := (rt_graceful_on v_web v_told)) h (fun t7 ht h => run_seq (Run.pre (tq_graceful_on_5 rf rfm hrf v_web v_told x1   x3 hx3 _ ht) (.cons .rf (.cons .rf (.cons .rf (.cons .an (.cons .an .nil)))))) (run_some (F := (rt_graceful_on v_web v_told)) h (run_retI (ev_as (ev_c _) ((tO (tT tN)) none) (((fun _ => rfl) (())).symm)) rfl))) (fun r8 ht => run_seqR (Run.pre (tq_graceful_on_5 rf rfm hrf v_web v_told x1   x3 hx3 _ ht) (.cons .rf (.cons .rf (.cons .rf (.cons .an (.cons .an .nil))))))))))))) : FR (runF 5 (b_graceful_on rfm)) [.imm (eW v_web), .imm ((tT tN) v_told)] (.imm ((tO (tT tN)) r)) [.imm (eW v_web), .imm ((tT tN) v_told)])) (p_graceful_on z) (m_graceful_on z) (t_graceful_on z) h
-- graceful (('W',),): ('O', ('T', ('N',)))
abbrev rt_graceful (v_web : W) : ((Option (List Nat))) → Po := fun r => .ret (.imm ((tO (tT tN)) r)) [.imm (eW v_web)] [.imm (eW v_web)]
def p_graceful (v_web : W) : Option ((Option (List Nat))) := bif (ltN 8 v_web.L.length) then none else (p_graceful_on 9 v_web (([] : (List Nat)))).bind fun x1 => some x1
theorem t_graceful (v_web : W) (r : ((Option (List Nat)))) (h : p_graceful v_web = some r) : FR m_graceful [.imm (eW v_web)] (.imm ((tO (tT tN)) r)) [.imm (eW v_web)] :=
  fn_run (n := 1) (body := b_graceful) (ps := [.imm (eW v_web)]) rfl (run_if_seq (evT_t (ev_bin (ev_b1 (ev_lines (ev_imm rfl) trivial rfl) trivial (o_lenT _)) (ev_as (ev_c _) (tN 8) rfl) trivial trivial (o_gt cmp_N (by decide) _ _))) (fun hc => have h := bif_t hc h; noE h) (fun hc => have h := bif_f hc h; run_seq run_nx (bndE h fun x1 hx1 h => run_some (F := (rt_graceful v_web)) h (run_retI (ev_call (svs := [.imm (eW v_web), .imm ((tT tN) (([] : (List Nat))))]) (evC_val (ev_imm rfl) .imm (evC_val (ev_as (ev_tup evA_nil) ((tT tN) ([] : (List Nat))) rfl) .imm evC_nil)) rfl rfl (t_graceful_on 9 v_web (([] : (List Nat))) _ hx1) rfl trivial) rfl))))
-- pieces_of (('W',), ('T', ('N',))): ('L', ('T', ('N',)))
abbrev rt_pieces_of (v_web : W) (v_lot : (List Nat)) : ((List (List Nat))) → Po := fun r => .ret (.own ((tL (tT tN)) r)) [.imm (eW v_web), .imm ((tT tN) v_lot)] [.imm (eW v_web), .imm ((tT tN) v_lot)]
def q_pieces_of_5 (v_left : (List Nat)) : (List Nat) × (List Nat) → Nat → Option ((List Nat) × (List Nat)) := fun s x => bif ((decide (x ∈ v_left)) && (!decide (x ∈ s.1))) then (appO s.1 x).bind fun x8 => (appO s.2 x).bind fun x9 => some ((x8, x9)) else some ((s.1, s.2))
theorem tq_pieces_of_5 (v_left : (List Nat)) (v_web : W) (v_lot : (List Nat)) (v_found : (List (List Nat))) (v_here : Nat)  (w_piece : (List Nat)) (w_waiting : (List Nat))  (r : _) (h : forO (q_pieces_of_5 v_left) (near v_web.n v_web.L v_here) (w_piece, w_waiting) = some r) : Run (s_pieces_of_5) [.imm (eW v_web), .imm ((tT tN) v_lot), .own ((tL (tT tN)) v_found), .own ((tL tN) v_left), .own ((tL tN) w_piece), .own ((tL tN) w_waiting), .imm (tN v_here), .any, .any] ((fun q => .nx ((fun (s : (List Nat) × (List Nat)) => ([.imm (eW v_web), .imm ((tT tN) v_lot), .own ((tL (tT tN)) v_found), .own ((tL tN) v_left), .own ((tL tN) s.1), .own ((tL tN) s.2), .imm (tN v_here), .any, .any] : List TL.Sp)) q)) r) := by
  refine' run_for (S := (fun (s : (List Nat) × (List Nat)) => ([.imm (eW v_web), .imm ((tT tN) v_lot), .own ((tL (tT tN)) v_found), .own ((tL tN) v_left), .own ((tL tN) s.1), .own ((tL tN) s.2), .imm (tN v_here), .any, .any] : List TL.Sp))) (ea := tN) ?hw ?hl ?hg ?hb h
  case hw => exact (evI_seqL (ev_call (svs := [.imm (eW v_web), .imm (tN v_here)]) (evC_val (ev_imm rfl) .imm (evC_val (ev_imm rfl) .imm evC_nil)) rfl rfl (fr_near_of v_web v_here) rfl trivial) .own rfl)
  case hl => exact (.cons .rf (.cons .rf (.cons .rf (.cons .rf (.cons .rf (.cons .rf (.cons .rf (.cons .an (.cons .an .nil)))))))))
  case hg => exact (fun s x => evG_n)
  case hb => exact (fun s x r h => run_if (evT_and (evT_t (ev_bin (ev_imm rfl) (ev_var rfl) trivial (by exact rfl) (o_inL nice_N (by decide) _ _))) (evT_t (ev_bin (ev_imm rfl) (ev_var rfl) trivial (by exact rfl) (o_ninL nice_N (by decide) _ _)))) (fun hc => have h := bif_t hc h; bndE h fun x8 hx8 h => run_seq (run_app (e := tN) hx8 rfl rfl (ev_imm rfl) .imm rfl rfl rfl) (bndE h fun x9 hx9 h => run_some (F := (fun q => .nx ((fun (s : (List Nat) × (List Nat)) => ([.imm (eW v_web), .imm ((tT tN) v_lot), .own ((tL (tT tN)) v_found), .own ((tL tN) v_left), .own ((tL tN) s.1), .own ((tL tN) s.2), .imm (tN v_here), .any, .any] : List TL.Sp)) q))) h (Run.le (run_app (e := tN) hx9 rfl rfl (ev_imm rfl) .imm rfl rfl rfl) (.cons .rf (.cons .rf (.cons .rf (.cons .rf (.cons .rf (.cons .rf (.cons .rf (.cons .an (.cons .an .nil)))))))))))) (fun hc => have h := bif_f hc h; run_some (F := (fun q => .nx ((fun (s : (List Nat) × (List Nat)) => ([.imm (eW v_web), .imm ((tT tN) v_lot), .own ((tL (tT tN)) v_found), .own ((tL tN) v_left), .own ((tL tN) s.1), .own ((tL tN) s.2), .imm (tN v_here), .any, .any] : List TL.Sp)) q))) h (Run.le run_nx (.cons .rf (.cons .rf (.cons .rf (.cons .rf (.cons .rf (.cons .rf (.cons .rf (.cons .an (.cons .an .nil))))))))))))
def c_pieces_of_3 (v_web : W) (v_left : (List Nat)) : (List Nat) × (List Nat) → Option Bool := fun s => some ((ltN 0 s.1.length))
def q_pieces_of_3 (v_web : W) (v_left : (List Nat)) : (List Nat) × (List Nat) → Option ((List Nat) × (List Nat)) := fun s => (popO s.1).bind fun x7 => (forO (q_pieces_of_5 v_left) ((near v_web.n v_web.L x7.1)) ((s.2, x7.2))).bind fun t10 => some ((t10.2, t10.1))
theorem tq_pieces_of_3 (v_web : W) (v_left : (List Nat)) (v_lot : (List Nat)) (v_found : (List (List Nat))) (w_waiting : (List Nat)) (w_piece : (List Nat)) (r : _) (h : whO (c_pieces_of_3 v_web v_left) (q_pieces_of_3 v_web v_left) 100000 (w_waiting, w_piece) = some r) : Run (s_pieces_of_3) [.imm (eW v_web), .imm ((tT tN) v_lot), .own ((tL (tT tN)) v_found), .own ((tL tN) v_left), .own ((tL tN) w_piece), .own ((tL tN) w_waiting), .any, .any, .any] ((fun q => .nx ((fun (s : (List Nat) × (List Nat)) => ([.imm (eW v_web), .imm ((tT tN) v_lot), .own ((tL (tT tN)) v_found), .own ((tL tN) v_left), .own ((tL tN) s.2), .own ((tL tN) s.1), .any, .any, .any] : List TL.Sp)) q)) r) := by
  refine run_wh (S := (fun (s : (List Nat) × (List Nat)) => ([.imm (eW v_web), .imm ((tT tN) v_lot), .own ((tL (tT tN)) v_found), .own ((tL tN) v_left), .own ((tL tN) s.2), .own ((tL tN) s.1), .any, .any, .any] : List TL.Sp))) (Les.refl _) ?hc ?hb h
  case hc => exact (fun s y hq => evT_some hq (evT_t (ev_bin (ev_b1 (ev_var rfl) (by exact rfl) (o_lenL _)) (ev_as (ev_c _) (tN 0) rfl) trivial trivial (o_gt cmp_N (by decide) _ _))))
  case hb => exact (fun s r h => bndE h fun x7 hx7 h => run_seq (run_setI (ev_popT (e := tN) hx7 rfl rfl)) (bndE h fun t10 ht h => run_some (F := (fun q => .nx ((fun (s : (List Nat) × (List Nat)) => ([.imm (eW v_web), .imm ((tT tN) v_lot), .own ((tL (tT tN)) v_found), .own ((tL tN) v_left), .own ((tL tN) s.2), .own ((tL tN) s.1), .any, .any, .any] : List TL.Sp)) q))) h (Run.le (Run.pre (tq_pieces_of_5 v_left v_web v_lot v_found x7.1  s.2 x7.2  _ ht) (.cons .rf (.cons .rf (.cons .rf (.cons .rf (.cons .rf (.cons .rf (.cons .rf (.cons .an (.cons .an .nil)))))))))) (.cons .rf (.cons .rf (.cons .rf (.cons .rf (.cons .rf (.cons .rf (.cons .an (.cons .an (.cons .an .nil))))))))))))
def c_pieces_of_1 (v_web : W) : (List (List Nat)) × (List Nat) → Option Bool := fun s => some ((ltN 0 s.2.length))
def q_pieces_of_1 (v_web : W) : (List (List Nat)) × (List Nat) → Option ((List (List Nat)) × (List Nat)) := fun s => (s.2[0]?).bind fun x3 => (s.2[0]?).bind fun x4 => lett ([x3]) fun v5 => lett ([x4]) fun v6 => (whO (c_pieces_of_3 v_web s.2) (q_pieces_of_3 v_web s.2) 100000 ((v6, v5))).bind fun t11 => (appO s.1 ((sortT ltN t11.2))).bind fun x12 => some ((x12, (s.2.filter fun (a13 : Nat) => (!decide (a13 ∈ t11.2)))))
theorem tq_pieces_of_1 (v_web : W) (v_lot : (List Nat)) (w_found : (List (List Nat))) (w_left : (List Nat)) (r : _) (h : whO (c_pieces_of_1 v_web) (q_pieces_of_1 v_web) 100000 (w_found, w_left) = some r) : Run (s_pieces_of_1) [.imm (eW v_web), .imm ((tT tN) v_lot), .own ((tL (tT tN)) w_found), .own ((tL tN) w_left), .any, .any, .any, .any, .any] ((fun q => .nx ((fun (s : (List (List Nat)) × (List Nat)) => ([.imm (eW v_web), .imm ((tT tN) v_lot), .own ((tL (tT tN)) s.1), .own ((tL tN) s.2), .any, .any, .any, .any, .any] : List TL.Sp)) q)) r) := by
  refine run_wh (S := (fun (s : (List (List Nat)) × (List Nat)) => ([.imm (eW v_web), .imm ((tT tN) v_lot), .own ((tL (tT tN)) s.1), .own ((tL tN) s.2), .any, .any, .any, .any, .any] : List TL.Sp))) (Les.refl _) ?hc ?hb h
  case hc => exact (fun s y hq => evT_some hq (evT_t (ev_bin (ev_b1 (ev_var rfl) (by exact rfl) (o_lenL _)) (ev_as (ev_c _) (tN 0) rfl) trivial trivial (o_gt cmp_N (by decide) _ _))))
  case hb => exact (fun s r h => bndE h fun x3 hx3 h => bndE h fun x4 hx4 h => run_seq (run_par (evR_cons (ev_asO (ev_lst (evA_cons (ev_bin (ev_var rfl) (ev_as (ev_c _) (tN 0) rfl) (by exact rfl) trivial (o_ixL (e := tN) hx3)) .imm evA_nil)) ((tL tN) [x3]) rfl) .own .own (evR_cons (ev_asO (ev_lst (evA_cons (ev_bin (ev_var rfl) (ev_as (ev_c _) (tN 0) rfl) (by exact rfl) trivial (o_ixL (e := tN) hx4)) .imm evA_nil)) ((tL tN) [x4]) rfl) .own .own evR_nil))) (lettE h fun h => lettE h fun h => bndE h fun t11 ht h => run_seq (Run.pre (tq_pieces_of_3 v_web s.2 v_lot s.1 ([x4]) ([x3]) _ ht) (.cons .rf (.cons .rf (.cons .rf (.cons .rf (.cons .rf (.cons .rf (.cons .an (.cons .an (.cons .an .nil)))))))))) (bndE h fun x12 hx12 h => run_seq (run_app (e := (tT tN)) hx12 rfl rfl (ev_b1 (ev_b1O (ev_var rfl) (by exact rfl) (o_sortN _)) trivial (o_tupL _)) .imm rfl rfl rfl) (run_some (F := (fun q => .nx ((fun (s : (List (List Nat)) × (List Nat)) => ([.imm (eW v_web), .imm ((tT tN) v_lot), .own ((tL (tT tN)) s.1), .own ((tL tN) s.2), .any, .any, .any, .any, .any] : List TL.Sp)) q))) h (Run.le (run_setO (ev_lcP (ea := tN) (fun (a13 : Nat) => (!decide (a13 ∈ t11.2))) (evI_seqL (ev_var rfl) (.vo rfl) rfl) (fun a13 => evG_n) (fun _ => rfl) (fun a13 => (evT_t (ev_bin (ev_imm rfl) (ev_var rfl) trivial (by exact rfl) (o_ninL nice_N (by decide) _ _)))) (fun a13 => (kept_imm (ev_imm rfl))))) (.cons .rf (.cons .rf (.cons .rf (.cons .rf (.cons .an (.cons .an (.cons .an (.cons .an (.cons .an .nil))))))))))))))
def p_pieces_of (v_web : W) (v_lot : (List Nat)) : Option ((List (List Nat))) := lett (([] : (List (List Nat)))) fun v1 => lett v_lot fun v2 => (whO (c_pieces_of_1 v_web) (q_pieces_of_1 v_web) 100000 ((v1, v2))).bind fun t14 => some ((sortT (ltT ltN) t14.1))
theorem t_pieces_of (v_web : W) (v_lot : (List Nat)) (r : ((List (List Nat)))) (h : p_pieces_of v_web v_lot = some r) : FR m_pieces_of [.imm (eW v_web), .imm ((tT tN) v_lot)] (.own ((tL (tT tN)) r)) [.imm (eW v_web), .imm ((tT tN) v_lot)] :=
  fn_run (n := 9) (body := b_pieces_of) (ps := [.imm (eW v_web), .imm ((tT tN) v_lot), .any, .any, .any, .any, .any, .any, .any]) rfl (run_seq (run_par (evR_cons (ev_asO (ev_lst evA_nil) ((tL (tT tN)) ([] : (List (List Nat)))) rfl) .own .own (evR_cons (ev_b1O (ev_imm rfl) trivial (o_listT _)) .own .own evR_nil))) (lettE h fun h => lettE h fun h => bndE h fun t14 ht h => run_seq (Run.pre (tq_pieces_of_1 v_web v_lot ([] : (List (List Nat))) v_lot _ ht) (.cons .rf (.cons .rf (.cons .rf (.cons .rf (.cons .an (.cons .an (.cons .an (.cons .an (.cons .an .nil)))))))))) (run_some (F := (rt_pieces_of v_web v_lot)) h (run_retO (ev_b1O (ev_var rfl) (by exact rfl) (o_sortTs (cmp_T cmp_N) (by decide) _)) rfl))))
-- all_pieces (('W',),): ('L', ('T', ('N',)))
abbrev rt_all_pieces (v_web : W) : ((List (List Nat))) → Po := fun r => .ret (.own ((tL (tT tN)) r)) [.imm (eW v_web)] [.imm (eW v_web)]
def p_all_pieces (v_web : W) : Option ((List (List Nat))) := (rgO v_web.n).bind fun x1 => (p_pieces_of v_web x1).bind fun x2 => some x2
theorem t_all_pieces (v_web : W) (r : ((List (List Nat)))) (h : p_all_pieces v_web = some r) : FR m_all_pieces [.imm (eW v_web)] (.own ((tL (tT tN)) r)) [.imm (eW v_web)] :=
  fn_run (n := 1) (body := b_all_pieces) (ps := [.imm (eW v_web)]) rfl (bndE h fun x1 hx1 h => bndE h fun x2 hx2 h => run_some (F := (rt_all_pieces v_web)) h (run_retO (ev_call (svs := [.imm (eW v_web), .imm ((tT tN) x1)]) (evC_val (ev_imm rfl) .imm (evC_val (ev_rgTu hx1 (ev_corners (ev_imm rfl) trivial rfl)) .imm evC_nil)) rfl rfl (t_pieces_of v_web x1 _ hx2) rfl trivial) rfl))
-- is_one (('W',),): ('B',)
abbrev rt_is_one (v_web : W) : (Bool) → Po := fun r => .ret (.imm (tB r)) [.imm (eW v_web)] [.imm (eW v_web)]
def p_is_one (v_web : W) : Option (Bool) := (p_all_pieces v_web).bind fun x1 => some ((decide (x1.length = 1)))
theorem t_is_one (v_web : W) (r : (Bool)) (h : p_is_one v_web = some r) : FR m_is_one [.imm (eW v_web)] (.imm (tB r)) [.imm (eW v_web)] :=
  fn_run (n := 1) (body := b_is_one) (ps := [.imm (eW v_web)]) rfl (bndE h fun x1 hx1 h => run_some (F := (rt_is_one v_web)) h (run_retI (ev_bin (ev_b1 (ev_call (svs := [.imm (eW v_web)]) (evC_val (ev_imm rfl) .imm evC_nil) rfl rfl (t_all_pieces v_web _ hx1) rfl trivial) trivial (o_lenL _)) (ev_as (ev_c _) (tN 1) rfl) trivial trivial (o_eq nice_N (by decide) x1.length 1)) rfl))
-- is_tree_of (('W',),): ('B',)
abbrev rt_is_tree_of (v_web : W) : (Bool) → Po := fun r => .ret (.imm (tB r)) [.imm (eW v_web)] [.imm (eW v_web)]
def p_is_tree_of (v_web : W) : Option (Bool) := (p_is_one v_web).bind fun x1 => some ((x1 && (decide ((v_web.L.length : Int) = ((v_web.n : Int) - (1 : Int))))))
theorem t_is_tree_of (v_web : W) (r : (Bool)) (h : p_is_tree_of v_web = some r) : FR m_is_tree_of [.imm (eW v_web)] (.imm (tB r)) [.imm (eW v_web)] :=
  fn_run (n := 1) (body := b_is_tree_of) (ps := [.imm (eW v_web)]) rfl (bndE h fun x1 hx1 h => run_some (F := (rt_is_tree_of v_web)) h (run_retI (ev_and (ev_call (svs := [.imm (eW v_web)]) (evC_val (ev_imm rfl) .imm evC_nil) rfl rfl (t_is_one v_web _ hx1) rfl trivial) (ev_bin (ev_as (ev_b1 (ev_lines (ev_imm rfl) trivial rfl) trivial (o_lenT _)) (tZ ((v_web.L.length : Int))) (((fun _ => rfl) v_web.L.length).symm)) (ev_bin (ev_corners (ev_imm rfl) trivial rfl) (ev_as (ev_c _) (tN 1) rfl) trivial trivial (o_subNZ _ _)) trivial trivial (o_eq nice_Z (by decide) ((v_web.L.length : Int)) (((v_web.n : Int) - (1 : Int)))))) rfl))
-- is_tree (('W',),): ('B',)
abbrev rt_is_tree (v_web : W) : (Bool) → Po := fun r => .ret (.imm (tB r)) [.imm (eW v_web)] [.imm (eW v_web)]
def p_is_tree (v_web : W) : Option (Bool) := (p_is_tree_of v_web).bind fun x1 => some x1
theorem t_is_tree (v_web : W) (r : (Bool)) (h : p_is_tree v_web = some r) : FR m_is_tree [.imm (eW v_web)] (.imm (tB r)) [.imm (eW v_web)] :=
  fn_run (n := 1) (body := b_is_tree) (ps := [.imm (eW v_web)]) rfl (bndE h fun x1 hx1 h => run_some (F := (rt_is_tree v_web)) h (run_retI (ev_call (svs := [.imm (eW v_web)]) (evC_val (ev_imm rfl) .imm evC_nil) rfl rfl (t_is_tree_of v_web _ hx1) rfl trivial) rfl))
-- _law_orders (('L', ('N',)),): ('L', ('T', ('N',)))
abbrev rt_law_orders (v_numbers : (List Nat)) : ((List (List Nat))) → Po := fun r => .ret (.fr ((tL (tT tN)) r)) [.imm ((tL tN) v_numbers)] [.imm ((tL tN) v_numbers)]
def q_law_orders_3 (v_numbers : (List Nat)) : (List (List Nat)) → (List Nat) → Option ((List (List Nat))) := fun s x => (compO (fun (a4 : Nat) => some ((!decide (a4 ∈ x)))) (fun (a4 : Nat) => (catO x ([a4])).bind fun x5 => some x5) v_numbers).bind fun x7 => (extO s x7).bind fun x8 => some x8
theorem tq_law_orders_3 (v_numbers : (List Nat)) (v_found : (List (List Nat))) (v_turn : Nat)  (w_longer : (List (List Nat)))  (r : _) (h : forO (q_law_orders_3 v_numbers) v_found w_longer = some r) : Run (s_law_orders_3) [.imm ((tL tN) v_numbers), .val ((tL (tT tN)) v_found), .imm (tN v_turn), .own ((tL (tT tN)) w_longer), .any, .any] ((fun q => .nx ((fun (s : (List (List Nat))) => ([.imm ((tL tN) v_numbers), .val ((tL (tT tN)) v_found), .imm (tN v_turn), .own ((tL (tT tN)) s), .any, .any] : List TL.Sp)) q)) r) := by
  refine' run_for (S := (fun (s : (List (List Nat))) => ([.imm ((tL tN) v_numbers), .val ((tL (tT tN)) v_found), .imm (tN v_turn), .own ((tL (tT tN)) s), .any, .any] : List TL.Sp))) (ea := (tT tN)) ?hw ?hl ?hg ?hb h
  case hw => exact (evI_seqL (ev_var rfl) (.vv rfl) rfl)
  case hl => exact (.cons .rf (.cons .rf (.cons .rf (.cons .rf (.cons .an (.cons .an .nil))))))
  case hg => exact (fun s x => evG_n)
  case hb => exact (fun s x r h => bndE h fun x7 hx7 h => bndE h fun x8 hx8 h => run_some (F := (fun q => .nx ((fun (s : (List (List Nat))) => ([.imm ((tL tN) v_numbers), .val ((tL (tT tN)) v_found), .imm (tN v_turn), .own ((tL (tT tN)) s), .any, .any] : List TL.Sp)) q))) h (Run.le (run_ext (e := (tT tN)) hx8 rfl rfl (ev_lcO (ea := tN) (eb := (tT tN)) hx7 (evI_seqL (ev_imm rfl) .imm rfl) (fun a4 => evG_n) (fun _ => rfl) (fun a4 y6 hq => evT_some hq (evT_t (ev_bin (ev_imm rfl) (ev_imm rfl) trivial trivial (o_ninT nice_N (by decide) _ _)))) (fun a4 y6 hq => bndE hq fun x5 hx5 hq => kept_some (e := (tT tN)) hq (kept_imm (ev_bin (ev_imm rfl) (ev_as (ev_tup (evA_cons (ev_imm rfl) .imm evA_nil)) ((tT tN) [a4]) rfl) trivial trivial (o_catT (e := tN) hx5))))) trivial rfl rfl rfl) (.cons .rf (.cons .rf (.cons .rf (.cons .rf (.cons .an (.cons .an .nil))))))))
def q_law_orders_1 (v_numbers : (List Nat)) : (List (List Nat)) → Nat → Option ((List (List Nat))) := fun s x => lett (([] : (List (List Nat)))) fun v3 => (forO (q_law_orders_3 v_numbers) s v3).bind fun t9 => some t9
theorem tq_law_orders_1 (v_numbers : (List Nat))   (w_found : (List (List Nat))) (x10 : _) (hx10 : rgO v_numbers.length = some x10) (r : _) (h : forO (q_law_orders_1 v_numbers) x10 w_found = some r) : Run (s_law_orders_1) [.imm ((tL tN) v_numbers), .own ((tL (tT tN)) w_found), .any, .any, .any, .any] ((fun q => .nx ((fun (s : (List (List Nat))) => ([.imm ((tL tN) v_numbers), .val ((tL (tT tN)) s), .any, .any, .any, .any] : List TL.Sp)) q)) r) := by
  refine' run_for (S := (fun (s : (List (List Nat))) => ([.imm ((tL tN) v_numbers), .val ((tL (tT tN)) s), .any, .any, .any, .any] : List TL.Sp))) (ea := tN) ?hw ?hl ?hg ?hb h
  case hw => exact (evI_rgT hx10 (ev_b1 (ev_imm rfl) trivial (o_lenL _)))
  case hl => exact (.cons .rf (.cons .ov (.cons .an (.cons .an (.cons .an (.cons .an .nil))))))
  case hg => exact (fun s x => evG_n)
  case hb => exact (fun s x r h => run_let (fun v3 => List.set _ 3 (.own ((tL (tT tN)) v3))) (run_setO (ev_asO (ev_lst evA_nil) ((tL (tT tN)) ([] : (List (List Nat)))) rfl)) h fun v3 h => bndE h fun t9 ht h => run_seq (Run.pre (tq_law_orders_3 v_numbers s x  v3  _ ht) (.cons .rf (.cons .rf (.cons .rf (.cons .rf (.cons .an (.cons .an .nil))))))) (run_some (F := (fun q => .nx ((fun (s : (List (List Nat))) => ([.imm ((tL tN) v_numbers), .val ((tL (tT tN)) s), .any, .any, .any, .any] : List TL.Sp)) q))) h (Run.le (run_setV (ev_var rfl) (.vo rfl)) (.cons .rf (.cons .iv (.cons .an (.cons .an (.cons .an (.cons .an .nil)))))))))
def p_law_orders (v_numbers : (List Nat)) : Option ((List (List Nat))) := lett ([([] : (List Nat))]) fun v1 => (rgO v_numbers.length).bind fun x2 => (forO (q_law_orders_1 v_numbers) x2 v1).bind fun t11 => some t11
theorem t_law_orders (v_numbers : (List Nat)) (r : ((List (List Nat)))) (h : p_law_orders v_numbers = some r) : FR m_law_orders [.imm ((tL tN) v_numbers)] (.fr ((tL (tT tN)) r)) [.imm ((tL tN) v_numbers)] :=
  fn_run (n := 6) (body := b_law_orders) (ps := [.imm ((tL tN) v_numbers), .any, .any, .any, .any, .any]) rfl (run_let (fun v1 => List.set _ 1 (.own ((tL (tT tN)) v1))) (run_setO (ev_asO (ev_lst (evA_cons (ev_as (ev_tup evA_nil) ((tT tN) ([] : (List Nat))) rfl) .imm evA_nil)) ((tL (tT tN)) [([] : (List Nat))]) rfl)) h fun v1 h => bndE h fun x2 hx2 h => bndE h fun t11 ht h => run_seq (Run.pre (tq_law_orders_1 v_numbers   v1 x2 hx2 _ ht) (.cons .rf (.cons .rf (.cons .an (.cons .an (.cons .an (.cons .an .nil))))))) (run_some (F := (rt_law_orders v_numbers)) h (run_retVv (ev_var rfl) rfl rfl)))
-- sums_at (('W',), ('T', ('N',))): ('L', ('N',))
abbrev rt_sums_at (v_web : W) (v_told : (List Nat)) : ((List Nat)) → Po := fun r => .ret (.own ((tL tN) r)) [.imm (eW v_web), .imm ((tT tN) v_told)] [.imm (eW v_web), .imm ((tT tN) v_told)]
def q_sums_at_1 (v_web : W) (v_told : (List Nat)) : (List Nat) → Nat → Option ((List Nat)) := fun s x => lett (((((enumF 0 v_web.L)).filter fun (a3 : (Nat × (Nat × Nat))) => (decide (x = a3.2.1) || decide (x = a3.2.2))).map fun (a3 : (Nat × (Nat × Nat))) => a3.1)) fun v4 => bif (((v4.map fun (a5 : Nat) => (ltN a5 v_told.length))).all id) then (mapO (fun (a6 : Nat) => (v_told[a6]?).bind fun x7 => some x7) v4).bind fun x9 => (appO s x9.sum).bind fun x10 => some x10 else some s
theorem tq_sums_at_1 (v_web : W) (v_told : (List Nat))   (w_found : (List Nat)) (x11 : _) (hx11 : rgO v_web.n = some x11) (r : _) (h : forO (q_sums_at_1 v_web v_told) x11 w_found = some r) : Run (s_sums_at_1) [.imm (eW v_web), .imm ((tT tN) v_told), .own ((tL tN) w_found), .any, .any, .any, .any] ((fun q => .nx ((fun (s : (List Nat)) => ([.imm (eW v_web), .imm ((tT tN) v_told), .own ((tL tN) s), .any, .any, .any, .any] : List TL.Sp)) q)) r) := by
  refine' run_for (S := (fun (s : (List Nat)) => ([.imm (eW v_web), .imm ((tT tN) v_told), .own ((tL tN) s), .any, .any, .any, .any] : List TL.Sp))) (ea := tN) ?hw ?hl ?hg ?hb h
  case hw => exact (evI_rgT hx11 (ev_corners (ev_imm rfl) trivial rfl))
  case hl => exact (.cons .rf (.cons .rf (.cons .rf (.cons .an (.cons .an (.cons .an (.cons .an .nil)))))))
  case hg => exact (fun s x => evG_n)
  case hb => exact (fun s x r h => run_let (fun v4 => List.set _ 4 (.own ((tL tN) v4))) (run_setO (ev_lc (ea := (tP tN (tP tN tN))) (eb := tN) (fun (a3 : (Nat × (Nat × Nat))) => (decide (x = a3.2.1) || decide (x = a3.2.2))) (fun (a3 : (Nat × (Nat × Nat))) => a3.1) (evI_enTT (evA_cons (ev_lines (ev_imm rfl) trivial rfl) .imm evA_nil)) (fun a3 => (evG_t (evGs_cons evG_n (evGs_cons evG_n evGs_nil)) rfl)) (fun _ => rfl) (fun a3 => (evT_t (ev_bin (ev_imm rfl) (ev_imm rfl) trivial trivial (o_inP nice_N (by decide) _ _)))) (fun a3 => (kept_imm (ev_imm rfl))))) h fun v4 h => run_if (evT_t (ev_b1 (ev_lcM (ea := tN) (eb := tB) (fun (a5 : Nat) => (ltN a5 v_told.length)) (evI_seqL (ev_var rfl) (.vo rfl) rfl) (fun a5 => evG_n) (fun _ => rfl) (fun a5 => (kept_imm (ev_bin (ev_imm rfl) (ev_b1 (ev_imm rfl) trivial (o_lenT _)) trivial trivial (o_lt cmp_N (by decide) _ _))))) trivial (o_all _))) (fun hc => have h := bif_t hc h; bndE h fun x9 hx9 h => bndE h fun x10 hx10 h => run_some (F := (fun q => .nx ((fun (s : (List Nat)) => ([.imm (eW v_web), .imm ((tT tN) v_told), .own ((tL tN) s), .any, .any, .any, .any] : List TL.Sp)) q))) h (Run.le (run_app (e := tN) hx10 rfl rfl (ev_b1 (ev_lcMO (ea := tN) (eb := tN) hx9 (evI_seqL (ev_var rfl) (.vv rfl) rfl) (fun a6 => evG_n) (fun _ => rfl) (fun a6 y8 hq => bndE hq fun x7 hx7 hq => kept_some (e := tN) hq (kept_imm (ev_bin (ev_imm rfl) (ev_imm rfl) trivial trivial (o_ixT (e := tN) hx7))))) trivial (o_sumLN _)) .imm rfl rfl rfl) (.cons .rf (.cons .rf (.cons .rf (.cons .an (.cons .an (.cons .an (.cons .an .nil))))))))) (fun hc => have h := bif_f hc h; run_some (F := (fun q => .nx ((fun (s : (List Nat)) => ([.imm (eW v_web), .imm ((tT tN) v_told), .own ((tL tN) s), .any, .any, .any, .any] : List TL.Sp)) q))) h (Run.le run_nx (.cons .rf (.cons .rf (.cons .rf (.cons .an (.cons .an (.cons .an (.cons .an .nil))))))))))
def p_sums_at (v_web : W) (v_told : (List Nat)) : Option ((List Nat)) := lett (([] : (List Nat))) fun v1 => (rgO v_web.n).bind fun x2 => (forO (q_sums_at_1 v_web v_told) x2 v1).bind fun t12 => some t12
theorem t_sums_at (v_web : W) (v_told : (List Nat)) (r : ((List Nat))) (h : p_sums_at v_web v_told = some r) : FR m_sums_at [.imm (eW v_web), .imm ((tT tN) v_told)] (.own ((tL tN) r)) [.imm (eW v_web), .imm ((tT tN) v_told)] :=
  fn_run (n := 7) (body := b_sums_at) (ps := [.imm (eW v_web), .imm ((tT tN) v_told), .any, .any, .any, .any, .any]) rfl (run_let (fun v1 => List.set _ 2 (.own ((tL tN) v1))) (run_setO (ev_asO (ev_lst evA_nil) ((tL tN) ([] : (List Nat))) rfl)) h fun v1 h => bndE h fun x2 hx2 h => bndE h fun t12 ht h => run_seq (Run.pre (tq_sums_at_1 v_web v_told   v1 x2 hx2 _ ht) (.cons .rf (.cons .rf (.cons .rf (.cons .an (.cons .an (.cons .an (.cons .an .nil)))))))) (run_some (F := (rt_sums_at v_web v_told)) h (run_retVV rfl rfl)))
-- summed_on (('W',), ('T', ('N',))): ('O', ('T', ('N',)))
abbrev rt_summed_on (v_web : W) (v_told : (List Nat)) : ((Option (List Nat))) → Po := fun r => .ret (.imm ((tO (tT tN)) r)) [.imm (eW v_web), .imm ((tT tN) v_told)] [.imm (eW v_web), .imm ((tT tN) v_told)]
def q_summed_on_4 (rf : W → (List Nat) → Option ((Option (List Nat)))) (v_web : W) (v_told : (List Nat)) : Unit → Nat → Option (Res (Unit) ((Option (List Nat)))) := fun _ x => bif (!decide (x ∈ v_told)) then (catO v_told ([x])).bind fun x4 => (rf v_web x4).bind fun x5 => bif (x5).isSome then some (.ret x5) else some (.go (())) else some (.go (()))
theorem tq_summed_on_4 (rf : W → (List Nat) → Option ((Option (List Nat)))) (rfm : FM) (hrf : ∀ (a0 : W) (a1 : (List Nat)) (r : ((Option (List Nat)))), rf a0 a1 = some r → FR rfm [.imm (eW a0), .imm ((tT tN) a1)] (.imm ((tO (tT tN)) r)) [.imm (eW a0), .imm ((tT tN) a1)]) (v_web : W) (v_told : (List Nat))    (x6 : _) (hx6 : rg2O 1 ((v_web.L.length + 1)) = some x6) (r : _) (h : forR (q_summed_on_4 rf v_web v_told) x6 () = some r) : Run (s_summed_on_4 rfm) [.imm (eW v_web), .imm ((tT tN) v_told), .any, .any] ((PoR (fun (_ : Unit) => ([.imm (eW v_web), .imm ((tT tN) v_told), .any, .any] : List TL.Sp)) (rt_summed_on v_web v_told)) r) := by
  refine' run_forR (S := (fun (_ : Unit) => ([.imm (eW v_web), .imm ((tT tN) v_told), .any, .any] : List TL.Sp))) (ea := tN) ?hw ?hl retp_of ?hg ?hb h
  case hw => exact (evI_rg2T hx6 (ev_as (ev_c _) (tN 1) rfl) (ev_bin (ev_b1 (ev_lines (ev_imm rfl) trivial rfl) trivial (o_lenT _)) (ev_as (ev_c _) (tN 1) rfl) trivial trivial (o_addN _ _)))
  case hl => exact (.cons .rf (.cons .rf (.cons .an (.cons .an .nil))))
  case hg => exact (fun _ x => evG_n)
  case hb => exact (fun _ x r h => run_if (evT_t (ev_bin (ev_imm rfl) (ev_imm rfl) trivial trivial (o_ninT nice_N (by decide) _ _))) (fun hc => have h := bif_t hc h; bndE h fun x4 hx4 h => bndE h fun x5 hx5 h => run_seq (run_setI (ev_call (svs := [.imm (eW v_web), .imm ((tT tN) x4)]) (evC_val (ev_imm rfl) .imm (evC_val (ev_bin (ev_imm rfl) (ev_as (ev_tup (evA_cons (ev_imm rfl) .imm evA_nil)) ((tT tN) [x]) rfl) trivial trivial (o_catT (e := tN) hx4)) .imm evC_nil)) rfl rfl (hrf v_web x4 _ hx5) rfl trivial)) (run_if (evT_t (ev_bin (ev_imm rfl) (ev_c _) trivial trivial (o_notN nn_T x5))) (fun hc => have h := bif_t hc h; run_some (F := (PoR (fun (_ : Unit) => ([.imm (eW v_web), .imm ((tT tN) v_told), .any, .any] : List TL.Sp)) (rt_summed_on v_web v_told))) h (run_retI (ev_imm rfl) rfl)) (fun hc => have h := bif_f hc h; run_some (F := (PoR (fun (_ : Unit) => ([.imm (eW v_web), .imm ((tT tN) v_told), .any, .any] : List TL.Sp)) (rt_summed_on v_web v_told))) h (Run.le run_nx (.cons .rf (.cons .rf (.cons .an (.cons .an .nil)))))))) (fun hc => have h := bif_f hc h; run_some (F := (PoR (fun (_ : Unit) => ([.imm (eW v_web), .imm ((tT tN) v_told), .any, .any] : List TL.Sp)) (rt_summed_on v_web v_told))) h (Run.le run_nx (.cons .rf (.cons .rf (.cons .an (.cons .an .nil)))))))
def p_summed_on : Nat → W → (List Nat) → Option ((Option (List Nat)))
  | 0 => fun _ _ => none
  | z + 1 => fun v_web v_told => lett (p_summed_on z) fun rf => (p_sums_at v_web v_told).bind fun x1 => (lenSetO x1).bind fun x2 => bif (ltN 1 x2) then some none else bif (decide (v_told.length = v_web.L.length)) then some ((some v_told)) else (rg2O 1 ((v_web.L.length + 1))).bind fun x3 => thenR (fun v => v) (forR (q_summed_on_4 rf v_web v_told) x3 (())) fun t7 => some none
theorem t_summed_on : ∀ (z : Nat) (v_web : W) (v_told : (List Nat)) (r : ((Option (List Nat)))), p_summed_on z v_web v_told = some r → FR (m_summed_on z) [.imm (eW v_web), .imm ((tT tN) v_told)] (.imm ((tO (tT tN)) r)) [.imm (eW v_web), .imm ((tT tN) v_told)]
  | 0, _, _, _, h => nomatch h
  | z + 1, v_web, v_told, r, h => (fun (rf : W → (List Nat) → Option ((Option (List Nat)))) (rfm : FM) (hrf : ∀ (a0 : W) (a1 : (List Nat)) (r : ((Option (List Nat)))), rf a0 a1 = some r → FR rfm [.imm (eW a0), .imm ((tT tN) a1)] (.imm ((tO (tT tN)) r)) [.imm (eW a0), .imm ((tT tN) a1)]) (h : ((p_sums_at v_web v_told).bind fun x1 => (lenSetO x1).bind fun x2 => bif (ltN 1 x2) then some none else bif (decide (v_told.length = v_web.L.length)) then some ((some v_told)) else (rg2O 1 ((v_web.L.length + 1))).bind fun x3 => thenR (fun v => v) (forR (q_summed_on_4 rf v_web v_told) x3 (())) fun t7 => some none) = some r) => (fn_run (n := 4) (body := b_summed_on rfm) (ps := [.imm (eW v_web), .imm ((tT tN) v_told), .any, .any]) rfl (bndE h fun x1 hx1 h => bndE h fun x2 hx2 h => run_if_seq (evT_t (ev_bin (ev_b1 (ev_call (svs := [.imm (eW v_web), .imm ((tT tN) v_told)]) (evC_val (ev_imm rfl) .imm (evC_val (ev_imm rfl) .imm evC_nil)) rfl rfl (t_sums_at v_web v_told _ hx1) rfl trivial) trivial (o_lenSetLN hx2)) (ev_as (ev_c _) (tN 1) rfl) trivial trivial (o_gt cmp_N (by decide) _ _))) (fun hc => have h := bif_t hc h; run_some (F := (rt_summed_on v_web v_told)) h (run_seqR (run_retI (ev_as (ev_c _) ((tO (tT tN)) none) (((fun _ => rfl) (())).symm)) rfl))) (fun hc => have h := bif_f hc h; run_seq run_nx (run_if_seq (evT_t (ev_bin (ev_b1 (ev_imm rfl) trivial (o_lenT _)) (ev_b1 (ev_lines (ev_imm rfl) trivial rfl) trivial (o_lenT _)) trivial trivial (o_eq nice_N (by decide) v_told.length v_web.L.length))) (fun hc => have h := bif_t hc h; run_some (F := (rt_summed_on v_web v_told)) h (run_seqR (run_retI (ev_as (ev_imm rfl) ((tO (tT tN)) ((some v_told))) (((fun _ => rfl) v_told).symm)) rfl))) (fun hc => have h := bif_f hc h; run_seq run_nx (bndE h fun x3 hx3 h => thenE' (F := (rt_summed_on v_web v_told)) h (fun t7 ht h => run_seq (Run.pre (tq_summed_on_4 rf rfm hrf v_web v_told    x3 hx3 _ ht) (.cons .rf (.cons .rf (.cons .an (.cons .an .nil))))) (run_some (F := (rt_summed_on v_web v_told)) h (run_retI (ev_as (ev_c _) ((tO (tT tN)) none) (((fun _ => rfl) (())).symm)) rfl))) (fun r8 ht => run_seqR (Run.pre (tq_summed_on_4 rf rfm hrf v_web v_told    x3 hx3 _ ht) (.cons .rf (.cons .rf (.cons .an (.cons .an .nil))))))))))) : FR (runF 4 (b_summed_on rfm)) [.imm (eW v_web), .imm ((tT tN) v_told)] (.imm ((tO (tT tN)) r)) [.imm (eW v_web), .imm ((tT tN) v_told)])) (p_summed_on z) (m_summed_on z) (t_summed_on z) h
-- even_sums (('W',),): ('O', ('T', ('N',)))
abbrev rt_even_sums (v_web : W) : ((Option (List Nat))) → Po := fun r => .ret (.imm ((tO (tT tN)) r)) [.imm (eW v_web)] [.imm (eW v_web)]
def p_even_sums (v_web : W) : Option ((Option (List Nat))) := bif (ltN 7 v_web.L.length) then none else (p_summed_on 9 v_web (([] : (List Nat)))).bind fun x1 => some x1
theorem t_even_sums (v_web : W) (r : ((Option (List Nat)))) (h : p_even_sums v_web = some r) : FR m_even_sums [.imm (eW v_web)] (.imm ((tO (tT tN)) r)) [.imm (eW v_web)] :=
  fn_run (n := 1) (body := b_even_sums) (ps := [.imm (eW v_web)]) rfl (run_if_seq (evT_t (ev_bin (ev_b1 (ev_lines (ev_imm rfl) trivial rfl) trivial (o_lenT _)) (ev_as (ev_c _) (tN 7) rfl) trivial trivial (o_gt cmp_N (by decide) _ _))) (fun hc => have h := bif_t hc h; noE h) (fun hc => have h := bif_f hc h; run_seq run_nx (bndE h fun x1 hx1 h => run_some (F := (rt_even_sums v_web)) h (run_retI (ev_call (svs := [.imm (eW v_web), .imm ((tT tN) (([] : (List Nat))))]) (evC_val (ev_imm rfl) .imm (evC_val (ev_as (ev_tup evA_nil) ((tT tN) ([] : (List Nat))) rfl) .imm evC_nil)) rfl rfl (t_summed_on 9 v_web (([] : (List Nat))) _ hx1) rfl trivial) rfl))))
-- summed_colours (('W',), ('T', ('N',)), ('O', ('P', ('N',), ('T', ('N',))))): ('O', ('P', ('N',), ('T', ('N',))))
abbrev rt_summed_colours (v_web : W) (v_told : (List Nat)) (v_best : (Option (Nat × (List Nat)))) : ((Option (Nat × (List Nat)))) → Po := fun r => .ret (.imm ((tO (tP tN (tT tN))) r)) [.imm (eW v_web), .imm ((tT tN) v_told), .imm ((tO (tP tN (tT tN))) v_best)] [.imm (eW v_web), .imm ((tT tN) v_told), .imm ((tO (tP tN (tT tN))) v_best)]
def q_summed_colours_6 (rf : W → (List Nat) → (Option (Nat × (List Nat))) → Option ((Option (Nat × (List Nat))))) (v_web : W) (v_told : (List Nat)) (v_near : (List Nat)) : (Option (Nat × (List Nat))) → Nat → Option ((Option (Nat × (List Nat)))) := fun s x => bif (!decide (x ∈ v_near)) then (catO v_told ([x])).bind fun x10 => (rf v_web x10 s).bind fun x11 => some x11 else some s
theorem tq_summed_colours_6 (rf : W → (List Nat) → (Option (Nat × (List Nat))) → Option ((Option (Nat × (List Nat))))) (rfm : FM) (hrf : ∀ (a0 : W) (a1 : (List Nat)) (a2 : (Option (Nat × (List Nat)))) (r : ((Option (Nat × (List Nat))))), rf a0 a1 a2 = some r → FR rfm [.imm (eW a0), .imm ((tT tN) a1), .imm ((tO (tP tN (tT tN))) a2)] (.imm ((tO (tP tN (tT tN))) r)) [.imm (eW a0), .imm ((tT tN) a1), .imm ((tO (tP tN (tT tN))) a2)]) (v_web : W) (v_told : (List Nat)) (v_near : (List Nat)) (v_least : Int)  (w_best : (Option (Nat × (List Nat)))) (x12 : _) (hx12 : rg2O 1 ((v_web.n + 1)) = some x12) (r : _) (h : forO (q_summed_colours_6 rf v_web v_told v_near) x12 w_best = some r) : Run (s_summed_colours_6 rfm) [.imm (eW v_web), .imm ((tT tN) v_told), .imm ((tO (tP tN (tT tN))) w_best), .imm (tZ v_least), .own ((tL tN) v_near), .any, .any] ((fun q => .nx ((fun (s : (Option (Nat × (List Nat)))) => ([.imm (eW v_web), .imm ((tT tN) v_told), .imm ((tO (tP tN (tT tN))) s), .imm (tZ v_least), .own ((tL tN) v_near), .any, .any] : List TL.Sp)) q)) r) := by
  refine' run_for (S := (fun (s : (Option (Nat × (List Nat)))) => ([.imm (eW v_web), .imm ((tT tN) v_told), .imm ((tO (tP tN (tT tN))) s), .imm (tZ v_least), .own ((tL tN) v_near), .any, .any] : List TL.Sp))) (ea := tN) ?hw ?hl ?hg ?hb h
  case hw => exact (evI_rg2T hx12 (ev_as (ev_c _) (tN 1) rfl) (ev_bin (ev_corners (ev_imm rfl) trivial rfl) (ev_as (ev_c _) (tN 1) rfl) trivial trivial (o_addN _ _)))
  case hl => exact (.cons .rf (.cons .rf (.cons .rf (.cons .rf (.cons .rf (.cons .an (.cons .an .nil)))))))
  case hg => exact (fun s x => evG_n)
  case hb => exact (fun s x r h => run_if (evT_t (ev_bin (ev_imm rfl) (ev_var rfl) trivial (by exact rfl) (o_ninL nice_N (by decide) _ _))) (fun hc => have h := bif_t hc h; bndE h fun x10 hx10 h => bndE h fun x11 hx11 h => run_some (F := (fun q => .nx ((fun (s : (Option (Nat × (List Nat)))) => ([.imm (eW v_web), .imm ((tT tN) v_told), .imm ((tO (tP tN (tT tN))) s), .imm (tZ v_least), .own ((tL tN) v_near), .any, .any] : List TL.Sp)) q))) h (Run.le (run_setI (ev_call (svs := [.imm (eW v_web), .imm ((tT tN) x10), .imm ((tO (tP tN (tT tN))) s)]) (evC_val (ev_imm rfl) .imm (evC_val (ev_bin (ev_imm rfl) (ev_as (ev_tup (evA_cons (ev_imm rfl) .imm evA_nil)) ((tT tN) [x]) rfl) trivial trivial (o_catT (e := tN) hx10)) .imm (evC_val (ev_imm rfl) .imm evC_nil))) rfl rfl (hrf v_web x10 s _ hx11) rfl trivial)) (.cons .rf (.cons .rf (.cons .rf (.cons .rf (.cons .rf (.cons .an (.cons .an .nil))))))))) (fun hc => have h := bif_f hc h; run_some (F := (fun q => .nx ((fun (s : (Option (Nat × (List Nat)))) => ([.imm (eW v_web), .imm ((tT tN) v_told), .imm ((tO (tP tN (tT tN))) s), .imm (tZ v_least), .own ((tL tN) v_near), .any, .any] : List TL.Sp)) q))) h (Run.le run_nx (.cons .rf (.cons .rf (.cons .rf (.cons .rf (.cons .rf (.cons .an (.cons .an .nil))))))))))
def p_summed_colours : Nat → W → (List Nat) → (Option (Nat × (List Nat))) → Option ((Option (Nat × (List Nat))))
  | 0 => fun _ _ _ => none
  | z + 1 => fun v_web v_told v_best => lett (p_summed_colours z) fun rf => lett ((((v_told.sum + v_web.n) : Int) - (v_told.length : Int))) fun v1 => (bif (v_best).isSome then (v_best).bind fun x2 => some ((!ltZ v1 ((x2.1 : Int)))) else some false).bind fun x3 => bif x3 then some v_best else bif (decide (v_told.length = v_web.n)) then some ((some ((v_told.sum, v_told)))) else (compO (fun (a5 : Nat) => some ((ltN a5 v_told.length))) (fun (a5 : Nat) => (v_told[a5]?).bind fun x6 => some x6) ((near v_web.n v_web.L v_told.length))).bind fun x8 => (rg2O 1 ((v_web.n + 1))).bind fun x9 => (forO (q_summed_colours_6 rf v_web v_told x8) x9 v_best).bind fun t13 => some t13
theorem t_summed_colours : ∀ (z : Nat) (v_web : W) (v_told : (List Nat)) (v_best : (Option (Nat × (List Nat)))) (r : ((Option (Nat × (List Nat))))), p_summed_colours z v_web v_told v_best = some r → FR (m_summed_colours z) [.imm (eW v_web), .imm ((tT tN) v_told), .imm ((tO (tP tN (tT tN))) v_best)] (.imm ((tO (tP tN (tT tN))) r)) [.imm (eW v_web), .imm ((tT tN) v_told), .imm ((tO (tP tN (tT tN))) v_best)]
  | 0, _, _, _, _, h => nomatch h
  | z + 1, v_web, v_told, v_best, r, h => (fun (rf : W → (List Nat) → (Option (Nat × (List Nat))) → Option ((Option (Nat × (List Nat))))) (rfm : FM) (hrf : ∀ (a0 : W) (a1 : (List Nat)) (a2 : (Option (Nat × (List Nat)))) (r : ((Option (Nat × (List Nat))))), rf a0 a1 a2 = some r → FR rfm [.imm (eW a0), .imm ((tT tN) a1), .imm ((tO (tP tN (tT tN))) a2)] (.imm ((tO (tP tN (tT tN))) r)) [.imm (eW a0), .imm ((tT tN) a1), .imm ((tO (tP tN (tT tN))) a2)]) (h : (lett ((((v_told.sum + v_web.n) : Int) - (v_told.length : Int))) fun v1 => (bif (v_best).isSome then (v_best).bind fun x2 => some ((!ltZ v1 ((x2.1 : Int)))) else some false).bind fun x3 => bif x3 then some v_best else bif (decide (v_told.length = v_web.n)) then some ((some ((v_told.sum, v_told)))) else (compO (fun (a5 : Nat) => some ((ltN a5 v_told.length))) (fun (a5 : Nat) => (v_told[a5]?).bind fun x6 => some x6) ((near v_web.n v_web.L v_told.length))).bind fun x8 => (rg2O 1 ((v_web.n + 1))).bind fun x9 => (forO (q_summed_colours_6 rf v_web v_told x8) x9 v_best).bind fun t13 => some t13) = some r) => (fn_run (n := 7) (body := b_summed_colours rfm) (ps := [.imm (eW v_web), .imm ((tT tN) v_told), .imm ((tO (tP tN (tT tN))) v_best), .any, .any, .any, .any]) rfl (run_let (fun v1 => List.set _ 3 (.imm (tZ v1))) (run_setI (ev_bin (ev_bin (ev_b1 (ev_imm rfl) trivial (o_sumTN _)) (ev_corners (ev_imm rfl) trivial rfl) trivial trivial (o_addN _ _)) (ev_b1 (ev_imm rfl) trivial (o_lenT _)) trivial trivial (o_subNZ _ _))) h fun v1 h => bndE h fun x3 hx3 h => run_if_seq (evT_andO hx3 (evT_t (ev_bin (ev_imm rfl) (ev_c _) trivial trivial (o_notN nn_P v_best))) (fun y4 hq => bndE hq fun x2 hx2 hq => evT_some hq (evT_t (ev_bin (ev_imm rfl) (ev_as (ev_bin (ev_un1 (e := (tP tN (tT tN))) hx2 (ev_imm rfl)) (ev_as (ev_c _) (tN 0) rfl) trivial trivial (o_ixP0 _)) (tZ ((x2.1 : Int))) (((fun _ => rfl) x2.1).symm)) trivial trivial (o_ge cmp_Z (by decide) _ _))))) (fun hc => have h := bif_t hc h; run_some (F := (rt_summed_colours v_web v_told v_best)) h (run_seqR (run_retI (ev_imm rfl) rfl))) (fun hc => have h := bif_f hc h; run_seq run_nx (run_if_seq (evT_t (ev_bin (ev_b1 (ev_imm rfl) trivial (o_lenT _)) (ev_corners (ev_imm rfl) trivial rfl) trivial trivial (o_eq nice_N (by decide) v_told.length v_web.n))) (fun hc => have h := bif_t hc h; run_some (F := (rt_summed_colours v_web v_told v_best)) h (run_seqR (run_retI (ev_as (ev_as (ev_tup (evA_cons (ev_b1 (ev_imm rfl) trivial (o_sumTN _)) .imm (evA_cons (ev_imm rfl) .imm evA_nil))) ((tP tN (tT tN)) (v_told.sum, v_told)) rfl) ((tO (tP tN (tT tN))) ((some ((v_told.sum, v_told))))) (((fun _ => rfl) ((v_told.sum, v_told))).symm)) rfl))) (fun hc => have h := bif_f hc h; run_seq run_nx (bndE h fun x8 hx8 h => run_seq (run_setO (ev_lcO (ea := tN) (eb := tN) hx8 (evI_seqL (ev_call (svs := [.imm (eW v_web), .imm (tN v_told.length)]) (evC_val (ev_imm rfl) .imm (evC_val (ev_b1 (ev_imm rfl) trivial (o_lenT _)) .imm evC_nil)) rfl rfl (fr_near_of v_web v_told.length) rfl trivial) .own rfl) (fun a5 => evG_n) (fun _ => rfl) (fun a5 y7 hq => evT_some hq (evT_t (ev_bin (ev_imm rfl) (ev_b1 (ev_imm rfl) trivial (o_lenT _)) trivial trivial (o_lt cmp_N (by decide) _ _)))) (fun a5 y7 hq => bndE hq fun x6 hx6 hq => kept_some (e := tN) hq (kept_imm (ev_bin (ev_imm rfl) (ev_imm rfl) trivial trivial (o_ixT (e := tN) hx6)))))) (bndE h fun x9 hx9 h => bndE h fun t13 ht h => run_seq (Run.pre (tq_summed_colours_6 rf rfm hrf v_web v_told x8 v1  v_best x9 hx9 _ ht) (.cons .rf (.cons .rf (.cons .rf (.cons .rf (.cons .rf (.cons .an (.cons .an .nil)))))))) (run_some (F := (rt_summed_colours v_web v_told v_best)) h (run_retI (ev_imm rfl) rfl)))))))) : FR (runF 7 (b_summed_colours rfm)) [.imm (eW v_web), .imm ((tT tN) v_told), .imm ((tO (tP tN (tT tN))) v_best)] (.imm ((tO (tP tN (tT tN))) r)) [.imm (eW v_web), .imm ((tT tN) v_told), .imm ((tO (tP tN (tT tN))) v_best)])) (p_summed_colours z) (m_summed_colours z) (t_summed_colours z) h
-- least_sum_colours (('W',),): ('O', ('P', ('N',), ('T', ('N',))))
abbrev rt_least_sum_colours (v_web : W) : ((Option (Nat × (List Nat)))) → Po := fun r => .ret (.imm ((tO (tP tN (tT tN))) r)) [.imm (eW v_web)] [.imm (eW v_web)]
def p_least_sum_colours (v_web : W) : Option ((Option (Nat × (List Nat)))) := (p_summed_colours 9 v_web (([] : (List Nat))) none).bind fun x1 => some x1
theorem t_least_sum_colours (v_web : W) (r : ((Option (Nat × (List Nat))))) (h : p_least_sum_colours v_web = some r) : FR m_least_sum_colours [.imm (eW v_web)] (.imm ((tO (tP tN (tT tN))) r)) [.imm (eW v_web)] :=
  fn_run (n := 1) (body := b_least_sum_colours) (ps := [.imm (eW v_web)]) rfl (bndE h fun x1 hx1 h => run_some (F := (rt_least_sum_colours v_web)) h (run_retI (ev_call (svs := [.imm (eW v_web), .imm ((tT tN) (([] : (List Nat)))), .imm ((tO (tP tN (tT tN))) none)]) (evC_val (ev_imm rfl) .imm (evC_val (ev_as (ev_tup evA_nil) ((tT tN) ([] : (List Nat))) rfl) .imm (evC_val (ev_as (ev_c _) ((tO (tP tN (tT tN))) none) (((fun _ => rfl) (())).symm)) .imm evC_nil))) rfl rfl (t_summed_colours 9 v_web (([] : (List Nat))) none _ hx1) rfl trivial) rfl))
-- _law_steps (('N',), ('T', ('P', ('N',), ('N',))), ('N',)): ('D', ('N',), ('N',))
abbrev rt_law_steps (v_corners : Nat) (v_lines : (List (Nat × Nat))) (v_a : Nat) : ((List (Nat × Nat))) → Po := fun r => .ret (.own ((tD tN tN) r)) [.imm (tN v_corners), .imm ((tT (tP tN tN)) v_lines), .imm (tN v_a)] [.imm (tN v_corners), .imm ((tT (tP tN tN)) v_lines), .imm (tN v_a)]
def q_law_steps_3 (v_here : Nat) : (List (Nat × Nat)) × (List Nat) → (Nat × Nat) → Option ((List (Nat × Nat)) × (List Nat)) := fun s x => lett ((bif (decide (x.1 = v_here)) then (some x.2) else (bif (decide (x.2 = v_here)) then (some x.1) else none))) fun v5 => (bif (v5).isSome then (v5).bind fun x6 => some ((!(aGet x6 s.1).isSome)) else some false).bind fun x7 => bif x7 then (aGet v_here s.1).bind fun x9 => (v5).bind fun x10 => (putO s.1 x10 ((x9 + 1))).bind fun x11 => (v5).bind fun x12 => (appO s.2 x12).bind fun x13 => some ((x11, x13)) else some ((s.1, s.2))
theorem tq_law_steps_3 (v_here : Nat) (v_lines : (List (Nat × Nat))) (v_corners : Nat) (v_a : Nat) (v_at : Nat)  (w_found : (List (Nat × Nat))) (w_waiting : (List Nat))  (r : _) (h : forO (q_law_steps_3 v_here) v_lines (w_found, w_waiting) = some r) : Run (s_law_steps_3) [.imm (tN v_corners), .imm ((tT (tP tN tN)) v_lines), .imm (tN v_a), .own ((tD tN tN) w_found), .own ((tL tN) w_waiting), .imm (tN v_at), .imm (tN v_here), .any, .any, .any] ((fun q => .nx ((fun (s : (List (Nat × Nat)) × (List Nat)) => ([.imm (tN v_corners), .imm ((tT (tP tN tN)) v_lines), .imm (tN v_a), .own ((tD tN tN) s.1), .own ((tL tN) s.2), .imm (tN v_at), .imm (tN v_here), .any, .any, .any] : List TL.Sp)) q)) r) := by
  refine' run_for (S := (fun (s : (List (Nat × Nat)) × (List Nat)) => ([.imm (tN v_corners), .imm ((tT (tP tN tN)) v_lines), .imm (tN v_a), .own ((tD tN tN) s.1), .own ((tL tN) s.2), .imm (tN v_at), .imm (tN v_here), .any, .any, .any] : List TL.Sp))) (ea := (tP tN tN)) ?hw ?hl ?hg ?hb h
  case hw => exact (evI_seqT (ev_imm rfl) .imm rfl)
  case hl => exact (.cons .rf (.cons .rf (.cons .rf (.cons .rf (.cons .rf (.cons .rf (.cons .rf (.cons .an (.cons .an (.cons .an .nil))))))))))
  case hg => exact (fun s x => (evG_t (evGs_cons evG_n (evGs_cons evG_n evGs_nil)) rfl))
  case hb => exact (fun s x r h => run_let (fun v5 => List.set _ 9 (.imm ((tO tN) v5))) (run_setI (ev_if (tO tN) (evT_t (ev_bin (ev_imm rfl) (ev_imm rfl) trivial trivial (o_eq nice_N (by decide) x.1 v_here))) (ev_as (ev_imm rfl) ((tO tN) ((some x.2))) (((fun _ => rfl) x.2).symm)) (ev_if (tO tN) (evT_t (ev_bin (ev_imm rfl) (ev_imm rfl) trivial trivial (o_eq nice_N (by decide) x.2 v_here))) (ev_as (ev_imm rfl) ((tO tN) ((some x.1))) (((fun _ => rfl) x.1).symm)) (ev_as (ev_c _) ((tO tN) none) (((fun _ => rfl) (())).symm))))) h fun v5 h => bndE h fun x7 hx7 h => run_if (evT_andO hx7 (evT_t (ev_bin (ev_imm rfl) (ev_c _) trivial trivial (o_notN nn_N v5))) (fun y8 hq => bndE hq fun x6 hx6 hq => evT_some hq (evT_t (ev_bin (ev_un1 (e := tN) hx6 (ev_imm rfl)) (ev_var rfl) trivial (by exact rfl) (o_ninK keyK_N _ _))))) (fun hc => have h := bif_t hc h; bndE h fun x9 hx9 h => bndE h fun x10 hx10 h => bndE h fun x11 hx11 h => run_seq (run_asg (ev_bin (ev_bin (ev_var rfl) (ev_imm rfl) (by exact rfl) trivial (o_getK (f := tN) keyK_N hx9)) (ev_as (ev_c _) (tN 1) rfl) trivial trivial (o_addN _ _)) .imm (evG_keyT (f := tN) keyK_N hx11 rfl rfl (ev_un1 (e := tN) hx10 (ev_imm rfl)) rfl rfl)) (bndE h fun x12 hx12 h => bndE h fun x13 hx13 h => run_some (F := (fun q => .nx ((fun (s : (List (Nat × Nat)) × (List Nat)) => ([.imm (tN v_corners), .imm ((tT (tP tN tN)) v_lines), .imm (tN v_a), .own ((tD tN tN) s.1), .own ((tL tN) s.2), .imm (tN v_at), .imm (tN v_here), .any, .any, .any] : List TL.Sp)) q))) h (Run.le (run_app (e := tN) hx13 rfl rfl (ev_un1 (e := tN) hx12 (ev_imm rfl)) .imm rfl rfl rfl) (.cons .rf (.cons .rf (.cons .rf (.cons .rf (.cons .rf (.cons .rf (.cons .rf (.cons .an (.cons .an (.cons .an .nil))))))))))))) (fun hc => have h := bif_f hc h; run_some (F := (fun q => .nx ((fun (s : (List (Nat × Nat)) × (List Nat)) => ([.imm (tN v_corners), .imm ((tT (tP tN tN)) v_lines), .imm (tN v_a), .own ((tD tN tN) s.1), .own ((tL tN) s.2), .imm (tN v_at), .imm (tN v_here), .any, .any, .any] : List TL.Sp)) q))) h (Run.le run_nx (.cons .rf (.cons .rf (.cons .rf (.cons .rf (.cons .rf (.cons .rf (.cons .rf (.cons .an (.cons .an (.cons .an .nil)))))))))))))
def c_law_steps_1 (v_lines : (List (Nat × Nat))) : (List (Nat × Nat)) × (List Nat) × Nat → Option Bool := fun s => some ((ltN s.2.2 s.2.1.length))
def q_law_steps_1 (v_lines : (List (Nat × Nat))) : (List (Nat × Nat)) × (List Nat) × Nat → Option ((List (Nat × Nat)) × (List Nat) × Nat) := fun s => (s.2.1[s.2.2]?).bind fun x4 => (forO (q_law_steps_3 x4) v_lines ((s.1, s.2.1))).bind fun t14 => some ((t14.1, t14.2, (s.2.2 + 1)))
theorem tq_law_steps_1 (v_lines : (List (Nat × Nat))) (v_corners : Nat) (v_a : Nat) (w_found : (List (Nat × Nat))) (w_waiting : (List Nat)) (w_at : Nat) (r : _) (h : whO (c_law_steps_1 v_lines) (q_law_steps_1 v_lines) 100000 (w_found, w_waiting, w_at) = some r) : Run (s_law_steps_1) [.imm (tN v_corners), .imm ((tT (tP tN tN)) v_lines), .imm (tN v_a), .own ((tD tN tN) w_found), .own ((tL tN) w_waiting), .imm (tN w_at), .any, .any, .any, .any] ((fun q => .nx ((fun (s : (List (Nat × Nat)) × (List Nat) × Nat) => ([.imm (tN v_corners), .imm ((tT (tP tN tN)) v_lines), .imm (tN v_a), .own ((tD tN tN) s.1), .own ((tL tN) s.2.1), .imm (tN s.2.2), .any, .any, .any, .any] : List TL.Sp)) q)) r) := by
  refine run_wh (S := (fun (s : (List (Nat × Nat)) × (List Nat) × Nat) => ([.imm (tN v_corners), .imm ((tT (tP tN tN)) v_lines), .imm (tN v_a), .own ((tD tN tN) s.1), .own ((tL tN) s.2.1), .imm (tN s.2.2), .any, .any, .any, .any] : List TL.Sp))) (Les.refl _) ?hc ?hb h
  case hc => exact (fun s y hq => evT_some hq (evT_t (ev_bin (ev_imm rfl) (ev_b1 (ev_var rfl) (by exact rfl) (o_lenL _)) trivial trivial (o_lt cmp_N (by decide) _ _))))
  case hb => exact (fun s r h => bndE h fun x4 hx4 h => run_seq (run_setI (ev_bin (ev_var rfl) (ev_imm rfl) (by exact rfl) trivial (o_ixL (e := tN) hx4))) (bndE h fun t14 ht h => run_seq (Run.pre (tq_law_steps_3 x4 v_lines v_corners v_a s.2.2  s.1 s.2.1  _ ht) (.cons .rf (.cons .rf (.cons .rf (.cons .rf (.cons .rf (.cons .rf (.cons .rf (.cons .an (.cons .an (.cons .an .nil))))))))))) (run_some (F := (fun q => .nx ((fun (s : (List (Nat × Nat)) × (List Nat) × Nat) => ([.imm (tN v_corners), .imm ((tT (tP tN tN)) v_lines), .imm (tN v_a), .own ((tD tN tN) s.1), .own ((tL tN) s.2.1), .imm (tN s.2.2), .any, .any, .any, .any] : List TL.Sp)) q))) h (Run.le (run_setI (ev_bin (ev_imm rfl) (ev_as (ev_c _) (tN 1) rfl) trivial trivial (o_addN _ _))) (.cons .rf (.cons .rf (.cons .rf (.cons .rf (.cons .rf (.cons .rf (.cons .an (.cons .an (.cons .an (.cons .an .nil))))))))))))))
def p_law_steps (v_corners : Nat) (v_lines : (List (Nat × Nat))) (v_a : Nat) : Option ((List (Nat × Nat))) := lett ([(v_a, 0)]) fun v1 => lett ([v_a]) fun v2 => lett 0 fun v3 => (whO (c_law_steps_1 v_lines) (q_law_steps_1 v_lines) 100000 ((v1, v2, v3))).bind fun t15 => some t15.1
theorem t_law_steps (v_corners : Nat) (v_lines : (List (Nat × Nat))) (v_a : Nat) (r : ((List (Nat × Nat)))) (h : p_law_steps v_corners v_lines v_a = some r) : FR m_law_steps [.imm (tN v_corners), .imm ((tT (tP tN tN)) v_lines), .imm (tN v_a)] (.own ((tD tN tN) r)) [.imm (tN v_corners), .imm ((tT (tP tN tN)) v_lines), .imm (tN v_a)] :=
  fn_run (n := 10) (body := b_law_steps) (ps := [.imm (tN v_corners), .imm ((tT (tP tN tN)) v_lines), .imm (tN v_a), .any, .any, .any, .any, .any, .any, .any]) rfl (run_seq (run_par (evR_cons (ev_disp1T (f := tN) keyK_N (ev_imm rfl) (ev_as (ev_c _) (tN 0) rfl)) .own .own (evR_cons (ev_asO (ev_lst (evA_cons (ev_imm rfl) .imm evA_nil)) ((tL tN) [v_a]) rfl) .own .own (evR_cons (ev_as (ev_c _) (tN 0) rfl) .imm .imm evR_nil)))) (lettE h fun h => lettE h fun h => lettE h fun h => bndE h fun t15 ht h => run_seq (Run.pre (tq_law_steps_1 v_lines v_corners v_a ([(v_a, 0)]) ([v_a]) 0 _ ht) (.cons .rf (.cons .rf (.cons .rf (.cons .rf (.cons .rf (.cons .rf (.cons .an (.cons .an (.cons .an (.cons .an .nil))))))))))) (run_some (F := (rt_law_steps v_corners v_lines v_a)) h (run_retVV rfl rfl))))
-- are_let (('W',), ('T', ('N',)), ('N',)): ('B',)
abbrev rt_are_let (v_web : W) (v_told : (List Nat)) (v_number : Nat) : (Bool) → Po := fun r => .ret (.imm (tB r)) [.imm (eW v_web), .imm ((tT tN) v_told), .imm (tN v_number)] [.imm (eW v_web), .imm ((tT tN) v_told), .imm (tN v_number)]
def q_are_let_2 (v_web : W) (v_told : (List Nat)) (v_number : Nat) (v_near : (List Nat)) : Unit → (Nat × Nat) → Option (Res (Unit) (Bool)) := fun _ x => bif ((decide (x.1 ∈ v_near)) && (ltN ((((v_number : Int) - (x.2 : Int))).natAbs) 2)) then some (.ret false) else bif ((decide (v_number = x.2)) && (((((near v_web.n v_web.L x.1)).map fun (a2 : Nat) => (decide (a2 ∈ v_near)))).any id)) then some (.ret false) else some (.go (()))
theorem tq_are_let_2 (v_web : W) (v_told : (List Nat)) (v_number : Nat) (v_near : (List Nat)) (v_a : Nat)    (r : _) (h : forR (q_are_let_2 v_web v_told v_number v_near) (enumF 0 v_told) () = some r) : Run (s_are_let_2) [.imm (eW v_web), .imm ((tT tN) v_told), .imm (tN v_number), .imm (tN v_a), .own ((tL tN) v_near), .any, .any, .any] ((PoR (fun (_ : Unit) => ([.imm (eW v_web), .imm ((tT tN) v_told), .imm (tN v_number), .imm (tN v_a), .own ((tL tN) v_near), .any, .any, .any] : List TL.Sp)) (rt_are_let v_web v_told v_number)) r) := by
  refine' run_forR (S := (fun (_ : Unit) => ([.imm (eW v_web), .imm ((tT tN) v_told), .imm (tN v_number), .imm (tN v_a), .own ((tL tN) v_near), .any, .any, .any] : List TL.Sp))) (ea := (tP tN tN)) ?hw ?hl retp_of ?hg ?hb h
  case hw => exact (evI_enTT (evA_cons (ev_imm rfl) .imm evA_nil))
  case hl => exact (.cons .rf (.cons .rf (.cons .rf (.cons .rf (.cons .rf (.cons .an (.cons .an (.cons .an .nil))))))))
  case hg => exact (fun _ x => (evG_t (evGs_cons evG_n (evGs_cons evG_n evGs_nil)) rfl))
  case hb => exact (fun _ x r h => run_if_seq (evT_and (evT_t (ev_bin (ev_imm rfl) (ev_var rfl) trivial (by exact rfl) (o_inL nice_N (by decide) _ _))) (evT_t (ev_bin (ev_b1 (ev_bin (ev_imm rfl) (ev_imm rfl) trivial trivial (o_subNZ _ _)) trivial (o_absZ _)) (ev_as (ev_c _) (tN 2) rfl) trivial trivial (o_lt cmp_N (by decide) _ _)))) (fun hc => have h := bif_t hc h; run_some (F := (PoR (fun (_ : Unit) => ([.imm (eW v_web), .imm ((tT tN) v_told), .imm (tN v_number), .imm (tN v_a), .own ((tL tN) v_near), .any, .any, .any] : List TL.Sp)) (rt_are_let v_web v_told v_number))) h (run_seqR (run_retI (ev_c _) rfl))) (fun hc => have h := bif_f hc h; run_seq run_nx (run_if (evT_and (evT_t (ev_bin (ev_imm rfl) (ev_imm rfl) trivial trivial (o_eq nice_N (by decide) v_number x.2))) (evT_t (ev_b1 (ev_lcM (ea := tN) (eb := tB) (fun (a2 : Nat) => (decide (a2 ∈ v_near))) (evI_seqL (ev_call (svs := [.imm (eW v_web), .imm (tN x.1)]) (evC_val (ev_imm rfl) .imm (evC_val (ev_imm rfl) .imm evC_nil)) rfl rfl (fr_near_of v_web x.1) rfl trivial) .own rfl) (fun a2 => evG_n) (fun _ => rfl) (fun a2 => (kept_imm (ev_bin (ev_imm rfl) (ev_var rfl) trivial (by exact rfl) (o_inL nice_N (by decide) _ _))))) trivial (o_any _)))) (fun hc => have h := bif_t hc h; run_some (F := (PoR (fun (_ : Unit) => ([.imm (eW v_web), .imm ((tT tN) v_told), .imm (tN v_number), .imm (tN v_a), .own ((tL tN) v_near), .any, .any, .any] : List TL.Sp)) (rt_are_let v_web v_told v_number))) h (run_retI (ev_c _) rfl)) (fun hc => have h := bif_f hc h; run_some (F := (PoR (fun (_ : Unit) => ([.imm (eW v_web), .imm ((tT tN) v_told), .imm (tN v_number), .imm (tN v_a), .own ((tL tN) v_near), .any, .any, .any] : List TL.Sp)) (rt_are_let v_web v_told v_number))) h (Run.le run_nx (.cons .rf (.cons .rf (.cons .rf (.cons .rf (.cons .rf (.cons .an (.cons .an (.cons .an .nil)))))))))))))
def p_are_let (v_web : W) (v_told : (List Nat)) (v_number : Nat) : Option (Bool) := lett ((near v_web.n v_web.L v_told.length)) fun v1 => thenR (fun v => v) (forR (q_are_let_2 v_web v_told v_number v1) ((enumF 0 v_told)) (())) fun t3 => some true
theorem t_are_let (v_web : W) (v_told : (List Nat)) (v_number : Nat) (r : (Bool)) (h : p_are_let v_web v_told v_number = some r) : FR m_are_let [.imm (eW v_web), .imm ((tT tN) v_told), .imm (tN v_number)] (.imm (tB r)) [.imm (eW v_web), .imm ((tT tN) v_told), .imm (tN v_number)] :=
  fn_run (n := 8) (body := b_are_let) (ps := [.imm (eW v_web), .imm ((tT tN) v_told), .imm (tN v_number), .any, .any, .any, .any, .any]) rfl (run_seq (run_setI (ev_b1 (ev_imm rfl) trivial (o_lenT _))) (run_let (fun v1 => List.set _ 4 (.own ((tL tN) v1))) (run_setO (ev_call (svs := [.imm (eW v_web), .imm (tN v_told.length)]) (evC_val (ev_imm rfl) .imm (evC_val (ev_imm rfl) .imm evC_nil)) rfl rfl (fr_near_of v_web v_told.length) rfl trivial)) h fun v1 h => thenE' (F := (rt_are_let v_web v_told v_number)) h (fun t3 ht h => run_seq (Run.pre (tq_are_let_2 v_web v_told v_number v1 v_told.length    _ ht) (.cons .rf (.cons .rf (.cons .rf (.cons .rf (.cons .rf (.cons .an (.cons .an (.cons .an .nil))))))))) (run_some (F := (rt_are_let v_web v_told v_number)) h (run_retI (ev_c _) rfl))) (fun r4 ht => run_seqR (Run.pre (tq_are_let_2 v_web v_told v_number v1 v_told.length    _ ht) (.cons .rf (.cons .rf (.cons .rf (.cons .rf (.cons .rf (.cons .an (.cons .an (.cons .an .nil))))))))))))
-- apart_on (('W',), ('Z',), ('T', ('N',))): ('O', ('T', ('N',)))
abbrev rt_apart_on (v_web : W) (v_most : Int) (v_told : (List Nat)) : ((Option (List Nat))) → Po := fun r => .ret (.imm ((tO (tT tN)) r)) [.imm (eW v_web), .imm (tZ v_most), .imm ((tT tN) v_told)] [.imm (eW v_web), .imm (tZ v_most), .imm ((tT tN) v_told)]
def q_apart_on_2 (rf : W → Int → (List Nat) → Option ((Option (List Nat)))) (v_web : W) (v_most : Int) (v_told : (List Nat)) : Unit → Nat → Option (Res (Unit) ((Option (List Nat)))) := fun _ x => (p_are_let v_web v_told x).bind fun x2 => bif x2 then (catO v_told ([x])).bind fun x3 => (rf v_web v_most x3).bind fun x4 => bif (x4).isSome then some (.ret x4) else some (.go (())) else some (.go (()))
theorem tq_apart_on_2 (rf : W → Int → (List Nat) → Option ((Option (List Nat)))) (rfm : FM) (hrf : ∀ (a0 : W) (a1 : Int) (a2 : (List Nat)) (r : ((Option (List Nat)))), rf a0 a1 a2 = some r → FR rfm [.imm (eW a0), .imm (tZ a1), .imm ((tT tN) a2)] (.imm ((tO (tT tN)) r)) [.imm (eW a0), .imm (tZ a1), .imm ((tT tN) a2)]) (v_web : W) (v_most : Int) (v_told : (List Nat))    (x5 : _) (hx5 : rgZ ((v_most + ((1 : Nat) : Int))) = some x5) (r : _) (h : forR (q_apart_on_2 rf v_web v_most v_told) x5 () = some r) : Run (s_apart_on_2 rfm) [.imm (eW v_web), .imm (tZ v_most), .imm ((tT tN) v_told), .any, .any] ((PoR (fun (_ : Unit) => ([.imm (eW v_web), .imm (tZ v_most), .imm ((tT tN) v_told), .any, .any] : List TL.Sp)) (rt_apart_on v_web v_most v_told)) r) := by
  refine' run_forR (S := (fun (_ : Unit) => ([.imm (eW v_web), .imm (tZ v_most), .imm ((tT tN) v_told), .any, .any] : List TL.Sp))) (ea := tN) ?hw ?hl retp_of ?hg ?hb h
  case hw => exact (evI_rgTZ hx5 (ev_bin (ev_imm rfl) (ev_as (ev_as (ev_c _) (tN 1) rfl) (tZ (((1 : Nat) : Int))) (((fun _ => rfl) 1).symm)) trivial trivial (o_addZ _ _)))
  case hl => exact (.cons .rf (.cons .rf (.cons .rf (.cons .an (.cons .an .nil)))))
  case hg => exact (fun _ x => evG_n)
  case hb => exact (fun _ x r h => bndE h fun x2 hx2 h => run_if (evT_t (ev_call (svs := [.imm (eW v_web), .imm ((tT tN) v_told), .imm (tN x)]) (evC_val (ev_imm rfl) .imm (evC_val (ev_imm rfl) .imm (evC_val (ev_imm rfl) .imm evC_nil))) rfl rfl (t_are_let v_web v_told x _ hx2) rfl trivial)) (fun hc => have h := bif_t hc h; bndE h fun x3 hx3 h => bndE h fun x4 hx4 h => run_seq (run_setI (ev_call (svs := [.imm (eW v_web), .imm (tZ v_most), .imm ((tT tN) x3)]) (evC_val (ev_imm rfl) .imm (evC_val (ev_imm rfl) .imm (evC_val (ev_bin (ev_imm rfl) (ev_as (ev_tup (evA_cons (ev_imm rfl) .imm evA_nil)) ((tT tN) [x]) rfl) trivial trivial (o_catT (e := tN) hx3)) .imm evC_nil))) rfl rfl (hrf v_web v_most x3 _ hx4) rfl trivial)) (run_if (evT_t (ev_bin (ev_imm rfl) (ev_c _) trivial trivial (o_notN nn_T x4))) (fun hc => have h := bif_t hc h; run_some (F := (PoR (fun (_ : Unit) => ([.imm (eW v_web), .imm (tZ v_most), .imm ((tT tN) v_told), .any, .any] : List TL.Sp)) (rt_apart_on v_web v_most v_told))) h (run_retI (ev_imm rfl) rfl)) (fun hc => have h := bif_f hc h; run_some (F := (PoR (fun (_ : Unit) => ([.imm (eW v_web), .imm (tZ v_most), .imm ((tT tN) v_told), .any, .any] : List TL.Sp)) (rt_apart_on v_web v_most v_told))) h (Run.le run_nx (.cons .rf (.cons .rf (.cons .rf (.cons .an (.cons .an .nil))))))))) (fun hc => have h := bif_f hc h; run_some (F := (PoR (fun (_ : Unit) => ([.imm (eW v_web), .imm (tZ v_most), .imm ((tT tN) v_told), .any, .any] : List TL.Sp)) (rt_apart_on v_web v_most v_told))) h (Run.le run_nx (.cons .rf (.cons .rf (.cons .rf (.cons .an (.cons .an .nil))))))))
def p_apart_on : Nat → W → Int → (List Nat) → Option ((Option (List Nat)))
  | 0 => fun _ _ _ => none
  | z + 1 => fun v_web v_most v_told => lett (p_apart_on z) fun rf => bif (decide (v_told.length = v_web.n)) then some ((some v_told)) else (rgZ ((v_most + ((1 : Nat) : Int)))).bind fun x1 => thenR (fun v => v) (forR (q_apart_on_2 rf v_web v_most v_told) x1 (())) fun t6 => some none
theorem t_apart_on : ∀ (z : Nat) (v_web : W) (v_most : Int) (v_told : (List Nat)) (r : ((Option (List Nat)))), p_apart_on z v_web v_most v_told = some r → FR (m_apart_on z) [.imm (eW v_web), .imm (tZ v_most), .imm ((tT tN) v_told)] (.imm ((tO (tT tN)) r)) [.imm (eW v_web), .imm (tZ v_most), .imm ((tT tN) v_told)]
  | 0, _, _, _, _, h => nomatch h
  | z + 1, v_web, v_most, v_told, r, h => (fun (rf : W → Int → (List Nat) → Option ((Option (List Nat)))) (rfm : FM) (hrf : ∀ (a0 : W) (a1 : Int) (a2 : (List Nat)) (r : ((Option (List Nat)))), rf a0 a1 a2 = some r → FR rfm [.imm (eW a0), .imm (tZ a1), .imm ((tT tN) a2)] (.imm ((tO (tT tN)) r)) [.imm (eW a0), .imm (tZ a1), .imm ((tT tN) a2)]) (h : (bif (decide (v_told.length = v_web.n)) then some ((some v_told)) else (rgZ ((v_most + ((1 : Nat) : Int)))).bind fun x1 => thenR (fun v => v) (forR (q_apart_on_2 rf v_web v_most v_told) x1 (())) fun t6 => some none) = some r) => (fn_run (n := 5) (body := b_apart_on rfm) (ps := [.imm (eW v_web), .imm (tZ v_most), .imm ((tT tN) v_told), .any, .any]) rfl (run_if_seq (evT_t (ev_bin (ev_b1 (ev_imm rfl) trivial (o_lenT _)) (ev_corners (ev_imm rfl) trivial rfl) trivial trivial (o_eq nice_N (by decide) v_told.length v_web.n))) (fun hc => have h := bif_t hc h; run_some (F := (rt_apart_on v_web v_most v_told)) h (run_seqR (run_retI (ev_as (ev_imm rfl) ((tO (tT tN)) ((some v_told))) (((fun _ => rfl) v_told).symm)) rfl))) (fun hc => have h := bif_f hc h; run_seq run_nx (bndE h fun x1 hx1 h => thenE' (F := (rt_apart_on v_web v_most v_told)) h (fun t6 ht h => run_seq (Run.pre (tq_apart_on_2 rf rfm hrf v_web v_most v_told    x1 hx1 _ ht) (.cons .rf (.cons .rf (.cons .rf (.cons .an (.cons .an .nil)))))) (run_some (F := (rt_apart_on v_web v_most v_told)) h (run_retI (ev_as (ev_c _) ((tO (tT tN)) none) (((fun _ => rfl) (())).symm)) rfl))) (fun r7 ht => run_seqR (Run.pre (tq_apart_on_2 rf rfm hrf v_web v_most v_told    x1 hx1 _ ht) (.cons .rf (.cons .rf (.cons .rf (.cons .an (.cons .an .nil)))))))))) : FR (runF 5 (b_apart_on rfm)) [.imm (eW v_web), .imm (tZ v_most), .imm ((tT tN) v_told)] (.imm ((tO (tT tN)) r)) [.imm (eW v_web), .imm (tZ v_most), .imm ((tT tN) v_told)])) (p_apart_on z) (m_apart_on z) (t_apart_on z) h
-- difference_colours (('W',),): ('P', ('Z',), ('O', ('T', ('N',))))
abbrev rt_difference_colours (v_web : W) : ((Int × (Option (List Nat)))) → Po := fun r => .ret (.imm ((tP tZ (tO (tT tN))) r)) [.imm (eW v_web)] [.imm (eW v_web)]
def c_difference_colours_1 (v_web : W) : Int × (Option (List Nat)) → Option Bool := fun s => some ((s.2).isNone)
def q_difference_colours_1 (v_web : W) : Int × (Option (List Nat)) → Option (Int × (Option (List Nat))) := fun s => lett ((s.1 + ((1 : Nat) : Int))) fun v3 => (p_apart_on 9 v_web v3 (([] : (List Nat)))).bind fun x4 => some ((v3, x4))
theorem tq_difference_colours_1 (v_web : W)  (w_most : Int) (w_found : (Option (List Nat))) (r : _) (h : whO (c_difference_colours_1 v_web) (q_difference_colours_1 v_web) 100000 (w_most, w_found) = some r) : Run (s_difference_colours_1) [.imm (eW v_web), .imm (tZ w_most), .imm ((tO (tT tN)) w_found)] ((fun q => .nx ((fun (s : Int × (Option (List Nat))) => ([.imm (eW v_web), .imm (tZ s.1), .imm ((tO (tT tN)) s.2)] : List TL.Sp)) q)) r) := by
  refine run_wh (S := (fun (s : Int × (Option (List Nat))) => ([.imm (eW v_web), .imm (tZ s.1), .imm ((tO (tT tN)) s.2)] : List TL.Sp))) (Les.refl _) ?hc ?hb h
  case hc => exact (fun s y hq => evT_some hq (evT_t (ev_bin (ev_imm rfl) (ev_c _) trivial trivial (o_isN nn_T s.2))))
  case hb => exact (fun s r h => run_let (fun v3 => List.set _ 1 (.imm (tZ v3))) (run_setI (ev_bin (ev_imm rfl) (ev_as (ev_as (ev_c _) (tN 1) rfl) (tZ (((1 : Nat) : Int))) (((fun _ => rfl) 1).symm)) trivial trivial (o_addZ _ _))) h fun v3 h => bndE h fun x4 hx4 h => run_some (F := (fun q => .nx ((fun (s : Int × (Option (List Nat))) => ([.imm (eW v_web), .imm (tZ s.1), .imm ((tO (tT tN)) s.2)] : List TL.Sp)) q))) h (Run.le (run_setI (ev_call (svs := [.imm (eW v_web), .imm (tZ v3), .imm ((tT tN) (([] : (List Nat))))]) (evC_val (ev_imm rfl) .imm (evC_val (ev_imm rfl) .imm (evC_val (ev_as (ev_tup evA_nil) ((tT tN) ([] : (List Nat))) rfl) .imm evC_nil))) rfl rfl (t_apart_on 9 v_web v3 (([] : (List Nat))) _ hx4) rfl trivial)) (.cons .rf (.cons .rf (.cons .rf .nil)))))
def p_difference_colours (v_web : W) : Option ((Int × (Option (List Nat)))) := lett ((-(1 : Int))) fun v1 => lett none fun v2 => (whO (c_difference_colours_1 v_web) (q_difference_colours_1 v_web) 100000 ((v1, v2))).bind fun t5 => some ((t5.1, t5.2))
theorem t_difference_colours (v_web : W) (r : ((Int × (Option (List Nat))))) (h : p_difference_colours v_web = some r) : FR m_difference_colours [.imm (eW v_web)] (.imm ((tP tZ (tO (tT tN))) r)) [.imm (eW v_web)] :=
  fn_run (n := 3) (body := b_difference_colours) (ps := [.imm (eW v_web), .any, .any]) rfl (run_seq (run_par (evR_cons (ev_un (ev_as (ev_c _) (tN 1) rfl) trivial (o_negN _)) .imm .imm (evR_cons (ev_as (ev_c _) ((tO (tT tN)) none) (((fun _ => rfl) (())).symm)) .imm .imm evR_nil))) (lettE h fun h => lettE h fun h => bndE h fun t5 ht h => run_seq (Run.pre (tq_difference_colours_1 v_web  (-(1 : Int)) none _ ht) (.cons .rf (.cons .rf (.cons .rf .nil)))) (run_some (F := (rt_difference_colours v_web)) h (run_retI (ev_as (ev_tup (evA_cons (ev_imm rfl) .imm (evA_cons (ev_imm rfl) .imm evA_nil))) ((tP tZ (tO (tT tN))) (t5.1, t5.2)) rfl) rfl))))
-- law (): ('B',)
abbrev rt_law_turn : Bool → List Int → Po := fun r v_script => .ret (.imm (tB r)) [.imm (.scr v_script)] [.imm (.scr v_script)]
def q_law_turn_8 (v_corners : Nat) (v_lines : (List (Nat × Nat))) (v_many : Nat) : (List (List Nat)) → (List Nat) → Option ((List (List Nat))) := fun s x => (mapO (fun (a4 : (Nat × Nat)) => (x[a4.1]?).bind fun x5 => (x[a4.2]?).bind fun x6 => some ((((x5 : Int) - (x6 : Int))).natAbs)) v_lines).bind fun x8 => (lenSetO x8).bind fun x9 => lett ((decide (x9 = v_many))) fun v10 => (bif v10 then (lenSetO x).bind fun x11 => (bif (decide (x11 = v_corners)) then (mapO (fun (a12 : (Nat × Nat)) => (x[a12.1]?).bind fun x13 => (x[a12.2]?).bind fun x14 => some ((decide (x13 = x14)))) v_lines).bind fun x16 => some ((!(x16.any id))) else some false).bind fun x17 => some x17 else some false).bind fun x19 => bif x19 then (appO s x).bind fun x21 => some x21 else some s
theorem tq_law_turn_8 (v_script : List Int) (v_corners : Nat) (v_lines : (List (Nat × Nat))) (v_many : Nat) (v_hand : D) (v_web : W)  (w_good : (List (List Nat))) (x22 : _) (hx22 : p_law_tuples v_corners 0 v_many = some x22) (r : _) (h : forO (q_law_turn_8 v_corners v_lines v_many) x22 w_good = some r) : Run (s_law_8) [.any, .own (tH v_hand), .any, .imm (tN v_corners), .imm ((tT (tP tN tN)) v_lines), .own (eW v_web), .imm (tN v_many), .own ((tL (tT tN)) w_good), .any, .any, .any, .any, .any, .any, .any, .any, .any, .any, .any, .any, .any] ((fun q => .nx ((fun (s : (List (List Nat))) => ([.any, .own (tH v_hand), .any, .imm (tN v_corners), .imm ((tT (tP tN tN)) v_lines), .own (eW v_web), .imm (tN v_many), .own ((tL (tT tN)) s), .any, .any, .any, .any, .any, .any, .any, .any, .any, .any, .any, .any, .any] : List TL.Sp)) q)) r) := by
  refine' run_for (S := (fun (s : (List (List Nat))) => ([.any, .own (tH v_hand), .any, .imm (tN v_corners), .imm ((tT (tP tN tN)) v_lines), .own (eW v_web), .imm (tN v_many), .own ((tL (tT tN)) s), .any, .any, .any, .any, .any, .any, .any, .any, .any, .any, .any, .any, .any] : List TL.Sp))) (ea := (tT tN)) ?hw ?hl ?hg ?hb h
  case hw => exact (evI_seqL (ev_call (svs := [.imm (tN v_corners), .imm (tN 0), .imm (tN v_many)]) (evC_val (ev_imm rfl) .imm (evC_val (ev_as (ev_c _) (tN 0) rfl) .imm (evC_val (ev_imm rfl) .imm evC_nil))) rfl rfl (t_law_tuples v_corners 0 v_many _ hx22) rfl trivial) .fr rfl)
  case hl => exact (.cons .an (.cons .rf (.cons .an (.cons .rf (.cons .rf (.cons .rf (.cons .rf (.cons .rf (.cons .an (.cons .an (.cons .an (.cons .an (.cons .an (.cons .an (.cons .an (.cons .an (.cons .an (.cons .an (.cons .an (.cons .an (.cons .an .nil)))))))))))))))))))))
  case hg => exact (fun s x => evG_n)
  case hb => exact (fun s x r h => bndE h fun x8 hx8 h => bndE h fun x9 hx9 h => run_let (fun v10 => List.set _ 9 (.imm (tB v10))) (run_setI (ev_bin (ev_b1 (ev_lcMO (ea := (tP tN tN)) (eb := tN) hx8 (evI_seqT (ev_imm rfl) .imm rfl) (fun a4 => (evG_t (evGs_cons evG_n (evGs_cons evG_n evGs_nil)) rfl)) (fun _ => rfl) (fun a4 y7 hq => bndE hq fun x5 hx5 hq => bndE hq fun x6 hx6 hq => kept_some (e := tN) hq (kept_imm (ev_b1 (ev_bin (ev_bin (ev_imm rfl) (ev_imm rfl) trivial trivial (o_ixT (e := tN) hx5)) (ev_bin (ev_imm rfl) (ev_imm rfl) trivial trivial (o_ixT (e := tN) hx6)) trivial trivial (o_subNZ _ _)) trivial (o_absZ _))))) trivial (o_lenSetLN hx9)) (ev_imm rfl) trivial trivial (o_eq nice_N (by decide) x9 v_many))) h fun v10 h => bndE h fun x19 hx19 h => run_if (evT_andO hx19 (evT_t (ev_imm rfl)) (fun y20 hq => bndE hq fun x11 hx11 hq => bndE hq fun x17 hx17 hq => evT_some hq (evT_andO hx17 (evT_t (ev_bin (ev_b1 (ev_imm rfl) trivial (o_lenSetTN hx11)) (ev_imm rfl) trivial trivial (o_eq nice_N (by decide) x11 v_corners))) (fun y18 hq => bndE hq fun x16 hx16 hq => evT_some hq (evT_not (evT_t (ev_b1 (ev_lcMO (ea := (tP tN tN)) (eb := tB) hx16 (evI_seqT (ev_imm rfl) .imm rfl) (fun a12 => (evG_t (evGs_cons evG_n (evGs_cons evG_n evGs_nil)) rfl)) (fun _ => rfl) (fun a12 y15 hq => bndE hq fun x13 hx13 hq => bndE hq fun x14 hx14 hq => kept_some (e := tB) hq (kept_imm (ev_bin (ev_bin (ev_imm rfl) (ev_imm rfl) trivial trivial (o_ixT (e := tN) hx13)) (ev_bin (ev_imm rfl) (ev_imm rfl) trivial trivial (o_ixT (e := tN) hx14)) trivial trivial (o_eq nice_N (by decide) x13 x14))))) trivial (o_any _)))))))) (fun hc => have h := bif_t hc h; bndE h fun x21 hx21 h => run_some (F := (fun q => .nx ((fun (s : (List (List Nat))) => ([.any, .own (tH v_hand), .any, .imm (tN v_corners), .imm ((tT (tP tN tN)) v_lines), .own (eW v_web), .imm (tN v_many), .own ((tL (tT tN)) s), .any, .any, .any, .any, .any, .any, .any, .any, .any, .any, .any, .any, .any] : List TL.Sp)) q))) h (Run.le (run_app (e := (tT tN)) hx21 rfl rfl (ev_imm rfl) .imm rfl rfl rfl) (.cons .an (.cons .rf (.cons .an (.cons .rf (.cons .rf (.cons .rf (.cons .rf (.cons .rf (.cons .an (.cons .an (.cons .an (.cons .an (.cons .an (.cons .an (.cons .an (.cons .an (.cons .an (.cons .an (.cons .an (.cons .an (.cons .an .nil))))))))))))))))))))))) (fun hc => have h := bif_f hc h; run_some (F := (fun q => .nx ((fun (s : (List (List Nat))) => ([.any, .own (tH v_hand), .any, .imm (tN v_corners), .imm ((tT (tP tN tN)) v_lines), .own (eW v_web), .imm (tN v_many), .own ((tL (tT tN)) s), .any, .any, .any, .any, .any, .any, .any, .any, .any, .any, .any, .any, .any] : List TL.Sp)) q))) h (Run.le run_nx (.cons .an (.cons .rf (.cons .an (.cons .rf (.cons .rf (.cons .rf (.cons .rf (.cons .rf (.cons .an (.cons .an (.cons .an (.cons .an (.cons .an (.cons .an (.cons .an (.cons .an (.cons .an (.cons .an (.cons .an (.cons .an (.cons .an .nil))))))))))))))))))))))))
def q_law_turn_17 (v_lines : (List (Nat × Nat))) (v_row : (List Nat)) : (List Nat) → Nat → Option ((List Nat)) := fun s x => (appO s ((((((v_row.zip v_lines)).filter fun (a36 : (Nat × (Nat × Nat))) => (decide (x = a36.2.1) || decide (x = a36.2.2))).map fun (a36 : (Nat × (Nat × Nat))) => a36.1)).sum)).bind fun x37 => some x37
theorem tq_law_turn_17 (v_script : List Int) (v_lines : (List (Nat × Nat))) (v_row : (List Nat)) (v_corners : Nat) (v_many : Nat) (v_hand : D) (v_web : W) (v_good : (List (List Nat)))  (w_sums : (List Nat)) (x38 : _) (hx38 : rgO v_corners = some x38) (r : _) (h : forO (q_law_turn_17 v_lines v_row) x38 w_sums = some r) : Run (s_law_17) [.any, .own (tH v_hand), .any, .imm (tN v_corners), .imm ((tT (tP tN tN)) v_lines), .val (eW v_web), .imm (tN v_many), .own ((tL (tT tN)) v_good), .imm ((tT tN) v_row), .any, .own ((tL tN) w_sums), .any, .any, .any, .any, .any, .any, .any, .any, .any, .any] ((fun q => .nx ((fun (s : (List Nat)) => ([.any, .own (tH v_hand), .any, .imm (tN v_corners), .imm ((tT (tP tN tN)) v_lines), .val (eW v_web), .imm (tN v_many), .own ((tL (tT tN)) v_good), .imm ((tT tN) v_row), .any, .own ((tL tN) s), .any, .any, .any, .any, .any, .any, .any, .any, .any, .any] : List TL.Sp)) q)) r) := by
  refine' run_for (S := (fun (s : (List Nat)) => ([.any, .own (tH v_hand), .any, .imm (tN v_corners), .imm ((tT (tP tN tN)) v_lines), .val (eW v_web), .imm (tN v_many), .own ((tL (tT tN)) v_good), .imm ((tT tN) v_row), .any, .own ((tL tN) s), .any, .any, .any, .any, .any, .any, .any, .any, .any, .any] : List TL.Sp))) (ea := tN) ?hw ?hl ?hg ?hb h
  case hw => exact (evI_rgT hx38 (ev_imm rfl))
  case hl => exact (.cons .an (.cons .rf (.cons .an (.cons .rf (.cons .rf (.cons .rf (.cons .rf (.cons .rf (.cons .rf (.cons .an (.cons .rf (.cons .an (.cons .an (.cons .an (.cons .an (.cons .an (.cons .an (.cons .an (.cons .an (.cons .an (.cons .an .nil)))))))))))))))))))))
  case hg => exact (fun s x => evG_n)
  case hb => exact (fun s x r h => bndE h fun x37 hx37 h => run_some (F := (fun q => .nx ((fun (s : (List Nat)) => ([.any, .own (tH v_hand), .any, .imm (tN v_corners), .imm ((tT (tP tN tN)) v_lines), .val (eW v_web), .imm (tN v_many), .own ((tL (tT tN)) v_good), .imm ((tT tN) v_row), .any, .own ((tL tN) s), .any, .any, .any, .any, .any, .any, .any, .any, .any, .any] : List TL.Sp)) q))) h (Run.le (run_app (e := tN) hx37 rfl rfl (ev_b1 (ev_lc (ea := (tP tN (tP tN tN))) (eb := tN) (fun (a36 : (Nat × (Nat × Nat))) => (decide (x = a36.2.1) || decide (x = a36.2.2))) (fun (a36 : (Nat × (Nat × Nat))) => a36.1) (evI_zipTT (evA_cons (ev_imm rfl) .imm (evA_cons (ev_imm rfl) .imm evA_nil))) (fun a36 => (evG_t (evGs_cons evG_n (evGs_cons evG_n evGs_nil)) rfl)) (fun _ => rfl) (fun a36 => (evT_t (ev_bin (ev_imm rfl) (ev_imm rfl) trivial trivial (o_inP nice_N (by decide) _ _)))) (fun a36 => (kept_imm (ev_imm rfl)))) trivial (o_sumLN _)) .imm rfl rfl rfl) (.cons .an (.cons .rf (.cons .an (.cons .rf (.cons .rf (.cons .rf (.cons .rf (.cons .rf (.cons .rf (.cons .an (.cons .rf (.cons .an (.cons .an (.cons .an (.cons .an (.cons .an (.cons .an (.cons .an (.cons .an (.cons .an (.cons .an .nil)))))))))))))))))))))))
def q_law_turn_15 (v_corners : Nat) (v_lines : (List (Nat × Nat))) : (List (List Nat)) → (List Nat) → Option ((List (List Nat))) := fun s x => lett (([] : (List Nat))) fun v34 => (rgO v_corners).bind fun x35 => (forO (q_law_turn_17 v_lines x) x35 v34).bind fun t39 => (lenSetO t39).bind fun x40 => bif (decide (x40 = 1)) then (appO s x).bind fun x41 => some x41 else some s
theorem tq_law_turn_15 (v_script : List Int) (v_corners : Nat) (v_lines : (List (Nat × Nat))) (v_many : Nat) (v_hand : D) (v_web : W)  (w_good : (List (List Nat))) (x42 : _) (hx42 : rg2O 1 ((v_many + 1)) = some x42) (x43 : _) (hx43 : p_law_orders x42 = some x43) (r : _) (h : forO (q_law_turn_15 v_corners v_lines) x43 w_good = some r) : Run (s_law_15) [.any, .own (tH v_hand), .any, .imm (tN v_corners), .imm ((tT (tP tN tN)) v_lines), .val (eW v_web), .imm (tN v_many), .own ((tL (tT tN)) w_good), .any, .any, .any, .any, .any, .any, .any, .any, .any, .any, .any, .any, .any] ((fun q => .nx ((fun (s : (List (List Nat))) => ([.any, .own (tH v_hand), .any, .imm (tN v_corners), .imm ((tT (tP tN tN)) v_lines), .val (eW v_web), .imm (tN v_many), .own ((tL (tT tN)) s), .any, .any, .any, .any, .any, .any, .any, .any, .any, .any, .any, .any, .any] : List TL.Sp)) q)) r) := by
  refine' run_for (S := (fun (s : (List (List Nat))) => ([.any, .own (tH v_hand), .any, .imm (tN v_corners), .imm ((tT (tP tN tN)) v_lines), .val (eW v_web), .imm (tN v_many), .own ((tL (tT tN)) s), .any, .any, .any, .any, .any, .any, .any, .any, .any, .any, .any, .any, .any] : List TL.Sp))) (ea := (tT tN)) ?hw ?hl ?hg ?hb h
  case hw => exact (evI_seqL (ev_call (svs := [.imm ((tL tN) x42)]) (evC_val (ev_rg2L hx42 (ev_as (ev_c _) (tN 1) rfl) (ev_bin (ev_imm rfl) (ev_as (ev_c _) (tN 1) rfl) trivial trivial (o_addN _ _))) .own evC_nil) rfl rfl (t_law_orders x42 _ hx43) rfl trivial) .fr rfl)
  case hl => exact (.cons .an (.cons .rf (.cons .an (.cons .rf (.cons .rf (.cons .rf (.cons .rf (.cons .rf (.cons .an (.cons .an (.cons .an (.cons .an (.cons .an (.cons .an (.cons .an (.cons .an (.cons .an (.cons .an (.cons .an (.cons .an (.cons .an .nil)))))))))))))))))))))
  case hg => exact (fun s x => evG_n)
  case hb => exact (fun s x r h => run_let (fun v34 => List.set _ 10 (.own ((tL tN) v34))) (run_setO (ev_asO (ev_lst evA_nil) ((tL tN) ([] : (List Nat))) rfl)) h fun v34 h => bndE h fun x35 hx35 h => bndE h fun t39 ht h => run_seq (Run.pre (tq_law_turn_17 v_script v_lines x v_corners v_many v_hand v_web s  v34 x35 hx35 _ ht) (.cons .an (.cons .rf (.cons .an (.cons .rf (.cons .rf (.cons .rf (.cons .rf (.cons .rf (.cons .rf (.cons .an (.cons .rf (.cons .an (.cons .an (.cons .an (.cons .an (.cons .an (.cons .an (.cons .an (.cons .an (.cons .an (.cons .an .nil)))))))))))))))))))))) (bndE h fun x40 hx40 h => run_if (evT_t (ev_bin (ev_b1 (ev_var rfl) (by exact rfl) (o_lenSetLN hx40)) (ev_as (ev_c _) (tN 1) rfl) trivial trivial (o_eq nice_N (by decide) x40 1))) (fun hc => have h := bif_t hc h; bndE h fun x41 hx41 h => run_some (F := (fun q => .nx ((fun (s : (List (List Nat))) => ([.any, .own (tH v_hand), .any, .imm (tN v_corners), .imm ((tT (tP tN tN)) v_lines), .val (eW v_web), .imm (tN v_many), .own ((tL (tT tN)) s), .any, .any, .any, .any, .any, .any, .any, .any, .any, .any, .any, .any, .any] : List TL.Sp)) q))) h (Run.le (run_app (e := (tT tN)) hx41 rfl rfl (ev_imm rfl) .imm rfl rfl rfl) (.cons .an (.cons .rf (.cons .an (.cons .rf (.cons .rf (.cons .rf (.cons .rf (.cons .rf (.cons .an (.cons .an (.cons .an (.cons .an (.cons .an (.cons .an (.cons .an (.cons .an (.cons .an (.cons .an (.cons .an (.cons .an (.cons .an .nil))))))))))))))))))))))) (fun hc => have h := bif_f hc h; run_some (F := (fun q => .nx ((fun (s : (List (List Nat))) => ([.any, .own (tH v_hand), .any, .imm (tN v_corners), .imm ((tT (tP tN tN)) v_lines), .val (eW v_web), .imm (tN v_many), .own ((tL (tT tN)) s), .any, .any, .any, .any, .any, .any, .any, .any, .any, .any, .any, .any, .any] : List TL.Sp)) q))) h (Run.le run_nx (.cons .an (.cons .rf (.cons .an (.cons .rf (.cons .rf (.cons .rf (.cons .rf (.cons .rf (.cons .an (.cons .an (.cons .an (.cons .an (.cons .an (.cons .an (.cons .an (.cons .an (.cons .an (.cons .an (.cons .an (.cons .an (.cons .an .nil)))))))))))))))))))))))))
def q_law_turn_24 (v_lines : (List (Nat × Nat))) : (List (Nat × (List Nat))) → (List Nat) → Option ((List (Nat × (List Nat)))) := fun s x => (mapO (fun (a51 : (Nat × Nat)) => (x[a51.1]?).bind fun x52 => (x[a51.2]?).bind fun x53 => some ((!decide (x52 = x53)))) v_lines).bind fun x55 => bif (x55.all id) then (appO s ((x.sum, x))).bind fun x56 => some x56 else some s
theorem tq_law_turn_24 (v_script : List Int) (v_lines : (List (Nat × Nat))) (v_corners : Nat) (v_many : Nat) (v_hand : D) (v_web : W) (v_good : (List (List Nat)))  (w_rows : (List (Nat × (List Nat)))) (x57 : _) (hx57 : p_law_tuples v_corners 1 v_corners = some x57) (r : _) (h : forO (q_law_turn_24 v_lines) x57 w_rows = some r) : Run (s_law_24) [.any, .own (tH v_hand), .any, .imm (tN v_corners), .imm ((tT (tP tN tN)) v_lines), .val (eW v_web), .imm (tN v_many), .own ((tL (tT tN)) v_good), .any, .any, .any, .any, .own ((tL (tP tN (tT tN))) w_rows), .any, .any, .any, .any, .any, .any, .any, .any] ((fun q => .nx ((fun (s : (List (Nat × (List Nat)))) => ([.any, .own (tH v_hand), .any, .imm (tN v_corners), .imm ((tT (tP tN tN)) v_lines), .val (eW v_web), .imm (tN v_many), .own ((tL (tT tN)) v_good), .any, .any, .any, .any, .own ((tL (tP tN (tT tN))) s), .any, .any, .any, .any, .any, .any, .any, .any] : List TL.Sp)) q)) r) := by
  refine' run_for (S := (fun (s : (List (Nat × (List Nat)))) => ([.any, .own (tH v_hand), .any, .imm (tN v_corners), .imm ((tT (tP tN tN)) v_lines), .val (eW v_web), .imm (tN v_many), .own ((tL (tT tN)) v_good), .any, .any, .any, .any, .own ((tL (tP tN (tT tN))) s), .any, .any, .any, .any, .any, .any, .any, .any] : List TL.Sp))) (ea := (tT tN)) ?hw ?hl ?hg ?hb h
  case hw => exact (evI_seqL (ev_call (svs := [.imm (tN v_corners), .imm (tN 1), .imm (tN v_corners)]) (evC_val (ev_imm rfl) .imm (evC_val (ev_as (ev_c _) (tN 1) rfl) .imm (evC_val (ev_imm rfl) .imm evC_nil))) rfl rfl (t_law_tuples v_corners 1 v_corners _ hx57) rfl trivial) .fr rfl)
  case hl => exact (.cons .an (.cons .rf (.cons .an (.cons .rf (.cons .rf (.cons .rf (.cons .rf (.cons .rf (.cons .an (.cons .an (.cons .an (.cons .an (.cons .rf (.cons .an (.cons .an (.cons .an (.cons .an (.cons .an (.cons .an (.cons .an (.cons .an .nil)))))))))))))))))))))
  case hg => exact (fun s x => evG_n)
  case hb => exact (fun s x r h => bndE h fun x55 hx55 h => run_if (evT_t (ev_b1 (ev_lcMO (ea := (tP tN tN)) (eb := tB) hx55 (evI_seqT (ev_imm rfl) .imm rfl) (fun a51 => (evG_t (evGs_cons evG_n (evGs_cons evG_n evGs_nil)) rfl)) (fun _ => rfl) (fun a51 y54 hq => bndE hq fun x52 hx52 hq => bndE hq fun x53 hx53 hq => kept_some (e := tB) hq (kept_imm (ev_bin (ev_bin (ev_imm rfl) (ev_imm rfl) trivial trivial (o_ixT (e := tN) hx52)) (ev_bin (ev_imm rfl) (ev_imm rfl) trivial trivial (o_ixT (e := tN) hx53)) trivial trivial (o_ne nice_N (by decide) x52 x53))))) trivial (o_all _))) (fun hc => have h := bif_t hc h; bndE h fun x56 hx56 h => run_some (F := (fun q => .nx ((fun (s : (List (Nat × (List Nat)))) => ([.any, .own (tH v_hand), .any, .imm (tN v_corners), .imm ((tT (tP tN tN)) v_lines), .val (eW v_web), .imm (tN v_many), .own ((tL (tT tN)) v_good), .any, .any, .any, .any, .own ((tL (tP tN (tT tN))) s), .any, .any, .any, .any, .any, .any, .any, .any] : List TL.Sp)) q))) h (Run.le (run_app (e := (tP tN (tT tN))) hx56 rfl rfl (ev_as (ev_tup (evA_cons (ev_b1 (ev_imm rfl) trivial (o_sumTN _)) .imm (evA_cons (ev_imm rfl) .imm evA_nil))) ((tP tN (tT tN)) (x.sum, x)) rfl) .imm rfl rfl rfl) (.cons .an (.cons .rf (.cons .an (.cons .rf (.cons .rf (.cons .rf (.cons .rf (.cons .rf (.cons .an (.cons .an (.cons .an (.cons .an (.cons .rf (.cons .an (.cons .an (.cons .an (.cons .an (.cons .an (.cons .an (.cons .an (.cons .an .nil))))))))))))))))))))))) (fun hc => have h := bif_f hc h; run_some (F := (fun q => .nx ((fun (s : (List (Nat × (List Nat)))) => ([.any, .own (tH v_hand), .any, .imm (tN v_corners), .imm ((tT (tP tN tN)) v_lines), .val (eW v_web), .imm (tN v_many), .own ((tL (tT tN)) v_good), .any, .any, .any, .any, .own ((tL (tP tN (tT tN))) s), .any, .any, .any, .any, .any, .any, .any, .any] : List TL.Sp)) q))) h (Run.le run_nx (.cons .an (.cons .rf (.cons .an (.cons .rf (.cons .rf (.cons .rf (.cons .rf (.cons .rf (.cons .an (.cons .an (.cons .an (.cons .an (.cons .rf (.cons .an (.cons .an (.cons .an (.cons .an (.cons .an (.cons .an (.cons .an (.cons .an .nil))))))))))))))))))))))))
def q_law_turn_34 (v_far : (List (List (Nat × Nat)))) (v_row : (List Nat)) (v_a : Nat) : Bool → Nat → Option (Bool) := fun s x => (v_far[v_a]?).bind fun x72 => lett (((aGet x x72).getD 99)) fun v73 => (bif s then (bif (!decide (v73 = 1)) then some true else (v_row[v_a]?).bind fun x74 => (v_row[x]?).bind fun x75 => some ((ltN 1 ((((x74 : Int) - (x75 : Int))).natAbs)))).bind fun x76 => (bif x76 then (bif (!decide (v73 = 2)) then some true else (v_row[v_a]?).bind fun x78 => (v_row[x]?).bind fun x79 => some ((!decide (x78 = x79)))).bind fun x80 => some x80 else some false).bind fun x82 => some x82 else some false).bind fun x84 => some x84
theorem tq_law_turn_34 (v_script : List Int) (v_far : (List (List (Nat × Nat)))) (v_row : (List Nat)) (v_a : Nat) (v_corners : Nat) (v_lines : (List (Nat × Nat))) (v_many : Nat) (v_hand : D) (v_web : W) (v_good : (List (List Nat))) (v_most : Nat) (v_rows : (List (Nat × (List Nat))))  (w_fits : Bool) (x86 : _) (hx86 : rg2O ((v_a + 1)) v_corners = some x86) (r : _) (h : forO (q_law_turn_34 v_far v_row v_a) x86 w_fits = some r) : Run (s_law_34) [.any, .own (tH v_hand), .any, .imm (tN v_corners), .imm ((tT (tP tN tN)) v_lines), .val (eW v_web), .imm (tN v_many), .own ((tL (tT tN)) v_good), .imm ((tT tN) v_row), .any, .any, .any, .own ((tL (tP tN (tT tN))) v_rows), .imm (tN v_most), .own ((tL (tD tN tN)) v_far), .imm (tB w_fits), .imm (tN v_a), .any, .any, .any, .any] ((fun q => .nx ((fun (s : Bool) => ([.any, .own (tH v_hand), .any, .imm (tN v_corners), .imm ((tT (tP tN tN)) v_lines), .val (eW v_web), .imm (tN v_many), .own ((tL (tT tN)) v_good), .imm ((tT tN) v_row), .any, .any, .any, .own ((tL (tP tN (tT tN))) v_rows), .imm (tN v_most), .own ((tL (tD tN tN)) v_far), .imm (tB s), .imm (tN v_a), .any, .any, .any, .any] : List TL.Sp)) q)) r) := by
  refine' run_for (S := (fun (s : Bool) => ([.any, .own (tH v_hand), .any, .imm (tN v_corners), .imm ((tT (tP tN tN)) v_lines), .val (eW v_web), .imm (tN v_many), .own ((tL (tT tN)) v_good), .imm ((tT tN) v_row), .any, .any, .any, .own ((tL (tP tN (tT tN))) v_rows), .imm (tN v_most), .own ((tL (tD tN tN)) v_far), .imm (tB s), .imm (tN v_a), .any, .any, .any, .any] : List TL.Sp))) (ea := tN) ?hw ?hl ?hg ?hb h
  case hw => exact (evI_rg2T hx86 (ev_bin (ev_imm rfl) (ev_as (ev_c _) (tN 1) rfl) trivial trivial (o_addN _ _)) (ev_imm rfl))
  case hl => exact (.cons .an (.cons .rf (.cons .an (.cons .rf (.cons .rf (.cons .rf (.cons .rf (.cons .rf (.cons .rf (.cons .an (.cons .an (.cons .an (.cons .rf (.cons .rf (.cons .rf (.cons .rf (.cons .rf (.cons .an (.cons .an (.cons .an (.cons .an .nil)))))))))))))))))))))
  case hg => exact (fun s x => evG_n)
  case hb => exact (fun s x r h => bndE h fun x72 hx72 h => run_let (fun v73 => List.set _ 18 (.imm (tN v73))) (run_setI (ev_get2T keyK_N (ev_bin (ev_var rfl) (ev_imm rfl) (by exact rfl) trivial (o_ixL (e := (tD tN tN)) hx72)) trivial rfl (ev_imm rfl) (ev_as (ev_c _) (tN 99) rfl) trivial)) h fun v73 h => bndE h fun x84 hx84 h => run_some (F := (fun q => .nx ((fun (s : Bool) => ([.any, .own (tH v_hand), .any, .imm (tN v_corners), .imm ((tT (tP tN tN)) v_lines), .val (eW v_web), .imm (tN v_many), .own ((tL (tT tN)) v_good), .imm ((tT tN) v_row), .any, .any, .any, .own ((tL (tP tN (tT tN))) v_rows), .imm (tN v_most), .own ((tL (tD tN tN)) v_far), .imm (tB s), .imm (tN v_a), .any, .any, .any, .any] : List TL.Sp)) q))) h (Run.le (run_setI (ev_andO hx84 (ev_imm rfl) (fun y85 hq => bndE hq fun x76 hx76 hq => bndE hq fun x82 hx82 hq => ev_some (e := tB) hq (ev_andO hx82 (ev_orO hx76 (ev_bin (ev_imm rfl) (ev_as (ev_c _) (tN 1) rfl) trivial trivial (o_ne nice_N (by decide) v73 1)) (fun y77 hq => bndE hq fun x74 hx74 hq => bndE hq fun x75 hx75 hq => ev_some (e := tB) hq (ev_bin (ev_b1 (ev_bin (ev_bin (ev_imm rfl) (ev_imm rfl) trivial trivial (o_ixT (e := tN) hx74)) (ev_bin (ev_imm rfl) (ev_imm rfl) trivial trivial (o_ixT (e := tN) hx75)) trivial trivial (o_subNZ _ _)) trivial (o_absZ _)) (ev_as (ev_c _) (tN 1) rfl) trivial trivial (o_gt cmp_N (by decide) _ _)))) (fun y83 hq => bndE hq fun x80 hx80 hq => ev_some (e := tB) hq (ev_orO hx80 (ev_bin (ev_imm rfl) (ev_as (ev_c _) (tN 2) rfl) trivial trivial (o_ne nice_N (by decide) v73 2)) (fun y81 hq => bndE hq fun x78 hx78 hq => bndE hq fun x79 hx79 hq => ev_some (e := tB) hq (ev_bin (ev_bin (ev_imm rfl) (ev_imm rfl) trivial trivial (o_ixT (e := tN) hx78)) (ev_bin (ev_imm rfl) (ev_imm rfl) trivial trivial (o_ixT (e := tN) hx79)) trivial trivial (o_ne nice_N (by decide) x78 x79))))))))) (.cons .an (.cons .rf (.cons .an (.cons .rf (.cons .rf (.cons .rf (.cons .rf (.cons .rf (.cons .rf (.cons .an (.cons .an (.cons .an (.cons .rf (.cons .rf (.cons .rf (.cons .rf (.cons .rf (.cons .an (.cons .an (.cons .an (.cons .an .nil)))))))))))))))))))))))
def q_law_turn_33 (v_corners : Nat) (v_far : (List (List (Nat × Nat)))) (v_row : (List Nat)) : Bool → Nat → Option (Bool) := fun s x => (rg2O ((x + 1)) v_corners).bind fun x71 => (forO (q_law_turn_34 v_far v_row x) x71 s).bind fun t87 => some t87
theorem tq_law_turn_33 (v_script : List Int) (v_corners : Nat) (v_far : (List (List (Nat × Nat)))) (v_row : (List Nat)) (v_lines : (List (Nat × Nat))) (v_many : Nat) (v_hand : D) (v_web : W) (v_good : (List (List Nat))) (v_most : Nat) (v_rows : (List (Nat × (List Nat))))  (w_fits : Bool) (x88 : _) (hx88 : rgO v_corners = some x88) (r : _) (h : forO (q_law_turn_33 v_corners v_far v_row) x88 w_fits = some r) : Run (s_law_33) [.any, .own (tH v_hand), .any, .imm (tN v_corners), .imm ((tT (tP tN tN)) v_lines), .val (eW v_web), .imm (tN v_many), .own ((tL (tT tN)) v_good), .imm ((tT tN) v_row), .any, .any, .any, .own ((tL (tP tN (tT tN))) v_rows), .imm (tN v_most), .own ((tL (tD tN tN)) v_far), .imm (tB w_fits), .any, .any, .any, .any, .any] ((fun q => .nx ((fun (s : Bool) => ([.any, .own (tH v_hand), .any, .imm (tN v_corners), .imm ((tT (tP tN tN)) v_lines), .val (eW v_web), .imm (tN v_many), .own ((tL (tT tN)) v_good), .imm ((tT tN) v_row), .any, .any, .any, .own ((tL (tP tN (tT tN))) v_rows), .imm (tN v_most), .own ((tL (tD tN tN)) v_far), .imm (tB s), .any, .any, .any, .any, .any] : List TL.Sp)) q)) r) := by
  refine' run_for (S := (fun (s : Bool) => ([.any, .own (tH v_hand), .any, .imm (tN v_corners), .imm ((tT (tP tN tN)) v_lines), .val (eW v_web), .imm (tN v_many), .own ((tL (tT tN)) v_good), .imm ((tT tN) v_row), .any, .any, .any, .own ((tL (tP tN (tT tN))) v_rows), .imm (tN v_most), .own ((tL (tD tN tN)) v_far), .imm (tB s), .any, .any, .any, .any, .any] : List TL.Sp))) (ea := tN) ?hw ?hl ?hg ?hb h
  case hw => exact (evI_rgT hx88 (ev_imm rfl))
  case hl => exact (.cons .an (.cons .rf (.cons .an (.cons .rf (.cons .rf (.cons .rf (.cons .rf (.cons .rf (.cons .rf (.cons .an (.cons .an (.cons .an (.cons .rf (.cons .rf (.cons .rf (.cons .rf (.cons .an (.cons .an (.cons .an (.cons .an (.cons .an .nil)))))))))))))))))))))
  case hg => exact (fun s x => evG_n)
  case hb => exact (fun s x r h => bndE h fun x71 hx71 h => bndE h fun t87 ht h => run_some (F := (fun q => .nx ((fun (s : Bool) => ([.any, .own (tH v_hand), .any, .imm (tN v_corners), .imm ((tT (tP tN tN)) v_lines), .val (eW v_web), .imm (tN v_many), .own ((tL (tT tN)) v_good), .imm ((tT tN) v_row), .any, .any, .any, .own ((tL (tP tN (tT tN))) v_rows), .imm (tN v_most), .own ((tL (tD tN tN)) v_far), .imm (tB s), .any, .any, .any, .any, .any] : List TL.Sp)) q))) h (Run.le (Run.pre (tq_law_turn_34 v_script v_far v_row x v_corners v_lines v_many v_hand v_web v_good v_most v_rows  s x71 hx71 _ ht) (.cons .an (.cons .rf (.cons .an (.cons .rf (.cons .rf (.cons .rf (.cons .rf (.cons .rf (.cons .rf (.cons .an (.cons .an (.cons .an (.cons .rf (.cons .rf (.cons .rf (.cons .rf (.cons .rf (.cons .an (.cons .an (.cons .an (.cons .an .nil)))))))))))))))))))))) (.cons .an (.cons .rf (.cons .an (.cons .rf (.cons .rf (.cons .rf (.cons .rf (.cons .rf (.cons .rf (.cons .an (.cons .an (.cons .an (.cons .rf (.cons .rf (.cons .rf (.cons .rf (.cons .an (.cons .an (.cons .an (.cons .an (.cons .an .nil)))))))))))))))))))))))
def q_law_turn_31 (v_corners : Nat) (v_far : (List (List (Nat × Nat)))) : (List (Nat × (List Nat))) → (List Nat) → Option ((List (Nat × (List Nat)))) := fun s x => (rgO v_corners).bind fun x70 => (forO (q_law_turn_33 v_corners v_far x) x70 true).bind fun t89 => bif t89 then (maxO ltN x).bind fun x90 => (appO s ((x90, x))).bind fun x91 => some x91 else some s
theorem tq_law_turn_31 (v_script : List Int) (v_corners : Nat) (v_far : (List (List (Nat × Nat)))) (v_lines : (List (Nat × Nat))) (v_many : Nat) (v_hand : D) (v_web : W) (v_good : (List (List Nat))) (v_most : Nat)  (w_rows : (List (Nat × (List Nat)))) (x92 : _) (hx92 : p_law_tuples v_corners 0 v_most = some x92) (r : _) (h : forO (q_law_turn_31 v_corners v_far) x92 w_rows = some r) : Run (s_law_31) [.any, .own (tH v_hand), .any, .imm (tN v_corners), .imm ((tT (tP tN tN)) v_lines), .val (eW v_web), .imm (tN v_many), .own ((tL (tT tN)) v_good), .any, .any, .any, .any, .own ((tL (tP tN (tT tN))) w_rows), .imm (tN v_most), .own ((tL (tD tN tN)) v_far), .any, .any, .any, .any, .any, .any] ((fun q => .nx ((fun (s : (List (Nat × (List Nat)))) => ([.any, .own (tH v_hand), .any, .imm (tN v_corners), .imm ((tT (tP tN tN)) v_lines), .val (eW v_web), .imm (tN v_many), .own ((tL (tT tN)) v_good), .any, .any, .any, .any, .own ((tL (tP tN (tT tN))) s), .imm (tN v_most), .own ((tL (tD tN tN)) v_far), .any, .any, .any, .any, .any, .any] : List TL.Sp)) q)) r) := by
  refine' run_for (S := (fun (s : (List (Nat × (List Nat)))) => ([.any, .own (tH v_hand), .any, .imm (tN v_corners), .imm ((tT (tP tN tN)) v_lines), .val (eW v_web), .imm (tN v_many), .own ((tL (tT tN)) v_good), .any, .any, .any, .any, .own ((tL (tP tN (tT tN))) s), .imm (tN v_most), .own ((tL (tD tN tN)) v_far), .any, .any, .any, .any, .any, .any] : List TL.Sp))) (ea := (tT tN)) ?hw ?hl ?hg ?hb h
  case hw => exact (evI_seqL (ev_call (svs := [.imm (tN v_corners), .imm (tN 0), .imm (tN v_most)]) (evC_val (ev_imm rfl) .imm (evC_val (ev_as (ev_c _) (tN 0) rfl) .imm (evC_val (ev_imm rfl) .imm evC_nil))) rfl rfl (t_law_tuples v_corners 0 v_most _ hx92) rfl trivial) .fr rfl)
  case hl => exact (.cons .an (.cons .rf (.cons .an (.cons .rf (.cons .rf (.cons .rf (.cons .rf (.cons .rf (.cons .an (.cons .an (.cons .an (.cons .an (.cons .rf (.cons .rf (.cons .rf (.cons .an (.cons .an (.cons .an (.cons .an (.cons .an (.cons .an .nil)))))))))))))))))))))
  case hg => exact (fun s x => evG_n)
  case hb => exact (fun s x r h => run_seq (run_setI (ev_c _)) (bndE h fun x70 hx70 h => bndE h fun t89 ht h => run_seq (Run.pre (tq_law_turn_33 v_script v_corners v_far x v_lines v_many v_hand v_web v_good v_most s  true x70 hx70 _ ht) (.cons .an (.cons .rf (.cons .an (.cons .rf (.cons .rf (.cons .rf (.cons .rf (.cons .rf (.cons .rf (.cons .an (.cons .an (.cons .an (.cons .rf (.cons .rf (.cons .rf (.cons .rf (.cons .an (.cons .an (.cons .an (.cons .an (.cons .an .nil)))))))))))))))))))))) (run_if (evT_t (ev_imm rfl)) (fun hc => have h := bif_t hc h; bndE h fun x90 hx90 h => bndE h fun x91 hx91 h => run_some (F := (fun q => .nx ((fun (s : (List (Nat × (List Nat)))) => ([.any, .own (tH v_hand), .any, .imm (tN v_corners), .imm ((tT (tP tN tN)) v_lines), .val (eW v_web), .imm (tN v_many), .own ((tL (tT tN)) v_good), .any, .any, .any, .any, .own ((tL (tP tN (tT tN))) s), .imm (tN v_most), .own ((tL (tD tN tN)) v_far), .any, .any, .any, .any, .any, .any] : List TL.Sp)) q))) h (Run.le (run_app (e := (tP tN (tT tN))) hx91 rfl rfl (ev_as (ev_tup (evA_cons (ev_b1 (ev_imm rfl) trivial (o_maxT cmp_N (by decide) hx90)) .imm (evA_cons (ev_imm rfl) .imm evA_nil))) ((tP tN (tT tN)) (x90, x)) rfl) .imm rfl rfl rfl) (.cons .an (.cons .rf (.cons .an (.cons .rf (.cons .rf (.cons .rf (.cons .rf (.cons .rf (.cons .an (.cons .an (.cons .an (.cons .an (.cons .rf (.cons .rf (.cons .rf (.cons .an (.cons .an (.cons .an (.cons .an (.cons .an (.cons .an .nil))))))))))))))))))))))) (fun hc => have h := bif_f hc h; run_some (F := (fun q => .nx ((fun (s : (List (Nat × (List Nat)))) => ([.any, .own (tH v_hand), .any, .imm (tN v_corners), .imm ((tT (tP tN tN)) v_lines), .val (eW v_web), .imm (tN v_many), .own ((tL (tT tN)) v_good), .any, .any, .any, .any, .own ((tL (tP tN (tT tN))) s), .imm (tN v_most), .own ((tL (tD tN tN)) v_far), .any, .any, .any, .any, .any, .any] : List TL.Sp)) q))) h (Run.le run_nx (.cons .an (.cons .rf (.cons .an (.cons .rf (.cons .rf (.cons .rf (.cons .rf (.cons .rf (.cons .an (.cons .an (.cons .an (.cons .an (.cons .rf (.cons .rf (.cons .rf (.cons .an (.cons .an (.cons .an (.cons .an (.cons .an (.cons .an .nil))))))))))))))))))))))))))
def q_law_turn (v_corners : Nat) (v_lines : (List (Nat × Nat))) : Option (Res Unit Bool) := (mkW v_corners v_lines).bind fun x1 => lett (([] : (List (List Nat)))) fun v2 => (p_law_tuples v_corners 0 v_lines.length).bind fun x3 => (forO (q_law_turn_8 v_corners v_lines v_lines.length) x3 v2).bind fun t23 => (p_graceful x1).bind fun x24 => (bif (ltN 0 t23.length) then (t23[0]?).bind fun x25 => some ((some x25)) else some none).bind fun x26 => (bif (!decide (x24 = x26)) then some true else (p_is_tree x1).bind fun x28 => some ((x28 && (decide (t23.length = 0))))).bind fun x29 => bif x29 then some (.ret false) else lett (([] : (List (List Nat)))) fun v31 => (rg2O 1 ((v_lines.length + 1))).bind fun x32 => (p_law_orders x32).bind fun x33 => (forO (q_law_turn_15 v_corners v_lines) x33 v31).bind fun t44 => (p_even_sums x1).bind fun x45 => (bif (ltN 0 t44.length) then (t44[0]?).bind fun x46 => some ((some x46)) else some none).bind fun x47 => bif (!decide (x45 = x47)) then some (.ret false) else lett (([] : (List (Nat × (List Nat))))) fun v49 => (p_law_tuples v_corners 1 v_corners).bind fun x50 => (forO (q_law_turn_24 v_lines) x50 v49).bind fun t58 => (p_least_sum_colours x1).bind fun x59 => (minO (ltPr ltN (ltT ltN)) t58).bind fun x60 => bif (!decide (x59 = (some x60))) then some (.ret false) else (subN ((2 * v_corners)) 2).bind fun x61 => lett (([] : (List (Nat × (List Nat))))) fun v62 => lett x61 fun v63 => (rgO v_corners).bind fun x64 => (mapO (fun (a65 : Nat) => (p_law_steps v_corners v_lines a65).bind fun x66 => some x66) x64).bind fun x68 => (p_law_tuples v_corners 0 v63).bind fun x69 => (forO (q_law_turn_31 v_corners x68) x69 v62).bind fun t93 => (p_difference_colours x1).bind fun x94 => (minO (ltPr ltN (ltT ltN)) t93).bind fun x95 => bif (!decide (x94 = ((fun (p : (Nat × (List Nat))) => (((fun (n : Nat) => (n : Int)) p.1), ((fun (x : (List Nat)) => some x) p.2))) x95))) then some (.ret false) else some (.go ())
theorem t_law_turn (v_hand : D) (v_corners : Nat) (v_lines : (List (Nat × Nat))) (v_script : List Int) (os : List SV) (r : Res Unit Bool) (h : q_law_turn v_corners v_lines = some r) : Run (sSeq s_law_6 (sSeq s_law_7 (sSeq s_law_8 (sSeq s_law_12 (sSeq s_law_14 (sSeq s_law_15 (sSeq s_law_21 (sSeq s_law_23 (sSeq s_law_24 (sSeq s_law_27 (sSeq s_law_29 (sSeq s_law_30 (sSeq s_law_31 s_law_39))))))))))))) [.any, .own (tH v_hand), .any, .imm (tN v_corners), .imm ((tT (tP tN tN)) v_lines), .any, .any, .any, .any, .any, .any, .any, .any, .any, .any, .any, .any, .any, .any, .any, .any] ((PoR (fun (_ : Unit) => ([.any, .own (tH v_hand), .any, .any, .any, .any, .any, .any, .any, .any, .any, .any, .any, .any, .any, .any, .any, .any, .any, .any, .any] : List TL.Sp)) (fun r => rt_law_turn r v_script)) r) :=
  bndE h fun x1 hx1 h => run_seq (run_par (evR_cons (ev_make (z := eW x1) (svs := [.imm (tN v_corners), .imm (tT (tP tN tN) v_lines)]) (evC_val (ev_imm rfl) .imm (evC_val (ev_imm rfl) .imm evC_nil)) rfl rfl (make_W hx1) rfl) .own .own (evR_cons (ev_b1 (ev_imm rfl) trivial (o_lenT _)) .imm .imm evR_nil))) (run_let (fun v2 => List.set _ 7 (.own ((tL (tT tN)) v2))) (run_setO (ev_asO (ev_lst evA_nil) ((tL (tT tN)) ([] : (List (List Nat)))) rfl)) h fun v2 h => bndE h fun x3 hx3 h => bndE h fun t23 ht h => run_seq (Run.pre (tq_law_turn_8 v_script v_corners v_lines v_lines.length v_hand x1  v2 x3 hx3 _ ht) (.cons .an (.cons .rf (.cons .an (.cons .rf (.cons .rf (.cons .rf (.cons .rf (.cons .rf (.cons .an (.cons .an (.cons .an (.cons .an (.cons .an (.cons .an (.cons .an (.cons .an (.cons .an (.cons .an (.cons .an (.cons .an (.cons .an .nil)))))))))))))))))))))) (bndE h fun x24 hx24 h => bndE h fun x26 hx26 h => bndE h fun x29 hx29 h => run_if_seq (evT_orO hx29 (evT_t (ev_bin (ev_call (svs := [.imm (eW x1)]) (evC_val (ev_var rfl) (.vo rfl) evC_nil) rfl rfl (t_graceful x1 _ hx24) rfl trivial) (ev_ifO (tO (tT tN)) hx26 (evT_t (ev_bin (ev_b1 (ev_var rfl) (by exact rfl) (o_lenL _)) (ev_as (ev_c _) (tN 0) rfl) trivial trivial (o_gt cmp_N (by decide) _ _))) (fun y27 hq => bndE hq fun x25 hx25 hq => ev_some hq (ev_as (ev_bin (ev_var rfl) (ev_as (ev_c _) (tN 0) rfl) (by exact rfl) trivial (o_ixL (e := (tT tN)) hx25)) ((tO (tT tN)) ((some x25))) (((fun _ => rfl) x25).symm))) (fun y27 hq => ev_some hq (ev_as (ev_c _) ((tO (tT tN)) none) (((fun _ => rfl) (())).symm)))) trivial trivial (o_ne (nice_O (nice_T nice_N) nn_T) (by decide) x24 x26))) (fun y30 hq => bndE hq fun x28 hx28 hq => evT_some hq (evT_and (evT_t (ev_call (svs := [.imm (eW x1)]) (evC_val (ev_var rfl) (.vv rfl) evC_nil) rfl rfl (t_is_tree x1 _ hx28) rfl trivial)) (evT_t (ev_bin (ev_b1 (ev_var rfl) (by exact rfl) (o_lenL _)) (ev_as (ev_c _) (tN 0) rfl) trivial trivial (o_eq nice_N (by decide) t23.length 0)))))) (fun hc => have h := bif_t hc h; run_some (F := (PoR (fun (_ : Unit) => ([.any, .own (tH v_hand), .any, .any, .any, .any, .any, .any, .any, .any, .any, .any, .any, .any, .any, .any, .any, .any, .any, .any, .any] : List TL.Sp)) (fun r => rt_law_turn r v_script))) h (run_seqR (run_retI (ev_c _) rfl))) (fun hc => have h := bif_f hc h; run_seq run_nx (run_let (fun v31 => List.set _ 7 (.own ((tL (tT tN)) v31))) (run_setO (ev_asO (ev_lst evA_nil) ((tL (tT tN)) ([] : (List (List Nat)))) rfl)) h fun v31 h => bndE h fun x32 hx32 h => bndE h fun x33 hx33 h => bndE h fun t44 ht h => run_seq (Run.pre (tq_law_turn_15 v_script v_corners v_lines v_lines.length v_hand x1  v31 x32 hx32 x33 hx33 _ ht) (.cons .an (.cons .rf (.cons .an (.cons .rf (.cons .rf (.cons .rf (.cons .rf (.cons .rf (.cons .an (.cons .an (.cons .an (.cons .an (.cons .an (.cons .an (.cons .an (.cons .an (.cons .an (.cons .an (.cons .an (.cons .an (.cons .an .nil)))))))))))))))))))))) (bndE h fun x45 hx45 h => bndE h fun x47 hx47 h => run_if_seq (evT_t (ev_bin (ev_call (svs := [.imm (eW x1)]) (evC_val (ev_var rfl) (.vv rfl) evC_nil) rfl rfl (t_even_sums x1 _ hx45) rfl trivial) (ev_ifO (tO (tT tN)) hx47 (evT_t (ev_bin (ev_b1 (ev_var rfl) (by exact rfl) (o_lenL _)) (ev_as (ev_c _) (tN 0) rfl) trivial trivial (o_gt cmp_N (by decide) _ _))) (fun y48 hq => bndE hq fun x46 hx46 hq => ev_some hq (ev_as (ev_bin (ev_var rfl) (ev_as (ev_c _) (tN 0) rfl) (by exact rfl) trivial (o_ixL (e := (tT tN)) hx46)) ((tO (tT tN)) ((some x46))) (((fun _ => rfl) x46).symm))) (fun y48 hq => ev_some hq (ev_as (ev_c _) ((tO (tT tN)) none) (((fun _ => rfl) (())).symm)))) trivial trivial (o_ne (nice_O (nice_T nice_N) nn_T) (by decide) x45 x47))) (fun hc => have h := bif_t hc h; run_some (F := (PoR (fun (_ : Unit) => ([.any, .own (tH v_hand), .any, .any, .any, .any, .any, .any, .any, .any, .any, .any, .any, .any, .any, .any, .any, .any, .any, .any, .any] : List TL.Sp)) (fun r => rt_law_turn r v_script))) h (run_seqR (run_retI (ev_c _) rfl))) (fun hc => have h := bif_f hc h; run_seq run_nx (run_let (fun v49 => List.set _ 12 (.own ((tL (tP tN (tT tN))) v49))) (run_setO (ev_asO (ev_lst evA_nil) ((tL (tP tN (tT tN))) ([] : (List (Nat × (List Nat))))) rfl)) h fun v49 h => bndE h fun x50 hx50 h => bndE h fun t58 ht h => run_seq (Run.pre (tq_law_turn_24 v_script v_lines v_corners v_lines.length v_hand x1 t44  v49 x50 hx50 _ ht) (.cons .an (.cons .rf (.cons .an (.cons .rf (.cons .rf (.cons .rf (.cons .rf (.cons .rf (.cons .an (.cons .an (.cons .an (.cons .an (.cons .rf (.cons .an (.cons .an (.cons .an (.cons .an (.cons .an (.cons .an (.cons .an (.cons .an .nil)))))))))))))))))))))) (bndE h fun x59 hx59 h => bndE h fun x60 hx60 h => run_if_seq (evT_t (ev_bin (ev_call (svs := [.imm (eW x1)]) (evC_val (ev_var rfl) (.vv rfl) evC_nil) rfl rfl (t_least_sum_colours x1 _ hx59) rfl trivial) (ev_as (ev_b1 (ev_var rfl) (by exact rfl) (o_minL (cmp_P cmp_N (cmp_T cmp_N)) (by decide) hx60)) ((tO (tP tN (tT tN))) ((some x60))) (((fun _ => rfl) x60).symm)) trivial trivial (o_ne (nice_O (nice_P nice_N (nice_T nice_N)) nn_P) (by decide) x59 ((some x60))))) (fun hc => have h := bif_t hc h; run_some (F := (PoR (fun (_ : Unit) => ([.any, .own (tH v_hand), .any, .any, .any, .any, .any, .any, .any, .any, .any, .any, .any, .any, .any, .any, .any, .any, .any, .any, .any] : List TL.Sp)) (fun r => rt_law_turn r v_script))) h (run_seqR (run_retI (ev_c _) rfl))) (fun hc => have h := bif_f hc h; run_seq run_nx (bndE h fun x61 hx61 h => run_seq (run_par (evR_cons (ev_asO (ev_lst evA_nil) ((tL (tP tN (tT tN))) ([] : (List (Nat × (List Nat))))) rfl) .own .own (evR_cons (ev_bin (ev_bin (ev_as (ev_c _) (tN 2) rfl) (ev_imm rfl) trivial trivial (o_mulNl _ _)) (ev_as (ev_c _) (tN 2) rfl) trivial trivial (o_subN hx61)) .imm .imm evR_nil))) (lettE h fun h => lettE h fun h => bndE h fun x64 hx64 h => bndE h fun x68 hx68 h => run_seq (run_setO (ev_lcMO (ea := tN) (eb := (tD tN tN)) hx68 (evI_rgT hx64 (ev_imm rfl)) (fun a65 => evG_n) (fun _ => rfl) (fun a65 y67 hq => bndE hq fun x66 hx66 hq => kept_some (e := (tD tN tN)) hq (kept_own (ev_call (svs := [.imm (tN v_corners), .imm ((tT (tP tN tN)) v_lines), .imm (tN a65)]) (evC_val (ev_imm rfl) .imm (evC_val (ev_imm rfl) .imm (evC_val (ev_imm rfl) .imm evC_nil))) rfl rfl (t_law_steps v_corners v_lines a65 _ hx66) rfl trivial))))) (bndE h fun x69 hx69 h => bndE h fun t93 ht h => run_seq (Run.pre (tq_law_turn_31 v_script v_corners x68 v_lines v_lines.length v_hand x1 t44 x61  ([] : (List (Nat × (List Nat)))) x69 hx69 _ ht) (.cons .an (.cons .rf (.cons .an (.cons .rf (.cons .rf (.cons .rf (.cons .rf (.cons .rf (.cons .an (.cons .an (.cons .an (.cons .an (.cons .rf (.cons .rf (.cons .rf (.cons .an (.cons .an (.cons .an (.cons .an (.cons .an (.cons .an .nil)))))))))))))))))))))) (bndE h fun x94 hx94 h => bndE h fun x95 hx95 h => run_if (evT_t (ev_bin (ev_call (svs := [.imm (eW x1)]) (evC_val (ev_var rfl) (.vv rfl) evC_nil) rfl rfl (t_difference_colours x1 _ hx94) rfl trivial) (ev_as (ev_b1 (ev_var rfl) (by exact rfl) (o_minL (cmp_P cmp_N (cmp_T cmp_N)) (by decide) hx95)) ((tP tZ (tO (tT tN))) (((fun (p : (Nat × (List Nat))) => (((fun (n : Nat) => (n : Int)) p.1), ((fun (x : (List Nat)) => some x) p.2))) x95))) (((fun _ => rfl) x95).symm)) trivial trivial (o_ne (nice_P nice_Z (nice_O (nice_T nice_N) nn_T)) (by decide) x94 (((fun (p : (Nat × (List Nat))) => (((fun (n : Nat) => (n : Int)) p.1), ((fun (x : (List Nat)) => some x) p.2))) x95))))) (fun hc => have h := bif_t hc h; run_some (F := (PoR (fun (_ : Unit) => ([.any, .own (tH v_hand), .any, .any, .any, .any, .any, .any, .any, .any, .any, .any, .any, .any, .any, .any, .any, .any, .any, .any, .any] : List TL.Sp)) (fun r => rt_law_turn r v_script))) h (run_retI (ev_c _) rfl)) (fun hc => have h := bif_f hc h; run_some (F := (PoR (fun (_ : Unit) => ([.any, .own (tH v_hand), .any, .any, .any, .any, .any, .any, .any, .any, .any, .any, .any, .any, .any, .any, .any, .any, .any, .any, .any] : List TL.Sp)) (fun r => rt_law_turn r v_script))) h (Run.le run_nx (.cons .an (.cons .rf (.cons .an (.cons .an (.cons .an (.cons .an (.cons .an (.cons .an (.cons .an (.cons .an (.cons .an (.cons .an (.cons .an (.cons .an (.cons .an (.cons .an (.cons .an (.cons .an (.cons .an (.cons .an (.cons .an .nil))))))))))))))))))))))))))))))))))))
-- law (): ('B',)
abbrev rt_law_head : Bool → List Int → Po := fun r v_script => .ret (.imm (tB r)) [.imm (.scr v_script)] [.imm (.scr v_script)]
def q_law_head  : Option (Res Unit Bool) := (mkW 2 ([(0, 1)])).bind fun x1 => (p_graceful x1).bind fun x2 => (bif (!decide (x2 = (some ([0, 1])))) then some true else (mkW 2 ([(0, 1)])).bind fun x3 => (p_even_sums x3).bind fun x4 => some ((!decide (x4 = (some ([1])))))).bind fun x5 => bif x5 then some (.ret false) else some (.go ())
theorem t_law_head (v_hand : D) (v_script : List Int) (os : List SV) (r : Res Unit Bool) (h : q_law_head  = some r) : Run s_law_1 [.any, .own (tH v_hand), .any, .any, .any, .any, .any, .any, .any, .any, .any, .any, .any, .any, .any, .any, .any, .any, .any, .any, .any] ((PoR (fun (_ : Unit) => ([.any, .own (tH v_hand), .any, .any, .any, .any, .any, .any, .any, .any, .any, .any, .any, .any, .any, .any, .any, .any, .any, .any, .any] : List TL.Sp)) (fun r => rt_law_head r v_script)) r) :=
  bndE h fun x1 hx1 h => bndE h fun x2 hx2 h => bndE h fun x5 hx5 h => run_if (evT_orO hx5 (evT_t (ev_bin (ev_call (svs := [.imm (eW x1)]) (evC_val (ev_make (z := eW x1) (svs := [.imm (tN 2), .imm (tT (tP tN tN) ([(0, 1)]))]) (evC_val (ev_as (ev_c _) (tN 2) rfl) .imm (evC_val (ev_as (ev_tup (evA_cons (ev_as (ev_tup (evA_cons (ev_as (ev_c _) (tN 0) rfl) .imm (evA_cons (ev_as (ev_c _) (tN 1) rfl) .imm evA_nil))) ((tP tN tN) (0, 1)) rfl) .imm evA_nil)) ((tT (tP tN tN)) [(0, 1)]) rfl) .imm evC_nil)) rfl rfl (make_W hx1) rfl) .own evC_nil) rfl rfl (t_graceful x1 _ hx2) rfl trivial) (ev_as (ev_as (ev_tup (evA_cons (ev_as (ev_c _) (tN 0) rfl) .imm (evA_cons (ev_as (ev_c _) (tN 1) rfl) .imm evA_nil))) ((tT tN) [0, 1]) rfl) ((tO (tT tN)) ((some ([0, 1])))) (((fun _ => rfl) ([0, 1])).symm)) trivial trivial (o_ne (nice_O (nice_T nice_N) nn_T) (by decide) x2 ((some ([0, 1])))))) (fun y6 hq => bndE hq fun x3 hx3 hq => bndE hq fun x4 hx4 hq => evT_some hq (evT_t (ev_bin (ev_call (svs := [.imm (eW x3)]) (evC_val (ev_make (z := eW x3) (svs := [.imm (tN 2), .imm (tT (tP tN tN) ([(0, 1)]))]) (evC_val (ev_as (ev_c _) (tN 2) rfl) .imm (evC_val (ev_as (ev_tup (evA_cons (ev_as (ev_tup (evA_cons (ev_as (ev_c _) (tN 0) rfl) .imm (evA_cons (ev_as (ev_c _) (tN 1) rfl) .imm evA_nil))) ((tP tN tN) (0, 1)) rfl) .imm evA_nil)) ((tT (tP tN tN)) [(0, 1)]) rfl) .imm evC_nil)) rfl rfl (make_W hx3) rfl) .own evC_nil) rfl rfl (t_even_sums x3 _ hx4) rfl trivial) (ev_as (ev_as (ev_tup (evA_cons (ev_as (ev_c _) (tN 1) rfl) .imm evA_nil)) ((tT tN) [1]) rfl) ((tO (tT tN)) ((some ([1])))) (((fun _ => rfl) ([1])).symm)) trivial trivial (o_ne (nice_O (nice_T nice_N) nn_T) (by decide) x4 ((some ([1])))))))) (fun hc => have h := bif_t hc h; run_some (F := (PoR (fun (_ : Unit) => ([.any, .own (tH v_hand), .any, .any, .any, .any, .any, .any, .any, .any, .any, .any, .any, .any, .any, .any, .any, .any, .any, .any, .any] : List TL.Sp)) (fun r => rt_law_head r v_script))) h (run_retI (ev_c _) rfl)) (fun hc => have h := bif_f hc h; run_some (F := (PoR (fun (_ : Unit) => ([.any, .own (tH v_hand), .any, .any, .any, .any, .any, .any, .any, .any, .any, .any, .any, .any, .any, .any, .any, .any, .any, .any, .any] : List TL.Sp)) (fun r => rt_law_head r v_script))) h (Run.le run_nx (.cons .an (.cons .rf (.cons .an (.cons .an (.cons .an (.cons .an (.cons .an (.cons .an (.cons .an (.cons .an (.cons .an (.cons .an (.cons .an (.cons .an (.cons .an (.cons .an (.cons .an (.cons .an (.cons .an (.cons .an (.cons .an .nil)))))))))))))))))))))))

end LW
namespace LW
open PySem PySem.Spec PyProof.Rows L2 LD
/-! ### plain: a search by prefixes is the first of the lists in order -/
def ext (R : List Nat) : Nat → List Nat → List (List Nat)
  | 0, t => [t]
  | k + 1, t => R.flatMap fun x => ext R k (t ++ [x])
def srch (ok : List Nat → Bool) (R : List Nat) : Nat → List Nat → Option (List Nat)
  | 0, t => if ok t = true then some t else none
  | k + 1, t => if ok t = true then R.findSome? fun x => srch ok R k (t ++ [x]) else none
theorem srch_no {ok : List Nat → Bool} {R : List Nat} : ∀ {k : Nat} {t : List Nat}, ok t = false → srch ok R k t = none
  | 0, t, h => by simp [srch, h]
  | k + 1, t, h => by simp [srch, h]
theorem ext_no {ok : List Nat → Bool} (hd : ∀ t x, ok (t ++ [x]) = true → ok t = true) {R : List Nat} : ∀ {k : Nat} {t : List Nat}, ok t = false → ∀ u ∈ ext R k t, ok u = false
  | 0, t, h, u, hu => by
    simp [ext] at hu
    rw [hu]; exact h
  | k + 1, t, h, u, hu => by
    simp only [ext, List.mem_flatMap] at hu
    obtain ⟨x, hx, hu⟩ := hu
    refine ext_no hd (t := t ++ [x]) ?_ u hu
    cases q : ok (t ++ [x]) with
    | false => rfl
    | true => rw [hd t x q] at h; cases h
theorem srch_find {ok : List Nat → Bool} (hd : ∀ t x, ok (t ++ [x]) = true → ok t = true) {R : List Nat} : ∀ (k : Nat) (t : List Nat), srch ok R k t = (ext R k t).find? ok
  | 0, t => by
    cases q : ok t <;> simp [srch, ext, q]
  | k + 1, t => by
    cases q : ok t with
    | false =>
      rw [srch_no q]
      symm
      rw [List.find?_eq_none]
      intro u hu
      rw [ext_no hd q u hu]
      exact Bool.false_ne_true
    | true =>
      simp only [srch, q, if_true, ext, List.find?_flatMap]
      congr 1
      funext x
      exact srch_find hd k (t ++ [x])
/-- the law's way to make the rows: longer and longer ones -/
def grow (R : List Nat) (A : List (List Nat)) : List (List Nat) := A.flatMap fun r => R.map fun x => r ++ [x]
def grown (R : List Nat) : Nat → List (List Nat) → List (List Nat)
  | 0, A => A
  | k + 1, A => grown R k (grow R A)
theorem grown_ext (R : List Nat) : ∀ (k : Nat) (A : List (List Nat)), grown R k A = A.flatMap (ext R k)
  | 0, A => by simp [grown, ext]
  | k + 1, A => by
    rw [grown, grown_ext R k, grow, List.flatMap_assoc]
    congr 1
    funext r
    rw [List.flatMap_map]
    rfl
theorem grown_nil (R : List Nat) (k : Nat) : grown R k [[]] = ext R k [] := by
  rw [grown_ext]; simp
end LW

namespace LW
open PySem PySem.Spec PyProof.Rows L2 LD TL
/-! what the law asks of a web, in quick words -/
/-- the differences along the lines are unlike, so are the numbers -/
def nodupB : List Nat → Bool
  | [] => true
  | x :: xs => !xs.elem x && nodupB xs
def dif (a b : Nat) : Nat := (a - b) + (b - a)
def difs (row : List Nat) (L : List (Nat × Nat)) : List Nat := L.map fun p => dif (row.getD p.1 0) (row.getD p.2 0)
def good1 (L : List (Nat × Nat)) (row : List Nat) : Bool := nodupB (difs row L) && nodupB row
def rows1 (n m : Nat) : List (List Nat) := ext (List.range' 0 (m + 1)) n []
def sumAt (row : List Nat) (L : List (Nat × Nat)) (c : Nat) : Nat := ((row.zip L).filter fun q => c == q.2.1 || c == q.2.2).foldl (fun s q => s + q.1) 0
def good2 (n : Nat) (L : List (Nat × Nat)) (row : List Nat) : Bool := (List.range n).all fun c => sumAt row L c == sumAt row L 0
def prm (R : List Nat) : Nat → List Nat → List (List Nat)
  | 0, t => [t]
  | k + 1, t => (R.filter fun x => !t.elem x).flatMap fun x => prm R k (t ++ [x])
def rows2 (m : Nat) : List (List Nat) := prm (List.range' 1 m) m []
def good3 (L : List (Nat × Nat)) (row : List Nat) : Bool := L.all fun p => !(row.getD p.1 0 == row.getD p.2 0)
def chk1 (n : Nat) (L : List (Nat × Nat)) : Bool := decide ((mkW n L).bind p_graceful = some ((rows1 n L.length).find? (good1 L)))
def chk2 (n : Nat) (L : List (Nat × Nat)) : Bool := decide ((mkW n L).bind p_even_sums = some ((rows2 L.length).find? (good2 n L)))
def best3 (n : Nat) (L : List (Nat × Nat)) : Option (Nat × List Nat) := minO (ltPr ltN (ltT ltN)) (((ext (List.range' 1 n) n []).filter (good3 L)).map fun row => (row.sum, row))
def chk3 (n : Nat) (L : List (Nat × Nat)) : Bool := match best3 n L with
  | some p => decide ((mkW n L).bind p_least_sum_colours = some (some p))
  | none => false
/-- the pairs of corners, with how far they are apart -/
def cons (n : Nat) (L : List (Nat × Nat)) : List (Nat × Nat × Nat) := (List.range n).flatMap fun a => (List.range' (a + 1) (n - (a + 1))).map fun b => (a, b, ((p_law_steps n L a).map fun d => (aGet b d).getD 99).getD 99)
def okC (row : List Nat) (c : Nat × Nat × Nat) : Bool := bif c.2.2 == 1 then Nat.blt 1 (dif (row.getD c.1 0) (row.getD c.2.1 0)) else bif c.2.2 == 2 then !(row.getD c.1 0 == row.getD c.2.1 0) else true
def good4 (C : List (Nat × Nat × Nat)) (row : List Nat) : Bool := C.all (okC row)
/-- .. as far as a row's beginning tells -/
def okQ (C : List (Nat × Nat × Nat)) (t : List Nat) : Bool := C.all fun c => bif Nat.blt c.2.1 t.length then okC t c else true
def extP (ok : List Nat → Bool) (R : List Nat) : Nat → List Nat → List (List Nat)
  | 0, t => bif ok t then [t] else []
  | k + 1, t => bif ok t then R.flatMap fun x => extP ok R k (t ++ [x]) else []
def best4 (n : Nat) (C : List (Nat × Nat × Nat)) : Option (Nat × List Nat) := minO (ltPr ltN (ltT ltN)) ((extP (okQ C) (List.range' 0 (2 * n - 1)) n []).map fun row => ((maxO ltN row).getD 0, row))
def chk4 (n : Nat) (L : List (Nat × Nat)) : Bool := match best4 n (cons n L) with
  | some p => decide ((mkW n L).bind p_difference_colours = some ((p.1 : Int), some p.2))
  | none => false
def chk6 (n : Nat) (L : List (Nat × Nat)) : Bool := (mapO (fun a => p_law_steps n L a) (List.range n)).isSome
def chk5 (n : Nat) (L : List (Nat × Nat)) : Bool := decide ((mkW n L).bind p_is_tree = some false) || (decide ((mkW n L).bind p_is_tree = some true) && ((rows1 n L.length).find? (good1 L)).isSome)
end LW

namespace LW
open PySem PySem.Spec PyProof.Rows L2 LD TL
/-! the law's loops, in plain words -/
theorem catO_one {α : Type} (x : List α) (a : α) (h : x.length < 1000) : catO x [a] = some (x ++ [a]) := by
  unfold catO
  rw [if_pos (by rw [sizeLine_eq]; show _ + 1 ≤ _; omega)]
theorem extO_some {α : Type} (s x : List α) (h : s.length + x.length ≤ sizeLine) : extO s x = some (s ++ x) := by
  unfold extO
  rw [if_pos h]
theorem appO_some {α : Type} (s : List α) (x : α) (h : s.length < sizeLine) : appO s x = some (s ++ [x]) := by
  unfold appO
  rw [if_pos h]
theorem rgO_some (n : Nat) (h : n ≤ 16777216) : rgO n = some (List.range n) := by unfold rgO; rw [if_pos h]
theorem rg2O_some (a b : Nat) (h : a ≤ 16777216) (h2 : b ≤ 16777216) : rg2O a b = some (List.range' a (b - a)) := by unfold rg2O; rw [if_pos ⟨h, h2⟩]
theorem grow_len (R : List Nat) : ∀ A : List (List Nat), (grow R A).length = A.length * R.length
  | [] => by simp [grow]
  | r :: A => by
    have ih := grow_len R A
    unfold grow at *
    rw [List.flatMap_cons, List.length_append, List.length_map, ih, List.length_cons, Nat.succ_mul]
    omega
theorem step_tuples {lo hi : Nat} {s : List (List Nat)} {x : List Nat} (h1 : lo ≤ 1000) (h2 : hi ≤ 1000) (hx : x.length < 1000) (hs : s.length + (hi + 1 - lo) ≤ sizeLine) : q_law_tuples_3 lo hi s x = some (s ++ (List.range' lo (hi + 1 - lo)).map fun a => x ++ [a]) := by
  unfold q_law_tuples_3
  rw [rg2O_some _ _ (by omega) (by omega)]
  dsimp only [Option.bind_some]
  rw [mapO_some (fun a => x ++ [a]) _ fun a _ => by rw [catO_one x a hx]; rfl]
  dsimp only [Option.bind_some]
  rw [extO_some _ _ (by rw [List.length_map, List.length_range']; exact hs)]
  rfl
theorem grow_step {lo hi : Nat} {v : Nat} {A : List (List Nat)} (h1 : lo ≤ 1000) (h2 : hi ≤ 1000) (hA : ∀ x ∈ A, x.length < 1000) (hs : A.length * (hi + 1 - lo) ≤ 100000) : q_law_tuples_1 lo hi A v = some (grow (List.range' lo (hi + 1 - lo)) A) := by
  unfold q_law_tuples_1 lett
  dsimp only
  have hg : (A.flatMap fun x => (List.range' lo (hi + 1 - lo)).map fun a => x ++ [a]).length = A.length * (hi + 1 - lo) := by
    have := grow_len (List.range' lo (hi + 1 - lo)) A
    rw [List.length_range'] at this
    exact this
  rw [forO_ext (fun x => (List.range' lo (hi + 1 - lo)).map fun a => x ++ [a]) A [] (by rw [hg, sizeLine_eq]; show 0 + _ ≤ _; omega) fun x hx s hs' => step_tuples h1 h2 (hA x hx) (by rw [List.length_map, List.length_range'] at hs'; exact hs')]
  rfl
theorem mem_grow {R : List Nat} {A : List (List Nat)} {x : List Nat} (h : x ∈ grow R A) : ∃ r ∈ A, ∃ a ∈ R, x = r ++ [a] := by
  unfold grow at h
  obtain ⟨r, hr, h⟩ := List.mem_flatMap.mp h
  obtain ⟨a, ha, rfl⟩ := List.mem_map.mp h
  exact ⟨r, hr, a, ha, rfl⟩
theorem tuples_loop {lo hi : Nat} (h1 : lo ≤ 1000) (h2 : hi ≤ 1000) : ∀ (xs : List Nat) (A : List (List Nat)) (k : Nat), (∀ x ∈ A, x.length ≤ k) → k + xs.length < 1000 → A.length * (hi + 1 - lo) ^ xs.length ≤ 100000 → 1 ≤ hi + 1 - lo →
    forO (q_law_tuples_1 lo hi) xs A = some (grown (List.range' lo (hi + 1 - lo)) xs.length A)
  | [], A, k, _, _, _, _ => rfl
  | v :: xs, A, k, hA, hk, hs, hp => by
    rw [List.length_cons] at hk hs ⊢
    have hpos : 1 ≤ (hi + 1 - lo) ^ xs.length := Nat.one_le_pow _ _ hp
    have e1 : A.length * (hi + 1 - lo) ≤ 100000 := by
      refine Nat.le_trans ?_ hs
      rw [Nat.pow_succ, Nat.mul_comm ((hi + 1 - lo) ^ xs.length), ← Nat.mul_assoc]
      exact Nat.le_mul_of_pos_right _ hpos
    rw [forO, grow_step h1 h2 (fun x hx => by have := hA x hx; omega) e1]
    show forO _ xs (grow _ A) = _
    refine tuples_loop h1 h2 xs _ (k + 1) (fun x hx => ?_) (by omega) ?_ hp
    · obtain ⟨r, hr, a, _, rfl⟩ := mem_grow hx
      have := hA r hr
      rw [List.length_append]
      show _ + 1 ≤ _
      omega
    · rw [grow_len, List.length_range', Nat.mul_assoc, Nat.mul_comm (hi + 1 - lo), ← Nat.pow_succ]
      exact hs
theorem e_tuples {n lo hi : Nat} (h1 : lo ≤ 1000) (h2 : hi ≤ 1000) (hn : n < 1000) (hs : (hi + 1 - lo) ^ n ≤ 100000) (hp : 1 ≤ hi + 1 - lo) : p_law_tuples n lo hi = some (ext (List.range' lo (hi + 1 - lo)) n []) := by
  unfold p_law_tuples lett
  rw [rgO_some n (by omega)]
  dsimp only [Option.bind_some]
  rw [tuples_loop h1 h2 (List.range n) [[]] 0 (fun x hx => by simp at hx; rw [hx]; exact Nat.le_refl _) (by rw [List.length_range]; omega) (by rw [List.length_range]; show 1 * _ ≤ _; omega) hp, List.length_range, grown_nil]
  rfl
theorem ext_len {R : List Nat} : ∀ {k : Nat} {t u : List Nat}, u ∈ ext R k t → u.length = t.length + k
  | 0, t, u, h => by simp [ext] at h; rw [h]; rfl
  | k + 1, t, u, h => by
    simp only [ext, List.mem_flatMap] at h
    obtain ⟨x, _, h⟩ := h
    have := ext_len h
    rw [List.length_append] at this
    have e : [x].length = 1 := rfl
    omega
theorem ext_cnt (R : List Nat) : ∀ (k : Nat) (t : List Nat), (ext R k t).length = R.length ^ k
  | 0, t => rfl
  | k + 1, t => by
    have : ∀ (S : List Nat) (t : List Nat), (S.flatMap fun x => ext R k (t ++ [x])).length = S.length * R.length ^ k := fun S t => by
      induction S with
      | nil => simp
      | cons x S ih => rw [List.flatMap_cons, List.length_append, ext_cnt R k, ih, List.length_cons, Nat.succ_mul]; omega
    rw [ext, this, Nat.pow_succ, Nat.mul_comm]
/-! ### unlike ones -/
theorem nodupB_iff : ∀ xs : List Nat, nodupB xs = true ↔ xs.Nodup
  | [] => by simp [nodupB]
  | x :: xs => by
    rw [nodupB, Bool.and_eq_true, nodupB_iff xs, List.nodup_cons]
    simp
theorem dups_le : ∀ (n : Nat) (xs : List Nat), xs.length ≤ n → xs.eraseDups.length ≤ xs.length ∧ (xs.eraseDups.length = xs.length → xs.Nodup)
  | _, [], _ => by simp
  | 0, x :: xs, h => by simp at h
  | n + 1, x :: xs, h => by
    rw [List.length_cons] at h
    have hl := List.length_filter_le (fun b => !b == x) xs
    obtain ⟨a, b⟩ := dups_le n (xs.filter fun b => !b == x) (by omega)
    rw [List.eraseDups_cons, List.length_cons, List.length_cons]
    refine ⟨by omega, fun e => ?_⟩
    have e2 : (xs.filter fun b => !b == x).length = xs.length := by omega
    have e3 : (xs.filter fun b => !b == x) = xs := List.filter_eq_self.mpr (List.length_filter_eq_length_iff.mp e2)
    rw [e3] at b e
    refine List.nodup_cons.mpr ⟨fun hx => ?_, b (by omega)⟩
    have := List.length_filter_eq_length_iff.mp e2 x hx
    simp at this
theorem dups_nodup : ∀ (n : Nat) (xs : List Nat), xs.length ≤ n → xs.Nodup → xs.eraseDups = xs
  | _, [], _, _ => by simp
  | 0, x :: xs, h, _ => by simp at h
  | n + 1, x :: xs, h, q => by
    obtain ⟨q1, q2⟩ := List.nodup_cons.mp q
    have e3 : (xs.filter fun b => !b == x) = xs := List.filter_eq_self.mpr fun y hy => by
      have : ¬ y = x := fun e => q1 (e ▸ hy)
      simp [this]
    rw [List.eraseDups_cons, e3, dups_nodup n xs (by simp at h; omega) q2]
theorem nDist_iff (xs : List Nat) : decide (nDist xs = xs.length) = nodupB xs := by
  unfold nDist
  cases e : nodupB xs with
  | true =>
    have := (nodupB_iff xs).mp e
    rw [dups_nodup _ xs (Nat.le_refl _) this]
    simp
  | false =>
    refine decide_eq_false fun h => ?_
    have := (dups_le _ xs (Nat.le_refl _)).2 h
    rw [(nodupB_iff xs).mpr this] at e; cases e
/-! ### the first list -/
theorem get_D {row : List Nat} {i : Nat} (h : i < row.length) : row[i]? = some (row.getD i 0) := by
  rw [List.getD_eq_getElem?_getD, List.getElem?_eq_getElem h]
  rfl
theorem natAbs_dif (a b : Nat) : ((a : Int) - (b : Int)).natAbs = dif a b := by unfold dif; omega
theorem lines_le {n : Nat} (hn : n ≤ 7) {L : List (Nat × Nat)} (h : okL n L) : L.length ≤ 21 := by
  have := (okL_sub hn h).length_le
  have h2 : (pairsK n).length ≤ 21 := List.length_filter_le _ _
  omega
theorem e_turn8 {n : Nat} {L : List (Nat × Nat)} (hn : n ≤ 7) (hL : okL n L) {row : List Nat} (hr : row.length = n) {s : List (List Nat)} (hs : s.length < sizeLine) : q_law_turn_8 n L L.length s row = some (bif good1 L row then s ++ [row] else s) := by
  have hlen := lines_le hn hL
  have e1 : ∀ p ∈ L, row[p.1]? = some (row.getD p.1 0) ∧ row[p.2]? = some (row.getD p.2 0) := fun p hp => by
    obtain ⟨a, b⟩ := hL.1 p hp
    exact ⟨get_D (by omega), get_D (by omega)⟩
  unfold q_law_turn_8
  rw [mapO_some (fun p => dif (row.getD p.1 0) (row.getD p.2 0)) L fun p hp => by
    rw [(e1 p hp).1]; dsimp only [Option.bind_some]; rw [(e1 p hp).2]; dsimp only [Option.bind_some]; rw [natAbs_dif]]
  dsimp only [Option.bind_some]
  have e2 : lenSetO (L.map fun p => dif (row.getD p.1 0) (row.getD p.2 0)) = some (nDist (difs row L)) := by
    unfold lenSetO
    rw [if_pos (by rw [List.length_map]; omega)]
    rfl
  rw [e2]
  dsimp only [Option.bind_some, lett]
  have e3 : decide (nDist (difs row L) = L.length) = nodupB (difs row L) := by
    have := nDist_iff (difs row L)
    unfold difs at this ⊢
    rw [List.length_map] at this
    exact this
  rw [e3]
  have e4 : lenSetO row = some (nDist row) := by
    unfold lenSetO
    rw [if_pos (by omega)]
  rw [e4]
  dsimp only [Option.bind_some]
  have e5 : decide (nDist row = n) = nodupB row := by rw [← hr]; exact nDist_iff row
  rw [e5]
  rw [mapO_some (fun p => decide (row.getD p.1 0 = row.getD p.2 0)) L fun p hp => by
    rw [(e1 p hp).1]; dsimp only [Option.bind_some]; rw [(e1 p hp).2]; rfl]
  dsimp only [Option.bind_some]
  unfold good1
  cases q1 : nodupB (difs row L) with
  | false => rfl
  | true =>
    cases q2 : nodupB row with
    | false => rfl
    | true =>
      have h1 := (nodupB_iff row).mp q2
      have h2 : ((L.map fun p => decide (row.getD p.1 0 = row.getD p.2 0)).any id) = false := by
        rw [List.any_eq_false]
        intro b hb
        obtain ⟨p, hp, rfl⟩ := List.mem_map.mp hb
        obtain ⟨a, c⟩ := hL.1 p hp
        intro hh
        have hh := of_decide_eq_true hh
        rw [List.getD_eq_getElem?_getD, List.getD_eq_getElem?_getD, List.getElem?_eq_getElem (by omega), List.getElem?_eq_getElem (by omega)] at hh
        have hh2 : row[p.1] = row[p.2] := hh
        exact List.pairwise_iff_getElem.mp h1 p.1 p.2 (by omega) (by omega) a hh2
      rw [h2]
      dsimp only [cond_true, Option.bind_some, Bool.not_false]
      rw [appO_some _ _ hs]
      rfl
theorem head_find {α : Type} (p : α → Bool) : ∀ xs : List α, (bif ltN 0 (xs.filter p).length then ((xs.filter p)[0]?).bind fun x => some (some x) else some none) = some (xs.find? p)
  | [] => rfl
  | x :: xs => by
    rw [List.filter_cons, List.find?_cons]
    cases q : p x with
    | true => rfl
    | false => exact head_find p xs
/-! ### the second -/
theorem prm_mem {R : List Nat} : ∀ {k : Nat} {t u : List Nat}, u ∈ prm R k t → u.length = t.length + k
  | 0, t, u, h => by simp [prm] at h; rw [h]; rfl
  | k + 1, t, u, h => by
    simp only [prm, List.mem_flatMap] at h
    obtain ⟨x, _, h⟩ := h
    have := prm_mem h
    rw [List.length_append] at this
    have e : [x].length = 1 := rfl
    omega
def growO (R : List Nat) (A : List (List Nat)) : List (List Nat) := A.flatMap fun r => (R.filter fun x => !r.elem x).map fun x => r ++ [x]
def grownO (R : List Nat) : Nat → List (List Nat) → List (List Nat)
  | 0, A => A
  | k + 1, A => grownO R k (growO R A)
theorem grownO_prm (R : List Nat) : ∀ (k : Nat) (A : List (List Nat)), grownO R k A = A.flatMap (prm R k)
  | 0, A => by simp [grownO, prm]
  | k + 1, A => by
    rw [grownO, grownO_prm R k, growO, List.flatMap_assoc]
    congr 1
    funext r
    rw [List.flatMap_map]
    rfl
theorem growO_len (R : List Nat) : ∀ A : List (List Nat), (growO R A).length ≤ A.length * R.length
  | [] => by simp [growO]
  | r :: A => by
    have ih := growO_len R A
    unfold growO at *
    rw [List.flatMap_cons, List.length_append, List.length_map, List.length_cons, Nat.succ_mul]
    have := List.length_filter_le (fun x => !r.elem x) R
    omega
theorem elem_dec (a : Nat) (l : List Nat) : decide (a ∈ l) = l.elem a := by
  by_cases h : a ∈ l
  · rw [decide_eq_true h, List.elem_eq_true_of_mem h]
  · rw [decide_eq_false h]
    cases e : l.elem a with
    | false => rfl
    | true => exact absurd (List.mem_of_elem_eq_true e) h
theorem step_orders {R : List Nat} {s : List (List Nat)} {x : List Nat} (hx : x.length < 1000) (hs : s.length + ((R.filter fun a => !x.elem a).map fun a => x ++ [a]).length ≤ sizeLine) : q_law_orders_3 R s x = some (s ++ (R.filter fun a => !x.elem a).map fun a => x ++ [a]) := by
  unfold q_law_orders_3
  rw [compO_some (fun a => !x.elem a) (fun a => x ++ [a]) R (fun a _ => by rw [elem_dec]) fun a _ _ => by rw [catO_one x a hx]; rfl]
  dsimp only [Option.bind_some]
  rw [extO_some _ _ hs]
  rfl
theorem growO_step {R : List Nat} {v : Nat} {A : List (List Nat)} (hA : ∀ x ∈ A, x.length < 1000) (hs : A.length * R.length ≤ 100000) : q_law_orders_1 R A v = some (growO R A) := by
  unfold q_law_orders_1 lett
  dsimp only
  have hg := growO_len R A
  unfold growO at hg
  rw [forO_ext (fun x => (R.filter fun a => !x.elem a).map fun a => x ++ [a]) A [] (by rw [sizeLine_eq]; show 0 + _ ≤ _; omega) fun x hx s hs' => step_orders (hA x hx) hs']
  rfl
theorem orders_loop {R : List Nat} (hR : 1 ≤ R.length) : ∀ (xs : List Nat) (A : List (List Nat)) (k : Nat), (∀ x ∈ A, x.length ≤ k) → k + xs.length < 1000 → A.length * R.length ^ xs.length ≤ 100000 → forO (q_law_orders_1 R) xs A = some (grownO R xs.length A)
  | [], A, k, _, _, _ => rfl
  | v :: xs, A, k, hA, hk, hs => by
    rw [List.length_cons] at hk hs ⊢
    have hpos : 1 ≤ R.length ^ xs.length := Nat.one_le_pow _ _ hR
    have e1 : A.length * R.length ≤ 100000 := by
      refine Nat.le_trans ?_ hs
      rw [Nat.pow_succ, Nat.mul_comm (R.length ^ xs.length), ← Nat.mul_assoc]
      exact Nat.le_mul_of_pos_right _ hpos
    rw [forO, growO_step (fun x hx => by have := hA x hx; omega) e1]
    show forO _ xs (growO _ A) = _
    refine orders_loop hR xs _ (k + 1) (fun x hx => ?_) (by omega) ?_
    · unfold growO at hx
      obtain ⟨r, hr, hx⟩ := List.mem_flatMap.mp hx
      obtain ⟨a, _, rfl⟩ := List.mem_map.mp hx
      have := hA r hr
      rw [List.length_append]
      show _ + 1 ≤ _
      omega
    · refine Nat.le_trans (Nat.mul_le_mul_right _ (growO_len R A)) ?_
      rw [Nat.mul_assoc, Nat.mul_comm R.length, ← Nat.pow_succ]
      exact hs
theorem e_orders {m : Nat} (hm : m ≤ 6) : p_law_orders (List.range' 1 m) = some (rows2 m) := by
  unfold p_law_orders lett
  rw [List.length_range', rgO_some m (by omega)]
  dsimp only [Option.bind_some]
  cases m with
  | zero => rfl
  | succ m =>
    have hp : (m + 1) ^ (m + 1) ≤ 100000 := by
      have : m = 0 ∨ m = 1 ∨ m = 2 ∨ m = 3 ∨ m = 4 ∨ m = 5 := by omega
      rcases this with rfl | rfl | rfl | rfl | rfl | rfl <;> decide
    rw [orders_loop (by rw [List.length_range']; omega) (List.range (m + 1)) [[]] 0 (fun x hx => by simp at hx; rw [hx]; exact Nat.le_refl _) (by rw [List.length_range]; omega) (by rw [List.length_range, List.length_range']; show 1 * _ ≤ _; omega), List.length_range, grownO_prm]
    simp [rows2]
theorem sum_fold (f : α → Nat) : ∀ (xs : List α) (s : Nat), xs.foldl (fun s q => s + f q) s = s + (xs.map f).sum
  | [], s => by simp
  | x :: xs, s => by rw [List.foldl_cons, sum_fold f xs, List.map_cons, List.sum_cons]; omega
theorem e_sumAt (row : List Nat) (L : List (Nat × Nat)) (c : Nat) : ((((row.zip L).filter fun (a : Nat × (Nat × Nat)) => (decide (c = a.2.1) || decide (c = a.2.2))).map fun (a : Nat × (Nat × Nat)) => a.1).sum) = sumAt row L c := by
  unfold sumAt
  rw [sum_fold (fun q : Nat × (Nat × Nat) => q.1), Nat.zero_add]
  congr 2
theorem e_sums {n : Nat} (hn : n ≤ 7) (L : List (Nat × Nat)) (row : List Nat) : forO (q_law_turn_17 L row) (List.range n) [] = some ((List.range n).map (sumAt row L)) := by
  rw [forO_app (fun _ => true) (sumAt row L) (List.range n) [] (by rw [List.length_range, sizeLine_eq]; show 0 + n < _; omega) fun c _ s hs => ?_]
  · rw [List.filter_eq_self.mpr (fun _ _ => rfl)]
    rfl
  · unfold q_law_turn_17
    rw [e_sumAt, appO_some _ _ hs]
    rfl
theorem dist_one {x : Nat} : ∀ (xs : List Nat), decide (nDist (x :: xs) = 1) = xs.all fun y => y == x
  | xs => by
    unfold nDist
    rw [List.eraseDups_cons, List.length_cons]
    cases e : xs.all fun y => y == x with
    | true =>
      have : (xs.filter fun b => !b == x) = [] := List.filter_eq_nil_iff.mpr fun y hy => by
        have := List.all_eq_true.mp e y hy
        simp [this]
      rw [this]
      rfl
    | false =>
      refine decide_eq_false fun h => ?_
      have h1 : (xs.filter fun b => !b == x).eraseDups = [] := List.eq_nil_of_length_eq_zero (Nat.succ.inj h)
      obtain ⟨y, hy, hyx⟩ := List.all_eq_false.mp e
      have h2 : y ∈ (xs.filter fun b => !b == x).eraseDups := by
        rw [List.mem_eraseDups, List.mem_filter]
        exact ⟨hy, by simpa using hyx⟩
      rw [h1] at h2
      cases h2
theorem e_turn15 {n : Nat} {L : List (Nat × Nat)} (h1 : 1 ≤ n) (hn : n ≤ 7) {row : List Nat} {s : List (List Nat)} (hs : s.length < sizeLine) : q_law_turn_15 n L s row = some (bif good2 n L row then s ++ [row] else s) := by
  unfold q_law_turn_15 lett
  rw [rgO_some n (by omega)]
  dsimp only [Option.bind_some]
  rw [e_sums hn]
  dsimp only [Option.bind_some]
  have e4 : lenSetO ((List.range n).map (sumAt row L)) = some (nDist ((List.range n).map (sumAt row L))) := by
    unfold lenSetO
    rw [if_pos (by rw [List.length_map, List.length_range]; omega)]
  rw [e4]
  dsimp only [Option.bind_some]
  have e5 : decide (nDist ((List.range n).map (sumAt row L)) = 1) = good2 n L row := by
    obtain ⟨m, rfl⟩ : ∃ m, n = m + 1 := ⟨n - 1, by omega⟩
    unfold good2
    rw [List.range_succ_eq_map, List.map_cons, dist_one, List.all_cons, beq_self_eq_true, Bool.true_and, List.all_map]
    rfl
  rw [e5, appO_some _ _ hs]
  cases good2 n L row <;> rfl
/-! ### the third -/
theorem e_turn24 {n : Nat} {L : List (Nat × Nat)} (hL : okL n L) {row : List Nat} (hr : row.length = n) {s : List (Nat × List Nat)} (hs : s.length < sizeLine) : q_law_turn_24 L s row = some (bif good3 L row then s ++ [(row.sum, row)] else s) := by
  have e1 : ∀ p ∈ L, row[p.1]? = some (row.getD p.1 0) ∧ row[p.2]? = some (row.getD p.2 0) := fun p hp => by
    obtain ⟨a, b⟩ := hL.1 p hp
    exact ⟨get_D (by omega), get_D (by omega)⟩
  unfold q_law_turn_24
  rw [mapO_some (fun p => !(row.getD p.1 0 == row.getD p.2 0)) L fun p hp => by
    rw [(e1 p hp).1]; dsimp only [Option.bind_some]; rw [(e1 p hp).2]; rfl]
  dsimp only [Option.bind_some]
  rw [List.all_map, appO_some _ _ hs]
  show (bif good3 L row then _ else _) = _
  cases good3 L row <;> rfl
end LW

namespace LW
open PySem PySem.Spec PyProof.Rows L2 LD TL
/-! the fourth -/
theorem mapO_at {α β : Type} {f : α → Option β} : ∀ {xs : List α} {ys : List β}, mapO f xs = some ys → ∀ (i : Nat) (x : α), xs[i]? = some x → ∃ y, ys[i]? = some y ∧ f x = some y
  | [], _, _, i, x, e => by simp at e
  | z :: xs, ys, h, i, x, e => by
    unfold mapO at h
    refine bndE h fun y hy h => bndE h fun zs hz h => ?_
    cases h
    cases i with
    | zero => simp at e; subst e; exact ⟨y, rfl, hy⟩
    | succ i => exact mapO_at hz i x (by simpa using e)
def apart (n : Nat) (L : List (Nat × Nat)) (a b : Nat) : Nat := ((p_law_steps n L a).map fun d => (aGet b d).getD 99).getD 99
theorem e_turn34 {n : Nat} {L : List (Nat × Nat)} {far : List (List (Nat × Nat))} (hf : mapO (fun a => p_law_steps n L a) (List.range n) = some far) {row : List Nat} (hr : row.length = n) {a b : Nat} (ha : a < n) (hb : b < n) (s : Bool) :
    q_law_turn_34 far row a s b = some (s && okC row (a, b, apart n L a b)) := by
  obtain ⟨d, h1, h2⟩ := mapO_at hf a a (by rw [List.getElem?_range ha])
  unfold q_law_turn_34
  rw [h1]
  dsimp only [Option.bind_some, lett]
  have e1 : (aGet b d).getD 99 = apart n L a b := by
    unfold apart
    rw [h2]
    rfl
  rw [e1, get_D (show a < row.length by omega), get_D (show b < row.length by omega)]
  try dsimp only [Option.bind_some]
  rw [natAbs_dif]
  cases s with
  | false => rfl
  | true =>
    unfold okC
    dsimp only [cond_true]
    generalize row.getD a 0 = u
    generalize row.getD b 0 = v
    have hlt : ltN 1 (dif u v) = Nat.blt 1 (dif u v) := by
      unfold ltN
      by_cases h : 1 < dif u v
      · rw [decide_eq_true h]; exact (Nat.ble_eq_true_of_le h).symm
      · rw [decide_eq_false h]
        cases e : Nat.blt 1 (dif u v) with
        | false => rfl
        | true => exact absurd (Nat.le_of_ble_eq_true e) h
    by_cases q1 : apart n L a b = 1
    · rw [q1]
      show Option.bind _ _ = some (true && Nat.blt 1 _)
      rw [hlt]
      cases q2 : Nat.blt 1 (dif u v) <;> simp [q2]
    · by_cases q2 : apart n L a b = 2
      · rw [q2]
        show Option.bind _ _ = some (true && !(u == v))
        by_cases q3 : u = v <;> simp [q3]
      · have h3 : (apart n L a b == 1) = false := beq_eq_false_iff_ne.mpr q1
        have h4 : (apart n L a b == 2) = false := beq_eq_false_iff_ne.mpr q2
        simp [q1, q2, h3, h4]
theorem forO_and {α : Type} {f : Bool → α → Option Bool} (p : α → Bool) : ∀ (xs : List α) (s : Bool), (∀ x ∈ xs, ∀ s, f s x = some (s && p x)) → forO f xs s = some (s && xs.all p)
  | [], s, _ => by simp [forO]
  | x :: xs, s, h => by
    rw [forO, h x (List.mem_cons_self ..)]
    show forO f xs _ = _
    rw [forO_and p xs _ fun y hy => h y (List.mem_cons_of_mem _ hy), List.all_cons, Bool.and_assoc]
theorem e_turn33 {n : Nat} (hn : n ≤ 7) {L : List (Nat × Nat)} {far : List (List (Nat × Nat))} (hf : mapO (fun a => p_law_steps n L a) (List.range n) = some far) {row : List Nat} (hr : row.length = n) {a : Nat} (ha : a < n) (s : Bool) :
    q_law_turn_33 n far row s a = some (s && (List.range' (a + 1) (n - (a + 1))).all fun b => okC row (a, b, apart n L a b)) := by
  unfold q_law_turn_33
  rw [rg2O_some _ _ (by omega) (by omega)]
  try dsimp only [Option.bind_some]
  rw [forO_and (fun b => okC row (a, b, apart n L a b)) _ _ fun b hb s => e_turn34 hf hr ha (by have := List.mem_range'_1.mp hb; omega) s]
  rfl
theorem all_flatMap' {α β : Type} (p : β → Bool) (f : α → List β) : ∀ xs : List α, (xs.flatMap f).all p = xs.all fun x => (f x).all p
  | [] => rfl
  | x :: xs => by rw [List.flatMap_cons, List.all_append, all_flatMap' p f xs, List.all_cons]
theorem max_some {row : List Nat} (h : 1 ≤ row.length) : maxO ltN row = some ((maxO ltN row).getD 0) := by
  cases row with
  | nil => simp at h
  | cons x xs => rfl
theorem e_turn31 {n : Nat} (h1 : 1 ≤ n) (hn : n ≤ 7) {L : List (Nat × Nat)} {far : List (List (Nat × Nat))} (hf : mapO (fun a => p_law_steps n L a) (List.range n) = some far) {row : List Nat} (hr : row.length = n) {s : List (Nat × List Nat)} (hs : s.length < sizeLine) :
    q_law_turn_31 n far s row = some (bif good4 (cons n L) row then s ++ [((maxO ltN row).getD 0, row)] else s) := by
  unfold q_law_turn_31
  rw [rgO_some n (by omega)]
  try dsimp only [Option.bind_some]
  rw [forO_and (fun a => (List.range' (a + 1) (n - (a + 1))).all fun b => okC row (a, b, apart n L a b)) _ _ fun a ha s => e_turn33 hn hf hr (List.mem_range.mp ha) s]
  try dsimp only [Option.bind_some]
  have e : (true && (List.range n).all fun a => (List.range' (a + 1) (n - (a + 1))).all fun b => okC row (a, b, apart n L a b)) = good4 (cons n L) row := by
    unfold good4 cons
    rw [Bool.true_and, all_flatMap']
    congr 1
    funext a
    rw [List.all_map]
    rfl
  rw [e, max_some (by omega)]
  try dsimp only [Option.bind_some]
  rw [appO_some _ _ hs]
  cases good4 (cons n L) row <;> rfl
/-! rows by their beginnings -/
theorem extP_no {ok : List Nat → Bool} (hd : ∀ t x, ok (t ++ [x]) = true → ok t = true) {R : List Nat} : ∀ (k : Nat) (t : List Nat), extP ok R k t = (ext R k t).filter ok
  | 0, t => by
    cases q : ok t <;> simp [ext, extP, q]
  | k + 1, t => by
    cases q : ok t with
    | false =>
      have : (ext R (k + 1) t).filter ok = [] := List.filter_eq_nil_iff.mpr fun u hu => by rw [ext_no hd q u hu]; exact Bool.false_ne_true
      rw [this]
      unfold extP
      rw [q]
      rfl
    | true =>
      unfold extP ext
      rw [q, cond_true, List.filter_flatMap]
      congr 1
      funext x
      exact extP_no hd k (t ++ [x])
theorem okC_app {t : List Nat} {x : Nat} {c : Nat × Nat × Nat} (h1 : c.1 < c.2.1) (h2 : c.2.1 < t.length) : okC (t ++ [x]) c = okC t c := by
  have e : ∀ i, i < t.length → (t ++ [x]).getD i 0 = t.getD i 0 := fun i hi => by
    rw [List.getD_eq_getElem?_getD, List.getD_eq_getElem?_getD, List.getElem?_append_left hi]
  unfold okC
  rw [e _ h2, e c.1 (by omega)]
theorem cons_mem {n : Nat} {L : List (Nat × Nat)} {c : Nat × Nat × Nat} (h : c ∈ cons n L) : c.1 < c.2.1 ∧ c.2.1 < n := by
  unfold cons at h
  obtain ⟨a, ha, h⟩ := List.mem_flatMap.mp h
  obtain ⟨b, hb, rfl⟩ := List.mem_map.mp h
  have := List.mem_range'_1.mp hb
  have := List.mem_range.mp ha
  show a < b ∧ b < n
  omega
theorem okP_her {n : Nat} {L : List (Nat × Nat)} (t : List Nat) (x : Nat) (h : okQ (cons n L) (t ++ [x]) = true) : okQ (cons n L) t = true := by
  unfold okQ at *
  rw [List.all_eq_true] at *
  intro c hc
  have h1 := h c hc
  obtain ⟨m1, m2⟩ := cons_mem hc
  cases q : Nat.blt c.2.1 t.length with
  | false => rfl
  | true =>
    have hl : c.2.1 < t.length := Nat.le_of_ble_eq_true q
    have q2 : Nat.blt c.2.1 (t ++ [x]).length = true := Nat.ble_eq_true_of_le (by rw [List.length_append]; show _ + 1 ≤ _ + 1; omega)
    rw [q2, cond_true, okC_app m1 hl] at h1
    exact h1
theorem okP_full {n : Nat} {L : List (Nat × Nat)} {row : List Nat} (hr : row.length = n) : okQ (cons n L) row = good4 (cons n L) row := by
  unfold okQ good4
  have : ∀ (C : List (Nat × Nat × Nat)), (∀ c ∈ C, c.2.1 < n) → (C.all fun c => bif Nat.blt c.2.1 row.length then okC row c else true) = C.all (okC row) := fun C hC => by
    induction C with
    | nil => rfl
    | cons c C ih =>
      rw [List.all_cons, List.all_cons, ih fun d hd => hC d (List.mem_cons_of_mem _ hd)]
      have q2 : Nat.blt c.2.1 row.length = true := Nat.ble_eq_true_of_le (by have := hC c (List.mem_cons_self ..); omega)
      rw [q2]
      rfl
  exact this _ fun c hc => (cons_mem hc).2
theorem e_best4 (n : Nat) (L : List (Nat × Nat)) : minO (ltPr ltN (ltT ltN)) (((ext (List.range' 0 (2 * n - 1)) n []).filter (good4 (cons n L))).map fun row => ((maxO ltN row).getD 0, row)) = best4 n (cons n L) := by
  unfold best4
  rw [extP_no okP_her]
  congr 2
  refine List.filter_congr fun row hr => ?_
  have := ext_len hr
  exact (okP_full (by simpa using this)).symm
/-! ### every web -/
theorem c1 : allSub (pairsK 1) (fun L => chk1 1 L && chk2 1 L && chk3 1 L && chk4 1 L && chk5 1 L && chk6 1 L) = true := by decide +kernel
theorem c2 : allSub (pairsK 2) (fun L => chk1 2 L && chk2 2 L && chk3 2 L && chk4 2 L && chk5 2 L && chk6 2 L) = true := by decide +kernel
theorem c3 : allSub (pairsK 3) (fun L => chk1 3 L && chk2 3 L && chk3 3 L && chk4 3 L && chk5 3 L && chk6 3 L) = true := by decide +kernel
theorem c41 : allSub (pairsK 4) (chk1 4) = true := by decide +kernel
theorem c42 : allSub (pairsK 4) (chk2 4) = true := by decide +kernel
theorem c43 : allSub (pairsK 4) (chk3 4) = true := by decide +kernel
theorem c44 : allSub (pairsK 4) (chk4 4) = true := by decide +kernel
theorem c45 : allSub (pairsK 4) (chk5 4) = true := by decide +kernel
theorem c46 : allSub (pairsK 4) (chk6 4) = true := by decide +kernel
theorem all_chk {n : Nat} (h1 : 1 ≤ n) (h4 : n ≤ 4) {L : List (Nat × Nat)} (hL : okL n L) : chk1 n L = true ∧ chk2 n L = true ∧ chk3 n L = true ∧ chk4 n L = true ∧ chk5 n L = true ∧ chk6 n L = true := by
  have : n = 1 ∨ n = 2 ∨ n = 3 ∨ n = 4 := by omega
  rcases this with rfl | rfl | rfl | rfl
  · simpa [Bool.and_eq_true, and_assoc] using allWebs (by omega) c1 hL
  · simpa [Bool.and_eq_true, and_assoc] using allWebs (by omega) c2 hL
  · simpa [Bool.and_eq_true, and_assoc] using allWebs (by omega) c3 hL
  · exact ⟨allWebs (by omega) c41 hL, allWebs (by omega) c42 hL, allWebs (by omega) c43 hL, allWebs (by omega) c44 hL, allWebs (by omega) c45 hL, allWebs (by omega) c46 hL⟩
theorem lines6 {n : Nat} (h4 : n ≤ 4) {L : List (Nat × Nat)} (hL : okL n L) : L.length ≤ 6 := by
  have h := (okL_sub (show n ≤ 7 by omega) hL).length_le
  have h2 : ∀ n, n < 5 → (pairsK n).length ≤ 6 := by decide +kernel
  have := h2 n (by omega)
  omega
theorem small_pow {a b : Nat} (h1 : a ≤ 7) (h2 : b ≤ 4) : a ^ b ≤ 100000 := by
  have h3 : ∀ a, a < 8 → ∀ b, b < 5 → a ^ b ≤ 100000 := by decide
  exact h3 a (by omega) b (by omega)
theorem filt_len {α : Type} (p : α → Bool) (xs : List α) : (xs.filter p).length ≤ xs.length := List.length_filter_le _ _
theorem turn_go {n : Nat} (h1 : 1 ≤ n) (h4 : n ≤ 4) {L : List (Nat × Nat)} (hL : okL n L) : q_law_turn n L = some (.go ()) := by
  obtain ⟨k1, k2, k3, k4, k5, k6⟩ := all_chk h1 h4 hL
  have h6 := lines6 h4 hL
  have h7 : n ≤ 7 := by omega
  unfold q_law_turn
  rw [mkW_some ⟨h1, h7⟩ hL]
  unfold chk1 at k1
  unfold chk2 at k2
  unfold chk3 at k3
  unfold chk4 at k4
  unfold chk5 at k5
  unfold chk6 at k6
  rw [mkW_some ⟨h1, h7⟩ hL] at k1 k2 k3 k4 k5
  obtain ⟨w, hw⟩ : ∃ w, w = (⟨n, L, ⟨h1, h7⟩, hL⟩ : W) := ⟨_, rfl⟩
  rw [← hw] at k1 k2 k3 k4 k5 ⊢
  try dsimp only [Option.bind_some] at k1 k2 k3 k4 k5 ⊢
  have k1 := of_decide_eq_true k1
  have k2 := of_decide_eq_true k2
  dsimp only [lett]
  -- the first
  have s1 : (ext (List.range' 0 (L.length + 1 - 0)) n []).length ≤ 100000 := by rw [ext_cnt, List.length_range']; exact small_pow (by omega) h4
  rw [e_tuples (by omega) (by omega) (by omega) (by exact small_pow (by omega) h4) (by omega)]
  try dsimp only [Option.bind_some]
  rw [forO_app (good1 L) (fun row => row) _ [] (by rw [sizeLine_eq]; show 0 + _ < _; omega) fun row hr s hs => e_turn8 h7 hL (by have := ext_len hr; simpa using this) hs]
  try dsimp only [Option.bind_some]
  rw [List.map_id', List.nil_append, k1]
  try dsimp only [Option.bind_some]
  rw [head_find]
  have er : rows1 n L.length = ext (List.range' 0 (L.length + 1 - 0)) n [] := rfl
  rw [← er]
  try dsimp only [Option.bind_some]
  rw [decide_eq_true rfl]
  have t1 : ∃ b, p_is_tree w = some b ∧ (b && decide (((rows1 n L.length).filter (good1 L)).length = 0)) = false := by
    rw [Bool.or_eq_true] at k5
    rcases k5 with k5 | k5
    · exact ⟨false, of_decide_eq_true k5, rfl⟩
    · rw [Bool.and_eq_true] at k5
      refine ⟨true, of_decide_eq_true k5.1, ?_⟩
      rw [Bool.true_and]
      refine decide_eq_false fun h => ?_
      have h2 := List.eq_nil_of_length_eq_zero h
      have h3 := List.head?_filter (p := good1 L) (l := rows1 n L.length)
      rw [h2] at h3
      have h5 := k5.2
      rw [← h3] at h5
      cases h5
  obtain ⟨b, tb, tf⟩ := t1
  rw [tb]
  try simp only [Bool.not_true, cond_false, Option.bind_some]
  rw [tf]
  simp only [Bool.not_true, cond_false, Option.bind_some]
  -- the second
  rw [rg2O_some _ _ (by omega) (by omega)]
  try dsimp only [Option.bind_some]
  rw [show L.length + 1 - 1 = L.length by omega, e_orders h6]
  try dsimp only [Option.bind_some]
  have s2 : (rows2 L.length).length ≤ 100000 := by
    have : ∀ m, m < 7 → (rows2 m).length ≤ 100000 := by decide +kernel
    exact this _ (by omega)
  rw [forO_app (good2 n L) (fun row => row) _ [] (by rw [sizeLine_eq]; show 0 + _ < _; omega) fun row hr s hs => e_turn15 h1 h7 hs]
  try dsimp only [Option.bind_some]
  rw [List.map_id', List.nil_append, k2]
  try dsimp only [Option.bind_some]
  rw [head_find]
  try dsimp only [Option.bind_some]
  rw [decide_eq_true rfl]
  simp only [Bool.not_true, cond_false]
  -- the third
  have s3 : (ext (List.range' 1 (n + 1 - 1)) n []).length ≤ 100000 := by rw [ext_cnt, List.length_range']; exact small_pow (by omega) h4
  rw [e_tuples (by omega) (by omega) (by omega) (by exact small_pow (by omega) h4) (by omega)]
  try dsimp only [Option.bind_some]
  rw [forO_app (good3 L) (fun row => (row.sum, row)) _ [] (by rw [sizeLine_eq]; show 0 + _ < _; omega) fun row hr s hs => e_turn24 hL (by have := ext_len hr; simpa using this) hs]
  try dsimp only [Option.bind_some]
  rw [List.nil_append]
  have e3 : minO (ltPr ltN (ltT ltN)) (((ext (List.range' 1 (n + 1 - 1)) n []).filter (good3 L)).map fun row => (row.sum, row)) = best3 n L := rfl
  rw [e3]
  cases b3 : best3 n L with
  | none => rw [b3] at k3; cases k3
  | some p3 =>
    rw [b3] at k3
    have k3 := of_decide_eq_true k3
    rw [k3]
    dsimp only [Option.bind_some]
    rw [decide_eq_true rfl]
    simp only [Bool.not_true, cond_false]
    -- the fourth
    have e2n : subN (2 * n) 2 = some (2 * n - 2) := by unfold subN; rw [if_pos (by omega)]
    rw [e2n]
    dsimp only [Option.bind_some]
    rw [rgO_some n (by omega)]
    dsimp only [Option.bind_some]
    have em : (mapO (fun a => (p_law_steps n L a).bind fun x => some x) (List.range n)) = mapO (fun a => p_law_steps n L a) (List.range n) := by
      congr 1
      funext a
      cases p_law_steps n L a <;> rfl
    rw [em]
    cases hf : mapO (fun a => p_law_steps n L a) (List.range n) with
    | none => rw [hf] at k6; cases k6
    | some far =>
      dsimp only [Option.bind_some]
      have en : 2 * n - 2 + 1 - 0 = 2 * n - 1 := by omega
      have s4 : (ext (List.range' 0 (2 * n - 2 + 1 - 0)) n []).length ≤ 100000 := by rw [ext_cnt, List.length_range']; exact small_pow (by omega) h4
      rw [e_tuples (by omega) (by omega) (by omega) (by exact small_pow (by omega) h4) (by omega)]
      dsimp only [Option.bind_some]
      rw [forO_app (good4 (cons n L)) (fun row => ((maxO ltN row).getD 0, row)) _ [] (by rw [sizeLine_eq]; show 0 + _ < _; omega) fun row hr s hs => e_turn31 h1 h7 hf (by have := ext_len hr; simpa using this) hs]
      dsimp only [Option.bind_some]
      rw [List.nil_append, en]
      have e4 : minO (ltPr ltN (ltT ltN)) (((ext (List.range' 0 (2 * n - 1)) n []).filter (good4 (cons n L))).map fun row => ((maxO ltN row).getD 0, row)) = best4 n (cons n L) := e_best4 n L
      rw [e4]
      cases b4 : best4 n (cons n L) with
      | none => rw [b4] at k4; cases k4
      | some p4 =>
        rw [b4] at k4
        have k4 := of_decide_eq_true k4
        rw [k4]
        dsimp only [Option.bind_some]
        rw [decide_eq_true rfl]
        rfl
theorem head_go : q_law_head = some (.go ()) := of_isGo (by decide +kernel)
end LW

namespace LW
open PySem PySem.Spec PyProof.Rows L2 LD TL
def Sh (d : D) : List TL.Sp := [.any, .own d, .any, .any, .any, .any, .any, .any, .any, .any, .any, .any, .any, .any, .any, .any, .any, .any, .any, .any, .any]
theorem les_any : ∀ (ps : List TL.Sp), Les ps (List.replicate ps.length .any)
  | [] => .nil
  | _ :: ps => .cons .an (les_any ps)
/-- one turn -/
theorem law_turn (ns : List Int) (d : D) (hd : isHand d) (x : Nat) : ∃ d', isHand d' ∧ Run (sSeq s_law_4 (sSeq s_law_5 (sSeq s_law_6 (sSeq s_law_7 (sSeq s_law_8 (sSeq s_law_12 (sSeq s_law_14 (sSeq s_law_15 (sSeq s_law_21 (sSeq s_law_23 (sSeq s_law_24 (sSeq s_law_27 (sSeq s_law_29 (sSeq s_law_30 (sSeq s_law_31 s_law_39))))))))))))))) ((Sh d).set 2 (.imm (tN x))) (.nx (Sh d')) := by
  obtain ⟨r, d1, hr, hd1, e1⟩ := ev_draw (ps := (Sh d).set 2 (.imm (tN x))) (i := 1) (a := mC (.int 4)) hd rfl (ev_as (ev_c _) (tN 4) rfl) (by omega) (by omega)
  have r1 : Run s_law_4 ((Sh d).set 2 (.imm (tN x))) (.nx ((((Sh d).set 2 (.imm (tN x))).set 1 (.own d1)).set 3 (.imm (tN (1 + r))))) :=
    run_setI (ev_bin (ev_as (ev_c _) (tN 1) rfl) e1 trivial trivial (o_addN _ _))
  obtain ⟨L, d2, hL, hd2, e2⟩ := ev_linesD (ps := (((Sh d).set 2 (.imm (tN x))).set 1 (.own d1)).set 3 (.imm (tN (1 + r)))) (i := 1) (a := mVar 3) (n := 1 + r) hd1 rfl (ev_imm rfl) (by omega)
  have r2 := run_setI (i := 4) e2
  have r3 := t_law_turn d2 (1 + r) L ns [] (.go ()) (turn_go (by omega) (by omega) hL)
  refine ⟨d2, hd2, run_seq r1 (run_seq r2 (Run.pre r3 ?_))⟩
  exact .cons .an (.cons .rf (.cons .an (.cons .rf (.cons .rf (les_any _)))))
theorem law_true (ns : List Int) : ∃ os, m_law [.imm (.scr ns)] = some (.imm (.bl true), os) := by
  obtain ⟨d, hd, e0⟩ := fr_hand ns
  have r0 : Run s_law_0 [.imm (.scr ns), .any, .any, .any, .any, .any, .any, .any, .any, .any, .any, .any, .any, .any, .any, .any, .any, .any, .any, .any, .any] (.nx [.imm (.scr ns), .own d, .any, .any, .any, .any, .any, .any, .any, .any, .any, .any, .any, .any, .any, .any, .any, .any, .any, .any, .any]) :=
    run_setO (ev_call (svs := [.imm (.scr ns)]) (evC_val (ev_imm rfl) .imm evC_nil) rfl rfl e0 rfl trivial)
  have r1 : Run s_law_1 [.imm (.scr ns), .own d, .any, .any, .any, .any, .any, .any, .any, .any, .any, .any, .any, .any, .any, .any, .any, .any, .any, .any, .any] (.nx (Sh d)) :=
    Run.pre (t_law_head d ns [] (.go ()) head_go) (.cons .an (.cons .rf (les_any _)))
  obtain ⟨d', hd', r3⟩ := run_forInv (w := wRng1 (aCons (mC (.int 3)) aNil)) (g := gN 2) (ps := Sh d) (S := Sh) isHand hd (evI_rgT (n := 3) rfl (ev_as (ev_c _) (tN 3) rfl)) (Les.refl _) (fun s x => evG_n) fun s x _ hs => law_turn ns s hs x
  have r4 : Run s_law_41 (Sh d') (.ret (.imm (.bl true)) [.imm (.scr ns)] [.imm (.scr ns)]) := run_retI (ev_c _) rfl
  have fr : FR m_law [.imm (.scr ns)] (.imm (.bl true)) [.imm (.scr ns)] := fn_run (n := 21) (body := b_law) (ps := [.imm (.scr ns), .any, .any, .any, .any, .any, .any, .any, .any, .any, .any, .any, .any, .any, .any, .any, .any, .any, .any, .any, .any]) rfl (run_seq r0 (run_seq r1 (run_seq r3 r4)))
  obtain ⟨r, h1, h2⟩ := fr
  exact ⟨_, by rw [h1, show r = _ from h2]⟩
end LW

namespace LW
open PySem PySem.Spec PyProof.Rows L2 LD
theorem all_mk {l : PySem.W.OpenLaw} {w : World} {K : PySem.W.Frag} {h : Heap} {mg : Str → Option Value} {fa C f0 f1 f2 f3 f4 f5 f6 f7 f8 f9 f10 f11 f12 f13 f14 f15 f16 f17 f18 f19 f20 f21 f22 f23 f24 f25 f26 f27 f28 f29 f30 f31 f32 f33 : Addr} (X : K.In h) (G : h.Ns mainGlobals mg) (hfa : mg "law" = some (.ref fa))
    {od0 an0 od1 an1 od2 an2 od3 an3 od4 an4 od5 an5 od6 an6 od7 an7 od8 an8 od9 an9 od10 an10 od11 an11 od12 an12 od13 an13 od14 an14 od15 an15 od16 an16 od17 an17 od18 an18 od19 an19 od20 an20 od21 an21 od22 an22 od23 an23 od24 an24 od25 an25 od26 an26 od27 an27 od28 an28 od29 an29 od30 an30 od31 an31 od32 an32 od33 an33 : Option Addr} {sl0 sl1 sl2 sl3 sl4 sl5 sl6 sl7 sl8 sl9 sl10 sl11 sl12 sl13 sl14 sl15 sl16 sl17 sl18 sl19 sl20 sl21 sl22 sl23 sl24 sl25 sl26 sl27 sl28 sl29 sl30 sl31 sl32 sl33 : Array (Option Value)} {oc0 kV0 dc0 pm0 cd0 ct0 oc1 kV1 dc1 pm1 cd1 ct1 oc2 kV2 dc2 pm2 cd2 ct2 oc3 kV3 dc3 pm3 cd3 ct3 oc4 kV4 dc4 pm4 cd4 ct4 oc5 kV5 dc5 pm5 cd5 ct5 oc6 kV6 dc6 pm6 cd6 ct6 oc7 kV7 dc7 pm7 cd7 ct7 oc8 kV8 dc8 pm8 cd8 ct8 oc9 kV9 dc9 pm9 cd9 ct9 oc10 kV10 dc10 pm10 cd10 ct10 oc11 kV11 dc11 pm11 cd11 ct11 oc12 kV12 dc12 pm12 cd12 ct12 oc13 kV13 dc13 pm13 cd13 ct13 oc14 kV14 dc14 pm14 cd14 ct14 oc15 kV15 dc15 pm15 cd15 ct15 oc16 kV16 dc16 pm16 cd16 ct16 oc17 kV17 dc17 pm17 cd17 ct17 oc18 kV18 dc18 pm18 cd18 ct18 oc19 kV19 dc19 pm19 cd19 ct19 oc20 kV20 dc20 pm20 cd20 ct20 oc21 kV21 dc21 pm21 cd21 ct21 oc22 kV22 dc22 pm22 cd22 ct22 oc23 kV23 dc23 pm23 cd23 ct23 oc24 kV24 dc24 pm24 cd24 ct24 oc25 kV25 dc25 pm25 cd25 ct25 oc26 kV26 dc26 pm26 cd26 ct26 oc27 kV27 dc27 pm27 cd27 ct27 oc28 kV28 dc28 pm28 cd28 ct28 oc29 kV29 dc29 pm29 cd29 ct29 oc30 kV30 dc30 pm30 cd30 ct30 oc31 kV31 dc31 pm31 cd31 ct31 oc32 kV32 dc32 pm32 cd32 ct32 oc33 kV33 dc33 pm33 cd33 ct33 : Value} {tMOST_CORNERS tMOST_GRACEFUL tMOST_SUMMED : Tok}
    (a0 : PySem.W.nsIn K mainGlobals "_law_hand" = some (some (.ref f0)))
    (l0 : K.lookup f0 = some ⟨oc0, od0, .func (PySem.W.fnOf "_law_hand" "_law_hand" (defArgs st_law_hand) (defBody st_law_hand) (defScope st_law_hand) .none kV0 dc0 pm0 an0 cd0 ct0), sl0⟩) (c0 : PySem.W.codeIn K cd0 "_law_hand" = true) (k0 : PySem.W.keepIn K (.ref f0) = true)
    (a1 : PySem.W.nsIn K mainGlobals "_law_draw" = some (some (.ref f1)))
    (l1 : K.lookup f1 = some ⟨oc1, od1, .func (PySem.W.fnOf "_law_draw" "_law_draw" (defArgs st_law_draw) (defBody st_law_draw) (defScope st_law_draw) .none kV1 dc1 pm1 an1 cd1 ct1), sl1⟩) (c1 : PySem.W.codeIn K cd1 "_law_draw" = true) (k1 : PySem.W.keepIn K (.ref f1) = true)
    (a2 : PySem.W.nsIn K mainGlobals "_law_pairs" = some (some (.ref f2)))
    (l2 : K.lookup f2 = some ⟨oc2, od2, .func (PySem.W.fnOf "_law_pairs" "_law_pairs" (defArgs st_law_pairs) (defBody st_law_pairs) (defScope st_law_pairs) .none kV2 dc2 pm2 an2 cd2 ct2), sl2⟩) (c2 : PySem.W.codeIn K cd2 "_law_pairs" = true) (k2 : PySem.W.keepIn K (.ref f2) = true)
    (a3 : PySem.W.nsIn K mainGlobals "_law_lines" = some (some (.ref f3)))
    (l3 : K.lookup f3 = some ⟨oc3, od3, .func (PySem.W.fnOf "_law_lines" "_law_lines" (defArgs st_law_lines) (defBody st_law_lines) (defScope st_law_lines) .none kV3 dc3 pm3 an3 cd3 ct3), sl3⟩) (c3 : PySem.W.codeIn K cd3 "_law_lines" = true) (k3 : PySem.W.keepIn K (.ref f3) = true)
    (a4 : PySem.W.nsIn K mainGlobals "_law_tuples" = some (some (.ref f4)))
    (l4 : K.lookup f4 = some ⟨oc4, od4, .func (PySem.W.fnOf "_law_tuples" "_law_tuples" (defArgs st_law_tuples) (defBody st_law_tuples) (defScope st_law_tuples) .none kV4 dc4 pm4 an4 cd4 ct4), sl4⟩) (c4 : PySem.W.codeIn K cd4 "_law_tuples" = true) (k4 : PySem.W.keepIn K (.ref f4) = true)
    (a5 : PySem.W.nsIn K mainGlobals "_law_orders" = some (some (.ref f5)))
    (l5 : K.lookup f5 = some ⟨oc5, od5, .func (PySem.W.fnOf "_law_orders" "_law_orders" (defArgs st_law_orders) (defBody st_law_orders) (defScope st_law_orders) .none kV5 dc5 pm5 an5 cd5 ct5), sl5⟩) (c5 : PySem.W.codeIn K cd5 "_law_orders" = true) (k5 : PySem.W.keepIn K (.ref f5) = true)
    (a6 : PySem.W.nsIn K mainGlobals "differences" = some (some (.ref f6)))
    (l6 : K.lookup f6 = some ⟨oc6, od6, .func (PySem.W.fnOf "differences" "differences" (defArgs st_differences) (defBody st_differences) (defScope st_differences) .none kV6 dc6 pm6 an6 cd6 ct6), sl6⟩) (c6 : PySem.W.codeIn K cd6 "differences" = true) (k6 : PySem.W.keepIn K (.ref f6) = true)
    (a7 : PySem.W.nsIn K mainGlobals "graceful_on" = some (some (.ref f7)))
    (l7 : K.lookup f7 = some ⟨oc7, od7, .func (PySem.W.fnOf "graceful_on" "graceful_on" (defArgs st_graceful_on) (defBody st_graceful_on) (defScope st_graceful_on) .none kV7 dc7 pm7 an7 cd7 ct7), sl7⟩) (c7 : PySem.W.codeIn K cd7 "graceful_on" = true) (k7 : PySem.W.keepIn K (.ref f7) = true)
    (a8 : PySem.W.nsIn K mainGlobals "graceful" = some (some (.ref f8)))
    (l8 : K.lookup f8 = some ⟨oc8, od8, .func (PySem.W.fnOf "graceful" "graceful" (defArgs st_graceful) (defBody st_graceful) (defScope st_graceful) .none kV8 dc8 pm8 an8 cd8 ct8), sl8⟩) (c8 : PySem.W.codeIn K cd8 "graceful" = true) (k8 : PySem.W.keepIn K (.ref f8) = true)
    (a9 : PySem.W.nsIn K mainGlobals "sums_at" = some (some (.ref f9)))
    (l9 : K.lookup f9 = some ⟨oc9, od9, .func (PySem.W.fnOf "sums_at" "sums_at" (defArgs st_sums_at) (defBody st_sums_at) (defScope st_sums_at) .none kV9 dc9 pm9 an9 cd9 ct9), sl9⟩) (c9 : PySem.W.codeIn K cd9 "sums_at" = true) (k9 : PySem.W.keepIn K (.ref f9) = true)
    (a10 : PySem.W.nsIn K mainGlobals "summed_on" = some (some (.ref f10)))
    (l10 : K.lookup f10 = some ⟨oc10, od10, .func (PySem.W.fnOf "summed_on" "summed_on" (defArgs st_summed_on) (defBody st_summed_on) (defScope st_summed_on) .none kV10 dc10 pm10 an10 cd10 ct10), sl10⟩) (c10 : PySem.W.codeIn K cd10 "summed_on" = true) (k10 : PySem.W.keepIn K (.ref f10) = true)
    (a11 : PySem.W.nsIn K mainGlobals "even_sums" = some (some (.ref f11)))
    (l11 : K.lookup f11 = some ⟨oc11, od11, .func (PySem.W.fnOf "even_sums" "even_sums" (defArgs st_even_sums) (defBody st_even_sums) (defScope st_even_sums) .none kV11 dc11 pm11 an11 cd11 ct11), sl11⟩) (c11 : PySem.W.codeIn K cd11 "even_sums" = true) (k11 : PySem.W.keepIn K (.ref f11) = true)
    (a12 : PySem.W.nsIn K mainGlobals "is_integer" = some (some (.ref f12)))
    (l12 : K.lookup f12 = some ⟨oc12, od12, .func (PySem.W.fnOf "is_integer" "is_integer" (defArgs st_is_integer) (defBody st_is_integer) (defScope st_is_integer) .none kV12 dc12 pm12 an12 cd12 ct12), sl12⟩) (c12 : PySem.W.codeIn K cd12 "is_integer" = true) (k12 : PySem.W.keepIn K (.ref f12) = true)
    (a13 : PySem.W.nsIn K mainGlobals "is_within" = some (some (.ref f13)))
    (l13 : K.lookup f13 = some ⟨oc13, od13, .func (PySem.W.fnOf "is_within" "is_within" (defArgs st_is_within) (defBody st_is_within) (defScope st_is_within) .none kV13 dc13 pm13 an13 cd13 ct13), sl13⟩) (c13 : PySem.W.codeIn K cd13 "is_within" = true) (k13 : PySem.W.keepIn K (.ref f13) = true)
    (a14 : PySem.W.nsIn K mainGlobals "is_count" = some (some (.ref f14)))
    (l14 : K.lookup f14 = some ⟨oc14, od14, .func (PySem.W.fnOf "is_count" "is_count" (defArgs st_is_count) (defBody st_is_count) (defScope st_is_count) .none kV14 dc14 pm14 an14 cd14 ct14), sl14⟩) (c14 : PySem.W.codeIn K cd14 "is_count" = true) (k14 : PySem.W.keepIn K (.ref f14) = true)
    (a15 : PySem.W.nsIn K mainGlobals "is_tuple" = some (some (.ref f15)))
    (l15 : K.lookup f15 = some ⟨oc15, od15, .func (PySem.W.fnOf "is_tuple" "is_tuple" (defArgs st_is_tuple) (defBody st_is_tuple) (defScope st_is_tuple) .none kV15 dc15 pm15 an15 cd15 ct15), sl15⟩) (c15 : PySem.W.codeIn K cd15 "is_tuple" = true) (k15 : PySem.W.keepIn K (.ref f15) = true)
    (a16 : PySem.W.nsIn K mainGlobals "is_line" = some (some (.ref f16)))
    (l16 : K.lookup f16 = some ⟨oc16, od16, .func (PySem.W.fnOf "is_line" "is_line" (defArgs st_is_line) (defBody st_is_line) (defScope st_is_line) .none kV16 dc16 pm16 an16 cd16 ct16), sl16⟩) (c16 : PySem.W.codeIn K cd16 "is_line" = true) (k16 : PySem.W.keepIn K (.ref f16) = true)
    (a17 : PySem.W.nsIn K mainGlobals "are_lines" = some (some (.ref f17)))
    (l17 : K.lookup f17 = some ⟨oc17, od17, .func (PySem.W.fnOf "are_lines" "are_lines" (defArgs st_are_lines) (defBody st_are_lines) (defScope st_are_lines) .none kV17 dc17 pm17 an17 cd17 ct17), sl17⟩) (c17 : PySem.W.codeIn K cd17 "are_lines" = true) (k17 : PySem.W.keepIn K (.ref f17) = true)
    (aC : PySem.W.nsIn K mainGlobals "Web" = some (some (.ref C))) (a18 : PySem.W.findIn K (.ref C) "__init__" = some (some (.ref f18))) (i18 : PySem.W.isFn K (.ref f18) = true)
    (l18 : K.lookup f18 = some ⟨oc18, od18, .func (PySem.W.fnOf "__init__" "Web.__init__" (defArgs st_Web) (defBody st_Web) (defScope st_Web) .none kV18 dc18 pm18 an18 cd18 ct18), sl18⟩) (c18 : PySem.W.codeIn K cd18 "Web.__init__" = true) (k18 : PySem.W.keepIn K (.ref f18) = true)
    (a19 : PySem.W.findIn K (.ref C) "there" = some (some (.ref f19))) (i19 : PySem.W.isFn K (.ref f19) = true)
    (l19 : K.lookup f19 = some ⟨oc19, od19, .func (PySem.W.fnOf "there" "Web.there" (defArgs st_there) (defBody st_there) (defScope st_there) .none kV19 dc19 pm19 an19 cd19 ct19), sl19⟩) (c19 : PySem.W.codeIn K cd19 "Web.there" = true) (k19 : PySem.W.keepIn K (.ref f19) = true)
    (a20 : PySem.W.nsIn K mainGlobals "has_line" = some (some (.ref f20)))
    (l20 : K.lookup f20 = some ⟨oc20, od20, .func (PySem.W.fnOf "has_line" "has_line" (defArgs st_has_line) (defBody st_has_line) (defScope st_has_line) .none kV20 dc20 pm20 an20 cd20 ct20), sl20⟩) (c20 : PySem.W.codeIn K cd20 "has_line" = true) (k20 : PySem.W.keepIn K (.ref f20) = true)
    (a21 : PySem.W.nsIn K mainGlobals "near_of" = some (some (.ref f21)))
    (l21 : K.lookup f21 = some ⟨oc21, od21, .func (PySem.W.fnOf "near_of" "near_of" (defArgs st_near_of) (defBody st_near_of) (defScope st_near_of) .none kV21 dc21 pm21 an21 cd21 ct21), sl21⟩) (c21 : PySem.W.codeIn K cd21 "near_of" = true) (k21 : PySem.W.keepIn K (.ref f21) = true)
    (a22 : PySem.W.nsIn K mainGlobals "summed_colours" = some (some (.ref f22)))
    (l22 : K.lookup f22 = some ⟨oc22, od22, .func (PySem.W.fnOf "summed_colours" "summed_colours" (defArgs st_summed_colours) (defBody st_summed_colours) (defScope st_summed_colours) .none kV22 dc22 pm22 an22 cd22 ct22), sl22⟩) (c22 : PySem.W.codeIn K cd22 "summed_colours" = true) (k22 : PySem.W.keepIn K (.ref f22) = true)
    (a23 : PySem.W.nsIn K mainGlobals "least_sum_colours" = some (some (.ref f23)))
    (l23 : K.lookup f23 = some ⟨oc23, od23, .func (PySem.W.fnOf "least_sum_colours" "least_sum_colours" (defArgs st_least_sum_colours) (defBody st_least_sum_colours) (defScope st_least_sum_colours) .none kV23 dc23 pm23 an23 cd23 ct23), sl23⟩) (c23 : PySem.W.codeIn K cd23 "least_sum_colours" = true) (k23 : PySem.W.keepIn K (.ref f23) = true)
    (a24 : PySem.W.nsIn K mainGlobals "_law_steps" = some (some (.ref f24)))
    (l24 : K.lookup f24 = some ⟨oc24, od24, .func (PySem.W.fnOf "_law_steps" "_law_steps" (defArgs st_law_steps) (defBody st_law_steps) (defScope st_law_steps) .none kV24 dc24 pm24 an24 cd24 ct24), sl24⟩) (c24 : PySem.W.codeIn K cd24 "_law_steps" = true) (k24 : PySem.W.keepIn K (.ref f24) = true)
    (a25 : PySem.W.nsIn K mainGlobals "are_let" = some (some (.ref f25)))
    (l25 : K.lookup f25 = some ⟨oc25, od25, .func (PySem.W.fnOf "are_let" "are_let" (defArgs st_are_let) (defBody st_are_let) (defScope st_are_let) .none kV25 dc25 pm25 an25 cd25 ct25), sl25⟩) (c25 : PySem.W.codeIn K cd25 "are_let" = true) (k25 : PySem.W.keepIn K (.ref f25) = true)
    (a26 : PySem.W.nsIn K mainGlobals "apart_on" = some (some (.ref f26)))
    (l26 : K.lookup f26 = some ⟨oc26, od26, .func (PySem.W.fnOf "apart_on" "apart_on" (defArgs st_apart_on) (defBody st_apart_on) (defScope st_apart_on) .none kV26 dc26 pm26 an26 cd26 ct26), sl26⟩) (c26 : PySem.W.codeIn K cd26 "apart_on" = true) (k26 : PySem.W.keepIn K (.ref f26) = true)
    (a27 : PySem.W.nsIn K mainGlobals "difference_colours" = some (some (.ref f27)))
    (l27 : K.lookup f27 = some ⟨oc27, od27, .func (PySem.W.fnOf "difference_colours" "difference_colours" (defArgs st_difference_colours) (defBody st_difference_colours) (defScope st_difference_colours) .none kV27 dc27 pm27 an27 cd27 ct27), sl27⟩) (c27 : PySem.W.codeIn K cd27 "difference_colours" = true) (k27 : PySem.W.keepIn K (.ref f27) = true)
    (a28 : PySem.W.nsIn K mainGlobals "pieces_of" = some (some (.ref f28)))
    (l28 : K.lookup f28 = some ⟨oc28, od28, .func (PySem.W.fnOf "pieces_of" "pieces_of" (defArgs st_pieces_of) (defBody st_pieces_of) (defScope st_pieces_of) .none kV28 dc28 pm28 an28 cd28 ct28), sl28⟩) (c28 : PySem.W.codeIn K cd28 "pieces_of" = true) (k28 : PySem.W.keepIn K (.ref f28) = true)
    (a29 : PySem.W.nsIn K mainGlobals "all_pieces" = some (some (.ref f29)))
    (l29 : K.lookup f29 = some ⟨oc29, od29, .func (PySem.W.fnOf "all_pieces" "all_pieces" (defArgs st_all_pieces) (defBody st_all_pieces) (defScope st_all_pieces) .none kV29 dc29 pm29 an29 cd29 ct29), sl29⟩) (c29 : PySem.W.codeIn K cd29 "all_pieces" = true) (k29 : PySem.W.keepIn K (.ref f29) = true)
    (a30 : PySem.W.nsIn K mainGlobals "is_one" = some (some (.ref f30)))
    (l30 : K.lookup f30 = some ⟨oc30, od30, .func (PySem.W.fnOf "is_one" "is_one" (defArgs st_is_one) (defBody st_is_one) (defScope st_is_one) .none kV30 dc30 pm30 an30 cd30 ct30), sl30⟩) (c30 : PySem.W.codeIn K cd30 "is_one" = true) (k30 : PySem.W.keepIn K (.ref f30) = true)
    (a31 : PySem.W.nsIn K mainGlobals "is_tree_of" = some (some (.ref f31)))
    (l31 : K.lookup f31 = some ⟨oc31, od31, .func (PySem.W.fnOf "is_tree_of" "is_tree_of" (defArgs st_is_tree_of) (defBody st_is_tree_of) (defScope st_is_tree_of) .none kV31 dc31 pm31 an31 cd31 ct31), sl31⟩) (c31 : PySem.W.codeIn K cd31 "is_tree_of" = true) (k31 : PySem.W.keepIn K (.ref f31) = true)
    (a32 : PySem.W.nsIn K mainGlobals "is_tree" = some (some (.ref f32)))
    (l32 : K.lookup f32 = some ⟨oc32, od32, .func (PySem.W.fnOf "is_tree" "is_tree" (defArgs st_is_tree) (defBody st_is_tree) (defScope st_is_tree) .none kV32 dc32 pm32 an32 cd32 ct32), sl32⟩) (c32 : PySem.W.codeIn K cd32 "is_tree" = true) (k32 : PySem.W.keepIn K (.ref f32) = true)
    (a33 : PySem.W.nsIn K mainGlobals "law" = some (some (.ref f33)))
    (l33 : K.lookup f33 = some ⟨oc33, od33, .func (PySem.W.fnOf "law" "law" (defArgs st_law) (defBody st_law) (defScope st_law) .none kV33 dc33 pm33 an33 cd33 ct33), sl33⟩) (c33 : PySem.W.codeIn K cd33 "law" = true) (k33 : PySem.W.keepIn K (.ref f33) = true)
    (pg : PySem.W.plainGet K C Str.empty = true) (hd : PySem.W.hasDictIn K C = true) (po : PySem.W.plainOver K C = true) (sa : PySem.W.findIn K (.ref C) "__setattr__" = some (some (.builtin "object.__setattr__"))) (mk : PySem.W.makesIn K C = true) (kc : PySem.W.keepIn K (.ref C) = true)
    (n_corners : PySem.W.findIn K (.ref C) "corners" = some none)
    (n_lines : PySem.W.findIn K (.ref C) "lines" = some none)
    (n_looked : PySem.W.findIn K (.ref C) "looked" = some none)
    (z_abs : PySem.W.nsIn K mainGlobals "abs" = some none)
    (z_all : PySem.W.nsIn K mainGlobals "all" = some none)
    (z_any : PySem.W.nsIn K mainGlobals "any" = some none)
    (z_bool : PySem.W.nsIn K mainGlobals "bool" = some none)
    (z_dict : PySem.W.nsIn K mainGlobals "dict" = some none)
    (z_enumerate : PySem.W.nsIn K mainGlobals "enumerate" = some none)
    (z_int : PySem.W.nsIn K mainGlobals "int" = some none)
    (z_isinstance : PySem.W.nsIn K mainGlobals "isinstance" = some none)
    (z_len : PySem.W.nsIn K mainGlobals "len" = some none)
    (z_list : PySem.W.nsIn K mainGlobals "list" = some none)
    (z_max : PySem.W.nsIn K mainGlobals "max" = some none)
    (z_min : PySem.W.nsIn K mainGlobals "min" = some none)
    (z_range : PySem.W.nsIn K mainGlobals "range" = some none)
    (z_set : PySem.W.nsIn K mainGlobals "set" = some none)
    (z_sorted : PySem.W.nsIn K mainGlobals "sorted" = some none)
    (z_sum : PySem.W.nsIn K mainGlobals "sum" = some none)
    (z_tuple : PySem.W.nsIn K mainGlobals "tuple" = some none)
    (z_zip : PySem.W.nsIn K mainGlobals "zip" = some none)
    (q_MOST_CORNERS : PySem.W.nsIn K mainGlobals "MOST_CORNERS" = some (some (.int 7 tMOST_CORNERS)))
    (q_MOST_GRACEFUL : PySem.W.nsIn K mainGlobals "MOST_GRACEFUL" = some (some (.int 8 tMOST_GRACEFUL)))
    (q_MOST_SUMMED : PySem.W.nsIn K mainGlobals "MOST_SUMMED" = some (some (.int 7 tMOST_SUMMED)))
    : ∃ fd : FuncData, (∀ (s : Shared) (v : Value), BindsTo s fd ⟨[v], []⟩ [("script", v)]) ∧ ∀ base : Heap, K.In base → base.Ns mainGlobals mg → FnOk l.prog w K mg base CX0 16 fa fd ["script"] (LD.spLaw K) := by
  have e := hfa.symm.trans (PySem.W.mg_of X G a33)
  cases e
  have F0 := fun_mk (st := st_law_hand) l0 c0 k0
  have b0 := F0.binds (ps := ["script"]) fun _ _ _ _ _ _ us hl => match us, hl with | [_], _ => rfl
  have F1 := fun_mk (st := st_law_draw) l1 c1 k1
  have b1 := F1.binds (ps := ["hand", "sides"]) fun _ _ _ _ _ _ us hl => match us, hl with | [_, _], _ => rfl
  have F2 := fun_mk (st := st_law_pairs) l2 c2 k2
  have b2 := F2.binds (ps := ["corners"]) fun _ _ _ _ _ _ us hl => match us, hl with | [_], _ => rfl
  have F3 := fun_mk (st := st_law_lines) l3 c3 k3
  have b3 := F3.binds (ps := ["hand", "corners"]) fun _ _ _ _ _ _ us hl => match us, hl with | [_, _], _ => rfl
  have F4 := fun_mk (st := st_law_tuples) l4 c4 k4
  have b4 := F4.binds (ps := ["size", "least", "most"]) fun _ _ _ _ _ _ us hl => match us, hl with | [_, _, _], _ => rfl
  have F5 := fun_mk (st := st_law_orders) l5 c5 k5
  have b5 := F5.binds (ps := ["numbers"]) fun _ _ _ _ _ _ us hl => match us, hl with | [_], _ => rfl
  have F6 := fun_mk (st := st_differences) l6 c6 k6
  have b6 := F6.binds (ps := ["web", "told"]) fun _ _ _ _ _ _ us hl => match us, hl with | [_, _], _ => rfl
  have F7 := fun_mk (st := st_graceful_on) l7 c7 k7
  have b7 := F7.binds (ps := ["web", "told"]) fun _ _ _ _ _ _ us hl => match us, hl with | [_, _], _ => rfl
  have F8 := fun_mk (st := st_graceful) l8 c8 k8
  have b8 := F8.binds (ps := ["web"]) fun _ _ _ _ _ _ us hl => match us, hl with | [_], _ => rfl
  have F9 := fun_mk (st := st_sums_at) l9 c9 k9
  have b9 := F9.binds (ps := ["web", "told"]) fun _ _ _ _ _ _ us hl => match us, hl with | [_, _], _ => rfl
  have F10 := fun_mk (st := st_summed_on) l10 c10 k10
  have b10 := F10.binds (ps := ["web", "told"]) fun _ _ _ _ _ _ us hl => match us, hl with | [_, _], _ => rfl
  have F11 := fun_mk (st := st_even_sums) l11 c11 k11
  have b11 := F11.binds (ps := ["web"]) fun _ _ _ _ _ _ us hl => match us, hl with | [_], _ => rfl
  have F12 := fun_mk (st := st_is_integer) l12 c12 k12
  have b12 := F12.binds (ps := ["thing"]) fun _ _ _ _ _ _ us hl => match us, hl with | [_], _ => rfl
  have F13 := fun_mk (st := st_is_within) l13 c13 k13
  have b13 := F13.binds (ps := ["thing", "low", "high"]) fun _ _ _ _ _ _ us hl => match us, hl with | [_, _, _], _ => rfl
  have F14 := fun_mk (st := st_is_count) l14 c14 k14
  have b14 := F14.binds (ps := ["thing"]) fun _ _ _ _ _ _ us hl => match us, hl with | [_], _ => rfl
  have F15 := fun_mk (st := st_is_tuple) l15 c15 k15
  have b15 := F15.binds (ps := ["thing", "least", "most"]) fun _ _ _ _ _ _ us hl => match us, hl with | [_, _, _], _ => rfl
  have F16 := fun_mk (st := st_is_line) l16 c16 k16
  have b16 := F16.binds (ps := ["corners", "thing"]) fun _ _ _ _ _ _ us hl => match us, hl with | [_, _], _ => rfl
  have F17 := fun_mk (st := st_are_lines) l17 c17 k17
  have b17 := F17.binds (ps := ["corners", "thing"]) fun _ _ _ _ _ _ us hl => match us, hl with | [_, _], _ => rfl
  have F18 := fun_mk (st := st_Web) l18 c18 k18
  have b18 := F18.binds (ps := ["self", "corners", "lines"]) fun _ _ _ _ _ _ us hl => match us, hl with | [_, _, _], _ => rfl
  have F19 := fun_mk (st := st_there) l19 c19 k19
  have b19 := F19.binds (ps := ["self"]) fun _ _ _ _ _ _ us hl => match us, hl with | [_], _ => rfl
  have F20 := fun_mk (st := st_has_line) l20 c20 k20
  have b20 := F20.binds (ps := ["web", "a", "b"]) fun _ _ _ _ _ _ us hl => match us, hl with | [_, _, _], _ => rfl
  have F21 := fun_mk (st := st_near_of) l21 c21 k21
  have b21 := F21.binds (ps := ["web", "a"]) fun _ _ _ _ _ _ us hl => match us, hl with | [_, _], _ => rfl
  have F22 := fun_mk (st := st_summed_colours) l22 c22 k22
  have b22 := F22.binds (ps := ["web", "told", "best"]) fun _ _ _ _ _ _ us hl => match us, hl with | [_, _, _], _ => rfl
  have F23 := fun_mk (st := st_least_sum_colours) l23 c23 k23
  have b23 := F23.binds (ps := ["web"]) fun _ _ _ _ _ _ us hl => match us, hl with | [_], _ => rfl
  have F24 := fun_mk (st := st_law_steps) l24 c24 k24
  have b24 := F24.binds (ps := ["corners", "lines", "a"]) fun _ _ _ _ _ _ us hl => match us, hl with | [_, _, _], _ => rfl
  have F25 := fun_mk (st := st_are_let) l25 c25 k25
  have b25 := F25.binds (ps := ["web", "told", "number"]) fun _ _ _ _ _ _ us hl => match us, hl with | [_, _, _], _ => rfl
  have F26 := fun_mk (st := st_apart_on) l26 c26 k26
  have b26 := F26.binds (ps := ["web", "most", "told"]) fun _ _ _ _ _ _ us hl => match us, hl with | [_, _, _], _ => rfl
  have F27 := fun_mk (st := st_difference_colours) l27 c27 k27
  have b27 := F27.binds (ps := ["web"]) fun _ _ _ _ _ _ us hl => match us, hl with | [_], _ => rfl
  have F28 := fun_mk (st := st_pieces_of) l28 c28 k28
  have b28 := F28.binds (ps := ["web", "lot"]) fun _ _ _ _ _ _ us hl => match us, hl with | [_, _], _ => rfl
  have F29 := fun_mk (st := st_all_pieces) l29 c29 k29
  have b29 := F29.binds (ps := ["web"]) fun _ _ _ _ _ _ us hl => match us, hl with | [_], _ => rfl
  have F30 := fun_mk (st := st_is_one) l30 c30 k30
  have b30 := F30.binds (ps := ["web"]) fun _ _ _ _ _ _ us hl => match us, hl with | [_], _ => rfl
  have F31 := fun_mk (st := st_is_tree_of) l31 c31 k31
  have b31 := F31.binds (ps := ["web"]) fun _ _ _ _ _ _ us hl => match us, hl with | [_], _ => rfl
  have F32 := fun_mk (st := st_is_tree) l32 c32 k32
  have b32 := F32.binds (ps := ["web"]) fun _ _ _ _ _ _ us hl => match us, hl with | [_], _ => rfl
  have F33 := fun_mk (st := st_law) l33 c33 k33
  have b33 := F33.binds (ps := ["script"]) fun _ _ _ _ _ _ us hl => match us, hl with | [_], _ => rfl
  have T : Tx K mg (fun i => [f0, f1, f2, f3, f4, f5, f6, f7, f8, f9, f10, f11, f12, f13, f14, f15, f16, f17, f18, f19, f20, f21, f22, f23, f24, f25, f26, f27, f28, f29, f30, f31, f32, fa].getD i 0) (fun i => [PySem.W.fnOf "_law_hand" "_law_hand" (defArgs st_law_hand) (defBody st_law_hand) (defScope st_law_hand) .none kV0 dc0 pm0 an0 cd0 ct0, PySem.W.fnOf "_law_draw" "_law_draw" (defArgs st_law_draw) (defBody st_law_draw) (defScope st_law_draw) .none kV1 dc1 pm1 an1 cd1 ct1, PySem.W.fnOf "_law_pairs" "_law_pairs" (defArgs st_law_pairs) (defBody st_law_pairs) (defScope st_law_pairs) .none kV2 dc2 pm2 an2 cd2 ct2, PySem.W.fnOf "_law_lines" "_law_lines" (defArgs st_law_lines) (defBody st_law_lines) (defScope st_law_lines) .none kV3 dc3 pm3 an3 cd3 ct3, PySem.W.fnOf "_law_tuples" "_law_tuples" (defArgs st_law_tuples) (defBody st_law_tuples) (defScope st_law_tuples) .none kV4 dc4 pm4 an4 cd4 ct4, PySem.W.fnOf "_law_orders" "_law_orders" (defArgs st_law_orders) (defBody st_law_orders) (defScope st_law_orders) .none kV5 dc5 pm5 an5 cd5 ct5, PySem.W.fnOf "differences" "differences" (defArgs st_differences) (defBody st_differences) (defScope st_differences) .none kV6 dc6 pm6 an6 cd6 ct6, PySem.W.fnOf "graceful_on" "graceful_on" (defArgs st_graceful_on) (defBody st_graceful_on) (defScope st_graceful_on) .none kV7 dc7 pm7 an7 cd7 ct7, PySem.W.fnOf "graceful" "graceful" (defArgs st_graceful) (defBody st_graceful) (defScope st_graceful) .none kV8 dc8 pm8 an8 cd8 ct8, PySem.W.fnOf "sums_at" "sums_at" (defArgs st_sums_at) (defBody st_sums_at) (defScope st_sums_at) .none kV9 dc9 pm9 an9 cd9 ct9, PySem.W.fnOf "summed_on" "summed_on" (defArgs st_summed_on) (defBody st_summed_on) (defScope st_summed_on) .none kV10 dc10 pm10 an10 cd10 ct10, PySem.W.fnOf "even_sums" "even_sums" (defArgs st_even_sums) (defBody st_even_sums) (defScope st_even_sums) .none kV11 dc11 pm11 an11 cd11 ct11, PySem.W.fnOf "is_integer" "is_integer" (defArgs st_is_integer) (defBody st_is_integer) (defScope st_is_integer) .none kV12 dc12 pm12 an12 cd12 ct12, PySem.W.fnOf "is_within" "is_within" (defArgs st_is_within) (defBody st_is_within) (defScope st_is_within) .none kV13 dc13 pm13 an13 cd13 ct13, PySem.W.fnOf "is_count" "is_count" (defArgs st_is_count) (defBody st_is_count) (defScope st_is_count) .none kV14 dc14 pm14 an14 cd14 ct14, PySem.W.fnOf "is_tuple" "is_tuple" (defArgs st_is_tuple) (defBody st_is_tuple) (defScope st_is_tuple) .none kV15 dc15 pm15 an15 cd15 ct15, PySem.W.fnOf "is_line" "is_line" (defArgs st_is_line) (defBody st_is_line) (defScope st_is_line) .none kV16 dc16 pm16 an16 cd16 ct16, PySem.W.fnOf "are_lines" "are_lines" (defArgs st_are_lines) (defBody st_are_lines) (defScope st_are_lines) .none kV17 dc17 pm17 an17 cd17 ct17, PySem.W.fnOf "__init__" "Web.__init__" (defArgs st_Web) (defBody st_Web) (defScope st_Web) .none kV18 dc18 pm18 an18 cd18 ct18, PySem.W.fnOf "there" "Web.there" (defArgs st_there) (defBody st_there) (defScope st_there) .none kV19 dc19 pm19 an19 cd19 ct19, PySem.W.fnOf "has_line" "has_line" (defArgs st_has_line) (defBody st_has_line) (defScope st_has_line) .none kV20 dc20 pm20 an20 cd20 ct20, PySem.W.fnOf "near_of" "near_of" (defArgs st_near_of) (defBody st_near_of) (defScope st_near_of) .none kV21 dc21 pm21 an21 cd21 ct21, PySem.W.fnOf "summed_colours" "summed_colours" (defArgs st_summed_colours) (defBody st_summed_colours) (defScope st_summed_colours) .none kV22 dc22 pm22 an22 cd22 ct22, PySem.W.fnOf "least_sum_colours" "least_sum_colours" (defArgs st_least_sum_colours) (defBody st_least_sum_colours) (defScope st_least_sum_colours) .none kV23 dc23 pm23 an23 cd23 ct23, PySem.W.fnOf "_law_steps" "_law_steps" (defArgs st_law_steps) (defBody st_law_steps) (defScope st_law_steps) .none kV24 dc24 pm24 an24 cd24 ct24, PySem.W.fnOf "are_let" "are_let" (defArgs st_are_let) (defBody st_are_let) (defScope st_are_let) .none kV25 dc25 pm25 an25 cd25 ct25, PySem.W.fnOf "apart_on" "apart_on" (defArgs st_apart_on) (defBody st_apart_on) (defScope st_apart_on) .none kV26 dc26 pm26 an26 cd26 ct26, PySem.W.fnOf "difference_colours" "difference_colours" (defArgs st_difference_colours) (defBody st_difference_colours) (defScope st_difference_colours) .none kV27 dc27 pm27 an27 cd27 ct27, PySem.W.fnOf "pieces_of" "pieces_of" (defArgs st_pieces_of) (defBody st_pieces_of) (defScope st_pieces_of) .none kV28 dc28 pm28 an28 cd28 ct28, PySem.W.fnOf "all_pieces" "all_pieces" (defArgs st_all_pieces) (defBody st_all_pieces) (defScope st_all_pieces) .none kV29 dc29 pm29 an29 cd29 ct29, PySem.W.fnOf "is_one" "is_one" (defArgs st_is_one) (defBody st_is_one) (defScope st_is_one) .none kV30 dc30 pm30 an30 cd30 ct30, PySem.W.fnOf "is_tree_of" "is_tree_of" (defArgs st_is_tree_of) (defBody st_is_tree_of) (defScope st_is_tree_of) .none kV31 dc31 pm31 an31 cd31 ct31, PySem.W.fnOf "is_tree" "is_tree" (defArgs st_is_tree) (defBody st_is_tree) (defScope st_is_tree) .none kV32 dc32 pm32 an32 cd32 ct32, PySem.W.fnOf "law" "law" (defArgs st_law) (defBody st_law) (defScope st_law) .none kV33 dc33 pm33 an33 cd33 ct33].getD i (PySem.W.fnOf "_law_hand" "_law_hand" (defArgs st_law_hand) (defBody st_law_hand) (defScope st_law_hand) .none kV0 dc0 pm0 an0 cd0 ct0)) C := {
    z_abs := PySem.W.mg_none_of X G z_abs
    z_all := PySem.W.mg_none_of X G z_all
    z_any := PySem.W.mg_none_of X G z_any
    z_bool := PySem.W.mg_none_of X G z_bool
    z_dict := PySem.W.mg_none_of X G z_dict
    z_enumerate := PySem.W.mg_none_of X G z_enumerate
    z_int := PySem.W.mg_none_of X G z_int
    z_isinstance := PySem.W.mg_none_of X G z_isinstance
    z_len := PySem.W.mg_none_of X G z_len
    z_list := PySem.W.mg_none_of X G z_list
    z_max := PySem.W.mg_none_of X G z_max
    z_min := PySem.W.mg_none_of X G z_min
    z_range := PySem.W.mg_none_of X G z_range
    z_set := PySem.W.mg_none_of X G z_set
    z_sorted := PySem.W.mg_none_of X G z_sorted
    z_sum := PySem.W.mg_none_of X G z_sum
    z_tuple := PySem.W.mg_none_of X G z_tuple
    z_zip := PySem.W.mg_none_of X G z_zip
    c_MOST_CORNERS := ⟨_, PySem.W.mg_of X G q_MOST_CORNERS⟩
    c_MOST_GRACEFUL := ⟨_, PySem.W.mg_of X G q_MOST_GRACEFUL⟩
    c_MOST_SUMMED := ⟨_, PySem.W.mg_of X G q_MOST_SUMMED⟩
    f_law_hand := F0
    b_law_hand := b0
    m_law_hand := PySem.W.mg_of X G a0
    k_law_hand := k0
    f_law_draw := F1
    b_law_draw := b1
    m_law_draw := PySem.W.mg_of X G a1
    k_law_draw := k1
    f_law_pairs := F2
    b_law_pairs := b2
    m_law_pairs := PySem.W.mg_of X G a2
    k_law_pairs := k2
    f_law_lines := F3
    b_law_lines := b3
    m_law_lines := PySem.W.mg_of X G a3
    k_law_lines := k3
    f_law_tuples := F4
    b_law_tuples := b4
    m_law_tuples := PySem.W.mg_of X G a4
    k_law_tuples := k4
    f_law_orders := F5
    b_law_orders := b5
    m_law_orders := PySem.W.mg_of X G a5
    k_law_orders := k5
    f_differences := F6
    b_differences := b6
    m_differences := PySem.W.mg_of X G a6
    k_differences := k6
    f_graceful_on := F7
    b_graceful_on := b7
    m_graceful_on := PySem.W.mg_of X G a7
    k_graceful_on := k7
    f_graceful := F8
    b_graceful := b8
    m_graceful := PySem.W.mg_of X G a8
    k_graceful := k8
    f_sums_at := F9
    b_sums_at := b9
    m_sums_at := PySem.W.mg_of X G a9
    k_sums_at := k9
    f_summed_on := F10
    b_summed_on := b10
    m_summed_on := PySem.W.mg_of X G a10
    k_summed_on := k10
    f_even_sums := F11
    b_even_sums := b11
    m_even_sums := PySem.W.mg_of X G a11
    k_even_sums := k11
    f_is_integer := F12
    b_is_integer := b12
    m_is_integer := PySem.W.mg_of X G a12
    k_is_integer := k12
    f_is_within := F13
    b_is_within := b13
    m_is_within := PySem.W.mg_of X G a13
    k_is_within := k13
    f_is_count := F14
    b_is_count := b14
    m_is_count := PySem.W.mg_of X G a14
    k_is_count := k14
    f_is_tuple := F15
    b_is_tuple := b15
    m_is_tuple := PySem.W.mg_of X G a15
    k_is_tuple := k15
    f_is_line := F16
    b_is_line := b16
    m_is_line := PySem.W.mg_of X G a16
    k_is_line := k16
    f_are_lines := F17
    b_are_lines := b17
    m_are_lines := PySem.W.mg_of X G a17
    k_are_lines := k17
    f_Web := F18
    b_Web := b18
    m_Web := PySem.W.mg_of X G aC
    mkW := ⟨mk, a18, i18, kc⟩
    cl := ⟨pg, hd, po, sa⟩
    na_corners := n_corners
    na_lines := n_lines
    na_looked := n_looked
    f_there := F19
    b_there := b19
    mt_there := ⟨a19, i19, k19⟩
    f_has_line := F20
    b_has_line := b20
    m_has_line := PySem.W.mg_of X G a20
    k_has_line := k20
    f_near_of := F21
    b_near_of := b21
    m_near_of := PySem.W.mg_of X G a21
    k_near_of := k21
    f_summed_colours := F22
    b_summed_colours := b22
    m_summed_colours := PySem.W.mg_of X G a22
    k_summed_colours := k22
    f_least_sum_colours := F23
    b_least_sum_colours := b23
    m_least_sum_colours := PySem.W.mg_of X G a23
    k_least_sum_colours := k23
    f_law_steps := F24
    b_law_steps := b24
    m_law_steps := PySem.W.mg_of X G a24
    k_law_steps := k24
    f_are_let := F25
    b_are_let := b25
    m_are_let := PySem.W.mg_of X G a25
    k_are_let := k25
    f_apart_on := F26
    b_apart_on := b26
    m_apart_on := PySem.W.mg_of X G a26
    k_apart_on := k26
    f_difference_colours := F27
    b_difference_colours := b27
    m_difference_colours := PySem.W.mg_of X G a27
    k_difference_colours := k27
    f_pieces_of := F28
    b_pieces_of := b28
    m_pieces_of := PySem.W.mg_of X G a28
    k_pieces_of := k28
    f_all_pieces := F29
    b_all_pieces := b29
    m_all_pieces := PySem.W.mg_of X G a29
    k_all_pieces := k29
    f_is_one := F30
    b_is_one := b30
    m_is_one := PySem.W.mg_of X G a30
    k_is_one := k30
    f_is_tree_of := F31
    b_is_tree_of := b31
    m_is_tree_of := PySem.W.mg_of X G a31
    k_is_tree_of := k31
    f_is_tree := F32
    b_is_tree := b32
    m_is_tree := PySem.W.mg_of X G a32
    k_is_tree := k32
    f_law := F33
    b_law := b33
    m_law := PySem.W.mg_of X G a33
    k_law := k33
  }
  exact ⟨PySem.W.fnOf "law" "law" (defArgs st_law) (defBody st_law) (defScope st_law) .none kV33 dc33 pm33 an33 cd33 ct33, fun s v => .of_eq rfl, fun base _ _ => law_ok (G := mkG l.prog w K C) (ok_law T) fun ns _ => law_true ns⟩
theorem walk {l : PySem.W.OpenLaw} {q : Program} {loose : List Str} {XP : (Str → Option Value) → Heap → Prop} {YP : World → Heap → Prop} {d : DefRec} {K : Params → PySem.W.Frag} (hn : l.most = some 63) (hdf : d.params.defaults = [])
    (hY : ∀ (w : World) (h : Heap), YP w h → (K w.params).In h)
    (F : ∀ (w : World) (mg : Str → Option Value) (fa : Addr) (h : Heap), (K w.params).In h → h.Ns mainGlobals mg → mg d.name = some (.ref fa) →
      ∃ fd : FuncData, (∀ (s : Shared) (u : Value), BindsTo s fd ⟨[u], []⟩ [("script", u)]) ∧ ∀ base : Heap, (K w.params).In base → base.Ns mainGlobals mg → FnOk l.prog w (K w.params) mg base CX0 16 fa fd ["script"] (LD.spLaw (K w.params))) :
    PySem.W.WalkO q loose XP YP l.row.toRowW d [] (fun f vs => PySem.call f vs) :=
  L2.walk_of (n := 63) (k := 16) (x := "script") (CX := fun _ => CX0) (sp := fun w => LD.spLaw (K w.params)) hn (by decide) hdf ⟨rfl, by decide, by decide⟩ hY F (fun _ _ a ns hl hO hS => ⟨a, ns, rfl, hS, hl, hO, fun _ _ e => e⟩) fun _ _ _ _ _ z => z
end LW

open PySem PySem.W PyProof.Rows in
set_option maxRecDepth 100000 in
set_option maxHeartbeats 0 in
theorem PySem.Challenge.cw_cornerwebs_k85_whole_numbers_on_corners_holds : PySem.Challenge.rw_cornerwebs_k85_whole_numbers_on_corners.Holds := by
  w_on; o_law; k_head; (case hw => w_witness2)
  k_fill
  refine LW.walk (l := PySem.Challenge.rw_cornerwebs_k85_whole_numbers_on_corners) rfl rfl (fun w h Y => PySem.W.kIn_of Y) ?F
  case F =>
    intro w mg fa h KX G hmg
    refine' LW.all_mk KX G hmg ?a0 ?l0 ?c0 ?k0 ?a1 ?l1 ?c1 ?k1 ?a2 ?l2 ?c2 ?k2 ?a3 ?l3 ?c3 ?k3 ?a4 ?l4 ?c4 ?k4 ?a5 ?l5 ?c5 ?k5 ?a6 ?l6 ?c6 ?k6 ?a7 ?l7 ?c7 ?k7 ?a8 ?l8 ?c8 ?k8 ?a9 ?l9 ?c9 ?k9 ?a10 ?l10 ?c10 ?k10 ?a11 ?l11 ?c11 ?k11 ?a12 ?l12 ?c12 ?k12 ?a13 ?l13 ?c13 ?k13 ?a14 ?l14 ?c14 ?k14 ?a15 ?l15 ?c15 ?k15 ?a16 ?l16 ?c16 ?k16 ?a17 ?l17 ?c17 ?k17 ?aC ?a18 ?i18 ?l18 ?c18 ?k18 ?a19 ?i19 ?l19 ?c19 ?k19 ?a20 ?l20 ?c20 ?k20 ?a21 ?l21 ?c21 ?k21 ?a22 ?l22 ?c22 ?k22 ?a23 ?l23 ?c23 ?k23 ?a24 ?l24 ?c24 ?k24 ?a25 ?l25 ?c25 ?k25 ?a26 ?l26 ?c26 ?k26 ?a27 ?l27 ?c27 ?k27 ?a28 ?l28 ?c28 ?k28 ?a29 ?l29 ?c29 ?k29 ?a30 ?l30 ?c30 ?k30 ?a31 ?l31 ?c31 ?k31 ?a32 ?l32 ?c32 ?k32 ?a33 ?l33 ?c33 ?k33 ?pg ?hd ?po ?sa ?mk ?kc ?n_corners ?n_lines ?n_looked ?z_abs ?z_all ?z_any ?z_bool ?z_dict ?z_enumerate ?z_int ?z_isinstance ?z_len ?z_list ?z_max ?z_min ?z_range ?z_set ?z_sorted ?z_sum ?z_tuple ?z_zip ?q_MOST_CORNERS ?q_MOST_GRACEFUL ?q_MOST_SUMMED
    (case a0 => k_is)
    (case l0 => k_is)
    (case c0 => k_is)
    (case k0 => k_is)
    (case a1 => k_is)
    (case l1 => k_is)
    (case c1 => k_is)
    (case k1 => k_is)
    (case a2 => k_is)
    (case l2 => k_is)
    (case c2 => k_is)
    (case k2 => k_is)
    (case a3 => k_is)
    (case l3 => k_is)
    (case c3 => k_is)
    (case k3 => k_is)
    (case a4 => k_is)
    (case l4 => k_is)
    (case c4 => k_is)
    (case k4 => k_is)
    (case a5 => k_is)
    (case l5 => k_is)
    (case c5 => k_is)
    (case k5 => k_is)
    (case a6 => k_is)
    (case l6 => k_is)
    (case c6 => k_is)
    (case k6 => k_is)
    (case a7 => k_is)
    (case l7 => k_is)
    (case c7 => k_is)
    (case k7 => k_is)
    (case a8 => k_is)
    (case l8 => k_is)
    (case c8 => k_is)
    (case k8 => k_is)
    (case a9 => k_is)
    (case l9 => k_is)
    (case c9 => k_is)
    (case k9 => k_is)
    (case a10 => k_is)
    (case l10 => k_is)
    (case c10 => k_is)
    (case k10 => k_is)
    (case a11 => k_is)
    (case l11 => k_is)
    (case c11 => k_is)
    (case k11 => k_is)
    (case a12 => k_is)
    (case l12 => k_is)
    (case c12 => k_is)
    (case k12 => k_is)
    (case a13 => k_is)
    (case l13 => k_is)
    (case c13 => k_is)
    (case k13 => k_is)
    (case a14 => k_is)
    (case l14 => k_is)
    (case c14 => k_is)
    (case k14 => k_is)
    (case a15 => k_is)
    (case l15 => k_is)
    (case c15 => k_is)
    (case k15 => k_is)
    (case a16 => k_is)
    (case l16 => k_is)
    (case c16 => k_is)
    (case k16 => k_is)
    (case a17 => k_is)
    (case l17 => k_is)
    (case c17 => k_is)
    (case k17 => k_is)
    (case aC => k_is)
    (case a18 => k_is)
    (case i18 => k_is)
    (case l18 => k_is)
    (case c18 => k_is)
    (case k18 => k_is)
    (case a19 => k_is)
    (case i19 => k_is)
    (case l19 => k_is)
    (case c19 => k_is)
    (case k19 => k_is)
    (case a20 => k_is)
    (case l20 => k_is)
    (case c20 => k_is)
    (case k20 => k_is)
    (case a21 => k_is)
    (case l21 => k_is)
    (case c21 => k_is)
    (case k21 => k_is)
    (case a22 => k_is)
    (case l22 => k_is)
    (case c22 => k_is)
    (case k22 => k_is)
    (case a23 => k_is)
    (case l23 => k_is)
    (case c23 => k_is)
    (case k23 => k_is)
    (case a24 => k_is)
    (case l24 => k_is)
    (case c24 => k_is)
    (case k24 => k_is)
    (case a25 => k_is)
    (case l25 => k_is)
    (case c25 => k_is)
    (case k25 => k_is)
    (case a26 => k_is)
    (case l26 => k_is)
    (case c26 => k_is)
    (case k26 => k_is)
    (case a27 => k_is)
    (case l27 => k_is)
    (case c27 => k_is)
    (case k27 => k_is)
    (case a28 => k_is)
    (case l28 => k_is)
    (case c28 => k_is)
    (case k28 => k_is)
    (case a29 => k_is)
    (case l29 => k_is)
    (case c29 => k_is)
    (case k29 => k_is)
    (case a30 => k_is)
    (case l30 => k_is)
    (case c30 => k_is)
    (case k30 => k_is)
    (case a31 => k_is)
    (case l31 => k_is)
    (case c31 => k_is)
    (case k31 => k_is)
    (case a32 => k_is)
    (case l32 => k_is)
    (case c32 => k_is)
    (case k32 => k_is)
    (case a33 => k_is)
    (case l33 => k_is)
    (case c33 => k_is)
    (case k33 => k_is)
    (case pg => k_is)
    (case hd => k_is)
    (case po => k_is)
    (case sa => k_is)
    (case mk => k_is)
    (case kc => k_is)
    (case n_corners => k_is)
    (case n_lines => k_is)
    (case n_looked => k_is)
    (case z_abs => k_is)
    (case z_all => k_is)
    (case z_any => k_is)
    (case z_bool => k_is)
    (case z_dict => k_is)
    (case z_enumerate => k_is)
    (case z_int => k_is)
    (case z_isinstance => k_is)
    (case z_len => k_is)
    (case z_list => k_is)
    (case z_max => k_is)
    (case z_min => k_is)
    (case z_range => k_is)
    (case z_set => k_is)
    (case z_sorted => k_is)
    (case z_sum => k_is)
    (case z_tuple => k_is)
    (case z_zip => k_is)
    (case q_MOST_CORNERS => k_is)
    (case q_MOST_GRACEFUL => k_is)
    (case q_MOST_SUMMED => k_is)

