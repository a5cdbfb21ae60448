import PyProof.Rows.All
import Wide.All
import OpenK.AllK
import Wide.FinOn
import HandS.ForMost
import HandS.Deep
import HandS.TupAny
import HandS.TupLe
import HandS.TupMul
import HandS.Style
import HandS.Zip
import HandS.Conv
import HandS.SortOrd
import HandS.SortRule
import HandS.SortInts
import HandS.TupSets
import KE.KDictKeyed
import KE.SortData
import KE.DataMinMax
import KE.DataCmp
import HandS.IsInst
import KE.KDictCopyH
import PyProof.DictRoadsH
import PySem.Challenge.RW_cornerwebs_k81_whole_forests_that_have_a
set_option Elab.async false
set_option linter.all false
set_option maxRecDepth 100000
set_option maxHeartbeats 4000000
/-! Layer D: values as data (D), a typing of the frozen objects (T), what a def's slots hold (Rel), what a step may do (Step). -/
namespace LD
open PySem PySem.Spec PyProof.Rows L2

/-- data: what a Python value is worth; lists, dicts by their content -/
inductive D where
  | non | bl (b : Bool) | int (i : Int) | str (x : Str)
  | tup (xs : List D) | lst (xs : List D)
  /-- a set of tuples of ints (what it is of, in no order, maybe twice) -/
  | st (rows : List (List Int))
  /-- a dict; t: its keys are tuples -/
  | dic (t : Bool) (ps : List (D × D))
  /-- an instance of the k-th class: its fields by place -/
  | ins (k : Nat) (fs : List D)
  /-- the dict that a web keeps for its lines -/
  | cch (ls : List D)
  /-- the law's script -/
  | scr (ns : List Int)

/-- what the text fixes -/
structure Gm where
  P : Program
  w : World
  K : PySem.W.Frag
  C : Nat → Addr
  fl : Nat → List Str

abbrev Ty := Addr → Option D
def Sub (T T' : Ty) : Prop := ∀ a d, T a = some d → T' a = some d
theorem Sub.refl (T : Ty) : Sub T T := fun _ _ h => h
theorem Sub.trans {T T1 T2 : Ty} (a : Sub T T1) (b : Sub T1 T2) : Sub T T2 := fun x d h => b x d (a x d h)
def tset (T : Ty) (p : Addr) (d : D) : Ty := fun b => if b = p then some d else T b
theorem tset_same {T : Ty} {p : Addr} {d : D} : tset T p d p = some d := by unfold tset; rw [if_pos rfl]
theorem tset_ne {T : Ty} {p b : Addr} {d : D} (h : b ≠ p) : tset T p d b = T b := by unfold tset; rw [if_neg h]
theorem Sub.tset {T : Ty} {p : Addr} {d : D} (h : T p = none) : Sub T (tset T p d) := fun a e q => by
  have n : a ≠ p := fun z => by rw [z, h] at q; cases q
  rw [tset_ne n]; exact q

/-- a list of ints of the module itself -/
def KL (K : PySem.W.Frag) (a : Addr) (ns : List Int) : Prop := ∃ (o : Obj) (its : Array Value) (n : Nat), K.lookup a = some o ∧ o.cls = .type "list" ∧ o.dict = none ∧ o.data = .seq its n ∧ its.size ≤ sizeLine ∧ Vals (ns.map V.int) its.toList

/-- v stands for d; an object by what it is typed as -/
def RepT (G : Gm) (T : Ty) : V → D → Prop
  | .non, d => d = .non
  | .bl b, d => d = .bl b
  | .int i, d => d = .int i
  | .str x, d => d = .str x
  | .ref a, d => T a = some d ∨ ∃ ns, d = .scr ns ∧ KL G.K a ns
  | _, _ => False
abbrev Reps (G : Gm) (T : Ty) : List V → List D → Prop := Paired (RepT G T)

theorem RepT.mono {G : Gm} {T T' : Ty} (s : Sub T T') : ∀ {v : V} {d : D}, RepT G T v d → RepT G T' v d
  | .non, _, h => h
  | .bl _, _, h => h
  | .int _, _, h => h
  | .str _, _, h => h
  | .ref _, _, h => h.elim (fun q => .inl (s _ _ q)) .inr
  | .byt _, _, h => h.elim
  | .flt _, _, h => h.elim
  | .ty _, _, h => h.elim
theorem Reps.mono {G : Gm} {T T' : Ty} (s : Sub T T') {vs : List V} {ds : List D} (h : Reps G T vs ds) : Reps G T' vs ds := Paired.mapP h fun _ _ q => q.mono s

/-- the object a is a dict whose keys are tuples: their keys, addresses, values -/
def DN0 (P : Program) (w : World) (h : Heap) (a : Addr) (xs : List (NestedKey × Addr × V)) : Prop := (a == sysModules) = false ∧ xs.length ≤ sizeLine ∧ ∃ ys : List (NestedKey × Addr × Value),
  Paired (fun (x : NestedKey × Addr × V) (y : NestedKey × Addr × Value) => x.1 = y.1 ∧ x.2.1 = y.2.1 ∧ RelV x.2.2 y.2.2) xs ys ∧ ∃ o es ep, h.get? a = some o ∧ o.ExactDict ∧ o.data = .dict es ep ∧ es.toList = ys.map (entryOfKey (nestedKind P w)) ∧ (ys.map (·.1)).Nodup
def DN (P : Program) (w : World) (a : Addr) (xs : List (NestedKey × Addr × V)) : HO := .ext fun h => DN0 P w h a xs
/-- a key that is a tuple, as a NestedKey -/
def nk : D → Option NestedKey
  | .non => some .none
  | .bl b => some (.num (if b = true then 1 else 0))
  | .int i => some (.num i)
  | .str x => some (.text x)
  | .tup ds => match nks ds with
    | some ks => some (.tup ks)
    | none => none
  | _ => none
where nks : List D → Option (List NestedKey)
  | [] => some []
  | d :: ds => match nk d with
    | some k => match nks ds with
      | some ks => some (k :: ks)
      | none => none
    | none => none
/-- a tuple that can be a key -/
def nkey (d : D) : Option NestedKey := match d with
  | .tup ds => match nk (.tup ds) with
    | some k => if k.depth ≤ 8 then some k else none
    | none => none
  | _ => none
def tupI (ns : List Int) : D := .tup (ns.map D.int)

def keyD : Key → D
  | .inl i => .int i
  | .inr x => .str x

/-- the object at a is d, its items as T says -/
def Shape (G : Gm) (T : Ty) (H : Hp) (a : Addr) : D → Prop
  | .tup ds => ∃ vs, H a = some (.tup vs) ∧ Reps G T vs ds ∧ ds.length ≤ sizeLine
  | .lst ds => ∃ vs, H a = some (.lst vs) ∧ Reps G T vs ds ∧ ds.length ≤ sizeLine
  | .scr ns => (∃ o, H a = some (.frz o (.lst (ns.map V.int)))) ∧ ns.length ≤ sizeLine
  | .dic false ps => ∃ kvs : List (Key × V), Rd H a (.dK kvs) ∧ Paired (fun (kv : Key × V) (p : D × D) => p.1 = keyD kv.1 ∧ RepT G T kv.2 p.2) kvs ps
  | .dic true ps => ∃ xs : List (NestedKey × Addr × V), Rd H a (DN G.P G.w a xs) ∧ Paired (fun (x : NestedKey × Addr × V) (p : D × D) => nkey p.1 = some x.1 ∧ T x.2.1 = some p.1 ∧ RepT G T x.2.2 p.2) xs ps
  | .st rows => ∃ L : List (Addr × List Int), H a = some (SetTO G.P G.w a L) ∧ (∀ p ∈ L, p.2 ∈ rows ∧ T p.1 = some (tupI p.2)) ∧ ∀ r ∈ rows, r ∈ L.map (·.2)
  | .ins k fs => ∃ dx vs, H a = some (.ins (G.C k) dx ((G.fl k).zip vs)) ∧ vs.length ≤ (G.fl k).length ∧ Reps G T vs fs
  | .cch ls => H a = some (.dK []) ∨ ∃ t, H a = some (.dK [(.inr "there", .ref t)]) ∧ T t = some (.dic true (ls.map fun l => (l, .bl true)))
  | _ => False

theorem rd_at {H H' : Hp} {a : Addr} {u : HO} (e : H' a = H a) (h : Rd H a u) : Rd H' a u := by
  rcases h with h | ⟨o, h⟩
  · exact .inl (e.trans h)
  · exact .inr ⟨o, e.trans h⟩
theorem rd_some {H : Hp} {a : Addr} {u : HO} (h : Rd H a u) : H a ≠ none := by
  rcases h with h | ⟨o, h⟩ <;> (rw [h]; exact fun z => nomatch z)

section
variable {G : Gm} {T T' : Ty} {H H' : Hp} {a : Addr} {d : D}
theorem Shape.mono (s : Sub T T') (e : H' a = H a) (h : Shape G T H a d) : Shape G T' H' a d := by
  cases d with
  | tup ds => obtain ⟨vs, r, q, z⟩ := h; exact ⟨vs, e.trans r, q.mono s, z⟩
  | lst ds => obtain ⟨vs, r, q, z⟩ := h; exact ⟨vs, e.trans r, q.mono s, z⟩
  | scr ns => obtain ⟨⟨o, h⟩, z⟩ := h; exact ⟨⟨o, e.trans h⟩, z⟩
  | dic t ps =>
    cases t with
    | false => obtain ⟨kvs, r, q⟩ := h; exact ⟨kvs, rd_at e r, Paired.mapP q fun _ _ z => ⟨z.1, z.2.mono s⟩⟩
    | true => obtain ⟨kvs, r, q⟩ := h; exact ⟨kvs, rd_at e r, Paired.mapP q fun _ _ z => ⟨z.1, s _ _ z.2.1, z.2.2.mono s⟩⟩
  | st rows => obtain ⟨L, r, q, z⟩ := h; exact ⟨L, e.trans r, fun p hp => ⟨(q p hp).1, s _ _ (q p hp).2⟩, z⟩
  | ins k fs => obtain ⟨dx, vs, r, l, q⟩ := h; exact ⟨dx, vs, e.trans r, l, q.mono s⟩
  | cch ls =>
    rcases h with h | ⟨t, h, q⟩
    · exact .inl (e.trans h)
    · exact .inr ⟨t, e.trans h, s _ _ q⟩
  | _ => exact (show False from h).elim
theorem Shape.some (h : Shape G T H a d) : H a ≠ none := by
  cases d with
  | tup ds => obtain ⟨vs, r, q⟩ := h; rw [r]; exact fun z => nomatch z
  | lst ds => obtain ⟨vs, r, q⟩ := h; rw [r]; exact fun z => nomatch z
  | scr ns => obtain ⟨⟨o, h⟩, z⟩ := h; rw [h]; exact fun z => nomatch z
  | dic t ps =>
    cases t with
    | false => obtain ⟨kvs, r, q⟩ := h; exact rd_some r
    | true => obtain ⟨kvs, r, q⟩ := h; exact rd_some r
  | st rows => obtain ⟨L, r, q⟩ := h; rw [r]; exact fun z => nomatch z
  | ins k fs => obtain ⟨dx, vs, r, l, q⟩ := h; rw [r]; exact fun z => nomatch z
  | cch ls => rcases h with h | ⟨t, h, q⟩ <;> (rw [h]; exact fun z => nomatch z)
  | _ => exact (show False from h).elim
end

def Good (G : Gm) (T : Ty) (H : Hp) : Prop := ∀ a d, T a = some d → Shape G T H a d
theorem Good.free {G : Gm} {T : Ty} {H : Hp} (g : Good G T H) {p : Addr} (h : H p = none) : T p = none := by
  cases q : T p with
  | none => rfl
  | some d => exact absurd h (g p d q).some

/-- what a step may do: R are the roots that it may change -/
structure Step (G : Gm) (T : Ty) (H : Hp) (T' : Ty) (H' : Hp) (R : Addr → Prop) : Prop where
  sub : Sub T T'
  good : Good G T' H'
  dom : ∀ a, H a ≠ none → H' a ≠ none
  frm : ∀ a o, H a = some o → T a = none → ¬ R a → H' a = some o ∧ T' a = none
theorem Step.refl {G : Gm} {T : Ty} {H : Hp} {R : Addr → Prop} (g : Good G T H) : Step G T H T H R := ⟨Sub.refl T, g, fun _ h => h, fun _ _ h t _ => ⟨h, t⟩⟩
theorem Step.trans {G : Gm} {T T1 T2 : Ty} {H H1 H2 : Hp} {R R' : Addr → Prop} (a : Step G T H T1 H1 R) (b : Step G T1 H1 T2 H2 R') (s : ∀ x, R' x → R x ∨ H x = none) : Step G T H T2 H2 R :=
  ⟨a.sub.trans b.sub, b.good, fun x h => b.dom x (a.dom x h), fun x o h t n => by
    obtain ⟨h1, t1⟩ := a.frm x o h t n
    exact b.frm x o h1 t1 fun z => (s x z).elim n fun q => by rw [h] at q; cases q⟩
theorem Step.mono {G : Gm} {T T1 : Ty} {H H1 : Hp} {R R' : Addr → Prop} (a : Step G T H T1 H1 R) (s : ∀ x, R x → R' x) : Step G T H T1 H1 R' :=
  ⟨a.sub, a.good, a.dom, fun x o h t n => a.frm x o h t fun z => n (s x z)⟩

/-- a new object, typed -/
theorem Step.lay {G : Gm} {T : Ty} {H : Hp} {R : Addr → Prop} (g : Good G T H) {p : Addr} (hp : H p = none) (o : HO) {d : D} (h : Shape G (tset T p d) (upd H p o) p d) : Step G T H (tset T p d) (upd H p o) R := by
  have tp : T p = none := g.free hp
  refine ⟨Sub.tset tp, fun a e q => ?_, fun a h z => ?_, fun a u h t _ => ?_⟩
  · by_cases ap : a = p
    · subst ap; rw [tset_same] at q; cases q; exact h
    · rw [tset_ne ap] at q
      exact (g a e q).mono (Sub.tset tp) (upd_ne ap)
  · by_cases ap : a = p
    · rw [ap] at h; exact h hp
    · rw [upd_ne ap] at z; exact h z
  · have ap : a ≠ p := ne_of_none h hp
    exact ⟨by rw [upd_ne ap]; exact h, by rw [tset_ne ap]; exact t⟩
/-- a new object, not typed (a temporary's root, or garbage) -/
theorem Step.new {G : Gm} {T : Ty} {H : Hp} {R : Addr → Prop} (g : Good G T H) {p : Addr} (hp : H p = none) (o : HO) : Step G T H T (upd H p o) R := by
  have tp : T p = none := g.free hp
  refine ⟨Sub.refl T, fun a e q => ?_, fun a h z => ?_, fun a u h t _ => ?_⟩
  · have ap : a ≠ p := fun z => by rw [z, tp] at q; cases q
    exact (g a e q).mono (Sub.refl T) (upd_ne ap)
  · by_cases ap : a = p
    · rw [ap] at h; exact h hp
    · rw [upd_ne ap] at z; exact h z
  · have ap : a ≠ p := ne_of_none h hp
    exact ⟨by rw [upd_ne ap]; exact h, t⟩
/-- a root is written -/
theorem Step.write {G : Gm} {T : Ty} {H : Hp} {R : Addr → Prop} (g : Good G T H) {p : Addr} (tp : T p = none) (r : R p) (o : HO) : Step G T H T (upd H p o) R := by
  refine ⟨Sub.refl T, fun a e q => ?_, fun a h z => ?_, fun a u h t n => ?_⟩
  · have ap : a ≠ p := fun z => by rw [z, tp] at q; cases q
    exact (g a e q).mono (Sub.refl T) (upd_ne ap)
  · by_cases ap : a = p
    · rw [ap, upd_same] at z; cases z
    · rw [upd_ne ap] at z; exact h z
  · have ap : a ≠ p := fun z => n (z ▸ r)
    exact ⟨by rw [upd_ne ap]; exact h, t⟩
/-- a root is frozen: typed from now on -/
theorem Step.freeze {G : Gm} {T : Ty} {H : Hp} {R : Addr → Prop} (g : Good G T H) {p : Addr} (tp : T p = none) (r : R p) {d : D} (h : Shape G T H p d) : Step G T H (tset T p d) H R := by
  refine ⟨Sub.tset tp, fun a e q => ?_, fun a h => h, fun a u h t n => ?_⟩
  · by_cases ap : a = p
    · subst ap; rw [tset_same] at q; cases q; exact h.mono (Sub.tset tp) rfl
    · rw [tset_ne ap] at q
      exact (g a e q).mono (Sub.tset tp) rfl
  · have ap : a ≠ p := fun z => n (z ▸ r)
    exact ⟨h, by rw [tset_ne ap]; exact t⟩

/-- the object at a belongs to one holder alone and may be written -/
structure Own (G : Gm) (T : Ty) (H : Hp) (a : Addr) (d : D) : Prop where
  ty : T a = none
  sh : Shape G T H a d
  mu : Mut (H a)
theorem Own.step {G : Gm} {T T' : Ty} {H H' : Hp} {R : Addr → Prop} {a : Addr} {d : D} (o : Own G T H a d) (s : Step G T H T' H' R) (n : ¬ R a) : Own G T' H' a d := by
  obtain ⟨u, hu⟩ : ∃ u, H a = some u := by
    cases q : H a with
    | none => exact absurd q o.sh.some
    | some u => exact ⟨u, rfl⟩
  obtain ⟨h1, t1⟩ := s.frm a u hu o.ty n
  exact ⟨t1, o.sh.mono s.sub (h1.trans hu.symm), by rw [h1, ← hu]; exact o.mu⟩
theorem Mut.nofrz {o : Obj} {u : HO} (h : Mut (some (.frz o u))) : False := h
theorem Own.lst {G : Gm} {T : Ty} {H : Hp} {a : Addr} {ds : List D} (o : Own G T H a (.lst ds)) : ∃ vs, H a = some (.lst vs) ∧ Reps G T vs ds ∧ ds.length ≤ sizeLine := by
  obtain ⟨_, ⟨vs, r, q⟩, mu⟩ := o
  exact ⟨vs, r, q⟩

/-- a slot: a value that stays as it is, or a root: the def's own (true), or its caller's (false) -/
inductive SV where
  | imm (d : D) | rt (k : Bool) (d : D)
abbrev DSt := List (Option SV)

structure Rel (G : Gm) (T : Ty) (st : DSt) (σ : L2.St) (H : Hp) : Prop where
  good : Good G T H
  len : st.length = σ.length
  imm : ∀ (i : Nat) d, st[i]? = some (some (.imm d)) → ∃ v, σ[i]? = some (some v) ∧ RepT G T v d
  rts : ∀ (i : Nat) k d, st[i]? = some (some (.rt k d)) → ∃ a, σ[i]? = some (some (.ref a)) ∧ Own G T H a d
  inj : ∀ (i j : Nat) k k' d d' a, st[i]? = some (some (.rt k d)) → st[j]? = some (some (.rt k' d')) → σ[i]? = some (some (.ref a)) → σ[j]? = some (some (.ref a)) → i = j
def Root (st : DSt) (σ : L2.St) (a : Addr) : Prop := ∃ (i : Nat) (k : Bool) (d : D), st[i]? = some (some (.rt k d)) ∧ σ[i]? = some (some (.ref a))

/-- what an expression is worth: data that stays; a new object's content (nobody else has it); the root in a slot -/
inductive R where
  | imm (d : D) | own (d : D) | slot (i : Nat)

def getD (st : DSt) (i : Nat) : Option D := match st[i]? with
  | some (some (.imm d)) => some d
  | some (some (.rt _ d)) => some d
  | _ => none
def cont (st : DSt) : R → Option D
  | .imm d => some d
  | .own d => some d
  | .slot i => getD st i

/-- a scalar's own value -/
def scaV : D → Option V
  | .non => some .non
  | .bl b => some (.bl b)
  | .int i => some (.int i)
  | .str x => some (.str x)
  | _ => none
/-- v can be read as d now -/
def Sees (G : Gm) (T : Ty) (H : Hp) (v : V) (d : D) : Prop := RepT G T v d ∨ ∃ a, v = .ref a ∧ Own G T H a d

/-- the value v of an expression is r; H₀ the heap at its start -/
def ResOk (G : Gm) (T : Ty) (st : DSt) (σ : L2.St) (H₀ H : Hp) (v : V) : R → Prop
  | .imm d => RepT G T v d
  | .own d => ∃ a, v = .ref a ∧ H₀ a = none ∧ Own G T H a d
  | .slot i => σ[i]? = some (some v) ∧ ∃ sv, st[i]? = some (some sv)

/-- a step of an expression: slots only lose roots -/
structure EStep (G : Gm) (T : Ty) (st : DSt) (σ : L2.St) (H : Hp) (T' : Ty) (st' : DSt) (H' : Hp) : Prop where
  rel : Rel G T' st' σ H'
  step : Step G T H T' H' (Root st σ)
  kind : ∀ (i : Nat) k d, st'[i]? = some (some (.rt k d)) → ∃ d0, st[i]? = some (some (.rt k d0))
  some : ∀ (i : Nat) sv, st[i]? = some (some sv) → ∃ sv', st'[i]? = some (some sv')

section
variable {G : Gm} {T T1 T2 : Ty} {st st1 st2 : DSt} {σ : L2.St} {H H1 H2 : Hp} {v : V} {d : D} {r : R}
theorem EStep.root (e : EStep G T st σ H T1 st1 H1) {a : Addr} (h : Root st1 σ a) : Root st σ a := by
  obtain ⟨i, k, d, h1, h2⟩ := h
  obtain ⟨d0, h0⟩ := e.kind i k d h1
  exact ⟨i, k, d0, h0, h2⟩
theorem EStep.refl (r : Rel G T st σ H) : EStep G T st σ H T st H := ⟨r, Step.refl r.good, fun _ _ d h => ⟨d, h⟩, fun _ sv h => ⟨sv, h⟩⟩
theorem EStep.trans (a : EStep G T st σ H T1 st1 H1) (b : EStep G T1 st1 σ H1 T2 st2 H2) : EStep G T st σ H T2 st2 H2 :=
  ⟨b.rel, a.step.trans b.step fun _ h => .inl (a.root h), fun i k d h => by
    obtain ⟨d1, h1⟩ := b.kind i k d h
    exact a.kind i k d1 h1, fun i sv h => by
    obtain ⟨s1, h1⟩ := a.some i sv h
    exact b.some i s1 h1⟩
theorem Rel.root_own (r : Rel G T st σ H) {a : Addr} (h : Root st σ a) : H a ≠ none ∧ T a = none := by
  obtain ⟨i, k, d, h1, h2⟩ := h
  obtain ⟨b, h3, o⟩ := r.rts i k d h1
  rw [h2] at h3; cases h3
  exact ⟨o.sh.some, o.ty⟩
/-- steps that leave the roots: new objects alone -/
theorem Rel.keep (r : Rel G T st σ H) (s : Step G T H T1 H1 fun _ => False) : Rel G T1 st σ H1 :=
  ⟨s.good, r.len, fun i d h => by obtain ⟨v, h1, h2⟩ := r.imm i d h; exact ⟨v, h1, h2.mono s.sub⟩,
    fun i k d h => by obtain ⟨a, h1, o⟩ := r.rts i k d h; exact ⟨a, h1, o.step s fun z => z⟩, r.inj⟩
theorem Rel.ekeep (r : Rel G T st σ H) (s : Step G T H T1 H1 fun _ => False) : EStep G T st σ H T1 st H1 :=
  ⟨r.keep s, s.mono fun _ z => z.elim, fun _ _ d h => ⟨d, h⟩, fun _ sv h => ⟨sv, h⟩⟩

theorem Sees.of_rep (h : RepT G T v d) : Sees G T H v d := .inl h
/-- what an expression gave, read later on -/
theorem sees_of {H₀ : Hp} (rl : Rel G T st σ H) (h : ResOk G T st σ H₀ H v r) (c : cont st r = some d) : Sees G T H v d := by
  cases r with
  | imm e => cases c; exact .inl h
  | own e => cases c; obtain ⟨a, ha, _, o⟩ := h; exact .inr ⟨a, ha, o⟩
  | slot i =>
    obtain ⟨h1, sv, h2⟩ := h
    cases sv with
    | imm e =>
      have e' : some e = some d := by rw [← c]; simp [cont, getD, h2]
      rw [Option.some.inj e'] at h2
      obtain ⟨w, h3, h4⟩ := rl.imm i d h2
      rw [h1] at h3; cases h3
      exact .inl h4
    | rt k e =>
      have e' : some e = some d := by rw [← c]; simp [cont, getD, h2]
      rw [Option.some.inj e'] at h2
      obtain ⟨a, h3, o⟩ := rl.rts i k d h2
      rw [h1] at h3; cases h3
      exact .inr ⟨a, rfl, o⟩
theorem ResOk.later {H₀ : Hp} (h : ResOk G T1 st1 σ H₀ H1 v r) (n : ∀ a d, r = .own d → Root st1 σ a → H₀ a ≠ none) (s : EStep G T1 st1 σ H1 T2 st2 H2) : ResOk G T2 st2 σ H₀ H2 v r := by
  cases r with
  | imm e => exact RepT.mono s.step.sub h
  | own e =>
    obtain ⟨a, ha, hn, o⟩ := h
    exact ⟨a, ha, hn, o.step s.step fun z => n a e rfl z hn⟩
  | slot i =>
    obtain ⟨h1, sv, h2⟩ := h
    exact ⟨h1, s.some i sv h2⟩
/-- .. where it was given behind a step from H -/
theorem ResOk.pass (rl : Rel G T st σ H) (e : EStep G T st σ H T1 st1 H1) (h : ResOk G T1 st1 σ H H1 v r) (s : EStep G T1 st1 σ H1 T2 st2 H2) : ResOk G T2 st2 σ H H2 v r :=
  h.later (fun a d _ z => (rl.root_own (e.root z)).1) s
theorem ResOk.back {H₀ : Hp} (dm : ∀ a, H₀ a ≠ none → H a ≠ none) (h : ResOk G T st σ H H1 v r) : ResOk G T st σ H₀ H1 v r := by
  cases r with
  | imm e => exact h
  | own e =>
    obtain ⟨a, ha, hn, o⟩ := h
    refine ⟨a, ha, ?_, o⟩
    cases q : H₀ a with
    | none => rfl
    | some u => exact absurd hn (dm a (by rw [q]; exact fun z => nomatch z))
  | slot i => exact h

/-- what is seen as a tuple, a list -/
theorem Sees.heap (g : Good G T H) (h : Sees G T H v d) (n : scaV d = none) : (∃ a, v = .ref a ∧ Shape G T H a d) ∨ ∃ a ns, v = .ref a ∧ d = .scr ns ∧ KL G.K a ns := by
  rcases h with h | ⟨a, e, o⟩
  · cases v with
    | ref a =>
      rcases h with h | ⟨ns, h, k⟩
      · exact .inl ⟨a, rfl, g a _ h⟩
      · exact .inr ⟨a, ns, rfl, h, k⟩
    | non => cases (show d = .non from h); cases n
    | bl b => cases (show d = .bl b from h); cases n
    | int i => cases (show d = .int i from h); cases n
    | str x => cases (show d = .str x from h); cases n
    | _ => exact (show False from h).elim
  · exact .inl ⟨a, e, o.sh⟩
theorem Sees.tup {ds : List D} (g : Good G T H) (h : Sees G T H v (.tup ds)) : ∃ a vs, v = .ref a ∧ SqT G.K H a vs ∧ H a = some (.tup vs) ∧ Reps G T vs ds ∧ ds.length ≤ sizeLine := by
  rcases h.heap g rfl with ⟨a, rfl, vs, r, q⟩ | ⟨a, ns, _, e, _⟩
  · exact ⟨a, vs, rfl, .of r, r, q⟩
  · cases e
theorem Sees.tupT {ds : List D} (h : Sees G T H v (.tup ds)) : RepT G T v (.tup ds) := by
  rcases h with h | ⟨a, e, o⟩
  · exact h
  · obtain ⟨_, ⟨vs, r, _⟩, mu⟩ := o
    rw [r] at mu; exact (show False from mu).elim
theorem reps_ints : ∀ ns : List Int, Reps G T (ns.map V.int) (ns.map D.int)
  | [] => .nil
  | _ :: ns => .cons rfl (reps_ints ns)
theorem Sees.lst {ds : List D} (g : Good G T H) (h : Sees G T H v (.lst ds)) : ∃ a vs, v = .ref a ∧ SqL G.K H a vs ∧ H a = some (.lst vs) ∧ Reps G T vs ds ∧ ds.length ≤ sizeLine := by
  rcases h.heap g rfl with ⟨a, rfl, vs, r, q⟩ | ⟨a, ns, _, e, _⟩
  · exact ⟨a, vs, rfl, .of r, r, q⟩
  · cases e
theorem Sees.scr {ns : List Int} (g : Good G T H) (h : Sees G T H v (.scr ns)) : ∃ a, v = .ref a ∧ SqL G.K H a (ns.map V.int) ∧ ns.length ≤ sizeLine := by
  rcases h.heap g rfl with ⟨a, rfl, ⟨o, r⟩, z⟩ | ⟨a, ns', rfl, e, k⟩
  · exact ⟨a, rfl, .inl (.inr ⟨o, r⟩), z⟩
  · cases e
    obtain ⟨ob, its, n, k1, k2, k3, k4, k5, k6⟩ := k
    have hl := k6.length
    simp only [List.length_map, Array.length_toList] at hl
    exact ⟨a, rfl, .inr ⟨ob, its, n, k1, k2, k3, k4, k5, k6⟩, by omega⟩
theorem Sees.sca (g : Good G T H) {u : V} (e : scaV d = some u) (h : Sees G T H v d) : v = u := by
  have no : ∀ a, ¬ Shape G T H a d := fun a z => by
    cases d with
    | non => exact z
    | bl b => exact z
    | int i => exact z
    | str x => exact z
    | _ => cases e
  rcases h with h | ⟨a, _, h⟩
  · cases v with
    | ref a =>
      rcases h with h | ⟨ds, h, _⟩
      · exact (no a (g a d h)).elim
      · rw [h] at e; cases e
    | non => rw [show d = .non from h] at e; cases e; rfl
    | bl b => rw [show d = .bl b from h] at e; cases e; rfl
    | int i => rw [show d = .int i from h] at e; cases e; rfl
    | str x => rw [show d = .str x from h] at e; cases e; rfl
    | _ => exact h.elim
  · exact (no a h.sh).elim
theorem Sees.int {i : Int} (g : Good G T H) (h : Sees G T H v (.int i)) : v = .int i := h.sca g rfl
theorem Sees.bl {b : Bool} (g : Good G T H) (h : Sees G T H v (.bl b)) : v = .bl b := h.sca g rfl
theorem Sees.str {x : Str} (g : Good G T H) (h : Sees G T H v (.str x)) : v = .str x := h.sca g rfl
theorem Sees.non (g : Good G T H) (h : Sees G T H v .non) : v = .non := h.sca g rfl
end
end LD

/-! Layer D: expressions. -/
namespace LD
open PySem PySem.Spec PyProof.Rows L2

abbrev M := DSt → Option (R × DSt)
abbrev MT := DSt → Option (Bool × DSt)
/-- the reading t keeps to the data-level meaning m -/
def OkE (G : Gm) (t : TE) (m : M) : Prop := ∀ (T : Ty) (st : DSt) (σ : L2.St) (H : Hp) (r : R) (st' : DSt), Rel G T st σ H → m st = some (r, st') →
  ∀ Q : VK, (∀ T' v H', EStep G T st σ H T' st' H' → ResOk G T' st' σ H H' v r → Q v H') → t σ H Q
def OkT (G : Gm) (t : TT) (m : MT) : Prop := ∀ (T : Ty) (st : DSt) (σ : L2.St) (H : Hp) (b : Bool) (st' : DSt), Rel G T st σ H → m st = some (b, st') →
  ∀ Q : Bool → Hp → Prop, (∀ T' H', EStep G T st σ H T' st' H' → Q b H') → t σ H Q

/-- new objects alone -/
abbrev NStep (G : Gm) (T : Ty) (H : Hp) (T' : Ty) (H' : Hp) : Prop := Step G T H T' H' fun _ => False
/-- what a plain operation gives -/
def ResN (G : Gm) (T : Ty) (H₀ H : Hp) (v : V) : R → Prop
  | .imm d => RepT G T v d
  | .own d => ∃ a, v = .ref a ∧ H₀ a = none ∧ Own G T H a d
  | .slot _ => False
def OkR2 (G : Gm) (r : R2) (f : D → D → Option R) : Prop := ∀ (T : Ty) (H : Hp) (x y : V) (dx dy : D) (res : R), Good G T H → Sees G T H x dx → Sees G T H y dy → f dx dy = some res →
  ∀ Q : VK, (∀ T' v H', NStep G T H T' H' → ResN G T' H H' v res → Q v H') → r x y H Q
def OkR1 (G : Gm) (r : V → Hp → VK → Prop) (f : D → Option R) : Prop := ∀ (T : Ty) (H : Hp) (x : V) (dx : D) (res : R), Good G T H → Sees G T H x dx → f dx = some res →
  ∀ Q : VK, (∀ T' v H', NStep G T H T' H' → ResN G T' H H' v res → Q v H') → r x H Q

section
variable {G : Gm} {T T1 T2 : Ty} {st st1 st2 : DSt} {σ : L2.St} {H H1 H2 : Hp} {v : V} {d : D} {r : R}
theorem ResN.res (e : EStep G T st σ H T1 st1 H1) (h : ResN G T2 H1 H2 v r) : ResOk G T2 st2 σ H H2 v r := by
  cases r with
  | imm d => exact h
  | own d =>
    obtain ⟨a, h1, h2, h3⟩ := h
    refine ⟨a, h1, ?_, h3⟩
    cases q : H a with
    | none => rfl
    | some u => exact absurd h2 (e.step.dom a (by rw [q]; exact fun z => nomatch z))
  | slot i => exact (show False from h).elim

/-! ### names, constants -/
def mVar (i : Nat) : M := fun st => match st[i]? with
  | some (some (.imm d)) => some (.imm d, st)
  | some (some (.rt _ _)) => some (.slot i, st)
  | _ => none
theorem ok_var (i : Nat) : OkE G (tVar i) (mVar i) := by
  intro T st σ H r st' rl e Q k
  unfold mVar at e
  split at e
  · rename_i d h
    cases e
    obtain ⟨v, h1, h2⟩ := rl.imm i d h
    exact ⟨v, h1, k T v H (EStep.refl rl) h2⟩
  · rename_i kk d h
    cases e
    obtain ⟨a, h1, o⟩ := rl.rts i kk d h
    exact ⟨.ref a, h1, k T _ H (EStep.refl rl) ⟨h1, _, h⟩⟩
  · cases e
def mC (d : D) : M := fun st => some (.imm d, st)
theorem ok_c {u : V} (h : ∀ T, RepT G T u d) : OkE G (tC u) (mC d) := by
  intro T st σ H r st' rl e Q k
  cases e
  exact k T u H (EStep.refl rl) (h T)

/-! ### one and two places -/
def mBin (f : D → D → Option R) (a b : M) : M := fun st => match a st with
  | none => none
  | some (ra, s1) => match b s1 with
    | none => none
    | some (rb, s2) => match cont s2 ra, cont s2 rb with
      | some x, some y => match f x y with
        | some res => some (res, s2)
        | none => none
      | _, _ => none
theorem ok_bin {rr : R2} {f : D → D → Option R} {ta tb : TE} {a b : M} (ha : OkE G ta a) (hb : OkE G tb b) (hr : OkR2 G rr f) : OkE G (tOp rr ta tb) (mBin f a b) := by
  intro T st σ H res st' rl e Q k
  unfold mBin at e
  split at e
  · cases e
  · rename_i ra s1 e1
    split at e
    · cases e
    · rename_i rb s2 e2
      split at e
      · rename_i x y cx cy
        split at e
        · rename_i z ez
          cases e
          refine ha T st σ H ra s1 rl e1 _ fun T1 v1 H1 E1 R1 => ?_
          refine hb T1 s1 σ H1 rb _ E1.rel e2 _ fun T2 v2 H2 E2 R2 => ?_
          have S1 := sees_of E2.rel (R1.pass rl E1 E2) cx
          have S2 := sees_of E2.rel R2 cy
          refine hr T2 H2 v1 v2 x y res E2.rel.good S1 S2 ez _ fun T3 v3 H3 N3 R3 => ?_
          have E := E1.trans E2
          exact k T3 v3 H3 (E.trans (E.rel.ekeep N3)) (R3.res E)
        · cases e
      · cases e
def mUn (f : D → Option R) (a : M) : M := fun st => match a st with
  | none => none
  | some (ra, s1) => match cont s1 ra with
    | some x => match f x with
      | some res => some (res, s1)
      | none => none
    | none => none
theorem ok_un {rr : V → Hp → VK → Prop} {f : D → Option R} {ta : TE} {a : M} (ha : OkE G ta a) (hr : OkR1 G rr f) : OkE G (tUn rr ta) (mUn f a) := by
  intro T st σ H res st' rl e Q k
  unfold mUn at e
  split at e
  · cases e
  · rename_i ra s1 e1
    split at e
    · rename_i x cx
      split at e
      · rename_i z ez
        cases e
        refine ha T st σ H ra _ rl e1 _ fun T1 v1 H1 E1 R1 => ?_
        refine hr T1 H1 v1 x res E1.rel.good (sees_of E1.rel R1 cx) ez _ fun T3 v3 H3 N3 R3 => ?_
        exact k T3 v3 H3 (E1.trans (E1.rel.ekeep N3)) (R3.res E1)
      · cases e
    · cases e

/-! ### the operators -/
def ri (i : Int) : Option R := some (.imm (.int i))
def rb (b : Bool) : Option R := some (.imm (.bl b))
/-- a scalar comes, the heap stays -/
theorem one (g : Good G T H) {Q : VK} {res : R} (k : ∀ T' v H', NStep G T H T' H' → ResN G T' H H' v res → Q v H') {u : V} (h : ResN G T H H u res) : Q u H := k T u H (Step.refl g) h

def dIn2 (f : Int → Int → Option R) : D → D → Option R
  | .int i, .int j => f i j
  | _, _ => none
theorem okI0 {g : Int → Int → Int} : OkR2 G (rI0 fun i j => .int (g i j)) (dIn2 fun i j => ri (g i j)) := by
  intro T H x y dx dy res gd sx sy e Q k
  unfold dIn2 at e
  split at e
  · rename_i i j
    cases e
    exact ⟨i, j, sx.int gd, sy.int gd, one gd k rfl⟩
  · cases e
theorem okB0 {g : Int → Int → Bool} : OkR2 G (rI0 fun i j => .bl (g i j)) (dIn2 fun i j => rb (g i j)) := by
  intro T H x y dx dy res gd sx sy e Q k
  unfold dIn2 at e
  split at e
  · rename_i i j
    cases e
    exact ⟨i, j, sx.int gd, sy.int gd, one gd k rfl⟩
  · cases e
theorem okI {C : Int → Int → Prop} [∀ i j, Decidable (C i j)] {g : Int → Int → Int} : OkR2 G (rI C fun i j => .int (g i j)) (dIn2 fun i j => if C i j then ri (g i j) else none) := by
  intro T H x y dx dy res gd sx sy e Q k
  unfold dIn2 at e
  split at e
  · rename_i i j
    dsimp only at e
    split at e
    · rename_i hc
      cases e
      exact ⟨i, j, sx.int gd, sy.int gd, hc, one gd k rfl⟩
    · cases e
  · cases e
instance (i j : Int) : Decidable (CDiv i j) := by unfold CDiv; infer_instance
instance (i j : Int) : Decidable (CMul i j) := by unfold CMul; infer_instance
instance (i j : Int) : Decidable (CPow i j) := by unfold CPow; infer_instance
def dAddI : D → D → Option R := dIn2 fun i j => ri (i + j)
def dSub : D → D → Option R := dIn2 fun i j => ri (i - j)
def dMul : D → D → Option R := dIn2 fun i j => if CMul i j then ri (i * j) else none
def dDiv : D → D → Option R := dIn2 fun i j => if CDiv i j then ri (i / j) else none
def dMod : D → D → Option R := dIn2 fun i j => if 0 < j then ri (i % j) else none
def dPow : D → D → Option R := dIn2 fun i j => if CPow i j then ri (i ^ j.toNat) else none
def dShl : D → D → Option R := dIn2 fun i j => if CPow i j then ri (i * 2 ^ j.toNat) else none
def dShr : D → D → Option R := dIn2 fun i j => if 0 ≤ j then ri (i / 2 ^ j.toNat) else none
def dLt : D → D → Option R := dIn2 fun i j => rb (decide (i < j))
def dLe : D → D → Option R := dIn2 fun i j => rb (decide (i ≤ j))
def dGt : D → D → Option R := dIn2 fun i j => rb (decide (j < i))
def dGe : D → D → Option R := dIn2 fun i j => rb (decide (j ≤ i))
theorem ok_addI : OkR2 G (rI0 fun i j => .int (i + j)) dAddI := okI0
theorem ok_sub : OkR2 G (rI0 fun i j => .int (i - j)) dSub := okI0
theorem ok_mul : OkR2 G (rI CMul fun i j => .int (i * j)) dMul := okI
theorem ok_div : OkR2 G (rI CDiv fun i j => .int (i / j)) dDiv := okI
theorem ok_mod : OkR2 G (rI (fun _ j => 0 < j) fun i j => .int (i % j)) dMod := okI
theorem ok_pow : OkR2 G (rI CPow fun i j => .int (i ^ j.toNat)) dPow := okI
theorem ok_shl : OkR2 G (rI CPow fun i j => .int (i * 2 ^ j.toNat)) dShl := okI
theorem ok_shr : OkR2 G (rI (fun _ j => 0 ≤ j) fun i j => .int (i / 2 ^ j.toNat)) dShr := okI
theorem ok_lt : OkR2 G (rI0 fun i j => .bl (decide (i < j))) dLt := okB0
theorem ok_le : OkR2 G (rI0 fun i j => .bl (decide (i ≤ j))) dLe := okB0
theorem ok_gt : OkR2 G (rI0 fun i j => .bl (decide (j < i))) dGt := okB0
theorem ok_ge : OkR2 G (rI0 fun i j => .bl (decide (j ≤ i))) dGe := okB0
/-- two rules for one operation: by what the data are -/
theorem OkR2.or {r r' : R2} {f f' : D → D → Option R} (h : OkR2 G r f) (h' : OkR2 G r' f') : OkR2 G (fun x y H Q => r x y H Q ∨ r' x y H Q) (fun x y => match f x y with | some z => some z | none => f' x y) := by
  intro T H x y dx dy res gd sx sy e Q k
  simp only at e
  split at e
  · rename_i z ez
    cases e
    exact .inl (h T H x y dx dy res gd sx sy ez Q k)
  · exact .inr (h' T H x y dx dy res gd sx sy e Q k)
/-- t + u -/
def dCat : D → D → Option R
  | .tup xs, .tup ys => if xs.length + ys.length ≤ sizeLine then some (.imm (.tup (xs ++ ys))) else none
  | _, _ => none
theorem reps_app {xs ys : List V} {ds es : List D} (h : Reps G T xs ds) (h' : Reps G T ys es) : Reps G T (xs ++ ys) (ds ++ es) := by
  induction h with
  | nil => exact h'
  | cons a t ih => exact .cons a ih
theorem ok_cat : OkR2 G (rCatA G.K) dCat := by
  intro T H x y dx dy res gd sx sy e Q k
  unfold dCat at e
  split at e
  · rename_i xs ys
    split at e
    · rename_i hz
      cases e
      obtain ⟨a, vs, rfl, qa, ra, ka, la⟩ := sx.tup gd
      obtain ⟨b, ws, rfl, qb, rb, kb, lb⟩ := sy.tup gd
      have l1 := ka.length
      have l2 := kb.length
      refine ⟨a, b, vs, ws, rfl, rfl, qa, qb, by omega, fun e => ?_, fun _ e => ?_, fun _ _ p hp => ?_⟩
      · subst e
        cases ka
        exact one gd k sy.tupT
      · subst e
        cases kb
        refine one gd k ?_
        show RepT G T (V.ref a) (.tup (xs ++ []))
        rw [List.append_nil]
        exact sx.tupT
      · have tp := gd.free hp
        refine k (tset T p (.tup (xs ++ ys))) (.ref p) _ (Step.lay gd hp _ ⟨vs ++ ws, upd_same, (reps_app ka kb).mono (Sub.tset tp), by rw [List.length_append]; exact hz⟩) (.inl tset_same)
    · cases e
  · cases e
/-- xs + ys of lists -/
def dCatL : D → D → Option R
  | .lst xs, .lst ys => if xs.length + ys.length ≤ sizeLine then some (.own (.lst (xs ++ ys))) else none
  | _, _ => none
end

/-! ### what a value is as a Dp (for == and in) -/
mutual
def toPy : D → PyData
  | .non => .none
  | .bl b => .bool b
  | .int i => .int i
  | .str x => .str x
  | .tup xs => .tuple (toPys xs)
  | .lst xs => .list (toPys xs)
  | .dic _ _ => .dict []
  | .st _ => .dict []
  | .ins _ _ => .dict []
  | .cch _ => .dict []
  | .scr _ => .dict []
def toPys : List D → List PyData
  | [] => []
  | x :: xs => toPy x :: toPys xs
end
section
variable {G : Gm} {T : Ty} {H : Hp}
theorem Sees.child {v : V} {d : D} (h : RepT G T v d) : Sees G T H v d := .inl h
mutual
theorem dp_of (g : Good G T H) : ∀ (d : D) (v : V), PyData.canLay0 (toPy d) = true → Sees G T H v d → Dp G.K H v (toPy d)
  | .non, v, _, h => by rw [h.non g]; exact .non
  | .bl b, v, _, h => by rw [h.bl g]; exact .bl b
  | .int i, v, _, h => by rw [h.int g]; exact .int i
  | .str x, v, _, h => by rw [h.str g]; exact .str x
  | .tup ds, v, c, h => by
    obtain ⟨a, vs, rfl, q, _, k, _⟩ := h.tup g
    exact .tup q (dps_of g ds vs (by simpa [toPy, PyData.canLay0] using c) k)
  | .lst ds, v, c, h => by
    obtain ⟨a, vs, rfl, q, _, k, _⟩ := h.lst g
    exact .lst q (dps_of g ds vs (by simpa [toPy, PyData.canLay0] using c) k)
  | .dic _ _, v, c, h => by simp [toPy, PyData.canLay0] at c
  | .st _, v, c, h => by simp [toPy, PyData.canLay0] at c
  | .ins _ _, v, c, h => by simp [toPy, PyData.canLay0] at c
  | .cch _, v, c, h => by simp [toPy, PyData.canLay0] at c
  | .scr _, v, c, h => by simp [toPy, PyData.canLay0] at c
theorem dps_of (g : Good G T H) : ∀ (ds : List D) (vs : List V), PyData.canLayAll0 (toPys ds) = true → Reps G T vs ds → DpAll G.K H vs (toPys ds)
  | [], vs, _, h => by cases h; exact .nil
  | d :: ds, vs, c, h => by
    cases h with
    | cons h t =>
      have c' : PyData.canLay0 (toPy d) = true ∧ PyData.canLayAll0 (toPys ds) = true := by simpa [toPys, PyData.canLayAll0] using c
      exact .cons (dp_of g d _ c'.1 (.inl h)) (dps_of g ds _ c'.2 t)
end
def shp (d : D) : Bool := SeqAt.shaped (toPy d)
def dEq (x y : D) : Option R := if shp x = true ∧ shp y = true then rb (PyData.eqv (toPy x) (toPy y)) else none
def dNe (x y : D) : Option R := if shp x = true ∧ shp y = true then rb (!PyData.eqv (toPy x) (toPy y)) else none
theorem ok_eq : OkR2 G (rEqD G.K) dEq := by
  intro T H x y dx dy res gd sx sy e Q k
  unfold dEq at e
  split at e
  · rename_i h
    cases e
    exact ⟨toPy dx, toPy dy, dp_of gd dx x (SeqAt.canLay_of_shaped h.1) sx, dp_of gd dy y (SeqAt.canLay_of_shaped h.2) sy, h.1, h.2, one gd k rfl⟩
  · cases e
theorem ok_ne : OkR2 G (rNeD G.K) dNe := by
  intro T H x y dx dy res gd sx sy e Q k
  unfold dNe at e
  split at e
  · rename_i h
    cases e
    exact ⟨toPy dx, toPy dy, dp_of gd dx x (SeqAt.canLay_of_shaped h.1) sx, dp_of gd dy y (SeqAt.canLay_of_shaped h.2) sy, h.1, h.2, one gd k rfl⟩
  · cases e
/-- is None, is not None -/
def isN : D → Bool
  | .non => true
  | _ => false
def dIsN (x y : D) : Option R := match y with | .non => rb (isN x) | _ => none
def dNotN (x y : D) : Option R := match y with | .non => rb (!isN x) | _ => none
theorem isN_eq {x : V} {d : D} (gd : Good G T H) (s : Sees G T H x d) : decide (x = .non) = isN d := by
  cases d with
  | non => rw [s.non gd]; rfl
  | bl b => rw [s.bl gd]; rfl
  | int i => rw [s.int gd]; rfl
  | str y => rw [s.str gd]; rfl
  | tup ds => obtain ⟨a, vs, rfl, _⟩ := s.tup gd; rfl
  | lst ds => obtain ⟨a, vs, rfl, _⟩ := s.lst gd; rfl
  | _ =>
    rcases s with s | ⟨a, rfl, _⟩
    · cases x <;> first | rfl | (cases s; done) | exact (show False from s).elim
    · rfl
theorem ok_isN : OkR2 G (fun x y H Q => y = .non ∧ Q (.bl (decide (x = .non))) H) dIsN := by
  intro T H x y dx dy res gd sx sy e Q k
  unfold dIsN at e
  split at e
  · cases e
    refine ⟨sy.non gd, ?_⟩
    rw [isN_eq gd sx]
    exact one gd k rfl
  · cases e
theorem ok_notN : OkR2 G (fun x y H Q => y = .non ∧ Q (.bl (!decide (x = .non))) H) dNotN := by
  intro T H x y dx dy res gd sx sy e Q k
  unfold dNotN at e
  split at e
  · cases e
    refine ⟨sy.non gd, ?_⟩
    rw [isN_eq gd sx]
    exact one gd k rfl
  · cases e
end
end LD

/-! Layer D: tests, and | or | not, displays, argument lists, subscripts, slices. -/
namespace LD
open PySem PySem.Spec PyProof.Rows L2

section
variable {G : Gm} {T T1 T2 : Ty} {st st1 st2 : DSt} {σ : L2.St} {H H1 H2 : Hp} {v : V} {d : D} {r : R}

/-! ### tests -/
def mT (a : M) : MT := fun st => match a st with
  | some (.imm (.bl b), s) => some (b, s)
  | _ => none
theorem rep_bl {b : Bool} (g : Good G T H) (h : RepT G T v (.bl b)) : v = .bl b := (Sees.of_rep (H := H) h).bl g
theorem ok_t {t : TE} {a : M} (h : OkE G t a) : OkT G (tB t) (mT a) := by
  intro T st σ H b st' rl e Q k
  unfold mT at e
  split at e
  · rename_i b' s e1
    cases e
    refine h T st σ H _ st' rl e1 _ fun T1 v1 H1 E1 R1 => ?_
    exact ⟨b, rep_bl E1.rel.good R1, k T1 H1 E1⟩
  · cases e
theorem ok_t' {t : TE} {a : M} (h : OkE G t a) : OkT G (tTest t) (mT a) := ok_t h
def mAndT (a b : MT) : MT := fun st => match a st with
  | some (true, s) => b s
  | z => z
def mOrT (a b : MT) : MT := fun st => match a st with
  | some (false, s) => b s
  | z => z
def mNotT (a : MT) : MT := fun st => match a st with
  | some (b, s) => some (!b, s)
  | none => none
theorem ok_andT {ta tb : TT} {a b : MT} (ha : OkT G ta a) (hb : OkT G tb b) : OkT G (tAnd ta tb) (mAndT a b) := by
  intro T st σ H c st' rl e Q k
  unfold mAndT at e
  split at e
  · rename_i s e1
    refine ha T st σ H _ s rl e1 _ fun T1 H1 E1 => ?_
    rw [if_pos rfl]
    exact hb T1 s σ H1 c st' E1.rel e _ fun T2 H2 E2 => k T2 H2 (E1.trans E2)
  · rename_i z hn
    refine ha T st σ H _ st' rl e _ fun T1 H1 E1 => ?_
    cases c with
    | true => exact absurd e (hn st')
    | false => rw [if_neg Bool.false_ne_true]; exact k T1 H1 E1
theorem ok_orT {ta tb : TT} {a b : MT} (ha : OkT G ta a) (hb : OkT G tb b) : OkT G (tOr ta tb) (mOrT a b) := by
  intro T st σ H c st' rl e Q k
  unfold mOrT at e
  split at e
  · rename_i s e1
    refine ha T st σ H _ s rl e1 _ fun T1 H1 E1 => ?_
    rw [if_neg Bool.false_ne_true]
    exact hb T1 s σ H1 c st' E1.rel e _ fun T2 H2 E2 => k T2 H2 (E1.trans E2)
  · rename_i z hn
    refine ha T st σ H _ st' rl e _ fun T1 H1 E1 => ?_
    cases c with
    | false => exact absurd e (hn st')
    | true => rw [if_pos rfl]; exact k T1 H1 E1
theorem ok_notT {ta : TT} {a : MT} (ha : OkT G ta a) : OkT G (tNot ta) (mNotT a) := by
  intro T st σ H c st' rl e Q k
  unfold mNotT at e
  split at e
  · rename_i b s e1
    cases e
    exact ha T st σ H _ st' rl e1 _ fun T1 H1 E1 => k T1 H1 E1
  · cases e
/-- .. as values -/
def mAndV (a b : M) : M := fun st => match a st with
  | some (.imm (.bl true), s) => b s
  | some (.imm (.bl false), s) => some (.imm (.bl false), s)
  | _ => none
def mOrV (a b : M) : M := fun st => match a st with
  | some (.imm (.bl false), s) => b s
  | some (.imm (.bl true), s) => some (.imm (.bl true), s)
  | _ => none
def mNotV (a : M) : M := fun st => match a st with
  | some (.imm (.bl b), s) => some (.imm (.bl (!b)), s)
  | _ => none
theorem ok_andV {ta tb : TE} {a b : M} (ha : OkE G ta a) (hb : OkE G tb b) : OkE G (tAndV ta tb) (mAndV a b) := by
  intro T st σ H r st' rl e Q k
  unfold mAndV at e
  split at e
  · rename_i s e1
    refine ha T st σ H _ s rl e1 _ fun T1 v1 H1 E1 R1 => ⟨true, rep_bl E1.rel.good R1, ?_⟩
    rw [if_pos rfl]
    exact hb T1 s σ H1 r st' E1.rel e _ fun T2 v2 H2 E2 R2 => k T2 v2 H2 (E1.trans E2) (R2.back E1.step.dom)
  · rename_i s e1
    cases e
    refine ha T st σ H _ st' rl e1 _ fun T1 v1 H1 E1 R1 => ⟨false, rep_bl E1.rel.good R1, ?_⟩
    rw [if_neg Bool.false_ne_true]
    exact k T1 _ H1 E1 rfl
  · cases e
theorem ok_orV {ta tb : TE} {a b : M} (ha : OkE G ta a) (hb : OkE G tb b) : OkE G (tOrV ta tb) (mOrV a b) := by
  intro T st σ H r st' rl e Q k
  unfold mOrV at e
  split at e
  · rename_i s e1
    refine ha T st σ H _ s rl e1 _ fun T1 v1 H1 E1 R1 => ⟨false, rep_bl E1.rel.good R1, ?_⟩
    rw [if_neg Bool.false_ne_true]
    exact hb T1 s σ H1 r st' E1.rel e _ fun T2 v2 H2 E2 R2 => k T2 v2 H2 (E1.trans E2) (R2.back E1.step.dom)
  · rename_i s e1
    cases e
    refine ha T st σ H _ st' rl e1 _ fun T1 v1 H1 E1 R1 => ⟨true, rep_bl E1.rel.good R1, ?_⟩
    rw [if_pos rfl]
    exact k T1 _ H1 E1 rfl
  · cases e
theorem ok_notV {ta : TE} {a : M} (ha : OkE G ta a) : OkE G (tNotV ta) (mNotV a) := by
  intro T st σ H r st' rl e Q k
  unfold mNotV at e
  split at e
  · rename_i b s e1
    cases e
    exact ha T st σ H _ st' rl e1 _ fun T1 v1 H1 E1 R1 => ⟨b, rep_bl E1.rel.good R1, k T1 _ H1 E1 rfl⟩
  · cases e
/-- a if t else b -/
def mIfE (c : MT) (a b : M) : M := fun st => match c st with
  | some (true, s) => a s
  | some (false, s) => b s
  | none => none
theorem ok_ifE {tc : TT} {ta tb : TE} {c : MT} {a b : M} (hc : OkT G tc c) (ha : OkE G ta a) (hb : OkE G tb b) : OkE G (tIf tc ta tb) (mIfE c a b) := by
  intro T st σ H r st' rl e Q k
  unfold mIfE at e
  split at e
  · rename_i s e1
    refine hc T st σ H _ s rl e1 _ fun T1 H1 E1 => ?_
    rw [if_pos rfl]
    exact ha T1 s σ H1 r st' E1.rel e _ fun T2 v2 H2 E2 R2 => k T2 v2 H2 (E1.trans E2) (R2.back E1.step.dom)
  · rename_i s e1
    refine hc T st σ H _ s rl e1 _ fun T1 H1 E1 => ?_
    rw [if_neg Bool.false_ne_true]
    exact hb T1 s σ H1 r st' E1.rel e _ fun T2 v2 H2 E2 R2 => k T2 v2 H2 (E1.trans E2) (R2.back E1.step.dom)
  · cases e
/-- a op b op c -/
def mChain (f g : D → D → Option R) (a b c : M) : M := fun st => match a st with
  | none => none
  | some (ra, s1) => match b s1 with
    | none => none
    | some (rb, s2) => match cont s2 ra, cont s2 rb with
      | some x, some y => match f x y with
        | some (.imm (.bl true)) => match c s2 with
          | none => none
          | some (rc, s3) => match cont s3 rb, cont s3 rc with
            | some y', some z => match g y' z with
              | some res => some (res, s3)
              | none => none
            | _, _ => none
        | some (.imm (.bl false)) => some (.imm (.bl false), s2)
        | _ => none
      | _, _ => none
theorem ok_chain {r r' : R2} {f g : D → D → Option R} {ta tb tc : TE} {a b c : M} (ha : OkE G ta a) (hb : OkE G tb b) (hc : OkE G tc c) (hf : OkR2 G r f) (hg : OkR2 G r' g) : OkE G (tChain r r' ta tb tc) (mChain f g a b c) := by
  intro T st σ H res st' rl e Q k
  unfold mChain at e
  split at e
  · cases e
  · rename_i ra s1 e1
    split at e
    · cases e
    · rename_i rb s2 e2
      split at e
      · rename_i x y cx cy
        refine ha T st σ H ra s1 rl e1 _ fun T1 v1 H1 E1 R1 => ?_
        refine hb T1 s1 σ H1 rb s2 E1.rel e2 _ fun T2 v2 H2 E2 R2 => ?_
        have S1 := sees_of E2.rel (R1.pass rl E1 E2) cx
        have S2 := sees_of E2.rel R2 cy
        have E := E1.trans E2
        split at e
        · rename_i z ez
          refine hf T2 H2 v1 v2 x y _ E2.rel.good S1 S2 ez _ fun T3 v3 H3 N3 R3 => ⟨true, rep_bl N3.good R3, ?_⟩
          have K3 := E.rel.ekeep N3
          rw [if_pos rfl]
          split at e
          · cases e
          · rename_i rc s3 e3
            split at e
            · rename_i y' z cy' cz
              split at e
              · rename_i w ew
                cases e
                refine hc T3 s2 σ H3 rc _ K3.rel e3 _ fun T4 v4 H4 E4 R4 => ?_
                have E24 := K3.trans E4
                have S2' := sees_of E4.rel (R2.pass E1.rel E2 E24) cy'
                refine hg T4 H4 v2 v4 y' z res E4.rel.good S2' (sees_of E4.rel R4 cz) ew _ fun T5 v5 H5 N5 R5 => ?_
                have EE := E.trans E24
                exact k T5 v5 H5 (EE.trans (EE.rel.ekeep N5)) (R5.res EE)
              · cases e
            · cases e
        · rename_i z ez
          cases e
          refine hf T2 H2 v1 v2 x y _ E2.rel.good S1 S2 ez _ fun T3 v3 H3 N3 R3 => ⟨false, rep_bl N3.good R3, ?_⟩
          rw [if_neg Bool.false_ne_true]
          exact k T3 _ H3 (E.trans (E.rel.ekeep N3)) rfl
        · cases e
      · cases e

/-! ### freezing -/
/-- a value that is kept elsewhere from now on -/
def freezeS (st : DSt) (i : Nat) : Option (D × DSt) := match st[i]? with
  | some (some (.imm d)) => some (d, st)
  | some (some (.rt true d)) => some (d, st.set i (some (.imm d)))
  | _ => none
def freeze (st : DSt) : R → Option (D × DSt)
  | .imm d => some (d, st)
  | .own d => some (d, st)
  | .slot i => freezeS st i
theorem rel_freeze {i : Nat} {a : Addr} (rl : Rel G T st σ H) (h : st[i]? = some (some (.rt true d))) (h2 : σ[i]? = some (some (.ref a))) (o : Own G T H a d) :
    EStep G T st σ H (tset T a d) (st.set i (some (.imm d))) H := by
  have hi : i < st.length := (List.getElem?_eq_some_iff.mp h).1
  have S : Step G T H (tset T a d) H (Root st σ) := Step.freeze rl.good o.ty ⟨i, true, d, h, h2⟩ o.sh
  refine ⟨⟨S.good, by rw [List.length_set]; exact rl.len, fun j e q => ?_, fun j k e q => ?_, fun j j' k k' e e' b q q' p p' => ?_⟩, S, fun j k e q => ?_, fun j sv q => ?_⟩
  · by_cases ij : i = j
    · subst ij
      rw [List.getElem?_set_self hi] at q
      cases q
      exact ⟨.ref a, h2, .inl tset_same⟩
    · rw [List.getElem?_set_ne ij] at q
      obtain ⟨v, h3, h4⟩ := rl.imm j e q
      exact ⟨v, h3, h4.mono S.sub⟩
  · by_cases ij : i = j
    · subst ij; rw [List.getElem?_set_self hi] at q; cases q
    · rw [List.getElem?_set_ne ij] at q
      obtain ⟨b, h3, o'⟩ := rl.rts j k e q
      have ab : b ≠ a := fun z => ij (rl.inj i j _ _ _ _ a h q h2 (z ▸ h3))
      exact ⟨b, h3, by rw [tset_ne ab]; exact o'.ty, o'.sh.mono S.sub rfl, o'.mu⟩
  · have ij : i ≠ j := fun z => by subst z; rw [List.getElem?_set_self hi] at q; cases q
    have ij' : i ≠ j' := fun z => by subst z; rw [List.getElem?_set_self hi] at q'; cases q'
    rw [List.getElem?_set_ne ij] at q
    rw [List.getElem?_set_ne ij'] at q'
    exact rl.inj j j' k k' e e' b q q' p p'
  · by_cases ij : i = j
    · subst ij; rw [List.getElem?_set_self hi] at q; cases q
    · rw [List.getElem?_set_ne ij] at q; exact ⟨e, q⟩
  · by_cases ij : i = j
    · subst ij; exact ⟨.imm d, List.getElem?_set_self hi⟩
    · exact ⟨sv, by rw [List.getElem?_set_ne ij]; exact q⟩
/-- behind an expression: its value is frozen -/
theorem ok_freeze (rl : Rel G T st σ H) (E1 : EStep G T st σ H T1 st1 H1) (R1 : ResOk G T1 st1 σ H H1 v r) (e : freeze st1 r = some (d, st2)) :
    ∃ T2, EStep G T st σ H T2 st2 H1 ∧ RepT G T2 v d := by
  cases r with
  | imm x => cases e; exact ⟨T1, E1, R1⟩
  | own x =>
    cases e
    obtain ⟨a, rfl, hn, o⟩ := R1
    have na : ¬ Root st1 σ a := fun z => (rl.root_own (E1.root z)).1 hn
    have S : Step G T1 H1 (tset T1 a d) H1 (fun b => b = a) := Step.freeze (R := fun b => b = a) E1.rel.good o.ty rfl o.sh
    have rl' : Rel G (tset T1 a d) st1 σ H1 := ⟨S.good, E1.rel.len, fun j e q => by obtain ⟨w, h3, h4⟩ := E1.rel.imm j e q; exact ⟨w, h3, h4.mono S.sub⟩, fun j k e q => by
      obtain ⟨b, h3, o'⟩ := E1.rel.rts j k e q
      exact ⟨b, h3, o'.step S fun z => na ⟨j, k, e, q, z ▸ h3⟩⟩, E1.rel.inj⟩
    refine ⟨tset T1 a d, ⟨rl', ?_, E1.kind, E1.some⟩, .inl tset_same⟩
    exact E1.step.trans S fun b z => by rw [show b = a from z]; exact .inr hn
  | slot i =>
    obtain ⟨h1, sv, h2⟩ := R1
    have e : freezeS st1 i = some (d, st2) := e
    unfold freezeS at e
    split at e
    · rename_i x h
      cases e
      obtain ⟨w, h3, h4⟩ := E1.rel.imm i d h
      rw [h1] at h3; cases h3
      exact ⟨T1, E1, h4⟩
    · rename_i x h
      cases e
      obtain ⟨a, h3, o⟩ := E1.rel.rts i true d h
      rw [h1] at h3; cases h3
      exact ⟨tset T1 a d, E1.trans (rel_freeze E1.rel h h1 o), .inl tset_same⟩
    · cases e

/-! ### argument lists whose values are kept -/
abbrev MA := DSt → Option (List D × DSt)
def OkA (G : Gm) (n : Nat) (t : TA) (m : MA) : Prop := ∀ (T : Ty) (st : DSt) (σ : L2.St) (H : Hp) (ds : List D) (st' : DSt), Rel G T st σ H → m st = some (ds, st') →
  ∀ Q : List V → Hp → Prop, (∀ T' vs H', EStep G T st σ H T' st' H' → Reps G T' vs ds → ds.length = n → Q vs H') → t σ H Q
def aNil : MA := fun st => some ([], st)
def aCons (a : M) (b : MA) : MA := fun st => match a st with
  | none => none
  | some (r, s1) => match freeze s1 r with
    | none => none
    | some (d, s2) => match b s2 with
      | none => none
      | some (ds, s3) => some (d :: ds, s3)
theorem ok_anil : OkA G 0 tNil aNil := by
  intro T st σ H ds st' rl e Q k
  cases e
  exact k T [] H (EStep.refl rl) .nil rfl
theorem ok_acons {n : Nat} {ta : TE} {tb : TA} {a : M} {b : MA} (ha : OkE G ta a) (hb : OkA G n tb b) : OkA G (n + 1) (tCons ta tb) (aCons a b) := by
  intro T st σ H ds st' rl e Q k
  unfold aCons at e
  split at e
  · cases e
  · rename_i r s1 e1
    split at e
    · cases e
    · rename_i d s2 e2
      split at e
      · cases e
      · rename_i es s3 e3
        cases e
        refine ha T st σ H r s1 rl e1 _ fun T1 v1 H1 E1 R1 => ?_
        obtain ⟨T2, E2, R2⟩ := ok_freeze rl E1 R1 e2
        refine hb T2 s2 σ H1 es _ E2.rel e3 _ fun T3 vs H3 E3 R3 hn => ?_
        exact k T3 (v1 :: vs) H3 (E2.trans E3) (.cons (R2.mono E3.step.sub) R3) (by rw [List.length_cons, hn])
/-- (a, b, ..) and [a, b, ..] -/
def mTup (a : MA) : M := fun st => match a st with
  | some (ds, s) => some (.imm (.tup ds), s)
  | none => none
def mLst (a : MA) : M := fun st => match a st with
  | some (ds, s) => some (.own (.lst ds), s)
  | none => none
theorem small_line {n : Nat} (h : n ≤ 1000) : n ≤ sizeLine := Nat.le_of_lt (small1000 h)
theorem ok_tup {n : Nat} {t : TA} {a : MA} (h : OkA G n t a) (hn : n ≤ 1000) : OkE G (tTup t) (mTup a) := by
  intro T st σ H r st' rl e Q k
  unfold mTup at e
  split at e
  · rename_i ds s e1
    cases e
    refine h T st σ H ds _ rl e1 _ fun T1 vs H1 E1 R1 l1 => ?_
    have lv := R1.length
    refine ⟨by rw [lv, l1]; exact small_line hn, fun p hp => ?_⟩
    have N := Step.lay (R := fun _ => False) E1.rel.good hp (.tup vs) (d := .tup ds) ⟨vs, upd_same, R1.mono (Sub.tset (E1.rel.good.free hp)), by rw [l1]; exact small_line hn⟩
    exact k _ (.ref p) _ (E1.trans (E1.rel.ekeep N)) (.inl tset_same)
  · cases e
theorem own_new {ds : List D} {vs : List V} {p : Addr} (g : Good G T H) (hp : H p = none) (h : Reps G T vs ds) (hl : ds.length ≤ sizeLine) : Own G T (upd H p (.lst vs)) p (.lst ds) :=
  ⟨g.free hp, ⟨vs, upd_same, h, hl⟩, by rw [upd_same]; trivial⟩
theorem ok_lst {n : Nat} {t : TA} {a : MA} (h : OkA G n t a) (hn : n ≤ 1000) : OkE G (tLst t) (mLst a) := by
  intro T st σ H r st' rl e Q k
  unfold mLst at e
  split at e
  · rename_i ds s e1
    cases e
    refine h T st σ H ds _ rl e1 _ fun T1 vs H1 E1 R1 l1 => ?_
    have lv := R1.length
    refine ⟨by rw [lv, l1]; exact small_line hn, fun p hp => ?_⟩
    have N := Step.new (R := fun _ => False) E1.rel.good hp (.lst vs)
    refine k _ (.ref p) _ (E1.trans (E1.rel.ekeep N)) (ResN.res (r := .own (.lst ds)) E1 ⟨p, rfl, hp, own_new E1.rel.good hp R1 (by rw [l1]; exact small_line hn)⟩)
  · cases e

/-! ### subscripts, slices -/
theorem ixN_len {n : Nat} {i : Int} {j : Nat} (h : ixN n i = some j) : j < n := (ixN_seq h).2.1
theorem reps_at {vs : List V} {ds : List D} {i : Int} {d : D} (h : Reps G T vs ds) (e : atI ds i = some d) : ∃ v, atI vs i = some v ∧ RepT G T v d := by
  unfold atI at e ⊢
  rw [h.length]
  cases q : ixN ds.length i with
  | none => rw [q] at e; cases e
  | some j =>
    rw [q] at e
    have e' : ds[j]? = some d := e
    clear e q
    show ∃ v, vs[j]? = some v ∧ _
    induction h generalizing j with
    | nil => simp at e'
    | cons a t ih =>
      cases j with
      | zero => simp at e'; subst e'; exact ⟨_, rfl, a⟩
      | succ j => exact ih j (by simpa using e')
def dIx : D → D → Option R
  | .lst xs, .int i => match atI xs i with | some d => some (.imm d) | none => none
  | .tup xs, .int i => match atI xs i with | some d => some (.imm d) | none => none
  | _, _ => none
theorem ok_ix : OkR2 G (rIx G.K) dIx := by
  intro T H x y dx dy res gd sx sy e Q k
  unfold dIx at e
  split at e
  · rename_i xs i
    split at e
    · rename_i d ed
      cases e
      obtain ⟨a, vs, rfl, q, _, r, _⟩ := sx.lst gd
      obtain ⟨v, h1, h2⟩ := reps_at r ed
      exact .inl ⟨a, vs, i, v, rfl, sy.int gd, q, h1, one gd k h2⟩
    · cases e
  · rename_i xs i
    split at e
    · rename_i d ed
      cases e
      obtain ⟨a, vs, rfl, q, _, r, _⟩ := sx.tup gd
      obtain ⟨v, h1, h2⟩ := reps_at r ed
      exact .inr (.inl ⟨a, vs, i, v, rfl, sy.int gd, q, h1, one gd k h2⟩)
    · cases e
  · cases e

/-- a slice's part -/
abbrev MO := DSt → Option (Option Int × DSt)
def OkO (G : Gm) (t : TO) (m : MO) : Prop := ∀ (T : Ty) (st : DSt) (σ : L2.St) (H : Hp) (o : Option Int) (st' : DSt), Rel G T st σ H → m st = some (o, st') →
  ∀ Q : Option Int → Hp → Prop, (∀ T' H', EStep G T st σ H T' st' H' → Q o H') → t σ H Q
def oNone : MO := fun st => some (none, st)
def oSome (a : M) : MO := fun st => match a st with
  | some (.imm (.int i), s) => some (some i, s)
  | _ => none
theorem ok_onone : OkO G tNoPart oNone := by
  intro T st σ H o st' rl e Q k
  cases e
  exact k T H (EStep.refl rl)
theorem ok_osome {t : TE} {a : M} (h : OkE G t a) : OkO G (tPart t) (oSome a) := by
  intro T st σ H o st' rl e Q k
  unfold oSome at e
  split at e
  · rename_i i s e1
    cases e
    exact h T st σ H _ st' rl e1 _ fun T1 v1 H1 E1 R1 => ⟨i, (Sees.of_rep (H := H1) R1).int E1.rel.good, k T1 H1 E1⟩
  · cases e
/-- the items of xs[lo:hi] -/
def cutD (xs : List D) (lo hi : Option Int) : List D := (xs.drop (HT.sIx xs.length 0 lo)).take (HT.sIx xs.length xs.length hi - HT.sIx xs.length 0 lo)
theorem reps_drop {vs : List V} {ds : List D} (h : Reps G T vs ds) : ∀ n : Nat, Reps G T (vs.drop n) (ds.drop n) := by
  induction h with
  | nil => intro n; simp; exact .nil
  | cons a t ih => intro n; cases n with
    | zero => exact .cons a t
    | succ n => exact ih n
theorem reps_take {vs : List V} {ds : List D} (h : Reps G T vs ds) : ∀ n : Nat, Reps G T (vs.take n) (ds.take n) := by
  induction h with
  | nil => intro n; simp; exact .nil
  | cons a t ih => intro n; cases n with
    | zero => exact .nil
    | succ n => exact .cons a (ih n)
theorem reps_cut {vs : List V} {ds : List D} (h : Reps G T vs ds) (lo hi : Option Int) : Reps G T (cutV vs lo hi) (cutD ds lo hi) := by
  unfold cutV cutD
  rw [h.length]
  exact reps_take (reps_drop h _) _
theorem cutD_len (xs : List D) (lo hi : Option Int) : (cutD xs lo hi).length ≤ xs.length := by
  unfold cutD
  rw [List.length_take, List.length_drop]
  omega
/-- a list or a tuple, cut -/
def dSl (x : D) (lo hi : Option Int) : Option R := match x with
  | .lst xs => some (.own (.lst (cutD xs lo hi)))
  | .tup xs => some (.imm (.tup (cutD xs lo hi)))
  | .scr ns => some (.own (.lst (cutD (ns.map D.int) lo hi)))
  | _ => none
def rSl (K : PySem.W.Frag) : V → Option Int → Option Int → Hp → VK → Prop := fun x lo hi H Q => rSlL K x lo hi H Q ∨ rSlA K x lo hi H Q
theorem cut_whole {α : Type} (xs : List α) (lo hi : Option Int) (h : HT.sIx xs.length 0 lo = 0 ∧ HT.sIx xs.length xs.length hi = xs.length) : (xs.drop (HT.sIx xs.length 0 lo)).take (HT.sIx xs.length xs.length hi - HT.sIx xs.length 0 lo) = xs := by
  rw [h.1, h.2]; simp
def mSl (a : M) (lo hi : MO) : M := fun st => match a st with
  | none => none
  | some (ra, s1) => match lo s1 with
    | none => none
    | some (l, s2) => match hi s2 with
      | none => none
      | some (u, s3) => match cont s3 ra with
        | some x => match dSl x l u with
          | some res => some (res, s3)
          | none => none
        | none => none
theorem ok_sl {ta : TE} {tl th : TO} {a : M} {lo hi : MO} (ha : OkE G ta a) (hl : OkO G tl lo) (hh : OkO G th hi) : OkE G (tSl (rSl G.K) ta tl th) (mSl a lo hi) := by
  intro T st σ H res st' rl e Q k
  unfold mSl at e
  split at e
  · cases e
  · rename_i ra s1 e1
    split at e
    · cases e
    · rename_i l s2 e2
      split at e
      · cases e
      · rename_i u s3 e3
        split at e
        · rename_i x cx
          split at e
          · rename_i w ew
            cases e
            refine ha T st σ H ra s1 rl e1 _ fun T1 v1 H1 E1 R1 => ?_
            refine hl T1 s1 σ H1 l s2 E1.rel e2 _ fun T2 H2 E2 => ?_
            refine hh T2 s2 σ H2 u _ E2.rel e3 _ fun T3 H3 E3 => ?_
            have E23 := E2.trans E3
            have E := E1.trans E23
            have S := sees_of E.rel (R1.pass rl E1 E23) cx
            have gd := E.rel.good
            unfold dSl at ew
            split at ew
            · rename_i xs
              cases ew
              obtain ⟨b, vs, rfl, q, _, r, z⟩ := S.lst gd
              refine .inl ⟨b, vs, rfl, q, fun p hp => ?_⟩
              have N := Step.new (R := fun _ => False) gd hp (.lst (cutV vs l u))
              exact k _ (.ref p) _ (E.trans (E.rel.ekeep N)) (ResN.res (r := .own (.lst (cutD xs l u))) E ⟨p, rfl, hp, own_new gd hp (reps_cut r l u) (Nat.le_trans (cutD_len _ _ _) z)⟩)
            · rename_i xs
              cases ew
              obtain ⟨b, vs, rfl, q, rd, r, z⟩ := S.tup gd
              refine .inr ⟨b, vs, rfl, q, fun hw => ?_, fun _ p hp => ?_⟩
              · have hx : cutD xs l u = xs := cut_whole xs l u (by rw [r.length] at hw; exact hw)
                refine k T3 _ H3 E ?_
                show RepT G T3 (V.ref b) (.tup (cutD xs l u))
                rw [hx]
                exact S.tupT
              · have N := Step.lay (R := fun _ => False) gd hp (.tup (cutV vs l u)) (d := .tup (cutD xs l u)) ⟨_, upd_same, (reps_cut r l u).mono (Sub.tset (gd.free hp)), Nat.le_trans (cutD_len _ _ _) z⟩
                exact k _ (.ref p) _ (E.trans (E.rel.ekeep N)) (.inl tset_same)
            · rename_i ns
              cases ew
              obtain ⟨b, rfl, q, z⟩ := S.scr gd
              have r := reps_ints (G := G) (T := T3) ns
              refine .inl ⟨b, ns.map V.int, rfl, q, fun p hp => ?_⟩
              have N := Step.new (R := fun _ => False) gd hp (.lst (cutV (ns.map V.int) l u))
              exact k _ (.ref p) _ (E.trans (E.rel.ekeep N)) (ResN.res (r := .own (.lst (cutD (ns.map D.int) l u))) E ⟨p, rfl, hp, own_new gd hp (reps_cut r l u) (Nat.le_trans (cutD_len _ _ _) (by rw [List.length_map]; exact z))⟩)
            · cases ew
          · cases e
        · cases e
end
theorem sl_both {X : Cx} : SlR X (rSl X.K) := SlR.or sl_list sl_tupA
end LD

/-! Layer D: statements. -/
namespace LD
open PySem PySem.Spec PyProof.Rows L2

/-- an own root -/
def RootO (st : DSt) (σ : L2.St) (a : Addr) : Prop := ∃ (i : Nat) (d : D), st[i]? = some (some (.rt true d)) ∧ σ[i]? = some (some (.ref a))
theorem RootO.root {st : DSt} {σ : L2.St} {a : Addr} (h : RootO st σ a) : Root st σ a := let ⟨i, d, h1, h2⟩ := h; ⟨i, true, d, h1, h2⟩
/-- a step of a statement -/
structure SStep (G : Gm) (T : Ty) (st : DSt) (σ : L2.St) (H : Hp) (T' : Ty) (st' : DSt) (σ' : L2.St) (H' : Hp) : Prop where
  rel : Rel G T' st' σ' H'
  step : Step G T H T' H' (Root st σ)
  own : ∀ (i : Nat) d a, st'[i]? = some (some (.rt true d)) → σ'[i]? = some (some (.ref a)) → H a = none ∨ RootO st σ a
  brw : ∀ (i : Nat) d, st'[i]? = some (some (.rt false d)) → (∃ d0, st[i]? = some (some (.rt false d0))) ∧ σ'[i]? = σ[i]?
inductive Fl where
  | nx | ret (r : R) | bk | ct
abbrev MS := DSt → Option (Fl × DSt)
/-- what is wanted of a flow -/
def Wish (G : Gm) (T : Ty) (st : DSt) (σ : L2.St) (H : Hp) (D : Ends) (st' : DSt) : Fl → Prop
  | .nx => ∀ T' σ' H', SStep G T st σ H T' st' σ' H' → D.nx σ' H'
  | .bk => ∀ T' σ' H', SStep G T st σ H T' st' σ' H' → D.bk σ' H'
  | .ct => ∀ T' σ' H', SStep G T st σ H T' st' σ' H' → D.ct σ' H'
  | .ret r => ∀ T' σ' H' v, SStep G T st σ H T' st' σ' H' → ResOk G T' st' σ' H H' v r → D.rt v H'
def OkS (G : Gm) (t : TS) (m : MS) : Prop := ∀ (T : Ty) (st : DSt) (σ : L2.St) (H : Hp) (f : Fl) (st' : DSt), Rel G T st σ H → m st = some (f, st') →
  ∀ D : Ends, Wish G T st σ H D st' f → t D σ H

section
variable {G : Gm} {T T1 T2 : Ty} {st st1 st2 : DSt} {σ σ1 σ2 : L2.St} {H H1 H2 : Hp} {v : V} {d : D} {r : R}
theorem SStep.root (s : SStep G T st σ H T1 st1 σ1 H1) {a : Addr} (h : Root st1 σ1 a) : Root st σ a ∨ H a = none := by
  obtain ⟨i, k, d, h1, h2⟩ := h
  cases k with
  | true =>
    rcases s.own i d a h1 h2 with z | z
    · exact .inr z
    · exact .inl z.root
  | false =>
    obtain ⟨⟨d0, h3⟩, h4⟩ := s.brw i d h1
    exact .inl ⟨i, false, d0, h3, h4.symm.trans h2⟩
theorem SStep.refl (rl : Rel G T st σ H) : SStep G T st σ H T st σ H :=
  ⟨rl, Step.refl rl.good, fun i d a h1 h2 => .inr ⟨i, d, h1, h2⟩, fun i d h => ⟨⟨d, h⟩, rfl⟩⟩
theorem none_of {a : Addr} (dm : ∀ a, H a ≠ none → H1 a ≠ none) (h : H1 a = none) : H a = none := by
  cases q : H a with
  | none => rfl
  | some u => exact absurd h (dm a (by rw [q]; exact fun z => nomatch z))
theorem SStep.trans (a : SStep G T st σ H T1 st1 σ1 H1) (b : SStep G T1 st1 σ1 H1 T2 st2 σ2 H2) : SStep G T st σ H T2 st2 σ2 H2 := by
  refine ⟨b.rel, a.step.trans b.step fun _ h => a.root h, fun i d x h1 h2 => ?_, fun i d h => ?_⟩
  · rcases b.own i d x h1 h2 with z | ⟨j, e, h3, h4⟩
    · exact .inl (none_of a.step.dom z)
    · exact a.own j e x h3 h4
  · obtain ⟨⟨d1, h1⟩, h2⟩ := b.brw i d h
    obtain ⟨h3, h4⟩ := a.brw i d1 h1
    exact ⟨h3, h2.trans h4⟩
theorem EStep.s (e : EStep G T st σ H T1 st1 H1) : SStep G T st σ H T1 st1 σ H1 :=
  ⟨e.rel, e.step, fun i d a h1 h2 => by obtain ⟨d0, h0⟩ := e.kind i true d h1; exact .inr ⟨i, d0, h0, h2⟩, fun i d h => ⟨e.kind i false d h, rfl⟩⟩
theorem Wish.pre {D : Ends} {f : Fl} (s : SStep G T st σ H T1 st1 σ1 H1) (w : Wish G T st σ H D st2 f) : Wish G T1 st1 σ1 H1 D st2 f := by
  cases f with
  | nx => exact fun T' σ' H' q => w T' σ' H' (s.trans q)
  | bk => exact fun T' σ' H' q => w T' σ' H' (s.trans q)
  | ct => exact fun T' σ' H' q => w T' σ' H' (s.trans q)
  | ret r => exact fun T' σ' H' v q h => w T' σ' H' v (s.trans q) (h.back s.step.dom)

/-! ### blocks -/
def sNx : MS := fun st => some (.nx, st)
def sSeq (a b : MS) : MS := fun st => match a st with
  | some (.nx, s) => b s
  | z => z
theorem ok_nx : OkS G tNext sNx := by
  intro T st σ H f st' rl e D w
  cases e
  exact w T σ H (SStep.refl rl)
theorem ok_seq {t u : TS} {a b : MS} (ha : OkS G t a) (hb : OkS G u b) : OkS G (tSeq t u) (sSeq a b) := by
  intro T st σ H f st' rl e D w
  unfold sSeq at e
  split at e
  · rename_i s e1
    refine ha T st σ H _ s rl e1 _ fun T1 σ1 H1 S1 => ?_
    exact hb T1 s σ1 H1 f st' S1.rel e D (w.pre S1)
  · rename_i z hn
    refine ha T st σ H f st' rl e _ ?_
    cases f with
    | nx => exact absurd e (hn st')
    | bk => exact w
    | ct => exact w
    | ret r => exact w
def sBk : MS := fun st => some (.bk, st)
def sCt : MS := fun st => some (.ct, st)
theorem ok_bk : OkS G tBreak sBk := by
  intro T st σ H f st' rl e D w
  cases e
  exact w T σ H (SStep.refl rl)
theorem ok_ct : OkS G tCont sCt := by
  intro T st σ H f st' rl e D w
  cases e
  exact w T σ H (SStep.refl rl)
/-- code that is never come to -/
def sNo : MS := fun _ => none
theorem ok_no : OkS G tNever sNo := by
  intro T st σ H f st' rl e D w
  cases e
def eNo : M := fun _ => none
def sDrop (a : M) : MS := fun st => match a st with
  | some (_, s) => some (.nx, s)
  | none => none
theorem ok_drop {t : TE} {a : M} (h : OkE G t a) : OkS G (tDrop t) (sDrop a) := by
  intro T st σ H f st' rl e D w
  unfold sDrop at e
  split at e
  · rename_i r s e1
    cases e
    exact h T st σ H _ st' rl e1 _ fun T1 v1 H1 E1 R1 => w T1 σ H1 E1.s
  · cases e
def sRet (a : M) : MS := fun st => match a st with
  | some (r, s) => some (.ret r, s)
  | none => none
theorem ok_ret {t : TE} {a : M} (h : OkE G t a) : OkS G (tRet t) (sRet a) := by
  intro T st σ H f st' rl e D w
  unfold sRet at e
  split at e
  · rename_i r s e1
    cases e
    exact h T st σ H _ st' rl e1 _ fun T1 v1 H1 E1 R1 => w T1 σ H1 v1 E1.s R1
  · cases e
def sRetN : MS := fun st => some (.ret (.imm .non), st)
theorem ok_retN : OkS G tRetN sRetN := by
  intro T st σ H f st' rl e D w
  cases e
  exact w T σ H .non (SStep.refl rl) rfl
def sIf (c : MT) (a b : MS) : MS := fun st => match c st with
  | some (true, s) => a s
  | some (false, s) => b s
  | none => none
theorem ok_if {tc : TT} {t u : TS} {c : MT} {a b : MS} (hc : OkT G tc c) (ha : OkS G t a) (hb : OkS G u b) : OkS G (tIfS tc t u) (sIf c a b) := by
  intro T st σ H f st' rl e D w
  unfold sIf at e
  split at e
  · rename_i s e1
    refine hc T st σ H _ s rl e1 _ fun T1 H1 E1 => ?_
    rw [if_pos rfl]
    exact ha T1 s σ H1 f st' E1.rel e D (w.pre E1.s)
  · rename_i s e1
    refine hc T st σ H _ s rl e1 _ fun T1 H1 E1 => ?_
    rw [if_neg Bool.false_ne_true]
    exact hb T1 s σ H1 f st' E1.rel e D (w.pre E1.s)
  · cases e

/-! ### storing into a slot -/
theorem set_imm {i : Nat} (rl : Rel G T st σ H) (h : RepT G T v d) : SStep G T st σ H T (st.set i (some (.imm d))) (σ.set i (some v)) H := by
  have old : ∀ (j : Nat) (k : Bool) (e : D), (st.set i (some (.imm d)))[j]? = some (some (.rt k e)) → st[j]? = some (some (.rt k e)) ∧ (σ.set i (some v))[j]? = σ[j]? := fun j k e q => by
    by_cases ij : i = j
    · subst ij
      by_cases hi : i < st.length
      · rw [List.getElem?_set_self hi] at q; cases q
      · rw [List.getElem?_eq_none (by rw [List.length_set]; omega)] at q; cases q
    · rw [List.getElem?_set_ne ij] at q
      exact ⟨q, List.getElem?_set_ne ij⟩
  refine ⟨⟨rl.good, by rw [List.length_set, List.length_set]; exact rl.len, fun j e q => ?_, fun j k e q => ?_, fun j j' k k' e e' b q q' p p' => ?_⟩, Step.refl rl.good, fun j e a q q' => ?_, fun j e q => ?_⟩
  · by_cases ij : i = j
    · subst ij
      by_cases hi : i < st.length
      · rw [List.getElem?_set_self hi] at q
        cases q
        exact ⟨v, List.getElem?_set_self (by rw [← rl.len]; exact hi), h⟩
      · rw [List.getElem?_eq_none (by rw [List.length_set]; omega)] at q; cases q
    · rw [List.getElem?_set_ne ij] at q
      rw [List.getElem?_set_ne ij]
      exact rl.imm j e q
  · obtain ⟨q1, q2⟩ := old j k e q
    rw [q2]
    exact rl.rts j k e q1
  · obtain ⟨q1, q2⟩ := old j k e q
    obtain ⟨q3, q4⟩ := old j' k' e' q'
    rw [q2] at p
    rw [q4] at p'
    exact rl.inj j j' k k' e e' b q1 q3 p p'
  · obtain ⟨q1, q2⟩ := old j true e q
    rw [q2] at q'
    exact .inr ⟨j, e, q1, q'⟩
  · obtain ⟨q1, q2⟩ := old j false e q
    exact ⟨⟨e, q1⟩, q2⟩
/-- a new root; H₀: a heap in which it was not there -/
theorem set_own {i : Nat} {a : Addr} (rl : Rel G T st σ H) (o : Own G T H a d) (n : ¬ Root st σ a) :
    Rel G T (st.set i (some (.rt true d))) (σ.set i (some (.ref a))) H ∧
    (∀ (j : Nat) (k : Bool) (e : D), (st.set i (some (.rt true d)))[j]? = some (some (.rt k e)) → (i = j ∧ k = true ∧ (σ.set i (some (V.ref a)))[j]? = some (some (.ref a))) ∨ (st[j]? = some (some (.rt k e)) ∧ (σ.set i (some (V.ref a)))[j]? = σ[j]?)) := by
  have old : ∀ (j : Nat) (k : Bool) (e : D), (st.set i (some (.rt true d)))[j]? = some (some (.rt k e)) → (i = j ∧ (k = true ∧ e = d) ∧ (σ.set i (some (V.ref a)))[j]? = some (some (.ref a))) ∨ (st[j]? = some (some (.rt k e)) ∧ (σ.set i (some (V.ref a)))[j]? = σ[j]?) := fun j k e q => by
    by_cases ij : i = j
    · subst ij
      by_cases hi : i < st.length
      · rw [List.getElem?_set_self hi] at q
        cases q
        exact .inl ⟨rfl, ⟨rfl, rfl⟩, List.getElem?_set_self (by rw [← rl.len]; exact hi)⟩
      · rw [List.getElem?_eq_none (by rw [List.length_set]; omega)] at q; cases q
    · rw [List.getElem?_set_ne ij] at q
      exact .inr ⟨q, List.getElem?_set_ne ij⟩
  refine ⟨⟨rl.good, by rw [List.length_set, List.length_set]; exact rl.len, fun j e q => ?_, fun j k e q => ?_, fun j j' k k' e e' b q q' p p' => ?_⟩, fun j k e q => ?_⟩
  · by_cases ij : i = j
    · subst ij
      by_cases hi : i < st.length
      · rw [List.getElem?_set_self hi] at q; cases q
      · rw [List.getElem?_eq_none (by rw [List.length_set]; omega)] at q; cases q
    · rw [List.getElem?_set_ne ij] at q
      rw [List.getElem?_set_ne ij]
      exact rl.imm j e q
  · rcases old j k e q with ⟨_, ⟨rfl, rfl⟩, q2⟩ | ⟨q1, q2⟩
    · exact ⟨a, q2, o⟩
    · rw [q2]; exact rl.rts j k e q1
  · rcases old j k e q with ⟨rfl, _, q2⟩ | ⟨q1, q2⟩
    · rw [q2] at p; cases p
      rcases old j' k' e' q' with ⟨rfl, _, _⟩ | ⟨q3, q4⟩
      · rfl
      · rw [q4] at p'
        exact (n ⟨j', k', e', q3, p'⟩).elim
    · rw [q2] at p
      rcases old j' k' e' q' with ⟨rfl, _, q4⟩ | ⟨q3, q4⟩
      · rw [q4] at p'; cases p'
        exact (n ⟨j, k, e, q1, p⟩).elim
      · rw [q4] at p'
        exact rl.inj j j' k k' e e' b q1 q3 p p'
  · rcases old j k e q with ⟨h1, h2, h3⟩ | h
    · exact .inl ⟨h1, h2.1, h3⟩
    · exact .inr h
theorem set_own' {i : Nat} {a : Addr} {H₀ : Hp} (E : SStep G T st σ H₀ T1 st1 σ1 H1) (o : Own G T1 H1 a d) (hn : H₀ a = none) (n : ¬ Root st1 σ1 a) : SStep G T st σ H₀ T1 (st1.set i (some (.rt true d))) (σ1.set i (some (.ref a))) H1 := by
  obtain ⟨rl, old⟩ := set_own (i := i) E.rel o n
  refine ⟨rl, E.step, fun j e b q q' => ?_, fun j e q => ?_⟩
  · rcases old j true e q with ⟨_, _, h⟩ | ⟨q1, q2⟩
    · rw [h] at q'; cases q'; exact .inl hn
    · rw [q2] at q'; exact E.own j e b q1 q'
  · rcases old j false e q with ⟨_, h, _⟩ | ⟨q1, q2⟩
    · cases h
    · obtain ⟨h1, h2⟩ := E.brw j e q1
      exact ⟨h1, q2.trans h2⟩
/-- x = e -/
def sSet (i : Nat) (a : M) : MS := fun st => match a st with
  | some (.imm d, s) => some (.nx, s.set i (some (.imm d)))
  | some (.own d, s) => some (.nx, s.set i (some (.rt true d)))
  | some (.slot j, s) => match freezeS s j with
    | some (d, s2) => some (.nx, s2.set i (some (.imm d)))
    | none => none
  | none => none
theorem ok_set {i : Nat} {t : TE} {a : M} (h : OkE G t a) : OkS G (tAsg t (gName i)) (sSet i a) := by
  intro T st σ H f st' rl e D w
  unfold sSet at e
  split at e
  · rename_i d s e1
    cases e
    refine h T st σ H _ s rl e1 _ fun T1 v1 H1 E1 R1 => ?_
    exact w T1 _ H1 (E1.s.trans (set_imm E1.rel R1))
  · rename_i d s e1
    cases e
    refine h T st σ H _ s rl e1 _ fun T1 v1 H1 E1 R1 => ?_
    obtain ⟨a, rfl, hn, o⟩ := R1
    exact w T1 _ H1 (set_own' E1.s o hn fun z => (rl.root_own (E1.root z)).1 hn)
  · rename_i j s e1
    split at e
    · rename_i d s2 e2
      cases e
      refine h T st σ H _ s rl e1 _ fun T1 v1 H1 E1 R1 => ?_
      obtain ⟨T2, E2, R2⟩ := ok_freeze rl E1 R1 (show freeze s (.slot j) = _ from e2)
      exact w T2 _ H1 (E2.s.trans (set_imm E2.rel R2))
    · cases e
  · cases e

/-! ### targets -/
abbrev MG := D → DSt → Option DSt
def OkG (G : Gm) (g : TG) (m : MG) : Prop := ∀ (T : Ty) (st : DSt) (σ : L2.St) (H : Hp) (v : V) (d : D) (st' : DSt), Rel G T st σ H → RepT G T v d → m d st = some st' →
  ∀ Q : L2.St → Hp → Prop, (∀ T' σ' H', SStep G T st σ H T' st' σ' H' → Q σ' H') → g v σ H Q
abbrev MGs := List D → DSt → Option DSt
def OkGs (G : Gm) (g : TGs) (m : MGs) : Prop := ∀ (T : Ty) (st : DSt) (σ : L2.St) (H : Hp) (vs : List V) (ds : List D) (st' : DSt), Rel G T st σ H → Reps G T vs ds → m ds st = some st' →
  ∀ Q : L2.St → Hp → Prop, (∀ T' σ' H', SStep G T st σ H T' st' σ' H' → Q σ' H') → g vs σ H Q
def gN (i : Nat) : MG := fun d st => some (st.set i (some (.imm d)))
def gsN : MGs := fun ds st => match ds with
  | [] => some st
  | _ => none
def gsC (a : MG) (b : MGs) : MGs := fun ds st => match ds with
  | [] => none
  | d :: r => match a d st with
    | none => none
    | some s => b r s
def gT (n : Nat) (b : MGs) : MG := fun d st => match d with
  | .tup ds => if ds.length = n then b ds st else none
  | _ => none
theorem ok_gN {i : Nat} : OkG G (gName i) (gN i) := by
  intro T st σ H v d st' rl r e Q k
  cases e
  exact k T _ H (set_imm rl r)
theorem ok_gsN : OkGs G gNil gsN := by
  intro T st σ H vs ds st' rl r e Q k
  unfold gsN at e
  split at e
  · cases e
    cases r
    exact ⟨rfl, k T σ H (SStep.refl rl)⟩
  · cases e
theorem ok_gsC {g : TG} {gs : TGs} {a : MG} {b : MGs} (ha : OkG G g a) (hb : OkGs G gs b) : OkGs G (gCons g gs) (gsC a b) := by
  intro T st σ H vs ds st' rl r e Q k
  unfold gsC at e
  split at e
  · cases e
  · rename_i d ds'
    split at e
    · cases e
    · rename_i s e1
      cases r with
      | cons r t =>
        refine ⟨_, _, rfl, ha T st σ H _ _ s rl r e1 _ fun T1 σ1 H1 S1 => ?_⟩
        exact hb T1 s σ1 H1 _ _ st' S1.rel (Reps.mono S1.step.sub t) e _ fun T2 σ2 H2 S2 => k T2 σ2 H2 (S1.trans S2)
theorem ok_gT {n : Nat} {gs : TGs} {b : MGs} (hb : OkGs G gs b) : OkG G (gTup G.K n gs) (gT n b) := by
  intro T st σ H v d st' rl r e Q k
  unfold gT at e
  split at e
  · rename_i ds
    split at e
    · rename_i hl
      obtain ⟨a, vs, rfl, q, _, r', _⟩ := (Sees.of_rep (H := H) r).tup rl.good
      exact ⟨a, vs, rfl, q, by rw [r'.length, hl], hb T st σ H vs ds st' rl r' e Q k⟩
    · cases e
  · cases e
/-- a, b = e; any target -/
def sAsg (a : M) (g : MG) : MS := fun st => match a st with
  | none => none
  | some (r, s1) => match freeze s1 r with
    | none => none
    | some (d, s2) => match g d s2 with
      | none => none
      | some s3 => some (.nx, s3)
theorem ok_asg {t : TE} {g : TG} {a : M} {b : MG} (ha : OkE G t a) (hb : OkG G g b) : OkS G (tAsg t g) (sAsg a b) := by
  intro T st σ H f st' rl e D w
  unfold sAsg at e
  split at e
  · cases e
  · rename_i r s1 e1
    split at e
    · cases e
    · rename_i d s2 e2
      split at e
      · cases e
      · rename_i s3 e3
        cases e
        refine ha T st σ H r s1 rl e1 _ fun T1 v1 H1 E1 R1 => ?_
        obtain ⟨T2, E2, R2⟩ := ok_freeze rl E1 R1 e2
        exact hb T2 s2 σ H1 v1 d _ E2.rel R2 e3 _ fun T3 σ3 H3 S3 => w T3 σ3 H3 (E2.s.trans S3)

/-! ### several at once: a, b = x, y -/
/-- slots' values to be -/
def SvOk (G : Gm) (T : Ty) (H₀ H : Hp) (v : V) : SV → Prop
  | .imm d => RepT G T v d
  | .rt k d => k = true ∧ ∃ a, v = .ref a ∧ H₀ a = none ∧ Own G T H a d
def refO : V × SV → Option Addr
  | (.ref a, .rt _ _) => some a
  | _ => none
structure SvsOk (G : Gm) (T : Ty) (H₀ H : Hp) (vs : List V) (svs : List SV) : Prop where
  all : Paired (SvOk G T H₀ H) vs svs
  nd : ((vs.zip svs).filterMap refO).Nodup
abbrev MR := DSt → Option (List SV × DSt)
def OkR (G : Gm) (n : Nat) (t : TA) (m : MR) : Prop := ∀ (T : Ty) (st : DSt) (σ : L2.St) (H : Hp) (svs : List SV) (st' : DSt), Rel G T st σ H → m st = some (svs, st') →
  ∀ Q : List V → Hp → Prop, (∀ T' vs H', EStep G T st σ H T' st' H' → SvsOk G T' H H' vs svs → svs.length = n → Q vs H') → t σ H Q
def rNil : MR := fun st => some ([], st)
def keepR (st : DSt) : R → Option (SV × DSt)
  | .imm d => some (.imm d, st)
  | .own d => some (.rt true d, st)
  | .slot i => match freezeS st i with
    | some (d, s) => some (.imm d, s)
    | none => none
def rCons (a : M) (b : MR) : MR := fun st => match a st with
  | none => none
  | some (r, s1) => match keepR s1 r with
    | none => none
    | some (sv, s2) => match b s2 with
      | none => none
      | some (svs, s3) => some (sv :: svs, s3)
theorem ok_rnil : OkR G 0 tNil rNil := by
  intro T st σ H svs st' rl e Q k
  cases e
  exact k T [] H (EStep.refl rl) ⟨.nil, List.nodup_nil⟩ rfl
theorem refs_fresh {svs : List SV} {vs : List V} {H₀ : Hp} (h : Paired (SvOk G T H₀ H) vs svs) : ∀ a ∈ (vs.zip svs).filterMap refO, H₀ a = none := by
  induction h with
  | nil => intro a ha; simp at ha
  | @cons v sv vs' svs' h t ih =>
    intro a ha
    rw [List.zip_cons_cons, List.filterMap_cons] at ha
    cases sv with
    | imm d =>
      have e : refO (v, SV.imm d) = none := by cases v <;> rfl
      rw [e] at ha
      exact ih a ha
    | rt k d =>
      obtain ⟨_, b, rfl, hn, _⟩ := h
      rcases List.mem_cons.mp ha with e | ha
      · rw [e]; exact hn
      · exact ih a ha
theorem ok_rcons {n : Nat} {ta : TE} {tb : TA} {a : M} {b : MR} (ha : OkE G ta a) (hb : OkR G n tb b) : OkR G (n + 1) (tCons ta tb) (rCons a b) := by
  intro T st σ H svs st' rl e Q k
  unfold rCons at e
  split at e
  · cases e
  · rename_i r s1 e1
    split at e
    · cases e
    · rename_i sv s2 e2
      split at e
      · cases e
      · rename_i rest s3 e3
        cases e
        refine ha T st σ H r s1 rl e1 _ fun T1 v1 H1 E1 R1 => ?_
        have mid : ∃ T2, EStep G T st σ H T2 s2 H1 ∧ SvOk G T2 H H1 v1 sv := by
          cases r with
          | imm d => cases e2; exact ⟨T1, E1, R1⟩
          | own d =>
            cases e2
            obtain ⟨x, h1, h2, h3⟩ := R1
            exact ⟨T1, E1, rfl, x, h1, h2, h3⟩
          | slot i =>
            unfold keepR at e2
            dsimp only at e2
            split at e2
            · rename_i d s hf
              cases e2
              obtain ⟨T2, E2, R2⟩ := ok_freeze rl E1 R1 (show freeze s1 (.slot i) = _ from hf)
              exact ⟨T2, E2, R2⟩
            · cases e2
        obtain ⟨T2, E2, O2⟩ := mid
        refine hb T2 s2 σ H1 rest _ E2.rel e3 _ fun T3 vs H3 E3 R3 hl => ?_
        have O3 : SvOk G T3 H H3 v1 sv := by
          cases sv with
          | imm d => exact RepT.mono E3.step.sub O2
          | rt kk d =>
            obtain ⟨hk, x, h1, h2, h3⟩ := O2
            exact ⟨hk, x, h1, h2, h3.step E3.step fun z => (rl.root_own (E2.root z)).1 h2⟩
        have R3' : Paired (SvOk G T3 H H3) vs rest := Paired.mapP R3.all fun v sv q => by
          cases sv with
          | imm d => exact q
          | rt kk d =>
            obtain ⟨hk, x, h1, h2, h3⟩ := q
            exact ⟨hk, x, h1, none_of E2.step.dom h2, h3⟩
        refine k T3 (v1 :: vs) H3 (E2.trans E3) ⟨.cons O3 R3', ?_⟩ (by rw [List.length_cons, hl])
        rw [List.zip_cons_cons, List.filterMap_cons]
        cases sv with
        | imm d =>
          have e : refO (v1, SV.imm d) = none := by cases v1 <;> rfl
          rw [e]; exact R3.nd
        | rt kk d =>
          obtain ⟨_, x, rfl, h2, h3⟩ := O2
          refine List.nodup_cons.mpr ⟨fun hm => ?_, R3.nd⟩
          exact h3.sh.some (refs_fresh R3.all x hm)
/-- the slots is take the values svs -/
def setAll : List Nat → List SV → DSt → DSt
  | i :: is, sv :: svs, st => setAll is svs (st.set i (some sv))
  | _, _, st => st
def setV : List Nat → List V → L2.St → L2.St
  | i :: is, v :: vs, σ => setV is vs (σ.set i (some v))
  | _, _, σ => σ
theorem set_all {H₀ : Hp} : ∀ {vs : List V} {svs : List SV} (is : List Nat) {st1 : DSt} {σ1 : L2.St}, SStep G T st σ H₀ T1 st1 σ1 H1 → SvsOk G T1 H₀ H1 vs svs → (∀ a ∈ (vs.zip svs).filterMap refO, ¬ Root st1 σ1 a) →
    SStep G T st σ H₀ T1 (setAll is svs st1) (setV is vs σ1) H1
  | _, _, is, st1, σ1, S, ⟨.nil, _⟩, _ => by cases is <;> exact S
  | _, _, [], st1, σ1, S, ⟨.cons _ _, _⟩, _ => S
  | v :: vs, sv :: svs, i :: is, st1, σ1, S, ⟨.cons h t, nd⟩, nr => by
    show SStep G T st σ H₀ T1 (setAll is svs (st1.set i (some sv))) (setV is vs (σ1.set i (some v))) H1
    rw [List.zip_cons_cons, List.filterMap_cons] at nd nr
    cases sv with
    | imm d =>
      have e : refO (v, SV.imm d) = none := by cases v <;> rfl
      rw [e] at nd nr
      have S2 := set_imm (i := i) S.rel (show RepT G T1 v d from h)
      refine set_all is (S.trans S2) ⟨t, nd⟩ fun a ha z => ?_
      obtain ⟨j, k, e, q, q'⟩ := z
      cases k with
      | true =>
        rcases S2.own j e a q q' with z | z
        · have hr : Root st1 σ1 a := by
            by_cases ij : i = j
            · subst ij
              by_cases hi : i < st1.length
              · rw [List.getElem?_set_self hi] at q; cases q
              · rw [List.getElem?_eq_none (by rw [List.length_set]; omega)] at q; cases q
            · rw [List.getElem?_set_ne ij] at q q'
              exact ⟨j, true, e, q, q'⟩
          exact (S.rel.root_own hr).1 z
        · exact nr a ha z.root
      | false =>
        obtain ⟨⟨d0, h3⟩, h4⟩ := S2.brw j e q
        exact nr a ha ⟨j, false, d0, h3, h4.symm.trans q'⟩
    | rt k d =>
      obtain ⟨rfl, a, rfl, hn, o⟩ := h
      have nd : (a :: (vs.zip svs).filterMap refO).Nodup := nd
      have nr : ∀ b ∈ a :: (vs.zip svs).filterMap refO, ¬ Root st1 σ1 b := nr
      obtain ⟨nd1, nd2⟩ := List.nodup_cons.mp nd
      refine set_all is (set_own' S o hn (nr a List.mem_cons_self)) ⟨t, nd2⟩ fun b hb z => ?_
      obtain ⟨_, old⟩ := set_own (i := i) S.rel o (nr a List.mem_cons_self)
      obtain ⟨j, k, e, q, q'⟩ := z
      rcases old j k e q with ⟨_, _, h⟩ | ⟨q1, q2⟩
      · rw [h] at q'; cases q'; exact nd1 hb
      · rw [q2] at q'; exact nr b (List.mem_cons_of_mem _ hb) ⟨j, k, e, q1, q'⟩
def sPar (is : List Nat) (a : MR) : MS := fun st => match a st with
  | none => none
  | some (svs, s) => some (.nx, setAll is svs s)
theorem par_core {n : Nat} {is : List Nat} {ta : TA} {a : MR} (ha : OkR G n ta a) (rl : Rel G T st σ H) {f : Fl} {st' : DSt} (e : sPar is a st = some (f, st')) {D : Ends} (w : Wish G T st σ H D st' f) {K : List V → Hp → Prop}
    (h : ∀ vs H1, vs.length = n → (∀ p, H1 p = none → ∀ o, D.nx (setV is vs σ) (upd H1 p o)) → D.nx (setV is vs σ) H1 → K vs H1) : ta σ H K := by
  unfold sPar at e
  split at e
  · cases e
  · rename_i svs s e1
    cases e
    refine ha T st σ H svs s rl e1 _ fun T1 vs H1 E1 R1 hl => ?_
    have nr : ∀ x ∈ (vs.zip svs).filterMap refO, ¬ Root s σ x := fun x hx z => (rl.root_own (E1.root z)).1 (refs_fresh R1.all x hx)
    have S := set_all is E1.s R1 nr
    refine h vs H1 (by rw [R1.all.length, hl]) (fun p hp o => ?_) (w T1 _ H1 S)
    exact w T1 _ _ (S.trans (S.rel.ekeep (Step.new S.rel.good hp o)).s)
theorem ok_par2 {i j : Nat} {ta : TA} {a : MR} (ha : OkR G 2 ta a) : OkS G (tPar i j ta) (sPar [i, j] a) := by
  intro T st σ H f st' rl e D w
  refine par_core ha rl e w fun vs H1 hl _ h => ?_
  match vs, hl with
  | [x, y], _ => exact ⟨x, y, rfl, h⟩
theorem ok_par3 {i j l : Nat} {ta : TA} {a : MR} (ha : OkR G 3 ta a) : OkS G (tPar3 i j l ta) (sPar [i, j, l] a) := by
  intro T st σ H f st' rl e D w
  refine par_core ha rl e w fun vs H1 hl _ h => ?_
  match vs, hl with
  | [x, y, z], _ => exact ⟨x, y, z, rfl, h⟩
/-- .. where the tuple is made and taken apart -/
theorem ok_parT {is : List Nat} {n : Nat} {K : PySem.W.Frag} {ta : TA} {gs : TGs} {a : MR} (ha : OkR G n ta a) (hn : n ≤ 1000) (hg : ∀ (vs : List V) (σ : L2.St) (H : Hp) (Q : L2.St → Hp → Prop), vs.length = n → Q (setV is vs σ) H → gs vs σ H Q) :
    OkS G (tAsg (tTup ta) (gTup K n gs)) (sPar is a) := by
  intro T st σ H f st' rl e D w
  refine par_core ha rl e w fun vs H1 hl h2 _ => ⟨by rw [hl]; exact small_line hn, fun p hp => ?_⟩
  refine ⟨p, vs, rfl, .of upd_same, hl, hg vs σ _ _ hl (h2 p hp _)⟩
theorem gs_names : ∀ (vs : List V) (σ : L2.St) (H : Hp) (Q : L2.St → Hp → Prop), vs.length = 0 → Q (setV [] vs σ) H → gNil vs σ H Q
  | [], _, _, _, _, h => ⟨rfl, h⟩
theorem gs_namesC {i : Nat} {is : List Nat} {n : Nat} {gs : TGs} (h : ∀ (vs : List V) (σ : L2.St) (H : Hp) (Q : L2.St → Hp → Prop), vs.length = n → Q (setV is vs σ) H → gs vs σ H Q) :
    ∀ (vs : List V) (σ : L2.St) (H : Hp) (Q : L2.St → Hp → Prop), vs.length = n + 1 → Q (setV (i :: is) vs σ) H → gCons (gName i) gs vs σ H Q
  | v :: vs, σ, H, Q, e, q => ⟨v, vs, rfl, h vs _ H Q (by simpa using e) q⟩
end
end LD

/-! Layer D: what is walked, for, while, comprehensions. -/
namespace LD
open PySem PySem.Spec PyProof.Rows L2

/-- the iterator J yields the items xs, whatever is made meanwhile -/
def Serves (G : Gm) (J : It) (T : Ty) (xs : List D) : Prop := ∀ (T1 : Ty) (H1 : Hp), Sub T T1 → Good G T1 H1 → ∀ i : Nat, (xs.length ≤ i → J.stop i H1) ∧
  ∀ d, xs[i]? = some d → J.go i H1 ∧ ∀ x H2, J.yld i H1 x H2 → ∃ T2, NStep G T1 H1 T2 H2 ∧ RepT G T2 x d
abbrev MI := DSt → Option (List D × DSt)
def OkI (G : Gm) (wi : TI) (mi : MI) : Prop := ∀ (T : Ty) (st : DSt) (σ : L2.St) (H : Hp) (xs : List D) (st' : DSt), Rel G T st σ H → mi st = some (xs, st') →
  ∀ Rr : It → Hp → Prop, (∀ T' J H', EStep G T st σ H T' st' H' → Serves G J T' xs → xs.length ≤ sizeLine → Rr J H') → wi σ H Rr

section
variable {G : Gm} {T T1 T2 : Ty} {st st1 st2 : DSt} {σ σ1 σ2 : L2.St} {H H1 H2 : Hp} {v : V} {d : D} {r : R}

theorem reps_ix {vs : List V} {ds : List D} {i : Nat} {d : D} (h : Reps G T vs ds) (e : ds[i]? = some d) : ∃ v, vs[i]? = some v ∧ RepT G T v d := by
  induction h generalizing i with
  | nil => simp at e
  | cons a t ih =>
    cases i with
    | zero => simp at e; subst e; exact ⟨_, rfl, a⟩
    | succ j => exact ih (by simpa using e)
theorem serves_list {a : Addr} {ds : List D} (h : T a = some (.lst ds)) : Serves G (Itl G.K a) T ds := by
  intro T1 H1 s g i
  obtain ⟨vs, hv, r, z⟩ := g a _ (s a _ h)
  refine ⟨fun hi => ⟨vs, .of hv, by rw [r.length]; exact hi⟩, fun d e => ?_⟩
  obtain ⟨v, ev, rv⟩ := reps_ix r e
  refine ⟨⟨vs, v, .of hv, ev⟩, fun x H2 ⟨e1, e2⟩ => ⟨T1, by rw [e1]; exact Step.refl g, ?_⟩⟩
  have := e2 vs (.of hv)
  rw [ev] at this; cases this
  exact rv
theorem serves_tup {a : Addr} {ds : List D} (h : T a = some (.tup ds)) : Serves G (Itt G.K a) T ds := by
  intro T1 H1 s g i
  obtain ⟨vs, hv, r, z⟩ := g a _ (s a _ h)
  refine ⟨fun hi => ⟨vs, .of hv, by rw [r.length]; exact hi⟩, fun d e => ?_⟩
  obtain ⟨v, ev, rv⟩ := reps_ix r e
  refine ⟨⟨vs, v, .of hv, ev⟩, fun x H2 ⟨e1, e2⟩ => ⟨T1, by rw [e1]; exact Step.refl g, ?_⟩⟩
  have := e2 vs (.of hv)
  rw [ev] at this; cases this
  exact rv
/-- a list or a tuple -/
def iSeq (K : PySem.W.Frag) (tl : TE) : TI := fun σ H Rr => tl σ H fun x H1 => ∃ a, x = .ref a ∧ (((∃ xs, SqL K H1 a xs) ∧ Rr (Itl K a) H1) ∨ ((∃ xs, SqT K H1 a xs) ∧ Rr (Itt K a) H1))
theorem pi_seq {X : Cx} {tg l : Expr} {tl : TE} (hl : PE X l tl) : PI X tg l (iSeq X.K tl) := by
  refine ⟨fun pins s σ H R I h => ?_⟩
  refine thn (hl.run pins s σ H _ I h) fun v s1 ⟨x, H1, I1, r1, q1⟩ => ?_
  obtain ⟨a, e, q⟩ := q1
  subst e
  cases r1
  rcases q with ⟨⟨xs, hq⟩, q⟩ | ⟨⟨xs, hq⟩, q⟩
  · obtain ⟨its, rv, p, hz⟩ := I1.list hq
    refine wpAny_pyIter_list p.isList ?_
    refine ⟨s1.heap.objs.size, [s1.heap.objs.size], _, _, H1, rfl, I1.kept (t' := s1.toks) fun b o e => Heap.get?_push_of_some _ e, turn_list a _, ⟨_, Heap.get?_push_size _ rfl, rfl, rfl⟩, fun b hb => ?_, q⟩
    have e : b = s1.heap.objs.size := by simpa using hb
    subst e
    exact I1.fpOk (Nat.le_refl _) (I1.hok.fresh (Nat.le_refl _))
  · obtain ⟨its, rv, p, hz⟩ := I1.tuple hq
    refine wpAny_pyIter_tuple (show s1.heap.IsTuple a its.toArray from p) ?_
    refine ⟨s1.heap.objs.size, [s1.heap.objs.size], _, _, H1, rfl, I1.kept (t' := s1.toks) fun b o e => Heap.get?_push_of_some _ e, turn_tuple a _, ⟨_, Heap.get?_push_size _ rfl, rfl, rfl⟩, fun b hb => ?_, q⟩
    have e : b = s1.heap.objs.size := by simpa using hb
    subst e
    exact I1.fpOk (Nat.le_refl _) (I1.hok.fresh (Nat.le_refl _))
def wSeq (a : M) : MI := fun st => match a st with
  | none => none
  | some (r, s) => match freeze s r with
    | some (.lst ds, s2) => some (ds, s2)
    | some (.tup ds, s2) => some (ds, s2)
    | _ => none
theorem rep_heap (g : Good G T H) {d : D} (h : RepT G T v d) (n : scaV d = none) (n2 : ∀ ns, d ≠ .scr ns) : ∃ a, v = .ref a ∧ T a = some d := by
  cases v with
  | ref a =>
    rcases h with h | ⟨ns, h, k⟩
    · exact ⟨a, rfl, h⟩
    · exact (n2 ns h).elim
  | non => cases (show d = .non from h); cases n
  | bl b => cases (show d = .bl b from h); cases n
  | int i => cases (show d = .int i from h); cases n
  | str x => cases (show d = .str x from h); cases n
  | _ => exact (show False from h).elim
theorem ok_wSeq {t : TE} {a : M} (ha : OkE G t a) : OkI G (iSeq G.K t) (wSeq a) := by
  intro T st σ H xs st' rl e Rr k
  unfold wSeq at e
  split at e
  · cases e
  · rename_i r s e1
    split at e
    · rename_i ds s2 e2
      cases e
      refine ha T st σ H r s rl e1 _ fun T1 v1 H1 E1 R1 => ?_
      obtain ⟨T2, E2, R2⟩ := ok_freeze rl E1 R1 e2
      obtain ⟨a, rfl, ha⟩ := rep_heap E2.rel.good R2 rfl (fun _ => nofun)
      obtain ⟨vs, hv, r', z⟩ := E2.rel.good a _ ha
      exact ⟨a, rfl, .inl ⟨⟨vs, .of hv⟩, k T2 _ H1 E2 (serves_list ha) z⟩⟩
    · rename_i ds s2 e2
      cases e
      refine ha T st σ H r s rl e1 _ fun T1 v1 H1 E1 R1 => ?_
      obtain ⟨T2, E2, R2⟩ := ok_freeze rl E1 R1 e2
      obtain ⟨a, rfl, ha⟩ := rep_heap E2.rel.good R2 rfl (fun _ => nofun)
      obtain ⟨vs, hv, r', z⟩ := E2.rel.good a _ ha
      exact ⟨a, rfl, .inr ⟨⟨vs, .of hv⟩, k T2 _ H1 E2 (serves_tup ha) z⟩⟩
    · cases e
/-- ints from lo on -/
def intsD (lo : Int) (n : Nat) : List D := (List.range n).map fun (k : Nat) => D.int (lo + (k : Int))
theorem intsD_len (lo : Int) (n : Nat) : (intsD lo n).length = n := by simp [intsD]
theorem serves_range (lo : Int) (n : Nat) : Serves G (Itr lo n) T (intsD lo n) := by
  intro T1 H1 s g i
  refine ⟨fun hi => by rw [intsD_len] at hi; exact hi, fun d e => ?_⟩
  have hi : i < n := by
    have := (List.getElem?_eq_some_iff.mp e).1
    rwa [intsD_len] at this
  refine ⟨hi, fun x H2 ⟨e1, e2⟩ => ⟨T1, by rw [e1]; exact Step.refl g, ?_⟩⟩
  have q : (intsD lo n)[i]? = some (.int (lo + (i : Int))) := by simp [intsD, hi]
  rw [q] at e; cases e
  rw [e2]
  rfl
def smallI (j : Int) : Prop := -16777216 ≤ j ∧ j ≤ 16777216
instance (j : Int) : Decidable (smallI j) := by unfold smallI; infer_instance
def wRng1 (a : MA) : MI := fun st => match a st with
  | some ([.int j], s) => if smallI j then some (intsD 0 j.toNat, s) else none
  | _ => none
def wRng2 (a : MA) : MI := fun st => match a st with
  | some ([.int i, .int j], s) => if smallI i ∧ smallI j ∧ smallI (j - i) then some (intsD i (j - i).toNat, s) else none
  | _ => none
theorem line_eq : sizeLine = 16777216 := sizeLine_eq
theorem ok_wRng1 {n : Nat} {t : TA} {a : MA} (ha : OkA G n t a) : OkI G (iRng1 t) (wRng1 a) := by
  intro T st σ H xs st' rl e Rr k
  unfold wRng1 at e
  split at e
  · rename_i j s e1
    split at e
    · rename_i hj
      cases e
      refine ha T st σ H _ _ rl e1 _ fun T1 vs H1 E1 R1 hl => ?_
      cases R1 with
      | cons r t =>
        cases t
        have hv := (Sees.of_rep (H := H1) r).int E1.rel.good
        subst hv
        obtain ⟨h1, h2⟩ := hj
        exact ⟨j, rfl, by omega, by omega, k T1 _ H1 E1 (serves_range 0 _) (by rw [intsD_len]; have := line_eq; omega)⟩
    · cases e
  · cases e
theorem ok_wRng2 {n : Nat} {t : TA} {a : MA} (ha : OkA G n t a) : OkI G (iRng2 t) (wRng2 a) := by
  intro T st σ H xs st' rl e Rr k
  unfold wRng2 at e
  split at e
  · rename_i i j s e1
    split at e
    · rename_i hj
      cases e
      refine ha T st σ H _ _ rl e1 _ fun T1 vs H1 E1 R1 hl => ?_
      cases R1 with
      | cons r t =>
        cases t with
        | cons r' t =>
          cases t
          have hv := (Sees.of_rep (H := H1) r).int E1.rel.good
          have hv' := (Sees.of_rep (H := H1) r').int E1.rel.good
          subst hv; subst hv'
          obtain ⟨⟨h1, h2⟩, ⟨h3, h4⟩, h5, h6⟩ := hj
          exact ⟨i, j, rfl, ⟨by omega, by omega, by omega, by omega⟩, k T1 _ H1 E1 (serves_range i _) (by rw [intsD_len]; have := line_eq; omega)⟩
    · cases e
  · cases e
/-- zip of two lists, of two tuples -/
def pairD : D × D → D := fun p => .tup [p.1, p.2]
theorem zip_stop {α β : Type} (xs : List α) (ys : List β) (i : Nat) (h : (xs.zip ys).length ≤ i) : xs.length ≤ i ∨ ys.length ≤ i := by
  rw [List.length_zip] at h; omega
theorem serves_pair {J : It} {ps : List (D × D)} (h : ∀ (T1 : Ty) (H1 : Hp), Sub T T1 → Good G T1 H1 → ∀ i : Nat, (ps.length ≤ i → J.stop i H1) ∧ ∀ p, ps[i]? = some p → J.go i H1 ∧
    ∀ x H2, J.yld i H1 x H2 → ∃ t u w, x = .ref t ∧ H1 t = none ∧ H2 = upd H1 t (.tup [u, w]) ∧ RepT G T1 u p.1 ∧ RepT G T1 w p.2) : Serves G J T (ps.map pairD) := by
  intro T1 H1 s g i
  obtain ⟨h1, h2⟩ := h T1 H1 s g i
  refine ⟨fun hi => h1 (by rw [List.length_map] at hi; exact hi), fun d e => ?_⟩
  rw [List.getElem?_map] at e
  cases q : ps[i]? with
  | none => rw [q] at e; cases e
  | some p =>
    rw [q] at e
    cases e
    obtain ⟨h3, h4⟩ := h2 p q
    refine ⟨h3, fun x H2 y => ?_⟩
    obtain ⟨t, u, w, rfl, hn, rfl, r1, r2⟩ := h4 x H2 y
    have s2 := Sub.tset (d := pairD p) (g.free hn)
    refine ⟨tset T1 t (pairD p), Step.lay g hn _ ⟨[u, w], upd_same, .cons (r1.mono s2) (.cons (r2.mono s2) .nil), by show 2 ≤ sizeLine; decide⟩, .inl tset_same⟩
theorem zip_at {α β : Type} {xs : List α} {ys : List β} {i : Nat} {p : α × β} (h : (xs.zip ys)[i]? = some p) : xs[i]? = some p.1 ∧ ys[i]? = some p.2 := by
  rw [List.getElem?_zip_eq_some] at h
  exact h
def wZip (a : MA) : MI := fun st => match a st with
  | some ([.lst xs, .lst ys], s) => some ((xs.zip ys).map pairD, s)
  | some ([.tup xs, .tup ys], s) => some ((xs.zip ys).map pairD, s)
  | _ => none
theorem ok_wZip {n : Nat} {t : TA} {a : MA} (ha : OkA G n t a) : OkI G (RZ.iZipA G.K t) (wZip a) := by
  intro T st σ H xs st' rl e Rr k
  unfold wZip at e
  split at e
  · rename_i xs ys s e1
    cases e
    refine ha T st σ H _ _ rl e1 _ fun T1 vs H1 E1 R1 hl => ?_
    cases R1 with
    | cons r t =>
      cases t with
      | cons r' t =>
        cases t
        obtain ⟨a, rfl, ha⟩ := rep_heap E1.rel.good r rfl (fun _ => nofun)
        obtain ⟨b, rfl, hb⟩ := rep_heap E1.rel.good r' rfl (fun _ => nofun)
        obtain ⟨vs, hv, rv, zv⟩ := E1.rel.good a _ ha
        obtain ⟨ws, hw, rw', zw⟩ := E1.rel.good b _ hb
        refine ⟨a, b, vs, ws, rfl, .inl ⟨.of hv, .of hw, k T1 _ H1 E1 (serves_pair fun T2 H2 s2 g2 i => ?_) (by rw [List.length_map, List.length_zip]; omega)⟩⟩
        obtain ⟨vs, hv, rv, zv⟩ := g2 a _ (s2 a _ ha)
        obtain ⟨ws, hw, rw', zw⟩ := g2 b _ (s2 b _ hb)
        refine ⟨fun hi => ⟨vs, ws, .of hv, .of hw, by rw [rv.length, rw'.length]; exact zip_stop xs ys i hi⟩, fun p e => ?_⟩
        obtain ⟨e1, e2⟩ := zip_at e
        obtain ⟨x, h1, h2⟩ := reps_ix rv e1
        obtain ⟨y, h3, h4⟩ := reps_ix rw' e2
        refine ⟨⟨vs, ws, x, y, .of hv, .of hw, h1, h3⟩, fun z H3 ⟨t, x', y', q1, q2, q3, q4, q5⟩ => ⟨t, x', y', q1, q2, q3, ?_, ?_⟩⟩
        · have := q4 vs (.of hv); rw [h1] at this; cases this; exact h2
        · have := q5 ws (.of hw); rw [h3] at this; cases this; exact h4
  · rename_i xs ys s e1
    cases e
    refine ha T st σ H _ _ rl e1 _ fun T1 vs H1 E1 R1 hl => ?_
    cases R1 with
    | cons r t =>
      cases t with
      | cons r' t =>
        cases t
        obtain ⟨a, rfl, ha⟩ := rep_heap E1.rel.good r rfl (fun _ => nofun)
        obtain ⟨b, rfl, hb⟩ := rep_heap E1.rel.good r' rfl (fun _ => nofun)
        obtain ⟨vs, hv, rv, zv⟩ := E1.rel.good a _ ha
        obtain ⟨ws, hw, rw', zw⟩ := E1.rel.good b _ hb
        refine ⟨a, b, vs, ws, rfl, .inr ⟨.of hv, .of hw, k T1 _ H1 E1 (serves_pair fun T2 H2 s2 g2 i => ?_) (by rw [List.length_map, List.length_zip]; omega)⟩⟩
        obtain ⟨vs, hv, rv, zv⟩ := g2 a _ (s2 a _ ha)
        obtain ⟨ws, hw, rw', zw⟩ := g2 b _ (s2 b _ hb)
        refine ⟨fun hi => ⟨vs, ws, .of hv, .of hw, by rw [rv.length, rw'.length]; exact zip_stop xs ys i hi⟩, fun p e => ?_⟩
        obtain ⟨e1, e2⟩ := zip_at e
        obtain ⟨x, h1, h2⟩ := reps_ix rv e1
        obtain ⟨y, h3, h4⟩ := reps_ix rw' e2
        refine ⟨⟨vs, ws, x, y, .of hv, .of hw, h1, h3⟩, fun z H3 ⟨t, x', y', q1, q2, q3, q4, q5⟩ => ⟨t, x', y', q1, q2, q3, ?_, ?_⟩⟩
        · have := q4 vs (.of hv); rw [h1] at this; cases this; exact h2
        · have := q5 ws (.of hw); rw [h3] at this; cases this; exact h4
  · cases e
/-- enumerate of a list -/
def enumD (i : Nat) : List D → List (D × D)
  | [] => []
  | x :: xs => (.int (i : Nat), x) :: enumD (i + 1) xs
theorem enumD_len : ∀ (xs : List D) (i : Nat), (enumD i xs).length = xs.length
  | [], _ => rfl
  | _ :: xs, i => by rw [enumD, List.length_cons, enumD_len xs, List.length_cons]
theorem enumD_at : ∀ (xs : List D) (i j : Nat) (p : D × D), (enumD i xs)[j]? = some p → p.1 = .int ((i + j : Nat) : Int) ∧ xs[j]? = some p.2
  | [], _, _, _, h => by simp [enumD] at h
  | x :: xs, i, 0, p, h => by
    simp [enumD] at h
    subst h
    exact ⟨rfl, rfl⟩
  | x :: xs, i, j + 1, p, h => by
    obtain ⟨h1, h2⟩ := enumD_at xs (i + 1) j p (by simpa [enumD] using h)
    refine ⟨?_, by simpa using h2⟩
    rw [h1]
    congr 2
    omega
def wEnum (a : MA) : MI := fun st => match a st with
  | some ([.lst xs], s) => some ((enumD 0 xs).map pairD, s)
  | _ => none
theorem ok_wEnum {n : Nat} {t : TA} {a : MA} (ha : OkA G n t a) : OkI G (iEnum G.K t) (wEnum a) := by
  intro T st σ H xs st' rl e Rr k
  unfold wEnum at e
  split at e
  · rename_i xs s e1
    cases e
    refine ha T st σ H _ _ rl e1 _ fun T1 vs H1 E1 R1 hl => ?_
    cases R1 with
    | cons r t =>
      cases t
      obtain ⟨a, rfl, ha⟩ := rep_heap E1.rel.good r rfl (fun _ => nofun)
      obtain ⟨vs, hv, rv, zv⟩ := E1.rel.good a _ ha
      refine ⟨a, vs, rfl, .of hv, k T1 _ H1 E1 (serves_pair fun T2 H2 s2 g2 i => ?_) (by rw [List.length_map, enumD_len]; exact zv)⟩
      obtain ⟨vs, hv, rv, zv⟩ := g2 a _ (s2 a _ ha)
      refine ⟨fun hi => ⟨vs, .of hv, by rw [rv.length]; rw [enumD_len] at hi; exact hi⟩, fun p e => ?_⟩
      obtain ⟨e1, e2⟩ := enumD_at xs 0 i p e
      obtain ⟨x, h1, h2⟩ := reps_ix rv e2
      refine ⟨⟨vs, x, .of hv, h1⟩, fun z H3 ⟨t, x', q1, q2, q3, q4⟩ => ⟨t, .int (i : Nat), x', q1, q2, q3, ?_, ?_⟩⟩
      · show p.1 = _; rw [e1, Nat.zero_add]
      · have := q4 vs (.of hv); rw [h1] at this; cases this; exact h2
  · cases e

/-! ### for -/
def forD (g : MG) (b : MS) : List D → DSt → Option (Fl × DSt)
  | [], st => some (.nx, st)
  | x :: xs, st => match g x st with
    | none => none
    | some s => match b s with
      | some (.nx, s2) => forD g b xs s2
      | some (.ct, s2) => forD g b xs s2
      | some (.bk, s2) => some (.nx, s2)
      | some (.ret r, s2) => some (.ret r, s2)
      | none => none
def sFor (w : MI) (g : MG) (b : MS) : MS := fun st => match w st with
  | none => none
  | some (xs, s) => forD g b xs s
theorem ok_for {wi : TI} {tg : TG} {tb : TS} {w : MI} {g : MG} {b : MS} (hw : OkI G wi w) (hg : OkG G tg g) (hb : OkS G tb b) : OkS G (tFor wi tg tb) (sFor w g b) := by
  intro T st σ H f st' rl e D wish
  unfold sFor at e
  split at e
  · cases e
  · rename_i xs s e1
    refine hw T st σ H xs s rl e1 _ fun T1 J H1 E1 sv hz => ?_
    refine ⟨fun i m σ' H' => m + i = xs.length ∧ ∃ T' st2, SStep G T st σ H T' st2 σ' H' ∧ Sub T1 T' ∧ forD g b (xs.drop i) st2 = some (f, st'),
      ⟨xs.length, rfl, T1, s, E1.s, Sub.refl _, e⟩, fun i m σ' H' ⟨hm, T', st2, S, sb, ef⟩ => ?_⟩
    obtain ⟨q1, q2⟩ := sv T' H' sb S.rel.good i
    by_cases hi : i < xs.length
    · have ex : xs[i]? = some xs[i] := List.getElem?_eq_getElem hi
      obtain ⟨go, yl⟩ := q2 _ ex
      rw [List.drop_eq_getElem_cons hi] at ef
      unfold forD at ef
      refine .inr ⟨go, fun σ3 H3 => ∃ T3 st3, SStep G T st σ H T3 st3 σ3 H3 ∧ Sub T1 T3 ∧ forD g b (xs.drop (i + 1)) st3 = some (f, st'), fun σ3 H3 ⟨T3, st3, S3, sb3, ef3⟩ => ⟨m - 1, by omega, by omega, T3, st3, S3, sb3, ef3⟩, fun x H2 y => ?_⟩
      obtain ⟨T2, N2, r2⟩ := yl x H2 y
      have E2 := S.rel.ekeep N2
      have S2 := S.trans E2.s
      split at ef
      · cases ef
      · rename_i s3 eg
        refine hg T2 st2 σ' H2 x xs[i] s3 E2.rel r2 eg _ fun T3 σ3 H3 S3 => ?_
        have S23 := S2.trans S3
        have sb3 : Sub T1 T3 := sb.trans (N2.sub.trans S3.step.sub)
        split at ef
        · rename_i s4 eb
          exact hb T3 s3 σ3 H3 _ _ S3.rel eb _ fun T4 σ4 H4 S4 => ⟨T4, s4, S23.trans S4, sb3.trans S4.step.sub, ef⟩
        · rename_i s4 eb
          exact hb T3 s3 σ3 H3 _ _ S3.rel eb _ fun T4 σ4 H4 S4 => ⟨T4, s4, S23.trans S4, sb3.trans S4.step.sub, ef⟩
        · rename_i s4 eb
          cases ef
          exact hb T3 s3 σ3 H3 _ _ S3.rel eb _ fun T4 σ4 H4 S4 => wish T4 σ4 H4 (S23.trans S4)
        · rename_i r s4 eb
          cases ef
          exact hb T3 s3 σ3 H3 _ _ S3.rel eb _ fun T4 σ4 H4 v4 S4 R4 => wish T4 σ4 H4 v4 (S23.trans S4) (R4.back S23.step.dom)
        · cases ef
    · have hi' : xs.length ≤ i := Nat.le_of_not_lt hi
      rw [List.drop_eq_nil_of_le hi'] at ef
      cases ef
      exact .inl ⟨q1 hi', wish T' σ' H' S⟩

/-! ### while -/
def whileD (c : MT) (b : MS) : Nat → DSt → Option (Fl × DSt)
  | 0, _ => none
  | n + 1, st => match c st with
    | none => none
    | some (false, s) => some (.nx, s)
    | some (true, s) => match b s with
      | some (.nx, s2) => whileD c b n s2
      | some (.ct, s2) => whileD c b n s2
      | some (.bk, s2) => some (.nx, s2)
      | some (.ret r, s2) => some (.ret r, s2)
      | none => none
def sWhile (n : Nat) (c : MT) (b : MS) : MS := whileD c b n
theorem ok_while {n : Nat} {tc : TT} {tb : TS} {c : MT} {b : MS} (hc : OkT G tc c) (hb : OkS G tb b) : OkS G (tWhile tc tb) (sWhile n c b) := by
  intro T st σ H f st' rl e D wish
  refine ⟨fun m σ' H' => ∃ T' st2, SStep G T st σ H T' st2 σ' H' ∧ whileD c b m st2 = some (f, st'), ⟨n, T, st, SStep.refl rl, e⟩, fun m σ' H' ⟨T', st2, S, ef⟩ => ?_⟩
  cases m with
  | zero => cases ef
  | succ m =>
    unfold whileD at ef
    split at ef
    · cases ef
    · rename_i s ec
      cases ef
      refine hc T' st2 σ' H' _ _ S.rel ec _ fun T1 H1 E1 => ?_
      rw [if_neg Bool.false_ne_true]
      exact wish T1 σ' H1 (S.trans E1.s)
    · rename_i s ec
      refine hc T' st2 σ' H' _ _ S.rel ec _ fun T1 H1 E1 => ?_
      rw [if_pos rfl]
      have S1 := S.trans E1.s
      refine ⟨fun σ3 H3 => ∃ T3 st3, SStep G T st σ H T3 st3 σ3 H3 ∧ whileD c b m st3 = some (f, st'), fun σ3 H3 q => ⟨m, Nat.lt_succ_self m, q⟩, ?_⟩
      split at ef
      · rename_i s4 eb
        exact hb T1 s σ' H1 _ _ E1.rel eb _ fun T4 σ4 H4 S4 => ⟨T4, s4, S1.trans S4, ef⟩
      · rename_i s4 eb
        exact hb T1 s σ' H1 _ _ E1.rel eb _ fun T4 σ4 H4 S4 => ⟨T4, s4, S1.trans S4, ef⟩
      · rename_i s4 eb
        cases ef
        exact hb T1 s σ' H1 _ _ E1.rel eb _ fun T4 σ4 H4 S4 => wish T4 σ4 H4 (S1.trans S4)
      · rename_i r s4 eb
        cases ef
        exact hb T1 s σ' H1 _ _ E1.rel eb _ fun T4 σ4 H4 v4 S4 R4 => wish T4 σ4 H4 v4 (S1.trans S4) (R4.back S1.step.dom)
      · cases ef
end
end LD

/-! Layer D: comprehensions. -/
namespace LD
open PySem PySem.Spec PyProof.Rows L2

def wipeD (st : DSt) : List Nat → DSt
  | [] => st
  | v :: vs => (wipeD st vs).set v none
/-- the slots vs as in s, the others as in t -/
def restD (s t : DSt) : List Nat → DSt
  | [] => t
  | v :: vs => match s[v]? with
    | some x => (restD s t vs).set v x
    | none => restD s t vs
theorem wipeD_len (st : DSt) : ∀ vs, (wipeD st vs).length = st.length
  | [] => rfl
  | v :: vs => by rw [wipeD, List.length_set, wipeD_len st vs]
theorem wipeD_in {st : DSt} {j : Nat} : ∀ {vs : List Nat}, j ∈ vs → ∀ sv, (wipeD st vs)[j]? ≠ some (some sv)
  | [], h, _ => by simp at h
  | v :: vs, h, sv => fun q => by
    rw [wipeD] at q
    by_cases e : v = j
    · subst e
      by_cases hv : v < (wipeD st vs).length
      · rw [List.getElem?_set_self hv] at q; cases q
      · rw [List.getElem?_eq_none (by rw [List.length_set]; omega)] at q; cases q
    · rw [List.getElem?_set_ne e] at q
      exact wipeD_in ((List.mem_cons.mp h).elim (fun z => absurd z.symm e) id) sv q
theorem wipeD_out {st : DSt} {j : Nat} : ∀ {vs : List Nat}, j ∉ vs → (wipeD st vs)[j]? = st[j]?
  | [], _ => rfl
  | v :: vs, h => by
    rw [wipeD, List.getElem?_set_ne (fun e => h (by simp [e])), wipeD_out fun z => h (by simp [z])]
theorem wipe_out' {σ : L2.St} {j : Nat} : ∀ {vs : List Nat}, j ∉ vs → (wipe σ vs)[j]? = σ[j]?
  | [], _ => rfl
  | v :: vs, h => by
    rw [wipe, List.getElem?_set_ne (fun e => h (by simp [e])), wipe_out' fun z => h (by simp [z])]
theorem wipe_in' {σ : L2.St} {j : Nat} : ∀ {vs : List Nat}, j ∈ vs → (wipe σ vs)[j]? = if j < σ.length then some none else none
  | [], h => by simp at h
  | v :: vs, h => by
    rw [wipe]
    by_cases e : v = j
    · subst e
      by_cases hl : v < σ.length
      · rw [List.getElem?_set_self (by rw [wipe_length]; exact hl), if_pos hl]
      · rw [List.getElem?_eq_none (by rw [List.length_set, wipe_length]; omega), if_neg hl]
    · rw [List.getElem?_set_ne e]
      exact wipe_in' ((List.mem_cons.mp h).elim (fun z => absurd z.symm e) id)
theorem wipe_ext {σ τ : L2.St} {vs : List Nat} (hl : σ.length = τ.length) (h : ∀ j, j ∉ vs → σ[j]? = τ[j]?) : wipe σ vs = wipe τ vs := by
  refine List.ext_getElem? fun j => ?_
  by_cases hj : j ∈ vs
  · rw [wipe_in' hj, wipe_in' hj, hl]
  · rw [wipe_out' hj, wipe_out' hj, h j hj]
theorem wipe_idem (σ : L2.St) (vs : List Nat) : wipe (wipe σ vs) vs = wipe σ vs := wipe_ext (wipe_length σ vs) fun j hj => wipe_out' hj
theorem restD_len (s t : DSt) : ∀ vs, (restD s t vs).length = t.length
  | [] => rfl
  | v :: vs => by
    rw [restD]
    split
    · rw [List.length_set, restD_len s t vs]
    · exact restD_len s t vs
theorem restD_in {s t : DSt} (hl : t.length = s.length) {j : Nat} : ∀ {vs : List Nat}, j ∈ vs → (restD s t vs)[j]? = s[j]?
  | [], h => by simp at h
  | v :: vs, h => by
    rw [restD]
    by_cases e : v = j
    · subst e
      split
      · rename_i x hx
        have hv : v < s.length := (List.getElem?_eq_some_iff.mp hx).1
        rw [List.getElem?_set_self (by rw [restD_len]; omega)]
        exact hx.symm
      · rename_i hx
        rw [hx]
        have hv : s.length ≤ v := List.getElem?_eq_none_iff.mp hx
        exact List.getElem?_eq_none (by rw [restD_len]; omega)
    · have ih := restD_in hl (vs := vs) ((List.mem_cons.mp h).elim (fun z => absurd z.symm e) id)
      split
      · rw [List.getElem?_set_ne e]; exact ih
      · exact ih
theorem restD_out {s t : DSt} {j : Nat} : ∀ {vs : List Nat}, j ∉ vs → (restD s t vs)[j]? = t[j]?
  | [], _ => rfl
  | v :: vs, h => by
    have ih := restD_out (s := s) (t := t) (j := j) (vs := vs) fun z => h (by simp [z])
    rw [restD]
    split
    · rw [List.getElem?_set_ne (fun e => h (by simp [e]))]; exact ih
    · exact ih

section
variable {G : Gm} {T T1 T2 : Ty} {st st1 st2 : DSt} {σ σ1 σ2 : L2.St} {H H1 H2 : Hp} {v : V} {d : D} {r : R} {vs : List Nat}

/-- a target that stores into slots of vs alone -/
def OkV (G : Gm) (vs : List Nat) (g : TG) (m : MG) : Prop := ∀ (T : Ty) (st : DSt) (σ : L2.St) (H : Hp) (v : V) (d : D) (st' : DSt), Rel G T st σ H → RepT G T v d → m d st = some st' →
  ∀ Q : L2.St → Hp → Prop, (∀ σ', Rel G T st' σ' H → (∀ j, j ∉ vs → st'[j]? = st[j]? ∧ σ'[j]? = σ[j]?) → (∀ (j : Nat) k e, st'[j]? = some (some (.rt k e)) → st[j]? = some (some (.rt k e))) → σ'.length = σ.length → Q σ' H) → g v σ H Q
def OkVs (G : Gm) (vs : List Nat) (g : TGs) (m : MGs) : Prop := ∀ (T : Ty) (st : DSt) (σ : L2.St) (H : Hp) (us : List V) (ds : List D) (st' : DSt), Rel G T st σ H → Reps G T us ds → m ds st = some st' →
  ∀ Q : L2.St → Hp → Prop, (∀ σ', Rel G T st' σ' H → (∀ j, j ∉ vs → st'[j]? = st[j]? ∧ σ'[j]? = σ[j]?) → (∀ (j : Nat) k e, st'[j]? = some (some (.rt k e)) → st[j]? = some (some (.rt k e))) → σ'.length = σ.length → Q σ' H) → g us σ H Q
theorem ok_vN {i : Nat} (hi : i ∈ vs) : OkV G vs (gName i) (gN i) := by
  intro T st σ H v d st' rl r e Q k
  cases e
  refine k _ (set_imm rl r).rel (fun j hj => ?_) (fun j kk e q => ?_) List.length_set
  · have ne : i ≠ j := fun z => hj (z ▸ hi)
    exact ⟨List.getElem?_set_ne ne, List.getElem?_set_ne ne⟩
  · by_cases ij : i = j
    · subst ij
      by_cases hl : i < st.length
      · rw [List.getElem?_set_self hl] at q; cases q
      · rw [List.getElem?_eq_none (by rw [List.length_set]; omega)] at q; cases q
    · rw [List.getElem?_set_ne ij] at q; exact q
theorem ok_vsN : OkVs G vs gNil gsN := by
  intro T st σ H us ds st' rl r e Q k
  unfold gsN at e
  split at e
  · cases e
    cases r
    exact ⟨rfl, k σ rl (fun _ _ => ⟨rfl, rfl⟩) (fun _ _ _ q => q) rfl⟩
  · cases e
theorem ok_vsC {g : TG} {gs : TGs} {a : MG} {b : MGs} (ha : OkV G vs g a) (hb : OkVs G vs gs b) : OkVs G vs (gCons g gs) (gsC a b) := by
  intro T st σ H us ds st' rl r e Q k
  unfold gsC at e
  split at e
  · cases e
  · rename_i d ds'
    split at e
    · cases e
    · rename_i s e1
      cases r with
      | cons r t =>
        refine ⟨_, _, rfl, ha T st σ H _ _ s rl r e1 _ fun σ1 R1 a1 b1 l1 => ?_⟩
        refine hb T s σ1 H _ _ st' R1 t e _ fun σ2 R2 a2 b2 l2 => k σ2 R2 (fun j hj => ?_) (fun j kk x q => b1 j kk x (b2 j kk x q)) (l2.trans l1)
        exact ⟨(a2 j hj).1.trans (a1 j hj).1, (a2 j hj).2.trans (a1 j hj).2⟩
theorem ok_vT {n : Nat} {gs : TGs} {b : MGs} (hb : OkVs G vs gs b) : OkV G vs (gTup G.K n gs) (gT n b) := by
  intro T st σ H v d st' rl r e Q k
  unfold gT at e
  split at e
  · rename_i ds
    split at e
    · rename_i hl
      obtain ⟨a, us, rfl, q, _, r', _⟩ := (Sees.of_rep (H := H) r).tup rl.good
      exact ⟨a, us, rfl, q, by rw [r'.length, hl], hb T st σ H us ds st' rl r' e Q k⟩
    · cases e
  · cases e

theorem root_wipe {a : Addr} (h : Root (wipeD st vs) (wipe σ vs) a) : Root st σ a := by
  obtain ⟨j, k, d, h1, h2⟩ := h
  have hj : j ∉ vs := fun z => wipeD_in z _ h1
  rw [wipeD_out hj] at h1
  rw [wipe_out' hj] at h2
  exact ⟨j, k, d, h1, h2⟩
theorem rel_wipe (rl : Rel G T st σ H) (vs : List Nat) : Rel G T (wipeD st vs) (wipe σ vs) H := by
  have o1 : ∀ {j sv}, (wipeD st vs)[j]? = some (some sv) → j ∉ vs ∧ st[j]? = some (some sv) := fun {j sv} h => by
    have hj : j ∉ vs := fun z => wipeD_in z _ h
    rw [wipeD_out hj] at h
    exact ⟨hj, h⟩
  refine ⟨rl.good, by rw [wipeD_len, wipe_length]; exact rl.len, fun j d h => ?_, fun j k d h => ?_, fun i j k k' d d' a h h' q q' => ?_⟩
  · obtain ⟨hj, h⟩ := o1 h
    rw [wipe_out' hj]
    exact rl.imm j d h
  · obtain ⟨hj, h⟩ := o1 h
    rw [wipe_out' hj]
    exact rl.rts j k d h
  · obtain ⟨hj, h⟩ := o1 h
    obtain ⟨hj', h'⟩ := o1 h'
    rw [wipe_out' hj] at q
    rw [wipe_out' hj'] at q'
    exact rl.inj i j k k' d d' a h h' q q'
/-- an own temporary is written -/
theorem Step.tmp {R : Addr → Prop} (s : Step G T H T1 H1 R) {p : Addr} (hp : H p = none) (tp : T1 p = none) (o : HO) : Step G T H T1 (upd H1 p o) R := by
  refine ⟨s.sub, fun a e q => ?_, fun a h z => ?_, fun a u h t n => ?_⟩
  · have ap : a ≠ p := fun z => by rw [z, tp] at q; cases q
    exact (s.good a e q).mono (Sub.refl _) (upd_ne ap)
  · by_cases ap : a = p
    · rw [ap, upd_same] at z; cases z
    · rw [upd_ne ap] at z; exact s.dom a h z
  · have ap : a ≠ p := ne_of_none h hp
    obtain ⟨h1, t1⟩ := s.frm a u h t n
    exact ⟨by rw [upd_ne ap]; exact h1, t1⟩
theorem Rel.tmp (rl : Rel G T st σ H) {p : Addr} (tp : T p = none) (np : ¬ Root st σ p) (o : HO) : Rel G T st σ (upd H p o) := by
  have gd : Good G T (upd H p o) := fun a e q => by
    have ap : a ≠ p := fun z => by rw [z, tp] at q; cases q
    exact (rl.good a e q).mono (Sub.refl _) (upd_ne ap)
  refine ⟨gd, rl.len, rl.imm, fun j k d h => ?_, rl.inj⟩
  obtain ⟨a, h1, o'⟩ := rl.rts j k d h
  have ap : a ≠ p := fun z => np ⟨j, k, d, h, z ▸ h1⟩
  exact ⟨a, h1, o'.ty, o'.sh.mono (Sub.refl _) (upd_ne ap), by rw [upd_ne ap]; exact o'.mu⟩
theorem EStep.tmp (e : EStep G T st σ H T1 st1 H1) {p : Addr} (hp : H p = none) (tp : T1 p = none) (np : ¬ Root st1 σ p) (o : HO) : EStep G T st σ H T1 st1 (upd H1 p o) :=
  ⟨e.rel.tmp tp np o, e.step.tmp hp tp o, e.kind, e.some⟩

/-! ### the list -/
def lcD (vs : List Nat) (g : MG) (c : MT) (m : M) : List D → DSt → Option (List D × DSt)
  | [], st => some ([], st)
  | x :: xs, st => match g x st with
    | none => none
    | some s1 => match c s1 with
      | none => none
      | some (false, s2) => lcD vs g c m xs (wipeD s2 vs)
      | some (true, s2) => match m s2 with
        | none => none
        | some (r, s3) => match freeze s3 r with
          | none => none
          | some (d, s4) => match lcD vs g c m xs (wipeD s4 vs) with
            | none => none
            | some (ds, s5) => some (d :: ds, s5)
def mLc (vs : List Nat) (w : MI) (g : MG) (c : MT) (m : M) : M := fun st => match w st with
  | none => none
  | some (xs, s) => match lcD vs g c m xs (wipeD s vs) with
    | none => none
    | some (ds, t) => some (.own (.lst ds), restD s t vs)
def tYesD : MT := fun st => some (true, st)
theorem ok_yes : OkT G tYes tYesD := by
  intro T st σ H b st' rl e Q k
  cases e
  exact k T H (EStep.refl rl)

/-- a turn over wiped slots -/
theorem turn_wipe {s0 s1 s4 : DSt} {τ : L2.St} (hw : ∀ j ∈ vs, ∀ sv, s0[j]? ≠ some (some sv)) (rl : Rel G T s0 (wipe σ vs) H) (ag : ∀ j, j ∉ vs → s1[j]? = s0[j]? ∧ τ[j]? = (wipe σ vs)[j]?)
    (nr : ∀ (j : Nat) k e, s1[j]? = some (some (.rt k e)) → s0[j]? = some (some (.rt k e))) (hl : τ.length = σ.length) (E : EStep G T s1 τ H T1 s4 H1) : EStep G T s0 (wipe σ vs) H T1 (wipeD s4 vs) H1 := by
  have ew : wipe τ vs = wipe σ vs := by
    rw [← wipe_idem σ vs]
    exact wipe_ext (by rw [hl, wipe_length]) fun j hj => (ag j hj).2
  have rt : ∀ a, Root s1 τ a → Root s0 (wipe σ vs) a := fun a ⟨j, k, d, h1, h2⟩ => by
    have h3 := nr j k d h1
    have hj : j ∉ vs := fun z => hw j z _ h3
    exact ⟨j, k, d, h3, (ag j hj).2.symm.trans h2⟩
  have rw4 := rel_wipe E.rel vs
  rw [ew] at rw4
  refine ⟨rw4, E.step.mono rt, fun j k d h => ?_, fun j sv h => ?_⟩
  · have hj : j ∉ vs := fun z => wipeD_in z _ h
    rw [wipeD_out hj] at h
    obtain ⟨d0, h0⟩ := E.kind j k d h
    exact ⟨d0, nr j k d0 h0⟩
  · have hj : j ∉ vs := fun z => hw j z _ h
    rw [← (ag j hj).1] at h
    obtain ⟨sv', h'⟩ := E.some j sv h
    exact ⟨sv', by rw [wipeD_out hj]; exact h'⟩
/-- behind the loop: the slots as they stood -/
theorem back_wipe {s t : DSt} (rl : Rel G T s σ H) (E : EStep G T (wipeD s vs) (wipe σ vs) H T1 t H1) : EStep G T s σ H T1 (restD s t vs) H1 := by
  have hl : t.length = s.length := by rw [E.rel.len, wipe_length, ← rl.len]
  have out : ∀ {j sv}, j ∉ vs → (restD s t vs)[j]? = some (some sv) → t[j]? = some (some sv) := fun {j sv} hj h => by rw [restD_out hj] at h; exact h
  have inn : ∀ {j sv}, j ∈ vs → (restD s t vs)[j]? = some (some sv) → s[j]? = some (some sv) := fun {j sv} hj h => by rw [restD_in hl hj] at h; exact h
  -- an own root of a wiped slot is kept
  have kept : ∀ {j k d a}, j ∈ vs → s[j]? = some (some (.rt k d)) → σ[j]? = some (some (.ref a)) → Own G T H a d → Own G T1 H1 a d := fun {j k d a} hj h h2 o => o.step E.step fun ⟨j', k', d', h3, h4⟩ => by
    have hj' : j' ∉ vs := fun z => wipeD_in z _ h3
    rw [wipeD_out hj'] at h3
    rw [wipe_out' hj'] at h4
    exact hj' (rl.inj j j' k k' d d' a h h3 h2 h4 ▸ hj)
  have rootO : ∀ {j k d}, j ∉ vs → t[j]? = some (some (.rt k d)) → ∃ d0, s[j]? = some (some (.rt k d0)) := fun {j k d} hj h => by
    obtain ⟨d0, h0⟩ := E.kind j k d h
    rw [wipeD_out hj] at h0
    exact ⟨d0, h0⟩
  refine ⟨⟨E.step.good, by rw [restD_len, hl]; exact rl.len, fun j d h => ?_, fun j k d h => ?_, fun i j k k' d d' a h h' q q' => ?_⟩, E.step.mono fun a h => root_wipe h, fun j k d h => ?_, fun j sv h => ?_⟩
  · by_cases hj : j ∈ vs
    · obtain ⟨v, h1, h2⟩ := rl.imm j d (inn hj h)
      exact ⟨v, h1, h2.mono E.step.sub⟩
    · obtain ⟨v, h1, h2⟩ := E.rel.imm j d (out hj h)
      rw [wipe_out' hj] at h1
      exact ⟨v, h1, h2⟩
  · by_cases hj : j ∈ vs
    · obtain ⟨a, h1, o⟩ := rl.rts j k d (inn hj h)
      exact ⟨a, h1, kept hj (inn hj h) h1 o⟩
    · obtain ⟨a, h1, o⟩ := E.rel.rts j k d (out hj h)
      rw [wipe_out' hj] at h1
      exact ⟨a, h1, o⟩
  · have r1 : ∃ e, s[i]? = some (some (.rt k e)) := by
      by_cases hi : i ∈ vs
      · exact ⟨d, inn hi h⟩
      · exact rootO hi (out hi h)
    have r2 : ∃ e, s[j]? = some (some (.rt k' e)) := by
      by_cases hj : j ∈ vs
      · exact ⟨d', inn hj h'⟩
      · exact rootO hj (out hj h')
    obtain ⟨e1, r1⟩ := r1
    obtain ⟨e2, r2⟩ := r2
    exact rl.inj i j k k' e1 e2 a r1 r2 q q'
  · by_cases hj : j ∈ vs
    · exact ⟨d, inn hj h⟩
    · exact rootO hj (out hj h)
  · by_cases hj : j ∈ vs
    · exact ⟨sv, by rw [restD_in hl hj]; exact h⟩
    · obtain ⟨sv', h'⟩ := E.some j sv (by rw [wipeD_out hj]; exact h)
      exact ⟨sv', by rw [restD_out hj]; exact h'⟩

theorem ok_lc {wi : TI} {tg : TG} {tt : TT} {te : TE} {w : MI} {g : MG} {c : MT} {m : M} (hw : OkI G wi w) (hg : OkV G vs tg g) (hc : OkT G tt c) (hm : OkE G te m) : OkE G (tLc wi tg tt te vs) (mLc vs w g c m) := by
  intro T st σ H r st' rl e Q k
  unfold mLc at e
  split at e
  · cases e
  · rename_i xs s e1
    split at e
    · cases e
    · rename_i ds t e2
      cases e
      refine hw T st σ H xs s rl e1 _ fun T1 J H1 E1 sv hz D hD => ?_
      have tD : T1 D = none := E1.rel.good.free hD
      have R0 := rel_wipe E1.rel vs
      have noroot : ∀ {T' : Ty} {st2 : DSt} {H' : Hp}, EStep G T1 (wipeD s vs) (wipe σ vs) H1 T' st2 H' → ¬ Root st2 (wipe σ vs) D := fun {T' st2 H'} E z => (R0.root_own (E.root z)).1 hD
      refine ⟨fun i mm H' => mm + i = xs.length ∧ ∃ T' st2 acc accV rest, EStep G T1 (wipeD s vs) (wipe σ vs) H1 T' st2 H' ∧ (∀ j ∈ vs, ∀ sv, st2[j]? ≠ some (some sv)) ∧ T' D = none ∧ H' D = some (.lst accV) ∧ Reps G T' accV acc ∧ acc.length ≤ i ∧
          lcD vs g c m (xs.drop i) st2 = some (rest, t) ∧ acc ++ rest = ds,
        ⟨xs.length, rfl, T1, wipeD s vs, [], [], ds, (EStep.refl R0).tmp hD tD (noroot (EStep.refl R0)) _, fun j hj sv => wipeD_in hj sv, tD, upd_same, .nil, Nat.zero_le _, e2, rfl⟩, fun i mm H' ⟨hmm, T', st2, acc, accV, rest, E, hwp, tD', hD', ra, la, ef, ed⟩ => ?_⟩
      obtain ⟨q1, q2⟩ := sv T' H' E.step.sub E.rel.good i
      by_cases hi : i < xs.length
      · obtain ⟨go, yl⟩ := q2 _ (List.getElem?_eq_getElem hi)
        rw [List.drop_eq_getElem_cons hi] at ef
        unfold lcD at ef
        refine .inr ⟨go, fun H3 => ∃ T3 st3 acc3 accV3 rest3, EStep G T1 (wipeD s vs) (wipe σ vs) H1 T3 st3 H3 ∧ (∀ j ∈ vs, ∀ sv, st3[j]? ≠ some (some sv)) ∧ T3 D = none ∧ H3 D = some (.lst accV3) ∧ Reps G T3 accV3 acc3 ∧ acc3.length ≤ i + 1 ∧
          lcD vs g c m (xs.drop (i + 1)) st3 = some (rest3, t) ∧ acc3 ++ rest3 = ds, fun H3 ⟨T3, st3, acc3, accV3, rest3, z⟩ => ⟨mm - 1, by omega, by omega, T3, st3, acc3, accV3, rest3, z⟩, fun x H2 y => ?_⟩
        obtain ⟨T2, N2, r2⟩ := yl x H2 y
        have E2 := E.trans (E.rel.ekeep N2)
        split at ef
        · cases ef
        · rename_i s1 eg
          refine hg T2 st2 (wipe σ vs) H2 x _ s1 E2.rel r2 eg _ fun τ Rτ ag nr lτ => ?_
          have hlτ : τ.length = σ.length := lτ.trans (wipe_length σ vs)
          have ewτ : wipe τ vs = wipe σ vs := by
            have h1 := wipe_ext (σ := τ) (τ := wipe σ vs) (vs := vs) (by rw [hlτ, wipe_length]) fun j hj => (ag j hj).2
            rw [wipe_idem] at h1
            exact h1
          refine ⟨ewτ, ?_⟩
          split at ef
          · cases ef
          · rename_i s2 ec
            refine hc T2 s1 τ H2 _ s2 Rτ ec _ fun T3 H3 E3 => ?_
            rw [if_neg Bool.false_ne_true]
            have EE := E2.trans (turn_wipe hwp E2.rel ag nr hlτ E3)
            have nD : ¬ Root (wipeD s vs) (wipe σ vs) D := noroot (EStep.refl R0)
            obtain ⟨k1, k2⟩ := (E.rel.ekeep N2).step.frm D _ hD' tD' (noroot E)
            obtain ⟨k3, k4⟩ := (turn_wipe hwp E2.rel ag nr hlτ E3).step.frm D _ k1 k2 (noroot E2)
            exact ⟨T3, wipeD s2 vs, acc, accV, rest, EE, fun j hj sv => wipeD_in hj sv, k4, k3, (ra.mono N2.sub).mono E3.step.sub, by omega, ef, ed⟩
          · rename_i s2 ec
            refine hc T2 s1 τ H2 _ s2 Rτ ec _ fun T3 H3 E3 => ?_
            rw [if_pos rfl]
            split at ef
            · cases ef
            · rename_i rr s3 em
              split at ef
              · cases ef
              · rename_i dd s4 ez
                split at ef
                · cases ef
                · rename_i ds5 s5 er
                  cases ef
                  refine hm T3 s2 τ H3 rr s3 E3.rel em _ fun T4 y4 H4 E4 R4 => ?_
                  obtain ⟨T5, E5, R5⟩ := ok_freeze E3.rel E4 R4 ez
                  have E35 := E3.trans E5
                  have TW := turn_wipe hwp E2.rel ag nr hlτ E35
                  have EE := E2.trans TW
                  obtain ⟨k1, k2⟩ := (E.rel.ekeep N2).step.frm D _ hD' tD' (noroot E)
                  obtain ⟨k3, k4⟩ := TW.step.frm D _ k1 k2 (noroot E2)
                  have la2 := ra.length
                  refine ⟨accV, k3, by omega, T5, wipeD s4 vs, acc ++ [dd], accV ++ [y4], ds5, EE.tmp hD k4 (noroot EE) _, fun j hj sv => wipeD_in hj sv, k4, upd_same, reps_app ((ra.mono N2.sub).mono E35.step.sub) (.cons R5 .nil), by rw [List.length_append]; show _ + 1 ≤ _; omega, er, ?_⟩
                  rw [List.append_assoc]
                  exact ed
      · have hi' : xs.length ≤ i := Nat.le_of_not_lt hi
        rw [List.drop_eq_nil_of_le hi'] at ef
        cases ef
        rw [List.append_nil] at ed
        subst ed
        refine .inl ⟨q1 hi', k T' (.ref D) H' (E1.trans (back_wipe E1.rel E)) ?_⟩
        exact ⟨D, rfl, none_of E1.step.dom hD, tD', ⟨accV, hD', ra, by omega⟩, by rw [hD']; trivial⟩
end
end LD

/-! Layer D: defs and their calls. -/
namespace LD
open PySem PySem.Spec PyProof.Rows L2

def ArgOk (G : Gm) (T : Ty) (H : Hp) (v : V) : SV → Prop
  | .imm d => RepT G T v d
  | .rt k d => k = false ∧ ∃ a, v = .ref a ∧ Own G T H a d
def RtArg (vs : List V) (svs : List SV) (a : Addr) : Prop := ∃ (i : Nat) (k : Bool) (d : D), svs[i]? = some (.rt k d) ∧ vs[i]? = some (.ref a)
def ResF (G : Gm) (T : Ty) (H₀ H : Hp) (v : V) : R → Prop
  | .imm d => RepT G T v d
  | .own d => ∃ a, v = .ref a ∧ H₀ a = none ∧ Own G T H a d
  | .slot _ => False
structure OutsOk (G : Gm) (T : Ty) (H : Hp) (vs : List V) (os : List SV) : Prop where
  at_ : ∀ (i : Nat) k d, os[i]? = some (.rt k d) → ∃ a, vs[i]? = some (.ref a) ∧ Own G T H a d
structure ArgsOk (G : Gm) (T : Ty) (H : Hp) (vs : List V) (svs : List SV) : Prop where
  all : Paired (ArgOk G T H) vs svs
  inj : ∀ (i j : Nat) k k' d d' a, svs[i]? = some (.rt k d) → svs[j]? = some (.rt k' d') → vs[i]? = some (.ref a) → vs[j]? = some (.ref a) → i = j
abbrev FM := List SV → Option (R × List SV)
/-- the promise of a def whose data-level meaning is f -/
def spD (G : Gm) (np : Nat) (f : FM) : Sp := fun vs H Q _ => ∃ (T : Ty) (svs : List SV) (r : R) (os : List SV), Good G T H ∧ ArgsOk G T H vs svs ∧ svs.length = np ∧ f svs = some (r, os) ∧
  ∀ T' H' v, Step G T H T' H' (RtArg vs svs) → ResF G T' H H' v r → OutsOk G T' H' vs os → Q v H'
/-- what the borrowed ones are at the end -/
def outsD : List SV → DSt → Option (List SV)
  | [], _ => some []
  | .imm d :: r, _ :: st => match outsD r st with
    | some os => some (.imm d :: os)
    | none => none
  | .rt _ _ :: r, some (.rt false d) :: st => match outsD r st with
    | some os => some (.rt false d :: os)
    | none => none
  | _, _ => none
def retD (st : DSt) : R → Option R
  | .imm d => some (.imm d)
  | .own d => some (.own d)
  | .slot i => match st[i]? with
    | some (some (.imm d)) => some (.imm d)
    | some (some (.rt true d)) => some (.own d)
    | _ => none
def endD (svs : List SV) (st : DSt) (r : R) : Option (R × List SV) := match retD st r with
  | none => none
  | some r' => match outsD svs st with
    | none => none
    | some os => some (r', os)
def runF (n : Nat) (body : MS) : FM := fun svs => match body (svs.map some ++ List.replicate (n - svs.length) none) with
  | some (.nx, s) => endD svs s (.imm .non)
  | some (.ret r, s) => endD svs s r
  | _ => none

theorem outsD_at : ∀ {svs : List SV} {st : DSt} {os : List SV}, outsD svs st = some os → ∀ (i : Nat) k d, os[i]? = some (.rt k d) → st[i]? = some (some (.rt false d))
  | [], st, os, h, i, k, d, e => by cases h; simp at e
  | .imm x :: r, y :: st, os, h, i, k, d, e => by
    unfold outsD at h
    split at h
    · rename_i os' h'
      cases h
      cases i with
      | zero => simp at e
      | succ i => simpa using outsD_at h' i k d (by simpa using e)
    · cases h
  | .imm x :: r, [], os, h, i, k, d, e => by simp [outsD] at h
  | .rt kk x :: r, [], os, h, i, k, d, e => by simp [outsD] at h
  | .rt kk x :: r, none :: st, os, h, i, k, d, e => by simp [outsD] at h
  | .rt kk x :: r, some (.imm z) :: st, os, h, i, k, d, e => by simp [outsD] at h
  | .rt kk x :: r, some (.rt true z) :: st, os, h, i, k, d, e => by simp [outsD] at h
  | .rt kk x :: r, some (.rt false z) :: st, os, h, i, k, d, e => by
    unfold outsD at h
    split at h
    · rename_i os' h'
      cases h
      cases i with
      | zero => simp at e; simp [e.2]
      | succ i => simpa using outsD_at h' i k d (by simpa using e)
    · cases h

section
variable {G : Gm} {T T1 T2 : Ty} {st st1 st2 : DSt} {σ σ1 σ2 : L2.St} {H H1 H2 : Hp} {v : V} {d : D} {r : R}

theorem args_get {vs : List V} {svs : List SV} (h : Paired (ArgOk G T H) vs svs) : ∀ {i : Nat} {sv : SV}, svs[i]? = some sv → ∃ v, vs[i]? = some v ∧ ArgOk G T H v sv := by
  induction h with
  | nil => intro i sv e; simp at e
  | cons a t ih =>
    intro i sv e
    cases i with
    | zero => simp at e; subst e; exact ⟨_, rfl, a⟩
    | succ j => obtain ⟨v, h1, h2⟩ := ih (by simpa using e); exact ⟨v, by simpa using h1, h2⟩
theorem start_get {svs : List SV} {n : Nat} {i : Nat} {sv : SV} (h : (svs.map some ++ List.replicate n none)[i]? = some (some sv)) : svs[i]? = some sv := by
  by_cases hi : i < svs.length
  · rw [List.getElem?_append_left (by simpa using hi), List.getElem?_map] at h
    cases e : svs[i]? with
    | none => rw [e] at h; cases h
    | some x => rw [e] at h; cases h; rfl
  · rw [List.getElem?_append_right (by simpa using hi), List.getElem?_replicate] at h
    split at h <;> cases h
theorem start_at {N : List Str} {vs : List V} {i : Nat} {v : V} (h : vs[i]? = some v) : (L2.start N vs)[i]? = some (some v) := by
  unfold L2.start
  have hi : i < vs.length := (List.getElem?_eq_some_iff.mp h).1
  rw [List.getElem?_append_left (by simpa using hi), List.getElem?_map, h]
  rfl
theorem start_back {N : List Str} {vs : List V} {i : Nat} {v : V} (h : (L2.start N vs)[i]? = some (some v)) : vs[i]? = some v := by
  unfold L2.start at h
  by_cases hi : i < vs.length
  · rw [List.getElem?_append_left (by simpa using hi), List.getElem?_map] at h
    cases e : vs[i]? with
    | none => rw [e] at h; cases h
    | some a => rw [e] at h; cases h; rfl
  · rw [List.getElem?_append_right (by simpa using hi), List.getElem?_replicate] at h
    split at h <;> cases h
/-- a body keeps the promise -/
theorem spd_body {N : List Str} {n : Nat} (hn : N.length = n) {np : Nat} {t : TS} {m : MS} (h : OkS G t m) {vs : List V} {Q : VK} {E : XK} (hs : spD G np (runF n m) vs H Q E) :
    t { nx := fun _ H' => Q .non H', rt := Q } (L2.start N vs) H := by
  obtain ⟨T, svs, r, os, gd, ar, hl, ef, k⟩ := hs
  have lv := ar.all.length
  have rl : Rel G T (svs.map some ++ List.replicate (n - svs.length) none) (L2.start N vs) H := by
    refine ⟨gd, ?_, fun i d e => ?_, fun i kk d e => ?_, fun i j k k' d d' a e e' q q' => ?_⟩
    · unfold L2.start; rw [List.length_append, List.length_append, List.length_map, List.length_map, List.length_replicate, List.length_replicate, hn]; omega
    · obtain ⟨v, h1, h2⟩ := args_get ar.all (start_get e)
      exact ⟨v, start_at h1, h2⟩
    · obtain ⟨v, h1, _, a, h2, h3⟩ := args_get ar.all (start_get e)
      subst h2
      exact ⟨a, start_at h1, h3⟩
    · exact ar.inj i j k k' d d' a (start_get e) (start_get e') (start_back q) (start_back q')
  have rr : ∀ a, Root (svs.map some ++ List.replicate (n - svs.length) none) (L2.start N vs) a → RtArg vs svs a := fun a ⟨i, k, d, h1, h2⟩ => ⟨i, k, d, start_get h1, start_back h2⟩
  have noO : ∀ a, ¬ RootO (svs.map some ++ List.replicate (n - svs.length) none) (L2.start N vs) a := fun a ⟨i, d, h1, h2⟩ => by
    obtain ⟨v, _, hk, _⟩ := args_get ar.all (start_get h1)
    cases hk
  have fin : ∀ {T' : Ty} {st' : DSt} {σ' : L2.St} {H' : Hp} {v : V} {r0 : R}, SStep G T (svs.map some ++ List.replicate (n - svs.length) none) (L2.start N vs) H T' st' σ' H' → ResOk G T' st' σ' H H' v r0 → endD svs st' r0 = some (r, os) → Q v H' := by
    intro T' st' σ' H' v r0 S R0 ee
    unfold endD at ee
    split at ee
    · cases ee
    · rename_i r' er
      split at ee
      · cases ee
      · rename_i os' eo
        cases ee
        refine k T' H' v (S.step.mono rr) ?_ ⟨fun i kk d e => ?_⟩
        · cases r0 with
          | imm d => cases er; exact R0
          | own d => cases er; exact R0
          | slot i =>
            obtain ⟨h1, sv, h2⟩ := R0
            unfold retD at er
            dsimp only at er
            split at er
            · rename_i d e
              cases er
              obtain ⟨w, h3, h4⟩ := S.rel.imm i d e
              rw [h1] at h3; cases h3
              exact h4
            · rename_i d e
              cases er
              obtain ⟨a, h3, o⟩ := S.rel.rts i true d e
              rw [h1] at h3; cases h3
              rcases S.own i d a e h1 with z | z
              · exact ⟨a, rfl, z, o⟩
              · exact (noO a z).elim
            · cases er
        · have e2 := outsD_at eo i kk d e
          obtain ⟨a, h3, o⟩ := S.rel.rts i false d e2
          obtain ⟨_, h4⟩ := S.brw i d e2
          exact ⟨a, start_back (h4.symm.trans h3), o⟩
  unfold runF at ef
  split at ef
  · rename_i s e
    exact h T _ (L2.start N vs) H _ s rl e _ fun T' σ' H' S => fin S (show ResOk G T' s σ' H H' .non (.imm .non) from rfl) ef
  · rename_i r0 s e
    exact h T _ (L2.start N vs) H _ s rl e _ fun T' σ' H' v S R0 => fin S R0 ef
  · cases ef
theorem spd_len {np : Nat} {f : FM} {vs : List V} {Q : VK} {E : XK} (hs : spD G np f vs H Q E) : vs.length = np := by
  obtain ⟨T, svs, r, os, gd, ar, hl, _⟩ := hs
  rw [ar.all.length, hl]
end

/-- THE RULE for a def -/
theorem fn_ok {P : Program} {w : World} {mg : Str → Option Value} {base : Heap} {G : Gm} {x qual : Str} {s₀ : Stmt} {f : Addr} {fd : FuncData} {N ps : List Str} {k n np : Nat} {m : MS} (F : Fun G.K x qual s₀ f fd) (S : FnScope N ps (defScope s₀)) (hn : N.length = n) (hp : ps.length = np)
    (hb : ∀ (cdv : Value) (A : Around) (outer : List Env) (s : Shared) (H : Hp) (E : XK), Room k (A.deeper (envOfC qual (defScope s₀) s.heap.objs.size f cdv)) →
      ∃ t, PSs (cxOf CX0 P w G.K mg base N qual (defScope s₀) f cdv A outer s H E).nox (defBody s₀) t ∧ OkS G t m) : FnOk P w G.K mg base CX0 (k + 1) f fd ps (spD G np (runF n m)) :=
  F.ok S (fun vs H Q E h => by rw [hp]; exact spd_len h) fun cdv A outer s H vs Q E hr h => by
    obtain ⟨t, h1, h2⟩ := hb cdv A outer s H E hr
    exact ⟨t, h1, spd_body hn h2 h⟩

/-! ### calls -/
/-- an argument: a value that is kept, or a root that is lent -/
abbrev MCa := DSt → Option (List R × DSt)
def CaOk (G : Gm) (T : Ty) (σ : L2.St) (v : V) : R → Prop
  | .imm d => RepT G T v d
  | .slot i => σ[i]? = some (some v)
  | .own _ => False
def OkCa (G : Gm) (n : Nat) (t : TA) (m : MCa) : Prop := ∀ (T : Ty) (st : DSt) (σ : L2.St) (H : Hp) (rs : List R) (st' : DSt), Rel G T st σ H → m st = some (rs, st') →
  ∀ Q : List V → Hp → Prop, (∀ T' vs H', EStep G T st σ H T' st' H' → Paired (CaOk G T' σ) vs rs → rs.length = n → Q vs H') → t σ H Q
def cNil : MCa := fun st => some ([], st)
def cVal (a : M) (b : MCa) : MCa := fun st => match a st with
  | none => none
  | some (r, s1) => match freeze s1 r with
    | none => none
    | some (d, s2) => match b s2 with
      | none => none
      | some (rs, s3) => some (.imm d :: rs, s3)
def cIo (i : Nat) (b : MCa) : MCa := fun st => match st[i]? with
  | some (some (.rt _ _)) => match b st with
    | none => none
    | some (rs, s3) => some (.slot i :: rs, s3)
  | _ => none
section
variable {G : Gm} {T T1 T2 : Ty} {st st1 st2 : DSt} {σ σ1 σ2 : L2.St} {H H1 H2 : Hp} {v : V} {d : D} {r : R}
theorem CaOk.mono (s : Sub T T1) (h : CaOk G T σ v r) : CaOk G T1 σ v r := by
  cases r with
  | imm d => exact RepT.mono s h
  | slot i => exact h
  | own d => exact h
theorem ok_cnil : OkCa G 0 tNil cNil := by
  intro T st σ H rs st' rl e Q k
  cases e
  exact k T [] H (EStep.refl rl) .nil rfl
theorem ok_cval {n : Nat} {ta : TE} {tb : TA} {a : M} {b : MCa} (ha : OkE G ta a) (hb : OkCa G n tb b) : OkCa G (n + 1) (tCons ta tb) (cVal a b) := by
  intro T st σ H rs st' rl e Q k
  unfold cVal at e
  split at e
  · cases e
  · rename_i r s1 e1
    split at e
    · cases e
    · rename_i d s2 e2
      split at e
      · cases e
      · rename_i rs' s3 e3
        cases e
        refine ha T st σ H r s1 rl e1 _ fun T1 v1 H1 E1 R1 => ?_
        obtain ⟨T2, E2, R2⟩ := ok_freeze rl E1 R1 e2
        exact hb T2 s2 σ H1 rs' _ E2.rel e3 _ fun T3 vs H3 E3 R3 hn => k T3 (v1 :: vs) H3 (E2.trans E3) (.cons (show CaOk G T3 σ v1 (.imm d) from RepT.mono E3.step.sub R2) R3) (by rw [List.length_cons, hn])
theorem ok_cio {n i : Nat} {tb : TA} {b : MCa} (hb : OkCa G n tb b) : OkCa G (n + 1) (tCons (tVar i) tb) (cIo i b) := by
  intro T st σ H rs st' rl e Q k
  unfold cIo at e
  split at e
  · rename_i kk d h
    split at e
    · cases e
    · rename_i rs' s3 e3
      cases e
      obtain ⟨a, h1, o⟩ := rl.rts i kk d h
      refine ⟨.ref a, h1, ?_⟩
      exact hb T st σ H rs' _ rl e3 _ fun T3 vs H3 E3 R3 hn => k T3 (.ref a :: vs) H3 E3 (.cons h1 R3) (by rw [List.length_cons, hn])
  · cases e
/-- what the callee gets -/
def svsD (st : DSt) : List R → Option (List SV)
  | [] => some []
  | .imm d :: rs => match svsD st rs with
    | some svs => some (.imm d :: svs)
    | none => none
  | .slot i :: rs => match st[i]? with
    | some (some (.rt _ d)) => match svsD st rs with
      | some svs => some (.rt false d :: svs)
      | none => none
    | _ => none
  | .own _ :: _ => none
def slotsD : List R → List Nat
  | [] => []
  | .slot i :: rs => i :: slotsD rs
  | _ :: rs => slotsD rs
/-- the lent ones come back -/
def backD : List R → List SV → DSt → Option DSt
  | [], [], st => some st
  | .imm _ :: rs, .imm _ :: os, st => backD rs os st
  | .slot i :: rs, .rt _ d :: os, st => match st[i]? with
    | some (some (.rt k _)) => backD rs os (st.set i (some (.rt k d)))
    | _ => none
  | _, _, _ => none
def noDup : List Nat → Bool
  | [] => true
  | x :: xs => !xs.contains x && noDup xs
theorem noDup_iff : ∀ {l : List Nat}, noDup l = true → l.Nodup
  | [], _ => List.nodup_nil
  | x :: xs, h => by
    simp only [noDup, Bool.and_eq_true, Bool.not_eq_true', List.contains_eq_mem, decide_eq_false_iff_not] at h
    exact List.nodup_cons.mpr ⟨h.1, noDup_iff h.2⟩
def mCall (f : FM) (a : MCa) : M := fun st => match a st with
  | none => none
  | some (rs, s) => match svsD s rs with
    | none => none
    | some svs => if noDup (slotsD rs) = true then match f svs with
      | none => none
      | some (r, os) => match r with
        | .slot _ => none
        | r => match backD rs os s with
          | none => none
          | some s' => some (r, s')
      else none
theorem svsD_at : ∀ {rs : List R} {svs : List SV}, svsD st rs = some svs → ∀ (i : Nat) sv, svs[i]? = some sv → (∃ d, sv = .imm d ∧ rs[i]? = some (.imm d)) ∨ ∃ j k d, sv = .rt false d ∧ rs[i]? = some (.slot j) ∧ st[j]? = some (some (.rt k d))
  | [], svs, h, i, sv, e => by cases h; simp at e
  | .imm d :: rs, svs, h, i, sv, e => by
    unfold svsD at h
    split at h
    · rename_i s' h'
      cases h
      cases i with
      | zero => simp at e; exact .inl ⟨d, e.symm, rfl⟩
      | succ i => simpa using svsD_at h' i sv (by simpa using e)
    · cases h
  | .slot j :: rs, svs, h, i, sv, e => by
    unfold svsD at h
    split at h
    · rename_i k d hj
      split at h
      · rename_i s' h'
        cases h
        cases i with
        | zero => simp at e; exact .inr ⟨j, k, d, e.symm, rfl, hj⟩
        | succ i => simpa using svsD_at h' i sv (by simpa using e)
      · cases h
    · cases h
  | .own _ :: _, svs, h, i, sv, e => by simp [svsD] at h
theorem svsD_len : ∀ {rs : List R} {svs : List SV}, svsD st rs = some svs → svs.length = rs.length
  | [], svs, h => by cases h; rfl
  | .imm d :: rs, svs, h => by
    unfold svsD at h
    split at h
    · rename_i s' h'; cases h; rw [List.length_cons, List.length_cons, svsD_len h']
    · cases h
  | .slot j :: rs, svs, h => by
    unfold svsD at h
    split at h
    · split at h
      · rename_i s' h'; cases h; rw [List.length_cons, List.length_cons, svsD_len h']
      · cases h
    · cases h
  | .own _ :: _, svs, h => by simp [svsD] at h
theorem mem_slots : ∀ {rs : List R} {i j : Nat}, rs[i]? = some (.slot j) → j ∈ slotsD rs
  | [], _, _, h => by simp at h
  | .imm _ :: rs, 0, _, h => by simp at h
  | .own _ :: rs, 0, _, h => by simp at h
  | .slot k :: rs, 0, _, h => by simp at h; simp [slotsD, h]
  | .imm _ :: rs, i + 1, j, h => by simpa [slotsD] using mem_slots (rs := rs) (i := i) (j := j) (by simpa using h)
  | .own _ :: rs, i + 1, j, h => by simpa [slotsD] using mem_slots (rs := rs) (i := i) (j := j) (by simpa using h)
  | .slot k :: rs, i + 1, j, h => by
    have := mem_slots (rs := rs) (i := i) (j := j) (by simpa using h)
    simp [slotsD, this]
theorem slots_inj : ∀ {rs : List R} {i i' j : Nat}, (slotsD rs).Nodup → rs[i]? = some (.slot j) → rs[i']? = some (.slot j) → i = i'
  | [], _, _, _, _, h, _ => by simp at h
  | x :: rs, 0, 0, _, _, _, _ => rfl
  | .imm _ :: rs, i + 1, i' + 1, j, nd, h, h' => by rw [slots_inj (rs := rs) (i := i) (i' := i') (j := j) nd (by simpa using h) (by simpa using h')]
  | .own _ :: rs, i + 1, i' + 1, j, nd, h, h' => by rw [slots_inj (rs := rs) (i := i) (i' := i') (j := j) nd (by simpa using h) (by simpa using h')]
  | .slot k :: rs, i + 1, i' + 1, j, nd, h, h' => by rw [slots_inj (rs := rs) (i := i) (i' := i') (j := j) (List.nodup_cons.mp nd).2 (by simpa using h) (by simpa using h')]
  | .imm _ :: rs, 0, _, _, _, h, _ => by simp at h
  | .own _ :: rs, 0, _, _, _, h, _ => by simp at h
  | .imm _ :: rs, _, 0, _, _, _, h => by simp at h
  | .own _ :: rs, _, 0, _, _, _, h => by simp at h
  | .slot k :: rs, 0, i' + 1, j, nd, h, h' => by
    simp at h; subst h
    exact absurd (mem_slots (rs := rs) (i := i') (by simpa using h')) (List.nodup_cons.mp nd).1
  | .slot k :: rs, i + 1, 0, j, nd, h, h' => by
    simp at h'; subst h'
    exact absurd (mem_slots (rs := rs) (i := i) (by simpa using h)) (List.nodup_cons.mp nd).1
theorem backD_at : ∀ {rs : List R} {os : List SV} {st st' : DSt}, backD rs os st = some st' → (slotsD rs).Nodup → st'.length = st.length ∧ (∀ j, j ∉ slotsD rs → st'[j]? = st[j]?) ∧
    ∀ j, j ∈ slotsD rs → ∃ (i : Nat) (k kk : Bool) (d d' : D), rs[i]? = some (.slot j) ∧ os[i]? = some (.rt kk d') ∧ st[j]? = some (some (.rt k d)) ∧ st'[j]? = some (some (.rt k d'))
  | [], [], st, st', h, _ => by cases h; exact ⟨rfl, fun _ _ => rfl, fun j hj => by simp [slotsD] at hj⟩
  | [], _ :: _, _, _, h, _ => by simp [backD] at h
  | .imm _ :: rs, .imm _ :: os, st, st', h, nd => by
    obtain ⟨h1, h2, h3⟩ := backD_at (rs := rs) (os := os) (st := st) (st' := st') (by simpa [backD] using h) nd
    refine ⟨h1, h2, fun j hj => ?_⟩
    obtain ⟨i, k, kk, d, d', q1, q2, q3, q4⟩ := h3 j hj
    exact ⟨i + 1, k, kk, d, d', by simpa using q1, by simpa using q2, q3, q4⟩
  | .imm _ :: rs, .rt _ _ :: os, st, st', h, nd => by simp [backD] at h
  | .imm _ :: rs, [], st, st', h, nd => by simp [backD] at h
  | .slot i :: rs, [], st, st', h, nd => by simp [backD] at h
  | .slot i :: rs, .imm _ :: os, st, st', h, nd => by simp [backD] at h
  | .own _ :: rs, os, st, st', h, nd => by cases os <;> simp [backD] at h
  | .slot i :: rs, .rt kk d :: os, st, st', h, nd => by
    unfold backD at h
    split at h
    · rename_i k d0 hi
      have hil : i < st.length := (List.getElem?_eq_some_iff.mp hi).1
      have nd : (i :: slotsD rs).Nodup := nd
      obtain ⟨nd1, nd2⟩ := List.nodup_cons.mp nd
      obtain ⟨h1, h2, h3⟩ := backD_at h nd2
      refine ⟨by rw [h1, List.length_set], fun j hj => ?_, fun j hj => ?_⟩
      · have hj : j ∉ i :: slotsD rs := hj
        have n1 : i ≠ j := fun z => hj (by simp [z])
        have n2 : j ∉ slotsD rs := fun z => hj (by simp [z])
        rw [h2 j n2, List.getElem?_set_ne n1]
      · rcases List.mem_cons.mp (show j ∈ i :: slotsD rs from hj) with e | hj
        · subst e
          exact ⟨0, k, kk, d0, d, rfl, rfl, hi, by rw [h2 j nd1, List.getElem?_set_self hil]⟩
        · obtain ⟨i', k', kk', e, e', q1, q2, q3, q4⟩ := h3 j hj
          have n1 : i ≠ j := fun z => nd1 (z ▸ hj)
          rw [List.getElem?_set_ne n1] at q3
          exact ⟨i' + 1, k', kk', e, e', by simpa using q1, by simpa using q2, q3, q4⟩
    · cases h
theorem pget {α β : Type} {F : α → β → Prop} {l₁ : List α} {l₂ : List β} (h : Paired F l₁ l₂) : ∀ {j : Nat} {x : β}, l₂[j]? = some x → ∃ y, l₁[j]? = some y ∧ F y x := by
  induction h with
  | nil => intro j x e; simp at e
  | cons a t ih =>
    intro j x e
    cases j with
    | zero => simp at e; subst e; exact ⟨_, rfl, a⟩
    | succ j => obtain ⟨y, h1, h2⟩ := ih (by simpa using e); exact ⟨y, by simpa using h1, h2⟩
theorem paired_of {α β : Type} {F : α → β → Prop} : ∀ {l₁ : List α} {l₂ : List β}, l₁.length = l₂.length → (∀ (i : Nat) x y, l₁[i]? = some x → l₂[i]? = some y → F x y) → Paired F l₁ l₂
  | [], [], _, _ => .nil
  | a :: l₁, b :: l₂, h, f => .cons (f 0 a b rfl rfl) (paired_of (by simpa using h) fun i x y h1 h2 => f (i + 1) x y (by simpa using h1) (by simpa using h2))
  | [], _ :: _, h, _ => by simp at h
  | _ :: _, [], h, _ => by simp at h
theorem ok_call {np n : Nat} {f : FM} {ta : TA} {a : MCa} {E : XK} (ha : OkCa G n ta a) (hnp : n = np) : OkE G (tCall (spD G np f) [] E ta) (mCall f a) := by
  intro T st σ H r st' rl e Q k
  unfold mCall at e
  split at e
  · cases e
  · rename_i rs s e1
    split at e
    · cases e
    · rename_i svs e2
      split at e
      · rename_i nd
        have nd := noDup_iff nd
        split at e
        · cases e
        · rename_i r0 os e3
          refine ha T st σ H rs s rl e1 _ fun T1 vs H1 E1 R1 hl => ?_
          have lvs := R1.length
          have lsv := svsD_len e2
          have AO : ArgsOk G T1 H1 vs svs := by
            refine ⟨paired_of (by rw [lvs, lsv]) fun i x y h1 h2 => ?_, fun i j kk k' d d' b h1 h2 q1 q2 => ?_⟩
            · rcases svsD_at e2 i y h2 with ⟨d, rfl, h3⟩ | ⟨j, kk, d, rfl, h3, h4⟩
              · obtain ⟨w, h5, h6⟩ := pget R1 h3
                rw [h1] at h5; cases h5
                exact h6
              · obtain ⟨w, h5, h6⟩ := pget R1 h3
                rw [h1] at h5; cases h5
                obtain ⟨b, h7, o⟩ := E1.rel.rts j kk d h4
                have h6 : σ[j]? = some (some x) := h6
                rw [h6] at h7; cases h7
                exact ⟨rfl, b, rfl, o⟩
            · rcases svsD_at e2 i _ h1 with ⟨_, z, _⟩ | ⟨m1, k1, d1, z1, h3, h4⟩
              · cases z
              · rcases svsD_at e2 j _ h2 with ⟨_, z, _⟩ | ⟨m2, k2, d2, z2, h5, h6⟩
                · cases z
                · obtain ⟨w, h7, h8⟩ := pget R1 h3
                  rw [q1] at h7; cases h7
                  obtain ⟨w, h9, h10⟩ := pget R1 h5
                  rw [q2] at h9; cases h9
                  have := E1.rel.inj m1 m2 k1 k2 d1 d2 b h4 h6 h8 h10
                  subst this
                  exact slots_inj nd h3 h5
          have rr : ∀ b, RtArg vs svs b → ∃ m kk d, m ∈ slotsD rs ∧ s[m]? = some (some (.rt kk d)) ∧ σ[m]? = some (some (.ref b)) := fun b ⟨i, kk, d, h1, h2⟩ => by
            rcases svsD_at e2 i _ h1 with ⟨_, z, _⟩ | ⟨m1, k1, d1, z1, h3, h4⟩
            · cases z
            · obtain ⟨w, h7, h8⟩ := pget R1 h3
              rw [h2] at h7; cases h7
              exact ⟨m1, k1, d1, mem_slots h3, h4, h8⟩
          show spD G np f (vs ++ []) H1 Q E
          rw [List.append_nil]
          refine ⟨T1, svs, r0, os, E1.rel.good, AO, by rw [lsv, hl, hnp], e3, fun T' H' v S RF OO => ?_⟩
          -- the state behind the call
          have core : ∀ s', backD rs os s = some s' → EStep G T1 s σ H1 T' s' H' := fun s' eb => by
            obtain ⟨b1, b2, b3⟩ := backD_at eb nd
            have own : ∀ (j : Nat) kk d, s'[j]? = some (some (.rt kk d)) → ∃ d0 a, s[j]? = some (some (.rt kk d0)) ∧ σ[j]? = some (some (.ref a)) ∧ Own G T' H' a d := fun j kk d h => by
              by_cases hj : j ∈ slotsD rs
              · obtain ⟨i, k', kk', d0, d', q1, q2, q3, q4⟩ := b3 j hj
                rw [h] at q4; cases q4
                obtain ⟨a, h1, o⟩ := OO.at_ i kk' d q2
                obtain ⟨w, h2, h3⟩ := pget R1 q1
                rw [h1] at h2; cases h2
                exact ⟨d0, a, q3, h3, o⟩
              · rw [b2 j hj] at h
                obtain ⟨a, h1, o⟩ := E1.rel.rts j kk d h
                refine ⟨d, a, h, h1, o.step S fun z => ?_⟩
                obtain ⟨m, k', d', hm, h2, h3⟩ := rr a z
                exact hj (E1.rel.inj j m kk k' d d' a h h2 h1 h3 ▸ hm)
            refine ⟨⟨S.good, by rw [b1]; exact E1.rel.len, fun j d h => ?_, fun j kk d h => ?_, fun i j k1 k2 d d' a h h' q q' => ?_⟩, S.mono fun b z => ?_, fun j kk d h => ?_, fun j sv h => ?_⟩
            · by_cases hj : j ∈ slotsD rs
              · obtain ⟨i, k', kk', d0, d', q1, q2, q3, q4⟩ := b3 j hj
                rw [h] at q4; cases q4
              · rw [b2 j hj] at h
                obtain ⟨w, h1, h2⟩ := E1.rel.imm j d h
                exact ⟨w, h1, h2.mono S.sub⟩
            · obtain ⟨d0, a, _, h1, o⟩ := own j kk d h
              exact ⟨a, h1, o⟩
            · obtain ⟨e1', _, h1, _, _⟩ := own i k1 d h
              obtain ⟨e2', _, h2, _, _⟩ := own j k2 d' h'
              exact E1.rel.inj i j k1 k2 e1' e2' a h1 h2 q q'
            · obtain ⟨m, kk, d, _, h1, h2⟩ := rr b z
              exact ⟨m, kk, d, h1, h2⟩
            · obtain ⟨d0, _, h1, _, _⟩ := own j kk d h
              exact ⟨d0, h1⟩
            · by_cases hj : j ∈ slotsD rs
              · obtain ⟨i, k', kk', d0, d', q1, q2, q3, q4⟩ := b3 j hj
                exact ⟨_, q4⟩
              · exact ⟨sv, by rw [b2 j hj]; exact h⟩
          cases r0 with
          | slot i => cases e
          | imm d =>
            dsimp only at e
            split at e
            · cases e
            · rename_i s' eb
              cases e
              exact k T' v H' (E1.trans (core _ eb)) RF
          | own d =>
            dsimp only at e
            split at e
            · cases e
            · rename_i s' eb
              cases e
              obtain ⟨b, h1, h2, o⟩ := RF
              exact k T' v H' (E1.trans (core _ eb)) ⟨b, h1, none_of E1.step.dom h2, o⟩
      · cases e
end
end LD

/-! Layer D: roots written (append, extend, pop, xs[i] = e), built-ins, comparisons. -/
namespace LD
open PySem PySem.Spec PyProof.Rows L2

section
variable {G : Gm} {T T1 T2 : Ty} {st st1 st2 : DSt} {σ σ1 σ2 : L2.St} {H H1 H2 : Hp} {v : V} {d : D} {r : R}

/-- the root in slot i is written -/
theorem rel_write {i : Nat} {k : Bool} {a : Addr} {o : HO} {d' : D} (rl : Rel G T st σ H) (h : st[i]? = some (some (.rt k d))) (h2 : σ[i]? = some (some (.ref a))) (ow : Own G T H a d)
    (sh : Shape G T (upd H a o) a d') (mu : Mut (some o)) : EStep G T st σ H T (st.set i (some (.rt k d'))) (upd H a o) := by
  have hi : i < st.length := (List.getElem?_eq_some_iff.mp h).1
  have S : Step G T H T (upd H a o) (Root st σ) := Step.write rl.good ow.ty ⟨i, k, d, h, h2⟩ o
  refine ⟨⟨S.good, by rw [List.length_set]; exact rl.len, fun j e q => ?_, fun j kk e q => ?_, fun j j' kk k' e e' b q q' p p' => ?_⟩, S, fun j kk e q => ?_, fun j sv q => ?_⟩
  · by_cases ij : i = j
    · subst ij; rw [List.getElem?_set_self hi] at q; cases q
    · rw [List.getElem?_set_ne ij] at q; exact rl.imm j e q
  · by_cases ij : i = j
    · subst ij
      rw [List.getElem?_set_self hi] at q
      cases q
      exact ⟨a, h2, ow.ty, sh, by rw [upd_same]; exact mu⟩
    · rw [List.getElem?_set_ne ij] at q
      obtain ⟨b, h3, o'⟩ := rl.rts j kk e q
      have ab : b ≠ a := fun z => ij (rl.inj i j _ _ _ _ a h q h2 (z ▸ h3))
      exact ⟨b, h3, o'.ty, o'.sh.mono (Sub.refl T) (upd_ne ab), by rw [upd_ne ab]; exact o'.mu⟩
  · have back : ∀ {j : Nat} {kk : Bool} {e : D}, (st.set i (some (SV.rt k d')))[j]? = some (some (SV.rt kk e)) → ∃ e0 : D, st[j]? = some (some (SV.rt kk e0)) := fun {j kk e} q => by
      by_cases ij : i = j
      · subst ij; rw [List.getElem?_set_self hi] at q; cases q; exact ⟨d, h⟩
      · rw [List.getElem?_set_ne ij] at q; exact ⟨e, q⟩
    obtain ⟨e0, q0⟩ := back q
    obtain ⟨e1, q1⟩ := back q'
    exact rl.inj j j' kk k' e0 e1 b q0 q1 p p'
  · by_cases ij : i = j
    · subst ij; rw [List.getElem?_set_self hi] at q; cases q; exact ⟨d, h⟩
    · rw [List.getElem?_set_ne ij] at q; exact ⟨e, q⟩
  · by_cases ij : i = j
    · subst ij; exact ⟨_, List.getElem?_set_self hi⟩
    · exact ⟨sv, by rw [List.getElem?_set_ne ij]; exact q⟩

/-- a slot that holds a list -/
def isL (st : DSt) (i : Nat) : Bool := match st[i]? with
  | some (some (.rt _ (.lst _))) => true
  | _ => false
theorem isL_of {i : Nat} (rl : Rel G T st σ H) (h : isL st i = true) : ∃ a xs, σ[i]? = some (some (.ref a)) ∧ H a = some (.lst xs) := by
  unfold isL at h
  split at h
  · rename_i k ds e
    obtain ⟨a, h1, o⟩ := rl.rts i k _ e
    obtain ⟨vs, h2, _⟩ := o.lst
    exact ⟨a, vs, h1, h2⟩
  · cases h
/-- xs.append(e) -/
def mApp (i : Nat) (m : M) : M := fun st => if isL st i = true then match m st with
    | none => none
    | some (r, s1) => match freeze s1 r with
      | none => none
      | some (d, s2) => match s2[i]? with
        | some (some (.rt k (.lst xs))) => if xs.length < sizeLine then some (.imm .non, s2.set i (some (.rt k (.lst (xs ++ [d]))))) else none
        | _ => none
  else none
theorem ok_app {i : Nat} {t : TE} {m : M} (hm : OkE G t m) : OkE G (tBM G.K "list" rAppend (tVar i) (tCons t tNil)) (mApp i m) := by
  intro T st σ H r st' rl e Q k
  unfold mApp at e
  split at e
  · rename_i hl
    obtain ⟨a, vs0, ha, hv0⟩ := isL_of rl hl
    split at e
    · cases e
    · rename_i r0 s1 e1
      split at e
      · cases e
      · rename_i d s2 e2
        split at e
        · rename_i kk xs e3
          split at e
          · rename_i hz
            cases e
            refine ⟨.ref a, ha, .inl ⟨rfl, vs0, .of hv0⟩, ?_⟩
            refine hm T st σ H r0 s1 rl e1 _ fun T1 v1 H1 E1 R1 => ?_
            obtain ⟨T2, E2, R2⟩ := ok_freeze rl E1 R1 e2
            obtain ⟨b, hb, o⟩ := E2.rel.rts i kk _ e3
            rw [ha] at hb; cases hb
            obtain ⟨vs, hv, rv, z⟩ := o.lst
            have hlen := rv.length
            refine ⟨a, vs, v1, rfl, rfl, hv, by omega, ?_⟩
            have W := rel_write E2.rel e3 ha o (o := .lst (vs ++ [v1])) (d' := .lst (xs ++ [d])) ⟨_, upd_same, reps_app rv (.cons R2 .nil), by rw [List.length_append]; show xs.length + 1 ≤ _; omega⟩ trivial
            exact k T2 .non _ (E2.trans W) rfl
          · cases e
        · cases e
  · cases e
/-- xs.extend(e), e a list -/
def mExt (i : Nat) (m : M) : M := fun st => if isL st i = true then match m st with
    | none => none
    | some (r, s1) => match cont s1 r with
      | some (.lst ds) => match s1[i]? with
        | some (some (.rt k (.lst xs))) => if xs.length + ds.length ≤ sizeLine then some (.imm .non, s1.set i (some (.rt k (.lst (xs ++ ds))))) else none
        | _ => none
      | _ => none
  else none
theorem ok_ext {i : Nat} {t : TE} {m : M} (hm : OkE G t m) : OkE G (tBM G.K "list" rExtend (tVar i) (tCons t tNil)) (mExt i m) := by
  intro T st σ H r st' rl e Q k
  unfold mExt at e
  split at e
  · rename_i hl
    obtain ⟨a, vs0, ha, hv0⟩ := isL_of rl hl
    split at e
    · cases e
    · rename_i r0 s1 e1
      split at e
      · rename_i ds e2
        split at e
        · rename_i kk xs e3
          split at e
          · rename_i hz
            cases e
            refine ⟨.ref a, ha, .inl ⟨rfl, vs0, .of hv0⟩, ?_⟩
            refine hm T st σ H r0 s1 rl e1 _ fun T1 v1 H1 E1 R1 => ?_
            obtain ⟨c, ws, rfl, _, hw, rw', zw⟩ := (sees_of E1.rel R1 e2).lst E1.rel.good
            obtain ⟨b, hb, o⟩ := E1.rel.rts i kk _ e3
            rw [ha] at hb; cases hb
            obtain ⟨vs, hv, rv, z⟩ := o.lst
            have l1 := rv.length
            have l2 := rw'.length
            refine ⟨a, c, vs, ws, rfl, rfl, hv, hw, by omega, ?_⟩
            have W := rel_write E1.rel e3 ha o (o := .lst (vs ++ ws)) (d' := .lst (xs ++ ds)) ⟨_, upd_same, reps_app rv rw', by rw [List.length_append]; omega⟩ trivial
            exact k T1 .non _ (E1.trans W) rfl
          · cases e
        · cases e
      · cases e
  · cases e
/-- xs.pop() -/
def mPop (i : Nat) : M := fun st => match st[i]? with
  | some (some (.rt k (.lst xs))) => match xs[xs.length - 1]? with
    | some d => some (.imm d, st.set i (some (.rt k (.lst xs.dropLast))))
    | none => none
  | _ => none
theorem reps_dropLast {vs : List V} {ds : List D} (h : Reps G T vs ds) : Reps G T vs.dropLast ds.dropLast := by
  rw [List.dropLast_eq_take, List.dropLast_eq_take, h.length]
  exact reps_take h _
theorem ok_pop {i : Nat} : OkE G (tBM0 G.K "list" rPop (tVar i)) (mPop i) := by
  intro T st σ H r st' rl e Q k
  unfold mPop at e
  split at e
  · rename_i kk xs e3
    split at e
    · rename_i d ed
      cases e
      obtain ⟨a, ha, o⟩ := rl.rts i kk _ e3
      obtain ⟨vs, hv, rv, z⟩ := o.lst
      obtain ⟨y, h1, h2⟩ := reps_ix rv ed
      refine ⟨.ref a, ha, .inl ⟨rfl, vs, .of hv⟩, a, vs, y, rfl, rfl, hv, by rw [rv.length]; exact h1, ?_⟩
      have W := rel_write rl e3 ha o (o := .lst vs.dropLast) (d' := .lst xs.dropLast) ⟨_, upd_same, reps_dropLast rv, by rw [List.length_dropLast]; omega⟩ trivial
      exact k T y _ W h2
    · cases e
  · cases e
/-- xs.pop(i) -/
def mPopAt (i : Nat) (m : M) : M := fun st => if isL st i = true then match m st with
    | some (.imm (.int j), s1) => match s1[i]? with
      | some (some (.rt k (.lst xs))) => if -(2 ^ 63) ≤ j ∧ j < 2 ^ 63 then match ixN xs.length j with
        | some n => match xs[n]? with
          | some d => some (.imm d, s1.set i (some (.rt k (.lst (xs.eraseIdx n)))))
          | none => none
        | none => none
        else none
      | _ => none
    | _ => none
  else none
theorem reps_erase {vs : List V} {ds : List D} (h : Reps G T vs ds) : ∀ n : Nat, Reps G T (vs.eraseIdx n) (ds.eraseIdx n) := by
  induction h with
  | nil => intro n; exact .nil
  | cons a t ih => intro n; cases n with
    | zero => exact t
    | succ n => exact .cons a (ih n)
theorem ok_popAt {i : Nat} {t : TE} {m : M} (hm : OkE G t m) : OkE G (tBM G.K "list" rPopAt (tVar i) (tCons t tNil)) (mPopAt i m) := by
  intro T st σ H r st' rl e Q k
  unfold mPopAt at e
  split at e
  · rename_i hl
    obtain ⟨a, vs0, ha, hv0⟩ := isL_of rl hl
    split at e
    · rename_i j s1 e1
      split at e
      · rename_i kk xs e3
        split at e
        · rename_i hj
          split at e
          · rename_i n en
            split at e
            · rename_i d ed
              cases e
              refine ⟨.ref a, ha, .inl ⟨rfl, vs0, .of hv0⟩, ?_⟩
              refine hm T st σ H _ s1 rl e1 _ fun T1 v1 H1 E1 R1 => ?_
              have ev := (Sees.of_rep (H := H1) R1).int E1.rel.good
              subst ev
              obtain ⟨b, hb, o⟩ := E1.rel.rts i kk _ e3
              rw [ha] at hb; cases hb
              obtain ⟨vs, hv, rv, z⟩ := o.lst
              obtain ⟨y, h1, h2⟩ := reps_ix rv ed
              refine ⟨a, vs, j, n, y, rfl, rfl, hv, hj.1, hj.2, by rw [rv.length]; exact (ixN_seq en).1, h1, ?_⟩
              have W := rel_write E1.rel e3 ha o (o := .lst (vs.eraseIdx n)) (d' := .lst (xs.eraseIdx n)) ⟨_, upd_same, reps_erase rv n, by
                have := len_erase xs n
                omega⟩ trivial
              exact k T1 y _ (E1.trans W) h2
            · cases e
          · cases e
        · cases e
      · cases e
    · cases e
  · cases e
/-- xs[j] = e as a target -/
def gIx (i : Nat) (m : M) : MG := fun d st => if isL st i = true then match m st with
  | some (.imm (.int j), s1) => match s1[i]? with
    | some (some (.rt k (.lst xs))) => match ixN xs.length j with
      | some n => some (s1.set i (some (.rt k (.lst (xs.set n d)))))
      | none => none
    | _ => none
  | _ => none
  else none
theorem reps_set {vs : List V} {ds : List D} (h : Reps G T vs ds) {v : V} {d : D} (r : RepT G T v d) : ∀ n : Nat, Reps G T (vs.set n v) (ds.set n d) := by
  induction h with
  | nil => intro n; exact .nil
  | cons a t ih => intro n; cases n with
    | zero => exact .cons r t
    | succ n => exact .cons a (ih n)
theorem ok_gIx' {i : Nat} {t : TE} {m : M} {r' : V → V → V → Hp → (Hp → Prop) → Prop} (hm : OkE G t m) (im : ∀ o i v H Q, rSetL o i v H Q → r' o i v H Q) : OkG G (gSub (tVar i) t r') (gIx i m) := by
  intro T st σ H v d st' rl rv0 e Q k
  unfold gIx at e
  split at e
  · rename_i hl
    obtain ⟨a, vs0, ha, hv0⟩ := isL_of rl hl
    split at e
    · rename_i j s1 e1
      split at e
      · rename_i kk xs e3
        split at e
        · rename_i n en
          cases e
          refine ⟨.ref a, ha, ?_⟩
          refine hm T st σ H _ s1 rl e1 _ fun T1 v1 H1 E1 R1 => ?_
          have ev := (Sees.of_rep (H := H1) R1).int E1.rel.good
          subst ev
          obtain ⟨b, hb, o⟩ := E1.rel.rts i kk _ e3
          rw [ha] at hb; cases hb
          obtain ⟨vs, hv, rv, z⟩ := o.lst
          refine im _ _ _ _ _ ⟨a, vs, j, n, rfl, rfl, hv, by rw [rv.length]; exact en, ?_⟩
          have W := rel_write E1.rel e3 ha o (o := .lst (vs.set n v)) (d' := .lst (xs.set n d)) ⟨_, upd_same, reps_set rv (rv0.mono E1.step.sub) n, by rw [List.length_set]; exact z⟩ trivial
          exact k T1 σ _ (E1.trans W).s
        · cases e
      · cases e
    · cases e
  · cases e
theorem ok_gIx {i : Nat} {t : TE} {m : M} (hm : OkE G t m) : OkG G (gSub (tVar i) t rSetL) (gIx i m) := ok_gIx' hm fun _ _ _ _ _ z => z
end
end LD

/-! Layer D: built-ins, comparisons, in. -/
namespace LD
open PySem PySem.Spec PyProof.Rows L2

/-! ### rules told by data -/
def r2 (G : Gm) (f : D → D → Option R) : R2 := fun x y H Q => ∃ (T : Ty) (dx dy : D) (res : R), Good G T H ∧ Sees G T H x dx ∧ Sees G T H y dy ∧ f dx dy = some res ∧ ∀ T' v H', NStep G T H T' H' → ResN G T' H H' v res → Q v H'
theorem ok_r2 {G : Gm} {f : D → D → Option R} : OkR2 G (r2 G f) f := fun T H x y dx dy res g sx sy e Q k => ⟨T, dx, dy, res, g, sx, sy, e, k⟩
def rB (G : Gm) (f : List D → Option R) : List V → Hp → VK → Prop := fun xs H Q => ∃ (T : Ty) (ds : List D) (res : R), Good G T H ∧ Paired (Sees G T H) xs ds ∧ f ds = some res ∧ ∀ T' v H', NStep G T H T' H' → ResN G T' H H' v res → Q v H'
theorem CallR.imp {X : Cx} {f : Value} {r r' : List V → Hp → VK → Prop} (h : CallR X f r) (i : ∀ xs H Q, r' xs H Q → r xs H Q) : CallR X f r' := fun pins s σ H xs us Q I rv q => h pins s σ H xs us Q I rv (i xs H Q q)
theorem OpR.imp {X : Cx} {f : Value → Value → Sem Value} {r r' : R2} (h : OpR X f r) (i : ∀ x y H Q, r' x y H Q → r x y H Q) : OpR X f r' := fun pins s σ H x y v u Q I rx ry q => h pins s σ H x y v u Q I rx ry (i x y H Q q)
theorem OpR.r2 {X : Cx} {G : Gm} {f : Value → Value → Sem Value} {r : R2} {g : D → D → Option R} (h : OpR X f r) (o : OkR2 G r g) : OpR X f (r2 G g) := LD.OpR.imp h fun x y H Q ⟨T, dx, dy, res, gd, sx, sy, e, k⟩ => o T H x y dx dy res gd sx sy e Q k

/-! ### arguments that are only read -/
abbrev ML := DSt → Option (List R × DSt)
def OkL (G : Gm) (n : Nat) (t : TA) (m : ML) : Prop := ∀ (T : Ty) (st : DSt) (σ : L2.St) (H : Hp) (rs : List R) (st' : DSt), Rel G T st σ H → m st = some (rs, st') →
  ∀ Q : List V → Hp → Prop, (∀ T' vs H', EStep G T st σ H T' st' H' → Paired (ResOk G T' st' σ H H') vs rs → rs.length = n → Q vs H') → t σ H Q
def lNil : ML := fun st => some ([], st)
def lCons (a : M) (b : ML) : ML := fun st => match a st with
  | none => none
  | some (r, s1) => match b s1 with
    | none => none
    | some (rs, s2) => some (r :: rs, s2)
section
variable {G : Gm} {T T1 T2 : Ty} {st st1 st2 : DSt} {σ σ1 σ2 : L2.St} {H H1 H2 : Hp} {v : V} {d : D} {r : R}
theorem ok_lnil : OkL G 0 tNil lNil := by
  intro T st σ H rs st' rl e Q k
  cases e
  exact k T [] H (EStep.refl rl) .nil rfl
theorem ok_lcons {n : Nat} {ta : TE} {tb : TA} {a : M} {b : ML} (ha : OkE G ta a) (hb : OkL G n tb b) : OkL G (n + 1) (tCons ta tb) (lCons a b) := by
  intro T st σ H rs st' rl e Q k
  unfold lCons at e
  split at e
  · cases e
  · rename_i r s1 e1
    split at e
    · cases e
    · rename_i rs' s2 e2
      cases e
      refine ha T st σ H r s1 rl e1 _ fun T1 v1 H1 E1 R1 => ?_
      refine hb T1 s1 σ H1 rs' _ E1.rel e2 _ fun T2 vs H2 E2 R2 hn => ?_
      exact k T2 (v1 :: vs) H2 (E1.trans E2) (.cons (R1.pass rl E1 E2) (Paired.mapP R2 fun _ _ q => q.back E1.step.dom)) (by rw [List.length_cons, hn])
def conts (st : DSt) : List R → Option (List D)
  | [] => some []
  | r :: rs => match cont st r with
    | none => none
    | some d => match conts st rs with
      | none => none
      | some ds => some (d :: ds)
theorem conts_sees {H₀ : Hp} (rl : Rel G T st σ H) {vs : List V} {rs : List R} (h : Paired (ResOk G T st σ H₀ H) vs rs) : ∀ {ds : List D}, conts st rs = some ds → Paired (Sees G T H) vs ds := by
  induction h with
  | nil => intro ds e; cases e; exact .nil
  | cons a t ih =>
    intro ds e
    unfold conts at e
    split at e
    · cases e
    · rename_i d ed
      split at e
      · cases e
      · rename_i ds' es
        cases e
        exact .cons (sees_of rl a ed) (ih es)
def mB (f : List D → Option R) (a : ML) : M := fun st => match a st with
  | none => none
  | some (rs, s) => match conts s rs with
    | none => none
    | some ds => match f ds with
      | none => none
      | some res => some (res, s)
theorem ok_b {n : Nat} {f : List D → Option R} {ta : TA} {a : ML} (ha : OkL G n ta a) : OkE G (tCB (rB G f) ta) (mB f a) := by
  intro T st σ H r st' rl e Q k
  unfold mB at e
  split at e
  · cases e
  · rename_i rs s e1
    split at e
    · cases e
    · rename_i ds ec
      split at e
      · cases e
      · rename_i res ef
        cases e
        refine ha T st σ H rs _ rl e1 _ fun T1 vs H1 E1 R1 hn => ?_
        exact ⟨T1, ds, r, E1.rel.good, conts_sees E1.rel R1 ec, ef, fun T2 v2 H2 N2 R2 => k T2 v2 H2 (E1.trans (E1.rel.ekeep N2)) (R2.res E1)⟩

theorem p1 {F : V → D → Prop} {xs : List V} {d : D} (h : Paired F xs [d]) : ∃ x, xs = [x] ∧ F x d := by
  cases h with
  | cons a t => cases t; exact ⟨_, rfl, a⟩
theorem p2 {F : V → D → Prop} {xs : List V} {d e : D} (h : Paired F xs [d, e]) : ∃ x y, xs = [x, y] ∧ F x d ∧ F y e := by
  cases h with
  | cons a t =>
    cases t with
    | cons b t => cases t; exact ⟨_, _, rfl, a, b⟩

/-! ### len, list, tuple, int, abs, sums -/
def dLen : List D → Option R
  | [.lst ds] => ri ds.length
  | [.tup ds] => ri ds.length
  | _ => none
def dList : List D → Option R
  | [.lst ds] => some (.own (.lst ds))
  | [.tup ds] => some (.own (.lst ds))
  | _ => none
def dTuple : List D → Option R
  | [.lst ds] => some (.imm (.tup ds))
  | [.tup ds] => some (.imm (.tup ds))
  | _ => none
def dInt : List D → Option R
  | [.int i] => ri i
  | [.bl b] => ri (if b then 1 else 0)
  | _ => none
def dAbs : List D → Option R
  | [.int i] => ri (if i < 0 then -i else i)
  | _ => none
def bls : List D → Option (List Bool)
  | [] => some []
  | .bl b :: ds => match bls ds with
    | some bs => some (b :: bs)
    | none => none
  | _ => none
def nums : List D → Option (List Int)
  | [] => some []
  | .int b :: ds => match nums ds with
    | some bs => some (b :: bs)
    | none => none
  | _ => none
def dAll : List D → Option R
  | [.lst ds] => match bls ds with
    | some bs => rb (bs.all id)
    | none => none
  | _ => none
def dAny : List D → Option R
  | [.lst ds] => match bls ds with
    | some bs => rb (bs.any id)
    | none => none
  | _ => none
def dSum : List D → Option R
  | [.lst ds] => match nums ds with
    | some ns => ri ns.sum
    | none => none
  | _ => none
theorem bls_eq : ∀ {ds : List D} {bs : List Bool}, bls ds = some bs → ds = bs.map D.bl
  | [], bs, h => by cases h; rfl
  | d :: ds, bs, h => by
    unfold bls at h
    split at h <;> try (cases h; done)
    · rename_i e1 e2; cases e2
    · rename_i b ds' e1
      cases e1
      split at h
      · rename_i bs' e2
        cases h
        rw [List.map_cons, ← bls_eq e2]
      · cases h
theorem nums_eq : ∀ {ds : List D} {bs : List Int}, nums ds = some bs → ds = bs.map D.int
  | [], bs, h => by cases h; rfl
  | d :: ds, bs, h => by
    unfold nums at h
    split at h <;> try (cases h; done)
    · rename_i e1 e2; cases e2
    · rename_i b ds' e1
      cases e1
      split at h
      · rename_i bs' e2
        cases h
        rw [List.map_cons, ← nums_eq e2]
      · cases h
theorem reps_bls (g : Good G T H) {bs : List Bool} : ∀ {vs : List V}, Reps G T vs (bs.map D.bl) → vs = bs.map V.bl := by
  induction bs with
  | nil => intro vs h; cases h; rfl
  | cons b bs ih =>
    intro vs h
    cases h with
    | cons a t => rw [(Sees.of_rep (H := H) a).bl g, ih t, List.map_cons]
theorem reps_nums (g : Good G T H) {bs : List Int} : ∀ {vs : List V}, Reps G T vs (bs.map D.int) → vs = bs.map V.int := by
  induction bs with
  | nil => intro vs h; cases h; rfl
  | cons b bs ih =>
    intro vs h
    cases h with
    | cons a t => rw [(Sees.of_rep (H := H) a).int g, ih t, List.map_cons]
section
variable {X : Cx}
theorem cr_len (hk : X.K = G.K := by rfl) : CallR X (.builtin "len") (rB G dLen) := by
  refine CallR.imp call_len_seq fun xs H Q h => ?_
  obtain ⟨T, ds, res, g, h, e, k⟩ := h
  unfold dLen at e
  split at e <;> try (cases e; done)
  · cases e
    obtain ⟨x, rfl, s⟩ := p1 h
    obtain ⟨a, vs, rfl, q, _, r, _⟩ := s.lst g
    exact ⟨a, vs, rfl, .inl (hk ▸ q), by rw [r.length]; exact one g k rfl⟩
  · cases e
    obtain ⟨x, rfl, s⟩ := p1 h
    obtain ⟨a, vs, rfl, q, _, r, _⟩ := s.tup g
    exact ⟨a, vs, rfl, .inr (hk ▸ q), by rw [r.length]; exact one g k rfl⟩
theorem cr_list (hk : X.K = G.K := by rfl) : CallR X (.type "list") (rB G dList) := by
  refine CallR.imp call_list_of fun xs H Q h => ?_
  obtain ⟨T, ds, res, g, h, e, k⟩ := h
  unfold dList at e
  split at e <;> try (cases e; done)
  · cases e
    obtain ⟨x, rfl, s⟩ := p1 h
    obtain ⟨a, vs, rfl, q, _, r, z⟩ := s.lst g
    exact ⟨a, vs, rfl, .inl (hk ▸ q), fun p hp => k T (.ref p) _ (Step.new g hp _) ⟨p, rfl, hp, own_new g hp r z⟩⟩
  · cases e
    obtain ⟨x, rfl, s⟩ := p1 h
    obtain ⟨a, vs, rfl, q, _, r, z⟩ := s.tup g
    exact ⟨a, vs, rfl, .inr (hk ▸ q), fun p hp => k T (.ref p) _ (Step.new g hp _) ⟨p, rfl, hp, own_new g hp r z⟩⟩
theorem cr_tuple (hk : X.K = G.K := by rfl) : CallR X (.type "tuple") (rB G dTuple) := by
  refine CallR.imp call_tuple_of fun xs H Q h => ?_
  obtain ⟨T, ds, res, g, h, e, k⟩ := h
  unfold dTuple at e
  split at e <;> try (cases e; done)
  · cases e
    obtain ⟨x, rfl, s⟩ := p1 h
    obtain ⟨a, vs, rfl, q, _, r, z⟩ := s.lst g
    exact ⟨a, vs, rfl, .inl ⟨hk ▸ q, fun p hp => k _ (.ref p) _ (Step.lay g hp _ (d := .tup _) ⟨vs, upd_same, r.mono (Sub.tset (g.free hp)), z⟩) (.inl tset_same)⟩⟩
  · cases e
    obtain ⟨x, rfl, s⟩ := p1 h
    obtain ⟨a, vs, rfl, q, _, r, z⟩ := s.tup g
    exact ⟨a, vs, rfl, .inr ⟨hk ▸ q, one g k s.tupT⟩⟩
theorem cr_int : CallR X (.type "int") (rB G dInt) := by
  refine CallR.imp call_int1 fun xs H Q h => ?_
  obtain ⟨T, ds, res, g, h, e, k⟩ := h
  unfold dInt at e
  split at e <;> try (cases e; done)
  · cases e
    obtain ⟨x, rfl, s⟩ := p1 h
    exact .inl ⟨_, by rw [s.int g], one g k rfl⟩
  · cases e
    obtain ⟨x, rfl, s⟩ := p1 h
    exact .inr ⟨_, by rw [s.bl g], one g k rfl⟩
theorem cr_abs : CallR X (.builtin "abs") (rB G dAbs) := by
  refine CallR.imp call_abs fun xs H Q h => ?_
  obtain ⟨T, ds, res, g, h, e, k⟩ := h
  unfold dAbs at e
  split at e <;> try (cases e; done)
  · cases e
    obtain ⟨x, rfl, s⟩ := p1 h
    exact ⟨_, by rw [s.int g], one g k rfl⟩
theorem cr_allD (hc : X.calm = true) (hk : X.K = G.K := by rfl) : CallR X (.builtin "all") (rB G dAll) := by
  refine CallR.imp (cr_all hc) fun xs H Q h => ?_
  obtain ⟨T, ds, res, g, h, e, k⟩ := h
  unfold dAll at e
  split at e <;> try (cases e; done)
  · rename_i ds'
    split at e <;> try (cases e; done)
    rename_i bs eb
    cases e
    obtain ⟨x, rfl, s⟩ := p1 h
    obtain ⟨a, vs, rfl, q, _, r, z⟩ := s.lst g
    rw [bls_eq eb] at r
    rw [reps_bls g r] at q
    exact ⟨a, bs, rfl, hk ▸ q, one g k rfl⟩
theorem cr_anyD (hc : X.calm = true) (hk : X.K = G.K := by rfl) : CallR X (.builtin "any") (rB G dAny) := by
  refine CallR.imp (cr_any hc) fun xs H Q h => ?_
  obtain ⟨T, ds, res, g, h, e, k⟩ := h
  unfold dAny at e
  split at e <;> try (cases e; done)
  · rename_i ds'
    split at e <;> try (cases e; done)
    rename_i bs eb
    cases e
    obtain ⟨x, rfl, s⟩ := p1 h
    obtain ⟨a, vs, rfl, q, _, r, z⟩ := s.lst g
    rw [bls_eq eb] at r
    rw [reps_bls g r] at q
    exact ⟨a, bs, rfl, hk ▸ q, one g k rfl⟩
theorem cr_sumD (hc : X.calm = true) (hk : X.K = G.K := by rfl) : CallR X (.builtin "sum") (rB G dSum) := by
  refine CallR.imp (cr_sum hc) fun xs H Q h => ?_
  obtain ⟨T, ds, res, g, h, e, k⟩ := h
  unfold dSum at e
  split at e <;> try (cases e; done)
  · rename_i ds'
    split at e <;> try (cases e; done)
    rename_i bs eb
    cases e
    obtain ⟨x, rfl, s⟩ := p1 h
    obtain ⟨a, vs, rfl, q, _, r, z⟩ := s.lst g
    rw [nums_eq eb] at r
    rw [reps_nums g r] at q
    exact ⟨a, bs, rfl, hk ▸ q, one g k rfl⟩
/-- max(a, b), min(a, b) of ints -/
def dMax2 : List D → Option R
  | [.int i, .int j] => ri (if j > i then j else i)
  | _ => none
def dMin2 : List D → Option R
  | [.int i, .int j] => ri (if j < i then j else i)
  | _ => none
theorem cr_max2 (hc : X.calm = true) : CallR X (.builtin "max") (rB G dMax2) := by
  refine CallR.imp (call_max2 hc) fun xs H Q h => ?_
  obtain ⟨T, ds, res, g, h, e, k⟩ := h
  unfold dMax2 at e
  split at e <;> try (cases e; done)
  · cases e
    obtain ⟨x, y, rfl, s, s'⟩ := p2 h
    exact ⟨_, _, by rw [s.int g, s'.int g], one g k rfl⟩
theorem cr_min2 (hc : X.calm = true) : CallR X (.builtin "min") (rB G dMin2) := by
  refine CallR.imp (call_min2 hc) fun xs H Q h => ?_
  obtain ⟨T, ds, res, g, h, e, k⟩ := h
  unfold dMin2 at e
  split at e <;> try (cases e; done)
  · cases e
    obtain ⟨x, y, rfl, s, s'⟩ := p2 h
    exact ⟨_, _, by rw [s.int g, s'.int g], one g k rfl⟩

/-! ### data compared -/
theorem reads_of {pins : List (Addr × Obj)} {s : Shared} (I : Inv X pins σ H s) (hk : X.K = G.K) (g : Good G T H) {u : Value} (c : PyData.canLay0 (toPy d) = true) (sv : Sees G T H v d) (ru : RelV v u) : ∃ as, Reads s.heap u (toPy d) as :=
  Dp.reads I (toPy d) v u (hk ▸ dp_of g d v c sv) ru
theorem toPys_map : ∀ ds : List D, toPys ds = ds.map toPy
  | [] => rfl
  | d :: ds => by rw [toPys, toPys_map ds, List.map_cons]
def isNone : PyData → Bool
  | .none => true
  | _ => false
/-- x < y and its like: data that are alike -/
def okLt (x y : D) : Bool := shp x && shp y && PySem.W.alike (toPy x) (toPy y) && !isNone (toPy x)
def ltD (x y : D) : Bool := PySem.W.dataLt (toPy x) (toPy y)
def dLtD (x y : D) : Option R := if okLt x y = true then rb (ltD x y) else none
def dGtD (x y : D) : Option R := if okLt x y = true then rb (ltD y x) else none
def dLeD (x y : D) : Option R := if okLt x y = true then rb (!ltD y x) else none
def dGeD (x y : D) : Option R := if okLt x y = true then rb (!ltD x y) else none
theorem okLt_of {x y : D} (h : okLt x y = true) : shp x = true ∧ shp y = true ∧ PySem.W.alike (toPy x) (toPy y) = true ∧ toPy x ≠ .none := by
  unfold okLt at h
  simp only [Bool.and_eq_true, Bool.not_eq_true'] at h
  refine ⟨h.1.1.1, h.1.1.2, h.1.2, fun e => ?_⟩
  rw [e] at h
  exact absurd h.2 (by simp [isNone])
theorem cmp_core {op : CmpOp} {f : D → D → Bool} {fo : D → D → Option R} (hf : ∀ x y res, fo x y = some res → okLt x y = true ∧ res = .imm (.bl (f x y))) (hu : X.A.units + 64 < cLine) (hk : X.K = G.K)
    (rule : ∀ {s : Shared} {a b : Value} {x y : D} {as bs : List Addr} {Q : Value → Shared → Prop} {E : Value → Shared → Prop}, Reads s.heap a (toPy x) as → Reads s.heap b (toPy y) bs → PySem.W.alike (toPy x) (toPy y) = true → toPy x ≠ .none → X.A.units + min (toPy x).depth (toPy y).depth < cLine → Q (.bool (f x y)) s →
      wpAny (model X.prog X.w) X.A (compareOp op a b) Q E s) : OpR X (compareOp op) (r2 G fo) := by
  intro pins s σ H x y v u Q I rx ry h
  obtain ⟨T, dx, dy, res, g, sx, sy, e, k⟩ := h
  obtain ⟨h, rfl⟩ := hf dx dy res e
  obtain ⟨h1, h2, h3, h4⟩ := okLt_of h
  obtain ⟨as, ra⟩ := reads_of I hk g (SeqAt.canLay_of_shaped h1) sx rx
  obtain ⟨bs, rb'⟩ := reads_of I hk g (SeqAt.canLay_of_shaped h2) sy ry
  refine rule ra rb' h3 h4 ?_ ⟨.bl _, H, I, rfl, one g k rfl⟩
  have := SeqAt.depth_of_shaped h1
  have := Nat.min_le_left (toPy dx).depth (toPy dy).depth
  omega
theorem op_ltD (hu : X.A.units + 64 < cLine) (hk : X.K = G.K := by rfl) : OpR X (compareOp .Lt) (r2 G dLtD) :=
  cmp_core (f := ltD) (fun x y res h => by unfold dLtD at h; split at h <;> cases h; exact ⟨by assumption, rfl⟩) hu hk fun ra rb h hn hu hq => PySem.W.lt_data ra rb h hn hu hq
theorem op_gtD (hu : X.A.units + 64 < cLine) (hk : X.K = G.K := by rfl) : OpR X (compareOp .Gt) (r2 G dGtD) :=
  cmp_core (f := fun x y => ltD y x) (fun x y res h => by unfold dGtD at h; split at h <;> cases h; exact ⟨by assumption, rfl⟩) hu hk fun ra rb h hn hu hq => PySem.W.gt_data ra rb h hn hu hq
theorem op_leD (hu : X.A.units + 64 < cLine) (hk : X.K = G.K := by rfl) : OpR X (compareOp .LtE) (r2 G dLeD) :=
  cmp_core (f := fun x y => !ltD y x) (fun x y res h => by unfold dLeD at h; split at h <;> cases h; exact ⟨by assumption, rfl⟩) hu hk fun ra rb h hn hu hq => PySem.W.le_data ra rb h hn hu hq
theorem op_geD (hu : X.A.units + 64 < cLine) (hk : X.K = G.K := by rfl) : OpR X (compareOp .GtE) (r2 G dGeD) :=
  cmp_core (f := fun x y => !ltD x y) (fun x y res h => by unfold dGeD at h; split at h <;> cases h; exact ⟨by assumption, rfl⟩) hu hk fun ra rb h hn hu hq => PySem.W.ge_data ra rb h hn hu hq
/-- x in y, y a list or a tuple -/
def eqD (x y : D) : Bool := PyData.eqv (toPy x) (toPy y)
def dIn (x y : D) : Option R := match y with
  | .lst ds => if shp x = true ∧ shp (.lst ds) = true then rb (ds.any fun z => eqD z x) else none
  | .tup ds => if shp x = true ∧ shp (.tup ds) = true then rb (ds.any fun z => eqD z x) else none
  | _ => none
def dNotIn (x y : D) : Option R := match y with
  | .lst ds => if shp x = true ∧ shp (.lst ds) = true then rb (!ds.any fun z => eqD z x) else none
  | .tup ds => if shp x = true ∧ shp (.tup ds) = true then rb (!ds.any fun z => eqD z x) else none
  | _ => none
theorem any_py (x : D) (ds : List D) : ((toPys ds).any fun z => PyData.eqv z (toPy x)) = ds.any fun z => eqD z x := by
  rw [toPys_map, List.any_map]; rfl
theorem canAll {ds : List D} (h : shp (.lst ds) = true) : PyData.canLayAll0 (toPys ds) = true := by
  have := SeqAt.canLay_of_shaped h
  simpa [toPy, PyData.canLay0] using this
theorem canAllT {ds : List D} (h : shp (.tup ds) = true) : PyData.canLayAll0 (toPys ds) = true := by
  have := SeqAt.canLay_of_shaped h
  simpa [toPy, PyData.canLay0] using this
theorem op_inD (hu : X.A.units + 65 < cLine) (hk : X.K = G.K := by rfl) : OpR X (compareOp .In) (r2 G dIn) := by
  intro pins s σ H x y v u Q I rx ry h
  obtain ⟨T, dx, dy, res, g, sx, sy, e, k⟩ := h
  unfold dIn at e
  split at e
  · rename_i ds
    split at e <;> try (cases e; done)
    rename_i h
    cases e
    obtain ⟨as, ra⟩ := reads_of I hk g (SeqAt.canLay_of_shaped h.1) sx rx
    obtain ⟨bs, rb'⟩ := reads_of I hk g (SeqAt.canLay_of_shaped h.2) sy ry
    exact SeqAt.in_list_reads rb' ra (canAll h.2) (SeqAt.canLay_of_shaped h.1) (room_in_shaped h.1 hu) ⟨.bl _, H, I, by rw [any_py]; rfl, one g k rfl⟩
  · rename_i ds
    split at e <;> try (cases e; done)
    rename_i h
    cases e
    obtain ⟨as, ra⟩ := reads_of I hk g (SeqAt.canLay_of_shaped h.1) sx rx
    obtain ⟨bs, rb'⟩ := reads_of I hk g (SeqAt.canLay_of_shaped h.2) sy ry
    exact SeqAt.in_tuple_reads rb' ra (canAllT h.2) (SeqAt.canLay_of_shaped h.1) (room_in_shaped h.1 hu) ⟨.bl _, H, I, by rw [any_py]; rfl, one g k rfl⟩
  · cases e
theorem op_notInD (hu : X.A.units + 65 < cLine) (hk : X.K = G.K := by rfl) : OpR X (compareOp .NotIn) (r2 G dNotIn) := by
  intro pins s σ H x y v u Q I rx ry h
  obtain ⟨T, dx, dy, res, g, sx, sy, e, k⟩ := h
  unfold dNotIn at e
  split at e
  · rename_i ds
    split at e <;> try (cases e; done)
    rename_i h
    cases e
    obtain ⟨as, ra⟩ := reads_of I hk g (SeqAt.canLay_of_shaped h.1) sx rx
    obtain ⟨bs, rb'⟩ := reads_of I hk g (SeqAt.canLay_of_shaped h.2) sy ry
    exact SeqAt.notIn_list_reads rb' ra (canAll h.2) (SeqAt.canLay_of_shaped h.1) (room_in_shaped h.1 hu) ⟨.bl _, H, I, by rw [any_py]; rfl, one g k rfl⟩
  · rename_i ds
    split at e <;> try (cases e; done)
    rename_i h
    cases e
    obtain ⟨as, ra⟩ := reads_of I hk g (SeqAt.canLay_of_shaped h.1) sx rx
    obtain ⟨bs, rb'⟩ := reads_of I hk g (SeqAt.canLay_of_shaped h.2) sy ry
    exact SeqAt.notIn_tuple_reads rb' ra (canAllT h.2) (SeqAt.canLay_of_shaped h.1) (room_in_shaped h.1 hu) ⟨.bl _, H, I, by rw [any_py]; rfl, one g k rfl⟩
  · cases e
/-- list + list -/
theorem ok_catL : OkR2 G rCat dCatL := by
  intro T H x y dx dy res gd sx sy e Q k
  unfold dCatL at e
  split at e <;> try (cases e; done)
  rename_i xs ys
  split at e <;> try (cases e; done)
  rename_i hz
  cases e
  obtain ⟨a, vs, rfl, _, ha, ra, za⟩ := sx.lst gd
  obtain ⟨b, ws, rfl, _, hb, rb, zb⟩ := sy.lst gd
  have l1 := ra.length
  have l2 := rb.length
  refine ⟨a, b, vs, ws, rfl, rfl, ha, hb, by omega, fun p hp => ?_⟩
  exact k T (.ref p) _ (Step.new gd hp _) ⟨p, rfl, hp, own_new gd hp (reps_app ra rb) (by rw [List.length_append]; omega)⟩
/-- +: ints, tuples, lists -/
def dAdd (x y : D) : Option R := match x, y with
  | .int i, .int j => ri (i + j)
  | .tup xs, .tup ys => dCat (.tup xs) (.tup ys)
  | .lst xs, .lst ys => dCatL (.lst xs) (.lst ys)
  | _, _ => none
theorem op_addD (hk : X.K = G.K := by rfl) : OpR X (binaryOp .Add) (r2 G dAdd) := by
  refine LD.OpR.imp (OpR.or op_add (OpR.or op_catA op_cat)) fun x y H Q h => ?_
  obtain ⟨T, dx, dy, res, g, sx, sy, e, k⟩ := h
  rw [hk]
  unfold dAdd at e
  split at e <;> try (cases e; done)
  · exact .inl (ok_addI T H x y _ _ res g sx sy e Q k)
  · exact .inr (.inl (ok_cat T H x y _ _ res g sx sy e Q k))
  · exact .inr (.inr (ok_catL T H x y _ _ res g sx sy e Q k))
end
end
end LD

/-! Layer D: sorted, min, max of data (tuples without items among them too). -/
namespace LDS
open PySem PySem.W PySem.Calls PySem.SeqAt PyProof.Rows

section
variable {prog : Program} {w : World} {A : Around} {E : Value → Shared → Prop} {s : Shared}
theorem call_tuple_lt {Q : Value → Shared → Prop} {l b : Addr} {items items2 : Array Value} {e r : Nat → Bool} (hl : s.heap.IsTuple l items) (hb : s.heap.IsTuple b items2)
    (he : ∀ j (h1 : j < items.size) (h2 : j < items2.size), EqAt A.in1 s items[j] items2[j] (e j)) (hr : ∀ j (h1 : j < items.size) (h2 : j < items2.size), e j = false → RcLt A.in1 s items[j] items2[j] (r j))
    (h : Q (.bool (firstLt e r (decide (items.size < items2.size)) (List.range (min items.size items2.size)))) s) : wpAny (model prog w) A (call (.builtin "tuple.__lt__") [.ref l, .ref b]) Q E s := by
  obtain ⟨⟨cls, dd, data, sl⟩, ho, hc, n, hd⟩ := id hl
  obtain ⟨⟨cls2, dd2, data2, sl2⟩, ho2, hc2, n2, hd2⟩ := id hb
  simp only at hc hd hc2 hd2
  subst hc hd hc2 hd2
  exact call_meets F.slot_tuple_lt ⟨_, ho, rfl⟩ F.entry_tuple_lt (F.args_tuple_lt_2 _ _) (SeqAt.tuple_ltAt l b items items2 n n2 dd dd2 sl sl2 e r) ⟨ho, ho2, he, hr, h⟩
/-- one tuple against another, whatever the sort knows of their kind -/
theorem oneLt_tup {f : Bool} {xs ys : List PyData} {a b : Value} {as bs : List Addr} {Q : Bool → Shared → Prop} (ra : Reads s.heap a (.tuple xs) as) (rb : Reads s.heap b (.tuple ys) bs) (hal : alikeAll xs ys = true)
    (hu : A.units + min (PyData.tuple xs).depth (PyData.tuple ys).depth < cLine) (hq : Q (dataLt (.tuple xs) (.tuple ys)) s) : wpAny (model prog w) A (oneLt' f a b) Q E s := by
  cases f with
  | false => exact oneLt_alike (fun z => nomatch z) ra rb (by simpa [alike] using hal) (fun z => nomatch z) hu hq
  | true =>
    cases ra with
    | @tuple l o vs n _ as₁ h1 h2 h3 h4 =>
      cases rb with
      | @tuple l' o' vs' n' _ bs₁ k1 k2 k3 k4 =>
        have n1 : vs.size = xs.length := by simpa using ReadsAll.length _ _ _ h4
        have n2 : vs'.size = ys.length := by simpa using ReadsAll.length _ _ _ k4
        rw [dataLt_tuple, ← firstLt_toks xs ys hal, ← n1, ← n2] at hq
        rw [oneLt'_eq]
        simp only [if_true]
        refine wpAny_bind (wpAny_cRoomFor (room_here hu) ?_)
        refine wpAny_bind (wpAny_callSpecialIfBound?_slot (T := "tuple") ⟨_, h1, h2⟩ F.slot_tuple_lt (call_tuple_lt (e := pairEq xs ys) (r := fun j => dataLt (xs.getD j .none) (ys.getD j .none)) ⟨_, h1, h2, _, h3⟩ ⟨_, k1, k2, _, k3⟩ (fun j j1 j2 => ?_) (fun j j1 j2 hj => ?_) ?_))
        · have := eqAt_alikeAll xs ys A.in1 s vs.toList vs'.toList _ _ h4 k4 hal (room_in hu) j (by simpa using j1) (by simpa using j2)
          simpa using this
        · have := rcLt_alikeAll xs ys A.in1 s vs.toList vs'.toList _ _ h4 k4 hal (room_in hu) j (by simpa using j1) (by simpa using j2) hj
          simpa using this
        · exact wpAny_truthy_bool hq
/-- the first items of tuples, where there are such -/
theorem firsts0 {M : Model} : ∀ (vs : List Value) (ds : List PyData) {Q : List (Option Value) → Shared → Prop}, EachIs (fun v d => ∃ as, Reads s.heap v d as) vs ds → (∀ d ∈ ds, ∃ xs, d = .tuple xs) →
    (∀ hs : List (Option Value), hs.length = ds.length → (∀ (i : Nat) h d, hs[i]? = some h → ds[i]? = some d → (h.isSome = false ↔ d = .tuple [])) → Q hs s) → wpAny M A (vs.mapM firstOfTuple') Q E s
  | _, _, Q, .nil, _, h => by rw [List.mapM_nil]; exact wpAny_pure (h [] rfl fun i h d e => by simp at e)
  | v :: vs, d :: ds, Q, .cons ⟨as, r⟩ t, ht, h => by
    obtain ⟨xs, rfl⟩ := ht d (List.mem_cons_self ..)
    cases r with
    | @tuple a o its n _ _ ho hc hd hr =>
      rw [List.mapM_cons]
      refine wpAny_bind ?_
      rw [kas_first_eq]
      refine wpAny_bind (Looks.here (show Looks M s.heap (typeOf (.ref a)) o.cls from (Looks.ld ho).andThen .now) ?_)
      rw [hc, if_neg (by first | decide | simp)]
      refine wpAny_bind (listItems_at ho hd (wpAny_pure ?_))
      refine wpAny_bind (firsts0 vs ds (Q := fun hs s' => wpAny M A (pure (its[0]? :: hs)) Q E s') t (fun d hd => ht d (List.mem_cons_of_mem _ hd)) fun hs hl hh => wpAny_pure (h _ (by rw [List.length_cons, hl, List.length_cons]) fun i x d e1 e2 => ?_))
      cases i with
      | zero =>
        simp at e1 e2
        subst e1 e2
        have hn : its.size = xs.length := by simpa using ReadsAll.length _ _ _ hr
        constructor
        · intro z
          cases xs with
          | nil => rfl
          | cons y ys =>
            have : 0 < its.size := by rw [hn]; simp
            rw [Array.getElem?_eq_getElem this] at z
            cases z
        · intro z
          cases z
          have : its.size = 0 := by rw [hn]; rfl
          rw [Array.getElem?_eq_none (by omega)]
          rfl
      | succ i => exact hh i x d (by simpa using e1) (by simpa using e2)
/-- tuples, one without items among them -/
theorem sortsAt0 {vs : List Value} {ds : List PyData} (e : EachIs (fun v d => ∃ as, Reads s.heap v d as) vs ds) (hal : AllAlike ds) (ht : ∀ d ∈ ds, ∃ xs, d = .tuple xs) (h0 : PyData.tuple [] ∈ ds) (hu : ∀ d, d ∈ ds → A.units + d.depth < cLine) : SortsAt prog w A s (dataKind s.heap ds) vs := by
  have room : ∀ {d d' : PyData}, d ∈ ds → A.units + min d.depth d'.depth < cLine := fun {d d'} hd => Nat.lt_of_le_of_lt (Nat.add_le_add_left (Nat.min_le_left _ _) _) (hu d hd)
  have lt : ∀ f : Bool, ∀ (E : Value → Shared → Prop) (x y : Value) (a b : List (Int ⊕ List Nat)) (Q : Bool → Shared → Prop), (dataKind s.heap ds).keyOf x = some a → (dataKind s.heap ds).keyOf y = some b → Q (PyProof.Rows.lexLt itemOrd a b) s → wpAny (model prog w) A (oneLt' f x y) Q E s := by
    intro f E x y a b Q ha hb hq
    obtain ⟨d, as, hd, ra, rfl⟩ := dataKind_inv ha
    obtain ⟨d', as', hd', rb, rfl⟩ := dataKind_inv hb
    have hdd := hal d hd d' hd'
    have hr := room (d' := d') hd
    obtain ⟨xs, rfl⟩ := ht d hd
    obtain ⟨ys, rfl⟩ := ht d' hd'
    exact oneLt_tup ra rb (by simpa [alike] using hdd) hr hq
  refine ⟨fun v hv => ?_, ?_⟩
  · obtain ⟨d, hd, as, r⟩ := e.left v hv
    exact ⟨_, dataKind_some hal hd r⟩
  · cases ds with
    | nil => simp at h0
    | cons d₀ ds₀ =>
      have nall : ∀ hs : List (Option Value), hs.length = (d₀ :: ds₀).length → (∀ (i : Nat) h d, hs[i]? = some h → (d₀ :: ds₀)[i]? = some d → (h.isSome = false ↔ d = .tuple [])) → ¬ (hs.toArray.all (·.isSome)) = true := by
        intro hs hl hh z
        obtain ⟨i, hi, ei⟩ := List.mem_iff_getElem.mp h0
        have hi' : i < hs.length := by rw [hl]; exact hi
        have q := (hh i hs[i] (.tuple []) (List.getElem?_eq_getElem hi') (by rw [List.getElem?_eq_getElem hi, ei])).mpr rfl
        simp only [List.all_toArray, List.all_eq_true] at z
        have := z hs[i] (List.getElem_mem hi')
        rw [q] at this
        cases this
      by_cases hd : d₀ = .tuple []
      · refine ⟨oneType', fun E x y a b Q ha hb hq => ?_, fun h2 E Q hq => ?_⟩
        · rw [keyLt'_oneType]
          exact lt true E x y a b Q ha hb hq
        · rw [keyKind'_eq, List.mapM_toArray, map_eq_pure_bind]
          refine wpAny_bind (wpAny_bind (firsts0 vs _ e ht fun hs hl hh => wpAny_pure ?_))
          rw [if_neg (nall hs hl hh)]
          obtain ⟨h1, hr, rfl⟩ : ∃ h1 hr, hs = h1 :: hr := by
            cases hs with
            | nil => simp at hl
            | cons x y => exact ⟨x, y, rfl⟩
          have q1 := (hh 0 h1 d₀ rfl rfl).mpr hd
          have q2 : h1 = none := by cases h1 with
            | none => rfl
            | some x => cases q1
          subst q2
          rw [if_neg (by simp)]
          rw [oneTypeOnly'_eq, List.mapM_toArray, map_eq_pure_bind]
          refine wpAny_bind (wpAny_bind (wpAny_bind (kas_mapM (r := Value.type "tuple") _ (fun v hv Q' hq' => ?_) (wpAny_pure ?_))))
          · obtain ⟨d, hd', as, r⟩ := e.left v hv
            obtain ⟨xs, rfl⟩ := ht d hd'
            exact (looks_reads r).here hq'
          · have hall : ((List.map (fun _ => Value.type "tuple") vs).toArray.all fun x => x == Value.type "tuple") = true := by
              simp only [List.all_toArray, List.all_map, List.all_eq_true]
              intro _ _
              exact beq_self_eq_true _
            obtain ⟨v₁, vr, rfl⟩ : ∃ v₁ vr, vs = v₁ :: vr := by
              cases vs with
              | nil => simp at h2
              | cons x y => exact ⟨x, y, rfl⟩
            have h0' : (List.map (fun _ => Value.type "tuple") (v₁ :: vr)).toArray[0]? = some (Value.type "tuple") := by simp
            rw [h0']
            simp only [hall, if_true]
            exact wpAny_pure (wpAny_pure hq)
      · refine ⟨general', fun E x y a b Q ha hb hq => ?_, fun h2 E Q hq => ?_⟩
        · show wpAny (model prog w) A (oneLt' false x y) Q E s
          exact lt false E x y a b Q ha hb hq
        · rw [keyKind'_eq, List.mapM_toArray, map_eq_pure_bind]
          refine wpAny_bind (wpAny_bind (firsts0 vs _ e ht fun hs hl hh => wpAny_pure ?_))
          rw [if_neg (nall hs hl hh)]
          obtain ⟨h1, hr, rfl⟩ : ∃ h1 hr, hs = h1 :: hr := by
            cases hs with
            | nil => simp at hl
            | cons x y => exact ⟨x, y, rfl⟩
          have q2 : h1.isSome = true := by
            cases q : h1.isSome with
            | true => rfl
            | false => exact absurd ((hh 0 h1 d₀ rfl rfl).mp q) hd
          rw [if_pos (by simpa using q2)]
          exact wpAny_pure hq
/-- sorted(xs) where a tuple without items may be among tuples -/
def Sortable0 (ds : List PyData) : Prop := Sortable ds ∨ ((∀ d ∈ ds, ∃ xs, d = .tuple xs) ∧ PyData.tuple [] ∈ ds)
theorem sorts0 {vs : List Value} {ds : List PyData} (e : EachIs (fun v d => ∃ as, Reads s.heap v d as) vs ds) (hal : AllAlike ds) (hk : Sortable0 ds) (hu : ∀ d, d ∈ ds → A.units + d.depth < cLine) : SortsAt prog w A s (dataKind s.heap ds) vs := by
  rcases hk with h | ⟨h1, h2⟩
  · exact SortsAt.data e hal h hu
  · exact sortsAt0 e hal h1 h2 hu
variable {β : Type} {vs : List Value} {bs : List β} {enc : β → PyData} {R : Value → β → Prop}
theorem sorted0 {l : Addr} {Q : Value → Shared → Prop} (hl : s.heap.IsList l vs.toArray) (e : EachIs R vs bs) (er : EachIs (fun v b => ∃ as, Reads s.heap v (enc b) as) vs bs) (hal : AllAlike (bs.map enc)) (hk : Sortable0 (bs.map enc)) (hL : bs.length ≤ sizeLine)
    (hu : ∀ b, b ∈ bs → A.units + 2 + (enc b).depth < cLine) (h : ∀ out, out.length = bs.length → EachIs R out (bs.mergeSort (dataLe false enc)) → Q (.ref (s.heap.objs.size + 1)) { s with heap := sortedAll s.heap vs (List.toArray out) }) :
    wpAny (model prog w) A (call (.builtin "sorted") [.ref l]) Q E s := by
  have er' : EachIs (fun v b => ∃ as, Reads (sortingHeap (copyHeap s.heap vs) (s.heap.objs.size + 1) vs) v (enc b) as) vs bs := er.mono fun _ _ ⟨as, r⟩ => ⟨as, PyProof.Rows.Reads.keeps (fun _ _ => sorting_copy_old) r⟩
  exact sorted_vals hl (sorts0 (s := { s with heap := sortingHeap (copyHeap s.heap vs) (s.heap.objs.size + 1) vs }) (each_map (R := fun v d => ∃ as, Reads (sortingHeap (copyHeap s.heap vs) (s.heap.objs.size + 1) vs) v d as) enc er') hal hk (bound_map hu)) (by rw [e.length]; exact hL)
    (h _ (by rw [sortVals_length false rfl]; exact e.length) (sortVals_data false e er' hal))
end
end LDS

/-! Layer D: sorted, min, max of a list; isinstance; sets of tuples; unary minus. -/
namespace LD
open PySem PySem.W PySem.Calls PySem.Spec PyProof.Rows L2

section
variable {G : Gm} {T T1 T2 : Ty} {st st1 st2 : DSt} {σ σ1 σ2 : L2.St} {H H1 H2 : Hp} {v : V} {d : D} {r : R}

/-! ### sorted -/
def isTup : D → Bool
  | .tup _ => true
  | _ => false
def isInt : D → Bool
  | .int _ => true
  | _ => false
def alikes (ds : List D) : Bool := ds.all fun x => ds.all fun y => alike (toPy x) (toPy y)
def okSort (ds : List D) : Bool := ds.all shp && alikes ds && (ds.all isInt || ds.all isTup)
def sortD (ds : List D) : List D := ds.mergeSort (dataLe false toPy)
def dSorted : List D → Option R
  | [.lst ds] => if okSort ds = true then some (.own (.lst (sortD ds))) else none
  | _ => none
theorem alikes_of {ds : List D} (h : alikes ds = true) {x y : D} (hx : x ∈ ds) (hy : y ∈ ds) : alike (toPy x) (toPy y) = true := by
  unfold alikes at h
  rw [List.all_eq_true] at h
  exact List.all_eq_true.mp (h x hx) y hy
theorem sortable_of {ds : List D} (h : (ds.all isInt || ds.all isTup) = true) : LDS.Sortable0 (ds.map toPy) := by
  rw [Bool.or_eq_true] at h
  rcases h with h | h
  · refine .inl (.inr fun d hd => ?_)
    obtain ⟨x, hx, rfl⟩ := List.mem_map.mp hd
    have := List.all_eq_true.mp h x hx
    cases x <;> simp [isInt] at this
    exact ⟨(fun z => nomatch z), fun xs z => nomatch z⟩
  · have ht : ∀ d ∈ ds.map toPy, ∃ xs, d = .tuple xs := fun d hd => by
      obtain ⟨x, hx, rfl⟩ := List.mem_map.mp hd
      have := List.all_eq_true.mp h x hx
      cases x <;> simp [isTup] at this
      exact ⟨_, rfl⟩
    by_cases h0 : PyData.tuple [] ∈ ds.map toPy
    · exact .inr ⟨ht, h0⟩
    · refine .inl (.inl fun d hd => ?_)
      obtain ⟨xs, rfl⟩ := ht d hd
      cases xs with
      | nil => exact absurd hd h0
      | cons x r => exact ⟨x, r, rfl⟩
theorem each_of {R : Value → D → Prop} : ∀ {vs : List V} {ds : List D} {us : List Value}, Reps G T vs ds → Vals vs us → (∀ v d u, d ∈ ds → RepT G T v d → RelV v u → R u d) → EachIs R us ds
  | _, _, _, .nil, .nil, _ => .nil
  | _, _, _, .cons a t, .cons b u, h => .cons (h _ _ _ (List.mem_cons_self ..) a b) (each_of t u fun v d u hd => h v d u (List.mem_cons_of_mem _ hd))
theorem of_each : ∀ {us : List Value} {ds : List D}, EachIs (fun u d => ∃ v, RelV v u ∧ RepT G T v d) us ds → ∃ vs, Vals vs us ∧ Reps G T vs ds
  | _, _, .nil => ⟨[], .nil, .nil⟩
  | _, _, .cons ⟨v, a, b⟩ t => let ⟨vs, p, q⟩ := of_each t; ⟨v :: vs, .cons a p, .cons b q⟩
variable {X : Cx}
theorem cr_sorted (hu : X.A.units + 66 < cLine) (hk : X.K = G.K := by rfl) : CallR X (.builtin "sorted") (rB G dSorted) := by
  intro pins s σ H xs us Q I rv h
  obtain ⟨T, ds, res, g, h, e, k⟩ := h
  unfold dSorted at e
  split at e <;> try (cases e; done)
  rename_i ds'
  split at e <;> try (cases e; done)
  rename_i ok
  cases e
  obtain ⟨x, rfl, sx⟩ := p1 h
  obtain ⟨a, vs, rfl, q, hH, r, z⟩ := sx.lst g
  rw [Vals.ref1 rv]
  simp only [okSort, Bool.and_eq_true] at ok
  obtain ⟨⟨ok1, ok2⟩, ok3⟩ := ok
  have sh : ∀ d ∈ ds', shp d = true := fun d hd => List.all_eq_true.mp ok1 d hd
  obtain ⟨its, rv', pl, hz⟩ := I.list (X := X) (hk ▸ q : SqL X.K H a vs)
  refine LDS.sorted0 (enc := toPy) (bs := ds') (R := fun u d => ∃ v, RelV v u ∧ RepT G T v d) pl.isList (each_of r rv' fun v d u _ a b => ⟨v, b, a⟩) (each_of r rv' fun v d u hd a b => reads_of I hk g (SeqAt.canLay_of_shaped (sh d hd)) (.inl a) b) ?_ (sortable_of ok3) z (fun d hd => ?_) fun out hl ho => ?_
  · intro d hd d' hd'
    obtain ⟨x, hx, rfl⟩ := List.mem_map.mp hd
    obtain ⟨y, hy, rfl⟩ := List.mem_map.mp hd'
    exact alikes_of ok2 hx hy
  · have := SeqAt.depth_of_shaped (sh d hd)
    omega
  · obtain ⟨ws, w1, w2⟩ := of_each ho
    obtain ⟨c, at_⟩ := sortedAll_at s.heap its out.toArray
    have hlen : ws.length = ds'.length := by rw [w1.length, hl]
    have hn : H (s.heap.objs.size + 1) = none := I.hok.fresh (Nat.le_succ _)
    refine ⟨.ref (s.heap.objs.size + 1), upd H (s.heap.objs.size + 1) (.lst ws), I.laid (t' := s.toks) (fun _ _ q => sortedAll_old q) (Nat.le_succ _) (show ObjOk X.prog X.w _ _ _ (.lst ws) from ⟨by omega, out, c, w1, at_⟩), rfl, ?_⟩
    exact k T _ _ (Step.new g hn _) ⟨_, rfl, hn, own_new g hn w2 (by show (ds'.mergeSort (dataLe false toPy)).length ≤ sizeLine; rw [← w2.length]; omega)⟩

/-! ### min, max of a list -/
mutual
theorem toPy_inj : ∀ (x y : D), PyData.canLay0 (toPy x) = true → toPy x = toPy y → x = y
  | .non, y, c, h => by cases y <;> simp [toPy] at h <;> rfl
  | .bl b, y, c, h => by cases y <;> simp [toPy] at h; rw [h]
  | .int b, y, c, h => by cases y <;> simp [toPy] at h; rw [h]
  | .str b, y, c, h => by cases y <;> simp [toPy] at h; rw [h]
  | .tup ds, y, c, h => by
    cases y <;> simp [toPy] at h
    rw [toPys_inj ds _ (by simpa [toPy, PyData.canLay0] using c) h]
  | .lst ds, y, c, h => by
    cases y <;> simp [toPy] at h
    rw [toPys_inj ds _ (by simpa [toPy, PyData.canLay0] using c) h]
  | .dic _ _, y, c, h => by simp [toPy, PyData.canLay0] at c
  | .st _, y, c, h => by simp [toPy, PyData.canLay0] at c
  | .ins _ _, y, c, h => by simp [toPy, PyData.canLay0] at c
  | .cch _, y, c, h => by simp [toPy, PyData.canLay0] at c
  | .scr _, y, c, h => by simp [toPy, PyData.canLay0] at c
theorem toPys_inj : ∀ (xs ys : List D), PyData.canLayAll0 (toPys xs) = true → toPys xs = toPys ys → xs = ys
  | [], ys, c, h => by
    cases ys with
    | nil => rfl
    | cons y ys => simp [toPys] at h
  | x :: xs, ys, c, h => by
    cases ys with
    | nil => simp [toPys] at h
    | cons y ys =>
      have c' : PyData.canLay0 (toPy x) = true ∧ PyData.canLayAll0 (toPys xs) = true := by simpa [toPys, PyData.canLayAll0] using c
      simp [toPys] at h
      rw [toPy_inj x y c'.1 h.1, toPys_inj xs ys c'.2 h.2]
end
def minDD (x : D) (xs : List D) : D := xs.foldl (fun a y => if ltD y a then y else a) x
def maxDD (x : D) (xs : List D) : D := xs.foldl (fun a y => if ltD a y then y else a) x
theorem minDD_py (x : D) (xs : List D) : toPy (minDD x xs) = minD (toPy x) (xs.map toPy) := by
  unfold minDD minD
  induction xs generalizing x with
  | nil => rfl
  | cons y ys ih =>
    rw [List.map_cons, List.foldl_cons, List.foldl_cons, ih]
    show List.foldl _ _ _ = List.foldl _ (if ltD y x = true then toPy y else toPy x) _
    congr 1
    split <;> rfl
theorem maxDD_py (x : D) (xs : List D) : toPy (maxDD x xs) = maxD (toPy x) (xs.map toPy) := by
  unfold maxDD maxD
  induction xs generalizing x with
  | nil => rfl
  | cons y ys ih =>
    rw [List.map_cons, List.foldl_cons, List.foldl_cons, ih]
    show List.foldl _ _ _ = List.foldl _ (if ltD x y = true then toPy y else toPy x) _
    congr 1
    split <;> rfl
theorem fold_mem {f : D → D → D} (hf : ∀ a b, f a b = a ∨ f a b = b) : ∀ (xs : List D) (x : D), xs.foldl f x ∈ x :: xs
  | [], x => List.mem_cons_self ..
  | y :: ys, x => by
    rw [List.foldl_cons]
    rcases List.mem_cons.mp (fold_mem hf ys (f x y)) with h | h
    · rw [h]
      rcases hf x y with e | e <;> rw [e]
      · exact List.mem_cons_self ..
      · exact List.mem_cons_of_mem _ (List.mem_cons_self ..)
    · exact List.mem_cons_of_mem _ (List.mem_cons_of_mem _ h)
theorem minDD_mem (x : D) (xs : List D) : minDD x xs ∈ x :: xs := fold_mem (fun a b => by split <;> simp) xs x
theorem maxDD_mem (x : D) (xs : List D) : maxDD x xs ∈ x :: xs := fold_mem (fun a b => by split <;> simp) xs x
def okMin (ds : List D) : Bool := shp (.lst ds) && alikes ds && ds.all fun d => !isNone (toPy d)
def dMinL : List D → Option R
  | [.lst (d :: ds)] => if okMin (d :: ds) = true then some (.imm (minDD d ds)) else none
  | _ => none
def dMaxL : List D → Option R
  | [.lst (d :: ds)] => if okMin (d :: ds) = true then some (.imm (maxDD d ds)) else none
  | _ => none
theorem vals_at : ∀ {vs : List V} {us : List Value}, Vals vs us → ∀ (i : Nat) u, us[i]? = some u → ∃ v, vs[i]? = some v ∧ RelV v u
  | _, _, .cons a t, 0, u, h => by cases h; exact ⟨_, rfl, a⟩
  | _, _, .cons a t, i + 1, u, h => vals_at t i u h
theorem can_mem : ∀ {ds : List D}, PyData.canLayAll0 (toPys ds) = true → ∀ d ∈ ds, PyData.canLay0 (toPy d) = true
  | x :: xs, c, d, hd => by
    have c' : PyData.canLay0 (toPy x) = true ∧ PyData.canLayAll0 (toPys xs) = true := by simpa [toPys, PyData.canLayAll0] using c
    rcases List.mem_cons.mp hd with h | h
    · rw [h]; exact c'.1
    · exact can_mem c'.2 d h
theorem reps_at' : ∀ {vs : List V} {ds : List D}, Reps G T vs ds → ∀ (i : Nat) v, vs[i]? = some v → ∃ d, ds[i]? = some d ∧ RepT G T v d
  | _, _, .cons a t, 0, u, h => by cases h; exact ⟨_, rfl, a⟩
  | _, _, .cons a t, i + 1, u, h => reps_at' t i u h
theorem minmax_core {nm : String} {fo : List D → Option R} {f : D → List D → D} {fp : PyData → List PyData → PyData} (hf : ∀ x xs, toPy (f x xs) = fp (toPy x) (xs.map toPy)) (hm : ∀ x xs, f x xs ∈ x :: xs)
    (ho : ∀ l res, fo l = some res → ∃ d ds, l = [.lst (d :: ds)] ∧ okMin (d :: ds) = true ∧ res = .imm (f d ds)) (hu : X.A.units + 66 < cLine) (hk : X.K = G.K)
    (rule : ∀ {s : Shared} {l : Addr} {vs : Array Value} {x : PyData} {xs : List PyData} {as : List Addr} {Q : Value → Shared → Prop} {E : Value → Shared → Prop}, s.heap.IsList l vs → ReadsAll s.heap vs.toList (x :: xs) as → AlikeAll (x :: xs) → X.A.units + 1 + PyData.depthAll (x :: xs) < cLine →
      (∀ (i : Nat) v h' tk bs, vs[i]? = some v → Reads h' v (fp x xs) bs → (∀ b o, s.heap.get? b = some o → h'.get? b = some o) → Q v { s with heap := h', toks := tk }) → wpAny (model X.prog X.w) X.A (call (.builtin nm) [.ref l]) Q E s) : CallR X (.builtin nm) (rB G fo) := by
  intro pins s σ H xs us Q I rv h
  obtain ⟨T, l, res, g, h, e, k⟩ := h
  obtain ⟨d, ds, rfl, ok, rfl⟩ := ho l res e
  obtain ⟨x, rfl, sx⟩ := p1 h
  obtain ⟨a, vs, rfl, q, hH, r, z⟩ := sx.lst g
  rw [Vals.ref1 rv]
  simp only [okMin, Bool.and_eq_true] at ok
  obtain ⟨⟨ok1, ok2⟩, ok3⟩ := ok
  have can := canAll ok1
  obtain ⟨its, rv', pl, hz⟩ := I.list (X := X) (hk ▸ q : SqL X.K H a vs)
  have da : DpAll X.K H vs (toPys (d :: ds)) := hk ▸ dps_of g _ vs can r
  obtain ⟨as, ra⟩ := Dp.readsAll I _ _ _ da rv'
  have ra' : ReadsAll s.heap its (toPy d :: ds.map toPy) as := by rw [toPys_map] at ra; exact ra
  refine rule (vs := its.toArray) pl.isList (by simpa using ra') ⟨?_, ?_⟩ ?_ fun i u h' tk bs hi ru hold => ?_
  · intro x hx y hy
    rw [← List.map_cons] at hx hy
    obtain ⟨x', hx', rfl⟩ := List.mem_map.mp hx
    obtain ⟨y', hy', rfl⟩ := List.mem_map.mp hy
    exact alikes_of ok2 hx' hy'
  · intro x hx
    rw [← List.map_cons] at hx
    obtain ⟨x', hx', rfl⟩ := List.mem_map.mp hx
    have := List.all_eq_true.mp ok3 x' hx'
    intro e
    rw [e] at this
    simp [isNone] at this
  · have := SeqAt.depth_of_shaped ok1
    have e : PyData.depthAll (toPy d :: ds.map toPy) + 1 ≤ (toPy (.lst (d :: ds))).depth := by
      rw [← List.map_cons, ← toPys_map]
      simp [toPy, PyData.depth]
      try omega
    omega
  · have hi' : its[i]? = some u := by simpa using hi
    obtain ⟨w, hw, rw'⟩ := vals_at rv' i u hi'
    obtain ⟨y, hy, ry⟩ := reps_at' r i w hw
    have hym : y ∈ d :: ds := List.mem_of_getElem? hy
    obtain ⟨cs, r1⟩ := reads_of I hk g (can_mem can y hym) (.inl ry) rw'
    have r2 := PyProof.Rows.Reads.keeps (h' := h') hold r1
    rw [← hf] at ru
    have e1 : toPy y = toPy (f d ds) := alike_unique _ _ _ _ _ (alikes_of ok2 hym (hm d ds)) r2 ru
    have e2 : y = f d ds := toPy_inj _ _ (can_mem can y hym) e1
    have J : Inv X pins σ H { s with heap := h', toks := tk } := I.kept (t' := tk) hold
    exact ⟨w, H, J, rw', k T w H (Step.refl g) (e2 ▸ ry)⟩
theorem cr_minL (hc : X.A.handled = none) (hu : X.A.units + 66 < cLine) (hk : X.K = G.K := by rfl) : CallR X (.builtin "min") (rB G dMinL) :=
  minmax_core (f := minDD) (fp := minD) minDD_py minDD_mem (fun l res e => by
    unfold dMinL at e
    split at e <;> try (cases e; done)
    split at e <;> cases e
    exact ⟨_, _, rfl, by assumption, rfl⟩) hu hk fun hl hr ha hu h => min_list_data hc hl hr ha hu h
theorem cr_maxL (hc : X.A.handled = none) (hu : X.A.units + 66 < cLine) (hk : X.K = G.K := by rfl) : CallR X (.builtin "max") (rB G dMaxL) :=
  minmax_core (f := maxDD) (fp := maxD) maxDD_py maxDD_mem (fun l res e => by
    unfold dMaxL at e
    split at e <;> try (cases e; done)
    split at e <;> cases e
    exact ⟨_, _, rfl, by assumption, rfl⟩) hu hk fun hl hr ha hu h => max_list_data hc hl hr ha hu h

/-! ### isinstance with a built-in type -/
def tyNm : D → Option String
  | .non => some "NoneType"
  | .bl _ => some "bool"
  | .int _ => some "int"
  | .str _ => some "str"
  | .tup _ => some "tuple"
  | .lst _ => some "list"
  | _ => none
def isiD (n : String) (d : D) : Option Bool := match tyNm d with
  | some t => kitB t n
  | none => none
theorem ty_of (g : Good G T H) {x : V} {d : D} {t : String} (s : Sees G T H x d) (h : tyNm d = some t) : TyOf G.K H x (.type t) := by
  cases d with
  | non => cases h; rw [s.non g]; exact .non
  | bl b => cases h; rw [s.bl g]; exact .bl b
  | int b => cases h; rw [s.int g]; exact .int b
  | str b => cases h; rw [s.str g]; exact .str b
  | tup ds =>
    cases h
    rcases s with s | ⟨a, rfl, o⟩
    · cases x with
      | ref a =>
        rcases s with s | ⟨_, z, _⟩
        · obtain ⟨vs, e, _⟩ := g a _ s
          exact .tup e
        · cases z
      | _ => first | (cases s; done) | exact (show False from s).elim
    · obtain ⟨vs, e, _⟩ := o.sh
      exact .tup e
  | lst ds =>
    cases h
    rcases s with s | ⟨a, rfl, o⟩
    · cases x with
      | ref a =>
        rcases s with s | ⟨_, z, _⟩
        · obtain ⟨vs, e, _⟩ := g a _ s
          exact .lst e
        · cases z
      | _ => first | (cases s; done) | exact (show False from s).elim
    · obtain ⟨vs, e, _⟩ := o.sh
      exact .lst e
  | _ => cases h
def mIsi (n : String) (a : M) : M := fun st => match a st with
  | none => none
  | some (r, s) => match cont s r with
    | none => none
    | some d => match isiD n d with
      | none => none
      | some b => some (.imm (.bl b), s)
theorem ok_isi {n : String} {te : TE} {a : M} (ha : OkE G te a) : OkE G (tCB (rIsi G.K) (tCons te (tCons (tC (.ty n)) tNil))) (mIsi n a) := by
  intro T st σ H r st' rl e Q k
  unfold mIsi at e
  split at e
  · cases e
  · rename_i r1 s1 e1
    split at e
    · cases e
    · rename_i d c
      split at e
      · cases e
      · rename_i b hb
        cases e
        refine ha T st σ H r1 _ rl e1 _ fun T1 v1 H1 E1 R1 => ?_
        unfold isiD at hb
        split at hb
        · rename_i t ht
          exact ⟨v1, .ty n, .type t, .type n, b, rfl, .ty n, .base (ty_of E1.rel.good (sees_of E1.rel R1 c) ht), kit_ty hb, k T1 (.bl b) H1 E1 rfl⟩
        · cases hb
theorem isi_int_non : isiD "int" .non = some false := by decide +kernel
theorem isi_int_bl (b : Bool) : isiD "int" (.bl b) = some true := by show kitB "bool" "int" = _; decide +kernel
theorem isi_int_int (i : Int) : isiD "int" (.int i) = some true := by show kitB "int" "int" = _; decide +kernel
theorem isi_int_str (x : Str) : isiD "int" (.str x) = some false := by show kitB "str" "int" = _; decide +kernel
theorem isi_int_tup (x : List D) : isiD "int" (.tup x) = some false := by show kitB "tuple" "int" = _; decide +kernel
theorem isi_int_lst (x : List D) : isiD "int" (.lst x) = some false := by show kitB "list" "int" = _; decide +kernel
theorem isi_bool_non : isiD "bool" .non = some false := by decide +kernel
theorem isi_bool_bl (b : Bool) : isiD "bool" (.bl b) = some true := by show kitB "bool" "bool" = _; decide +kernel
theorem isi_bool_int (i : Int) : isiD "bool" (.int i) = some false := by show kitB "int" "bool" = _; decide +kernel
theorem isi_bool_str (x : Str) : isiD "bool" (.str x) = some false := by show kitB "str" "bool" = _; decide +kernel
theorem isi_bool_tup (x : List D) : isiD "bool" (.tup x) = some false := by show kitB "tuple" "bool" = _; decide +kernel
theorem isi_bool_lst (x : List D) : isiD "bool" (.lst x) = some false := by show kitB "list" "bool" = _; decide +kernel
theorem isi_tuple_non : isiD "tuple" .non = some false := by decide +kernel
theorem isi_tuple_bl (b : Bool) : isiD "tuple" (.bl b) = some false := by show kitB "bool" "tuple" = _; decide +kernel
theorem isi_tuple_int (i : Int) : isiD "tuple" (.int i) = some false := by show kitB "int" "tuple" = _; decide +kernel
theorem isi_tuple_str (x : Str) : isiD "tuple" (.str x) = some false := by show kitB "str" "tuple" = _; decide +kernel
theorem isi_tuple_tup (x : List D) : isiD "tuple" (.tup x) = some true := by show kitB "tuple" "tuple" = _; decide +kernel
theorem isi_tuple_lst (x : List D) : isiD "tuple" (.lst x) = some false := by show kitB "list" "tuple" = _; decide +kernel

/-! ### sets of tuples of ints -/
def intsT : D → Option (List Int)
  | .tup ds => nums ds
  | _ => none
def intsTs : List D → Option (List (List Int))
  | [] => some []
  | d :: ds => match intsT d with
    | none => none
    | some r => match intsTs ds with
      | none => none
      | some rs => some (r :: rs)
theorem intsT_eq {d : D} {r : List Int} (h : intsT d = some r) : d = tupI r := by
  cases d <;> try (cases h; done)
  rw [nums_eq h]; rfl
theorem intsTs_eq : ∀ {ds : List D} {rs : List (List Int)}, intsTs ds = some rs → ds = rs.map tupI
  | [], _, h => by cases h; rfl
  | d :: ds, rs, h => by
    unfold intsTs at h
    split at h <;> try (cases h; done)
    rename_i r e1
    split at h <;> try (cases h; done)
    rename_i rs' e2
    cases h
    rw [List.map_cons, ← intsT_eq e1, ← intsTs_eq e2]
/-- set(xs) of a list of tuples of ints -/
def dSetT : List D → Option R
  | [.lst ds] => match intsTs ds with
    | some rs => if rs.length < 64 then some (.own (.st rs)) else none
    | none => none
  | _ => none
def rowsOk (d : Nat) (rs : List (List Int)) : Bool := rs.all fun r => r.length == d && r.all fun i => decide (0 ≤ i ∧ i < 64)
def setD (rs : List (List Int)) : List (List Int) := rs.eraseDups.mergeSort fun a b => decide (TS.code 64 a ≤ TS.code 64 b)
def dSortedT : List D → Option R
  | [.st []] => some (.own (.lst []))
  | [.st (r :: rs)] => if 1 ≤ r.length ∧ rowsOk r.length (r :: rs) = true then some (.own (.lst ((setD (r :: rs)).map tupI))) else none
  | _ => none
theorem rows_tups (g : Good G T H) : ∀ {vs : List V} {rs : List (List Int)}, Reps G T vs (rs.map tupI) → ∃ ks : List (Addr × List Int), vs = ks.map (fun p => V.ref p.1) ∧ rs = ks.map (·.2) ∧ ∀ p ∈ ks, T p.1 = some (tupI p.2)
  | _, [], h => by cases h; exact ⟨[], rfl, rfl, fun _ z => by simp at z⟩
  | _, r :: rs, h => by
    cases h with
    | @cons v _ vs _ a t =>
      obtain ⟨ks, e1, e2, e3⟩ := rows_tups g t
      cases v with
      | ref p =>
        rcases a with a | ⟨_, z, _⟩
        · exact ⟨(p, r) :: ks, by rw [e1]; rfl, by rw [e2]; rfl, fun q hq => by
            rcases List.mem_cons.mp hq with z | z
            · rw [z]; exact a
            · exact e3 q z⟩
        · cases z
      | _ => first | (cases a; done) | exact (show False from a).elim
theorem tup_at (g : Good G T H) {p : Addr} {r : List Int} (h : T p = some (tupI r)) : H p = some (.tup (r.map V.int)) ∧ r.length ≤ sizeLine := by
  obtain ⟨vs, e, q, z⟩ := g p _ h
  rw [reps_nums g q] at e
  exact ⟨e, by simpa using z⟩
theorem cr_setT (hc : X.calm = true) (hu : X.A.units + 64 < cLine) (hk : X.K = G.K := by rfl) (hp : X.prog = G.P := by rfl) (hw : X.w = G.w := by rfl) : CallR X (.type "set") (rB G dSetT) := by
  refine CallR.imp (cr_setOfT hc hu) fun xs H Q h => ?_
  obtain ⟨T, ds, res, g, h, e, k⟩ := h
  unfold dSetT at e
  split at e <;> try (cases e; done)
  split at e <;> try (cases e; done)
  rename_i rs er
  split at e <;> try (cases e; done)
  rename_i h64
  cases e
  obtain ⟨x, rfl, s⟩ := p1 h
  obtain ⟨a, vs, rfl, q, hH, r, z⟩ := s.lst g
  rw [intsTs_eq er] at r
  obtain ⟨ks, e1, e2, e3⟩ := rows_tups g r
  rw [hk, hp, hw]
  refine ⟨a, ks, rfl, by rw [← e1]; exact q, fun p hp => .inl (.inl (tup_at g (e3 p hp)).1), by rw [e2, List.length_map] at h64; exact h64, fun b L hb h1 h2 => ?_⟩
  refine k T _ _ (Step.new g hb _) ⟨b, rfl, hb, g.free hb, ⟨L, upd_same, fun p hp => ⟨?_, e3 p (h1 p hp)⟩, fun r hr => ?_⟩, by rw [upd_same]; exact True.intro⟩
  · rw [e2]; exact List.mem_map_of_mem (h1 p hp)
  · rw [e2] at hr
    obtain ⟨p, hp, rfl⟩ := List.mem_map.mp hr
    exact h2 p hp
theorem code_inj {B : Int} : ∀ (a b : List Int), a.length = b.length → TS.Bd B a → TS.Bd B b → TS.code B a = TS.code B b → a = b
  | [], [], _, _, _, _ => rfl
  | [], _ :: _, h, _, _, _ => by simp at h
  | _ :: _, [], h, _, _, _ => by simp at h
  | x :: xs, y :: ys, h, ha, hb, e => by
    have hl : xs.length = ys.length := by simpa using h
    rcases Int.lt_trichotomy x y with z | z | z
    · have := TS.code_lt hl ha.tail hb.tail z; omega
    · subst z
      have e' : TS.code B xs = TS.code B ys := by
        have e2 : x * B ^ xs.length + TS.code B xs = x * B ^ ys.length + TS.code B ys := e
        rw [← hl] at e2
        omega
      rw [code_inj xs ys hl ha.tail hb.tail e']
    · have := TS.code_lt hl.symm hb.tail ha.tail z; omega
theorem rowsOk_of {d : Nat} {rs : List (List Int)} (h : rowsOk d rs = true) {r : List Int} (hr : r ∈ rs) : r.length = d ∧ TS.Bd 64 r := by
  unfold rowsOk at h
  have := List.all_eq_true.mp h r hr
  simp only [Bool.and_eq_true, beq_iff_eq] at this
  exact ⟨this.1, fun m hm => by simpa using List.all_eq_true.mp this.2 m hm⟩
theorem setD_perm (rs : List (List Int)) : (setD rs).Perm rs.eraseDups := List.mergeSort_perm _ _
theorem mem_setD {rs : List (List Int)} {r : List Int} : r ∈ setD rs ↔ r ∈ rs := by rw [(setD_perm rs).mem_iff, List.mem_eraseDups]
theorem nodup_eraseDups {α : Type} [BEq α] [LawfulBEq α] : ∀ (n : Nat) (l : List α), l.length ≤ n → l.eraseDups.Nodup
  | n, [], _ => by simp
  | 0, x :: l, h => by simp at h
  | n + 1, x :: l, h => by
    rw [List.eraseDups_cons, List.nodup_cons]
    have hl : (l.filter fun b => !b == x).length ≤ n := Nat.le_trans (List.length_filter_le _ _) (by simpa using h)
    refine ⟨fun z => ?_, nodup_eraseDups n _ hl⟩
    rw [List.mem_eraseDups, List.mem_filter] at z
    simp at z
theorem setD_nodup (rs : List (List Int)) : (setD rs).Nodup := (setD_perm rs).nodup_iff.mpr (nodup_eraseDups _ _ (Nat.le_refl _))
theorem setD_sorted (rs : List (List Int)) : (setD rs).Pairwise fun a b => TS.code 64 a ≤ TS.code 64 b := by
  refine List.Pairwise.imp (fun h => of_decide_eq_true h) (List.pairwise_mergeSort (fun a b c h1 h2 => ?_) (fun a b => ?_) _)
  · have h1 := of_decide_eq_true h1
    have h2 := of_decide_eq_true h2
    exact decide_eq_true (Int.le_trans h1 h2)
  · rcases Int.le_total (TS.code 64 a) (TS.code 64 b) with z | z
    · simp [z]
    · simp [z]
theorem perm_of_nodup {α : Type} [DecidableEq α] {l m : List α} (hl : l.Nodup) (hm : m.Nodup) (h : ∀ a, a ∈ l ↔ a ∈ m) : l.Perm m := (List.perm_ext_iff_of_nodup hl hm).mpr h
theorem cr_sortedS (hc : X.calm = true) (hk : X.K = G.K := by rfl) (hp : X.prog = G.P := by rfl) (hw : X.w = G.w := by rfl) : CallR X (.builtin "sorted") (rB G dSortedT) := by
  refine CallR.imp (cr_sortedT hc) fun xs H Q h => ?_
  obtain ⟨T, ds, res, g, h, e, k⟩ := h
  have main : ∀ (d : Nat) (rows : List (List Int)), ds = [.st rows] → 1 ≤ d → rowsOk d rows = true → (∀ T' v H', NStep G T H T' H' → ResN G T' H H' v (R.own (.lst ((setD rows).map tupI))) → Q v H') → rSortedT X.K X.prog X.w xs H Q := by
    intro d rows ed hd ok k
    subst ed
    obtain ⟨x, rfl, s⟩ := p1 h
    have q : ∃ a, x = .ref a ∧ Shape G T H a (.st rows) := by
      rcases s.heap g rfl with h | ⟨a, ns, _, z, _⟩
      · exact h
      · cases z
    obtain ⟨a, rfl, L, eL, m1, m2⟩ := q
    rw [hk, hp, hw]
    refine ⟨a, L, d, 64, rfl, eL, fun p hp => .inl (.inl (tup_at g (m1 p hp).2).1), hd, fun p hp => rowsOk_of ok (m1 p hp).1, fun L' p pm nd h64 pw hn => ?_⟩
    have e1 : L'.map (·.2) = setD rows := by
      refine List.Perm.eq_of_pairwise (le := fun a b => TS.code 64 a ≤ TS.code 64 b) (fun x y hx hy h1 h2 => ?_) (by rw [List.pairwise_map]; exact pw) (setD_sorted rows) (perm_of_nodup nd (setD_nodup rows) fun r => ?_)
      · obtain ⟨p, hp, rfl⟩ := List.mem_map.mp hx
        have o1 := rowsOk_of ok (m1 p (pm.mem_iff.mp hp)).1
        have o2 := rowsOk_of ok (mem_setD.mp hy)
        exact code_inj _ _ (o1.1.trans o2.1.symm) o1.2 o2.2 (Int.le_antisymm h1 h2)
      · rw [mem_setD, (pm.map (·.2)).mem_iff]
        refine ⟨fun z => ?_, m2 r⟩
        obtain ⟨p, hp, rfl⟩ := List.mem_map.mp z
        exact (m1 p hp).1
    have r1 : ∀ L'' : List (Addr × List Int), (∀ p ∈ L'', T p.1 = some (tupI p.2)) → Reps G T (L''.map fun q => V.ref q.1) ((L''.map (·.2)).map tupI) := by
      intro L''
      induction L'' with
      | nil => intro _; exact .nil
      | cons p L'' ih => intro h; exact .cons (.inl (h p (List.mem_cons_self ..))) (ih fun q hq => h q (List.mem_cons_of_mem _ hq))
    have r2 := r1 L' fun p hp => (m1 p (pm.mem_iff.mp hp)).2
    rw [e1] at r2
    refine k T _ _ (Step.new g hn _) ⟨p, rfl, hn, own_new g hn r2 ?_⟩
    rw [← e1, List.length_map, List.length_map, sizeLine_eq]
    omega
  unfold dSortedT at e
  split at e <;> try (cases e; done)
  · cases e
    exact main 1 [] rfl (Nat.le_refl _) rfl (by rw [show setD [] = [] from List.mergeSort_nil]; exact k)
  · rename_i r rs
    split at e <;> try (cases e; done)
    rename_i hh
    cases e
    exact main r.length (r :: rs) rfl hh.1 hh.2 k

/-! ### -x, not on ints -/
def dNeg : D → Option R
  | .int i => ri (-i)
  | _ => none
theorem ok_neg : OkR1 G (rU fun i => .int (-i)) dNeg := by
  intro T H x dx res gd sx e Q k
  unfold dNeg at e
  split at e <;> try (cases e; done)
  cases e
  exact ⟨_, sx.int gd, one gd k rfl⟩
end
end LD

/-! Layer D: dicts whose keys are tuples (of tuples). -/
namespace LD
open PySem PySem.W PySem.Calls PySem.Spec PyProof.Rows L2

section
variable {G : Gm} {T T1 T2 : Ty} {st st1 st2 : DSt} {σ σ1 σ2 : L2.St} {H H1 H2 : Hp} {v : V} {d : D} {r : R} {X : Cx}

/-! ### keys in the heap -/
mutual
theorem nested_of {pins : List (Addr × Obj)} {s : Shared} (I : Inv X pins σ H s) (g : Good G T H) : ∀ (d : D) (v : V) (u : Value) (k : NestedKey), RepT G T v d → RelV v u → nk d = some k → NestedIs s.heap k u
  | .non, v, u, k, h, ru, e => by
    rw [nk] at e; cases e
    rw [(Sees.of_rep (H := H) h).non g] at ru
    cases (show u = Value.none from ru)
    exact .none
  | .bl b, v, u, k, h, ru, e => by
    rw [nk] at e; cases e
    rw [(Sees.of_rep (H := H) h).bl g] at ru
    cases (show u = Value.bool b from ru)
    exact .bool rfl
  | .int i, v, u, k, h, ru, e => by
    rw [nk] at e; cases e
    rw [(Sees.of_rep (H := H) h).int g] at ru
    obtain ⟨t, q⟩ := (show ∃ t, u = Value.int i t from ru)
    rw [q]
    exact .int i t
  | .str x, v, u, k, h, ru, e => by
    rw [nk] at e; cases e
    rw [(Sees.of_rep (H := H) h).str g] at ru
    obtain ⟨t, q⟩ := (show ∃ t, u = Value.str x t from ru)
    rw [q]
    exact .text x t
  | .tup ds, v, u, k, h, ru, e => by
    rw [nk] at e
    split at e
    · rename_i ks eks
      cases e
      cases v with
      | ref a =>
        rcases h with h | ⟨_, z, _⟩
        · obtain ⟨vs, e1, r1, _⟩ := g a _ h
          obtain ⟨_, its, rv, o, h1, h2, n, h3⟩ := (show ObjOk X.prog X.w H s.heap a (.tup vs) from I.hok a _ e1)
          cases (show u = Value.ref a from ru)
          exact .tup h1 h2 h3 (by simpa using nested_all I g ds vs its ks r1 rv eks)
        · cases z
      | _ => first | (cases h; done) | exact (show False from h).elim
    · cases e
  | .lst _, v, u, k, h, ru, e => by rw [nk] at e; all_goals (first | (cases e; done) | (intros; intro z; cases z))
  | .st _, v, u, k, h, ru, e => by rw [nk] at e; all_goals (first | (cases e; done) | (intros; intro z; cases z))
  | .dic _ _, v, u, k, h, ru, e => by rw [nk] at e; all_goals (first | (cases e; done) | (intros; intro z; cases z))
  | .ins _ _, v, u, k, h, ru, e => by rw [nk] at e; all_goals (first | (cases e; done) | (intros; intro z; cases z))
  | .cch _, v, u, k, h, ru, e => by rw [nk] at e; all_goals (first | (cases e; done) | (intros; intro z; cases z))
  | .scr _, v, u, k, h, ru, e => by rw [nk] at e; all_goals (first | (cases e; done) | (intros; intro z; cases z))
theorem nested_all {pins : List (Addr × Obj)} {s : Shared} (I : Inv X pins σ H s) (g : Good G T H) : ∀ (ds : List D) (vs : List V) (us : List Value) (ks : List NestedKey), Reps G T vs ds → Vals vs us → nk.nks ds = some ks → NestedAll s.heap ks us
  | [], _, _, ks, .nil, .nil, e => by
    rw [nk.nks] at e; cases e
    exact .nil
  | d :: ds, _, _, ks, .cons a t, .cons b u, e => by
    rw [nk.nks] at e
    split at e
    · rename_i k ek
      split at e
      · rename_i ks' eks
        cases e
        exact .cons (nested_of I g d _ _ k a b ek) (nested_all I g ds _ _ ks' t u eks)
      · cases e
    · cases e
end
theorem nkey_of {d : D} {k : NestedKey} (h : nkey d = some k) : nk d = some k ∧ k.depth ≤ 8 := by
  unfold nkey at h
  split at h
  · split at h
    · rename_i e
      split at h
      · cases h; exact ⟨e, by assumption⟩
      · cases h
    · cases h
  · cases h
theorem key_is {pins : List (Addr × Obj)} {s : Shared} (I : Inv X pins σ H s) (g : Good G T H) {a : Addr} {k : NestedKey} {P : Program} {w : World} (h : T a = some d) (e : nkey d = some k) : (nestedKind P w).is s.heap k a :=
  ⟨nested_of I g d (.ref a) (.ref a) k (.inl h) rfl (nkey_of e).1, (nkey_of e).2⟩
abbrev DX (x : NestedKey × Addr × V) (y : NestedKey × Addr × Value) : Prop := x.1 = y.1 ∧ x.2.1 = y.2.1 ∧ RelV x.2.2 y.2.2
abbrev DP (G : Gm) (T : Ty) (x : NestedKey × Addr × V) (p : D × D) : Prop := nkey p.1 = some x.1 ∧ T x.2.1 = some p.1 ∧ RepT G T x.2.2 p.2
theorem dictOf {pins : List (Addr × Obj)} {s : Shared} (I : Inv X pins σ H s) (g : Good G T H) {a : Addr} {xs : List (NestedKey × Addr × V)} {ps : List (D × D)} {P : Program} {w : World} (h : DN0 P w s.heap a xs) (q : Paired (DP G T) xs ps) :
    ∃ ys, Paired DX xs ys ∧ s.heap.DictOfH (nestedKind P w) a ys := by
  obtain ⟨h1, h2, ys, p, o, es, ep, e1, e2, e3, e4, e5⟩ := h
  refine ⟨ys, p, o, es, ep, e1, e2, e3, e4, ?_, e5⟩
  clear e1 e2 e3 e4 e5 h2
  induction p generalizing ps with
  | nil => intro x hx; simp at hx
  | @cons x y xs ys hx t ih =>
    cases q with
    | cons hq tq =>
      intro z hz
      rcases List.mem_cons.mp hz with e | e
      · rw [e, ← hx.1, ← hx.2.1]
        exact key_is I g hq.2.1 hq.1
      · exact ih tq z e
/-- a key's place -/
def keyAt (k : NestedKey) : List (D × D) → Option D
  | [] => none
  | p :: ps => if nkey p.1 = some k then some p.2 else keyAt k ps
def putD (k : NestedKey) (d e : D) (ps : List (D × D)) : List (D × D) := if (keyAt k ps).isSome = true then ps.map fun p => if nkey p.1 = some k then (p.1, e) else p else ps ++ [(d, e)]
def atN (k : NestedKey) : List (NestedKey × Addr × V) → Option V
  | [] => none
  | p :: ps => if p.1 = k then some p.2.2 else atN k ps
def putN (k : NestedKey) (a : Addr) (v : V) (xs : List (NestedKey × Addr × V)) : List (NestedKey × Addr × V) := if (atN k xs).isSome = true then xs.map fun x => if x.1 = k then (x.1, x.2.1, v) else x else xs ++ [(k, a, v)]
theorem at_D {k : NestedKey} {xs : List (NestedKey × Addr × V)} {ps : List (D × D)} (q : Paired (DP G T) xs ps) : (atN k xs = none ∧ keyAt k ps = none) ∨ ∃ v d, atN k xs = some v ∧ keyAt k ps = some d ∧ RepT G T v d := by
  induction q with
  | nil => exact .inl ⟨rfl, rfl⟩
  | @cons x p xs ps h t ih =>
    unfold atN keyAt
    rw [h.1]
    by_cases e : x.1 = k
    · rw [if_pos e, if_pos (by rw [e])]
      exact .inr ⟨_, _, rfl, rfl, h.2.2⟩
    · rw [if_neg e, if_neg (fun z => e (Option.some.inj z))]
      exact ih
theorem at_X {k : NestedKey} {xs : List (NestedKey × Addr × V)} {ys : List (NestedKey × Addr × Value)} (q : Paired DX xs ys) : (atN k xs = none ∧ atKey ys k = none) ∨ ∃ v p, atN k xs = some v ∧ atKey ys k = some p ∧ RelV v p.2 := by
  induction q with
  | nil => exact .inl ⟨rfl, rfl⟩
  | @cons x y xs ys h t ih =>
    unfold atN
    unfold atKey at ih ⊢
    rw [List.find?_cons]
    by_cases e : x.1 = k
    · rw [if_pos e]
      have e' : y.1 = k := h.1.symm.trans e
      rw [show decide (y.1 = k) = true from decide_eq_true e']
      exact .inr ⟨_, _, rfl, rfl, h.2.2⟩
    · rw [if_neg e]
      have e' : ¬ y.1 = k := fun z => e (h.1.trans z)
      rw [show decide (y.1 = k) = false from decide_eq_false e']
      exact ih
theorem paired_app {α β : Type} {F : α → β → Prop} {xs xs' : List α} {ys ys' : List β} (h : Paired F xs ys) (h' : Paired F xs' ys') : Paired F (xs ++ xs') (ys ++ ys') := by
  induction h with
  | nil => exact h'
  | cons a t ih => exact .cons a ih
theorem put_D {k : NestedKey} {a : Addr} {v : V} {d e : D} {xs : List (NestedKey × Addr × V)} {ps : List (D × D)} (q : Paired (DP G T) xs ps) (hk : nkey d = some k) (ha : T a = some d) (rv : RepT G T v e) : Paired (DP G T) (putN k a v xs) (putD k d e ps) := by
  unfold putN putD
  rcases at_D (k := k) q with ⟨h1, h2⟩ | ⟨v', d', h1, h2, _⟩
  · rw [h1, h2]
    exact paired_app q (.cons ⟨hk, ha, rv⟩ .nil)
  · rw [h1, h2]
    simp only [Option.isSome_some, if_true]
    clear h1 h2
    induction q with
    | nil => exact .nil
    | @cons x p xs ps h t ih =>
      refine .cons ?_ ih
      dsimp only
      by_cases z : x.1 = k
      · rw [if_pos z, if_pos (by rw [h.1, z])]
        exact ⟨h.1, h.2.1, rv⟩
      · rw [if_neg z, if_neg (by rw [h.1]; exact fun y => z (Option.some.inj y))]
        exact h
theorem put_X {k : NestedKey} {a : Addr} {v : V} {u : Value} {xs : List (NestedKey × Addr × V)} {ys : List (NestedKey × Addr × Value)} (q : Paired DX xs ys) (rv : RelV v u) : Paired DX (putN k a v xs) (storedH ys k a u) := by
  unfold putN storedH
  rcases at_X (k := k) q with ⟨h1, h2⟩ | ⟨v', d', h1, h2, _⟩
  · rw [h1, h2]
    exact paired_app q (.cons ⟨rfl, rfl, rv⟩ .nil)
  · rw [h1, h2]
    simp only [Option.isSome_some, if_true]
    clear h1 h2
    induction q with
    | nil => exact .nil
    | @cons x p xs ps h t ih =>
      refine .cons ?_ ih
      unfold putAt
      dsimp only
      by_cases z : x.1 = k
      · rw [if_pos z, if_pos (h.1.symm.trans z)]
        exact ⟨h.1, h.2.1, rv⟩
      · rw [if_neg z, if_neg (fun y => z (h.1.trans y))]
        exact h
theorem putN_len {k : NestedKey} {a : Addr} {v : V} (xs : List (NestedKey × Addr × V)) : (putN k a v xs).length ≤ xs.length + 1 := by
  unfold putN
  split
  · rw [List.length_map]; omega
  · rw [List.length_append]; simp
theorem DN.obj {P : Program} {w : World} {h : Heap} {a : Addr} {xs : List (NestedKey × Addr × V)} (d : DN0 P w h a xs) : ObjOk P w H h a (DN P w a xs) := by
  have d' := d
  obtain ⟨_, _, ys, p, o, es, ep, e1, _⟩ := d'
  refine ⟨d, ⟨o, e1⟩, fun h1 h2 x k => ?_⟩
  obtain ⟨z1, z2, ys, p, o, es, ep, e1, e2⟩ := x
  exact ⟨z1, z2, ys, p, o, es, ep, k o e1, e2⟩
theorem DN.of {P : Program} {w : World} {h : Heap} {a : Addr} {xs : List (NestedKey × Addr × V)} {ys : List (NestedKey × Addr × Value)} (hs : (a == sysModules) = false) (hz : xs.length ≤ sizeLine) (p : Paired DX xs ys) (q : h.DictOfH (nestedKind P w) a ys) : DN0 P w h a xs := by
  obtain ⟨o, es, ep, e1, e2, e3, e4, _, e5⟩ := q
  exact ⟨hs, hz, ys, p, o, es, ep, e1, e2, e3, e4, e5⟩

/-! ### {} -/
def tDNewN (P : Program) (w : World) : TE := fun _ H Q => ∀ p, H p = none → Q (.ref p) (upd H p (DN P w p []))
theorem pe_dnewN {pos : Pos} : PE X (.Dict [] [] pos) (tDNewN X.prog X.w) := ⟨fun pins s σ H Q I h =>
  wpAny_Dict_empty ⟨.ref s.heap.objs.size, _, I.laid (a := s.heap.objs.size) (o := DN X.prog X.w s.heap.objs.size []) (t' := s.toks) (fun _ _ q => Heap.get?_push_of_some _ q) (Nat.le_refl _)
    (DN.obj ⟨beq_eq_false_iff_ne.mpr (Ne.symm (Nat.ne_of_lt I.big)), Nat.zero_le _, [], .nil, _, #[], 0, Heap.get?_push_size _ rfl, ⟨rfl, rfl, rfl⟩, rfl, rfl, List.nodup_nil⟩), rfl, h _ (I.hok.fresh (Nat.le_refl _))⟩⟩
def mDNew : M := fun st => some (.own (.dic true []), st)
theorem ok_dnew : OkE G (tDNewN G.P G.w) mDNew := by
  intro T st σ H r st' rl e Q k
  cases e
  intro p hp
  exact k T (.ref p) _ (rl.ekeep (Step.new rl.good hp _)) ⟨p, rfl, hp, rl.good.free hp, ⟨[], .inl upd_same, .nil⟩, by rw [upd_same]; exact True.intro⟩

/-! ### d[k] = e -/
def rSetN (G : Gm) : V → V → V → Hp → (Hp → Prop) → Prop := fun o i v H Q => ∃ T p a xs ps dk k, Good G T H ∧ o = .ref p ∧ i = .ref a ∧ H p = some (DN G.P G.w p xs) ∧ Paired (DP G T) xs ps ∧ T a = some dk ∧ nkey dk = some k ∧ xs.length < sizeLine ∧ Q (upd H p (DN G.P G.w p (putN k a v xs)))
theorem set_dictN (hu : X.A.units + 64 < cLine) (hp : X.prog = G.P := by rfl) (hw : X.w = G.w := by rfl) : PSet X (rSetN G) := by
  intro pins s σ H o i v ov iv u Q I ro ri rv h
  obtain ⟨T, p, a, xs, ps, dk, k, g, rfl, rfl, hH, hq, ha, hk, hz, q⟩ := h
  rw [← hp, ← hw] at hH q
  cases ro
  cases ri
  have d0 : DN0 X.prog X.w s.heap p xs := (I.hok p _ hH).1
  obtain ⟨ys, hx, hd⟩ := dictOf I g d0 hq
  have hl : xs.length = ys.length := hx.length
  refine wpAny_setItem_heap (knd := nestedKind X.prog X.w) (show X.A.units + 1 + 8 < cLine by omega) (key_is I g ha hk) hd (fun h' hd' hs => ?_) (by omega)
  refine ⟨upd H p (DN X.prog X.w p (putN k a v xs)), ?_, q⟩
  have hthere : ∃ u, h'.get? p = some u := by
    obtain ⟨o, _, _, e, _⟩ := hd'
    exact ⟨o, e⟩
  refine I.write (x := p) (e := p) (t' := _) (by rw [hH]; trivial) (.inl rfl) (fun b u hb q => (hs.2 b hb).trans q) hthere ?_
  refine DN.obj (DN.of d0.1 ?_ (put_X hx rv) hd')
  have := putN_len (k := k) (a := a) (v := v) xs
  omega
def isDic (st : DSt) (i : Nat) : Bool := match st[i]? with
  | some (some (.rt _ (.dic true _))) => true
  | _ => false
def gKey (i : Nat) (m : M) : MG := fun d st => if isDic st i = true then match m st with
  | some (.imm dk, s1) => match s1[i]? with
    | some (some (.rt k (.dic true ps))) => match nkey dk with
      | some key => if ps.length < sizeLine then some (s1.set i (some (.rt k (.dic true (putD key dk d ps))))) else none
      | none => none
    | _ => none
  | _ => none
  else none
theorem isDic_of {i : Nat} (rl : Rel G T st σ H) (h : isDic st i = true) : ∃ a, σ[i]? = some (some (.ref a)) := by
  unfold isDic at h
  split at h
  · rename_i k ds e
    obtain ⟨a, h1, o⟩ := rl.rts i k _ e
    exact ⟨a, h1⟩
  · cases h
theorem mut_rd {a : Addr} {u : HO} (m : Mut (H a)) (h : Rd H a u) : H a = some u := by
  rcases h with h | ⟨o, h⟩
  · exact h
  · rw [h] at m; exact m.elim
theorem ref_of {v : V} {ds : List D} (h : RepT G T v (.tup ds)) : ∃ a, v = .ref a ∧ T a = some (.tup ds) := by
  cases v with
  | ref a =>
    rcases h with h | ⟨_, z, _⟩
    · exact ⟨a, rfl, h⟩
    · cases z
  | _ => first | (cases h; done) | exact (show False from h).elim
theorem nkey_tup {k : NestedKey} (h : nkey d = some k) : ∃ ds, d = .tup ds := by
  unfold nkey at h
  split at h
  · exact ⟨_, rfl⟩
  · cases h
theorem ok_gKey {i : Nat} {t : TE} {m : M} {r' : V → V → V → Hp → (Hp → Prop) → Prop} (hm : OkE G t m) (im : ∀ o i v H Q, rSetN G o i v H Q → r' o i v H Q) : OkG G (gSub (tVar i) t r') (gKey i m) := by
  intro T st σ H v d st' rl rv0 e Q k
  unfold gKey at e
  split at e
  · rename_i hl
    obtain ⟨a, ha⟩ := isDic_of rl hl
    split at e
    · rename_i dk s1 e1
      split at e
      · rename_i kk ps e3
        split at e
        · rename_i key ek
          split at e
          · rename_i hz
            cases e
            refine ⟨.ref a, ha, ?_⟩
            refine hm T st σ H _ s1 rl e1 _ fun T1 v1 H1 E1 R1 => ?_
            obtain ⟨b, hb, o⟩ := E1.rel.rts i kk _ e3
            rw [ha] at hb; cases hb
            obtain ⟨xs, rx, px⟩ := o.sh
            have ex := mut_rd o.mu rx
            obtain ⟨ds, rfl⟩ := nkey_tup ek
            obtain ⟨c, rfl, hc⟩ := ref_of (show RepT G T1 v1 _ from R1)
            have hlen : xs.length = ps.length := px.length
            refine im _ _ _ _ _ ⟨T1, a, c, xs, ps, _, key, E1.rel.good, rfl, rfl, ex, px, hc, ek, by omega, ?_⟩
            have W := rel_write E1.rel e3 ha o (o := DN G.P G.w a (putN key c v xs)) (d' := .dic true (putD key (.tup ds) d ps)) ⟨_, .inl upd_same, put_D px ek hc (rv0.mono E1.step.sub)⟩ trivial
            exact k T1 σ _ (E1.trans W).s
          · cases e
        · cases e
      · cases e
    · cases e
  · cases e
/-- a target xs[j], d[k] by what the name holds -/
def gItem (i : Nat) (m : M) : MG := fun d st => if isL st i = true then gIx i m d st else gKey i m d st
def rSetA (G : Gm) : V → V → V → Hp → (Hp → Prop) → Prop := fun o i v H Q => rSetL o i v H Q ∨ rSetN G o i v H Q
theorem set_any (hu : X.A.units + 64 < cLine) (hp : X.prog = G.P := by rfl) (hw : X.w = G.w := by rfl) : PSet X (rSetA G) := by
  intro pins s σ H o i v ov iv u Q I ro ri rv h
  rcases h with h | h
  · exact set_list pins s σ H o i v ov iv u Q I ro ri rv h
  · exact set_dictN hu hp hw pins s σ H o i v ov iv u Q I ro ri rv h
theorem ok_gItem {i : Nat} {t : TE} {m : M} (hm : OkE G t m) : OkG G (gSub (tVar i) t (rSetA G)) (gItem i m) := by
  intro T st σ H v d st' rl rv0 e Q k
  unfold gItem at e
  split at e
  · exact ok_gIx' hm (fun _ _ _ _ _ z => .inl z) T st σ H v d st' rl rv0 e Q k
  · exact ok_gKey hm (fun _ _ _ _ _ z => .inr z) T st σ H v d st' rl rv0 e Q k

/-! ### list(d), len(d), k in d, d[k] -/
theorem CallR.or {f : Value} {r r' : List V → Hp → VK → Prop} (h : CallR X f r) (h' : CallR X f r') : CallR X f (fun xs H Q => r xs H Q ∨ r' xs H Q) := fun pins s σ H xs us Q I rv q => q.elim (h pins s σ H xs us Q I rv) (h' pins s σ H xs us Q I rv)
theorem cr_or {f : Value} {a b c : List D → Option R} (h : CallR X f (rB G a)) (h' : CallR X f (rB G b)) (hc : ∀ ds r, c ds = some r → a ds = some r ∨ b ds = some r) : CallR X f (rB G c) :=
  CallR.imp (CallR.or h h') fun xs H Q ⟨T, ds, res, g, hp, e, k⟩ => (hc ds res e).elim (fun z => .inl ⟨T, ds, res, g, hp, z, k⟩) fun z => .inr ⟨T, ds, res, g, hp, z, k⟩
def dListN : List D → Option R
  | [.dic true ps] => if ps.length ≤ sizeLine then some (.own (.lst (ps.map (·.1)))) else none
  | _ => none
theorem keys_reps {xs : List (NestedKey × Addr × V)} {ps : List (D × D)} (q : Paired (DP G T) xs ps) : Reps G T (xs.map fun x => V.ref x.2.1) (ps.map (·.1)) := by
  induction q with
  | nil => exact .nil
  | cons a t ih => exact .cons (.inl a.2.1) ih
theorem keys_vals {xs : List (NestedKey × Addr × V)} {ys : List (NestedKey × Addr × Value)} (q : Paired DX xs ys) {us : List Value} (h : us = ys.map fun y => Value.ref y.2.1) : Vals (xs.map fun x => V.ref x.2.1) us := by
  subst h
  induction q with
  | nil => exact .nil
  | cons a t ih => exact .cons (by dsimp only; rw [a.2.1]; rfl) ih
theorem dic_at (g : Good G T H) {x : V} {ps : List (D × D)} (s : Sees G T H x (.dic true ps)) : ∃ a xs, x = .ref a ∧ Rd H a (DN G.P G.w a xs) ∧ Paired (DP G T) xs ps := by
  rcases s.heap g rfl with ⟨a, e, xs, h, q⟩ | ⟨a, ns, _, z, _⟩
  · exact ⟨a, xs, e, h, q⟩
  · cases z
theorem cr_listN (hc : X.A.handled = none) (hp : X.prog = G.P := by rfl) (hw : X.w = G.w := by rfl) : CallR X (.type "list") (rB G dListN) := by
  intro pins s σ H xs us Q I rv h
  obtain ⟨T, ds, res, g, h, e, k⟩ := h
  unfold dListN at e
  split at e <;> try (cases e; done)
  rename_i ps
  split at e <;> try (cases e; done)
  rename_i hz
  cases e
  obtain ⟨x, rfl, sx⟩ := p1 h
  obtain ⟨a, xs, rfl, hr, q⟩ := dic_at g sx
  rw [Vals.ref1 rv]
  have d0 : DN0 G.P G.w s.heap a xs := (hr.ok I.hok).1
  obtain ⟨hs, hz', ys, px, o, es, ep, e1, e2, e3, e4, e5⟩ := d0
  have hlen : es.size = ys.length := size_of_entries e4
  have hl : xs.length = ys.length := px.length
  refine kdl_call (KdlSrc.rawDict (es := es) (ep := ep) hs) hc ⟨o, e1, e2, e3⟩ (by omega) fun h' tk acc' c' hk hD hacc => ?_
  have hn : H s.heap.objs.size = none := I.hok.fresh (Nat.le_refl _)
  have eacc : acc'.toList = ys.map fun y => Value.ref y.2.1 := by
    refine List.ext_getElem? fun j => ?_
    rw [Array.getElem?_toList]
    by_cases hj : j < acc'.size
    · have hj' : j < es.size := by rw [← hacc.1]; exact hj
      have hje : acc'[j]? = some acc'[j] := Array.getElem?_eq_getElem hj
      obtain ⟨_, ev⟩ := hacc.2 j _ hje
      have he := entry_at e4 j
      rw [Array.getElem?_eq_getElem hj'] at he
      rw [hje, ev, List.getElem?_map]
      cases hy : ys[j]? with
      | none => rw [hy] at he; cases he
      | some y =>
        rw [hy] at he
        have he' := Option.some.inj he
        rw [he']
        rfl
    · rw [Array.getElem?_eq_none (by omega), List.getElem?_eq_none (by rw [List.length_map]; have := hacc.1; omega)]
  have hlist : h'.get? s.heap.objs.size = some { cls := .type "list", data := .seq acc'.toList.toArray c' } := by
    rw [Array.toArray_toList]; exact hD
  refine ⟨.ref s.heap.objs.size, upd H s.heap.objs.size (.lst (xs.map fun x => V.ref x.2.1)), I.laid (t' := tk) hk (Nat.le_refl _) (show ObjOk X.prog X.w _ _ _ (.lst _) from ⟨by rw [List.length_map]; exact hz', acc'.toList, c', keys_vals px eacc, hlist⟩), rfl, ?_⟩
  exact k T _ _ (Step.new g hn _) ⟨_, rfl, hn, own_new g hn (keys_reps q) (by rw [List.length_map]; exact hz)⟩
/-- list(x): a list, a tuple, a dict -/
def dListA (ds : List D) : Option R := match dList ds with
  | some r => some r
  | none => dListN ds
theorem cr_listA (hc : X.A.handled = none) (hk : X.K = G.K := by rfl) (hp : X.prog = G.P := by rfl) (hw : X.w = G.w := by rfl) : CallR X (.type "list") (rB G dListA) :=
  cr_or (cr_list hk) (cr_listN hc hp hw) fun ds r h => by
    unfold dListA at h
    split at h
    · rename_i e; cases h; exact .inl e
    · exact .inr h
def dSortedA (ds : List D) : Option R := match dSorted ds with
  | some r => some r
  | none => dSortedT ds
theorem cr_sortedA (hc : X.calm = true) (hu : X.A.units + 66 < cLine) (hk : X.K = G.K := by rfl) (hp : X.prog = G.P := by rfl) (hw : X.w = G.w := by rfl) : CallR X (.builtin "sorted") (rB G dSortedA) :=
  cr_or (cr_sorted hu hk) (cr_sortedS hc hk hp hw) fun ds r h => by
    unfold dSortedA at h
    split at h
    · rename_i e; cases h; exact .inl e
    · exact .inr h
end
end LD

/-! Layer D: instances: made, read, their fields stored. -/
namespace LD
open PySem PySem.Spec PyProof.Rows L2

section
variable {G : Gm} {T T1 T2 : Ty} {st st1 st2 : DSt} {σ σ1 σ2 : L2.St} {H H1 H2 : Hp} {v : V} {d : D} {r : R} {X : Cx}

/-! ### o.f = .. as a target -/
def gFl (K : PySem.W.Frag) (ta : TE) (f : Str) : TG := fun v σ H Q => ta σ H fun x H1 => ∃ a C dx fs, x = .ref a ∧ H1 a = some (.ins C dx fs) ∧ Cls K C ∧ NoAttr K C f ∧ fs.length < 1000 ∧ Q σ (upd H1 a (.ins C dx (putF f v fs)))
theorem pg_fl {o : Expr} {f : Str} {pos : Pos} {ta : TE} (ho : PE X o ta)
    (ha : ∀ v, assign (.Attribute o f pos) X.env v = (do
      let ov ← holding [v] (eval o X.env)
      standAt pos.atName
      holding [v, ov] (setAttr ov f v)
      release [v, ov] []) := by intro _; rfl) : PG X (.Attribute o f pos) (gFl X.K ta f) := by
  refine ⟨fun pins s σ H v u Q I r h => ?_⟩
  rw [ha]
  refine wpAny_bind (wpAny_holding (thn (ho.run pins s σ H _ I h) fun ov s1 ⟨x, H1, I1, rx, a, C, dx, fs, ex, ea, c, n, l, q⟩ => ?_))
  subst ex
  obtain rfl : ov = Value.ref a := rx
  refine wpAny_bind (wpAny_standAt (wpAny_bind (wpAny_holding (setattr_ok I1 ea c n l r fun s3 I3 => ?_))))
  exact wpAny_release ⟨σ, _, I3, q⟩
/-- what a class's field by place needs -/
structure FldOk (G : Gm) (k j : Nat) (f : Str) : Prop where
  cl : Cls G.K (G.C k)
  na : NoAttr G.K (G.C k) f
  get : ∀ (vs : List V) v, vs[j]? = some v → ((G.fl k).zip vs).lookup f = some v
  put : ∀ (vs : List V) v, vs.length = j → putF f v ((G.fl k).zip vs) = (G.fl k).zip (vs ++ [v])
  few : j < (G.fl k).length ∧ (G.fl k).length ≤ 100
/-- slot i's instance gets its next field -/
def gFld (i k j : Nat) : MG := fun d st => match st[i]? with
  | some (some (.rt kk (.ins k' fs))) => if k' = k ∧ fs.length = j then some (st.set i (some (.rt kk (.ins k (fs ++ [d]))))) else none
  | _ => none
theorem ok_gFld {i k j : Nat} {f : Str} (F : FldOk G k j f) : OkG G (gFl G.K (tVar i) f) (gFld i k j) := by
  intro T st σ H v d st' rl rv0 e Q kq
  unfold gFld at e
  split at e
  · rename_i kk k' fs e3
    split at e
    · rename_i hh
      obtain ⟨rfl, hj⟩ := hh
      cases e
      obtain ⟨a, ha, o⟩ := rl.rts i kk _ e3
      obtain ⟨dx, vs, hv, hl, rv⟩ := o.sh
      have lv := rv.length
      refine ⟨.ref a, ha, a, G.C k', dx, _, rfl, hv, F.cl, F.na, ?_, ?_⟩
      · have := F.few.2
        rw [List.length_zip]; omega
      · rw [F.put vs v (by omega)]
        have W := rel_write rl e3 ha o (o := .ins (G.C k') dx ((G.fl k').zip (vs ++ [v]))) (d' := .ins k' (fs ++ [d])) ⟨dx, vs ++ [v], upd_same, by
          have := F.few.1
          rw [List.length_append]; show vs.length + 1 ≤ _; omega, reps_app rv (.cons rv0 .nil)⟩ trivial
        exact kq T σ _ W.s
    · cases e
  · cases e

/-! ### o.f, read -/
def mFld (k j : Nat) (a : M) : M := fun st => match a st with
  | none => none
  | some (r, s) => match cont s r with
    | some (.ins k' fs) => if k' = k then match fs[j]? with
      | some d => some (.imm d, s)
      | none => none
      else none
    | _ => none
theorem ok_fld {k j : Nat} {f : Str} {te : TE} {a : M} (F : FldOk G k j f) (ha : OkE G te a) : OkE G (tFld G.K te f) (mFld k j a) := by
  intro T st σ H r st' rl e Q kq
  unfold mFld at e
  split at e
  · cases e
  · rename_i r1 s1 e1
    split at e
    · rename_i k' fs hc
      split at e
      · rename_i hk
        subst hk
        split at e
        · rename_i d hd
          cases e
          refine ha T st σ H r1 _ rl e1 _ fun T1 v1 H1 E1 R1 => ?_
          have sv := sees_of E1.rel R1 hc
          have q : ∃ a, v1 = .ref a ∧ Shape G T1 H1 a (.ins k' fs) := by
            rcases sv.heap E1.rel.good rfl with h | ⟨a, ns, _, z, _⟩
            · exact h
            · cases z
          obtain ⟨a, rfl, dx, vs, hv, hl, rv⟩ := q
          obtain ⟨w, h1, h2⟩ := reps_ix rv hd
          exact ⟨a, G.C k', dx, _, w, rfl, hv, F.cl, F.na, F.get vs w h1, kq T1 w H1 E1 h2⟩
        · cases e
      · cases e
    · cases e

/-! ### the dict that a web keeps -/
def mCch : M := fun st => some (.imm (.cch []), st)
theorem ok_cch : OkE G tDNewK mCch := by
  intro T st σ H r st' rl e Q k
  cases e
  intro p hp
  exact k _ (.ref p) _ (rl.ekeep (Step.lay rl.good hp _ (d := .cch []) (.inl upd_same))) (.inl tset_same)

/-! ### C(..) -/
def mMake (k : Nat) (f : FM) (a : MCa) : M := fun st => match a st with
  | none => none
  | some (rs, s) => match svsD s rs with
    | none => none
    | some svs => if slotsD rs = [] then match f (.rt false (.ins k []) :: svs) with
      | some (.imm .non, .rt _ (.ins k' fs) :: _) => if k' = k then some (.own (.ins k fs), s) else none
      | _ => none
      else none
theorem svs_imm {s : DSt} : ∀ {rs : List R} {svs : List SV}, svsD s rs = some svs → slotsD rs = [] → ∀ (i : Nat) k d, svs[i]? ≠ some (.rt k d)
  | [], svs, h, _, i, k, d => by cases h; simp
  | .imm x :: rs, svs, h, h', i, k, d => by
    unfold svsD at h
    split at h
    · rename_i s' e
      cases h
      cases i with
      | zero => simp
      | succ i => simpa using svs_imm e h' i k d
    · cases h
  | .slot j :: rs, svs, h, h', i, k, d => by simp [slotsD] at h'
  | .own _ :: _, svs, h, h', i, k, d => by simp [svsD] at h
theorem ok_make {k np n : Nat} {f : FM} {ta : TA} {a : MCa} {E : XK} (ha : OkCa G n ta a) (hnp : np = n + 1) : OkE G (tMake (G.C k) (spD G np f) [] E ta) (mMake k f a) := by
  intro T st σ H r st' rl e Q kq
  unfold mMake at e
  split at e
  · cases e
  · rename_i rs s e1
    split at e
    · cases e
    · rename_i svs e2
      split at e
      · rename_i hs
        split at e
        · rename_i kk k' fs os e3
          split at e
          · rename_i hk
            subst hk
            cases e
            refine ha T st σ H rs _ rl e1 _ fun T1 vs H1 E1 R1 hl => ?_
            intro x dx hx hdx hne
            have lvs := R1.length
            have lsv := svsD_len e2
            have S0 : NStep G T1 H1 T1 (upd H1 dx (.own x)) := Step.new E1.rel.good hdx _
            have hx' : (upd H1 dx (.own x)) x = none := by rw [upd_ne (Ne.symm hne)]; exact hx
            have S1 : NStep G T1 (upd H1 dx (.own x)) T1 (upd (upd H1 dx (.own x)) x (.ins (G.C k') dx [])) := Step.new S0.good hx' _
            have S : NStep G T1 H1 T1 (upd (upd H1 dx (.own x)) x (.ins (G.C k') dx [])) := S0.trans S1 fun _ z => .inl z
            have sh : Shape G T1 (upd (upd H1 dx (.own x)) x (.ins (G.C k') dx [])) x (.ins k' []) := ⟨dx, [], by rw [upd_same, List.zip_nil_right], Nat.zero_le _, .nil⟩
            have tx : T1 x = none := E1.rel.good.free hx
            have ow : Own G T1 (upd (upd H1 dx (.own x)) x (.ins (G.C k') dx [])) x (.ins k' []) := ⟨tx, sh, by rw [upd_same]; exact True.intro⟩
            have nosv := svs_imm e2 hs
            have args : Paired (ArgOk G T1 (upd (upd H1 dx (.own x)) x (.ins (G.C k') dx []))) vs svs := by
              refine paired_of (by rw [lvs, lsv]) fun i y sv h1 h2 => ?_
              rcases svsD_at e2 i sv h2 with ⟨d, rfl, h3⟩ | ⟨j, kk, d, rfl, h3, h4⟩
              · obtain ⟨w, h5, h6⟩ := pget R1 h3
                rw [h1] at h5; cases h5
                exact h6
              · exact (nosv i false d h2).elim
            rw [List.append_nil]
            refine ⟨T1, .rt false (.ins k' []) :: svs, _, _, S.good, ⟨.cons ⟨rfl, x, rfl, ow⟩ args, fun i j k1 k2 d d' b h h' q q' => ?_⟩, by rw [List.length_cons, lsv, hl, hnp], e3, fun T' H' v Sc RF OO => ?_⟩
            · cases i with
              | zero => cases j with
                | zero => rfl
                | succ j => exact (nosv j k2 d' (by simpa using h')).elim
              | succ i => exact (nosv i k1 d (by simpa using h)).elim
            · have rr : ∀ b, RtArg (V.ref x :: vs) (SV.rt false (.ins k' []) :: svs) b → b = x := fun b ⟨i, k1, d, h1, h2⟩ => by
                cases i with
                | zero => simp at h2; exact h2.symm
                | succ i => exact (nosv i k1 d (by simpa using h1)).elim
              refine ⟨(Sees.of_rep (H := H') (show RepT G T' v .non from RF)).non Sc.good, ?_⟩
              obtain ⟨b, hb, o⟩ := OO.at_ 0 _ _ rfl
              have hb : V.ref x = V.ref b := by simpa using hb
              cases hb
              have Sx : Step G T1 H1 T' H' (fun b => b = x) := (S.mono (R' := fun b => b = x) fun _ z => z.elim).trans Sc fun b z => .inl (rr b z)
              have rl2 : Rel G T' st' σ H' := ⟨Sx.good, E1.rel.len, fun j d h => by
                obtain ⟨w, h3, h4⟩ := E1.rel.imm j d h
                exact ⟨w, h3, h4.mono Sx.sub⟩, fun j k1 d h => by
                obtain ⟨c, h3, o'⟩ := E1.rel.rts j k1 d h
                exact ⟨c, h3, o'.step Sx fun z => o'.sh.some (z ▸ hx)⟩, E1.rel.inj⟩
              have hx0 : H x = none := none_of E1.step.dom hx
              have EE : EStep G T st σ H T' st' H' := ⟨rl2, E1.step.trans Sx fun b z => .inr (by rw [show b = x from z]; exact hx0), E1.kind, E1.some⟩
              exact kq T' (.ref x) H' EE ⟨x, rfl, hx0, o⟩
          · cases e
        · cases e
      · cases e
end
end LD

/-! Layer D: a tuple times a number. -/
namespace LD
open PySem PySem.Spec PyProof.Rows L2

/-- t * 1 is t -/
theorem tuple_mul1 (l : Addr) (items : Array Value) (n : Nat) (dd : Option Addr) (sl : Array (Option Value)) (u : Tok) :
    Meets (Builtin.«tuple.__mul__» ⟨[.ref l, .int 1 u], []⟩) (fun _ R s => s.heap.get? l = some { cls := .type "tuple", dict := dd, data := .seq items n, slots := sl } ∧ R (.ok (.ret (Value.ref l))) s) :=
  .of_wp fun prog w A R s h => by
    obtain ⟨hp, g, d, tk, os⟩ := s
    obtain ⟨hl, h⟩ := h
    have f1 := AutoSeq1.idx_int
    wp_walk using wpAny_loadPart' hl
    exact ⟨_, rfl, h⟩
def rRep1 (K : PySem.W.Frag) : R2 := fun x y H Q => ∃ l xs, x = .ref l ∧ y = .int 1 ∧ SqT K H l xs ∧ Q (.ref l) H
section
variable {X : Cx} {G : Gm}
theorem op_rep1 : OpR X (binaryOp .Mult) (rRep1 X.K) := by
  intro pins s σ H x y v u Q I rx ry h
  obtain ⟨l, xs, rfl, rfl, hT, q⟩ := h
  cases rx
  obtain ⟨t, rfl⟩ := ry
  obtain ⟨its, r, ⟨⟨cls, dd, data, sl⟩, ho, hc, n, hd⟩, hs⟩ := I.tuple hT
  simp only at hc hd
  subst hc hd
  refine wpAny_binaryOp_repeat_ref (T := "tuple") (U := "int") (by decide) ⟨_, ho, rfl⟩ (fun s' => typeIs_int s' 1 t) noFill_tuple_mul F.fills_int_mul F.slot_int_rmul repeat_tuple F.slot_int_index.lookup
    (call_meets F.slot_int_rmul (typeIs_int s 1 t) F.entry_int_rmul (F.args_int_rmul_2 _ _) (int_rmul_tuple 1 t l its.toArray n dd sl)
      ⟨ho, rfl, ⟨_, ho, rfl⟩, call_meets F.slot_tuple_mul ⟨_, ho, rfl⟩ F.entry_tuple_mul (F.args_tuple_mul_2 _ _) (tuple_mul1 l its.toArray n dd sl t) ⟨ho, ?_⟩⟩)
  exact ⟨.ref l, H, I, rfl, q⟩
/-- *: ints, a tuple and a number -/
def dMulA (x y : D) : Option R := match x, y with
  | .int i, .int j => if CMul i j then ri (i * j) else none
  | .tup xs, .int k => if k = 1 then some (.imm (.tup xs)) else if xs ≠ [] ∧ 2 ≤ k ∧ k ≤ 1000 ∧ xs.length ≤ 1000 then some (.imm (.tup (List.replicate k.toNat xs).flatten)) else none
  | _, _ => none
theorem reps_rep {T : Ty} {vs : List V} {ds : List D} (h : Reps G T vs ds) : ∀ n : Nat, Reps G T (List.replicate n vs).flatten (List.replicate n ds).flatten
  | 0 => .nil
  | n + 1 => by
    rw [List.replicate_succ, List.replicate_succ, List.flatten_cons, List.flatten_cons]
    exact reps_app h (reps_rep h n)
theorem op_mulD (hk : X.K = G.K := by rfl) : OpR X (binaryOp .Mult) (r2 G dMulA) := by
  refine LD.OpR.imp (OpR.or op_mul (OpR.or op_rep1 op_repT)) fun x y H Q h => ?_
  obtain ⟨T, dx, dy, res, g, sx, sy, e, k⟩ := h
  rw [hk]
  unfold dMulA at e
  split at e <;> try (cases e; done)
  · split at e
    · rename_i i j hc
      cases e
      exact .inl ⟨i, j, sx.int g, sy.int g, hc, one g k rfl⟩
    · cases e
  · rename_i xs kk
    obtain ⟨a, vs, rfl, q, _, r, z⟩ := sx.tup g
    split at e
    · rename_i h1
      cases e
      refine .inr (.inl ⟨a, vs, rfl, by rw [sy.int g, h1], q, one g k sx.tupT⟩)
    · split at e
      · rename_i h1 h2
        cases e
        have lv := r.length
        have hne : vs ≠ [] := fun z => h2.1 (by
          rw [z] at lv
          exact List.eq_nil_of_length_eq_zero lv.symm)
        refine .inr (.inr ⟨a, kk, vs, rfl, sy.int g, q, hne, h2.2.1, h2.2.2.1, by omega, fun p hp => ?_⟩)
        refine k _ (.ref p) _ (Step.lay g hp _ (d := .tup _) ⟨_, upd_same, (reps_rep r _).mono (Sub.tset (g.free hp)), ?_⟩) (.inl tset_same)
        rw [PyProof.Rows.lm_len_rep_flat, sizeLine_eq]
        have a1 : kk.toNat * xs.length ≤ 1000 * 1000 := Nat.mul_le_mul (by omega) (by omega)
        omega
      · cases e
end
end LD

/-! Layer D: comparisons, ints told apart from the rest. -/
namespace LD
open PySem PySem.Spec PyProof.Rows L2
def two (f : Int → Int → Bool) (g : D → D → Option R) (x y : D) : Option R := match x, y with
  | .int i, .int j => rb (f i j)
  | x, y => g x y
theorem two_of {f : Int → Int → Bool} {g : D → D → Option R} {x y : D} {r : R} (h : two f g x y = some r) : dIn2 (fun i j => rb (f i j)) x y = some r ∨ g x y = some r := by
  unfold two at h
  split at h
  · exact .inl h
  · exact .inr h
def dLtA : D → D → Option R := two (fun i j => decide (i < j)) dLtD
def dLeA : D → D → Option R := two (fun i j => decide (i ≤ j)) dLeD
def dGtA : D → D → Option R := two (fun i j => decide (j < i)) dGtD
def dGeA : D → D → Option R := two (fun i j => decide (j ≤ i)) dGeD
def dEqA : D → D → Option R := two (fun i j => decide (i = j)) dEq
def dNeA : D → D → Option R := two (fun i j => !decide (i = j)) dNe
section
variable {X : Cx} {G : Gm}
theorem op_two {f : Value → Value → Sem Value} {g : Int → Int → Bool} {h : D → D → Option R} {r' : R2} (a : OpR X f (rI0 fun i j => .bl (g i j))) (b : OpR X f r') (ob : OkR2 G r' h) : OpR X f (r2 G (two g h)) :=
  LD.OpR.imp (OpR.or a b) fun x y H Q ⟨T, dx, dy, res, gd, sx, sy, e, k⟩ => (two_of e).elim (fun z => .inl (okB0 T H x y dx dy res gd sx sy z Q k)) fun z => .inr (ob T H x y dx dy res gd sx sy z Q k)
theorem op_ltA (hu : X.A.units + 64 < cLine) (hk : X.K = G.K := by rfl) : OpR X (compareOp .Lt) (r2 G dLtA) := op_two op_lt (op_ltD hu hk) ok_r2
theorem op_leA (hu : X.A.units + 64 < cLine) (hk : X.K = G.K := by rfl) : OpR X (compareOp .LtE) (r2 G dLeA) := op_two op_le (op_leD hu hk) ok_r2
theorem op_gtA (hu : X.A.units + 64 < cLine) (hk : X.K = G.K := by rfl) : OpR X (compareOp .Gt) (r2 G dGtA) := op_two op_gt (op_gtD hu hk) ok_r2
theorem op_geA (hu : X.A.units + 64 < cLine) (hk : X.K = G.K := by rfl) : OpR X (compareOp .GtE) (r2 G dGeA) := op_two op_ge (op_geD hu hk) ok_r2
theorem eq_big (i j : Int) : SeqAt.shaped (.int i) = true := by rfl
theorem op_eqA (hu : X.A.units + 64 < cLine) (hk : X.K = G.K := by rfl) : OpR X (compareOp .Eq) (r2 G dEqA) := by
  refine LD.OpR.imp (op_eqD hu) fun x y H Q ⟨T, dx, dy, res, gd, sx, sy, e, k⟩ => ?_
  rw [hk]
  refine ok_eq T H x y dx dy res gd sx sy ?_ Q k
  unfold dEqA two at e
  split at e
  · rw [← e]
    unfold dEq
    rw [if_pos ⟨rfl, rfl⟩]
    congr 1
  · exact e
theorem op_neA (hu : X.A.units + 64 < cLine) (hk : X.K = G.K := by rfl) : OpR X (compareOp .NotEq) (r2 G dNeA) := by
  refine LD.OpR.imp (op_neD hu) fun x y H Q ⟨T, dx, dy, res, gd, sx, sy, e, k⟩ => ?_
  rw [hk]
  refine ok_ne T H x y dx dy res gd sx sy ?_ Q k
  unfold dNeA two at e
  split at e
  · rw [← e]
    unfold dNe
    rw [if_pos ⟨rfl, rfl⟩]
    congr 1
  · exact e
end
end LD

/-! Layer D: what the printed proofs name: built-ins, room, fields by place, list(range(..)), the head. -/
namespace LD
open PySem PySem.Spec PyProof.Rows L2
theorem boot_len_ : bootBuiltins "len" = some (.builtin "len") := by decide +kernel
theorem boot_abs_ : bootBuiltins "abs" = some (.builtin "abs") := by decide +kernel
theorem boot_isinstance_ : bootBuiltins "isinstance" = some (.builtin "isinstance") := by decide +kernel
theorem boot_sorted_ : bootBuiltins "sorted" = some (.builtin "sorted") := by decide +kernel
theorem boot_max_ : bootBuiltins "max" = some (.builtin "max") := by decide +kernel
theorem boot_min_ : bootBuiltins "min" = some (.builtin "min") := by decide +kernel
theorem boot_sum_ : bootBuiltins "sum" = some (.builtin "sum") := by decide +kernel
theorem boot_all_ : bootBuiltins "all" = some (.builtin "all") := by decide +kernel
theorem boot_any_ : bootBuiltins "any" = some (.builtin "any") := by decide +kernel
theorem boot_int_ : bootBuiltins "int" = some (.type "int") := by decide +kernel
theorem boot_bool_ : bootBuiltins "bool" = some (.type "bool") := by decide +kernel
theorem boot_str_ : bootBuiltins "str" = some (.type "str") := by decide +kernel
theorem boot_list_ : bootBuiltins "list" = some (.type "list") := by decide +kernel
theorem boot_tuple_ : bootBuiltins "tuple" = some (.type "tuple") := by decide +kernel
theorem boot_dict_ : bootBuiltins "dict" = some (.type "dict") := by decide +kernel
theorem boot_set_ : bootBuiltins "set" = some (.type "set") := by decide +kernel
theorem boot_zip_ : bootBuiltins "zip" = some (.type "zip") := by decide +kernel
theorem boot_enumerate_ : bootBuiltins "enumerate" = some (.type "enumerate") := by decide +kernel
theorem boot_range_ : bootBuiltins "range" = some (.type "range") := by decide +kernel
theorem boot_reversed_ : bootBuiltins "reversed" = some (.type "reversed") := by decide +kernel
theorem u65 {k : Nat} {A : Around} (hr : Room k A) : A.units + 65 < cLine := by have := hr.un; omega
theorem u66 {k : Nat} {A : Around} (hr : Room k A) : A.units + 66 < cLine := by have := hr.un; omega
section
variable {G : Gm}
def fl3 : List Str := ["corners", "lines", "looked"]
theorem n01 : (("lines" : Str) == "corners") = false := by decide +kernel
theorem n02 : (("looked" : Str) == "corners") = false := by decide +kernel
theorem n12 : (("looked" : Str) == "lines") = false := by decide +kernel
theorem d10 : ¬ ("corners" : Str) = "lines" := by decide +kernel
theorem d20 : ¬ ("corners" : Str) = "looked" := by decide +kernel
theorem d21 : ¬ ("lines" : Str) = "looked" := by decide +kernel
theorem fld3_0 {k : Nat} (c : Cls G.K (G.C k)) (n : NoAttr G.K (G.C k) "corners") (e : G.fl k = fl3) (h : (G.fl k).length = 3) : FldOk G k 0 "corners" := by
  refine ⟨c, n, fun vs v q => ?_, fun vs v q => ?_, by omega⟩
  · rw [e]
    match vs, q with
    | x :: _, q => cases q; show List.lookup _ ((("corners" : Str), _) :: _) = _; rw [List.lookup_cons, beq_self_eq_true]
  · rw [e]
    match vs, q with
    | [], _ => rfl
theorem fld3_1 {k : Nat} (c : Cls G.K (G.C k)) (n : NoAttr G.K (G.C k) "lines") (e : G.fl k = fl3) (h : (G.fl k).length = 3) : FldOk G k 1 "lines" := by
  refine ⟨c, n, fun vs v q => ?_, fun vs v q => ?_, by omega⟩
  · rw [e]
    match vs, q with
    | x :: y :: _, q =>
      cases q
      show List.lookup _ ((("corners" : Str), _) :: (("lines" : Str), _) :: _) = _
      rw [List.lookup_cons, n01, List.lookup_cons, beq_self_eq_true]
  · rw [e]
    match vs, q with
    | [x], _ =>
      show (if ("corners" : Str) = "lines" then _ else (("corners" : Str), x) :: putF "lines" v []) = _
      rw [if_neg d10]
      rfl
theorem fld3_2 {k : Nat} (c : Cls G.K (G.C k)) (n : NoAttr G.K (G.C k) "looked") (e : G.fl k = fl3) (h : (G.fl k).length = 3) : FldOk G k 2 "looked" := by
  refine ⟨c, n, fun vs v q => ?_, fun vs v q => ?_, by omega⟩
  · rw [e]
    match vs, q with
    | x :: y :: z :: _, q =>
      cases q
      show List.lookup _ ((("corners" : Str), _) :: (("lines" : Str), _) :: (("looked" : Str), _) :: _) = _
      rw [List.lookup_cons, n02, List.lookup_cons, n12, List.lookup_cons, beq_self_eq_true]
  · rw [e]
    match vs, q with
    | [x, y], _ =>
      show (if ("corners" : Str) = "looked" then _ else (("corners" : Str), x) :: (if ("lines" : Str) = "looked" then _ else (("lines" : Str), y) :: putF "looked" v [])) = _
      rw [if_neg d20, if_neg d21]
      rfl
/-! ### list(range(..)) -/
def mRg1 (a : M) : M := fun st => match a st with
  | some (.imm (.int j), s) => if smallI j then some (.own (.lst (intsD 0 j.toNat)), s) else none
  | _ => none
def mRg2 (a b : M) : M := fun st => match a st with
  | some (.imm (.int i), s) => match b s with
    | some (.imm (.int j), s2) => if smallI i ∧ smallI j ∧ j - i ≤ 16777216 then some (.own (.lst (intsD i (j - i).toNat)), s2) else none
    | _ => none
  | _ => none
theorem reps_rg {T : Ty} (a b : Int) : Reps G T (rgV a b) (intsD a (b - a).toNat) := by
  unfold rgV intsD
  refine paired_of (by simp) fun i x y h1 h2 => ?_
  rw [List.getElem?_map] at h1 h2
  cases e : (List.range (b - a).toNat)[i]? with
  | none => rw [e] at h1; cases h1
  | some n =>
    rw [e] at h1 h2
    cases h1
    cases h2
    rfl
theorem ok_rg {T : Ty} {st st' : DSt} {σ : L2.St} {H H1 : Hp} {T1 : Ty} (E1 : EStep G T st σ H T1 st' H1) {a b : Int} (h1 : smallI a) (h2 : smallI b) (h3 : b - a ≤ 16777216) {Q : VK}
    (k : ∀ T' v H', EStep G T st σ H T' st' H' → ResOk G T' st' σ H H' v (.own (.lst (intsD a (b - a).toNat))) → Q v H') : RgOk a b ∧ ∀ q, H1 q = none → Q (.ref q) (upd H1 q (.lst (rgV a b))) := by
  unfold smallI at h1 h2
  refine ⟨⟨by omega, by omega, by omega, by omega, by omega⟩, fun q hq => ?_⟩
  have N : NStep G T1 H1 T1 (upd H1 q (.lst (rgV a b))) := Step.new E1.rel.good hq _
  refine k T1 _ _ (E1.trans (E1.rel.ekeep N)) ⟨q, rfl, none_of E1.step.dom hq, own_new E1.rel.good hq (reps_rg a b) ?_⟩
  rw [intsD_len, sizeLine_eq]
  omega
theorem ok_listRg1 {t : TE} {m : M} (h : OkE G t m) : OkE G (tLstRg (tRg1 t)) (mRg1 m) := by
  intro T st σ H r st' rl e Q k
  unfold mRg1 at e
  split at e
  · rename_i j s e1
    split at e
    · rename_i hj
      cases e
      refine h T st σ H _ _ rl e1 _ fun T1 v1 H1 E1 R1 => ?_
      refine ⟨j, (Sees.of_rep (H := H1) (show RepT G T1 v1 (.int j) from R1)).int E1.rel.good, ok_rg E1 (by unfold smallI; omega) hj (by unfold smallI at hj; omega) fun T' v H' E R => k T' v H' E ?_⟩
      have : (j - 0).toNat = j.toNat := by rw [Int.sub_zero]
      rw [this] at R
      exact R
    · cases e
  · cases e
theorem ok_listRg2 {t u : TE} {m n : M} (h : OkE G t m) (h' : OkE G u n) : OkE G (tLstRg (tRg2 t u)) (mRg2 m n) := by
  intro T st σ H r st' rl e Q k
  unfold mRg2 at e
  split at e
  · rename_i i s e1
    split at e
    · rename_i j s2 e2
      split at e
      · rename_i hj
        cases e
        refine h T st σ H _ s rl e1 _ fun T1 v1 H1 E1 R1 => ?_
        refine h' T1 s σ H1 _ _ E1.rel e2 _ fun T2 v2 H2 E2 R2 => ?_
        exact ⟨i, j, (Sees.of_rep (H := H1) (show RepT G T1 v1 (.int i) from R1)).int E1.rel.good, (Sees.of_rep (H := H2) (show RepT G T2 v2 (.int j) from R2)).int E2.rel.good, ok_rg (E1.trans E2) hj.1 hj.2.1 hj.2.2 k⟩
      · cases e
    · cases e
  · cases e

/-! ### the end -/
def spLaw (K : PySem.W.Frag) : Sp := fun vs H Q _ => ∃ (a : Addr) (ns : List Int), vs = [.ref a] ∧ SqL K H a (ns.map V.int) ∧ ns.length ≤ 63 ∧ Only H ∧ ∀ v H', v = .bl true → Q v H'
theorem law_ok {P : Program} {w : World} {mg : Str → Option Value} {base : Heap} {k : Nat} {f : Addr} {fd : FuncData} {m : FM} (F : FnOk P w G.K mg base CX0 k f fd ["script"] (spD G 1 m))
    (h : ∀ ns : List Int, ns.length ≤ 63 → ∃ os, m [.imm (.scr ns)] = some (.imm (.bl true), os)) : FnOk P w G.K mg base CX0 k f fd ["script"] (spLaw G.K) := by
  refine F.imp fun vs H Q E hs => ?_
  obtain ⟨a, ns, rfl, hS, hl, hO, k⟩ := hs
  obtain ⟨os, hm⟩ := h ns hl
  have fin : ∀ T : Ty, Good G T H → RepT G T (.ref a) (.scr ns) → spD G 1 m [.ref a] H Q E := fun T g r =>
    ⟨T, [.imm (.scr ns)], _, os, g, ⟨.cons r .nil, fun i j k k' d d' b h1 _ _ _ => by
      cases i with
      | zero => simp at h1
      | succ i => simp at h1⟩, rfl, hm, fun T' H' v S R _ => k v H' (rep_bl S.good R)⟩
  rcases hS with hS | ⟨o, its, n, h1, h2, h3, h4, h5, h6⟩
  · have hz : ∃ o, H a = some (.frz o (.lst (ns.map V.int))) := by
      rcases hS with q | q
      · rcases hO a with z | ⟨o, xs, z⟩
        · rw [z] at q; cases q
        · rw [z] at q; cases q
      · exact q
    refine fin (tset (fun _ => none) a (.scr ns)) (fun b d q => ?_) (.inl tset_same)
    by_cases e : b = a
    · subst e
      rw [tset_same] at q
      cases q
      exact ⟨hz, by rw [sizeLine_eq]; omega⟩
    · rw [tset_ne e] at q
      cases q
  · exact fin (fun _ => none) (fun b d q => by cases q) (.inr ⟨ns, rfl, o, its, n, h1, h2, h3, h4, h5, h6⟩)
end
end LD

/-! Layer D: evaluating loops and comprehensions at the data level. -/
namespace LD
open PySem PySem.Spec PyProof.Rows L2

theorem restD_wipe (s : DSt) (vs : List Nat) : restD s (wipeD s vs) vs = s := by
  refine List.ext_getElem? fun j => ?_
  by_cases h : j ∈ vs
  · rw [restD_in (wipeD_len s vs) h]
  · rw [restD_out h, wipeD_out h]
/-- a comprehension whose turns leave the slots -/
theorem lc_pure {vs : List Nat} {g : MG} {c : MT} {m : M} {st : DSt} (p : D → Bool) (F : D → D) : ∀ (xs : List D), (∀ x ∈ xs, ∃ s1, g x st = some s1 ∧ wipeD s1 vs = st ∧ c s1 = some (p x, s1) ∧ (p x = true → ∃ r, m s1 = some (r, s1) ∧ freeze s1 r = some (F x, s1))) →
    lcD vs g c m xs st = some ((xs.filter p).map F, st)
  | [], _ => rfl
  | x :: xs, h => by
    obtain ⟨s1, h1, h2, h3, h4⟩ := h x (List.mem_cons_self ..)
    have ih := lc_pure p F xs fun y hy => h y (List.mem_cons_of_mem _ hy)
    unfold lcD
    rw [h1]
    dsimp only
    rw [h3]
    cases e : p x with
    | false =>
      dsimp only
      rw [h2, ih, List.filter_cons, e]
      rfl
    | true =>
      obtain ⟨r, h5, h6⟩ := h4 e
      dsimp only
      rw [h5]
      dsimp only
      rw [h6]
      dsimp only
      rw [h2, ih, List.filter_cons, e]
      rfl
theorem mLc_pure {vs : List Nat} {w : MI} {g : MG} {c : MT} {m : M} {st s : DSt} {xs : List D} (p : D → Bool) (F : D → D) (hw : w st = some (xs, s))
    (h : ∀ x ∈ xs, ∃ s1, g x (wipeD s vs) = some s1 ∧ wipeD s1 vs = wipeD s vs ∧ c s1 = some (p x, s1) ∧ (p x = true → ∃ r, m s1 = some (r, s1) ∧ freeze s1 r = some (F x, s1))) :
    mLc vs w g c m st = some (.own (.lst ((xs.filter p).map F)), s) := by
  unfold mLc
  rw [hw]
  dsimp only
  rw [lc_pure p F xs h]
  dsimp only
  rw [restD_wipe]
/-- .. whose turns keep P -/
theorem lc_inv {vs : List Nat} {g : MG} {c : MT} {m : M} (P : DSt → Prop) (Q : D → Prop) : ∀ (xs : List D), (∀ x ∈ xs, ∀ st, P st → ∃ s1 b s2, g x st = some s1 ∧ c s1 = some (b, s2) ∧ ((b = false ∧ P (wipeD s2 vs)) ∨ (b = true ∧ ∃ r s3 d s4, m s2 = some (r, s3) ∧ freeze s3 r = some (d, s4) ∧ Q d ∧ P (wipeD s4 vs)))) →
    ∀ st, P st → ∃ ds t, lcD vs g c m xs st = some (ds, t) ∧ (∀ d ∈ ds, Q d) ∧ ds.length ≤ xs.length ∧ P t
  | [], _, st, hp => ⟨[], st, rfl, fun d hd => by simp at hd, Nat.le_refl _, hp⟩
  | x :: xs, h, st, hp => by
    obtain ⟨s1, b, s2, h1, h2, h3⟩ := h x (List.mem_cons_self ..) st hp
    have ih := lc_inv P Q xs fun y hy => h y (List.mem_cons_of_mem _ hy)
    unfold lcD
    rw [h1]
    dsimp only
    rw [h2]
    rcases h3 with ⟨rfl, h3⟩ | ⟨rfl, r, s3, d, s4, h3, h4, h5, h6⟩
    · obtain ⟨ds, t, q1, q2, q3, q4⟩ := ih _ h3
      exact ⟨ds, t, q1, q2, by rw [List.length_cons]; omega, q4⟩
    · obtain ⟨ds, t, q1, q2, q3, q4⟩ := ih _ h6
      refine ⟨d :: ds, t, ?_, fun e he => ?_, by rw [List.length_cons, List.length_cons]; omega, q4⟩
      · dsimp only
        rw [h3]
        dsimp only
        rw [h4]
        dsimp only
        rw [q1]
      · rcases List.mem_cons.mp he with z | z
        · rw [z]; exact h5
        · exact q2 e z
theorem forD_step {g : MG} {b : MS} {x : D} {xs : List D} {st s1 s2 : DSt} (h1 : g x st = some s1) (h2 : b s1 = some (.nx, s2) ∨ b s1 = some (.ct, s2)) : forD g b (x :: xs) st = forD g b xs s2 := by
  rw [forD, h1]
  dsimp only
  rcases h2 with h2 | h2 <;> rw [h2]
theorem forD_ret {g : MG} {b : MS} {x : D} {xs : List D} {st s1 s2 : DSt} {r : R} (h1 : g x st = some s1) (h2 : b s1 = some (.ret r, s2)) : forD g b (x :: xs) st = some (.ret r, s2) := by
  rw [forD, h1]
  dsimp only
  rw [h2]
/-- a loop that keeps P, by the items that are done -/
theorem forD_inv {g : MG} {b : MS} (P : List D → DSt → Prop) : ∀ (xs done : List D), (∀ x, ∀ pre post, done ++ xs = pre ++ x :: post → ∀ st, P pre st → ∃ s1 s2, g x st = some s1 ∧ (b s1 = some (.nx, s2) ∨ b s1 = some (.ct, s2)) ∧ P (pre ++ [x]) s2) →
    ∀ st, P done st → ∃ s, forD g b xs st = some (.nx, s) ∧ P (done ++ xs) s
  | [], done, _, st, hp => ⟨st, rfl, by rw [List.append_nil]; exact hp⟩
  | x :: xs, done, h, st, hp => by
    obtain ⟨s1, s2, h1, h2, h3⟩ := h x done xs rfl st hp
    obtain ⟨s, q1, q2⟩ := forD_inv P xs (done ++ [x]) (fun y pre post e => h y pre post (by rw [← e]; simp)) s2 h3
    exact ⟨s, (forD_step h1 h2).trans q1, by rw [show done ++ x :: xs = done ++ [x] ++ xs by simp]; exact q2⟩
/-- a loop that may leave by return -/
theorem forD_inv' {g : MG} {b : MS} (P : List D → DSt → Prop) (Rr : Fl → DSt → Prop) : ∀ (xs done : List D), (∀ x, ∀ pre post, done ++ xs = pre ++ x :: post → ∀ st, P pre st → ∃ s1 f s2, g x st = some s1 ∧ b s1 = some (f, s2) ∧ (((f = .nx ∨ f = .ct) ∧ P (pre ++ [x]) s2) ∨ ∃ r, f = .ret r ∧ Rr f s2)) →
    ∀ st, P done st → ∃ f s, forD g b xs st = some (f, s) ∧ ((f = .nx ∧ P (done ++ xs) s) ∨ Rr f s)
  | [], done, _, st, hp => ⟨.nx, st, rfl, .inl ⟨rfl, by rw [List.append_nil]; exact hp⟩⟩
  | x :: xs, done, h, st, hp => by
    obtain ⟨s1, f, s2, h1, h2, h3⟩ := h x done xs rfl st hp
    rcases h3 with ⟨hf, h3⟩ | ⟨r, rfl, h3⟩
    · obtain ⟨f', s, q1, q2⟩ := forD_inv' P Rr xs (done ++ [x]) (fun y pre post e => h y pre post (by rw [← e]; simp)) s2 h3
      refine ⟨f', s, (forD_step h1 ?_).trans q1, ?_⟩
      · rcases hf with rfl | rfl
        · exact .inl h2
        · exact .inr h2
      · rw [show done ++ x :: xs = done ++ [x] ++ xs by simp]; exact q2
    · exact ⟨_, s2, forD_ret h1 h2, .inr h3⟩
/-- ints counted up: by the number alone -/
theorem intsD_succ (lo : Int) (n : Nat) : intsD lo (n + 1) = .int lo :: intsD (lo + 1) n := by
  unfold intsD
  rw [List.range_succ_eq_map, List.map_cons, List.map_map]
  congr 1
  · simp
  · refine List.map_congr_left fun k _ => ?_
    show D.int _ = D.int _
    congr 1
    simp
    omega
theorem intsD_last (lo : Int) (n : Nat) : intsD lo (n + 1) = intsD lo n ++ [.int (lo + n)] := by
  unfold intsD
  rw [List.range_succ, List.map_append]
  rfl
theorem forD_ints {g : MG} {b : MS} (P : Nat → DSt → Prop) : ∀ (n k : Nat), (∀ i, k ≤ i → i < k + n → ∀ st, P i st → ∃ s1 s2, g (.int i) st = some s1 ∧ (b s1 = some (.nx, s2) ∨ b s1 = some (.ct, s2)) ∧ P (i + 1) s2) →
    ∀ st, P k st → ∃ s, forD g b (intsD k n) st = some (.nx, s) ∧ P (k + n) s
  | 0, k, _, st, hp => ⟨st, rfl, hp⟩
  | n + 1, k, h, st, hp => by
    obtain ⟨s1, s2, h1, h2, h3⟩ := h k (Nat.le_refl _) (by omega) st hp
    obtain ⟨s, q1, q2⟩ := forD_ints P n (k + 1) (fun i hi hj => h i (by omega) (by omega)) s2 h3
    refine ⟨s, ?_, by rw [show k + (n + 1) = k + 1 + n by omega]; exact q2⟩
    rw [intsD_succ, forD_step h1 h2]
    exact q1
theorem ints_mem {lo : Int} {n : Nat} {d : D} : d ∈ intsD lo n ↔ ∃ k : Nat, k < n ∧ d = .int (lo + k) := by
  unfold intsD
  rw [List.mem_map]
  constructor
  · rintro ⟨k, hk, rfl⟩
    exact ⟨k, List.mem_range.mp hk, rfl⟩
  · rintro ⟨k, hk, rfl⟩
    exact ⟨k, List.mem_range.mpr hk, rfl⟩
/-! ### data compared -/
theorem eqD_int (i j : Int) : eqD (.int i) (.int j) = decide (i = j) := by
  show PyData.eqv (.int i) (.int j) = _
  by_cases h : i = j <;> simp [PyData.eqv, h]
end LD

/-! Layer D: the combinators where they are applied. -/
namespace LD
open PySem PySem.Spec PyProof.Rows L2
theorem a_mVar (i : Nat) (st : DSt) : mVar i st = (match st[i]? with
  | some (some (.imm d)) => some (.imm d, st)
  | some (some (.rt _ _)) => some (.slot i, st)
  | _ => none) := by rfl
theorem a_mC (d : D) (st : DSt) : mC d st = (some (.imm d, st)) := by rfl
theorem a_mBin (f : D → D → Option R) (a b : M) (st : DSt) : mBin f a b st = (match a st with
  | none => none
  | some (ra, s1) => match b s1 with
    | none => none
    | some (rb, s2) => match cont s2 ra, cont s2 rb with
      | some x, some y => match f x y with
        | some res => some (res, s2)
        | none => none
      | _, _ => none) := by rfl
theorem a_mUn (f : D → Option R) (a : M) (st : DSt) : mUn f a st = (match a st with
  | none => none
  | some (ra, s1) => match cont s1 ra with
    | some x => match f x with
      | some res => some (res, s1)
      | none => none
    | none => none) := by rfl
theorem a_mT (a : M) (st : DSt) : mT a st = (match a st with
  | some (.imm (.bl b), s) => some (b, s)
  | _ => none) := by rfl
theorem a_mAndT (a b : MT) (st : DSt) : mAndT a b st = (match a st with
  | some (true, s) => b s
  | z => z) := by rfl
theorem a_mOrT (a b : MT) (st : DSt) : mOrT a b st = (match a st with
  | some (false, s) => b s
  | z => z) := by rfl
theorem a_mNotT (a : MT) (st : DSt) : mNotT a st = (match a st with
  | some (b, s) => some (!b, s)
  | none => none) := by rfl
theorem a_mAndV (a b : M) (st : DSt) : mAndV a b st = (match a st with
  | some (.imm (.bl true), s) => b s
  | some (.imm (.bl false), s) => some (.imm (.bl false), s)
  | _ => none) := by rfl
theorem a_mOrV (a b : M) (st : DSt) : mOrV a b st = (match a st with
  | some (.imm (.bl false), s) => b s
  | some (.imm (.bl true), s) => some (.imm (.bl true), s)
  | _ => none) := by rfl
theorem a_mNotV (a : M) (st : DSt) : mNotV a st = (match a st with
  | some (.imm (.bl b), s) => some (.imm (.bl (!b)), s)
  | _ => none) := by rfl
theorem a_mIfE (c : MT) (a b : M) (st : DSt) : mIfE c a b st = (match c st with
  | some (true, s) => a s
  | some (false, s) => b s
  | none => none) := by rfl
theorem a_mChain (f g : D → D → Option R) (a b c : M) (st : DSt) : mChain f g a b c st = (match a st with
  | none => none
  | some (ra, s1) => match b s1 with
    | none => none
    | some (rb, s2) => match cont s2 ra, cont s2 rb with
      | some x, some y => match f x y with
        | some (.imm (.bl true)) => match c s2 with
          | none => none
          | some (rc, s3) => match cont s3 rb, cont s3 rc with
            | some y', some z => match g y' z with
              | some res => some (res, s3)
              | none => none
            | _, _ => none
        | some (.imm (.bl false)) => some (.imm (.bl false), s2)
        | _ => none
      | _, _ => none) := by rfl
theorem a_mTup (a : MA) (st : DSt) : mTup a st = (match a st with
  | some (ds, s) => some (.imm (.tup ds), s)
  | none => none) := by rfl
theorem a_mLst (a : MA) (st : DSt) : mLst a st = (match a st with
  | some (ds, s) => some (.own (.lst ds), s)
  | none => none) := by rfl
theorem a_aNil  (st : DSt) : aNil  st = (some ([], st)) := by rfl
theorem a_aCons (a : M) (b : MA) (st : DSt) : aCons a b st = (match a st with
  | none => none
  | some (r, s1) => match freeze s1 r with
    | none => none
    | some (d, s2) => match b s2 with
      | none => none
      | some (ds, s3) => some (d :: ds, s3)) := by rfl
theorem a_lNil  (st : DSt) : lNil  st = (some ([], st)) := by rfl
theorem a_lCons (a : M) (b : ML) (st : DSt) : lCons a b st = (match a st with
  | none => none
  | some (r, s1) => match b s1 with
    | none => none
    | some (rs, s2) => some (r :: rs, s2)) := by rfl
theorem a_mB (f : List D → Option R) (a : ML) (st : DSt) : mB f a st = (match a st with
  | none => none
  | some (rs, s) => match conts s rs with
    | none => none
    | some ds => match f ds with
      | none => none
      | some res => some (res, s)) := by rfl
theorem a_mCall (f : FM) (a : MCa) (st : DSt) : mCall f a st = (match a st with
  | none => none
  | some (rs, s) => match svsD s rs with
    | none => none
    | some svs => if noDup (slotsD rs) = true then match f svs with
      | none => none
      | some (r, os) => match r with
        | .slot _ => none
        | r => match backD rs os s with
          | none => none
          | some s' => some (r, s')
      else none) := by rfl
theorem a_cNil  (st : DSt) : cNil  st = (some ([], st)) := by rfl
theorem a_cVal (a : M) (b : MCa) (st : DSt) : cVal a b st = (match a st with
  | none => none
  | some (r, s1) => match freeze s1 r with
    | none => none
    | some (d, s2) => match b s2 with
      | none => none
      | some (rs, s3) => some (.imm d :: rs, s3)) := by rfl
theorem a_cIo (i : Nat) (b : MCa) (st : DSt) : cIo i b st = (match st[i]? with
  | some (some (.rt _ _)) => match b st with
    | none => none
    | some (rs, s3) => some (.slot i :: rs, s3)
  | _ => none) := by rfl
theorem a_mIsi (n : String) (a : M) (st : DSt) : mIsi n a st = (match a st with
  | none => none
  | some (r, s) => match cont s r with
    | none => none
    | some d => match isiD n d with
      | none => none
      | some b => some (.imm (.bl b), s)) := by rfl
theorem a_mFld (k j : Nat) (a : M) (st : DSt) : mFld k j a st = (match a st with
  | none => none
  | some (r, s) => match cont s r with
    | some (.ins k' fs) => if k' = k then match fs[j]? with
      | some d => some (.imm d, s)
      | none => none
      else none
    | _ => none) := by rfl
theorem a_mMake (k : Nat) (f : FM) (a : MCa) (st : DSt) : mMake k f a st = (match a st with
  | none => none
  | some (rs, s) => match svsD s rs with
    | none => none
    | some svs => if slotsD rs = [] then match f (.rt false (.ins k []) :: svs) with
      | some (.imm .non, .rt _ (.ins k' fs) :: _) => if k' = k then some (.own (.ins k fs), s) else none
      | _ => none
      else none) := by rfl
theorem a_mCch  (st : DSt) : mCch  st = (some (.imm (.cch []), st)) := by rfl
theorem a_mDNew  (st : DSt) : mDNew  st = (some (.own (.dic true []), st)) := by rfl
theorem a_mSl (a : M) (lo hi : MO) (st : DSt) : mSl a lo hi st = (match a st with
  | none => none
  | some (ra, s1) => match lo s1 with
    | none => none
    | some (l, s2) => match hi s2 with
      | none => none
      | some (u, s3) => match cont s3 ra with
        | some x => match dSl x l u with
          | some res => some (res, s3)
          | none => none
        | none => none) := by rfl
theorem a_oNone  (st : DSt) : oNone  st = (some (none, st)) := by rfl
theorem a_oSome (a : M) (st : DSt) : oSome a st = (match a st with
  | some (.imm (.int i), s) => some (some i, s)
  | _ => none) := by rfl
theorem a_sNx  (st : DSt) : sNx  st = (some (.nx, st)) := by rfl
theorem a_sSeq (a b : MS) (st : DSt) : sSeq a b st = (match a st with
  | some (.nx, s) => b s
  | z => z) := by rfl
theorem a_sRet (a : M) (st : DSt) : sRet a st = (match a st with
  | some (r, s) => some (.ret r, s)
  | none => none) := by rfl
theorem a_sRetN  (st : DSt) : sRetN  st = (some (.ret (.imm .non), st)) := by rfl
theorem a_sIf (c : MT) (a b : MS) (st : DSt) : sIf c a b st = (match c st with
  | some (true, s) => a s
  | some (false, s) => b s
  | none => none) := by rfl
theorem a_sSet (i : Nat) (a : M) (st : DSt) : sSet i a st = (match a st with
  | some (.imm d, s) => some (.nx, s.set i (some (.imm d)))
  | some (.own d, s) => some (.nx, s.set i (some (.rt true d)))
  | some (.slot j, s) => match freezeS s j with
    | some (d, s2) => some (.nx, s2.set i (some (.imm d)))
    | none => none
  | none => none) := by rfl
theorem a_sAsg (a : M) (g : MG) (st : DSt) : sAsg a g st = (match a st with
  | none => none
  | some (r, s1) => match freeze s1 r with
    | none => none
    | some (d, s2) => match g d s2 with
      | none => none
      | some s3 => some (.nx, s3)) := by rfl
theorem a_sPar (is : List Nat) (a : MR) (st : DSt) : sPar is a st = (match a st with
  | none => none
  | some (svs, s) => some (.nx, setAll is svs s)) := by rfl
theorem a_sDrop (a : M) (st : DSt) : sDrop a st = (match a st with
  | some (_, s) => some (.nx, s)
  | none => none) := by rfl
theorem a_sBk  (st : DSt) : sBk  st = (some (.bk, st)) := by rfl
theorem a_sCt  (st : DSt) : sCt  st = (some (.ct, st)) := by rfl
theorem a_gN (i : Nat) (d : D) (st : DSt) : gN i d st = (some (st.set i (some (.imm d)))) := by rfl
theorem a_gsN  (ds : List D) (st : DSt) : gsN  ds st = (match ds with
  | [] => some st
  | _ => none) := by rfl
theorem a_gsC (a : MG) (b : MGs) (ds : List D) (st : DSt) : gsC a b ds st = (match ds with
  | [] => none
  | d :: r => match a d st with
    | none => none
    | some s => b r s) := by rfl
theorem a_gT (n : Nat) (b : MGs) (d : D) (st : DSt) : gT n b d st = (match d with
  | .tup ds => if ds.length = n then b ds st else none
  | _ => none) := by rfl
theorem a_gFld (i k j : Nat) (d : D) (st : DSt) : gFld i k j d st = (match st[i]? with
  | some (some (.rt kk (.ins k' fs))) => if k' = k ∧ fs.length = j then some (st.set i (some (.rt kk (.ins k (fs ++ [d]))))) else none
  | _ => none) := by rfl
theorem a_gItem (i : Nat) (m : M) (d : D) (st : DSt) : gItem i m d st = (if isL st i = true then gIx i m d st else gKey i m d st) := by rfl
theorem a_gIx (i : Nat) (m : M) (d : D) (st : DSt) : gIx i m d st = (if isL st i = true then match m st with
  | some (.imm (.int j), s1) => match s1[i]? with
    | some (some (.rt k (.lst xs))) => match ixN xs.length j with
      | some n => some (s1.set i (some (.rt k (.lst (xs.set n d)))))
      | none => none
    | _ => none
  | _ => none
  else none) := by rfl
theorem a_gKey (i : Nat) (m : M) (d : D) (st : DSt) : gKey i m d st = (if isDic st i = true then match m st with
  | some (.imm dk, s1) => match s1[i]? with
    | some (some (.rt k (.dic true ps))) => match nkey dk with
      | some key => if ps.length < sizeLine then some (s1.set i (some (.rt k (.dic true (putD key dk d ps))))) else none
      | none => none
    | _ => none
  | _ => none
  else none) := by rfl
theorem a_rNil  (st : DSt) : rNil  st = (some ([], st)) := by rfl
theorem a_rCons (a : M) (b : MR) (st : DSt) : rCons a b st = (match a st with
  | none => none
  | some (r, s1) => match keepR s1 r with
    | none => none
    | some (sv, s2) => match b s2 with
      | none => none
      | some (svs, s3) => some (sv :: svs, s3)) := by rfl
theorem a_mApp (i : Nat) (m : M) (st : DSt) : mApp i m st = (if isL st i = true then match m st with
    | none => none
    | some (r, s1) => match freeze s1 r with
      | none => none
      | some (d, s2) => match s2[i]? with
        | some (some (.rt k (.lst xs))) => if xs.length < sizeLine then some (.imm .non, s2.set i (some (.rt k (.lst (xs ++ [d]))))) else none
        | _ => none
  else none) := by rfl
theorem a_mExt (i : Nat) (m : M) (st : DSt) : mExt i m st = (if isL st i = true then match m st with
    | none => none
    | some (r, s1) => match cont s1 r with
      | some (.lst ds) => match s1[i]? with
        | some (some (.rt k (.lst xs))) => if xs.length + ds.length ≤ sizeLine then some (.imm .non, s1.set i (some (.rt k (.lst (xs ++ ds))))) else none
        | _ => none
      | _ => none
  else none) := by rfl
theorem a_mPop (i : Nat) (st : DSt) : mPop i st = (match st[i]? with
  | some (some (.rt k (.lst xs))) => match xs[xs.length - 1]? with
    | some d => some (.imm d, st.set i (some (.rt k (.lst xs.dropLast))))
    | none => none
  | _ => none) := by rfl
theorem a_mPopAt (i : Nat) (m : M) (st : DSt) : mPopAt i m st = (if isL st i = true then match m st with
    | some (.imm (.int j), s1) => match s1[i]? with
      | some (some (.rt k (.lst xs))) => if -(2 ^ 63) ≤ j ∧ j < 2 ^ 63 then match ixN xs.length j with
        | some n => match xs[n]? with
          | some d => some (.imm d, s1.set i (some (.rt k (.lst (xs.eraseIdx n)))))
          | none => none
        | none => none
        else none
      | _ => none
    | _ => none
  else none) := by rfl
theorem a_wSeq (a : M) (st : DSt) : wSeq a st = (match a st with
  | none => none
  | some (r, s) => match freeze s r with
    | some (.lst ds, s2) => some (ds, s2)
    | some (.tup ds, s2) => some (ds, s2)
    | _ => none) := by rfl
theorem a_wRng1 (a : MA) (st : DSt) : wRng1 a st = (match a st with
  | some ([.int j], s) => if smallI j then some (intsD 0 j.toNat, s) else none
  | _ => none) := by rfl
theorem a_wRng2 (a : MA) (st : DSt) : wRng2 a st = (match a st with
  | some ([.int i, .int j], s) => if smallI i ∧ smallI j ∧ smallI (j - i) then some (intsD i (j - i).toNat, s) else none
  | _ => none) := by rfl
theorem a_wZip (a : MA) (st : DSt) : wZip a st = (match a st with
  | some ([.lst xs, .lst ys], s) => some ((xs.zip ys).map pairD, s)
  | some ([.tup xs, .tup ys], s) => some ((xs.zip ys).map pairD, s)
  | _ => none) := by rfl
theorem a_wEnum (a : MA) (st : DSt) : wEnum a st = (match a st with
  | some ([.lst xs], s) => some ((enumD 0 xs).map pairD, s)
  | _ => none) := by rfl
theorem a_sFor (w : MI) (g : MG) (b : MS) (st : DSt) : sFor w g b st = (match w st with
  | none => none
  | some (xs, s) => forD g b xs s) := by rfl
theorem a_tYesD  (st : DSt) : tYesD  st = (some (true, st)) := by rfl
theorem a_mRg1 (a : M) (st : DSt) : mRg1 a st = (match a st with
  | some (.imm (.int j), s) => if smallI j then some (.own (.lst (intsD 0 j.toNat)), s) else none
  | _ => none) := by rfl
theorem a_mRg2 (a b : M) (st : DSt) : mRg2 a b st = (match a st with
  | some (.imm (.int i), s) => match b s with
    | some (.imm (.int j), s2) => if smallI i ∧ smallI j ∧ j - i ≤ 16777216 then some (.own (.lst (intsD i (j - i).toNat)), s2) else none
    | _ => none
  | _ => none) := by rfl
theorem noDup0 : noDup [] = true := rfl
theorem noDup1 (i : Nat) : noDup [i] = true := rfl
end LD

namespace LW
open PySem PySem.Spec PyProof.Rows L2 LD
abbrev top (i : Nat) : Stmt := PySem.Challenge.pw_cornerwebs_k81_whole_forests_that_have_a.main.body.getD i (.Pass ⟨0, 0, 0, 0⟩)
abbrev st_law_hand : Stmt := top 19
abbrev st_forests_for : Stmt := top 16
abbrev st_lots_of : Stmt := top 14
abbrev st_forests_needed : Stmt := top 17
abbrev st_law_draw : Stmt := top 20
abbrev st_law_pairs : Stmt := top 21
abbrev st_law_lines : Stmt := top 22
abbrev st_is_integer : Stmt := top 2
abbrev st_is_within : Stmt := top 3
abbrev st_is_count : Stmt := top 10
abbrev st_is_tuple : Stmt := top 4
abbrev st_is_line : Stmt := top 11
abbrev st_are_lines : Stmt := top 12
abbrev st_Web : Stmt := inClass (top 13) 0
abbrev st_law_lots : Stmt := top 23
abbrev st_law_no_ring : Stmt := top 24
abbrev st_law_dealt : Stmt := top 25
abbrev st_law : Stmt := top 26
structure Tx (K : PySem.W.Frag) (mg : Str → Option Value) (fs : Nat → Addr) (fd : Nat → FuncData) (C : Addr) : Prop where
  z_abs : mg "abs" = none
  z_all : mg "all" = none
  z_bool : mg "bool" = none
  z_int : mg "int" = none
  z_isinstance : mg "isinstance" = none
  z_len : mg "len" = none
  z_list : mg "list" = none
  z_max : mg "max" = none
  z_min : mg "min" = none
  z_range : mg "range" = none
  z_set : mg "set" = none
  z_sorted : mg "sorted" = none
  z_tuple : mg "tuple" = none
  z_zip : mg "zip" = none
  c_MOST_CORNERS : ∃ t, mg "MOST_CORNERS" = some (.int 7 t)
  f_law_hand : Fun K "_law_hand" "_law_hand" st_law_hand (fs 0) (fd 0)
  b_law_hand : Binds K (fd 0) ["script"] []
  m_law_hand : mg "_law_hand" = some (.ref (fs 0))
  k_law_hand : PySem.W.keepIn K (.ref (fs 0)) = true
  f_forests_for : Fun K "forests_for" "forests_for" st_forests_for (fs 1) (fd 1)
  b_forests_for : Binds K (fd 1) ["web", "lot"] []
  m_forests_for : mg "forests_for" = some (.ref (fs 1))
  k_forests_for : PySem.W.keepIn K (.ref (fs 1)) = true
  f_lots_of : Fun K "lots_of" "lots_of" st_lots_of (fs 2) (fd 2)
  b_lots_of : Binds K (fd 2) ["corners"] []
  m_lots_of : mg "lots_of" = some (.ref (fs 2))
  k_lots_of : PySem.W.keepIn K (.ref (fs 2)) = true
  f_forests_needed : Fun K "forests_needed" "forests_needed" st_forests_needed (fs 3) (fd 3)
  b_forests_needed : Binds K (fd 3) ["web"] []
  m_forests_needed : mg "forests_needed" = some (.ref (fs 3))
  k_forests_needed : PySem.W.keepIn K (.ref (fs 3)) = true
  f_law_draw : Fun K "_law_draw" "_law_draw" st_law_draw (fs 4) (fd 4)
  b_law_draw : Binds K (fd 4) ["hand", "sides"] []
  m_law_draw : mg "_law_draw" = some (.ref (fs 4))
  k_law_draw : PySem.W.keepIn K (.ref (fs 4)) = true
  f_law_pairs : Fun K "_law_pairs" "_law_pairs" st_law_pairs (fs 5) (fd 5)
  b_law_pairs : Binds K (fd 5) ["corners"] []
  m_law_pairs : mg "_law_pairs" = some (.ref (fs 5))
  k_law_pairs : PySem.W.keepIn K (.ref (fs 5)) = true
  f_law_lines : Fun K "_law_lines" "_law_lines" st_law_lines (fs 6) (fd 6)
  b_law_lines : Binds K (fd 6) ["hand", "corners"] []
  m_law_lines : mg "_law_lines" = some (.ref (fs 6))
  k_law_lines : PySem.W.keepIn K (.ref (fs 6)) = true
  f_is_integer : Fun K "is_integer" "is_integer" st_is_integer (fs 7) (fd 7)
  b_is_integer : Binds K (fd 7) ["thing"] []
  m_is_integer : mg "is_integer" = some (.ref (fs 7))
  k_is_integer : PySem.W.keepIn K (.ref (fs 7)) = true
  f_is_within : Fun K "is_within" "is_within" st_is_within (fs 8) (fd 8)
  b_is_within : Binds K (fd 8) ["thing", "low", "high"] []
  m_is_within : mg "is_within" = some (.ref (fs 8))
  k_is_within : PySem.W.keepIn K (.ref (fs 8)) = true
  f_is_count : Fun K "is_count" "is_count" st_is_count (fs 9) (fd 9)
  b_is_count : Binds K (fd 9) ["thing"] []
  m_is_count : mg "is_count" = some (.ref (fs 9))
  k_is_count : PySem.W.keepIn K (.ref (fs 9)) = true
  f_is_tuple : Fun K "is_tuple" "is_tuple" st_is_tuple (fs 10) (fd 10)
  b_is_tuple : Binds K (fd 10) ["thing", "least", "most"] []
  m_is_tuple : mg "is_tuple" = some (.ref (fs 10))
  k_is_tuple : PySem.W.keepIn K (.ref (fs 10)) = true
  f_is_line : Fun K "is_line" "is_line" st_is_line (fs 11) (fd 11)
  b_is_line : Binds K (fd 11) ["corners", "thing"] []
  m_is_line : mg "is_line" = some (.ref (fs 11))
  k_is_line : PySem.W.keepIn K (.ref (fs 11)) = true
  f_are_lines : Fun K "are_lines" "are_lines" st_are_lines (fs 12) (fd 12)
  b_are_lines : Binds K (fd 12) ["corners", "thing"] []
  m_are_lines : mg "are_lines" = some (.ref (fs 12))
  k_are_lines : PySem.W.keepIn K (.ref (fs 12)) = true
  f_Web : Fun K "__init__" "Web.__init__" st_Web (fs 13) (fd 13)
  b_Web : Binds K (fd 13) ["self", "corners", "lines"] []
  m_Web : mg "Web" = some (.ref C)
  mkW : Mk K C (fs 13)
  cl : Cls K C
  na_corners : NoAttr K C "corners"
  na_lines : NoAttr K C "lines"
  na_looked : NoAttr K C "looked"
  f_law_lots : Fun K "_law_lots" "_law_lots" st_law_lots (fs 14) (fd 14)
  b_law_lots : Binds K (fd 14) ["corners"] []
  m_law_lots : mg "_law_lots" = some (.ref (fs 14))
  k_law_lots : PySem.W.keepIn K (.ref (fs 14)) = true
  f_law_no_ring : Fun K "_law_no_ring" "_law_no_ring" st_law_no_ring (fs 15) (fd 15)
  b_law_no_ring : Binds K (fd 15) ["corners", "lines"] []
  m_law_no_ring : mg "_law_no_ring" = some (.ref (fs 15))
  k_law_no_ring : PySem.W.keepIn K (.ref (fs 15)) = true
  f_law_dealt : Fun K "_law_dealt" "_law_dealt" st_law_dealt (fs 16) (fd 16)
  b_law_dealt : Binds K (fd 16) ["corners", "lines", "many"] []
  m_law_dealt : mg "_law_dealt" = some (.ref (fs 16))
  k_law_dealt : PySem.W.keepIn K (.ref (fs 16)) = true
  f_law : Fun K "law" "law" st_law (fs 17) (fd 17)
  b_law : Binds K (fd 17) ["script"] []
  m_law : mg "law" = some (.ref (fs 17))
  k_law : PySem.W.keepIn K (.ref (fs 17)) = true
def mkG (P : Program) (w : World) (K : PySem.W.Frag) (C : Addr) : Gm := ⟨P, w, K, fun _ => C, fun _ => ["corners", "lines", "looked"]⟩
section
variable {P : Program} {w : World} {K : PySem.W.Frag} {mg : Str → Option Value} {base : Heap} {fs : Nat → Addr} {fd : Nat → FuncData} {C : Addr}
theorem Tx.fl_corners (T : Tx K mg fs fd C) (P : Program) (w : World) : FldOk (mkG P w K C) 0 0 "corners" := fld3_0 T.cl T.na_corners rfl rfl
theorem Tx.fl_lines (T : Tx K mg fs fd C) (P : Program) (w : World) : FldOk (mkG P w K C) 0 1 "lines" := fld3_1 T.cl T.na_lines rfl rfl
theorem Tx.fl_looked (T : Tx K mg fs fd C) (P : Program) (w : World) : FldOk (mkG P w K C) 0 2 "looked" := fld3_2 T.cl T.na_looked rfl rfl
theorem sc_law_hand : FnScope ["script", "cells", "cell"] ["script"] (defScope st_law_hand) := ⟨rfl, rfl, rfl, by decide +kernel, rfl, by decide +kernel, by decide +kernel⟩
def c_law_hand_0 : M := mLc [2] (wSeq (mSl (mVar 0) oNone (oSome (mC (.int 63))))) (gN 2) tYesD (mB dAbs (lCons (mB dInt (lCons (mVar 2) lNil)) lNil))
def s_law_hand_0 : MS := (sSet 1 c_law_hand_0)
def s_law_hand_1 : MS := (sRet (mLst (aCons (mVar 1) (aCons (mC (.int 0)) (aCons (mC (.int 0)) (aCons (mBin dAdd (mC (.int 7)) (mB dLen (lCons (mVar 1) lNil))) (aCons (mC (.int 0)) aNil)))))))
def b_law_hand : MS := (sSeq s_law_hand_0
 s_law_hand_1)
def m_law_hand : FM := runF 3 b_law_hand
theorem ok_law_hand (T : Tx K mg fs fd C) : FnOk P w K mg base CX0 1 (fs 0) (fd 0) ["script"] (spD (mkG P w K C) 1 m_law_hand) :=
  fn_ok (G := (mkG P w K C)) T.f_law_hand sc_law_hand rfl rfl fun cdv A outer s H E hr => ⟨_, (pss_cons (ps_setLc (i := 1) (own := [("cell", 2)]) rfl sc_law_hand.nd rfl rfl (sw_true rfl rfl rfl (by decide +kernel)) (pi_seq (pe_slice sl_both (pv 0) po_none (po_some pe_int))) (blkOk_by (N := ["script", "cells", "cell"]) (sc := defScope st_law_hand) (by decide +kernel)) (fun _ _ _ _ _ => (pg_name (i := 2) sc_law_hand.nd rfl (Or.inl rfl))) (fun _ _ _ _ _ => pts_nil) (fun _ _ _ _ _ => (pe_callB (cr_abs (G := (mkG P w K C))) rfl T.z_abs boot_abs_ (pa_cons (pe_callTy (cr_int (G := (mkG P w K C))) rfl T.z_int boot_int_ (pa_cons (pv 2) pa_nil)) pa_nil))))
 (pss_one (ps_ret (pe_lst (pa_cons (pv 1) (pa_cons pe_int (pa_cons pe_int (pa_cons (pe_op (op_addD (G := (mkG P w K C))) pe_int (pe_callB (cr_len (G := (mkG P w K C))) rfl T.z_len boot_len_ (pa_cons (pv 1) pa_nil))) (pa_cons pe_int pa_nil))))))))),
  (ok_seq (ok_set (ok_lc (ok_wSeq (ok_sl (ok_var 0) ok_onone (ok_osome (ok_c fun _ => rfl)))) (ok_vN (by decide)) ok_yes (ok_b (ok_lcons (ok_b (ok_lcons (ok_var 2) ok_lnil)) ok_lnil))))
 (ok_ret (ok_lst (ok_acons (ok_var 1) (ok_acons (ok_c fun _ => rfl) (ok_acons (ok_c fun _ => rfl) (ok_acons (ok_bin (ok_c fun _ => rfl) (ok_b (ok_lcons (ok_var 1) ok_lnil)) ok_r2) (ok_acons (ok_c fun _ => rfl) ok_anil))))) (by decide))))⟩
theorem sc_forests_for : FnScope ["web", "lot", "many", "a", "b"] ["web", "lot"] (defScope st_forests_for) := ⟨rfl, rfl, rfl, by decide +kernel, rfl, by decide +kernel, by decide +kernel⟩
def c_forests_for_0 : M := mLc [3, 4] (wSeq (mFld 0 1 (mVar 0))) (gT 2 (gsC (gN 3) (gsC (gN 4) gsN))) (mAndT (mT (mBin dIn (mVar 3) (mVar 1))) (mT (mBin dIn (mVar 4) (mVar 1)))) (mC (.int 1))
def s_forests_for_0 : MS := (sSet 2 (mB dLen (lCons c_forests_for_0 lNil)))
def s_forests_for_1 : MS := (sRet (mBin dDiv (mBin dSub (mBin dAdd (mVar 2) (mB dLen (lCons (mVar 1) lNil))) (mC (.int 2))) (mBin dSub (mB dLen (lCons (mVar 1) lNil)) (mC (.int 1)))))
def b_forests_for : MS := (sSeq s_forests_for_0
 s_forests_for_1)
def m_forests_for : FM := runF 5 b_forests_for
theorem ok_forests_for (T : Tx K mg fs fd C) : FnOk P w K mg base CX0 1 (fs 1) (fd 1) ["web", "lot"] (spD (mkG P w K C) 2 m_forests_for) :=
  fn_ok (G := (mkG P w K C)) T.f_forests_for sc_forests_for rfl rfl fun cdv A outer s H E hr => ⟨_, (pss_cons (ps_set (i := 2) sc_forests_for.nd rfl (Or.inl rfl) (pe_callB (cr_len (G := (mkG P w K C))) rfl T.z_len boot_len_ (pa_cons (pe_lc (own := [("a", 3), ("b", 4)])   rfl sc_forests_for.nd (pi_seq (pe_fld (pv 0) rfl)) (blkOk_by (N := ["web", "lot", "many", "a", "b"]) (sc := defScope st_forests_for) (by decide +kernel)) (fun _ _ _ _ _ => (pg_tup rfl (pgs_cons (pg_name (i := 3) sc_forests_for.nd rfl (Or.inl rfl)) (pgs_cons (pg_name (i := 4) sc_forests_for.nd rfl (Or.inl rfl)) pgs_nil)))) (fun _ _ _ _ _ => pts_one (PW.pt (pw_and (pt_cmpR (op_inD (G := (mkG P w K C)) (u65 hr)) (pv 3) (pv 1) (by with_unfolding_all rfl)) (pw_and1 (pt_cmpR (op_inD (G := (mkG P w K C)) (u65 hr)) (pv 4) (pv 1) (by with_unfolding_all rfl)))))) (fun _ _ _ _ _ => pe_int)) pa_nil)))
 (pss_one (ps_ret (pe_op op_fdiv (pe_op op_sub (pe_op (op_addD (G := (mkG P w K C))) (pv 2) (pe_callB (cr_len (G := (mkG P w K C))) rfl T.z_len boot_len_ (pa_cons (pv 1) pa_nil))) pe_int) (pe_op op_sub (pe_callB (cr_len (G := (mkG P w K C))) rfl T.z_len boot_len_ (pa_cons (pv 1) pa_nil)) pe_int))))),
  (ok_seq (ok_set (ok_b (ok_lcons (ok_lc (ok_wSeq (ok_fld (T.fl_lines P w) (ok_var 0))) (ok_vT (ok_vsC (ok_vN (by decide)) (ok_vsC (ok_vN (by decide)) ok_vsN))) (ok_andT (ok_t' (ok_bin (ok_var 3) (ok_var 1) ok_r2)) (ok_t' (ok_bin (ok_var 4) (ok_var 1) ok_r2))) (ok_c fun _ => rfl)) ok_lnil)))
 (ok_ret (ok_bin (ok_bin (ok_bin (ok_var 2) (ok_b (ok_lcons (ok_var 1) ok_lnil)) ok_r2) (ok_c fun _ => rfl) ok_sub) (ok_bin (ok_b (ok_lcons (ok_var 1) ok_lnil)) (ok_c fun _ => rfl) ok_sub) ok_div)))⟩
theorem sc_lots_of : FnScope ["corners", "found", "corner", "lot"] ["corners"] (defScope st_lots_of) := ⟨rfl, rfl, rfl, by decide +kernel, rfl, by decide +kernel, by decide +kernel⟩
def s_lots_of_0 : MS := (sSet 1 (mLst (aCons (mTup aNil) aNil)))
def c_lots_of_0 : M := mLc [3] (wSeq (mVar 1)) (gN 3) tYesD (mBin dAdd (mVar 3) (mTup (aCons (mVar 2) aNil)))
def s_lots_of_2 : MS := (sSet 1 (mBin dAdd (mVar 1) c_lots_of_0))
def s_lots_of_1 : MS := (sFor (wRng1 (aCons (mVar 0) aNil)) (gN 2)
 s_lots_of_2)
def s_lots_of_3 : MS := (sRet (mVar 1))
def b_lots_of : MS := (sSeq s_lots_of_0
 (sSeq s_lots_of_1
 s_lots_of_3))
def m_lots_of : FM := runF 4 b_lots_of
theorem ok_lots_of (T : Tx K mg fs fd C) : FnOk P w K mg base CX0 1 (fs 2) (fd 2) ["corners"] (spD (mkG P w K C) 1 m_lots_of) :=
  fn_ok (G := (mkG P w K C)) T.f_lots_of sc_lots_of rfl rfl fun cdv A outer s H E hr => ⟨_, (pss_cons (ps_set (i := 1) sc_lots_of.nd rfl (Or.inl rfl) (pe_lst (pa_cons (pe_tup pa_nil) pa_nil)))
 (pss_cons (ps_for PassesOwn.never rfl (pi_range1 rfl T.z_range (pa_cons (pv 0) pa_nil)) (pg_name (i := 2) sc_lots_of.nd rfl (Or.inr rfl))
 (pss_one (ps_set (i := 1) sc_lots_of.nd rfl (Or.inl rfl) (pe_op (op_addD (G := (mkG P w K C))) (pv 1) (pe_lc (own := [("lot", 3)])   rfl sc_lots_of.nd (pi_seq (pv 1)) (blkOk_by (N := ["corners", "found", "corner", "lot"]) (sc := defScope st_lots_of) (by decide +kernel)) (fun _ _ _ _ _ => (pg_name (i := 3) sc_lots_of.nd rfl (Or.inl rfl))) (fun _ _ _ _ _ => pts_nil) (fun _ _ _ _ _ => (pe_op (op_addD (G := (mkG P w K C))) (pv 3) (pe_tup (pa_cons (pv 2) pa_nil)))))))))
 (pss_one (ps_ret (pv 1))))),
  (ok_seq (ok_set (ok_lst (ok_acons (ok_tup ok_anil (by decide)) ok_anil) (by decide)))
 (ok_seq (ok_for (ok_wRng1 (ok_acons (ok_var 0) ok_anil)) ok_gN
 (ok_set (ok_bin (ok_var 1) (ok_lc (ok_wSeq (ok_var 1)) (ok_vN (by decide)) ok_yes (ok_bin (ok_var 3) (ok_tup (ok_acons (ok_var 2) ok_anil) (by decide)) ok_r2)) ok_r2)))
 (ok_ret (ok_var 1))))⟩
theorem sc_forests_needed : FnScope ["web", "some", "most", "lot"] ["web"] (defScope st_forests_needed) := ⟨rfl, rfl, rfl, by decide +kernel, rfl, by decide +kernel, by decide +kernel⟩
def s_forests_needed_1 : MS := (sRet (mTup (aCons (mC (.int 0)) (aCons (mTup aNil) aNil))))
def s_forests_needed_0 : MS := (sIf (mT (mBin dEqA (mB dLen (lCons (mFld 0 1 (mVar 0)) lNil)) (mC (.int 0))))
 s_forests_needed_1
 sNx)
def c_forests_needed_0 : M := mLc [3] (wSeq (mB dSortedA (lCons (mCall m_lots_of (cVal (mFld 0 0 (mVar 0)) cNil)) lNil))) (gN 3) (mT (mBin dGtA (mB dLen (lCons (mVar 3) lNil)) (mC (.int 1)))) (mVar 3)
def s_forests_needed_2 : MS := (sSet 1 c_forests_needed_0)
def c_forests_needed_1 : M := mLc [3] (wSeq (mVar 1)) (gN 3) tYesD (mCall m_forests_for (cVal (mVar 0) (cVal (mVar 3) cNil)))
def s_forests_needed_3 : MS := (sSet 2 (mB dMaxL (lCons c_forests_needed_1 lNil)))
def c_forests_needed_2 : M := mLc [3] (wSeq (mVar 1)) (gN 3) (mT (mBin dEqA (mCall m_forests_for (cVal (mVar 0) (cVal (mVar 3) cNil))) (mVar 2))) (mVar 3)
def s_forests_needed_4 : MS := (sRet (mTup (aCons (mVar 2) (aCons (mBin dIx c_forests_needed_2 (mC (.int 0))) aNil))))
def b_forests_needed : MS := (sSeq s_forests_needed_0
 (sSeq s_forests_needed_2
 (sSeq s_forests_needed_3
 s_forests_needed_4)))
def m_forests_needed : FM := runF 4 b_forests_needed
theorem ok_forests_needed (T : Tx K mg fs fd C) : FnOk P w K mg base CX0 2 (fs 3) (fd 3) ["web"] (spD (mkG P w K C) 1 m_forests_needed) :=
  fn_ok (G := (mkG P w K C)) T.f_forests_needed sc_forests_needed rfl rfl fun cdv A outer s H E hr => ⟨_, (pss_cons (ps_if (pt_cmpR (op_eqA (G := (mkG P w K C)) hr.units) (pe_callB (cr_len (G := (mkG P w K C))) rfl T.z_len boot_len_ (pa_cons (pe_fld (pv 0) rfl) pa_nil)) pe_int (nomark _))
 (pss_one (ps_ret (pe_tup (pa_cons pe_int (pa_cons (pe_tup pa_nil) pa_nil)))))
 pss_nil)
 (pss_cons (ps_setLc (i := 1) (own := [("lot", 3)]) rfl sc_forests_needed.nd rfl rfl (sw_true rfl rfl rfl (by decide +kernel)) (pi_seq (pe_callB (cr_sortedA rfl (u66 hr) (G := (mkG P w K C))) rfl T.z_sorted boot_sorted_ (pa_cons (pe_call (ok_lots_of T) (hr.mono (by decide)) rfl T.m_lots_of T.k_lots_of T.b_lots_of .nil pass0 (pa_cons (pe_fld (pv 0) rfl) pa_nil)) pa_nil))) (blkOk_by (N := ["web", "some", "most", "lot"]) (sc := defScope st_forests_needed) (by decide +kernel)) (fun _ _ _ _ _ => (pg_name (i := 3) sc_forests_needed.nd rfl (Or.inl rfl))) (fun _ _ _ _ _ => pts_one (pt_cmpR (op_gtA (G := (mkG P w K C)) hr.units) (pe_callB (cr_len (G := (mkG P w K C))) rfl T.z_len boot_len_ (pa_cons (pv 3) pa_nil)) pe_int (nomark _))) (fun _ _ _ _ _ => (pv 3)))
 (pss_cons (ps_set (i := 2) sc_forests_needed.nd rfl (Or.inr rfl) (pe_callB (cr_maxL hr.hd (u66 hr) (G := (mkG P w K C))) rfl T.z_max boot_max_ (pa_cons (pe_lc (own := [("lot", 3)])   rfl sc_forests_needed.nd (pi_seq (pv 1)) (blkOk_by (N := ["web", "some", "most", "lot"]) (sc := defScope st_forests_needed) (by decide +kernel)) (fun _ _ _ _ _ => (pg_name (i := 3) sc_forests_needed.nd rfl (Or.inl rfl))) (fun _ _ _ _ _ => pts_nil) (fun _ _ _ _ _ => (pe_call (ok_forests_for T) (hr.mono (by decide)) rfl T.m_forests_for T.k_forests_for T.b_forests_for .nil pass0 (pa_cons (pv 0) (pa_cons (pv 3) pa_nil))))) pa_nil)))
 (pss_one (ps_ret (pe_tup (pa_cons (pv 2) (pa_cons (pe_ix ix_seq (pe_lc (own := [("lot", 3)])   rfl sc_forests_needed.nd (pi_seq (pv 1)) (blkOk_by (N := ["web", "some", "most", "lot"]) (sc := defScope st_forests_needed) (by decide +kernel)) (fun _ _ _ _ _ => (pg_name (i := 3) sc_forests_needed.nd rfl (Or.inl rfl))) (fun _ _ _ _ _ => pts_one (pt_cmpR (op_eqA (G := (mkG P w K C)) hr.units) (pe_call (ok_forests_for T) (hr.mono (by decide)) rfl T.m_forests_for T.k_forests_for T.b_forests_for .nil pass0 (pa_cons (pv 0) (pa_cons (pv 3) pa_nil))) (pv 2) (nomark _))) (fun _ _ _ _ _ => (pv 3))) pe_int (fun _ _ => rfl)) pa_nil)))))))),
  (ok_seq (ok_if (ok_t' (ok_bin (ok_b (ok_lcons (ok_fld (T.fl_lines P w) (ok_var 0)) ok_lnil)) (ok_c fun _ => rfl) ok_r2))
 (ok_ret (ok_tup (ok_acons (ok_c fun _ => rfl) (ok_acons (ok_tup ok_anil (by decide)) ok_anil)) (by decide)))
 ok_nx)
 (ok_seq (ok_set (ok_lc (ok_wSeq (ok_b (ok_lcons (ok_call (ok_cval (ok_fld (T.fl_corners P w) (ok_var 0)) ok_cnil) rfl) ok_lnil))) (ok_vN (by decide)) (ok_t' (ok_bin (ok_b (ok_lcons (ok_var 3) ok_lnil)) (ok_c fun _ => rfl) ok_r2)) (ok_var 3)))
 (ok_seq (ok_set (ok_b (ok_lcons (ok_lc (ok_wSeq (ok_var 1)) (ok_vN (by decide)) ok_yes (ok_call (ok_cval (ok_var 0) (ok_cval (ok_var 3) ok_cnil)) rfl)) ok_lnil)))
 (ok_ret (ok_tup (ok_acons (ok_var 2) (ok_acons (ok_bin (ok_lc (ok_wSeq (ok_var 1)) (ok_vN (by decide)) (ok_t' (ok_bin (ok_call (ok_cval (ok_var 0) (ok_cval (ok_var 3) ok_cnil)) rfl) (ok_var 2) ok_r2)) (ok_var 3)) (ok_c fun _ => rfl) ok_ix) ok_anil)) (by decide))))))⟩
theorem sc_law_draw : FnScope ["hand", "sides", "cell", "digit", "number"] ["hand", "sides"] (defScope st_law_draw) := ⟨rfl, rfl, rfl, by decide +kernel, rfl, by decide +kernel, by decide +kernel⟩
def s_law_draw_1 : MS := (sSet 2 (mBin dIx (mBin dIx (mVar 0) (mC (.int 0))) (mBin dIx (mVar 0) (mC (.int 1)))))
def s_law_draw_2 : MS := (sAsg (mBin dAdd (mBin dIx (mVar 0) (mC (.int 1))) (mC (.int 1))) (gItem 0 (mC (.int 1))))
def s_law_draw_3 : MS := (sAsg (mBin dMod (mB dInt (lCons (mBin dAdd (mBin dAdd (mBin dMulA (mBin dIx (mVar 0) (mC (.int 3))) (mC (.int 69621))) (mBin dMulA (mVar 2) (mC (.int 16)))) (mC (.int 29))) lNil)) (mC (.int 2147483629))) (gItem 0 (mC (.int 3))))
def s_law_draw_5 : MS := (sAsg (mVar 2) (gItem 0 (mC (.int 2))))
def s_law_draw_4 : MS := (sIf (mT (mBin dGeA (mVar 2) (mBin dPow (mC (.int 10)) (mC (.int 18)))))
 s_law_draw_5
 sNx)
def s_law_draw_0 : MS := (sIf (mAndT (mT (mBin dEqA (mBin dIx (mVar 0) (mC (.int 2))) (mC (.int 0)))) (mT (mBin dLtA (mBin dIx (mVar 0) (mC (.int 1))) (mB dLen (lCons (mBin dIx (mVar 0) (mC (.int 0))) lNil)))))
 (sSeq s_law_draw_1
 (sSeq s_law_draw_2
 (sSeq s_law_draw_3
 s_law_draw_4)))
 sNx)
def s_law_draw_7 : MS := (sSet 3 (mBin dMod (mB dInt (lCons (mBin dIx (mVar 0) (mC (.int 2))) lNil)) (mVar 1)))
def s_law_draw_8 : MS := (sAsg (mBin dDiv (mBin dIx (mVar 0) (mC (.int 2))) (mVar 1)) (gItem 0 (mC (.int 2))))
def s_law_draw_9 : MS := (sRet (mVar 3))
def s_law_draw_6 : MS := (sIf (mT (mBin dGtA (mBin dIx (mVar 0) (mC (.int 2))) (mC (.int 0))))
 (sSeq s_law_draw_7
 (sSeq s_law_draw_8
 s_law_draw_9))
 sNx)
def s_law_draw_10 : MS := (sAsg (mBin dAdd (mBin dIx (mVar 0) (mC (.int 4))) (mC (.int 1))) (gItem 0 (mC (.int 4))))
def s_law_draw_11 : MS := (sSet 4 (mBin dMod (mB dInt (lCons (mBin dMulA (mB dInt (lCons (mBin dAdd (mBin dIx (mVar 0) (mC (.int 3))) (mBin dMulA (mC (.int 7919)) (mBin dIx (mVar 0) (mC (.int 4))))) lNil)) (mC (.int 48271))) lNil)) (mC (.int 2147483647))))
def s_law_draw_12 : MS := (sSet 4 (mBin dMod (mB dInt (lCons (mBin dMulA (mVar 4) (mBin dAdd (mBin dDiv (mVar 4) (mC (.int 1009))) (mC (.int 69621)))) lNil)) (mC (.int 2147483647))))
def s_law_draw_13 : MS := (sSet 4 (mBin dMod (mB dInt (lCons (mBin dMulA (mVar 4) (mBin dAdd (mBin dDiv (mVar 4) (mC (.int 2003))) (mC (.int 40692)))) lNil)) (mC (.int 2147483399))))
def s_law_draw_14 : MS := (sRet (mBin dMod (mB dInt (lCons (mBin dDiv (mVar 4) (mC (.int 16))) lNil)) (mVar 1)))
def b_law_draw : MS := (sSeq s_law_draw_0
 (sSeq s_law_draw_6
 (sSeq s_law_draw_10
 (sSeq s_law_draw_11
 (sSeq s_law_draw_12
 (sSeq s_law_draw_13
 s_law_draw_14))))))
def m_law_draw : FM := runF 5 b_law_draw
theorem ok_law_draw (T : Tx K mg fs fd C) : FnOk P w K mg base CX0 1 (fs 4) (fd 4) ["hand", "sides"] (spD (mkG P w K C) 2 m_law_draw) :=
  fn_ok (G := (mkG P w K C)) T.f_law_draw sc_law_draw rfl rfl fun cdv A outer s H E hr => ⟨_, (pss_cons (ps_if (PW.pt (pw_and (pt_cmpR (op_eqA (G := (mkG P w K C)) hr.units) (pe_ix ix_seq (pv 0) pe_int (fun _ _ => rfl)) pe_int (nomark _)) (pw_and1 (pt_cmpR (op_ltA (G := (mkG P w K C)) hr.units) (pe_ix ix_seq (pv 0) pe_int (fun _ _ => rfl)) (pe_callB (cr_len (G := (mkG P w K C))) rfl T.z_len boot_len_ (pa_cons (pe_ix ix_seq (pv 0) pe_int (fun _ _ => rfl)) pa_nil)) (nomark _)))))
 (pss_cons (ps_set (i := 2) sc_law_draw.nd rfl (Or.inl rfl) (pe_ix ix_seq (pe_ix ix_seq (pv 0) pe_int (fun _ _ => rfl)) (pe_ix ix_seq (pv 0) pe_int (fun _ _ => rfl)) (fun _ _ => rfl)))
 (pss_cons (ps_asg (pe_op (op_addD (G := (mkG P w K C))) (pe_ix ix_seq (pv 0) pe_int (fun _ _ => rfl)) pe_int) (pg_sub (pv 0) pe_int (set_any (G := (mkG P w K C)) hr.units)))
 (pss_cons (ps_asg (pe_op op_mod (pe_callTy (cr_int (G := (mkG P w K C))) rfl T.z_int boot_int_ (pa_cons (pe_op (op_addD (G := (mkG P w K C))) (pe_op (op_addD (G := (mkG P w K C))) (pe_op (op_mulD (G := (mkG P w K C))) (pe_ix ix_seq (pv 0) pe_int (fun _ _ => rfl)) pe_int) (pe_op (op_mulD (G := (mkG P w K C))) (pv 2) pe_int)) pe_int) pa_nil)) pe_int) (pg_sub (pv 0) pe_int (set_any (G := (mkG P w K C)) hr.units)))
 (pss_one (ps_if (pt_cmpR (op_geA (G := (mkG P w K C)) hr.units) (pv 2) (pe_op op_pow pe_int pe_int) (nomark _))
 (pss_one (ps_asg (pv 2) (pg_sub (pv 0) pe_int (set_any (G := (mkG P w K C)) hr.units))))
 pss_nil)))))
 pss_nil)
 (pss_cons (ps_if (pt_cmpR (op_gtA (G := (mkG P w K C)) hr.units) (pe_ix ix_seq (pv 0) pe_int (fun _ _ => rfl)) pe_int (nomark _))
 (pss_cons (ps_set (i := 3) sc_law_draw.nd rfl (Or.inl rfl) (pe_op op_mod (pe_callTy (cr_int (G := (mkG P w K C))) rfl T.z_int boot_int_ (pa_cons (pe_ix ix_seq (pv 0) pe_int (fun _ _ => rfl)) pa_nil)) (pv 1)))
 (pss_cons (ps_asg (pe_op op_fdiv (pe_ix ix_seq (pv 0) pe_int (fun _ _ => rfl)) (pv 1)) (pg_sub (pv 0) pe_int (set_any (G := (mkG P w K C)) hr.units)))
 (pss_one (ps_ret (pv 3)))))
 pss_nil)
 (pss_cons (ps_asg (pe_op (op_addD (G := (mkG P w K C))) (pe_ix ix_seq (pv 0) pe_int (fun _ _ => rfl)) pe_int) (pg_sub (pv 0) pe_int (set_any (G := (mkG P w K C)) hr.units)))
 (pss_cons (ps_set (i := 4) sc_law_draw.nd rfl (Or.inl rfl) (pe_op op_mod (pe_callTy (cr_int (G := (mkG P w K C))) rfl T.z_int boot_int_ (pa_cons (pe_op (op_mulD (G := (mkG P w K C))) (pe_callTy (cr_int (G := (mkG P w K C))) rfl T.z_int boot_int_ (pa_cons (pe_op (op_addD (G := (mkG P w K C))) (pe_ix ix_seq (pv 0) pe_int (fun _ _ => rfl)) (pe_op (op_mulD (G := (mkG P w K C))) pe_int (pe_ix ix_seq (pv 0) pe_int (fun _ _ => rfl)))) pa_nil)) pe_int) pa_nil)) pe_int))
 (pss_cons (ps_set (i := 4) sc_law_draw.nd rfl (Or.inl rfl) (pe_op op_mod (pe_callTy (cr_int (G := (mkG P w K C))) rfl T.z_int boot_int_ (pa_cons (pe_op (op_mulD (G := (mkG P w K C))) (pv 4) (pe_op (op_addD (G := (mkG P w K C))) (pe_op op_fdiv (pv 4) pe_int) pe_int)) pa_nil)) pe_int))
 (pss_cons (ps_set (i := 4) sc_law_draw.nd rfl (Or.inl rfl) (pe_op op_mod (pe_callTy (cr_int (G := (mkG P w K C))) rfl T.z_int boot_int_ (pa_cons (pe_op (op_mulD (G := (mkG P w K C))) (pv 4) (pe_op (op_addD (G := (mkG P w K C))) (pe_op op_fdiv (pv 4) pe_int) pe_int)) pa_nil)) pe_int))
 (pss_one (ps_ret (pe_op op_mod (pe_callTy (cr_int (G := (mkG P w K C))) rfl T.z_int boot_int_ (pa_cons (pe_op op_fdiv (pv 4) pe_int) pa_nil)) (pv 1)))))))))),
  (ok_seq (ok_if (ok_andT (ok_t' (ok_bin (ok_bin (ok_var 0) (ok_c fun _ => rfl) ok_ix) (ok_c fun _ => rfl) ok_r2)) (ok_t' (ok_bin (ok_bin (ok_var 0) (ok_c fun _ => rfl) ok_ix) (ok_b (ok_lcons (ok_bin (ok_var 0) (ok_c fun _ => rfl) ok_ix) ok_lnil)) ok_r2)))
 (ok_seq (ok_set (ok_bin (ok_bin (ok_var 0) (ok_c fun _ => rfl) ok_ix) (ok_bin (ok_var 0) (ok_c fun _ => rfl) ok_ix) ok_ix))
 (ok_seq (ok_asg (ok_bin (ok_bin (ok_var 0) (ok_c fun _ => rfl) ok_ix) (ok_c fun _ => rfl) ok_r2) (ok_gItem (ok_c fun _ => rfl)))
 (ok_seq (ok_asg (ok_bin (ok_b (ok_lcons (ok_bin (ok_bin (ok_bin (ok_bin (ok_var 0) (ok_c fun _ => rfl) ok_ix) (ok_c fun _ => rfl) ok_r2) (ok_bin (ok_var 2) (ok_c fun _ => rfl) ok_r2) ok_r2) (ok_c fun _ => rfl) ok_r2) ok_lnil)) (ok_c fun _ => rfl) ok_mod) (ok_gItem (ok_c fun _ => rfl)))
 (ok_if (ok_t' (ok_bin (ok_var 2) (ok_bin (ok_c fun _ => rfl) (ok_c fun _ => rfl) ok_pow) ok_r2))
 (ok_asg (ok_var 2) (ok_gItem (ok_c fun _ => rfl)))
 ok_nx))))
 ok_nx)
 (ok_seq (ok_if (ok_t' (ok_bin (ok_bin (ok_var 0) (ok_c fun _ => rfl) ok_ix) (ok_c fun _ => rfl) ok_r2))
 (ok_seq (ok_set (ok_bin (ok_b (ok_lcons (ok_bin (ok_var 0) (ok_c fun _ => rfl) ok_ix) ok_lnil)) (ok_var 1) ok_mod))
 (ok_seq (ok_asg (ok_bin (ok_bin (ok_var 0) (ok_c fun _ => rfl) ok_ix) (ok_var 1) ok_div) (ok_gItem (ok_c fun _ => rfl)))
 (ok_ret (ok_var 3))))
 ok_nx)
 (ok_seq (ok_asg (ok_bin (ok_bin (ok_var 0) (ok_c fun _ => rfl) ok_ix) (ok_c fun _ => rfl) ok_r2) (ok_gItem (ok_c fun _ => rfl)))
 (ok_seq (ok_set (ok_bin (ok_b (ok_lcons (ok_bin (ok_b (ok_lcons (ok_bin (ok_bin (ok_var 0) (ok_c fun _ => rfl) ok_ix) (ok_bin (ok_c fun _ => rfl) (ok_bin (ok_var 0) (ok_c fun _ => rfl) ok_ix) ok_r2) ok_r2) ok_lnil)) (ok_c fun _ => rfl) ok_r2) ok_lnil)) (ok_c fun _ => rfl) ok_mod))
 (ok_seq (ok_set (ok_bin (ok_b (ok_lcons (ok_bin (ok_var 4) (ok_bin (ok_bin (ok_var 4) (ok_c fun _ => rfl) ok_div) (ok_c fun _ => rfl) ok_r2) ok_r2) ok_lnil)) (ok_c fun _ => rfl) ok_mod))
 (ok_seq (ok_set (ok_bin (ok_b (ok_lcons (ok_bin (ok_var 4) (ok_bin (ok_bin (ok_var 4) (ok_c fun _ => rfl) ok_div) (ok_c fun _ => rfl) ok_r2) ok_r2) ok_lnil)) (ok_c fun _ => rfl) ok_mod))
 (ok_ret (ok_bin (ok_b (ok_lcons (ok_bin (ok_var 4) (ok_c fun _ => rfl) ok_div) ok_lnil)) (ok_var 1) ok_mod))))))))⟩
theorem sc_law_pairs : FnScope ["corners", "found", "a", "b"] ["corners"] (defScope st_law_pairs) := ⟨rfl, rfl, rfl, by decide +kernel, rfl, by decide +kernel, by decide +kernel⟩
def s_law_pairs_0 : MS := (sSet 1 (mLst aNil))
def c_law_pairs_0 : M := mLc [3] (wRng2 (aCons (mBin dAdd (mVar 2) (mC (.int 1))) (aCons (mVar 0) aNil))) (gN 3) tYesD (mTup (aCons (mVar 2) (aCons (mVar 3) aNil)))
def s_law_pairs_2 : MS := (sDrop (mExt 1 c_law_pairs_0))
def s_law_pairs_1 : MS := (sFor (wRng1 (aCons (mVar 0) aNil)) (gN 2)
 s_law_pairs_2)
def s_law_pairs_3 : MS := (sRet (mVar 1))
def b_law_pairs : MS := (sSeq s_law_pairs_0
 (sSeq s_law_pairs_1
 s_law_pairs_3))
def m_law_pairs : FM := runF 4 b_law_pairs
theorem ok_law_pairs (T : Tx K mg fs fd C) : FnOk P w K mg base CX0 1 (fs 5) (fd 5) ["corners"] (spD (mkG P w K C) 1 m_law_pairs) :=
  fn_ok (G := (mkG P w K C)) T.f_law_pairs sc_law_pairs rfl rfl fun cdv A outer s H E hr => ⟨_, (pss_cons (ps_set (i := 1) sc_law_pairs.nd rfl (Or.inl rfl) (pe_lst pa_nil))
 (pss_cons (ps_for PassesOwn.never rfl (pi_range1 rfl T.z_range (pa_cons (pv 0) pa_nil)) (pg_name (i := 2) sc_law_pairs.nd rfl (Or.inr rfl))
 (pss_one (ps_expr (pe_bm PySem.F.plainAttrs_list PySem.F.slot_list_extend PySem.F.type_list_extend mt_extend (pv 1) (pa_cons (pe_lc (own := [("b", 3)])   rfl sc_law_pairs.nd (pi_range2 rfl T.z_range (pa_cons (pe_op (op_addD (G := (mkG P w K C))) (pv 2) pe_int) (pa_cons (pv 0) pa_nil))) (blkOk_by (N := ["corners", "found", "a", "b"]) (sc := defScope st_law_pairs) (by decide +kernel)) (fun _ _ _ _ _ => (pg_name (i := 3) sc_law_pairs.nd rfl (Or.inl rfl))) (fun _ _ _ _ _ => pts_nil) (fun _ _ _ _ _ => (pe_tup (pa_cons (pv 2) (pa_cons (pv 3) pa_nil))))) pa_nil)))))
 (pss_one (ps_ret (pv 1))))),
  (ok_seq (ok_set (ok_lst ok_anil (by decide)))
 (ok_seq (ok_for (ok_wRng1 (ok_acons (ok_var 0) ok_anil)) ok_gN
 (ok_drop (ok_ext (ok_lc (ok_wRng2 (ok_acons (ok_bin (ok_var 2) (ok_c fun _ => rfl) ok_r2) (ok_acons (ok_var 0) ok_anil))) (ok_vN (by decide)) ok_yes (ok_tup (ok_acons (ok_var 2) (ok_acons (ok_var 3) ok_anil)) (by decide))))))
 (ok_ret (ok_var 1))))⟩
theorem sc_law_lines : FnScope ["hand", "corners", "kind", "often", "found", "line", "b"] ["hand", "corners"] (defScope st_law_lines) := ⟨rfl, rfl, rfl, by decide +kernel, rfl, by decide +kernel, by decide +kernel⟩
def s_law_lines_0 : MS := (sPar [2, 3] (rCons (mCall m_law_draw (cIo 0 (cVal (mC (.int 4)) cNil))) (rCons (mBin dAdd (mC (.int 2)) (mCall m_law_draw (cIo 0 (cVal (mC (.int 3)) cNil)))) rNil)))
def c_law_lines_0 : M := mLc [5] (wSeq (mCall m_law_pairs (cVal (mVar 1) cNil))) (gN 5) (mT (mBin dNeA (mBin dEqA (mCall m_law_draw (cIo 0 (cVal (mVar 3) cNil))) (mC (.int 0))) (mBin dEqA (mVar 2) (mC (.int 1))))) (mVar 5)
def s_law_lines_1 : MS := (sSet 4 c_law_lines_0)
def c_law_lines_1 : M := mLc [6] (wRng2 (aCons (mC (.int 1)) (aCons (mVar 1) aNil))) (gN 6) tYesD (mTup (aCons (mCall m_law_draw (cIo 0 (cVal (mVar 6) cNil))) (aCons (mVar 6) aNil)))
def s_law_lines_3 : MS := (sDrop (mExt 4 c_law_lines_1))
def s_law_lines_2 : MS := (sIf (mT (mBin dGtA (mVar 2) (mC (.int 1))))
 s_law_lines_3
 sNx)
def s_law_lines_4 : MS := (sRet (mB dTuple (lCons (mB dSortedA (lCons (mB dSetT (lCons (mVar 4) lNil)) lNil)) lNil)))
def b_law_lines : MS := (sSeq s_law_lines_0
 (sSeq s_law_lines_1
 (sSeq s_law_lines_2
 s_law_lines_4)))
def m_law_lines : FM := runF 7 b_law_lines
theorem ok_law_lines (T : Tx K mg fs fd C) : FnOk P w K mg base CX0 2 (fs 6) (fd 6) ["hand", "corners"] (spD (mkG P w K C) 2 m_law_lines) :=
  fn_ok (G := (mkG P w K C)) T.f_law_lines sc_law_lines rfl rfl fun cdv A outer s H E hr => ⟨_, (pss_cons (ps_asg (pe_tup (pa_cons (pe_call (ok_law_draw T) (hr.mono (by decide)) rfl T.m_law_draw T.k_law_draw T.b_law_draw .nil pass0 (pa_cons (pv 0) (pa_cons pe_int pa_nil))) (pa_cons (pe_op (op_addD (G := (mkG P w K C))) pe_int (pe_call (ok_law_draw T) (hr.mono (by decide)) rfl T.m_law_draw T.k_law_draw T.b_law_draw .nil pass0 (pa_cons (pv 0) (pa_cons pe_int pa_nil)))) pa_nil))) (pg_tup rfl (pgs_cons (pg_name (i := 2) sc_law_lines.nd rfl (Or.inr rfl)) (pgs_cons (pg_name (i := 3) sc_law_lines.nd rfl (Or.inr rfl)) pgs_nil))))
 (pss_cons (ps_setLc (i := 4) (own := [("line", 5)]) rfl sc_law_lines.nd rfl rfl (sw_true rfl rfl rfl (by decide +kernel)) (pi_seq (pe_call (ok_law_pairs T) (hr.mono (by decide)) rfl T.m_law_pairs T.k_law_pairs T.b_law_pairs .nil pass0 (pa_cons (pv 1) pa_nil))) (blkOk_by (N := ["hand", "corners", "kind", "often", "found", "line", "b"]) (sc := defScope st_law_lines) (by decide +kernel)) (fun _ _ _ _ _ => (pg_name (i := 5) sc_law_lines.nd rfl (Or.inl rfl))) (fun _ _ _ _ _ => pts_one (pt_cmpR (op_neA (G := (mkG P w K C)) hr.units) (pe_cmpR (op_eqA (G := (mkG P w K C)) hr.units) (pe_call (ok_law_draw T) (hr.mono (by decide)) rfl T.m_law_draw T.k_law_draw T.b_law_draw .nil pass0 (pa_cons (pv 0) (pa_cons (pv 3) pa_nil))) pe_int (nomark _)) (pe_cmpR (op_eqA (G := (mkG P w K C)) hr.units) (pv 2) pe_int (nomark _)) (nomark _))) (fun _ _ _ _ _ => (pv 5)))
 (pss_cons (ps_if (pt_cmpR (op_gtA (G := (mkG P w K C)) hr.units) (pv 2) pe_int (nomark _))
 (pss_one (ps_expr (pe_bm PySem.F.plainAttrs_list PySem.F.slot_list_extend PySem.F.type_list_extend mt_extend (pv 4) (pa_cons (pe_lc (own := [("b", 6)])   rfl sc_law_lines.nd (pi_range2 rfl T.z_range (pa_cons pe_int (pa_cons (pv 1) pa_nil))) (blkOk_by (N := ["hand", "corners", "kind", "often", "found", "line", "b"]) (sc := defScope st_law_lines) (by decide +kernel)) (fun _ _ _ _ _ => (pg_name (i := 6) sc_law_lines.nd rfl (Or.inl rfl))) (fun _ _ _ _ _ => pts_nil) (fun _ _ _ _ _ => (pe_tup (pa_cons (pe_call (ok_law_draw T) (hr.mono (by decide)) rfl T.m_law_draw T.k_law_draw T.b_law_draw .nil pass0 (pa_cons (pv 0) (pa_cons (pv 6) pa_nil))) (pa_cons (pv 6) pa_nil))))) pa_nil))))
 pss_nil)
 (pss_one (ps_ret (pe_callTy (cr_tuple (G := (mkG P w K C))) rfl T.z_tuple boot_tuple_ (pa_cons (pe_callB (cr_sortedA rfl (u66 hr) (G := (mkG P w K C))) rfl T.z_sorted boot_sorted_ (pa_cons (pe_callTy (cr_setT rfl hr.units (G := (mkG P w K C))) rfl T.z_set boot_set_ (pa_cons (pv 4) pa_nil)) pa_nil)) pa_nil))))))),
  (ok_seq (ok_parT (ok_rcons (ok_call (ok_cio (i := 0) (ok_cval (ok_c fun _ => rfl) ok_cnil)) rfl) (ok_rcons (ok_bin (ok_c fun _ => rfl) (ok_call (ok_cio (i := 0) (ok_cval (ok_c fun _ => rfl) ok_cnil)) rfl) ok_r2) ok_rnil)) (by decide) (gs_namesC (gs_namesC gs_names)))
 (ok_seq (ok_set (ok_lc (ok_wSeq (ok_call (ok_cval (ok_var 1) ok_cnil) rfl)) (ok_vN (by decide)) (ok_t' (ok_bin (ok_bin (ok_call (ok_cio (i := 0) (ok_cval (ok_var 3) ok_cnil)) rfl) (ok_c fun _ => rfl) ok_r2) (ok_bin (ok_var 2) (ok_c fun _ => rfl) ok_r2) ok_r2)) (ok_var 5)))
 (ok_seq (ok_if (ok_t' (ok_bin (ok_var 2) (ok_c fun _ => rfl) ok_r2))
 (ok_drop (ok_ext (ok_lc (ok_wRng2 (ok_acons (ok_c fun _ => rfl) (ok_acons (ok_var 1) ok_anil))) (ok_vN (by decide)) ok_yes (ok_tup (ok_acons (ok_call (ok_cio (i := 0) (ok_cval (ok_var 6) ok_cnil)) rfl) (ok_acons (ok_var 6) ok_anil)) (by decide)))))
 ok_nx)
 (ok_ret (ok_b (ok_lcons (ok_b (ok_lcons (ok_b (ok_lcons (ok_var 4) ok_lnil)) ok_lnil)) ok_lnil))))))⟩
theorem sc_is_integer : FnScope ["thing"] ["thing"] (defScope st_is_integer) := ⟨rfl, rfl, rfl, by decide +kernel, rfl, by decide +kernel, by decide +kernel⟩
def s_is_integer_0 : MS := (sRet (mAndV (mIsi "int" (mVar 0)) (mNotV (mIsi "bool" (mVar 0)))))
def b_is_integer : MS := s_is_integer_0
def m_is_integer : FM := runF 1 b_is_integer
theorem ok_is_integer (T : Tx K mg fs fd C) : FnOk P w K mg base CX0 1 (fs 7) (fd 7) ["thing"] (spD (mkG P w K C) 1 m_is_integer) :=
  fn_ok (G := (mkG P w K C)) T.f_is_integer sc_is_integer rfl rfl fun cdv A outer s H E hr => ⟨_, (pss_one (ps_ret (pe_and (pe_callB call_isi rfl T.z_isinstance boot_isinstance (pa_cons (pv 0) (pa_cons (pe_bltn (v := .ty "int") rfl T.z_int boot_int_ rfl) pa_nil))) (pe_one (pe_not (pe_callB call_isi rfl T.z_isinstance boot_isinstance (pa_cons (pv 0) (pa_cons (pe_bltn (v := .ty "bool") rfl T.z_bool boot_bool_ rfl) pa_nil)))))))),
  (ok_ret (ok_andV (ok_isi (ok_var 0)) (ok_notV (ok_isi (ok_var 0)))))⟩
theorem sc_is_within : FnScope ["thing", "low", "high"] ["thing", "low", "high"] (defScope st_is_within) := ⟨rfl, rfl, rfl, by decide +kernel, rfl, by decide +kernel, by decide +kernel⟩
def s_is_within_0 : MS := (sRet (mAndV (mCall m_is_integer (cVal (mVar 0) cNil)) (mChain dLeA dLeA (mVar 1) (mVar 0) (mVar 2))))
def b_is_within : MS := s_is_within_0
def m_is_within : FM := runF 3 b_is_within
theorem ok_is_within (T : Tx K mg fs fd C) : FnOk P w K mg base CX0 2 (fs 8) (fd 8) ["thing", "low", "high"] (spD (mkG P w K C) 3 m_is_within) :=
  fn_ok (G := (mkG P w K C)) T.f_is_within sc_is_within rfl rfl fun cdv A outer s H E hr => ⟨_, (pss_one (ps_ret (pe_and (pe_call (ok_is_integer T) (hr.mono (by decide)) rfl T.m_is_integer T.k_is_integer T.b_is_integer .nil pass0 (pa_cons (pv 0) pa_nil)) (pe_one (pe_chain (op_leA (G := (mkG P w K C)) hr.units) (op_leA (G := (mkG P w K C)) hr.units) (pv 1) (pv 0) (pv 2)))))),
  (ok_ret (ok_andV (ok_call (ok_cval (ok_var 0) ok_cnil) rfl) (ok_chain (ok_var 1) (ok_var 0) (ok_var 2) ok_r2 ok_r2)))⟩
theorem sc_is_count : FnScope ["thing"] ["thing"] (defScope st_is_count) := ⟨rfl, rfl, rfl, by decide +kernel, rfl, by decide +kernel, by decide +kernel⟩
def s_is_count_0 : MS := (sRet (mCall m_is_within (cVal (mVar 0) (cVal (mC (.int 1)) (cVal (mC (.int 7)) cNil)))))
def b_is_count : MS := s_is_count_0
def m_is_count : FM := runF 1 b_is_count
theorem ok_is_count (T : Tx K mg fs fd C) : FnOk P w K mg base CX0 3 (fs 9) (fd 9) ["thing"] (spD (mkG P w K C) 1 m_is_count) :=
  fn_ok (G := (mkG P w K C)) T.f_is_count sc_is_count rfl rfl fun cdv A outer s H E hr => ⟨_, (pss_one (ps_ret (pe_call (ok_is_within T) (hr.mono (by decide)) rfl T.m_is_within T.k_is_within T.b_is_within .nil pass0 (pa_cons (pv 0) (pa_cons pe_int (pa_cons (pe_glob (v := .int 7) rfl T.c_MOST_CORNERS.choose_spec ⟨_, rfl⟩) pa_nil)))))),
  (ok_ret (ok_call (ok_cval (ok_var 0) (ok_cval (ok_c fun _ => rfl) (ok_cval (ok_c fun _ => rfl) ok_cnil))) rfl))⟩
theorem sc_is_tuple : FnScope ["thing", "least", "most"] ["thing", "least", "most"] (defScope st_is_tuple) := ⟨rfl, rfl, rfl, by decide +kernel, rfl, by decide +kernel, by decide +kernel⟩
def s_is_tuple_0 : MS := (sRet (mAndV (mIsi "tuple" (mVar 0)) (mChain dLeA dLeA (mVar 1) (mB dLen (lCons (mVar 0) lNil)) (mVar 2))))
def b_is_tuple : MS := s_is_tuple_0
def m_is_tuple : FM := runF 3 b_is_tuple
theorem ok_is_tuple (T : Tx K mg fs fd C) : FnOk P w K mg base CX0 1 (fs 10) (fd 10) ["thing", "least", "most"] (spD (mkG P w K C) 3 m_is_tuple) :=
  fn_ok (G := (mkG P w K C)) T.f_is_tuple sc_is_tuple rfl rfl fun cdv A outer s H E hr => ⟨_, (pss_one (ps_ret (pe_and (pe_callB call_isi rfl T.z_isinstance boot_isinstance (pa_cons (pv 0) (pa_cons (pe_bltn (v := .ty "tuple") rfl T.z_tuple boot_tuple_ rfl) pa_nil))) (pe_one (pe_chain (op_leA (G := (mkG P w K C)) hr.units) (op_leA (G := (mkG P w K C)) hr.units) (pv 1) (pe_callB (cr_len (G := (mkG P w K C))) rfl T.z_len boot_len_ (pa_cons (pv 0) pa_nil)) (pv 2)))))),
  (ok_ret (ok_andV (ok_isi (ok_var 0)) (ok_chain (ok_var 1) (ok_b (ok_lcons (ok_var 0) ok_lnil)) (ok_var 2) ok_r2 ok_r2)))⟩
theorem sc_is_line : FnScope ["corners", "thing", "one"] ["corners", "thing"] (defScope st_is_line) := ⟨rfl, rfl, rfl, by decide +kernel, rfl, by decide +kernel, by decide +kernel⟩
def c_is_line_0 : M := mLc [2] (wSeq (mVar 1)) (gN 2) tYesD (mCall m_is_within (cVal (mVar 2) (cVal (mC (.int 0)) (cVal (mBin dSub (mVar 0) (mC (.int 1))) cNil))))
def s_is_line_1 : MS := (sRet (mC (.bl false)))
def s_is_line_0 : MS := (sIf (mOrT (mNotT (mT (mCall m_is_tuple (cVal (mVar 1) (cVal (mC (.int 2)) (cVal (mC (.int 2)) cNil)))))) (mNotT (mT (mB dAll (lCons c_is_line_0 lNil)))))
 s_is_line_1
 sNx)
def s_is_line_2 : MS := (sRet (mBin dLtA (mBin dIx (mVar 1) (mC (.int 0))) (mBin dIx (mVar 1) (mC (.int 1)))))
def b_is_line : MS := (sSeq s_is_line_0
 s_is_line_2)
def m_is_line : FM := runF 3 b_is_line
theorem ok_is_line (T : Tx K mg fs fd C) : FnOk P w K mg base CX0 3 (fs 11) (fd 11) ["corners", "thing"] (spD (mkG P w K C) 2 m_is_line) :=
  fn_ok (G := (mkG P w K C)) T.f_is_line sc_is_line rfl rfl fun cdv A outer s H E hr => ⟨_, (pss_cons (ps_if (PW.pt (pw_or (pt_not (pt_val (pe_call (ok_is_tuple T) (hr.mono (by decide)) rfl T.m_is_tuple T.k_is_tuple T.b_is_tuple .nil pass0 (pa_cons (pv 1) (pa_cons pe_int (pa_cons pe_int pa_nil)))))) (pw_or1 (pt_not (pt_val (pe_callB (cr_allD rfl (G := (mkG P w K C))) rfl T.z_all boot_all_ (pa_cons (pe_lc (own := [("one", 2)])   rfl sc_is_line.nd (pi_seq (pv 1)) (blkOk_by (N := ["corners", "thing", "one"]) (sc := defScope st_is_line) (by decide +kernel)) (fun _ _ _ _ _ => (pg_name (i := 2) sc_is_line.nd rfl (Or.inl rfl))) (fun _ _ _ _ _ => pts_nil) (fun _ _ _ _ _ => (pe_call (ok_is_within T) (hr.mono (by decide)) rfl T.m_is_within T.k_is_within T.b_is_within .nil pass0 (pa_cons (pv 2) (pa_cons pe_int (pa_cons (pe_op op_sub (pv 0) pe_int) pa_nil)))))) pa_nil)))))))
 (pss_one (ps_ret pe_bl))
 pss_nil)
 (pss_one (ps_ret (pe_cmpR (op_ltA (G := (mkG P w K C)) hr.units) (pe_ix ix_seq (pv 1) pe_int (fun _ _ => rfl)) (pe_ix ix_seq (pv 1) pe_int (fun _ _ => rfl)) (nomark _))))),
  (ok_seq (ok_if (ok_orT (ok_notT (ok_t (ok_call (ok_cval (ok_var 1) (ok_cval (ok_c fun _ => rfl) (ok_cval (ok_c fun _ => rfl) ok_cnil))) rfl))) (ok_notT (ok_t (ok_b (ok_lcons (ok_lc (ok_wSeq (ok_var 1)) (ok_vN (by decide)) ok_yes (ok_call (ok_cval (ok_var 2) (ok_cval (ok_c fun _ => rfl) (ok_cval (ok_bin (ok_var 0) (ok_c fun _ => rfl) ok_sub) ok_cnil))) rfl)) ok_lnil)))))
 (ok_ret (ok_c fun _ => rfl))
 ok_nx)
 (ok_ret (ok_bin (ok_bin (ok_var 1) (ok_c fun _ => rfl) ok_ix) (ok_bin (ok_var 1) (ok_c fun _ => rfl) ok_ix) ok_r2)))⟩
theorem sc_are_lines : FnScope ["corners", "thing", "line", "one", "other"] ["corners", "thing"] (defScope st_are_lines) := ⟨rfl, rfl, rfl, by decide +kernel, rfl, by decide +kernel, by decide +kernel⟩
def c_are_lines_0 : M := mLc [2] (wSeq (mVar 1)) (gN 2) tYesD (mCall m_is_line (cVal (mVar 0) (cVal (mVar 2) cNil)))
def s_are_lines_1 : MS := (sRet (mC (.bl false)))
def s_are_lines_0 : MS := (sIf (mOrT (mNotT (mT (mIsi "tuple" (mVar 1)))) (mNotT (mT (mB dAll (lCons c_are_lines_0 lNil)))))
 s_are_lines_1
 sNx)
def c_are_lines_1 : M := mLc [3, 4] (wZip (aCons (mVar 1) (aCons (mSl (mVar 1) (oSome (mC (.int 1))) oNone) aNil))) (gT 2 (gsC (gN 3) (gsC (gN 4) gsN))) tYesD (mBin dLtA (mVar 3) (mVar 4))
def s_are_lines_2 : MS := (sRet (mB dAll (lCons c_are_lines_1 lNil)))
def b_are_lines : MS := (sSeq s_are_lines_0
 s_are_lines_2)
def m_are_lines : FM := runF 5 b_are_lines
theorem ok_are_lines (T : Tx K mg fs fd C) : FnOk P w K mg base CX0 4 (fs 12) (fd 12) ["corners", "thing"] (spD (mkG P w K C) 2 m_are_lines) :=
  fn_ok (G := (mkG P w K C)) T.f_are_lines sc_are_lines rfl rfl fun cdv A outer s H E hr => ⟨_, (pss_cons (ps_if (PW.pt (pw_or (pt_not (pt_val (pe_callB call_isi rfl T.z_isinstance boot_isinstance (pa_cons (pv 1) (pa_cons (pe_bltn (v := .ty "tuple") rfl T.z_tuple boot_tuple_ rfl) pa_nil))))) (pw_or1 (pt_not (pt_val (pe_callB (cr_allD rfl (G := (mkG P w K C))) rfl T.z_all boot_all_ (pa_cons (pe_lc (own := [("line", 2)])   rfl sc_are_lines.nd (pi_seq (pv 1)) (blkOk_by (N := ["corners", "thing", "line", "one", "other"]) (sc := defScope st_are_lines) (by decide +kernel)) (fun _ _ _ _ _ => (pg_name (i := 2) sc_are_lines.nd rfl (Or.inl rfl))) (fun _ _ _ _ _ => pts_nil) (fun _ _ _ _ _ => (pe_call (ok_is_line T) (hr.mono (by decide)) rfl T.m_is_line T.k_is_line T.b_is_line .nil pass0 (pa_cons (pv 0) (pa_cons (pv 2) pa_nil))))) pa_nil)))))))
 (pss_one (ps_ret pe_bl))
 pss_nil)
 (pss_one (ps_ret (pe_callB (cr_allD rfl (G := (mkG P w K C))) rfl T.z_all boot_all_ (pa_cons (pe_lc (own := [("one", 3), ("other", 4)])   rfl sc_are_lines.nd (RZ.pi_zipA rfl T.z_zip (pa_cons (pv 1) (pa_cons (pe_slice sl_both (pv 1) (po_some pe_int) po_none) pa_nil))) (blkOk_by (N := ["corners", "thing", "line", "one", "other"]) (sc := defScope st_are_lines) (by decide +kernel)) (fun _ _ _ _ _ => (pg_tup rfl (pgs_cons (pg_name (i := 3) sc_are_lines.nd rfl (Or.inl rfl)) (pgs_cons (pg_name (i := 4) sc_are_lines.nd rfl (Or.inl rfl)) pgs_nil)))) (fun _ _ _ _ _ => pts_nil) (fun _ _ _ _ _ => (pe_cmpR (op_ltA (G := (mkG P w K C)) hr.units) (pv 3) (pv 4) (nomark _)))) pa_nil))))),
  (ok_seq (ok_if (ok_orT (ok_notT (ok_t (ok_isi (ok_var 1)))) (ok_notT (ok_t (ok_b (ok_lcons (ok_lc (ok_wSeq (ok_var 1)) (ok_vN (by decide)) ok_yes (ok_call (ok_cval (ok_var 0) (ok_cval (ok_var 2) ok_cnil)) rfl)) ok_lnil)))))
 (ok_ret (ok_c fun _ => rfl))
 ok_nx)
 (ok_ret (ok_b (ok_lcons (ok_lc (ok_wZip (ok_acons (ok_var 1) (ok_acons (ok_sl (ok_var 1) (ok_osome (ok_c fun _ => rfl)) ok_onone) ok_anil))) (ok_vT (ok_vsC (ok_vN (by decide)) (ok_vsC (ok_vN (by decide)) ok_vsN))) ok_yes (ok_bin (ok_var 3) (ok_var 4) ok_r2)) ok_lnil))))⟩
theorem sc_Web : FnScope ["self", "corners", "lines"] ["self", "corners", "lines"] (defScope st_Web) := ⟨rfl, rfl, rfl, by decide +kernel, rfl, by decide +kernel, by decide +kernel⟩
def s_Web_1 : MS := sNo
def s_Web_0 : MS := (sIf (mNotT (mT (mCall m_is_count (cVal (mVar 1) cNil))))
 s_Web_1
 sNx)
def s_Web_3 : MS := sNo
def s_Web_2 : MS := (sIf (mNotT (mT (mCall m_are_lines (cVal (mVar 1) (cVal (mVar 2) cNil)))))
 s_Web_3
 sNx)
def s_Web_4 : MS := (sAsg (mTup (aCons (mVar 1) (aCons (mVar 2) aNil))) (gT 2 (gsC (gFld 0 0 0) (gsC (gFld 0 0 1) gsN))))
def s_Web_5 : MS := (sAsg mCch (gFld 0 0 2))
def b_Web : MS := (sSeq s_Web_0
 (sSeq s_Web_2
 (sSeq s_Web_4
 s_Web_5)))
def m_Web : FM := runF 3 b_Web
theorem ok_Web (T : Tx K mg fs fd C) : FnOk P w K mg base CX0 5 (fs 13) (fd 13) ["self", "corners", "lines"] (spD (mkG P w K C) 3 m_Web) :=
  fn_ok (G := (mkG P w K C)) T.f_Web sc_Web rfl rfl fun cdv A outer s H E hr => ⟨_, (pss_cons (ps_if (pt_not (pt_val (pe_call (ok_is_count T) (hr.mono (by decide)) rfl T.m_is_count T.k_is_count T.b_is_count .nil pass0 (pa_cons (pv 1) pa_nil))))
 (pss_one ps_never)
 pss_nil)
 (pss_cons (ps_if (pt_not (pt_val (pe_call (ok_are_lines T) (hr.mono (by decide)) rfl T.m_are_lines T.k_are_lines T.b_are_lines .nil pass0 (pa_cons (pv 1) (pa_cons (pv 2) pa_nil)))))
 (pss_one ps_never)
 pss_nil)
 (pss_cons (ps_asg (pe_tup (pa_cons (pv 1) (pa_cons (pv 2) pa_nil))) (pg_tup rfl (pgs_cons (pg_fl (pv 0)) (pgs_cons (pg_fl (pv 0)) pgs_nil))))
 (pss_one (ps_asg pe_dnewK (pg_fl (pv 0))))))),
  (ok_seq (ok_if (ok_notT (ok_t (ok_call (ok_cval (ok_var 1) ok_cnil) rfl)))
 ok_no
 ok_nx)
 (ok_seq (ok_if (ok_notT (ok_t (ok_call (ok_cval (ok_var 1) (ok_cval (ok_var 2) ok_cnil)) rfl)))
 ok_no
 ok_nx)
 (ok_seq (ok_asg (ok_tup (ok_acons (ok_var 1) (ok_acons (ok_var 2) ok_anil)) (by decide)) (ok_gT (ok_gsC (ok_gFld (T.fl_corners P w)) (ok_gsC (ok_gFld (T.fl_lines P w)) ok_gsN))))
 (ok_asg ok_cch (ok_gFld (T.fl_looked P w))))))⟩
theorem sc_law_lots : FnScope ["corners", "found", "corner", "lot"] ["corners"] (defScope st_law_lots) := ⟨rfl, rfl, rfl, by decide +kernel, rfl, by decide +kernel, by decide +kernel⟩
def s_law_lots_0 : MS := (sSet 1 (mLst (aCons (mTup aNil) aNil)))
def c_law_lots_0 : M := mLc [3] (wSeq (mVar 1)) (gN 3) tYesD (mBin dAdd (mVar 3) (mTup (aCons (mVar 2) aNil)))
def s_law_lots_2 : MS := (sSet 1 (mBin dAdd (mVar 1) c_law_lots_0))
def s_law_lots_1 : MS := (sFor (wRng1 (aCons (mVar 0) aNil)) (gN 2)
 s_law_lots_2)
def s_law_lots_3 : MS := (sRet (mVar 1))
def b_law_lots : MS := (sSeq s_law_lots_0
 (sSeq s_law_lots_1
 s_law_lots_3))
def m_law_lots : FM := runF 4 b_law_lots
theorem ok_law_lots (T : Tx K mg fs fd C) : FnOk P w K mg base CX0 1 (fs 14) (fd 14) ["corners"] (spD (mkG P w K C) 1 m_law_lots) :=
  fn_ok (G := (mkG P w K C)) T.f_law_lots sc_law_lots rfl rfl fun cdv A outer s H E hr => ⟨_, (pss_cons (ps_set (i := 1) sc_law_lots.nd rfl (Or.inl rfl) (pe_lst (pa_cons (pe_tup pa_nil) pa_nil)))
 (pss_cons (ps_for PassesOwn.never rfl (pi_range1 rfl T.z_range (pa_cons (pv 0) pa_nil)) (pg_name (i := 2) sc_law_lots.nd rfl (Or.inr rfl))
 (pss_one (ps_set (i := 1) sc_law_lots.nd rfl (Or.inl rfl) (pe_op (op_addD (G := (mkG P w K C))) (pv 1) (pe_lc (own := [("lot", 3)])   rfl sc_law_lots.nd (pi_seq (pv 1)) (blkOk_by (N := ["corners", "found", "corner", "lot"]) (sc := defScope st_law_lots) (by decide +kernel)) (fun _ _ _ _ _ => (pg_name (i := 3) sc_law_lots.nd rfl (Or.inl rfl))) (fun _ _ _ _ _ => pts_nil) (fun _ _ _ _ _ => (pe_op (op_addD (G := (mkG P w K C))) (pv 3) (pe_tup (pa_cons (pv 2) pa_nil)))))))))
 (pss_one (ps_ret (pv 1))))),
  (ok_seq (ok_set (ok_lst (ok_acons (ok_tup ok_anil (by decide)) ok_anil) (by decide)))
 (ok_seq (ok_for (ok_wRng1 (ok_acons (ok_var 0) ok_anil)) ok_gN
 (ok_set (ok_bin (ok_var 1) (ok_lc (ok_wSeq (ok_var 1)) (ok_vN (by decide)) ok_yes (ok_bin (ok_var 3) (ok_tup (ok_acons (ok_var 2) ok_anil) (by decide)) ok_r2)) ok_r2)))
 (ok_ret (ok_var 1))))⟩
theorem sc_law_no_ring : FnScope ["corners", "lines", "names", "a", "b", "name"] ["corners", "lines"] (defScope st_law_no_ring) := ⟨rfl, rfl, rfl, by decide +kernel, rfl, by decide +kernel, by decide +kernel⟩
def s_law_no_ring_0 : MS := (sSet 2 (mRg1 (mVar 0)))
def s_law_no_ring_3 : MS := (sRet (mC (.bl false)))
def s_law_no_ring_2 : MS := (sIf (mT (mBin dEqA (mBin dIx (mVar 2) (mVar 3)) (mBin dIx (mVar 2) (mVar 4))))
 s_law_no_ring_3
 sNx)
def c_law_no_ring_0 : M := mLc [5] (wSeq (mVar 2)) (gN 5) tYesD (mIfE (mT (mBin dEqA (mVar 5) (mBin dIx (mVar 2) (mVar 4)))) (mBin dIx (mVar 2) (mVar 3)) (mVar 5))
def s_law_no_ring_4 : MS := (sSet 2 c_law_no_ring_0)
def s_law_no_ring_1 : MS := (sFor (wSeq (mVar 1)) (gT 2 (gsC (gN 3) (gsC (gN 4) gsN)))
 (sSeq s_law_no_ring_2
 s_law_no_ring_4))
def s_law_no_ring_5 : MS := (sRet (mC (.bl true)))
def b_law_no_ring : MS := (sSeq s_law_no_ring_0
 (sSeq s_law_no_ring_1
 s_law_no_ring_5))
def m_law_no_ring : FM := runF 6 b_law_no_ring
theorem ok_law_no_ring (T : Tx K mg fs fd C) : FnOk P w K mg base CX0 1 (fs 15) (fd 15) ["corners", "lines"] (spD (mkG P w K C) 2 m_law_no_ring) :=
  fn_ok (G := (mkG P w K C)) T.f_law_no_ring sc_law_no_ring rfl rfl fun cdv A outer s H E hr => ⟨_, (pss_cons (ps_set (i := 2) sc_law_no_ring.nd rfl (Or.inr rfl) (pe_listRg rfl rfl T.z_list (prg_1 rfl T.z_range (pv 0))))
 (pss_cons (ps_for PassesOwn.never rfl (pi_seq (pv 1)) (pg_tup rfl (pgs_cons (pg_name (i := 3) sc_law_no_ring.nd rfl (Or.inr rfl)) (pgs_cons (pg_name (i := 4) sc_law_no_ring.nd rfl (Or.inr rfl)) pgs_nil)))
 (pss_cons (ps_if (pt_cmpR (op_eqA (G := (mkG P w K C)) hr.units) (pe_ix ix_seq (pv 2) (pv 3) (fun _ _ => rfl)) (pe_ix ix_seq (pv 2) (pv 4) (fun _ _ => rfl)) (nomark _))
 (pss_one (ps_ret pe_bl))
 pss_nil)
 (pss_one (ps_set (i := 2) sc_law_no_ring.nd rfl (Or.inr rfl) (pe_lc (own := [("name", 5)])   rfl sc_law_no_ring.nd (pi_seq (pv 2)) (blkOk_by (N := ["corners", "lines", "names", "a", "b", "name"]) (sc := defScope st_law_no_ring) (by decide +kernel)) (fun _ _ _ _ _ => (pg_name (i := 5) sc_law_no_ring.nd rfl (Or.inl rfl))) (fun _ _ _ _ _ => pts_nil) (fun _ _ _ _ _ => (pe_ifExp (pt_cmpR (op_eqA (G := (mkG P w K C)) hr.units) (pv 5) (pe_ix ix_seq (pv 2) (pv 4) (fun _ _ => rfl)) (nomark _)) (pe_ix ix_seq (pv 2) (pv 3) (fun _ _ => rfl)) (pv 5))))))))
 (pss_one (ps_ret pe_bl)))),
  (ok_seq (ok_set (ok_listRg1 (ok_var 0)))
 (ok_seq (ok_for (ok_wSeq (ok_var 1)) (ok_gT (ok_gsC ok_gN (ok_gsC ok_gN ok_gsN)))
 (ok_seq (ok_if (ok_t' (ok_bin (ok_bin (ok_var 2) (ok_var 3) ok_ix) (ok_bin (ok_var 2) (ok_var 4) ok_ix) ok_r2))
 (ok_ret (ok_c fun _ => rfl))
 ok_nx)
 (ok_set (ok_lc (ok_wSeq (ok_var 2)) (ok_vN (by decide)) ok_yes (ok_ifE (ok_t' (ok_bin (ok_var 5) (ok_bin (ok_var 2) (ok_var 4) ok_ix) ok_r2)) (ok_bin (ok_var 2) (ok_var 3) ok_ix) (ok_var 5))))))
 (ok_ret (ok_c fun _ => rfl))))⟩
theorem sc_law_dealt : FnScope ["corners", "lines", "many", "found", "line", "longer", "lots", "at", "more"] ["corners", "lines", "many"] (defScope st_law_dealt) := ⟨rfl, rfl, rfl, by decide +kernel, rfl, by decide +kernel, by decide +kernel⟩
def s_law_dealt_0 : MS := (sSet 3 (mLst (aCons (mBin dMulA (mTup (aCons (mTup aNil) aNil)) (mVar 2)) aNil)))
def s_law_dealt_2 : MS := (sSet 5 mDNew)
def s_law_dealt_5 : MS := (sSet 8 (mBin dAdd (mBin dIx (mVar 6) (mVar 7)) (mTup (aCons (mVar 4) aNil))))
def s_law_dealt_7 : MS := (sAsg (mC (.bl true)) (gItem 5 (mBin dAdd (mBin dAdd (mSl (mVar 6) oNone (oSome (mVar 7))) (mTup (aCons (mVar 8) aNil))) (mSl (mVar 6) (oSome (mBin dAdd (mVar 7) (mC (.int 1)))) oNone))))
def s_law_dealt_6 : MS := (sIf (mAndT (mOrT (mT (mBin dEqA (mVar 7) (mC (.int 0)))) (mT (mBin dGtA (mB dLen (lCons (mBin dIx (mVar 6) (mBin dSub (mVar 7) (mC (.int 1)))) lNil)) (mC (.int 0))))) (mT (mCall m_law_no_ring (cVal (mVar 0) (cVal (mVar 8) cNil)))))
 s_law_dealt_7
 sNx)
def s_law_dealt_4 : MS := (sFor (wRng1 (aCons (mVar 2) aNil)) (gN 7)
 (sSeq s_law_dealt_5
 s_law_dealt_6))
def s_law_dealt_3 : MS := (sFor (wSeq (mVar 3)) (gN 6)
 s_law_dealt_4)
def s_law_dealt_8 : MS := (sSet 3 (mB dListA (lCons (mVar 5) lNil)))
def s_law_dealt_1 : MS := (sFor (wSeq (mVar 1)) (gN 4)
 (sSeq s_law_dealt_2
 (sSeq s_law_dealt_3
 s_law_dealt_8)))
def s_law_dealt_9 : MS := (sRet (mBin dGtA (mB dLen (lCons (mVar 3) lNil)) (mC (.int 0))))
def b_law_dealt : MS := (sSeq s_law_dealt_0
 (sSeq s_law_dealt_1
 s_law_dealt_9))
def m_law_dealt : FM := runF 9 b_law_dealt
theorem ok_law_dealt (T : Tx K mg fs fd C) : FnOk P w K mg base CX0 2 (fs 16) (fd 16) ["corners", "lines", "many"] (spD (mkG P w K C) 3 m_law_dealt) :=
  fn_ok (G := (mkG P w K C)) T.f_law_dealt sc_law_dealt rfl rfl fun cdv A outer s H E hr => ⟨_, (pss_cons (ps_set (i := 3) sc_law_dealt.nd rfl (Or.inl rfl) (pe_lst (pa_cons (pe_op (op_mulD (G := (mkG P w K C))) (pe_tup (pa_cons (pe_tup pa_nil) pa_nil)) (pv 2)) pa_nil)))
 (pss_cons (ps_for PassesOwn.never rfl (pi_seq (pv 1)) (pg_name (i := 4) sc_law_dealt.nd rfl (Or.inl rfl))
 (pss_cons (ps_set (i := 5) sc_law_dealt.nd rfl (Or.inl rfl) pe_dnewN)
 (pss_cons (ps_for PassesOwn.never rfl (pi_seq (pv 3)) (pg_name (i := 6) sc_law_dealt.nd rfl (Or.inl rfl))
 (pss_one (ps_for PassesOwn.never rfl (pi_range1 rfl T.z_range (pa_cons (pv 2) pa_nil)) (pg_name (i := 7) sc_law_dealt.nd rfl (Or.inl rfl))
 (pss_cons (ps_set (i := 8) sc_law_dealt.nd rfl (Or.inl rfl) (pe_op (op_addD (G := (mkG P w K C))) (pe_ix ix_seq (pv 6) (pv 7) (fun _ _ => rfl)) (pe_tup (pa_cons (pv 4) pa_nil))))
 (pss_one (ps_if (PW.pt (pw_and (PW.pt (pw_or (pt_cmpR (op_eqA (G := (mkG P w K C)) hr.units) (pv 7) pe_int (nomark _)) (pw_or1 (pt_cmpR (op_gtA (G := (mkG P w K C)) hr.units) (pe_callB (cr_len (G := (mkG P w K C))) rfl T.z_len boot_len_ (pa_cons (pe_ix ix_seq (pv 6) (pe_op op_sub (pv 7) pe_int) (fun _ _ => rfl)) pa_nil)) pe_int (nomark _))))) (pw_and1 (pt_val (pe_call (ok_law_no_ring T) (hr.mono (by decide)) rfl T.m_law_no_ring T.k_law_no_ring T.b_law_no_ring .nil pass0 (pa_cons (pv 0) (pa_cons (pv 8) pa_nil)))))))
 (pss_one (ps_asg pe_bl (pg_sub (pv 5) (pe_op (op_addD (G := (mkG P w K C))) (pe_op (op_addD (G := (mkG P w K C))) (pe_slice sl_both (pv 6) po_none (po_some (pv 7))) (pe_tup (pa_cons (pv 8) pa_nil))) (pe_slice sl_both (pv 6) (po_some (pe_op (op_addD (G := (mkG P w K C))) (pv 7) pe_int)) po_none)) (set_any (G := (mkG P w K C)) hr.units))))
 pss_nil))))))
 (pss_one (ps_set (i := 3) sc_law_dealt.nd rfl (Or.inl rfl) (pe_callTy (cr_listA hr.hd (G := (mkG P w K C))) rfl T.z_list boot_list_ (pa_cons (pv 5) pa_nil)))))))
 (pss_one (ps_ret (pe_cmpR (op_gtA (G := (mkG P w K C)) hr.units) (pe_callB (cr_len (G := (mkG P w K C))) rfl T.z_len boot_len_ (pa_cons (pv 3) pa_nil)) pe_int (nomark _)))))),
  (ok_seq (ok_set (ok_lst (ok_acons (ok_bin (ok_tup (ok_acons (ok_tup ok_anil (by decide)) ok_anil) (by decide)) (ok_var 2) ok_r2) ok_anil) (by decide)))
 (ok_seq (ok_for (ok_wSeq (ok_var 1)) ok_gN
 (ok_seq (ok_set ok_dnew)
 (ok_seq (ok_for (ok_wSeq (ok_var 3)) ok_gN
 (ok_for (ok_wRng1 (ok_acons (ok_var 2) ok_anil)) ok_gN
 (ok_seq (ok_set (ok_bin (ok_bin (ok_var 6) (ok_var 7) ok_ix) (ok_tup (ok_acons (ok_var 4) ok_anil) (by decide)) ok_r2))
 (ok_if (ok_andT (ok_orT (ok_t' (ok_bin (ok_var 7) (ok_c fun _ => rfl) ok_r2)) (ok_t' (ok_bin (ok_b (ok_lcons (ok_bin (ok_var 6) (ok_bin (ok_var 7) (ok_c fun _ => rfl) ok_sub) ok_ix) ok_lnil)) (ok_c fun _ => rfl) ok_r2))) (ok_t (ok_call (ok_cval (ok_var 0) (ok_cval (ok_var 8) ok_cnil)) rfl)))
 (ok_asg (ok_c fun _ => rfl) (ok_gItem (ok_bin (ok_bin (ok_sl (ok_var 6) ok_onone (ok_osome (ok_var 7))) (ok_tup (ok_acons (ok_var 8) ok_anil) (by decide)) ok_r2) (ok_sl (ok_var 6) (ok_osome (ok_bin (ok_var 7) (ok_c fun _ => rfl) ok_r2)) ok_onone) ok_r2)))
 ok_nx))))
 (ok_set (ok_b (ok_lcons (ok_var 5) ok_lnil))))))
 (ok_ret (ok_bin (ok_b (ok_lcons (ok_var 3) ok_lnil)) (ok_c fun _ => rfl) ok_r2))))⟩
theorem sc_law : FnScope ["script", "hand", "turn", "corners", "lines", "many", "lot", "rows", "one", "inner", "a", "b", "asked"] ["script"] (defScope st_law) := ⟨rfl, rfl, rfl, by decide +kernel, rfl, by decide +kernel, by decide +kernel⟩
def s_law_0 : MS := (sSet 1 (mCall m_law_hand (cVal (mVar 0) cNil)))
def s_law_2 : MS := (sRet (mC (.bl false)))
def s_law_1 : MS := (sIf (mOrT (mT (mBin dNeA (mCall m_forests_needed (cVal (mMake 0 m_Web (cVal (mC (.int 2)) (cVal (mTup aNil) cNil))) cNil)) (mTup (aCons (mC (.int 0)) (aCons (mTup aNil) aNil))))) (mT (mBin dNeA (mCall m_forests_needed (cVal (mMake 0 m_Web (cVal (mC (.int 3)) (cVal (mTup (aCons (mTup (aCons (mC (.int 0)) (aCons (mC (.int 1)) aNil))) (aCons (mTup (aCons (mC (.int 0)) (aCons (mC (.int 2)) aNil))) (aCons (mTup (aCons (mC (.int 1)) (aCons (mC (.int 2)) aNil))) aNil)))) cNil))) cNil)) (mTup (aCons (mC (.int 2)) (aCons (mTup (aCons (mC (.int 0)) (aCons (mC (.int 1)) (aCons (mC (.int 2)) aNil)))) aNil))))))
 s_law_2
 sNx)
def s_law_4 : MS := (sSet 3 (mBin dAdd (mC (.int 1)) (mCall m_law_draw (cIo 1 (cVal (mC (.int 5)) cNil)))))
def s_law_5 : MS := (sSet 4 (mSl (mCall m_law_lines (cIo 1 (cVal (mVar 3) cNil))) oNone (oSome (mC (.int 8)))))
def s_law_6 : MS := (sAsg (mCall m_forests_needed (cVal (mMake 0 m_Web (cVal (mVar 3) (cVal (mVar 4) cNil))) cNil)) (gT 2 (gsC (gN 5) (gsC (gN 6) gsN))))
def s_law_9 : MS := (sRet (mC (.bl false)))
def s_law_8 : MS := (sIf (mT (mBin dNeA (mTup (aCons (mVar 5) (aCons (mVar 6) aNil))) (mTup (aCons (mC (.int 0)) (aCons (mTup aNil) aNil)))))
 s_law_9
 sNx)
def s_law_11 : MS := (sRet (mC (.bl false)))
def s_law_10 : MS := (sIf (mOrT (mNotT (mT (mCall m_law_dealt (cVal (mVar 3) (cVal (mVar 4) (cVal (mVar 5) cNil)))))) (mAndT (mT (mBin dGtA (mVar 5) (mC (.int 1)))) (mT (mCall m_law_dealt (cVal (mVar 3) (cVal (mVar 4) (cVal (mBin dSub (mVar 5) (mC (.int 1))) cNil)))))))
 s_law_11
 sNx)
def s_law_12 : MS := (sSet 7 (mLst aNil))
def c_law_0 : M := mLc [10, 11] (wSeq (mVar 4)) (gT 2 (gsC (gN 10) (gsC (gN 11) gsN))) (mAndT (mT (mBin dIn (mVar 10) (mVar 8))) (mT (mBin dIn (mVar 11) (mVar 8)))) (mC (.int 1))
def s_law_15 : MS := (sSet 9 (mB dLen (lCons c_law_0 lNil)))
def s_law_16 : MS := (sDrop (mApp 7 (mTup (aCons (mUn dNeg (mBin dDiv (mUn dNeg (mVar 9)) (mBin dSub (mB dLen (lCons (mVar 8) lNil)) (mC (.int 1))))) (aCons (mVar 8) aNil)))))
def s_law_14 : MS := (sIf (mT (mBin dGtA (mB dLen (lCons (mVar 8) lNil)) (mC (.int 1))))
 (sSeq s_law_15
 s_law_16)
 sNx)
def s_law_13 : MS := (sFor (wSeq (mCall m_law_lots (cVal (mVar 3) cNil))) (gN 8)
 s_law_14)
def c_law_1 : M := mLc [12, 8] (wSeq (mVar 7)) (gT 2 (gsC (gN 12) (gsC (gN 8) gsN))) tYesD (mVar 12)
def s_law_18 : MS := (sRet (mC (.bl false)))
def s_law_17 : MS := (sIf (mT (mBin dNeA (mB dMaxL (lCons c_law_1 lNil)) (mVar 5)))
 s_law_18
 sNx)
def c_law_2 : M := mLc [12, 8] (wSeq (mVar 7)) (gT 2 (gsC (gN 12) (gsC (gN 8) gsN))) (mT (mBin dEqA (mVar 12) (mVar 5))) (mVar 8)
def s_law_20 : MS := (sRet (mC (.bl false)))
def s_law_19 : MS := (sIf (mT (mBin dNeA (mVar 6) (mB dMinL (lCons c_law_2 lNil))))
 s_law_20
 sNx)
def s_law_7 : MS := (sIf (mT (mBin dEqA (mB dLen (lCons (mVar 4) lNil)) (mC (.int 0))))
 s_law_8
 (sSeq s_law_10
 (sSeq s_law_12
 (sSeq s_law_13
 (sSeq s_law_17
 s_law_19)))))
def s_law_3 : MS := (sFor (wRng1 (aCons (mC (.int 3)) aNil)) (gN 2)
 (sSeq s_law_4
 (sSeq s_law_5
 (sSeq s_law_6
 s_law_7))))
def s_law_21 : MS := (sRet (mC (.bl true)))
def b_law : MS := (sSeq s_law_0
 (sSeq s_law_1
 (sSeq s_law_3
 s_law_21)))
def m_law : FM := runF 13 b_law
theorem ok_law (T : Tx K mg fs fd C) : FnOk P w K mg base CX0 7 (fs 17) (fd 17) ["script"] (spD (mkG P w K C) 1 m_law) :=
  fn_ok (G := (mkG P w K C)) T.f_law sc_law rfl rfl fun cdv A outer s H E hr => ⟨_, (pss_cons (ps_set (i := 1) sc_law.nd rfl (Or.inl rfl) (pe_call (ok_law_hand T) (hr.mono (by decide)) rfl T.m_law_hand T.k_law_hand T.b_law_hand .nil pass0 (pa_cons (pv 0) pa_nil)))
 (pss_cons (ps_if (PW.pt (pw_or (pt_cmpR (op_neA (G := (mkG P w K C)) hr.units) (pe_call (ok_forests_needed T) (hr.mono (by decide)) rfl T.m_forests_needed T.k_forests_needed T.b_forests_needed .nil pass0 (pa_cons (pe_make T.mkW (ok_Web T) (hr.mono (by decide)) rfl T.m_Web T.b_Web .nil pass0 (pa_cons pe_int (pa_cons (pe_tup pa_nil) pa_nil))) pa_nil)) (pe_tup (pa_cons pe_int (pa_cons (pe_tup pa_nil) pa_nil))) (nomark _)) (pw_or1 (pt_cmpR (op_neA (G := (mkG P w K C)) hr.units) (pe_call (ok_forests_needed T) (hr.mono (by decide)) rfl T.m_forests_needed T.k_forests_needed T.b_forests_needed .nil pass0 (pa_cons (pe_make T.mkW (ok_Web T) (hr.mono (by decide)) rfl T.m_Web T.b_Web .nil pass0 (pa_cons pe_int (pa_cons (pe_tup (pa_cons (pe_tup (pa_cons pe_int (pa_cons pe_int pa_nil))) (pa_cons (pe_tup (pa_cons pe_int (pa_cons pe_int pa_nil))) (pa_cons (pe_tup (pa_cons pe_int (pa_cons pe_int pa_nil))) pa_nil)))) pa_nil))) pa_nil)) (pe_tup (pa_cons pe_int (pa_cons (pe_tup (pa_cons pe_int (pa_cons pe_int (pa_cons pe_int pa_nil)))) pa_nil))) (nomark _)))))
 (pss_one (ps_ret pe_bl))
 pss_nil)
 (pss_cons (ps_for PassesOwn.never rfl (pi_range1 rfl T.z_range (pa_cons pe_int pa_nil)) (pg_name (i := 2) sc_law.nd rfl (Or.inl rfl))
 (pss_cons (ps_set (i := 3) sc_law.nd rfl (Or.inl rfl) (pe_op (op_addD (G := (mkG P w K C))) pe_int (pe_call (ok_law_draw T) (hr.mono (by decide)) rfl T.m_law_draw T.k_law_draw T.b_law_draw .nil pass0 (pa_cons (pv 1) (pa_cons pe_int pa_nil)))))
 (pss_cons (ps_set (i := 4) sc_law.nd rfl (Or.inl rfl) (pe_slice sl_both (pe_call (ok_law_lines T) (hr.mono (by decide)) rfl T.m_law_lines T.k_law_lines T.b_law_lines .nil pass0 (pa_cons (pv 1) (pa_cons (pv 3) pa_nil))) po_none (po_some pe_int)))
 (pss_cons (ps_asg (pe_call (ok_forests_needed T) (hr.mono (by decide)) rfl T.m_forests_needed T.k_forests_needed T.b_forests_needed .nil pass0 (pa_cons (pe_make T.mkW (ok_Web T) (hr.mono (by decide)) rfl T.m_Web T.b_Web .nil pass0 (pa_cons (pv 3) (pa_cons (pv 4) pa_nil))) pa_nil)) (pg_tup rfl (pgs_cons (pg_name (i := 5) sc_law.nd rfl (Or.inr rfl)) (pgs_cons (pg_name (i := 6) sc_law.nd rfl (Or.inl rfl)) pgs_nil))))
 (pss_one (ps_if (pt_cmpR (op_eqA (G := (mkG P w K C)) hr.units) (pe_callB (cr_len (G := (mkG P w K C))) rfl T.z_len boot_len_ (pa_cons (pv 4) pa_nil)) pe_int (nomark _))
 (pss_one (ps_if (pt_cmpR (op_neA (G := (mkG P w K C)) hr.units) (pe_tup (pa_cons (pv 5) (pa_cons (pv 6) pa_nil))) (pe_tup (pa_cons pe_int (pa_cons (pe_tup pa_nil) pa_nil))) (nomark _))
 (pss_one (ps_ret pe_bl))
 pss_nil))
 (pss_cons (ps_if (PW.pt (pw_or (pt_not (pt_val (pe_call (ok_law_dealt T) (hr.mono (by decide)) rfl T.m_law_dealt T.k_law_dealt T.b_law_dealt .nil pass0 (pa_cons (pv 3) (pa_cons (pv 4) (pa_cons (pv 5) pa_nil)))))) (pw_or1 (PW.pt (pw_and (pt_cmpR (op_gtA (G := (mkG P w K C)) hr.units) (pv 5) pe_int (nomark _)) (pw_and1 (pt_val (pe_call (ok_law_dealt T) (hr.mono (by decide)) rfl T.m_law_dealt T.k_law_dealt T.b_law_dealt .nil pass0 (pa_cons (pv 3) (pa_cons (pv 4) (pa_cons (pe_op op_sub (pv 5) pe_int) pa_nil)))))))))))
 (pss_one (ps_ret pe_bl))
 pss_nil)
 (pss_cons (ps_set (i := 7) sc_law.nd rfl (Or.inl rfl) (pe_lst pa_nil))
 (pss_cons (ps_for PassesOwn.never rfl (pi_seq (pe_call (ok_law_lots T) (hr.mono (by decide)) rfl T.m_law_lots T.k_law_lots T.b_law_lots .nil pass0 (pa_cons (pv 3) pa_nil))) (pg_name (i := 8) sc_law.nd rfl (Or.inr rfl))
 (pss_one (ps_if (pt_cmpR (op_gtA (G := (mkG P w K C)) hr.units) (pe_callB (cr_len (G := (mkG P w K C))) rfl T.z_len boot_len_ (pa_cons (pv 8) pa_nil)) pe_int (nomark _))
 (pss_cons (ps_set (i := 9) sc_law.nd rfl (Or.inl rfl) (pe_callB (cr_len (G := (mkG P w K C))) rfl T.z_len boot_len_ (pa_cons (pe_lc (own := [("a", 10), ("b", 11)])   rfl sc_law.nd (pi_seq (pv 4)) (blkOk_by (N := ["script", "hand", "turn", "corners", "lines", "many", "lot", "rows", "one", "inner", "a", "b", "asked"]) (sc := defScope st_law) (by decide +kernel)) (fun _ _ _ _ _ => (pg_tup rfl (pgs_cons (pg_name (i := 10) sc_law.nd rfl (Or.inl rfl)) (pgs_cons (pg_name (i := 11) sc_law.nd rfl (Or.inl rfl)) pgs_nil)))) (fun _ _ _ _ _ => pts_one (PW.pt (pw_and (pt_cmpR (op_inD (G := (mkG P w K C)) (u65 hr)) (pv 10) (pv 8) (by with_unfolding_all rfl)) (pw_and1 (pt_cmpR (op_inD (G := (mkG P w K C)) (u65 hr)) (pv 11) (pv 8) (by with_unfolding_all rfl)))))) (fun _ _ _ _ _ => pe_int)) pa_nil)))
 (pss_one (ps_expr (pe_bm PySem.F.plainAttrs_list PySem.F.slot_list_append PySem.F.type_list_append mt_append (pv 7) (pa_cons (pe_tup (pa_cons (pe_un un_neg (pe_op op_fdiv (pe_un un_neg (pv 9)) (pe_op op_sub (pe_callB (cr_len (G := (mkG P w K C))) rfl T.z_len boot_len_ (pa_cons (pv 8) pa_nil)) pe_int))) (pa_cons (pv 8) pa_nil))) pa_nil)))))
 pss_nil)))
 (pss_cons (ps_if (pt_cmpR (op_neA (G := (mkG P w K C)) hr.units) (pe_callB (cr_maxL hr.hd (u66 hr) (G := (mkG P w K C))) rfl T.z_max boot_max_ (pa_cons (pe_lc (own := [("asked", 12), ("one", 8)])   rfl sc_law.nd (pi_seq (pv 7)) (blkOk_by (N := ["script", "hand", "turn", "corners", "lines", "many", "lot", "rows", "one", "inner", "a", "b", "asked"]) (sc := defScope st_law) (by decide +kernel)) (fun _ _ _ _ _ => (pg_tup rfl (pgs_cons (pg_name (i := 12) sc_law.nd rfl (Or.inl rfl)) (pgs_cons (pg_name (i := 8) sc_law.nd rfl (Or.inl rfl)) pgs_nil)))) (fun _ _ _ _ _ => pts_nil) (fun _ _ _ _ _ => (pv 12))) pa_nil)) (pv 5) (nomark _))
 (pss_one (ps_ret pe_bl))
 pss_nil)
 (pss_one (ps_if (pt_cmpR (op_neA (G := (mkG P w K C)) hr.units) (pv 6) (pe_callB (cr_minL hr.hd (u66 hr) (G := (mkG P w K C))) rfl T.z_min boot_min_ (pa_cons (pe_lc (own := [("asked", 12), ("one", 8)])   rfl sc_law.nd (pi_seq (pv 7)) (blkOk_by (N := ["script", "hand", "turn", "corners", "lines", "many", "lot", "rows", "one", "inner", "a", "b", "asked"]) (sc := defScope st_law) (by decide +kernel)) (fun _ _ _ _ _ => (pg_tup rfl (pgs_cons (pg_name (i := 12) sc_law.nd rfl (Or.inl rfl)) (pgs_cons (pg_name (i := 8) sc_law.nd rfl (Or.inl rfl)) pgs_nil)))) (fun _ _ _ _ _ => pts_one (pt_cmpR (op_eqA (G := (mkG P w K C)) hr.units) (pv 12) (pv 5) (nomark _))) (fun _ _ _ _ _ => (pv 8))) pa_nil)) (nomark _))
 (pss_one (ps_ret pe_bl))
 pss_nil))))))))))))
 (pss_one (ps_ret pe_bl))))),
  (ok_seq (ok_set (ok_call (ok_cval (ok_var 0) ok_cnil) rfl))
 (ok_seq (ok_if (ok_orT (ok_t' (ok_bin (ok_call (ok_cval (ok_make (ok_cval (ok_c fun _ => rfl) (ok_cval (ok_tup ok_anil (by decide)) ok_cnil)) rfl) ok_cnil) rfl) (ok_tup (ok_acons (ok_c fun _ => rfl) (ok_acons (ok_tup ok_anil (by decide)) ok_anil)) (by decide)) ok_r2)) (ok_t' (ok_bin (ok_call (ok_cval (ok_make (ok_cval (ok_c fun _ => rfl) (ok_cval (ok_tup (ok_acons (ok_tup (ok_acons (ok_c fun _ => rfl) (ok_acons (ok_c fun _ => rfl) ok_anil)) (by decide)) (ok_acons (ok_tup (ok_acons (ok_c fun _ => rfl) (ok_acons (ok_c fun _ => rfl) ok_anil)) (by decide)) (ok_acons (ok_tup (ok_acons (ok_c fun _ => rfl) (ok_acons (ok_c fun _ => rfl) ok_anil)) (by decide)) ok_anil))) (by decide)) ok_cnil)) rfl) ok_cnil) rfl) (ok_tup (ok_acons (ok_c fun _ => rfl) (ok_acons (ok_tup (ok_acons (ok_c fun _ => rfl) (ok_acons (ok_c fun _ => rfl) (ok_acons (ok_c fun _ => rfl) ok_anil))) (by decide)) ok_anil)) (by decide)) ok_r2)))
 (ok_ret (ok_c fun _ => rfl))
 ok_nx)
 (ok_seq (ok_for (ok_wRng1 (ok_acons (ok_c fun _ => rfl) ok_anil)) ok_gN
 (ok_seq (ok_set (ok_bin (ok_c fun _ => rfl) (ok_call (ok_cio (i := 1) (ok_cval (ok_c fun _ => rfl) ok_cnil)) rfl) ok_r2))
 (ok_seq (ok_set (ok_sl (ok_call (ok_cio (i := 1) (ok_cval (ok_var 3) ok_cnil)) rfl) ok_onone (ok_osome (ok_c fun _ => rfl))))
 (ok_seq (ok_asg (ok_call (ok_cval (ok_make (ok_cval (ok_var 3) (ok_cval (ok_var 4) ok_cnil)) rfl) ok_cnil) rfl) (ok_gT (ok_gsC ok_gN (ok_gsC ok_gN ok_gsN))))
 (ok_if (ok_t' (ok_bin (ok_b (ok_lcons (ok_var 4) ok_lnil)) (ok_c fun _ => rfl) ok_r2))
 (ok_if (ok_t' (ok_bin (ok_tup (ok_acons (ok_var 5) (ok_acons (ok_var 6) ok_anil)) (by decide)) (ok_tup (ok_acons (ok_c fun _ => rfl) (ok_acons (ok_tup ok_anil (by decide)) ok_anil)) (by decide)) ok_r2))
 (ok_ret (ok_c fun _ => rfl))
 ok_nx)
 (ok_seq (ok_if (ok_orT (ok_notT (ok_t (ok_call (ok_cval (ok_var 3) (ok_cval (ok_var 4) (ok_cval (ok_var 5) ok_cnil))) rfl))) (ok_andT (ok_t' (ok_bin (ok_var 5) (ok_c fun _ => rfl) ok_r2)) (ok_t (ok_call (ok_cval (ok_var 3) (ok_cval (ok_var 4) (ok_cval (ok_bin (ok_var 5) (ok_c fun _ => rfl) ok_sub) ok_cnil))) rfl))))
 (ok_ret (ok_c fun _ => rfl))
 ok_nx)
 (ok_seq (ok_set (ok_lst ok_anil (by decide)))
 (ok_seq (ok_for (ok_wSeq (ok_call (ok_cval (ok_var 3) ok_cnil) rfl)) ok_gN
 (ok_if (ok_t' (ok_bin (ok_b (ok_lcons (ok_var 8) ok_lnil)) (ok_c fun _ => rfl) ok_r2))
 (ok_seq (ok_set (ok_b (ok_lcons (ok_lc (ok_wSeq (ok_var 4)) (ok_vT (ok_vsC (ok_vN (by decide)) (ok_vsC (ok_vN (by decide)) ok_vsN))) (ok_andT (ok_t' (ok_bin (ok_var 10) (ok_var 8) ok_r2)) (ok_t' (ok_bin (ok_var 11) (ok_var 8) ok_r2))) (ok_c fun _ => rfl)) ok_lnil)))
 (ok_drop (ok_app (ok_tup (ok_acons (ok_un (ok_bin (ok_un (ok_var 9) ok_neg) (ok_bin (ok_b (ok_lcons (ok_var 8) ok_lnil)) (ok_c fun _ => rfl) ok_sub) ok_div) ok_neg) (ok_acons (ok_var 8) ok_anil)) (by decide)))))
 ok_nx))
 (ok_seq (ok_if (ok_t' (ok_bin (ok_b (ok_lcons (ok_lc (ok_wSeq (ok_var 7)) (ok_vT (ok_vsC (ok_vN (by decide)) (ok_vsC (ok_vN (by decide)) ok_vsN))) ok_yes (ok_var 12)) ok_lnil)) (ok_var 5) ok_r2))
 (ok_ret (ok_c fun _ => rfl))
 ok_nx)
 (ok_if (ok_t' (ok_bin (ok_var 6) (ok_b (ok_lcons (ok_lc (ok_wSeq (ok_var 7)) (ok_vT (ok_vsC (ok_vN (by decide)) (ok_vsC (ok_vN (by decide)) ok_vsN))) (ok_t' (ok_bin (ok_var 12) (ok_var 5) ok_r2)) (ok_var 8)) ok_lnil)) ok_r2))
 (ok_ret (ok_c fun _ => rfl))
 ok_nx))))))))))
 (ok_ret (ok_c fun _ => rfl)))))⟩
end

end LW
namespace LW
open PySem PySem.Spec PyProof.Rows L2 LD
theorem e_is_integer (i : Int) : m_is_integer [.imm (.int i)] = some (.imm (.bl true), [.imm (.int i)]) := by
  simp only [s_is_integer_0, b_is_integer, m_is_integer, a_mVar, a_mC, a_mBin, a_mUn, a_mT, a_mAndT, a_mOrT, a_mNotT, a_mAndV, a_mOrV, a_mNotV, a_mIfE, a_mChain, a_mTup, a_mLst, a_aNil, a_aCons, a_lNil, a_lCons, a_mB, a_mCall, a_cNil, a_cVal, a_cIo, a_mIsi, a_mFld, a_mMake, a_mCch, a_mDNew, a_mSl, a_oNone, a_oSome, a_sNx, a_sSeq, a_sRet, a_sRetN, a_sIf, a_sSet, a_sAsg, a_sPar, a_sDrop, a_sBk, a_sCt, a_gN, a_gsN, a_gsC, a_gT, a_gFld, a_gItem, a_gIx, a_gKey, a_rNil, a_rCons, a_mApp, a_mExt, a_mPop, a_mPopAt, a_wSeq, a_wRng1, a_wRng2, a_wZip, a_wEnum, a_sFor, a_tYesD, a_mRg1, a_mRg2, runF, endD, retD, outsD, List.map_cons, List.map_nil, List.length_cons, List.length_nil, List.replicate_succ, List.replicate_zero, List.replicate, List.cons_append, List.nil_append, cont, getD, freeze, freezeS, conts, svsD, slotsD, backD, noDup0, noDup1, slotsD, keepR, setAll, List.getElem?_cons_zero, List.getElem?_cons_succ, List.set_cons_zero, List.set_cons_succ, ri, rb, if_true, reduceCtorEq, isL, isDic, Bool.not_true, Bool.not_false, isi_int_int, isi_bool_int, Bool.not_false]
theorem e_is_within (i a b : Int) : m_is_within [.imm (.int i), .imm (.int a), .imm (.int b)] = some (.imm (.bl (decide (a ≤ i) && decide (i ≤ b))), [.imm (.int i), .imm (.int a), .imm (.int b)]) := by
  by_cases h : a ≤ i
  · simp [s_is_within_0, b_is_within, m_is_within, a_mVar, a_mC, a_mBin, a_mUn, a_mT, a_mAndT, a_mOrT, a_mNotT, a_mAndV, a_mOrV, a_mNotV, a_mIfE, a_mChain, a_mTup, a_mLst, a_aNil, a_aCons, a_lNil, a_lCons, a_mB, a_mCall, a_cNil, a_cVal, a_cIo, a_mIsi, a_mFld, a_mMake, a_mCch, a_mDNew, a_mSl, a_oNone, a_oSome, a_sNx, a_sSeq, a_sRet, a_sRetN, a_sIf, a_sSet, a_sAsg, a_sPar, a_sDrop, a_sBk, a_sCt, a_gN, a_gsN, a_gsC, a_gT, a_gFld, a_gItem, a_gIx, a_gKey, a_rNil, a_rCons, a_mApp, a_mExt, a_mPop, a_mPopAt, a_wSeq, a_wRng1, a_wRng2, a_wZip, a_wEnum, a_sFor, a_tYesD, a_mRg1, a_mRg2, runF, endD, retD, outsD, List.map_cons, List.map_nil, List.length_cons, List.length_nil, List.replicate_succ, List.replicate_zero, List.replicate, List.cons_append, List.nil_append, cont, getD, freeze, freezeS, conts, svsD, slotsD, backD, noDup0, noDup1, slotsD, keepR, setAll, List.getElem?_cons_zero, List.getElem?_cons_succ, List.set_cons_zero, List.set_cons_succ, ri, rb, if_true, reduceCtorEq, isL, isDic, Bool.not_true, Bool.not_false, e_is_integer, dLeA, two, h]
  · simp [s_is_within_0, b_is_within, m_is_within, a_mVar, a_mC, a_mBin, a_mUn, a_mT, a_mAndT, a_mOrT, a_mNotT, a_mAndV, a_mOrV, a_mNotV, a_mIfE, a_mChain, a_mTup, a_mLst, a_aNil, a_aCons, a_lNil, a_lCons, a_mB, a_mCall, a_cNil, a_cVal, a_cIo, a_mIsi, a_mFld, a_mMake, a_mCch, a_mDNew, a_mSl, a_oNone, a_oSome, a_sNx, a_sSeq, a_sRet, a_sRetN, a_sIf, a_sSet, a_sAsg, a_sPar, a_sDrop, a_sBk, a_sCt, a_gN, a_gsN, a_gsC, a_gT, a_gFld, a_gItem, a_gIx, a_gKey, a_rNil, a_rCons, a_mApp, a_mExt, a_mPop, a_mPopAt, a_wSeq, a_wRng1, a_wRng2, a_wZip, a_wEnum, a_sFor, a_tYesD, a_mRg1, a_mRg2, runF, endD, retD, outsD, List.map_cons, List.map_nil, List.length_cons, List.length_nil, List.replicate_succ, List.replicate_zero, List.replicate, List.cons_append, List.nil_append, cont, getD, freeze, freezeS, conts, svsD, slotsD, backD, noDup0, noDup1, slotsD, keepR, setAll, List.getElem?_cons_zero, List.getElem?_cons_succ, List.set_cons_zero, List.set_cons_succ, ri, rb, if_true, reduceCtorEq, isL, isDic, Bool.not_true, Bool.not_false, e_is_integer, dLeA, two, h]
theorem e_is_count (i : Int) : m_is_count [.imm (.int i)] = some (.imm (.bl (decide (1 ≤ i) && decide (i ≤ 7))), [.imm (.int i)]) := by
  simp [s_is_count_0, b_is_count, m_is_count, a_mVar, a_mC, a_mBin, a_mUn, a_mT, a_mAndT, a_mOrT, a_mNotT, a_mAndV, a_mOrV, a_mNotV, a_mIfE, a_mChain, a_mTup, a_mLst, a_aNil, a_aCons, a_lNil, a_lCons, a_mB, a_mCall, a_cNil, a_cVal, a_cIo, a_mIsi, a_mFld, a_mMake, a_mCch, a_mDNew, a_mSl, a_oNone, a_oSome, a_sNx, a_sSeq, a_sRet, a_sRetN, a_sIf, a_sSet, a_sAsg, a_sPar, a_sDrop, a_sBk, a_sCt, a_gN, a_gsN, a_gsC, a_gT, a_gFld, a_gItem, a_gIx, a_gKey, a_rNil, a_rCons, a_mApp, a_mExt, a_mPop, a_mPopAt, a_wSeq, a_wRng1, a_wRng2, a_wZip, a_wEnum, a_sFor, a_tYesD, a_mRg1, a_mRg2, runF, endD, retD, outsD, List.map_cons, List.map_nil, List.length_cons, List.length_nil, List.replicate_succ, List.replicate_zero, List.replicate, List.cons_append, List.nil_append, cont, getD, freeze, freezeS, conts, svsD, slotsD, backD, noDup0, noDup1, slotsD, keepR, setAll, List.getElem?_cons_zero, List.getElem?_cons_succ, List.set_cons_zero, List.set_cons_succ, ri, rb, if_true, reduceCtorEq, isL, isDic, Bool.not_true, Bool.not_false, e_is_within]
theorem e_is_tuple (ds : List D) (a b : Int) : m_is_tuple [.imm (.tup ds), .imm (.int a), .imm (.int b)] = some (.imm (.bl (decide (a ≤ ds.length) && decide ((ds.length : Int) ≤ b))), [.imm (.tup ds), .imm (.int a), .imm (.int b)]) := by
  by_cases h : a ≤ ds.length
  · simp [s_is_tuple_0, b_is_tuple, m_is_tuple, a_mVar, a_mC, a_mBin, a_mUn, a_mT, a_mAndT, a_mOrT, a_mNotT, a_mAndV, a_mOrV, a_mNotV, a_mIfE, a_mChain, a_mTup, a_mLst, a_aNil, a_aCons, a_lNil, a_lCons, a_mB, a_mCall, a_cNil, a_cVal, a_cIo, a_mIsi, a_mFld, a_mMake, a_mCch, a_mDNew, a_mSl, a_oNone, a_oSome, a_sNx, a_sSeq, a_sRet, a_sRetN, a_sIf, a_sSet, a_sAsg, a_sPar, a_sDrop, a_sBk, a_sCt, a_gN, a_gsN, a_gsC, a_gT, a_gFld, a_gItem, a_gIx, a_gKey, a_rNil, a_rCons, a_mApp, a_mExt, a_mPop, a_mPopAt, a_wSeq, a_wRng1, a_wRng2, a_wZip, a_wEnum, a_sFor, a_tYesD, a_mRg1, a_mRg2, runF, endD, retD, outsD, List.map_cons, List.map_nil, List.length_cons, List.length_nil, List.replicate_succ, List.replicate_zero, List.replicate, List.cons_append, List.nil_append, cont, getD, freeze, freezeS, conts, svsD, slotsD, backD, noDup0, noDup1, slotsD, keepR, setAll, List.getElem?_cons_zero, List.getElem?_cons_succ, List.set_cons_zero, List.set_cons_succ, ri, rb, if_true, reduceCtorEq, isL, isDic, Bool.not_true, Bool.not_false, isi_tuple_tup, dLeA, two, dLen, h]
  · simp [s_is_tuple_0, b_is_tuple, m_is_tuple, a_mVar, a_mC, a_mBin, a_mUn, a_mT, a_mAndT, a_mOrT, a_mNotT, a_mAndV, a_mOrV, a_mNotV, a_mIfE, a_mChain, a_mTup, a_mLst, a_aNil, a_aCons, a_lNil, a_lCons, a_mB, a_mCall, a_cNil, a_cVal, a_cIo, a_mIsi, a_mFld, a_mMake, a_mCch, a_mDNew, a_mSl, a_oNone, a_oSome, a_sNx, a_sSeq, a_sRet, a_sRetN, a_sIf, a_sSet, a_sAsg, a_sPar, a_sDrop, a_sBk, a_sCt, a_gN, a_gsN, a_gsC, a_gT, a_gFld, a_gItem, a_gIx, a_gKey, a_rNil, a_rCons, a_mApp, a_mExt, a_mPop, a_mPopAt, a_wSeq, a_wRng1, a_wRng2, a_wZip, a_wEnum, a_sFor, a_tYesD, a_mRg1, a_mRg2, runF, endD, retD, outsD, List.map_cons, List.map_nil, List.length_cons, List.length_nil, List.replicate_succ, List.replicate_zero, List.replicate, List.cons_append, List.nil_append, cont, getD, freeze, freezeS, conts, svsD, slotsD, backD, noDup0, noDup1, slotsD, keepR, setAll, List.getElem?_cons_zero, List.getElem?_cons_succ, List.set_cons_zero, List.set_cons_succ, ri, rb, if_true, reduceCtorEq, isL, isDic, Bool.not_true, Bool.not_false, isi_tuple_tup, dLeA, two, dLen, h]
end LW

namespace LW
open PySem PySem.Spec PyProof.Rows L2 LD
abbrev nI (n : Nat) : D := .int (n : Int)
def eT (l : List Nat) : D := .tup (l.map nI)
def eP (p : Nat × Nat) : D := .tup [nI p.1, nI p.2]
def eL (L : List (Nat × Nat)) : D := .tup (L.map eP)
def eWeb (n : Nat) (L : List (Nat × Nat)) : D := .ins 0 [nI n, eL L, .cch []]
theorem e_is_line {n : Nat} {p : Nat × Nat} (h : p.1 < p.2) (h2 : p.2 < n) : m_is_line [.imm (nI n), .imm (eP p)] = some (.imm (.bl true), [.imm (nI n), .imm (eP p)]) := by
  have a1 : (p.1 : Int) < n := by omega
  have a2 : (p.1 : Int) ≤ n - 1 := by omega
  have a3 : (p.2 : Int) ≤ n - 1 := by omega
  have a4 : (p.1 : Int) < p.2 := by omega
  have a5 : (0 : Int) ≤ p.1 := by omega
  have a6 : (0 : Int) ≤ p.2 := by omega
  simp [s_is_line_1, s_is_line_0, s_is_line_2, b_is_line, m_is_line, eP, a_mVar, a_mC, a_mBin, a_mUn, a_mT, a_mAndT, a_mOrT, a_mNotT, a_mAndV, a_mOrV, a_mNotV, a_mIfE, a_mChain, a_mTup, a_mLst, a_aNil, a_aCons, a_lNil, a_lCons, a_mB, a_mCall, a_cNil, a_cVal, a_cIo, a_mIsi, a_mFld, a_mMake, a_mCch, a_mDNew, a_mSl, a_oNone, a_oSome, a_sNx, a_sSeq, a_sRet, a_sRetN, a_sIf, a_sSet, a_sAsg, a_sPar, a_sDrop, a_sBk, a_sCt, a_gN, a_gsN, a_gsC, a_gT, a_gFld, a_gItem, a_gIx, a_gKey, a_rNil, a_rCons, a_mApp, a_mExt, a_mPop, a_mPopAt, a_wSeq, a_wRng1, a_wRng2, a_wZip, a_wEnum, a_sFor, a_tYesD, a_mRg1, a_mRg2, runF, endD, retD, outsD, List.map_cons, List.map_nil, List.length_cons, List.length_nil, List.replicate_succ, List.replicate_zero, List.replicate, List.cons_append, List.nil_append, cont, getD, freeze, freezeS, conts, svsD, slotsD, backD, noDup0, noDup1, slotsD, keepR, setAll, List.getElem?_cons_zero, List.getElem?_cons_succ, List.set_cons_zero, List.set_cons_succ, ri, rb, if_true, reduceCtorEq, isL, isDic, Bool.not_true, Bool.not_false, e_is_tuple, c_is_line_0, mLc, lcD, wSeq, wipeD, restD, e_is_within, dSub, dIn2, dAll, bls, a1, a2, a3, a4, a5, a6, dIx, dLtA, two, atI, ixN]

/-! ### the order of tuples -/
def lexI : List Int → List Int → Bool
  | [], [] => false
  | [], _ :: _ => true
  | _ :: _, [] => false
  | x :: xs, y :: ys => decide (x < y) || (decide (x = y) && lexI xs ys)
theorem lex_stp (a b : Int ⊕ List Nat) (r t : List (Int ⊕ List Nat)) : PyProof.Rows.lexLt itemOrd (a :: r) (b :: t) = (itemLt a b || (!itemLt b a && PyProof.Rows.lexLt itemOrd r t)) := rfl
theorem lex_toks : ∀ xs ys : List Int, PyProof.Rows.lexLt PyProof.Rows.itemOrd (PySem.W.keyToksAll (toPys (xs.map D.int))) (PySem.W.keyToksAll (toPys (ys.map D.int))) = lexI xs ys
  | [], [] => by decide
  | [], y :: ys => by simp [toPys, PySem.W.keyToksAll, PyProof.Rows.lexLt, lexI, PyProof.Rows.itemLt]
  | x :: xs, [] => by simp [toPys, PySem.W.keyToksAll, PyProof.Rows.lexLt, lexI, PyProof.Rows.itemLt]
  | x :: xs, y :: ys => by
    have ih := lex_toks xs ys
    simp only [List.map_cons, toPys, toPy, PySem.W.keyToksAll, PySem.W.keyToks, List.cons_append, List.nil_append, lexI]
    rw [lex_stp, lex_stp, ih]
    by_cases h1 : x < y
    · have h2 : ¬ y < x := by omega
      simp [PyProof.Rows.itemLt, h1, h2]
    · by_cases h2 : y < x
      · have h3 : ¬ x = y := by omega
        simp [PyProof.Rows.itemLt, h1, h2, h3]
      · have h3 : x = y := by omega
        simp [PyProof.Rows.itemLt, h3]
theorem lt_tup (xs ys : List Int) : ltD (.tup (xs.map D.int)) (.tup (ys.map D.int)) = lexI xs ys := by
  show PySem.W.dataLt (toPy _) (toPy _) = _
  simp only [toPy]
  exact lex_toks xs ys
theorem alike_ints : ∀ xs ys : List Int, PySem.W.alikeAll (toPys (xs.map D.int)) (toPys (ys.map D.int)) = true
  | [], _ => by simp [toPys, PySem.W.alikeAll]
  | _ :: _, [] => by simp [toPys, PySem.W.alikeAll]
  | x :: xs, y :: ys => by simp [toPys, toPy, PySem.W.alikeAll, PySem.W.alike, alike_ints xs ys]
theorem depth_ints : ∀ xs : List Int, PyData.depthAll (toPys (xs.map D.int)) ≤ 1
  | [] => by simp [toPys, PyData.depthAll]
  | x :: xs => by
    have := depth_ints xs
    simp [toPys, toPy, PyData.depthAll, PyData.depth]
    omega
theorem can_ints : ∀ xs : List Int, PyData.canLayAll0 (toPys (xs.map D.int)) = true
  | [] => by simp [toPys, PyData.canLayAll0]
  | x :: xs => by simp [toPys, toPy, PyData.canLayAll0, PyData.canLay0, can_ints xs]
theorem shp_tup (xs : List Int) : shp (.tup (xs.map D.int)) = true := by
  have := depth_ints xs
  simp [shp, SeqAt.shaped, toPy, PyData.canLay0, can_ints, PyData.depth]
  omega
theorem okLt_tup (xs ys : List Int) : okLt (.tup (xs.map D.int)) (.tup (ys.map D.int)) = true := by
  simp only [okLt, shp_tup, toPy, PySem.W.alike, alike_ints, isNone, Bool.and_self, Bool.not_false]

theorem bls_map {α : Type} (f : α → Bool) : ∀ l : List α, bls (l.map fun x => D.bl (f x)) = some (l.map f)
  | [] => rfl
  | x :: l => by rw [List.map_cons, bls, bls_map f l]; rfl
theorem nums_map : ∀ l : List Int, nums (l.map D.int) = some l
  | [] => rfl
  | x :: l => by rw [List.map_cons, nums, nums_map l]
theorem eP_eq (p : Nat × Nat) : eP p = .tup ([(p.1 : Int), (p.2 : Int)].map D.int) := rfl
theorem eT_eq (l : List Nat) : eT l = .tup ((l.map fun (n : Nat) => (n : Int)).map D.int) := by
  unfold eT; rw [List.map_map]; rfl
/-- lines in order -/
def ltP (p q : Nat × Nat) : Prop := p.1 < q.1 ∨ (p.1 = q.1 ∧ p.2 < q.2)
instance (p q : Nat × Nat) : Decidable (ltP p q) := by unfold ltP; infer_instance
theorem lt_eP (p q : Nat × Nat) : ltD (eP p) (eP q) = decide (ltP p q) := by
  rw [eP_eq, eP_eq, lt_tup]
  unfold ltP
  simp only [lexI]
  by_cases h1 : p.1 < q.1
  · have : (p.1 : Int) < q.1 := by omega
    simp [h1, this]
  · have h1' : ¬ (p.1 : Int) < q.1 := by omega
    by_cases h2 : p.1 = q.1
    · by_cases h3 : p.2 < q.2
      · have : (p.2 : Int) < q.2 := by omega
        simp [h2, h3, this]
      · have : ¬ (p.2 : Int) < q.2 := by omega
        simp [h2, h3, this]
    · have : ¬ (p.1 : Int) = q.1 := by omega
      simp [h1, h2, h1', this]
theorem okLt_eP (p q : Nat × Nat) : okLt (eP p) (eP q) = true := by rw [eP_eq, eP_eq]; exact okLt_tup _ _
def okL (n : Nat) (L : List (Nat × Nat)) : Prop := (∀ p ∈ L, p.1 < p.2 ∧ p.2 < n) ∧ L.Pairwise ltP
theorem all_id_true {α : Type} (l : List α) : (l.map fun _ => true).all id = true := by
  rw [List.all_eq_true]; intro x hx
  obtain ⟨_, _, rfl⟩ := List.mem_map.mp hx
  rfl
theorem zip_tail_lt : ∀ {L : List (Nat × Nat)}, L.Pairwise ltP → ∀ q ∈ L.zip (L.drop 1), ltP q.1 q.2
  | [], _, q, hq => by simp at hq
  | [x], _, q, hq => by simp at hq
  | x :: y :: L, h, q, hq => by
    obtain ⟨h1, h2⟩ := List.pairwise_cons.mp h
    rw [List.drop_succ_cons, List.drop_zero, List.zip_cons_cons] at hq
    rcases List.mem_cons.mp hq with e | hq
    · rw [e]; exact h1 y (List.mem_cons_self ..)
    · exact zip_tail_lt h2 q (by rw [List.drop_succ_cons, List.drop_zero]; exact hq)
theorem two_tup {f : Int → Int → Bool} {g : D → D → Option R} (xs : List D) (y : D) : two f g (.tup xs) y = g (.tup xs) y := by cases y <;> rfl
theorem isi_eL (L : List (Nat × Nat)) : isiD "tuple" (eL L) = some true := isi_tuple_tup _
theorem cut_tail (xs : List D) : LD.cutD xs (some 1) none = xs.drop 1 := by
  unfold LD.cutD
  rw [show HT.sIx xs.length 0 (some 1) = min 1 xs.length from HT.sIx_nat _ _ 1, HT.sIx_none]
  cases xs with
  | nil => rfl
  | cons x xs =>
    have : min 1 (x :: xs).length = 1 := by rw [List.length_cons]; omega
    rw [this]
    exact List.take_of_length_le (by rw [List.length_drop]; exact Nat.le_refl _)
theorem e_are_lines {n : Nat} {L : List (Nat × Nat)} (h : okL n L) : m_are_lines [.imm (nI n), .imm (eL L)] = some (.imm (.bl true), [.imm (nI n), .imm (eL L)]) := by
  have h1 : ∀ st : DSt, st = [some (.imm (nI n)), some (.imm (eL L)), none, none, none] → c_are_lines_0 st = some (.own (.lst ((L.map eP).map fun _ => .bl true)), st) := by
    rintro st rfl
    have := mLc_pure (vs := [2]) (w := wSeq (mVar 1)) (g := gN 2) (c := tYesD) (m := mCall m_is_line (cVal (mVar 0) (cVal (mVar 2) cNil))) (st := [some (.imm (nI n)), some (.imm (eL L)), none, none, none]) (s := [some (.imm (nI n)), some (.imm (eL L)), none, none, none]) (xs := L.map eP) (fun _ => true) (fun _ => .bl true) (by simp only [a_mVar, a_mC, a_mBin, a_mUn, a_mT, a_mAndT, a_mOrT, a_mNotT, a_mAndV, a_mOrV, a_mNotV, a_mIfE, a_mChain, a_mTup, a_mLst, a_aNil, a_aCons, a_lNil, a_lCons, a_mB, a_mCall, a_cNil, a_cVal, a_cIo, a_mIsi, a_mFld, a_mMake, a_mCch, a_mDNew, a_mSl, a_oNone, a_oSome, a_sNx, a_sSeq, a_sRet, a_sRetN, a_sIf, a_sSet, a_sAsg, a_sPar, a_sDrop, a_sBk, a_sCt, a_gN, a_gsN, a_gsC, a_gT, a_gFld, a_gItem, a_gIx, a_gKey, a_rNil, a_rCons, a_mApp, a_mExt, a_mPop, a_mPopAt, a_wSeq, a_wRng1, a_wRng2, a_wZip, a_wEnum, a_sFor, a_tYesD, a_mRg1, a_mRg2, runF, endD, retD, outsD, List.map_cons, List.map_nil, List.length_cons, List.length_nil, List.replicate_succ, List.replicate_zero, List.replicate, List.cons_append, List.nil_append, cont, getD, freeze, freezeS, conts, svsD, slotsD, backD, noDup0, noDup1, slotsD, keepR, setAll, List.getElem?_cons_zero, List.getElem?_cons_succ, List.set_cons_zero, List.set_cons_succ, ri, rb, if_true, reduceCtorEq, isL, isDic, Bool.not_true, Bool.not_false, eL]) fun x hx => ?_
    · rw [List.filter_eq_self.mpr (fun _ _ => rfl)] at this
      exact this
    · obtain ⟨p, hp, rfl⟩ := List.mem_map.mp hx
      obtain ⟨a, b⟩ := h.1 p hp
      refine ⟨[some (.imm (nI n)), some (.imm (eL L)), some (.imm (eP p)), none, none], by simp only [a_mVar, a_mC, a_mBin, a_mUn, a_mT, a_mAndT, a_mOrT, a_mNotT, a_mAndV, a_mOrV, a_mNotV, a_mIfE, a_mChain, a_mTup, a_mLst, a_aNil, a_aCons, a_lNil, a_lCons, a_mB, a_mCall, a_cNil, a_cVal, a_cIo, a_mIsi, a_mFld, a_mMake, a_mCch, a_mDNew, a_mSl, a_oNone, a_oSome, a_sNx, a_sSeq, a_sRet, a_sRetN, a_sIf, a_sSet, a_sAsg, a_sPar, a_sDrop, a_sBk, a_sCt, a_gN, a_gsN, a_gsC, a_gT, a_gFld, a_gItem, a_gIx, a_gKey, a_rNil, a_rCons, a_mApp, a_mExt, a_mPop, a_mPopAt, a_wSeq, a_wRng1, a_wRng2, a_wZip, a_wEnum, a_sFor, a_tYesD, a_mRg1, a_mRg2, runF, endD, retD, outsD, List.map_cons, List.map_nil, List.length_cons, List.length_nil, List.replicate_succ, List.replicate_zero, List.replicate, List.cons_append, List.nil_append, cont, getD, freeze, freezeS, conts, svsD, slotsD, backD, noDup0, noDup1, slotsD, keepR, setAll, List.getElem?_cons_zero, List.getElem?_cons_succ, List.set_cons_zero, List.set_cons_succ, ri, rb, if_true, reduceCtorEq, isL, isDic, Bool.not_true, Bool.not_false, wipeD], by simp only [a_mVar, a_mC, a_mBin, a_mUn, a_mT, a_mAndT, a_mOrT, a_mNotT, a_mAndV, a_mOrV, a_mNotV, a_mIfE, a_mChain, a_mTup, a_mLst, a_aNil, a_aCons, a_lNil, a_lCons, a_mB, a_mCall, a_cNil, a_cVal, a_cIo, a_mIsi, a_mFld, a_mMake, a_mCch, a_mDNew, a_mSl, a_oNone, a_oSome, a_sNx, a_sSeq, a_sRet, a_sRetN, a_sIf, a_sSet, a_sAsg, a_sPar, a_sDrop, a_sBk, a_sCt, a_gN, a_gsN, a_gsC, a_gT, a_gFld, a_gItem, a_gIx, a_gKey, a_rNil, a_rCons, a_mApp, a_mExt, a_mPop, a_mPopAt, a_wSeq, a_wRng1, a_wRng2, a_wZip, a_wEnum, a_sFor, a_tYesD, a_mRg1, a_mRg2, runF, endD, retD, outsD, List.map_cons, List.map_nil, List.length_cons, List.length_nil, List.replicate_succ, List.replicate_zero, List.replicate, List.cons_append, List.nil_append, cont, getD, freeze, freezeS, conts, svsD, slotsD, backD, noDup0, noDup1, slotsD, keepR, setAll, List.getElem?_cons_zero, List.getElem?_cons_succ, List.set_cons_zero, List.set_cons_succ, ri, rb, if_true, reduceCtorEq, isL, isDic, Bool.not_true, Bool.not_false, wipeD], by simp only [a_mVar, a_mC, a_mBin, a_mUn, a_mT, a_mAndT, a_mOrT, a_mNotT, a_mAndV, a_mOrV, a_mNotV, a_mIfE, a_mChain, a_mTup, a_mLst, a_aNil, a_aCons, a_lNil, a_lCons, a_mB, a_mCall, a_cNil, a_cVal, a_cIo, a_mIsi, a_mFld, a_mMake, a_mCch, a_mDNew, a_mSl, a_oNone, a_oSome, a_sNx, a_sSeq, a_sRet, a_sRetN, a_sIf, a_sSet, a_sAsg, a_sPar, a_sDrop, a_sBk, a_sCt, a_gN, a_gsN, a_gsC, a_gT, a_gFld, a_gItem, a_gIx, a_gKey, a_rNil, a_rCons, a_mApp, a_mExt, a_mPop, a_mPopAt, a_wSeq, a_wRng1, a_wRng2, a_wZip, a_wEnum, a_sFor, a_tYesD, a_mRg1, a_mRg2, runF, endD, retD, outsD, List.map_cons, List.map_nil, List.length_cons, List.length_nil, List.replicate_succ, List.replicate_zero, List.replicate, List.cons_append, List.nil_append, cont, getD, freeze, freezeS, conts, svsD, slotsD, backD, noDup0, noDup1, slotsD, keepR, setAll, List.getElem?_cons_zero, List.getElem?_cons_succ, List.set_cons_zero, List.set_cons_succ, ri, rb, if_true, reduceCtorEq, isL, isDic, Bool.not_true, Bool.not_false], fun _ => ⟨.imm (.bl true), ?_, rfl⟩⟩
      simp only [a_mVar, a_mC, a_mBin, a_mUn, a_mT, a_mAndT, a_mOrT, a_mNotT, a_mAndV, a_mOrV, a_mNotV, a_mIfE, a_mChain, a_mTup, a_mLst, a_aNil, a_aCons, a_lNil, a_lCons, a_mB, a_mCall, a_cNil, a_cVal, a_cIo, a_mIsi, a_mFld, a_mMake, a_mCch, a_mDNew, a_mSl, a_oNone, a_oSome, a_sNx, a_sSeq, a_sRet, a_sRetN, a_sIf, a_sSet, a_sAsg, a_sPar, a_sDrop, a_sBk, a_sCt, a_gN, a_gsN, a_gsC, a_gT, a_gFld, a_gItem, a_gIx, a_gKey, a_rNil, a_rCons, a_mApp, a_mExt, a_mPop, a_mPopAt, a_wSeq, a_wRng1, a_wRng2, a_wZip, a_wEnum, a_sFor, a_tYesD, a_mRg1, a_mRg2, runF, endD, retD, outsD, List.map_cons, List.map_nil, List.length_cons, List.length_nil, List.replicate_succ, List.replicate_zero, List.replicate, List.cons_append, List.nil_append, cont, getD, freeze, freezeS, conts, svsD, slotsD, backD, noDup0, noDup1, slotsD, keepR, setAll, List.getElem?_cons_zero, List.getElem?_cons_succ, List.set_cons_zero, List.set_cons_succ, ri, rb, if_true, reduceCtorEq, isL, isDic, Bool.not_true, Bool.not_false, e_is_line a b]
  have h2 : ∀ st : DSt, st = [some (.imm (nI n)), some (.imm (eL L)), none, none, none] → c_are_lines_1 st = some (.own (.lst ((((L.map eP).zip ((L.map eP).drop 1)).map LD.pairD).map fun _ => .bl true)), st) := by
    rintro st rfl
    have := mLc_pure (vs := [3, 4]) (w := wZip (aCons (mVar 1) (aCons (mSl (mVar 1) (oSome (mC (.int 1))) oNone) aNil))) (g := gT 2 (gsC (gN 3) (gsC (gN 4) gsN))) (c := tYesD) (m := mBin dLtA (mVar 3) (mVar 4)) (st := [some (.imm (nI n)), some (.imm (eL L)), none, none, none]) (s := [some (.imm (nI n)), some (.imm (eL L)), none, none, none]) (xs := ((L.map eP).zip ((L.map eP).drop 1)).map LD.pairD) (fun _ => true) (fun _ => .bl true) ?_ fun x hx => ?_
    · rw [List.filter_eq_self.mpr (fun _ _ => rfl)] at this
      exact this
    · have c1 : dSl (eL L) (some 1) none = some (.imm (.tup ((L.map eP).drop 1))) := by
        show some (R.imm (.tup (LD.cutD (L.map eP) (some 1) none))) = _
        rw [cut_tail]
      simp only [a_mVar, a_mC, a_mBin, a_mUn, a_mT, a_mAndT, a_mOrT, a_mNotT, a_mAndV, a_mOrV, a_mNotV, a_mIfE, a_mChain, a_mTup, a_mLst, a_aNil, a_aCons, a_lNil, a_lCons, a_mB, a_mCall, a_cNil, a_cVal, a_cIo, a_mIsi, a_mFld, a_mMake, a_mCch, a_mDNew, a_mSl, a_oNone, a_oSome, a_sNx, a_sSeq, a_sRet, a_sRetN, a_sIf, a_sSet, a_sAsg, a_sPar, a_sDrop, a_sBk, a_sCt, a_gN, a_gsN, a_gsC, a_gT, a_gFld, a_gItem, a_gIx, a_gKey, a_rNil, a_rCons, a_mApp, a_mExt, a_mPop, a_mPopAt, a_wSeq, a_wRng1, a_wRng2, a_wZip, a_wEnum, a_sFor, a_tYesD, a_mRg1, a_mRg2, runF, endD, retD, outsD, List.map_cons, List.map_nil, List.length_cons, List.length_nil, List.replicate_succ, List.replicate_zero, List.replicate, List.cons_append, List.nil_append, cont, getD, freeze, freezeS, conts, svsD, slotsD, backD, noDup0, noDup1, slotsD, keepR, setAll, List.getElem?_cons_zero, List.getElem?_cons_succ, List.set_cons_zero, List.set_cons_succ, ri, rb, if_true, reduceCtorEq, isL, isDic, Bool.not_true, Bool.not_false, c1]
      rfl
    · obtain ⟨q, hq, rfl⟩ := List.mem_map.mp hx
      rw [← List.map_drop, List.zip_map] at hq
      obtain ⟨⟨a, b⟩, hq', rfl⟩ := List.mem_map.mp hq
      have hlt := zip_tail_lt h.2 _ hq'
      refine ⟨[some (.imm (nI n)), some (.imm (eL L)), none, some (.imm (eP a)), some (.imm (eP b))], by simp [a_mVar, a_mC, a_mBin, a_mUn, a_mT, a_mAndT, a_mOrT, a_mNotT, a_mAndV, a_mOrV, a_mNotV, a_mIfE, a_mChain, a_mTup, a_mLst, a_aNil, a_aCons, a_lNil, a_lCons, a_mB, a_mCall, a_cNil, a_cVal, a_cIo, a_mIsi, a_mFld, a_mMake, a_mCch, a_mDNew, a_mSl, a_oNone, a_oSome, a_sNx, a_sSeq, a_sRet, a_sRetN, a_sIf, a_sSet, a_sAsg, a_sPar, a_sDrop, a_sBk, a_sCt, a_gN, a_gsN, a_gsC, a_gT, a_gFld, a_gItem, a_gIx, a_gKey, a_rNil, a_rCons, a_mApp, a_mExt, a_mPop, a_mPopAt, a_wSeq, a_wRng1, a_wRng2, a_wZip, a_wEnum, a_sFor, a_tYesD, a_mRg1, a_mRg2, runF, endD, retD, outsD, List.map_cons, List.map_nil, List.length_cons, List.length_nil, List.replicate_succ, List.replicate_zero, List.replicate, List.cons_append, List.nil_append, cont, getD, freeze, freezeS, conts, svsD, slotsD, backD, noDup0, noDup1, slotsD, keepR, setAll, List.getElem?_cons_zero, List.getElem?_cons_succ, List.set_cons_zero, List.set_cons_succ, ri, rb, if_true, reduceCtorEq, isL, isDic, Bool.not_true, Bool.not_false, wipeD, LD.pairD], by simp only [a_mVar, a_mC, a_mBin, a_mUn, a_mT, a_mAndT, a_mOrT, a_mNotT, a_mAndV, a_mOrV, a_mNotV, a_mIfE, a_mChain, a_mTup, a_mLst, a_aNil, a_aCons, a_lNil, a_lCons, a_mB, a_mCall, a_cNil, a_cVal, a_cIo, a_mIsi, a_mFld, a_mMake, a_mCch, a_mDNew, a_mSl, a_oNone, a_oSome, a_sNx, a_sSeq, a_sRet, a_sRetN, a_sIf, a_sSet, a_sAsg, a_sPar, a_sDrop, a_sBk, a_sCt, a_gN, a_gsN, a_gsC, a_gT, a_gFld, a_gItem, a_gIx, a_gKey, a_rNil, a_rCons, a_mApp, a_mExt, a_mPop, a_mPopAt, a_wSeq, a_wRng1, a_wRng2, a_wZip, a_wEnum, a_sFor, a_tYesD, a_mRg1, a_mRg2, runF, endD, retD, outsD, List.map_cons, List.map_nil, List.length_cons, List.length_nil, List.replicate_succ, List.replicate_zero, List.replicate, List.cons_append, List.nil_append, cont, getD, freeze, freezeS, conts, svsD, slotsD, backD, noDup0, noDup1, slotsD, keepR, setAll, List.getElem?_cons_zero, List.getElem?_cons_succ, List.set_cons_zero, List.set_cons_succ, ri, rb, if_true, reduceCtorEq, isL, isDic, Bool.not_true, Bool.not_false, wipeD], by simp only [a_mVar, a_mC, a_mBin, a_mUn, a_mT, a_mAndT, a_mOrT, a_mNotT, a_mAndV, a_mOrV, a_mNotV, a_mIfE, a_mChain, a_mTup, a_mLst, a_aNil, a_aCons, a_lNil, a_lCons, a_mB, a_mCall, a_cNil, a_cVal, a_cIo, a_mIsi, a_mFld, a_mMake, a_mCch, a_mDNew, a_mSl, a_oNone, a_oSome, a_sNx, a_sSeq, a_sRet, a_sRetN, a_sIf, a_sSet, a_sAsg, a_sPar, a_sDrop, a_sBk, a_sCt, a_gN, a_gsN, a_gsC, a_gT, a_gFld, a_gItem, a_gIx, a_gKey, a_rNil, a_rCons, a_mApp, a_mExt, a_mPop, a_mPopAt, a_wSeq, a_wRng1, a_wRng2, a_wZip, a_wEnum, a_sFor, a_tYesD, a_mRg1, a_mRg2, runF, endD, retD, outsD, List.map_cons, List.map_nil, List.length_cons, List.length_nil, List.replicate_succ, List.replicate_zero, List.replicate, List.cons_append, List.nil_append, cont, getD, freeze, freezeS, conts, svsD, slotsD, backD, noDup0, noDup1, slotsD, keepR, setAll, List.getElem?_cons_zero, List.getElem?_cons_succ, List.set_cons_zero, List.set_cons_succ, ri, rb, if_true, reduceCtorEq, isL, isDic, Bool.not_true, Bool.not_false], fun _ => ⟨.imm (.bl true), ?_, rfl⟩⟩
      have e : dLtA (eP a) (eP b) = some (.imm (.bl true)) := by
        have e1 : dLtA (eP a) (eP b) = dLtD (eP a) (eP b) := two_tup _ _
        rw [e1]
        unfold dLtD
        rw [if_pos (okLt_eP a b), lt_eP, decide_eq_true hlt]
        rfl
      simp only [a_mVar, a_mC, a_mBin, a_mUn, a_mT, a_mAndT, a_mOrT, a_mNotT, a_mAndV, a_mOrV, a_mNotV, a_mIfE, a_mChain, a_mTup, a_mLst, a_aNil, a_aCons, a_lNil, a_lCons, a_mB, a_mCall, a_cNil, a_cVal, a_cIo, a_mIsi, a_mFld, a_mMake, a_mCch, a_mDNew, a_mSl, a_oNone, a_oSome, a_sNx, a_sSeq, a_sRet, a_sRetN, a_sIf, a_sSet, a_sAsg, a_sPar, a_sDrop, a_sBk, a_sCt, a_gN, a_gsN, a_gsC, a_gT, a_gFld, a_gItem, a_gIx, a_gKey, a_rNil, a_rCons, a_mApp, a_mExt, a_mPop, a_mPopAt, a_wSeq, a_wRng1, a_wRng2, a_wZip, a_wEnum, a_sFor, a_tYesD, a_mRg1, a_mRg2, runF, endD, retD, outsD, List.map_cons, List.map_nil, List.length_cons, List.length_nil, List.replicate_succ, List.replicate_zero, List.replicate, List.cons_append, List.nil_append, cont, getD, freeze, freezeS, conts, svsD, slotsD, backD, noDup0, noDup1, slotsD, keepR, setAll, List.getElem?_cons_zero, List.getElem?_cons_succ, List.set_cons_zero, List.set_cons_succ, ri, rb, if_true, reduceCtorEq, isL, isDic, Bool.not_true, Bool.not_false, e]
  have d1 : ∀ l : List D, dAll [.lst (l.map fun _ => D.bl true)] = some (.imm (.bl true)) := fun l => by
    show (match bls (l.map fun x => D.bl ((fun _ => true) x)) with | some bs => rb (bs.all id) | none => none) = _
    rw [bls_map]
    dsimp only
    rw [all_id_true]
    rfl
  simp only [s_are_lines_1, s_are_lines_0, s_are_lines_2, b_are_lines, m_are_lines, a_mVar, a_mC, a_mBin, a_mUn, a_mT, a_mAndT, a_mOrT, a_mNotT, a_mAndV, a_mOrV, a_mNotV, a_mIfE, a_mChain, a_mTup, a_mLst, a_aNil, a_aCons, a_lNil, a_lCons, a_mB, a_mCall, a_cNil, a_cVal, a_cIo, a_mIsi, a_mFld, a_mMake, a_mCch, a_mDNew, a_mSl, a_oNone, a_oSome, a_sNx, a_sSeq, a_sRet, a_sRetN, a_sIf, a_sSet, a_sAsg, a_sPar, a_sDrop, a_sBk, a_sCt, a_gN, a_gsN, a_gsC, a_gT, a_gFld, a_gItem, a_gIx, a_gKey, a_rNil, a_rCons, a_mApp, a_mExt, a_mPop, a_mPopAt, a_wSeq, a_wRng1, a_wRng2, a_wZip, a_wEnum, a_sFor, a_tYesD, a_mRg1, a_mRg2, runF, endD, retD, outsD, List.map_cons, List.map_nil, List.length_cons, List.length_nil, List.replicate_succ, List.replicate_zero, List.replicate, List.cons_append, List.nil_append, cont, getD, freeze, freezeS, conts, svsD, slotsD, backD, noDup0, noDup1, slotsD, keepR, setAll, List.getElem?_cons_zero, List.getElem?_cons_succ, List.set_cons_zero, List.set_cons_succ, ri, rb, if_true, reduceCtorEq, isL, isDic, Bool.not_true, Bool.not_false, h1, h2, d1, isi_eL]
end LW

namespace LW
open PySem PySem.Spec PyProof.Rows L2 LD
theorem e_Web {n : Nat} {L : List (Nat × Nat)} (hn : 1 ≤ n ∧ n ≤ 7) (h : okL n L) : m_Web [.rt false (.ins 0 []), .imm (nI n), .imm (eL L)] = some (.imm .non, [.rt false (eWeb n L), .imm (nI n), .imm (eL L)]) := by
  have h1 : (1 : Int) ≤ n := by omega
  have h2 : (n : Int) ≤ 7 := by omega
  simp [s_Web_1, s_Web_0, s_Web_3, s_Web_2, s_Web_4, s_Web_5, b_Web, m_Web, a_mVar, a_mC, a_mBin, a_mUn, a_mT, a_mAndT, a_mOrT, a_mNotT, a_mAndV, a_mOrV, a_mNotV, a_mIfE, a_mChain, a_mTup, a_mLst, a_aNil, a_aCons, a_lNil, a_lCons, a_mB, a_mCall, a_cNil, a_cVal, a_cIo, a_mIsi, a_mFld, a_mMake, a_mCch, a_mDNew, a_mSl, a_oNone, a_oSome, a_sNx, a_sSeq, a_sRet, a_sRetN, a_sIf, a_sSet, a_sAsg, a_sPar, a_sDrop, a_sBk, a_sCt, a_gN, a_gsN, a_gsC, a_gT, a_gFld, a_gItem, a_gIx, a_gKey, a_rNil, a_rCons, a_mApp, a_mExt, a_mPop, a_mPopAt, a_wSeq, a_wRng1, a_wRng2, a_wZip, a_wEnum, a_sFor, a_tYesD, a_mRg1, a_mRg2, runF, endD, retD, outsD, List.map_cons, List.map_nil, List.length_cons, List.length_nil, List.replicate_succ, List.replicate_zero, List.replicate, List.cons_append, List.nil_append, cont, getD, freeze, freezeS, conts, svsD, slotsD, backD, noDup0, noDup1, slotsD, keepR, setAll, List.getElem?_cons_zero, List.getElem?_cons_succ, List.set_cons_zero, List.set_cons_succ, ri, rb, if_true, reduceCtorEq, isL, isDic, Bool.not_true, Bool.not_false, e_is_count, e_are_lines h, slotsD, h1, h2, eWeb]
def handD (cells : List Int) (k h s c : Int) : D := .lst [.lst (cells.map D.int), .int k, .int h, .int s, .int c]
theorem at_hand {cells : List Int} {k h s c : Int} : atI [D.lst (cells.map D.int), .int k, .int h, .int s, .int c] 0 = some (.lst (cells.map D.int)) ∧ atI [D.lst (cells.map D.int), .int k, .int h, .int s, .int c] 1 = some (.int k) ∧ atI [D.lst (cells.map D.int), .int k, .int h, .int s, .int c] 2 = some (.int h) ∧
    atI [D.lst (cells.map D.int), .int k, .int h, .int s, .int c] 3 = some (.int s) ∧ atI [D.lst (cells.map D.int), .int k, .int h, .int s, .int c] 4 = some (.int c) := by
  simp [atI, ixN]
theorem at_cells {cells : List Int} {k : Int} (h0 : 0 ≤ k) (h1 : k < cells.length) : ∃ v, atI (cells.map D.int) k = some (.int v) := by
  have h2 : k.toNat < cells.length := by omega
  refine ⟨cells[k.toNat], ?_⟩
  unfold atI ixN
  rw [if_pos h0, if_pos (by rw [List.length_map]; exact h1)]
  simp [h2]
theorem cmulR (i : Int) {j : Int} (h1 : -18446744073709551616 < j) (h2 : j < 18446744073709551616) : CMul i j := by
  unfold CMul; omega
theorem cmulL {i : Int} (j : Int) (h1 : -18446744073709551616 < i) (h2 : i < 18446744073709551616) : CMul i j := by
  unfold CMul; omega
theorem ixN5 : ixN 5 0 = some 0 ∧ ixN 5 1 = some 1 ∧ ixN 5 2 = some 2 ∧ ixN 5 3 = some 3 ∧ ixN 5 4 = some 4 := by decide

theorem mod_ex (x : Int) {m : Int} (h : 0 < m) : ∃ y : Int, x % m = y ∧ 0 ≤ y ∧ y < m := ⟨_, rfl, Int.emod_nonneg _ (by omega), Int.emod_lt_of_pos _ h⟩
theorem nat_ex {y : Int} (h : 0 ≤ y) {m : Nat} (h2 : y < m) : ∃ r : Nat, y = (r : Int) ∧ r < m := ⟨y.toNat, by omega, by omega⟩

theorem at_h0 {a b c d e : D} : atI [a, b, c, d, e] 0 = some a := by simp [atI, ixN]
theorem at_h1 {a b c d e : D} : atI [a, b, c, d, e] 1 = some b := by simp [atI, ixN]
theorem at_h2 {a b c d e : D} : atI [a, b, c, d, e] 2 = some c := by simp [atI, ixN]
theorem at_h3 {a b c d e : D} : atI [a, b, c, d, e] 3 = some d := by simp [atI, ixN]
theorem at_h4 {a b c d e : D} : atI [a, b, c, d, e] 4 = some e := by simp [atI, ixN]
theorem draw_0 (cells : List Int) (k h s c : Int) (sides : Nat) (hk : 0 ≤ k) : ∃ (k' h' s' : Int) (x : Option SV), 0 ≤ k' ∧
    s_law_draw_0 [some (.rt false (handD cells k h s c)), some (.imm (nI sides)), none, none, none] = some (.nx, [some (.rt false (handD cells k' h' s' c)), some (.imm (nI sides)), x, none, none]) := by
  obtain ⟨i0, i1, i2, i3, i4⟩ := ixN5
  have m1 : ∀ s, CMul s 69621 := fun s => cmulR _ (by omega) (by omega)
  have m2 : ∀ s, CMul s 16 := fun s => cmulR _ (by omega) (by omega)
  have m3 : CPow 10 18 := ⟨by omega, by omega, by decide⟩
  by_cases a1 : h = 0
  · by_cases a2 : k < cells.length
    · obtain ⟨cell, ec⟩ := at_cells hk a2
      have hk1 : 0 ≤ k + 1 := by omega
      by_cases a3 : (10 : Int) ^ 18 ≤ cell
      · refine ⟨k + 1, cell, (s * 69621 + cell * 16 + 29) % 2147483629, some (.imm (.int cell)), hk1, ?_⟩
        have a3' : (1000000000000000000 : Int) ≤ cell := by omega
        simp [s_law_draw_1, s_law_draw_2, s_law_draw_3, s_law_draw_5, s_law_draw_4, s_law_draw_0, s_law_draw_7, s_law_draw_8, s_law_draw_9, s_law_draw_6, s_law_draw_10, s_law_draw_11, s_law_draw_12, s_law_draw_13, s_law_draw_14, b_law_draw, m_law_draw, a_mVar, a_mC, a_mBin, a_mUn, a_mT, a_mAndT, a_mOrT, a_mNotT, a_mAndV, a_mOrV, a_mNotV, a_mIfE, a_mChain, a_mTup, a_mLst, a_aNil, a_aCons, a_lNil, a_lCons, a_mB, a_mCall, a_cNil, a_cVal, a_cIo, a_mIsi, a_mFld, a_mMake, a_mCch, a_mDNew, a_mSl, a_oNone, a_oSome, a_sNx, a_sSeq, a_sRet, a_sRetN, a_sIf, a_sSet, a_sAsg, a_sPar, a_sDrop, a_sBk, a_sCt, a_gN, a_gsN, a_gsC, a_gT, a_gFld, a_gItem, a_gIx, a_gKey, a_rNil, a_rCons, a_mApp, a_mExt, a_mPop, a_mPopAt, a_wSeq, a_wRng1, a_wRng2, a_wZip, a_wEnum, a_sFor, a_tYesD, a_mRg1, a_mRg2, runF, endD, retD, outsD, List.map_cons, List.map_nil, List.length_cons, List.length_nil, List.replicate_succ, List.replicate_zero, List.replicate, List.cons_append, List.nil_append, cont, getD, freeze, freezeS, conts, svsD, slotsD, backD, noDup0, noDup1, slotsD, keepR, setAll, List.getElem?_cons_zero, List.getElem?_cons_succ, List.set_cons_zero, List.set_cons_succ, ri, rb, if_true, reduceCtorEq, isL, isDic, Bool.not_true, Bool.not_false, handD, dEqA, dLtA, dGeA, two, dIx, dLen, dInt, dMulA, dAdd, dMod, dPow, dIn2, at_h0, at_h1, at_h2, at_h3, at_h4, ec, a1, a2, a3', i0, i1, i2, i3, i4, m1, m2, m3]
      · refine ⟨k + 1, h, (s * 69621 + cell * 16 + 29) % 2147483629, some (.imm (.int cell)), hk1, ?_⟩
        have a3' : ¬ (1000000000000000000 : Int) ≤ cell := by omega
        simp [s_law_draw_1, s_law_draw_2, s_law_draw_3, s_law_draw_5, s_law_draw_4, s_law_draw_0, s_law_draw_7, s_law_draw_8, s_law_draw_9, s_law_draw_6, s_law_draw_10, s_law_draw_11, s_law_draw_12, s_law_draw_13, s_law_draw_14, b_law_draw, m_law_draw, a_mVar, a_mC, a_mBin, a_mUn, a_mT, a_mAndT, a_mOrT, a_mNotT, a_mAndV, a_mOrV, a_mNotV, a_mIfE, a_mChain, a_mTup, a_mLst, a_aNil, a_aCons, a_lNil, a_lCons, a_mB, a_mCall, a_cNil, a_cVal, a_cIo, a_mIsi, a_mFld, a_mMake, a_mCch, a_mDNew, a_mSl, a_oNone, a_oSome, a_sNx, a_sSeq, a_sRet, a_sRetN, a_sIf, a_sSet, a_sAsg, a_sPar, a_sDrop, a_sBk, a_sCt, a_gN, a_gsN, a_gsC, a_gT, a_gFld, a_gItem, a_gIx, a_gKey, a_rNil, a_rCons, a_mApp, a_mExt, a_mPop, a_mPopAt, a_wSeq, a_wRng1, a_wRng2, a_wZip, a_wEnum, a_sFor, a_tYesD, a_mRg1, a_mRg2, runF, endD, retD, outsD, List.map_cons, List.map_nil, List.length_cons, List.length_nil, List.replicate_succ, List.replicate_zero, List.replicate, List.cons_append, List.nil_append, cont, getD, freeze, freezeS, conts, svsD, slotsD, backD, noDup0, noDup1, slotsD, keepR, setAll, List.getElem?_cons_zero, List.getElem?_cons_succ, List.set_cons_zero, List.set_cons_succ, ri, rb, if_true, reduceCtorEq, isL, isDic, Bool.not_true, Bool.not_false, handD, dEqA, dLtA, dGeA, two, dIx, dLen, dInt, dMulA, dAdd, dMod, dPow, dIn2, at_h0, at_h1, at_h2, at_h3, at_h4, ec, a1, a2, a3', i0, i1, i2, i3, i4, m1, m2, m3]
    · refine ⟨k, h, s, none, hk, ?_⟩
      simp [s_law_draw_1, s_law_draw_2, s_law_draw_3, s_law_draw_5, s_law_draw_4, s_law_draw_0, s_law_draw_7, s_law_draw_8, s_law_draw_9, s_law_draw_6, s_law_draw_10, s_law_draw_11, s_law_draw_12, s_law_draw_13, s_law_draw_14, b_law_draw, m_law_draw, a_mVar, a_mC, a_mBin, a_mUn, a_mT, a_mAndT, a_mOrT, a_mNotT, a_mAndV, a_mOrV, a_mNotV, a_mIfE, a_mChain, a_mTup, a_mLst, a_aNil, a_aCons, a_lNil, a_lCons, a_mB, a_mCall, a_cNil, a_cVal, a_cIo, a_mIsi, a_mFld, a_mMake, a_mCch, a_mDNew, a_mSl, a_oNone, a_oSome, a_sNx, a_sSeq, a_sRet, a_sRetN, a_sIf, a_sSet, a_sAsg, a_sPar, a_sDrop, a_sBk, a_sCt, a_gN, a_gsN, a_gsC, a_gT, a_gFld, a_gItem, a_gIx, a_gKey, a_rNil, a_rCons, a_mApp, a_mExt, a_mPop, a_mPopAt, a_wSeq, a_wRng1, a_wRng2, a_wZip, a_wEnum, a_sFor, a_tYesD, a_mRg1, a_mRg2, runF, endD, retD, outsD, List.map_cons, List.map_nil, List.length_cons, List.length_nil, List.replicate_succ, List.replicate_zero, List.replicate, List.cons_append, List.nil_append, cont, getD, freeze, freezeS, conts, svsD, slotsD, backD, noDup0, noDup1, slotsD, keepR, setAll, List.getElem?_cons_zero, List.getElem?_cons_succ, List.set_cons_zero, List.set_cons_succ, ri, rb, if_true, reduceCtorEq, isL, isDic, Bool.not_true, Bool.not_false, handD, dEqA, dLtA, dGeA, two, dIx, dLen, dInt, at_h0, at_h1, at_h2, at_h3, at_h4, a1, a2]
  · refine ⟨k, h, s, none, hk, ?_⟩
    simp [s_law_draw_1, s_law_draw_2, s_law_draw_3, s_law_draw_5, s_law_draw_4, s_law_draw_0, s_law_draw_7, s_law_draw_8, s_law_draw_9, s_law_draw_6, s_law_draw_10, s_law_draw_11, s_law_draw_12, s_law_draw_13, s_law_draw_14, b_law_draw, m_law_draw, a_mVar, a_mC, a_mBin, a_mUn, a_mT, a_mAndT, a_mOrT, a_mNotT, a_mAndV, a_mOrV, a_mNotV, a_mIfE, a_mChain, a_mTup, a_mLst, a_aNil, a_aCons, a_lNil, a_lCons, a_mB, a_mCall, a_cNil, a_cVal, a_cIo, a_mIsi, a_mFld, a_mMake, a_mCch, a_mDNew, a_mSl, a_oNone, a_oSome, a_sNx, a_sSeq, a_sRet, a_sRetN, a_sIf, a_sSet, a_sAsg, a_sPar, a_sDrop, a_sBk, a_sCt, a_gN, a_gsN, a_gsC, a_gT, a_gFld, a_gItem, a_gIx, a_gKey, a_rNil, a_rCons, a_mApp, a_mExt, a_mPop, a_mPopAt, a_wSeq, a_wRng1, a_wRng2, a_wZip, a_wEnum, a_sFor, a_tYesD, a_mRg1, a_mRg2, runF, endD, retD, outsD, List.map_cons, List.map_nil, List.length_cons, List.length_nil, List.replicate_succ, List.replicate_zero, List.replicate, List.cons_append, List.nil_append, cont, getD, freeze, freezeS, conts, svsD, slotsD, backD, noDup0, noDup1, slotsD, keepR, setAll, List.getElem?_cons_zero, List.getElem?_cons_succ, List.set_cons_zero, List.set_cons_succ, ri, rb, if_true, reduceCtorEq, isL, isDic, Bool.not_true, Bool.not_false, handD, dEqA, dLtA, dGeA, two, dIx, dLen, dInt, at_h0, at_h1, at_h2, at_h3, at_h4, a1]
theorem e_draw (cells : List Int) (k h s c : Int) (sides : Nat) (hk : 0 ≤ k) (h1 : 1 ≤ sides) (h2 : sides ≤ 1000) : ∃ (r : Nat) (k' h' s' c' : Int), r < sides ∧ 0 ≤ k' ∧
    m_law_draw [.rt false (handD cells k h s c), .imm (nI sides)] = some (.imm (nI r), [.rt false (handD cells k' h' s' c'), .imm (nI sides)]) := by
  obtain ⟨k', h', s', x, hk', e0⟩ := draw_0 cells k h s c sides hk
  obtain ⟨i0, i1, i2, i3, i4⟩ := ixN5
  have s1 : (0 : Int) < sides := by omega
  have s1n : 0 < sides := by omega
  have s2 : ∀ x, CDiv x sides := fun x => ⟨s1, by omega⟩
  by_cases a1 : 0 < h'
  · obtain ⟨y, hy, y0, y1⟩ := mod_ex h' s1
    refine ⟨y.toNat, k', h' / sides, s', c, by omega, hk', ?_⟩
    have e6 : ∀ x, s_law_draw_6 [some (.rt false (handD cells k' h' s' c)), some (.imm (nI sides)), x, none, none] = some (.ret (.imm (.int y)), [some (.rt false (handD cells k' (h' / sides) s' c)), some (.imm (nI sides)), x, some (.imm (.int y)), none]) := fun x => by
      simp [s_law_draw_1, s_law_draw_2, s_law_draw_3, s_law_draw_5, s_law_draw_4, s_law_draw_0, s_law_draw_7, s_law_draw_8, s_law_draw_9, s_law_draw_6, s_law_draw_10, s_law_draw_11, s_law_draw_12, s_law_draw_13, s_law_draw_14, b_law_draw, m_law_draw, a_mVar, a_mC, a_mBin, a_mUn, a_mT, a_mAndT, a_mOrT, a_mNotT, a_mAndV, a_mOrV, a_mNotV, a_mIfE, a_mChain, a_mTup, a_mLst, a_aNil, a_aCons, a_lNil, a_lCons, a_mB, a_mCall, a_cNil, a_cVal, a_cIo, a_mIsi, a_mFld, a_mMake, a_mCch, a_mDNew, a_mSl, a_oNone, a_oSome, a_sNx, a_sSeq, a_sRet, a_sRetN, a_sIf, a_sSet, a_sAsg, a_sPar, a_sDrop, a_sBk, a_sCt, a_gN, a_gsN, a_gsC, a_gT, a_gFld, a_gItem, a_gIx, a_gKey, a_rNil, a_rCons, a_mApp, a_mExt, a_mPop, a_mPopAt, a_wSeq, a_wRng1, a_wRng2, a_wZip, a_wEnum, a_sFor, a_tYesD, a_mRg1, a_mRg2, runF, endD, retD, outsD, List.map_cons, List.map_nil, List.length_cons, List.length_nil, List.replicate_succ, List.replicate_zero, List.replicate, List.cons_append, List.nil_append, cont, getD, freeze, freezeS, conts, svsD, slotsD, backD, noDup0, noDup1, slotsD, keepR, setAll, List.getElem?_cons_zero, List.getElem?_cons_succ, List.set_cons_zero, List.set_cons_succ, ri, rb, if_true, reduceCtorEq, isL, isDic, Bool.not_true, Bool.not_false, handD, dGtA, two, dIx, dInt, dMod, dDiv, dIn2, at_h0, at_h1, at_h2, at_h3, at_h4, a1, i0, i1, i2, i3, i4, s1n, s2, hy]
    have ey : ((y.toNat : Nat) : Int) = y := by omega
    simp [m_law_draw, b_law_draw, a_mVar, a_mC, a_mBin, a_mUn, a_mT, a_mAndT, a_mOrT, a_mNotT, a_mAndV, a_mOrV, a_mNotV, a_mIfE, a_mChain, a_mTup, a_mLst, a_aNil, a_aCons, a_lNil, a_lCons, a_mB, a_mCall, a_cNil, a_cVal, a_cIo, a_mIsi, a_mFld, a_mMake, a_mCch, a_mDNew, a_mSl, a_oNone, a_oSome, a_sNx, a_sSeq, a_sRet, a_sRetN, a_sIf, a_sSet, a_sAsg, a_sPar, a_sDrop, a_sBk, a_sCt, a_gN, a_gsN, a_gsC, a_gT, a_gFld, a_gItem, a_gIx, a_gKey, a_rNil, a_rCons, a_mApp, a_mExt, a_mPop, a_mPopAt, a_wSeq, a_wRng1, a_wRng2, a_wZip, a_wEnum, a_sFor, a_tYesD, a_mRg1, a_mRg2, runF, endD, retD, outsD, List.map_cons, List.map_nil, List.length_cons, List.length_nil, List.replicate_succ, List.replicate_zero, List.replicate, List.cons_append, List.nil_append, cont, getD, freeze, freezeS, conts, svsD, slotsD, backD, noDup0, noDup1, slotsD, keepR, setAll, List.getElem?_cons_zero, List.getElem?_cons_succ, List.set_cons_zero, List.set_cons_succ, ri, rb, if_true, reduceCtorEq, isL, isDic, Bool.not_true, Bool.not_false, e0, e6, nI, ey]
  · have e6 : ∀ x, s_law_draw_6 [some (.rt false (handD cells k' h' s' c)), some (.imm (nI sides)), x, none, none] = some (.nx, [some (.rt false (handD cells k' h' s' c)), some (.imm (nI sides)), x, none, none]) := fun x => by
      simp [s_law_draw_1, s_law_draw_2, s_law_draw_3, s_law_draw_5, s_law_draw_4, s_law_draw_0, s_law_draw_7, s_law_draw_8, s_law_draw_9, s_law_draw_6, s_law_draw_10, s_law_draw_11, s_law_draw_12, s_law_draw_13, s_law_draw_14, b_law_draw, m_law_draw, a_mVar, a_mC, a_mBin, a_mUn, a_mT, a_mAndT, a_mOrT, a_mNotT, a_mAndV, a_mOrV, a_mNotV, a_mIfE, a_mChain, a_mTup, a_mLst, a_aNil, a_aCons, a_lNil, a_lCons, a_mB, a_mCall, a_cNil, a_cVal, a_cIo, a_mIsi, a_mFld, a_mMake, a_mCch, a_mDNew, a_mSl, a_oNone, a_oSome, a_sNx, a_sSeq, a_sRet, a_sRetN, a_sIf, a_sSet, a_sAsg, a_sPar, a_sDrop, a_sBk, a_sCt, a_gN, a_gsN, a_gsC, a_gT, a_gFld, a_gItem, a_gIx, a_gKey, a_rNil, a_rCons, a_mApp, a_mExt, a_mPop, a_mPopAt, a_wSeq, a_wRng1, a_wRng2, a_wZip, a_wEnum, a_sFor, a_tYesD, a_mRg1, a_mRg2, runF, endD, retD, outsD, List.map_cons, List.map_nil, List.length_cons, List.length_nil, List.replicate_succ, List.replicate_zero, List.replicate, List.cons_append, List.nil_append, cont, getD, freeze, freezeS, conts, svsD, slotsD, backD, noDup0, noDup1, slotsD, keepR, setAll, List.getElem?_cons_zero, List.getElem?_cons_succ, List.set_cons_zero, List.set_cons_succ, ri, rb, if_true, reduceCtorEq, isL, isDic, Bool.not_true, Bool.not_false, handD, dGtA, two, dIx, dInt, dMod, dDiv, dIn2, at_h0, at_h1, at_h2, at_h3, at_h4, a1]
    have m4 : ∀ x : Int, CMul 7919 x := fun x => cmulL _ (by omega) (by omega)
    have m5 : ∀ x : Int, CMul x 48271 := fun x => cmulR _ (by omega) (by omega)
    have d1 : ∀ x : Int, CDiv x 1009 := fun x => ⟨by omega, by omega⟩
    have d2 : ∀ x : Int, CDiv x 2003 := fun x => ⟨by omega, by omega⟩
    have d3 : ∀ x : Int, CDiv x 16 := fun x => ⟨by omega, by omega⟩
    obtain ⟨n1, hn1, p1, q1⟩ := mod_ex ((s' + 7919 * (c + 1)) * 48271) (m := 2147483647) (by omega)
    obtain ⟨n2, hn2, p2, q2⟩ := mod_ex (n1 * (n1 / 1009 + 69621)) (m := 2147483647) (by omega)
    obtain ⟨n3, hn3, p3, q3⟩ := mod_ex (n2 * (n2 / 2003 + 40692)) (m := 2147483399) (by omega)
    obtain ⟨y, hy, y0, y1⟩ := mod_ex (n3 / 16) s1
    have m6 : ∀ x, CMul n1 x := fun x => cmulL _ (by omega) (by omega)
    have m7 : ∀ x, CMul n2 x := fun x => cmulL _ (by omega) (by omega)
    refine ⟨y.toNat, k', h', s', c + 1, by omega, hk', ?_⟩
    have ey : ((y.toNat : Nat) : Int) = y := by omega
    simp only [m_law_draw, b_law_draw, a_mVar, a_mC, a_mBin, a_mUn, a_mT, a_mAndT, a_mOrT, a_mNotT, a_mAndV, a_mOrV, a_mNotV, a_mIfE, a_mChain, a_mTup, a_mLst, a_aNil, a_aCons, a_lNil, a_lCons, a_mB, a_mCall, a_cNil, a_cVal, a_cIo, a_mIsi, a_mFld, a_mMake, a_mCch, a_mDNew, a_mSl, a_oNone, a_oSome, a_sNx, a_sSeq, a_sRet, a_sRetN, a_sIf, a_sSet, a_sAsg, a_sPar, a_sDrop, a_sBk, a_sCt, a_gN, a_gsN, a_gsC, a_gT, a_gFld, a_gItem, a_gIx, a_gKey, a_rNil, a_rCons, a_mApp, a_mExt, a_mPop, a_mPopAt, a_wSeq, a_wRng1, a_wRng2, a_wZip, a_wEnum, a_sFor, a_tYesD, a_mRg1, a_mRg2, runF, endD, retD, outsD, List.map_cons, List.map_nil, List.length_cons, List.length_nil, List.replicate_succ, List.replicate_zero, List.replicate, List.cons_append, List.nil_append, cont, getD, freeze, freezeS, conts, svsD, slotsD, backD, noDup0, noDup1, slotsD, keepR, setAll, List.getElem?_cons_zero, List.getElem?_cons_succ, List.set_cons_zero, List.set_cons_succ, ri, rb, if_true, reduceCtorEq, isL, isDic, Bool.not_true, Bool.not_false, e0, e6]
    simp [s_law_draw_10, s_law_draw_11, s_law_draw_12, s_law_draw_13, s_law_draw_14, a_mVar, a_mC, a_mBin, a_mUn, a_mT, a_mAndT, a_mOrT, a_mNotT, a_mAndV, a_mOrV, a_mNotV, a_mIfE, a_mChain, a_mTup, a_mLst, a_aNil, a_aCons, a_lNil, a_lCons, a_mB, a_mCall, a_cNil, a_cVal, a_cIo, a_mIsi, a_mFld, a_mMake, a_mCch, a_mDNew, a_mSl, a_oNone, a_oSome, a_sNx, a_sSeq, a_sRet, a_sRetN, a_sIf, a_sSet, a_sAsg, a_sPar, a_sDrop, a_sBk, a_sCt, a_gN, a_gsN, a_gsC, a_gT, a_gFld, a_gItem, a_gIx, a_gKey, a_rNil, a_rCons, a_mApp, a_mExt, a_mPop, a_mPopAt, a_wSeq, a_wRng1, a_wRng2, a_wZip, a_wEnum, a_sFor, a_tYesD, a_mRg1, a_mRg2, runF, endD, retD, outsD, List.map_cons, List.map_nil, List.length_cons, List.length_nil, List.replicate_succ, List.replicate_zero, List.replicate, List.cons_append, List.nil_append, cont, getD, freeze, freezeS, conts, svsD, slotsD, backD, noDup0, noDup1, slotsD, keepR, setAll, List.getElem?_cons_zero, List.getElem?_cons_succ, List.set_cons_zero, List.set_cons_succ, ri, rb, if_true, reduceCtorEq, isL, isDic, Bool.not_true, Bool.not_false, nI, ey, handD, dIx, dInt, dMod, dDiv, dAdd, dMulA, dIn2, at_h0, at_h1, at_h2, at_h3, at_h4, i0, i1, i2, i3, i4, s1n, s2, m4, m5, m6, m7, d1, d2, d3, hn1, hn2, hn3, hy]
end LW

namespace LW
open PySem PySem.Spec PyProof.Rows L2 LD
def absD : D → D
  | .int i => .int (if i < 0 then -i else i)
  | d => d
theorem e_hand (ns : List Int) : ∃ (cells : List Int) (s : Int), m_law_hand [.imm (.scr ns)] = some (.own (handD cells 0 0 s 0), [.imm (.scr ns)]) := by
  have hc : ∀ st : DSt, st = [some (.imm (.scr ns)), none, none] → ∃ cells : List Int, c_law_hand_0 st = some (.own (.lst (cells.map D.int)), st) := by
    rintro st rfl
    have := mLc_pure (vs := [2]) (w := wSeq (mSl (mVar 0) oNone (oSome (mC (.int 63))))) (g := gN 2) (c := tYesD) (m := mB dAbs (lCons (mB dInt (lCons (mVar 2) lNil)) lNil)) (st := [some (.imm (.scr ns)), none, none]) (s := [some (.imm (.scr ns)), none, none]) (xs := (LD.cutD (ns.map D.int) none (some 63))) (fun _ => true) absD (by simp only [a_mVar, a_mC, a_mBin, a_mUn, a_mT, a_mAndT, a_mOrT, a_mNotT, a_mAndV, a_mOrV, a_mNotV, a_mIfE, a_mChain, a_mTup, a_mLst, a_aNil, a_aCons, a_lNil, a_lCons, a_mB, a_mCall, a_cNil, a_cVal, a_cIo, a_mIsi, a_mFld, a_mMake, a_mCch, a_mDNew, a_mSl, a_oNone, a_oSome, a_sNx, a_sSeq, a_sRet, a_sRetN, a_sIf, a_sSet, a_sAsg, a_sPar, a_sDrop, a_sBk, a_sCt, a_gN, a_gsN, a_gsC, a_gT, a_gFld, a_gItem, a_gIx, a_gKey, a_rNil, a_rCons, a_mApp, a_mExt, a_mPop, a_mPopAt, a_wSeq, a_wRng1, a_wRng2, a_wZip, a_wEnum, a_sFor, a_tYesD, a_mRg1, a_mRg2, runF, endD, retD, outsD, List.map_cons, List.map_nil, List.length_cons, List.length_nil, List.replicate_succ, List.replicate_zero, List.replicate, List.cons_append, List.nil_append, cont, getD, freeze, freezeS, conts, svsD, slotsD, backD, noDup0, noDup1, slotsD, keepR, setAll, List.getElem?_cons_zero, List.getElem?_cons_succ, List.set_cons_zero, List.set_cons_succ, ri, rb, if_true, reduceCtorEq, isL, isDic, Bool.not_true, Bool.not_false, dSl]) fun x hx => ?_
    · rw [List.filter_eq_self.mpr (fun _ _ => rfl)] at this
      refine ⟨((ns.drop (HT.sIx (ns.map D.int).length 0 none)).take (HT.sIx (ns.map D.int).length (ns.map D.int).length (some 63) - HT.sIx (ns.map D.int).length 0 none)).map fun i => if i < 0 then -i else i, ?_⟩
      rw [show c_law_hand_0 = _ from rfl] at *
      unfold LD.cutD at this
      rw [← List.map_drop, ← List.map_take, List.map_map] at this
      rw [List.map_map]
      exact this
    · have hx' : x ∈ ns.map D.int := List.mem_of_mem_drop (List.mem_of_mem_take hx)
      obtain ⟨i, hi, rfl⟩ := List.mem_map.mp hx'
      exact ⟨[some (.imm (.scr ns)), none, some (.imm (.int i))], by simp [a_mVar, a_mC, a_mBin, a_mUn, a_mT, a_mAndT, a_mOrT, a_mNotT, a_mAndV, a_mOrV, a_mNotV, a_mIfE, a_mChain, a_mTup, a_mLst, a_aNil, a_aCons, a_lNil, a_lCons, a_mB, a_mCall, a_cNil, a_cVal, a_cIo, a_mIsi, a_mFld, a_mMake, a_mCch, a_mDNew, a_mSl, a_oNone, a_oSome, a_sNx, a_sSeq, a_sRet, a_sRetN, a_sIf, a_sSet, a_sAsg, a_sPar, a_sDrop, a_sBk, a_sCt, a_gN, a_gsN, a_gsC, a_gT, a_gFld, a_gItem, a_gIx, a_gKey, a_rNil, a_rCons, a_mApp, a_mExt, a_mPop, a_mPopAt, a_wSeq, a_wRng1, a_wRng2, a_wZip, a_wEnum, a_sFor, a_tYesD, a_mRg1, a_mRg2, runF, endD, retD, outsD, List.map_cons, List.map_nil, List.length_cons, List.length_nil, List.replicate_succ, List.replicate_zero, List.replicate, List.cons_append, List.nil_append, cont, getD, freeze, freezeS, conts, svsD, slotsD, backD, noDup0, noDup1, slotsD, keepR, setAll, List.getElem?_cons_zero, List.getElem?_cons_succ, List.set_cons_zero, List.set_cons_succ, ri, rb, if_true, reduceCtorEq, isL, isDic, Bool.not_true, Bool.not_false, wipeD], by simp [a_mVar, a_mC, a_mBin, a_mUn, a_mT, a_mAndT, a_mOrT, a_mNotT, a_mAndV, a_mOrV, a_mNotV, a_mIfE, a_mChain, a_mTup, a_mLst, a_aNil, a_aCons, a_lNil, a_lCons, a_mB, a_mCall, a_cNil, a_cVal, a_cIo, a_mIsi, a_mFld, a_mMake, a_mCch, a_mDNew, a_mSl, a_oNone, a_oSome, a_sNx, a_sSeq, a_sRet, a_sRetN, a_sIf, a_sSet, a_sAsg, a_sPar, a_sDrop, a_sBk, a_sCt, a_gN, a_gsN, a_gsC, a_gT, a_gFld, a_gItem, a_gIx, a_gKey, a_rNil, a_rCons, a_mApp, a_mExt, a_mPop, a_mPopAt, a_wSeq, a_wRng1, a_wRng2, a_wZip, a_wEnum, a_sFor, a_tYesD, a_mRg1, a_mRg2, runF, endD, retD, outsD, List.map_cons, List.map_nil, List.length_cons, List.length_nil, List.replicate_succ, List.replicate_zero, List.replicate, List.cons_append, List.nil_append, cont, getD, freeze, freezeS, conts, svsD, slotsD, backD, noDup0, noDup1, slotsD, keepR, setAll, List.getElem?_cons_zero, List.getElem?_cons_succ, List.set_cons_zero, List.set_cons_succ, ri, rb, if_true, reduceCtorEq, isL, isDic, Bool.not_true, Bool.not_false, wipeD], by simp only [a_mVar, a_mC, a_mBin, a_mUn, a_mT, a_mAndT, a_mOrT, a_mNotT, a_mAndV, a_mOrV, a_mNotV, a_mIfE, a_mChain, a_mTup, a_mLst, a_aNil, a_aCons, a_lNil, a_lCons, a_mB, a_mCall, a_cNil, a_cVal, a_cIo, a_mIsi, a_mFld, a_mMake, a_mCch, a_mDNew, a_mSl, a_oNone, a_oSome, a_sNx, a_sSeq, a_sRet, a_sRetN, a_sIf, a_sSet, a_sAsg, a_sPar, a_sDrop, a_sBk, a_sCt, a_gN, a_gsN, a_gsC, a_gT, a_gFld, a_gItem, a_gIx, a_gKey, a_rNil, a_rCons, a_mApp, a_mExt, a_mPop, a_mPopAt, a_wSeq, a_wRng1, a_wRng2, a_wZip, a_wEnum, a_sFor, a_tYesD, a_mRg1, a_mRg2, runF, endD, retD, outsD, List.map_cons, List.map_nil, List.length_cons, List.length_nil, List.replicate_succ, List.replicate_zero, List.replicate, List.cons_append, List.nil_append, cont, getD, freeze, freezeS, conts, svsD, slotsD, backD, noDup0, noDup1, slotsD, keepR, setAll, List.getElem?_cons_zero, List.getElem?_cons_succ, List.set_cons_zero, List.set_cons_succ, ri, rb, if_true, reduceCtorEq, isL, isDic, Bool.not_true, Bool.not_false], fun _ => ⟨.imm (absD (.int i)), by simp [a_mVar, a_mC, a_mBin, a_mUn, a_mT, a_mAndT, a_mOrT, a_mNotT, a_mAndV, a_mOrV, a_mNotV, a_mIfE, a_mChain, a_mTup, a_mLst, a_aNil, a_aCons, a_lNil, a_lCons, a_mB, a_mCall, a_cNil, a_cVal, a_cIo, a_mIsi, a_mFld, a_mMake, a_mCch, a_mDNew, a_mSl, a_oNone, a_oSome, a_sNx, a_sSeq, a_sRet, a_sRetN, a_sIf, a_sSet, a_sAsg, a_sPar, a_sDrop, a_sBk, a_sCt, a_gN, a_gsN, a_gsC, a_gT, a_gFld, a_gItem, a_gIx, a_gKey, a_rNil, a_rCons, a_mApp, a_mExt, a_mPop, a_mPopAt, a_wSeq, a_wRng1, a_wRng2, a_wZip, a_wEnum, a_sFor, a_tYesD, a_mRg1, a_mRg2, runF, endD, retD, outsD, List.map_cons, List.map_nil, List.length_cons, List.length_nil, List.replicate_succ, List.replicate_zero, List.replicate, List.cons_append, List.nil_append, cont, getD, freeze, freezeS, conts, svsD, slotsD, backD, noDup0, noDup1, slotsD, keepR, setAll, List.getElem?_cons_zero, List.getElem?_cons_succ, List.set_cons_zero, List.set_cons_succ, ri, rb, if_true, reduceCtorEq, isL, isDic, Bool.not_true, Bool.not_false, dAbs, dInt, absD], rfl⟩⟩
  obtain ⟨cells, hc⟩ := hc _ rfl
  refine ⟨cells, 7 + cells.length, ?_⟩
  simp [s_law_hand_0, s_law_hand_1, b_law_hand, m_law_hand, a_mVar, a_mC, a_mBin, a_mUn, a_mT, a_mAndT, a_mOrT, a_mNotT, a_mAndV, a_mOrV, a_mNotV, a_mIfE, a_mChain, a_mTup, a_mLst, a_aNil, a_aCons, a_lNil, a_lCons, a_mB, a_mCall, a_cNil, a_cVal, a_cIo, a_mIsi, a_mFld, a_mMake, a_mCch, a_mDNew, a_mSl, a_oNone, a_oSome, a_sNx, a_sSeq, a_sRet, a_sRetN, a_sIf, a_sSet, a_sAsg, a_sPar, a_sDrop, a_sBk, a_sCt, a_gN, a_gsN, a_gsC, a_gT, a_gFld, a_gItem, a_gIx, a_gKey, a_rNil, a_rCons, a_mApp, a_mExt, a_mPop, a_mPopAt, a_wSeq, a_wRng1, a_wRng2, a_wZip, a_wEnum, a_sFor, a_tYesD, a_mRg1, a_mRg2, runF, endD, retD, outsD, List.map_cons, List.map_nil, List.length_cons, List.length_nil, List.replicate_succ, List.replicate_zero, List.replicate, List.cons_append, List.nil_append, cont, getD, freeze, freezeS, conts, svsD, slotsD, backD, noDup0, noDup1, slotsD, keepR, setAll, List.getElem?_cons_zero, List.getElem?_cons_succ, List.set_cons_zero, List.set_cons_succ, ri, rb, if_true, reduceCtorEq, isL, isDic, Bool.not_true, Bool.not_false, hc, dAdd, dLen, handD]
end LW

namespace LW
open PySem PySem.Spec PyProof.Rows L2 LD
theorem filter_true {α : Type} (l : List α) : l.filter (fun _ => true) = l := List.filter_eq_self.mpr fun _ _ => rfl
def pairF (a : Nat) : D → D := fun d => .tup [nI a, d]
theorem c_pairs {n a : Nat} (hn : n ≤ 7) (ha : a < n) (x : Option SV) : c_law_pairs_0 [some (.imm (nI n)), x, some (.imm (nI a)), none] = some (.own (.lst (((List.range (n - (a + 1))).map fun k => (a, a + 1 + k)).map eP)), [some (.imm (nI n)), x, some (.imm (nI a)), none]) := by
  have h1 : smallI ((a : Int) + 1) := by unfold smallI; omega
  have h2 : smallI (n : Int) := by unfold smallI; omega
  have h3 : smallI ((n : Int) - (a + 1)) := by unfold smallI; omega
  have hz : ((n : Int) - (a + 1)).toNat = n - (a + 1) := by omega
  have := mLc_pure (vs := [3]) (w := (wRng2 (aCons (mBin dAdd (mVar 2) (mC (.int 1))) (aCons (mVar 0) aNil)))) (g := gN 3) (c := tYesD) (m := (mTup (aCons (mVar 2) (aCons (mVar 3) aNil)))) (st := [some (.imm (nI n)), x, some (.imm (nI a)), none]) (s := [some (.imm (nI n)), x, some (.imm (nI a)), none]) (xs := intsD ((a : Int) + 1) (n - (a + 1))) (fun _ => true) (pairF a) (by simp [a_mVar, a_mC, a_mBin, a_mUn, a_mT, a_mAndT, a_mOrT, a_mNotT, a_mAndV, a_mOrV, a_mNotV, a_mIfE, a_mChain, a_mTup, a_mLst, a_aNil, a_aCons, a_lNil, a_lCons, a_mB, a_mCall, a_cNil, a_cVal, a_cIo, a_mIsi, a_mFld, a_mMake, a_mCch, a_mDNew, a_mSl, a_oNone, a_oSome, a_sNx, a_sSeq, a_sRet, a_sRetN, a_sIf, a_sSet, a_sAsg, a_sPar, a_sDrop, a_sBk, a_sCt, a_gN, a_gsN, a_gsC, a_gT, a_gFld, a_gItem, a_gIx, a_gKey, a_rNil, a_rCons, a_mApp, a_mExt, a_mPop, a_mPopAt, a_wSeq, a_wRng1, a_wRng2, a_wZip, a_wEnum, a_sFor, a_tYesD, a_mRg1, a_mRg2, runF, endD, retD, outsD, List.map_cons, List.map_nil, List.length_cons, List.length_nil, List.replicate_succ, List.replicate_zero, List.replicate, List.cons_append, List.nil_append, cont, getD, freeze, freezeS, conts, svsD, slotsD, backD, noDup0, noDup1, slotsD, keepR, setAll, List.getElem?_cons_zero, List.getElem?_cons_succ, List.set_cons_zero, List.set_cons_succ, ri, rb, if_true, reduceCtorEq, isL, isDic, Bool.not_true, Bool.not_false, dAdd, h1, h2, h3, hz]) fun d hd => ?_
  · rw [filter_true] at this
    have e : (intsD ((a : Int) + 1) (n - (a + 1))).map (pairF a) = ((List.range (n - (a + 1))).map fun k => (a, a + 1 + k)).map eP := by
      unfold intsD
      rw [List.map_map, List.map_map]
      refine List.map_congr_left fun k _ => ?_
      have e2 : (a : Int) + 1 + (k : Int) = ((a + 1 + k : Nat) : Int) := by omega
      rw [Function.comp, Function.comp, e2]
      rfl
    rw [e] at this
    exact this
  · obtain ⟨k, hk, rfl⟩ := ints_mem.mp hd
    exact ⟨[some (.imm (nI n)), x, some (.imm (nI a)), some (.imm (.int ((a : Int) + 1 + k)))], by simp [a_mVar, a_mC, a_mBin, a_mUn, a_mT, a_mAndT, a_mOrT, a_mNotT, a_mAndV, a_mOrV, a_mNotV, a_mIfE, a_mChain, a_mTup, a_mLst, a_aNil, a_aCons, a_lNil, a_lCons, a_mB, a_mCall, a_cNil, a_cVal, a_cIo, a_mIsi, a_mFld, a_mMake, a_mCch, a_mDNew, a_mSl, a_oNone, a_oSome, a_sNx, a_sSeq, a_sRet, a_sRetN, a_sIf, a_sSet, a_sAsg, a_sPar, a_sDrop, a_sBk, a_sCt, a_gN, a_gsN, a_gsC, a_gT, a_gFld, a_gItem, a_gIx, a_gKey, a_rNil, a_rCons, a_mApp, a_mExt, a_mPop, a_mPopAt, a_wSeq, a_wRng1, a_wRng2, a_wZip, a_wEnum, a_sFor, a_tYesD, a_mRg1, a_mRg2, runF, endD, retD, outsD, List.map_cons, List.map_nil, List.length_cons, List.length_nil, List.replicate_succ, List.replicate_zero, List.replicate, List.cons_append, List.nil_append, cont, getD, freeze, freezeS, conts, svsD, slotsD, backD, noDup0, noDup1, slotsD, keepR, setAll, List.getElem?_cons_zero, List.getElem?_cons_succ, List.set_cons_zero, List.set_cons_succ, ri, rb, if_true, reduceCtorEq, isL, isDic, Bool.not_true, Bool.not_false, wipeD], by simp [a_mVar, a_mC, a_mBin, a_mUn, a_mT, a_mAndT, a_mOrT, a_mNotT, a_mAndV, a_mOrV, a_mNotV, a_mIfE, a_mChain, a_mTup, a_mLst, a_aNil, a_aCons, a_lNil, a_lCons, a_mB, a_mCall, a_cNil, a_cVal, a_cIo, a_mIsi, a_mFld, a_mMake, a_mCch, a_mDNew, a_mSl, a_oNone, a_oSome, a_sNx, a_sSeq, a_sRet, a_sRetN, a_sIf, a_sSet, a_sAsg, a_sPar, a_sDrop, a_sBk, a_sCt, a_gN, a_gsN, a_gsC, a_gT, a_gFld, a_gItem, a_gIx, a_gKey, a_rNil, a_rCons, a_mApp, a_mExt, a_mPop, a_mPopAt, a_wSeq, a_wRng1, a_wRng2, a_wZip, a_wEnum, a_sFor, a_tYesD, a_mRg1, a_mRg2, runF, endD, retD, outsD, List.map_cons, List.map_nil, List.length_cons, List.length_nil, List.replicate_succ, List.replicate_zero, List.replicate, List.cons_append, List.nil_append, cont, getD, freeze, freezeS, conts, svsD, slotsD, backD, noDup0, noDup1, slotsD, keepR, setAll, List.getElem?_cons_zero, List.getElem?_cons_succ, List.set_cons_zero, List.set_cons_succ, ri, rb, if_true, reduceCtorEq, isL, isDic, Bool.not_true, Bool.not_false, wipeD], by simp only [a_mVar, a_mC, a_mBin, a_mUn, a_mT, a_mAndT, a_mOrT, a_mNotT, a_mAndV, a_mOrV, a_mNotV, a_mIfE, a_mChain, a_mTup, a_mLst, a_aNil, a_aCons, a_lNil, a_lCons, a_mB, a_mCall, a_cNil, a_cVal, a_cIo, a_mIsi, a_mFld, a_mMake, a_mCch, a_mDNew, a_mSl, a_oNone, a_oSome, a_sNx, a_sSeq, a_sRet, a_sRetN, a_sIf, a_sSet, a_sAsg, a_sPar, a_sDrop, a_sBk, a_sCt, a_gN, a_gsN, a_gsC, a_gT, a_gFld, a_gItem, a_gIx, a_gKey, a_rNil, a_rCons, a_mApp, a_mExt, a_mPop, a_mPopAt, a_wSeq, a_wRng1, a_wRng2, a_wZip, a_wEnum, a_sFor, a_tYesD, a_mRg1, a_mRg2, runF, endD, retD, outsD, List.map_cons, List.map_nil, List.length_cons, List.length_nil, List.replicate_succ, List.replicate_zero, List.replicate, List.cons_append, List.nil_append, cont, getD, freeze, freezeS, conts, svsD, slotsD, backD, noDup0, noDup1, slotsD, keepR, setAll, List.getElem?_cons_zero, List.getElem?_cons_succ, List.set_cons_zero, List.set_cons_succ, ri, rb, if_true, reduceCtorEq, isL, isDic, Bool.not_true, Bool.not_false], fun _ => ⟨.imm (pairF a (.int ((a : Int) + 1 + k))), by simp [a_mVar, a_mC, a_mBin, a_mUn, a_mT, a_mAndT, a_mOrT, a_mNotT, a_mAndV, a_mOrV, a_mNotV, a_mIfE, a_mChain, a_mTup, a_mLst, a_aNil, a_aCons, a_lNil, a_lCons, a_mB, a_mCall, a_cNil, a_cVal, a_cIo, a_mIsi, a_mFld, a_mMake, a_mCch, a_mDNew, a_mSl, a_oNone, a_oSome, a_sNx, a_sSeq, a_sRet, a_sRetN, a_sIf, a_sSet, a_sAsg, a_sPar, a_sDrop, a_sBk, a_sCt, a_gN, a_gsN, a_gsC, a_gT, a_gFld, a_gItem, a_gIx, a_gKey, a_rNil, a_rCons, a_mApp, a_mExt, a_mPop, a_mPopAt, a_wSeq, a_wRng1, a_wRng2, a_wZip, a_wEnum, a_sFor, a_tYesD, a_mRg1, a_mRg2, runF, endD, retD, outsD, List.map_cons, List.map_nil, List.length_cons, List.length_nil, List.replicate_succ, List.replicate_zero, List.replicate, List.cons_append, List.nil_append, cont, getD, freeze, freezeS, conts, svsD, slotsD, backD, noDup0, noDup1, slotsD, keepR, setAll, List.getElem?_cons_zero, List.getElem?_cons_succ, List.set_cons_zero, List.set_cons_succ, ri, rb, if_true, reduceCtorEq, isL, isDic, Bool.not_true, Bool.not_false, pairF], rfl⟩⟩
theorem pairs_loop {n : Nat} (hn : n ≤ 7) : s_law_pairs_1 [some (.imm (nI n)), some (.rt true (.lst [])), none, none] = forD (gN 2) s_law_pairs_2 (intsD ((0 : Nat) : Int) n) [some (.imm (nI n)), some (.rt true (.lst [])), none, none] := by
  have h2 : smallI (n : Int) := by unfold smallI; omega
  simp [s_law_pairs_1, a_mVar, a_mC, a_mBin, a_mUn, a_mT, a_mAndT, a_mOrT, a_mNotT, a_mAndV, a_mOrV, a_mNotV, a_mIfE, a_mChain, a_mTup, a_mLst, a_aNil, a_aCons, a_lNil, a_lCons, a_mB, a_mCall, a_cNil, a_cVal, a_cIo, a_mIsi, a_mFld, a_mMake, a_mCch, a_mDNew, a_mSl, a_oNone, a_oSome, a_sNx, a_sSeq, a_sRet, a_sRetN, a_sIf, a_sSet, a_sAsg, a_sPar, a_sDrop, a_sBk, a_sCt, a_gN, a_gsN, a_gsC, a_gT, a_gFld, a_gItem, a_gIx, a_gKey, a_rNil, a_rCons, a_mApp, a_mExt, a_mPop, a_mPopAt, a_wSeq, a_wRng1, a_wRng2, a_wZip, a_wEnum, a_sFor, a_tYesD, a_mRg1, a_mRg2, runF, endD, retD, outsD, List.map_cons, List.map_nil, List.length_cons, List.length_nil, List.replicate_succ, List.replicate_zero, List.replicate, List.cons_append, List.nil_append, cont, getD, freeze, freezeS, conts, svsD, slotsD, backD, noDup0, noDup1, slotsD, keepR, setAll, List.getElem?_cons_zero, List.getElem?_cons_succ, List.set_cons_zero, List.set_cons_succ, ri, rb, if_true, reduceCtorEq, isL, isDic, Bool.not_true, Bool.not_false, h2]
theorem pairs_step {n i : Nat} (hn : n ≤ 7) (hi : i < n) (Ps : List (Nat × Nat)) (hz : Ps.length + (n - (i + 1)) ≤ sizeLine) : s_law_pairs_2 [some (.imm (nI n)), some (.rt true (.lst (Ps.map eP))), some (.imm (nI i)), none] = some (.nx, [some (.imm (nI n)), some (.rt true (.lst ((Ps ++ (List.range (n - (i + 1))).map fun k => (i, i + 1 + k)).map eP))), some (.imm (nI i)), none]) := by
  have hc := c_pairs hn hi (some (.rt true (.lst (Ps.map eP))))
  have e1 : mExt 1 c_law_pairs_0 [some (.imm (nI n)), some (.rt true (.lst (Ps.map eP))), some (.imm (nI i)), none] = some (.imm .non, [some (.imm (nI n)), some (.rt true (.lst (Ps.map eP ++ ((List.range (n - (i + 1))).map fun k => (i, i + 1 + k)).map eP))), some (.imm (nI i)), none]) := by
    simp only [a_mExt, isL, List.getElem?_cons_succ, List.getElem?_cons_zero, if_true, hc, cont]
    rw [if_pos (by rw [List.length_map, List.length_map, List.length_map, List.length_range]; exact hz)]
    simp only [List.set_cons_succ, List.set_cons_zero]
  simp only [s_law_pairs_2, a_sDrop, e1, List.map_append]
theorem small7 {m n i : Nat} (hn : n ≤ 7) (hi : i < n) (h : m ≤ i * n) : m + (n - (i + 1)) ≤ sizeLine := by
  rw [sizeLine_eq]
  have : i * n ≤ 7 * 7 := Nat.mul_le_mul (by omega) hn
  omega
theorem e_pairs {n : Nat} (hn : n ≤ 7) : ∃ Ps : List (Nat × Nat), m_law_pairs [.imm (nI n)] = some (.own (.lst (Ps.map eP)), [.imm (nI n)]) ∧ (∀ p ∈ Ps, p.1 < p.2 ∧ p.2 < n) ∧ Ps.length ≤ n * n := by
  have hl := pairs_loop hn
  obtain ⟨s, q1, Ps, y, rfl, q3, q4⟩ := forD_ints (g := gN 2) (b := s_law_pairs_2) (fun i st => ∃ (Ps : List (Nat × Nat)) (y : Option SV), st = [some (.imm (nI n)), some (.rt true (.lst (Ps.map eP))), y, none] ∧ (∀ p ∈ Ps, p.1 < p.2 ∧ p.2 < n) ∧ Ps.length ≤ i * n) n 0 (fun i _ hi st ⟨Ps, y, e, h1, h2⟩ => by
    subst e
    have hi : i < n := by omega
    refine ⟨_, _, rfl, .inl (pairs_step hn hi Ps (small7 hn hi h2)), Ps ++ (List.range (n - (i + 1))).map fun k => (i, i + 1 + k), _, rfl, fun p hp => ?_, ?_⟩
    · rcases List.mem_append.mp hp with z | z
      · exact h1 p z
      · obtain ⟨k, hk, rfl⟩ := List.mem_map.mp z
        have := List.mem_range.mp hk
        exact ⟨by show i < i + 1 + k; omega, by show i + 1 + k < n; omega⟩
    · rw [List.length_append, List.length_map, List.length_range, Nat.add_mul]
      omega) _ ⟨[], none, rfl, fun p hp => by simp at hp, by simp⟩
  rw [List.map_nil] at q1
  rw [q1] at hl
  refine ⟨Ps, ?_, q3, by rw [Nat.zero_add] at q4; exact q4⟩
  simp [m_law_pairs, b_law_pairs, s_law_pairs_0, s_law_pairs_3, a_mVar, a_mC, a_mBin, a_mUn, a_mT, a_mAndT, a_mOrT, a_mNotT, a_mAndV, a_mOrV, a_mNotV, a_mIfE, a_mChain, a_mTup, a_mLst, a_aNil, a_aCons, a_lNil, a_lCons, a_mB, a_mCall, a_cNil, a_cVal, a_cIo, a_mIsi, a_mFld, a_mMake, a_mCch, a_mDNew, a_mSl, a_oNone, a_oSome, a_sNx, a_sSeq, a_sRet, a_sRetN, a_sIf, a_sSet, a_sAsg, a_sPar, a_sDrop, a_sBk, a_sCt, a_gN, a_gsN, a_gsC, a_gT, a_gFld, a_gItem, a_gIx, a_gKey, a_rNil, a_rCons, a_mApp, a_mExt, a_mPop, a_mPopAt, a_wSeq, a_wRng1, a_wRng2, a_wZip, a_wEnum, a_sFor, a_tYesD, a_mRg1, a_mRg2, runF, endD, retD, outsD, List.map_cons, List.map_nil, List.length_cons, List.length_nil, List.replicate_succ, List.replicate_zero, List.replicate, List.cons_append, List.nil_append, cont, getD, freeze, freezeS, conts, svsD, slotsD, backD, noDup0, noDup1, slotsD, keepR, setAll, List.getElem?_cons_zero, List.getElem?_cons_succ, List.set_cons_zero, List.set_cons_succ, ri, rb, if_true, reduceCtorEq, isL, isDic, Bool.not_true, Bool.not_false, hl]
end LW

namespace LW
open PySem PySem.Spec PyProof.Rows L2 LD
/-- a hand that can be drawn from -/
def isHand (d : D) : Prop := ∃ (cells : List Int) (k h s c : Int), 0 ≤ k ∧ d = handD cells k h s c
theorem x_draw {d : D} (h : isHand d) (sides : Nat) (h1 : 1 ≤ sides) (h2 : sides ≤ 1000) : ∃ (r : Nat) (d' : D), r < sides ∧ isHand d' ∧ m_law_draw [.rt false d, .imm (nI sides)] = some (.imm (nI r), [.rt false d', .imm (nI sides)]) := by
  obtain ⟨cells, k, h, s, c, hk, rfl⟩ := h
  obtain ⟨r, k', h', s', c', q1, q2, q3⟩ := e_draw cells k h s c sides hk h1 h2
  exact ⟨r, _, q1, ⟨cells, k', h', s', c', q2, rfl⟩, q3⟩
theorem lines_0 {d : D} (h : isHand d) (n : Nat) (b : Bool) : ∃ (kind often : Nat) (d' : D), often ≤ 1000 ∧ 1 ≤ often ∧ isHand d' ∧
    s_law_lines_0 [some (.rt b d), some (.imm (nI n)), none, none, none, none, none] = some (.nx, [some (.rt b d'), some (.imm (nI n)), some (.imm (nI kind)), some (.imm (nI often)), none, none, none]) := by
  obtain ⟨r1, d1, a1, a2, a3⟩ := x_draw h 4 (by omega) (by omega)
  obtain ⟨r2, d2, b1, b2, b3⟩ := x_draw a2 3 (by omega) (by omega)
  refine ⟨r1, 2 + r2, d2, by omega, by omega, b2, ?_⟩
  have a3' : m_law_draw [.rt false d, .imm (.int 4)] = some (.imm (nI r1), [.rt false d1, .imm (.int 4)]) := a3
  have b3' : m_law_draw [.rt false d1, .imm (.int 3)] = some (.imm (nI r2), [.rt false d2, .imm (.int 3)]) := b3
  have e : D.int (2 + (r2 : Int)) = nI (2 + r2) := by show D.int _ = D.int _; congr 1
  simp [s_law_lines_0, a_mVar, a_mC, a_mBin, a_mUn, a_mT, a_mAndT, a_mOrT, a_mNotT, a_mAndV, a_mOrV, a_mNotV, a_mIfE, a_mChain, a_mTup, a_mLst, a_aNil, a_aCons, a_lNil, a_lCons, a_mB, a_mCall, a_cNil, a_cVal, a_cIo, a_mIsi, a_mFld, a_mMake, a_mCch, a_mDNew, a_mSl, a_oNone, a_oSome, a_sNx, a_sSeq, a_sRet, a_sRetN, a_sIf, a_sSet, a_sAsg, a_sPar, a_sDrop, a_sBk, a_sCt, a_gN, a_gsN, a_gsC, a_gT, a_gFld, a_gItem, a_gIx, a_gKey, a_rNil, a_rCons, a_mApp, a_mExt, a_mPop, a_mPopAt, a_wSeq, a_wRng1, a_wRng2, a_wZip, a_wEnum, a_sFor, a_tYesD, a_mRg1, a_mRg2, runF, endD, retD, outsD, List.map_cons, List.map_nil, List.length_cons, List.length_nil, List.replicate_succ, List.replicate_zero, List.replicate, List.cons_append, List.nil_append, cont, getD, freeze, freezeS, conts, svsD, slotsD, backD, noDup0, noDup1, slotsD, keepR, setAll, List.getElem?_cons_zero, List.getElem?_cons_succ, List.set_cons_zero, List.set_cons_succ, ri, rb, if_true, reduceCtorEq, isL, isDic, Bool.not_true, Bool.not_false, a3', b3', dAdd]
  try exact e

def okP (n : Nat) (d : D) : Prop := ∃ p : Nat × Nat, d = eP p ∧ p.1 < p.2 ∧ p.2 < n
theorem ne_bool (a b : Bool) : dNeA (.bl a) (.bl b) = some (.imm (.bl (a != b))) := by
  cases a <;> cases b <;> rfl
theorem lines_1 {d : D} (h : isHand d) {n kind often : Nat} (hn : n ≤ 7) (ho : often ≤ 1000) (ho1 : 1 ≤ often) (b : Bool) : ∃ (ds : List D) (d' : D), isHand d' ∧ (∀ x ∈ ds, okP n x) ∧ ds.length ≤ n * n ∧
    s_law_lines_1 [some (.rt b d), some (.imm (nI n)), some (.imm (nI kind)), some (.imm (nI often)), none, none, none] = some (.nx, [some (.rt b d'), some (.imm (nI n)), some (.imm (nI kind)), some (.imm (nI often)), some (.rt true (.lst ds)), none, none]) := by
  obtain ⟨Ps, p1, p2, p3⟩ := e_pairs hn
  obtain ⟨ds, t, q1, q2, q3, d', hd', rfl⟩ := lc_inv (vs := [5]) (g := gN 5) (c := (mT (mBin dNeA (mBin dEqA (mCall m_law_draw (cIo 0 (cVal (mVar 3) cNil))) (mC (.int 0))) (mBin dEqA (mVar 2) (mC (.int 1)))))) (m := mVar 5)
    (fun st => ∃ d', isHand d' ∧ st = [some (.rt b d'), some (.imm (nI n)), some (.imm (nI kind)), some (.imm (nI often)), none, none, none]) (okP n) (Ps.map eP) (fun x hx st ⟨d0, h0, e0⟩ => by
      subst e0
      obtain ⟨p, hp, rfl⟩ := List.mem_map.mp hx
      obtain ⟨r, d1, a1, a2, a3⟩ := x_draw h0 often ho1 ho
      have hc : (mT (mBin dNeA (mBin dEqA (mCall m_law_draw (cIo 0 (cVal (mVar 3) cNil))) (mC (.int 0))) (mBin dEqA (mVar 2) (mC (.int 1))))) [some (.rt b d0), some (.imm (nI n)), some (.imm (nI kind)), some (.imm (nI often)), none, some (.imm (eP p)), none] =
          some ((decide ((r : Int) = 0) != decide ((kind : Int) = 1)), [some (.rt b d1), some (.imm (nI n)), some (.imm (nI kind)), some (.imm (nI often)), none, some (.imm (eP p)), none]) := by
        simp [a_mVar, a_mC, a_mBin, a_mUn, a_mT, a_mAndT, a_mOrT, a_mNotT, a_mAndV, a_mOrV, a_mNotV, a_mIfE, a_mChain, a_mTup, a_mLst, a_aNil, a_aCons, a_lNil, a_lCons, a_mB, a_mCall, a_cNil, a_cVal, a_cIo, a_mIsi, a_mFld, a_mMake, a_mCch, a_mDNew, a_mSl, a_oNone, a_oSome, a_sNx, a_sSeq, a_sRet, a_sRetN, a_sIf, a_sSet, a_sAsg, a_sPar, a_sDrop, a_sBk, a_sCt, a_gN, a_gsN, a_gsC, a_gT, a_gFld, a_gItem, a_gIx, a_gKey, a_rNil, a_rCons, a_mApp, a_mExt, a_mPop, a_mPopAt, a_wSeq, a_wRng1, a_wRng2, a_wZip, a_wEnum, a_sFor, a_tYesD, a_mRg1, a_mRg2, runF, endD, retD, outsD, List.map_cons, List.map_nil, List.length_cons, List.length_nil, List.replicate_succ, List.replicate_zero, List.replicate, List.cons_append, List.nil_append, cont, getD, freeze, freezeS, conts, svsD, slotsD, backD, noDup0, noDup1, slotsD, keepR, setAll, List.getElem?_cons_zero, List.getElem?_cons_succ, List.set_cons_zero, List.set_cons_succ, ri, rb, if_true, reduceCtorEq, isL, isDic, Bool.not_true, Bool.not_false, a3, dEqA, two, ne_bool]
      refine ⟨[some (.rt b d0), some (.imm (nI n)), some (.imm (nI kind)), some (.imm (nI often)), none, some (.imm (eP p)), none], _, _, rfl, hc, ?_⟩
      cases e : (decide ((r : Int) = 0) != decide ((kind : Int) = 1)) with
      | false => exact .inl ⟨rfl, d1, a2, rfl⟩
      | true => exact .inr ⟨rfl, .imm (eP p), _, eP p, _, rfl, rfl, ⟨p, rfl, p2 p hp⟩, d1, a2, rfl⟩) [some (.rt b d), some (.imm (nI n)), some (.imm (nI kind)), some (.imm (nI often)), none, none, none] ⟨d, h, rfl⟩
  refine ⟨ds, d', hd', q2, by rw [List.length_map] at q3; omega, ?_⟩
  have hw : (wSeq (mCall m_law_pairs (cVal (mVar 1) cNil))) [some (.rt b d), some (.imm (nI n)), some (.imm (nI kind)), some (.imm (nI often)), none, none, none] = some (Ps.map eP, [some (.rt b d), some (.imm (nI n)), some (.imm (nI kind)), some (.imm (nI often)), none, none, none]) := by
    simp [a_mVar, a_mC, a_mBin, a_mUn, a_mT, a_mAndT, a_mOrT, a_mNotT, a_mAndV, a_mOrV, a_mNotV, a_mIfE, a_mChain, a_mTup, a_mLst, a_aNil, a_aCons, a_lNil, a_lCons, a_mB, a_mCall, a_cNil, a_cVal, a_cIo, a_mIsi, a_mFld, a_mMake, a_mCch, a_mDNew, a_mSl, a_oNone, a_oSome, a_sNx, a_sSeq, a_sRet, a_sRetN, a_sIf, a_sSet, a_sAsg, a_sPar, a_sDrop, a_sBk, a_sCt, a_gN, a_gsN, a_gsC, a_gT, a_gFld, a_gItem, a_gIx, a_gKey, a_rNil, a_rCons, a_mApp, a_mExt, a_mPop, a_mPopAt, a_wSeq, a_wRng1, a_wRng2, a_wZip, a_wEnum, a_sFor, a_tYesD, a_mRg1, a_mRg2, runF, endD, retD, outsD, List.map_cons, List.map_nil, List.length_cons, List.length_nil, List.replicate_succ, List.replicate_zero, List.replicate, List.cons_append, List.nil_append, cont, getD, freeze, freezeS, conts, svsD, slotsD, backD, noDup0, noDup1, slotsD, keepR, setAll, List.getElem?_cons_zero, List.getElem?_cons_succ, List.set_cons_zero, List.set_cons_succ, ri, rb, if_true, reduceCtorEq, isL, isDic, Bool.not_true, Bool.not_false, p1]
  have hcc : c_law_lines_0 [some (.rt b d), some (.imm (nI n)), some (.imm (nI kind)), some (.imm (nI often)), none, none, none] = some (.own (.lst ds), [some (.rt b d'), some (.imm (nI n)), some (.imm (nI kind)), some (.imm (nI often)), none, none, none]) := by
    unfold c_law_lines_0 mLc
    rw [hw]
    dsimp only
    have ew : wipeD [some (.rt b d), some (.imm (nI n)), some (.imm (nI kind)), some (.imm (nI often)), none, none, none] [5] = [some (.rt b d), some (.imm (nI n)), some (.imm (nI kind)), some (.imm (nI often)), none, none, none] := rfl
    rw [ew, q1]
    rfl
  simp only [s_law_lines_1, a_sSet, hcc, List.set_cons_succ, List.set_cons_zero]
theorem lines_2 {d : D} (h : isHand d) {n kind often : Nat} (hn : n ≤ 7) {ds : List D} (hd : ∀ x ∈ ds, okP n x) (hl : ds.length ≤ n * n) (b : Bool) : ∃ (ds' : List D) (d' : D), isHand d' ∧ (∀ x ∈ ds', okP n x) ∧ ds'.length ≤ n * n + n ∧
    s_law_lines_2 [some (.rt b d), some (.imm (nI n)), some (.imm (nI kind)), some (.imm (nI often)), some (.rt true (.lst ds)), none, none] = some (.nx, [some (.rt b d'), some (.imm (nI n)), some (.imm (nI kind)), some (.imm (nI often)), some (.rt true (.lst ds')), none, none]) := by
  by_cases hk : (1 : Int) < kind
  · obtain ⟨es, t, q1, q2, q3, d', hd', rfl⟩ := lc_inv (vs := [6]) (g := gN 6) (c := tYesD) (m := (mTup (aCons (mCall m_law_draw (cIo 0 (cVal (mVar 6) cNil))) (aCons (mVar 6) aNil))))
      (fun st => ∃ d', isHand d' ∧ st = [some (.rt b d'), some (.imm (nI n)), some (.imm (nI kind)), some (.imm (nI often)), some (.rt true (.lst ds)), none, none]) (okP n) (intsD 1 ((n : Int) - 1).toNat) (fun x hx st ⟨d0, h0, e0⟩ => by
        subst e0
        obtain ⟨k, hk, rfl⟩ := ints_mem.mp hx
        have ek : D.int (1 + (k : Int)) = nI (1 + k) := by
          have : (1 : Int) + k = ((1 + k : Nat) : Int) := by omega
          rw [this]
        rw [ek]
        obtain ⟨m, hm⟩ : ∃ m, m = 1 + k := ⟨_, rfl⟩
        rw [← hm]
        obtain ⟨r, d1, a1, a2, a3⟩ := x_draw h0 m (by omega) (by omega)
        have hc : (mTup (aCons (mCall m_law_draw (cIo 0 (cVal (mVar 6) cNil))) (aCons (mVar 6) aNil))) [some (.rt b d0), some (.imm (nI n)), some (.imm (nI kind)), some (.imm (nI often)), some (.rt true (.lst ds)), none, some (.imm (nI m))] =
            some (.imm (eP (r, m)), [some (.rt b d1), some (.imm (nI n)), some (.imm (nI kind)), some (.imm (nI often)), some (.rt true (.lst ds)), none, some (.imm (nI m))]) := by
          simp only [a_mVar, a_mC, a_mBin, a_mUn, a_mT, a_mAndT, a_mOrT, a_mNotT, a_mAndV, a_mOrV, a_mNotV, a_mIfE, a_mChain, a_mTup, a_mLst, a_aNil, a_aCons, a_lNil, a_lCons, a_mB, a_mCall, a_cNil, a_cVal, a_cIo, a_mIsi, a_mFld, a_mMake, a_mCch, a_mDNew, a_mSl, a_oNone, a_oSome, a_sNx, a_sSeq, a_sRet, a_sRetN, a_sIf, a_sSet, a_sAsg, a_sPar, a_sDrop, a_sBk, a_sCt, a_gN, a_gsN, a_gsC, a_gT, a_gFld, a_gItem, a_gIx, a_gKey, a_rNil, a_rCons, a_mApp, a_mExt, a_mPop, a_mPopAt, a_wSeq, a_wRng1, a_wRng2, a_wZip, a_wEnum, a_sFor, a_tYesD, a_mRg1, a_mRg2, runF, endD, retD, outsD, List.map_cons, List.map_nil, List.length_cons, List.length_nil, List.replicate_succ, List.replicate_zero, List.replicate, List.cons_append, List.nil_append, cont, getD, freeze, freezeS, conts, svsD, slotsD, backD, noDup0, noDup1, slotsD, keepR, setAll, List.getElem?_cons_zero, List.getElem?_cons_succ, List.set_cons_zero, List.set_cons_succ, ri, rb, if_true, reduceCtorEq, isL, isDic, Bool.not_true, Bool.not_false, a3, eP]
        exact ⟨_, true, _, rfl, rfl, .inr ⟨rfl, _, _, _, _, hc, rfl, ⟨(r, m), rfl, a1, by show m < n; omega⟩, d1, a2, rfl⟩⟩) [some (.rt b d), some (.imm (nI n)), some (.imm (nI kind)), some (.imm (nI often)), some (.rt true (.lst ds)), none, none] ⟨d, h, rfl⟩
    rw [intsD_len] at q3
    have hz : ds.length + es.length ≤ sizeLine := by
      rw [sizeLine_eq]
      have : n * n ≤ 7 * 7 := Nat.mul_le_mul hn hn
      omega
    have hw : (wRng2 (aCons (mC (.int 1)) (aCons (mVar 1) aNil))) [some (.rt b d), some (.imm (nI n)), some (.imm (nI kind)), some (.imm (nI often)), some (.rt true (.lst ds)), none, none] = some (intsD 1 ((n : Int) - 1).toNat, [some (.rt b d), some (.imm (nI n)), some (.imm (nI kind)), some (.imm (nI often)), some (.rt true (.lst ds)), none, none]) := by
      have h1 : smallI 1 := by unfold smallI; omega
      have h2 : smallI (n : Int) := by unfold smallI; omega
      have h3 : smallI ((n : Int) - 1) := by unfold smallI; omega
      simp [a_mVar, a_mC, a_mBin, a_mUn, a_mT, a_mAndT, a_mOrT, a_mNotT, a_mAndV, a_mOrV, a_mNotV, a_mIfE, a_mChain, a_mTup, a_mLst, a_aNil, a_aCons, a_lNil, a_lCons, a_mB, a_mCall, a_cNil, a_cVal, a_cIo, a_mIsi, a_mFld, a_mMake, a_mCch, a_mDNew, a_mSl, a_oNone, a_oSome, a_sNx, a_sSeq, a_sRet, a_sRetN, a_sIf, a_sSet, a_sAsg, a_sPar, a_sDrop, a_sBk, a_sCt, a_gN, a_gsN, a_gsC, a_gT, a_gFld, a_gItem, a_gIx, a_gKey, a_rNil, a_rCons, a_mApp, a_mExt, a_mPop, a_mPopAt, a_wSeq, a_wRng1, a_wRng2, a_wZip, a_wEnum, a_sFor, a_tYesD, a_mRg1, a_mRg2, runF, endD, retD, outsD, List.map_cons, List.map_nil, List.length_cons, List.length_nil, List.replicate_succ, List.replicate_zero, List.replicate, List.cons_append, List.nil_append, cont, getD, freeze, freezeS, conts, svsD, slotsD, backD, noDup0, noDup1, slotsD, keepR, setAll, List.getElem?_cons_zero, List.getElem?_cons_succ, List.set_cons_zero, List.set_cons_succ, ri, rb, if_true, reduceCtorEq, isL, isDic, Bool.not_true, Bool.not_false, h1, h2, h3]
    have hcc : c_law_lines_1 [some (.rt b d), some (.imm (nI n)), some (.imm (nI kind)), some (.imm (nI often)), some (.rt true (.lst ds)), none, none] = some (.own (.lst es), [some (.rt b d'), some (.imm (nI n)), some (.imm (nI kind)), some (.imm (nI often)), some (.rt true (.lst ds)), none, none]) := by
      unfold c_law_lines_1 mLc
      rw [hw]
      dsimp only
      have ew : wipeD [some (.rt b d), some (.imm (nI n)), some (.imm (nI kind)), some (.imm (nI often)), some (.rt true (.lst ds)), none, none] [6] = [some (.rt b d), some (.imm (nI n)), some (.imm (nI kind)), some (.imm (nI often)), some (.rt true (.lst ds)), none, none] := rfl
      rw [ew, q1]
      rfl
    refine ⟨ds ++ es, d', hd', fun x hx => ?_, by rw [List.length_append]; omega, ?_⟩
    · rcases List.mem_append.mp hx with z | z
      · exact hd x z
      · exact q2 x z
    · have he : mExt 4 c_law_lines_1 [some (.rt b d), some (.imm (nI n)), some (.imm (nI kind)), some (.imm (nI often)), some (.rt true (.lst ds)), none, none] = some (.imm .non, [some (.rt b d'), some (.imm (nI n)), some (.imm (nI kind)), some (.imm (nI often)), some (.rt true (.lst (ds ++ es))), none, none]) := by
        simp only [a_mExt, isL, List.getElem?_cons_succ, List.getElem?_cons_zero, if_true, hcc, cont]
        rw [if_pos hz]
        simp only [List.set_cons_succ, List.set_cons_zero]
      have hcnd : (mT (mBin dGtA (mVar 2) (mC (.int 1)))) [some (.rt b d), some (.imm (nI n)), some (.imm (nI kind)), some (.imm (nI often)), some (.rt true (.lst ds)), none, none] = some (true, [some (.rt b d), some (.imm (nI n)), some (.imm (nI kind)), some (.imm (nI often)), some (.rt true (.lst ds)), none, none]) := by
        simp [a_mVar, a_mC, a_mBin, a_mUn, a_mT, a_mAndT, a_mOrT, a_mNotT, a_mAndV, a_mOrV, a_mNotV, a_mIfE, a_mChain, a_mTup, a_mLst, a_aNil, a_aCons, a_lNil, a_lCons, a_mB, a_mCall, a_cNil, a_cVal, a_cIo, a_mIsi, a_mFld, a_mMake, a_mCch, a_mDNew, a_mSl, a_oNone, a_oSome, a_sNx, a_sSeq, a_sRet, a_sRetN, a_sIf, a_sSet, a_sAsg, a_sPar, a_sDrop, a_sBk, a_sCt, a_gN, a_gsN, a_gsC, a_gT, a_gFld, a_gItem, a_gIx, a_gKey, a_rNil, a_rCons, a_mApp, a_mExt, a_mPop, a_mPopAt, a_wSeq, a_wRng1, a_wRng2, a_wZip, a_wEnum, a_sFor, a_tYesD, a_mRg1, a_mRg2, runF, endD, retD, outsD, List.map_cons, List.map_nil, List.length_cons, List.length_nil, List.replicate_succ, List.replicate_zero, List.replicate, List.cons_append, List.nil_append, cont, getD, freeze, freezeS, conts, svsD, slotsD, backD, noDup0, noDup1, slotsD, keepR, setAll, List.getElem?_cons_zero, List.getElem?_cons_succ, List.set_cons_zero, List.set_cons_succ, ri, rb, if_true, reduceCtorEq, isL, isDic, Bool.not_true, Bool.not_false, dGtA, two, hk]
      simp only [s_law_lines_2, s_law_lines_3, a_sIf, hcnd, a_sDrop, he]
  · refine ⟨ds, d, h, hd, by omega, ?_⟩
    simp [s_law_lines_2, a_mVar, a_mC, a_mBin, a_mUn, a_mT, a_mAndT, a_mOrT, a_mNotT, a_mAndV, a_mOrV, a_mNotV, a_mIfE, a_mChain, a_mTup, a_mLst, a_aNil, a_aCons, a_lNil, a_lCons, a_mB, a_mCall, a_cNil, a_cVal, a_cIo, a_mIsi, a_mFld, a_mMake, a_mCch, a_mDNew, a_mSl, a_oNone, a_oSome, a_sNx, a_sSeq, a_sRet, a_sRetN, a_sIf, a_sSet, a_sAsg, a_sPar, a_sDrop, a_sBk, a_sCt, a_gN, a_gsN, a_gsC, a_gT, a_gFld, a_gItem, a_gIx, a_gKey, a_rNil, a_rCons, a_mApp, a_mExt, a_mPop, a_mPopAt, a_wSeq, a_wRng1, a_wRng2, a_wZip, a_wEnum, a_sFor, a_tYesD, a_mRg1, a_mRg2, runF, endD, retD, outsD, List.map_cons, List.map_nil, List.length_cons, List.length_nil, List.replicate_succ, List.replicate_zero, List.replicate, List.cons_append, List.nil_append, cont, getD, freeze, freezeS, conts, svsD, slotsD, backD, noDup0, noDup1, slotsD, keepR, setAll, List.getElem?_cons_zero, List.getElem?_cons_succ, List.set_cons_zero, List.set_cons_succ, ri, rb, if_true, reduceCtorEq, isL, isDic, Bool.not_true, Bool.not_false, dGtA, two, hk]
end LW

namespace LW
open PySem PySem.Spec PyProof.Rows L2 LD
theorem pick {n : Nat} : ∀ {ds : List D}, (∀ x ∈ ds, okP n x) → ∃ Ps : List (Nat × Nat), ds = Ps.map eP ∧ ∀ p ∈ Ps, p.1 < p.2 ∧ p.2 < n
  | [], _ => ⟨[], rfl, fun p hp => by simp at hp⟩
  | d :: ds, h => by
    obtain ⟨p, rfl, h1⟩ := h d (List.mem_cons_self ..)
    obtain ⟨Ps, e, h2⟩ := pick fun x hx => h x (List.mem_cons_of_mem _ hx)
    refine ⟨p :: Ps, by rw [e]; rfl, fun q hq => ?_⟩
    rcases List.mem_cons.mp hq with z | z
    · rw [z]; exact h1
    · exact h2 q z
def rowP (p : Nat × Nat) : List Int := [(p.1 : Int), (p.2 : Int)]
def unP (r : List Int) : Nat × Nat := ((r.getD 0 0).toNat, (r.getD 1 0).toNat)
theorem unP_rowP (p : Nat × Nat) : unP (rowP p) = p := by simp [unP, rowP]
theorem intsTs_map : ∀ Ps : List (Nat × Nat), intsTs (Ps.map eP) = some (Ps.map rowP)
  | [] => rfl
  | p :: Ps => by
    rw [List.map_cons, intsTs, show intsT (eP p) = some (rowP p) from nums_map [(p.1 : Int), (p.2 : Int)], intsTs_map Ps]
    rfl
theorem code2 (p : Nat × Nat) : TS.code 64 (rowP p) = (p.1 : Int) * 64 + p.2 := L2.code_pair _ _
theorem sort_lines {n : Nat} (hn : n ≤ 7) {Ps : List (Nat × Nat)} (h : ∀ p ∈ Ps, p.1 < p.2 ∧ p.2 < n) : ∃ L, okL n L ∧ (setD (Ps.map rowP)).map tupI = L.map eP ∧ ∀ p, p ∈ L ↔ p ∈ Ps := by
  have hr : ∀ r ∈ setD (Ps.map rowP), ∃ p ∈ Ps, rowP p = r := fun r hr => List.mem_map.mp (mem_setD.mp hr)
  refine ⟨(setD (Ps.map rowP)).map unP, ⟨fun p hp => ?_, ?_⟩, ?_, fun p => ⟨fun hp => ?_, fun hp => ?_⟩⟩
  · obtain ⟨r, h1, rfl⟩ := List.mem_map.mp hp
    obtain ⟨q, hq, rfl⟩ := hr r h1
    rw [unP_rowP]
    exact h q hq
  · rw [List.pairwise_map]
    have h1 := List.Pairwise.and (setD_sorted (Ps.map rowP)) (setD_nodup (Ps.map rowP))
    refine List.Pairwise.imp_of_mem (fun {a b} ha hb hab => ?_) h1
    obtain ⟨p, hp, rfl⟩ := hr a ha
    obtain ⟨q, hq, rfl⟩ := hr b hb
    rw [unP_rowP, unP_rowP]
    obtain ⟨c1, c2⟩ := hab
    rw [code2, code2] at c1
    have hpq : p ≠ q := fun z => c2 (by rw [z])
    have b1 := h p hp
    have b2 := h q hq
    unfold ltP
    by_cases e : p.1 = q.1
    · right
      refine ⟨e, ?_⟩
      have : p.2 ≠ q.2 := fun z => hpq (Prod.ext e z)
      omega
    · left
      omega
  · rw [List.map_map]
    refine List.map_congr_left fun r hr' => ?_
    obtain ⟨q, hq, rfl⟩ := hr r hr'
    rw [Function.comp, unP_rowP]
    rfl
  · obtain ⟨r, h1, rfl⟩ := List.mem_map.mp hp
    obtain ⟨q, hq, rfl⟩ := hr r h1
    rw [unP_rowP]; exact hq
  · exact List.mem_map.mpr ⟨rowP p, mem_setD.mpr (List.mem_map_of_mem hp), unP_rowP p⟩
theorem sorted_rows {n : Nat} (hn : n ≤ 7) {Ps : List (Nat × Nat)} (h : ∀ p ∈ Ps, p.1 < p.2 ∧ p.2 < n) : dSortedA [.st (Ps.map rowP)] = some (.own (.lst ((setD (Ps.map rowP)).map tupI))) := by
  have e : dSortedA [.st (Ps.map rowP)] = dSortedT [.st (Ps.map rowP)] := rfl
  rw [e]
  cases Ps with
  | nil => rw [show setD (List.map rowP []) = [] from List.mergeSort_nil]; rfl
  | cons p Ps =>
    rw [List.map_cons]
    unfold dSortedT
    have ok : rowsOk (rowP p).length (rowP p :: Ps.map rowP) = true := by
      unfold rowsOk
      rw [List.all_eq_true]
      intro r hr
      rw [← List.map_cons] at hr
      obtain ⟨q, hq, rfl⟩ := List.mem_map.mp hr
      have := h q hq
      have h1 : (q.1 : Int) < 64 := by omega
      have h2 : (q.2 : Int) < 64 := by omega
      have h3 : (0 : Int) ≤ q.1 := by omega
      have h4 : (0 : Int) ≤ q.2 := by omega
      simp only [rowP, List.length_cons, List.length_nil, beq_self_eq_true, Bool.true_and, List.all_cons, List.all_nil, h1, h2, h3, h4, and_self, decide_true, Bool.and_self]
    dsimp only
    rw [if_pos ⟨by simp [rowP], ok⟩]
theorem lines_4 {d : D} {n kind often : Nat} (hn : n ≤ 7) {ds : List D} (hd : ∀ x ∈ ds, okP n x) (hl : ds.length ≤ n * n + n) (b : Bool) : ∃ L, okL n L ∧
    s_law_lines_4 [some (.rt b d), some (.imm (nI n)), some (.imm (nI kind)), some (.imm (nI often)), some (.rt true (.lst ds)), none, none] = some (.ret (.imm (eL L)), [some (.rt b d), some (.imm (nI n)), some (.imm (nI kind)), some (.imm (nI often)), some (.rt true (.lst ds)), none, none]) := by
  obtain ⟨Ps, rfl, hp⟩ := pick hd
  obtain ⟨L, h1, h2, _⟩ := sort_lines hn hp
  have h64 : (Ps.map rowP).length < 64 := by
    rw [List.length_map] at hl ⊢
    have : n * n ≤ 7 * 7 := Nat.mul_le_mul hn hn
    omega
  have e1 : dSetT [.lst (Ps.map eP)] = some (.own (.st (Ps.map rowP))) := by
    show (match intsTs (Ps.map eP) with | some rs => if rs.length < 64 then some (R.own (.st rs)) else none | none => none) = _
    rw [intsTs_map]
    dsimp only
    rw [if_pos h64]
  refine ⟨L, h1, ?_⟩
  simp only [s_law_lines_4, a_mVar, a_mC, a_mBin, a_mUn, a_mT, a_mAndT, a_mOrT, a_mNotT, a_mAndV, a_mOrV, a_mNotV, a_mIfE, a_mChain, a_mTup, a_mLst, a_aNil, a_aCons, a_lNil, a_lCons, a_mB, a_mCall, a_cNil, a_cVal, a_cIo, a_mIsi, a_mFld, a_mMake, a_mCch, a_mDNew, a_mSl, a_oNone, a_oSome, a_sNx, a_sSeq, a_sRet, a_sRetN, a_sIf, a_sSet, a_sAsg, a_sPar, a_sDrop, a_sBk, a_sCt, a_gN, a_gsN, a_gsC, a_gT, a_gFld, a_gItem, a_gIx, a_gKey, a_rNil, a_rCons, a_mApp, a_mExt, a_mPop, a_mPopAt, a_wSeq, a_wRng1, a_wRng2, a_wZip, a_wEnum, a_sFor, a_tYesD, a_mRg1, a_mRg2, runF, endD, retD, outsD, List.map_cons, List.map_nil, List.length_cons, List.length_nil, List.replicate_succ, List.replicate_zero, List.replicate, List.cons_append, List.nil_append, cont, getD, freeze, freezeS, conts, svsD, slotsD, backD, noDup0, noDup1, slotsD, keepR, setAll, List.getElem?_cons_zero, List.getElem?_cons_succ, List.set_cons_zero, List.set_cons_succ, ri, rb, if_true, reduceCtorEq, isL, isDic, Bool.not_true, Bool.not_false, e1, sorted_rows hn hp, h2, dTuple, eL]
theorem e_lines {d : D} (h : isHand d) {n : Nat} (hn : n ≤ 7) : ∃ L d', isHand d' ∧ okL n L ∧ m_law_lines [.rt false d, .imm (nI n)] = some (.imm (eL L), [.rt false d', .imm (nI n)]) := by
  obtain ⟨kind, often, d1, o1, o2, h1, e0⟩ := lines_0 h n false
  obtain ⟨ds, d2, h2, q2, l2, e1⟩ := lines_1 (kind := kind) h1 hn o1 o2 false
  obtain ⟨ds', d3, h3, q3, l3, e2⟩ := lines_2 (kind := kind) (often := often) h2 hn q2 l2 false
  obtain ⟨L, hL, e4⟩ := lines_4 (d := d3) (kind := kind) (often := often) hn q3 l3 false
  refine ⟨L, d3, h3, hL, ?_⟩
  simp only [m_law_lines, b_law_lines, a_mVar, a_mC, a_mBin, a_mUn, a_mT, a_mAndT, a_mOrT, a_mNotT, a_mAndV, a_mOrV, a_mNotV, a_mIfE, a_mChain, a_mTup, a_mLst, a_aNil, a_aCons, a_lNil, a_lCons, a_mB, a_mCall, a_cNil, a_cVal, a_cIo, a_mIsi, a_mFld, a_mMake, a_mCch, a_mDNew, a_mSl, a_oNone, a_oSome, a_sNx, a_sSeq, a_sRet, a_sRetN, a_sIf, a_sSet, a_sAsg, a_sPar, a_sDrop, a_sBk, a_sCt, a_gN, a_gsN, a_gsC, a_gT, a_gFld, a_gItem, a_gIx, a_gKey, a_rNil, a_rCons, a_mApp, a_mExt, a_mPop, a_mPopAt, a_wSeq, a_wRng1, a_wRng2, a_wZip, a_wEnum, a_sFor, a_tYesD, a_mRg1, a_mRg2, runF, endD, retD, outsD, List.map_cons, List.map_nil, List.length_cons, List.length_nil, List.replicate_succ, List.replicate_zero, List.replicate, List.cons_append, List.nil_append, cont, getD, freeze, freezeS, conts, svsD, slotsD, backD, noDup0, noDup1, slotsD, keepR, setAll, List.getElem?_cons_zero, List.getElem?_cons_succ, List.set_cons_zero, List.set_cons_succ, ri, rb, if_true, reduceCtorEq, isL, isDic, Bool.not_true, Bool.not_false, e0, e1, e2, e4]
end LW

namespace LW
open PySem PySem.Spec PyProof.Rows L2 LD
/-- all lots of the first n corners, as the program lists them -/
def lotsT (n : Nat) : List (List Nat) := Nat.rec [[]] (fun c r => r ++ r.map (· ++ [c])) n
theorem lotsT_succ (n : Nat) : lotsT (n + 1) = lotsT n ++ (lotsT n).map (· ++ [n]) := rfl
theorem lotsT_len : ∀ n, (lotsT n).length = 2 ^ n
  | 0 => rfl
  | n + 1 => by rw [lotsT_succ, List.length_append, List.length_map, lotsT_len n]; omega
theorem lotsT_lens : ∀ n, ∀ S ∈ lotsT n, S.length ≤ n
  | 0, S, h => by
    have : S = [] := List.mem_singleton.mp (show S ∈ [[]] from h)
    rw [this]; exact Nat.le_refl _
  | n + 1, S, h => by
    rw [lotsT_succ] at h
    rcases List.mem_append.mp h with z | z
    · have := lotsT_lens n S z; omega
    · obtain ⟨R, hR, rfl⟩ := List.mem_map.mp z
      have := lotsT_lens n R hR
      rw [List.length_append]
      show R.length + 1 ≤ n + 1
      omega
def addC (c : Nat) : D → D
  | .tup xs => .tup (xs ++ [nI c])
  | d => d
theorem c_lots {n c : Nat} (hc : c < 1000) (Ts : List (List Nat)) (ht : ∀ S ∈ Ts, S.length ≤ 1000) (hz : Ts.length + Ts.length ≤ sizeLine) : s_lots_of_2 [some (.imm (nI n)), some (.rt true (.lst (Ts.map eT))), some (.imm (nI c)), none] = some (.nx, [some (.imm (nI n)), some (.rt true (.lst ((Ts ++ Ts.map (· ++ [c])).map eT))), some (.imm (nI c)), none]) := by
  have hx : c_lots_of_0 [some (.imm (nI n)), some (.rt true (.lst (Ts.map eT))), some (.imm (nI c)), none] = some (.own (.lst ((Ts.map (· ++ [c])).map eT)), [some (.imm (nI n)), some (.imm (.lst (Ts.map eT))), some (.imm (nI c)), none]) := by
    have := mLc_pure (vs := [3]) (w := wSeq (mVar 1)) (g := gN 3) (c := tYesD) (m := (mBin dAdd (mVar 3) (mTup (aCons (mVar 2) aNil)))) (st := [some (.imm (nI n)), some (.rt true (.lst (Ts.map eT))), some (.imm (nI c)), none]) (s := [some (.imm (nI n)), some (.imm (.lst (Ts.map eT))), some (.imm (nI c)), none]) (xs := Ts.map eT) (fun _ => true) (addC c) (by simp only [a_mVar, a_mC, a_mBin, a_mUn, a_mT, a_mAndT, a_mOrT, a_mNotT, a_mAndV, a_mOrV, a_mNotV, a_mIfE, a_mChain, a_mTup, a_mLst, a_aNil, a_aCons, a_lNil, a_lCons, a_mB, a_mCall, a_cNil, a_cVal, a_cIo, a_mIsi, a_mFld, a_mMake, a_mCch, a_mDNew, a_mSl, a_oNone, a_oSome, a_sNx, a_sSeq, a_sRet, a_sRetN, a_sIf, a_sSet, a_sAsg, a_sPar, a_sDrop, a_sBk, a_sCt, a_gN, a_gsN, a_gsC, a_gT, a_gFld, a_gItem, a_gIx, a_gKey, a_rNil, a_rCons, a_mApp, a_mExt, a_mPop, a_mPopAt, a_wSeq, a_wRng1, a_wRng2, a_wZip, a_wEnum, a_sFor, a_tYesD, a_mRg1, a_mRg2, runF, endD, retD, outsD, List.map_cons, List.map_nil, List.length_cons, List.length_nil, List.replicate_succ, List.replicate_zero, List.replicate, List.cons_append, List.nil_append, cont, getD, freeze, freezeS, conts, svsD, slotsD, backD, noDup0, noDup1, slotsD, keepR, setAll, List.getElem?_cons_zero, List.getElem?_cons_succ, List.set_cons_zero, List.set_cons_succ, ri, rb, if_true, reduceCtorEq, isL, isDic, Bool.not_true, Bool.not_false]) fun x hx => ?_
    · rw [filter_true] at this
      have e : (Ts.map eT).map (addC c) = (Ts.map (· ++ [c])).map eT := by
        rw [List.map_map, List.map_map]
        refine List.map_congr_left fun S _ => ?_
        show D.tup (S.map nI ++ [nI c]) = D.tup ((S ++ [c]).map nI)
        rw [List.map_append]
        rfl
      rw [e] at this
      exact this
    · obtain ⟨S, hS, rfl⟩ := List.mem_map.mp hx
      have hl : (S.map nI).length + [nI c].length ≤ sizeLine := by
        have := ht S hS
        rw [sizeLine_eq, List.length_map]
        show S.length + 1 ≤ _
        omega
      refine ⟨[some (.imm (nI n)), some (.imm (.lst (Ts.map eT))), some (.imm (nI c)), some (.imm (eT S))], rfl, rfl, rfl, fun _ => ⟨.imm (addC c (eT S)), ?_, rfl⟩⟩
      have e : dAdd (eT S) (.tup [nI c]) = some (.imm (addC c (eT S))) := by
        show (if (S.map nI).length + [nI c].length ≤ sizeLine then some (R.imm (.tup (S.map nI ++ [nI c]))) else none) = _
        rw [if_pos hl]
        rfl
      simp only [a_mVar, a_mC, a_mBin, a_mUn, a_mT, a_mAndT, a_mOrT, a_mNotT, a_mAndV, a_mOrV, a_mNotV, a_mIfE, a_mChain, a_mTup, a_mLst, a_aNil, a_aCons, a_lNil, a_lCons, a_mB, a_mCall, a_cNil, a_cVal, a_cIo, a_mIsi, a_mFld, a_mMake, a_mCch, a_mDNew, a_mSl, a_oNone, a_oSome, a_sNx, a_sSeq, a_sRet, a_sRetN, a_sIf, a_sSet, a_sAsg, a_sPar, a_sDrop, a_sBk, a_sCt, a_gN, a_gsN, a_gsC, a_gT, a_gFld, a_gItem, a_gIx, a_gKey, a_rNil, a_rCons, a_mApp, a_mExt, a_mPop, a_mPopAt, a_wSeq, a_wRng1, a_wRng2, a_wZip, a_wEnum, a_sFor, a_tYesD, a_mRg1, a_mRg2, runF, endD, retD, outsD, List.map_cons, List.map_nil, List.length_cons, List.length_nil, List.replicate_succ, List.replicate_zero, List.replicate, List.cons_append, List.nil_append, cont, getD, freeze, freezeS, conts, svsD, slotsD, backD, noDup0, noDup1, slotsD, keepR, setAll, List.getElem?_cons_zero, List.getElem?_cons_succ, List.set_cons_zero, List.set_cons_succ, ri, rb, if_true, reduceCtorEq, isL, isDic, Bool.not_true, Bool.not_false, e]
  have e2 : dAdd (.lst (Ts.map eT)) (.lst ((Ts.map (· ++ [c])).map eT)) = some (.own (.lst ((Ts ++ Ts.map (· ++ [c])).map eT))) := by
    show (if (Ts.map eT).length + ((Ts.map (· ++ [c])).map eT).length ≤ sizeLine then some (R.own (.lst (Ts.map eT ++ (Ts.map (· ++ [c])).map eT))) else none) = _
    rw [if_pos (by rw [List.length_map, List.length_map, List.length_map]; exact hz), List.map_append]
  simp only [s_lots_of_2, a_mVar, a_mC, a_mBin, a_mUn, a_mT, a_mAndT, a_mOrT, a_mNotT, a_mAndV, a_mOrV, a_mNotV, a_mIfE, a_mChain, a_mTup, a_mLst, a_aNil, a_aCons, a_lNil, a_lCons, a_mB, a_mCall, a_cNil, a_cVal, a_cIo, a_mIsi, a_mFld, a_mMake, a_mCch, a_mDNew, a_mSl, a_oNone, a_oSome, a_sNx, a_sSeq, a_sRet, a_sRetN, a_sIf, a_sSet, a_sAsg, a_sPar, a_sDrop, a_sBk, a_sCt, a_gN, a_gsN, a_gsC, a_gT, a_gFld, a_gItem, a_gIx, a_gKey, a_rNil, a_rCons, a_mApp, a_mExt, a_mPop, a_mPopAt, a_wSeq, a_wRng1, a_wRng2, a_wZip, a_wEnum, a_sFor, a_tYesD, a_mRg1, a_mRg2, runF, endD, retD, outsD, List.map_cons, List.map_nil, List.length_cons, List.length_nil, List.replicate_succ, List.replicate_zero, List.replicate, List.cons_append, List.nil_append, cont, getD, freeze, freezeS, conts, svsD, slotsD, backD, noDup0, noDup1, slotsD, keepR, setAll, List.getElem?_cons_zero, List.getElem?_cons_succ, List.set_cons_zero, List.set_cons_succ, ri, rb, if_true, reduceCtorEq, isL, isDic, Bool.not_true, Bool.not_false, hx, e2]
theorem e_lots {n : Nat} (hn : n ≤ 7) : m_lots_of [.imm (nI n)] = some (.own (.lst ((lotsT n).map eT)), [.imm (nI n)]) := by
  have h2 : smallI (n : Int) := by unfold smallI; omega
  have hl : s_lots_of_1 [some (.imm (nI n)), some (.rt true (.lst [.tup []])), none, none] = forD (gN 2) s_lots_of_2 (intsD ((0 : Nat) : Int) n) [some (.imm (nI n)), some (.rt true (.lst [.tup []])), none, none] := by
    simp [s_lots_of_1, a_mVar, a_mC, a_mBin, a_mUn, a_mT, a_mAndT, a_mOrT, a_mNotT, a_mAndV, a_mOrV, a_mNotV, a_mIfE, a_mChain, a_mTup, a_mLst, a_aNil, a_aCons, a_lNil, a_lCons, a_mB, a_mCall, a_cNil, a_cVal, a_cIo, a_mIsi, a_mFld, a_mMake, a_mCch, a_mDNew, a_mSl, a_oNone, a_oSome, a_sNx, a_sSeq, a_sRet, a_sRetN, a_sIf, a_sSet, a_sAsg, a_sPar, a_sDrop, a_sBk, a_sCt, a_gN, a_gsN, a_gsC, a_gT, a_gFld, a_gItem, a_gIx, a_gKey, a_rNil, a_rCons, a_mApp, a_mExt, a_mPop, a_mPopAt, a_wSeq, a_wRng1, a_wRng2, a_wZip, a_wEnum, a_sFor, a_tYesD, a_mRg1, a_mRg2, runF, endD, retD, outsD, List.map_cons, List.map_nil, List.length_cons, List.length_nil, List.replicate_succ, List.replicate_zero, List.replicate, List.cons_append, List.nil_append, cont, getD, freeze, freezeS, conts, svsD, slotsD, backD, noDup0, noDup1, slotsD, keepR, setAll, List.getElem?_cons_zero, List.getElem?_cons_succ, List.set_cons_zero, List.set_cons_succ, ri, rb, if_true, reduceCtorEq, isL, isDic, Bool.not_true, Bool.not_false, h2]
  obtain ⟨s, q1, y, rfl⟩ := forD_ints (g := gN 2) (b := s_lots_of_2) (fun i st => ∃ y, st = [some (.imm (nI n)), some (.rt true (.lst ((lotsT i).map eT))), y, none]) n 0 (fun i _ hi st ⟨y, e⟩ => by
    subst e
    have hi : i < n := by omega
    refine ⟨_, _, rfl, .inl (c_lots (by omega) (lotsT i) (fun S hS => ?_) ?_), _, rfl⟩
    · have := lotsT_lens i S hS; omega
    · rw [lotsT_len, sizeLine_eq]
      have : 2 ^ i ≤ 2 ^ 7 := Nat.pow_le_pow_right (by omega) (by omega)
      omega) _ ⟨none, rfl⟩
  have e0 : (lotsT 0).map eT = [.tup []] := rfl
  rw [e0] at q1
  rw [q1] at hl
  simp only [m_lots_of, b_lots_of, s_lots_of_0, s_lots_of_3, a_mVar, a_mC, a_mBin, a_mUn, a_mT, a_mAndT, a_mOrT, a_mNotT, a_mAndV, a_mOrV, a_mNotV, a_mIfE, a_mChain, a_mTup, a_mLst, a_aNil, a_aCons, a_lNil, a_lCons, a_mB, a_mCall, a_cNil, a_cVal, a_cIo, a_mIsi, a_mFld, a_mMake, a_mCch, a_mDNew, a_mSl, a_oNone, a_oSome, a_sNx, a_sSeq, a_sRet, a_sRetN, a_sIf, a_sSet, a_sAsg, a_sPar, a_sDrop, a_sBk, a_sCt, a_gN, a_gsN, a_gsC, a_gT, a_gFld, a_gItem, a_gIx, a_gKey, a_rNil, a_rCons, a_mApp, a_mExt, a_mPop, a_mPopAt, a_wSeq, a_wRng1, a_wRng2, a_wZip, a_wEnum, a_sFor, a_tYesD, a_mRg1, a_mRg2, runF, endD, retD, outsD, List.map_cons, List.map_nil, List.length_cons, List.length_nil, List.replicate_succ, List.replicate_zero, List.replicate, List.cons_append, List.nil_append, cont, getD, freeze, freezeS, conts, svsD, slotsD, backD, noDup0, noDup1, slotsD, keepR, setAll, List.getElem?_cons_zero, List.getElem?_cons_succ, List.set_cons_zero, List.set_cons_succ, ri, rb, if_true, reduceCtorEq, isL, isDic, Bool.not_true, Bool.not_false, hl, Nat.zero_add]
theorem c_llots {n c : Nat} (hc : c < 1000) (Ts : List (List Nat)) (ht : ∀ S ∈ Ts, S.length ≤ 1000) (hz : Ts.length + Ts.length ≤ sizeLine) : s_law_lots_2 [some (.imm (nI n)), some (.rt true (.lst (Ts.map eT))), some (.imm (nI c)), none] = some (.nx, [some (.imm (nI n)), some (.rt true (.lst ((Ts ++ Ts.map (· ++ [c])).map eT))), some (.imm (nI c)), none]) := by
  have hx : c_law_lots_0 [some (.imm (nI n)), some (.rt true (.lst (Ts.map eT))), some (.imm (nI c)), none] = some (.own (.lst ((Ts.map (· ++ [c])).map eT)), [some (.imm (nI n)), some (.imm (.lst (Ts.map eT))), some (.imm (nI c)), none]) := by
    have := mLc_pure (vs := [3]) (w := wSeq (mVar 1)) (g := gN 3) (c := tYesD) (m := (mBin dAdd (mVar 3) (mTup (aCons (mVar 2) aNil)))) (st := [some (.imm (nI n)), some (.rt true (.lst (Ts.map eT))), some (.imm (nI c)), none]) (s := [some (.imm (nI n)), some (.imm (.lst (Ts.map eT))), some (.imm (nI c)), none]) (xs := Ts.map eT) (fun _ => true) (addC c) (by simp only [a_mVar, a_mC, a_mBin, a_mUn, a_mT, a_mAndT, a_mOrT, a_mNotT, a_mAndV, a_mOrV, a_mNotV, a_mIfE, a_mChain, a_mTup, a_mLst, a_aNil, a_aCons, a_lNil, a_lCons, a_mB, a_mCall, a_cNil, a_cVal, a_cIo, a_mIsi, a_mFld, a_mMake, a_mCch, a_mDNew, a_mSl, a_oNone, a_oSome, a_sNx, a_sSeq, a_sRet, a_sRetN, a_sIf, a_sSet, a_sAsg, a_sPar, a_sDrop, a_sBk, a_sCt, a_gN, a_gsN, a_gsC, a_gT, a_gFld, a_gItem, a_gIx, a_gKey, a_rNil, a_rCons, a_mApp, a_mExt, a_mPop, a_mPopAt, a_wSeq, a_wRng1, a_wRng2, a_wZip, a_wEnum, a_sFor, a_tYesD, a_mRg1, a_mRg2, runF, endD, retD, outsD, List.map_cons, List.map_nil, List.length_cons, List.length_nil, List.replicate_succ, List.replicate_zero, List.replicate, List.cons_append, List.nil_append, cont, getD, freeze, freezeS, conts, svsD, slotsD, backD, noDup0, noDup1, slotsD, keepR, setAll, List.getElem?_cons_zero, List.getElem?_cons_succ, List.set_cons_zero, List.set_cons_succ, ri, rb, if_true, reduceCtorEq, isL, isDic, Bool.not_true, Bool.not_false]) fun x hx => ?_
    · rw [filter_true] at this
      have e : (Ts.map eT).map (addC c) = (Ts.map (· ++ [c])).map eT := by
        rw [List.map_map, List.map_map]
        refine List.map_congr_left fun S _ => ?_
        show D.tup (S.map nI ++ [nI c]) = D.tup ((S ++ [c]).map nI)
        rw [List.map_append]
        rfl
      rw [e] at this
      exact this
    · obtain ⟨S, hS, rfl⟩ := List.mem_map.mp hx
      have hl : (S.map nI).length + [nI c].length ≤ sizeLine := by
        have := ht S hS
        rw [sizeLine_eq, List.length_map]
        show S.length + 1 ≤ _
        omega
      refine ⟨[some (.imm (nI n)), some (.imm (.lst (Ts.map eT))), some (.imm (nI c)), some (.imm (eT S))], rfl, rfl, rfl, fun _ => ⟨.imm (addC c (eT S)), ?_, rfl⟩⟩
      have e : dAdd (eT S) (.tup [nI c]) = some (.imm (addC c (eT S))) := by
        show (if (S.map nI).length + [nI c].length ≤ sizeLine then some (R.imm (.tup (S.map nI ++ [nI c]))) else none) = _
        rw [if_pos hl]
        rfl
      simp only [a_mVar, a_mC, a_mBin, a_mUn, a_mT, a_mAndT, a_mOrT, a_mNotT, a_mAndV, a_mOrV, a_mNotV, a_mIfE, a_mChain, a_mTup, a_mLst, a_aNil, a_aCons, a_lNil, a_lCons, a_mB, a_mCall, a_cNil, a_cVal, a_cIo, a_mIsi, a_mFld, a_mMake, a_mCch, a_mDNew, a_mSl, a_oNone, a_oSome, a_sNx, a_sSeq, a_sRet, a_sRetN, a_sIf, a_sSet, a_sAsg, a_sPar, a_sDrop, a_sBk, a_sCt, a_gN, a_gsN, a_gsC, a_gT, a_gFld, a_gItem, a_gIx, a_gKey, a_rNil, a_rCons, a_mApp, a_mExt, a_mPop, a_mPopAt, a_wSeq, a_wRng1, a_wRng2, a_wZip, a_wEnum, a_sFor, a_tYesD, a_mRg1, a_mRg2, runF, endD, retD, outsD, List.map_cons, List.map_nil, List.length_cons, List.length_nil, List.replicate_succ, List.replicate_zero, List.replicate, List.cons_append, List.nil_append, cont, getD, freeze, freezeS, conts, svsD, slotsD, backD, noDup0, noDup1, slotsD, keepR, setAll, List.getElem?_cons_zero, List.getElem?_cons_succ, List.set_cons_zero, List.set_cons_succ, ri, rb, if_true, reduceCtorEq, isL, isDic, Bool.not_true, Bool.not_false, e]
  have e2 : dAdd (.lst (Ts.map eT)) (.lst ((Ts.map (· ++ [c])).map eT)) = some (.own (.lst ((Ts ++ Ts.map (· ++ [c])).map eT))) := by
    show (if (Ts.map eT).length + ((Ts.map (· ++ [c])).map eT).length ≤ sizeLine then some (R.own (.lst (Ts.map eT ++ (Ts.map (· ++ [c])).map eT))) else none) = _
    rw [if_pos (by rw [List.length_map, List.length_map, List.length_map]; exact hz), List.map_append]
  simp only [s_law_lots_2, a_mVar, a_mC, a_mBin, a_mUn, a_mT, a_mAndT, a_mOrT, a_mNotT, a_mAndV, a_mOrV, a_mNotV, a_mIfE, a_mChain, a_mTup, a_mLst, a_aNil, a_aCons, a_lNil, a_lCons, a_mB, a_mCall, a_cNil, a_cVal, a_cIo, a_mIsi, a_mFld, a_mMake, a_mCch, a_mDNew, a_mSl, a_oNone, a_oSome, a_sNx, a_sSeq, a_sRet, a_sRetN, a_sIf, a_sSet, a_sAsg, a_sPar, a_sDrop, a_sBk, a_sCt, a_gN, a_gsN, a_gsC, a_gT, a_gFld, a_gItem, a_gIx, a_gKey, a_rNil, a_rCons, a_mApp, a_mExt, a_mPop, a_mPopAt, a_wSeq, a_wRng1, a_wRng2, a_wZip, a_wEnum, a_sFor, a_tYesD, a_mRg1, a_mRg2, runF, endD, retD, outsD, List.map_cons, List.map_nil, List.length_cons, List.length_nil, List.replicate_succ, List.replicate_zero, List.replicate, List.cons_append, List.nil_append, cont, getD, freeze, freezeS, conts, svsD, slotsD, backD, noDup0, noDup1, slotsD, keepR, setAll, List.getElem?_cons_zero, List.getElem?_cons_succ, List.set_cons_zero, List.set_cons_succ, ri, rb, if_true, reduceCtorEq, isL, isDic, Bool.not_true, Bool.not_false, hx, e2]
theorem e_llots {n : Nat} (hn : n ≤ 7) : m_law_lots [.imm (nI n)] = some (.own (.lst ((lotsT n).map eT)), [.imm (nI n)]) := by
  have h2 : smallI (n : Int) := by unfold smallI; omega
  have hl : s_law_lots_1 [some (.imm (nI n)), some (.rt true (.lst [.tup []])), none, none] = forD (gN 2) s_law_lots_2 (intsD ((0 : Nat) : Int) n) [some (.imm (nI n)), some (.rt true (.lst [.tup []])), none, none] := by
    simp [s_law_lots_1, a_mVar, a_mC, a_mBin, a_mUn, a_mT, a_mAndT, a_mOrT, a_mNotT, a_mAndV, a_mOrV, a_mNotV, a_mIfE, a_mChain, a_mTup, a_mLst, a_aNil, a_aCons, a_lNil, a_lCons, a_mB, a_mCall, a_cNil, a_cVal, a_cIo, a_mIsi, a_mFld, a_mMake, a_mCch, a_mDNew, a_mSl, a_oNone, a_oSome, a_sNx, a_sSeq, a_sRet, a_sRetN, a_sIf, a_sSet, a_sAsg, a_sPar, a_sDrop, a_sBk, a_sCt, a_gN, a_gsN, a_gsC, a_gT, a_gFld, a_gItem, a_gIx, a_gKey, a_rNil, a_rCons, a_mApp, a_mExt, a_mPop, a_mPopAt, a_wSeq, a_wRng1, a_wRng2, a_wZip, a_wEnum, a_sFor, a_tYesD, a_mRg1, a_mRg2, runF, endD, retD, outsD, List.map_cons, List.map_nil, List.length_cons, List.length_nil, List.replicate_succ, List.replicate_zero, List.replicate, List.cons_append, List.nil_append, cont, getD, freeze, freezeS, conts, svsD, slotsD, backD, noDup0, noDup1, slotsD, keepR, setAll, List.getElem?_cons_zero, List.getElem?_cons_succ, List.set_cons_zero, List.set_cons_succ, ri, rb, if_true, reduceCtorEq, isL, isDic, Bool.not_true, Bool.not_false, h2]
  obtain ⟨s, q1, y, rfl⟩ := forD_ints (g := gN 2) (b := s_law_lots_2) (fun i st => ∃ y, st = [some (.imm (nI n)), some (.rt true (.lst ((lotsT i).map eT))), y, none]) n 0 (fun i _ hi st ⟨y, e⟩ => by
    subst e
    have hi : i < n := by omega
    refine ⟨_, _, rfl, .inl (c_llots (by omega) (lotsT i) (fun S hS => ?_) ?_), _, rfl⟩
    · have := lotsT_lens i S hS; omega
    · rw [lotsT_len, sizeLine_eq]
      have : 2 ^ i ≤ 2 ^ 7 := Nat.pow_le_pow_right (by omega) (by omega)
      omega) _ ⟨none, rfl⟩
  have e0 : (lotsT 0).map eT = [.tup []] := rfl
  rw [e0] at q1
  rw [q1] at hl
  simp only [m_law_lots, b_law_lots, s_law_lots_0, s_law_lots_3, a_mVar, a_mC, a_mBin, a_mUn, a_mT, a_mAndT, a_mOrT, a_mNotT, a_mAndV, a_mOrV, a_mNotV, a_mIfE, a_mChain, a_mTup, a_mLst, a_aNil, a_aCons, a_lNil, a_lCons, a_mB, a_mCall, a_cNil, a_cVal, a_cIo, a_mIsi, a_mFld, a_mMake, a_mCch, a_mDNew, a_mSl, a_oNone, a_oSome, a_sNx, a_sSeq, a_sRet, a_sRetN, a_sIf, a_sSet, a_sAsg, a_sPar, a_sDrop, a_sBk, a_sCt, a_gN, a_gsN, a_gsC, a_gT, a_gFld, a_gItem, a_gIx, a_gKey, a_rNil, a_rCons, a_mApp, a_mExt, a_mPop, a_mPopAt, a_wSeq, a_wRng1, a_wRng2, a_wZip, a_wEnum, a_sFor, a_tYesD, a_mRg1, a_mRg2, runF, endD, retD, outsD, List.map_cons, List.map_nil, List.length_cons, List.length_nil, List.replicate_succ, List.replicate_zero, List.replicate, List.cons_append, List.nil_append, cont, getD, freeze, freezeS, conts, svsD, slotsD, backD, noDup0, noDup1, slotsD, keepR, setAll, List.getElem?_cons_zero, List.getElem?_cons_succ, List.set_cons_zero, List.set_cons_succ, ri, rb, if_true, reduceCtorEq, isL, isDic, Bool.not_true, Bool.not_false, hl, Nat.zero_add]

/-! ### forests_for -/
def inS (S : List Nat) (p : Nat × Nat) : Bool := S.contains p.1 && S.contains p.2
def innerT (L : List (Nat × Nat)) (S : List Nat) : Nat := (L.filter (inS S)).length
def forI (L : List (Nat × Nat)) (S : List Nat) : Int := ((innerT L S : Int) + S.length - 2) / ((S.length : Int) - 1)
theorem in_eT (a : Nat) (S : List Nat) : dIn (nI a) (eT S) = some (.imm (.bl (S.contains a))) := by
  have h1 : shp (nI a) = true := rfl
  have h2 : shp (.tup (S.map nI)) = true := by
    have := shp_tup (S.map fun (n : Nat) => (n : Int))
    rw [List.map_map] at this
    exact this
  show (if shp (nI a) = true ∧ shp (.tup (S.map nI)) = true then rb ((S.map nI).any fun z => eqD z (nI a)) else none) = _
  rw [if_pos ⟨h1, h2⟩]
  unfold rb
  congr 3
  rw [List.any_map]
  induction S with
  | nil => rfl
  | cons x S ih =>
    rw [List.any_cons, List.contains_cons, ih (by
      have := shp_tup (S.map fun (n : Nat) => (n : Int))
      rw [List.map_map] at this
      exact this)]
    congr 1
    show eqD (.int (x : Int)) (.int (a : Int)) = _
    rw [eqD_int]
    by_cases e : x = a
    · subst e; simp
    · have e1 : ¬ (x : Int) = a := by omega
      have e2 : ¬ a = x := fun z => e z.symm
      simp [e1, e2]
def inD (S : List Nat) : D → Bool
  | .tup [.int a, .int b] => S.contains a.toNat && S.contains b.toNat
  | _ => false
theorem e_forests_for {n : Nat} (L : List (Nat × Nat)) (S : List Nat) (h1 : 2 ≤ S.length) (h2 : S.length ≤ 1000) : m_forests_for [.imm (eWeb n L), .imm (eT S)] = some (.imm (.int (forI L S)), [.imm (eWeb n L), .imm (eT S)]) := by
  have hc : c_forests_for_0 [some (.imm (eWeb n L)), some (.imm (eT S)), none, none, none] = some (.own (.lst (((L.map eP).filter (inD S)).map fun _ => .int 1)), [some (.imm (eWeb n L)), some (.imm (eT S)), none, none, none]) := by
    refine mLc_pure (vs := [3, 4]) (inD S) (fun _ => .int 1) (xs := L.map eP) (by simp only [a_mVar, a_mC, a_mBin, a_mUn, a_mT, a_mAndT, a_mOrT, a_mNotT, a_mAndV, a_mOrV, a_mNotV, a_mIfE, a_mChain, a_mTup, a_mLst, a_aNil, a_aCons, a_lNil, a_lCons, a_mB, a_mCall, a_cNil, a_cVal, a_cIo, a_mIsi, a_mFld, a_mMake, a_mCch, a_mDNew, a_mSl, a_oNone, a_oSome, a_sNx, a_sSeq, a_sRet, a_sRetN, a_sIf, a_sSet, a_sAsg, a_sPar, a_sDrop, a_sBk, a_sCt, a_gN, a_gsN, a_gsC, a_gT, a_gFld, a_gItem, a_gIx, a_gKey, a_rNil, a_rCons, a_mApp, a_mExt, a_mPop, a_mPopAt, a_wSeq, a_wRng1, a_wRng2, a_wZip, a_wEnum, a_sFor, a_tYesD, a_mRg1, a_mRg2, runF, endD, retD, outsD, List.map_cons, List.map_nil, List.length_cons, List.length_nil, List.replicate_succ, List.replicate_zero, List.replicate, List.cons_append, List.nil_append, cont, getD, freeze, freezeS, conts, svsD, slotsD, backD, noDup0, noDup1, slotsD, keepR, setAll, List.getElem?_cons_zero, List.getElem?_cons_succ, List.set_cons_zero, List.set_cons_succ, ri, rb, if_true, reduceCtorEq, isL, isDic, Bool.not_true, Bool.not_false, eWeb, eL]) fun x hx => ?_
    obtain ⟨p, hp, rfl⟩ := List.mem_map.mp hx
    have e : inD S (eP p) = (S.contains p.1 && S.contains p.2) := by
      show (S.contains ((p.1 : Int)).toNat && S.contains ((p.2 : Int)).toNat) = _
      rw [Int.toNat_natCast, Int.toNat_natCast]
    refine ⟨[some (.imm (eWeb n L)), some (.imm (eT S)), none, some (.imm (nI p.1)), some (.imm (nI p.2))], rfl, rfl, ?_, fun _ => ⟨.imm (.int 1), rfl, rfl⟩⟩
    rw [e]
    cases e1 : S.contains p.1 with
    | false => simp only [a_mVar, a_mC, a_mBin, a_mUn, a_mT, a_mAndT, a_mOrT, a_mNotT, a_mAndV, a_mOrV, a_mNotV, a_mIfE, a_mChain, a_mTup, a_mLst, a_aNil, a_aCons, a_lNil, a_lCons, a_mB, a_mCall, a_cNil, a_cVal, a_cIo, a_mIsi, a_mFld, a_mMake, a_mCch, a_mDNew, a_mSl, a_oNone, a_oSome, a_sNx, a_sSeq, a_sRet, a_sRetN, a_sIf, a_sSet, a_sAsg, a_sPar, a_sDrop, a_sBk, a_sCt, a_gN, a_gsN, a_gsC, a_gT, a_gFld, a_gItem, a_gIx, a_gKey, a_rNil, a_rCons, a_mApp, a_mExt, a_mPop, a_mPopAt, a_wSeq, a_wRng1, a_wRng2, a_wZip, a_wEnum, a_sFor, a_tYesD, a_mRg1, a_mRg2, runF, endD, retD, outsD, List.map_cons, List.map_nil, List.length_cons, List.length_nil, List.replicate_succ, List.replicate_zero, List.replicate, List.cons_append, List.nil_append, cont, getD, freeze, freezeS, conts, svsD, slotsD, backD, noDup0, noDup1, slotsD, keepR, setAll, List.getElem?_cons_zero, List.getElem?_cons_succ, List.set_cons_zero, List.set_cons_succ, ri, rb, if_true, reduceCtorEq, isL, isDic, Bool.not_true, Bool.not_false, in_eT, e1, Bool.false_and]
    | true => simp only [a_mVar, a_mC, a_mBin, a_mUn, a_mT, a_mAndT, a_mOrT, a_mNotT, a_mAndV, a_mOrV, a_mNotV, a_mIfE, a_mChain, a_mTup, a_mLst, a_aNil, a_aCons, a_lNil, a_lCons, a_mB, a_mCall, a_cNil, a_cVal, a_cIo, a_mIsi, a_mFld, a_mMake, a_mCch, a_mDNew, a_mSl, a_oNone, a_oSome, a_sNx, a_sSeq, a_sRet, a_sRetN, a_sIf, a_sSet, a_sAsg, a_sPar, a_sDrop, a_sBk, a_sCt, a_gN, a_gsN, a_gsC, a_gT, a_gFld, a_gItem, a_gIx, a_gKey, a_rNil, a_rCons, a_mApp, a_mExt, a_mPop, a_mPopAt, a_wSeq, a_wRng1, a_wRng2, a_wZip, a_wEnum, a_sFor, a_tYesD, a_mRg1, a_mRg2, runF, endD, retD, outsD, List.map_cons, List.map_nil, List.length_cons, List.length_nil, List.replicate_succ, List.replicate_zero, List.replicate, List.cons_append, List.nil_append, cont, getD, freeze, freezeS, conts, svsD, slotsD, backD, noDup0, noDup1, slotsD, keepR, setAll, List.getElem?_cons_zero, List.getElem?_cons_succ, List.set_cons_zero, List.set_cons_succ, ri, rb, if_true, reduceCtorEq, isL, isDic, Bool.not_true, Bool.not_false, in_eT, e1, Bool.true_and]
  have e : (((L.map eP).filter (inD S)).map fun _ => D.int 1).length = innerT L S := by
    rw [List.length_map, List.filter_map, List.length_map]
    rfl
  have hd : CDiv ((innerT L S : Int) + S.length - 2) ((S.length : Int) - 1) := ⟨by omega, by omega⟩
  have e2 : dLen [.lst (((L.map eP).filter (inD S)).map fun _ => D.int 1)] = some (.imm (nI (innerT L S))) := by
    show ri _ = _
    rw [e]
    rfl
  have e3 : dLen [eT S] = some (.imm (nI S.length)) := by
    show ri _ = _
    rw [List.length_map]
    rfl
  simp only [m_forests_for, b_forests_for, s_forests_for_0, s_forests_for_1, a_mVar, a_mC, a_mBin, a_mUn, a_mT, a_mAndT, a_mOrT, a_mNotT, a_mAndV, a_mOrV, a_mNotV, a_mIfE, a_mChain, a_mTup, a_mLst, a_aNil, a_aCons, a_lNil, a_lCons, a_mB, a_mCall, a_cNil, a_cVal, a_cIo, a_mIsi, a_mFld, a_mMake, a_mCch, a_mDNew, a_mSl, a_oNone, a_oSome, a_sNx, a_sSeq, a_sRet, a_sRetN, a_sIf, a_sSet, a_sAsg, a_sPar, a_sDrop, a_sBk, a_sCt, a_gN, a_gsN, a_gsC, a_gT, a_gFld, a_gItem, a_gIx, a_gKey, a_rNil, a_rCons, a_mApp, a_mExt, a_mPop, a_mPopAt, a_wSeq, a_wRng1, a_wRng2, a_wZip, a_wEnum, a_sFor, a_tYesD, a_mRg1, a_mRg2, runF, endD, retD, outsD, List.map_cons, List.map_nil, List.length_cons, List.length_nil, List.replicate_succ, List.replicate_zero, List.replicate, List.cons_append, List.nil_append, cont, getD, freeze, freezeS, conts, svsD, slotsD, backD, noDup0, noDup1, slotsD, keepR, setAll, List.getElem?_cons_zero, List.getElem?_cons_succ, List.set_cons_zero, List.set_cons_succ, ri, rb, if_true, reduceCtorEq, isL, isDic, Bool.not_true, Bool.not_false, hc, e2, e3, dAdd, dSub, dDiv, dIn2]
  rw [if_pos hd]
  rfl
end LW

namespace LW
open PySem PySem.Spec PyProof.Rows L2 LD
/-! ### orders -/
def leS (a b : List Nat) : Bool := PySem.W.dataLe false toPy (eT a) (eT b)
def ltS (a b : List Nat) : Bool := ltD (eT a) (eT b)
def lexN : List Nat → List Nat → Bool
  | [], [] => false
  | [], _ :: _ => true
  | _ :: _, [] => false
  | x :: xs, y :: ys => decide (x < y) || (decide (x = y) && lexN xs ys)
theorem lexI_N : ∀ a b : List Nat, lexI (a.map fun (n : Nat) => (n : Int)) (b.map fun (n : Nat) => (n : Int)) = lexN a b
  | [], [] => rfl
  | [], _ :: _ => rfl
  | _ :: _, [] => rfl
  | x :: xs, y :: ys => by
    have e1 : decide ((x : Int) < y) = decide (x < y) := by by_cases h : x < y <;> simp [h] <;> omega
    have e2 : decide ((x : Int) = y) = decide (x = y) := by by_cases h : x = y <;> simp [h] <;> omega
    rw [List.map_cons, List.map_cons, lexI, lexN, lexI_N xs ys, e1, e2]
theorem ltS_eq (a b : List Nat) : ltS a b = lexN a b := by
  unfold ltS
  rw [eT_eq, eT_eq, lt_tup, lexI_N]
theorem leS_eq (a b : List Nat) : leS a b = !lexN b a := by
  have : leS a b = !ltS b a := rfl
  rw [this, ltS_eq]
theorem lexN_total : ∀ a b : List Nat, lexN a b = false → lexN b a = false → a = b
  | [], [], _, _ => rfl
  | [], _ :: _, h, _ => by cases h
  | _ :: _, [], _, h => by cases h
  | x :: xs, y :: ys, h1, h2 => by
    simp only [lexN, Bool.or_eq_false_iff, decide_eq_false_iff_not, Bool.and_eq_false_iff] at h1 h2
    have e : x = y := by omega
    subst e
    have h3 : lexN xs ys = false := h1.2.elim (fun z => absurd rfl z) id
    have h4 : lexN ys xs = false := h2.2.elim (fun z => absurd rfl z) id
    rw [lexN_total xs ys h3 h4]
theorem lexN_neg : ∀ a b c : List Nat, lexN a c = true → lexN a b = true ∨ lexN b c = true
  | [], [], [], h => by cases h
  | [], [], _ :: _, _ => .inr rfl
  | [], _ :: _, _, _ => .inl rfl
  | _ :: _, _, [], h => by cases h
  | _ :: _, [], _ :: _, _ => .inr rfl
  | x :: xs, y :: ys, z :: zs, h => by
    simp only [lexN, Bool.or_eq_true, decide_eq_true_eq, Bool.and_eq_true] at h ⊢
    rcases Nat.lt_trichotomy x y with q | q | q
    · exact .inl (.inl q)
    · subst q
      rcases h with h | ⟨h1, h2⟩
      · exact .inr (.inl h)
      · subst h1
        rcases lexN_neg xs ys zs h2 with z | z
        · exact .inl (.inr ⟨rfl, z⟩)
        · exact .inr (.inr ⟨rfl, z⟩)
    · right; left
      rcases h with h | ⟨h1, h2⟩ <;> omega
theorem lexN_trans : ∀ a b c : List Nat, lexN a b = true → lexN b c = true → lexN a c = true
  | [], [], _, h, _ => by cases h
  | [], _ :: _, [], _, h => by cases h
  | [], _ :: _, _ :: _, _, _ => rfl
  | _ :: _, [], _, h, _ => by cases h
  | _ :: _, _ :: _, [], _, h => by cases h
  | x :: xs, y :: ys, z :: zs, h1, h2 => by
    simp only [lexN, Bool.or_eq_true, decide_eq_true_eq, Bool.and_eq_true] at h1 h2 ⊢
    rcases h1 with h1 | ⟨h1, h1'⟩
    · left; rcases h2 with h2 | ⟨h2, _⟩ <;> omega
    · rcases h2 with h2 | ⟨h2, h2'⟩
      · left; omega
      · right; exact ⟨by omega, lexN_trans xs ys zs h1' h2'⟩
theorem lexN_irr : ∀ a : List Nat, lexN a a = false
  | [] => rfl
  | x :: xs => by simp [lexN, lexN_irr xs]
/-! ### min, max -/
theorem minDD_least (lt : D → D → Bool) (hn : ∀ a b c, lt a c = true → lt a b = true ∨ lt b c = true) (ht : ∀ a b c, lt a b = true → lt b c = true → lt a c = true) (hi : ∀ a, lt a a = false) :
    ∀ (xs : List D) (x : D), lt x (xs.foldl (fun a y => if lt y a then y else a) x) = false ∧ ∀ y ∈ xs, lt y (xs.foldl (fun a y => if lt y a then y else a) x) = false
  | [], x => ⟨hi x, fun y hy => by simp at hy⟩
  | z :: xs, x => by
    rw [List.foldl_cons]
    obtain ⟨h1, h2⟩ := minDD_least lt hn ht hi xs (if lt z x then z else x)
    generalize xs.foldl (fun a y => if lt y a then y else a) (if lt z x then z else x) = m at h1 h2
    cases e : lt z x with
    | true =>
      rw [e, if_pos rfl] at h1
      refine ⟨?_, fun y hy => ?_⟩
      · cases q : lt x m with
        | false => rfl
        | true => rw [ht z x m e q] at h1; cases h1
      · rcases List.mem_cons.mp hy with rfl | hy
        · exact h1
        · exact h2 y hy
    | false =>
      rw [e, if_neg Bool.false_ne_true] at h1
      refine ⟨h1, fun y hy => ?_⟩
      rcases List.mem_cons.mp hy with rfl | hy
      · cases q : lt y m with
        | false => rfl
        | true =>
          rcases hn y x m q with z | z
          · rw [e] at z; cases z
          · rw [h1] at z; cases z
      · exact h2 y hy
theorem ltD_neg (a b c : D) : ltD a c = true → ltD a b = true ∨ ltD b c = true := PyProof.Rows.lex_negTrans (O := itemOrd) _ _ _
theorem ltD_trans (a b c : D) : ltD a b = true → ltD b c = true → ltD a c = true := PyProof.Rows.lex_trans (O := itemOrd) _ _ _
theorem ltD_irr (a : D) : ltD a a = false := PyProof.Rows.lex_irrefl (O := itemOrd) _
theorem ltD_int (a b : Int) : ltD (.int a) (.int b) = decide (a < b) := PySem.W.dataLt_int a b
theorem minDD_le (x : D) (xs : List D) : ∀ y ∈ x :: xs, ltD y (minDD x xs) = false := by
  obtain ⟨h1, h2⟩ := minDD_least ltD ltD_neg ltD_trans ltD_irr xs x
  intro y hy
  rcases List.mem_cons.mp hy with rfl | hy
  · exact h1
  · exact h2 y hy
theorem maxDD_ge (x : D) (xs : List D) : ∀ y ∈ x :: xs, ltD (maxDD x xs) y = false := by
  obtain ⟨h1, h2⟩ := minDD_least (fun a b => ltD b a) (fun a b c h => (ltD_neg c b a h).symm) (fun a b c h1 h2 => ltD_trans c b a h2 h1) ltD_irr xs x
  intro y hy
  rcases List.mem_cons.mp hy with rfl | hy
  · exact h1
  · exact h2 y hy
end LW

namespace LW
open PySem PySem.Spec PyProof.Rows L2 LD
def sortT (n : Nat) : List (List Nat) := (lotsT n).mergeSort leS
def someT (n : Nat) : List (List Nat) := (sortT n).filter fun S => decide (1 < S.length)
theorem sortD_eT (l : List (List Nat)) : sortD (l.map eT) = (l.mergeSort leS).map eT := (List.map_mergeSort (r := leS) (s := PySem.W.dataLe false toPy) (f := eT) fun _ _ _ _ => rfl).symm
theorem shp_eT (S : List Nat) : shp (eT S) = true := by rw [eT_eq]; exact shp_tup _
theorem alike_eT (a b : List Nat) : PySem.W.alike (toPy (eT a)) (toPy (eT b)) = true := by
  rw [eT_eq, eT_eq]
  simp only [toPy, PySem.W.alike, alike_ints]
theorem okSort_eT (l : List (List Nat)) : okSort (l.map eT) = true := by
  have h1 : (l.map eT).all shp = true := by
    rw [List.all_eq_true]; intro d hd
    obtain ⟨S, _, rfl⟩ := List.mem_map.mp hd
    exact shp_eT S
  have h2 : alikes (l.map eT) = true := by
    unfold alikes
    rw [List.all_eq_true]; intro d hd
    rw [List.all_eq_true]; intro e he
    obtain ⟨S, _, rfl⟩ := List.mem_map.mp hd
    obtain ⟨R, _, rfl⟩ := List.mem_map.mp he
    exact alike_eT S R
  have h3 : (l.map eT).all isTup = true := by
    rw [List.all_eq_true]; intro d hd
    obtain ⟨S, _, rfl⟩ := List.mem_map.mp hd
    rfl
  unfold okSort
  rw [h1, h2, h3]
  simp
theorem sorted_eT (l : List (List Nat)) : dSortedA [.lst (l.map eT)] = some (.own (.lst ((l.mergeSort leS).map eT))) := by
  have : dSorted [.lst (l.map eT)] = some (.own (.lst ((l.mergeSort leS).map eT))) := by
    unfold dSorted
    dsimp only
    rw [if_pos (okSort_eT l), sortD_eT]
  unfold dSortedA
  rw [this]
theorem okMin_ints (l : List Int) : okMin (l.map D.int) = true := by
  have h1 : shp (.lst (l.map D.int)) = true := by
    have := depth_ints l
    simp [shp, SeqAt.shaped, toPy, PyData.canLay0, can_ints, PyData.depth]
    omega
  have h2 : alikes (l.map D.int) = true := by
    unfold alikes
    rw [List.all_eq_true]; intro d hd
    rw [List.all_eq_true]; intro e he
    obtain ⟨S, _, rfl⟩ := List.mem_map.mp hd
    obtain ⟨R, _, rfl⟩ := List.mem_map.mp he
    rfl
  have h3 : ((l.map D.int).all fun d => !isNone (toPy d)) = true := by
    rw [List.all_eq_true]; intro d hd
    obtain ⟨S, _, rfl⟩ := List.mem_map.mp hd
    rfl
  unfold okMin
  rw [h1, h2, h3]
  rfl
/-- the greatest of ints -/
theorem max_ints {l : List Int} (h : l ≠ []) : ∃ m, dMaxL [.lst (l.map D.int)] = some (.imm (.int m)) ∧ m ∈ l ∧ ∀ y ∈ l, y ≤ m := by
  cases l with
  | nil => exact absurd rfl h
  | cons x xs =>
    have hm := maxDD_mem (.int x) (xs.map D.int)
    rw [← List.map_cons] at hm
    obtain ⟨m, h1, h2⟩ := List.mem_map.mp hm
    refine ⟨m, ?_, h1, fun y hy => ?_⟩
    · show (if okMin ((x :: xs).map D.int) = true then some (R.imm (maxDD (.int x) (xs.map D.int))) else none) = _
      rw [if_pos (okMin_ints _), h2]
    · have := maxDD_ge (.int x) (xs.map D.int) (.int y) (by rw [← List.map_cons]; exact List.mem_map_of_mem hy)
      rw [← h2, ltD_int, decide_eq_false_iff_not] at this
      omega
theorem lotsT_mono (n : Nat) {S : List Nat} (h : S ∈ lotsT n) : S ∈ lotsT (n + 1) := by rw [lotsT_succ]; exact List.mem_append_left _ h
theorem lots01 : ∀ n, 2 ≤ n → [0, 1] ∈ lotsT n
  | 2, _ => by decide
  | n + 3, _ => lotsT_mono _ (lots01 (n + 2) (by omega))
theorem mem_someT {n : Nat} {S : List Nat} : S ∈ someT n ↔ S ∈ lotsT n ∧ 1 < S.length := by
  unfold someT sortT
  rw [List.mem_filter, List.mem_mergeSort, decide_eq_true_eq]
theorem len_eT (S : List Nat) : dLen [eT S] = some (.imm (nI S.length)) := by
  show ri _ = _
  rw [List.length_map]
  rfl
def len1 : D → Bool
  | .tup xs => decide (1 < xs.length)
  | _ => false
theorem len1_eT (S : List Nat) : len1 (eT S) = decide (1 < S.length) := by
  show decide (1 < (S.map nI).length) = _
  rw [List.length_map]
theorem need_0 {n : Nat} (hn : n ≤ 7) (L : List (Nat × Nat)) : c_forests_needed_0 [some (.imm (eWeb n L)), none, none, none] = some (.own (.lst ((someT n).map eT)), [some (.imm (eWeb n L)), none, none, none]) := by
  have := mLc_pure (vs := [3]) (w := (wSeq (mB dSortedA (lCons (mCall m_lots_of (cVal (mFld 0 0 (mVar 0)) cNil)) lNil)))) (g := gN 3) (c := (mT (mBin dGtA (mB dLen (lCons (mVar 3) lNil)) (mC (.int 1))))) (m := mVar 3)
    (st := [some (.imm (eWeb n L)), none, none, none]) (s := [some (.imm (eWeb n L)), none, none, none]) (xs := (sortT n).map eT) len1 id (by simp only [a_mVar, a_mC, a_mBin, a_mUn, a_mT, a_mAndT, a_mOrT, a_mNotT, a_mAndV, a_mOrV, a_mNotV, a_mIfE, a_mChain, a_mTup, a_mLst, a_aNil, a_aCons, a_lNil, a_lCons, a_mB, a_mCall, a_cNil, a_cVal, a_cIo, a_mIsi, a_mFld, a_mMake, a_mCch, a_mDNew, a_mSl, a_oNone, a_oSome, a_sNx, a_sSeq, a_sRet, a_sRetN, a_sIf, a_sSet, a_sAsg, a_sPar, a_sDrop, a_sBk, a_sCt, a_gN, a_gsN, a_gsC, a_gT, a_gFld, a_gItem, a_gIx, a_gKey, a_rNil, a_rCons, a_mApp, a_mExt, a_mPop, a_mPopAt, a_wSeq, a_wRng1, a_wRng2, a_wZip, a_wEnum, a_sFor, a_tYesD, a_mRg1, a_mRg2, runF, endD, retD, outsD, List.map_cons, List.map_nil, List.length_cons, List.length_nil, List.replicate_succ, List.replicate_zero, List.replicate, List.cons_append, List.nil_append, cont, getD, freeze, freezeS, conts, svsD, slotsD, backD, noDup0, noDup1, slotsD, keepR, setAll, List.getElem?_cons_zero, List.getElem?_cons_succ, List.set_cons_zero, List.set_cons_succ, ri, rb, if_true, reduceCtorEq, isL, isDic, Bool.not_true, Bool.not_false, eWeb, e_lots hn, sorted_eT]; rfl) fun x hx => ?_
  · have e : ((((sortT n).map eT).filter len1).map id) = (someT n).map eT := by
      rw [List.map_id, List.filter_map]
      unfold someT
      congr 1
      exact List.filter_congr fun S _ => len1_eT S
    rw [e] at this
    exact this
  · obtain ⟨S, hS, rfl⟩ := List.mem_map.mp hx
    refine ⟨[some (.imm (eWeb n L)), none, none, some (.imm (eT S))], rfl, rfl, ?_, fun _ => ⟨.imm (eT S), rfl, rfl⟩⟩
    have e2 : decide ((1 : Int) < S.length) = decide (1 < S.length) := by by_cases q : 1 < S.length <;> simp [q] <;> omega
    simp only [a_mVar, a_mC, a_mBin, a_mUn, a_mT, a_mAndT, a_mOrT, a_mNotT, a_mAndV, a_mOrV, a_mNotV, a_mIfE, a_mChain, a_mTup, a_mLst, a_aNil, a_aCons, a_lNil, a_lCons, a_mB, a_mCall, a_cNil, a_cVal, a_cIo, a_mIsi, a_mFld, a_mMake, a_mCch, a_mDNew, a_mSl, a_oNone, a_oSome, a_sNx, a_sSeq, a_sRet, a_sRetN, a_sIf, a_sSet, a_sAsg, a_sPar, a_sDrop, a_sBk, a_sCt, a_gN, a_gsN, a_gsC, a_gT, a_gFld, a_gItem, a_gIx, a_gKey, a_rNil, a_rCons, a_mApp, a_mExt, a_mPop, a_mPopAt, a_wSeq, a_wRng1, a_wRng2, a_wZip, a_wEnum, a_sFor, a_tYesD, a_mRg1, a_mRg2, runF, endD, retD, outsD, List.map_cons, List.map_nil, List.length_cons, List.length_nil, List.replicate_succ, List.replicate_zero, List.replicate, List.cons_append, List.nil_append, cont, getD, freeze, freezeS, conts, svsD, slotsD, backD, noDup0, noDup1, slotsD, keepR, setAll, List.getElem?_cons_zero, List.getElem?_cons_succ, List.set_cons_zero, List.set_cons_succ, ri, rb, if_true, reduceCtorEq, isL, isDic, Bool.not_true, Bool.not_false, len_eT, dGtA, two, len1_eT, e2]
def forD' (L : List (Nat × Nat)) : D → D
  | .tup xs => .int (forI L (xs.map fun d => match d with | .int i => i.toNat | _ => 0))
  | d => d
theorem forD_eT (L : List (Nat × Nat)) (S : List Nat) : forD' L (eT S) = .int (forI L S) := by
  show D.int (forI L ((S.map nI).map _)) = _
  rw [List.map_map]
  congr 2
  have : (List.map ((fun d => match d with | D.int i => i.toNat | _ => 0) ∘ nI) S) = S.map id := List.map_congr_left fun x _ => rfl
  rw [this, List.map_id]
theorem need_1 {n : Nat} (hn : n ≤ 7) (L : List (Nat × Nat)) : c_forests_needed_1 [some (.imm (eWeb n L)), some (.rt true (.lst ((someT n).map eT))), none, none] = some (.own (.lst (((someT n).map (forI L)).map D.int)), [some (.imm (eWeb n L)), some (.imm (.lst ((someT n).map eT))), none, none]) := by
  have := mLc_pure (vs := [3]) (w := wSeq (mVar 1)) (g := gN 3) (c := tYesD) (m := (mCall m_forests_for (cVal (mVar 0) (cVal (mVar 3) cNil))))
    (st := [some (.imm (eWeb n L)), some (.rt true (.lst ((someT n).map eT))), none, none]) (s := [some (.imm (eWeb n L)), some (.imm (.lst ((someT n).map eT))), none, none]) (xs := (someT n).map eT) (fun _ => true) (forD' L) rfl fun x hx => ?_
  · have e : ((((someT n).map eT).filter (fun _ => true)).map (forD' L)) = ((someT n).map (forI L)).map D.int := by
      rw [filter_true, List.map_map, List.map_map]
      exact List.map_congr_left fun S _ => forD_eT L S
    rw [e] at this
    exact this
  · obtain ⟨S, hS, rfl⟩ := List.mem_map.mp hx
    have hS' := mem_someT.mp hS
    have hl := lotsT_lens n S hS'.1
    refine ⟨[some (.imm (eWeb n L)), some (.imm (.lst ((someT n).map eT))), none, some (.imm (eT S))], rfl, rfl, rfl, fun _ => ⟨.imm (forD' L (eT S)), ?_, rfl⟩⟩
    simp only [a_mVar, a_mC, a_mBin, a_mUn, a_mT, a_mAndT, a_mOrT, a_mNotT, a_mAndV, a_mOrV, a_mNotV, a_mIfE, a_mChain, a_mTup, a_mLst, a_aNil, a_aCons, a_lNil, a_lCons, a_mB, a_mCall, a_cNil, a_cVal, a_cIo, a_mIsi, a_mFld, a_mMake, a_mCch, a_mDNew, a_mSl, a_oNone, a_oSome, a_sNx, a_sSeq, a_sRet, a_sRetN, a_sIf, a_sSet, a_sAsg, a_sPar, a_sDrop, a_sBk, a_sCt, a_gN, a_gsN, a_gsC, a_gT, a_gFld, a_gItem, a_gIx, a_gKey, a_rNil, a_rCons, a_mApp, a_mExt, a_mPop, a_mPopAt, a_wSeq, a_wRng1, a_wRng2, a_wZip, a_wEnum, a_sFor, a_tYesD, a_mRg1, a_mRg2, runF, endD, retD, outsD, List.map_cons, List.map_nil, List.length_cons, List.length_nil, List.replicate_succ, List.replicate_zero, List.replicate, List.cons_append, List.nil_append, cont, getD, freeze, freezeS, conts, svsD, slotsD, backD, noDup0, noDup1, slotsD, keepR, setAll, List.getElem?_cons_zero, List.getElem?_cons_succ, List.set_cons_zero, List.set_cons_succ, ri, rb, if_true, reduceCtorEq, isL, isDic, Bool.not_true, Bool.not_false, e_forests_for L S hS'.2 (by omega), forD_eT]
def isFor (L : List (Nat × Nat)) (M : Int) : D → Bool
  | .tup xs => decide (forI L (xs.map fun d => match d with | .int i => i.toNat | _ => 0) = M)
  | _ => false
theorem isFor_eT (L : List (Nat × Nat)) (M : Int) (S : List Nat) : isFor L M (eT S) = decide (forI L S = M) := by
  show decide (forI L ((S.map nI).map _) = M) = _
  rw [List.map_map]
  have : (List.map ((fun d => match d with | D.int i => i.toNat | _ => 0) ∘ nI) S) = S.map id := List.map_congr_left fun x _ => rfl
  rw [this, List.map_id]
theorem need_2 {n : Nat} (hn : n ≤ 7) (L : List (Nat × Nat)) (M : Int) : c_forests_needed_2 [some (.imm (eWeb n L)), some (.imm (.lst ((someT n).map eT))), some (.imm (.int M)), none] = some (.own (.lst (((someT n).filter fun S => decide (forI L S = M)).map eT)), [some (.imm (eWeb n L)), some (.imm (.lst ((someT n).map eT))), some (.imm (.int M)), none]) := by
  have := mLc_pure (vs := [3]) (w := wSeq (mVar 1)) (g := gN 3) (c := (mT (mBin dEqA (mCall m_forests_for (cVal (mVar 0) (cVal (mVar 3) cNil))) (mVar 2)))) (m := mVar 3)
    (st := [some (.imm (eWeb n L)), some (.imm (.lst ((someT n).map eT))), some (.imm (.int M)), none]) (s := [some (.imm (eWeb n L)), some (.imm (.lst ((someT n).map eT))), some (.imm (.int M)), none]) (xs := (someT n).map eT) (isFor L M) id rfl fun x hx => ?_
  · have e : ((((someT n).map eT).filter (isFor L M)).map id) = ((someT n).filter fun S => decide (forI L S = M)).map eT := by
      rw [List.map_id, List.filter_map]
      congr 1
      exact List.filter_congr fun S _ => isFor_eT L M S
    rw [e] at this
    exact this
  · obtain ⟨S, hS, rfl⟩ := List.mem_map.mp hx
    have hS' := mem_someT.mp hS
    have hl := lotsT_lens n S hS'.1
    refine ⟨[some (.imm (eWeb n L)), some (.imm (.lst ((someT n).map eT))), some (.imm (.int M)), some (.imm (eT S))], rfl, rfl, ?_, fun _ => ⟨.imm (eT S), rfl, rfl⟩⟩
    simp only [a_mVar, a_mC, a_mBin, a_mUn, a_mT, a_mAndT, a_mOrT, a_mNotT, a_mAndV, a_mOrV, a_mNotV, a_mIfE, a_mChain, a_mTup, a_mLst, a_aNil, a_aCons, a_lNil, a_lCons, a_mB, a_mCall, a_cNil, a_cVal, a_cIo, a_mIsi, a_mFld, a_mMake, a_mCch, a_mDNew, a_mSl, a_oNone, a_oSome, a_sNx, a_sSeq, a_sRet, a_sRetN, a_sIf, a_sSet, a_sAsg, a_sPar, a_sDrop, a_sBk, a_sCt, a_gN, a_gsN, a_gsC, a_gT, a_gFld, a_gItem, a_gIx, a_gKey, a_rNil, a_rCons, a_mApp, a_mExt, a_mPop, a_mPopAt, a_wSeq, a_wRng1, a_wRng2, a_wZip, a_wEnum, a_sFor, a_tYesD, a_mRg1, a_mRg2, runF, endD, retD, outsD, List.map_cons, List.map_nil, List.length_cons, List.length_nil, List.replicate_succ, List.replicate_zero, List.replicate, List.cons_append, List.nil_append, cont, getD, freeze, freezeS, conts, svsD, slotsD, backD, noDup0, noDup1, slotsD, keepR, setAll, List.getElem?_cons_zero, List.getElem?_cons_succ, List.set_cons_zero, List.set_cons_succ, ri, rb, if_true, reduceCtorEq, isL, isDic, Bool.not_true, Bool.not_false, e_forests_for L S hS'.2 (by omega), isFor_eT, dEqA, two]
end LW

namespace LW
open PySem PySem.Spec PyProof.Rows L2 LD
theorem TotLe : PySem.W.TotalLe leS := PySem.W.sortLe_total (listOrd itemOrd) false fun b => PySem.W.keyToks (toPy (eT b))
/-- what forests_needed tells -/
structure Need (n : Nat) (L : List (Nat × Nat)) (M : Int) (S : List Nat) : Prop where
  mem : S ∈ lotsT n
  len : 1 < S.length
  eq : forI L S = M
  most : ∀ R ∈ lotsT n, 1 < R.length → forI L R ≤ M
  least : ∀ R ∈ lotsT n, 1 < R.length → forI L R = M → lexN R S = false
theorem lenL (L : List (Nat × Nat)) : dLen [eL L] = some (.imm (nI L.length)) := by
  show ri _ = _
  rw [List.length_map]
  rfl
theorem e_needed0 {n : Nat} : m_forests_needed [.imm (eWeb n [])] = some (.imm (.tup [.int 0, .tup []]), [.imm (eWeb n [])]) := by
  simp only [m_forests_needed, b_forests_needed, s_forests_needed_0, s_forests_needed_1, a_mVar, a_mC, a_mBin, a_mUn, a_mT, a_mAndT, a_mOrT, a_mNotT, a_mAndV, a_mOrV, a_mNotV, a_mIfE, a_mChain, a_mTup, a_mLst, a_aNil, a_aCons, a_lNil, a_lCons, a_mB, a_mCall, a_cNil, a_cVal, a_cIo, a_mIsi, a_mFld, a_mMake, a_mCch, a_mDNew, a_mSl, a_oNone, a_oSome, a_sNx, a_sSeq, a_sRet, a_sRetN, a_sIf, a_sSet, a_sAsg, a_sPar, a_sDrop, a_sBk, a_sCt, a_gN, a_gsN, a_gsC, a_gT, a_gFld, a_gItem, a_gIx, a_gKey, a_rNil, a_rCons, a_mApp, a_mExt, a_mPop, a_mPopAt, a_wSeq, a_wRng1, a_wRng2, a_wZip, a_wEnum, a_sFor, a_tYesD, a_mRg1, a_mRg2, runF, endD, retD, outsD, List.map_cons, List.map_nil, List.length_cons, List.length_nil, List.replicate_succ, List.replicate_zero, List.replicate, List.cons_append, List.nil_append, cont, getD, freeze, freezeS, conts, svsD, slotsD, backD, noDup0, noDup1, slotsD, keepR, setAll, List.getElem?_cons_zero, List.getElem?_cons_succ, List.set_cons_zero, List.set_cons_succ, ri, rb, if_true, reduceCtorEq, isL, isDic, Bool.not_true, Bool.not_false, eWeb, lenL, dEqA, two, List.length_nil]
  rfl
theorem e_needed {n : Nat} (hn : n ≤ 7) (hn2 : 2 ≤ n) {L : List (Nat × Nat)} (hL : L ≠ []) : ∃ M S, m_forests_needed [.imm (eWeb n L)] = some (.imm (.tup [.int M, eT S]), [.imm (eWeb n L)]) ∧ Need n L M S := by
  have ne : someT n ≠ [] := fun z => by
    have : [0, 1] ∈ someT n := mem_someT.mpr ⟨lots01 n hn2, by decide⟩
    rw [z] at this
    cases this
  obtain ⟨M, m1, m2, m3⟩ := max_ints (l := (someT n).map (forI L)) (fun z => ne (List.map_eq_nil_iff.mp z))
  obtain ⟨S0, hS0, eS0⟩ := List.mem_map.mp m2
  have sp : (someT n).Pairwise (fun a b => leS a b = true) := List.Pairwise.filter _ (PySem.W.sort_pairwise TotLe _)
  have fp : ((someT n).filter fun S => decide (forI L S = M)).Pairwise (fun a b => leS a b = true) := List.Pairwise.filter _ sp
  cases ef : (someT n).filter fun S => decide (forI L S = M) with
  | nil =>
    have : S0 ∈ (someT n).filter fun S => decide (forI L S = M) := List.mem_filter.mpr ⟨hS0, by simp [eS0]⟩
    rw [ef] at this
    cases this
  | cons S rest =>
    have hS : S ∈ (someT n).filter fun S => decide (forI L S = M) := by rw [ef]; exact List.mem_cons_self ..
    obtain ⟨h1, h2⟩ := List.mem_filter.mp hS
    have h2 := of_decide_eq_true h2
    obtain ⟨h3, h4⟩ := mem_someT.mp h1
    refine ⟨M, S, ?_, h3, h4, h2, fun R hR hl => m3 _ (List.mem_map_of_mem (mem_someT.mpr ⟨hR, hl⟩)), fun R hR hl he => ?_⟩
    · have hlen : ¬ L.length = 0 := fun z => hL (List.eq_nil_of_length_eq_zero z)
      have e0 : s_forests_needed_0 [some (.imm (eWeb n L)), none, none, none] = some (.nx, [some (.imm (eWeb n L)), none, none, none]) := by
        have : ¬ ((L.length : Int) = 0) := by omega
        have hd : decide ((L.length : Int) = 0) = false := decide_eq_false this
        simp only [s_forests_needed_0, a_mVar, a_mC, a_mBin, a_mUn, a_mT, a_mAndT, a_mOrT, a_mNotT, a_mAndV, a_mOrV, a_mNotV, a_mIfE, a_mChain, a_mTup, a_mLst, a_aNil, a_aCons, a_lNil, a_lCons, a_mB, a_mCall, a_cNil, a_cVal, a_cIo, a_mIsi, a_mFld, a_mMake, a_mCch, a_mDNew, a_mSl, a_oNone, a_oSome, a_sNx, a_sSeq, a_sRet, a_sRetN, a_sIf, a_sSet, a_sAsg, a_sPar, a_sDrop, a_sBk, a_sCt, a_gN, a_gsN, a_gsC, a_gT, a_gFld, a_gItem, a_gIx, a_gKey, a_rNil, a_rCons, a_mApp, a_mExt, a_mPop, a_mPopAt, a_wSeq, a_wRng1, a_wRng2, a_wZip, a_wEnum, a_sFor, a_tYesD, a_mRg1, a_mRg2, runF, endD, retD, outsD, List.map_cons, List.map_nil, List.length_cons, List.length_nil, List.replicate_succ, List.replicate_zero, List.replicate, List.cons_append, List.nil_append, cont, getD, freeze, freezeS, conts, svsD, slotsD, backD, noDup0, noDup1, slotsD, keepR, setAll, List.getElem?_cons_zero, List.getElem?_cons_succ, List.set_cons_zero, List.set_cons_succ, ri, rb, if_true, reduceCtorEq, isL, isDic, Bool.not_true, Bool.not_false, eWeb, lenL, dEqA, two, hd]
      have e4 : dIx (.lst (((someT n).filter fun S => decide (forI L S = M)).map eT)) (.int 0) = some (.imm (eT S)) := by
        rw [ef]
        simp [dIx, atI, ixN]
      simp only [m_forests_needed, b_forests_needed, s_forests_needed_2, s_forests_needed_3, s_forests_needed_4, a_mVar, a_mC, a_mBin, a_mUn, a_mT, a_mAndT, a_mOrT, a_mNotT, a_mAndV, a_mOrV, a_mNotV, a_mIfE, a_mChain, a_mTup, a_mLst, a_aNil, a_aCons, a_lNil, a_lCons, a_mB, a_mCall, a_cNil, a_cVal, a_cIo, a_mIsi, a_mFld, a_mMake, a_mCch, a_mDNew, a_mSl, a_oNone, a_oSome, a_sNx, a_sSeq, a_sRet, a_sRetN, a_sIf, a_sSet, a_sAsg, a_sPar, a_sDrop, a_sBk, a_sCt, a_gN, a_gsN, a_gsC, a_gT, a_gFld, a_gItem, a_gIx, a_gKey, a_rNil, a_rCons, a_mApp, a_mExt, a_mPop, a_mPopAt, a_wSeq, a_wRng1, a_wRng2, a_wZip, a_wEnum, a_sFor, a_tYesD, a_mRg1, a_mRg2, runF, endD, retD, outsD, List.map_cons, List.map_nil, List.length_cons, List.length_nil, List.replicate_succ, List.replicate_zero, List.replicate, List.cons_append, List.nil_append, cont, getD, freeze, freezeS, conts, svsD, slotsD, backD, noDup0, noDup1, slotsD, keepR, setAll, List.getElem?_cons_zero, List.getElem?_cons_succ, List.set_cons_zero, List.set_cons_succ, ri, rb, if_true, reduceCtorEq, isL, isDic, Bool.not_true, Bool.not_false, e0, need_0 hn L, need_1 hn L, need_2 hn L M, m1, e4]
    · have hR' : R ∈ (someT n).filter fun S => decide (forI L S = M) := List.mem_filter.mpr ⟨mem_someT.mpr ⟨hR, hl⟩, decide_eq_true he⟩
      rw [ef] at hR' fp
      rcases List.mem_cons.mp hR' with rfl | hm
      · exact lexN_irr _
      · have := (List.pairwise_cons.mp fp).1 R hm
        rw [leS_eq, Bool.not_eq_true'] at this
        exact this
theorem Need.uniq {n : Nat} {L : List (Nat × Nat)} {M M' : Int} {S S' : List Nat} (a : Need n L M S) (b : Need n L M' S') : M = M' ∧ S = S' := by
  have h1 := a.most S' b.mem b.len
  have h2 := b.most S a.mem a.len
  rw [b.eq] at h1
  rw [a.eq] at h2
  have e : M = M' := by omega
  subst e
  exact ⟨rfl, lexN_total _ _ (b.least S a.mem a.len a.eq) (a.least S' b.mem b.len b.eq)⟩
/-! ### no_ring -/
/-- the names of corners, lines drawn one after another -/
def joinT (names : List Nat) (p : Nat × Nat) : List Nat := names.map fun x => if x = names.getD p.2 0 then names.getD p.1 0 else x
def nrT : List Nat → List (Nat × Nat) → Bool
  | _, [] => true
  | names, p :: L => if names.getD p.1 0 = names.getD p.2 0 then false else nrT (joinT names p) L
def ringless (n : Nat) (L : List (Nat × Nat)) : Bool := nrT (List.range n) L
theorem at_nI {names : List Nat} {a : Nat} (h : a < names.length) : dIx (.lst (names.map nI)) (nI a) = some (.imm (nI (names.getD a 0))) := by
  have : atI (names.map nI) (a : Int) = some (nI (names.getD a 0)) := by
    unfold atI ixN
    rw [if_pos (by omega), if_pos (by rw [List.length_map]; omega)]
    simp [h]
  show (match atI (names.map nI) (a : Int) with | some d => some (R.imm d) | none => none) = _
  rw [this]
def joinD (names : List Nat) (p : Nat × Nat) : D → D
  | .int i => if i = (names.getD p.2 0 : Nat) then nI (names.getD p.1 0) else .int i
  | d => d
theorem ring_4 {n : Nat} (x1 : Option SV) {names : List Nat} {p : Nat × Nat} (h1 : p.1 < names.length) (h2 : p.2 < names.length) : s_law_no_ring_4 [some (.imm (nI n)), x1, some (.rt true (.lst (names.map nI))), some (.imm (nI p.1)), some (.imm (nI p.2)), none] =
    some (.nx, [some (.imm (nI n)), x1, some (.rt true (.lst ((joinT names p).map nI))), some (.imm (nI p.1)), some (.imm (nI p.2)), none]) := by
  have hc : c_law_no_ring_0 [some (.imm (nI n)), x1, some (.rt true (.lst (names.map nI))), some (.imm (nI p.1)), some (.imm (nI p.2)), none] = some (.own (.lst ((joinT names p).map nI)), [some (.imm (nI n)), x1, some (.imm (.lst (names.map nI))), some (.imm (nI p.1)), some (.imm (nI p.2)), none]) := by
    have := mLc_pure (vs := [5]) (w := wSeq (mVar 2)) (g := gN 5) (c := tYesD) (m := (mIfE (mT (mBin dEqA (mVar 5) (mBin dIx (mVar 2) (mVar 4)))) (mBin dIx (mVar 2) (mVar 3)) (mVar 5)))
      (st := [some (.imm (nI n)), x1, some (.rt true (.lst (names.map nI))), some (.imm (nI p.1)), some (.imm (nI p.2)), none]) (s := [some (.imm (nI n)), x1, some (.imm (.lst (names.map nI))), some (.imm (nI p.1)), some (.imm (nI p.2)), none]) (xs := names.map nI) (fun _ => true) (joinD names p) rfl fun x hx => ?_
    · have e : ((names.map nI).filter (fun _ => true)).map (joinD names p) = (joinT names p).map nI := by
        rw [filter_true]
        unfold joinT
        rw [List.map_map, List.map_map]
        refine List.map_congr_left fun y _ => ?_
        show (if (y : Int) = (names.getD p.2 0 : Nat) then nI (names.getD p.1 0) else .int y) = nI (if y = names.getD p.2 0 then names.getD p.1 0 else y)
        by_cases q : y = names.getD p.2 0
        · rw [if_pos q, if_pos (by rw [q])]
        · rw [if_neg q, if_neg (by omega)]
      rw [e] at this
      exact this
    · obtain ⟨y, hy, rfl⟩ := List.mem_map.mp hx
      refine ⟨[some (.imm (nI n)), x1, some (.imm (.lst (names.map nI))), some (.imm (nI p.1)), some (.imm (nI p.2)), some (.imm (nI y))], rfl, rfl, rfl, fun _ => ⟨.imm (joinD names p (nI y)), ?_, rfl⟩⟩
      have e : joinD names p (nI y) = if (y : Int) = (names.getD p.2 0 : Nat) then nI (names.getD p.1 0) else nI y := rfl
      by_cases q : (y : Int) = (names.getD p.2 0 : Nat)
      · rw [e, if_pos q]
        simp only [a_mVar, a_mC, a_mBin, a_mUn, a_mT, a_mAndT, a_mOrT, a_mNotT, a_mAndV, a_mOrV, a_mNotV, a_mIfE, a_mChain, a_mTup, a_mLst, a_aNil, a_aCons, a_lNil, a_lCons, a_mB, a_mCall, a_cNil, a_cVal, a_cIo, a_mIsi, a_mFld, a_mMake, a_mCch, a_mDNew, a_mSl, a_oNone, a_oSome, a_sNx, a_sSeq, a_sRet, a_sRetN, a_sIf, a_sSet, a_sAsg, a_sPar, a_sDrop, a_sBk, a_sCt, a_gN, a_gsN, a_gsC, a_gT, a_gFld, a_gItem, a_gIx, a_gKey, a_rNil, a_rCons, a_mApp, a_mExt, a_mPop, a_mPopAt, a_wSeq, a_wRng1, a_wRng2, a_wZip, a_wEnum, a_sFor, a_tYesD, a_mRg1, a_mRg2, runF, endD, retD, outsD, List.map_cons, List.map_nil, List.length_cons, List.length_nil, List.replicate_succ, List.replicate_zero, List.replicate, List.cons_append, List.nil_append, cont, getD, freeze, freezeS, conts, svsD, slotsD, backD, noDup0, noDup1, slotsD, keepR, setAll, List.getElem?_cons_zero, List.getElem?_cons_succ, List.set_cons_zero, List.set_cons_succ, ri, rb, if_true, reduceCtorEq, isL, isDic, Bool.not_true, Bool.not_false, at_nI h1, at_nI h2, dEqA, two, decide_eq_true q]
      · rw [e, if_neg q]
        simp only [a_mVar, a_mC, a_mBin, a_mUn, a_mT, a_mAndT, a_mOrT, a_mNotT, a_mAndV, a_mOrV, a_mNotV, a_mIfE, a_mChain, a_mTup, a_mLst, a_aNil, a_aCons, a_lNil, a_lCons, a_mB, a_mCall, a_cNil, a_cVal, a_cIo, a_mIsi, a_mFld, a_mMake, a_mCch, a_mDNew, a_mSl, a_oNone, a_oSome, a_sNx, a_sSeq, a_sRet, a_sRetN, a_sIf, a_sSet, a_sAsg, a_sPar, a_sDrop, a_sBk, a_sCt, a_gN, a_gsN, a_gsC, a_gT, a_gFld, a_gItem, a_gIx, a_gKey, a_rNil, a_rCons, a_mApp, a_mExt, a_mPop, a_mPopAt, a_wSeq, a_wRng1, a_wRng2, a_wZip, a_wEnum, a_sFor, a_tYesD, a_mRg1, a_mRg2, runF, endD, retD, outsD, List.map_cons, List.map_nil, List.length_cons, List.length_nil, List.replicate_succ, List.replicate_zero, List.replicate, List.cons_append, List.nil_append, cont, getD, freeze, freezeS, conts, svsD, slotsD, backD, noDup0, noDup1, slotsD, keepR, setAll, List.getElem?_cons_zero, List.getElem?_cons_succ, List.set_cons_zero, List.set_cons_succ, ri, rb, if_true, reduceCtorEq, isL, isDic, Bool.not_true, Bool.not_false, at_nI h1, at_nI h2, dEqA, two, decide_eq_false q]
  simp only [s_law_no_ring_4, a_mVar, a_mC, a_mBin, a_mUn, a_mT, a_mAndT, a_mOrT, a_mNotT, a_mAndV, a_mOrV, a_mNotV, a_mIfE, a_mChain, a_mTup, a_mLst, a_aNil, a_aCons, a_lNil, a_lCons, a_mB, a_mCall, a_cNil, a_cVal, a_cIo, a_mIsi, a_mFld, a_mMake, a_mCch, a_mDNew, a_mSl, a_oNone, a_oSome, a_sNx, a_sSeq, a_sRet, a_sRetN, a_sIf, a_sSet, a_sAsg, a_sPar, a_sDrop, a_sBk, a_sCt, a_gN, a_gsN, a_gsC, a_gT, a_gFld, a_gItem, a_gIx, a_gKey, a_rNil, a_rCons, a_mApp, a_mExt, a_mPop, a_mPopAt, a_wSeq, a_wRng1, a_wRng2, a_wZip, a_wEnum, a_sFor, a_tYesD, a_mRg1, a_mRg2, runF, endD, retD, outsD, List.map_cons, List.map_nil, List.length_cons, List.length_nil, List.replicate_succ, List.replicate_zero, List.replicate, List.cons_append, List.nil_append, cont, getD, freeze, freezeS, conts, svsD, slotsD, backD, noDup0, noDup1, slotsD, keepR, setAll, List.getElem?_cons_zero, List.getElem?_cons_succ, List.set_cons_zero, List.set_cons_succ, ri, rb, if_true, reduceCtorEq, isL, isDic, Bool.not_true, Bool.not_false, hc]
theorem joinT_len (names : List Nat) (p : Nat × Nat) : (joinT names p).length = names.length := by unfold joinT; rw [List.length_map]
theorem ring_loop {n : Nat} (x1 : Option SV) : ∀ (L : List (Nat × Nat)) (names : List Nat) (x3 x4 : Option SV), (∀ p ∈ L, p.1 < names.length ∧ p.2 < names.length) →
    ∃ st, forD (gT 2 (gsC (gN 3) (gsC (gN 4) gsN))) (sSeq s_law_no_ring_2 s_law_no_ring_4) (L.map eP) [some (.imm (nI n)), x1, some (.rt true (.lst (names.map nI))), x3, x4, none] =
      some (if nrT names L = true then .nx else .ret (.imm (.bl false)), st) ∧ ∃ a b c d, st = [some (.imm (nI n)), x1, a, b, c, d]
  | [], names, x3, x4, _ => ⟨_, rfl, _, _, _, _, rfl⟩
  | p :: L, names, x3, x4, h => by
    obtain ⟨h1, h2⟩ := h p (List.mem_cons_self ..)
    have g1 : gT 2 (gsC (gN 3) (gsC (gN 4) gsN)) (eP p) [some (.imm (nI n)), x1, some (.rt true (.lst (names.map nI))), x3, x4, none] = some [some (.imm (nI n)), x1, some (.rt true (.lst (names.map nI))), some (.imm (nI p.1)), some (.imm (nI p.2)), none] := rfl
    by_cases q : names.getD p.1 0 = names.getD p.2 0
    · have hb : (sSeq s_law_no_ring_2 s_law_no_ring_4) [some (.imm (nI n)), x1, some (.rt true (.lst (names.map nI))), some (.imm (nI p.1)), some (.imm (nI p.2)), none] = some (.ret (.imm (.bl false)), [some (.imm (nI n)), x1, some (.rt true (.lst (names.map nI))), some (.imm (nI p.1)), some (.imm (nI p.2)), none]) := by
        have q' : ((names.getD p.1 0 : Nat) : Int) = (names.getD p.2 0 : Nat) := by rw [q]
        simp only [s_law_no_ring_2, s_law_no_ring_3, a_mVar, a_mC, a_mBin, a_mUn, a_mT, a_mAndT, a_mOrT, a_mNotT, a_mAndV, a_mOrV, a_mNotV, a_mIfE, a_mChain, a_mTup, a_mLst, a_aNil, a_aCons, a_lNil, a_lCons, a_mB, a_mCall, a_cNil, a_cVal, a_cIo, a_mIsi, a_mFld, a_mMake, a_mCch, a_mDNew, a_mSl, a_oNone, a_oSome, a_sNx, a_sSeq, a_sRet, a_sRetN, a_sIf, a_sSet, a_sAsg, a_sPar, a_sDrop, a_sBk, a_sCt, a_gN, a_gsN, a_gsC, a_gT, a_gFld, a_gItem, a_gIx, a_gKey, a_rNil, a_rCons, a_mApp, a_mExt, a_mPop, a_mPopAt, a_wSeq, a_wRng1, a_wRng2, a_wZip, a_wEnum, a_sFor, a_tYesD, a_mRg1, a_mRg2, runF, endD, retD, outsD, List.map_cons, List.map_nil, List.length_cons, List.length_nil, List.replicate_succ, List.replicate_zero, List.replicate, List.cons_append, List.nil_append, cont, getD, freeze, freezeS, conts, svsD, slotsD, backD, noDup0, noDup1, slotsD, keepR, setAll, List.getElem?_cons_zero, List.getElem?_cons_succ, List.set_cons_zero, List.set_cons_succ, ri, rb, if_true, reduceCtorEq, isL, isDic, Bool.not_true, Bool.not_false, at_nI h1, at_nI h2, dEqA, two, decide_eq_true q']
      refine ⟨[some (.imm (nI n)), x1, some (.rt true (.lst (names.map nI))), some (.imm (nI p.1)), some (.imm (nI p.2)), none], ?_, _, _, _, _, rfl⟩
      rw [List.map_cons, forD_ret g1 hb, nrT, if_pos q, if_neg Bool.false_ne_true]
    · have hb : (sSeq s_law_no_ring_2 s_law_no_ring_4) [some (.imm (nI n)), x1, some (.rt true (.lst (names.map nI))), some (.imm (nI p.1)), some (.imm (nI p.2)), none] = some (.nx, [some (.imm (nI n)), x1, some (.rt true (.lst ((joinT names p).map nI))), some (.imm (nI p.1)), some (.imm (nI p.2)), none]) := by
        have q' : ¬ ((names.getD p.1 0 : Nat) : Int) = (names.getD p.2 0 : Nat) := by omega
        simp only [s_law_no_ring_2, a_mVar, a_mC, a_mBin, a_mUn, a_mT, a_mAndT, a_mOrT, a_mNotT, a_mAndV, a_mOrV, a_mNotV, a_mIfE, a_mChain, a_mTup, a_mLst, a_aNil, a_aCons, a_lNil, a_lCons, a_mB, a_mCall, a_cNil, a_cVal, a_cIo, a_mIsi, a_mFld, a_mMake, a_mCch, a_mDNew, a_mSl, a_oNone, a_oSome, a_sNx, a_sSeq, a_sRet, a_sRetN, a_sIf, a_sSet, a_sAsg, a_sPar, a_sDrop, a_sBk, a_sCt, a_gN, a_gsN, a_gsC, a_gT, a_gFld, a_gItem, a_gIx, a_gKey, a_rNil, a_rCons, a_mApp, a_mExt, a_mPop, a_mPopAt, a_wSeq, a_wRng1, a_wRng2, a_wZip, a_wEnum, a_sFor, a_tYesD, a_mRg1, a_mRg2, runF, endD, retD, outsD, List.map_cons, List.map_nil, List.length_cons, List.length_nil, List.replicate_succ, List.replicate_zero, List.replicate, List.cons_append, List.nil_append, cont, getD, freeze, freezeS, conts, svsD, slotsD, backD, noDup0, noDup1, slotsD, keepR, setAll, List.getElem?_cons_zero, List.getElem?_cons_succ, List.set_cons_zero, List.set_cons_succ, ri, rb, if_true, reduceCtorEq, isL, isDic, Bool.not_true, Bool.not_false, at_nI h1, at_nI h2, dEqA, two, decide_eq_false q', ring_4 x1 h1 h2]
      obtain ⟨st, e1, e2⟩ := ring_loop x1 L (joinT names p) (some (.imm (nI p.1))) (some (.imm (nI p.2))) fun r hr => by
        rw [joinT_len]
        exact h r (List.mem_cons_of_mem _ hr)
      refine ⟨st, ?_, e2⟩
      rw [List.map_cons, forD_step g1 (.inl hb), e1, nrT, if_neg q]
theorem e_ring {n : Nat} (hn : n ≤ 1000) {L : List (Nat × Nat)} (h : ∀ p ∈ L, p.1 < n ∧ p.2 < n) : m_law_no_ring [.imm (nI n), .imm (eL L)] = some (.imm (.bl (ringless n L)), [.imm (nI n), .imm (eL L)]) := by
  have h2 : smallI (n : Int) := by unfold smallI; omega
  have er : intsD 0 n = (List.range n).map nI := by
    unfold intsD
    refine List.map_congr_left fun k _ => ?_
    rw [Int.zero_add]
  have e0 : s_law_no_ring_0 [some (.imm (nI n)), some (.imm (eL L)), none, none, none, none] = some (.nx, [some (.imm (nI n)), some (.imm (eL L)), some (.rt true (.lst ((List.range n).map nI))), none, none, none]) := by
    rw [← er]
    simp [s_law_no_ring_0, a_mVar, a_mC, a_mBin, a_mUn, a_mT, a_mAndT, a_mOrT, a_mNotT, a_mAndV, a_mOrV, a_mNotV, a_mIfE, a_mChain, a_mTup, a_mLst, a_aNil, a_aCons, a_lNil, a_lCons, a_mB, a_mCall, a_cNil, a_cVal, a_cIo, a_mIsi, a_mFld, a_mMake, a_mCch, a_mDNew, a_mSl, a_oNone, a_oSome, a_sNx, a_sSeq, a_sRet, a_sRetN, a_sIf, a_sSet, a_sAsg, a_sPar, a_sDrop, a_sBk, a_sCt, a_gN, a_gsN, a_gsC, a_gT, a_gFld, a_gItem, a_gIx, a_gKey, a_rNil, a_rCons, a_mApp, a_mExt, a_mPop, a_mPopAt, a_wSeq, a_wRng1, a_wRng2, a_wZip, a_wEnum, a_sFor, a_tYesD, a_mRg1, a_mRg2, runF, endD, retD, outsD, List.map_cons, List.map_nil, List.length_cons, List.length_nil, List.replicate_succ, List.replicate_zero, List.replicate, List.cons_append, List.nil_append, cont, getD, freeze, freezeS, conts, svsD, slotsD, backD, noDup0, noDup1, slotsD, keepR, setAll, List.getElem?_cons_zero, List.getElem?_cons_succ, List.set_cons_zero, List.set_cons_succ, ri, rb, if_true, reduceCtorEq, isL, isDic, Bool.not_true, Bool.not_false, h2]
  obtain ⟨st, e1, a, b, c, d, rfl⟩ := ring_loop (n := n) (some (.imm (eL L))) L (List.range n) none none (by rw [List.length_range]; exact h)
  have e2 : s_law_no_ring_1 [some (.imm (nI n)), some (.imm (eL L)), some (.rt true (.lst ((List.range n).map nI))), none, none, none] = some (if nrT (List.range n) L = true then .nx else .ret (.imm (.bl false)), [some (.imm (nI n)), some (.imm (eL L)), a, b, c, d]) := by
    rw [← e1]
    rfl
  unfold ringless
  cases q : nrT (List.range n) L with
  | true =>
    rw [q, if_pos rfl] at e2
    simp only [m_law_no_ring, b_law_no_ring, s_law_no_ring_5, a_mVar, a_mC, a_mBin, a_mUn, a_mT, a_mAndT, a_mOrT, a_mNotT, a_mAndV, a_mOrV, a_mNotV, a_mIfE, a_mChain, a_mTup, a_mLst, a_aNil, a_aCons, a_lNil, a_lCons, a_mB, a_mCall, a_cNil, a_cVal, a_cIo, a_mIsi, a_mFld, a_mMake, a_mCch, a_mDNew, a_mSl, a_oNone, a_oSome, a_sNx, a_sSeq, a_sRet, a_sRetN, a_sIf, a_sSet, a_sAsg, a_sPar, a_sDrop, a_sBk, a_sCt, a_gN, a_gsN, a_gsC, a_gT, a_gFld, a_gItem, a_gIx, a_gKey, a_rNil, a_rCons, a_mApp, a_mExt, a_mPop, a_mPopAt, a_wSeq, a_wRng1, a_wRng2, a_wZip, a_wEnum, a_sFor, a_tYesD, a_mRg1, a_mRg2, runF, endD, retD, outsD, List.map_cons, List.map_nil, List.length_cons, List.length_nil, List.replicate_succ, List.replicate_zero, List.replicate, List.cons_append, List.nil_append, cont, getD, freeze, freezeS, conts, svsD, slotsD, backD, noDup0, noDup1, slotsD, keepR, setAll, List.getElem?_cons_zero, List.getElem?_cons_succ, List.set_cons_zero, List.set_cons_succ, ri, rb, if_true, reduceCtorEq, isL, isDic, Bool.not_true, Bool.not_false, e0, e2]
  | false =>
    rw [q, if_neg Bool.false_ne_true] at e2
    simp only [m_law_no_ring, b_law_no_ring, a_mVar, a_mC, a_mBin, a_mUn, a_mT, a_mAndT, a_mOrT, a_mNotT, a_mAndV, a_mOrV, a_mNotV, a_mIfE, a_mChain, a_mTup, a_mLst, a_aNil, a_aCons, a_lNil, a_lCons, a_mB, a_mCall, a_cNil, a_cVal, a_cIo, a_mIsi, a_mFld, a_mMake, a_mCch, a_mDNew, a_mSl, a_oNone, a_oSome, a_sNx, a_sSeq, a_sRet, a_sRetN, a_sIf, a_sSet, a_sAsg, a_sPar, a_sDrop, a_sBk, a_sCt, a_gN, a_gsN, a_gsC, a_gT, a_gFld, a_gItem, a_gIx, a_gKey, a_rNil, a_rCons, a_mApp, a_mExt, a_mPop, a_mPopAt, a_wSeq, a_wRng1, a_wRng2, a_wZip, a_wEnum, a_sFor, a_tYesD, a_mRg1, a_mRg2, runF, endD, retD, outsD, List.map_cons, List.map_nil, List.length_cons, List.length_nil, List.replicate_succ, List.replicate_zero, List.replicate, List.cons_append, List.nil_append, cont, getD, freeze, freezeS, conts, svsD, slotsD, backD, noDup0, noDup1, slotsD, keepR, setAll, List.getElem?_cons_zero, List.getElem?_cons_succ, List.set_cons_zero, List.set_cons_succ, ri, rb, if_true, reduceCtorEq, isL, isDic, Bool.not_true, Bool.not_false, e0, e2]
end LW

namespace LW
open PySem PySem.Spec PyProof.Rows L2 LD
abbrev Ln := Nat × Nat
def eS (s : List (List Ln)) : D := .tup (s.map eL)
def kP (p : Ln) : NestedKey := .tup [.num p.1, .num p.2]
def kL (L : List Ln) : NestedKey := .tup (L.map kP)
def kS (s : List (List Ln)) : NestedKey := .tup (s.map kL)
theorem nk_eP (p : Ln) : nk (eP p) = some (kP p) := by simp [eP, nk, nk.nks, kP]
theorem nks_L : ∀ L : List Ln, nk.nks (L.map eP) = some (L.map kP)
  | [] => by simp [nk.nks]
  | p :: L => by simp [nk.nks, nk_eP, nks_L L]
theorem nk_eL (L : List Ln) : nk (eL L) = some (kL L) := by simp [eL, nk, nks_L, kL]
theorem nks_S : ∀ s : List (List Ln), nk.nks (s.map eL) = some (s.map kL)
  | [] => by simp [nk.nks]
  | p :: L => by simp [nk.nks, nk_eL, nks_S L]
theorem dep_P (p : Ln) : (kP p).depth ≤ 2 := by simp [kP, NestedKey.depth, NestedKey.depthAll]
theorem dep_Ls : ∀ L : List Ln, NestedKey.depthAll (L.map kP) ≤ 2
  | [] => by simp [NestedKey.depthAll]
  | p :: L => by
    have := dep_P p
    have := dep_Ls L
    simp [NestedKey.depthAll]
    omega
theorem dep_L (L : List Ln) : (kL L).depth ≤ 3 := by
  have := dep_Ls L
  simp [kL, NestedKey.depth]
  omega
theorem dep_Ss : ∀ s : List (List Ln), NestedKey.depthAll (s.map kL) ≤ 3
  | [] => by simp [NestedKey.depthAll]
  | p :: L => by
    have := dep_L p
    have := dep_Ss L
    simp [NestedKey.depthAll]
    omega
theorem nkey_eS (s : List (List Ln)) : nkey (eS s) = some (kS s) := by
  have h1 : nk (.tup (s.map eL)) = some (kS s) := by simp [nk, nks_S, kS]
  have h2 : (kS s).depth ≤ 8 := by
    have := dep_Ss s
    simp [kS, NestedKey.depth]
    omega
  show (match nk (.tup (s.map eL)) with | some k => if k.depth ≤ 8 then some k else none | none => none) = _
  rw [h1]
  dsimp only
  rw [if_pos h2]
theorem kP_inj {p q : Ln} (h : kP p = kP q) : p = q := by
  simp [kP] at h
  exact Prod.ext (by omega) (by omega)
theorem map_inj {α β : Type} {f : α → β} (hf : ∀ {a b}, f a = f b → a = b) : ∀ {l m : List α}, l.map f = m.map f → l = m
  | [], [], _ => rfl
  | [], _ :: _, h => by simp at h
  | _ :: _, [], h => by simp at h
  | a :: l, b :: m, h => by
    simp at h
    rw [hf h.1, map_inj hf h.2]
theorem kL_inj {L M : List Ln} (h : kL L = kL M) : L = M := by
  simp only [kL, NestedKey.tup.injEq] at h
  exact map_inj kP_inj h
theorem kS_inj {s t : List (List Ln)} (h : kS s = kS t) : s = t := by
  simp only [kS, NestedKey.tup.injEq] at h
  exact map_inj kL_inj h
def tr (s : List (List Ln)) : D × D := (eS s, .bl true)
def insT (s : List (List Ln)) (l : List (List (List Ln))) : List (List (List Ln)) := if s ∈ l then l else l ++ [s]
theorem keyAt_tr (s : List (List Ln)) : ∀ l : List (List (List Ln)), (keyAt (kS s) (l.map tr)).isSome = decide (s ∈ l)
  | [] => by simp [keyAt]
  | t :: l => by
    rw [List.map_cons]
    unfold keyAt
    rw [show nkey (tr t).1 = some (kS t) from nkey_eS t]
    by_cases e : kS t = kS s
    · rw [if_pos (by rw [e])]
      have := kS_inj e
      simp [this]
    · rw [if_neg (fun z => e (Option.some.inj z)), keyAt_tr s l]
      have : ¬ s = t := fun z => e (by rw [z])
      simp [this]
theorem putD_tr (s : List (List Ln)) (l : List (List (List Ln))) : putD (kS s) (eS s) (.bl true) (l.map tr) = (insT s l).map tr := by
  unfold putD insT
  rw [keyAt_tr]
  by_cases h : s ∈ l
  · rw [decide_eq_true h, if_pos rfl, if_pos h, List.map_map]
    refine List.map_congr_left fun t _ => ?_
    show (if nkey (tr t).1 = some (kS s) then ((tr t).1, D.bl true) else tr t) = tr t
    split <;> rfl
  · rw [decide_eq_false h, if_neg Bool.false_ne_true, if_neg h, List.map_append]
    rfl
/-- a line put into the at-th lot -/
def stepT (n : Nat) (line : Ln) (s : List (List Ln)) (at_ : Nat) : Option (List (List Ln)) :=
  if (at_ = 0 ∨ 0 < (s.getD (at_ - 1) []).length) ∧ ringless n (s.getD at_ [] ++ [line]) = true then some (s.set at_ (s.getD at_ [] ++ [line])) else none
def addT (n : Nat) (line : Ln) (s : List (List Ln)) (l : List (List (List Ln))) (at_ : Nat) : List (List (List Ln)) := match stepT n line s at_ with
  | some t => insT t l
  | none => l
end LW

namespace LW
open PySem PySem.Spec PyProof.Rows L2 LD
/-- the slots of _law_dealt while it goes on -/
def dst (n : Nat) (L : List Ln) (m : Nat) (F : Option SV) (line : Ln) (lg : List (List (List Ln))) (s : List (List Ln)) (x7 x8 : Option SV) : DSt :=
  [some (.imm (nI n)), some (.imm (eL L)), some (.imm (nI m)), F, some (.imm (eP line)), some (.rt true (.dic true (lg.map tr))), some (.imm (eS s)), x7, x8]
structure okSt (n i : Nat) (s : List (List Ln)) : Prop where
  ln : ∀ Q ∈ s, Q.length ≤ i
  ok : ∀ Q ∈ s, ∀ p ∈ Q, p.1 < n ∧ p.2 < n
theorem at_eS {s : List (List Ln)} {a : Nat} (h : a < s.length) : dIx (eS s) (nI a) = some (.imm (eL (s.getD a []))) := by
  have : atI (s.map eL) (a : Int) = some (eL (s.getD a [])) := by
    unfold atI ixN
    rw [if_pos (by omega), if_pos (by rw [List.length_map]; omega)]
    simp [h]
  show (match atI (s.map eL) (a : Int) with | some d => some (R.imm d) | none => none) = _
  rw [this]
theorem getD_mem {s : List (List Ln)} {a : Nat} (h : a < s.length) : s.getD a [] ∈ s := by
  rw [List.getD_eq_getElem?_getD, List.getElem?_eq_getElem h]
  exact List.getElem_mem h
theorem cut_to (xs : List D) (a : Nat) (h : a ≤ xs.length) : LD.cutD xs none (some (a : Int)) = xs.take a := by
  unfold LD.cutD
  rw [HT.sIx_none, HT.sIx_nat, Nat.min_eq_left h]
  simp
theorem cut_from (xs : List D) (a : Nat) (h : a ≤ xs.length) : LD.cutD xs (some (a : Int)) none = xs.drop a := by
  unfold LD.cutD
  rw [HT.sIx_none, HT.sIx_nat, Nat.min_eq_left h]
  exact List.take_of_length_le (by rw [List.length_drop]; exact Nat.le_refl _)
theorem set_eS (s : List (List Ln)) (a : Nat) (Q : List Ln) (h : a < s.length) : (s.map eL).take a ++ [eL Q] ++ (s.map eL).drop (a + 1) = (s.set a Q).map eL := by
  rw [← List.map_take, ← List.map_drop, List.set_eq_take_append_cons_drop, if_pos h, List.map_append, List.map_cons]
  simp
theorem deal_turn {n i m : Nat} {L : List Ln} {F : Option SV} {line : Ln} {lg : List (List (List Ln))} {s : List (List Ln)} {a : Nat} {x8 : Option SV} (hn : n ≤ 1000) (hi : i ≤ 100) (hl : line.1 < n ∧ line.2 < n) (ok : okSt n i s) (ha : a < s.length) (hs : s.length ≤ 1000) (hz : lg.length < 1000000) :
    ∃ x8', (sSeq s_law_dealt_5 s_law_dealt_6) (dst n L m F line lg s (some (.imm (nI a))) x8) = some (.nx, dst n L m F line (addT n line s lg a) s (some (.imm (nI a))) x8') := by
  have hQ := getD_mem ha
  have hql := ok.ln _ hQ
  have e5 : dAdd (eL (s.getD a [])) (.tup [eP line]) = some (.imm (eL (s.getD a [] ++ [line]))) := by
    show (if ((s.getD a []).map eP).length + [eP line].length ≤ sizeLine then some (R.imm (.tup ((s.getD a []).map eP ++ [eP line]))) else none) = _
    rw [if_pos (by rw [List.length_map, sizeLine_eq]; show _ + 1 ≤ _; omega)]
    unfold eL
    rw [List.map_append]
    rfl
  have h5 : s_law_dealt_5 (dst n L m F line lg s (some (.imm (nI a))) x8) = some (.nx, dst n L m F line lg s (some (.imm (nI a))) (some (.imm (eL (s.getD a [] ++ [line]))))) := by
    simp only [s_law_dealt_5, dst, a_mVar, a_mC, a_mBin, a_mUn, a_mT, a_mAndT, a_mOrT, a_mNotT, a_mAndV, a_mOrV, a_mNotV, a_mIfE, a_mChain, a_mTup, a_mLst, a_aNil, a_aCons, a_lNil, a_lCons, a_mB, a_mCall, a_cNil, a_cVal, a_cIo, a_mIsi, a_mFld, a_mMake, a_mCch, a_mDNew, a_mSl, a_oNone, a_oSome, a_sNx, a_sSeq, a_sRet, a_sRetN, a_sIf, a_sSet, a_sAsg, a_sPar, a_sDrop, a_sBk, a_sCt, a_gN, a_gsN, a_gsC, a_gT, a_gFld, a_gItem, a_gIx, a_gKey, a_rNil, a_rCons, a_mApp, a_mExt, a_mPop, a_mPopAt, a_wSeq, a_wRng1, a_wRng2, a_wZip, a_wEnum, a_sFor, a_tYesD, a_mRg1, a_mRg2, runF, endD, retD, outsD, List.map_cons, List.map_nil, List.length_cons, List.length_nil, List.replicate_succ, List.replicate_zero, List.replicate, List.cons_append, List.nil_append, cont, getD, freeze, freezeS, conts, svsD, slotsD, backD, noDup0, noDup1, slotsD, keepR, setAll, List.getElem?_cons_zero, List.getElem?_cons_succ, List.set_cons_zero, List.set_cons_succ, ri, rb, if_true, reduceCtorEq, isL, isDic, Bool.not_true, Bool.not_false, at_eS ha, e5]
  have hring : m_law_no_ring [.imm (nI n), .imm (eL (s.getD a [] ++ [line]))] = some (.imm (.bl (ringless n (s.getD a [] ++ [line]))), [.imm (nI n), .imm (eL (s.getD a [] ++ [line]))]) := e_ring hn fun p hp => by
    rcases List.mem_append.mp hp with z | z
    · exact ok.ok _ hQ p z
    · rw [List.mem_singleton.mp z]; exact hl
  have hc1 : (mOrT (mT (mBin dEqA (mVar 7) (mC (.int 0)))) (mT (mBin dGtA (mB dLen (lCons (mBin dIx (mVar 6) (mBin dSub (mVar 7) (mC (.int 1)))) lNil)) (mC (.int 0))))) (dst n L m F line lg s (some (.imm (nI a))) (some (.imm (eL (s.getD a [] ++ [line]))))) =
      some (decide (a = 0 ∨ 0 < (s.getD (a - 1) []).length), dst n L m F line lg s (some (.imm (nI a))) (some (.imm (eL (s.getD a [] ++ [line]))))) := by
    by_cases h0 : a = 0
    · subst h0
      have : decide ((0 = 0) ∨ 0 < (s.getD (0 - 1) []).length) = true := by simp
      rw [this]
      simp only [dst, a_mVar, a_mC, a_mBin, a_mUn, a_mT, a_mAndT, a_mOrT, a_mNotT, a_mAndV, a_mOrV, a_mNotV, a_mIfE, a_mChain, a_mTup, a_mLst, a_aNil, a_aCons, a_lNil, a_lCons, a_mB, a_mCall, a_cNil, a_cVal, a_cIo, a_mIsi, a_mFld, a_mMake, a_mCch, a_mDNew, a_mSl, a_oNone, a_oSome, a_sNx, a_sSeq, a_sRet, a_sRetN, a_sIf, a_sSet, a_sAsg, a_sPar, a_sDrop, a_sBk, a_sCt, a_gN, a_gsN, a_gsC, a_gT, a_gFld, a_gItem, a_gIx, a_gKey, a_rNil, a_rCons, a_mApp, a_mExt, a_mPop, a_mPopAt, a_wSeq, a_wRng1, a_wRng2, a_wZip, a_wEnum, a_sFor, a_tYesD, a_mRg1, a_mRg2, runF, endD, retD, outsD, List.map_cons, List.map_nil, List.length_cons, List.length_nil, List.replicate_succ, List.replicate_zero, List.replicate, List.cons_append, List.nil_append, cont, getD, freeze, freezeS, conts, svsD, slotsD, backD, noDup0, noDup1, slotsD, keepR, setAll, List.getElem?_cons_zero, List.getElem?_cons_succ, List.set_cons_zero, List.set_cons_succ, ri, rb, if_true, reduceCtorEq, isL, isDic, Bool.not_true, Bool.not_false, dEqA, two]
      rfl
    · have e1 : decide ((a : Int) = 0) = false := decide_eq_false (by omega)
      have e2 : dSub (nI a) (.int 1) = some (.imm (nI (a - 1))) := by
        show some (R.imm (.int ((a : Int) - 1))) = some (R.imm (.int ((a - 1 : Nat) : Int)))
        have : (a : Int) - 1 = ((a - 1 : Nat) : Int) := by omega
        rw [this]
      have e3 : decide (a = 0 ∨ 0 < (s.getD (a - 1) []).length) = decide ((0 : Int) < (s.getD (a - 1) []).length) := by
        by_cases q : 0 < (s.getD (a - 1) []).length
        · rw [decide_eq_true (.inr q), decide_eq_true (by omega)]
        · rw [decide_eq_false (fun z => z.elim h0 q), decide_eq_false (by omega)]
      rw [e3]
      simp only [dst, a_mVar, a_mC, a_mBin, a_mUn, a_mT, a_mAndT, a_mOrT, a_mNotT, a_mAndV, a_mOrV, a_mNotV, a_mIfE, a_mChain, a_mTup, a_mLst, a_aNil, a_aCons, a_lNil, a_lCons, a_mB, a_mCall, a_cNil, a_cVal, a_cIo, a_mIsi, a_mFld, a_mMake, a_mCch, a_mDNew, a_mSl, a_oNone, a_oSome, a_sNx, a_sSeq, a_sRet, a_sRetN, a_sIf, a_sSet, a_sAsg, a_sPar, a_sDrop, a_sBk, a_sCt, a_gN, a_gsN, a_gsC, a_gT, a_gFld, a_gItem, a_gIx, a_gKey, a_rNil, a_rCons, a_mApp, a_mExt, a_mPop, a_mPopAt, a_wSeq, a_wRng1, a_wRng2, a_wZip, a_wEnum, a_sFor, a_tYesD, a_mRg1, a_mRg2, runF, endD, retD, outsD, List.map_cons, List.map_nil, List.length_cons, List.length_nil, List.replicate_succ, List.replicate_zero, List.replicate, List.cons_append, List.nil_append, cont, getD, freeze, freezeS, conts, svsD, slotsD, backD, noDup0, noDup1, slotsD, keepR, setAll, List.getElem?_cons_zero, List.getElem?_cons_succ, List.set_cons_zero, List.set_cons_succ, ri, rb, if_true, reduceCtorEq, isL, isDic, Bool.not_true, Bool.not_false, dEqA, dGtA, two, e1, e2, at_eS (show a - 1 < s.length by omega), lenL]
  have hc2 : (mT (mCall m_law_no_ring (cVal (mVar 0) (cVal (mVar 8) cNil)))) (dst n L m F line lg s (some (.imm (nI a))) (some (.imm (eL (s.getD a [] ++ [line]))))) =
      some (ringless n (s.getD a [] ++ [line]), dst n L m F line lg s (some (.imm (nI a))) (some (.imm (eL (s.getD a [] ++ [line]))))) := by
    simp only [dst, a_mVar, a_mC, a_mBin, a_mUn, a_mT, a_mAndT, a_mOrT, a_mNotT, a_mAndV, a_mOrV, a_mNotV, a_mIfE, a_mChain, a_mTup, a_mLst, a_aNil, a_aCons, a_lNil, a_lCons, a_mB, a_mCall, a_cNil, a_cVal, a_cIo, a_mIsi, a_mFld, a_mMake, a_mCch, a_mDNew, a_mSl, a_oNone, a_oSome, a_sNx, a_sSeq, a_sRet, a_sRetN, a_sIf, a_sSet, a_sAsg, a_sPar, a_sDrop, a_sBk, a_sCt, a_gN, a_gsN, a_gsC, a_gT, a_gFld, a_gItem, a_gIx, a_gKey, a_rNil, a_rCons, a_mApp, a_mExt, a_mPop, a_mPopAt, a_wSeq, a_wRng1, a_wRng2, a_wZip, a_wEnum, a_sFor, a_tYesD, a_mRg1, a_mRg2, runF, endD, retD, outsD, List.map_cons, List.map_nil, List.length_cons, List.length_nil, List.replicate_succ, List.replicate_zero, List.replicate, List.cons_append, List.nil_append, cont, getD, freeze, freezeS, conts, svsD, slotsD, backD, noDup0, noDup1, slotsD, keepR, setAll, List.getElem?_cons_zero, List.getElem?_cons_succ, List.set_cons_zero, List.set_cons_succ, ri, rb, if_true, reduceCtorEq, isL, isDic, Bool.not_true, Bool.not_false, hring]
  refine ⟨some (.imm (eL (s.getD a [] ++ [line]))), ?_⟩
  have h6 : s_law_dealt_6 (dst n L m F line lg s (some (.imm (nI a))) (some (.imm (eL (s.getD a [] ++ [line]))))) = some (.nx, dst n L m F line (addT n line s lg a) s (some (.imm (nI a))) (some (.imm (eL (s.getD a [] ++ [line]))))) := by
    unfold addT stepT
    by_cases c1 : a = 0 ∨ 0 < (s.getD (a - 1) []).length
    · by_cases c2 : ringless n (s.getD a [] ++ [line]) = true
      · rw [if_pos ⟨c1, c2⟩]
        rw [decide_eq_true c1] at hc1
        rw [c2] at hc2
        have e7 : (mBin dAdd (mBin dAdd (mSl (mVar 6) oNone (oSome (mVar 7))) (mTup (aCons (mVar 8) aNil))) (mSl (mVar 6) (oSome (mBin dAdd (mVar 7) (mC (.int 1)))) oNone)) (dst n L m F line lg s (some (.imm (nI a))) (some (.imm (eL (s.getD a [] ++ [line]))))) =
            some (.imm (eS (s.set a (s.getD a [] ++ [line]))), dst n L m F line lg s (some (.imm (nI a))) (some (.imm (eL (s.getD a [] ++ [line]))))) := by
          have s1 : dSl (eS s) none (some (a : Int)) = some (.imm (.tup ((s.map eL).take a))) := by
            show some (R.imm (.tup (LD.cutD (s.map eL) none (some (a : Int))))) = _
            rw [cut_to _ _ (by rw [List.length_map]; omega)]
          have s2 : dSl (eS s) (some ((a + 1 : Nat) : Int)) none = some (.imm (.tup ((s.map eL).drop (a + 1)))) := by
            show some (R.imm (.tup (LD.cutD (s.map eL) (some ((a + 1 : Nat) : Int)) none))) = _
            rw [cut_from _ _ (by rw [List.length_map]; omega)]
          have s3 : dAdd (nI a) (.int 1) = some (.imm (.int ((a + 1 : Nat) : Int))) := by
            show some (R.imm (.int ((a : Int) + 1))) = _
            have : (a : Int) + 1 = ((a + 1 : Nat) : Int) := by omega
            rw [this]
          have l1 : ((s.map eL).take a).length ≤ 1000 := by rw [List.length_take, List.length_map]; omega
          have l2 : ((s.map eL).drop (a + 1)).length ≤ 1000 := by rw [List.length_drop, List.length_map]; omega
          have s4 : dAdd (.tup ((s.map eL).take a)) (.tup [eL (s.getD a [] ++ [line])]) = some (.imm (.tup ((s.map eL).take a ++ [eL (s.getD a [] ++ [line])]))) := by
            show (if ((s.map eL).take a).length + [eL (s.getD a [] ++ [line])].length ≤ sizeLine then _ else none) = _
            rw [if_pos (by rw [sizeLine_eq]; show _ + 1 ≤ _; omega)]
          have s5 : dAdd (.tup ((s.map eL).take a ++ [eL (s.getD a [] ++ [line])])) (.tup ((s.map eL).drop (a + 1))) = some (.imm (eS (s.set a (s.getD a [] ++ [line])))) := by
            show (if ((s.map eL).take a ++ [eL (s.getD a [] ++ [line])]).length + ((s.map eL).drop (a + 1)).length ≤ sizeLine then some (R.imm (.tup ((s.map eL).take a ++ [eL (s.getD a [] ++ [line])] ++ (s.map eL).drop (a + 1)))) else none) = _
            rw [if_pos (by rw [List.length_append, sizeLine_eq]; show _ + 1 + _ ≤ _; omega), set_eS s a _ ha]
            rfl
          simp only [dst, a_mVar, a_mC, a_mBin, a_mUn, a_mT, a_mAndT, a_mOrT, a_mNotT, a_mAndV, a_mOrV, a_mNotV, a_mIfE, a_mChain, a_mTup, a_mLst, a_aNil, a_aCons, a_lNil, a_lCons, a_mB, a_mCall, a_cNil, a_cVal, a_cIo, a_mIsi, a_mFld, a_mMake, a_mCch, a_mDNew, a_mSl, a_oNone, a_oSome, a_sNx, a_sSeq, a_sRet, a_sRetN, a_sIf, a_sSet, a_sAsg, a_sPar, a_sDrop, a_sBk, a_sCt, a_gN, a_gsN, a_gsC, a_gT, a_gFld, a_gItem, a_gIx, a_gKey, a_rNil, a_rCons, a_mApp, a_mExt, a_mPop, a_mPopAt, a_wSeq, a_wRng1, a_wRng2, a_wZip, a_wEnum, a_sFor, a_tYesD, a_mRg1, a_mRg2, runF, endD, retD, outsD, List.map_cons, List.map_nil, List.length_cons, List.length_nil, List.replicate_succ, List.replicate_zero, List.replicate, List.cons_append, List.nil_append, cont, getD, freeze, freezeS, conts, svsD, slotsD, backD, noDup0, noDup1, slotsD, keepR, setAll, List.getElem?_cons_zero, List.getElem?_cons_succ, List.set_cons_zero, List.set_cons_succ, ri, rb, if_true, reduceCtorEq, isL, isDic, Bool.not_true, Bool.not_false, s1, s2, s3, s4, s5]
        have hk : gItem 5 (mBin dAdd (mBin dAdd (mSl (mVar 6) oNone (oSome (mVar 7))) (mTup (aCons (mVar 8) aNil))) (mSl (mVar 6) (oSome (mBin dAdd (mVar 7) (mC (.int 1)))) oNone)) (.bl true) (dst n L m F line lg s (some (.imm (nI a))) (some (.imm (eL (s.getD a [] ++ [line]))))) =
            some (dst n L m F line (insT (s.set a (s.getD a [] ++ [line])) lg) s (some (.imm (nI a))) (some (.imm (eL (s.getD a [] ++ [line]))))) := by
          have i1 : isL (dst n L m F line lg s (some (.imm (nI a))) (some (.imm (eL (s.getD a [] ++ [line]))))) 5 = false := rfl
          have i2 : isDic (dst n L m F line lg s (some (.imm (nI a))) (some (.imm (eL (s.getD a [] ++ [line]))))) 5 = true := rfl
          have i3 : (dst n L m F line lg s (some (.imm (nI a))) (some (.imm (eL (s.getD a [] ++ [line])))))[5]? = some (some (.rt true (.dic true (lg.map tr)))) := rfl
          rw [a_gItem, i1, if_neg Bool.false_ne_true, a_gKey, i2, if_pos rfl, e7]
          dsimp only
          rw [i3, nkey_eS]
          dsimp only
          rw [if_pos (by rw [List.length_map, sizeLine_eq]; omega), putD_tr]
          rfl
        simp only [s_law_dealt_6, s_law_dealt_7, a_sIf, a_mAndT, hc1, hc2, a_sAsg, a_mC, freeze, hk]
      · rw [if_neg (fun z => c2 z.2)]
        rw [decide_eq_true c1] at hc1
        rw [Bool.not_eq_true] at c2
        rw [c2] at hc2
        simp only [s_law_dealt_6, a_sIf, a_mAndT, hc1, hc2, a_sNx]
    · rw [if_neg (fun z => c1 z.1)]
      rw [decide_eq_false c1] at hc1
      simp only [s_law_dealt_6, a_sIf, a_mAndT, hc1, a_sNx]
  simp only [a_sSeq, h5, h6]
end LW

namespace LW
open PySem PySem.Spec PyProof.Rows L2 LD
abbrev Sts := List (List (List Ln))
def addAll (n : Nat) (line : Ln) (m : Nat) (s : List (List Ln)) (l : Sts) : Sts := (List.range m).foldl (addT n line s) l
def nextT (n m : Nat) (line : Ln) (f : Sts) : Sts := f.foldl (fun l s => addAll n line m s l) []
def dealT (n m : Nat) (L : List Ln) (f : Sts) : Sts := L.foldl (fun f line => nextT n m line f) f
theorem mem_insT {s t : List (List Ln)} {l : Sts} : t ∈ insT s l ↔ t = s ∨ t ∈ l := by
  unfold insT
  by_cases h : s ∈ l
  · rw [if_pos h]
    exact ⟨.inr, fun z => z.elim (fun e => e ▸ h) id⟩
  · rw [if_neg h, List.mem_append, List.mem_singleton]
    exact ⟨fun z => z.symm, fun z => z.symm⟩
theorem mem_addT {n : Nat} {line : Ln} {s t : List (List Ln)} {l : Sts} {a : Nat} : t ∈ addT n line s l a ↔ stepT n line s a = some t ∨ t ∈ l := by
  unfold addT
  split
  · rename_i u e
    rw [mem_insT, e, Option.some.injEq]
    exact ⟨fun z => z.imp Eq.symm id, fun z => z.imp Eq.symm id⟩
  · rename_i e
    rw [e]
    exact ⟨.inr, fun z => z.elim (fun y => by cases y) id⟩
theorem mem_foldT {n : Nat} {line : Ln} {s t : List (List Ln)} : ∀ (as : List Nat) (l : Sts), t ∈ as.foldl (addT n line s) l ↔ (∃ a ∈ as, stepT n line s a = some t) ∨ t ∈ l
  | [], l => by simp
  | a :: as, l => by
    rw [List.foldl_cons, mem_foldT as, mem_addT]
    constructor
    · rintro (⟨b, h1, h2⟩ | h | h)
      · exact .inl ⟨b, List.mem_cons_of_mem _ h1, h2⟩
      · exact .inl ⟨a, List.mem_cons_self .., h⟩
      · exact .inr h
    · rintro (⟨b, h1, h2⟩ | h)
      · rcases List.mem_cons.mp h1 with rfl | h1
        · exact .inr (.inl h2)
        · exact .inl ⟨b, h1, h2⟩
      · exact .inr (.inr h)
theorem mem_nextF {n m : Nat} {line : Ln} {t : List (List Ln)} : ∀ (f l : Sts), t ∈ f.foldl (fun l s => addAll n line m s l) l ↔ (∃ s ∈ f, ∃ a, a < m ∧ stepT n line s a = some t) ∨ t ∈ l
  | [], l => by simp
  | s :: f, l => by
    rw [List.foldl_cons, mem_nextF f]
    unfold addAll
    rw [mem_foldT]
    constructor
    · rintro (⟨b, h1, h2⟩ | ⟨a, h1, h2⟩ | h)
      · exact .inl ⟨b, List.mem_cons_of_mem _ h1, h2⟩
      · exact .inl ⟨s, List.mem_cons_self .., a, List.mem_range.mp h1, h2⟩
      · exact .inr h
    · rintro (⟨b, h1, a, h2, h3⟩ | h)
      · rcases List.mem_cons.mp h1 with rfl | h1
        · exact .inr (.inl ⟨a, List.mem_range.mpr h2, h3⟩)
        · exact .inl ⟨b, h1, a, h2, h3⟩
      · exact .inr (.inr h)
theorem mem_nextT {n m : Nat} {line : Ln} {f : Sts} {t : List (List Ln)} : t ∈ nextT n m line f ↔ ∃ s ∈ f, ∃ a, a < m ∧ stepT n line s a = some t := by
  unfold nextT
  rw [mem_nextF]
  simp
theorem addT_len {n : Nat} {line : Ln} {s : List (List Ln)} (l : Sts) (a : Nat) : (addT n line s l a).length ≤ l.length + 1 := by
  unfold addT
  split
  · unfold insT
    split
    · omega
    · rw [List.length_append]; exact Nat.le_refl _
  · omega
theorem foldT_len {n : Nat} {line : Ln} {s : List (List Ln)} : ∀ (as : List Nat) (l : Sts), (as.foldl (addT n line s) l).length ≤ l.length + as.length
  | [], l => by simp
  | a :: as, l => by
    have h1 := foldT_len (n := n) (line := line) (s := s) as (addT n line s l a)
    have h2 := addT_len (n := n) (line := line) (s := s) l a
    rw [List.foldl_cons, List.length_cons]
    omega
theorem nextF_len {n m : Nat} {line : Ln} : ∀ (f l : Sts), (f.foldl (fun l s => addAll n line m s l) l).length ≤ l.length + f.length * m
  | [], l => by simp
  | s :: f, l => by
    have h1 := nextF_len (n := n) (m := m) (line := line) f (addAll n line m s l)
    have h2 := foldT_len (n := n) (line := line) (s := s) (List.range m) l
    rw [List.length_range] at h2
    rw [List.foldl_cons, List.length_cons, Nat.add_mul]
    unfold addAll at h1 ⊢
    omega
theorem step_ok {n i : Nat} {line : Ln} {s t : List (List Ln)} {a : Nat} (hl : line.1 < n ∧ line.2 < n) (ok : okSt n i s) (ha : a < s.length) (h : stepT n line s a = some t) : okSt n (i + 1) t ∧ t.length = s.length := by
  unfold stepT at h
  split at h
  · cases h
    have hQ := getD_mem ha
    refine ⟨⟨fun Q hq => ?_, fun Q hq => ?_⟩, by rw [List.length_set]⟩
    · rcases List.mem_or_eq_of_mem_set hq with z | z
      · have := ok.ln Q z; omega
      · have := ok.ln _ hQ
        rw [z, List.length_append]
        show _ + 1 ≤ _
        omega
    · rcases List.mem_or_eq_of_mem_set hq with z | z
      · exact ok.ok Q z
      · rw [z]
        intro p hp
        rcases List.mem_append.mp hp with y | y
        · exact ok.ok _ hQ p y
        · rw [List.mem_singleton.mp y]; exact hl
  · cases h
/-- for at in range(many) -/
theorem deal_4 {n i m : Nat} {L : List Ln} {F : Option SV} {line : Ln} {lg : Sts} {s : List (List Ln)} (x7 x8 : Option SV) (hn : n ≤ 1000) (hi : i ≤ 100) (hl : line.1 < n ∧ line.2 < n) (ok : okSt n i s) (hs : s.length = m) (hm : m ≤ 1000) (hz : lg.length + m < 1000000) :
    ∃ x7' x8', s_law_dealt_4 (dst n L m F line lg s x7 x8) = some (.nx, dst n L m F line (addAll n line m s lg) s x7' x8') := by
  have h2 : smallI (m : Int) := by unfold smallI; omega
  have hw : s_law_dealt_4 (dst n L m F line lg s x7 x8) = forD (gN 7) (sSeq s_law_dealt_5 s_law_dealt_6) (intsD ((0 : Nat) : Int) m) (dst n L m F line lg s x7 x8) := by
    unfold s_law_dealt_4
    rw [a_sFor]
    have : wRng1 (aCons (mVar 2) aNil) (dst n L m F line lg s x7 x8) = some (intsD ((0 : Nat) : Int) m, dst n L m F line lg s x7 x8) := by
      simp [dst, a_mVar, a_mC, a_mBin, a_mUn, a_mT, a_mAndT, a_mOrT, a_mNotT, a_mAndV, a_mOrV, a_mNotV, a_mIfE, a_mChain, a_mTup, a_mLst, a_aNil, a_aCons, a_lNil, a_lCons, a_mB, a_mCall, a_cNil, a_cVal, a_cIo, a_mIsi, a_mFld, a_mMake, a_mCch, a_mDNew, a_mSl, a_oNone, a_oSome, a_sNx, a_sSeq, a_sRet, a_sRetN, a_sIf, a_sSet, a_sAsg, a_sPar, a_sDrop, a_sBk, a_sCt, a_gN, a_gsN, a_gsC, a_gT, a_gFld, a_gItem, a_gIx, a_gKey, a_rNil, a_rCons, a_mApp, a_mExt, a_mPop, a_mPopAt, a_wSeq, a_wRng1, a_wRng2, a_wZip, a_wEnum, a_sFor, a_tYesD, a_mRg1, a_mRg2, runF, endD, retD, outsD, List.map_cons, List.map_nil, List.length_cons, List.length_nil, List.replicate_succ, List.replicate_zero, List.replicate, List.cons_append, List.nil_append, cont, getD, freeze, freezeS, conts, svsD, slotsD, backD, noDup0, noDup1, slotsD, keepR, setAll, List.getElem?_cons_zero, List.getElem?_cons_succ, List.set_cons_zero, List.set_cons_succ, ri, rb, if_true, reduceCtorEq, isL, isDic, Bool.not_true, Bool.not_false, h2]
    rw [this]
  obtain ⟨st, q1, y7, y8, rfl⟩ := forD_ints (g := gN 7) (b := (sSeq s_law_dealt_5 s_law_dealt_6)) (fun k st => ∃ y7 y8, st = dst n L m F line ((List.range k).foldl (addT n line s) lg) s y7 y8) m 0 (fun k _ hk st ⟨y7, y8, e⟩ => by
    subst e
    have hkm : k < m := by omega
    have hlen := foldT_len (n := n) (line := line) (s := s) (List.range k) lg
    rw [List.length_range] at hlen
    obtain ⟨z8, e⟩ := deal_turn (L := L) (F := F) (lg := (List.range k).foldl (addT n line s) lg) (a := k) (x8 := y8) hn hi hl ok (by omega) (by omega) (by omega)
    refine ⟨dst n L m F line ((List.range k).foldl (addT n line s) lg) s (some (.imm (nI k))) y8, _, rfl, .inl e, some (.imm (nI k)), z8, ?_⟩
    rw [List.range_succ, List.foldl_append]
    rfl) (dst n L m F line lg s x7 x8) ⟨x7, x8, rfl⟩
  refine ⟨y7, y8, ?_⟩
  rw [hw, q1, Nat.zero_add]
  rfl
/-- for lots in found -/
theorem deal_3 {n i m : Nat} {L : List Ln} {F : Option SV} {line : Ln} (hn : n ≤ 1000) (hi : i ≤ 100) (hl : line.1 < n ∧ line.2 < n) (hm : m ≤ 1000) : ∀ (f lg : Sts) (x6 x7 x8 : Option SV), (∀ s ∈ f, okSt n i s ∧ s.length = m) → lg.length + f.length * m < 1000000 →
    ∃ y6 y7 y8, forD (gN 6) s_law_dealt_4 (f.map eS) [some (.imm (nI n)), some (.imm (eL L)), some (.imm (nI m)), F, some (.imm (eP line)), some (.rt true (.dic true (lg.map tr))), x6, x7, x8] =
      some (.nx, [some (.imm (nI n)), some (.imm (eL L)), some (.imm (nI m)), F, some (.imm (eP line)), some (.rt true (.dic true ((f.foldl (fun l s => addAll n line m s l) lg).map tr))), y6, y7, y8])
  | [], lg, x6, x7, x8, _, _ => ⟨x6, x7, x8, rfl⟩
  | s :: f, lg, x6, x7, x8, h, hz => by
    obtain ⟨ok, hs⟩ := h s (List.mem_cons_self ..)
    rw [List.length_cons, Nat.add_mul] at hz
    obtain ⟨y7, y8, e⟩ := deal_4 (L := L) (F := F) (lg := lg) x7 x8 hn hi hl ok hs hm (by omega)
    have hlen := foldT_len (n := n) (line := line) (s := s) (List.range m) lg
    rw [List.length_range] at hlen
    obtain ⟨z6, z7, z8, e2⟩ := deal_3 hn hi hl hm f (addAll n line m s lg) (some (.imm (eS s))) y7 y8 (fun t ht => h t (List.mem_cons_of_mem _ ht)) (by unfold addAll; omega)
    refine ⟨z6, z7, z8, ?_⟩
    have g1 : gN 6 (eS s) [some (.imm (nI n)), some (.imm (eL L)), some (.imm (nI m)), F, some (.imm (eP line)), some (.rt true (.dic true (lg.map tr))), x6, x7, x8] = some (dst n L m F line lg s x7 x8) := rfl
    rw [List.map_cons, forD_step g1 (.inl e), List.foldl_cons]
    exact e2
theorem fst_tr (l : Sts) : (l.map tr).map (·.1) = l.map eS := by rw [List.map_map]; rfl
/-- one line dealt -/
theorem deal_line {n i m : Nat} {L : List Ln} {line : Ln} (hn : n ≤ 1000) (hi : i ≤ 100) (hl : line.1 < n ∧ line.2 < n) (hm : m ≤ 1000) (f : Sts) (x5 x6 x7 x8 : Option SV) (h : ∀ s ∈ f, okSt n i s ∧ s.length = m) (hz : f.length * m < 1000000) :
    ∃ y5 y6 y7 y8, (sSeq s_law_dealt_2 (sSeq s_law_dealt_3 s_law_dealt_8)) [some (.imm (nI n)), some (.imm (eL L)), some (.imm (nI m)), some (.rt true (.lst (f.map eS))), some (.imm (eP line)), x5, x6, x7, x8] =
      some (.nx, [some (.imm (nI n)), some (.imm (eL L)), some (.imm (nI m)), some (.rt true (.lst ((nextT n m line f).map eS))), some (.imm (eP line)), y5, y6, y7, y8]) := by
  obtain ⟨y6, y7, y8, e⟩ := deal_3 (L := L) (F := some (.imm (.lst (f.map eS)))) hn hi hl hm f [] x6 x7 x8 h (by simpa using hz)
  have e2 : s_law_dealt_2 [some (.imm (nI n)), some (.imm (eL L)), some (.imm (nI m)), some (.rt true (.lst (f.map eS))), some (.imm (eP line)), x5, x6, x7, x8] = some (.nx, [some (.imm (nI n)), some (.imm (eL L)), some (.imm (nI m)), some (.rt true (.lst (f.map eS))), some (.imm (eP line)), some (.rt true (.dic true [])), x6, x7, x8]) := rfl
  have e3 : s_law_dealt_3 [some (.imm (nI n)), some (.imm (eL L)), some (.imm (nI m)), some (.rt true (.lst (f.map eS))), some (.imm (eP line)), some (.rt true (.dic true [])), x6, x7, x8] = some (.nx, [some (.imm (nI n)), some (.imm (eL L)), some (.imm (nI m)), some (.imm (.lst (f.map eS))), some (.imm (eP line)), some (.rt true (.dic true ((nextT n m line f).map tr))), y6, y7, y8]) := e
  have hlen : (nextT n m line f).length ≤ f.length * m := by
    have := nextF_len (n := n) (m := m) (line := line) f []
    unfold nextT
    simpa using this
  have e4 : dListA [.dic true ((nextT n m line f).map tr)] = some (.own (.lst ((nextT n m line f).map eS))) := by
    show (if ((nextT n m line f).map tr).length ≤ sizeLine then some (R.own (.lst (((nextT n m line f).map tr).map (·.1)))) else none) = _
    rw [if_pos (by rw [List.length_map, sizeLine_eq]; omega), fst_tr]
  refine ⟨some (.rt true (.dic true ((nextT n m line f).map tr))), y6, y7, y8, ?_⟩
  rw [a_sSeq, e2]
  dsimp only
  rw [a_sSeq, e3]
  dsimp only
  simp only [s_law_dealt_8, a_mVar, a_mC, a_mBin, a_mUn, a_mT, a_mAndT, a_mOrT, a_mNotT, a_mAndV, a_mOrV, a_mNotV, a_mIfE, a_mChain, a_mTup, a_mLst, a_aNil, a_aCons, a_lNil, a_lCons, a_mB, a_mCall, a_cNil, a_cVal, a_cIo, a_mIsi, a_mFld, a_mMake, a_mCch, a_mDNew, a_mSl, a_oNone, a_oSome, a_sNx, a_sSeq, a_sRet, a_sRetN, a_sIf, a_sSet, a_sAsg, a_sPar, a_sDrop, a_sBk, a_sCt, a_gN, a_gsN, a_gsC, a_gT, a_gFld, a_gItem, a_gIx, a_gKey, a_rNil, a_rCons, a_mApp, a_mExt, a_mPop, a_mPopAt, a_wSeq, a_wRng1, a_wRng2, a_wZip, a_wEnum, a_sFor, a_tYesD, a_mRg1, a_mRg2, runF, endD, retD, outsD, List.map_cons, List.map_nil, List.length_cons, List.length_nil, List.replicate_succ, List.replicate_zero, List.replicate, List.cons_append, List.nil_append, cont, getD, freeze, freezeS, conts, svsD, slotsD, backD, noDup0, noDup1, slotsD, keepR, setAll, List.getElem?_cons_zero, List.getElem?_cons_succ, List.set_cons_zero, List.set_cons_succ, ri, rb, if_true, reduceCtorEq, isL, isDic, Bool.not_true, Bool.not_false, e4]

theorem next_ok {n i m : Nat} {line : Ln} {f : Sts} (hl : line.1 < n ∧ line.2 < n) (h : ∀ s ∈ f, okSt n i s ∧ s.length = m) : ∀ s ∈ nextT n m line f, okSt n (i + 1) s ∧ s.length = m := fun t ht => by
  obtain ⟨s, h1, a, h2, h3⟩ := mem_nextT.mp ht
  obtain ⟨o, e⟩ := h s h1
  obtain ⟨p, q⟩ := step_ok hl o (by omega) h3
  exact ⟨p, by omega⟩
theorem next_len {n m : Nat} {line : Ln} (f : Sts) : (nextT n m line f).length ≤ f.length * m := by
  have := nextF_len (n := n) (m := m) (line := line) f []
  unfold nextT
  simpa using this
theorem deal_loop {n m : Nat} {L0 : List Ln} (hn : n ≤ 1000) (hm : m ≤ 3) : ∀ (L : List Ln) (i : Nat) (f : Sts) (x4 x5 x6 x7 x8 : Option SV), i + L.length ≤ 8 → (∀ p ∈ L, p.1 < n ∧ p.2 < n) → (∀ s ∈ f, okSt n i s ∧ s.length = m) → f.length ≤ 3 ^ i →
    ∃ y4 y5 y6 y7 y8, forD (gN 4) (sSeq s_law_dealt_2 (sSeq s_law_dealt_3 s_law_dealt_8)) (L.map eP) [some (.imm (nI n)), some (.imm (eL L0)), some (.imm (nI m)), some (.rt true (.lst (f.map eS))), x4, x5, x6, x7, x8] =
      some (.nx, [some (.imm (nI n)), some (.imm (eL L0)), some (.imm (nI m)), some (.rt true (.lst ((dealT n m L f).map eS))), y4, y5, y6, y7, y8])
  | [], i, f, x4, x5, x6, x7, x8, _, _, _, _ => ⟨x4, x5, x6, x7, x8, rfl⟩
  | p :: L, i, f, x4, x5, x6, x7, x8, hi, hp, hf, hl => by
    rw [List.length_cons] at hi
    have h3 : 3 ^ i ≤ 3 ^ 8 := Nat.pow_le_pow_right (by omega) (by omega)
    have hfm : f.length * m ≤ 3 ^ i * 3 := Nat.mul_le_mul hl hm
    obtain ⟨y5, y6, y7, y8, e⟩ := deal_line (L := L0) hn (show i ≤ 100 by omega) (hp p (List.mem_cons_self ..)) (show m ≤ 1000 by omega) f x5 x6 x7 x8 hf (by omega)
    obtain ⟨z4, z5, z6, z7, z8, e2⟩ := deal_loop hn hm L (i + 1) (nextT n m p f) (some (.imm (eP p))) y5 y6 y7 y8 (by omega) (fun q hq => hp q (List.mem_cons_of_mem _ hq)) (next_ok (hp p (List.mem_cons_self ..)) hf) (by
      have := next_len (n := n) (m := m) (line := p) f
      rw [Nat.pow_succ]
      omega)
    refine ⟨z4, z5, z6, z7, z8, ?_⟩
    have g1 : gN 4 (eP p) [some (.imm (nI n)), some (.imm (eL L0)), some (.imm (nI m)), some (.rt true (.lst (f.map eS))), x4, x5, x6, x7, x8] = some [some (.imm (nI n)), some (.imm (eL L0)), some (.imm (nI m)), some (.rt true (.lst (f.map eS))), some (.imm (eP p)), x5, x6, x7, x8] := rfl
    rw [List.map_cons, forD_step g1 (.inl e)]
    exact e2
theorem e_dealt {n m : Nat} (hn : n ≤ 1000) (hm : m ≤ 3) (hm1 : 1 ≤ m) {L : List Ln} (hL : L.length ≤ 8) (h : ∀ p ∈ L, p.1 < n ∧ p.2 < n) :
    m_law_dealt [.imm (nI n), .imm (eL L), .imm (nI m)] = some (.imm (.bl (decide (0 < (dealT n m L [List.replicate m []]).length))), [.imm (nI n), .imm (eL L), .imm (nI m)]) := by
  have e0 : dMulA (.tup [.tup []]) (nI m) = some (.imm (eS (List.replicate m []))) := by
    show (if (m : Int) = 1 then some (R.imm (.tup [.tup []])) else if [D.tup []] ≠ [] ∧ 2 ≤ (m : Int) ∧ (m : Int) ≤ 1000 ∧ [D.tup []].length ≤ 1000 then some (R.imm (.tup (List.replicate (m : Int).toNat [D.tup []]).flatten)) else none) = _
    have : m = 1 ∨ m = 2 ∨ m = 3 := by omega
    rcases this with rfl | rfl | rfl
    · rfl
    · rfl
    · rfl
  obtain ⟨y4, y5, y6, y7, y8, e⟩ := deal_loop (L0 := L) hn hm L 0 [List.replicate m []] none none none none none (by omega) h (fun s hs => by
    rw [List.mem_singleton.mp hs]
    exact ⟨⟨fun Q hQ => by rw [(List.mem_replicate.mp hQ).2]; exact Nat.le_refl _, fun Q hQ p hp => by rw [(List.mem_replicate.mp hQ).2] at hp; cases hp⟩, List.length_replicate⟩) (Nat.le_refl _)
  have e1 : s_law_dealt_1 [some (.imm (nI n)), some (.imm (eL L)), some (.imm (nI m)), some (.rt true (.lst [eS (List.replicate m [])])), none, none, none, none, none] = some (.nx, [some (.imm (nI n)), some (.imm (eL L)), some (.imm (nI m)), some (.rt true (.lst ((dealT n m L [List.replicate m []]).map eS))), y4, y5, y6, y7, y8]) := e
  have e9 : dLen [.lst ((dealT n m L [List.replicate m []]).map eS)] = some (.imm (nI (dealT n m L [List.replicate m []]).length)) := by
    show ri _ = _
    rw [List.length_map]
    rfl
  have ed : decide ((0 : Int) < ((dealT n m L [List.replicate m []]).length : Nat)) = decide (0 < (dealT n m L [List.replicate m []]).length) := by
    by_cases q : 0 < (dealT n m L [List.replicate m []]).length
    · rw [decide_eq_true q, decide_eq_true (by omega)]
    · rw [decide_eq_false q, decide_eq_false (by omega)]
  simp only [m_law_dealt, b_law_dealt, s_law_dealt_0, s_law_dealt_9, a_mVar, a_mC, a_mBin, a_mUn, a_mT, a_mAndT, a_mOrT, a_mNotT, a_mAndV, a_mOrV, a_mNotV, a_mIfE, a_mChain, a_mTup, a_mLst, a_aNil, a_aCons, a_lNil, a_lCons, a_mB, a_mCall, a_cNil, a_cVal, a_cIo, a_mIsi, a_mFld, a_mMake, a_mCch, a_mDNew, a_mSl, a_oNone, a_oSome, a_sNx, a_sSeq, a_sRet, a_sRetN, a_sIf, a_sSet, a_sAsg, a_sPar, a_sDrop, a_sBk, a_sCt, a_gN, a_gsN, a_gsC, a_gT, a_gFld, a_gItem, a_gIx, a_gKey, a_rNil, a_rCons, a_mApp, a_mExt, a_mPop, a_mPopAt, a_wSeq, a_wRng1, a_wRng2, a_wZip, a_wEnum, a_sFor, a_tYesD, a_mRg1, a_mRg2, runF, endD, retD, outsD, List.map_cons, List.map_nil, List.length_cons, List.length_nil, List.replicate_succ, List.replicate_zero, List.replicate, List.cons_append, List.nil_append, cont, getD, freeze, freezeS, conts, svsD, slotsD, backD, noDup0, noDup1, slotsD, keepR, setAll, List.getElem?_cons_zero, List.getElem?_cons_succ, List.set_cons_zero, List.set_cons_succ, ri, rb, if_true, reduceCtorEq, isL, isDic, Bool.not_true, Bool.not_false, e0, e1, e9, dGtA, two, ed]
/-! ### what dealing tells -/
theorem nrT_prefix : ∀ (L M : List Ln) (names : List Nat), nrT names (L ++ M) = true → nrT names L = true
  | [], _, _, _ => rfl
  | p :: L, M, names, h => by
    rw [List.cons_append, nrT] at h
    rw [nrT]
    split
    · rename_i q; rw [if_pos q] at h; cases h
    · rename_i q; rw [if_neg q] at h; exact nrT_prefix L M _ h
theorem dealT_snoc (n m : Nat) (L : List Ln) (p : Ln) (f : Sts) : dealT n m (L ++ [p]) f = nextT n m p (dealT n m L f) := by
  unfold dealT
  rw [List.foldl_append]
  rfl
theorem snoc_ind {P : List Ln → Prop} (h0 : P []) (h1 : ∀ L p, P L → P (L ++ [p])) (L : List Ln) : P L := by
  have : ∀ M : List Ln, P M.reverse := fun M => by
    induction M with
    | nil => exact h0
    | cons p M ih => rw [List.reverse_cons]; exact h1 _ _ ih
  have := this L.reverse
  rwa [List.reverse_reverse] at this
/-- one lot -/
theorem deal_one (n : Nat) (L : List Ln) : ∀ t, t ∈ dealT n 1 L [[[]]] ↔ (t = [L] ∧ (L = [] ∨ ringless n L = true)) := by
  refine snoc_ind (P := fun L => ∀ t, t ∈ dealT n 1 L [[[]]] ↔ (t = [L] ∧ (L = [] ∨ ringless n L = true))) (fun t => ?_) (fun L p ih t => ?_) L
  · show t ∈ [[[]]] ↔ _
    rw [List.mem_singleton]
    simp
  · rw [dealT_snoc, mem_nextT]
    constructor
    · rintro ⟨s, h1, a, h2, h3⟩
      obtain ⟨rfl, h4⟩ := (ih s).mp h1
      have : a = 0 := by omega
      subst this
      unfold stepT at h3
      split at h3
      · rename_i hh
        cases h3
        exact ⟨rfl, .inr hh.2⟩
      · cases h3
    · rintro ⟨rfl, h4⟩
      have h4 : ringless n (L ++ [p]) = true := h4.resolve_left (by simp)
      refine ⟨[L], (ih [L]).mpr ⟨rfl, .inr (nrT_prefix _ _ _ h4)⟩, 0, by omega, ?_⟩
      unfold stepT
      have c1 : ((0 = 0 ∨ 0 < (([L] : List (List Ln)).getD (0 - 1) []).length) ∧ ringless n (([L] : List (List Ln)).getD 0 [] ++ [p]) = true) := ⟨.inl rfl, h4⟩
      rw [if_pos c1]
      rfl
theorem deal_one' {n : Nat} {L : List Ln} (hL : L ≠ []) : decide (0 < (dealT n 1 L [[[]]]).length) = ringless n L := by
  cases e : ringless n L with
  | true =>
    have : [L] ∈ dealT n 1 L [[[]]] := (deal_one n L _).mpr ⟨rfl, .inr e⟩
    exact decide_eq_true (List.length_pos_of_mem this)
  | false =>
    refine decide_eq_false fun h => ?_
    obtain ⟨t, ht⟩ := List.exists_mem_of_length_pos h
    obtain ⟨_, h2⟩ := (deal_one n L t).mp ht
    rcases h2 with z | z
    · exact hL z
    · rw [e] at z; cases z
/-- two lots, by a colouring whose first line is in the first -/
theorem deal_two (n : Nat) (c : Ln → Bool) (L : List Ln) : (∀ p M, L = p :: M → c p = true) → ringless n (L.filter c) = true → ringless n (L.filter fun p => !c p) = true → [L.filter c, L.filter fun p => !c p] ∈ dealT n 2 L [[[], []]] := by
  refine snoc_ind (P := fun L => (∀ p M, L = p :: M → c p = true) → ringless n (L.filter c) = true → ringless n (L.filter fun p => !c p) = true → [L.filter c, L.filter fun p => !c p] ∈ dealT n 2 L [[[], []]]) (fun _ _ _ => List.mem_singleton.mpr rfl) (fun L p ih h0 h1 h2 => ?_) L
  rw [List.filter_append] at h1 h2
  rw [dealT_snoc, mem_nextT]
  have hp0 : ∀ q M, L = q :: M → c q = true := fun q M e => h0 q (M ++ [p]) (by rw [e]; rfl)
  refine ⟨_, ih hp0 (nrT_prefix _ _ _ h1) (nrT_prefix _ _ _ h2), ?_⟩
  cases e : c p with
  | true =>
    have f1 : [p].filter c = [p] := by simp [e]
    have f2 : [p].filter (fun p => !c p) = [] := by simp [e]
    refine ⟨0, by omega, ?_⟩
    rw [List.filter_append, List.filter_append, f1, f2, List.append_nil]
    rw [f1] at h1
    unfold stepT
    exact if_pos ⟨.inl rfl, h1⟩
  | false =>
    have f1 : [p].filter c = [] := by simp [e]
    have f2 : [p].filter (fun p => !c p) = [p] := by simp [e]
    refine ⟨1, by omega, ?_⟩
    rw [List.filter_append, List.filter_append, f1, f2, List.append_nil]
    rw [f2] at h2
    have hne : 0 < (L.filter c).length := by
      cases L with
      | nil =>
        have := h0 p [] rfl
        rw [e] at this; cases this
      | cons q M =>
        have := h0 q (M ++ [p]) rfl
        rw [List.filter_cons, this]
        exact Nat.succ_pos _
    unfold stepT
    exact if_pos ⟨.inr hne, h2⟩
end LW

namespace LW
open PySem PySem.Spec PyProof.Rows L2 LD
/-! ### all webs of up to five corners, eight lines -/
noncomputable def allSub {α : Type} (ps : List α) : (List α → Bool) → Bool := List.rec (motive := fun _ => (List α → Bool) → Bool) (fun f => f []) (fun p _ ih f => cond (ih fun L => f (p :: L)) (ih f) false) ps
theorem allSub_sound {α : Type} : ∀ {ps : List α} {f : List α → Bool}, allSub ps f = true → ∀ L, L.Sublist ps → f L = true
  | [], f, h, L, hs => by cases hs; exact h
  | p :: ps, f, h, L, hs => by
    have h' : cond (allSub ps fun L => f (p :: L)) (allSub ps f) false = true := h
    cases e : allSub ps fun L => f (p :: L) with
    | false => rw [e] at h'; cases h'
    | true =>
      rw [e] at h'
      cases hs with
      | cons _ hs => exact allSub_sound (show allSub ps f = true from h') L hs
      | cons_cons _ hs => exact allSub_sound e _ hs
def pm (p : Ln) : Nat := 2 ^ p.1 + 2 ^ p.2
/-- how many of the lines (as masks) lie within the mask R -/
noncomputable def cntK (R : Nat) (ms : List Nat) : Nat := List.rec (motive := fun _ => Nat) 0 (fun m _ ih => cond (Nat.beq (Nat.land R m) m) (Nat.succ ih) ih) ms
noncomputable def allK (f : Nat × Nat → Bool) (l : List (Nat × Nat)) : Bool := List.rec (motive := fun _ => Bool) true (fun x _ ih => cond (f x) ih false) l
noncomputable def anyK (f : Nat × Nat → Bool) (l : List (Nat × Nat)) : Bool := List.rec (motive := fun _ => Bool) false (fun x _ ih => cond (f x) true ih) l
theorem allK_eq (f : Nat × Nat → Bool) : ∀ l, allK f l = l.all f
  | [] => rfl
  | x :: l => by
    show cond (f x) (allK f l) false = _
    rw [allK_eq f l, List.all_cons]
    cases f x <;> rfl
theorem anyK_eq (f : Nat × Nat → Bool) : ∀ l, anyK f l = l.any f
  | [] => rfl
  | x :: l => by
    show cond (f x) true (anyK f l) = _
    rw [anyK_eq f l, List.any_cons]
    cases f x <;> rfl
def colr (C : List Ln) (h : Ln) (p : Ln) : Bool := C.contains p == C.contains h
def splitK (n : Nat) (L : List Ln) (C : List Ln) : Bool := match L with
  | [] => true
  | h :: _ => cond (ringless n (L.filter (colr C h))) (ringless n (L.filter fun p => !colr C h p)) false
def candL : List (List Ln) := [[(0, 3), (0, 4), (1, 2), (1, 4), (2, 3)], [(0, 2), (0, 4), (1, 3), (1, 4), (2, 3)], [(0, 3), (0, 4), (1, 2), (1, 3), (2, 4)], [(0, 2), (0, 4), (1, 2), (1, 3)], [(0, 1), (0, 4), (1, 3), (2, 3)]]
/-- one web, its lots as masks with their sizes less 1 -/
noncomputable def chkL (n : Nat) (lots : List (Nat × Nat)) (L : List Ln) (ms : List Nat) : Bool :=
  cond (Nat.ble L.length 8)
    (cond (ringless n L) (allK (fun x => Nat.ble (cntK x.1 ms) x.2) lots)
      (cond (allK (fun x => Nat.ble (cntK x.1 ms) x.2) lots) false (cond (allK (fun x => Nat.ble (cntK x.1 ms) (Nat.add x.2 x.2)) lots) (candL.any (splitK n L)) false)))
    true
noncomputable def chk (n : Nat) (lots : List (Nat × Nat)) (L : List Ln) : Bool := chkL n lots L (L.map pm)
def pairsK (n : Nat) : List Ln := ([(0, 1), (0, 2), (0, 3), (0, 4), (1, 2), (1, 3), (1, 4), (2, 3), (2, 4), (3, 4)] : List Ln).filter fun p => decide (p.2 < n)
def lotsK (n : Nat) : List (Nat × Nat) := ((lotsT n).filter fun S => decide (1 < S.length)).map fun S => (S.foldl (fun m a => m + 2 ^ a) 0, S.length - 1)
theorem chk2 : allSub (pairsK 2) (chk 2 (lotsK 2)) = true := by decide +kernel
theorem chk3 : allSub (pairsK 3) (chk 3 (lotsK 3)) = true := by decide +kernel
theorem lk4 : lotsK 4 = [(3, 1), (5, 1), (6, 1), (7, 2), (9, 1), (10, 1), (11, 2), (12, 1), (13, 2), (14, 2), (15, 3)] := by decide +kernel
theorem chk4 : allSub (pairsK 4) (chk 4 [(3, 1), (5, 1), (6, 1), (7, 2), (9, 1), (10, 1), (11, 2), (12, 1), (13, 2), (14, 2), (15, 3)]) = true := by decide +kernel
theorem lk5 : lotsK 5 = [(3, 1), (5, 1), (6, 1), (7, 2), (9, 1), (10, 1), (11, 2), (12, 1), (13, 2), (14, 2), (15, 3), (17, 1), (18, 1), (19, 2), (20, 1), (21, 2), (22, 2), (23, 3), (24, 1), (25, 2), (26, 2), (27, 3), (28, 2), (29, 3), (30, 3), (31, 4)] := by decide +kernel
theorem chk5 : allSub (pairsK 5) (chk 5 [(3, 1), (5, 1), (6, 1), (7, 2), (9, 1), (10, 1), (11, 2), (12, 1), (13, 2), (14, 2), (15, 3), (17, 1), (18, 1), (19, 2), (20, 1), (21, 2), (22, 2), (23, 3), (24, 1), (25, 2), (26, 2), (27, 3), (28, 2), (29, 3), (30, 3), (31, 4)]) = true := by decide +kernel
end LW

namespace LW
open PySem PySem.Spec PyProof.Rows L2 LD
theorem ltP_asymm {p q : Ln} (h : ltP p q) (h' : ltP q p) : False := by unfold ltP at h h'; omega
theorem sub_of_sorted : ∀ {P L : List Ln}, P.Pairwise ltP → L.Pairwise ltP → (∀ x ∈ L, x ∈ P) → L.Sublist P
  | [], [], _, _, _ => List.Sublist.slnil
  | [], x :: L, _, _, h => by have := h x (List.mem_cons_self ..); cases this
  | q :: P, [], _, _, _ => List.nil_sublist _
  | q :: P, p :: L, hP, hL, h => by
    obtain ⟨p1, p2⟩ := List.pairwise_cons.mp hP
    obtain ⟨l1, l2⟩ := List.pairwise_cons.mp hL
    rcases List.mem_cons.mp (h p (List.mem_cons_self ..)) with e | hp
    · subst e
      refine List.Sublist.cons_cons _ (sub_of_sorted p2 l2 fun x hx => ?_)
      rcases List.mem_cons.mp (h x (List.mem_cons_of_mem _ hx)) with e | z
      · subst e; exact (ltP_asymm (l1 x hx) (l1 x hx)).elim
      · exact z
    · refine List.Sublist.cons _ (sub_of_sorted p2 hL fun x hx => ?_)
      rcases List.mem_cons.mp (h x hx) with e | z
      · subst e
        rcases List.mem_cons.mp hx with e | hx
        · subst e; exact hp
        · exact (ltP_asymm (l1 x hx) (p1 p hp)).elim
      · exact z
theorem pairs_mem0 : ((List.range 6).all fun n => (List.range 5).all fun a => (List.range 5).all fun b => !(decide (a < b) && decide (b < n)) || ((pairsK n).contains (a, b) && (lotsT n).contains [a, b])) = true := by decide +kernel
theorem pairs_mem1 {n a b : Nat} (h1 : n < 6) (h2 : a < 5) (h3 : b < 5) (h4 : a < b) (h5 : b < n) : (a, b) ∈ pairsK n ∧ [a, b] ∈ lotsT n := by
  have h := List.all_eq_true.mp (List.all_eq_true.mp (List.all_eq_true.mp pairs_mem0 n (List.mem_range.mpr h1)) a (List.mem_range.mpr h2)) b (List.mem_range.mpr h3)
  rw [decide_eq_true h4, decide_eq_true h5] at h
  simp only [Bool.and_self, Bool.not_true, Bool.false_or, Bool.and_eq_true, List.contains_iff_mem] at h
  exact h
theorem pairs_mem (n : Nat) (h1 : n < 6) (a : Nat) (h2 : a < 5) (b : Nat) (h3 : b < 5) (h4 : a < b) (h5 : b < n) : (a, b) ∈ pairsK n := (pairs_mem1 h1 h2 h3 h4 h5).1
theorem pairs_sorted : ∀ n, n < 6 → (pairsK n).Pairwise ltP := by decide +kernel
theorem two_mem (n : Nat) (h1 : n < 6) (a : Nat) (h2 : a < 5) (b : Nat) (h3 : b < 5) (h4 : a < b) (h5 : b < n) : [a, b] ∈ lotsT n := (pairs_mem1 h1 h2 h3 h4 h5).2
def maskS (S : List Nat) : Nat := S.foldl (fun m a => m + 2 ^ a) 0
theorem mask_in : ∀ S ∈ lotsT 5, ∀ a, a < 5 → ∀ b, b < 5 → a < b → Nat.beq (Nat.land (maskS S) (pm (a, b))) (pm (a, b)) = inS S (a, b) := by decide +kernel
theorem lots_up {n : Nat} {S : List Nat} (h : S ∈ lotsT n) : ∀ k, S ∈ lotsT (n + k)
  | 0 => h
  | k + 1 => lotsT_mono _ (lots_up h k)
theorem cnt_inner {S : List Nat} (hS : S ∈ lotsT 5) : ∀ {L : List Ln}, (∀ p ∈ L, p.1 < p.2 ∧ p.2 < 5) → cntK (maskS S) (L.map pm) = innerT L S
  | [], _ => rfl
  | p :: L, h => by
    obtain ⟨h1, h2⟩ := h p (List.mem_cons_self ..)
    have ih := cnt_inner hS fun q hq => h q (List.mem_cons_of_mem _ hq)
    show cond (Nat.beq (Nat.land (maskS S) (pm p)) (pm p)) (Nat.succ (cntK (maskS S) (L.map pm))) (cntK (maskS S) (L.map pm)) = _
    rw [mask_in S hS p.1 (by omega) p.2 h2 h1, ih]
    unfold innerT
    rw [List.filter_cons]
    show cond (inS S p) _ _ = _
    cases inS S p <;> rfl
theorem chkAll {n : Nat} (h2 : 2 ≤ n) (h5 : n ≤ 5) : allSub (pairsK n) (chk n (lotsK n)) = true := by
  have : n = 2 ∨ n = 3 ∨ n = 4 ∨ n = 5 := by omega
  rcases this with rfl | rfl | rfl | rfl
  · exact chk2
  · exact chk3
  · rw [lk4]; exact chk4
  · rw [lk5]; exact chk5
theorem lots_all {n : Nat} (h5 : n ≤ 5) {L : List Ln} (hL : okL n L) (g : Nat → Nat) : allK (fun x => Nat.ble (cntK x.1 (L.map pm)) (g x.2)) (lotsK n) = true ↔ ∀ S ∈ lotsT n, 1 < S.length → innerT L S ≤ g (S.length - 1) := by
  rw [allK_eq, List.all_eq_true]
  have h5' : ∀ p ∈ L, p.1 < p.2 ∧ p.2 < 5 := fun p hp => by have := hL.1 p hp; omega
  have up : ∀ S ∈ lotsT n, S ∈ lotsT 5 := fun S hS => by
    have := lots_up hS (5 - n)
    rwa [show n + (5 - n) = 5 by omega] at this
  constructor
  · intro h S hS hl
    have := h (maskS S, S.length - 1) (List.mem_map.mpr ⟨S, List.mem_filter.mpr ⟨hS, decide_eq_true hl⟩, rfl⟩)
    have := Nat.le_of_ble_eq_true this
    rw [cnt_inner (up S hS) h5'] at this
    exact this
  · rintro h x hx
    obtain ⟨S, hS, rfl⟩ := List.mem_map.mp hx
    obtain ⟨h1, h2⟩ := List.mem_filter.mp hS
    refine Nat.ble_eq_true_of_le ?_
    show cntK (maskS S) (L.map pm) ≤ _
    rw [cnt_inner (up S h1) h5']
    exact h S h1 (of_decide_eq_true h2)
theorem colr_head (C : List Ln) (h : Ln) : colr C h h = true := by unfold colr; exact beq_self_eq_true _
/-- what the law asks of the number told -/
theorem web_fact {n : Nat} (h2 : 2 ≤ n) (h5 : n ≤ 5) {L : List Ln} (hne : L ≠ []) (hL : okL n L) (h8 : L.length ≤ 8) {M : Int} {S : List Nat} (N : Need n L M S) :
    (M = 1 ∧ ringless n L = true) ∨ (M = 2 ∧ ringless n L = false ∧ ∃ c : Ln → Bool, (∀ p T, L = p :: T → c p = true) ∧ ringless n (L.filter c) = true ∧ ringless n (L.filter fun p => !c p) = true) := by
  have hsub : L.Sublist (pairsK n) := sub_of_sorted (pairs_sorted n (by omega)) hL.2 fun p hp => by
    obtain ⟨a, b⟩ := hL.1 p hp
    exact pairs_mem n (by omega) p.1 (by omega) p.2 (by omega) a b
  have hc : chkL n (lotsK n) L (L.map pm) = true := allSub_sound (chkAll h2 h5) L hsub
  unfold chkL at hc
  rw [Nat.ble_eq_true_of_le h8] at hc
  have hlen := lotsT_lens n S N.mem
  have hSl := N.len
  have lo : 1 ≤ M := by
    cases L with
    | nil => exact absurd rfl hne
    | cons p T =>
      obtain ⟨a, b⟩ := hL.1 p (List.mem_cons_self ..)
      have hm := two_mem n (by omega) p.1 (by omega) p.2 (by omega) a b
      have h := N.most _ hm (by show 1 < 2; omega)
      have hi : 1 ≤ innerT (p :: T) [p.1, p.2] := by
        unfold innerT
        refine List.length_pos_of_mem (a := p) (List.mem_filter.mpr ⟨List.mem_cons_self .., ?_⟩)
        simp [inS]
      have e : forI (p :: T) [p.1, p.2] = innerT (p :: T) [p.1, p.2] := by
        unfold forI
        show ((innerT (p :: T) [p.1, p.2] : Int) + 2 - 2) / (2 - 1) = _
        omega
      rw [e] at h
      omega
  have eM := N.eq
  unfold forI at eM
  cases er : ringless n L with
  | true =>
    rw [er] at hc
    have h := (lots_all h5 hL (fun k => k)).mp hc S N.mem N.len
    left
    refine ⟨?_, rfl⟩
    have : S.length = 2 ∨ S.length = 3 ∨ S.length = 4 ∨ S.length = 5 := by omega
    rcases this with q | q | q | q <;> rw [q] at eM h <;> omega
  | false =>
    rw [er] at hc
    cases e1 : allK (fun x => Nat.ble (cntK x.1 (L.map pm)) x.2) (lotsK n) with
    | true => rw [e1] at hc; cases hc
    | false =>
      rw [e1] at hc
      cases e2 : allK (fun x => Nat.ble (cntK x.1 (L.map pm)) (Nat.add x.2 x.2)) (lotsK n) with
      | false => rw [e2] at hc; cases hc
      | true =>
        rw [e2] at hc
        have hc : candL.any (splitK n L) = true := hc
        have hup := (lots_all h5 hL (fun k => k + k)).mp e2
        have hlo : ¬ ∀ R ∈ lotsT n, 1 < R.length → innerT L R ≤ R.length - 1 := fun z => by
          have := (lots_all h5 hL (fun k => k)).mpr z
          rw [this] at e1; cases e1
        right
        have hM2 : M ≤ 2 := by
          have h := hup S N.mem N.len
          have : S.length = 2 ∨ S.length = 3 ∨ S.length = 4 ∨ S.length = 5 := by omega
          rcases this with q | q | q | q <;> rw [q] at eM h <;> omega
        have hM1 : ¬ M ≤ 1 := fun z => hlo fun R hR hl => by
          have h := N.most R hR hl
          unfold forI at h
          have := lotsT_lens n R hR
          have : R.length = 2 ∨ R.length = 3 ∨ R.length = 4 ∨ R.length = 5 := by omega
          rcases this with q | q | q | q <;> rw [q] at h ⊢ <;> omega
        refine ⟨by omega, rfl, ?_⟩
        obtain ⟨C, _, h3⟩ := List.any_eq_true.mp hc
        cases L with
        | nil => exact absurd rfl hne
        | cons p T =>
          have h3 : cond (ringless n ((p :: T).filter (colr C p))) (ringless n ((p :: T).filter fun q => !colr C p q)) false = true := h3
          cases e3 : ringless n ((p :: T).filter (colr C p)) with
          | false => rw [e3] at h3; cases h3
          | true =>
            rw [e3] at h3
            exact ⟨colr C p, fun q T' e => by cases e; exact colr_head C p, e3, h3⟩
end LW

namespace LW
open PySem PySem.Spec PyProof.Rows L2 LD
theorem eqv_self {x : D} (h : shp x = true) : PyData.eqv (toPy x) (toPy x) = true := PySem.SeqAt.eqv_refl _ (SeqAt.canLay_of_shaped h)
theorem ne_self {xs : List D} (h : shp (.tup xs) = true) : dNeA (.tup xs) (.tup xs) = some (.imm (.bl false)) := by
  have e : dNeA (.tup xs) (.tup xs) = dNe (.tup xs) (.tup xs) := two_tup _ _
  rw [e]
  unfold dNe
  rw [if_pos ⟨h, h⟩, eqv_self h]
  rfl
theorem can_eT (S : List Nat) : PyData.canLay0 (toPy (eT S)) = true := SeqAt.canLay_of_shaped (shp_eT S)
theorem dep_eT (S : List Nat) : (toPy (eT S)).depth ≤ 2 := by
  rw [eT_eq]
  have h2 := depth_ints (S.map fun (n : Nat) => (n : Int))
  show PyData.depth (.tuple (toPys _)) ≤ 2
  rw [PyData.depth]
  omega
theorem shp_pair (M : Int) (S : List Nat) : shp (.tup [.int M, eT S]) = true := by
  have h2 := dep_eT S
  simp [shp, SeqAt.shaped, toPy, toPys, PyData.canLay0, PyData.canLayAll0, can_eT, PyData.depth, PyData.depthAll]
  omega
theorem shp_lotsL (l : List (List Nat)) : shp (.lst (l.map eT)) = true := by
  have hc : ∀ l : List (List Nat), PyData.canLayAll0 (toPys (l.map eT)) = true := fun l => by
    induction l with
    | nil => simp [toPys, PyData.canLayAll0]
    | cons S l ih => rw [List.map_cons, toPys, PyData.canLayAll0, ih, can_eT]; rfl
  have hd : ∀ l : List (List Nat), PyData.depthAll (toPys (l.map eT)) ≤ 2 := fun l => by
    induction l with
    | nil => simp [toPys, PyData.depthAll]
    | cons S l ih =>
      have := dep_eT S
      rw [List.map_cons, toPys, PyData.depthAll]
      omega
  have := hd l
  simp [shp, SeqAt.shaped, toPy, PyData.canLay0, hc, PyData.depth]
  omega
theorem min_lots {l : List (List Nat)} (h : l ≠ []) : ∃ S, dMinL [.lst (l.map eT)] = some (.imm (eT S)) ∧ S ∈ l ∧ ∀ R ∈ l, lexN R S = false := by
  cases l with
  | nil => exact absurd rfl h
  | cons x xs =>
    have hm := minDD_mem (eT x) (xs.map eT)
    rw [← List.map_cons] at hm
    obtain ⟨m, h1, h2⟩ := List.mem_map.mp hm
    refine ⟨m, ?_, h1, fun y hy => ?_⟩
    · have ok : okMin ((x :: xs).map eT) = true := by
        have a1 : alikes ((x :: xs).map eT) = true := by
          unfold alikes
          rw [List.all_eq_true]; intro d hd
          rw [List.all_eq_true]; intro e he
          obtain ⟨S, _, rfl⟩ := List.mem_map.mp hd
          obtain ⟨R, _, rfl⟩ := List.mem_map.mp he
          exact alike_eT S R
        have a2 : (((x :: xs).map eT).all fun d => !isNone (toPy d)) = true := by
          rw [List.all_eq_true]; intro d hd
          obtain ⟨S, _, rfl⟩ := List.mem_map.mp hd
          rfl
        unfold okMin
        rw [shp_lotsL, a1, a2]
        rfl
      show (if okMin ((x :: xs).map eT) = true then some (R.imm (minDD (eT x) (xs.map eT))) else none) = _
      rw [if_pos ok, h2]
    · have := minDD_le (eT x) (xs.map eT) (eT y) (by rw [← List.map_cons]; exact List.mem_map_of_mem hy)
      rw [← h2] at this
      rw [← ltS_eq]
      exact this
theorem ceil_eq (x k : Nat) (h2 : 2 ≤ k) (h5 : k ≤ 5) : -((-(x : Int)) / ((k : Int) - 1)) = ((x : Int) + k - 2) / ((k : Int) - 1) := by
  have : k = 2 ∨ k = 3 ∨ k = 4 ∨ k = 5 := by omega
  rcases this with q | q | q | q <;> subst q <;> omega
end LW

namespace LW
open PySem PySem.Spec PyProof.Rows L2 LD
def askI (L : List Ln) (S : List Nat) : Int := -((-(innerT L S : Int)) / ((S.length : Int) - 1))
def eR (L : List Ln) (S : List Nat) : D := .tup [.int (askI L S), eT S]
/-- the slots in a turn: x0 script, x1 hand, x2 turn, then corners, lines, many, lot, rows, one, inner, a, b, asked -/
def lst13 (x0 x1 x2 : Option SV) (n : Nat) (L : List Ln) (M : Int) (lot : D) (x7 x8 x9 x10 x11 x12 : Option SV) : DSt :=
  [x0, x1, x2, some (.imm (nI n)), some (.imm (eL L)), some (.imm (.int M)), some (.imm lot), x7, x8, x9, x10, x11, x12]
section
variable {x0 x1 x2 x8 x9 x10 x11 x12 : Option SV} {n : Nat} {L : List Ln} {M : Int} {lot : D}
theorem law_c0 (x7 : Option SV) (S : List Nat) : c_law_0 (lst13 x0 x1 x2 n L M lot x7 (some (.imm (eT S))) x9 x10 x11 x12) = some (.own (.lst (((L.map eP).filter (inD S)).map fun _ => .int 1)), lst13 x0 x1 x2 n L M lot x7 (some (.imm (eT S))) x9 x10 x11 x12) := by
  refine mLc_pure (vs := [10, 11]) (inD S) (fun _ => .int 1) (xs := L.map eP) (by simp only [lst13, a_mVar, a_mC, a_mBin, a_mUn, a_mT, a_mAndT, a_mOrT, a_mNotT, a_mAndV, a_mOrV, a_mNotV, a_mIfE, a_mChain, a_mTup, a_mLst, a_aNil, a_aCons, a_lNil, a_lCons, a_mB, a_mCall, a_cNil, a_cVal, a_cIo, a_mIsi, a_mFld, a_mMake, a_mCch, a_mDNew, a_mSl, a_oNone, a_oSome, a_sNx, a_sSeq, a_sRet, a_sRetN, a_sIf, a_sSet, a_sAsg, a_sPar, a_sDrop, a_sBk, a_sCt, a_gN, a_gsN, a_gsC, a_gT, a_gFld, a_gItem, a_gIx, a_gKey, a_rNil, a_rCons, a_mApp, a_mExt, a_mPop, a_mPopAt, a_wSeq, a_wRng1, a_wRng2, a_wZip, a_wEnum, a_sFor, a_tYesD, a_mRg1, a_mRg2, runF, endD, retD, outsD, List.map_cons, List.map_nil, List.length_cons, List.length_nil, List.replicate_succ, List.replicate_zero, List.replicate, List.cons_append, List.nil_append, cont, getD, freeze, freezeS, conts, svsD, slotsD, backD, noDup0, noDup1, slotsD, keepR, setAll, List.getElem?_cons_zero, List.getElem?_cons_succ, List.set_cons_zero, List.set_cons_succ, ri, rb, if_true, reduceCtorEq, isL, isDic, Bool.not_true, Bool.not_false, eL]) fun x hx => ?_
  obtain ⟨p, hp, rfl⟩ := List.mem_map.mp hx
  have e : inD S (eP p) = (S.contains p.1 && S.contains p.2) := by
    show (S.contains ((p.1 : Int)).toNat && S.contains ((p.2 : Int)).toNat) = _
    rw [Int.toNat_natCast, Int.toNat_natCast]
  refine ⟨lst13 x0 x1 x2 n L M lot x7 (some (.imm (eT S))) x9 (some (.imm (nI p.1))) (some (.imm (nI p.2))) x12, rfl, rfl, ?_, fun _ => ⟨.imm (.int 1), rfl, rfl⟩⟩
  rw [e]
  cases e1 : S.contains p.1 with
  | false => simp only [lst13, a_mVar, a_mC, a_mBin, a_mUn, a_mT, a_mAndT, a_mOrT, a_mNotT, a_mAndV, a_mOrV, a_mNotV, a_mIfE, a_mChain, a_mTup, a_mLst, a_aNil, a_aCons, a_lNil, a_lCons, a_mB, a_mCall, a_cNil, a_cVal, a_cIo, a_mIsi, a_mFld, a_mMake, a_mCch, a_mDNew, a_mSl, a_oNone, a_oSome, a_sNx, a_sSeq, a_sRet, a_sRetN, a_sIf, a_sSet, a_sAsg, a_sPar, a_sDrop, a_sBk, a_sCt, a_gN, a_gsN, a_gsC, a_gT, a_gFld, a_gItem, a_gIx, a_gKey, a_rNil, a_rCons, a_mApp, a_mExt, a_mPop, a_mPopAt, a_wSeq, a_wRng1, a_wRng2, a_wZip, a_wEnum, a_sFor, a_tYesD, a_mRg1, a_mRg2, runF, endD, retD, outsD, List.map_cons, List.map_nil, List.length_cons, List.length_nil, List.replicate_succ, List.replicate_zero, List.replicate, List.cons_append, List.nil_append, cont, getD, freeze, freezeS, conts, svsD, slotsD, backD, noDup0, noDup1, slotsD, keepR, setAll, List.getElem?_cons_zero, List.getElem?_cons_succ, List.set_cons_zero, List.set_cons_succ, ri, rb, if_true, reduceCtorEq, isL, isDic, Bool.not_true, Bool.not_false, in_eT, e1, Bool.false_and]
  | true => simp only [lst13, a_mVar, a_mC, a_mBin, a_mUn, a_mT, a_mAndT, a_mOrT, a_mNotT, a_mAndV, a_mOrV, a_mNotV, a_mIfE, a_mChain, a_mTup, a_mLst, a_aNil, a_aCons, a_lNil, a_lCons, a_mB, a_mCall, a_cNil, a_cVal, a_cIo, a_mIsi, a_mFld, a_mMake, a_mCch, a_mDNew, a_mSl, a_oNone, a_oSome, a_sNx, a_sSeq, a_sRet, a_sRetN, a_sIf, a_sSet, a_sAsg, a_sPar, a_sDrop, a_sBk, a_sCt, a_gN, a_gsN, a_gsC, a_gT, a_gFld, a_gItem, a_gIx, a_gKey, a_rNil, a_rCons, a_mApp, a_mExt, a_mPop, a_mPopAt, a_wSeq, a_wRng1, a_wRng2, a_wZip, a_wEnum, a_sFor, a_tYesD, a_mRg1, a_mRg2, runF, endD, retD, outsD, List.map_cons, List.map_nil, List.length_cons, List.length_nil, List.replicate_succ, List.replicate_zero, List.replicate, List.cons_append, List.nil_append, cont, getD, freeze, freezeS, conts, svsD, slotsD, backD, noDup0, noDup1, slotsD, keepR, setAll, List.getElem?_cons_zero, List.getElem?_cons_succ, List.set_cons_zero, List.set_cons_succ, ri, rb, if_true, reduceCtorEq, isL, isDic, Bool.not_true, Bool.not_false, in_eT, e1, Bool.true_and]
theorem len_in (S : List Nat) : dLen [.lst (((L.map eP).filter (inD S)).map fun _ => D.int 1)] = some (.imm (nI (innerT L S))) := by
  show ri _ = _
  rw [List.length_map, List.filter_map, List.length_map]
  rfl
/-- one lot looked at -/
theorem law_14 (rows : List D) (S : List Nat) (hS : S.length ≤ 1000) (hz : rows.length < 1000) : ∃ y9, s_law_14 (lst13 x0 x1 x2 n L M lot (some (.rt true (.lst rows))) (some (.imm (eT S))) x9 x10 x11 x12) =
    some (.nx, lst13 x0 x1 x2 n L M lot (some (.rt true (.lst (rows ++ if 1 < S.length then [eR L S] else [])))) (some (.imm (eT S))) y9 x10 x11 x12) := by
  by_cases h : 1 < S.length
  · have hI : decide ((1 : Int) < (S.length : Nat)) = true := decide_eq_true (by omega)
    have hd : CDiv (-(innerT L S : Int)) ((S.length : Int) - 1) := ⟨by omega, by omega⟩
    have e15 : s_law_15 (lst13 x0 x1 x2 n L M lot (some (.rt true (.lst rows))) (some (.imm (eT S))) x9 x10 x11 x12) = some (.nx, lst13 x0 x1 x2 n L M lot (some (.rt true (.lst rows))) (some (.imm (eT S))) (some (.imm (nI (innerT L S)))) x10 x11 x12) := by
      simp only [s_law_15, a_sSet, a_mB, a_lCons, a_lNil, law_c0, conts, cont, len_in]
      rfl
    have e16 : (mTup (aCons (mUn dNeg (mBin dDiv (mUn dNeg (mVar 9)) (mBin dSub (mB dLen (lCons (mVar 8) lNil)) (mC (.int 1))))) (aCons (mVar 8) aNil))) (lst13 x0 x1 x2 n L M lot (some (.rt true (.lst rows))) (some (.imm (eT S))) (some (.imm (nI (innerT L S)))) x10 x11 x12) =
        some (.imm (eR L S), lst13 x0 x1 x2 n L M lot (some (.rt true (.lst rows))) (some (.imm (eT S))) (some (.imm (nI (innerT L S)))) x10 x11 x12) := by
      have e1 : dNeg (nI (innerT L S)) = some (.imm (.int (-(innerT L S : Int)))) := rfl
      have e2 : dSub (nI S.length) (.int 1) = some (.imm (.int ((S.length : Int) - 1))) := rfl
      have e3 : dDiv (.int (-(innerT L S : Int))) (.int ((S.length : Int) - 1)) = some (.imm (.int ((-(innerT L S : Int)) / ((S.length : Int) - 1)))) := by
        show (if CDiv (-(innerT L S : Int)) ((S.length : Int) - 1) then _ else none) = _
        rw [if_pos hd]
        rfl
      have e4 : dNeg (.int ((-(innerT L S : Int)) / ((S.length : Int) - 1))) = some (.imm (.int (askI L S))) := rfl
      simp only [lst13, a_mVar, a_mC, a_mBin, a_mUn, a_mT, a_mAndT, a_mOrT, a_mNotT, a_mAndV, a_mOrV, a_mNotV, a_mIfE, a_mChain, a_mTup, a_mLst, a_aNil, a_aCons, a_lNil, a_lCons, a_mB, a_mCall, a_cNil, a_cVal, a_cIo, a_mIsi, a_mFld, a_mMake, a_mCch, a_mDNew, a_mSl, a_oNone, a_oSome, a_sNx, a_sSeq, a_sRet, a_sRetN, a_sIf, a_sSet, a_sAsg, a_sPar, a_sDrop, a_sBk, a_sCt, a_gN, a_gsN, a_gsC, a_gT, a_gFld, a_gItem, a_gIx, a_gKey, a_rNil, a_rCons, a_mApp, a_mExt, a_mPop, a_mPopAt, a_wSeq, a_wRng1, a_wRng2, a_wZip, a_wEnum, a_sFor, a_tYesD, a_mRg1, a_mRg2, runF, endD, retD, outsD, List.map_cons, List.map_nil, List.length_cons, List.length_nil, List.replicate_succ, List.replicate_zero, List.replicate, List.cons_append, List.nil_append, cont, getD, freeze, freezeS, conts, svsD, slotsD, backD, noDup0, noDup1, slotsD, keepR, setAll, List.getElem?_cons_zero, List.getElem?_cons_succ, List.set_cons_zero, List.set_cons_succ, ri, rb, if_true, reduceCtorEq, isL, isDic, Bool.not_true, Bool.not_false, len_eT, e1, e2, e3, e4]
      rfl
    refine ⟨some (.imm (nI (innerT L S))), ?_⟩
    rw [if_pos h]
    have hc : (mT (mBin dGtA (mB dLen (lCons (mVar 8) lNil)) (mC (.int 1)))) (lst13 x0 x1 x2 n L M lot (some (.rt true (.lst rows))) (some (.imm (eT S))) x9 x10 x11 x12) = some (true, lst13 x0 x1 x2 n L M lot (some (.rt true (.lst rows))) (some (.imm (eT S))) x9 x10 x11 x12) := by
      simp only [lst13, a_mVar, a_mC, a_mBin, a_mUn, a_mT, a_mAndT, a_mOrT, a_mNotT, a_mAndV, a_mOrV, a_mNotV, a_mIfE, a_mChain, a_mTup, a_mLst, a_aNil, a_aCons, a_lNil, a_lCons, a_mB, a_mCall, a_cNil, a_cVal, a_cIo, a_mIsi, a_mFld, a_mMake, a_mCch, a_mDNew, a_mSl, a_oNone, a_oSome, a_sNx, a_sSeq, a_sRet, a_sRetN, a_sIf, a_sSet, a_sAsg, a_sPar, a_sDrop, a_sBk, a_sCt, a_gN, a_gsN, a_gsC, a_gT, a_gFld, a_gItem, a_gIx, a_gKey, a_rNil, a_rCons, a_mApp, a_mExt, a_mPop, a_mPopAt, a_wSeq, a_wRng1, a_wRng2, a_wZip, a_wEnum, a_sFor, a_tYesD, a_mRg1, a_mRg2, runF, endD, retD, outsD, List.map_cons, List.map_nil, List.length_cons, List.length_nil, List.replicate_succ, List.replicate_zero, List.replicate, List.cons_append, List.nil_append, cont, getD, freeze, freezeS, conts, svsD, slotsD, backD, noDup0, noDup1, slotsD, keepR, setAll, List.getElem?_cons_zero, List.getElem?_cons_succ, List.set_cons_zero, List.set_cons_succ, ri, rb, if_true, reduceCtorEq, isL, isDic, Bool.not_true, Bool.not_false, len_eT, dGtA, two, hI]
    have ha : mApp 7 (mTup (aCons (mUn dNeg (mBin dDiv (mUn dNeg (mVar 9)) (mBin dSub (mB dLen (lCons (mVar 8) lNil)) (mC (.int 1))))) (aCons (mVar 8) aNil))) (lst13 x0 x1 x2 n L M lot (some (.rt true (.lst rows))) (some (.imm (eT S))) (some (.imm (nI (innerT L S)))) x10 x11 x12) =
        some (.imm .non, lst13 x0 x1 x2 n L M lot (some (.rt true (.lst (rows ++ [eR L S])))) (some (.imm (eT S))) (some (.imm (nI (innerT L S)))) x10 x11 x12) := by
      have hzz : rows.length < sizeLine := by rw [sizeLine_eq]; omega
      rw [a_mApp, show isL (lst13 x0 x1 x2 n L M lot (some (.rt true (.lst rows))) (some (.imm (eT S))) (some (.imm (nI (innerT L S)))) x10 x11 x12) 7 = true from rfl, if_pos rfl, e16]
      simp [lst13, freeze, hzz]
    simp only [s_law_14, s_law_16, a_sIf, hc, a_sSeq, e15, a_sDrop, ha]
  · have hI : decide ((1 : Int) < (S.length : Nat)) = false := decide_eq_false (by omega)
    refine ⟨x9, ?_⟩
    rw [if_neg h, List.append_nil]
    have hc : (mT (mBin dGtA (mB dLen (lCons (mVar 8) lNil)) (mC (.int 1)))) (lst13 x0 x1 x2 n L M lot (some (.rt true (.lst rows))) (some (.imm (eT S))) x9 x10 x11 x12) = some (false, lst13 x0 x1 x2 n L M lot (some (.rt true (.lst rows))) (some (.imm (eT S))) x9 x10 x11 x12) := by
      simp only [lst13, a_mVar, a_mC, a_mBin, a_mUn, a_mT, a_mAndT, a_mOrT, a_mNotT, a_mAndV, a_mOrV, a_mNotV, a_mIfE, a_mChain, a_mTup, a_mLst, a_aNil, a_aCons, a_lNil, a_lCons, a_mB, a_mCall, a_cNil, a_cVal, a_cIo, a_mIsi, a_mFld, a_mMake, a_mCch, a_mDNew, a_mSl, a_oNone, a_oSome, a_sNx, a_sSeq, a_sRet, a_sRetN, a_sIf, a_sSet, a_sAsg, a_sPar, a_sDrop, a_sBk, a_sCt, a_gN, a_gsN, a_gsC, a_gT, a_gFld, a_gItem, a_gIx, a_gKey, a_rNil, a_rCons, a_mApp, a_mExt, a_mPop, a_mPopAt, a_wSeq, a_wRng1, a_wRng2, a_wZip, a_wEnum, a_sFor, a_tYesD, a_mRg1, a_mRg2, runF, endD, retD, outsD, List.map_cons, List.map_nil, List.length_cons, List.length_nil, List.replicate_succ, List.replicate_zero, List.replicate, List.cons_append, List.nil_append, cont, getD, freeze, freezeS, conts, svsD, slotsD, backD, noDup0, noDup1, slotsD, keepR, setAll, List.getElem?_cons_zero, List.getElem?_cons_succ, List.set_cons_zero, List.set_cons_succ, ri, rb, if_true, reduceCtorEq, isL, isDic, Bool.not_true, Bool.not_false, len_eT, dGtA, two, hI]
    simp only [s_law_14, a_sIf, hc, a_sNx]
end
theorem law_lotsLoop {x0 x1 x2 x10 x11 x12 : Option SV} {n : Nat} {L : List Ln} {M : Int} {lot : D} : ∀ (Ts : List (List Nat)) (rows : List D) (x8 x9 : Option SV), (∀ S ∈ Ts, S.length ≤ 1000) → rows.length + Ts.length < 1000 → ∃ y8 y9,
    forD (gN 8) s_law_14 (Ts.map eT) (lst13 x0 x1 x2 n L M lot (some (.rt true (.lst rows))) x8 x9 x10 x11 x12) = some (.nx, lst13 x0 x1 x2 n L M lot (some (.rt true (.lst (rows ++ (Ts.filter fun S => decide (1 < S.length)).map (eR L))))) y8 y9 x10 x11 x12)
  | [], rows, x8, x9, _, _ => ⟨x8, x9, by rw [List.filter_nil, List.map_nil, List.map_nil, List.append_nil]; rfl⟩
  | S :: Ts, rows, x8, x9, h, hz => by
    rw [List.length_cons] at hz
    obtain ⟨y9, e⟩ := law_14 (x0 := x0) (x1 := x1) (x2 := x2) (x9 := x9) (x10 := x10) (x11 := x11) (x12 := x12) (n := n) (L := L) (M := M) (lot := lot) rows S (h S (List.mem_cons_self ..)) (by omega)
    obtain ⟨z8, z9, e2⟩ := law_lotsLoop (x0 := x0) (x1 := x1) (x2 := x2) (x10 := x10) (x11 := x11) (x12 := x12) (n := n) (L := L) (M := M) (lot := lot) Ts (rows ++ if 1 < S.length then [eR L S] else []) (some (.imm (eT S))) y9 (fun R hR => h R (List.mem_cons_of_mem _ hR)) (by
      rw [List.length_append]
      split
      · show _ + 1 + _ < _; omega
      · show _ + 0 + _ < _; omega)
    refine ⟨z8, z9, ?_⟩
    have g1 : gN 8 (eT S) (lst13 x0 x1 x2 n L M lot (some (.rt true (.lst rows))) x8 x9 x10 x11 x12) = some (lst13 x0 x1 x2 n L M lot (some (.rt true (.lst rows))) (some (.imm (eT S))) x9 x10 x11 x12) := rfl
    rw [List.map_cons, forD_step g1 (.inl e), e2, List.append_assoc]
    congr 6
    rw [List.filter_cons]
    by_cases q : 1 < S.length
    · rw [if_pos q, if_pos (decide_eq_true q)]; rfl
    · rw [if_neg q, if_neg (by simpa using q)]; rfl
def lots2 (n : Nat) : List (List Nat) := (lotsT n).filter fun S => decide (1 < S.length)
def fstD : D → D
  | .tup [a, _] => a
  | d => d
def sndD : D → D
  | .tup [_, b] => b
  | d => d
def fstIs (M : Int) : D → Bool
  | .tup [.int a, _] => decide (a = M)
  | _ => false
section
variable {x0 x1 x2 x8 x9 x10 x11 x12 : Option SV} {n : Nat} {L : List Ln} {M : Int} {lot : D}
theorem law_c1 (rows : List (List Nat)) : c_law_1 (lst13 x0 x1 x2 n L M lot (some (.rt true (.lst (rows.map (eR L))))) x8 x9 x10 x11 x12) = some (.own (.lst ((rows.map (askI L)).map D.int)), lst13 x0 x1 x2 n L M lot (some (.imm (.lst (rows.map (eR L))))) x8 x9 x10 x11 x12) := by
  have := mLc_pure (vs := [12, 8]) (w := wSeq (mVar 7)) (g := (gT 2 (gsC (gN 12) (gsC (gN 8) gsN)))) (c := tYesD) (m := mVar 12) (st := lst13 x0 x1 x2 n L M lot (some (.rt true (.lst (rows.map (eR L))))) x8 x9 x10 x11 x12) (s := lst13 x0 x1 x2 n L M lot (some (.imm (.lst (rows.map (eR L))))) x8 x9 x10 x11 x12) (xs := rows.map (eR L)) (fun _ => true) fstD rfl fun x hx => ?_
  · have e : (((rows.map (eR L)).filter fun _ => true).map fstD) = (rows.map (askI L)).map D.int := by
      rw [filter_true, List.map_map, List.map_map]
      rfl
    rw [e] at this
    exact this
  · obtain ⟨S, hS, rfl⟩ := List.mem_map.mp hx
    exact ⟨lst13 x0 x1 x2 n L M lot (some (.imm (.lst (rows.map (eR L))))) (some (.imm (eT S))) x9 x10 x11 (some (.imm (.int (askI L S)))), rfl, rfl, rfl, fun _ => ⟨.imm (.int (askI L S)), rfl, rfl⟩⟩
theorem law_c2 (rows : List (List Nat)) : c_law_2 (lst13 x0 x1 x2 n L M lot (some (.imm (.lst (rows.map (eR L))))) x8 x9 x10 x11 x12) = some (.own (.lst ((rows.filter fun S => decide (askI L S = M)).map eT)), lst13 x0 x1 x2 n L M lot (some (.imm (.lst (rows.map (eR L))))) x8 x9 x10 x11 x12) := by
  have := mLc_pure (vs := [12, 8]) (w := wSeq (mVar 7)) (g := (gT 2 (gsC (gN 12) (gsC (gN 8) gsN)))) (c := (mT (mBin dEqA (mVar 12) (mVar 5)))) (m := mVar 8) (st := lst13 x0 x1 x2 n L M lot (some (.imm (.lst (rows.map (eR L))))) x8 x9 x10 x11 x12) (s := lst13 x0 x1 x2 n L M lot (some (.imm (.lst (rows.map (eR L))))) x8 x9 x10 x11 x12) (xs := rows.map (eR L)) (fstIs M) sndD rfl fun x hx => ?_
  · have e : (((rows.map (eR L)).filter (fstIs M)).map sndD) = (rows.filter fun S => decide (askI L S = M)).map eT := by
      rw [List.filter_map, List.map_map]
      rfl
    rw [e] at this
    exact this
  · obtain ⟨S, hS, rfl⟩ := List.mem_map.mp hx
    exact ⟨lst13 x0 x1 x2 n L M lot (some (.imm (.lst (rows.map (eR L))))) (some (.imm (eT S))) x9 x10 x11 (some (.imm (.int (askI L S)))), rfl, rfl, rfl, fun _ => ⟨.imm (eT S), rfl, rfl⟩⟩
end
end LW

namespace LW
open PySem PySem.Spec PyProof.Rows L2 LD
theorem ask_for {n : Nat} (h5 : n ≤ 5) {L : List Ln} {S : List Nat} (hS : S ∈ lotsT n) (hl : 1 < S.length) : askI L S = forI L S := by
  have := lotsT_lens n S hS
  exact ceil_eq _ _ (by omega) (by omega)
theorem mem_lots2 {n : Nat} {S : List Nat} : S ∈ lots2 n ↔ S ∈ lotsT n ∧ 1 < S.length := by
  unfold lots2
  rw [List.mem_filter, decide_eq_true_eq]
section
variable {x0 x1 x2 x7 x8 x9 x10 x11 x12 : Option SV} {n : Nat} {L : List Ln} {M : Int}
theorem law_13 {lot : D} (hn : n ≤ 5) : ∃ y8 y9, s_law_13 (lst13 x0 x1 x2 n L M lot (some (.rt true (.lst []))) x8 x9 x10 x11 x12) = some (.nx, lst13 x0 x1 x2 n L M lot (some (.rt true (.lst ((lots2 n).map (eR L))))) y8 y9 x10 x11 x12) := by
  have hlen : (lotsT n).length ≤ 32 := by
    rw [lotsT_len]
    exact Nat.pow_le_pow_right (show 0 < 2 by omega) hn
  obtain ⟨y8, y9, e⟩ := law_lotsLoop (x0 := x0) (x1 := x1) (x2 := x2) (x10 := x10) (x11 := x11) (x12 := x12) (n := n) (L := L) (M := M) (lot := lot) (lotsT n) [] x8 x9 (fun S hS => by have := lotsT_lens n S hS; omega) (by rw [List.length_nil]; omega)
  refine ⟨y8, y9, ?_⟩
  have hw : wSeq (mCall m_law_lots (cVal (mVar 3) cNil)) (lst13 x0 x1 x2 n L M lot (some (.rt true (.lst []))) x8 x9 x10 x11 x12) = some ((lotsT n).map eT, lst13 x0 x1 x2 n L M lot (some (.rt true (.lst []))) x8 x9 x10 x11 x12) := by
    simp only [lst13, a_mVar, a_mC, a_mBin, a_mUn, a_mT, a_mAndT, a_mOrT, a_mNotT, a_mAndV, a_mOrV, a_mNotV, a_mIfE, a_mChain, a_mTup, a_mLst, a_aNil, a_aCons, a_lNil, a_lCons, a_mB, a_mCall, a_cNil, a_cVal, a_cIo, a_mIsi, a_mFld, a_mMake, a_mCch, a_mDNew, a_mSl, a_oNone, a_oSome, a_sNx, a_sSeq, a_sRet, a_sRetN, a_sIf, a_sSet, a_sAsg, a_sPar, a_sDrop, a_sBk, a_sCt, a_gN, a_gsN, a_gsC, a_gT, a_gFld, a_gItem, a_gIx, a_gKey, a_rNil, a_rCons, a_mApp, a_mExt, a_mPop, a_mPopAt, a_wSeq, a_wRng1, a_wRng2, a_wZip, a_wEnum, a_sFor, a_tYesD, a_mRg1, a_mRg2, runF, endD, retD, outsD, List.map_cons, List.map_nil, List.length_cons, List.length_nil, List.replicate_succ, List.replicate_zero, List.replicate, List.cons_append, List.nil_append, cont, getD, freeze, freezeS, conts, svsD, slotsD, backD, noDup0, noDup1, slotsD, keepR, setAll, List.getElem?_cons_zero, List.getElem?_cons_succ, List.set_cons_zero, List.set_cons_succ, ri, rb, if_true, reduceCtorEq, isL, isDic, Bool.not_true, Bool.not_false, e_llots (show n ≤ 7 by omega)]
  unfold s_law_13
  rw [a_sFor, hw]
  dsimp only
  rw [e, List.nil_append]
  rfl
theorem law_10 {lot : D} (hn : n ≤ 5) (hn2 : 2 ≤ n) (hne : L ≠ []) (h8 : L.length ≤ 8) (hL : okL n L) (hM : (M = 1 ∧ ringless n L = true) ∨ (M = 2 ∧ ringless n L = false ∧ ∃ c : Ln → Bool, (∀ p T, L = p :: T → c p = true) ∧ ringless n (L.filter c) = true ∧ ringless n (L.filter fun p => !c p) = true)) :
    s_law_10 (lst13 x0 x1 x2 n L M lot x7 x8 x9 x10 x11 x12) = some (.nx, lst13 x0 x1 x2 n L M lot x7 x8 x9 x10 x11 x12) := by
  have hp : ∀ p ∈ L, p.1 < n ∧ p.2 < n := fun p hp => by have := hL.1 p hp; omega
  have d1 := e_dealt (n := n) (m := 1) (by omega) (by omega) (by omega) h8 hp
  have d2 := e_dealt (n := n) (m := 2) (by omega) (by omega) (by omega) h8 hp
  have d1' : m_law_dealt [.imm (nI n), .imm (eL L), .imm (.int 1)] = some (.imm (.bl (ringless n L)), [.imm (nI n), .imm (eL L), .imm (.int 1)]) := by
    have e : decide (0 < (dealT n 1 L [List.replicate 1 []]).length) = ringless n L := deal_one' hne
    rw [e] at d1
    exact d1
  rcases hM with ⟨rfl, hr⟩ | ⟨rfl, hr, c, c1, c2, c3⟩
  · rw [hr] at d1'
    simp only [s_law_10, lst13, a_mVar, a_mC, a_mBin, a_mUn, a_mT, a_mAndT, a_mOrT, a_mNotT, a_mAndV, a_mOrV, a_mNotV, a_mIfE, a_mChain, a_mTup, a_mLst, a_aNil, a_aCons, a_lNil, a_lCons, a_mB, a_mCall, a_cNil, a_cVal, a_cIo, a_mIsi, a_mFld, a_mMake, a_mCch, a_mDNew, a_mSl, a_oNone, a_oSome, a_sNx, a_sSeq, a_sRet, a_sRetN, a_sIf, a_sSet, a_sAsg, a_sPar, a_sDrop, a_sBk, a_sCt, a_gN, a_gsN, a_gsC, a_gT, a_gFld, a_gItem, a_gIx, a_gKey, a_rNil, a_rCons, a_mApp, a_mExt, a_mPop, a_mPopAt, a_wSeq, a_wRng1, a_wRng2, a_wZip, a_wEnum, a_sFor, a_tYesD, a_mRg1, a_mRg2, runF, endD, retD, outsD, List.map_cons, List.map_nil, List.length_cons, List.length_nil, List.replicate_succ, List.replicate_zero, List.replicate, List.cons_append, List.nil_append, cont, getD, freeze, freezeS, conts, svsD, slotsD, backD, noDup0, noDup1, slotsD, keepR, setAll, List.getElem?_cons_zero, List.getElem?_cons_succ, List.set_cons_zero, List.set_cons_succ, ri, rb, if_true, reduceCtorEq, isL, isDic, Bool.not_true, Bool.not_false, d1', dGtA, two]
    rfl
  · have hmem := deal_two n c L c1 c2 c3
    have hpos : decide (0 < (dealT n 2 L [List.replicate 2 []]).length) = true := decide_eq_true (List.length_pos_of_mem hmem)
    rw [hpos] at d2
    have d2' : m_law_dealt [.imm (nI n), .imm (eL L), .imm (.int 2)] = some (.imm (.bl true), [.imm (nI n), .imm (eL L), .imm (.int 2)]) := d2
    rw [hr] at d1'
    have e1 : dSub (.int 2) (.int 1) = some (.imm (.int 1)) := rfl
    have e2 : dGtA (.int 2) (.int 1) = some (.imm (.bl true)) := rfl
    simp only [s_law_10, lst13, a_mVar, a_mC, a_mBin, a_mUn, a_mT, a_mAndT, a_mOrT, a_mNotT, a_mAndV, a_mOrV, a_mNotV, a_mIfE, a_mChain, a_mTup, a_mLst, a_aNil, a_aCons, a_lNil, a_lCons, a_mB, a_mCall, a_cNil, a_cVal, a_cIo, a_mIsi, a_mFld, a_mMake, a_mCch, a_mDNew, a_mSl, a_oNone, a_oSome, a_sNx, a_sSeq, a_sRet, a_sRetN, a_sIf, a_sSet, a_sAsg, a_sPar, a_sDrop, a_sBk, a_sCt, a_gN, a_gsN, a_gsC, a_gT, a_gFld, a_gItem, a_gIx, a_gKey, a_rNil, a_rCons, a_mApp, a_mExt, a_mPop, a_mPopAt, a_wSeq, a_wRng1, a_wRng2, a_wZip, a_wEnum, a_sFor, a_tYesD, a_mRg1, a_mRg2, runF, endD, retD, outsD, List.map_cons, List.map_nil, List.length_cons, List.length_nil, List.replicate_succ, List.replicate_zero, List.replicate, List.cons_append, List.nil_append, cont, getD, freeze, freezeS, conts, svsD, slotsD, backD, noDup0, noDup1, slotsD, keepR, setAll, List.getElem?_cons_zero, List.getElem?_cons_succ, List.set_cons_zero, List.set_cons_succ, ri, rb, if_true, reduceCtorEq, isL, isDic, Bool.not_true, Bool.not_false, d1', d2', e1, e2]
theorem law_17 {lot : D} (hn : n ≤ 5) {S : List Nat} (N : Need n L M S) : s_law_17 (lst13 x0 x1 x2 n L M lot (some (.rt true (.lst ((lots2 n).map (eR L))))) x8 x9 x10 x11 x12) = some (.nx, lst13 x0 x1 x2 n L M lot (some (.imm (.lst ((lots2 n).map (eR L))))) x8 x9 x10 x11 x12) := by
  have hS : S ∈ lots2 n := mem_lots2.mpr ⟨N.mem, N.len⟩
  have ne : (lots2 n).map (askI L) ≠ [] := fun z => by
    rw [List.map_eq_nil_iff.mp z] at hS
    cases hS
  obtain ⟨m, m1, m2, m3⟩ := max_ints ne
  obtain ⟨R, hR, eR'⟩ := List.mem_map.mp m2
  obtain ⟨r1, r2⟩ := mem_lots2.mp hR
  have em : m = M := by
    have h1 := m3 _ (List.mem_map_of_mem hS)
    rw [ask_for hn N.mem N.len, N.eq] at h1
    rw [ask_for hn r1 r2] at eR'
    have h2 := N.most R r1 r2
    omega
  rw [em] at m1
  have e1 : dNeA (.int M) (.int M) = some (.imm (.bl false)) := by
    show rb (!decide (M = M)) = _
    rw [decide_eq_true rfl]
    rfl
  have hm : (mB dMaxL (lCons c_law_1 lNil)) (lst13 x0 x1 x2 n L M lot (some (.rt true (.lst ((lots2 n).map (eR L))))) x8 x9 x10 x11 x12) = some (.imm (.int M), lst13 x0 x1 x2 n L M lot (some (.imm (.lst ((lots2 n).map (eR L))))) x8 x9 x10 x11 x12) := by
    simp only [a_mB, a_lCons, a_lNil, law_c1, conts, cont, m1]
  have hv : mVar 5 (lst13 x0 x1 x2 n L M lot (some (.imm (.lst ((lots2 n).map (eR L))))) x8 x9 x10 x11 x12) = some (.imm (.int M), lst13 x0 x1 x2 n L M lot (some (.imm (.lst ((lots2 n).map (eR L))))) x8 x9 x10 x11 x12) := rfl
  simp only [s_law_17, a_sIf, a_mT, a_mBin, hm, hv, cont, e1, a_sNx]
theorem law_19 (hn : n ≤ 5) {S : List Nat} (N : Need n L M S) : s_law_19 (lst13 x0 x1 x2 n L M (eT S) (some (.imm (.lst ((lots2 n).map (eR L))))) x8 x9 x10 x11 x12) = some (.nx, lst13 x0 x1 x2 n L M (eT S) (some (.imm (.lst ((lots2 n).map (eR L))))) x8 x9 x10 x11 x12) := by
  have hS : S ∈ (lots2 n).filter fun S => decide (askI L S = M) := List.mem_filter.mpr ⟨mem_lots2.mpr ⟨N.mem, N.len⟩, decide_eq_true (by rw [ask_for hn N.mem N.len, N.eq])⟩
  obtain ⟨R, m1, m2, m3⟩ := min_lots (l := (lots2 n).filter fun S => decide (askI L S = M)) (fun z => by rw [z] at hS; cases hS)
  obtain ⟨r1, r2⟩ := List.mem_filter.mp m2
  obtain ⟨r3, r4⟩ := mem_lots2.mp r1
  have r5 := of_decide_eq_true r2
  rw [ask_for hn r3 r4] at r5
  have e : R = S := lexN_total _ _ (N.least R r3 r4 r5) (m3 S hS)
  rw [e] at m1
  have e1 : dNeA (eT S) (eT S) = some (.imm (.bl false)) := ne_self (shp_eT S)
  have hv : mVar 6 (lst13 x0 x1 x2 n L M (eT S) (some (.imm (.lst ((lots2 n).map (eR L))))) x8 x9 x10 x11 x12) = some (.imm (eT S), lst13 x0 x1 x2 n L M (eT S) (some (.imm (.lst ((lots2 n).map (eR L))))) x8 x9 x10 x11 x12) := rfl
  have hm : (mB dMinL (lCons c_law_2 lNil)) (lst13 x0 x1 x2 n L M (eT S) (some (.imm (.lst ((lots2 n).map (eR L))))) x8 x9 x10 x11 x12) = some (.imm (eT S), lst13 x0 x1 x2 n L M (eT S) (some (.imm (.lst ((lots2 n).map (eR L))))) x8 x9 x10 x11 x12) := by
    simp only [a_mB, a_lCons, a_lNil, law_c2, conts, cont, m1]
  simp only [s_law_19, a_sIf, a_mT, a_mBin, hm, hv, cont, e1, a_sNx]
/-- the checks of one turn -/
theorem law_7 {S : List Nat} (hn : n ≤ 5) (hn2 : 2 ≤ n) (hne : L ≠ []) (h8 : L.length ≤ 8) (hL : okL n L) (N : Need n L M S) : ∃ y7 y8 y9 y10 y11 y12, s_law_7 (lst13 x0 x1 x2 n L M (eT S) x7 x8 x9 x10 x11 x12) = some (.nx, lst13 x0 x1 x2 n L M (eT S) y7 y8 y9 y10 y11 y12) := by
  have hlen : ¬ L.length = 0 := fun z => hne (List.eq_nil_of_length_eq_zero z)
  have hd : decide ((L.length : Int) = 0) = false := decide_eq_false (by omega)
  have hc : (mT (mBin dEqA (mB dLen (lCons (mVar 4) lNil)) (mC (.int 0)))) (lst13 x0 x1 x2 n L M (eT S) x7 x8 x9 x10 x11 x12) = some (false, lst13 x0 x1 x2 n L M (eT S) x7 x8 x9 x10 x11 x12) := by
    simp only [lst13, a_mVar, a_mC, a_mBin, a_mUn, a_mT, a_mAndT, a_mOrT, a_mNotT, a_mAndV, a_mOrV, a_mNotV, a_mIfE, a_mChain, a_mTup, a_mLst, a_aNil, a_aCons, a_lNil, a_lCons, a_mB, a_mCall, a_cNil, a_cVal, a_cIo, a_mIsi, a_mFld, a_mMake, a_mCch, a_mDNew, a_mSl, a_oNone, a_oSome, a_sNx, a_sSeq, a_sRet, a_sRetN, a_sIf, a_sSet, a_sAsg, a_sPar, a_sDrop, a_sBk, a_sCt, a_gN, a_gsN, a_gsC, a_gT, a_gFld, a_gItem, a_gIx, a_gKey, a_rNil, a_rCons, a_mApp, a_mExt, a_mPop, a_mPopAt, a_wSeq, a_wRng1, a_wRng2, a_wZip, a_wEnum, a_sFor, a_tYesD, a_mRg1, a_mRg2, runF, endD, retD, outsD, List.map_cons, List.map_nil, List.length_cons, List.length_nil, List.replicate_succ, List.replicate_zero, List.replicate, List.cons_append, List.nil_append, cont, getD, freeze, freezeS, conts, svsD, slotsD, backD, noDup0, noDup1, slotsD, keepR, setAll, List.getElem?_cons_zero, List.getElem?_cons_succ, List.set_cons_zero, List.set_cons_succ, ri, rb, if_true, reduceCtorEq, isL, isDic, Bool.not_true, Bool.not_false, lenL, dEqA, two, hd]
  have h10 := law_10 (x0 := x0) (x1 := x1) (x2 := x2) (x7 := x7) (x8 := x8) (x9 := x9) (x10 := x10) (x11 := x11) (x12 := x12) (lot := eT S) hn hn2 hne h8 hL (web_fact hn2 hn hne hL h8 N)
  have h12 : s_law_12 (lst13 x0 x1 x2 n L M (eT S) x7 x8 x9 x10 x11 x12) = some (.nx, lst13 x0 x1 x2 n L M (eT S) (some (.rt true (.lst []))) x8 x9 x10 x11 x12) := rfl
  obtain ⟨y8, y9, h13⟩ := law_13 (x0 := x0) (x1 := x1) (x2 := x2) (x8 := x8) (x9 := x9) (x10 := x10) (x11 := x11) (x12 := x12) (n := n) (L := L) (M := M) (lot := eT S) hn
  have h17 := law_17 (x0 := x0) (x1 := x1) (x2 := x2) (x8 := y8) (x9 := y9) (x10 := x10) (x11 := x11) (x12 := x12) (lot := eT S) hn N
  have h19 := law_19 (x0 := x0) (x1 := x1) (x2 := x2) (x8 := y8) (x9 := y9) (x10 := x10) (x11 := x11) (x12 := x12) hn N
  exact ⟨some (.imm (.lst ((lots2 n).map (eR L)))), y8, y9, x10, x11, x12, by simp only [s_law_7, a_sIf, hc, a_sSeq, h10, h12, h13, h17, h19]⟩
end
theorem okL_take {n : Nat} {L : List Ln} (h : okL n L) (k : Nat) : okL n (L.take k) := ⟨fun p hp => h.1 p (List.mem_of_mem_take hp), h.2.sublist (List.take_sublist k L)⟩
theorem seq4 {a b c d : MS} {s1 s2 s3 s4 s5 : DSt} {f : Fl} (h1 : a s1 = some (.nx, s2)) (h2 : b s2 = some (.nx, s3)) (h3 : c s3 = some (.nx, s4)) (h4 : d s4 = some (f, s5)) : (sSeq a (sSeq b (sSeq c d))) s1 = some (f, s5) := by
  rw [a_sSeq, h1]
  dsimp only
  rw [a_sSeq, h2]
  dsimp only
  rw [a_sSeq, h3]
  dsimp only
  exact h4
/-- one turn -/
theorem law_turn {scr d : D} (hd : isHand d) (x2 x3 x4 x5 x6 x7 x8 x9 x10 x11 x12 : Option SV) : ∃ d' y3 y4 y5 y6 y7 y8 y9 y10 y11 y12, isHand d' ∧
    (sSeq s_law_4 (sSeq s_law_5 (sSeq s_law_6 s_law_7))) [some (.imm scr), some (.rt true d), x2, x3, x4, x5, x6, x7, x8, x9, x10, x11, x12] = some (.nx, [some (.imm scr), some (.rt true d'), x2, y3, y4, y5, y6, y7, y8, y9, y10, y11, y12]) := by
  obtain ⟨r, d1, hr, hd1, e1⟩ := x_draw hd 5 (by omega) (by omega)
  have hn5 : 1 + r ≤ 5 := by omega
  obtain ⟨L0, d2, hd2, hL0, e2⟩ := e_lines hd1 (show 1 + r ≤ 7 by omega)
  have hL := okL_take hL0 8
  have e1' : m_law_draw [.rt false d, .imm (.int 5)] = some (.imm (nI r), [.rt false d1, .imm (.int 5)]) := e1
  obtain ⟨n, hn⟩ : ∃ n, n = 1 + r := ⟨_, rfl⟩
  rw [← hn] at hn5 e2 hL0 hL
  have en : dAdd (.int 1) (nI r) = some (.imm (nI n)) := by
    show some (R.imm (.int (1 + (r : Int)))) = some (R.imm (.int (n : Int)))
    have : (1 : Int) + r = n := by omega
    rw [this]
  have h4 : s_law_4 [some (.imm scr), some (.rt true d), x2, x3, x4, x5, x6, x7, x8, x9, x10, x11, x12] = some (.nx, [some (.imm scr), some (.rt true d1), x2, some (.imm (nI n)), x4, x5, x6, x7, x8, x9, x10, x11, x12]) := by
    simp only [s_law_4, a_mVar, a_mC, a_mBin, a_mUn, a_mT, a_mAndT, a_mOrT, a_mNotT, a_mAndV, a_mOrV, a_mNotV, a_mIfE, a_mChain, a_mTup, a_mLst, a_aNil, a_aCons, a_lNil, a_lCons, a_mB, a_mCall, a_cNil, a_cVal, a_cIo, a_mIsi, a_mFld, a_mMake, a_mCch, a_mDNew, a_mSl, a_oNone, a_oSome, a_sNx, a_sSeq, a_sRet, a_sRetN, a_sIf, a_sSet, a_sAsg, a_sPar, a_sDrop, a_sBk, a_sCt, a_gN, a_gsN, a_gsC, a_gT, a_gFld, a_gItem, a_gIx, a_gKey, a_rNil, a_rCons, a_mApp, a_mExt, a_mPop, a_mPopAt, a_wSeq, a_wRng1, a_wRng2, a_wZip, a_wEnum, a_sFor, a_tYesD, a_mRg1, a_mRg2, runF, endD, retD, outsD, List.map_cons, List.map_nil, List.length_cons, List.length_nil, List.replicate_succ, List.replicate_zero, List.replicate, List.cons_append, List.nil_append, cont, getD, freeze, freezeS, conts, svsD, slotsD, backD, noDup0, noDup1, slotsD, keepR, setAll, List.getElem?_cons_zero, List.getElem?_cons_succ, List.set_cons_zero, List.set_cons_succ, ri, rb, if_true, reduceCtorEq, isL, isDic, Bool.not_true, Bool.not_false, e1', en]
  have es : dSl (eL L0) none (some 8) = some (.imm (eL (L0.take 8))) := by
    show some (R.imm (.tup (LD.cutD (L0.map eP) none (some 8)))) = some (R.imm (.tup ((L0.take 8).map eP)))
    rw [List.map_take]
    by_cases q : 8 ≤ (L0.map eP).length
    · rw [show (some 8 : Option Int) = some ((8 : Nat) : Int) from rfl, cut_to _ _ q]
    · have : LD.cutD (L0.map eP) none (some 8) = (L0.map eP).take 8 := by
        unfold LD.cutD
        rw [HT.sIx_none, show HT.sIx (L0.map eP).length (L0.map eP).length (some 8) = min 8 (L0.map eP).length from HT.sIx_nat _ _ 8, List.drop_zero, Nat.sub_zero, Nat.min_eq_right (by omega), List.take_of_length_le (by omega), List.take_of_length_le (by omega)]
      rw [this]
  have h5 : s_law_5 [some (.imm scr), some (.rt true d1), x2, some (.imm (nI n)), x4, x5, x6, x7, x8, x9, x10, x11, x12] = some (.nx, [some (.imm scr), some (.rt true d2), x2, some (.imm (nI n)), some (.imm (eL (L0.take 8))), x5, x6, x7, x8, x9, x10, x11, x12]) := by
    simp only [s_law_5, a_mVar, a_mC, a_mBin, a_mUn, a_mT, a_mAndT, a_mOrT, a_mNotT, a_mAndV, a_mOrV, a_mNotV, a_mIfE, a_mChain, a_mTup, a_mLst, a_aNil, a_aCons, a_lNil, a_lCons, a_mB, a_mCall, a_cNil, a_cVal, a_cIo, a_mIsi, a_mFld, a_mMake, a_mCch, a_mDNew, a_mSl, a_oNone, a_oSome, a_sNx, a_sSeq, a_sRet, a_sRetN, a_sIf, a_sSet, a_sAsg, a_sPar, a_sDrop, a_sBk, a_sCt, a_gN, a_gsN, a_gsC, a_gT, a_gFld, a_gItem, a_gIx, a_gKey, a_rNil, a_rCons, a_mApp, a_mExt, a_mPop, a_mPopAt, a_wSeq, a_wRng1, a_wRng2, a_wZip, a_wEnum, a_sFor, a_tYesD, a_mRg1, a_mRg2, runF, endD, retD, outsD, List.map_cons, List.map_nil, List.length_cons, List.length_nil, List.replicate_succ, List.replicate_zero, List.replicate, List.cons_append, List.nil_append, cont, getD, freeze, freezeS, conts, svsD, slotsD, backD, noDup0, noDup1, slotsD, keepR, setAll, List.getElem?_cons_zero, List.getElem?_cons_succ, List.set_cons_zero, List.set_cons_succ, ri, rb, if_true, reduceCtorEq, isL, isDic, Bool.not_true, Bool.not_false, e2, es]
  have h8 : (L0.take 8).length ≤ 8 := by rw [List.length_take]; omega
  have eW := e_Web (n := n) (L := L0.take 8) (by omega) hL
  by_cases q : L0.take 8 = []
  · have h6 : s_law_6 [some (.imm scr), some (.rt true d2), x2, some (.imm (nI n)), some (.imm (eL (L0.take 8))), x5, x6, x7, x8, x9, x10, x11, x12] = some (.nx, [some (.imm scr), some (.rt true d2), x2, some (.imm (nI n)), some (.imm (eL (L0.take 8))), some (.imm (.int 0)), some (.imm (.tup [])), x7, x8, x9, x10, x11, x12]) := by
      have e0 := e_needed0 (n := n)
      rw [q] at eW ⊢
      simp only [eWeb] at eW e0
      simp [s_law_6, a_mVar, a_mC, a_mBin, a_mUn, a_mT, a_mAndT, a_mOrT, a_mNotT, a_mAndV, a_mOrV, a_mNotV, a_mIfE, a_mChain, a_mTup, a_mLst, a_aNil, a_aCons, a_lNil, a_lCons, a_mB, a_mCall, a_cNil, a_cVal, a_cIo, a_mIsi, a_mFld, a_mMake, a_mCch, a_mDNew, a_mSl, a_oNone, a_oSome, a_sNx, a_sSeq, a_sRet, a_sRetN, a_sIf, a_sSet, a_sAsg, a_sPar, a_sDrop, a_sBk, a_sCt, a_gN, a_gsN, a_gsC, a_gT, a_gFld, a_gItem, a_gIx, a_gKey, a_rNil, a_rCons, a_mApp, a_mExt, a_mPop, a_mPopAt, a_wSeq, a_wRng1, a_wRng2, a_wZip, a_wEnum, a_sFor, a_tYesD, a_mRg1, a_mRg2, runF, endD, retD, outsD, List.map_cons, List.map_nil, List.length_cons, List.length_nil, List.replicate_succ, List.replicate_zero, List.replicate, List.cons_append, List.nil_append, cont, getD, freeze, freezeS, conts, svsD, slotsD, backD, noDup0, noDup1, slotsD, keepR, setAll, List.getElem?_cons_zero, List.getElem?_cons_succ, List.set_cons_zero, List.set_cons_succ, ri, rb, if_true, reduceCtorEq, isL, isDic, Bool.not_true, Bool.not_false, eW, e0]
    have e7 : dNeA (.tup [.int 0, .tup []]) (.tup [.int 0, .tup []]) = some (.imm (.bl false)) := ne_self (shp_pair 0 [])
    have h7 : s_law_7 [some (.imm scr), some (.rt true d2), x2, some (.imm (nI n)), some (.imm (eL (L0.take 8))), some (.imm (.int 0)), some (.imm (.tup [])), x7, x8, x9, x10, x11, x12] = some (.nx, [some (.imm scr), some (.rt true d2), x2, some (.imm (nI n)), some (.imm (eL (L0.take 8))), some (.imm (.int 0)), some (.imm (.tup [])), x7, x8, x9, x10, x11, x12]) := by
      rw [q]
      have hd0 : decide (((0 : Nat) : Int) = 0) = true := rfl
      simp only [s_law_7, s_law_8, a_mVar, a_mC, a_mBin, a_mUn, a_mT, a_mAndT, a_mOrT, a_mNotT, a_mAndV, a_mOrV, a_mNotV, a_mIfE, a_mChain, a_mTup, a_mLst, a_aNil, a_aCons, a_lNil, a_lCons, a_mB, a_mCall, a_cNil, a_cVal, a_cIo, a_mIsi, a_mFld, a_mMake, a_mCch, a_mDNew, a_mSl, a_oNone, a_oSome, a_sNx, a_sSeq, a_sRet, a_sRetN, a_sIf, a_sSet, a_sAsg, a_sPar, a_sDrop, a_sBk, a_sCt, a_gN, a_gsN, a_gsC, a_gT, a_gFld, a_gItem, a_gIx, a_gKey, a_rNil, a_rCons, a_mApp, a_mExt, a_mPop, a_mPopAt, a_wSeq, a_wRng1, a_wRng2, a_wZip, a_wEnum, a_sFor, a_tYesD, a_mRg1, a_mRg2, runF, endD, retD, outsD, List.map_cons, List.map_nil, List.length_cons, List.length_nil, List.replicate_succ, List.replicate_zero, List.replicate, List.cons_append, List.nil_append, cont, getD, freeze, freezeS, conts, svsD, slotsD, backD, noDup0, noDup1, slotsD, keepR, setAll, List.getElem?_cons_zero, List.getElem?_cons_succ, List.set_cons_zero, List.set_cons_succ, ri, rb, if_true, reduceCtorEq, isL, isDic, Bool.not_true, Bool.not_false, lenL, dEqA, two, hd0, e7]
    exact ⟨d2, _, _, _, _, _, _, _, _, _, _, hd2, seq4 h4 h5 h6 h7⟩
  · have hn2 : 2 ≤ n := by
      cases hh : L0.take 8 with
      | nil => exact absurd hh q
      | cons p T =>
        have := hL.1 p (by rw [hh]; exact List.mem_cons_self ..)
        omega
    obtain ⟨M, S, eN, N⟩ := e_needed (n := n) (by omega) hn2 q
    have h6 : s_law_6 [some (.imm scr), some (.rt true d2), x2, some (.imm (nI n)), some (.imm (eL (L0.take 8))), x5, x6, x7, x8, x9, x10, x11, x12] = some (.nx, lst13 (some (.imm scr)) (some (.rt true d2)) x2 n (L0.take 8) M (eT S) x7 x8 x9 x10 x11 x12) := by
      simp only [eWeb] at eW eN
      simp [s_law_6, lst13, a_mVar, a_mC, a_mBin, a_mUn, a_mT, a_mAndT, a_mOrT, a_mNotT, a_mAndV, a_mOrV, a_mNotV, a_mIfE, a_mChain, a_mTup, a_mLst, a_aNil, a_aCons, a_lNil, a_lCons, a_mB, a_mCall, a_cNil, a_cVal, a_cIo, a_mIsi, a_mFld, a_mMake, a_mCch, a_mDNew, a_mSl, a_oNone, a_oSome, a_sNx, a_sSeq, a_sRet, a_sRetN, a_sIf, a_sSet, a_sAsg, a_sPar, a_sDrop, a_sBk, a_sCt, a_gN, a_gsN, a_gsC, a_gT, a_gFld, a_gItem, a_gIx, a_gKey, a_rNil, a_rCons, a_mApp, a_mExt, a_mPop, a_mPopAt, a_wSeq, a_wRng1, a_wRng2, a_wZip, a_wEnum, a_sFor, a_tYesD, a_mRg1, a_mRg2, runF, endD, retD, outsD, List.map_cons, List.map_nil, List.length_cons, List.length_nil, List.replicate_succ, List.replicate_zero, List.replicate, List.cons_append, List.nil_append, cont, getD, freeze, freezeS, conts, svsD, slotsD, backD, noDup0, noDup1, slotsD, keepR, setAll, List.getElem?_cons_zero, List.getElem?_cons_succ, List.set_cons_zero, List.set_cons_succ, ri, rb, if_true, reduceCtorEq, isL, isDic, Bool.not_true, Bool.not_false, eW, eN]
    obtain ⟨y7, y8, y9, y10, y11, y12, h7⟩ := law_7 (x0 := some (.imm scr)) (x1 := some (.rt true d2)) (x2 := x2) (x7 := x7) (x8 := x8) (x9 := x9) (x10 := x10) (x11 := x11) (x12 := x12) hn5 hn2 q h8 hL N
    exact ⟨d2, _, _, _, _, y7, y8, y9, y10, y11, y12, hd2, seq4 h4 h5 h6 h7⟩

def tri : List Ln := [(0, 1), (0, 2), (1, 2)]
theorem tri_ok : okL 3 tri := ⟨by decide, by decide⟩
theorem tri_need : Need 3 tri 2 [0, 1, 2] := ⟨by decide +kernel, by decide, by decide +kernel, by decide +kernel, by decide +kernel⟩
theorem law_1 {scr d : D} : s_law_1 [some (.imm scr), some (.rt true d), none, none, none, none, none, none, none, none, none, none, none] = some (.nx, [some (.imm scr), some (.rt true d), none, none, none, none, none, none, none, none, none, none, none]) := by
  have w2 := e_Web (n := 2) (L := []) (by omega) ⟨fun p hp => (by cases hp), List.Pairwise.nil⟩
  have w3 := e_Web (n := 3) (L := tri) (by omega) tri_ok
  have n2 := e_needed0 (n := 2)
  obtain ⟨M, S, n3, N⟩ := e_needed (n := 3) (by omega) (by omega) (L := tri) (by decide)
  obtain ⟨rfl, rfl⟩ := N.uniq tri_need
  have e0 : dNeA (.tup [.int 0, .tup []]) (.tup [.int 0, .tup []]) = some (.imm (.bl false)) := ne_self (shp_pair 0 [])
  have e3 : dNeA (.tup [.int 2, eT [0, 1, 2]]) (.tup [.int 2, .tup [.int 0, .int 1, .int 2]]) = some (.imm (.bl false)) := ne_self (shp_pair 2 [0, 1, 2])
  have w2' : m_Web [.rt false (.ins 0 []), .imm (.int 2), .imm (.tup [])] = some (.imm .non, [.rt false (eWeb 2 []), .imm (.int 2), .imm (.tup [])]) := w2
  have w3' : m_Web [.rt false (.ins 0 []), .imm (.int 3), .imm (.tup [.tup [.int 0, .int 1], .tup [.int 0, .int 2], .tup [.int 1, .int 2]])] = some (.imm .non, [.rt false (eWeb 3 tri), .imm (.int 3), .imm (.tup [.tup [.int 0, .int 1], .tup [.int 0, .int 2], .tup [.int 1, .int 2]])]) := w3
  simp only [eWeb] at w2' w3' n2 n3
  simp [s_law_1, a_mVar, a_mC, a_mBin, a_mUn, a_mT, a_mAndT, a_mOrT, a_mNotT, a_mAndV, a_mOrV, a_mNotV, a_mIfE, a_mChain, a_mTup, a_mLst, a_aNil, a_aCons, a_lNil, a_lCons, a_mB, a_mCall, a_cNil, a_cVal, a_cIo, a_mIsi, a_mFld, a_mMake, a_mCch, a_mDNew, a_mSl, a_oNone, a_oSome, a_sNx, a_sSeq, a_sRet, a_sRetN, a_sIf, a_sSet, a_sAsg, a_sPar, a_sDrop, a_sBk, a_sCt, a_gN, a_gsN, a_gsC, a_gT, a_gFld, a_gItem, a_gIx, a_gKey, a_rNil, a_rCons, a_mApp, a_mExt, a_mPop, a_mPopAt, a_wSeq, a_wRng1, a_wRng2, a_wZip, a_wEnum, a_sFor, a_tYesD, a_mRg1, a_mRg2, runF, endD, retD, outsD, List.map_cons, List.map_nil, List.length_cons, List.length_nil, List.replicate_succ, List.replicate_zero, List.replicate, List.cons_append, List.nil_append, cont, getD, freeze, freezeS, conts, svsD, slotsD, backD, noDup0, noDup1, slotsD, keepR, setAll, List.getElem?_cons_zero, List.getElem?_cons_succ, List.set_cons_zero, List.set_cons_succ, ri, rb, if_true, reduceCtorEq, isL, isDic, Bool.not_true, Bool.not_false, w2', w3', n2, n3, e0, e3]
theorem law_true (ns : List Int) : ∃ os, m_law [.imm (.scr ns)] = some (.imm (.bl true), os) := by
  obtain ⟨cells, s, e0⟩ := e_hand ns
  obtain ⟨st, q1, d', x2, x3, x4, x5, x6, x7, x8, x9, x10, x11, x12, hd', rfl⟩ := forD_ints (g := gN 2) (b := (sSeq s_law_4 (sSeq s_law_5 (sSeq s_law_6 s_law_7)))) (fun i st => ∃ d x2 x3 x4 x5 x6 x7 x8 x9 x10 x11 x12, isHand d ∧ st = [some (.imm (.scr ns)), some (.rt true d), x2, x3, x4, x5, x6, x7, x8, x9, x10, x11, x12]) 3 0 (fun i _ hi st ⟨d, x2, x3, x4, x5, x6, x7, x8, x9, x10, x11, x12, hd, e⟩ => by
    subst e
    obtain ⟨d', y3, y4, y5, y6, y7, y8, y9, y10, y11, y12, h1, h2⟩ := law_turn (scr := .scr ns) hd (some (.imm (nI i))) x3 x4 x5 x6 x7 x8 x9 x10 x11 x12
    exact ⟨_, _, rfl, .inl h2, d', _, y3, y4, y5, y6, y7, y8, y9, y10, y11, y12, h1, rfl⟩) [some (.imm (.scr ns)), some (.rt true (handD cells 0 0 s 0)), none, none, none, none, none, none, none, none, none, none, none] ⟨_, none, none, none, none, none, none, none, none, none, none, none, ⟨cells, 0, 0, s, 0, Int.le_refl _, rfl⟩, rfl⟩
  have h0 : s_law_0 [some (.imm (.scr ns)), none, none, none, none, none, none, none, none, none, none, none, none] = some (.nx, [some (.imm (.scr ns)), some (.rt true (handD cells 0 0 s 0)), none, none, none, none, none, none, none, none, none, none, none]) := by
    simp only [s_law_0, a_mVar, a_mC, a_mBin, a_mUn, a_mT, a_mAndT, a_mOrT, a_mNotT, a_mAndV, a_mOrV, a_mNotV, a_mIfE, a_mChain, a_mTup, a_mLst, a_aNil, a_aCons, a_lNil, a_lCons, a_mB, a_mCall, a_cNil, a_cVal, a_cIo, a_mIsi, a_mFld, a_mMake, a_mCch, a_mDNew, a_mSl, a_oNone, a_oSome, a_sNx, a_sSeq, a_sRet, a_sRetN, a_sIf, a_sSet, a_sAsg, a_sPar, a_sDrop, a_sBk, a_sCt, a_gN, a_gsN, a_gsC, a_gT, a_gFld, a_gItem, a_gIx, a_gKey, a_rNil, a_rCons, a_mApp, a_mExt, a_mPop, a_mPopAt, a_wSeq, a_wRng1, a_wRng2, a_wZip, a_wEnum, a_sFor, a_tYesD, a_mRg1, a_mRg2, runF, endD, retD, outsD, List.map_cons, List.map_nil, List.length_cons, List.length_nil, List.replicate_succ, List.replicate_zero, List.replicate, List.cons_append, List.nil_append, cont, getD, freeze, freezeS, conts, svsD, slotsD, backD, noDup0, noDup1, slotsD, keepR, setAll, List.getElem?_cons_zero, List.getElem?_cons_succ, List.set_cons_zero, List.set_cons_succ, ri, rb, if_true, reduceCtorEq, isL, isDic, Bool.not_true, Bool.not_false, e0]
  have h3 : s_law_3 [some (.imm (.scr ns)), some (.rt true (handD cells 0 0 s 0)), none, none, none, none, none, none, none, none, none, none, none] = some (.nx, [some (.imm (.scr ns)), some (.rt true d'), x2, x3, x4, x5, x6, x7, x8, x9, x10, x11, x12]) := by
    have hs : smallI 3 := by unfold smallI; omega
    have hw : wRng1 (aCons (mC (.int 3)) aNil) [some (.imm (.scr ns)), some (.rt true (handD cells 0 0 s 0)), none, none, none, none, none, none, none, none, none, none, none] = some (intsD ((0 : Nat) : Int) 3, [some (.imm (.scr ns)), some (.rt true (handD cells 0 0 s 0)), none, none, none, none, none, none, none, none, none, none, none]) := by
      simp [a_mVar, a_mC, a_mBin, a_mUn, a_mT, a_mAndT, a_mOrT, a_mNotT, a_mAndV, a_mOrV, a_mNotV, a_mIfE, a_mChain, a_mTup, a_mLst, a_aNil, a_aCons, a_lNil, a_lCons, a_mB, a_mCall, a_cNil, a_cVal, a_cIo, a_mIsi, a_mFld, a_mMake, a_mCch, a_mDNew, a_mSl, a_oNone, a_oSome, a_sNx, a_sSeq, a_sRet, a_sRetN, a_sIf, a_sSet, a_sAsg, a_sPar, a_sDrop, a_sBk, a_sCt, a_gN, a_gsN, a_gsC, a_gT, a_gFld, a_gItem, a_gIx, a_gKey, a_rNil, a_rCons, a_mApp, a_mExt, a_mPop, a_mPopAt, a_wSeq, a_wRng1, a_wRng2, a_wZip, a_wEnum, a_sFor, a_tYesD, a_mRg1, a_mRg2, runF, endD, retD, outsD, List.map_cons, List.map_nil, List.length_cons, List.length_nil, List.replicate_succ, List.replicate_zero, List.replicate, List.cons_append, List.nil_append, cont, getD, freeze, freezeS, conts, svsD, slotsD, backD, noDup0, noDup1, slotsD, keepR, setAll, List.getElem?_cons_zero, List.getElem?_cons_succ, List.set_cons_zero, List.set_cons_succ, ri, rb, if_true, reduceCtorEq, isL, isDic, Bool.not_true, Bool.not_false, hs]
    unfold s_law_3
    rw [a_sFor, hw]
    exact q1
  refine ⟨[.imm (.scr ns)], ?_⟩
  simp only [m_law, b_law, s_law_21, a_mVar, a_mC, a_mBin, a_mUn, a_mT, a_mAndT, a_mOrT, a_mNotT, a_mAndV, a_mOrV, a_mNotV, a_mIfE, a_mChain, a_mTup, a_mLst, a_aNil, a_aCons, a_lNil, a_lCons, a_mB, a_mCall, a_cNil, a_cVal, a_cIo, a_mIsi, a_mFld, a_mMake, a_mCch, a_mDNew, a_mSl, a_oNone, a_oSome, a_sNx, a_sSeq, a_sRet, a_sRetN, a_sIf, a_sSet, a_sAsg, a_sPar, a_sDrop, a_sBk, a_sCt, a_gN, a_gsN, a_gsC, a_gT, a_gFld, a_gItem, a_gIx, a_gKey, a_rNil, a_rCons, a_mApp, a_mExt, a_mPop, a_mPopAt, a_wSeq, a_wRng1, a_wRng2, a_wZip, a_wEnum, a_sFor, a_tYesD, a_mRg1, a_mRg2, runF, endD, retD, outsD, List.map_cons, List.map_nil, List.length_cons, List.length_nil, List.replicate_succ, List.replicate_zero, List.replicate, List.cons_append, List.nil_append, cont, getD, freeze, freezeS, conts, svsD, slotsD, backD, noDup0, noDup1, slotsD, keepR, setAll, List.getElem?_cons_zero, List.getElem?_cons_succ, List.set_cons_zero, List.set_cons_succ, ri, rb, if_true, reduceCtorEq, isL, isDic, Bool.not_true, Bool.not_false, h0, law_1, h3]
end LW

namespace LW
open PySem PySem.Spec PyProof.Rows L2 LD
theorem all_mk {l : PySem.W.OpenLaw} {w : World} {K : PySem.W.Frag} {h : Heap} {mg : Str → Option Value} {fa C f0 f1 f2 f3 f4 f5 f6 f7 f8 f9 f10 f11 f12 f13 f14 f15 f16 f17 : Addr} (X : K.In h) (G : h.Ns mainGlobals mg) (hfa : mg "law" = some (.ref fa))
    {od0 an0 od1 an1 od2 an2 od3 an3 od4 an4 od5 an5 od6 an6 od7 an7 od8 an8 od9 an9 od10 an10 od11 an11 od12 an12 od13 an13 od14 an14 od15 an15 od16 an16 od17 an17 : Option Addr} {sl0 sl1 sl2 sl3 sl4 sl5 sl6 sl7 sl8 sl9 sl10 sl11 sl12 sl13 sl14 sl15 sl16 sl17 : Array (Option Value)} {oc0 kV0 dc0 pm0 cd0 ct0 oc1 kV1 dc1 pm1 cd1 ct1 oc2 kV2 dc2 pm2 cd2 ct2 oc3 kV3 dc3 pm3 cd3 ct3 oc4 kV4 dc4 pm4 cd4 ct4 oc5 kV5 dc5 pm5 cd5 ct5 oc6 kV6 dc6 pm6 cd6 ct6 oc7 kV7 dc7 pm7 cd7 ct7 oc8 kV8 dc8 pm8 cd8 ct8 oc9 kV9 dc9 pm9 cd9 ct9 oc10 kV10 dc10 pm10 cd10 ct10 oc11 kV11 dc11 pm11 cd11 ct11 oc12 kV12 dc12 pm12 cd12 ct12 oc13 kV13 dc13 pm13 cd13 ct13 oc14 kV14 dc14 pm14 cd14 ct14 oc15 kV15 dc15 pm15 cd15 ct15 oc16 kV16 dc16 pm16 cd16 ct16 oc17 kV17 dc17 pm17 cd17 ct17 : Value} {tMOST_CORNERS : Tok}
    (a0 : PySem.W.nsIn K mainGlobals "_law_hand" = some (some (.ref f0)))
    (l0 : K.lookup f0 = some ⟨oc0, od0, .func (PySem.W.fnOf "_law_hand" "_law_hand" (defArgs st_law_hand) (defBody st_law_hand) (defScope st_law_hand) .none kV0 dc0 pm0 an0 cd0 ct0), sl0⟩) (c0 : PySem.W.codeIn K cd0 "_law_hand" = true) (k0 : PySem.W.keepIn K (.ref f0) = true)
    (a1 : PySem.W.nsIn K mainGlobals "forests_for" = some (some (.ref f1)))
    (l1 : K.lookup f1 = some ⟨oc1, od1, .func (PySem.W.fnOf "forests_for" "forests_for" (defArgs st_forests_for) (defBody st_forests_for) (defScope st_forests_for) .none kV1 dc1 pm1 an1 cd1 ct1), sl1⟩) (c1 : PySem.W.codeIn K cd1 "forests_for" = true) (k1 : PySem.W.keepIn K (.ref f1) = true)
    (a2 : PySem.W.nsIn K mainGlobals "lots_of" = some (some (.ref f2)))
    (l2 : K.lookup f2 = some ⟨oc2, od2, .func (PySem.W.fnOf "lots_of" "lots_of" (defArgs st_lots_of) (defBody st_lots_of) (defScope st_lots_of) .none kV2 dc2 pm2 an2 cd2 ct2), sl2⟩) (c2 : PySem.W.codeIn K cd2 "lots_of" = true) (k2 : PySem.W.keepIn K (.ref f2) = true)
    (a3 : PySem.W.nsIn K mainGlobals "forests_needed" = some (some (.ref f3)))
    (l3 : K.lookup f3 = some ⟨oc3, od3, .func (PySem.W.fnOf "forests_needed" "forests_needed" (defArgs st_forests_needed) (defBody st_forests_needed) (defScope st_forests_needed) .none kV3 dc3 pm3 an3 cd3 ct3), sl3⟩) (c3 : PySem.W.codeIn K cd3 "forests_needed" = true) (k3 : PySem.W.keepIn K (.ref f3) = true)
    (a4 : PySem.W.nsIn K mainGlobals "_law_draw" = some (some (.ref f4)))
    (l4 : K.lookup f4 = some ⟨oc4, od4, .func (PySem.W.fnOf "_law_draw" "_law_draw" (defArgs st_law_draw) (defBody st_law_draw) (defScope st_law_draw) .none kV4 dc4 pm4 an4 cd4 ct4), sl4⟩) (c4 : PySem.W.codeIn K cd4 "_law_draw" = true) (k4 : PySem.W.keepIn K (.ref f4) = true)
    (a5 : PySem.W.nsIn K mainGlobals "_law_pairs" = some (some (.ref f5)))
    (l5 : K.lookup f5 = some ⟨oc5, od5, .func (PySem.W.fnOf "_law_pairs" "_law_pairs" (defArgs st_law_pairs) (defBody st_law_pairs) (defScope st_law_pairs) .none kV5 dc5 pm5 an5 cd5 ct5), sl5⟩) (c5 : PySem.W.codeIn K cd5 "_law_pairs" = true) (k5 : PySem.W.keepIn K (.ref f5) = true)
    (a6 : PySem.W.nsIn K mainGlobals "_law_lines" = some (some (.ref f6)))
    (l6 : K.lookup f6 = some ⟨oc6, od6, .func (PySem.W.fnOf "_law_lines" "_law_lines" (defArgs st_law_lines) (defBody st_law_lines) (defScope st_law_lines) .none kV6 dc6 pm6 an6 cd6 ct6), sl6⟩) (c6 : PySem.W.codeIn K cd6 "_law_lines" = true) (k6 : PySem.W.keepIn K (.ref f6) = true)
    (a7 : PySem.W.nsIn K mainGlobals "is_integer" = some (some (.ref f7)))
    (l7 : K.lookup f7 = some ⟨oc7, od7, .func (PySem.W.fnOf "is_integer" "is_integer" (defArgs st_is_integer) (defBody st_is_integer) (defScope st_is_integer) .none kV7 dc7 pm7 an7 cd7 ct7), sl7⟩) (c7 : PySem.W.codeIn K cd7 "is_integer" = true) (k7 : PySem.W.keepIn K (.ref f7) = true)
    (a8 : PySem.W.nsIn K mainGlobals "is_within" = some (some (.ref f8)))
    (l8 : K.lookup f8 = some ⟨oc8, od8, .func (PySem.W.fnOf "is_within" "is_within" (defArgs st_is_within) (defBody st_is_within) (defScope st_is_within) .none kV8 dc8 pm8 an8 cd8 ct8), sl8⟩) (c8 : PySem.W.codeIn K cd8 "is_within" = true) (k8 : PySem.W.keepIn K (.ref f8) = true)
    (a9 : PySem.W.nsIn K mainGlobals "is_count" = some (some (.ref f9)))
    (l9 : K.lookup f9 = some ⟨oc9, od9, .func (PySem.W.fnOf "is_count" "is_count" (defArgs st_is_count) (defBody st_is_count) (defScope st_is_count) .none kV9 dc9 pm9 an9 cd9 ct9), sl9⟩) (c9 : PySem.W.codeIn K cd9 "is_count" = true) (k9 : PySem.W.keepIn K (.ref f9) = true)
    (a10 : PySem.W.nsIn K mainGlobals "is_tuple" = some (some (.ref f10)))
    (l10 : K.lookup f10 = some ⟨oc10, od10, .func (PySem.W.fnOf "is_tuple" "is_tuple" (defArgs st_is_tuple) (defBody st_is_tuple) (defScope st_is_tuple) .none kV10 dc10 pm10 an10 cd10 ct10), sl10⟩) (c10 : PySem.W.codeIn K cd10 "is_tuple" = true) (k10 : PySem.W.keepIn K (.ref f10) = true)
    (a11 : PySem.W.nsIn K mainGlobals "is_line" = some (some (.ref f11)))
    (l11 : K.lookup f11 = some ⟨oc11, od11, .func (PySem.W.fnOf "is_line" "is_line" (defArgs st_is_line) (defBody st_is_line) (defScope st_is_line) .none kV11 dc11 pm11 an11 cd11 ct11), sl11⟩) (c11 : PySem.W.codeIn K cd11 "is_line" = true) (k11 : PySem.W.keepIn K (.ref f11) = true)
    (a12 : PySem.W.nsIn K mainGlobals "are_lines" = some (some (.ref f12)))
    (l12 : K.lookup f12 = some ⟨oc12, od12, .func (PySem.W.fnOf "are_lines" "are_lines" (defArgs st_are_lines) (defBody st_are_lines) (defScope st_are_lines) .none kV12 dc12 pm12 an12 cd12 ct12), sl12⟩) (c12 : PySem.W.codeIn K cd12 "are_lines" = true) (k12 : PySem.W.keepIn K (.ref f12) = true)
    (aC : PySem.W.nsIn K mainGlobals "Web" = some (some (.ref C))) (a13 : PySem.W.findIn K (.ref C) "__init__" = some (some (.ref f13))) (i13 : PySem.W.isFn K (.ref f13) = true)
    (l13 : K.lookup f13 = some ⟨oc13, od13, .func (PySem.W.fnOf "__init__" "Web.__init__" (defArgs st_Web) (defBody st_Web) (defScope st_Web) .none kV13 dc13 pm13 an13 cd13 ct13), sl13⟩) (c13 : PySem.W.codeIn K cd13 "Web.__init__" = true) (k13 : PySem.W.keepIn K (.ref f13) = true)
    (a14 : PySem.W.nsIn K mainGlobals "_law_lots" = some (some (.ref f14)))
    (l14 : K.lookup f14 = some ⟨oc14, od14, .func (PySem.W.fnOf "_law_lots" "_law_lots" (defArgs st_law_lots) (defBody st_law_lots) (defScope st_law_lots) .none kV14 dc14 pm14 an14 cd14 ct14), sl14⟩) (c14 : PySem.W.codeIn K cd14 "_law_lots" = true) (k14 : PySem.W.keepIn K (.ref f14) = true)
    (a15 : PySem.W.nsIn K mainGlobals "_law_no_ring" = some (some (.ref f15)))
    (l15 : K.lookup f15 = some ⟨oc15, od15, .func (PySem.W.fnOf "_law_no_ring" "_law_no_ring" (defArgs st_law_no_ring) (defBody st_law_no_ring) (defScope st_law_no_ring) .none kV15 dc15 pm15 an15 cd15 ct15), sl15⟩) (c15 : PySem.W.codeIn K cd15 "_law_no_ring" = true) (k15 : PySem.W.keepIn K (.ref f15) = true)
    (a16 : PySem.W.nsIn K mainGlobals "_law_dealt" = some (some (.ref f16)))
    (l16 : K.lookup f16 = some ⟨oc16, od16, .func (PySem.W.fnOf "_law_dealt" "_law_dealt" (defArgs st_law_dealt) (defBody st_law_dealt) (defScope st_law_dealt) .none kV16 dc16 pm16 an16 cd16 ct16), sl16⟩) (c16 : PySem.W.codeIn K cd16 "_law_dealt" = true) (k16 : PySem.W.keepIn K (.ref f16) = true)
    (a17 : PySem.W.nsIn K mainGlobals "law" = some (some (.ref f17)))
    (l17 : K.lookup f17 = some ⟨oc17, od17, .func (PySem.W.fnOf "law" "law" (defArgs st_law) (defBody st_law) (defScope st_law) .none kV17 dc17 pm17 an17 cd17 ct17), sl17⟩) (c17 : PySem.W.codeIn K cd17 "law" = true) (k17 : PySem.W.keepIn K (.ref f17) = true)
    (pg : PySem.W.plainGet K C Str.empty = true) (hd : PySem.W.hasDictIn K C = true) (po : PySem.W.plainOver K C = true) (sa : PySem.W.findIn K (.ref C) "__setattr__" = some (some (.builtin "object.__setattr__"))) (mk : PySem.W.makesIn K C = true) (kc : PySem.W.keepIn K (.ref C) = true)
    (n_corners : PySem.W.findIn K (.ref C) "corners" = some none)
    (n_lines : PySem.W.findIn K (.ref C) "lines" = some none)
    (n_looked : PySem.W.findIn K (.ref C) "looked" = some none)
    (z_abs : PySem.W.nsIn K mainGlobals "abs" = some none)
    (z_all : PySem.W.nsIn K mainGlobals "all" = some none)
    (z_bool : PySem.W.nsIn K mainGlobals "bool" = some none)
    (z_int : PySem.W.nsIn K mainGlobals "int" = some none)
    (z_isinstance : PySem.W.nsIn K mainGlobals "isinstance" = some none)
    (z_len : PySem.W.nsIn K mainGlobals "len" = some none)
    (z_list : PySem.W.nsIn K mainGlobals "list" = some none)
    (z_max : PySem.W.nsIn K mainGlobals "max" = some none)
    (z_min : PySem.W.nsIn K mainGlobals "min" = some none)
    (z_range : PySem.W.nsIn K mainGlobals "range" = some none)
    (z_set : PySem.W.nsIn K mainGlobals "set" = some none)
    (z_sorted : PySem.W.nsIn K mainGlobals "sorted" = some none)
    (z_tuple : PySem.W.nsIn K mainGlobals "tuple" = some none)
    (z_zip : PySem.W.nsIn K mainGlobals "zip" = some none)
    (q_MOST_CORNERS : PySem.W.nsIn K mainGlobals "MOST_CORNERS" = some (some (.int 7 tMOST_CORNERS)))
    : ∃ fd : FuncData, (∀ (s : Shared) (v : Value), BindsTo s fd ⟨[v], []⟩ [("script", v)]) ∧ ∀ base : Heap, K.In base → base.Ns mainGlobals mg → FnOk l.prog w K mg base CX0 7 fa fd ["script"] (LD.spLaw K) := by
  have e := hfa.symm.trans (PySem.W.mg_of X G a17)
  cases e
  have F0 := fun_mk (st := st_law_hand) l0 c0 k0
  have b0 := F0.binds (ps := ["script"]) fun _ _ _ _ _ _ us hl => match us, hl with | [_], _ => rfl
  have F1 := fun_mk (st := st_forests_for) l1 c1 k1
  have b1 := F1.binds (ps := ["web", "lot"]) fun _ _ _ _ _ _ us hl => match us, hl with | [_, _], _ => rfl
  have F2 := fun_mk (st := st_lots_of) l2 c2 k2
  have b2 := F2.binds (ps := ["corners"]) fun _ _ _ _ _ _ us hl => match us, hl with | [_], _ => rfl
  have F3 := fun_mk (st := st_forests_needed) l3 c3 k3
  have b3 := F3.binds (ps := ["web"]) fun _ _ _ _ _ _ us hl => match us, hl with | [_], _ => rfl
  have F4 := fun_mk (st := st_law_draw) l4 c4 k4
  have b4 := F4.binds (ps := ["hand", "sides"]) fun _ _ _ _ _ _ us hl => match us, hl with | [_, _], _ => rfl
  have F5 := fun_mk (st := st_law_pairs) l5 c5 k5
  have b5 := F5.binds (ps := ["corners"]) fun _ _ _ _ _ _ us hl => match us, hl with | [_], _ => rfl
  have F6 := fun_mk (st := st_law_lines) l6 c6 k6
  have b6 := F6.binds (ps := ["hand", "corners"]) fun _ _ _ _ _ _ us hl => match us, hl with | [_, _], _ => rfl
  have F7 := fun_mk (st := st_is_integer) l7 c7 k7
  have b7 := F7.binds (ps := ["thing"]) fun _ _ _ _ _ _ us hl => match us, hl with | [_], _ => rfl
  have F8 := fun_mk (st := st_is_within) l8 c8 k8
  have b8 := F8.binds (ps := ["thing", "low", "high"]) fun _ _ _ _ _ _ us hl => match us, hl with | [_, _, _], _ => rfl
  have F9 := fun_mk (st := st_is_count) l9 c9 k9
  have b9 := F9.binds (ps := ["thing"]) fun _ _ _ _ _ _ us hl => match us, hl with | [_], _ => rfl
  have F10 := fun_mk (st := st_is_tuple) l10 c10 k10
  have b10 := F10.binds (ps := ["thing", "least", "most"]) fun _ _ _ _ _ _ us hl => match us, hl with | [_, _, _], _ => rfl
  have F11 := fun_mk (st := st_is_line) l11 c11 k11
  have b11 := F11.binds (ps := ["corners", "thing"]) fun _ _ _ _ _ _ us hl => match us, hl with | [_, _], _ => rfl
  have F12 := fun_mk (st := st_are_lines) l12 c12 k12
  have b12 := F12.binds (ps := ["corners", "thing"]) fun _ _ _ _ _ _ us hl => match us, hl with | [_, _], _ => rfl
  have F13 := fun_mk (st := st_Web) l13 c13 k13
  have b13 := F13.binds (ps := ["self", "corners", "lines"]) fun _ _ _ _ _ _ us hl => match us, hl with | [_, _, _], _ => rfl
  have F14 := fun_mk (st := st_law_lots) l14 c14 k14
  have b14 := F14.binds (ps := ["corners"]) fun _ _ _ _ _ _ us hl => match us, hl with | [_], _ => rfl
  have F15 := fun_mk (st := st_law_no_ring) l15 c15 k15
  have b15 := F15.binds (ps := ["corners", "lines"]) fun _ _ _ _ _ _ us hl => match us, hl with | [_, _], _ => rfl
  have F16 := fun_mk (st := st_law_dealt) l16 c16 k16
  have b16 := F16.binds (ps := ["corners", "lines", "many"]) fun _ _ _ _ _ _ us hl => match us, hl with | [_, _, _], _ => rfl
  have F17 := fun_mk (st := st_law) l17 c17 k17
  have b17 := F17.binds (ps := ["script"]) fun _ _ _ _ _ _ us hl => match us, hl with | [_], _ => rfl
  have T : Tx K mg (fun i => [f0, f1, f2, f3, f4, f5, f6, f7, f8, f9, f10, f11, f12, f13, f14, f15, f16, fa].getD i 0) (fun i => [PySem.W.fnOf "_law_hand" "_law_hand" (defArgs st_law_hand) (defBody st_law_hand) (defScope st_law_hand) .none kV0 dc0 pm0 an0 cd0 ct0, PySem.W.fnOf "forests_for" "forests_for" (defArgs st_forests_for) (defBody st_forests_for) (defScope st_forests_for) .none kV1 dc1 pm1 an1 cd1 ct1, PySem.W.fnOf "lots_of" "lots_of" (defArgs st_lots_of) (defBody st_lots_of) (defScope st_lots_of) .none kV2 dc2 pm2 an2 cd2 ct2, PySem.W.fnOf "forests_needed" "forests_needed" (defArgs st_forests_needed) (defBody st_forests_needed) (defScope st_forests_needed) .none kV3 dc3 pm3 an3 cd3 ct3, PySem.W.fnOf "_law_draw" "_law_draw" (defArgs st_law_draw) (defBody st_law_draw) (defScope st_law_draw) .none kV4 dc4 pm4 an4 cd4 ct4, PySem.W.fnOf "_law_pairs" "_law_pairs" (defArgs st_law_pairs) (defBody st_law_pairs) (defScope st_law_pairs) .none kV5 dc5 pm5 an5 cd5 ct5, PySem.W.fnOf "_law_lines" "_law_lines" (defArgs st_law_lines) (defBody st_law_lines) (defScope st_law_lines) .none kV6 dc6 pm6 an6 cd6 ct6, PySem.W.fnOf "is_integer" "is_integer" (defArgs st_is_integer) (defBody st_is_integer) (defScope st_is_integer) .none kV7 dc7 pm7 an7 cd7 ct7, PySem.W.fnOf "is_within" "is_within" (defArgs st_is_within) (defBody st_is_within) (defScope st_is_within) .none kV8 dc8 pm8 an8 cd8 ct8, PySem.W.fnOf "is_count" "is_count" (defArgs st_is_count) (defBody st_is_count) (defScope st_is_count) .none kV9 dc9 pm9 an9 cd9 ct9, PySem.W.fnOf "is_tuple" "is_tuple" (defArgs st_is_tuple) (defBody st_is_tuple) (defScope st_is_tuple) .none kV10 dc10 pm10 an10 cd10 ct10, PySem.W.fnOf "is_line" "is_line" (defArgs st_is_line) (defBody st_is_line) (defScope st_is_line) .none kV11 dc11 pm11 an11 cd11 ct11, PySem.W.fnOf "are_lines" "are_lines" (defArgs st_are_lines) (defBody st_are_lines) (defScope st_are_lines) .none kV12 dc12 pm12 an12 cd12 ct12, PySem.W.fnOf "__init__" "Web.__init__" (defArgs st_Web) (defBody st_Web) (defScope st_Web) .none kV13 dc13 pm13 an13 cd13 ct13, PySem.W.fnOf "_law_lots" "_law_lots" (defArgs st_law_lots) (defBody st_law_lots) (defScope st_law_lots) .none kV14 dc14 pm14 an14 cd14 ct14, PySem.W.fnOf "_law_no_ring" "_law_no_ring" (defArgs st_law_no_ring) (defBody st_law_no_ring) (defScope st_law_no_ring) .none kV15 dc15 pm15 an15 cd15 ct15, PySem.W.fnOf "_law_dealt" "_law_dealt" (defArgs st_law_dealt) (defBody st_law_dealt) (defScope st_law_dealt) .none kV16 dc16 pm16 an16 cd16 ct16, PySem.W.fnOf "law" "law" (defArgs st_law) (defBody st_law) (defScope st_law) .none kV17 dc17 pm17 an17 cd17 ct17].getD i (PySem.W.fnOf "_law_hand" "_law_hand" (defArgs st_law_hand) (defBody st_law_hand) (defScope st_law_hand) .none kV0 dc0 pm0 an0 cd0 ct0)) C := {
    z_abs := PySem.W.mg_none_of X G z_abs
    z_all := PySem.W.mg_none_of X G z_all
    z_bool := PySem.W.mg_none_of X G z_bool
    z_int := PySem.W.mg_none_of X G z_int
    z_isinstance := PySem.W.mg_none_of X G z_isinstance
    z_len := PySem.W.mg_none_of X G z_len
    z_list := PySem.W.mg_none_of X G z_list
    z_max := PySem.W.mg_none_of X G z_max
    z_min := PySem.W.mg_none_of X G z_min
    z_range := PySem.W.mg_none_of X G z_range
    z_set := PySem.W.mg_none_of X G z_set
    z_sorted := PySem.W.mg_none_of X G z_sorted
    z_tuple := PySem.W.mg_none_of X G z_tuple
    z_zip := PySem.W.mg_none_of X G z_zip
    c_MOST_CORNERS := ⟨_, PySem.W.mg_of X G q_MOST_CORNERS⟩
    f_law_hand := F0
    b_law_hand := b0
    m_law_hand := PySem.W.mg_of X G a0
    k_law_hand := k0
    f_forests_for := F1
    b_forests_for := b1
    m_forests_for := PySem.W.mg_of X G a1
    k_forests_for := k1
    f_lots_of := F2
    b_lots_of := b2
    m_lots_of := PySem.W.mg_of X G a2
    k_lots_of := k2
    f_forests_needed := F3
    b_forests_needed := b3
    m_forests_needed := PySem.W.mg_of X G a3
    k_forests_needed := k3
    f_law_draw := F4
    b_law_draw := b4
    m_law_draw := PySem.W.mg_of X G a4
    k_law_draw := k4
    f_law_pairs := F5
    b_law_pairs := b5
    m_law_pairs := PySem.W.mg_of X G a5
    k_law_pairs := k5
    f_law_lines := F6
    b_law_lines := b6
    m_law_lines := PySem.W.mg_of X G a6
    k_law_lines := k6
    f_is_integer := F7
    b_is_integer := b7
    m_is_integer := PySem.W.mg_of X G a7
    k_is_integer := k7
    f_is_within := F8
    b_is_within := b8
    m_is_within := PySem.W.mg_of X G a8
    k_is_within := k8
    f_is_count := F9
    b_is_count := b9
    m_is_count := PySem.W.mg_of X G a9
    k_is_count := k9
    f_is_tuple := F10
    b_is_tuple := b10
    m_is_tuple := PySem.W.mg_of X G a10
    k_is_tuple := k10
    f_is_line := F11
    b_is_line := b11
    m_is_line := PySem.W.mg_of X G a11
    k_is_line := k11
    f_are_lines := F12
    b_are_lines := b12
    m_are_lines := PySem.W.mg_of X G a12
    k_are_lines := k12
    f_Web := F13
    b_Web := b13
    m_Web := PySem.W.mg_of X G aC
    mkW := ⟨mk, a13, i13, kc⟩
    cl := ⟨pg, hd, po, sa⟩
    na_corners := n_corners
    na_lines := n_lines
    na_looked := n_looked
    f_law_lots := F14
    b_law_lots := b14
    m_law_lots := PySem.W.mg_of X G a14
    k_law_lots := k14
    f_law_no_ring := F15
    b_law_no_ring := b15
    m_law_no_ring := PySem.W.mg_of X G a15
    k_law_no_ring := k15
    f_law_dealt := F16
    b_law_dealt := b16
    m_law_dealt := PySem.W.mg_of X G a16
    k_law_dealt := k16
    f_law := F17
    b_law := b17
    m_law := PySem.W.mg_of X G a17
    k_law := k17
  }
  exact ⟨PySem.W.fnOf "law" "law" (defArgs st_law) (defBody st_law) (defScope st_law) .none kV17 dc17 pm17 an17 cd17 ct17, fun s v => .of_eq rfl, fun base _ _ => law_ok (G := mkG l.prog w K C) (ok_law T) fun ns _ => law_true ns⟩
theorem walk {l : PySem.W.OpenLaw} {q : Program} {loose : List Str} {XP : (Str → Option Value) → Heap → Prop} {YP : World → Heap → Prop} {d : DefRec} {K : Params → PySem.W.Frag} (hn : l.most = some 63) (hdf : d.params.defaults = [])
    (hY : ∀ (w : World) (h : Heap), YP w h → (K w.params).In h)
    (F : ∀ (w : World) (mg : Str → Option Value) (fa : Addr) (h : Heap), (K w.params).In h → h.Ns mainGlobals mg → mg d.name = some (.ref fa) →
      ∃ fd : FuncData, (∀ (s : Shared) (u : Value), BindsTo s fd ⟨[u], []⟩ [("script", u)]) ∧ ∀ base : Heap, (K w.params).In base → base.Ns mainGlobals mg → FnOk l.prog w (K w.params) mg base CX0 7 fa fd ["script"] (LD.spLaw (K w.params))) :
    PySem.W.WalkO q loose XP YP l.row.toRowW d [] (fun f vs => PySem.call f vs) :=
  L2.walk_of (n := 63) (k := 7) (x := "script") (CX := fun _ => CX0) (sp := fun w => LD.spLaw (K w.params)) hn (by decide) hdf ⟨rfl, by decide, by decide⟩ hY F (fun _ _ a ns hl hO hS => ⟨a, ns, rfl, hS, hl, hO, fun _ _ e => e⟩) fun _ _ _ _ _ z => z
end LW

open PySem PySem.W PyProof.Rows in
set_option maxRecDepth 100000 in
set_option maxHeartbeats 0 in
theorem PySem.Challenge.cw_cornerwebs_k81_whole_forests_that_have_a_holds : PySem.Challenge.rw_cornerwebs_k81_whole_forests_that_have_a.Holds := by
  w_on; o_law; k_head; (case hw => w_witness2)
  k_fill
  refine LW.walk (l := PySem.Challenge.rw_cornerwebs_k81_whole_forests_that_have_a) rfl rfl (fun w h Y => PySem.W.kIn_of Y) ?F
  case F =>
    intro w mg fa h KX G hmg
    refine' LW.all_mk KX G hmg ?a0 ?l0 ?c0 ?k0 ?a1 ?l1 ?c1 ?k1 ?a2 ?l2 ?c2 ?k2 ?a3 ?l3 ?c3 ?k3 ?a4 ?l4 ?c4 ?k4 ?a5 ?l5 ?c5 ?k5 ?a6 ?l6 ?c6 ?k6 ?a7 ?l7 ?c7 ?k7 ?a8 ?l8 ?c8 ?k8 ?a9 ?l9 ?c9 ?k9 ?a10 ?l10 ?c10 ?k10 ?a11 ?l11 ?c11 ?k11 ?a12 ?l12 ?c12 ?k12 ?aC ?a13 ?i13 ?l13 ?c13 ?k13 ?a14 ?l14 ?c14 ?k14 ?a15 ?l15 ?c15 ?k15 ?a16 ?l16 ?c16 ?k16 ?a17 ?l17 ?c17 ?k17 ?pg ?hd ?po ?sa ?mk ?kc ?n_corners ?n_lines ?n_looked ?z_abs ?z_all ?z_bool ?z_int ?z_isinstance ?z_len ?z_list ?z_max ?z_min ?z_range ?z_set ?z_sorted ?z_tuple ?z_zip ?q_MOST_CORNERS
    (case a0 => k_is)
    (case l0 => k_is)
    (case c0 => k_is)
    (case k0 => k_is)
    (case a1 => k_is)
    (case l1 => k_is)
    (case c1 => k_is)
    (case k1 => k_is)
    (case a2 => k_is)
    (case l2 => k_is)
    (case c2 => k_is)
    (case k2 => k_is)
    (case a3 => k_is)
    (case l3 => k_is)
    (case c3 => k_is)
    (case k3 => k_is)
    (case a4 => k_is)
    (case l4 => k_is)
    (case c4 => k_is)
    (case k4 => k_is)
    (case a5 => k_is)
    (case l5 => k_is)
    (case c5 => k_is)
    (case k5 => k_is)
    (case a6 => k_is)
    (case l6 => k_is)
    (case c6 => k_is)
    (case k6 => k_is)
    (case a7 => k_is)
    (case l7 => k_is)
    (case c7 => k_is)
    (case k7 => k_is)
    (case a8 => k_is)
    (case l8 => k_is)
    (case c8 => k_is)
    (case k8 => k_is)
    (case a9 => k_is)
    (case l9 => k_is)
    (case c9 => k_is)
    (case k9 => k_is)
    (case a10 => k_is)
    (case l10 => k_is)
    (case c10 => k_is)
    (case k10 => k_is)
    (case a11 => k_is)
    (case l11 => k_is)
    (case c11 => k_is)
    (case k11 => k_is)
    (case a12 => k_is)
    (case l12 => k_is)
    (case c12 => k_is)
    (case k12 => k_is)
    (case aC => k_is)
    (case a13 => k_is)
    (case i13 => k_is)
    (case l13 => k_is)
    (case c13 => k_is)
    (case k13 => k_is)
    (case a14 => k_is)
    (case l14 => k_is)
    (case c14 => k_is)
    (case k14 => k_is)
    (case a15 => k_is)
    (case l15 => k_is)
    (case c15 => k_is)
    (case k15 => k_is)
    (case a16 => k_is)
    (case l16 => k_is)
    (case c16 => k_is)
    (case k16 => k_is)
    (case a17 => k_is)
    (case l17 => k_is)
    (case c17 => k_is)
    (case k17 => k_is)
    (case pg => k_is)
    (case hd => k_is)
    (case po => k_is)
    (case sa => k_is)
    (case mk => k_is)
    (case kc => k_is)
    (case n_corners => k_is)
    (case n_lines => k_is)
    (case n_looked => k_is)
    (case z_abs => k_is)
    (case z_all => k_is)
    (case z_bool => k_is)
    (case z_int => k_is)
    (case z_isinstance => k_is)
    (case z_len => k_is)
    (case z_list => k_is)
    (case z_max => k_is)
    (case z_min => k_is)
    (case z_range => k_is)
    (case z_set => k_is)
    (case z_sorted => k_is)
    (case z_tuple => k_is)
    (case z_zip => k_is)
    (case q_MOST_CORNERS => k_is)

