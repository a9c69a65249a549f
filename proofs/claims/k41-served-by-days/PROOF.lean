import PyProof.Rows.All
import Wide.All
import OpenK.AllK
import Wide.FinOn
import HandS.ForMost
import HandS.Walk
import HandS.Wide
import HandS.TupAny
import HandS.TupMul
import HandS.TupLe
import HandS.IsInst
import HandS.SortInts
import HandS.Zip
import KE.DataMinMax
import PyProof.SumWalkG
import KE.GoesNew
import KE.DatumOrd
import HandS.Gcd
import HandS.SortKw
import KE.SortData
import KE.OsSort
import PyProof.TupleOfSeq
import KE.GoesZip
import KE.GoesMore
import HandS.Text
import HandS.Codes
import HandS.More
import HandS.CallLocal
import HandS.Style
import HandS.Conv
import PySem.Challenge.RW_oncecounted_k41_served_by_days
set_option Elab.async false
set_option linter.all false
set_option maxRecDepth 100000
/-! Value layer, part 1: plain data, how it lies in the heap, the state of a def's body (slots, owned lists, a world). -/
namespace Ld
open PySem PySem.Spec PyProof.Rows L2

/-- plain data -/
inductive D where
  | non | bl (b : Bool) | int (i : Int) | str (x : Str) | ty (n : String) | ref (a : Addr)
  | lst (xs : List D) | tup (xs : List D) | dct (kvs : List (D × D)) | scr (xs : List D)

mutual
/-- no list, no dict, no bare reference within -/
def imm : D → Bool
  | .non => true
  | .bl _ => true
  | .int _ => true
  | .str _ => true
  | .ty _ => true
  | .ref _ => false
  | .lst _ => false
  | .tup xs => imms xs
  | .dct _ => false
  | .scr _ => false
def imms : List D → Bool
  | [] => true
  | x :: xs => imm x && imms xs
end

def kD : Key → D
  | .inl i => .int i
  | .inr x => .str x

/-- a tuple: tracked, or of the written part -/
def TupAt (K : PySem.W.Frag) (F : Hp) (a : Addr) (xs : List V) : Prop := F a = some (.tup xs) ∨ ∃ (o : Obj) (its : Array Value) (n : Nat), K.lookup a = some o ∧ o.cls = .type "tuple" ∧ o.data = .seq its n ∧ its.size ≤ sizeLine ∧ Vals xs its.toList
theorem TupAt.sq {K : PySem.W.Frag} {F : Hp} {a : Addr} {xs : List V} (h : TupAt K F a xs) : SqT K F a xs := h.imp (fun h => .inl h) id
mutual
/-- a value lies in the heap F as the data -/
inductive Rp (K : PySem.W.Frag) (F : Hp) : V → D → Prop
  | non : Rp K F .non .non
  | bl (b : Bool) : Rp K F (.bl b) (.bl b)
  | int (i : Int) : Rp K F (.int i) (.int i)
  | str (x : Str) : Rp K F (.str x) (.str x)
  | ty (n : String) : Rp K F (.ty n) (.ty n)
  | ref (a : Addr) : Rp K F (.ref a) (.ref a)
  | lst {a : Addr} {vs : List V} {ds : List D} : Rd F a (.lst vs) → RpAll K F vs ds → Rp K F (.ref a) (.lst ds)
  | tup {a : Addr} {vs : List V} {ds : List D} : TupAt K F a vs → RpAll K F vs ds → Rp K F (.ref a) (.tup ds)
  | scr {a : Addr} {vs : List V} {ds : List D} : SqL K F a vs → RpAll K F vs ds → Rp K F (.ref a) (.scr ds)
  | dK {a : Addr} {kvs : List (Key × V)} {ds : List (D × D)} : Rd F a (.dK kvs) → RpK K F kvs ds → Rp K F (.ref a) (.dct ds)
  | dT {a : Addr} {kvs : List (List Key × V)} {ds : List (D × D)} : Rd F a (.dT kvs) → RpT K F kvs ds → Rp K F (.ref a) (.dct ds)
inductive RpAll (K : PySem.W.Frag) (F : Hp) : List V → List D → Prop
  | nil : RpAll K F [] []
  | cons {v : V} {vs : List V} {d : D} {ds : List D} : Rp K F v d → RpAll K F vs ds → RpAll K F (v :: vs) (d :: ds)
inductive RpK (K : PySem.W.Frag) (F : Hp) : List (Key × V) → List (D × D) → Prop
  | nil : RpK K F [] []
  | cons {k : Key} {v : V} {kvs : List (Key × V)} {d : D} {ds : List (D × D)} : Rp K F v d → RpK K F kvs ds → RpK K F ((k, v) :: kvs) ((kD k, d) :: ds)
inductive RpT (K : PySem.W.Frag) (F : Hp) : List (List Key × V) → List (D × D) → Prop
  | nil : RpT K F [] []
  | cons {k : List Key} {v : V} {kvs : List (List Key × V)} {d : D} {ds : List (D × D)} : Rp K F v d → RpT K F kvs ds → RpT K F ((k, v) :: kvs) ((.tup (k.map kD), d) :: ds)
end

/-- all that stands in F stands in G -/
def Sub (F G : Hp) : Prop := ∀ a o, F a = some o → G a = some o
theorem Sub.refl (F : Hp) : Sub F F := fun _ _ h => h
theorem Sub.trans {F G H : Hp} (x : Sub F G) (y : Sub G H) : Sub F H := fun a o h => y a o (x a o h)
section
variable {K : PySem.W.Frag} {F G : Hp}
theorem Sub.rd {a : Addr} {o : HO} (s : Sub F G) (h : Rd F a o) : Rd G a o := by
  rcases h with h | ⟨ob, h⟩
  · exact .inl (s _ _ h)
  · exact .inr ⟨ob, s _ _ h⟩
theorem Sub.seqL {a : Addr} {xs : List V} (s : Sub F G) (h : SqL K F a xs) : SqL K G a xs := by
  rcases h with h | h
  · exact .inl (s.rd h)
  · exact .inr h
theorem Sub.seqT {a : Addr} {xs : List V} (s : Sub F G) (h : SqT K F a xs) : SqT K G a xs := by
  rcases h with h | h
  · exact .inl (s.rd h)
  · exact .inr h
mutual
theorem Rp.mono (s : Sub F G) : ∀ {v : V} {d : D}, Rp K F v d → Rp K G v d
  | _, _, .non => .non
  | _, _, .bl b => .bl b
  | _, _, .int i => .int i
  | _, _, .str x => .str x
  | _, _, .ty n => .ty n
  | _, _, .ref a => .ref a
  | _, _, .lst h r => .lst (s.rd h) (RpAll.mono s r)
  | _, _, .tup h r => .tup (h.imp (s _ _) id) (RpAll.mono s r)
  | _, _, .scr h r => .scr (s.seqL h) (RpAll.mono s r)
  | _, _, .dK h r => .dK (s.rd h) (RpK.mono s r)
  | _, _, .dT h r => .dT (s.rd h) (RpT.mono s r)
theorem RpAll.mono (s : Sub F G) : ∀ {vs : List V} {ds : List D}, RpAll K F vs ds → RpAll K G vs ds
  | _, _, .nil => .nil
  | _, _, .cons h r => .cons (Rp.mono s h) (RpAll.mono s r)
theorem RpK.mono (s : Sub F G) : ∀ {kvs : List (Key × V)} {ds : List (D × D)}, RpK K F kvs ds → RpK K G kvs ds
  | _, _, .nil => .nil
  | _, _, .cons h r => .cons (Rp.mono s h) (RpK.mono s r)
theorem RpT.mono (s : Sub F G) : ∀ {kvs : List (List Key × V)} {ds : List (D × D)}, RpT K F kvs ds → RpT K G kvs ds
  | _, _, .nil => .nil
  | _, _, .cons h r => .cons (Rp.mono s h) (RpT.mono s r)
end
/-- the tuples alone -/
def tupsOf (F : Hp) : Hp := fun a => match F a with
  | some (.tup xs) => some (.tup xs)
  | _ => none
theorem tupsOf_at {a : Addr} {xs : List V} (h : TupAt K F a xs) : TupAt K (tupsOf F) a xs := by
  rcases h with h | h
  · exact .inl (by unfold tupsOf; rw [h])
  · exact .inr h
theorem tupsOf_some {a : Addr} {o : HO} (h : tupsOf F a = some o) : ∃ xs, o = .tup xs ∧ F a = some (.tup xs) := by
  unfold tupsOf at h
  split at h
  · rename_i xs e
    cases h
    exact ⟨xs, rfl, e⟩
  · cases h
mutual
theorem Rp.imm : ∀ {v : V} {d : D}, Rp K F v d → imm d = true → Rp K (tupsOf F) v d
  | _, _, .non, _ => .non
  | _, _, .bl b, _ => .bl b
  | _, _, .int i, _ => .int i
  | _, _, .str x, _ => .str x
  | _, _, .ty n, _ => .ty n
  | _, _, .ref a, h => by simp [Ld.imm] at h
  | _, _, .lst _ _, h => by simp [Ld.imm] at h
  | _, _, .tup h r, e => .tup (tupsOf_at h) (RpAll.imm r (by simpa [Ld.imm] using e))
  | _, _, .scr _ _, h => by simp [Ld.imm] at h
  | _, _, .dK _ _, h => by simp [Ld.imm] at h
  | _, _, .dT _ _, h => by simp [Ld.imm] at h
theorem RpAll.imm : ∀ {vs : List V} {ds : List D}, RpAll K F vs ds → imms ds = true → RpAll K (tupsOf F) vs ds
  | _, _, .nil, _ => .nil
  | _, _, .cons h r, e => by
    simp only [imms, Bool.and_eq_true] at e
    exact .cons (Rp.imm h e.1) (RpAll.imm r e.2)
end
theorem RpAll.length : ∀ {vs : List V} {ds : List D}, RpAll K F vs ds → vs.length = ds.length
  | _, _, .nil => rfl
  | _, _, .cons _ r => by simp [RpAll.length r]
theorem RpAll.get : ∀ {vs : List V} {ds : List D} {i : Nat} {d : D}, RpAll K F vs ds → ds[i]? = some d → ∃ v, vs[i]? = some v ∧ Rp K F v d
  | _, _, _, _, .nil, e => by simp at e
  | _, _, 0, _, .cons h _, e => by simp at e; subst e; exact ⟨_, rfl, h⟩
  | _, _, i + 1, d, .cons _ r, e => by
    obtain ⟨v, h1, h2⟩ := RpAll.get (i := i) (d := d) r (by simpa using e)
    exact ⟨v, by simpa using h1, h2⟩
theorem RpAll.getV : ∀ {vs : List V} {ds : List D} {i : Nat} {v : V}, RpAll K F vs ds → vs[i]? = some v → ∃ d, ds[i]? = some d ∧ Rp K F v d
  | _, _, _, _, .nil, e => by simp at e
  | _, _, 0, _, .cons h _, e => by simp at e; subst e; exact ⟨_, rfl, h⟩
  | _, _, i + 1, d, .cons _ r, e => by
    obtain ⟨v, h1, h2⟩ := RpAll.getV (i := i) (v := d) r (by simpa using e)
    exact ⟨v, by simpa using h1, h2⟩
theorem RpAll.append : ∀ {vs ws : List V} {ds es : List D}, RpAll K F vs ds → RpAll K F ws es → RpAll K F (vs ++ ws) (ds ++ es)
  | _, _, _, _, .nil, r => r
  | _, _, _, _, .cons h r, q => .cons h (RpAll.append r q)
theorem RpAll.take : ∀ {vs : List V} {ds : List D} (n : Nat), RpAll K F vs ds → RpAll K F (vs.take n) (ds.take n)
  | _, _, 0, _ => by simpa using .nil
  | _, _, _ + 1, .nil => by simpa using .nil
  | _, _, n + 1, .cons h r => by simpa using .cons h (RpAll.take n r)
theorem RpAll.drop : ∀ {vs : List V} {ds : List D} (n : Nat), RpAll K F vs ds → RpAll K F (vs.drop n) (ds.drop n)
  | _, _, 0, r => by simpa using r
  | _, _, _ + 1, .nil => by simpa using .nil
  | _, _, n + 1, .cons _ r => by simpa using RpAll.drop n r
theorem RpAll.set {v : V} {d : D} (q : Rp K F v d) : ∀ {vs : List V} {ds : List D} (n : Nat), RpAll K F vs ds → RpAll K F (vs.set n v) (ds.set n d)
  | _, _, _, .nil => by simpa using .nil
  | _, _, 0, .cons h r => by simpa using .cons q r
  | _, _, n + 1, .cons h r => by simpa using .cons h (RpAll.set q n r)
theorem RpAll.dropLast {vs : List V} {ds : List D} (r : RpAll K F vs ds) : RpAll K F vs.dropLast ds.dropLast := by
  rw [List.dropLast_eq_take, List.dropLast_eq_take, r.length]
  exact r.take _
theorem RpAll.eraseIdx : ∀ {vs : List V} {ds : List D} (n : Nat), RpAll K F vs ds → RpAll K F (vs.eraseIdx n) (ds.eraseIdx n)
  | _, _, _, .nil => by simpa using .nil
  | _, _, 0, .cons h r => by simpa using r
  | _, _, n + 1, .cons h r => by simpa using .cons h (RpAll.eraseIdx n r)
theorem RpAll.reverse {vs : List V} {ds : List D} (r : RpAll K F vs ds) : RpAll K F vs.reverse ds.reverse := by
  have go : ∀ {vs : List V} {ds : List D}, RpAll K F vs ds → RpAll K F vs.reverse ds.reverse := by
    intro vs
    induction vs with
    | nil => intro ds r; cases r; exact .nil
    | cons v vs ih =>
      intro ds r
      cases r with
      | cons h r => simp only [List.reverse_cons]; exact (ih r).append (.cons h .nil)
  exact go r
theorem RpAll.replicate {v : V} {d : D} (q : Rp K F v d) : ∀ n : Nat, RpAll K F (List.replicate n v) (List.replicate n d)
  | 0 => by simpa using .nil
  | n + 1 => by simpa [List.replicate_succ] using .cons q (RpAll.replicate q n)
theorem RpAll.flat {vs : List V} {ds : List D} (r : RpAll K F vs ds) : ∀ n : Nat, RpAll K F (List.replicate n vs).flatten (List.replicate n ds).flatten
  | 0 => by simpa using .nil
  | n + 1 => by simpa [List.replicate_succ] using r.append (RpAll.flat r n)
theorem RpAll.ints {vs : List V} : ∀ {ns : List Int}, RpAll K F vs (ns.map D.int) → vs = ns.map V.int := by
  induction vs with
  | nil => intro ns h; cases ns with
    | nil => rfl
    | cons _ _ => cases h
  | cons v vs ih => intro ns h; cases ns with
    | nil => cases h
    | cons n ns =>
      cases h with
      | cons h r => cases h; rw [ih r]; rfl
theorem RpAll.ofInts : ∀ (ns : List Int), RpAll K F (ns.map V.int) (ns.map D.int)
  | [] => .nil
  | n :: ns => .cons (.int n) (RpAll.ofInts ns)
end

/-! ### the state of a body -/
/-- a slot: nothing; data that never changes; a list (or dict) that this slot alone holds -/
inductive Sl where
  | emp | val (d : D) | own (d : D)
abbrev Env := List Sl

/-- what is fixed through a body: the heap at the entry, what of it is known and stands still, the world (its state s, its footprint W) -/
structure Bs (S : Type) where
  K : PySem.W.Frag
  H0 : Hp
  F0 : Hp
  W0 : Addr → Prop
  Wd : S → (Addr → Prop) → Hp → Prop
  fr : Bool
  sub : ∀ a o, F0 a = some o → H0 a = some o
  loc : ∀ s W H H', (∀ a, W a → H' a = H a) → Wd s W H → Wd s W H'
  w0 : ∀ a, W0 a → H0 a ≠ none
  ft : ∀ a xs, H0 a = some (.tup xs) → F0 a = some (.tup xs)
  there : ∀ s W H a, Wd s W H → W a → ∃ o, H a = some o ∧ ∀ xs, o ≠ .tup xs
/-- the state: the heap, the owned addresses, the world's footprint, lists on their way -/
structure Cf where
  H : Hp
  O : Addr → Prop
  W : Addr → Prop
  T : Addr → Option HO

section
variable {S : Type}
open Classical in
/-- what stands still -/
noncomputable def Fz (B : Bs S) (c : Cf) : Hp := fun a => if c.O a ∨ c.W a ∨ B.W0 a then none else match B.H0 a with
  | none => c.H a
  | some _ => B.F0 a
theorem Fz.sub {B : Bs S} {c : Cf} (fr : ∀ a o, B.H0 a = some o → ¬ B.W0 a → c.H a = some o) : Sub (Fz B c) c.H := fun a o h => by
  unfold Fz at h
  split at h
  · cases h
  · rename_i hn
    split at h
    · exact h
    · exact fr a o (B.sub a o h) fun z => hn (.inr (.inr z))

/-- what a list or dict holds -/
def OwnOk (K : PySem.W.Frag) (F : Hp) (o : Option HO) : D → Prop
  | .lst ds => ∃ vs, o = some (.lst vs) ∧ RpAll K F vs ds
  | .dct ds => (∃ kvs, o = some (.dK kvs) ∧ RpK K F kvs ds) ∨ ∃ kvs, o = some (.dT kvs) ∧ RpT K F kvs ds
  | _ => False
theorem OwnOk.mono {K : PySem.W.Frag} {F G : Hp} {o : Option HO} {d : D} (s : Sub F G) (h : OwnOk K F o d) : OwnOk K G o d := by
  cases d with
  | lst ds => obtain ⟨vs, e, r⟩ := h; exact ⟨vs, e, r.mono s⟩
  | dct ds =>
    rcases h with ⟨kvs, e, r⟩ | ⟨kvs, e, r⟩
    · exact .inl ⟨kvs, e, r.mono s⟩
    · exact .inr ⟨kvs, e, r.mono s⟩
  | _ => exact h.elim
theorem OwnOk.kind {K : PySem.W.Frag} {F : Hp} {o : Option HO} {d : D} (h : OwnOk K F o d) : ∃ u, o = some u ∧ Mut (some u) ∧ ∀ xs, u ≠ .tup xs := by
  cases d with
  | lst ds => obtain ⟨vs, e, _⟩ := h; exact ⟨_, e, trivial, fun _ z => nomatch z⟩
  | dct ds =>
    rcases h with ⟨kvs, e, r⟩ | ⟨kvs, e, r⟩
    · exact ⟨_, e, trivial, fun _ z => nomatch z⟩
    · exact ⟨_, e, trivial, fun _ z => nomatch z⟩
  | _ => exact h.elim
/-- .. frozen it is data -/
theorem OwnOk.rp {K : PySem.W.Frag} {F : Hp} {a : Addr} {d : D} (h : OwnOk K F (F a) d) : Rp K F (.ref a) d := by
  cases d with
  | lst ds => obtain ⟨vs, e, r⟩ := h; exact .lst (.inl e) r
  | dct ds =>
    rcases h with ⟨kvs, e, r⟩ | ⟨kvs, e, r⟩
    · exact .dK (.inl e) r
    · exact .dT (.inl e) r
  | _ => exact h.elim

def SlOk (K : PySem.W.Frag) (B : Bs S) (c : Cf) (x : Sl) (v : Option (Option V)) : Prop := match x with
  | .emp => True
  | .val d => ∃ u, v = some (some u) ∧ Rp K (Fz B c) u d
  | .own d => ∃ a, v = some (some (.ref a)) ∧ c.O a ∧ c.T a = none ∧ OwnOk K (Fz B c) (c.H a) d

structure Rel (K : PySem.W.Frag) (B : Bs S) (c : Cf) (s : S) (ρ : Env) (σ : L2.St) : Prop where
  world : B.Wd s c.W c.H
  frame : ∀ a o, B.H0 a = some o → ¬ B.W0 a → c.H a = some o
  dom : ∀ a, B.H0 a ≠ none → c.H a ≠ none
  tups : ∀ a xs, B.H0 a = some (.tup xs) → c.H a = some (.tup xs)
  wnew : ∀ a, c.W a → B.W0 a ∨ B.H0 a = none
  w0t : ∀ a xs, B.W0 a → c.H a ≠ some (.tup xs)
  onew : ∀ a, c.O a → B.H0 a = none ∧ ¬ c.W a ∧ ∃ o, c.H a = some o ∧ ∀ xs, o ≠ .tup xs
  tmp : ∀ a o, c.T a = some o → c.H a = some o ∧ c.O a
  len : ρ.length = σ.length
  slots : ∀ (i : Nat) (x : Sl), ρ[i]? = some x → SlOk K B c x σ[i]?
  uniq : ∀ (i j : Nat) (a : Addr) (d e : D), ρ[i]? = some (.own d) → ρ[j]? = some (.own e) → σ[i]? = some (some (V.ref a)) → σ[j]? = some (some (V.ref a)) → i = j

/-- how the state may go on -/
structure Ev (B : Bs S) (c c' : Cf) : Prop where
  sub : Sub (Fz B c) (Fz B c')
  tmp : c'.T = c.T
theorem Ev.refl {B : Bs S} (c : Cf) : Ev B c c := ⟨Sub.refl _, rfl⟩
theorem Ev.trans {B : Bs S} {c c1 c2 : Cf} (x : Ev B c c1) (y : Ev B c1 c2) : Ev B c c2 := ⟨x.sub.trans y.sub, y.tmp.trans x.tmp⟩

section
variable {K : PySem.W.Frag} {B : Bs S} {c : Cf} {s : S} {ρ : Env} {σ : L2.St}
theorem Rel.fsub (R : Rel K B c s ρ σ) : Sub (Fz B c) c.H := Fz.sub R.frame
theorem Rel.newH0 (R : Rel K B c s ρ σ) {p : Addr} (h : c.H p = none) : B.H0 p = none := by
  cases q : B.H0 p with
  | none => rfl
  | some o => exact absurd h (R.dom p (by rw [q]; intro z; cases z))
theorem Rel.newO (R : Rel K B c s ρ σ) {p : Addr} (h : c.H p = none) : ¬ c.O p := fun z => by
  obtain ⟨_, _, o, e, _⟩ := R.onew p z
  rw [h] at e; cases e
theorem Rel.newW (R : Rel K B c s ρ σ) {p : Addr} (h : c.H p = none) : ¬ c.W p := fun z => by
  obtain ⟨o, e, _⟩ := B.there s c.W c.H p R.world z
  rw [h] at e; cases e
theorem Rel.newT (R : Rel K B c s ρ σ) {p : Addr} (h : c.H p = none) : c.T p = none := by
  cases q : c.T p with
  | none => rfl
  | some o =>
    obtain ⟨e, _⟩ := R.tmp p o q
    rw [h] at e; cases e

/-- each tuple stands still -/
theorem Rel.tupF (R : Rel K B c s ρ σ) {a : Addr} {xs : List V} (h : c.H a = some (.tup xs)) : Fz B c a = some (.tup xs) := by
  have nO : ¬ c.O a := fun z => by
    obtain ⟨_, _, o, e, n⟩ := R.onew a z
    rw [h] at e
    cases e
    exact n xs rfl
  have nW : ¬ c.W a := fun z => by
    obtain ⟨o, e, n⟩ := B.there s c.W c.H a R.world z
    rw [h] at e
    cases e
    exact n xs rfl
  have n0 : ¬ B.W0 a := fun z => R.w0t a xs z h
  unfold Fz
  rw [if_neg (fun z => z.elim nO fun z => z.elim nW n0)]
  split
  · exact h
  · rename_i o e
    have q := R.frame a o e n0
    rw [h] at q
    cases q
    exact B.ft a xs e
theorem Rel.tupSub (R : Rel K B c s ρ σ) : Sub (tupsOf c.H) (Fz B c) := fun a o h => by
  obtain ⟨xs, rfl, e⟩ := tupsOf_some h
  exact R.tupF e
/-- a new object that stands still from now on -/
theorem Rel.new {p : Addr} {o : HO} (R : Rel K B c s ρ σ) (h : c.H p = none) : Rel K B { c with H := upd c.H p o } s ρ σ ∧ Ev B c { c with H := upd c.H p o } ∧ Fz B { c with H := upd c.H p o } p = some o := by
  have n0 := R.newH0 h
  have h0 : ¬ B.W0 p := fun z => B.w0 p z n0
  have nO := R.newO h
  have nW := R.newW h
  have nT := R.newT h
  have sb : Sub (Fz B c) (Fz B { c with H := upd c.H p o }) := fun a u e => by
    unfold Fz at e ⊢
    split at e
    · cases e
    · rename_i hn
      rw [if_neg hn]
      split at e
      · rename_i q
        show (upd c.H p o) a = some u
        rw [upd_ne (ne_of_none e h)]
        exact e
      · exact e
  have keep : ∀ {a : Addr} {u : HO}, c.H a = some u → upd c.H p o a = some u := fun {a u} e => by rw [upd_ne (ne_of_none e h)]; exact e
  refine ⟨⟨?_, fun a u e nw => keep (R.frame a u e nw), fun a e => ?_, fun a xs e => keep (R.tups a xs e), R.wnew, fun a xs w e => ?_, fun a e => ?_, fun a u e => ?_, R.len, fun i x e => ?_, R.uniq⟩, ⟨sb, rfl⟩, ?_⟩
  · exact B.loc s c.W c.H _ (fun a ha => upd_ne fun z => nW (z ▸ ha)) R.world
  · show upd c.H p o a ≠ none
    by_cases z : a = p
    · subst z; rw [upd_same]; intro z; cases z
    · rw [upd_ne z]; exact R.dom a e
  · have e : upd c.H p o a = some (.tup xs) := e
    rw [upd_ne (fun z => B.w0 a w (by rw [z]; exact n0))] at e
    exact R.w0t a xs w e
  · obtain ⟨a1, a2, u, a3, a4⟩ := R.onew a e
    exact ⟨a1, a2, u, keep a3, a4⟩
  · exact ⟨keep (R.tmp a u e).1, (R.tmp a u e).2⟩
  · have q := R.slots i x e
    cases x with
    | emp => trivial
    | val d => obtain ⟨v, e1, r⟩ := q; exact ⟨v, e1, r.mono sb⟩
    | own d =>
      obtain ⟨a, e1, e2, e3, r⟩ := q
      refine ⟨a, e1, e2, e3, ?_⟩
      have z : a ≠ p := fun z => nO (z ▸ e2)
      show OwnOk K _ (upd c.H p o a) d
      rw [upd_ne z]
      exact r.mono sb
  · unfold Fz
    rw [if_neg (fun z => z.elim nO fun z => z.elim nW h0), n0]
    exact upd_same
theorem set_get {α : Type} {l : List α} {i j : Nat} {x y : α} (h : (l.set i x)[j]? = some y) : (i = j ∧ y = x ∧ i < l.length) ∨ (i ≠ j ∧ l[j]? = some y) := by
  by_cases e : i = j
  · subst e
    by_cases hl : i < l.length
    · rw [List.getElem?_set_self hl] at h
      exact .inl ⟨rfl, (Option.some.inj h).symm, hl⟩
    · rw [List.getElem?_eq_none (by simpa using hl)] at h
      cases h
  · rw [List.getElem?_set_ne e] at h
    exact .inr ⟨e, h⟩
/-- a slot is stored -/
theorem Rel.set (R : Rel K B c s ρ σ) {i : Nat} {v : V} {d : D} (r : Rp K (Fz B c) v d) : Rel K B c s (ρ.set i (.val d)) (σ.set i (some v)) := by
  refine ⟨R.world, R.frame, R.dom, R.tups, R.wnew, R.w0t, R.onew, R.tmp, by simp [R.len], fun j x e => ?_, fun j k a d' e' h1 h2 h3 h4 => ?_⟩
  · rcases set_get e with ⟨rfl, rfl, hl⟩ | ⟨ne, e⟩
    · exact ⟨v, List.getElem?_set_self (R.len ▸ hl), r⟩
    · rw [List.getElem?_set_ne ne]
      exact R.slots j x e
  · rcases set_get h1 with ⟨_, z, _⟩ | ⟨n1, h1⟩
    · cases z
    · rcases set_get h2 with ⟨_, z, _⟩ | ⟨n2, h2⟩
      · cases z
      · rw [List.getElem?_set_ne n1] at h3
        rw [List.getElem?_set_ne n2] at h4
        exact R.uniq j k a d' e' h1 h2 h3 h4
theorem Rel.emp (R : Rel K B c s ρ σ) {i : Nat} {v : Option V} : Rel K B c s (ρ.set i .emp) (σ.set i v) := by
  refine ⟨R.world, R.frame, R.dom, R.tups, R.wnew, R.w0t, R.onew, R.tmp, by simp [R.len], fun j x e => ?_, fun j k a d' e' h1 h2 h3 h4 => ?_⟩
  · rcases set_get e with ⟨rfl, rfl, hl⟩ | ⟨ne, e⟩
    · trivial
    · rw [List.getElem?_set_ne ne]
      exact R.slots j x e
  · rcases set_get h1 with ⟨_, z, _⟩ | ⟨n1, h1⟩
    · cases z
    · rcases set_get h2 with ⟨_, z, _⟩ | ⟨n2, h2⟩
      · cases z
      · rw [List.getElem?_set_ne n1] at h3
        rw [List.getElem?_set_ne n2] at h4
        exact R.uniq j k a d' e' h1 h2 h3 h4
/-- the state but for its slots -/
theorem Rel.reslot (R : Rel K B c s ρ σ) {ρ' : Env} {σ' : L2.St} (hl : ρ'.length = σ'.length) (hs : ∀ (i : Nat) (x : Sl), ρ'[i]? = some x → SlOk K B c x σ'[i]?)
    (hu : ∀ (i j : Nat) (a : Addr) (d e : D), ρ'[i]? = some (.own d) → ρ'[j]? = some (.own e) → σ'[i]? = some (some (V.ref a)) → σ'[j]? = some (some (V.ref a)) → i = j) : Rel K B c s ρ' σ' :=
  ⟨R.world, R.frame, R.dom, R.tups, R.wnew, R.w0t, R.onew, R.tmp, hl, hs, hu⟩
/-- a list on its way comes to a slot -/
theorem Rel.take (R : Rel K B c s ρ σ) {i : Nat} {a : Addr} {o : HO} {d : D} (ht : c.T a = some o) (ok : OwnOk K (Fz B c) (some o) d) :
    Rel K B { c with T := fun b => if b = a then none else c.T b } s (ρ.set i (.own d)) (σ.set i (some (.ref a))) ∧ Fz B { c with T := fun b => if b = a then none else c.T b } = Fz B c := by
  have ef : Fz B { c with T := fun b => if b = a then none else c.T b } = Fz B c := rfl
  refine ⟨⟨R.world, R.frame, R.dom, R.tups, R.wnew, R.w0t, R.onew, fun b u e => ?_, by simp [R.len], fun j x e => ?_, fun j k b d' e' h1 h2 h3 h4 => ?_⟩, ef⟩
  · have e : (if b = a then none else c.T b) = some u := e
    split at e
    · cases e
    · exact R.tmp b u e
  · rcases set_get e with ⟨rfl, rfl, hl⟩ | ⟨ne, e⟩
    · refine ⟨a, List.getElem?_set_self (R.len ▸ hl), (R.tmp a o ht).2, by simp, ?_⟩
      show OwnOk K _ (c.H a) d
      rw [(R.tmp a o ht).1]
      exact ok
    · rw [List.getElem?_set_ne ne]
      have q := R.slots j x e
      cases x with
      | emp => trivial
      | val d => exact q
      | own d =>
        obtain ⟨b, e1, e2, e3, r⟩ := q
        refine ⟨b, e1, e2, ?_, r⟩
        show (if b = a then none else c.T b) = none
        split
        · rfl
        · exact e3
  · have no : ∀ (k : Nat) (d : D), ρ[k]? = some (.own d) → σ[k]? = some (some (V.ref a)) → False := fun k d q1 q2 => by
      obtain ⟨b, e1, _, e3, _⟩ := R.slots k _ q1
      rw [q2] at e1
      cases e1
      rw [ht] at e3
      cases e3
    rcases set_get h1 with ⟨e1, _, hl1⟩ | ⟨n1, h1⟩
    · rcases set_get h2 with ⟨e2, _, _⟩ | ⟨n2, h2⟩
      · exact e1.symm.trans e2
      · subst e1
        rw [List.getElem?_set_self (R.len ▸ hl1)] at h3
        cases h3
        rw [List.getElem?_set_ne n2] at h4
        exact (no k _ h2 h4).elim
    · rw [List.getElem?_set_ne n1] at h3
      rcases set_get h2 with ⟨e2, _, hl2⟩ | ⟨n2, h2⟩
      · subst e2
        rw [List.getElem?_set_self (R.len ▸ hl2)] at h4
        cases h4
        exact (no j _ h1 h3).elim
      · rw [List.getElem?_set_ne n2] at h4
        exact R.uniq j k b d' e' h1 h2 h3 h4
/-- a new list on its way -/
theorem Rel.newT' {p : Addr} {o : HO} (R : Rel K B c s ρ σ) (h : c.H p = none) (ho : ∀ xs, o ≠ .tup xs) :
    Rel K B ⟨upd c.H p o, fun b => c.O b ∨ b = p, c.W, fun b => if b = p then some o else c.T b⟩ s ρ σ ∧ Sub (Fz B c) (Fz B ⟨upd c.H p o, fun b => c.O b ∨ b = p, c.W, fun b => if b = p then some o else c.T b⟩) := by
  have n0 := R.newH0 h
  have nO := R.newO h
  have nW := R.newW h
  have nT := R.newT h
  have keep : ∀ {a : Addr} {u : HO}, c.H a = some u → upd c.H p o a = some u := fun {a u} e => by rw [upd_ne (ne_of_none e h)]; exact e
  have sb : Sub (Fz B c) (Fz B ⟨upd c.H p o, fun b => c.O b ∨ b = p, c.W, fun b => if b = p then some o else c.T b⟩) := fun a u e => by
    have hu := R.fsub a u e
    have np : a ≠ p := ne_of_none hu h
    unfold Fz at e ⊢
    split at e
    · cases e
    · rename_i hn
      rw [if_neg (fun z => z.elim (fun z => z.elim (fun z => hn (.inl z)) np) fun z => hn (.inr z))]
      split at e
      · exact keep e
      · exact e
  refine ⟨⟨?_, fun a u e nw => keep (R.frame a u e nw), fun a e => ?_, fun a xs e => keep (R.tups a xs e), R.wnew, fun a xs w e => ?_, fun a e => ?_, fun a u e => ?_, R.len, fun i x e => ?_, R.uniq⟩, sb⟩
  · exact B.loc s c.W c.H _ (fun a ha => upd_ne fun z => nW (z ▸ ha)) R.world
  · show upd c.H p o a ≠ none
    by_cases z : a = p
    · subst z; rw [upd_same]; intro z; cases z
    · rw [upd_ne z]; exact R.dom a e
  · have e : upd c.H p o a = some (.tup xs) := e
    rw [upd_ne (fun z => B.w0 a w (by rw [z]; exact n0))] at e
    exact R.w0t a xs w e
  · rcases e with e | e
    · obtain ⟨a1, a2, u, a3, a4⟩ := R.onew a e
      exact ⟨a1, a2, u, keep a3, a4⟩
    · subst e
      exact ⟨n0, nW, o, upd_same, ho⟩
  · have e : (if a = p then some o else c.T a) = some u := e
    split at e
    · rename_i z
      obtain rfl := Option.some.inj e
      subst z
      exact ⟨upd_same, .inr rfl⟩
    · exact ⟨keep (R.tmp a u e).1, .inl (R.tmp a u e).2⟩
  · have q := R.slots i x e
    cases x with
    | emp => trivial
    | val d => obtain ⟨v, e1, r⟩ := q; exact ⟨v, e1, r.mono sb⟩
    | own d =>
      obtain ⟨a, e1, e2, e3, r⟩ := q
      have z : a ≠ p := fun z => nO (z ▸ e2)
      refine ⟨a, e1, .inl e2, ?_, ?_⟩
      · show (if a = p then some o else c.T a) = none
        rw [if_neg z]
        exact e3
      · show OwnOk K _ (upd c.H p o a) d
        rw [upd_ne z]
        exact r.mono sb
/-- a list on its way has changed -/
theorem Rel.mutT {a : Addr} {o o' : HO} (R : Rel K B c s ρ σ) (h : c.T a = some o) (ho : ∀ xs, o' ≠ .tup xs) :
    Rel K B { c with H := upd c.H a o', T := fun b => if b = a then some o' else c.T b } s ρ σ ∧ Sub (Fz B c) (Fz B { c with H := upd c.H a o', T := fun b => if b = a then some o' else c.T b }) := by
  obtain ⟨hH, hO⟩ := R.tmp a o h
  obtain ⟨n0, nW, _⟩ := R.onew a hO
  have oth : ∀ {b : Addr}, b ≠ a → upd c.H a o' b = c.H b := fun {b} z => upd_ne z
  have sb : Sub (Fz B c) (Fz B { c with H := upd c.H a o', T := fun b => if b = a then some o' else c.T b }) := fun b u e => by
    unfold Fz at e ⊢
    split at e
    · cases e
    · rename_i hn
      rw [if_neg hn]
      split at e
      · show upd c.H a o' b = some u
        rw [oth (fun z => hn (.inl (by rw [z]; exact hO)))]
        exact e
      · exact e
  refine ⟨⟨?_, fun b u e nw => ?_, fun b e => ?_, fun b xs e => ?_, R.wnew, fun b xs w e => ?_, fun b e => ?_, fun b u e => ?_, R.len, fun i x e => ?_, R.uniq⟩, sb⟩
  · exact B.loc s c.W c.H _ (fun b hb => oth fun z => nW (z ▸ hb)) R.world
  · show upd c.H a o' b = some u
    rw [oth (fun z => by rw [z, n0] at e; cases e)]
    exact R.frame b u e nw
  · show upd c.H a o' b ≠ none
    rw [oth (fun z => by rw [z, n0] at e; exact e rfl)]
    exact R.dom b e
  · show upd c.H a o' b = some (.tup xs)
    rw [oth (fun z => by rw [z, n0] at e; cases e)]
    exact R.tups b xs e
  · have e : upd c.H a o' b = some (.tup xs) := e
    rw [oth (fun z => B.w0 b w (by rw [z]; exact n0))] at e
    exact R.w0t b xs w e
  · obtain ⟨a1, a2, u, a3, a4⟩ := R.onew b e
    by_cases z : b = a
    · subst z; exact ⟨a1, a2, o', upd_same, ho⟩
    · exact ⟨a1, a2, u, (oth z).trans a3, a4⟩
  · have e : (if b = a then some o' else c.T b) = some u := e
    split at e
    · rename_i z
      obtain rfl := Option.some.inj e
      subst z
      exact ⟨upd_same, hO⟩
    · rename_i z
      exact ⟨(oth z).trans (R.tmp b u e).1, (R.tmp b u e).2⟩
  · have q := R.slots i x e
    cases x with
    | emp => trivial
    | val d => obtain ⟨v, e1, r⟩ := q; exact ⟨v, e1, r.mono sb⟩
    | own d =>
      obtain ⟨b, e1, e2, e3, r⟩ := q
      have z : b ≠ a := fun z => by rw [z, h] at e3; cases e3
      refine ⟨b, e1, e2, ?_, ?_⟩
      · show (if b = a then some o' else c.T b) = none
        rw [if_neg z]
        exact e3
      · show OwnOk K _ (upd c.H a o' b) d
        rw [oth z]
        exact r.mono sb
/-- a list on its way stands still from now on -/
theorem Rel.rest {a : Addr} {o : HO} (R : Rel K B c s ρ σ) (h : c.T a = some o) :
    Rel K B { c with O := fun b => c.O b ∧ b ≠ a, T := fun b => if b = a then none else c.T b } s ρ σ ∧ Sub (Fz B c) (Fz B { c with O := fun b => c.O b ∧ b ≠ a, T := fun b => if b = a then none else c.T b }) ∧
      Fz B { c with O := fun b => c.O b ∧ b ≠ a, T := fun b => if b = a then none else c.T b } a = some o := by
  obtain ⟨hH, hO⟩ := R.tmp a o h
  obtain ⟨n0, nW, _⟩ := R.onew a hO
  have sb : Sub (Fz B c) (Fz B { c with O := fun b => c.O b ∧ b ≠ a, T := fun b => if b = a then none else c.T b }) := fun b u e => by
    unfold Fz at e ⊢
    split at e
    · cases e
    · rename_i hn
      rw [if_neg (fun z => hn (z.imp (fun z => z.1) id))]
      exact e
  refine ⟨⟨R.world, R.frame, R.dom, R.tups, R.wnew, R.w0t, fun b e => R.onew b e.1, fun b u e => ?_, R.len, fun i x e => ?_, R.uniq⟩, sb, ?_⟩
  · have e : (if b = a then none else c.T b) = some u := e
    split at e
    · cases e
    · rename_i z
      exact ⟨(R.tmp b u e).1, (R.tmp b u e).2, z⟩
  · have q := R.slots i x e
    cases x with
    | emp => trivial
    | val d => obtain ⟨v, e1, r⟩ := q; exact ⟨v, e1, r.mono sb⟩
    | own d =>
      obtain ⟨b, e1, e2, e3, r⟩ := q
      have z : b ≠ a := fun z => by rw [z, h] at e3; cases e3
      refine ⟨b, e1, ⟨e2, z⟩, ?_, r.mono sb⟩
      show (if b = a then none else c.T b) = none
      rw [if_neg z]
      exact e3
  · unfold Fz
    rw [if_neg (fun z => z.elim (fun z => z.2 rfl) fun z => z.elim nW fun z => B.w0 a z n0), n0]
    exact hH
/-- a slot's own list leaves it, to be on its way -/
theorem Rel.lift {i : Nat} {d : D} (R : Rel K B c s ρ σ) (h : ρ[i]? = some (.own d)) : ∃ a o, σ[i]? = some (some (.ref a)) ∧ c.H a = some o ∧ OwnOk K (Fz B c) (some o) d ∧
    Rel K B { c with T := fun b => if b = a then some o else c.T b } s (ρ.set i .emp) σ ∧ Fz B { c with T := fun b => if b = a then some o else c.T b } = Fz B c := by
  obtain ⟨a, e1, e2, e3, r⟩ := R.slots i _ h
  obtain ⟨o, eo, _, nt⟩ := r.kind
  refine ⟨a, o, e1, eo, eo ▸ r, ⟨R.world, R.frame, R.dom, R.tups, R.wnew, R.w0t, R.onew, fun b u e => ?_, by simp [R.len], fun j x e => ?_, fun j k b d' e' h1 h2 h3 h4 => ?_⟩, rfl⟩
  · have e : (if b = a then some o else c.T b) = some u := e
    split at e
    · rename_i z
      obtain rfl := Option.some.inj e
      subst z
      exact ⟨eo, e2⟩
    · exact R.tmp b u e
  · rcases set_get e with ⟨rfl, rfl, hl⟩ | ⟨ne, e⟩
    · trivial
    · have q := R.slots j x e
      cases x with
      | emp => trivial
      | val d => exact q
      | own d' =>
        obtain ⟨b, q1, q2, q3, q4⟩ := q
        have z : b ≠ a := fun z => ne (R.uniq i j a d d' h e e1 (z ▸ q1))
        refine ⟨b, q1, q2, ?_, q4⟩
        show (if b = a then some o else c.T b) = none
        rw [if_neg z]
        exact q3
  · rcases set_get h1 with ⟨_, z, _⟩ | ⟨n1, h1⟩
    · cases z
    · rcases set_get h2 with ⟨_, z, _⟩ | ⟨n2, h2⟩
      · cases z
      · exact R.uniq j k b d' e' h1 h2 h3 h4
end
end
end Ld

/-! Value layer, part 2: expressions. -/
namespace Ld
open PySem PySem.Spec PyProof.Rows L2

/-- what an expression hands on: data, or the slot that it stands in -/
inductive Hd where
  | val (d : D) | slot (i : Nat)
def slD : Option Sl → Option D
  | some (.val d) => some d
  | some (.own d) => some d
  | _ => none
theorem slD_some {o : Option Sl} {d : D} (h : slD o = some d) : o = some (.val d) ∨ o = some (.own d) := by
  unfold slD at h
  split at h
  · cases h; exact .inl rfl
  · cases h; exact .inr rfl
  · cases h
def res (ρ : Env) : Hd → Option D
  | .val d => some d
  | .slot i => slD ρ[i]?
/-- go on with what is there -/
def Tag {β : Sort u} (_ : β) : Type := Unit
/-- go on with what is there; the last place keeps simp out of k -/
def onS {α : Type} (o : Option α) (k : α → Prop) (_ : Tag k := ()) : Prop := match o with
  | some d => k d
  | none => False
@[simp] theorem onS_some {α : Type} {d : α} {k : α → Prop} : onS (some d) k = k d := rfl
@[simp] theorem onS_none {α : Type} {k : α → Prop} : onS none k = False := rfl
theorem onS_iff {α : Type} {o : Option α} {k : α → Prop} : onS o k ↔ ∃ d, o = some d ∧ k d := by
  cases o with
  | none => simp [onS]
  | some d => simp [onS]
def resL (ρ : Env) : List Hd → Option (List D)
  | [] => some []
  | h :: hs => match res ρ h, resL ρ hs with
    | some d, some ds => some (d :: ds)
    | _, _ => none

section
variable {S : Type}
abbrev WE (S : Type) := Env → S → (Hd → Env → S → Prop) → Prop
abbrev WN (S : Type) := Env → S → (D → Env → S → Prop) → Prop
abbrev WT (S : Type) := Env → S → (Bool → Env → S → Prop) → Prop
abbrev WA (S : Type) := Env → S → (List Hd → Env → S → Prop) → Prop

def HdOk (K : PySem.W.Frag) (B : Bs S) (c : Cf) (σ : L2.St) (v : V) : Hd → Prop
  | .val d => Rp K (Fz B c) v d
  | .slot i => σ[i]? = some (some v)
def HdsOk (K : PySem.W.Frag) (B : Bs S) (c : Cf) (σ : L2.St) : List V → List Hd → Prop
  | [], [] => True
  | v :: vs, h :: hs => HdOk K B c σ v h ∧ HdsOk K B c σ vs hs
  | _, _ => False
theorem HdOk.ev {K : PySem.W.Frag} {B : Bs S} {c c' : Cf} {σ : L2.St} {v : V} {h : Hd} (e : Sub (Fz B c) (Fz B c')) (q : HdOk K B c σ v h) : HdOk K B c' σ v h := by
  cases h with
  | val d => exact Rp.mono e q
  | slot i => exact q
theorem HdsOk.ev {K : PySem.W.Frag} {B : Bs S} {c c' : Cf} {σ : L2.St} (e : Sub (Fz B c) (Fz B c')) : ∀ {vs : List V} {hs : List Hd}, HdsOk K B c σ vs hs → HdsOk K B c' σ vs hs
  | [], [], _ => trivial
  | _ :: _, _ :: _, q => ⟨q.1.ev e, HdsOk.ev e q.2⟩
  | [], _ :: _, q => q.elim
  | _ :: _, [], q => q.elim
/-- a value reads as the data now -/
def Rv (K : PySem.W.Frag) (B : Bs S) (c : Cf) (v : V) (d : D) : Prop := Rp K (Fz B c) v d ∨ ∃ a, v = .ref a ∧ c.O a ∧ OwnOk K (Fz B c) (c.H a) d
inductive RvAll (K : PySem.W.Frag) (B : Bs S) (c : Cf) : List V → List D → Prop
  | nil : RvAll K B c [] []
  | cons {v : V} {vs : List V} {d : D} {ds : List D} : Rv K B c v d → RvAll K B c vs ds → RvAll K B c (v :: vs) (d :: ds)

structure EvN (B : Bs S) (c c' : Cf) (a : Addr) (o : HO) : Prop where
  sub : Sub (Fz B c) (Fz B c')
  tmp : c'.T = fun b => if b = a then some o else c.T b
  new : c.T a = none

def SimE (K : PySem.W.Frag) (B : Bs S) (t : TE) (w : WE S) : Prop := ∀ (c : Cf) (s : S) (ρ : Env) (σ : L2.St) (Q : Hd → Env → S → Prop) (Q' : VK), Rel K B c s ρ σ → w ρ s Q →
  (∀ h ρ' s' v c', Q h ρ' s' → Rel K B c' s' ρ' σ → Ev B c c' → HdOk K B c' σ v h → Q' v c'.H) → t σ c.H Q'
def SimN (K : PySem.W.Frag) (B : Bs S) (t : TE) (w : WN S) : Prop := ∀ (c : Cf) (s : S) (ρ : Env) (σ : L2.St) (Q : D → Env → S → Prop) (Q' : VK), Rel K B c s ρ σ → w ρ s Q →
  (∀ d ρ' s' a o c', Q d ρ' s' → Rel K B c' s' ρ' σ → EvN B c c' a o → OwnOk K (Fz B c') (some o) d → Q' (.ref a) c'.H) → t σ c.H Q'
def SimT (K : PySem.W.Frag) (B : Bs S) (t : TT) (w : WT S) : Prop := ∀ (c : Cf) (s : S) (ρ : Env) (σ : L2.St) (Q : Bool → Env → S → Prop) (Q' : Bool → Hp → Prop), Rel K B c s ρ σ → w ρ s Q →
  (∀ b ρ' s' c', Q b ρ' s' → Rel K B c' s' ρ' σ → Ev B c c' → Q' b c'.H) → t σ c.H Q'
def SimA (K : PySem.W.Frag) (B : Bs S) (t : TA) (w : WA S) : Prop := ∀ (c : Cf) (s : S) (ρ : Env) (σ : L2.St) (Q : List Hd → Env → S → Prop) (Q' : List V → Hp → Prop), Rel K B c s ρ σ → w ρ s Q →
  (∀ hs ρ' s' vs c', Q hs ρ' s' → Rel K B c' s' ρ' σ → Ev B c c' → HdsOk K B c' σ vs hs → Q' vs c'.H) → t σ c.H Q'

structure SE (X : Cx) (B : Bs S) (e : Expr) (t : TE) (w : WE S) : Prop where
  pe : PE X e t
  sim : SimE B.K B t w
structure SN (X : Cx) (B : Bs S) (e : Expr) (t : TE) (w : WN S) : Prop where
  pe : PE X e t
  sim : SimN B.K B t w
structure ST (X : Cx) (B : Bs S) (e : Expr) (t : TT) (w : WT S) : Prop where
  pt : PT X e t
  sim : SimT B.K B t w
structure SW (X : Cx) (B : Bs S) (e : Expr) (t : TT) (w : WT S) : Prop where
  pw : PW X e t
  sim : SimT B.K B t w
structure SA (X : Cx) (B : Bs S) (es : List Expr) (t : TA) (w : WA S) : Prop where
  pa : PA X es t
  sim : SimA B.K B t w

section
variable {K : PySem.W.Frag} {B : Bs S} {c c' : Cf} {s : S} {ρ : Env} {σ : L2.St} {v : V} {h : Hd}
theorem hd_rv {d : D} (R : Rel K B c s ρ σ) (q : HdOk K B c σ v h) (e : res ρ h = some d) : Rv K B c v d := by
  cases h with
  | val d' => cases e; exact .inl q
  | slot i =>
    have q : σ[i]? = some (some v) := q
    have e : slD ρ[i]? = some d := e
    rcases slD_some e with hx | hx
    · obtain ⟨u, e1, r⟩ := R.slots i _ hx
      rw [q] at e1
      cases e1
      exact .inl r
    · obtain ⟨a, e1, e2, _, r⟩ := R.slots i _ hx
      rw [q] at e1
      cases e1
      exact .inr ⟨a, rfl, e2, r⟩
theorem hds_rv (R : Rel K B c s ρ σ) : ∀ {vs : List V} {hs : List Hd} {ds : List D}, HdsOk K B c σ vs hs → resL ρ hs = some ds → RvAll K B c vs ds
  | [], [], _, _, e => by cases e; exact .nil
  | v :: vs, h :: hs, ds, q, e => by
    unfold resL at e
    split at e
    · rename_i d ds' e1 e2
      cases e
      exact .cons (hd_rv R q.1 e1) (hds_rv R q.2 e2)
    · cases e
  | [], _ :: _, _, q, _ => q.elim
  | _ :: _, [], _, q, _ => q.elim
theorem Rv.int {i : Int} (r : Rv K B c v (.int i)) : v = .int i := by
  rcases r with r | ⟨a, _, _, z⟩
  · cases r; rfl
  · exact z.elim
theorem Rv.bl {b : Bool} (r : Rv K B c v (.bl b)) : v = .bl b := by
  rcases r with r | ⟨a, _, _, z⟩
  · cases r; rfl
  · exact z.elim
theorem Rv.str {x : Str} (r : Rv K B c v (.str x)) : v = .str x := by
  rcases r with r | ⟨a, _, _, z⟩
  · cases r; rfl
  · exact z.elim
theorem Rv.non (r : Rv K B c v .non) : v = .non := by
  rcases r with r | ⟨a, _, _, z⟩
  · cases r; rfl
  · exact z.elim
theorem Rv.lst {ds : List D} (R : Rel K B c s ρ σ) (r : Rv K B c v (.lst ds)) : ∃ a vs, v = .ref a ∧ Rd c.H a (.lst vs) ∧ RpAll K (Fz B c) vs ds := by
  rcases r with r | ⟨a, rfl, _, vs, e, r⟩
  · cases r with
    | lst h r => exact ⟨_, _, rfl, R.fsub.rd h, r⟩
  · exact ⟨a, vs, rfl, .inl e, r⟩
theorem Rv.tup {ds : List D} (R : Rel K B c s ρ σ) (r : Rv K B c v (.tup ds)) : ∃ a vs, v = .ref a ∧ SqT K c.H a vs ∧ RpAll K (Fz B c) vs ds := by
  rcases r with r | ⟨a, _, _, z⟩
  · cases r with
    | tup h r => exact ⟨_, _, rfl, R.fsub.seqT h.sq, r⟩
  · exact z.elim
theorem Rv.scr {ds : List D} (R : Rel K B c s ρ σ) (r : Rv K B c v (.scr ds)) : ∃ a vs, v = .ref a ∧ SqL K c.H a vs ∧ RpAll K (Fz B c) vs ds := by
  rcases r with r | ⟨a, _, _, z⟩
  · cases r with
    | scr h r => exact ⟨_, _, rfl, R.fsub.seqL h, r⟩
  · exact z.elim
theorem Rv.dct {ds : List (D × D)} (R : Rel K B c s ρ σ) (r : Rv K B c v (.dct ds)) : ∃ a, v = .ref a ∧ ((∃ kvs, Rd c.H a (.dK kvs) ∧ RpK K (Fz B c) kvs ds) ∨ ∃ kvs, Rd c.H a (.dT kvs) ∧ RpT K (Fz B c) kvs ds) := by
  rcases r with r | ⟨a, rfl, _, ⟨kvs, e, r⟩ | ⟨kvs, e, r⟩⟩
  · cases r with
    | dK h r => exact ⟨_, rfl, .inl ⟨_, R.fsub.rd h, r⟩⟩
    | dT h r => exact ⟨_, rfl, .inr ⟨_, R.fsub.rd h, r⟩⟩
  · exact ⟨a, rfl, .inl ⟨kvs, .inl e, r⟩⟩
  · exact ⟨a, rfl, .inr ⟨kvs, .inl e, r⟩⟩
end

/-! ### names, constants -/
def wVar (i : Nat) (ρ : Env) (s : S) (Q : Hd → Env → S → Prop) : Prop := onS (slD ρ[i]?) fun _ => Q (.slot i) ρ s
def wC (d : D) (ρ : Env) (s : S) (Q : Hd → Env → S → Prop) : Prop := Q (.val d) ρ s
section
variable {X : Cx} {B : Bs S} {pos : Pos}
theorem sim_var {K : PySem.W.Frag} (i : Nat) : SimE K B (tVar i) (wVar i) := fun c s ρ σ Q Q' R h q => by
  unfold wVar at h
  obtain ⟨d, e, h⟩ := onS_iff.mp h
  rcases slD_some e with hx | hx
  · obtain ⟨u, e1, _⟩ := R.slots i _ hx
    exact ⟨u, e1, q _ _ _ _ c h R (Ev.refl c) e1⟩
  · obtain ⟨a, e1, _⟩ := R.slots i _ hx
    exact ⟨_, e1, q _ _ _ _ c h R (Ev.refl c) e1⟩
theorem sv (i : Nat) {x : Str} {pos : Pos} (hN : X.N[i]? = some x := by rfl) (hv : Vis X.env.scope x := by first | exact Or.inl rfl | exact Or.inr (Or.inl rfl) | exact Or.inr (Or.inr rfl)) (hd : (x == ("__debug__" : Str)) = false := by decide)
    (hcd : (x == ("__classdict__" : Str)) = false := by decide) : SE X B (.Name x pos) (tVar i) (wVar i) := ⟨pe_var hN hv hd hcd, sim_var i⟩
theorem sim_c {K : PySem.W.Frag} {v : V} {d : D} (r : ∀ F, Rp K F v d) : SimE K B (tC v) (wC d) := fun c s ρ σ Q Q' R h q => q _ _ _ _ c h R (Ev.refl c) (r _)
theorem se_int {i : Int} {j pos} : SE X B (.Constant (.int i) j pos) (tC (.int i)) (wC (.int i)) := ⟨pe_int, sim_c fun _ => .int i⟩
theorem se_bl {b : Bool} {j pos} : SE X B (.Constant (.bool b) j pos) (tC (.bl b)) (wC (.bl b)) := ⟨pe_bl, sim_c fun _ => .bl b⟩
theorem se_non {j pos} : SE X B (.Constant .none j pos) (tC .non) (wC .non) := ⟨pe_non, sim_c fun _ => .non⟩
theorem se_str {x : Str} {j pos} : SE X B (.Constant (.str x) j pos) (tC (.str x)) (wC (.str x)) := ⟨pe_str, sim_c fun _ => .str x⟩
/-- a module's constant -/
theorem se_glob {x : Str} {v : V} {d : D} {u : Value} {pos : Pos} (hg : Gl X x) (hm : X.mg x = some u) (r : RelV v u) (rp : ∀ F, Rp B.K F v d) (hd : (x == ("__debug__" : Str)) = false := by decide) : SE X B (.Name x pos) (tC v) (wC d) := ⟨pe_glob hg hm r hd, sim_c rp⟩
end

/-! ### what is made of values -/
/-- two values in, data out -/
def RuleB (K : PySem.W.Frag) (B : Bs S) (r : R2) (f : D → D → Option D) : Prop := ∀ (c : Cf) (s : S) (ρ : Env) (σ : L2.St) (x y : V) (dx dy z : D) (Q' : VK), Rel K B c s ρ σ → Rv K B c x dx → Rv K B c y dy → f dx dy = some z →
  (∀ v c', Rel K B c' s ρ σ → Ev B c c' → Rp K (Fz B c') v z → Q' v c'.H) → r x y c.H Q'
def RuleU (K : PySem.W.Frag) (B : Bs S) (r : V → Hp → VK → Prop) (f : D → Option D) : Prop := ∀ (c : Cf) (s : S) (ρ : Env) (σ : L2.St) (x : V) (dx z : D) (Q' : VK), Rel K B c s ρ σ → Rv K B c x dx → f dx = some z →
  (∀ v c', Rel K B c' s ρ σ → Ev B c c' → Rp K (Fz B c') v z → Q' v c'.H) → r x c.H Q'
def RuleC (K : PySem.W.Frag) (B : Bs S) (r : List V → Hp → VK → Prop) (f : List D → Option D) : Prop := ∀ (c : Cf) (s : S) (ρ : Env) (σ : L2.St) (vs : List V) (ds : List D) (z : D) (Q' : VK), Rel K B c s ρ σ → RvAll K B c vs ds → f ds = some z →
  (∀ v c', Rel K B c' s ρ σ → Ev B c c' → Rp K (Fz B c') v z → Q' v c'.H) → r vs c.H Q'
/-- a new list (or dict) out -/
def RuleBN (K : PySem.W.Frag) (B : Bs S) (r : R2) (f : D → D → Option D) : Prop := ∀ (c : Cf) (s : S) (ρ : Env) (σ : L2.St) (x y : V) (dx dy z : D) (Q' : VK), Rel K B c s ρ σ → Rv K B c x dx → Rv K B c y dy → f dx dy = some z →
  (∀ a o c', Rel K B c' s ρ σ → EvN B c c' a o → OwnOk K (Fz B c') (some o) z → Q' (.ref a) c'.H) → r x y c.H Q'
def RuleCN (K : PySem.W.Frag) (B : Bs S) (r : List V → Hp → VK → Prop) (f : List D → Option D) : Prop := ∀ (c : Cf) (s : S) (ρ : Env) (σ : L2.St) (vs : List V) (ds : List D) (z : D) (Q' : VK), Rel K B c s ρ σ → RvAll K B c vs ds → f ds = some z →
  (∀ a o c', Rel K B c' s ρ σ → EvN B c c' a o → OwnOk K (Fz B c') (some o) z → Q' (.ref a) c'.H) → r vs c.H Q'

def wBin (f : D → D → Option D) (wa wb : WE S) (ρ : Env) (s : S) (Q : Hd → Env → S → Prop) : Prop := wa ρ s fun h1 ρ1 s1 => wb ρ1 s1 fun h2 ρ2 s2 => onS (res ρ2 h1) fun x => onS (res ρ2 h2) fun y => onS (f x y) fun z => Q (.val z) ρ2 s2
def wBinN (f : D → D → Option D) (wa wb : WE S) (ρ : Env) (s : S) (Q : D → Env → S → Prop) : Prop := wa ρ s fun h1 ρ1 s1 => wb ρ1 s1 fun h2 ρ2 s2 => onS (res ρ2 h1) fun x => onS (res ρ2 h2) fun y => onS (f x y) fun z => Q z ρ2 s2
def wUn (f : D → Option D) (wa : WE S) (ρ : Env) (s : S) (Q : Hd → Env → S → Prop) : Prop := wa ρ s fun h1 ρ1 s1 => onS (res ρ1 h1) fun x => onS (f x) fun z => Q (.val z) ρ1 s1
def wCallB (f : List D → Option D) (wa : WA S) (ρ : Env) (s : S) (Q : Hd → Env → S → Prop) : Prop := wa ρ s fun hs ρ1 s1 => onS (resL ρ1 hs) fun xs => onS (f xs) fun z => Q (.val z) ρ1 s1
def wCallN (f : List D → Option D) (wa : WA S) (ρ : Env) (s : S) (Q : D → Env → S → Prop) : Prop := wa ρ s fun hs ρ1 s1 => onS (resL ρ1 hs) fun xs => onS (f xs) fun z => Q z ρ1 s1
section
variable {K : PySem.W.Frag} {B : Bs S} {ta tb : TE} {wa wb : WE S}
theorem SimE.bin {r : R2} {f : D → D → Option D} (h : RuleB K B r f) (ha : SimE K B ta wa) (hb : SimE K B tb wb) : SimE K B (tOp r ta tb) (wBin f wa wb) := fun c s ρ σ Q Q' R hw q => by
  refine ha c s ρ σ _ _ R hw fun h1 ρ1 s1 v1 c1 hw R1 e1 o1 => ?_
  refine hb c1 s1 ρ1 σ _ _ R1 hw fun h2 ρ2 s2 v2 c2 hw R2 e2 o2 => ?_
  obtain ⟨x, ex, hw⟩ := onS_iff.mp hw
  obtain ⟨y, ey, hw⟩ := onS_iff.mp hw
  obtain ⟨z, ez, hw⟩ := onS_iff.mp hw
  exact h c2 s2 ρ2 σ v1 v2 x y z _ R2 (hd_rv R2 (o1.ev e2.sub) ex) (hd_rv R2 o2 ey) ez fun v c3 R3 e3 rz => q _ _ _ _ c3 hw R3 ((e1.trans e2).trans e3) rz
theorem SimN.bin {r : R2} {f : D → D → Option D} (h : RuleBN K B r f) (ha : SimE K B ta wa) (hb : SimE K B tb wb) : SimN K B (tOp r ta tb) (wBinN f wa wb) := fun c s ρ σ Q Q' R hw q => by
  refine ha c s ρ σ _ _ R hw fun h1 ρ1 s1 v1 c1 hw R1 e1 o1 => ?_
  refine hb c1 s1 ρ1 σ _ _ R1 hw fun h2 ρ2 s2 v2 c2 hw R2 e2 o2 => ?_
  obtain ⟨x, ex, hw⟩ := onS_iff.mp hw
  obtain ⟨y, ey, hw⟩ := onS_iff.mp hw
  obtain ⟨z, ez, hw⟩ := onS_iff.mp hw
  refine h c2 s2 ρ2 σ v1 v2 x y z _ R2 (hd_rv R2 (o1.ev e2.sub) ex) (hd_rv R2 o2 ey) ez fun a o c3 R3 e3 rz => q _ _ _ _ o c3 hw R3 ?_ rz
  have e := e1.trans e2
  exact ⟨e.sub.trans e3.sub, by rw [e3.tmp, e.tmp], by rw [← e.tmp]; exact e3.new⟩
theorem SimE.un {r : V → Hp → VK → Prop} {f : D → Option D} (h : RuleU K B r f) (ha : SimE K B ta wa) : SimE K B (tUn r ta) (wUn f wa) := fun c s ρ σ Q Q' R hw q => by
  refine ha c s ρ σ _ _ R hw fun h1 ρ1 s1 v1 c1 hw R1 e1 o1 => ?_
  obtain ⟨x, ex, hw⟩ := onS_iff.mp hw
  obtain ⟨z, ez, hw⟩ := onS_iff.mp hw
  exact h c1 s1 ρ1 σ v1 x z _ R1 (hd_rv R1 o1 ex) ez fun v c3 R3 e3 rz => q _ _ _ _ c3 hw R3 (e1.trans e3) rz
theorem SimE.callB {r : List V → Hp → VK → Prop} {f : List D → Option D} {ta : TA} {wa : WA S} (h : RuleC K B r f) (ha : SimA K B ta wa) : SimE K B (tCB r ta) (wCallB f wa) := fun c s ρ σ Q Q' R hw q => by
  refine ha c s ρ σ _ _ R hw fun hs ρ1 s1 vs c1 hw R1 e1 o1 => ?_
  obtain ⟨xs, ex, hw⟩ := onS_iff.mp hw
  obtain ⟨z, ez, hw⟩ := onS_iff.mp hw
  exact h c1 s1 ρ1 σ vs xs z _ R1 (hds_rv R1 o1 ex) ez fun v c3 R3 e3 rz => q _ _ _ _ c3 hw R3 (e1.trans e3) rz
theorem SimN.callB {r : List V → Hp → VK → Prop} {f : List D → Option D} {ta : TA} {wa : WA S} (h : RuleCN K B r f) (ha : SimA K B ta wa) : SimN K B (tCB r ta) (wCallN f wa) := fun c s ρ σ Q Q' R hw q => by
  refine ha c s ρ σ _ _ R hw fun hs ρ1 s1 vs c1 hw R1 e1 o1 => ?_
  obtain ⟨xs, ex, hw⟩ := onS_iff.mp hw
  obtain ⟨z, ez, hw⟩ := onS_iff.mp hw
  exact h c1 s1 ρ1 σ vs xs z _ R1 (hds_rv R1 o1 ex) ez fun a o c3 R3 e3 rz => q _ _ _ _ o c3 hw R3 ⟨e1.sub.trans e3.sub, by rw [e3.tmp, e1.tmp], by rw [← e1.tmp]; exact e3.new⟩ rz
/-- a new list, as a value: it stands still -/
def wNew (w : WN S) (ρ : Env) (s : S) (Q : Hd → Env → S → Prop) : Prop := w ρ s fun d ρ1 s1 => Q (.val d) ρ1 s1
theorem SimN.e {w : WN S} (h : SimN K B ta w) : SimE K B ta (wNew w) := fun c s ρ σ Q Q' R hw q => by
  refine h c s ρ σ _ _ R hw fun d ρ1 s1 a o c1 hw R1 e1 ok => ?_
  have ht : c1.T a = some o := by rw [e1.tmp]; simp
  obtain ⟨R2, sb, fa⟩ := R1.rest ht
  refine q _ _ _ (.ref a) { c1 with O := fun b => c1.O b ∧ b ≠ a, T := fun b => if b = a then none else c1.T b } hw R2 ⟨e1.sub.trans sb, ?_⟩ ?_
  · funext b
    show (if b = a then none else c1.T b) = c.T b
    rw [e1.tmp]
    by_cases z : b = a
    · subst z; simp [e1.new]
    · simp [z]
  · exact OwnOk.rp (by rw [fa]; exact ok.mono sb)
end
theorem SN.e {X : Cx} {B : Bs S} {e : Expr} {t : TE} {w : WN S} (h : SN X B e t w) : SE X B e t (wNew w) := ⟨h.pe, h.sim.e⟩

/-! ### the value itself, to be kept: a slot's own list stands still from now on -/
def useK (h : Hd) (ρ : Env) (k : D → Env → Prop) (_ : Tag k := ()) : Prop := match h with
  | .val d => k d ρ
  | .slot i => match ρ[i]? with
    | some (.val d) => k d ρ
    | some (.own d) => k d (ρ.set i (.val d))
    | _ => False
theorem use_ok {K : PySem.W.Frag} {B : Bs S} {c : Cf} {s : S} {ρ : Env} {σ : L2.St} {v : V} {h : Hd} {k : D → Env → Prop} (R : Rel K B c s ρ σ) (o : HdOk K B c σ v h) (u : useK h ρ k) :
    ∃ d ρ' c', k d ρ' ∧ c'.H = c.H ∧ Rel K B c' s ρ' σ ∧ Ev B c c' ∧ Rp K (Fz B c') v d := by
  cases h with
  | val d => exact ⟨d, ρ, c, u, rfl, R, Ev.refl c, o⟩
  | slot i =>
    have o : σ[i]? = some (some v) := o
    unfold useK at u
    simp only at u
    split at u
    · rename_i d hx
      obtain ⟨w, e1, r⟩ := R.slots i _ hx
      rw [o] at e1
      cases e1
      exact ⟨d, ρ, c, u, rfl, R, Ev.refl c, r⟩
    · rename_i d hx
      obtain ⟨a, ob, e1, eh, ok, R1, ef⟩ := R.lift hx
      rw [o] at e1
      cases e1
      have ht : ({ c with T := fun b => if b = a then some ob else c.T b } : Cf).T a = some ob := by simp
      obtain ⟨R2, sb, fa⟩ := R1.rest ht
      rw [ef] at sb
      obtain ⟨a', e1', e2', e3', _⟩ := R.slots i _ hx
      rw [o] at e1'
      cases e1'
      have R3 := R2.set (i := i) (v := .ref a) (OwnOk.rp (by rw [fa]; exact ok.mono sb))
      have es : σ.set i (some (V.ref a)) = σ := by
        apply List.ext_getElem?
        intro j
        by_cases z : i = j
        · subst z
          have hl : i < σ.length := by
            rcases Nat.lt_or_ge i σ.length with z | z
            · exact z
            · rw [List.getElem?_eq_none z] at o; cases o
          rw [List.getElem?_set_self hl, o]
        · rw [List.getElem?_set_ne z]
      rw [es, List.set_set] at R3
      refine ⟨d, ρ.set i (.val d), ⟨c.H, fun b => c.O b ∧ b ≠ a, c.W, fun b => if b = a then none else if b = a then some ob else c.T b⟩, u, rfl, R3, ⟨sb, ?_⟩, OwnOk.rp (by rw [fa]; exact ok.mono sb)⟩
      funext b
      show (if b = a then none else if b = a then some ob else c.T b) = c.T b
      by_cases z : b = a
      · subst z; simp [e3']
      · simp [z]
    · exact u.elim

/-! ### arguments -/
def wNil (ρ : Env) (s : S) (Q : List Hd → Env → S → Prop) : Prop := Q [] ρ s
def wCons (we : WE S) (wr : WA S) (ρ : Env) (s : S) (Q : List Hd → Env → S → Prop) : Prop := we ρ s fun h ρ1 s1 => wr ρ1 s1 fun hs ρ2 s2 => Q (h :: hs) ρ2 s2
/-- the arguments as they are to be kept -/
def wConsU (we : WE S) (wr : WA S) (ρ : Env) (s : S) (Q : List Hd → Env → S → Prop) : Prop := we ρ s fun h ρ1 s1 => useK h ρ1 fun d ρ2 => wr ρ2 s1 fun hs ρ3 s2 => Q (.val d :: hs) ρ3 s2
section
variable {K : PySem.W.Frag} {B : Bs S} {te : TE} {tr : TA} {we : WE S} {wr : WA S}
theorem SimA.nil : SimA K B tNil wNil := fun c s ρ σ Q Q' R h q => q _ _ _ _ c h R (Ev.refl c) trivial
theorem SimA.cons (ha : SimE K B te we) (hr : SimA K B tr wr) : SimA K B (tCons te tr) (wCons we wr) := fun c s ρ σ Q Q' R hw q => by
  refine ha c s ρ σ _ _ R hw fun h1 ρ1 s1 v1 c1 hw R1 e1 o1 => ?_
  refine hr c1 s1 ρ1 σ _ _ R1 hw fun hs ρ2 s2 vs c2 hw R2 e2 o2 => ?_
  exact q _ _ _ _ c2 hw R2 (e1.trans e2) ⟨o1.ev e2.sub, o2⟩
theorem SimA.consU (ha : SimE K B te we) (hr : SimA K B tr wr) : SimA K B (tCons te tr) (wConsU we wr) := fun c s ρ σ Q Q' R hw q => by
  refine ha c s ρ σ _ _ R hw fun h1 ρ1 s1 v1 c1 hw R1 e1 o1 => ?_
  obtain ⟨d, ρ2, c2, hw, eh, R2, e2, r⟩ := use_ok R1 o1 hw
  rw [← eh]
  refine hr c2 s1 ρ2 σ _ _ R2 hw fun hs ρ3 s2 vs c3 hw R3 e3 o2 => ?_
  exact q _ _ _ _ c3 hw R3 ((e1.trans e2).trans e3) ⟨r.mono e3.sub, o2⟩
end
section
variable {X : Cx} {B : Bs S} {e : Expr} {es : List Expr} {te : TE} {tr : TA} {we : WE S} {wr : WA S}
theorem sa_nil : SA X B [] tNil wNil := ⟨pa_nil, SimA.nil⟩
theorem sa_cons (ha : SE X B e te we) (hr : SA X B es tr wr) (hs : starEach (e :: es) X.env = (false, eval e X.env) :: starEach es X.env := by rfl) : SA X B (e :: es) (tCons te tr) (wCons we wr) := ⟨pa_cons ha.pe hr.pa hs, SimA.cons ha.sim hr.sim⟩
theorem sa_consU (ha : SE X B e te we) (hr : SA X B es tr wr) (hs : starEach (e :: es) X.env = (false, eval e X.env) :: starEach es X.env := by rfl) : SA X B (e :: es) (tCons te tr) (wConsU we wr) := ⟨pa_cons ha.pe hr.pa hs, SimA.consU ha.sim hr.sim⟩
end
/-- data handles of kept arguments -/
def valL : List Hd → Option (List D)
  | [] => some []
  | .val d :: hs => match valL hs with
    | some ds => some (d :: ds)
    | none => none
  | _ => none
theorem valL_rp {K : PySem.W.Frag} {B : Bs S} {c : Cf} {σ : L2.St} : ∀ {vs : List V} {hs : List Hd} {ds : List D}, HdsOk K B c σ vs hs → valL hs = some ds → RpAll K (Fz B c) vs ds
  | [], [], _, _, e => by cases e; exact .nil
  | v :: vs, .val d :: hs, ds, q, e => by
    unfold valL at e
    split at e
    · rename_i ds' e1
      cases e
      exact .cons q.1 (valL_rp q.2 e1)
    · cases e
  | v :: vs, .slot i :: hs, ds, q, e => by cases e
  | [], _ :: _, _, q, _ => q.elim
  | _ :: _, [], _, q, _ => q.elim

/-! ### displays -/
def wTup (wa : WA S) (ρ : Env) (s : S) (Q : Hd → Env → S → Prop) : Prop := wa ρ s fun hs ρ1 s1 => onS (valL hs) fun ds => ds.length ≤ sizeLine ∧ Q (.val (.tup ds)) ρ1 s1
def wLst (wa : WA S) (ρ : Env) (s : S) (Q : D → Env → S → Prop) : Prop := wa ρ s fun hs ρ1 s1 => onS (valL hs) fun ds => ds.length ≤ sizeLine ∧ Q (.lst ds) ρ1 s1
section
variable {K : PySem.W.Frag} {B : Bs S} {ta : TA} {wa : WA S}
theorem SimE.tup (ha : SimA K B ta wa) : SimE K B (tTup ta) (wTup wa) := fun c s ρ σ Q Q' R hw q => by
  refine ha c s ρ σ _ _ R hw fun hs ρ1 s1 vs c1 hw R1 e1 o1 => ?_
  obtain ⟨ds, ed, hl, hw⟩ := onS_iff.mp hw
  have r := valL_rp o1 ed
  refine ⟨by rw [r.length]; exact hl, fun p hp => ?_⟩
  obtain ⟨R2, e2, f⟩ := R1.new (o := .tup vs) hp
  exact q _ _ _ _ { c1 with H := upd c1.H p (.tup vs) } hw R2 (e1.trans e2) (.tup (.inl f) (r.mono e2.sub))
theorem SimN.lst (ha : SimA K B ta wa) : SimN K B (tLst ta) (wLst wa) := fun c s ρ σ Q Q' R hw q => by
  refine ha c s ρ σ _ _ R hw fun hs ρ1 s1 vs c1 hw R1 e1 o1 => ?_
  obtain ⟨ds, ed, hl, hw⟩ := onS_iff.mp hw
  have r := valL_rp o1 ed
  refine ⟨by rw [r.length]; exact hl, fun p hp => ?_⟩
  obtain ⟨R2, sb⟩ := R1.newT' (o := .lst vs) hp (fun _ z => nomatch z)
  have n1 := R1.newT hp
  exact q _ _ _ p (.lst vs) ⟨upd c1.H p (.lst vs), fun b => c1.O b ∨ b = p, c1.W, fun b => if b = p then some (.lst vs) else c1.T b⟩ hw R2 ⟨e1.sub.trans sb, by rw [← e1.tmp], by rw [← e1.tmp]; exact n1⟩ ⟨vs, rfl, r.mono sb⟩
end
section
variable {X : Cx} {B : Bs S} {es : List Expr} {ta : TA} {wa : WA S} {pos : Pos}
theorem se_tup {x1} (h : SA X B es ta wa) : SE X B (.Tuple es x1 pos) (tTup ta) (wTup wa) := ⟨pe_tup h.pa, SimE.tup h.sim⟩
theorem sn_lst (h : SA X B es ta wa) : SN X B (.List es pos) (tLst ta) (wLst wa) := ⟨pe_lst h.pa, SimN.lst h.sim⟩
end

/-! ### tests -/
def wB (we : WE S) (ρ : Env) (s : S) (Q : Bool → Env → S → Prop) : Prop := we ρ s fun h ρ1 s1 => match res ρ1 h with
  | some (.bl b) => Q b ρ1 s1
  | _ => False
def wAnd (t u : WT S) (ρ : Env) (s : S) (Q : Bool → Env → S → Prop) : Prop := t ρ s fun b ρ1 s1 => if b = true then u ρ1 s1 Q else Q false ρ1 s1
def wOr (t u : WT S) (ρ : Env) (s : S) (Q : Bool → Env → S → Prop) : Prop := t ρ s fun b ρ1 s1 => if b = true then Q true ρ1 s1 else u ρ1 s1 Q
def wNot (t : WT S) (ρ : Env) (s : S) (Q : Bool → Env → S → Prop) : Prop := t ρ s fun b ρ1 s1 => Q (!b) ρ1 s1
def wAndV (a b : WE S) (ρ : Env) (s : S) (Q : Hd → Env → S → Prop) : Prop := a ρ s fun h ρ1 s1 => match res ρ1 h with
  | some (.bl k) => if k = true then b ρ1 s1 Q else Q (.val (.bl false)) ρ1 s1
  | _ => False
def wOrV (a b : WE S) (ρ : Env) (s : S) (Q : Hd → Env → S → Prop) : Prop := a ρ s fun h ρ1 s1 => match res ρ1 h with
  | some (.bl k) => if k = true then Q (.val (.bl true)) ρ1 s1 else b ρ1 s1 Q
  | _ => False
def wNotV (a : WE S) (ρ : Env) (s : S) (Q : Hd → Env → S → Prop) : Prop := a ρ s fun h ρ1 s1 => match res ρ1 h with
  | some (.bl k) => Q (.val (.bl (!k))) ρ1 s1
  | _ => False
def wIfE (t : WT S) (a b : WE S) (ρ : Env) (s : S) (Q : Hd → Env → S → Prop) : Prop := t ρ s fun k ρ1 s1 => if k = true then a ρ1 s1 Q else b ρ1 s1 Q
section
variable {K : PySem.W.Frag} {B : Bs S} {te ta tb : TE} {t u : TT} {we wa wb : WE S} {wt wu : WT S}
theorem bl_of {c : Cf} {s : S} {ρ : Env} {σ : L2.St} {v : V} {h : Hd} {k : Bool → Prop} (R : Rel K B c s ρ σ) (o : HdOk K B c σ v h) (q : match res ρ h with | some (.bl b) => k b | _ => False) : ∃ b, v = .bl b ∧ k b := by
  split at q
  · rename_i b e
    exact ⟨b, (hd_rv R o e).bl, q⟩
  · exact q.elim
theorem SimT.val (h : SimE K B te we) : SimT K B (tB te) (wB we) := fun c s ρ σ Q Q' R hw q => by
  refine h c s ρ σ _ _ R hw fun h1 ρ1 s1 v1 c1 hw R1 e1 o1 => ?_
  obtain ⟨b, e, hw⟩ := bl_of R1 o1 hw
  exact ⟨b, e, q _ _ _ c1 hw R1 e1⟩
theorem SimT.and (h1 : SimT K B t wt) (h2 : SimT K B u wu) : SimT K B (tAnd t u) (wAnd wt wu) := fun c s ρ σ Q Q' R hw q => by
  refine h1 c s ρ σ _ _ R hw fun b ρ1 s1 c1 hw R1 e1 => ?_
  cases b with
  | true => exact h2 c1 s1 ρ1 σ Q Q' R1 hw fun b ρ2 s2 c2 hw R2 e2 => q _ _ _ c2 hw R2 (e1.trans e2)
  | false => exact q _ _ _ c1 hw R1 e1
theorem SimT.or (h1 : SimT K B t wt) (h2 : SimT K B u wu) : SimT K B (tOr t u) (wOr wt wu) := fun c s ρ σ Q Q' R hw q => by
  refine h1 c s ρ σ _ _ R hw fun b ρ1 s1 c1 hw R1 e1 => ?_
  cases b with
  | false => exact h2 c1 s1 ρ1 σ Q Q' R1 hw fun b ρ2 s2 c2 hw R2 e2 => q _ _ _ c2 hw R2 (e1.trans e2)
  | true => exact q _ _ _ c1 hw R1 e1
theorem SimT.not (h1 : SimT K B t wt) : SimT K B (tNot t) (wNot wt) := fun c s ρ σ Q Q' R hw q => h1 c s ρ σ _ _ R hw fun b ρ1 s1 c1 hw R1 e1 => q _ _ _ c1 hw R1 e1
theorem SimE.andV (ha : SimE K B ta wa) (hb : SimE K B tb wb) : SimE K B (tAndV ta tb) (wAndV wa wb) := fun c s ρ σ Q Q' R hw q => by
  refine ha c s ρ σ _ _ R hw fun h1 ρ1 s1 v1 c1 hw R1 e1 o1 => ?_
  obtain ⟨b, e, hw⟩ := bl_of (k := fun k => if k = true then wb ρ1 s1 Q else Q (.val (.bl false)) ρ1 s1) R1 o1 hw
  refine ⟨b, e, ?_⟩
  cases b with
  | true => exact hb c1 s1 ρ1 σ Q Q' R1 hw fun h ρ2 s2 v c2 hw R2 e2 o => q _ _ _ _ c2 hw R2 (e1.trans e2) o
  | false => exact q _ _ _ _ c1 hw R1 e1 (.bl false)
theorem SimE.orV (ha : SimE K B ta wa) (hb : SimE K B tb wb) : SimE K B (tOrV ta tb) (wOrV wa wb) := fun c s ρ σ Q Q' R hw q => by
  refine ha c s ρ σ _ _ R hw fun h1 ρ1 s1 v1 c1 hw R1 e1 o1 => ?_
  obtain ⟨b, e, hw⟩ := bl_of (k := fun k => if k = true then Q (.val (.bl true)) ρ1 s1 else wb ρ1 s1 Q) R1 o1 hw
  refine ⟨b, e, ?_⟩
  cases b with
  | false => exact hb c1 s1 ρ1 σ Q Q' R1 hw fun h ρ2 s2 v c2 hw R2 e2 o => q _ _ _ _ c2 hw R2 (e1.trans e2) o
  | true => exact q _ _ _ _ c1 hw R1 e1 (.bl true)
theorem SimE.notV (ha : SimE K B ta wa) : SimE K B (tNotV ta) (wNotV wa) := fun c s ρ σ Q Q' R hw q => by
  refine ha c s ρ σ _ _ R hw fun h1 ρ1 s1 v1 c1 hw R1 e1 o1 => ?_
  obtain ⟨b, e, hw⟩ := bl_of (k := fun k => Q (.val (.bl (!k))) ρ1 s1) R1 o1 hw
  exact ⟨b, e, q _ _ _ _ c1 hw R1 e1 (.bl _)⟩
theorem SimE.ifE (ht : SimT K B t wt) (ha : SimE K B ta wa) (hb : SimE K B tb wb) : SimE K B (L2.tIf t ta tb) (wIfE wt wa wb) := fun c s ρ σ Q Q' R hw q => by
  refine ht c s ρ σ _ _ R hw fun b ρ1 s1 c1 hw R1 e1 => ?_
  cases b with
  | true => exact ha c1 s1 ρ1 σ Q Q' R1 hw fun h ρ2 s2 v c2 hw R2 e2 o => q _ _ _ _ c2 hw R2 (e1.trans e2) o
  | false => exact hb c1 s1 ρ1 σ Q Q' R1 hw fun h ρ2 s2 v c2 hw R2 e2 o => q _ _ _ _ c2 hw R2 (e1.trans e2) o
end
section
variable {X : Cx} {B : Bs S} {a b e : Expr} {rest : List Expr} {te ta tb : TE} {t u : TT} {we wa wb : WE S} {wt wu : WT S} {pos : Pos}
theorem st_val (h : SE X B e te we) (he : ∀ whole, isTrue e X.env whole = (do let v ← whole; standAt e.pos; holding [v] (truthy v)) := by intro _; rfl) : ST X B e (tB te) (wB we) := ⟨pt_val h.pe he, SimT.val h.sim⟩
theorem st_w (h : SW X B e t wt) : ST X B e t wt := ⟨h.pw.pt, h.sim⟩
theorem sw_and1 (ha : ST X B a t wt) : SW X B (.BoolOp .And [a] pos) t wt := ⟨pw_and1 ha.pt, ha.sim⟩
theorem sw_or1 (ha : ST X B a t wt) : SW X B (.BoolOp .Or [a] pos) t wt := ⟨pw_or1 ha.pt, ha.sim⟩
theorem sw_and (ha : ST X B a t wt) (hb : SW X B (.BoolOp .And (b :: rest) pos) u wu) : SW X B (.BoolOp .And (a :: b :: rest) pos) (tAnd t u) (wAnd wt wu) := ⟨pw_and ha.pt hb.pw, SimT.and ha.sim hb.sim⟩
theorem sw_or (ha : ST X B a t wt) (hb : SW X B (.BoolOp .Or (b :: rest) pos) u wu) : SW X B (.BoolOp .Or (a :: b :: rest) pos) (tOr t u) (wOr wt wu) := ⟨pw_or ha.pt hb.pw, SimT.or ha.sim hb.sim⟩
theorem st_not (ha : ST X B a t wt) : ST X B (.UnaryOp .Not a pos) (tNot t) (wNot wt) := ⟨pt_not ha.pt, SimT.not ha.sim⟩
theorem se_one {op} (h : SE X B a te we) : SE X B (.BoolOp op [a] pos) te we := ⟨pe_one h.pe, h.sim⟩
theorem se_and (ha : SE X B a ta wa) (hb : SE X B (.BoolOp .And (b :: rest) pos) tb wb) : SE X B (.BoolOp .And (a :: b :: rest) pos) (tAndV ta tb) (wAndV wa wb) := ⟨pe_and ha.pe hb.pe, SimE.andV ha.sim hb.sim⟩
theorem se_or (ha : SE X B a ta wa) (hb : SE X B (.BoolOp .Or (b :: rest) pos) tb wb) : SE X B (.BoolOp .Or (a :: b :: rest) pos) (tOrV ta tb) (wOrV wa wb) := ⟨pe_or ha.pe hb.pe, SimE.orV ha.sim hb.sim⟩
theorem se_not (ha : SE X B a ta wa) : SE X B (.UnaryOp .Not a pos) (tNotV ta) (wNotV wa) := ⟨pe_not ha.pe, SimE.notV ha.sim⟩
theorem se_ifE {c : Expr} (hc : ST X B c t wt) (ha : SE X B a ta wa) (hb : SE X B b tb wb) : SE X B (.IfExp c a b pos) (L2.tIf t ta tb) (wIfE wt wa wb) := ⟨pe_ifExp hc.pt ha.pe hb.pe, SimE.ifE hc.sim ha.sim hb.sim⟩
end
end
end Ld

/-! Value layer, part 3: statements, targets, loops, comprehensions. -/
namespace Ld
open PySem PySem.Spec PyProof.Rows L2

structure DE (S : Type) where
  nx : Env → S → Prop
  rt : D → S → Prop
  bk : Env → S → Prop := fun _ _ => False
  ct : Env → S → Prop := fun _ _ => False
section
variable {S : Type}
abbrev WS (S : Type) := DE S → Env → S → Prop
abbrev WG (S : Type) := D → Env → S → (Env → S → Prop) → Prop
abbrev WI (S : Type) := Env → S → (List D → Env → S → Prop) → Prop

/-- what a def hands back: data; where asked, nothing of it is a list that was there ahead -/
def RetOk (K : PySem.W.Frag) (B : Bs S) (c : Cf) (v : V) (d : D) : Prop :=
  Rp K (Fz B c) v d ∧ (B.fr = true → imm d = true ∨ ∃ a ds vs, v = .ref a ∧ d = .lst ds ∧ imms ds = true ∧ c.H a = some (.lst vs) ∧ RpAll K c.H vs ds ∧ B.H0 a = none ∧ ¬ c.W a)

structure EndsOk (K : PySem.W.Frag) (B : Bs S) (c : Cf) (N : DE S) (N' : Ends) : Prop where
  nx : ∀ ρ s σ c', N.nx ρ s → Rel K B c' s ρ σ → Ev B c c' → N'.nx σ c'.H
  bk : ∀ ρ s σ c', N.bk ρ s → Rel K B c' s ρ σ → Ev B c c' → N'.bk σ c'.H
  ct : ∀ ρ s σ c', N.ct ρ s → Rel K B c' s ρ σ → Ev B c c' → N'.ct σ c'.H
  rt : ∀ d ρ s σ v c', N.rt d s → Rel K B c' s ρ σ → Ev B c c' → RetOk K B c' v d → N'.rt v c'.H
theorem EndsOk.ev {K : PySem.W.Frag} {B : Bs S} {c c1 : Cf} {N : DE S} {N' : Ends} (h : EndsOk K B c N N') (e : Ev B c c1) : EndsOk K B c1 N N' :=
  ⟨fun ρ s σ c' a R f => h.nx ρ s σ c' a R (e.trans f), fun ρ s σ c' a R f => h.bk ρ s σ c' a R (e.trans f), fun ρ s σ c' a R f => h.ct ρ s σ c' a R (e.trans f), fun d ρ s σ v c' a R f => h.rt d ρ s σ v c' a R (e.trans f)⟩

def SimS (K : PySem.W.Frag) (B : Bs S) (t : TS) (w : WS S) : Prop := ∀ (c : Cf) (s : S) (ρ : Env) (σ : L2.St) (N : DE S) (N' : Ends), Rel K B c s ρ σ → w N ρ s → EndsOk K B c N N' → t N' σ c.H
/-- a target: it stores into the slots ts alone -/
def SimG (K : PySem.W.Frag) (B : Bs S) (ts : List Nat) (g : TG) (w : WG S) : Prop := ∀ (c : Cf) (s : S) (ρ : Env) (σ : L2.St) (v : V) (d : D) (Q : Env → S → Prop) (Q' : L2.St → Hp → Prop), Rel K B c s ρ σ → Rp K (Fz B c) v d → w d ρ s Q →
  (∀ ρ' s' σ' c', Q ρ' s' → Rel K B c' s' ρ' σ' → Ev B c c' → (∀ j, j ∉ ts → σ'[j]? = σ[j]?) → σ'.length = σ.length → Q' σ' c'.H) → g v σ c.H Q'
structure WkOk (K : PySem.W.Frag) (B : Bs S) (c : Cf) (J : It) (ds : List D) (G : Hp → Prop) (Y : Nat → Hp → V → Hp → Prop) : Prop where
  walk : Walk J ds.length G Y
  still : ∀ c1 s ρ σ, Rel K B c1 s ρ σ → Sub (Fz B c) (Fz B c1) → G c1.H
  item : ∀ i x H' c1 s ρ σ, i < ds.length → Rel K B c1 s ρ σ → Sub (Fz B c) (Fz B c1) → Y i c1.H x H' → ∃ c2 d, c2.H = H' ∧ Rel K B c2 s ρ σ ∧ Ev B c1 c2 ∧ ds[i]? = some d ∧ Rp K (Fz B c2) x d
def SimI (K : PySem.W.Frag) (B : Bs S) (wi : TI) (w : WI S) : Prop := ∀ (c : Cf) (s : S) (ρ : Env) (σ : L2.St) (Q : List D → Env → S → Prop) (R' : It → Hp → Prop), Rel K B c s ρ σ → w ρ s Q →
  (∀ ds ρ' s' J c' G Y, Q ds ρ' s' → Rel K B c' s' ρ' σ → Ev B c c' → WkOk K B c' J ds G Y → R' J c'.H) → wi σ c.H R'

structure SS (X : Cx) (B : Bs S) (st : Stmt) (t : TS) (w : WS S) : Prop where
  ps : PS X st t
  sim : SimS B.K B t w
structure SSs (X : Cx) (B : Bs S) (st : List Stmt) (t : TS) (w : WS S) : Prop where
  pss : PSs X st t
  sim : SimS B.K B t w
structure SG (X : Cx) (B : Bs S) (tg : Expr) (ts : List Nat) (g : TG) (w : WG S) : Prop where
  pg : PG X tg g
  sim : SimG B.K B ts g w
structure SI (X : Cx) (B : Bs S) (tg iter : Expr) (wi : TI) (w : WI S) : Prop where
  pi : PI X tg iter wi
  sim : SimI B.K B wi w

/-! ### blocks, small statements -/
def wNext (N : DE S) (ρ : Env) (s : S) : Prop := N.nx ρ s
def wSeq (t u : WS S) (N : DE S) (ρ : Env) (s : S) : Prop := t { N with nx := u N } ρ s
def wBreak (N : DE S) (ρ : Env) (s : S) : Prop := N.bk ρ s
def wCont (N : DE S) (ρ : Env) (s : S) : Prop := N.ct ρ s
def wIf (c : WT S) (t u : WS S) (N : DE S) (ρ : Env) (s : S) : Prop := c ρ s fun b ρ1 s1 => if b = true then t N ρ1 s1 else u N ρ1 s1
def wDrop (we : WE S) (N : DE S) (ρ : Env) (s : S) : Prop := we ρ s fun _ ρ1 s1 => N.nx ρ1 s1
def wSet (i : Nat) (we : WE S) (N : DE S) (ρ : Env) (s : S) : Prop := we ρ s fun h ρ1 s1 => useK h ρ1 fun d ρ2 => N.nx (ρ2.set i (.val d)) s1
def wOwn (i : Nat) (wn : WN S) (N : DE S) (ρ : Env) (s : S) : Prop := wn ρ s fun d ρ1 s1 => N.nx (ρ1.set i (.own d)) s1
/-- return: fr tells whether it must be all new -/
def wRet (fr : Bool) (we : WE S) (N : DE S) (ρ : Env) (s : S) : Prop := we ρ s fun h ρ1 s1 => match h with
  | .val d => (fr = true → imm d = true) ∧ N.rt d s1
  | .slot i => match ρ1[i]? with
    | some (.val d) => (fr = true → imm d = true) ∧ N.rt d s1
    | some (.own (.lst ds)) => (fr = true → imms ds = true) ∧ N.rt (.lst ds) s1
    | some (.own d) => fr = false ∧ N.rt d s1
    | _ => False
def wRetNew (fr : Bool) (wn : WN S) (N : DE S) (ρ : Env) (s : S) : Prop := wn ρ s fun d ρ1 s1 => match d with
  | .lst ds => (fr = true → imms ds = true) ∧ N.rt (.lst ds) s1
  | d => fr = false ∧ N.rt d s1
def wRet0 (N : DE S) (_ : Env) (s : S) : Prop := N.rt .non s
def wNever (_ : DE S) (_ : Env) (_ : S) : Prop := False
section
variable {K : PySem.W.Frag} {B : Bs S} {t u : TS} {w w' : WS S} {te : TE} {tt : TT} {we : WE S} {wt : WT S} {wn : WN S}
theorem SimS.next : SimS K B tNext wNext := fun c s ρ σ N N' R h E => E.nx _ _ _ c h R (Ev.refl c)
theorem SimS.brk : SimS K B tBreak wBreak := fun c s ρ σ N N' R h E => E.bk _ _ _ c h R (Ev.refl c)
theorem SimS.cont : SimS K B tCont wCont := fun c s ρ σ N N' R h E => E.ct _ _ _ c h R (Ev.refl c)
theorem SimS.never : SimS K B tNever wNever := fun c s ρ σ N N' R h E => h.elim
theorem SimS.seq (h1 : SimS K B t w) (h2 : SimS K B u w') : SimS K B (tSeq t u) (wSeq w w') := fun c s ρ σ N N' R h E =>
  h1 c s ρ σ { N with nx := w' N } { N' with nx := u N' } R h ⟨fun ρ1 s1 σ1 c1 a R1 e => h2 c1 s1 ρ1 σ1 N N' R1 a (E.ev e), E.bk, E.ct, E.rt⟩
theorem SimS.ite (hc : SimT K B tt wt) (h1 : SimS K B t w) (h2 : SimS K B u w') : SimS K B (tIfS tt t u) (wIf wt w w') := fun c s ρ σ N N' R h E =>
  hc c s ρ σ _ _ R h fun b ρ1 s1 c1 h R1 e => by
    cases b with
    | true => exact h1 c1 s1 ρ1 σ N N' R1 h (E.ev e)
    | false => exact h2 c1 s1 ρ1 σ N N' R1 h (E.ev e)
theorem SimS.drop (he : SimE K B te we) : SimS K B (tDrop te) (wDrop we) := fun c s ρ σ N N' R h E => he c s ρ σ _ _ R h fun _ ρ1 s1 v c1 h R1 e _ => E.nx _ _ _ c1 h R1 e
theorem SimS.set (i : Nat) (he : SimE K B te we) : SimS K B (tAsg te (gName i)) (wSet i we) := fun c s ρ σ N N' R h E =>
  he c s ρ σ _ _ R h fun h ρ1 s1 v c1 hw R1 e o => by
    obtain ⟨d, ρ2, c2, hw, eh, R2, e2, r⟩ := use_ok R1 o hw
    show N'.nx (σ.set i (some v)) c1.H
    rw [← eh]
    exact E.nx _ _ _ c2 hw (R2.set r) (e.trans e2)
theorem take_ev {c c1 : Cf} {a : Addr} {o : HO} (e : EvN B c c1 a o) : Ev B c { c1 with T := fun b => if b = a then none else c1.T b } := by
  refine ⟨e.sub, ?_⟩
  funext b
  show (if b = a then none else c1.T b) = c.T b
  rw [e.tmp]
  by_cases z : b = a
  · subst z; simp [e.new]
  · simp [z]
theorem rest_ev {c c1 : Cf} {a : Addr} {o : HO} (e : EvN B c c1 a o) (sb : Sub (Fz B c1) (Fz B { c1 with O := fun b => c1.O b ∧ b ≠ a, T := fun b => if b = a then none else c1.T b })) : Ev B c { c1 with O := fun b => c1.O b ∧ b ≠ a, T := fun b => if b = a then none else c1.T b } :=
  ⟨e.sub.trans sb, (take_ev e).tmp⟩
theorem SimS.own (i : Nat) (he : SimN K B te wn) : SimS K B (tAsg te (gName i)) (wOwn i wn) := fun c s ρ σ N N' R h E =>
  he c s ρ σ _ _ R h fun d ρ1 s1 a o c1 hw R1 e ok => by
    have ht : c1.T a = some o := by rw [e.tmp]; simp
    obtain ⟨R2, _⟩ := R1.take (i := i) ht ok
    exact E.nx _ _ (σ.set i (some (.ref a))) { c1 with T := fun b => if b = a then none else c1.T b } hw R2 (take_ev e)
theorem ret_new {c c1 : Cf} {s s1 : S} {ρ1 : Env} {σ : L2.St} {a : Addr} {o : HO} {d : D} {N : DE S} {N' : Ends} (E : EndsOk K B c N N') (R1 : Rel K B c1 s1 ρ1 σ) (e : EvN B c c1 a o) (ok : OwnOk K (Fz B c1) (some o) d) (hi : B.fr = true → ∃ ds, d = .lst ds ∧ imms ds = true) (hw : N.rt d s1) : N'.rt (.ref a) c1.H := by
  have ht : c1.T a = some o := by rw [e.tmp]; simp
  obtain ⟨R2, sb, fa⟩ := R1.rest ht
  obtain ⟨hH, hO⟩ := R1.tmp a o ht
  obtain ⟨n0, nW, _⟩ := R1.onew a hO
  refine E.rt d _ _ _ (.ref a) { c1 with O := fun b => c1.O b ∧ b ≠ a, T := fun b => if b = a then none else c1.T b } hw R2 (rest_ev e sb) ⟨OwnOk.rp (by rw [fa]; exact ok.mono sb), fun hf => .inr ?_⟩
  obtain ⟨ds, rfl, im⟩ := hi hf
  obtain ⟨vs, e1, r⟩ := ok
  cases e1
  exact ⟨a, ds, vs, rfl, rfl, im, hH, r.mono R1.fsub, n0, nW⟩
theorem SimS.retNew (he : SimN K B te wn) : SimS K B (tRet te) (wRetNew B.fr wn) := fun c s ρ σ N N' R h E =>
  he c s ρ σ _ _ R h fun d ρ1 s1 a o c1 hw R1 e ok => by
    show N'.rt (.ref a) c1.H
    split at hw
    · rename_i x ds
      exact ret_new (s := s) E R1 e ok (fun hf => ⟨ds, rfl, hw.1 hf⟩) hw.2
    · exact ret_new (s := s) E R1 e ok (fun hf => absurd (hw.1.symm.trans hf) Bool.false_ne_true) hw.2
theorem SimS.ret (he : SimE K B te we) : SimS K B (tRet te) (wRet B.fr we) := fun c s ρ σ N N' R h E =>
  he c s ρ σ _ _ R h fun h ρ1 s1 v c1 hw R1 e o => by
    show N'.rt v c1.H
    have own : ∀ (i : Nat) (d : D), h = .slot i → ρ1[i]? = some (.own d) → (B.fr = true → ∃ ds, d = .lst ds ∧ imms ds = true) → N.rt d s1 → N'.rt v c1.H := fun i d hh hx hi hr => by
      subst hh
      have o : σ[i]? = some (some v) := o
      obtain ⟨a, ob, e1, eh, ok, R2, ef⟩ := R1.lift hx
      obtain ⟨a', e1', e2', e3', _⟩ := R1.slots i _ hx
      rw [o] at e1
      cases e1
      rw [o] at e1'
      cases e1'
      exact ret_new (s := s) (c1 := { c1 with T := fun b => if b = a then some ob else c1.T b }) (o := ob) E R2 ⟨by rw [ef]; exact e.sub, by funext b; show (if b = a then some ob else c1.T b) = _; rw [e.tmp], by rw [← e.tmp]; exact e3'⟩ (by rw [ef]; exact ok) hi hr
    split at hw
    · rename_i d
      exact E.rt d _ _ _ v c1 hw.2 R1 e ⟨o, fun hf => .inl (hw.1 hf)⟩
    · rename_i i
      split at hw
      · rename_i d hx
        obtain ⟨u, e1, r⟩ := R1.slots i _ hx
        have o : σ[i]? = some (some v) := o
        rw [o] at e1
        cases e1
        exact E.rt d _ _ _ v c1 hw.2 R1 e ⟨r, fun hf => .inl (hw.1 hf)⟩
      · rename_i ds hx
        exact own i _ rfl hx (fun hf => ⟨ds, rfl, hw.1 hf⟩) hw.2
      · rename_i d _ hx
        exact own i _ rfl hx (fun hf => absurd (hw.1.symm.trans hf) Bool.false_ne_true) hw.2
      · exact hw.elim
theorem SimS.ret0 : SimS K B tRetN wRet0 := fun c s ρ σ N N' R h E => E.rt .non _ _ _ .non c h R (Ev.refl c) ⟨.non, fun _ => .inl rfl⟩
end
section
variable {X : Cx} {B : Bs S} {st : Stmt} {rest : List Stmt} {t u : TS} {w w' : WS S} {e : Expr} {te : TE} {tt : TT} {we : WE S} {wt : WT S} {wn : WN S} {pos : Pos}
theorem ss_nil : SSs X B [] tNext wNext := ⟨pss_nil, SimS.next⟩
theorem ss_cons (h1 : SS X B st t w) (h2 : SSs X B rest u w') : SSs X B (st :: rest) (tSeq t u) (wSeq w w') := ⟨pss_cons h1.ps h2.pss, SimS.seq h1.sim h2.sim⟩
theorem ss_one (h1 : SS X B st t w) : SSs X B [st] t w := ⟨pss_one h1.ps, h1.sim⟩
theorem s_pass : SS X B (.Pass pos) tNext wNext := ⟨ps_pass, SimS.next⟩
theorem s_break : SS X B (.Break pos) tBreak wBreak := ⟨ps_break, SimS.brk⟩
theorem s_cont : SS X B (.Continue pos) tCont wCont := ⟨ps_continue, SimS.cont⟩
theorem s_never : SS X B st tNever wNever := ⟨ps_never, SimS.never⟩
theorem ss_never {sts : List Stmt} : SSs X B sts tNever wNever := ⟨pss_never, SimS.never⟩
theorem s_doc {x : Str} {j pos pos'} : SS X B (.Expr (.Constant (.str x) j pos) pos') tNext wNext := ⟨ps_doc, SimS.next⟩
theorem s_if {c : Expr} {a b : List Stmt} (hc : ST X B c tt wt) (ha : SSs X B a t w) (hb : SSs X B b u w') : SS X B (.If c a b pos) (tIfS tt t u) (wIf wt w w') := ⟨ps_if hc.pt ha.pss hb.pss, SimS.ite hc.sim ha.sim hb.sim⟩
theorem s_expr (he : SE X B e te we) (hs : swapsWith e none pos.line X.env = pure false := by rfl) : SS X B (.Expr e pos) (tDrop te) (wDrop we) := ⟨ps_expr he.pe hs, SimS.drop he.sim⟩
theorem s_set (i : Nat) {x : Str} {pos' : Pos} (hN : X.N.Nodup) (he : SE X B e te we) (hi : X.N[i]? = some x := by rfl) (hx : Loc X.env.scope x := by first | exact Or.inl rfl | exact Or.inr rfl) (hs : swapsWith e (some (.Name x pos')) pos.line X.env = pure false := by rfl)
    (hf : X.fn x = true ∨ X.env.scope.names.lookup x = some .local := by first | exact .inl rfl | exact .inr rfl | assumption) : SS X B (.Assign [.Name x pos'] e pos) (tAsg te (gName i)) (wSet i we) := ⟨ps_set hN hi hx he.pe hs hf, SimS.set i he.sim⟩
theorem s_own (i : Nat) {x : Str} {pos' : Pos} (hN : X.N.Nodup) (he : SN X B e te wn) (hi : X.N[i]? = some x := by rfl) (hx : Loc X.env.scope x := by first | exact Or.inl rfl | exact Or.inr rfl) (hs : swapsWith e (some (.Name x pos')) pos.line X.env = pure false := by rfl)
    (hf : X.fn x = true ∨ X.env.scope.names.lookup x = some .local := by first | exact .inl rfl | exact .inr rfl | assumption) : SS X B (.Assign [.Name x pos'] e pos) (tAsg te (gName i)) (wOwn i wn) := ⟨ps_set hN hi hx he.pe hs hf, SimS.own i he.sim⟩
theorem s_ret (he : SE X B e te we) : SS X B (.Return (some e) pos) (tRet te) (wRet B.fr we) := ⟨ps_ret he.pe, SimS.ret he.sim⟩
theorem s_retNew (he : SN X B e te wn) : SS X B (.Return (some e) pos) (tRet te) (wRetNew B.fr wn) := ⟨ps_ret he.pe, SimS.retNew he.sim⟩
theorem s_ret0 : SS X B (.Return none pos) tRetN wRet0 := ⟨ps_retN, SimS.ret0⟩
end

/-! ### targets -/
def wName (i : Nat) (d : D) (ρ : Env) (s : S) (Q : Env → S → Prop) : Prop := Q (ρ.set i (.val d)) s
def wGs : List (WG S) → List D → Env → S → (Env → S → Prop) → Prop
  | [], [], ρ, s, Q => Q ρ s
  | g :: gs, d :: ds, ρ, s, Q => g d ρ s fun ρ1 s1 => wGs gs ds ρ1 s1 Q
  | _, _, _, _, _ => False
def wGTup (gs : List (WG S)) (d : D) (ρ : Env) (s : S) (Q : Env → S → Prop) : Prop := match d with
  | .tup ds => ds.length = gs.length ∧ wGs gs ds ρ s Q
  | _ => False
theorem set_else {α : Type} {l : List α} {i : Nat} {x : α} {ts : List Nat} (h : i ∈ ts) : ∀ j, j ∉ ts → (l.set i x)[j]? = l[j]? := fun j hj => List.getElem?_set_ne fun e => hj (by rw [← e]; exact h)
def SimGs (K : PySem.W.Frag) (B : Bs S) (ts : List Nat) (g : TGs) (ws : List (WG S)) : Prop := ∀ (c : Cf) (s : S) (ρ : Env) (σ : L2.St) (vs : List V) (ds : List D) (Q : Env → S → Prop) (Q' : L2.St → Hp → Prop), Rel K B c s ρ σ → RpAll K (Fz B c) vs ds → wGs ws ds ρ s Q →
  (∀ ρ' s' σ' c', Q ρ' s' → Rel K B c' s' ρ' σ' → Ev B c c' → (∀ j, j ∉ ts → σ'[j]? = σ[j]?) → σ'.length = σ.length → Q' σ' c'.H) → g vs σ c.H Q'
structure SGs (X : Cx) (B : Bs S) (es : List Expr) (ts : List Nat) (g : TGs) (ws : List (WG S)) : Prop where
  pgs : PGs X es g
  sim : SimGs B.K B ts g ws
section
variable {K : PySem.W.Frag} {B : Bs S}
theorem SimG.name (i : Nat) : SimG K B [i] (gName i) (wName i) := fun c s ρ σ v d Q Q' R r h q => q _ _ _ c h (R.set r) (Ev.refl c) (set_else (by simp)) (by simp)
theorem SimGs.nil : SimGs K B [] gNil [] := fun c s ρ σ vs ds Q Q' R r h q => by
  cases r with
  | nil => exact ⟨rfl, q _ _ _ c h R (Ev.refl c) (fun _ _ => rfl) rfl⟩
  | cons _ _ => exact h.elim
theorem SimGs.cons {ts us : List Nat} {g : TG} {gs : TGs} {w : WG S} {ws : List (WG S)} (h1 : SimG K B ts g w) (h2 : SimGs K B us gs ws) : SimGs K B (ts ++ us) (gCons g gs) (w :: ws) := fun c s ρ σ vs ds Q Q' R r h q => by
  cases r with
  | nil => exact h.elim
  | cons r rr =>
    refine ⟨_, _, rfl, h1 c s ρ σ _ _ _ _ R r h fun ρ1 s1 σ1 c1 h R1 e1 k1 l1 => ?_⟩
    refine h2 c1 s1 ρ1 σ1 _ _ _ _ R1 (rr.mono e1.sub) h fun ρ2 s2 σ2 c2 h R2 e2 k2 l2 => q _ _ _ c2 h R2 (e1.trans e2) (fun j hj => ?_) (l2.trans l1)
    simp only [List.mem_append, not_or] at hj
    rw [k2 j hj.2, k1 j hj.1]
theorem SimG.tup {ts : List Nat} {g : TGs} {ws : List (WG S)} {n : Nat} (h : SimGs K B ts g ws) (hn : ws.length = n) : SimG K B ts (gTup K n g) (wGTup ws) := fun c s ρ σ v d Q Q' R r hw q => by
  cases r with
  | tup hs rr =>
    exact ⟨_, _, rfl, R.fsub.seqT hs.sq, by rw [rr.length, hw.1, hn], h c s ρ σ _ _ Q Q' R rr hw.2 q⟩
  | _ => exact hw.elim
end
section
variable {X : Cx} {B : Bs S} {pos : Pos}
theorem sg_name (i : Nat) {x : Str} (hN : X.N.Nodup) (hi : X.N[i]? = some x := by rfl) (hx : Loc X.env.scope x := by first | exact Or.inl rfl | exact Or.inr rfl) (hf : X.fn x = true ∨ X.env.scope.names.lookup x = some .local := by first | exact .inl rfl | exact .inr rfl | assumption) : SG X B (.Name x pos) [i] (gName i) (wName i) := ⟨pg_name hN hi hx hf, SimG.name i⟩
theorem sgs_nil : SGs X B [] [] gNil [] := ⟨pgs_nil, SimGs.nil⟩
theorem sgs_cons {e : Expr} {es : List Expr} {ts us : List Nat} {g : TG} {gs : TGs} {w : WG S} {ws : List (WG S)} (h1 : SG X B e ts g w) (h2 : SGs X B es us gs ws) (hs : (assignEach (e :: es) X.env).map (·.2) = assign e X.env :: (assignEach es X.env).map (·.2) := by rfl) :
    SGs X B (e :: es) (ts ++ us) (gCons g gs) (w :: ws) := ⟨pgs_cons h1.pg h2.pgs hs, SimGs.cons h1.sim h2.sim⟩
theorem sg_tup {es : List Expr} {k : Nat} {ts : List Nat} {g : TGs} {ws : List (WG S)} {n : Nat} (hc : X.calm = true) (h : SGs X B es ts g ws) (hw : ws.length = n := by rfl)
    (hn : (assignEach es X.env).length = n := by rfl) (hst : (assignEach es X.env).findIdx? (·.1) = none := by rfl) (hK : X.K = B.K := by rfl)  : SG X B (.Tuple es k pos) ts (gTup B.K n g) (wGTup ws) := ⟨hK ▸ (pg_tup hc h.pgs hn hst), SimG.tup h.sim hw⟩
end
/-- target = value -/
def wAsg (we : WE S) (wg : WG S) (N : DE S) (ρ : Env) (s : S) : Prop := we ρ s fun h ρ1 s1 => useK h ρ1 fun d ρ2 => wg d ρ2 s1 N.nx
theorem SimS.asg {K : PySem.W.Frag} {B : Bs S} {te : TE} {we : WE S} {ts : List Nat} {g : TG} {wg : WG S} (he : SimE K B te we) (hg : SimG K B ts g wg) : SimS K B (tAsg te g) (wAsg we wg) := fun c s ρ σ N N' R h E =>
  he c s ρ σ _ _ R h fun h ρ1 s1 v c1 hw R1 e o => by
    obtain ⟨d, ρ2, c2, hw, eh, R2, e2, r⟩ := use_ok R1 o hw
    show g v σ c1.H N'.nx
    rw [← eh]
    exact hg c2 s1 ρ2 σ v d _ _ R2 r hw fun ρ3 s3 σ3 c3 hw R3 e3 _ _ => E.nx _ _ _ c3 hw R3 ((e.trans e2).trans e3)
theorem s_asg {X : Cx} {B : Bs S} {pos : Pos} {tg e : Expr} {te : TE} {we : WE S} {ts : List Nat} {g : TG} {wg : WG S} (he : SE X B e te we) (hg : SG X B tg ts g wg) (hs : swapsWithSole [tg] e pos.line X.env = pure false := by rfl) (hw : swappedStores [tg] e X.env = pure none := by rfl)
    (h1 : (assignEach [tg] X.env).map (·.2) = [assign tg X.env] := by rfl) : SS X B (.Assign [tg] e pos) (tAsg te g) (wAsg we wg) := ⟨ps_asg he.pe hg.pg hs hw h1, SimS.asg he.sim hg.sim⟩
/-- a, b = e1, e2, both names local -/
def wPar (i j : Nat) (wa : WA S) (N : DE S) (ρ : Env) (s : S) : Prop := wa ρ s fun hs ρ1 s1 => match hs with
  | [.val d, .val e] => N.nx ((ρ1.set i (.val d)).set j (.val e)) s1
  | _ => False
theorem SimS.par {K : PySem.W.Frag} {B : Bs S} {ta : TA} {wa : WA S} (i j : Nat) (ha : SimA K B ta wa) : SimS K B (tPar i j ta) (wPar i j wa) := fun c s ρ σ N N' R h E =>
  ha c s ρ σ _ _ R h fun hs ρ1 s1 vs c1 hw R1 e o => by
    unfold wPar at h
    split at hw
    · rename_i d e'
      match vs, o with
      | [v, w], ⟨o1, o2, _⟩ => exact ⟨v, w, rfl, E.nx _ _ _ c1 hw ((R1.set o1).set o2) e⟩
    · exact hw.elim
theorem s_par {X : Cx} {B : Bs S} (i j : Nat) {x y : Str} {a b : Expr} {ta : TA} {wa : WA S} {px py pt : Pos} {kt k2 pt2} {pos : Pos} (hc : X.calm = true) (hN : X.N.Nodup) (ha : SA X B [a, b] ta wa) (hi : X.N[i]? = some x := by rfl) (hj : X.N[j]? = some y := by rfl) (hij : i ≠ j := by decide)
    (hx : X.env.scope.names.lookup x = some .local := by rfl) (hy : X.env.scope.names.lookup y = some .local := by rfl) (hp : PS X (.Assign [.Tuple [.Name x px, .Name y py] kt pt] (.Tuple [a, b] k2 pt2) pos) (tPar i j ta)) :
    SS X B (.Assign [.Tuple [.Name x px, .Name y py] kt pt] (.Tuple [a, b] k2 pt2) pos) (tPar i j ta) (wPar i j wa) := ⟨hp, SimS.par i j ha.sim⟩

/-! ### for -/
def wForL (wg : WG S) (wb : WS S) (N : DE S) : List D → Env → S → Prop
  | [], ρ, s => N.nx ρ s
  | d :: ds, ρ, s => wg d ρ s fun ρ1 s1 => wb { N with nx := wForL wg wb N ds, ct := wForL wg wb N ds, bk := N.nx } ρ1 s1
def wFor (wi : WI S) (wg : WG S) (wb : WS S) (N : DE S) (ρ : Env) (s : S) : Prop := wi ρ s fun ds ρ1 s1 => wForL wg wb N ds ρ1 s1
theorem drop_get {α : Type} {ds : List α} {i : Nat} {d : α} (h : ds[i]? = some d) : ds.drop i = d :: ds.drop (i + 1) := by
  obtain ⟨hl, e⟩ := List.getElem?_eq_some_iff.mp h
  rw [List.drop_eq_getElem_cons hl, e]
theorem SimS.for {K : PySem.W.Frag} {B : Bs S} {wi : TI} {g : TG} {tb : TS} {ui : WI S} {ts : List Nat} {ug : WG S} {ub : WS S} (hi : SimI K B wi ui) (hg : SimG K B ts g ug) (hb : SimS K B tb ub) : SimS K B (tFor wi g tb) (wFor ui ug ub) := fun c s ρ σ N N' R h E =>
  hi c s ρ σ _ _ R h fun ds ρ1 s1 J c1 G Y hw R1 e1 wk => by
    refine for_it wk.walk (fun i σ' H' => ∃ c2 s2 ρ2, c2.H = H' ∧ Rel K B c2 s2 ρ2 σ' ∧ Ev B c1 c2 ∧ wForL ug ub N (ds.drop i) ρ2 s2) ⟨c1, s1, ρ1, rfl, R1, Ev.refl c1, by simpa using hw⟩ ?_ ?_ ?_
    · rintro i σ' H' _ ⟨c2, s2, ρ2, rfl, R2, e2, _⟩
      exact wk.still c2 s2 ρ2 σ' R2 e2.sub
    · rintro i x σ' H' H'' hlt ⟨c2, s2, ρ2, rfl, R2, e2, hw⟩ y
      obtain ⟨c3, d, rfl, R3, e3, hd, r⟩ := wk.item i x H'' c2 s2 ρ2 σ' hlt R2 e2.sub y
      rw [drop_get hd] at hw
      refine hg c3 s2 ρ2 σ' x d _ _ R3 r hw fun ρ4 s4 σ4 c4 hw R4 e4 _ _ => ?_
      have e14 := (e2.trans e3).trans e4
      refine hb c4 s4 ρ4 σ4 _ _ R4 hw ⟨fun ρ5 s5 σ5 c5 a R5 e5 => ?_, fun ρ5 s5 σ5 c5 a R5 e5 => ?_, fun ρ5 s5 σ5 c5 a R5 e5 => ?_, fun d5 ρ5 s5 σ5 v c5 a R5 e5 r5 => ?_⟩
      · exact ⟨c5, s5, ρ5, rfl, R5, e14.trans e5, a⟩
      · exact E.nx _ _ _ c5 a R5 ((e1.trans e14).trans e5)
      · exact ⟨c5, s5, ρ5, rfl, R5, e14.trans e5, a⟩
      · exact E.rt _ _ _ _ _ c5 a R5 ((e1.trans e14).trans e5) r5
    · rintro σ' H' ⟨c2, s2, ρ2, rfl, R2, e2, hw⟩
      rw [List.drop_eq_nil_of_le (Nat.le_refl _)] at hw
      exact E.nx _ _ _ c2 hw R2 (e1.trans e2)
theorem s_for {X : Cx} {B : Bs S} {tg iter : Expr} {body : List Stmt} {wi : TI} {g : TG} {tb : TS} {ui : WI S} {ts : List Nat} {ug : WG S} {ub : WS S} {pos : Pos} (hp : PassesOwn (model X.prog X.w) X.A X.env X.xe) (hc : X.calm = true) (hi : SI X B tg iter wi ui) (hg : SG X B tg ts g ug) (hb : SSs X B body tb ub)
    (hs : ∀ x, foldedSetIterable iter X.env x = pure x := by intro _; rfl) : SS X B (.For tg iter body [] pos) (tFor wi g tb) (wFor ui ug ub) := ⟨ps_for hp hc hi.pi hg.pg hb.pss hs, SimS.for hi.sim hg.sim hb.sim⟩

/-! ### while -/
def wWhileN (wt : WT S) (wb : WS S) (N : DE S) : Nat → Env → S → Prop
  | 0, _, _ => False
  | n + 1, ρ, s => wt ρ s fun b ρ1 s1 => if b = true then wb { N with nx := wWhileN wt wb N n, ct := wWhileN wt wb N n, bk := N.nx } ρ1 s1 else N.nx ρ1 s1
def wWhile (wt : WT S) (wb : WS S) (N : DE S) (ρ : Env) (s : S) : Prop := ∃ n, wWhileN wt wb N n ρ s
theorem SimS.while {K : PySem.W.Frag} {B : Bs S} {tt : TT} {tb : TS} {ut : WT S} {ub : WS S} (ht : SimT K B tt ut) (hb : SimS K B tb ub) : SimS K B (tWhile tt tb) (wWhile ut ub) := fun c s ρ σ N N' R h E => by
  obtain ⟨n, h⟩ := h
  refine ⟨fun m σ' H' => ∃ c2 s2 ρ2, c2.H = H' ∧ Rel K B c2 s2 ρ2 σ' ∧ Ev B c c2 ∧ wWhileN ut ub N m ρ2 s2, ⟨n, c, s, ρ, rfl, R, Ev.refl c, h⟩, ?_⟩
  rintro m σ' H' ⟨c2, s2, ρ2, rfl, R2, e2, hw⟩
  cases m with
  | zero => exact hw.elim
  | succ m =>
    refine ht c2 s2 ρ2 σ' _ _ R2 hw fun b ρ3 s3 c3 hw R3 e3 => ?_
    cases b with
    | false => exact E.nx _ _ _ c3 hw R3 (e2.trans e3)
    | true =>
      refine ⟨fun σ' H' => ∃ c2 s2 ρ2, c2.H = H' ∧ Rel K B c2 s2 ρ2 σ' ∧ Ev B c c2 ∧ wWhileN ut ub N m ρ2 s2, fun σ5 H5 h5 => ⟨m, Nat.lt_succ_self m, h5⟩, ?_⟩
      refine hb c3 s3 ρ3 σ' _ _ R3 hw ⟨fun ρ5 s5 σ5 c5 a R5 e5 => ?_, fun ρ5 s5 σ5 c5 a R5 e5 => ?_, fun ρ5 s5 σ5 c5 a R5 e5 => ?_, fun d5 ρ5 s5 σ5 v c5 a R5 e5 r5 => ?_⟩
      · exact ⟨c5, s5, ρ5, rfl, R5, (e2.trans e3).trans e5, a⟩
      · exact E.nx _ _ _ c5 a R5 ((e2.trans e3).trans e5)
      · exact ⟨c5, s5, ρ5, rfl, R5, (e2.trans e3).trans e5, a⟩
      · exact E.rt _ _ _ _ _ c5 a R5 ((e2.trans e3).trans e5) r5
theorem s_while {X : Cx} {B : Bs S} {c : Expr} {body : List Stmt} {tt : TT} {tb : TS} {ut : WT S} {ub : WS S} {pos : Pos} (hp : PassesOwn (model X.prog X.w) X.A X.env X.xe) (hc : ST X B c tt ut) (hb : SSs X B body tb ub) : SS X B (.While c body [] pos) (tWhile tt tb) (wWhile ut ub) := ⟨ps_while hp hc.pt hb.pss, SimS.while hc.sim hb.sim⟩

/-! ### comprehensions -/
def wipeD (ρ : Env) : List Nat → Env
  | [] => ρ
  | v :: vs => (wipeD ρ vs).set v .emp
/-- the slots at vs come back as they were (a list of one's own is forgotten) -/
def backD (ρ0 : Env) : List Nat → Env → Env
  | [], ρ => ρ
  | v :: vs, ρ => (backD ρ0 vs ρ).set v (match ρ0[v]? with | some (.val d) => .val d | _ => .emp)
def wLcL (vs : List Nat) (wg : WG S) (wt : WT S) (we : WE S) (Q : List D → Env → S → Prop) : List D → List D → Env → S → Prop
  | [], acc, ρ, s => Q acc ρ s
  | d :: ds, acc, ρ, s => wg d ρ s fun ρ2 s2 => wt ρ2 s2 fun b ρ3 s3 => if b = true then we ρ3 s3 fun h ρ4 s4 => useK h ρ4 fun y ρ5 => acc.length < sizeLine ∧ wLcL vs wg wt we Q ds (acc ++ [y]) (wipeD ρ5 vs) s4 else wLcL vs wg wt we Q ds acc (wipeD ρ3 vs) s3
def wLc (vs : List Nat) (wi : WI S) (wg : WG S) (wt : WT S) (we : WE S) (ρ : Env) (s : S) (Q : D → Env → S → Prop) : Prop := wi ρ s fun ds ρ1 s1 => wLcL vs wg wt we (fun acc ρ2 s2 => Q (.lst acc) (backD ρ1 vs ρ2) s2) ds [] (wipeD ρ1 vs) s1
def wYes (ρ : Env) (s : S) (Q : Bool → Env → S → Prop) : Prop := Q true ρ s
section
variable {K : PySem.W.Frag} {B : Bs S} {c : Cf} {s : S} {ρ : Env} {σ : L2.St}
theorem Rel.wipe (R : Rel K B c s ρ σ) : ∀ vs : List Nat, Rel K B c s (wipeD ρ vs) (wipe σ vs)
  | [] => R
  | v :: vs => (Rel.wipe R vs).emp
theorem wipe_get {σ1 σ2 : L2.St} {vs : List Nat} (hl : σ1.length = σ2.length) (h : ∀ j, j ∉ vs → σ1[j]? = σ2[j]?) : wipe σ1 vs = wipe σ2 vs := by
  have go : ∀ (vs : List Nat) (σ : L2.St) (j : Nat), (wipe σ vs)[j]? = if j ∈ vs then (if j < σ.length then some none else none) else σ[j]? := by
    intro vs
    induction vs with
    | nil => intro σ j; simp [L2.wipe]
    | cons v vs ih =>
      intro σ j
      show ((L2.wipe σ vs).set v none)[j]? = _
      by_cases e : v = j
      · subst e
        by_cases hj : v < σ.length
        · rw [List.getElem?_set_self (by rw [wipe_length]; exact hj)]; simp [hj]
        · rw [List.getElem?_eq_none (by simp [wipe_length]; omega)]; simp [hj]
      · rw [List.getElem?_set_ne e, ih]
        simp [Ne.symm e]
  apply List.ext_getElem?
  intro j
  rw [go, go, hl]
  by_cases e : j ∈ vs
  · simp [e]
  · simp [e, h j e]
theorem wipe_wipe (σ : L2.St) (vs : List Nat) : wipe (wipe σ vs) vs = wipe σ vs := by
  apply wipe_get (wipe_length σ vs)
  intro j hj
  have go : ∀ (us : List Nat), (∀ x ∈ us, x ∈ vs) → (wipe σ us)[j]? = σ[j]? := by
    intro us
    induction us with
    | nil => intro _; rfl
    | cons u us ih =>
      intro h
      show ((wipe σ us).set u none)[j]? = _
      rw [List.getElem?_set_ne (fun e => hj (by rw [← e]; exact h u (by simp)))]
      exact ih fun x hx => h x (by simp [hx])
  exact go vs fun _ h => h
theorem Rel.back {c0 : Cf} {s0 : S} {ρ0 : Env} (R0 : Rel K B c0 s0 ρ0 σ) (sb : Sub (Fz B c0) (Fz B c)) : ∀ (vs us : List Nat) {ρ : Env} {σ1 : L2.St}, Rel K B c s ρ σ1 → σ1.length = σ.length → (∀ j, j ∉ us → σ1[j]? = σ[j]?) → (∀ j, j ∈ us → j ∈ vs) → Rel K B c s (backD ρ0 vs ρ) σ := by
  intro vs
  induction vs with
  | nil =>
    intro us ρ σ1 R hl hs hu
    have : σ1 = σ := by
      apply List.ext_getElem?
      intro j
      exact hs j fun h => by have := hu j h; simp at this
    rw [← this]
    exact R
  | cons v vs ih =>
    intro us ρ σ1 R hl hs hu
    have R2 : Rel K B c s (ρ.set v .emp) (σ1.set v (σ[v]?.getD none)) := R.emp
    have R3 := ih (us.filter (· ≠ v)) R2 (by simp [hl]) (fun j hj => ?_) (fun j hj => ?_)
    · have eq : ∀ (ws : List Nat) (ρ : Env), (backD ρ0 ws (ρ.set v .emp)).set v (match ρ0[v]? with | some (.val d) => Sl.val d | _ => Sl.emp) = (backD ρ0 ws ρ).set v (match ρ0[v]? with | some (.val d) => Sl.val d | _ => Sl.emp) := by
        intro ws
        induction ws with
        | nil => intro ρ; simp [backD, List.set_set]
        | cons w ws ih2 =>
          intro ρ
          show ((backD ρ0 ws (ρ.set v .emp)).set w _).set v _ = ((backD ρ0 ws ρ).set w _).set v _
          by_cases e : w = v
          · subst e; rw [List.set_set, List.set_set]; exact ih2 ρ
          · rw [List.set_comm _ _ e, List.set_comm _ _ e, ih2]
      show Rel K B c s ((backD ρ0 vs ρ).set v _) σ
      rw [← eq vs ρ]
      have es : ∀ x, σ[v]? = some x → σ.set v x = σ := fun x hx => by
        obtain ⟨hl, e⟩ := List.getElem?_eq_some_iff.mp hx
        rw [← e]; exact List.set_getElem_self hl
      cases hx : ρ0[v]? with
      | none =>
        have h1 : σ[v]? = none := by
          have h2 := List.getElem?_eq_none_iff.mp hx
          exact List.getElem?_eq_none_iff.mpr (by rw [← R0.len]; exact h2)
        have R4 : Rel K B c s ((backD ρ0 vs (ρ.set v .emp)).set v .emp) (σ.set v none) := R3.emp
        have h3 : σ.set v none = σ := List.set_eq_of_length_le (by have := List.getElem?_eq_none_iff.mp h1; omega)
        rw [h3] at R4
        exact R4
      | some x =>
        have hv : v < σ.length := by
          obtain ⟨h1, _⟩ := List.getElem?_eq_some_iff.mp hx
          rw [← R0.len]; exact h1
        cases x with
        | emp =>
          have R4 : Rel K B c s ((backD ρ0 vs (ρ.set v .emp)).set v .emp) (σ.set v σ[v]) := R3.emp
          rw [List.set_getElem_self hv] at R4
          exact R4
        | own d =>
          have R4 : Rel K B c s ((backD ρ0 vs (ρ.set v .emp)).set v .emp) (σ.set v σ[v]) := R3.emp
          rw [List.set_getElem_self hv] at R4
          exact R4
        | val d =>
          obtain ⟨u, e1, r⟩ := R0.slots v _ hx
          have R4 := R3.set (i := v) (r.mono sb)
          rw [es _ e1] at R4
          exact R4
    · by_cases e : v = j
      · subst e
        by_cases hj2 : v < σ.length
        · rw [List.getElem?_set_self (by rw [hl]; exact hj2)]
          simp [List.getElem?_eq_getElem hj2]
        · rw [List.getElem?_eq_none (by simp [hl]; omega), List.getElem?_eq_none (by omega)]
      · rw [List.getElem?_set_ne e]
        exact hs j fun h => hj (List.mem_filter.mpr ⟨h, by simp [Ne.symm e]⟩)
    · obtain ⟨h1, h2⟩ := List.mem_filter.mp hj
      rcases List.mem_cons.mp (hu j h1) with h | h
      · simp [h] at h2
      · exact h
end
theorem SimN.lc {K : PySem.W.Frag} {B : Bs S} {wi : TI} {g : TG} {tt : TT} {te : TE} {ui : WI S} {ts vs : List Nat} {ug : WG S} {ut : WT S} {ue : WE S} (hi : SimI K B wi ui) (hg : SimG K B ts g ug) (ht : SimT K B tt ut) (he : SimE K B te ue) (hts : ∀ x ∈ ts, x ∈ vs) :
    SimN K B (tLc wi g tt te vs) (wLc vs ui ug ut ue) := fun c s ρ σ Q Q' R h q =>
  hi c s ρ σ _ _ R h fun ds ρ1 s1 J c1 G Y hw R1 e1 wk => by
    intro Dp hD
    obtain ⟨R2, sb2⟩ := R1.newT' (o := .lst []) hD (fun _ z => nomatch z)
    have nT := R1.newT hD
    refine lc_it wk.walk (fun i H' => ∃ c2 s2 ρ2 accV acc, c2.H = H' ∧ Rel K B c2 s2 ρ2 (wipe σ vs) ∧ EvN B c1 c2 Dp (.lst accV) ∧ RpAll K (Fz B c2) accV acc ∧ wLcL vs ug ut ue (fun acc ρ2 s2 => Q (.lst acc) (backD ρ1 vs ρ2) s2) (ds.drop i) acc ρ2 s2)
      ⟨_, s1, wipeD ρ1 vs, [], [], rfl, R2.wipe vs, ⟨sb2, rfl, nT⟩, .nil, by simpa using hw⟩ ?_ ?_ ?_
    · rintro i H' _ ⟨c2, s2, ρ2, accV, acc, rfl, R2, e2, _⟩
      exact wk.still c2 s2 ρ2 _ R2 e2.sub
    · rintro i x H' H'' hlt ⟨c2, s2, ρ2, accV, acc, rfl, R2, e2, ra, hw⟩ y
      obtain ⟨c3, d, rfl, R3, e3, hd, r⟩ := wk.item i x H'' c2 s2 ρ2 _ hlt R2 e2.sub y
      rw [drop_get hd] at hw
      refine hg c3 s2 ρ2 (wipe σ vs) x d _ _ R3 r hw fun ρ4 s4 σ4 c4 hw R4 e4 k4 l4 => ?_
      have ew : wipe σ4 vs = wipe σ vs := by
        rw [← wipe_wipe σ vs]
        exact wipe_get l4 fun j hj => k4 j fun z => hj (hts j z)
      refine ⟨ew, ht c4 s4 ρ4 σ4 _ _ R4 hw fun b ρ5 s5 c5 hw R5 e5 => ?_⟩
      have e25 := (e3.trans e4).trans e5
      cases b with
      | true =>
        refine he c5 s5 ρ5 σ4 _ _ R5 hw fun h ρ6 s6 v c6 hw R6 e6 o6 => ?_
        obtain ⟨yd, ρ7, c7, ⟨hlen, hw⟩, eh, R7, e7, r7⟩ := use_ok R6 o6 hw
        have e27 := (e25.trans e6).trans e7
        have ht7 : c7.T Dp = some (.lst accV) := by rw [e27.tmp, e2.tmp]; simp
        obtain ⟨R8, sb8⟩ := R7.mutT (o' := .lst (accV ++ [v])) ht7 (fun _ z => nomatch z)
        refine ⟨accV, by rw [← eh]; exact (R7.tmp Dp _ ht7).1, by rw [ra.length]; exact hlen, _, s6, wipeD ρ7 vs, accV ++ [v], acc ++ [yd], (by rw [← eh]), ew ▸ R8.wipe vs, ⟨(e2.sub.trans e27.sub).trans sb8, ?_, e2.new⟩, ?_, hw⟩
        · funext b
          show (if b = Dp then some (.lst (accV ++ [v])) else c7.T b) = _
          rw [e27.tmp, e2.tmp]
          by_cases z : b = Dp <;> simp [z]
        · exact (ra.mono (e27.sub.trans sb8)).append (.cons (r7.mono sb8) .nil)
      | false =>
        exact ⟨c5, s5, wipeD ρ5 vs, accV, acc, rfl, ew ▸ R5.wipe vs, ⟨e2.sub.trans e25.sub, e25.tmp.trans e2.tmp, e2.new⟩, ra.mono e25.sub, hw⟩
    · rintro H' ⟨c2, s2, ρ2, accV, acc, rfl, R2, e2, ra, hw⟩
      rw [List.drop_eq_nil_of_le (Nat.le_refl _)] at hw
      have R3 : Rel K B c2 s2 (backD ρ1 vs ρ2) σ := Rel.back R1 e2.sub vs vs R2 (wipe_length σ vs) (fun j hj => ?_) fun _ h => h
      · exact q (.lst acc) _ _ Dp (.lst accV) c2 hw R3 ⟨e1.sub.trans e2.sub, by rw [e2.tmp, e1.tmp], by rw [← e1.tmp]; exact e2.new⟩ ⟨accV, rfl, ra⟩
      · have go : ∀ (us : List Nat), (∀ x ∈ us, x ∈ vs) → (wipe σ us)[j]? = σ[j]? := by
          intro us
          induction us with
          | nil => intro _; rfl
          | cons u us ih =>
            intro h
            show ((wipe σ us).set u none)[j]? = _
            rw [List.getElem?_set_ne (fun e => hj (by rw [← e]; exact h u (by simp)))]
            exact ih fun x hx => h x (by simp [hx])
        exact go vs fun _ h => h
/-- a clause's tests -/
structure STs (X : Cx) (B : Bs S) (ifs : List Expr) (t : TT) (w : WT S) : Prop where
  pts : PTs X ifs t
  sim : SimT B.K B t w
theorem sts_nil {X : Cx} {B : Bs S} : STs X B [] tYes wYes := ⟨pts_nil, fun c s ρ σ Q Q' R h q => q _ _ _ c h R (Ev.refl c)⟩
theorem sts_one {X : Cx} {B : Bs S} {e : Expr} {t : TT} {w : WT S} (h : ST X B e t w) : STs X B [e] t w := ⟨pts_one h.pt, h.sim⟩
theorem sn_lc {X : Cx} {B : Bs S} {elt tg iter : Expr} {ifs : List Expr} {scope : Scope} {own : List (Str × Nat)} {pos : Pos} {wi : TI} {g : TG} {tt : TT} {te : TE} {ui : WI S} {ts : List Nat} {ug : WG S} {ut : WT S} {ue : WE S} (hc : X.calm = true) (hN : X.N.Nodup)
    (hi : SI X B tg iter wi ui) (ok : BlkOk X.N X.env.scope scope own)
    (hg : ∀ (s : Shared) (H : Hp) (C : Addr) (cl : List (Str × Addr)) (fp : List Addr), SG (X.blk s H scope (compEnvC scope cl C X.env) fp) B tg ts g ug) (ht : ∀ (s : Shared) (H : Hp) (C : Addr) (cl : List (Str × Addr)) (fp : List Addr), STs (X.blk s H scope (compEnvC scope cl C X.env) fp) B ifs tt ut)
    (he : ∀ (s : Shared) (H : Hp) (C : Addr) (cl : List (Str × Addr)) (fp : List Addr), SE (X.blk s H scope (compEnvC scope cl C X.env) fp) B elt te ue) (hts : ∀ x ∈ ts, x ∈ own.map (·.2)) (hs : ∀ x, foldedSetIterable iter X.env x = pure x := by intro _; rfl) :
    SN X B (.ListComp elt [⟨tg, iter, ifs, 0⟩] scope pos) (tLc wi g tt te (own.map (·.2))) (wLc (own.map (·.2)) ui ug ut ue) :=
  ⟨pe_lc hc hN hi.pi ok (fun s H C cl fp => (hg s H C cl fp).pg) (fun s H C cl fp => (ht s H C cl fp).pts) (fun s H C cl fp => (he s H C cl fp).pe) hs,
    SimN.lc hi.sim (hg {} (fun _ => none) 0 [] []).sim (ht {} (fun _ => none) 0 [] []).sim (he {} (fun _ => none) 0 [] []).sim hts⟩
end
end Ld

/-! Value layer, part 4: operators and calls of built-ins, on data. -/
namespace Ld
open PySem PySem.Spec PyProof.Rows L2

/-! ### equality of data -/
mutual
def deq : D → D → Bool
  | .non, .non => true
  | .bl a, .bl b => a == b
  | .bl a, .int j => (if a then 1 else 0) == j
  | .int i, .bl b => i == (if b then 1 else 0)
  | .int i, .int j => i == j
  | .str x, .str y => x == y
  | .lst xs, .lst ys => deqs xs ys
  | .tup xs, .tup ys => deqs xs ys
  | _, _ => false
def deqs : List D → List D → Bool
  | [], [] => true
  | x :: xs, y :: ys => deq x y && deqs xs ys
  | _, _ => false
end
mutual
/-- data that == can compare, at most n deep -/
def pl : Nat → D → Bool
  | _, .non => true
  | _, .bl _ => true
  | _, .int _ => true
  | _, .str x => PyData.strOk x
  | n + 1, .lst xs => pls n xs
  | n + 1, .tup xs => pls n xs
  | _, _ => false
def pls : Nat → List D → Bool
  | _, [] => true
  | n, x :: xs => pl n x && pls n xs
end
mutual
def toPy : D → PyData
  | .bl b => .bool b
  | .int i => .int i
  | .str x => .str x
  | .lst xs => .list (toPys xs)
  | .tup xs => .tuple (toPys xs)
  | _ => .none
def toPys : List D → List PyData
  | [] => []
  | x :: xs => toPy x :: toPys xs
end
theorem deqs_of {n : Nat} (h : ∀ x y : D, pl n x = true → pl n y = true → PyData.eqv (toPy x) (toPy y) = deq x y) : ∀ xs ys : List D, pls n xs = true → pls n ys = true → PyData.eqvAll (toPys xs) (toPys ys) = deqs xs ys
  | [], [], _, _ => by simp [toPys, PyData.eqvAll, deqs]
  | [], _ :: _, _, _ => by simp [toPys, PyData.eqvAll, deqs]
  | _ :: _, [], _, _ => by simp [toPys, PyData.eqvAll, deqs]
  | x :: xs, y :: ys, hx, hy => by
    simp only [pls, Bool.and_eq_true] at hx hy
    simp only [toPys, PyData.eqvAll, deqs]
    rw [h x y hx.1 hy.1, deqs_of h xs ys hx.2 hy.2]
theorem deq_py : ∀ (n : Nat) (x y : D), pl n x = true → pl n y = true → PyData.eqv (toPy x) (toPy y) = deq x y := by
  intro n
  induction n with
  | zero => intro x y hx hy; cases x <;> cases y <;> simp only [pl, toPy, PyData.eqv, deq, Bool.false_eq_true] at *
  | succ n ih =>
    intro x y hx hy
    cases x <;> cases y <;> simp only [pl, toPy, PyData.eqv, deq, Bool.false_eq_true] at * <;> exact deqs_of ih _ _ hx hy
theorem pls_of {n : Nat} (h : ∀ x : D, pl n x = true → (toPy x).canLay0 = true ∧ (toPy x).depth ≤ n) : ∀ xs : List D, pls n xs = true → PyData.canLayAll0 (toPys xs) = true ∧ PyData.depthAll (toPys xs) ≤ n
  | [], _ => by simp [toPys, PyData.canLayAll0, PyData.depthAll]
  | x :: xs, hx => by
    simp only [pls, Bool.and_eq_true] at hx
    have h1 := h x hx.1
    have h2 := pls_of h xs hx.2
    simp only [toPys, PyData.canLayAll0, PyData.depthAll, h1.1, h2.1, Bool.and_self, true_and]
    omega
theorem pl_shape : ∀ (n : Nat) (x : D), pl n x = true → (toPy x).canLay0 = true ∧ (toPy x).depth ≤ n := by
  intro n
  induction n with
  | zero => intro x hx; cases x <;> simp only [pl, toPy, PyData.canLay0, PyData.depth, Bool.false_eq_true] at * <;> simp [hx]
  | succ n ih =>
    intro x hx
    cases x <;> simp only [pl, toPy, PyData.canLay0, PyData.depth, Bool.false_eq_true] at * <;> first
      | exact ⟨rfl, Nat.zero_le _⟩
      | exact ⟨hx, Nat.zero_le _⟩
      | (have q := pls_of ih _ hx
         exact ⟨q.1, Nat.succ_le_succ q.2⟩)
theorem pl_shaped {n : Nat} {x : D} (h : pl n x = true) (hn : n ≤ 64) : SeqAt.shaped (toPy x) = true := by
  obtain ⟨h1, h2⟩ := pl_shape n x h
  unfold SeqAt.shaped
  rw [h1, decide_eq_true (by omega)]
  rfl
section
variable {K : PySem.W.Frag} {F : Hp}
mutual
theorem rp_dp : ∀ {v : V} {d : D} (n : Nat), Rp K F v d → pl n d = true → Dp K F v (toPy d)
  | _, _, _, .non, _ => .non
  | _, _, _, .bl b, _ => .bl b
  | _, _, _, .int i, _ => .int i
  | _, _, _, .str x, _ => .str x
  | _, _, _, .ty _, h => by simp [pl] at h
  | _, _, _, .ref _, h => by simp [pl] at h
  | _, _, n, .lst q r, h => by
    cases n <;> simp only [pl, Bool.false_eq_true] at h
    exact .lst (.inl q) (rp_dps _ r h)
  | _, _, n, .tup q r, h => by
    cases n <;> simp only [pl, Bool.false_eq_true] at h
    exact .tup q.sq (rp_dps _ r h)
  | _, _, _, .scr _ _, h => by simp [pl] at h
  | _, _, _, .dK _ _, h => by simp [pl] at h
  | _, _, _, .dT _ _, h => by simp [pl] at h
theorem rp_dps : ∀ {vs : List V} {ds : List D} (n : Nat), RpAll K F vs ds → pls n ds = true → DpAll K F vs (toPys ds)
  | _, _, _, .nil, _ => .nil
  | _, _, n, .cons q r, h => by
    simp only [pls, Bool.and_eq_true] at h
    exact .cons (rp_dp n q h.1) (rp_dps n r h.2)
end
end
section
variable {S : Type} {K : PySem.W.Frag} {B : Bs S} {c : Cf} {s : S} {ρ : Env} {σ : L2.St} {v : V}
theorem Rv.dp {d : D} {n : Nat} (R : Rel K B c s ρ σ) (r : Rv K B c v d) (h : pl n d = true) : Dp K c.H v (toPy d) := by
  rcases r with r | ⟨a, rfl, _, ok⟩
  · exact rp_dp n (r.mono R.fsub) h
  · cases d with
    | lst ds =>
      obtain ⟨vs, e, r⟩ := ok
      exact rp_dp n (.lst (.inl e) (r.mono R.fsub)) h
    | dct ds => cases n <;> simp [pl] at h
    | _ => exact ok.elim
def dEq (x y : D) : Option D := if pl 12 x && pl 12 y then some (.bl (deq x y)) else none
def dNe (x y : D) : Option D := if pl 12 x && pl 12 y then some (.bl (!deq x y)) else none
theorem rule_eq : RuleB K B (rEqD K) dEq := fun c s ρ σ x y dx dy z Q' R rx ry e q => by
  unfold dEq at e
  split at e
  · rename_i h
    rw [Bool.and_eq_true] at h
    cases e
    refine ⟨toPy dx, toPy dy, rx.dp R h.1, ry.dp R h.2, pl_shaped h.1 (by decide), pl_shaped h.2 (by decide), ?_⟩
    rw [deq_py 12 dx dy h.1 h.2]
    exact q _ c R (Ev.refl c) (.bl _)
  · cases e
theorem rule_ne : RuleB K B (rNeD K) dNe := fun c s ρ σ x y dx dy z Q' R rx ry e q => by
  unfold dNe at e
  split at e
  · rename_i h
    rw [Bool.and_eq_true] at h
    cases e
    refine ⟨toPy dx, toPy dy, rx.dp R h.1, ry.dp R h.2, pl_shaped h.1 (by decide), pl_shaped h.2 (by decide), ?_⟩
    rw [deq_py 12 dx dy h.1 h.2]
    exact q _ c R (Ev.refl c) (.bl _)
  · cases e
end

/-! ### two rules at once -/
def orR (r r' : R2) : R2 := fun x y H Q => r x y H Q ∨ r' x y H Q
theorem OpR.or' {X : Cx} {f : Value → Value → Sem Value} {r r' : R2} (h : OpR X f r) (h' : OpR X f r') : OpR X f (orR r r') := fun pins s σ H x y v u Q I rx ry q =>
  q.elim (h pins s σ H x y v u Q I rx ry) (h' pins s σ H x y v u Q I rx ry)
def orF {α : Type} (f g : α → Option D) : α → Option D := fun x => match f x with
  | some z => some z
  | none => g x
section
variable {S : Type} {K : PySem.W.Frag} {B : Bs S}
def orD (f g : D → D → Option D) : D → D → Option D := fun x y => match f x y with
  | some z => some z
  | none => g x y
theorem RuleB.or {r r' : R2} {f g : D → D → Option D} (h : RuleB K B r f) (h' : RuleB K B r' g) : RuleB K B (orR r r') (orD f g) := fun c s ρ σ x y dx dy z Q' R rx ry e q => by
  unfold orD at e
  split at e
  · rename_i z' e1
    cases e
    exact .inl (h c s ρ σ x y dx dy _ Q' R rx ry e1 q)
  · exact .inr (h' c s ρ σ x y dx dy z Q' R rx ry e q)

/-! ### ints -/
def dI (f : Int → Int → Option D) (x y : D) : Option D := match x, y with
  | .int i, .int j => f i j
  | _, _ => none
theorem dI_some {f : Int → Int → Option D} {x y z : D} (h : dI f x y = some z) : ∃ i j, x = .int i ∧ y = .int j ∧ f i j = some z := by
  unfold dI at h
  split at h
  · exact ⟨_, _, rfl, rfl, h⟩
  · cases h
theorem rule_I {C : Int → Int → Prop} {g : Int → Int → V} {f : Int → Int → Option D} (h : ∀ i j z, f i j = some z → C i j ∧ ∀ F, Rp K F (g i j) z) : RuleB K B (rI C g) (dI f) := fun c s ρ σ x y dx dy z Q' R rx ry e q => by
  obtain ⟨i, j, rfl, rfl, e⟩ := dI_some e
  obtain ⟨h1, h2⟩ := h i j z e
  exact ⟨i, j, rx.int, ry.int, h1, q _ c R (Ev.refl c) (h2 _)⟩
theorem rule_I0 {g : Int → Int → V} {f : Int → Int → Option D} (h : ∀ i j z, f i j = some z → ∀ F, Rp K F (g i j) z) : RuleB K B (rI0 g) (dI f) := fun c s ρ σ x y dx dy z Q' R rx ry e q => by
  obtain ⟨i, j, rfl, rfl, e⟩ := dI_some e
  exact ⟨i, j, rx.int, ry.int, q _ c R (Ev.refl c) (h i j z e _)⟩
abbrev dIi (f : Int → Int → Int) : D → D → Option D := dI fun i j => some (.int (f i j))
abbrev dIb (f : Int → Int → Bool) : D → D → Option D := dI fun i j => some (.bl (f i j))
theorem rule_Ii {f : Int → Int → Int} : RuleB K B (rI0 fun i j => .int (f i j)) (dIi f) := rule_I0 fun i j z e F => by cases e; exact .int _
theorem rule_Ib {f : Int → Int → Bool} : RuleB K B (rI0 fun i j => .bl (f i j)) (dIb f) := rule_I0 fun i j z e F => by cases e; exact .bl _
/-- a product: one side below 2 ^ 64 -/
def Sm (i : Int) : Prop := -18446744073709551616 < i ∧ i < 18446744073709551616
instance (i : Int) : Decidable (Sm i) := inferInstanceAs (Decidable (_ ∧ _))
def dMulI : D → D → Option D := dI fun i j => if Sm i ∨ Sm j then some (.int (i * j)) else none
theorem rule_mulI : RuleB K B (rI CMul fun i j => .int (i * j)) dMulI := rule_I fun i j z e => by
  split at e
  · rename_i h
    cases e
    refine ⟨?_, fun F => .int _⟩
    unfold CMul
    unfold Sm at h
    omega
  · cases e
/-- // and %: a divisor above 0, of any size (below 2 ^ 8000 for //) -/
def Md (j : Int) : Prop := j.natAbs < 2 ^ 8000
instance (i : Int) : Decidable (Md i) := inferInstanceAs (Decidable (_ < _))
theorem Md.of_Sm {j : Int} (h : Sm j) : Md j := Nat.lt_of_lt_of_le (show j.natAbs < 2 ^ 64 by unfold Sm at h; omega) (Nat.pow_le_pow_right (by decide) (by decide))
def dDivI : D → D → Option D := dI fun i j => if 0 < j ∧ Md j then some (.int (i / j)) else none
def dModI : D → D → Option D := dI fun i j => if 0 < j then some (.int (i % j)) else none
theorem rule_divI : RuleB K B (rI CDivW fun i j => .int (i / j)) dDivI := rule_I fun i j z e => by
  split at e
  · rename_i h
    cases e
    exact ⟨wide_div h.1 h.2 (by decide) (by decide), fun F => .int _⟩
  · cases e
theorem rule_modI : RuleB K B (rI (fun _ j => 0 < j) fun i j => .int (i % j)) dModI := rule_I fun i j z e => by
  split at e
  · rename_i h
    cases e
    exact ⟨h, fun F => .int _⟩
  · cases e
def dPowI : D → D → Option D := dI fun i j => if 0 ≤ j ∧ j ≤ 1000 ∧ Sm i then some (.int (i ^ j.toNat)) else none
theorem rule_powI : RuleB K B (rI CPow fun i j => .int (i ^ j.toNat)) dPowI := rule_I fun i j z e => by
  split at e
  · rename_i h
    cases e
    exact ⟨⟨h.1, by omega, by have := h.2.2; unfold Sm at this; omega⟩, fun F => .int _⟩
  · cases e
/-! ### one-place -/
def dNeg : D → Option D
  | .int i => some (.int (-i))
  | _ => none
theorem rule_neg : RuleU K B (rU fun i => .int (-i)) dNeg := fun c s ρ σ x dx z Q' R rx e q => by
  cases dx <;> simp only [dNeg, Option.some.injEq, reduceCtorEq] at e
  subst e
  exact ⟨_, rx.int, q _ c R (Ev.refl c) (.int _)⟩
/-! ### is None -/
def isNon : D → Bool
  | .non => true
  | _ => false
def dIsN (x y : D) : Option D := match y with
  | .non => some (.bl (isNon x))
  | _ => none
def dNotN (x y : D) : Option D := match y with
  | .non => some (.bl (!isNon x))
  | _ => none
theorem rv_isn {c : Cf} {x : V} {d : D} (r : Rv K B c x d) : decide (x = V.non) = isNon d := by
  rcases r with r | ⟨a, rfl, _, ok⟩
  · cases r <;> simp [isNon]
  · cases d <;> first | exact ok.elim | simp [isNon]
theorem rule_isN : RuleB K B (fun x y H Q => y = .non ∧ Q (.bl (decide (x = .non))) H) dIsN := fun c s ρ σ x y dx dy z Q' R rx ry e q => by
  cases dy <;> simp only [dIsN, Option.some.injEq, reduceCtorEq] at e
  subst e
  refine ⟨ry.non, q _ c R (Ev.refl c) ?_⟩
  rw [rv_isn rx]
  exact .bl _
theorem rule_notN : RuleB K B (fun x y H Q => y = .non ∧ Q (.bl (!decide (x = .non))) H) dNotN := fun c s ρ σ x y dx dy z Q' R rx ry e q => by
  cases dy <;> simp only [dNotN, Option.some.injEq, reduceCtorEq] at e
  subst e
  refine ⟨ry.non, q _ c R (Ev.refl c) ?_⟩
  rw [rv_isn rx]
  exact .bl _
def dIsB (x y : D) : Option D := match x, y with
  | .bl a, .bl b => some (.bl (decide (a = b)))
  | _, _ => none
def dIsNotB (x y : D) : Option D := match x, y with
  | .bl a, .bl b => some (.bl (!decide (a = b)))
  | _, _ => none
theorem rule_isB : RuleB K B (fun x y H Q => ∃ a b, x = .bl a ∧ y = .bl b ∧ Q (.bl (decide (a = b))) H) dIsB := fun c s ρ σ x y dx dy z Q' R rx ry e q => by
  cases dx <;> cases dy <;> simp only [dIsB, Option.some.injEq, reduceCtorEq] at e
  subst e
  exact ⟨_, _, rx.bl, ry.bl, q _ c R (Ev.refl c) (.bl _)⟩
theorem rule_isNotB : RuleB K B (fun x y H Q => ∃ a b, x = .bl a ∧ y = .bl b ∧ Q (.bl (!decide (a = b))) H) dIsNotB := fun c s ρ σ x y dx dy z Q' R rx ry e q => by
  cases dx <;> cases dy <;> simp only [dIsNotB, Option.some.injEq, reduceCtorEq] at e
  subst e
  exact ⟨_, _, rx.bl, ry.bl, q _ c R (Ev.refl c) (.bl _)⟩
end
end Ld

/-! Value layer, part 5: sequences. -/
namespace Ld
open PySem PySem.Spec PyProof.Rows L2
section
variable {X : Cx} {pins : List (Addr × Obj)} {σ : L2.St} {H : Hp} {s : Shared}
theorem inv_lstR {a : Addr} {xs : List V} (I : Inv X pins σ H s) (h : Rd H a (.lst xs)) : xs.length ≤ sizeLine ∧ ∃ (its : List Value) (n : Nat), Vals xs its ∧ xs.length = its.length ∧ s.heap.get? a = some { cls := .type "list", data := .seq its.toArray n } := by
  obtain ⟨z, its, n, r, e⟩ := h.ok I.hok
  exact ⟨z, its, n, r, r.length, e⟩
theorem inv_nd {a : Addr} {xs ys : List V} (I : Inv X pins σ H s) (h : Rd H a (.lst xs)) : PySem.PlainL s.heap a (Classical.choose (inv_lstR I h).2).toArray := by
  obtain ⟨n, _, _, e⟩ := Classical.choose_spec (inv_lstR I h).2
  exact ⟨_, n, e, rfl, rfl, rfl⟩
end
section
variable {X : Cx}
/-- list + list, as they are read -/
def rCatL : R2 := fun x y H Q => ∃ l b xs zs, x = .ref l ∧ y = .ref b ∧ Rd H l (.lst xs) ∧ Rd H b (.lst zs) ∧ xs.length + zs.length ≤ sizeLine ∧ ∀ p, H p = none → Q (.ref p) (upd H p (.lst (xs ++ zs)))
theorem op_catL : OpR X (binaryOp .Add) rCatL := by
  intro pins s σ H x y v u Q I rx ry h
  obtain ⟨l, b, xs, zs, rfl, rfl, hH, hB, hz, q⟩ := h
  cases rx
  cases ry
  obtain ⟨z, its, n, r, hl, e⟩ := inv_lstR I hH
  obtain ⟨z2, its2, n2, r2, hl2, e2⟩ := inv_lstR I hB
  refine PySem.P.add_list e e2 ?_ (by rw [List.size_toArray, List.size_toArray]; omega)
  have ea : its.toArray ++ its2.toArray = (its ++ its2).toArray := by simp
  rw [ea]
  exact ⟨.ref _, _, I.lnew (t' := s.toks) (r.append r2) (by rw [List.length_append]; omega), rfl, q _ I.fresh⟩
def rRepL : R2 := fun x y H Q => ∃ l k xs, x = .ref l ∧ y = .int k ∧ Rd H l (.lst xs) ∧ -(2 ^ 63) ≤ k ∧ k < 2 ^ 63 ∧ xs.length * k.toNat ≤ sizeLine ∧
  ∀ p, H p = none → Q (.ref p) (upd H p (.lst (List.replicate k.toNat xs).flatten))
theorem op_repL : OpR X (binaryOp .Mult) rRepL := by
  intro pins s σ H x y v u Q I rx ry h
  obtain ⟨l, k, xs, rfl, rfl, hH, h1, h2, hz, q⟩ := h
  cases rx
  obtain ⟨t, rfl⟩ := ry
  obtain ⟨z, its, n, r, hl, e⟩ := inv_lstR I hH
  have hlen : its.toArray.size * k.toNat ≤ sizeLine := by rw [List.size_toArray, ← hl]; exact hz
  have hcap : ¬ its.toArray.size * k.toNat > (2 ^ 63 - 1) / 8 := by
    have : (sizeLine : Nat) ≤ (2 ^ 63 - 1) / 8 := by decide
    omega
  have hfit : ¬ (!Builtin.List.listFitsIndex k) = true := by
    rw [fitsIndex_both h1 h2]
    exact Bool.false_ne_true
  have hlong : ¬ Builtin.List.listTooLong (its.toArray.size * k.toNat) = true := by
    rw [notLongL hlen]
    exact Bool.false_ne_true
  have hnew : List.foldl (fun x1 x2 => x1 ++ x2) #[] (List.replicate (if its.toArray.isEmpty = true then 0 else k.toNat) its.toArray) = (List.replicate k.toNat its).flatten.toArray := by
    have f0 : ∀ m : Nat, List.foldl (fun x1 x2 => x1 ++ x2) #[] (List.replicate m its.toArray) = (List.replicate m its).flatten.toArray := fun m => by
      have := foldl_rep its m []
      rw [List.nil_append] at this
      exact this
    rw [f0]
    cases its with
    | nil => simp
    | cons a r' => rw [if_neg (by simp)]
  refine wpAny_binaryOp_repeat_ref (T := "list") (U := "int") (by decide) ⟨_, e, rfl⟩ (fun s' => typeIs_int s' k t) noFill_list_mul F.fills_int_mul F.slot_int_rmul repeat_list F.slot_int_index.lookup
    (call_meets F.slot_int_rmul (typeIs_int s k t) F.entry_int_rmul (F.args_int_rmul_2 _ _) (int___rmul___int_list k t l its.toArray n)
      ⟨e, rfl, ⟨_, e, rfl⟩, call_meets F.slot_list_mul ⟨_, e, rfl⟩ F.entry_list_mul (F.args_list_mul_2 _ _) (AutoListH.list___mul___list_int_3 l its.toArray n k t hfit hcap hlong) ⟨e, ?_⟩⟩)
  rw [hnew]
  exact ⟨.ref _, _, I.lnew (t' := s.toks) (r.rep k.toNat) (by rw [PyProof.Rows.lm_len_rep_flat, Nat.mul_comm]; exact hz), rfl, q _ I.fresh⟩
/-- sum of a tuple of ints -/
def rSumT (K : PySem.W.Frag) : List V → Hp → VK → Prop := fun vs H Q => ∃ (a : Addr) (ns : List Int), vs = [V.ref a] ∧ SqT K H a (ns.map V.int) ∧ Q (.int ns.sum) H
theorem cr_sumT (hc : X.calm = true) : CallR X (.builtin "sum") (rSumT X.K) := by
  intro pins s σ H vs us Q I r h
  obtain ⟨a, ns, rfl, hs, q⟩ := h
  obtain ⟨its, rv, hl, _⟩ := I.tuple hs
  rw [Vals.ref1 r]
  have hi := rv.ints
  obtain ⟨xs, e⟩ := hi.allInts.items
  have hn : numsOf (intItems xs).toList = ns := by rw [← e]; exact hi.numsOf
  rw [nums_intItems] at hn
  have hl : s.heap.IsTuple a its.toArray := hl
  rw [e] at hl
  have hlt : a < s.heap.objs.size := by obtain ⟨_, e, _⟩ := hl; exact Heap.lt_size e
  refine call_sum_walkG (wpAny_pyIter_tuple hl ?_)
  refine ⟨_, _, _, _, _, _, numAt xs, rfl, Walks.tuple (A := X.A.in1) (I.ok.hd hc) _ a (Nat.ne_of_lt hlt) (intItems xs), ⟨⟨_, Heap.get?_push_size _ rfl, rfl, rfl⟩, hl.push _⟩, (fun b hb => ?_), (fun _ _ => intItems_at), fun h' tk t' hk => ?_⟩
  · show b < (s.heap.push _).objs.size
    rw [Heap.size_push]
    rcases List.mem_cons.mp hb with rfl | hb
    · exact Nat.lt_succ_self _
    · rcases List.mem_cons.mp hb with rfl | hb
      · exact Nat.lt_succ_of_lt hlt
      · cases hb
  · refine ⟨.int ns.sum, H, I.kept (t' := tk) fun b o eo => hk b o (fun hm => absurd (Heap.lt_size eo) ((List.mem_singleton.mp hm) ▸ Nat.lt_irrefl _)) (Heap.get?_push_of_some _ eo), ⟨t', ?_⟩, q⟩
    have hz : (intItems xs).size = xs.size := by simp [intItems]
    rw [hz, preSum_eq, List.take_of_length_le (by simp), hn]
end

/-! ### rules on data -/
section
variable {S : Type} {K : PySem.W.Frag} {B : Bs S}
theorem RpAll.out {F : Hp} {vs : List V} {ds : List D} {i : Nat} {d : D} (r : RpAll K F vs ds) (h : ds[i]? = some d) : ∃ v, vs[i]? = some v ∧ Rp K F v d := r.get h
/-- an item, counted from the beginning -/
def dIx (x y : D) : Option D := match x, y with
  | .lst xs, .int i => if 0 ≤ i ∧ i < xs.length then some (xs.getD i.toNat .non) else none
  | .tup xs, .int i => if 0 ≤ i ∧ i < xs.length then some (xs.getD i.toNat .non) else none
  | .scr xs, .int i => if 0 ≤ i ∧ i < xs.length then some (xs.getD i.toNat .non) else none
  | .str z, .int i => if z.length ≤ sizeLine then (atI z.cps.toList i).map fun c => .str ⟨#[c]⟩ else none
  | _, _ => none
/-- an item, of any sign -/
def dIxA (x y : D) : Option D := match x, y with
  | .lst xs, .int i => atI xs i
  | .tup xs, .int i => atI xs i
  | .scr xs, .int i => atI xs i
  | .str z, .int i => if z.length ≤ sizeLine then (atI z.cps.toList i).map fun c => .str ⟨#[c]⟩ else none
  | _, _ => none
theorem atI_rp {F : Hp} {vs : List V} {ds : List D} {i : Int} {d : D} (r : RpAll K F vs ds) (h : atI ds i = some d) : ∃ v, atI vs i = some v ∧ Rp K F v d := by
  unfold atI at h ⊢
  rw [r.length]
  cases e : ixN ds.length i with
  | none => rw [e] at h; cases h
  | some j =>
    rw [e] at h
    exact r.get h
theorem rule_ixA : RuleB K B (rIx K) dIxA := fun c s ρ σ x y dx dy z Q' R rx ry e q => by
  unfold dIxA at e
  split at e
  · rename_i xs i
    obtain ⟨a, vs, rfl, h, r⟩ := rx.lst R
    obtain ⟨v, hv, rv⟩ := atI_rp r e
    exact .inl ⟨a, vs, i, v, rfl, ry.int, .inl h, hv, q _ c R (Ev.refl c) rv⟩
  · rename_i xs i
    obtain ⟨a, vs, rfl, h, r⟩ := rx.tup R
    obtain ⟨v, hv, rv⟩ := atI_rp r e
    exact .inr (.inl ⟨a, vs, i, v, rfl, ry.int, h, hv, q _ c R (Ev.refl c) rv⟩)
  · rename_i xs i
    obtain ⟨a, vs, rfl, h, r⟩ := rx.scr R
    obtain ⟨v, hv, rv⟩ := atI_rp r e
    exact .inl ⟨a, vs, i, v, rfl, ry.int, h, hv, q _ c R (Ev.refl c) rv⟩
  · rename_i w i
    split at e
    · rename_i hz
      cases e1 : atI w.cps.toList i with
      | none => rw [e1] at e; cases e
      | some k =>
        rw [e1] at e
        cases e
        exact .inr (.inr ⟨w, i, k, rx.str, ry.int, hz, e1, q _ c R (Ev.refl c) (.str _)⟩)
    · cases e
  · cases e
theorem getD_atI {xs : List D} {i : Int} {z : D} (h : (if 0 ≤ i ∧ i < xs.length then some (xs.getD i.toNat .non) else none) = some z) : atI xs i = some z := by
  split at h
  · rename_i hi
    cases h
    have hl : i.toNat < xs.length := by omega
    obtain ⟨j, rfl⟩ : ∃ j : Nat, i = (j : Int) := ⟨i.toNat, by omega⟩
    refine atI_nat ?_
    rw [Int.toNat_natCast] at hl ⊢
    rw [List.getD_eq_getElem?_getD, List.getElem?_eq_getElem hl]
    rfl
  · cases h
theorem dIx_A {x y z : D} (h : dIx x y = some z) : dIxA x y = some z := by
  unfold dIx at h
  split at h
  · exact getD_atI h
  · exact getD_atI h
  · exact getD_atI h
  · exact h
  · cases h
theorem rule_ix : RuleB K B (rIx K) dIx := fun c s ρ σ x y dx dy z Q' R rx ry e q => rule_ixA c s ρ σ x y dx dy z Q' R rx ry (dIx_A e) q
/-- + -/
def dCatT (x y : D) : Option D := match x, y with
  | .tup xs, .tup ys => if xs.length + ys.length ≤ sizeLine then some (.tup (xs ++ ys)) else none
  | _, _ => none
theorem rule_catT : RuleB K B (rCatA K) dCatT := fun c s ρ σ x y dx dy z Q' R rx ry e q => by
  cases dx <;> cases dy <;> simp only [dCatT, reduceCtorEq] at e
  rename_i xs ys
  split at e
  · rename_i hz
    cases e
    have rx' := rx
    have ry' := ry
    obtain ⟨a, vs, rfl, h, r⟩ := rx.tup R
    obtain ⟨b, ws, rfl, h2, r2⟩ := ry.tup R
    refine ⟨a, b, vs, ws, rfl, rfl, h, h2, by rw [r.length, r2.length]; exact hz, fun e0 => ?_, fun _ e1 => ?_, fun _ _ p hp => ?_⟩
    · subst e0
      cases r
      rcases ry' with ry' | ⟨_, _, _, z⟩
      · exact q _ c R (Ev.refl c) ry'
      · exact z.elim
    · subst e1
      cases r2
      rcases rx' with rx' | ⟨_, _, _, z⟩
      · exact q _ c R (Ev.refl c) (by rw [List.append_nil]; exact rx')
      · exact z.elim
    · obtain ⟨R2, e2, f⟩ := R.new (o := .tup (vs ++ ws)) hp
      exact q _ { c with H := upd c.H p (.tup (vs ++ ws)) } R2 e2 (.tup (.inl f) ((r.append r2).mono e2.sub))
  · cases e
def rCatS : R2 := fun x y H Q => ∃ i j : Str, x = .str i ∧ y = .str j ∧ i.length + j.length ≤ sizeLine ∧ Q (.str (i ++ j)) H
def dCatS (x y : D) : Option D := match x, y with
  | .str i, .str j => if i.length + j.length ≤ sizeLine then some (.str (i ++ j)) else none
  | _, _ => none
theorem rule_catS : RuleB K B rCatS dCatS := fun c s ρ σ x y dx dy z Q' R rx ry e q => by
  cases dx <;> cases dy <;> simp only [dCatS, reduceCtorEq] at e
  split at e
  · rename_i hz
    cases e
    exact ⟨_, _, rx.str, ry.str, hz, q _ c R (Ev.refl c) (.str _)⟩
  · cases e
def dCatL (x y : D) : Option D := match x, y with
  | .lst xs, .lst ys => if xs.length + ys.length ≤ sizeLine then some (.lst (xs ++ ys)) else none
  | _, _ => none
theorem rule_catL : RuleBN K B rCatL dCatL := fun c s ρ σ x y dx dy z Q' R rx ry e q => by
  cases dx <;> cases dy <;> simp only [dCatL, reduceCtorEq] at e
  split at e
  · rename_i hz
    cases e
    obtain ⟨a, vs, rfl, h, r⟩ := rx.lst R
    obtain ⟨b, ws, rfl, h2, r2⟩ := ry.lst R
    refine ⟨a, b, vs, ws, rfl, rfl, h, h2, by rw [r.length, r2.length]; exact hz, fun p hp => ?_⟩
    obtain ⟨R2, sb⟩ := R.newT' (o := .lst (vs ++ ws)) hp (fun _ z => nomatch z)
    exact q p (.lst (vs ++ ws)) ⟨upd c.H p (.lst (vs ++ ws)), fun b => c.O b ∨ b = p, c.W, fun b => if b = p then some (.lst (vs ++ ws)) else c.T b⟩ R2 ⟨sb, rfl, R.newT hp⟩ ⟨_, rfl, (r.append r2).mono sb⟩
  · cases e
def dRepL (x y : D) : Option D := match x, y with
  | .lst xs, .int k => if k < 2 ^ 63 ∧ -(2 ^ 63) ≤ k ∧ xs.length * k.toNat ≤ sizeLine then some (.lst (List.replicate k.toNat xs).flatten) else none
  | _, _ => none
theorem rule_repL : RuleBN K B rRepL dRepL := fun c s ρ σ x y dx dy z Q' R rx ry e q => by
  cases dx <;> cases dy <;> simp only [dRepL, reduceCtorEq] at e
  rename_i xs k
  split at e
  · rename_i hz
    cases e
    obtain ⟨a, vs, rfl, h, r⟩ := rx.lst R
    refine ⟨a, k, vs, rfl, ry.int, h, hz.2.1, hz.1, by rw [r.length]; exact hz.2.2, fun p hp => ?_⟩
    obtain ⟨R2, sb⟩ := R.newT' (o := .lst (List.replicate k.toNat vs).flatten) hp (fun _ z => nomatch z)
    exact q p (.lst (List.replicate k.toNat vs).flatten) ⟨upd c.H p (.lst (List.replicate k.toNat vs).flatten), fun b => c.O b ∨ b = p, c.W, fun b => if b = p then some (.lst (List.replicate k.toNat vs).flatten) else c.T b⟩ R2 ⟨sb, rfl, R.newT hp⟩ ⟨_, rfl, (r.flat _).mono sb⟩
  · cases e
/-- a new list that nobody changes -/
theorem RuleBN.still {r : R2} {f : D → D → Option D} (h : RuleBN K B r f) : RuleB K B r f := fun c s ρ σ x y dx dy z Q' R rx ry e q =>
  h c s ρ σ x y dx dy z Q' R rx ry e fun a o c1 R1 e1 ok => by
    have ht : c1.T a = some o := by rw [e1.tmp]; simp
    obtain ⟨R2, sb, fa⟩ := R1.rest ht
    exact q _ { c1 with O := fun b => c1.O b ∧ b ≠ a, T := fun b => if b = a then none else c1.T b } R2 (rest_ev e1 sb) (OwnOk.rp (by rw [fa]; exact ok.mono sb))
theorem RuleCN.still {r : List V → Hp → VK → Prop} {f : List D → Option D} (h : RuleCN K B r f) : RuleC K B r f := fun c s ρ σ vs ds z Q' R rx e q =>
  h c s ρ σ vs ds z Q' R rx e fun a o c1 R1 e1 ok => by
    have ht : c1.T a = some o := by rw [e1.tmp]; simp
    obtain ⟨R2, sb, fa⟩ := R1.rest ht
    exact q _ { c1 with O := fun b => c1.O b ∧ b ≠ a, T := fun b => if b = a then none else c1.T b } R2 (rest_ev e1 sb) (OwnOk.rp (by rw [fa]; exact ok.mono sb))

/-! ### calls of built-ins -/
def orC (r r' : List V → Hp → VK → Prop) : List V → Hp → VK → Prop := fun xs H Q => r xs H Q ∨ r' xs H Q
theorem CallR.or' {X : Cx} {f : Value} {r r' : List V → Hp → VK → Prop} (h : CallR X f r) (h' : CallR X f r') : CallR X f (orC r r') := fun pins s σ H xs us Q I rs q =>
  q.elim (h pins s σ H xs us Q I rs) (h' pins s σ H xs us Q I rs)
theorem RuleC.or {r r' : List V → Hp → VK → Prop} {f g : List D → Option D} (h : RuleC K B r f) (h' : RuleC K B r' g) : RuleC K B (orC r r') (orF f g) := fun c s ρ σ vs ds z Q' R rx e q => by
  unfold orF at e
  split at e
  · rename_i z' e1
    cases e
    exact .inl (h c s ρ σ vs ds _ Q' R rx e1 q)
  · exact .inr (h' c s ρ σ vs ds z Q' R rx e q)
theorem RvAll.one {c : Cf} {vs : List V} {d : D} (r : RvAll K B c vs [d]) : ∃ v, vs = [v] ∧ Rv K B c v d := by
  cases r with
  | cons h r => cases r; exact ⟨_, rfl, h⟩
theorem RvAll.two {c : Cf} {vs : List V} {d e : D} (r : RvAll K B c vs [d, e]) : ∃ v w, vs = [v, w] ∧ Rv K B c v d ∧ Rv K B c w e := by
  cases r with
  | cons h r =>
    cases r with
    | cons h2 r => cases r; exact ⟨_, _, rfl, h, h2⟩
def dLen : List D → Option D
  | [.lst xs] => some (.int xs.length)
  | [.tup xs] => some (.int xs.length)
  | [.scr xs] => some (.int xs.length)
  | _ => none
theorem rule_len : RuleC K B (fun xs H Q => ∃ p ys, xs = [.ref p] ∧ (SqL K H p ys ∨ SqT K H p ys) ∧ Q (.int ys.length) H) dLen := fun c s ρ σ vs ds z Q' R rx e q => by
  unfold dLen at e
  split at e
  · cases e
    obtain ⟨v, rfl, r1⟩ := rx.one
    obtain ⟨a, ws, rfl, h, r⟩ := r1.lst R
    exact ⟨a, ws, rfl, .inl (.inl h), by rw [r.length]; exact q _ c R (Ev.refl c) (.int _)⟩
  · cases e
    obtain ⟨v, rfl, r1⟩ := rx.one
    obtain ⟨a, ws, rfl, h, r⟩ := r1.tup R
    exact ⟨a, ws, rfl, .inr h, by rw [r.length]; exact q _ c R (Ev.refl c) (.int _)⟩
  · cases e
    obtain ⟨v, rfl, r1⟩ := rx.one
    obtain ⟨a, ws, rfl, h, r⟩ := r1.scr R
    exact ⟨a, ws, rfl, .inl h, by rw [r.length]; exact q _ c R (Ev.refl c) (.int _)⟩
  · cases e
def dLenS : List D → Option D
  | [.str z] => if z.length ≤ sizeLine then some (.int z.length) else none
  | _ => none
theorem rule_lenS : RuleC K B (fun xs H Q => ∃ z, xs = [.str z] ∧ z.length ≤ sizeLine ∧ Q (.int z.length) H) dLenS := fun c s ρ σ vs ds z Q' R rx e q => by
  unfold dLenS at e
  split at e
  · split at e
    · rename_i hz
      cases e
      obtain ⟨v, rfl, r1⟩ := rx.one
      exact ⟨_, by rw [r1.str], hz, q _ c R (Ev.refl c) (.int _)⟩
    · cases e
  · cases e
def dAbs : List D → Option D
  | [.int i] => some (.int (if i < 0 then -i else i))
  | _ => none
theorem rule_abs : RuleC K B (fun xs H Q => ∃ i, xs = [.int i] ∧ Q (.int (if i < 0 then -i else i)) H) dAbs := fun c s ρ σ vs ds z Q' R rx e q => by
  unfold dAbs at e
  split at e
  · cases e
    obtain ⟨v, rfl, r1⟩ := rx.one
    exact ⟨_, by rw [r1.int], q _ c R (Ev.refl c) (.int _)⟩
  · cases e
def dMax2 : List D → Option D
  | [.int i, .int j] => some (.int (if j > i then j else i))
  | _ => none
def dMin2 : List D → Option D
  | [.int i, .int j] => some (.int (if j < i then j else i))
  | _ => none
theorem rule_max2 : RuleC K B (fun xs H Q => ∃ i j, xs = [.int i, .int j] ∧ Q (.int (if j > i then j else i)) H) dMax2 := fun c s ρ σ vs ds z Q' R rx e q => by
  unfold dMax2 at e
  split at e
  · cases e
    obtain ⟨v, w, rfl, rx, ry⟩ := rx.two
    exact ⟨_, _, by rw [rx.int, ry.int], q _ c R (Ev.refl c) (.int _)⟩
  · cases e
theorem rule_min2 : RuleC K B (fun xs H Q => ∃ i j, xs = [.int i, .int j] ∧ Q (.int (if j < i then j else i)) H) dMin2 := fun c s ρ σ vs ds z Q' R rx e q => by
  unfold dMin2 at e
  split at e
  · cases e
    obtain ⟨v, w, rfl, rx, ry⟩ := rx.two
    exact ⟨_, _, by rw [rx.int, ry.int], q _ c R (Ev.refl c) (.int _)⟩
  · cases e
def dInt : List D → Option D
  | [.int i] => some (.int i)
  | [.bl k] => some (.int (if k then 1 else 0))
  | _ => none
theorem rule_int : RuleC K B (fun xs H Q => (∃ i, xs = [.int i] ∧ Q (.int i) H) ∨ ∃ k, xs = [.bl k] ∧ Q (.int (if k then 1 else 0)) H) dInt := fun c s ρ σ vs ds z Q' R rx e q => by
  unfold dInt at e
  split at e
  · cases e
    obtain ⟨v, rfl, r1⟩ := rx.one
    exact .inl ⟨_, by rw [r1.int], q _ c R (Ev.refl c) (.int _)⟩
  · cases e
    obtain ⟨v, rfl, r1⟩ := rx.one
    exact .inr ⟨_, by rw [r1.bl], q _ c R (Ev.refl c) (.int _)⟩
  · cases e
/-- ints of data -/
def intsD : List D → Option (List Int)
  | [] => some []
  | .int i :: ds => match intsD ds with
    | some ns => some (i :: ns)
    | none => none
  | _ => none
theorem intsD_map : ∀ ns : List Int, intsD (ns.map D.int) = some ns
  | [] => rfl
  | n :: ns => by simp [intsD, intsD_map ns]
theorem intsD_some : ∀ {ds : List D} {ns : List Int}, intsD ds = some ns → ds = ns.map D.int
  | [], ns, h => by cases h; rfl
  | d :: ds, ns, h => by
    cases d <;> simp only [intsD, reduceCtorEq] at h
    split at h
    · rename_i ms e
      cases h
      rw [intsD_some e]
      rfl
    · cases h
def dSum : List D → Option D
  | [.lst xs] => (intsD xs).map fun ns => .int ns.sum
  | [.tup xs] => (intsD xs).map fun ns => .int ns.sum
  | _ => none
theorem rule_sum : RuleC K B (orC (rSum K) (rSumT K)) dSum := fun c s ρ σ vs ds z Q' R rx e q => by
  unfold dSum at e
  split at e
  · rename_i xs
    obtain ⟨v, rfl, r1⟩ := rx.one
    obtain ⟨a, ws, rfl, h, r⟩ := r1.lst R
    cases e1 : intsD xs with
    | none => rw [e1] at e; cases e
    | some ns =>
      rw [e1] at e
      cases e
      rw [intsD_some e1] at r
      rw [r.ints] at h
      exact .inl ⟨a, ns, rfl, .inl h, q _ c R (Ev.refl c) (.int _)⟩
  · rename_i xs
    obtain ⟨v, rfl, r1⟩ := rx.one
    obtain ⟨a, ws, rfl, h, r⟩ := r1.tup R
    cases e1 : intsD xs with
    | none => rw [e1] at e; cases e
    | some ns =>
      rw [e1] at e
      cases e
      rw [intsD_some e1] at r
      rw [r.ints] at h
      exact .inr ⟨a, ns, rfl, h, q _ c R (Ev.refl c) (.int _)⟩
  · cases e
def dList : List D → Option D
  | [.lst xs] => some (.lst xs)
  | [.tup xs] => some (.lst xs)
  | [.scr xs] => some (.lst xs)
  | _ => none
theorem rule_list : RuleCN K B (fun xs H Q => ∃ p ys, xs = [.ref p] ∧ (SqL K H p ys ∨ SqT K H p ys) ∧ ∀ l, H l = none → Q (.ref l) (upd H l (.lst ys))) dList := fun c s ρ σ vs ds z Q' R rx e q => by
  have fin : ∀ (ws : List V) (xs : List D), RpAll K (Fz B c) ws xs → z = .lst xs → ∀ l, c.H l = none → Q' (.ref l) (upd c.H l (.lst ws)) := fun ws xs r hz p hp => by
    subst hz
    obtain ⟨R2, sb⟩ := R.newT' (o := .lst ws) hp (fun _ z => nomatch z)
    exact q p (.lst ws) ⟨upd c.H p (.lst ws), fun b => c.O b ∨ b = p, c.W, fun b => if b = p then some (.lst ws) else c.T b⟩ R2 ⟨sb, rfl, R.newT hp⟩ ⟨ws, rfl, r.mono sb⟩
  unfold dList at e
  split at e
  · cases e
    obtain ⟨v, rfl, r1⟩ := rx.one
    obtain ⟨a, ws, rfl, h, r⟩ := r1.lst R
    exact ⟨a, ws, rfl, .inl (.inl h), fin ws _ r rfl⟩
  · cases e
    obtain ⟨v, rfl, r1⟩ := rx.one
    obtain ⟨a, ws, rfl, h, r⟩ := r1.tup R
    exact ⟨a, ws, rfl, .inr h, fin ws _ r rfl⟩
  · cases e
    obtain ⟨v, rfl, r1⟩ := rx.one
    obtain ⟨a, ws, rfl, h, r⟩ := r1.scr R
    exact ⟨a, ws, rfl, .inl h, fin ws _ r rfl⟩
  · cases e
def dTuple : List D → Option D
  | [.lst xs] => some (.tup xs)
  | [.tup xs] => some (.tup xs)
  | _ => none
theorem rule_tuple : RuleC K B (fun xs H Q => ∃ p ys, xs = [.ref p] ∧ ((SqL K H p ys ∧ ∀ l, H l = none → Q (.ref l) (upd H l (.tup ys))) ∨ (SqT K H p ys ∧ Q (.ref p) H))) dTuple := fun c s ρ σ vs ds z Q' R rx e q => by
  unfold dTuple at e
  split at e
  · cases e
    obtain ⟨v, rfl, r1⟩ := rx.one
    obtain ⟨a, ws, rfl, h, r⟩ := r1.lst R
    refine ⟨a, ws, rfl, .inl ⟨.inl h, fun p hp => ?_⟩⟩
    obtain ⟨R2, e2, f⟩ := R.new (o := .tup ws) hp
    exact q _ { c with H := upd c.H p (.tup ws) } R2 e2 (.tup (.inl f) (r.mono e2.sub))
  · cases e
    obtain ⟨v, rfl, r1⟩ := rx.one
    have rx' := r1
    obtain ⟨a, ws, rfl, h, r⟩ := r1.tup R
    refine ⟨a, ws, rfl, .inr ⟨h, q _ c R (Ev.refl c) ?_⟩⟩
    rcases rx' with rx' | ⟨_, _, _, z⟩
    · exact rx'
    · exact z.elim
  · cases e
/-- slices of lists, tuples -/
def partI : Option D → Option (Option Int)
  | none => some none
  | some (.int i) => some (some i)
  | _ => none
end
end Ld

/-! Value layer, part 6: defs and their calls. -/
namespace Ld
open PySem PySem.Spec PyProof.Rows L2

/-- the world: its state lies in the heap with a footprint -/
structure Wld (S : Type) where
  Wd : S → (Addr → Prop) → Hp → Prop
  loc : ∀ s W H H', (∀ a, W a → H' a = H a) → Wd s W H → Wd s W H'
  there : ∀ s W H a, Wd s W H → W a → ∃ o, H a = some o ∧ ∀ xs, o ≠ .tup xs
/-- no world -/
def wld0 : Wld Unit := ⟨fun _ W _ => ∀ a, ¬ W a, fun _ _ _ _ _ h => h, fun _ _ _ a h w => (h a w).elim⟩

section
variable {S : Type}
/-- a def's meaning on data -/
abbrev MD (S : Type) := List D → S → (D → S → Prop) → Prop
/-- behind a call: old things as F has them, tuples, all that is new; nothing of the worlds -/
noncomputable def extF (F H : Hp) (W : Addr → Prop) (H' : Hp) (W' : Addr → Prop) : Hp := open Classical in fun a => if W a ∨ W' a then none else match H a with
  | none => H' a
  | some (.tup xs) => some (.tup xs)
  | some _ => F a
def ResOk (K : PySem.W.Frag) (fr : Bool) (F H : Hp) (W : Addr → Prop) (H' : Hp) (W' : Addr → Prop) (v : V) (d : D) : Prop :=
  Rp K (extF F H W H' W') v d ∧ (fr = true → imm d = true ∨ ∃ a ds vs, v = .ref a ∧ d = .lst ds ∧ imms ds = true ∧ H' a = some (.lst vs) ∧ RpAll K H' vs ds ∧ H a = none ∧ ¬ W' a)
structure AftOk (wl : Wld S) (s' : S) (H : Hp) (W : Addr → Prop) (H' : Hp) (W' : Addr → Prop) : Prop where
  world : wl.Wd s' W' H'
  frame : ∀ a o, H a = some o → ¬ W a → H' a = some o
  dom : ∀ a, H a ≠ none → H' a ≠ none
  tups : ∀ a xs, H a = some (.tup xs) → H' a = some (.tup xs)
  wnew : ∀ a, W' a → W a ∨ H a = none
  w0t : ∀ a xs, W a → H' a ≠ some (.tup xs)
def spD (K : PySem.W.Frag) (wl : Wld S) (fr : Bool) (n : Nat) (m : MD S) : Sp := fun vs H Q _ => vs.length = n ∧ ∃ (F : Hp) (W : Addr → Prop) (s : S) (ds : List D), (∀ a o, F a = some o → H a = some o) ∧ (∀ a, W a → F a = none) ∧ wl.Wd s W H ∧ RpAll K F vs ds ∧
  ∃ P : D → S → Prop, m ds s P ∧ ∀ d s' v H' W', P d s' → AftOk wl s' H W H' W' → ResOk K fr F H W H' W' v d → Q v H'

/-- the body's state at the entry -/
noncomputable def ftOf (F H : Hp) (W : Addr → Prop) : Hp := open Classical in fun a => if W a then none else match H a with
  | some (.tup xs) => some (.tup xs)
  | _ => F a
noncomputable def mkB (K : PySem.W.Frag) (wl : Wld S) (fr : Bool) (F H : Hp) (W : Addr → Prop) (h1 : ∀ a o, F a = some o → H a = some o) (h2 : ∃ s, wl.Wd s W H) : Bs S where
  K := K
  H0 := H
  F0 := ftOf F H W
  W0 := W
  Wd := wl.Wd
  fr := fr
  sub := fun a o h => by
    unfold ftOf at h
    split at h
    · cases h
    · split at h
      · rename_i xs e
        rw [e]
        exact h
      · exact h1 a o h
  loc := wl.loc
  w0 := fun a w e => by
    obtain ⟨s, h⟩ := h2
    obtain ⟨o, q, _⟩ := wl.there s W H a h w
    rw [e] at q
    cases q
  ft := fun a xs e => by
    unfold ftOf
    have nw : ¬ W a := fun w => by
      obtain ⟨s, h⟩ := h2
      obtain ⟨o, q, n⟩ := wl.there s W H a h w
      rw [e] at q
      cases q
      exact n xs rfl
    rw [if_neg nw, e]
  there := wl.there

section
variable {K : PySem.W.Frag} {wl : Wld S} {fr : Bool} {F H : Hp} {W : Addr → Prop} {h1 : ∀ a o, F a = some o → H a = some o} {h2 : ∃ s, wl.Wd s W H}
theorem start_get {N : List Str} {vs : List V} {i : Nat} : (L2.start N vs)[i]? = if i < vs.length then (vs[i]?).map some else if i < N.length then some none else none := by
  unfold L2.start
  by_cases h : i < vs.length
  · rw [List.getElem?_append_left (by simpa using h), if_pos h, List.getElem?_map]
  · rw [List.getElem?_append_right (by simpa using h), if_neg h, List.getElem?_replicate]
    simp only [List.length_map]
    by_cases h3 : i < N.length
    · rw [if_pos h3, if_pos (by omega)]
    · rw [if_neg h3, if_neg (by omega)]
/-- the parameters' slots -/
def start (n : Nat) (ds : List D) : Env := ds.map Sl.val ++ List.replicate (n - ds.length) .emp
theorem rel_start {N : List Str} {vs : List V} {ds : List D} {s : S} (hw : wl.Wd s W H) (hF : ∀ a, W a → F a = none) (r : RpAll K F vs ds) : Rel K (mkB K wl fr F H W h1 h2) ⟨H, fun _ => False, W, fun _ => none⟩ s (start N.length ds) (L2.start N vs) := by
  have sb : Sub F (Fz (mkB K wl fr F H W h1 h2) ⟨H, fun _ => False, W, fun _ => none⟩) := fun a o e => by
    have nw : ¬ W a := fun w => by rw [hF a w] at e; cases e
    have eh := h1 a o e
    unfold Fz
    rw [if_neg (fun z => z.elim id fun z => z.elim nw nw)]
    show (match H a with | none => H a | some _ => ftOf F H W a) = some o
    rw [eh]
    show ftOf F H W a = some o
    unfold ftOf
    rw [if_neg nw, eh]
    cases o with
    | tup xs => rfl
    | _ => exact e
  refine ⟨hw, fun a o e _ => e, fun a e => e, fun a xs e => e, fun a w => .inl w, fun a xs w e => ?_, fun a z => z.elim, fun a o z => (nomatch z), ?_, fun i x e => ?_, fun i j a d e h => ?_⟩
  · obtain ⟨o, q, n⟩ := wl.there s W H a hw w
    have e : H a = some (.tup xs) := e
    rw [e] at q
    cases q
    exact n xs rfl
  · simp [start, L2.start, r.length]
  · rw [start_get]
    unfold start at e
    by_cases h : i < ds.length
    · rw [List.getElem?_append_left (by simpa using h), List.getElem?_map, List.getElem?_eq_getElem h] at e
      cases e
      obtain ⟨v, hv, rv⟩ := r.get (List.getElem?_eq_getElem h)
      rw [if_pos (by rw [r.length]; exact h), hv]
      exact ⟨v, rfl, rv.mono sb⟩
    · rw [List.getElem?_append_right (by simpa using h), List.getElem?_replicate] at e
      split at e
      · cases e
        trivial
      · cases e
  · exfalso
    unfold start at h
    rcases Nat.lt_or_ge i (ds.map Sl.val).length with q | q
    · rw [List.getElem?_append_left q, List.getElem?_map] at h
      cases e : ds[i]? with
      | none => rw [e] at h; cases h
      | some x => rw [e] at h; cases h
    · rw [List.getElem?_append_right q, List.getElem?_replicate] at h
      split at h <;> cases h
/-- at the end -/
theorem ret_res {c : Cf} {s : S} {ρ : Env} {σ : L2.St} {v : V} {d : D} (R : Rel K (mkB K wl fr F H W h1 h2) c s ρ σ) (hF : ∀ a, W a → F a = none) (r : RetOk K (mkB K wl fr F H W h1 h2) c v d) : AftOk wl s H W c.H c.W ∧ ResOk K fr F H W c.H c.W v d := by
  refine ⟨⟨R.world, R.frame, R.dom, R.tups, R.wnew, R.w0t⟩, r.1.mono fun a o e => ?_, r.2⟩
  unfold Fz at e
  split at e
  · cases e
  · rename_i hn
    have n1 : ¬ (W a ∨ c.W a) := fun z => hn (z.elim (fun z => .inr (.inr z)) fun z => .inr (.inl z))
    unfold extF
    rw [if_neg n1]
    have e : (match H a with | none => c.H a | some _ => ftOf F H W a) = some o := e
    cases q : H a with
    | none => rw [q] at e; exact e
    | some u =>
      rw [q] at e
      have e : ftOf F H W a = some o := e
      unfold ftOf at e
      rw [if_neg (fun z => n1 (.inl z)), q] at e
      cases u with
      | tup xs => exact e
      | _ => exact e
end

/-- the context of a def's body -/
abbrev cxD (P : Program) (w : World) (K : PySem.W.Frag) (mg : Str → Option Value) (base : Heap) (N : List Str) (qual : Str) (sc : Scope) (f : Addr) (cdv : Value) (A : Around) (outer : List PySem.Env) (s : Shared) (H : Hp) (E : XK) : Cx := (cxOf CX0 P w K mg base N qual sc f cdv A outer s H E).nox
/-- THE RULE for a def: its body on data -/
theorem fun_okD {P : Program} {w : World} {K : PySem.W.Frag} {mg : Str → Option Value} {base : Heap} {x qual : Str} {st : Stmt} {f : Addr} {fd : FuncData} {N ps : List Str} {k : Nat} (F : Fun K x qual st f fd) (Sc : FnScope N ps (defScope st)) (wl : Wld S) (fr : Bool) (m : MD S) (wb : WS S)
    (hbody : ∀ (cdv : Value) (A : Around) (outer : List PySem.Env) (s : Shared) (H0 : Hp) (E : XK), Room k (A.deeper (envOfC qual (defScope st) s.heap.objs.size f cdv)) → ∀ (F H : Hp) (W : Addr → Prop) h1 h2, ∃ t, SSs (cxD P w K mg base N qual (defScope st) f cdv A outer s H0 E) (mkB K wl fr F H W h1 h2) (defBody st) t wb)
    (hm : ∀ ds s Q, ds.length = ps.length → m ds s Q → wb { nx := fun _ s' => Q .non s', rt := Q } (start N.length ds) s) : FnOk P w K mg base CX0 (k + 1) f fd ps (spD K wl fr ps.length m) := by
  refine F.ok Sc (fun vs H Q E h => h.1) (fun cdv A outer s H vs Q E hr h => ?_)
  obtain ⟨hl, F', W, s0, ds, h1, hF, hw, r, Pd, qm, q⟩ := h
  obtain ⟨t, hs⟩ := hbody cdv A outer s H E hr F' H W h1 ⟨s0, hw⟩
  refine ⟨t, hs.pss, ?_⟩
  have R := rel_start (fr := fr) (N := N) (h1 := h1) (h2 := ⟨s0, hw⟩) hw hF r
  have hd : ds.length = ps.length := by rw [← r.length]; exact hl
  refine hs.sim _ s0 _ _ _ _ R (hm ds s0 Pd hd qm) ⟨fun ρ s' σ c a R' e => ?_, fun ρ s' σ c a R' e => a.elim, fun ρ s' σ c a R' e => a.elim, fun d ρ s' σ v c a R' e ro => ?_⟩
  · obtain ⟨a1, a2⟩ := ret_res R' hF (v := .non) (d := .non) ⟨.non, fun _ => .inl rfl⟩
    exact q .non s' .non c.H c.W a a1 a2
  · obtain ⟨a1, a2⟩ := ret_res R' hF ro
    exact q d s' v c.H c.W a a1 a2

/-! ### behind a call -/
section
variable {K : PySem.W.Frag} {B : Bs S} {c : Cf} {s s' : S} {ρ : Env} {σ : L2.St}
/-- new is a list that is handed back and belongs to nobody, or nothing -/
structure NewOk (c : Cf) (H' : Hp) (W' : Addr → Prop) (p : Addr) (o : HO) : Prop where
  was : c.H p = none
  nw : ¬ W' p
  is : H' p = some o
  nt : ∀ xs, o ≠ .tup xs
theorem Rel.call {wl : Wld S} (hB : B.Wd = wl.Wd) (R : Rel K B c s ρ σ) {H' : Hp} {W' : Addr → Prop} (a : AftOk wl s' c.H c.W H' W') : Rel K B ⟨H', c.O, W', c.T⟩ s' ρ σ ∧ Ev B c ⟨H', c.O, W', c.T⟩ := by
  have wO : ∀ {a}, c.O a → ¬ c.W a := fun {a} h => (R.onew a h).2.1
  have keep : ∀ {b o}, c.H b = some o → ¬ c.W b → H' b = some o := fun {b o} e n => a.frame b o e n
  have oW' : ∀ {b}, c.O b → ¬ W' b := fun {b} h w => by
    rcases a.wnew b w with z | z
    · exact wO h z
    · obtain ⟨_, _, o, e, _⟩ := R.onew b h
      rw [z] at e
      cases e
  have sb : Sub (Fz B c) (Fz B ⟨H', c.O, W', c.T⟩) := fun b o e => by
    have eh := R.fsub b o e
    unfold Fz at e ⊢
    split at e
    · cases e
    · rename_i hn
      have nW' : ¬ W' b := fun w => by
        rcases a.wnew b w with z | z
        · exact hn (.inr (.inl z))
        · rw [eh] at z; cases z
      rw [if_neg (fun z => z.elim (fun z => hn (.inl z)) fun z => z.elim nW' fun z => hn (.inr (.inr z)))]
      split at e
      · exact keep eh fun z => hn (.inr (.inl z))
      · exact e
  refine ⟨⟨hB ▸ a.world, fun b o e n => ?_, fun b e => a.dom b (R.dom b e), fun b xs e => a.tups b xs (R.tups b xs e), fun b w => ?_, fun b xs w e => ?_, fun b h => ?_, fun b o e => ?_, R.len, fun i x e => ?_, R.uniq⟩, ⟨sb, rfl⟩⟩
  · exact keep (R.frame b o e n) fun w => by
      rcases R.wnew b w with z | z
      · exact n z
      · rw [e] at z; cases z
  · rcases a.wnew b w with z | z
    · exact R.wnew b z
    · exact .inr (R.newH0 z)
  · by_cases z : c.W b
    · exact a.w0t b xs z e
    · cases q : c.H b with
      | none => exact R.dom b (B.w0 b w) q
      | some o =>
        have q2 := keep q z
        have e : H' b = some (.tup xs) := e
        rw [e] at q2
        cases q2
        exact R.w0t b xs w q
  · obtain ⟨a1, a2, o, a3, a4⟩ := R.onew b h
    exact ⟨a1, oW' h, o, keep a3 a2, a4⟩
  · obtain ⟨q1, q2⟩ := R.tmp b o e
    exact ⟨keep q1 (wO q2), q2⟩
  · have q := R.slots i x e
    cases x with
    | emp => trivial
    | val d => obtain ⟨v, e1, r⟩ := q; exact ⟨v, e1, r.mono sb⟩
    | own d =>
      obtain ⟨b, e1, e2, e3, r⟩ := q
      obtain ⟨o, eo, _⟩ := r.kind
      refine ⟨b, e1, e2, e3, ?_⟩
      show OwnOk K _ (H' b) d
      rw [keep eo (wO e2), ← eo]
      exact r.mono sb
theorem ext_sub {wl : Wld S} (R : Rel K B c s ρ σ) {H' : Hp} {W' : Addr → Prop} (a : AftOk wl s' c.H c.W H' W') (sb : Sub (Fz B c) (Fz B ⟨H', c.O, W', c.T⟩)) : Sub (extF (Fz B c) c.H c.W H' W') (Fz B ⟨H', c.O, W', c.T⟩) := fun b o e => by
  unfold extF at e
  split at e
  · cases e
  · rename_i hn
    split at e
    · rename_i q
      unfold Fz
      rw [if_neg (fun z => z.elim (R.newO q) fun z => z.elim (fun z => hn (.inr z)) fun z => B.w0 b z (R.newH0 q)), R.newH0 q]
      exact e
    · rename_i xs q
      cases e
      exact sb b _ (R.tupF q)
    · exact sb b o e
/-- what is handed back, when the arguments may change later: tuples and the like, or a list that is new -/
theorem fresh_rp {wl : Wld S} (R : Rel K B c s ρ σ) {H' F : Hp} {W' : Addr → Prop} {v : V} {d : D} (R2 : Rel K B ⟨H', c.O, W', c.T⟩ s' ρ σ) (a : AftOk wl s' c.H c.W H' W') (r : ResOk K true F c.H c.W H' W' v d) (hF : ∀ a o, F a = some o → ¬ c.W a → c.H a = some o) : Rp K (Fz B ⟨H', c.O, W', c.T⟩) v d := by
  rcases r.2 rfl with im | ⟨p, ds, vs, rfl, rfl, im, e1, rr, e2, nw⟩
  · refine (r.1.imm im).mono fun b o e => ?_
    obtain ⟨xs, rfl, e'⟩ := tupsOf_some e
    clear e
    have e := e'
    clear e'
    unfold extF at e
    split at e
    · cases e
    · rename_i hn
      split at e
      · exact R2.tupF e
      · rename_i ys q
        cases e
        exact R2.tupF (a.tups b _ q)
      · rename_i u q1 q2
        have q3 := hF b _ e fun z => hn (.inl z)
        exact R2.tupF (a.tups b _ q3)
  · refine .lst (.inl ?_) ((rr.imm im).mono R2.tupSub)
    unfold Fz
    rw [if_neg (fun z => z.elim (R.newO e2) fun z => z.elim nw fun z => B.w0 p z (R.newH0 e2)), R.newH0 e2]
    exact e1
end

/-! ### calls on data -/
/-- a call whose arguments are kept (they stand still from now on) -/
def wCall (n : Nat) (m : MD S) (wa : WA S) (ρ : Env) (s : S) (Q : Hd → Env → S → Prop) : Prop := wa ρ s fun hs ρ1 s1 => onS (valL hs) fun ds => ds.length = n ∧ m ds s1 fun d s2 => Q (.val d) ρ1 s2
/-- a call whose arguments are read alone -/
def wCallF (n : Nat) (m : MD S) (wa : WA S) (ρ : Env) (s : S) (Q : Hd → Env → S → Prop) : Prop := wa ρ s fun hs ρ1 s1 => onS (resL ρ1 hs) fun ds => ds.length = n ∧ m ds s1 fun d s2 => Q (.val d) ρ1 s2
/-- .. its list belongs to who called -/
def wCallO (n : Nat) (m : MD S) (wa : WA S) (ρ : Env) (s : S) (Q : D → Env → S → Prop) : Prop := wa ρ s fun hs ρ1 s1 => onS (resL ρ1 hs) fun ds => ds.length = n ∧ m ds s1 fun d s2 => match d with
  | .lst _ => Q d ρ1 s2
  | _ => False
section
variable {K : PySem.W.Frag} {B : Bs S} {wl : Wld S} {n : Nat} {m : MD S} {ta : TA} {wa : WA S} {E : XK}
theorem SimE.call {fr : Bool} (hB : B.Wd = wl.Wd) (ha : SimA K B ta wa) : SimE K B (tCall (spD K wl fr n m) [] E ta) (wCall n m wa) := fun c s ρ σ Q Q' R hw q => by
  refine ha c s ρ σ _ _ R hw fun hs ρ1 s1 vs c1 hw R1 e1 o1 => ?_
  obtain ⟨ds, ed, hn, hw⟩ := onS_iff.mp hw
  have r := valL_rp o1 ed
  rw [List.append_nil]
  refine ⟨by rw [r.length]; exact hn, Fz B c1, c1.W, s1, ds, R1.fsub, fun a w => ?_, hB ▸ R1.world, r, _, hw, fun d s2 v H' W' hq af ro => ?_⟩
  · unfold Fz
    rw [if_pos (.inr (.inl w))]
  · obtain ⟨R2, e2⟩ := R1.call hB af
    exact q _ _ _ v ⟨H', c1.O, W', c1.T⟩ hq R2 (e1.trans e2) (ro.1.mono (ext_sub R1 af e2.sub))
/-- all that stands but the world -/
noncomputable def allF (c : Cf) : Hp := open Classical in fun a => if c.W a then none else c.H a
theorem allF_sub {c : Cf} {s : S} {ρ : Env} {σ : L2.St} (R : Rel K B c s ρ σ) : Sub (Fz B c) (allF c) := fun a o e => by
  have h := R.fsub a o e
  unfold allF
  rw [if_neg (fun w => by unfold Fz at e; rw [if_pos (.inr (.inl w))] at e; cases e)]
  exact h
theorem rv_all {c : Cf} {s : S} {ρ : Env} {σ : L2.St} (R : Rel K B c s ρ σ) : ∀ {vs : List V} {ds : List D}, RvAll K B c vs ds → RpAll K (allF c) vs ds
  | _, _, .nil => .nil
  | _, _, .cons h r => by
    refine .cons ?_ (rv_all R r)
    rcases h with h | ⟨a, rfl, hO, ok⟩
    · exact h.mono (allF_sub R)
    · have e : allF c a = c.H a := by
        unfold allF
        rw [if_neg (R.onew a hO).2.1]
      exact OwnOk.rp (by rw [e]; exact ok.mono (allF_sub R))
theorem SimE.callF (hB : B.Wd = wl.Wd) (ha : SimA K B ta wa) : SimE K B (tCall (spD K wl true n m) [] E ta) (wCallF n m wa) := fun c s ρ σ Q Q' R hw q => by
  refine ha c s ρ σ _ _ R hw fun hs ρ1 s1 vs c1 hw R1 e1 o1 => ?_
  obtain ⟨ds, ed, hn, hw⟩ := onS_iff.mp hw
  have r := rv_all R1 (hds_rv R1 o1 ed)
  rw [List.append_nil]
  refine ⟨by rw [r.length]; exact hn, allF c1, c1.W, s1, ds, fun a o e => ?_, fun a w => ?_, hB ▸ R1.world, r, _, hw, fun d s2 v H' W' hq af ro => ?_⟩
  · unfold allF at e
    split at e
    · cases e
    · exact e
  · unfold allF
    rw [if_pos w]
  · obtain ⟨R2, e2⟩ := R1.call hB af
    refine q _ _ _ v ⟨H', c1.O, W', c1.T⟩ hq R2 (e1.trans e2) (fresh_rp R1 R2 af ro fun a o e n => ?_)
    unfold allF at e
    rw [if_neg n] at e
    exact e
theorem SimN.callO (hB : B.Wd = wl.Wd) (ha : SimA K B ta wa) : SimN K B (tCall (spD K wl true n m) [] E ta) (wCallO n m wa) := fun c s ρ σ Q Q' R hw q => by
  refine ha c s ρ σ _ _ R hw fun hs ρ1 s1 vs c1 hw R1 e1 o1 => ?_
  obtain ⟨ds, ed, hn, hw⟩ := onS_iff.mp hw
  have r := rv_all R1 (hds_rv R1 o1 ed)
  rw [List.append_nil]
  refine ⟨by rw [r.length]; exact hn, allF c1, c1.W, s1, ds, fun a o e => ?_, fun a w => ?_, hB ▸ R1.world, r, _, hw, fun d s2 v H' W' hq af ro => ?_⟩
  · unfold allF at e
    split at e
    · cases e
    · exact e
  · unfold allF
    rw [if_pos w]
  · obtain ⟨R2, e2⟩ := R1.call hB af
    cases d with
    | lst xs =>
      rcases ro.2 rfl with im | ⟨p, ds, ws, rfl, e3, im, e4, rr, e5, nw⟩
      · simp [imm] at im
      · cases e3
        -- the new list is taken to be on its way
        have nO := R1.newO e5
        have nT := R1.newT e5
        have n0 := R1.newH0 e5
        have sb : Sub (Fz B c1) (Fz B ⟨H', fun b => c1.O b ∨ b = p, W', fun b => if b = p then some (.lst ws) else c1.T b⟩) := fun b o e => by
          have h := e2.sub b o e
          have np : b ≠ p := ne_of_none (R1.fsub b o e) e5
          unfold Fz at h ⊢
          split at h
          · cases h
          · rename_i hn
            rw [if_neg (fun z => z.elim (fun z => z.elim (fun z => hn (.inl z)) np) fun z => hn (.inr z))]
            exact h
        have R3 : Rel K B ⟨H', fun b => c1.O b ∨ b = p, W', fun b => if b = p then some (.lst ws) else c1.T b⟩ s2 ρ1 σ := by
          refine ⟨R2.world, R2.frame, R2.dom, R2.tups, R2.wnew, R2.w0t, fun b z => ?_, fun b o e => ?_, R2.len, fun i x e => ?_, R2.uniq⟩
          · rcases z with z | z
            · exact R2.onew b z
            · subst z
              exact ⟨n0, nw, _, e4, fun _ z => nomatch z⟩
          · have e : (if b = p then some (.lst ws) else c1.T b) = some o := e
            split at e
            · rename_i z
              obtain rfl := Option.some.inj e
              subst z
              exact ⟨e4, .inr rfl⟩
            · exact ⟨(R2.tmp b o e).1, .inl (R2.tmp b o e).2⟩
          · have q2 := R1.slots i x e
            have q3 := R2.slots i x e
            cases x with
            | emp => trivial
            | val d => obtain ⟨v, e1, r⟩ := q2; exact ⟨v, e1, r.mono sb⟩
            | own d =>
              obtain ⟨b, b1, b2, b3, b4⟩ := q2
              obtain ⟨b', b1', b2', b3', b4'⟩ := q3
              rw [b1] at b1'
              cases b1'
              have np : b ≠ p := fun z => nO (z ▸ b2)
              refine ⟨b, b1, .inl b2, ?_, ?_⟩
              · show (if b = p then some (.lst ws) else c1.T b) = none
                rw [if_neg np]
                exact b3
              · obtain ⟨o, eo, _⟩ := b4.kind
                have q4 := af.frame b o eo (R1.onew b b2).2.1
                show OwnOk K _ (H' b) d
                rw [q4, ← eo]
                exact b4.mono sb
        exact q (.lst xs) ρ1 s2 p (.lst ws) _ hq R3 ⟨e1.sub.trans sb, by rw [← e1.tmp], by rw [← e1.tmp]; exact nT⟩ ⟨ws, rfl, (rr.imm im).mono R3.tupSub⟩
    | _ => exact hq.elim
end
section
variable {X : Cx} {B : Bs S} {wl : Wld S} {n k : Nat} {m : MD S} {f : Addr} {fd : FuncData} {ps : List Str} {x : Str} {p pos : Pos} {e : Expr} {es : List Expr} {t : TA} {wa : WA S} {fr : Bool}
theorem se_call (G : FnOk X.prog X.w X.K X.mg X.base CX0 k f fd ps (spD X.K wl fr n m)) (hr : Room k X.A) (hm : X.mg x = some (.ref f)) (hk : PySem.W.keepIn X.K (.ref f) = true) (hb : Binds X.K fd ps []) (ha : SA X B (e :: es) t wa) (hB : B.Wd = wl.Wd := by rfl) (hg : Gl X x := by rfl)
    (hdb : (x == ("__debug__" : Str)) = false := by decide) (he : starEach (e :: es) X.env = (false, eval e X.env) :: starEach es X.env := by rfl) (hpl : (backTo pos (starEach es X.env)).any (·.1) = false := by rfl) (hK : X.K = B.K := by rfl)  :
    SE X B (.Call (.Name x p) (e :: es) [] pos) (tCall (spD B.K wl fr n m) [] E0 t) (wCall n m wa) := ⟨hK ▸ (pe_call G hr hg hm hk hb .nil pass0 ha.pa hdb he hpl), SimE.call hB ha.sim⟩
theorem se_callF (G : FnOk X.prog X.w X.K X.mg X.base CX0 k f fd ps (spD X.K wl true n m)) (hr : Room k X.A) (hm : X.mg x = some (.ref f)) (hk : PySem.W.keepIn X.K (.ref f) = true) (hb : Binds X.K fd ps []) (ha : SA X B (e :: es) t wa) (hB : B.Wd = wl.Wd := by rfl) (hg : Gl X x := by rfl)
    (hdb : (x == ("__debug__" : Str)) = false := by decide) (he : starEach (e :: es) X.env = (false, eval e X.env) :: starEach es X.env := by rfl) (hpl : (backTo pos (starEach es X.env)).any (·.1) = false := by rfl) (hK : X.K = B.K := by rfl)  :
    SE X B (.Call (.Name x p) (e :: es) [] pos) (tCall (spD B.K wl true n m) [] E0 t) (wCallF n m wa) := ⟨hK ▸ (pe_call G hr hg hm hk hb .nil pass0 ha.pa hdb he hpl), SimE.callF hB ha.sim⟩
theorem sn_call (G : FnOk X.prog X.w X.K X.mg X.base CX0 k f fd ps (spD X.K wl true n m)) (hr : Room k X.A) (hm : X.mg x = some (.ref f)) (hk : PySem.W.keepIn X.K (.ref f) = true) (hb : Binds X.K fd ps []) (ha : SA X B (e :: es) t wa) (hB : B.Wd = wl.Wd := by rfl) (hg : Gl X x := by rfl)
    (hdb : (x == ("__debug__" : Str)) = false := by decide) (he : starEach (e :: es) X.env = (false, eval e X.env) :: starEach es X.env := by rfl) (hpl : (backTo pos (starEach es X.env)).any (·.1) = false := by rfl) (hK : X.K = B.K := by rfl)  :
    SN X B (.Call (.Name x p) (e :: es) [] pos) (tCall (spD B.K wl true n m) [] E0 t) (wCallO n m wa) := ⟨hK ▸ (pe_call G hr hg hm hk hb .nil pass0 ha.pa hdb he hpl), SimN.callO hB ha.sim⟩
end
end
end Ld

/-! Value layer, part 7: what a loop walks, lists that change, isinstance, in, slices; short rules. -/
namespace Ld
open PySem PySem.Spec PyProof.Rows L2
section
variable {S : Type}

/-! ### what a loop walks -/
def iSeq (K : PySem.W.Frag) (tl : TE) : TI := fun σ H R => tl σ H fun x H1 => ∃ a, x = .ref a ∧ (((∃ xs, SqL K H1 a xs) ∧ R (Itl K a) H1) ∨ ((∃ xs, SqT K H1 a xs) ∧ R (Itt K a) H1))
theorem pi_seq {X : Cx} {tg l : Expr} {tl : TE} (hl : PE X l tl) : PI X tg l (iSeq X.K tl) := by
  refine ⟨fun pins s σ H R I h => ?_⟩
  refine thn (hl.run pins s σ H _ I h) fun v s1 ⟨x, H1, I1, r1, q1⟩ => ?_
  obtain ⟨a, e, q⟩ := q1
  subst e
  cases r1
  rcases q with ⟨⟨xs, hq⟩, q⟩ | ⟨⟨xs, hq⟩, q⟩
  · obtain ⟨its, rv, p, hz⟩ := I1.list hq
    refine wpAny_pyIter_list p.isList ?_
    refine ⟨s1.heap.objs.size, [s1.heap.objs.size], _, _, H1, rfl, I1.kept (t' := s1.toks) fun b o e => Heap.get?_push_of_some _ e, turn_list a _, ⟨_, Heap.get?_push_size _ rfl, rfl, rfl⟩, fun b hb => ?_, q⟩
    have e : b = s1.heap.objs.size := by simpa using hb
    subst e
    exact I1.fpOk (Nat.le_refl _) (I1.hok.fresh (Nat.le_refl _))
  · obtain ⟨its, rv, p, hz⟩ := I1.tuple hq
    refine wpAny_pyIter_tuple (show s1.heap.IsTuple a its.toArray from p) ?_
    refine ⟨s1.heap.objs.size, [s1.heap.objs.size], _, _, H1, rfl, I1.kept (t' := s1.toks) fun b o e => Heap.get?_push_of_some _ e, turn_tuple a _, ⟨_, Heap.get?_push_size _ rfl, rfl, rfl⟩, fun b hb => ?_, q⟩
    have e : b = s1.heap.objs.size := by simpa using hb
    subst e
    exact I1.fpOk (Nat.le_refl _) (I1.hok.fresh (Nat.le_refl _))
def seqD : D → Option (List D)
  | .lst xs => some xs
  | .tup xs => some xs
  | .scr xs => some xs
  | _ => none
/-- over the items of a list or tuple (a list of one's own stands still from now on) -/
def wIter (we : WE S) (ρ : Env) (s : S) (Q : List D → Env → S → Prop) : Prop := we ρ s fun h ρ1 s1 => useK h ρ1 fun d ρ2 => onS (seqD d) fun ds => Q ds ρ2 s1
section
variable {K : PySem.W.Frag} {B : Bs S}
theorem wk_list {c : Cf} {a : Addr} {vs : List V} {ds : List D} (h : ∀ c1 s ρ σ, Rel K B c1 s ρ σ → Sub (Fz B c) (Fz B c1) → SqL K c1.H a vs) (r : RpAll K (Fz B c) vs ds) : WkOk K B c (Itl K a) ds (fun H => SqL K H a vs) (YAt vs) := by
  refine ⟨r.length ▸ walk_list, h, fun i x H' c1 s ρ σ hi R sb y => ?_⟩
  obtain ⟨rfl, e⟩ := y
  obtain ⟨d, hd, rd⟩ := r.getV e
  exact ⟨c1, d, rfl, R, Ev.refl c1, hd, rd.mono sb⟩
theorem wk_tup {c : Cf} {a : Addr} {vs : List V} {ds : List D} (h : ∀ c1 s ρ σ, Rel K B c1 s ρ σ → Sub (Fz B c) (Fz B c1) → SqT K c1.H a vs) (r : RpAll K (Fz B c) vs ds) : WkOk K B c (Itt K a) ds (fun H => SqT K H a vs) (YAt vs) := by
  refine ⟨r.length ▸ walk_tup, h, fun i x H' c1 s ρ σ hi R sb y => ?_⟩
  obtain ⟨rfl, e⟩ := y
  obtain ⟨d, hd, rd⟩ := r.getV e
  exact ⟨c1, d, rfl, R, Ev.refl c1, hd, rd.mono sb⟩
theorem SimI.seq {te : TE} {we : WE S} (he : SimE K B te we) : SimI K B (iSeq K te) (wIter we) := fun c s ρ σ Q R' R hw q => by
  refine he c s ρ σ _ _ R hw fun h ρ1 s1 v c1 hw R1 e1 o1 => ?_
  obtain ⟨d, ρ2, c2, hw, eh, R2, e2, r⟩ := use_ok R1 o1 hw
  obtain ⟨ds, ed, hw⟩ := onS_iff.mp hw
  rw [← eh]
  cases d <;> simp only [seqD, Option.some.injEq, reduceCtorEq] at ed <;> subst ed
  · cases r with
    | lst h r => exact ⟨_, rfl, .inl ⟨⟨_, .inl (R2.fsub.rd h)⟩, q _ _ _ _ c2 _ _ hw R2 (e1.trans e2) (wk_list (fun c1 s ρ σ R sb => .inl (R.fsub.rd (sb.rd h))) r)⟩⟩
  · cases r with
    | tup h r => exact ⟨_, rfl, .inr ⟨⟨_, R2.fsub.seqT h.sq⟩, q _ _ _ _ c2 _ _ hw R2 (e1.trans e2) (wk_tup (fun c1 s ρ σ R sb => R.fsub.seqT (sb.seqT h.sq)) r)⟩⟩
  · cases r with
    | scr h r => exact ⟨_, rfl, .inl ⟨⟨_, R2.fsub.seqL h⟩, q _ _ _ _ c2 _ _ hw R2 (e1.trans e2) (wk_list (fun c1 s ρ σ R sb => R.fsub.seqL (sb.seqL h)) r)⟩⟩
theorem si_seq {X : Cx} {B : Bs S} {tg l : Expr} {te : TE} {we : WE S} (h : SE X B l te we) (hK : X.K = B.K := by rfl)  : SI X B tg l (iSeq B.K te) (wIter we) := ⟨hK ▸ (pi_seq h.pe), SimI.seq h.sim⟩
/-- ranges -/
def upto (lo : Int) (n : Nat) : List D := (List.range n).map fun i : Nat => D.int (lo + i)
def wRange (wa : WA S) (ρ : Env) (s : S) (Q : List D → Env → S → Prop) : Prop := wa ρ s fun hs ρ1 s1 => onS (resL ρ1 hs) fun ds => match ds with
  | [.int j] => -(2 ^ 62) ≤ j ∧ j < 2 ^ 62 ∧ Q (upto 0 j.toNat) ρ1 s1
  | [.int i, .int j] => (-(2 ^ 62) ≤ i ∧ i < 2 ^ 62 ∧ -(2 ^ 62) ≤ j ∧ j < 2 ^ 62) ∧ Q (upto i (j - i).toNat) ρ1 s1
  | _ => False
theorem wk_range {c : Cf} {lo : Int} {n : Nat} : WkOk K B c (Itr lo n) (upto lo n) (fun _ => True) (YFn fun i => .int (lo + i)) := by
  have hl : (upto lo n).length = n := by simp [upto]
  refine ⟨hl.symm ▸ walk_range, fun _ _ _ _ _ _ => trivial, fun i x H' c1 s ρ σ hi R sb y => ?_⟩
  obtain ⟨rfl, rfl⟩ := y
  refine ⟨c1, .int (lo + i), rfl, R, Ev.refl c1, ?_, .int _⟩
  rw [hl] at hi
  simp [upto, hi]
theorem SimI.range1 {ta : TA} {wa : WA S} (ha : SimA K B ta wa) (h1 : ∀ c s ρ σ Q Q', Rel K B c s ρ σ → wa ρ s Q → (∀ hs ρ' s' vs c', hs.length = 1 → Q hs ρ' s' → Rel K B c' s' ρ' σ → Ev B c c' → HdsOk K B c' σ vs hs → Q' vs c'.H) → ta σ c.H Q') : SimI K B (iRng1 ta) (wRange wa) := fun c s ρ σ Q R' R hw q => by
  refine h1 c s ρ σ _ _ R hw fun hs ρ1 s1 vs c1 hl hw R1 e1 o1 => ?_
  obtain ⟨ds, ed, hw⟩ := onS_iff.mp hw
  have r := hds_rv R1 o1 ed
  split at hw
  · obtain ⟨v, rfl, r1⟩ := r.one
    exact ⟨_, by rw [r1.int], hw.1, hw.2.1, q _ _ _ _ c1 _ _ hw.2.2 R1 e1 wk_range⟩
  · obtain ⟨v, w, rfl, r1, r2⟩ := r.two
    match hs, o1, hl with
    | [_], o1, _ => exact o1.2.elim
  · exact hw.elim
theorem sima_one {te : TE} {we : WE S} (he : SimE K B te we) : ∀ c s ρ σ Q Q', Rel K B c s ρ σ → wCons we wNil ρ s Q → (∀ hs ρ' s' vs c', hs.length = 1 → Q hs ρ' s' → Rel K B c' s' ρ' σ → Ev B c c' → HdsOk K B c' σ vs hs → Q' vs c'.H) → tCons te tNil σ c.H Q' := fun c s ρ σ Q Q' R hw q =>
  he c s ρ σ _ _ R hw fun h ρ1 s1 v c1 hw R1 e1 o1 => q [h] ρ1 s1 [v] c1 rfl hw R1 e1 ⟨o1, trivial⟩
theorem sima_two {te tf : TE} {we wf : WE S} (he : SimE K B te we) (hf : SimE K B tf wf) : ∀ c s ρ σ Q Q', Rel K B c s ρ σ → wCons we (wCons wf wNil) ρ s Q → (∀ hs ρ' s' vs c', hs.length = 2 → Q hs ρ' s' → Rel K B c' s' ρ' σ → Ev B c c' → HdsOk K B c' σ vs hs → Q' vs c'.H) → tCons te (tCons tf tNil) σ c.H Q' := fun c s ρ σ Q Q' R hw q =>
  he c s ρ σ _ _ R hw fun h ρ1 s1 v c1 hw R1 e1 o1 => hf c1 s1 ρ1 σ _ _ R1 hw fun h2 ρ2 s2 v2 c2 hw R2 e2 o2 => q [h, h2] ρ2 s2 [v, v2] c2 rfl hw R2 (e1.trans e2) ⟨o1.ev e2.sub, o2, trivial⟩
theorem SimI.range2 {ta : TA} {wa : WA S} (h1 : ∀ c s ρ σ Q Q', Rel K B c s ρ σ → wa ρ s Q → (∀ hs ρ' s' vs c', hs.length = 2 → Q hs ρ' s' → Rel K B c' s' ρ' σ → Ev B c c' → HdsOk K B c' σ vs hs → Q' vs c'.H) → ta σ c.H Q') : SimI K B (iRng2 ta) (wRange wa) := fun c s ρ σ Q R' R hw q => by
  refine h1 c s ρ σ _ _ R hw fun hs ρ1 s1 vs c1 hl hw R1 e1 o1 => ?_
  obtain ⟨ds, ed, hw⟩ := onS_iff.mp hw
  have r := hds_rv R1 o1 ed
  split at hw
  · obtain ⟨v, rfl, r1⟩ := r.one
    match hs, o1, hl with
    | [_, _], o1, _ => exact o1.2.elim
  · obtain ⟨v, w, rfl, r1, r2⟩ := r.two
    exact ⟨_, _, by rw [r1.int, r2.int], hw.1, q _ _ _ _ c1 _ _ hw.2 R1 e1 wk_range⟩
  · exact hw.elim
theorem si_range1 {X : Cx} {B : Bs S} {tg a : Expr} {te : TE} {we : WE S} {p pos : Pos} (hm : X.mg "range" = none) (h : SE X B a te we) (hg : Gl X "range" := by rfl) (hs : starEach [a] X.env = [(false, eval a X.env)] := by rfl) :
    SI X B tg (.Call (.Name "range" p) [a] [] pos) (iRng1 (tCons te tNil)) (wRange (wCons we wNil)) := ⟨pi_range1 hg hm (pa_cons h.pe pa_nil hs) hs, SimI.range1 (SimA.cons h.sim SimA.nil) (sima_one h.sim)⟩
theorem si_range2 {X : Cx} {B : Bs S} {tg a b : Expr} {te tf : TE} {we wf : WE S} {p pos : Pos} (hm : X.mg "range" = none) (h : SE X B a te we) (h2 : SE X B b tf wf) (hg : Gl X "range" := by rfl) (hs : starEach [a, b] X.env = [(false, eval a X.env), (false, eval b X.env)] := by rfl) (hs2 : starEach [b] X.env = [(false, eval b X.env)] := by rfl) :
    SI X B tg (.Call (.Name "range" p) [a, b] [] pos) (iRng2 (tCons te (tCons tf tNil))) (wRange (wCons we (wCons wf wNil))) := ⟨pi_range2 hg hm (pa_cons h.pe (pa_cons h2.pe pa_nil hs2) (hs.trans (by rw [hs2]))) hs hs2, SimI.range2 (sima_two h.sim h2.sim)⟩
/-- pairs of a walk: each turn lays a new tuple -/
theorem wk_pair {c : Cf} {J : It} {n : Nat} {G : Hp → Prop} {f g : Nat → Option V} {ds : List D} {F G' : Nat → Option D} (hn : ds.length = n) (w : Walk J n G (YPair f g)) (still : ∀ c1 s ρ σ, Rel K B c1 s ρ σ → Sub (Fz B c) (Fz B c1) → G c1.H)
    (hd : ∀ i x y, i < n → f i = some x → g i = some y → ∃ dx dy, ds[i]? = some (.tup [dx, dy]) ∧ Rp K (Fz B c) x dx ∧ Rp K (Fz B c) y dy) : WkOk K B c J ds G (YPair f g) := by
  refine ⟨hn ▸ w, still, fun i x H' c1 s ρ σ hi R sb y => ?_⟩
  obtain ⟨T, x1, x2, rfl, nT, rfl, e1, e2⟩ := y
  obtain ⟨d1, d2, hd, r1, r2⟩ := hd i x1 x2 (hn ▸ hi) e1 e2
  obtain ⟨R2, e2, fz⟩ := R.new (o := .tup [x1, x2]) nT
  exact ⟨{ c1 with H := upd c1.H T (.tup [x1, x2]) }, _, rfl, R2, e2, hd, .tup (.inl fz) (.cons (r1.mono (sb.trans e2.sub)) (.cons (r2.mono (sb.trans e2.sub)) .nil))⟩
def enumD (ds : List D) : List D := (List.range ds.length).zipWith (fun (i : Nat) d => D.tup [.int i, d]) ds
/-- enumerate of a list -/
def wEnum (we : WE S) (ρ : Env) (s : S) (Q : List D → Env → S → Prop) : Prop := we ρ s fun h ρ1 s1 => useK h ρ1 fun d ρ2 => match d with
  | .lst ds => Q (enumD ds) ρ2 s1
  | _ => False
theorem enumD_get {ds : List D} {i : Nat} {d : D} (h : ds[i]? = some d) : (enumD ds)[i]? = some (.tup [.int i, d]) := by
  obtain ⟨hi, e⟩ := List.getElem?_eq_some_iff.mp h
  unfold enumD
  rw [List.getElem?_zipWith, h, List.getElem?_range hi]
theorem enumD_len (ds : List D) : (enumD ds).length = ds.length := by simp [enumD]
theorem SimI.enum {te : TE} {we : WE S} (he : SimE K B te we) : SimI K B (iEnum K (tCons te tNil)) (wEnum we) := fun c s ρ σ Q R' R hw q => by
  refine he c s ρ σ _ _ R hw fun h ρ1 s1 v c1 hw R1 e1 o1 => ?_
  obtain ⟨d, ρ2, c2, hw, eh, R2, e2, r⟩ := use_ok R1 o1 hw
  cases d with
  | lst ds =>
    cases r with
    | lst h r =>
      rename_i a vs
      refine ⟨a, vs, rfl, by rw [← eh]; exact .inl (R2.fsub.rd h), ?_⟩
      rw [← eh]
      refine q _ _ _ _ c2 _ _ hw R2 (e1.trans e2) (wk_pair (F := fun _ => none) (G' := fun _ => none) (n := vs.length) (by rw [enumD_len, r.length]) walk_enum (fun c1 s ρ σ R sb => .inl (R.fsub.rd (sb.rd h))) fun i x y hi h1 h2 => ?_)
      cases h1
      obtain ⟨dy, hd, ry⟩ := r.getV h2
      exact ⟨.int i, dy, enumD_get hd, .int _, ry⟩
  | _ => exact hw.elim
theorem si_enum {X : Cx} {B : Bs S} {e : Expr} {te : TE} {we : WE S} {p pos tpos : Pos} {elts : List Expr} {kk : Nat} (hm : X.mg "enumerate" = none) (h : SE X B e te we) (hg : Gl X "enumerate" := by rfl) (hs : starEach [e] X.env = [(false, eval e X.env)] := by rfl) (hK : X.K = B.K := by rfl)  :
    SI X B (.Tuple elts kk tpos) (.Call (.Name "enumerate" p) [e] [] pos) (iEnum B.K (tCons te tNil)) (wEnum we) := ⟨hK ▸ (pi_enum hg hm (pa_cons h.pe pa_nil hs) hs), SimI.enum h.sim⟩
end

/-! ### a list of one's own that changes -/
/-- the list at a has the items vs and is on its way (no slot holds it) -/
def RuleM (K : PySem.W.Frag) (B : Bs S) (AP : Cf → List V → List D → Prop) (r : V → List V → Hp → VK → Prop) (f : List D → List D → Option (D × List D)) : Prop := ∀ (c : Cf) (s : S) (ρ : Env) (σ : L2.St) (a : Addr) (vs args : List V) (ds as : List D) (z : D) (zs : List D) (Q' : VK),
  Rel K B c s ρ σ → c.T a = some (.lst vs) → RpAll K (Fz B c) vs ds → AP c args as → f ds as = some (z, zs) →
  (∀ v ws, RpAll K (Fz B c) ws zs → Rp K (Fz B c) v z → Q' v (upd c.H a (.lst ws))) → r (.ref a) args c.H Q'
def wMut (i : Nat) (f : List D → List D → Option (D × List D)) (wa : WA S) (ρ : Env) (s : S) (Q : Hd → Env → S → Prop) : Prop := match ρ[i]? with
  | some (.own (.lst _)) => wa ρ s fun hs ρ1 s1 => onS (resL ρ1 hs) fun as => match ρ1[i]? with
    | some (.own (.lst ds)) => onS (f ds as) fun p => Q (.val p.1) (ρ1.set i (.own (.lst p.2))) s1
    | _ => False
  | _ => False
section
variable {K : PySem.W.Frag} {B : Bs S}
theorem rv_lift {c : Cf} {a : Addr} {o : HO} {f : Addr → Option HO} : ∀ {vs : List V} {ds : List D}, RvAll K B c vs ds → RvAll K B { c with T := f } vs ds
  | _, _, .nil => .nil
  | _, _, .cons h r => .cons h (rv_lift (a := a) (o := o) r)
theorem mut_go {c : Cf} {s : S} {ρ : Env} {σ : L2.St} {i : Nat} {r : V → List V → Hp → VK → Prop} {f : List D → List D → Option (D × List D)} {AP : Cf → List V → List D → Prop} (hr : RuleM K B AP r f) (R : Rel K B c s ρ σ) {ds as zs : List D} {z : D} {args : List V} (hx : ρ[i]? = some (.own (.lst ds))) (ra : AP c args as) (hA : ∀ g, AP c args as → AP { c with T := g } args as) (hf : f ds as = some (z, zs)) {Q' : VK}
    {v0 : V} (h0 : σ[i]? = some (some v0)) (q : ∀ v c', Rel K B c' s (ρ.set i (.own (.lst zs))) σ → Ev B c c' → Rp K (Fz B c') v z → Q' v c'.H) : r v0 args c.H Q' := by
  obtain ⟨a, o, e1, eh, ok, R1, ef⟩ := R.lift hx
  rw [h0] at e1
  cases e1
  obtain ⟨vs, e2, rv⟩ := ok
  cases e2
  obtain ⟨a', e1', e2', e3', _⟩ := R.slots i _ hx
  rw [h0] at e1'
  cases e1'
  have ht : ({ c with T := fun b => if b = a then some (.lst vs) else c.T b } : Cf).T a = some (.lst vs) := by simp
  refine hr ⟨c.H, c.O, c.W, fun b => if b = a then some (.lst vs) else c.T b⟩ s _ σ a vs args ds as z zs Q' R1 ht (by rw [ef]; exact rv) (hA _ ra) hf fun v ws rw' rz => ?_
  obtain ⟨R2, sb⟩ := R1.mutT (o' := .lst ws) ht (fun _ z => nomatch z)
  have ht2 : ({ c with H := upd c.H a (.lst ws), T := fun b => if b = a then some (.lst ws) else if b = a then some (.lst vs) else c.T b } : Cf).T a = some (.lst ws) := by simp
  obtain ⟨R3, ef3⟩ := R2.take (i := i) ht2 (d := .lst zs) ⟨ws, rfl, rw'.mono sb⟩
  have es : σ.set i (some (V.ref a)) = σ := by
    obtain ⟨hl, e⟩ := List.getElem?_eq_some_iff.mp h0
    rw [← e]
    exact List.set_getElem_self hl
  rw [es, List.set_set] at R3
  refine q v ⟨upd c.H a (.lst ws), c.O, c.W, fun b => if b = a then none else if b = a then some (.lst ws) else if b = a then some (.lst vs) else c.T b⟩ R3 ⟨?_, ?_⟩ ?_
  · rw [ef] at sb
    exact sb
  · funext b
    show (if b = a then none else if b = a then some (.lst ws) else if b = a then some (.lst vs) else c.T b) = c.T b
    by_cases z : b = a
    · subst z; simp [e3']
    · simp [z]
  · exact rz.mono sb
theorem SimE.mut {i : Nat} {r : V → List V → Hp → VK → Prop} {f : List D → List D → Option (D × List D)} {ta : TA} {wa : WA S} (hr : RuleM K B (RvAll K B) r f) (ha : SimA K B ta wa) : SimE K B (tBM K "list" r (tVar i) ta) (wMut i f wa) := fun c s ρ σ Q Q' R hw q => by
  unfold wMut at hw
  split at hw
  · rename_i ds0 hx0
    obtain ⟨a, e1, e2, e3, vs, eh, _⟩ := R.slots i _ hx0
    refine ⟨.ref a, e1, .inl ⟨rfl, vs, .inl (.inl eh)⟩, ?_⟩
    refine ha c s ρ σ _ _ R hw fun hs ρ1 s1 args c1 hw R1 e1' o1 => ?_
    obtain ⟨as, ea, hw⟩ := onS_iff.mp hw
    split at hw
    · rename_i ds hx
      obtain ⟨p, ep, hw⟩ := onS_iff.mp hw
      obtain ⟨z, zs⟩ := p
      exact mut_go hr R1 hx (hds_rv R1 o1 ea) (fun g h => rv_lift (a := 0) (o := .lst []) h) ep e1 fun v c' R' e' rz => q _ _ _ v c' hw R' (e1'.trans e') rz
    · exact hw.elim
  · exact hw.elim
theorem SimE.mut0 {i : Nat} {r : V → List V → Hp → VK → Prop} {f : List D → List D → Option (D × List D)} (hr : RuleM K B (RvAll K B) r f) : SimE K B (tBM0 K "list" r (tVar i)) (wMut i f wNil) := fun c s ρ σ Q Q' R hw q => by
  unfold wMut at hw
  split at hw
  · rename_i ds0 hx0
    obtain ⟨a, e1, e2, e3, vs, eh, _⟩ := R.slots i _ hx0
    refine ⟨.ref a, e1, .inl ⟨rfl, vs, .inl (.inl eh)⟩, ?_⟩
    have hw : onS (resL ρ []) fun as => match ρ[i]? with
        | some (.own (.lst ds)) => onS (f ds as) fun p => Q (.val p.1) (ρ.set i (.own (.lst p.2))) s
        | _ => False := hw
    obtain ⟨as, ea, hw⟩ := onS_iff.mp hw
    cases ea
    split at hw
    · rename_i ds hx
      obtain ⟨p, ep, hw⟩ := onS_iff.mp hw
      obtain ⟨z, zs⟩ := p
      exact mut_go hr R hx .nil (fun g h => rv_lift (a := 0) (o := .lst []) h) ep e1 fun v c' R' e' rz => q _ _ _ v c' hw R' e' rz
    · exact hw.elim
  · exact hw.elim
theorem tmp_lst {c : Cf} {s : S} {ρ : Env} {σ : L2.St} (R : Rel K B c s ρ σ) {a : Addr} {o : HO} (h : c.T a = some o) : c.H a = some o := (R.tmp a o h).1
/-- the kept value of an argument: never a list that the caller still changes -/
def fApp : List D → List D → Option (D × List D) := fun ds as => match as with
  | [x] => if ds.length < sizeLine then some (.non, ds ++ [x]) else none
  | _ => none
def fPop : List D → List D → Option (D × List D) := fun ds as => match as with
  | [] => (ds[ds.length - 1]?).map fun z => (z, ds.dropLast)
  | _ => none
def fPopAt : List D → List D → Option (D × List D) := fun ds as => match as with
  | [.int i] => if -(2 ^ 63) ≤ i ∧ i < 2 ^ 63 then (seqIndex? i ds.length).bind fun k => (ds[k]?).map fun z => (z, ds.eraseIdx k) else none
  | _ => none
def fRev : List D → List D → Option (D × List D) := fun ds as => match as with
  | [] => some (.non, ds.reverse)
  | _ => none
def fClear : List D → List D → Option (D × List D) := fun _ as => match as with
  | [] => some (.non, [])
  | _ => none
theorem rule_pop : RuleM K B (RvAll K B) rPop fPop := fun c s ρ σ a vs args ds as z zs Q' R ht r ra hf q => by
  unfold fPop at hf
  split at hf
  · cases e : ds[ds.length - 1]? with
    | none => rw [e] at hf; cases hf
    | some y =>
      rw [e] at hf
      cases hf
      cases ra
      obtain ⟨v, hv, rv⟩ := r.get e
      exact ⟨a, vs, v, rfl, rfl, tmp_lst R ht, by rw [r.length]; exact hv, q _ _ r.dropLast rv⟩
  · cases hf
theorem rule_popAt : RuleM K B (RvAll K B) rPopAt fPopAt := fun c s ρ σ a vs args ds as z zs Q' R ht r ra hf q => by
  unfold fPopAt at hf
  split at hf
  · split at hf
    · rename_i i hi
      cases e : seqIndex? i ds.length with
      | none => rw [e] at hf; cases hf
      | some k =>
        rw [e] at hf
        cases e2 : ds[k]? with
        | none => simp [e2] at hf
        | some y =>
          simp only [Option.bind_some, e2, Option.map_some, Option.some.injEq, Prod.mk.injEq] at hf
          obtain ⟨rfl, rfl⟩ := hf
          obtain ⟨w, rfl, rw'⟩ := ra.one
          obtain ⟨v, hv, rv⟩ := r.get e2
          exact ⟨a, vs, i, k, v, rfl, by rw [rw'.int], tmp_lst R ht, hi.1, hi.2, by rw [r.length]; exact e, hv, q _ _ (r.eraseIdx k) rv⟩
    · cases hf
  · cases hf
theorem rule_rev : RuleM K B (RvAll K B) rReverse fRev := fun c s ρ σ a vs args ds as z zs Q' R ht r ra hf q => by
  unfold fRev at hf
  split at hf
  · cases hf
    cases ra
    exact ⟨a, vs, rfl, rfl, tmp_lst R ht, q _ _ r.reverse .non⟩
  · cases hf
theorem rule_clear : RuleM K B (RvAll K B) rClear fClear := fun c s ρ σ a vs args ds as z zs Q' R ht r ra hf q => by
  unfold fClear at hf
  split at hf
  · cases hf
    cases ra
    exact ⟨a, vs, rfl, rfl, tmp_lst R ht, q _ _ .nil .non⟩
  · cases hf
/-- .. with arguments that are kept -/
def wMutK (i : Nat) (f : List D → List D → Option (D × List D)) (wa : WA S) (ρ : Env) (s : S) (Q : Hd → Env → S → Prop) : Prop := match ρ[i]? with
  | some (.own (.lst _)) => wa ρ s fun hs ρ1 s1 => onS (valL hs) fun as => match ρ1[i]? with
    | some (.own (.lst ds)) => onS (f ds as) fun p => Q (.val p.1) (ρ1.set i (.own (.lst p.2))) s1
    | _ => False
  | _ => False
abbrev AKp (K : PySem.W.Frag) (B : Bs S) : Cf → List V → List D → Prop := fun c vs ds => RpAll K (Fz B c) vs ds
theorem SimE.mutK {i : Nat} {r : V → List V → Hp → VK → Prop} {f : List D → List D → Option (D × List D)} {ta : TA} {wa : WA S} (hr : RuleM K B (AKp K B) r f) (ha : SimA K B ta wa) : SimE K B (tBM K "list" r (tVar i) ta) (wMutK i f wa) := fun c s ρ σ Q Q' R hw q => by
  unfold wMutK at hw
  split at hw
  · rename_i ds0 hx0
    obtain ⟨a, e1, e2, e3, vs, eh, _⟩ := R.slots i _ hx0
    refine ⟨.ref a, e1, .inl ⟨rfl, vs, .inl (.inl eh)⟩, ?_⟩
    refine ha c s ρ σ _ _ R hw fun hs ρ1 s1 args c1 hw R1 e1' o1 => ?_
    obtain ⟨as, ea, hw⟩ := onS_iff.mp hw
    split at hw
    · rename_i ds hx
      obtain ⟨p, ep, hw⟩ := onS_iff.mp hw
      obtain ⟨z, zs⟩ := p
      exact mut_go hr R1 hx (valL_rp o1 ea) (fun g h => h) ep e1 fun v c' R' e' rz => q _ _ _ v c' hw R' (e1'.trans e') rz
    · exact hw.elim
  · exact hw.elim
theorem RpAll.one1 {F : Hp} {vs : List V} {d : D} (r : RpAll K F vs [d]) : ∃ v, vs = [v] ∧ Rp K F v d := by
  cases r with
  | cons h r => cases r; exact ⟨_, rfl, h⟩
theorem RpAll.two2 {F : Hp} {vs : List V} {d e : D} (r : RpAll K F vs [d, e]) : ∃ v w, vs = [v, w] ∧ Rp K F v d ∧ Rp K F w e := by
  cases r with
  | cons h r =>
    cases r with
    | cons h2 r => cases r; exact ⟨_, _, rfl, h, h2⟩
theorem rule_app : RuleM K B (AKp K B) rAppend fApp := fun c s ρ σ a vs args ds as z zs Q' R ht r ra hf q => by
  unfold fApp at hf
  split at hf
  · split at hf
    · rename_i hl
      cases hf
      obtain ⟨v, rfl, rv⟩ := ra.one1
      exact ⟨a, vs, v, rfl, rfl, tmp_lst R ht, by rw [r.length]; exact hl, q _ _ (r.append (.cons rv .nil)) .non⟩
    · cases hf
  · cases hf

/-! ### x[k] = e, x a list of one's own -/
def wSetIx (i : Nat) (we wk : WE S) (N : DE S) (ρ : Env) (s : S) : Prop := we ρ s fun h ρ1 s1 => useK h ρ1 fun d ρ2 => match ρ2[i]? with
  | some (.own (.lst _)) => wk ρ2 s1 fun hk ρ3 s2 => match ρ3[i]?, res ρ3 hk with
    | some (.own (.lst ds)), some (.int k) => onS (ixN ds.length k) fun j => N.nx (ρ3.set i (.own (.lst (ds.set j d)))) s2
    | _, _ => False
  | _ => False
/-- a store by values, as a method that changes the list -/
def rSetAs (k : V) : V → List V → Hp → VK → Prop := fun x vs H Q => ∃ v, vs = [v] ∧ rSetL x k v H fun H' => Q .non H'
def fSet (k : Int) : List D → List D → Option (D × List D) := fun ds as => match as with
  | [d] => (ixN ds.length k).map fun j => (.non, ds.set j d)
  | _ => none
theorem rule_setAs (k : Int) : RuleM K B (AKp K B) (rSetAs (.int k)) (fSet k) := fun c s ρ σ a vs args ds as z zs Q' R ht r ra hf q => by
  unfold fSet at hf
  split at hf
  · obtain ⟨v, rfl, rv⟩ := ra.one1
    cases e : ixN ds.length k with
    | none => rw [e] at hf; cases hf
    | some j =>
      rw [e] at hf
      cases hf
      exact ⟨v, rfl, a, vs, k, j, rfl, rfl, tmp_lst R ht, by rw [r.length]; exact e, q _ _ (r.set rv j) .non⟩
  · cases hf
theorem SimS.setIx {i : Nat} {te tk : TE} {we wk : WE S} (he : SimE K B te we) (hk : SimE K B tk wk) : SimS K B (tAsg te (gSub (tVar i) tk rSetL)) (wSetIx i we wk) := fun c s ρ σ N N' R h E =>
  he c s ρ σ _ _ R h fun h ρ1 s1 v c1 hw R1 e o => by
    obtain ⟨d, ρ2, c2, hw, eh, R2, e2, r⟩ := use_ok R1 o hw
    show gSub (tVar i) tk rSetL v σ c1.H N'.nx
    rw [← eh]
    split at hw
    · rename_i ds0 hx0
      obtain ⟨a, q1, q2, q3, q4⟩ := R2.slots i _ hx0
      refine ⟨.ref a, q1, hk c2 s1 ρ2 σ _ _ R2 hw fun hk ρ3 s2 kv c3 hw R3 e3 o3 => ?_⟩
      split at hw
      · rename_i x y ds k hx hkr
        obtain ⟨j, ej, hw⟩ := onS_iff.mp hw
        have ek := (hd_rv R3 o3 hkr).int
        subst ek
        have go := mut_go (rule_setAs k) R3 (as := [d]) (args := [v]) (z := .non) (zs := ds.set j d) hx (.cons (r.mono e3.sub) .nil) (fun g h => h) (by simp [fSet, ej]) (Q' := fun _ H' => N'.nx σ H') q1 fun _ c' R' e' _ => E.nx _ _ _ c' hw R' (((e.trans e2).trans e3).trans e')
        obtain ⟨v', hv, go⟩ := go
        cases hv
        exact go
      · exact hw.elim
    · exact hw.elim
end
section
variable {X : Cx} {B : Bs S} {e k : Expr} {te tk : TE} {we wk : WE S} {x : Str} {p pos pos' : Pos}
theorem s_setIx (i : Nat) (he : SE X B e te we) (hk : SE X B k tk wk) (ho : SE X B (.Name x p) (tVar i) (wVar i))
    (ha : ∀ v, assign (.Subscript (.Name x p) k pos') X.env v = (do
      let ov ← holding [v] (eval (.Name x p) X.env)
      let iv ← holding [v, ov] (eval k X.env)
      standAt pos'
      holding [v, ov, iv] (setItem ov iv v)
      release [v, ov, iv] []) := by intro _; rfl) (hs : swapsWithSole [.Subscript (.Name x p) k pos'] e pos.line X.env = pure false := by rfl) (hw : swappedStores [.Subscript (.Name x p) k pos'] e X.env = pure none := by rfl)
    (h1 : (assignEach [.Subscript (.Name x p) k pos'] X.env).map (·.2) = [assign (.Subscript (.Name x p) k pos') X.env] := by rfl) : SS X B (.Assign [.Subscript (.Name x p) k pos'] e pos) (tAsg te (gSub (tVar i) tk rSetL)) (wSetIx i we wk) :=
  ⟨ps_asg he.pe (pg_sub ho.pe hk.pe set_list ha) hs hw h1, SimS.setIx he.sim hk.sim⟩
end

/-! ### name op= e -/
def wAug (i : Nat) (f : D → D → Option D) (we : WE S) (N : DE S) (ρ : Env) (s : S) : Prop := onS (slD ρ[i]?) fun _ => we ρ s fun h ρ1 s1 => onS (slD ρ1[i]?) fun x => onS (res ρ1 h) fun y => onS (f x y) fun z => N.nx (ρ1.set i (.val z)) s1
theorem SimS.aug {K : PySem.W.Frag} {B : Bs S} {i : Nat} {te : TE} {we : WE S} {r : R2} {f : D → D → Option D} (hr : RuleB K B r f) (he : SimE K B te we) : SimS K B (tAug i te r) (wAug i f we) := fun c s ρ σ N N' R h E => by
  obtain ⟨d0, e0, h⟩ := onS_iff.mp h
  have go : ∀ v0, σ[i]? = some (some v0) → tAug i te r N' σ c.H := fun v0 hv0 => ⟨v0, hv0, he c s ρ σ _ _ R h fun h ρ1 s1 v c1 hw R1 e o => by
    obtain ⟨x, ex, hw⟩ := onS_iff.mp hw
    obtain ⟨y, ey, hw⟩ := onS_iff.mp hw
    obtain ⟨z, ez, hw⟩ := onS_iff.mp hw
    exact hr c1 s1 ρ1 σ v0 v x y z _ R1 (hd_rv (h := .slot i) R1 hv0 ex) (hd_rv R1 o ey) ez fun u c2 R2 e2 ru => E.nx _ _ _ c2 hw (R2.set ru) (e.trans e2)⟩
  rcases slD_some e0 with hx | hx
  · obtain ⟨u, e1, _⟩ := R.slots i _ hx
    exact go u e1
  · obtain ⟨a, e1, _⟩ := R.slots i _ hx
    exact go _ e1
theorem s_aug {X : Cx} {B : Bs S} (i : Nat) {x : Str} {e : Expr} {te : TE} {we : WE S} {op : Operator} {r : R2} {f : D → D → Option D} {pos pos' : Pos} (ho : OpR X (inplaceOp op) r) (hr : RuleB B.K B r f) (hN : X.N.Nodup) (he : SE X B e te we) (hi : X.N[i]? = some x := by rfl) (hx : Loc X.env.scope x := by first | exact Or.inl rfl | exact Or.inr rfl)
    (hf : X.fn x = true ∨ X.env.scope.names.lookup x = some .local := by first | exact .inl rfl | exact .inr rfl | assumption) : SS X B (.AugAssign (.Name x pos') op e pos) (tAug i te r) (wAug i f we) := ⟨ps_aug hN hi hx he.pe ho hf, SimS.aug hr he.sim⟩
end
end Ld

/-! Value layer, part 8: isinstance, in, slices; the short rules. -/
namespace Ld
open PySem PySem.Spec PyProof.Rows L2
section
variable {S : Type}

/-! ### isinstance -/
def tyn : D → Option String
  | .non => some "NoneType"
  | .bl _ => some "bool"
  | .int _ => some "int"
  | .str _ => some "str"
  | .lst _ => some "list"
  | .tup _ => some "tuple"
  | _ => none
def isTab (a b : String) : Option Bool :=
  if a = b then some true
  else if a = "bool" ∧ b = "int" then some true
  else if (b = "int" ∨ b = "bool" ∨ b = "str" ∨ b = "list" ∨ b = "tuple" ∨ b = "dict") then some false else none
theorem isTab_kit {d : D} {a b : String} {r : Bool} (h : tyn d = some a) (e : isTab a b = some r) : kitB a b = some r := by
  have ha : a = "NoneType" ∨ a = "bool" ∨ a = "int" ∨ a = "str" ∨ a = "list" ∨ a = "tuple" := by
    cases d <;> simp only [tyn, Option.some.injEq, reduceCtorEq] at h <;> simp [← h]
  unfold isTab at e
  split at e
  · rename_i hab
    cases e
    subst hab
    unfold kitB
    rw [if_pos (by simp)]
  · split at e
    · rename_i hab
      cases e
      rw [hab.1, hab.2]
      decide +kernel
    · split at e
      · rename_i n1 n2 hb
        cases e
        rcases ha with rfl | rfl | rfl | rfl | rfl | rfl <;> rcases hb with rfl | rfl | rfl | rfl | rfl | rfl <;> first
          | (exfalso; exact n1 rfl)
          | (exfalso; exact n2 ⟨rfl, rfl⟩)
          | decide +kernel
      · cases e
section
variable {K : PySem.W.Frag} {B : Bs S}
theorem rv_tyx {c : Cf} {s : S} {ρ : Env} {σ : L2.St} {v : V} {d : D} {a : String} (R : Rel K B c s ρ σ) (r : Rv K B c v d) (h : tyn d = some a) : TyX K c.H v (.type a) := by
  cases d <;> simp only [tyn, Option.some.injEq, reduceCtorEq] at h <;> subst h
  · rw [r.non]; exact .base .non
  · rw [r.bl]; exact .base (.bl _)
  · rw [r.int]; exact .base (.int _)
  · rw [r.str]; exact .base (.str _)
  · obtain ⟨a, vs, rfl, h, _⟩ := r.lst R
    rcases h with h | ⟨o, h⟩
    · exact .base (.lst h)
    · exact .base (.frz h)
  · obtain ⟨a, vs, rfl, h, _⟩ := r.tup R
    rcases h with (h | ⟨o, h⟩) | ⟨o, its, n, h1, h2, _⟩
    · exact .base (.tup h)
    · exact .fTuple h
    · exact .kTuple h1 h2
def dIsi : List D → Option D
  | [x, .ty b] => match tyn x with
    | some a => (isTab a b).map D.bl
    | none => none
  | _ => none
theorem Rv.ty {c : Cf} {v : V} {n : String} (r : Rv K B c v (.ty n)) : v = .ty n := by
  rcases r with r | ⟨a, _, _, z⟩
  · cases r; rfl
  · exact z.elim
theorem rule_isi : RuleC K B (rIsi K) dIsi := fun c s ρ σ vs ds z Q' R rx e q => by
  unfold dIsi at e
  split at e
  · rename_i x b
    obtain ⟨v, w, rfl, r1, r2⟩ := rx.two
    split at e
    · rename_i a ha
      cases e1 : isTab a b with
      | none => rw [e1] at e; cases e
      | some r =>
        rw [e1] at e
        cases e
        exact ⟨v, w, .type a, .type b, r, rfl, by rw [r2.ty]; exact .ty b, rv_tyx R r1 ha, kit_ty (isTab_kit ha e1), q _ c R (Ev.refl c) (.bl _)⟩
    · cases e
  · cases e
/-- of a tuple of built-in classes -/
def anyTy (a : String) : List D → Option Bool
  | [] => some false
  | .ty b :: ts => match isTab a b, anyTy a ts with
    | some x, some y => some (x || y)
    | _, _ => none
  | _ => none
def dIsiT : List D → Option D
  | [x, .tup ts] => match tyn x with
    | some a => (anyTy a ts).map D.bl
    | none => none
  | _ => none
theorem anyTy_kit {F : Hp} {x : D} {a : String} (ha : tyn x = some a) : ∀ {ts : List D} {vs : List V} {r : Bool}, RpAll K F vs ts → anyTy a ts = some r → ∃ us, Paired ClsV vs us ∧ PySem.W.kitAny K (.type a) us = some r
  | [], vs, r, h, e => by
    cases h
    cases e
    exact ⟨[], .nil, kitAny_nil⟩
  | t :: ts, vs, r, h, e => by
    cases t <;> simp only [anyTy, reduceCtorEq] at e
    rename_i b
    cases h with
    | cons h1 h2 =>
      cases h1
      split at e
      · rename_i x y e1 e2
        cases e
        obtain ⟨us, p, k⟩ := anyTy_kit ha h2 e2
        refine ⟨.type b :: us, .cons (.ty b) p, kitAny_cons (kit_ty (isTab_kit ha e1)) (fun hx => ?_) (fun hx => ?_)⟩
        · rw [hx]; simpa using k
        · rw [hx]; rfl
      · cases e
theorem rule_isiT : RuleC K B (orC (rIsiT K) (rIsiK K)) dIsiT := fun c s ρ σ vs ds z Q' R rx e q => by
  unfold dIsiT at e
  split at e
  · rename_i x ts
    obtain ⟨v, w, rfl, r1, r2⟩ := rx.two
    split at e
    · rename_i a ha
      cases e1 : anyTy a ts with
      | none => rw [e1] at e; cases e
      | some r =>
        rw [e1] at e
        cases e
        rcases r2 with r2 | ⟨_, _, _, z⟩
        · cases r2 with
          | tup h rr =>
            obtain ⟨us, p, k⟩ := anyTy_kit ha rr e1
            rcases h with h | ⟨o, its, n, h1, h2, h3, _, h4⟩
            · exact .inl ⟨v, _, _, .type a, us, r, rfl, R.fsub _ _ h, p, rv_tyx R r1 ha, k, q _ c R (Ev.refl c) (.bl _)⟩
            · have eu := ClsV.all p h4
              obtain ⟨oc, od, dt, sl⟩ := o
              simp only at h2 h3
              subst h2 h3
              exact .inr ⟨v, _, od, us, n, sl, .type a, r, rfl, by rw [← eu]; exact h1, rv_tyx R r1 ha, k, q _ c R (Ev.refl c) (.bl _)⟩
        · exact z.elim
    · cases e
  · cases e

/-! ### in -/
def flatD : D → Bool
  | .non => true
  | .bl _ => true
  | .int _ => true
  | .str _ => true
  | _ => false
theorem rp_flat {F : Hp} {v : V} {d : D} (r : Rp K F v d) (h : flatD d = true) : flatV v = true := by
  cases r <;> simp_all [flatD, flatV]
theorem rp_eqV {F : Hp} {v w : V} {d e : D} (r : Rp K F v d) (r2 : Rp K F w e) (h : flatD d = true) (h2 : flatD e = true) : eqV v w = deq d e := by
  cases r <;> simp only [flatD, Bool.false_eq_true] at h <;> cases r2 <;> simp only [flatD, Bool.false_eq_true] at h2 <;> simp [eqV, deq]
theorem rv_flat {c : Cf} {v : V} {d : D} (r : Rv K B c v d) (h : flatD d = true) : Rp K (Fz B c) v d := by
  rcases r with r | ⟨a, rfl, _, ok⟩
  · exact r
  · cases d <;> first | exact ok.elim | simp [flatD] at h
theorem rps_flat {F : Hp} : ∀ {vs : List V} {ds : List D}, RpAll K F vs ds → ds.all flatD = true → vs.all flatV = true
  | _, _, .nil, _ => rfl
  | _, _, .cons h r, e => by
    simp only [List.all_cons, Bool.and_eq_true] at e ⊢
    exact ⟨rp_flat h e.1, rps_flat r e.2⟩
theorem inV_in {F : Hp} {v : V} {d : D} (h : Rp K F v d) (hf : flatD d = true) : ∀ {vs : List V} {ds : List D}, RpAll K F vs ds → ds.all flatD = true → inV v vs = ds.any fun y => deq y d
  | _, _, .nil, _ => rfl
  | _, _, .cons q r, e => by
    simp only [List.all_cons, Bool.and_eq_true] at e
    have := inV_in h hf r e.2
    unfold inV at this ⊢
    rw [List.any_cons, List.any_cons, this, rp_eqV q h e.1 hf]
def inD (x : D) (ys : List D) : Bool := ys.any fun y => deq y x
def dIn (neg : Bool) (x y : D) : Option D := onSeq (seqD y)
where onSeq : Option (List D) → Option D
  | some ys => if flatD x = true ∧ ys.all flatD = true then some (.bl (if neg then !inD x ys else inD x ys)) else none
  | none => none
theorem Rv.seq {c : Cf} {s : S} {ρ : Env} {σ : L2.St} {v : V} {d : D} {ds : List D} (R : Rel K B c s ρ σ) (r : Rv K B c v d) (h : seqD d = some ds) : ∃ a vs, v = .ref a ∧ (SqL K c.H a vs ∨ SqT K c.H a vs) ∧ RpAll K (Fz B c) vs ds := by
  cases d <;> simp only [seqD, Option.some.injEq, reduceCtorEq] at h <;> subst h
  · obtain ⟨a, vs, e, h, r⟩ := r.lst R
    exact ⟨a, vs, e, .inl (.inl h), r⟩
  · obtain ⟨a, vs, e, h, r⟩ := r.tup R
    exact ⟨a, vs, e, .inr h, r⟩
  · obtain ⟨a, vs, e, h, r⟩ := r.scr R
    exact ⟨a, vs, e, .inl h, r⟩
theorem rule_in {neg : Bool} : RuleB K B (rIn K neg) (dIn neg) := fun c s ρ σ x y dx dy z Q' R rx ry e q => by
  unfold dIn dIn.onSeq at e
  split at e
  · rename_i ys hs
    split at e
    · rename_i hf
      cases e
      obtain ⟨a, vs, rfl, h, r⟩ := ry.seq R hs
      have rx' := rv_flat rx hf.1
      refine ⟨a, vs, rfl, h, rp_flat rx' hf.1, rps_flat r hf.2, ?_⟩
      rw [inV_in rx' hf.1 r hf.2]
      exact q _ c R (Ev.refl c) (.bl _)
    · cases e
  · cases e

/-! ### slices -/
def cutL {α : Type} (xs : List α) (lo hi : Option Int) : List α := (xs.drop (HT.sIx xs.length 0 lo)).take (HT.sIx xs.length xs.length hi - HT.sIx xs.length 0 lo)
theorem RpAll.cut {F : Hp} {vs : List V} {ds : List D} (r : RpAll K F vs ds) (lo hi : Option Int) : RpAll K F (cutV vs lo hi) (cutL ds lo hi) := by
  unfold cutV cutL
  rw [r.length]
  exact (r.drop _).take _
abbrev WO (S : Type) := Env → S → (Option Int → Env → S → Prop) → Prop
def SimO (K : PySem.W.Frag) (B : Bs S) (t : TO) (w : WO S) : Prop := ∀ (c : Cf) (s : S) (ρ : Env) (σ : L2.St) (Q : Option Int → Env → S → Prop) (Q' : Option Int → Hp → Prop), Rel K B c s ρ σ → w ρ s Q →
  (∀ o ρ' s' c', Q o ρ' s' → Rel K B c' s' ρ' σ → Ev B c c' → Q' o c'.H) → t σ c.H Q'
structure SO (X : Cx) (B : Bs S) (e : Option Expr) (t : TO) (w : WO S) : Prop where
  po : PO X e t
  sim : SimO B.K B t w
def wNoPart (ρ : Env) (s : S) (Q : Option Int → Env → S → Prop) : Prop := Q none ρ s
def wPart (we : WE S) (ρ : Env) (s : S) (Q : Option Int → Env → S → Prop) : Prop := we ρ s fun h ρ1 s1 => match res ρ1 h with
  | some (.int i) => Q (some i) ρ1 s1
  | _ => False
theorem so_none {X : Cx} {B : Bs S} : SO X B none tNoPart wNoPart := ⟨po_none, fun c s ρ σ Q Q' R h q => q _ _ _ c h R (Ev.refl c)⟩
theorem so_some {X : Cx} {B : Bs S} {e : Expr} {te : TE} {we : WE S} (h : SE X B e te we) : SO X B (some e) (tPart te) (wPart we) := ⟨po_some h.pe, fun c s ρ σ Q Q' R hw q => h.sim c s ρ σ _ _ R hw fun h ρ1 s1 v c1 hw R1 e1 o1 => by
  split at hw
  · rename_i i hi
    exact ⟨i, (hd_rv R1 o1 hi).int, q _ _ _ c1 hw R1 e1⟩
  · exact hw.elim⟩
/-- of a list: a new list; of a tuple: a tuple -/
def wSlL (we : WE S) (wl wh : WO S) (ρ : Env) (s : S) (Q : D → Env → S → Prop) : Prop := we ρ s fun h ρ1 s1 => wl ρ1 s1 fun lo ρ2 s2 => wh ρ2 s2 fun hi ρ3 s3 => match res ρ3 h with
  | some (.lst ds) => Q (.lst (cutL ds lo hi)) ρ3 s3
  | some (.scr ds) => Q (.lst (cutL ds lo hi)) ρ3 s3
  | _ => False
theorem SimN.sl {te : TE} {tl th : TO} {we : WE S} {wl wh : WO S} (he : SimE K B te we) (hl : SimO K B tl wl) (hh : SimO K B th wh) : SimN K B (tSl (rSlL K) te tl th) (wSlL we wl wh) := fun c s ρ σ Q Q' R hw q => by
  refine he c s ρ σ _ _ R hw fun h ρ1 s1 v c1 hw R1 e1 o1 => ?_
  refine hl c1 s1 ρ1 σ _ _ R1 hw fun lo ρ2 s2 c2 hw R2 e2 => ?_
  refine hh c2 s2 ρ2 σ _ _ R2 hw fun hi ρ3 s3 c3 hw R3 e3 => ?_
  have e13 := (e1.trans e2).trans e3
  have fin : ∀ (a : Addr) (vs : List V) (ds : List D), RpAll K (Fz B c3) vs ds → Q (.lst (cutL ds lo hi)) ρ3 s3 → ∀ p, c3.H p = none → Q' (.ref p) (upd c3.H p (.lst (cutV vs lo hi))) := fun a vs ds r hq p hp => by
    obtain ⟨R4, sb⟩ := R3.newT' (o := .lst (cutV vs lo hi)) hp (fun _ z => nomatch z)
    have n1 := R3.newT hp
    exact q _ _ _ p (.lst (cutV vs lo hi)) ⟨upd c3.H p (.lst (cutV vs lo hi)), fun b => c3.O b ∨ b = p, c3.W, fun b => if b = p then some (.lst (cutV vs lo hi)) else c3.T b⟩ hq R4 ⟨e13.sub.trans sb, by rw [← e13.tmp], by rw [← e13.tmp]; exact n1⟩ ⟨_, rfl, (r.cut lo hi).mono sb⟩
  split at hw
  · rename_i ds hd
    obtain ⟨a, vs, rfl, h, r⟩ := (hd_rv R3 (o1.ev (e2.trans e3).sub) hd).lst R3
    exact ⟨a, vs, rfl, .inl h, fin a vs ds r hw⟩
  · rename_i ds hd
    obtain ⟨a, vs, rfl, h, r⟩ := (hd_rv R3 (o1.ev (e2.trans e3).sub) hd).scr R3
    exact ⟨a, vs, rfl, h, fin a vs ds r hw⟩
  · exact hw.elim
theorem sn_slice {X : Cx} {B : Bs S} {e : Expr} {lo hi : Option Expr} {te : TE} {tl th : TO} {we : WE S} {wl wh : WO S} {p2 pos : Pos} (he : SE X B e te we) (hl : SO X B lo tl wl) (hh : SO X B hi th wh) (hK : X.K = B.K := by rfl)  : SN X B (.Subscript e (.Slice lo hi none p2) pos) (tSl (rSlL B.K) te tl th) (wSlL we wl wh) := ⟨hK ▸ (pe_slice sl_list he.pe hl.po hh.po), SimN.sl he.sim hl.sim hh.sim⟩
def rSlS : V → Option Int → Option Int → Hp → VK → Prop := fun x lo hi H Q => ∃ z : Str, x = .str z ∧ z.length ≤ sizeLine ∧ Q (.str (cutS z lo hi)) H
def orS (r r' : V → Option Int → Option Int → Hp → VK → Prop) : V → Option Int → Option Int → Hp → VK → Prop := fun x lo hi H Q => r x lo hi H Q ∨ r' x lo hi H Q
/-- of a list, a tuple -/
def wSl (we : WE S) (wl wh : WO S) (ρ : Env) (s : S) (Q : Hd → Env → S → Prop) : Prop := we ρ s fun h ρ1 s1 => wl ρ1 s1 fun lo ρ2 s2 => wh ρ2 s2 fun hi ρ3 s3 => match res ρ3 h with
  | some (.lst ds) => Q (.val (.lst (cutL ds lo hi))) ρ3 s3
  | some (.scr ds) => Q (.val (.lst (cutL ds lo hi))) ρ3 s3
  | some (.tup ds) => Q (.val (.tup (cutL ds lo hi))) ρ3 s3
  | _ => False
theorem cut_all {vs : List V} {lo hi : Option Int} (h : HT.sIx vs.length 0 lo = 0 ∧ HT.sIx vs.length vs.length hi = vs.length) : ∀ {α : Type} (ds : List α), ds.length = vs.length → cutL ds lo hi = ds := fun ds e => by
  unfold cutL
  rw [e, h.1, h.2, List.drop_zero, Nat.sub_zero, ← e, List.take_length]
theorem SimE.sl {te : TE} {tl th : TO} {we : WE S} {wl wh : WO S} (he : SimE K B te we) (hl : SimO K B tl wl) (hh : SimO K B th wh) : SimE K B (tSl (orS (rSlL K) (rSlA K)) te tl th) (wSl we wl wh) := fun c s ρ σ Q Q' R hw q => by
  refine he c s ρ σ _ _ R hw fun h ρ1 s1 v c1 hw R1 e1 o1 => ?_
  refine hl c1 s1 ρ1 σ _ _ R1 hw fun lo ρ2 s2 c2 hw R2 e2 => ?_
  refine hh c2 s2 ρ2 σ _ _ R2 hw fun hi ρ3 s3 c3 hw R3 e3 => ?_
  have e13 := (e1.trans e2).trans e3
  have fin : ∀ (a : Addr) (vs : List V) (ds : List D), RpAll K (Fz B c3) vs ds → Q (.val (.lst (cutL ds lo hi))) ρ3 s3 → ∀ p, c3.H p = none → Q' (.ref p) (upd c3.H p (.lst (cutV vs lo hi))) := fun a vs ds r hq p hp => by
    obtain ⟨R4, e4, f⟩ := R3.new (o := .lst (cutV vs lo hi)) hp
    exact q _ _ _ _ { c3 with H := upd c3.H p (.lst (cutV vs lo hi)) } hq R4 (e13.trans e4) (.lst (.inl f) ((r.cut lo hi).mono e4.sub))
  split at hw
  · rename_i ds hd
    obtain ⟨a, vs, rfl, h, r⟩ := (hd_rv R3 (o1.ev (e2.trans e3).sub) hd).lst R3
    exact .inl ⟨a, vs, rfl, .inl h, fin a vs ds r hw⟩
  · rename_i ds hd
    obtain ⟨a, vs, rfl, h, r⟩ := (hd_rv R3 (o1.ev (e2.trans e3).sub) hd).scr R3
    exact .inl ⟨a, vs, rfl, h, fin a vs ds r hw⟩
  · rename_i ds hd
    have rv := hd_rv R3 (o1.ev (e2.trans e3).sub) hd
    obtain ⟨a, vs, e0, h, r⟩ := rv.tup R3
    subst e0
    refine .inr ⟨a, vs, rfl, h, fun hw' => ?_, fun _ p hp => ?_⟩
    · rw [cut_all hw' ds r.length.symm] at hw
      rcases rv with rv | ⟨_, _, _, z⟩
      · exact q _ _ _ _ c3 hw R3 e13 rv
      · exact z.elim
    · obtain ⟨R4, e4, f⟩ := R3.new (o := .tup (cutV vs lo hi)) hp
      exact q _ _ _ _ { c3 with H := upd c3.H p (.tup (cutV vs lo hi)) } hw R4 (e13.trans e4) (.tup (.inl f) ((r.cut lo hi).mono e4.sub))
  · exact hw.elim
theorem se_slice {X : Cx} {B : Bs S} {e : Expr} {lo hi : Option Expr} {te : TE} {tl th : TO} {we : WE S} {wl wh : WO S} {p2 pos : Pos} (he : SE X B e te we) (hl : SO X B lo tl wl) (hh : SO X B hi th wh) (hK : X.K = B.K := by rfl)  : SE X B (.Subscript e (.Slice lo hi none p2) pos) (tSl (orS (rSlL B.K) (rSlA B.K)) te tl th) (wSl we wl wh) := ⟨hK ▸ (pe_slice (sl_list.or sl_tupA) he.pe hl.po hh.po), SimE.sl he.sim hl.sim hh.sim⟩
end

/-! ### short rules -/
def dAdd : D → D → Option D := orD (dIi (· + ·)) (orD dCatT (orD dCatS dCatL))
def rAddA (K : PySem.W.Frag) : R2 := orR (rI0 fun i j => .int (i + j)) (orR (rCatA K) (orR rCatS rCatL))
theorem rule_add {K : PySem.W.Frag} {B : Bs S} : RuleB K B (rAddA K) dAdd := RuleB.or (rule_Ii (f := (· + ·))) (RuleB.or rule_catT (RuleB.or rule_catS rule_catL.still))
theorem op_catS {X : Cx} : OpR X (binaryOp .Add) rCatS := by
  intro pins s σ H x y v u Q I rx ry h
  obtain ⟨i, j, rfl, rfl, hz, q⟩ := h
  obtain ⟨t, rfl⟩ := rx
  obtain ⟨t', rfl⟩ := ry
  exact op_add_str pins s σ H (.str i) (.str j) _ _ Q I ⟨t, rfl⟩ ⟨t', rfl⟩ ⟨i, j, rfl, rfl, hz, q⟩
theorem op_addA {X : Cx} : OpR X (binaryOp .Add) (rAddA X.K) := OpR.or' op_add (OpR.or' op_catA (OpR.or' op_catS op_catL))
def dMul : D → D → Option D := orD dMulI dRepL
theorem rule_mul {K : PySem.W.Frag} {B : Bs S} : RuleB K B (orR (rI CMul fun i j => .int (i * j)) rRepL) dMul := RuleB.or rule_mulI rule_repL.still
section
variable {X : Cx} {B : Bs S} {a b e : Expr} {es : List Expr} {ta tb te : TE} {wa wb we : WE S} {t : TA} {w : WA S} {x : Str} {p pos : Pos}
theorem se_bin {op : Operator} {r : R2} {f : D → D → Option D} (ho : OpR X (binaryOp op) r) (hr : RuleB B.K B r f) (ha : SE X B a ta wa) (hb : SE X B b tb wb) : SE X B (.BinOp a op b pos) (tOp r ta tb) (wBin f wa wb) := ⟨pe_op ho ha.pe hb.pe, SimE.bin hr ha.sim hb.sim⟩
theorem sn_bin {op : Operator} {r : R2} {f : D → D → Option D} (ho : OpR X (binaryOp op) r) (hr : RuleBN B.K B r f) (ha : SE X B a ta wa) (hb : SE X B b tb wb) : SN X B (.BinOp a op b pos) (tOp r ta tb) (wBinN f wa wb) := ⟨pe_op ho ha.pe hb.pe, SimN.bin hr ha.sim hb.sim⟩
theorem se_add (ha : SE X B a ta wa) (hb : SE X B b tb wb) (hK : X.K = B.K := by rfl)  : SE X B (.BinOp a .Add b pos) (tOp (rAddA B.K) ta tb) (wBin dAdd wa wb) := se_bin (hK ▸ op_addA) rule_add ha hb
theorem sn_add (ha : SE X B a ta wa) (hb : SE X B b tb wb) : SN X B (.BinOp a .Add b pos) (tOp rCatL ta tb) (wBinN dCatL wa wb) := sn_bin op_catL rule_catL ha hb
theorem se_sub (ha : SE X B a ta wa) (hb : SE X B b tb wb) : SE X B (.BinOp a .Sub b pos) (tOp (rI0 fun i j => .int (i - j)) ta tb) (wBin (dIi (· - ·)) wa wb) := se_bin op_sub rule_Ii ha hb
theorem se_mul (ha : SE X B a ta wa) (hb : SE X B b tb wb) : SE X B (.BinOp a .Mult b pos) (tOp (orR (rI CMul fun i j => .int (i * j)) rRepL) ta tb) (wBin dMul wa wb) := se_bin (OpR.or' op_mul op_repL) rule_mul ha hb
theorem sn_mul (ha : SE X B a ta wa) (hb : SE X B b tb wb) : SN X B (.BinOp a .Mult b pos) (tOp rRepL ta tb) (wBinN dRepL wa wb) := sn_bin op_repL rule_repL ha hb
theorem se_fdiv (ha : SE X B a ta wa) (hb : SE X B b tb wb) : SE X B (.BinOp a .FloorDiv b pos) (tOp (rI CDivW fun i j => .int (i / j)) ta tb) (wBin dDivI wa wb) := se_bin op_fdivW rule_divI ha hb
theorem se_mod (ha : SE X B a ta wa) (hb : SE X B b tb wb) : SE X B (.BinOp a .Mod b pos) (tOp (rI (fun _ j => 0 < j) fun i j => .int (i % j)) ta tb) (wBin dModI wa wb) := se_bin op_mod rule_modI ha hb
theorem se_pow (ha : SE X B a ta wa) (hb : SE X B b tb wb) : SE X B (.BinOp a .Pow b pos) (tOp (rI CPow fun i j => .int (i ^ j.toNat)) ta tb) (wBin dPowI wa wb) := se_bin op_pow rule_powI ha hb
theorem se_neg (ha : SE X B a ta wa) : SE X B (.UnaryOp .USub a pos) (tUn (rU fun i => .int (-i)) ta) (wUn dNeg wa) := ⟨pe_un un_neg ha.pe, SimE.un rule_neg ha.sim⟩
theorem se_cmp {op : CmpOp} {r : R2} {f : D → D → Option D} (ho : OpR X (compareOp op) r) (hr : RuleB B.K B r f) (h1 : behindInMarks op b = false) (ha : SE X B a ta wa) (hb : SE X B b tb wb) : SE X B (.Compare a [op] [b] pos) (tOp r ta tb) (wBin f wa wb) := ⟨pe_cmpR ho ha.pe hb.pe h1, SimE.bin hr ha.sim hb.sim⟩
theorem se_eq (hu : X.A.units + 64 < cLine) (ha : SE X B a ta wa) (hb : SE X B b tb wb) (hK : X.K = B.K := by rfl)  : SE X B (.Compare a [.Eq] [b] pos) (tOp (rEqD B.K) ta tb) (wBin dEq wa wb) := se_cmp (hK ▸ (op_eqD hu)) rule_eq (nobehind _ (by decide) (by decide)) ha hb
theorem se_ne (hu : X.A.units + 64 < cLine) (ha : SE X B a ta wa) (hb : SE X B b tb wb) (hK : X.K = B.K := by rfl)  : SE X B (.Compare a [.NotEq] [b] pos) (tOp (rNeD B.K) ta tb) (wBin dNe wa wb) := se_cmp (hK ▸ (op_neD hu)) rule_ne (nobehind _ (by decide) (by decide)) ha hb
theorem se_lt (ha : SE X B a ta wa) (hb : SE X B b tb wb) : SE X B (.Compare a [.Lt] [b] pos) (tOp (rI0 fun i j => .bl (decide (i < j))) ta tb) (wBin (dIb fun i j => decide (i < j)) wa wb) := se_cmp op_lt rule_Ib (nobehind _ (by decide) (by decide)) ha hb
theorem se_le (ha : SE X B a ta wa) (hb : SE X B b tb wb) : SE X B (.Compare a [.LtE] [b] pos) (tOp (rI0 fun i j => .bl (decide (i ≤ j))) ta tb) (wBin (dIb fun i j => decide (i ≤ j)) wa wb) := se_cmp op_le rule_Ib (nobehind _ (by decide) (by decide)) ha hb
theorem se_gt (ha : SE X B a ta wa) (hb : SE X B b tb wb) : SE X B (.Compare a [.Gt] [b] pos) (tOp (rI0 fun i j => .bl (decide (j < i))) ta tb) (wBin (dIb fun i j => decide (j < i)) wa wb) := se_cmp op_gt rule_Ib (nobehind _ (by decide) (by decide)) ha hb
theorem se_ge (ha : SE X B a ta wa) (hb : SE X B b tb wb) : SE X B (.Compare a [.GtE] [b] pos) (tOp (rI0 fun i j => .bl (decide (j ≤ i))) ta tb) (wBin (dIb fun i j => decide (j ≤ i)) wa wb) := se_cmp op_ge rule_Ib (nobehind _ (by decide) (by decide)) ha hb
theorem se_isN (ha : SE X B a ta wa) (hb : SE X B b tb wb) : SE X B (.Compare a [.Is] [b] pos) (tOp (fun x y H Q => y = .non ∧ Q (.bl (decide (x = .non))) H) ta tb) (wBin dIsN wa wb) := se_cmp op_isN rule_isN (nobehind _ (by decide) (by decide)) ha hb
theorem se_notN (ha : SE X B a ta wa) (hb : SE X B b tb wb) : SE X B (.Compare a [.IsNot] [b] pos) (tOp (fun x y H Q => y = .non ∧ Q (.bl (!decide (x = .non))) H) ta tb) (wBin dNotN wa wb) := se_cmp op_notN rule_notN (nobehind _ (by decide) (by decide)) ha hb
theorem se_isB (ha : SE X B a ta wa) (hb : SE X B b tb wb) : SE X B (.Compare a [.Is] [b] pos) (tOp (fun x y H Q => ∃ a b, x = .bl a ∧ y = .bl b ∧ Q (.bl (decide (a = b))) H) ta tb) (wBin dIsB wa wb) := se_cmp op_is_bl rule_isB (nobehind _ (by decide) (by decide)) ha hb
theorem se_isNotB (ha : SE X B a ta wa) (hb : SE X B b tb wb) : SE X B (.Compare a [.IsNot] [b] pos) (tOp (fun x y H Q => ∃ a b, x = .bl a ∧ y = .bl b ∧ Q (.bl (!decide (a = b))) H) ta tb) (wBin dIsNotB wa wb) := se_cmp op_isnot_bl rule_isNotB (nobehind _ (by decide) (by decide)) ha hb
theorem se_in (h1 : behindInMarks .In b = false) (ha : SE X B a ta wa) (hb : SE X B b tb wb) (hK : X.K = B.K := by rfl)  : SE X B (.Compare a [.In] [b] pos) (tOp (rIn B.K false) ta tb) (wBin (dIn false) wa wb) := se_cmp (hK ▸ op_in_seq) rule_in h1 ha hb
theorem se_notIn (h1 : behindInMarks .NotIn b = false) (ha : SE X B a ta wa) (hb : SE X B b tb wb) (hK : X.K = B.K := by rfl)  : SE X B (.Compare a [.NotIn] [b] pos) (tOp (rIn B.K true) ta tb) (wBin (dIn true) wa wb) := se_cmp (hK ▸ op_notIn_seq) rule_in h1 ha hb
theorem se_ix (ha : SE X B a ta wa) (hb : SE X B b tb wb) (hs : PlainIx b := by exact fun _ _ => rfl) (hK : X.K = B.K := by rfl)  : SE X B (.Subscript a b pos) (tOp (rIx B.K) ta tb) (wBin dIx wa wb) := ⟨hK ▸ (pe_ix ix_seq ha.pe hb.pe hs), SimE.bin rule_ix ha.sim hb.sim⟩
theorem se_ixA (ha : SE X B a ta wa) (hb : SE X B b tb wb) (hs : PlainIx b := by exact fun _ _ => rfl) (hK : X.K = B.K := by rfl)  : SE X B (.Subscript a b pos) (tOp (rIx B.K) ta tb) (wBin dIxA wa wb) := ⟨hK ▸ (pe_ix ix_seq ha.pe hb.pe hs), SimE.bin rule_ixA ha.sim hb.sim⟩
theorem se_bltn {n : String} {q : Pos} (hm : X.mg x = none) (hv : bootBuiltins x = some (.type n)) (hn : x ≠ "__name__" := by decide) (hg : Gl X x := by rfl) (hd : (x == ("__debug__" : Str)) = false := by decide) : SE X B (.Name x q) (tC (.ty n)) (wC (.ty n)) := ⟨pe_bltn hg hm hv rfl hn hd, sim_c fun _ => .ty n⟩
theorem se_callB {id : String} {r : List V → Hp → VK → Prop} {f : List D → Option D} (hc : CallR X (.builtin id) r) (hr : RuleC B.K B r f) (hv : bootBuiltins x = some (.builtin id)) (hn : x ≠ "__name__") (hdb : (x == ("__debug__" : Str)) = false) (hm : X.mg x = none) (ha : SA X B (e :: es) t w) (hg : Gl X x)
    (he : starEach (e :: es) X.env = (false, eval e X.env) :: starEach es X.env) (hpl : (backTo pos (starEach es X.env)).any (·.1) = false) : SE X B (.Call (.Name x p) (e :: es) [] pos) (tCB r t) (wCallB f w) := ⟨pe_callB hc hg hm hv ha.pa hn hdb he hpl, SimE.callB hr ha.sim⟩
theorem se_callT {T : String} {r : List V → Hp → VK → Prop} {f : List D → Option D} (hc : CallR X (.type T) r) (hr : RuleC B.K B r f) (hv : bootBuiltins x = some (.type T)) (hn : x ≠ "__name__") (hdb : (x == ("__debug__" : Str)) = false) (hm : X.mg x = none) (ha : SA X B (e :: es) t w) (hg : Gl X x)
    (he : starEach (e :: es) X.env = (false, eval e X.env) :: starEach es X.env) (hpl : (backTo pos (starEach es X.env)).any (·.1) = false) : SE X B (.Call (.Name x p) (e :: es) [] pos) (tCB r t) (wCallB f w) := ⟨pe_callTy hc hg hm hv ha.pa hn hdb he hpl, SimE.callB hr ha.sim⟩
theorem sn_callT {T : String} {r : List V → Hp → VK → Prop} {f : List D → Option D} (hc : CallR X (.type T) r) (hr : RuleCN B.K B r f) (hv : bootBuiltins x = some (.type T)) (hn : x ≠ "__name__") (hdb : (x == ("__debug__" : Str)) = false) (hm : X.mg x = none) (ha : SA X B (e :: es) t w) (hg : Gl X x)
    (he : starEach (e :: es) X.env = (false, eval e X.env) :: starEach es X.env) (hpl : (backTo pos (starEach es X.env)).any (·.1) = false) : SN X B (.Call (.Name x p) (e :: es) [] pos) (tCB r t) (wCallN f w) := ⟨pe_callTy hc hg hm hv ha.pa hn hdb he hpl, SimN.callB hr ha.sim⟩
def dLenA : List D → Option D := orF dLen dLenS
theorem se_len (hm : X.mg "len" = none) (ha : SA X B (e :: es) t w) (hg : Gl X "len" := by rfl) (he : starEach (e :: es) X.env = (false, eval e X.env) :: starEach es X.env := by rfl) (hpl : (backTo pos (starEach es X.env)).any (·.1) = false := by rfl) (hK : X.K = B.K := by rfl)  : SE X B (.Call (.Name "len" p) (e :: es) [] pos) (tCB (orC (fun xs H Q => ∃ p ys, xs = [.ref p] ∧ (SqL B.K H p ys ∨ SqT B.K H p ys) ∧ Q (.int ys.length) H) (fun xs H Q => ∃ z, xs = [.str z] ∧ z.length ≤ sizeLine ∧ Q (.int z.length) H)) t) (wCallB dLenA w) := se_callB (hK ▸ (CallR.or' call_len_seq call_len_str)) (RuleC.or rule_len rule_lenS) PySem.boot_len (by decide) (by decide) hm ha hg he hpl
theorem se_abs (hm : X.mg "abs" = none) (ha : SA X B (e :: es) t w) (hg : Gl X "abs" := by rfl) (he : starEach (e :: es) X.env = (false, eval e X.env) :: starEach es X.env := by rfl) (hpl : (backTo pos (starEach es X.env)).any (·.1) = false := by rfl) : SE X B (.Call (.Name "abs" p) (e :: es) [] pos) (tCB (fun xs H Q => ∃ i, xs = [.int i] ∧ Q (.int (if i < 0 then -i else i)) H) t) (wCallB dAbs w) := se_callB call_abs rule_abs (by decide +kernel) (by decide) (by decide) hm ha hg he hpl
theorem se_max2 (hm : X.mg "max" = none) (hc : X.calm = true) (ha : SA X B (e :: es) t w) (hg : Gl X "max" := by rfl) (he : starEach (e :: es) X.env = (false, eval e X.env) :: starEach es X.env := by rfl) (hpl : (backTo pos (starEach es X.env)).any (·.1) = false := by rfl) : SE X B (.Call (.Name "max" p) (e :: es) [] pos) (tCB (fun xs H Q => ∃ i j, xs = [.int i, .int j] ∧ Q (.int (if j > i then j else i)) H) t) (wCallB dMax2 w) := se_callB (call_max2 hc) rule_max2 (by decide +kernel) (by decide) (by decide) hm ha hg he hpl
theorem se_min2 (hm : X.mg "min" = none) (hc : X.calm = true) (ha : SA X B (e :: es) t w) (hg : Gl X "min" := by rfl) (he : starEach (e :: es) X.env = (false, eval e X.env) :: starEach es X.env := by rfl) (hpl : (backTo pos (starEach es X.env)).any (·.1) = false := by rfl) : SE X B (.Call (.Name "min" p) (e :: es) [] pos) (tCB (fun xs H Q => ∃ i j, xs = [.int i, .int j] ∧ Q (.int (if j < i then j else i)) H) t) (wCallB dMin2 w) := se_callB (call_min2 hc) rule_min2 (by decide +kernel) (by decide) (by decide) hm ha hg he hpl
theorem se_sum (hm : X.mg "sum" = none) (hc : X.calm = true) (ha : SA X B (e :: es) t w) (hg : Gl X "sum" := by rfl) (he : starEach (e :: es) X.env = (false, eval e X.env) :: starEach es X.env := by rfl) (hpl : (backTo pos (starEach es X.env)).any (·.1) = false := by rfl) (hK : X.K = B.K := by rfl)  : SE X B (.Call (.Name "sum" p) (e :: es) [] pos) (tCB (orC (rSum B.K) (rSumT B.K)) t) (wCallB dSum w) := se_callB (hK ▸ (CallR.or' (cr_sum hc) (cr_sumT hc))) rule_sum (by decide +kernel) (by decide) (by decide) hm ha hg he hpl
theorem se_isi (hm : X.mg "isinstance" = none) (ha : SA X B (e :: es) t w) (hg : Gl X "isinstance" := by rfl) (he : starEach (e :: es) X.env = (false, eval e X.env) :: starEach es X.env := by rfl) (hpl : (backTo pos (starEach es X.env)).any (·.1) = false := by rfl) (hK : X.K = B.K := by rfl)  : SE X B (.Call (.Name "isinstance" p) (e :: es) [] pos) (tCB (rIsi B.K) t) (wCallB dIsi w) := se_callB (hK ▸ call_isi) rule_isi (by decide +kernel) (by decide) (by decide) hm ha hg he hpl
theorem se_isiT (hm : X.mg "isinstance" = none) (ha : SA X B (e :: es) t w) (hg : Gl X "isinstance" := by rfl) (he : starEach (e :: es) X.env = (false, eval e X.env) :: starEach es X.env := by rfl) (hpl : (backTo pos (starEach es X.env)).any (·.1) = false := by rfl) (hK : X.K = B.K := by rfl)  : SE X B (.Call (.Name "isinstance" p) (e :: es) [] pos) (tCB (orC (rIsiT B.K) (rIsiK B.K)) t) (wCallB dIsiT w) := se_callB (hK ▸ (CallR.or' call_isiT call_isiK)) rule_isiT (by decide +kernel) (by decide) (by decide) hm ha hg he hpl
theorem se_intc (hm : X.mg "int" = none) (ha : SA X B (e :: es) t w) (hg : Gl X "int" := by rfl) (he : starEach (e :: es) X.env = (false, eval e X.env) :: starEach es X.env := by rfl) (hpl : (backTo pos (starEach es X.env)).any (·.1) = false := by rfl) : SE X B (.Call (.Name "int" p) (e :: es) [] pos) (tCB (fun xs H Q => (∃ i, xs = [.int i] ∧ Q (.int i) H) ∨ ∃ k, xs = [.bl k] ∧ Q (.int (if k then 1 else 0)) H) t) (wCallB dInt w) := se_callT call_int1 rule_int (by decide +kernel) (by decide) (by decide) hm ha hg he hpl
theorem se_tuplec (hm : X.mg "tuple" = none) (ha : SA X B (e :: es) t w) (hg : Gl X "tuple" := by rfl) (he : starEach (e :: es) X.env = (false, eval e X.env) :: starEach es X.env := by rfl) (hpl : (backTo pos (starEach es X.env)).any (·.1) = false := by rfl) (hK : X.K = B.K := by rfl)  : SE X B (.Call (.Name "tuple" p) (e :: es) [] pos) (tCB (fun xs H Q => ∃ p ys, xs = [.ref p] ∧ ((SqL B.K H p ys ∧ ∀ l, H l = none → Q (.ref l) (upd H l (.tup ys))) ∨ (SqT B.K H p ys ∧ Q (.ref p) H))) t) (wCallB dTuple w) := se_callT (hK ▸ call_tuple_of) rule_tuple (by decide +kernel) (by decide) (by decide) hm ha hg he hpl
theorem sn_listc (hm : X.mg "list" = none) (ha : SA X B (e :: es) t w) (hg : Gl X "list" := by rfl) (he : starEach (e :: es) X.env = (false, eval e X.env) :: starEach es X.env := by rfl) (hpl : (backTo pos (starEach es X.env)).any (·.1) = false := by rfl) (hK : X.K = B.K := by rfl)  : SN X B (.Call (.Name "list" p) (e :: es) [] pos) (tCB (fun xs H Q => ∃ p ys, xs = [.ref p] ∧ (SqL B.K H p ys ∨ SqT B.K H p ys) ∧ ∀ l, H l = none → Q (.ref l) (upd H l (.lst ys))) t) (wCallN dList w) := sn_callT (hK ▸ call_list_of) rule_list (by decide +kernel) (by decide) (by decide) hm ha hg he hpl
end
/-! methods of a list of one's own -/
section
variable {X : Cx} {B : Bs S} {o e : Expr} {es : List Expr} {t : TA} {w : WA S} {apos cpos : Pos}
theorem se_app (i : Nat) (ho : SE X B o (tVar i) (wVar i)) (ha : SA X B (e :: es) t w) (hbase : attributeBase o "append" X.env (eval o X.env) = eval o X.env := by rfl)
    (hfew : ((backTo cpos (starEach (e :: es) X.env)).all (fun x => !x.1) && (backToKw cpos (keywordEach [] X.env)).all (fun x => x.1.isSome)
      && decide ((e :: es).length + ([] : List Keyword).length + (if ([] : List Keyword).isEmpty then 0 else 1) < 30)) = true := by rfl)
    (hline : (apos.endLine == cpos.line) = true := by rfl) (hs : starEach (e :: es) X.env = (false, eval e X.env) :: starEach es X.env := by rfl) (hplain : (backTo cpos (starEach es X.env)).any (·.1) = false := by rfl) (hK : X.K = B.K := by rfl)  :
    SE X B (.Call (.Attribute o "append" apos) (e :: es) [] cpos) (tBM B.K "list" rAppend (tVar i) t) (wMutK i fApp w) := ⟨hK ▸ (pe_bm PySem.F.plainAttrs_list PySem.F.slot_list_append PySem.F.type_list_append mt_append ho.pe ha.pa hbase hfew hline hs hplain), SimE.mutK rule_app ha.sim⟩
theorem se_pop (i : Nat) (ho : SE X B o (tVar i) (wVar i)) (hbase : attributeBase o "pop" X.env (eval o X.env) = eval o X.env := by rfl) (hline : (apos.endLine == cpos.line) = true := by rfl) (hK : X.K = B.K := by rfl)  :
    SE X B (.Call (.Attribute o "pop" apos) [] [] cpos) (tBM0 B.K "list" rPop (tVar i)) (wMut i fPop wNil) := ⟨hK ▸ (pe_bm0 PySem.F.plainAttrs_list PySem.F.slot_list_pop PySem.F.type_list_pop mt_pop ho.pe hbase hline), SimE.mut0 rule_pop⟩
theorem se_popAt (i : Nat) (ho : SE X B o (tVar i) (wVar i)) (ha : SA X B (e :: es) t w) (hbase : attributeBase o "pop" X.env (eval o X.env) = eval o X.env := by rfl)
    (hfew : ((backTo cpos (starEach (e :: es) X.env)).all (fun x => !x.1) && (backToKw cpos (keywordEach [] X.env)).all (fun x => x.1.isSome)
      && decide ((e :: es).length + ([] : List Keyword).length + (if ([] : List Keyword).isEmpty then 0 else 1) < 30)) = true := by rfl)
    (hline : (apos.endLine == cpos.line) = true := by rfl) (hs : starEach (e :: es) X.env = (false, eval e X.env) :: starEach es X.env := by rfl) (hplain : (backTo cpos (starEach es X.env)).any (·.1) = false := by rfl) (hK : X.K = B.K := by rfl)  :
    SE X B (.Call (.Attribute o "pop" apos) (e :: es) [] cpos) (tBM B.K "list" rPopAt (tVar i) t) (wMut i fPopAt w) := ⟨hK ▸ (pe_bm PySem.F.plainAttrs_list PySem.F.slot_list_pop PySem.F.type_list_pop mt_popAt ho.pe ha.pa hbase hfew hline hs hplain), SimE.mut rule_popAt ha.sim⟩
end
end
end Ld

/-! Value layer, part 9: truth, chains, names of the module, a, b = x, y, name = [..]. -/
namespace Ld
open PySem PySem.Spec PyProof.Rows L2
section
variable {S : Type}
def tru : D → Option Bool
  | .non => some false
  | .bl b => some b
  | .int i => some (i != 0)
  | .lst xs => some (!xs.isEmpty)
  | .tup xs => some (!xs.isEmpty)
  | .scr xs => some (!xs.isEmpty)
  | _ => none
def wTruth (we : WE S) (ρ : Env) (s : S) (Q : Bool → Env → S → Prop) : Prop := we ρ s fun h ρ1 s1 => onS (res ρ1 h) fun d => onS (tru d) fun k => Q k ρ1 s1
def tTru (K : PySem.W.Frag) (ta : TE) : TT := fun σ H Q => ta σ H fun x H' => ∃ k, TruV K x H' k ∧ Q k H'
theorem RpAll.emp {K : PySem.W.Frag} {F : Hp} {vs : List V} {ds : List D} (r : RpAll K F vs ds) : vs.isEmpty = ds.isEmpty := by cases r <;> rfl
theorem SimT.truth {K : PySem.W.Frag} {B : Bs S} {te : TE} {we : WE S} (he : SimE K B te we) : SimT K B (tTru K te) (wTruth we) := fun c s ρ σ Q Q' R hw q => by
  refine he c s ρ σ _ _ R hw fun h ρ1 s1 v c1 hw R1 e1 o1 => ?_
  obtain ⟨d, ed, hw⟩ := onS_iff.mp hw
  obtain ⟨k, ek, hw⟩ := onS_iff.mp hw
  have rv := hd_rv R1 o1 ed
  refine ⟨k, ?_, q _ _ _ c1 hw R1 e1⟩
  cases d <;> simp only [tru, Option.some.injEq, reduceCtorEq] at ek <;> subst ek
  · rw [rv.non]; rfl
  · rw [rv.bl]; rfl
  · rw [rv.int]; rfl
  · obtain ⟨a, vs, rfl, h, r⟩ := rv.lst R1
    exact .inl ⟨vs, .inl h, by rw [r.emp]⟩
  · obtain ⟨a, vs, rfl, h, r⟩ := rv.tup R1
    exact .inr (.inl ⟨vs, h, by rw [r.emp]⟩)
  · obtain ⟨a, vs, rfl, h, r⟩ := rv.scr R1
    exact .inl ⟨vs, h, by rw [r.emp]⟩
theorem st_truth {X : Cx} {B : Bs S} {e : Expr} {te : TE} {we : WE S} (h : SE X B e te we) (he : ∀ whole, isTrue e X.env whole = (do let v ← whole; standAt e.pos; holding [v] (truthy v)) := by intro _; rfl) (hK : X.K = B.K := by rfl)  : ST X B e (tTru B.K te) (wTruth we) := ⟨hK ▸ (pt_truth h.pe he), SimT.truth h.sim⟩
/-- a < b < c -/
def wChain (f g : D → D → Option D) (wa wb wc : WE S) (ρ : Env) (s : S) (Q : Hd → Env → S → Prop) : Prop := wa ρ s fun h1 ρ1 s1 => wb ρ1 s1 fun h2 ρ2 s2 => onS (res ρ2 h1) fun x => onS (res ρ2 h2) fun y => onS (f x y) fun z => match z with
  | .bl k => if k = true then wc ρ2 s2 fun h3 ρ3 s3 => onS (res ρ3 h2) fun y => onS (res ρ3 h3) fun u => onS (g y u) fun z => Q (.val z) ρ3 s3 else Q (.val (.bl false)) ρ2 s2
  | _ => False
theorem SimE.chain {K : PySem.W.Frag} {B : Bs S} {ta tb tc : TE} {wa wb wc : WE S} {r r' : R2} {f g : D → D → Option D} (hr : RuleB K B r f) (hr' : RuleB K B r' g) (ha : SimE K B ta wa) (hb : SimE K B tb wb) (hc : SimE K B tc wc) : SimE K B (tChain r r' ta tb tc) (wChain f g wa wb wc) := fun c s ρ σ Q Q' R hw q => by
  refine ha c s ρ σ _ _ R hw fun h1 ρ1 s1 v1 c1 hw R1 e1 o1 => ?_
  refine hb c1 s1 ρ1 σ _ _ R1 hw fun h2 ρ2 s2 v2 c2 hw R2 e2 o2 => ?_
  obtain ⟨x, ex, hw⟩ := onS_iff.mp hw
  obtain ⟨y, ey, hw⟩ := onS_iff.mp hw
  obtain ⟨z, ez, hw⟩ := onS_iff.mp hw
  refine hr c2 s2 ρ2 σ v1 v2 x y z _ R2 (hd_rv R2 (o1.ev e2.sub) ex) (hd_rv R2 o2 ey) ez fun v c3 R3 e3 rz => ?_
  cases z <;> simp only at hw
  rename_i k
  cases rz
  refine ⟨k, rfl, ?_⟩
  cases k with
  | true =>
    refine hc c3 s2 ρ2 σ _ _ R3 hw fun h3 ρ3 s3 v3 c4 hw R4 e4 o3 => ?_
    obtain ⟨y', ey', hw⟩ := onS_iff.mp hw
    obtain ⟨u, eu, hw⟩ := onS_iff.mp hw
    obtain ⟨z, ez, hw⟩ := onS_iff.mp hw
    exact hr' c4 s3 ρ3 σ v2 v3 y' u z _ R4 (hd_rv R4 (o2.ev (e3.trans e4).sub) ey') (hd_rv R4 o3 eu) ez fun v c5 R5 e5 rz => q _ _ _ _ c5 hw R5 ((((e1.trans e2).trans e3).trans e4).trans e5) rz
  | false => exact q _ _ _ _ c3 hw R3 ((e1.trans e2).trans e3) (.bl false)
section
variable {X : Cx} {B : Bs S} {a b c : Expr} {ta tb tc : TE} {wa wb wc : WE S} {pos : Pos}
theorem se_chain {op op' : CmpOp} {r r' : R2} {f g : D → D → Option D} (ho : OpR X (compareOp op) r) (ho' : OpR X (compareOp op') r') (hr : RuleB B.K B r f) (hr' : RuleB B.K B r' g) (ha : SE X B a ta wa) (hb : SE X B b tb wb) (hc : SE X B c tc wc)
    (hm : lastMarks [op, op'] [b, c] = false := by with_unfolding_all rfl) : SE X B (.Compare a [op, op'] [b, c] pos) (tChain r r' ta tb tc) (wChain f g wa wb wc) := ⟨pe_chain ho ho' ha.pe hb.pe hc.pe hm, SimE.chain hr hr' ha.sim hb.sim hc.sim⟩
theorem st_chain {op op' : CmpOp} {r r' : R2} {f g : D → D → Option D} (ho : OpR X (compareOp op) r) (ho' : OpR X (compareOp op') r') (hr : RuleB B.K B r f) (hr' : RuleB B.K B r' g) (ha : SE X B a ta wa) (hb : SE X B b tb wb) (hc : SE X B c tc wc)
    (hm : lastMarks [op, op'] [b, c] = false := by with_unfolding_all rfl) : ST X B (.Compare a [op, op'] [b, c] pos) (tTest (tChain r r' ta tb tc)) (wB (wChain f g wa wb wc)) := ⟨pt_chain ho ho' ha.pe hb.pe hc.pe hm, SimT.val (SimE.chain hr hr' ha.sim hb.sim hc.sim)⟩
end
/-- a comparison as a test -/
theorem st_cmp {X : Cx} {B : Bs S} {a b : Expr} {ta tb : TE} {wa wb : WE S} {pos : Pos} {op : CmpOp} {r : R2} {f : D → D → Option D} (ho : OpR X (compareOp op) r) (hr : RuleB B.K B r f) (h1 : behindInMarks op b = false) (ha : SE X B a ta wa) (hb : SE X B b tb wb) : ST X B (.Compare a [op] [b] pos) (tTest (tOp r ta tb)) (wB (wBin f wa wb)) := ⟨pt_cmpR ho ha.pe hb.pe h1, SimT.val (SimE.bin hr ha.sim hb.sim)⟩
/-- a module's constants -/
theorem se_globI {X : Cx} {B : Bs S} {x : Str} {i : Int} {pos : Pos} (hm : ∃ t, X.mg x = some (.int i t)) (hg : Gl X x := by rfl) (hd : (x == ("__debug__" : Str)) = false := by decide) : SE X B (.Name x pos) (tC (.int i)) (wC (.int i)) := by
  obtain ⟨t, hm⟩ := hm
  exact se_glob hg hm ⟨t, rfl⟩ (fun F => .int i) hd
theorem se_globS {X : Cx} {B : Bs S} {x : Str} {z : Str} {pos : Pos} (hm : ∃ t, X.mg x = some (.str z t)) (hg : Gl X x := by rfl) (hd : (x == ("__debug__" : Str)) = false := by decide) : SE X B (.Name x pos) (tC (.str z)) (wC (.str z)) := by
  obtain ⟨t, hm⟩ := hm
  exact se_glob hg hm ⟨t, rfl⟩ (fun F => .str z) hd
theorem s_par2 {X : Cx} {B : Bs S} (i j : Nat) {x y : Str} {a b : Expr} {ta : TA} {wa : WA S} {px py pt : Pos} {kt k2 pt2} {pos : Pos} (hc : X.calm = true) (hN : X.N.Nodup) (ha : SA X B [a, b] ta wa) (hi : X.N[i]? = some x := by rfl) (hj : X.N[j]? = some y := by rfl) (hij : i ≠ j := by decide)
    (hx : X.env.scope.names.lookup x = some .local := by rfl) (hy : X.env.scope.names.lookup y = some .local := by rfl)
    (hw : swappedStores [.Tuple [.Name x px, .Name y py] kt pt] (.Tuple [a, b] k2 pt2) X.env = pure (some [x, y]) := by rfl)
    (hs : swapsWithSole [.Tuple [.Name x px, .Name y py] kt pt] (.Tuple [a, b] k2 pt2) pos.line X.env = pure false := by rfl) :
    SS X B (.Assign [.Tuple [.Name x px, .Name y py] kt pt] (.Tuple [a, b] k2 pt2) pos) (tPar i j ta) (wPar i j wa) := ⟨ps_par hc hN hi hj hij hx hy ha.pa hw hs, SimS.par i j ha.sim⟩
section
variable {X : Cx} {B : Bs S} {i : Nat} {y : Str} {py : Pos} {elt tg iter : Expr} {ifs : List Expr} {scope : Scope} {own : List (Str × Nat)} {pos spos : Pos} {wi : TI} {g : TG} {tt : TT} {te : TE} {ui : WI S} {ts : List Nat} {ug : WG S} {ut : WT S} {ue : WE S}
theorem s_ownLc (i : Nat) (hc : X.calm = true) (hN : X.N.Nodup)
    (hi : SI X B tg iter wi ui) (ok : BlkOk X.N X.env.scope scope own)
    (hg : ∀ (s : Shared) (H : Hp) (C : Addr) (cl : List (Str × Addr)) (fp : List Addr), SG (X.blk s H scope (compEnvC scope cl C X.env) fp) B tg ts g ug) (ht : ∀ (s : Shared) (H : Hp) (C : Addr) (cl : List (Str × Addr)) (fp : List Addr), STs (X.blk s H scope (compEnvC scope cl C X.env) fp) B ifs tt ut)
    (he : ∀ (s : Shared) (H : Hp) (C : Addr) (cl : List (Str × Addr)) (fp : List Addr), SE (X.blk s H scope (compEnvC scope cl C X.env) fp) B elt te ue) (hts : ∀ x ∈ ts, x ∈ own.map (·.2)) (hy : X.N[i]? = some y := by rfl) (hyl : X.env.scope.names.lookup y = some .local := by rfl)
    (hsw : swapsWith (.ListComp elt [⟨tg, iter, ifs, 0⟩] scope pos) (some (.Name y py)) spos.line X.env = pure true := by exact sw_true rfl rfl rfl (by decide +kernel)) (hs : ∀ x, foldedSetIterable iter X.env x = pure x := by intro _; rfl) :
    SS X B (.Assign [.Name y py] (.ListComp elt [⟨tg, iter, ifs, 0⟩] scope pos) spos) (tAsg (tLc wi g tt te (own.map (·.2))) (gName i)) (wOwn i (wLc (own.map (·.2)) ui ug ut ue)) :=
  ⟨ps_setLc hc hN hy hyl hsw hi.pi ok (fun s H C cl fp => (hg s H C cl fp).pg) (fun s H C cl fp => (ht s H C cl fp).pts) (fun s H C cl fp => (he s H C cl fp).pe) hs,
    SimS.own i (SimN.lc hi.sim (hg {} (fun _ => none) 0 [] []).sim (ht {} (fun _ => none) 0 [] []).sim (he {} (fun _ => none) 0 [] []).sim hts)⟩
theorem s_setLc (i : Nat) (hc : X.calm = true) (hN : X.N.Nodup)
    (hi : SI X B tg iter wi ui) (ok : BlkOk X.N X.env.scope scope own)
    (hg : ∀ (s : Shared) (H : Hp) (C : Addr) (cl : List (Str × Addr)) (fp : List Addr), SG (X.blk s H scope (compEnvC scope cl C X.env) fp) B tg ts g ug) (ht : ∀ (s : Shared) (H : Hp) (C : Addr) (cl : List (Str × Addr)) (fp : List Addr), STs (X.blk s H scope (compEnvC scope cl C X.env) fp) B ifs tt ut)
    (he : ∀ (s : Shared) (H : Hp) (C : Addr) (cl : List (Str × Addr)) (fp : List Addr), SE (X.blk s H scope (compEnvC scope cl C X.env) fp) B elt te ue) (hts : ∀ x ∈ ts, x ∈ own.map (·.2)) (hy : X.N[i]? = some y := by rfl) (hyl : X.env.scope.names.lookup y = some .local := by rfl)
    (hsw : swapsWith (.ListComp elt [⟨tg, iter, ifs, 0⟩] scope pos) (some (.Name y py)) spos.line X.env = pure true := by exact sw_true rfl rfl rfl (by decide +kernel)) (hs : ∀ x, foldedSetIterable iter X.env x = pure x := by intro _; rfl) :
    SS X B (.Assign [.Name y py] (.ListComp elt [⟨tg, iter, ifs, 0⟩] scope pos) spos) (tAsg (tLc wi g tt te (own.map (·.2))) (gName i)) (wSet i (wNew (wLc (own.map (·.2)) ui ug ut ue))) :=
  ⟨ps_setLc hc hN hy hyl hsw hi.pi ok (fun s H C cl fp => (hg s H C cl fp).pg) (fun s H C cl fp => (ht s H C cl fp).pts) (fun s H C cl fp => (he s H C cl fp).pe) hs,
    SimS.set i (SimN.e (SimN.lc hi.sim (hg {} (fun _ => none) 0 [] []).sim (ht {} (fun _ => none) 0 [] []).sim (he {} (fun _ => none) 0 [] []).sim hts))⟩
end
end
end Ld

/-! Value layer, part 10: how meanings on data are reckoned. -/
namespace Ld
open PySem PySem.Spec PyProof.Rows L2
theorem nr {α : Sort u} {a b : α} (h : a = b) : a = b := h
section
variable {S : Type}
theorem onS_ite {α : Type} {c : Prop} [Decidable c] {x : α} {k : α → Prop} : onS (if c then some x else none) k = (c ∧ k x) := by
  by_cases h : c <;> simp [h, onS]
theorem slD_val {d : D} : slD (some (.val d)) = some d := nr rfl
theorem slD_own {d : D} : slD (some (.own d)) = some d := nr rfl
theorem res_val {ρ : Env} {d : D} : res ρ (.val d) = some d := nr rfl
theorem res_slot {ρ : Env} {i : Nat} : res ρ (.slot i) = slD ρ[i]? := nr rfl
theorem resL_nil {ρ : Env} : resL ρ [] = some [] := nr rfl
theorem resL_cons {ρ : Env} {h : Hd} {hs : List Hd} : resL ρ (h :: hs) = (res ρ h).bind fun d => (resL ρ hs).map fun ds => d :: ds := by
  show (match res ρ h, resL ρ hs with | some d, some ds => some (d :: ds) | _, _ => none) = _
  cases res ρ h <;> cases resL ρ hs <;> rfl
theorem valL_nil : valL [] = some [] := nr rfl
theorem valL_cons {d : D} {hs : List Hd} : valL (.val d :: hs) = (valL hs).map fun ds => d :: ds := by
  show (match valL hs with | some ds => some (d :: ds) | none => none) = _
  cases valL hs <;> rfl
theorem useK_val {d : D} {ρ : Env} {k : D → Env → Prop} : useK (.val d) ρ k = k d ρ := nr rfl
def useS (o : Option Sl) (i : Nat) (ρ : Env) (k : D → Env → Prop) (_ : Tag k := ()) : Prop := match o with
  | some (.val d) => k d ρ
  | some (.own d) => k d (ρ.set i (.val d))
  | _ => False
theorem useK_slot {i : Nat} {ρ : Env} {k : D → Env → Prop} : useK (.slot i) ρ k = useS ρ[i]? i ρ k := nr rfl
theorem useS_val {i : Nat} {d : D} {ρ : Env} {k : D → Env → Prop} : useS (some (.val d)) i ρ k = k d ρ := nr rfl
theorem useS_own {i : Nat} {d : D} {ρ : Env} {k : D → Env → Prop} : useS (some (.own d)) i ρ k = k d (ρ.set i (.val d)) := nr rfl
theorem start_eq (n : Nat) (ds : List D) : Ld.start n ds = ds.map Sl.val ++ List.replicate (n - ds.length) .emp := nr rfl
theorem repl_zero {α : Type} {x : α} : List.replicate 0 x = [] := nr rfl
theorem repl_succ {α : Type} {x : α} {n : Nat} : List.replicate (n + 1) x = x :: List.replicate n x := nr rfl
/-! operators on data of a known kind -/
theorem dAdd_int {i j : Int} : dAdd (.int i) (.int j) = some (.int (i + j)) := nr rfl
theorem dAdd_tup {xs ys : List D} : dAdd (.tup xs) (.tup ys) = if xs.length + ys.length ≤ sizeLine then some (.tup (xs ++ ys)) else none := by
  show (match (if xs.length + ys.length ≤ sizeLine then some (D.tup (xs ++ ys)) else none) with | some z => some z | none => none) = _
  split <;> simp_all
theorem dAdd_lst {xs ys : List D} : dAdd (.lst xs) (.lst ys) = if xs.length + ys.length ≤ sizeLine then some (.lst (xs ++ ys)) else none := nr rfl
theorem dCatL_lst {xs ys : List D} : dCatL (.lst xs) (.lst ys) = if xs.length + ys.length ≤ sizeLine then some (.lst (xs ++ ys)) else none := nr rfl
theorem dMul_int {i j : Int} : dMul (.int i) (.int j) = if Sm i ∨ Sm j then some (.int (i * j)) else none := by
  show (match (if Sm i ∨ Sm j then some (D.int (i * j)) else none) with | some z => some z | none => none) = _
  split <;> simp_all
theorem dMul_lst {xs : List D} {k : Int} : dMul (.lst xs) (.int k) = if k < 2 ^ 63 ∧ -(2 ^ 63) ≤ k ∧ xs.length * k.toNat ≤ sizeLine then some (.lst (List.replicate k.toNat xs).flatten) else none := nr rfl
theorem dMulI_int {i j : Int} : dMulI (.int i) (.int j) = if Sm i ∨ Sm j then some (.int (i * j)) else none := nr rfl
theorem dIi_int {f : Int → Int → Int} {i j : Int} : dI (fun i j => some (.int (f i j))) (.int i) (.int j) = some (.int (f i j)) := nr rfl
theorem dIb_int {f : Int → Int → Bool} {i j : Int} : dI (fun i j => some (.bl (f i j))) (.int i) (.int j) = some (.bl (f i j)) := nr rfl
theorem dDivI_int {i j : Int} : dDivI (.int i) (.int j) = if 0 < j ∧ Md j then some (.int (i / j)) else none := nr rfl
theorem dModI_int {i j : Int} : dModI (.int i) (.int j) = if 0 < j then some (.int (i % j)) else none := nr rfl
theorem dPowI_int {i j : Int} : dPowI (.int i) (.int j) = if 0 ≤ j ∧ j ≤ 1000 ∧ Sm i then some (.int (i ^ j.toNat)) else none := nr rfl
theorem dEq_int {i j : Int} : dEq (.int i) (.int j) = some (.bl (decide (i = j))) := nr rfl
theorem dNe_int {i j : Int} : dNe (.int i) (.int j) = some (.bl (!decide (i = j))) := nr rfl
theorem dEq_bl {i j : Bool} : dEq (.bl i) (.bl j) = some (.bl (i == j)) := nr rfl
theorem dNe_bl {i j : Bool} : dNe (.bl i) (.bl j) = some (.bl (!(i == j))) := nr rfl
theorem pls_map {α : Type} {n : Nat} {f : α → D} (h : ∀ x, pl n (f x) = true) : ∀ xs : List α, pls n (xs.map f) = true
  | [] => rfl
  | x :: xs => by simp [pls, h x, pls_map h xs]
theorem pls_all {n : Nat} : ∀ {xs : List D}, (∀ x ∈ xs, pl n x = true) → pls n xs = true
  | [], _ => rfl
  | x :: xs, h => by
    simp only [pls, Bool.and_eq_true]
    exact ⟨h x (by simp), pls_all fun y hy => h y (by simp [hy])⟩
theorem imms_all : ∀ {xs : List D}, (∀ x ∈ xs, imm x = true) → imms xs = true
  | [], _ => rfl
  | x :: xs, h => by
    simp only [imms, Bool.and_eq_true]
    exact ⟨h x (by simp), imms_all fun y hy => h y (by simp [hy])⟩
theorem imms_map {α : Type} {f : α → D} (h : ∀ x, imm (f x) = true) : ∀ xs : List α, imms (xs.map f) = true
  | [] => rfl
  | x :: xs => by simp [imms, h x, imms_map h xs]
theorem imms_append : ∀ {xs ys : List D}, imms (xs ++ ys) = (imms xs && imms ys)
  | [], ys => by simp [imms]
  | x :: xs, ys => by simp [imms, imms_append (xs := xs), Bool.and_assoc]
theorem imm_int {i : Int} : imm (.int i) = true := nr rfl
theorem imm_bl {i : Bool} : imm (.bl i) = true := nr rfl
theorem imm_non : imm .non = true := nr rfl
theorem imm_str {x : Str} : imm (.str x) = true := nr rfl
theorem imm_tup {xs : List D} : imm (.tup xs) = imms xs := nr rfl
theorem imms_nil : imms [] = true := nr rfl
theorem imms_cons {x : D} {xs : List D} : imms (x :: xs) = (imm x && imms xs) := nr rfl
theorem imms_ints (ns : List Int) : imms (ns.map D.int) = true := imms_map (fun _ => rfl) ns
theorem deqs_map {α : Type} [DecidableEq α] {f : α → D} (h : ∀ x y, deq (f x) (f y) = decide (x = y)) : ∀ xs ys : List α, deqs (xs.map f) (ys.map f) = decide (xs = ys)
  | [], [] => by simp [deqs]
  | [], _ :: _ => by simp [deqs]
  | _ :: _, [] => by simp [deqs]
  | x :: xs, y :: ys => by simp [deqs, h x y, deqs_map h xs ys]
theorem deq_int {i j : Int} : deq (.int i) (.int j) = decide (i = j) := nr rfl
theorem dEq_ints {ns ms : List Int} : dEq (.lst (ns.map D.int)) (.lst (ms.map D.int)) = some (.bl (decide (ns = ms))) := by
  unfold dEq
  have h : ∀ xs : List Int, pl 12 (.lst (xs.map D.int)) = true := fun xs => by simp only [pl]; exact pls_map (fun _ => rfl) xs
  simp only [h, Bool.and_self, if_true]
  simp only [deq]
  rw [deqs_map (fun x y => rfl)]
theorem dNe_ints {ns ms : List Int} : dNe (.lst (ns.map D.int)) (.lst (ms.map D.int)) = some (.bl (!decide (ns = ms))) := by
  unfold dNe
  have h : ∀ xs : List Int, pl 12 (.lst (xs.map D.int)) = true := fun xs => by simp only [pl]; exact pls_map (fun _ => rfl) xs
  simp only [h, Bool.and_self, if_true]
  simp only [deq]
  rw [deqs_map (fun x y => rfl)]
theorem dNeg_int {i : Int} : dNeg (.int i) = some (.int (-i)) := nr rfl
theorem dAbs_int {i : Int} : dAbs [.int i] = some (.int (if i < 0 then -i else i)) := nr rfl
theorem dInt_int {i : Int} : dInt [.int i] = some (.int i) := nr rfl
theorem dInt_bl {k : Bool} : dInt [.bl k] = some (.int (if k then 1 else 0)) := nr rfl
theorem dMax2_int {i j : Int} : dMax2 [.int i, .int j] = some (.int (if j > i then j else i)) := nr rfl
theorem dMin2_int {i j : Int} : dMin2 [.int i, .int j] = some (.int (if j < i then j else i)) := nr rfl
theorem dLenA_lst {xs : List D} : dLenA [.lst xs] = some (.int xs.length) := nr rfl
theorem dLenA_tup {xs : List D} : dLenA [.tup xs] = some (.int xs.length) := nr rfl
theorem dLenA_scr {xs : List D} : dLenA [.scr xs] = some (.int xs.length) := nr rfl
theorem dSum_lst {ns : List Int} : dSum [.lst (ns.map D.int)] = some (.int ns.sum) := by simp [dSum, intsD_map]
theorem dSum_tup {ns : List Int} : dSum [.tup (ns.map D.int)] = some (.int ns.sum) := by simp [dSum, intsD_map]
theorem ix_map {α : Type} {xs : List α} {f : α → D} {i : Int} {x0 : α} {k : D → Prop} : onS (if 0 ≤ i ∧ i < (xs.map f).length then some ((xs.map f).getD i.toNat .non) else none) k = ((0 ≤ i ∧ i < xs.length) ∧ k (f (xs.getD i.toNat x0))) := by
  rw [onS_ite, List.length_map]
  by_cases h : 0 ≤ i ∧ i < xs.length
  · have hl : i.toNat < xs.length := by omega
    rw [List.getD_eq_getElem?_getD, List.getD_eq_getElem?_getD, List.getElem?_map, List.getElem?_eq_getElem hl]
    rfl
  · simp [h]
theorem ixL_ints {ns : List Int} {i : Int} {k : D → Prop} : onS (dIx (.lst (ns.map D.int)) (.int i)) k = ((0 ≤ i ∧ i < ns.length) ∧ k (.int (ns.getD i.toNat 0))) := ix_map
theorem ixT_ints {ns : List Int} {i : Int} {k : D → Prop} : onS (dIx (.tup (ns.map D.int)) (.int i)) k = ((0 ≤ i ∧ i < ns.length) ∧ k (.int (ns.getD i.toNat 0))) := ix_map
theorem ixS_ints {ns : List Int} {i : Int} {k : D → Prop} : onS (dIx (.scr (ns.map D.int)) (.int i)) k = ((0 ≤ i ∧ i < ns.length) ∧ k (.int (ns.getD i.toNat 0))) := ix_map
theorem ixLd1 {a i : Int} {k : D → Prop} : onS (dIx (.lst [.int a]) (.int i)) k = ((0 ≤ i ∧ i < 1) ∧ k (.int ([a].getD i.toNat 0))) := ix_map (xs := [a]) (f := D.int)
theorem ixLd2 {a b i : Int} {k : D → Prop} : onS (dIx (.lst [.int a, .int b]) (.int i)) k = ((0 ≤ i ∧ i < 2) ∧ k (.int ([a, b].getD i.toNat 0))) := ix_map (xs := [a, b]) (f := D.int)
theorem ixLd3 {a b c i : Int} {k : D → Prop} : onS (dIx (.lst [.int a, .int b, .int c]) (.int i)) k = ((0 ≤ i ∧ i < 3) ∧ k (.int ([a, b, c].getD i.toNat 0))) := ix_map (xs := [a, b, c]) (f := D.int)
theorem ixLd4 {a b c d i : Int} {k : D → Prop} : onS (dIx (.lst [.int a, .int b, .int c, .int d]) (.int i)) k = ((0 ≤ i ∧ i < 4) ∧ k (.int ([a, b, c, d].getD i.toNat 0))) := ix_map (xs := [a, b, c, d]) (f := D.int)
theorem ixLd5 {a b c d e i : Int} {k : D → Prop} : onS (dIx (.lst [.int a, .int b, .int c, .int d, .int e]) (.int i)) k = ((0 ≤ i ∧ i < 5) ∧ k (.int ([a, b, c, d, e].getD i.toNat 0))) := ix_map (xs := [a, b, c, d, e]) (f := D.int)
theorem ixLd6 {a b c d e f i : Int} {k : D → Prop} : onS (dIx (.lst [.int a, .int b, .int c, .int d, .int e, .int f]) (.int i)) k = ((0 ≤ i ∧ i < 6) ∧ k (.int ([a, b, c, d, e, f].getD i.toNat 0))) := ix_map (xs := [a, b, c, d, e, f]) (f := D.int)
theorem ixLd7 {a b c d e f g i : Int} {k : D → Prop} : onS (dIx (.lst [.int a, .int b, .int c, .int d, .int e, .int f, .int g]) (.int i)) k = ((0 ≤ i ∧ i < 7) ∧ k (.int ([a, b, c, d, e, f, g].getD i.toNat 0))) := ix_map (xs := [a, b, c, d, e, f, g]) (f := D.int)
theorem ixTd1 {a i : Int} {k : D → Prop} : onS (dIx (.tup [.int a]) (.int i)) k = ((0 ≤ i ∧ i < 1) ∧ k (.int ([a].getD i.toNat 0))) := ix_map (xs := [a]) (f := D.int)
theorem ixTd2 {a b i : Int} {k : D → Prop} : onS (dIx (.tup [.int a, .int b]) (.int i)) k = ((0 ≤ i ∧ i < 2) ∧ k (.int ([a, b].getD i.toNat 0))) := ix_map (xs := [a, b]) (f := D.int)
theorem ixTd3 {a b c i : Int} {k : D → Prop} : onS (dIx (.tup [.int a, .int b, .int c]) (.int i)) k = ((0 ≤ i ∧ i < 3) ∧ k (.int ([a, b, c].getD i.toNat 0))) := ix_map (xs := [a, b, c]) (f := D.int)
theorem ixTd4 {a b c d i : Int} {k : D → Prop} : onS (dIx (.tup [.int a, .int b, .int c, .int d]) (.int i)) k = ((0 ≤ i ∧ i < 4) ∧ k (.int ([a, b, c, d].getD i.toNat 0))) := ix_map (xs := [a, b, c, d]) (f := D.int)
theorem ixTd5 {a b c d e i : Int} {k : D → Prop} : onS (dIx (.tup [.int a, .int b, .int c, .int d, .int e]) (.int i)) k = ((0 ≤ i ∧ i < 5) ∧ k (.int ([a, b, c, d, e].getD i.toNat 0))) := ix_map (xs := [a, b, c, d, e]) (f := D.int)
theorem ixTd6 {a b c d e f i : Int} {k : D → Prop} : onS (dIx (.tup [.int a, .int b, .int c, .int d, .int e, .int f]) (.int i)) k = ((0 ≤ i ∧ i < 6) ∧ k (.int ([a, b, c, d, e, f].getD i.toNat 0))) := ix_map (xs := [a, b, c, d, e, f]) (f := D.int)
theorem ixTd7 {a b c d e f g i : Int} {k : D → Prop} : onS (dIx (.tup [.int a, .int b, .int c, .int d, .int e, .int f, .int g]) (.int i)) k = ((0 ≤ i ∧ i < 7) ∧ k (.int ([a, b, c, d, e, f, g].getD i.toNat 0))) := ix_map (xs := [a, b, c, d, e, f, g]) (f := D.int)
theorem ixA_last {ns : List Int} {k : D → Prop} : onS (dIxA (.lst (ns.map D.int)) (.int (-1))) k = (ns ≠ [] ∧ k (.int (ns.getLastD 0))) := by
  show onS (atI (ns.map D.int) (-1)) k = _
  unfold atI ixN
  rw [if_neg (by decide), List.length_map]
  cases ns with
  | nil => simp
  | cons n ns =>
    rw [if_pos (by rw [List.length_cons]; omega)]
    simp only [Option.bind_some, List.length_cons]
    have e : ((-1 : Int) + ((ns.length + 1 : Nat) : Int)).toNat = ns.length := by omega
    rw [e, List.getElem?_map, List.getLastD_cons]
    have e2 : (n :: ns)[ns.length]? = some (ns.getLastD n) := by
      have h := List.getLast?_eq_getElem? (l := n :: ns)
      rw [List.length_cons, Nat.add_sub_cancel] at h
      rw [← h, List.getLast?_cons, List.getLastD_eq_getLast?]
    rw [e2]
    simp
theorem dList_lst {xs : List D} : dList [.lst xs] = some (.lst xs) := nr rfl
theorem dList_tup {xs : List D} : dList [.tup xs] = some (.lst xs) := nr rfl
theorem dList_scr {xs : List D} : dList [.scr xs] = some (.lst xs) := nr rfl
theorem dTuple_lst {xs : List D} : dTuple [.lst xs] = some (.tup xs) := nr rfl
theorem dTuple_tup {xs : List D} : dTuple [.tup xs] = some (.tup xs) := nr rfl
theorem fApp_one {ds : List D} {x : D} : fApp ds [x] = if ds.length < sizeLine then some (.non, ds ++ [x]) else none := nr rfl
theorem seqD_lst {xs : List D} : seqD (.lst xs) = some xs := nr rfl
theorem seqD_tup {xs : List D} : seqD (.tup xs) = some xs := nr rfl
theorem seqD_scr {xs : List D} : seqD (.scr xs) = some xs := nr rfl
theorem tru_bl {b : Bool} : tru (.bl b) = some b := nr rfl
theorem tru_int {i : Int} : tru (.int i) = some (i != 0) := nr rfl
theorem dIsi_int_int {i : Int} : dIsi [.int i, .ty "int"] = some (.bl true) := nr rfl
theorem dIsi_int_bool {i : Int} : dIsi [.int i, .ty "bool"] = some (.bl false) := by simp [dIsi, tyn, isTab]
theorem dIsi_int_tuple {i : Int} : dIsi [.int i, .ty "tuple"] = some (.bl false) := by simp [dIsi, tyn, isTab]
theorem dIsi_int_str {i : Int} : dIsi [.int i, .ty "str"] = some (.bl false) := by simp [dIsi, tyn, isTab]
theorem dIsi_bl_bool {i : Bool} : dIsi [.bl i, .ty "bool"] = some (.bl true) := nr rfl
theorem dIsi_bl_int {i : Bool} : dIsi [.bl i, .ty "int"] = some (.bl true) := nr rfl
theorem dIsi_bl_tuple {i : Bool} : dIsi [.bl i, .ty "tuple"] = some (.bl false) := by simp [dIsi, tyn, isTab]
theorem dIsi_tup_tuple {xs : List D} : dIsi [.tup xs, .ty "tuple"] = some (.bl true) := nr rfl
theorem dIsi_lst_list {xs : List D} : dIsi [.lst xs, .ty "list"] = some (.bl true) := nr rfl
theorem dIsi_non_tuple : dIsi [.non, .ty "tuple"] = some (.bl false) := by simp [dIsi, tyn, isTab]
theorem dIsi_lst_tuple {xs : List D} : dIsi [.lst xs, .ty "tuple"] = some (.bl false) := by simp [dIsi, tyn, isTab]
theorem atI_ints {ns : List Int} {i : Int} : atI (ns.map D.int) i = (atI ns i).map D.int := by
  unfold atI
  rw [List.length_map]
  cases ixN ns.length i with
  | none => rfl
  | some j => simp
theorem atI_of {α : Type} {xs : List α} {i : Int} {d : α} (h0 : 0 ≤ i) (h : xs[i.toNat]? = some d) : atI xs i = some d := by
  have e : i = (i.toNat : Int) := by omega
  rw [e]
  exact atI_nat h
theorem atI_getD {ns : List Int} {i : Int} (h0 : 0 ≤ i) (h : i < ns.length) : atI ns i = some (ns.getD i.toNat 0) := by
  apply atI_of h0
  rw [List.getD_eq_getElem?_getD, List.getElem?_eq_getElem (by omega)]
  rfl
theorem sizeLine_ge {n : Nat} (h : n ≤ 16777216) : n ≤ sizeLine := by rw [sizeLine_eq]; exact h
theorem sizeLine_lt {n : Nat} (h : n < 16777216) : n < sizeLine := by rw [sizeLine_eq]; exact h
theorem wForL_nil {wg : WG S} {wb : WS S} {N : DE S} {ρ : Env} {s : S} : wForL wg wb N [] ρ s = N.nx ρ s := nr rfl
theorem wForL_cons {wg : WG S} {wb : WS S} {N : DE S} {d : D} {ds : List D} {ρ : Env} {s : S} : wForL wg wb N (d :: ds) ρ s = wg d ρ s fun ρ1 s1 => wb { N with nx := wForL wg wb N ds, ct := wForL wg wb N ds, bk := N.nx } ρ1 s1 := nr rfl
theorem upto_zero {lo : Int} : upto lo 0 = [] := nr rfl
theorem upto_succ {lo : Int} {n : Nat} : upto lo (n + 1) = .int lo :: upto (lo + 1) n := by
  unfold upto
  rw [List.range_succ_eq_map, List.map_cons, List.map_map]
  congr 1
  · simp
  · apply List.map_congr_left
    intro i _
    simp
    omega
end
end Ld
namespace Ld
open PySem PySem.Spec PyProof.Rows L2
/-- the law's call, from its meaning on data -/
theorem law_sp {fr : Bool} {m : MD Unit} (h : ∀ ns : List Int, ns.length ≤ 63 → m [.scr (ns.map D.int)] () fun d _ => d = .bl true) {K : PySem.W.Frag} {H : Hp} {a : Addr} {ns : List Int} {E : XK} (hl : ns.length ≤ 63) (hS : SqL K H a (ns.map V.int)) :
    spD K wld0 fr 1 m [.ref a] H (fun v _ => v = .bl true) E := by
  refine ⟨rfl, H, fun _ => False, (), [.scr (ns.map D.int)], fun _ _ e => e, fun _ z => z.elim, fun _ z => z, .cons (.scr hS (RpAll.ofInts ns)) .nil, _, h ns hl, fun d s' v H' W' hd _ ro => ?_⟩
  subst hd
  have r := ro.1
  cases r
  rfl
end Ld
namespace Ld
theorem wSeq_i {S : Type} {t u : WS S} {N : DE S} {ρ : Env} {s : S} (h : t { N with nx := u N } ρ s) : wSeq t u N ρ s := h
theorem wb_i {S : Type} {w w' : WS S} {N : DE S} {ρ : Env} {s : S} (e : w = w') (h : w' N ρ s) : w N ρ s := e ▸ h
end Ld
namespace Ld
section
variable {S : Type}
theorem ite_i {c : Prop} [Decidable c] {t u : Prop} (h1 : c → t) (h2 : ¬c → u) : if c then t else u := by
  by_cases h : c
  · rw [if_pos h]; exact h1 h
  · rw [if_neg h]; exact h2 h
/-- a loop over data, by what holds ahead of each round -/
theorem for_inv {wb : WS S} {i : Nat} {N : DE S} (P : Nat → Env → S → Prop) : ∀ (ds : List D) (k : Nat) {ρ : Env} {s : S}, P k ρ s →
    (∀ j d ρ s f, ds[j]? = some d → P (k + j) ρ s → (∀ ρ s, P (k + j + 1) ρ s → f ρ s) → wb ⟨f, N.rt, N.nx, f⟩ (ρ.set i (.val d)) s) →
    (∀ ρ s, P (k + ds.length) ρ s → N.nx ρ s) → wForL (wName i) wb N ds ρ s
  | [], k, ρ, s, h0, hb, hN => hN ρ s h0
  | d :: ds, k, ρ, s, h0, hb, hN => by
    rw [wForL_cons]
    refine hb 0 d ρ s _ rfl h0 fun ρ1 s1 h1 => ?_
    refine for_inv P ds (k + 1) h1 (fun j d ρ s f e h hf => ?_) fun ρ s h => ?_
    · refine hb (j + 1) d ρ s f e (by rw [← Nat.add_assoc, Nat.add_right_comm]; exact h) fun ρ s h => hf ρ s ?_
      have e : k + 1 + j + 1 = k + (j + 1) + 1 := by omega
      rw [e]; exact h
    · refine hN ρ s ?_
      have e : k + (d :: ds).length = k + 1 + ds.length := by rw [List.length_cons]; omega
      rw [e]; exact h
theorem upto_get : ∀ (n : Nat) (lo : Int) (j : Nat) (d : D), (upto lo n)[j]? = some d → j < n ∧ d = .int (lo + j)
  | 0, _, _, _, h => by cases h
  | n + 1, lo, 0, d, h => by
    rw [upto_succ] at h
    cases h
    exact ⟨by omega, by simp⟩
  | n + 1, lo, j + 1, d, h => by
    rw [upto_succ] at h
    obtain ⟨h1, h2⟩ := upto_get n (lo + 1) j d h
    refine ⟨by omega, h2.trans ?_⟩
    congr 1
    omega
theorem upto_len (lo : Int) (n : Nat) : (upto lo n).length = n := by simp [upto]
theorem for_upto {wb : WS S} {i : Nat} {N : DE S} {lo : Int} {n : Nat} {ρ : Env} {s : S} (P : Nat → Env → S → Prop) (h0 : P 0 ρ s)
    (hb : ∀ (j : Nat) ρ s f, j < n → P j ρ s → (∀ ρ s, P (j + 1) ρ s → f ρ s) → wb ⟨f, N.rt, N.nx, f⟩ (ρ.set i (.val (.int (lo + j)))) s)
    (hN : ∀ ρ s, P n ρ s → N.nx ρ s) : wForL (wName i) wb N (upto lo n) ρ s := by
  refine for_inv P _ 0 h0 (fun j d ρ s f e h hf => ?_) fun ρ s h => ?_
  · obtain ⟨h1, rfl⟩ := upto_get n lo j d e
    exact hb j ρ s f h1 (by simpa using h) (by simpa using hf)
  · rw [upto_len, Nat.zero_add] at h
    exact hN ρ s h
theorem for_upto0 {wb : WS S} {i : Nat} {N : DE S} {n : Nat} {ρ : Env} {s : S} (P : Nat → Env → S → Prop) (h0 : P 0 ρ s)
    (hb : ∀ (j : Nat) ρ s f, j < n → P j ρ s → (∀ ρ s, P (j + 1) ρ s → f ρ s) → wb ⟨f, N.rt, N.nx, f⟩ (ρ.set i (.val (.int j))) s)
    (hN : ∀ ρ s, P n ρ s → N.nx ρ s) : wForL (wName i) wb N (upto 0 n) ρ s :=
  for_upto P h0 (fun j ρ s f h1 h2 h3 => by rw [Int.zero_add]; exact hb j ρ s f h1 h2 h3) hN
theorem for_ints {wb : WS S} {i : Nat} {N : DE S} {ns : List Int} {ρ : Env} {s : S} (P : Nat → Env → S → Prop) (h0 : P 0 ρ s)
    (hb : ∀ (j : Nat) x ρ s f, ns[j]? = some x → P j ρ s → (∀ ρ s, P (j + 1) ρ s → f ρ s) → wb ⟨f, N.rt, N.nx, f⟩ (ρ.set i (.val (.int x))) s)
    (hN : ∀ ρ s, P ns.length ρ s → N.nx ρ s) : wForL (wName i) wb N (ns.map D.int) ρ s := by
  refine for_inv P _ 0 h0 (fun j d ρ s f e h hf => ?_) fun ρ s h => ?_
  · rw [List.getElem?_map] at e
    cases hx : ns[j]? with
    | none => rw [hx] at e; cases e
    | some x =>
      rw [hx] at e
      cases e
      exact hb j x ρ s f hx (by simpa using h) (by simpa using hf)
  · rw [List.length_map, Nat.zero_add] at h
    exact hN ρ s h
theorem getD_all {p : Int → Prop} {ns : List Int} (h : ∀ x ∈ ns, p x) (h0 : p 0) (i : Nat) : p (ns.getD i 0) := by
  rw [List.getD_eq_getElem?_getD]
  cases e : ns[i]? with
  | none => exact h0
  | some x => exact h x (List.mem_of_getElem? e)
end
end Ld

/-! Value layer, part 11: equations of the combinators (printed by mkeq.py). -/
namespace Ld
open PySem PySem.Spec PyProof.Rows L2
/-- a call of a def by its meaning; the last place keeps simp out of K -/
def mcall {S : Type} (m : MD S) (ds : List D) (s : S) (K : D → S → Prop) (_ : Tag K := ()) : Prop := m ds s K
section
variable {S : Type}
theorem e_wVar {i : Nat} {ρ : Env} {s : S} {Q : Hd → Env → S → Prop} : wVar i ρ s Q = (onS (slD ρ[i]?) fun _ => Q (.slot i) ρ s) := nr rfl
theorem e_wC {d : D} {ρ : Env} {s : S} {Q : Hd → Env → S → Prop} : wC d ρ s Q = (Q (.val d) ρ s) := nr rfl
theorem e_wBin {f : D → D → Option D} {wa wb : WE S} {ρ : Env} {s : S} {Q : Hd → Env → S → Prop} : wBin f wa wb ρ s Q = (wa ρ s fun h1 ρ1 s1 => wb ρ1 s1 fun h2 ρ2 s2 => onS (res ρ2 h1) fun x => onS (res ρ2 h2) fun y => onS (f x y) fun z => Q (.val z) ρ2 s2) := nr rfl
theorem e_wBinN {f : D → D → Option D} {wa wb : WE S} {ρ : Env} {s : S} {Q : D → Env → S → Prop} : wBinN f wa wb ρ s Q = (wa ρ s fun h1 ρ1 s1 => wb ρ1 s1 fun h2 ρ2 s2 => onS (res ρ2 h1) fun x => onS (res ρ2 h2) fun y => onS (f x y) fun z => Q z ρ2 s2) := nr rfl
theorem e_wUn {f : D → Option D} {wa : WE S} {ρ : Env} {s : S} {Q : Hd → Env → S → Prop} : wUn f wa ρ s Q = (wa ρ s fun h1 ρ1 s1 => onS (res ρ1 h1) fun x => onS (f x) fun z => Q (.val z) ρ1 s1) := nr rfl
theorem e_wCallB {f : List D → Option D} {wa : WA S} {ρ : Env} {s : S} {Q : Hd → Env → S → Prop} : wCallB f wa ρ s Q = (wa ρ s fun hs ρ1 s1 => onS (resL ρ1 hs) fun xs => onS (f xs) fun z => Q (.val z) ρ1 s1) := nr rfl
theorem e_wCallN {f : List D → Option D} {wa : WA S} {ρ : Env} {s : S} {Q : D → Env → S → Prop} : wCallN f wa ρ s Q = (wa ρ s fun hs ρ1 s1 => onS (resL ρ1 hs) fun xs => onS (f xs) fun z => Q z ρ1 s1) := nr rfl
theorem e_wNew {w : WN S} {ρ : Env} {s : S} {Q : Hd → Env → S → Prop} : wNew w ρ s Q = (w ρ s fun d ρ1 s1 => Q (.val d) ρ1 s1) := nr rfl
theorem e_wNil {ρ : Env} {s : S} {Q : List Hd → Env → S → Prop} : wNil ρ s Q = (Q [] ρ s) := nr rfl
theorem e_wCons {we : WE S} {wr : WA S} {ρ : Env} {s : S} {Q : List Hd → Env → S → Prop} : wCons we wr ρ s Q = (we ρ s fun h ρ1 s1 => wr ρ1 s1 fun hs ρ2 s2 => Q (h :: hs) ρ2 s2) := nr rfl
theorem e_wConsU {we : WE S} {wr : WA S} {ρ : Env} {s : S} {Q : List Hd → Env → S → Prop} : wConsU we wr ρ s Q = (we ρ s fun h ρ1 s1 => useK h ρ1 fun d ρ2 => wr ρ2 s1 fun hs ρ3 s2 => Q (.val d :: hs) ρ3 s2) := nr rfl
theorem e_wTup {wa : WA S} {ρ : Env} {s : S} {Q : Hd → Env → S → Prop} : wTup wa ρ s Q = (wa ρ s fun hs ρ1 s1 => onS (valL hs) fun ds => ds.length ≤ sizeLine ∧ Q (.val (.tup ds)) ρ1 s1) := nr rfl
theorem e_wLst {wa : WA S} {ρ : Env} {s : S} {Q : D → Env → S → Prop} : wLst wa ρ s Q = (wa ρ s fun hs ρ1 s1 => onS (valL hs) fun ds => ds.length ≤ sizeLine ∧ Q (.lst ds) ρ1 s1) := nr rfl
theorem e_wB {we : WE S} {ρ : Env} {s : S} {Q : Bool → Env → S → Prop} : wB we ρ s Q = (we ρ s fun h ρ1 s1 => match res ρ1 h with
  | some (.bl b) => Q b ρ1 s1
  | _ => False) := nr rfl
theorem e_wAnd {t u : WT S} {ρ : Env} {s : S} {Q : Bool → Env → S → Prop} : wAnd t u ρ s Q = (t ρ s fun b ρ1 s1 => if b = true then u ρ1 s1 Q else Q false ρ1 s1) := nr rfl
theorem e_wOr {t u : WT S} {ρ : Env} {s : S} {Q : Bool → Env → S → Prop} : wOr t u ρ s Q = (t ρ s fun b ρ1 s1 => if b = true then Q true ρ1 s1 else u ρ1 s1 Q) := nr rfl
theorem e_wNot {t : WT S} {ρ : Env} {s : S} {Q : Bool → Env → S → Prop} : wNot t ρ s Q = (t ρ s fun b ρ1 s1 => Q (!b) ρ1 s1) := nr rfl
theorem e_wAndV {a b : WE S} {ρ : Env} {s : S} {Q : Hd → Env → S → Prop} : wAndV a b ρ s Q = (a ρ s fun h ρ1 s1 => match res ρ1 h with
  | some (.bl k) => if k = true then b ρ1 s1 Q else Q (.val (.bl false)) ρ1 s1
  | _ => False) := nr rfl
theorem e_wOrV {a b : WE S} {ρ : Env} {s : S} {Q : Hd → Env → S → Prop} : wOrV a b ρ s Q = (a ρ s fun h ρ1 s1 => match res ρ1 h with
  | some (.bl k) => if k = true then Q (.val (.bl true)) ρ1 s1 else b ρ1 s1 Q
  | _ => False) := nr rfl
theorem e_wNotV {a : WE S} {ρ : Env} {s : S} {Q : Hd → Env → S → Prop} : wNotV a ρ s Q = (a ρ s fun h ρ1 s1 => match res ρ1 h with
  | some (.bl k) => Q (.val (.bl (!k))) ρ1 s1
  | _ => False) := nr rfl
theorem e_wIfE {t : WT S} {a b : WE S} {ρ : Env} {s : S} {Q : Hd → Env → S → Prop} : wIfE t a b ρ s Q = (t ρ s fun k ρ1 s1 => if k = true then a ρ1 s1 Q else b ρ1 s1 Q) := nr rfl
theorem e_wNext {N : DE S} {ρ : Env} {s : S} : wNext N ρ s = (N.nx ρ s) := nr rfl
theorem e_wSeq {t u : WS S} {N : DE S} {ρ : Env} {s : S} : wSeq t u N ρ s = (t { N with nx := u N } ρ s) := nr rfl
theorem e_wBreak {N : DE S} {ρ : Env} {s : S} : wBreak N ρ s = (N.bk ρ s) := nr rfl
theorem e_wCont {N : DE S} {ρ : Env} {s : S} : wCont N ρ s = (N.ct ρ s) := nr rfl
theorem e_wIf {c : WT S} {t u : WS S} {N : DE S} {ρ : Env} {s : S} : wIf c t u N ρ s = (c ρ s fun b ρ1 s1 => if b = true then t N ρ1 s1 else u N ρ1 s1) := nr rfl
theorem e_wDrop {we : WE S} {N : DE S} {ρ : Env} {s : S} : wDrop we N ρ s = (we ρ s fun _ ρ1 s1 => N.nx ρ1 s1) := nr rfl
theorem e_wSet {i : Nat} {we : WE S} {N : DE S} {ρ : Env} {s : S} : wSet i we N ρ s = (we ρ s fun h ρ1 s1 => useK h ρ1 fun d ρ2 => N.nx (ρ2.set i (.val d)) s1) := nr rfl
theorem e_wOwn {i : Nat} {wn : WN S} {N : DE S} {ρ : Env} {s : S} : wOwn i wn N ρ s = (wn ρ s fun d ρ1 s1 => N.nx (ρ1.set i (.own d)) s1) := nr rfl
theorem e_wRet {fr : Bool} {we : WE S} {N : DE S} {ρ : Env} {s : S} : wRet fr we N ρ s = (we ρ s fun h ρ1 s1 => match h with
  | .val d => (fr = true → imm d = true) ∧ N.rt d s1
  | .slot i => match ρ1[i]? with
    | some (.val d) => (fr = true → imm d = true) ∧ N.rt d s1
    | some (.own (.lst ds)) => (fr = true → imms ds = true) ∧ N.rt (.lst ds) s1
    | some (.own d) => fr = false ∧ N.rt d s1
    | _ => False) := nr rfl
theorem e_wRetNew {fr : Bool} {wn : WN S} {N : DE S} {ρ : Env} {s : S} : wRetNew fr wn N ρ s = (wn ρ s fun d ρ1 s1 => match d with
  | .lst ds => (fr = true → imms ds = true) ∧ N.rt (.lst ds) s1
  | d => fr = false ∧ N.rt d s1) := nr rfl
theorem e_wRet0 {N : DE S} {u1 : Env} {s : S} : wRet0 N u1 s = (N.rt .non s) := nr rfl
theorem e_wNever {u1 : DE S} {u2 : Env} {u3 : S} : wNever u1 u2 u3 = (False) := nr rfl
theorem e_wName {i : Nat} {d : D} {ρ : Env} {s : S} {Q : Env → S → Prop} : wName i d ρ s Q = (Q (ρ.set i (.val d)) s) := nr rfl
theorem e_wGTup {gs : List (WG S)} {d : D} {ρ : Env} {s : S} {Q : Env → S → Prop} : wGTup gs d ρ s Q = (match d with
  | .tup ds => ds.length = gs.length ∧ wGs gs ds ρ s Q
  | _ => False) := nr rfl
theorem e_wAsg {we : WE S} {wg : WG S} {N : DE S} {ρ : Env} {s : S} : wAsg we wg N ρ s = (we ρ s fun h ρ1 s1 => useK h ρ1 fun d ρ2 => wg d ρ2 s1 N.nx) := nr rfl
theorem e_wPar {i j : Nat} {wa : WA S} {N : DE S} {ρ : Env} {s : S} : wPar i j wa N ρ s = (wa ρ s fun hs ρ1 s1 => match hs with
  | [.val d, .val e] => N.nx ((ρ1.set i (.val d)).set j (.val e)) s1
  | _ => False) := nr rfl
theorem e_wFor {wi : WI S} {wg : WG S} {wb : WS S} {N : DE S} {ρ : Env} {s : S} : wFor wi wg wb N ρ s = (wi ρ s fun ds ρ1 s1 => wForL wg wb N ds ρ1 s1) := nr rfl
theorem e_wWhile {wt : WT S} {wb : WS S} {N : DE S} {ρ : Env} {s : S} : wWhile wt wb N ρ s = (∃ n, wWhileN wt wb N n ρ s) := nr rfl
theorem e_wLc {vs : List Nat} {wi : WI S} {wg : WG S} {wt : WT S} {we : WE S} {ρ : Env} {s : S} {Q : D → Env → S → Prop} : wLc vs wi wg wt we ρ s Q = (wi ρ s fun ds ρ1 s1 => wLcL vs wg wt we (fun acc ρ2 s2 => Q (.lst acc) (backD ρ1 vs ρ2) s2) ds [] (wipeD ρ1 vs) s1) := nr rfl
theorem e_wYes {ρ : Env} {s : S} {Q : Bool → Env → S → Prop} : wYes ρ s Q = (Q true ρ s) := nr rfl
theorem e_wCall {n : Nat} {m : MD S} {wa : WA S} {ρ : Env} {s : S} {Q : Hd → Env → S → Prop} : wCall n m wa ρ s Q = (wa ρ s fun hs ρ1 s1 => onS (valL hs) fun ds => ds.length = n ∧ mcall m ds s1 fun d s2 => Q (.val d) ρ1 s2) := nr rfl
theorem e_wCallF {n : Nat} {m : MD S} {wa : WA S} {ρ : Env} {s : S} {Q : Hd → Env → S → Prop} : wCallF n m wa ρ s Q = (wa ρ s fun hs ρ1 s1 => onS (resL ρ1 hs) fun ds => ds.length = n ∧ mcall m ds s1 fun d s2 => Q (.val d) ρ1 s2) := nr rfl
theorem e_wCallO {n : Nat} {m : MD S} {wa : WA S} {ρ : Env} {s : S} {Q : D → Env → S → Prop} : wCallO n m wa ρ s Q = (wa ρ s fun hs ρ1 s1 => onS (resL ρ1 hs) fun ds => ds.length = n ∧ mcall m ds s1 fun d s2 => match d with
  | .lst _ => Q d ρ1 s2
  | _ => False) := nr rfl
theorem e_wIter {we : WE S} {ρ : Env} {s : S} {Q : List D → Env → S → Prop} : wIter we ρ s Q = (we ρ s fun h ρ1 s1 => useK h ρ1 fun d ρ2 => onS (seqD d) fun ds => Q ds ρ2 s1) := nr rfl
theorem e_wRange {wa : WA S} {ρ : Env} {s : S} {Q : List D → Env → S → Prop} : wRange wa ρ s Q = (wa ρ s fun hs ρ1 s1 => onS (resL ρ1 hs) fun ds => match ds with
  | [.int j] => -(2 ^ 62) ≤ j ∧ j < 2 ^ 62 ∧ Q (upto 0 j.toNat) ρ1 s1
  | [.int i, .int j] => (-(2 ^ 62) ≤ i ∧ i < 2 ^ 62 ∧ -(2 ^ 62) ≤ j ∧ j < 2 ^ 62) ∧ Q (upto i (j - i).toNat) ρ1 s1
  | _ => False) := nr rfl
theorem e_wEnum {we : WE S} {ρ : Env} {s : S} {Q : List D → Env → S → Prop} : wEnum we ρ s Q = (we ρ s fun h ρ1 s1 => useK h ρ1 fun d ρ2 => match d with
  | .lst ds => Q (enumD ds) ρ2 s1
  | _ => False) := nr rfl
theorem e_wMut {i : Nat} {f : List D → List D → Option (D × List D)} {wa : WA S} {ρ : Env} {s : S} {Q : Hd → Env → S → Prop} : wMut i f wa ρ s Q = (match ρ[i]? with
  | some (.own (.lst _)) => wa ρ s fun hs ρ1 s1 => onS (resL ρ1 hs) fun as => match ρ1[i]? with
    | some (.own (.lst ds)) => onS (f ds as) fun p => Q (.val p.1) (ρ1.set i (.own (.lst p.2))) s1
    | _ => False
  | _ => False) := nr rfl
theorem e_wMutK {i : Nat} {f : List D → List D → Option (D × List D)} {wa : WA S} {ρ : Env} {s : S} {Q : Hd → Env → S → Prop} : wMutK i f wa ρ s Q = (match ρ[i]? with
  | some (.own (.lst _)) => wa ρ s fun hs ρ1 s1 => onS (valL hs) fun as => match ρ1[i]? with
    | some (.own (.lst ds)) => onS (f ds as) fun p => Q (.val p.1) (ρ1.set i (.own (.lst p.2))) s1
    | _ => False
  | _ => False) := nr rfl
theorem e_wSetIx {i : Nat} {we wk : WE S} {N : DE S} {ρ : Env} {s : S} : wSetIx i we wk N ρ s = (we ρ s fun h ρ1 s1 => useK h ρ1 fun d ρ2 => match ρ2[i]? with
  | some (.own (.lst _)) => wk ρ2 s1 fun hk ρ3 s2 => match ρ3[i]?, res ρ3 hk with
    | some (.own (.lst ds)), some (.int k) => onS (ixN ds.length k) fun j => N.nx (ρ3.set i (.own (.lst (ds.set j d)))) s2
    | _, _ => False
  | _ => False) := nr rfl
theorem e_wAug {i : Nat} {f : D → D → Option D} {we : WE S} {N : DE S} {ρ : Env} {s : S} : wAug i f we N ρ s = (onS (slD ρ[i]?) fun _ => we ρ s fun h ρ1 s1 => onS (slD ρ1[i]?) fun x => onS (res ρ1 h) fun y => onS (f x y) fun z => N.nx (ρ1.set i (.val z)) s1) := nr rfl
theorem e_wNoPart {ρ : Env} {s : S} {Q : Option Int → Env → S → Prop} : wNoPart ρ s Q = (Q none ρ s) := nr rfl
theorem e_wPart {we : WE S} {ρ : Env} {s : S} {Q : Option Int → Env → S → Prop} : wPart we ρ s Q = (we ρ s fun h ρ1 s1 => match res ρ1 h with
  | some (.int i) => Q (some i) ρ1 s1
  | _ => False) := nr rfl
theorem e_wSlL {we : WE S} {wl wh : WO S} {ρ : Env} {s : S} {Q : D → Env → S → Prop} : wSlL we wl wh ρ s Q = (we ρ s fun h ρ1 s1 => wl ρ1 s1 fun lo ρ2 s2 => wh ρ2 s2 fun hi ρ3 s3 => match res ρ3 h with
  | some (.lst ds) => Q (.lst (cutL ds lo hi)) ρ3 s3
  | some (.scr ds) => Q (.lst (cutL ds lo hi)) ρ3 s3
  | _ => False) := nr rfl
theorem e_wSl {we : WE S} {wl wh : WO S} {ρ : Env} {s : S} {Q : Hd → Env → S → Prop} : wSl we wl wh ρ s Q = (we ρ s fun h ρ1 s1 => wl ρ1 s1 fun lo ρ2 s2 => wh ρ2 s2 fun hi ρ3 s3 => match res ρ3 h with
  | some (.lst ds) => Q (.val (.lst (cutL ds lo hi))) ρ3 s3
  | some (.scr ds) => Q (.val (.lst (cutL ds lo hi))) ρ3 s3
  | some (.tup ds) => Q (.val (.tup (cutL ds lo hi))) ρ3 s3
  | _ => False) := nr rfl
theorem e_wTruth {we : WE S} {ρ : Env} {s : S} {Q : Bool → Env → S → Prop} : wTruth we ρ s Q = (we ρ s fun h ρ1 s1 => onS (res ρ1 h) fun d => onS (tru d) fun k => Q k ρ1 s1) := nr rfl
theorem e_wChain {f g : D → D → Option D} {wa wb wc : WE S} {ρ : Env} {s : S} {Q : Hd → Env → S → Prop} : wChain f g wa wb wc ρ s Q = (wa ρ s fun h1 ρ1 s1 => wb ρ1 s1 fun h2 ρ2 s2 => onS (res ρ2 h1) fun x => onS (res ρ2 h2) fun y => onS (f x y) fun z => match z with
  | .bl k => if k = true then wc ρ2 s2 fun h3 ρ3 s3 => onS (res ρ3 h2) fun y => onS (res ρ3 h3) fun u => onS (g y u) fun z => Q (.val z) ρ3 s3 else Q (.val (.bl false)) ρ2 s2
  | _ => False) := nr rfl
end
end Ld

/-! Value layer, part 12: a world of lists that may be shared: a store from addresses to what they hold. -/
namespace Ld
open PySem PySem.Spec PyProof.Rows L2
abbrev Sto := Addr → Option (List D)
def nilF : Hp := fun _ => none
def flat : D → Bool
  | .non => true
  | .bl _ => true
  | .int _ => true
  | .str _ => true
  | .ty _ => true
  | .ref _ => true
  | _ => false
theorem Rp.flat {K : PySem.W.Frag} {F G : Hp} {v : V} {d : D} (h : Rp K F v d) (e : flat d = true) : Rp K G v d := by
  cases h with
  | non => exact .non
  | bl b => exact .bl b
  | int i => exact .int i
  | str x => exact .str x
  | ty n => exact .ty n
  | ref a => exact .ref a
  | _ => cases e
theorem RpAll.flatG {K : PySem.W.Frag} {F G : Hp} : ∀ {vs : List V} {ds : List D}, RpAll K F vs ds → ds.all Ld.flat = true → RpAll K G vs ds
  | _, _, .nil, _ => .nil
  | _, _, .cons h r, e => by
    simp only [List.all_cons, Bool.and_eq_true] at e
    exact .cons (h.flat e.1) (r.flatG e.2)
theorem RpAll.ofNil {K : PySem.W.Frag} {F : Hp} {vs : List V} {ds : List D} (r : RpAll K nilF vs ds) : RpAll K F vs ds := RpAll.mono (fun _ _ e => by cases e) r
theorem Rp.ofNil {K : PySem.W.Frag} {F : Hp} {v : V} {d : D} (r : Rp K nilF v d) : Rp K F v d := Rp.mono (fun _ _ e => by cases e) r
def wldS (K : PySem.W.Frag) : Wld Sto where
  Wd s W H := (∀ a, W a ↔ ∃ ds, s a = some ds) ∧ ∀ a ds, s a = some ds → ∃ vs, H a = some (.lst vs) ∧ RpAll K nilF vs ds
  loc s W H H' e h := ⟨h.1, fun a ds q => by
    obtain ⟨vs, e1, r⟩ := h.2 a ds q
    exact ⟨vs, by rw [e a ((h.1 a).mpr ⟨ds, q⟩)]; exact e1, r⟩⟩
  there s W H a h w := by
    obtain ⟨ds, q⟩ := (h.1 a).mp w
    obtain ⟨vs, e1, _⟩ := h.2 a ds q
    exact ⟨_, e1, fun _ z => nomatch z⟩
/-- the store with one list changed -/
def put (s : Sto) (a : Addr) (ds : List D) : Sto := fun b => if b = a then some ds else s b
theorem put_same {s : Sto} {a : Addr} {ds : List D} : put s a ds a = some ds := by simp [put]
theorem put_ne {s : Sto} {a b : Addr} {ds : List D} (h : b ≠ a) : put s a ds b = s b := by simp [put, h]
section
variable {K : PySem.W.Frag} {B : Bs Sto} {c : Cf} {s : Sto} {ρ : Env} {σ : L2.St}
theorem wget (hB : B.Wd = (wldS K).Wd) (R : Rel K B c s ρ σ) {a : Addr} {ds : List D} (h : s a = some ds) : c.W a ∧ ∃ vs, c.H a = some (.lst vs) ∧ RpAll K nilF vs ds := by
  have w := R.world
  rw [hB] at w
  exact ⟨(w.1 a).mpr ⟨ds, h⟩, w.2 a ds h⟩
/-- a list of the world changes -/
theorem Rel.wmut (hB : B.Wd = (wldS K).Wd) (R : Rel K B c s ρ σ) {a : Addr} {ds : List D} {ws : List V} {es : List D} (h : s a = some ds) (r : RpAll K nilF ws es) :
    Rel K B { c with H := upd c.H a (.lst ws) } (put s a es) ρ σ ∧ Ev B c { c with H := upd c.H a (.lst ws) } := by
  obtain ⟨hW, vs, hH, _⟩ := wget hB R h
  have oth : ∀ {b : Addr}, b ≠ a → upd c.H a (.lst ws) b = c.H b := fun {b} z => upd_ne z
  have ef : Fz B { c with H := upd c.H a (.lst ws) } = Fz B c := by
    funext b
    unfold Fz
    dsimp only
    by_cases z : b = a
    · rw [if_pos (.inr (.inl (by rw [z]; exact hW))), if_pos (.inr (.inl (by rw [z]; exact hW)))]
    · rw [oth z]
  refine ⟨⟨?_, fun b o e n => ?_, fun b e => ?_, fun b xs e => ?_, R.wnew, fun b xs w e => ?_, fun b e => ?_, fun b o e => ?_, R.len, fun i x e => ?_, R.uniq⟩, ⟨by rw [ef]; exact Sub.refl _, rfl⟩⟩
  · rw [hB]
    have w := R.world
    rw [hB] at w
    refine ⟨fun b => ?_, fun b fs e => ?_⟩
    · by_cases z : b = a
      · subst z
        exact ⟨fun _ => ⟨es, put_same⟩, fun _ => hW⟩
      · rw [put_ne z]
        exact w.1 b
    · by_cases z : b = a
      · subst z
        rw [put_same] at e
        cases e
        exact ⟨ws, upd_same, r⟩
      · rw [put_ne z] at e
        obtain ⟨us, e1, r1⟩ := w.2 b fs e
        exact ⟨us, by show upd c.H a (.lst ws) b = _; rw [oth z]; exact e1, r1⟩
  · have z : b ≠ a := fun z => by
      rcases R.wnew b (by rw [z]; exact hW) with q | q
      · exact n q
      · rw [e] at q; cases q
    show upd c.H a (.lst ws) b = _
    rw [oth z]
    exact R.frame b o e n
  · show upd c.H a (.lst ws) b ≠ none
    by_cases z : b = a
    · subst z; rw [upd_same]; intro z; cases z
    · rw [oth z]; exact R.dom b e
  · have q := R.tups b xs e
    have z : b ≠ a := fun z => by rw [z, hH] at q; cases q
    show upd c.H a (.lst ws) b = _
    rw [oth z]
    exact q
  · have e : upd c.H a (.lst ws) b = some (.tup xs) := e
    by_cases z : b = a
    · subst z; rw [upd_same] at e; cases e
    · rw [oth z] at e; exact R.w0t b xs w e
  · obtain ⟨a1, a2, o, a3, a4⟩ := R.onew b e
    refine ⟨a1, a2, o, ?_, a4⟩
    show upd c.H a (.lst ws) b = _
    rw [oth (fun z => a2 (by rw [z]; exact hW))]
    exact a3
  · obtain ⟨a1, a2⟩ := R.tmp b o e
    refine ⟨?_, a2⟩
    show upd c.H a (.lst ws) b = _
    rw [oth (fun z => (R.onew b a2).2.1 (by rw [z]; exact hW))]
    exact a1
  · have q := R.slots i x e
    cases x with
    | emp => trivial
    | val d =>
      obtain ⟨v, e1, r1⟩ := q
      exact ⟨v, e1, by rw [ef]; exact r1⟩
    | own d =>
      obtain ⟨b, e1, e2, e3, r1⟩ := q
      refine ⟨b, e1, e2, e3, ?_⟩
      rw [ef]
      show OwnOk K _ (upd c.H a (.lst ws) b) d
      rw [oth (fun z => (R.onew b e2).2.1 (by rw [z]; exact hW))]
      exact r1
/-- a list on its way goes into the world -/
theorem Rel.wadd (hB : B.Wd = (wldS K).Wd) (R : Rel K B c s ρ σ) {a : Addr} {vs : List V} {ds : List D} (ht : c.T a = some (.lst vs)) (r : RpAll K nilF vs ds) :
    s a = none ∧ Rel K B ⟨c.H, fun b => c.O b ∧ b ≠ a, fun b => c.W b ∨ b = a, fun b => if b = a then none else c.T b⟩ (put s a ds) ρ σ ∧ Fz B ⟨c.H, fun b => c.O b ∧ b ≠ a, fun b => c.W b ∨ b = a, fun b => if b = a then none else c.T b⟩ = Fz B c := by
  obtain ⟨hH, hO⟩ := R.tmp a _ ht
  obtain ⟨n0, nW, _⟩ := R.onew a hO
  have w := R.world
  rw [hB] at w
  have hs : s a = none := by
    cases q : s a with
    | none => rfl
    | some es => exact absurd ((w.1 a).mpr ⟨es, q⟩) nW
  have ef : Fz B ⟨c.H, fun b => c.O b ∧ b ≠ a, fun b => c.W b ∨ b = a, fun b => if b = a then none else c.T b⟩ = Fz B c := by
    funext b
    unfold Fz
    by_cases z : b = a
    · rw [if_pos (.inr (.inl (.inr z))), if_pos (.inl (by rw [z]; exact hO))]
    · by_cases q : c.O b ∨ c.W b ∨ B.W0 b
      · rw [if_pos q, if_pos]
        rcases q with q | q | q
        · exact .inl ⟨q, z⟩
        · exact .inr (.inl (.inl q))
        · exact .inr (.inr q)
      · rw [if_neg q, if_neg]
        rintro (⟨q1, _⟩ | (q1 | q1) | q1)
        · exact q (.inl q1)
        · exact q (.inr (.inl q1))
        · exact z q1
        · exact q (.inr (.inr q1))
  refine ⟨hs, ⟨?_, R.frame, R.dom, R.tups, fun b w => ?_, R.w0t, fun b e => ?_, fun b o e => ?_, R.len, fun i x e => ?_, R.uniq⟩, ef⟩
  · rw [hB]
    refine ⟨fun b => ?_, fun b fs e => ?_⟩
    · by_cases z : b = a
      · subst z
        exact ⟨fun _ => ⟨ds, put_same⟩, fun _ => .inr rfl⟩
      · rw [put_ne z]
        exact ⟨fun q => (w.1 b).mp (q.resolve_right z), fun q => .inl ((w.1 b).mpr q)⟩
    · by_cases z : b = a
      · subst z
        rw [put_same] at e
        cases e
        exact ⟨vs, hH, r⟩
      · rw [put_ne z] at e
        exact w.2 b fs e
  · rcases w with w | w
    · exact R.wnew b w
    · subst w; exact .inr n0
  · obtain ⟨a1, a2, a3⟩ := R.onew b e.1
    exact ⟨a1, fun q => q.elim a2 e.2, a3⟩
  · have e : (if b = a then none else c.T b) = some o := e
    split at e
    · cases e
    · rename_i z
      exact ⟨(R.tmp b o e).1, (R.tmp b o e).2, z⟩
  · have q := R.slots i x e
    cases x with
    | emp => trivial
    | val d =>
      obtain ⟨v, e1, r1⟩ := q
      exact ⟨v, e1, by rw [ef]; exact r1⟩
    | own d =>
      obtain ⟨b, e1, e2, e3, r1⟩ := q
      have z : b ≠ a := fun z => by rw [z, ht] at e3; cases e3
      refine ⟨b, e1, ⟨e2, z⟩, ?_, by rw [ef]; exact r1⟩
      show (if b = a then none else c.T b) = none
      rw [if_neg z]
      exact e3
end

/-! ### expressions -/
/-- an item of a list of the world -/
def sGet (s : Sto) (x y : D) : Option D := match x, y with
  | .ref a, .int i => match s a with
    | some ds => if 0 ≤ i ∧ i < ds.length then some (ds.getD i.toNat .non) else none
    | none => none
  | _, _ => none
theorem sGet_elim {s : Sto} {x y z : D} (h : sGet s x y = some z) : ∃ a i ds, x = .ref a ∧ y = .int i ∧ s a = some ds ∧ (if 0 ≤ i ∧ i < ds.length then some (ds.getD i.toNat .non) else none) = some z := by
  unfold sGet at h
  split at h
  · split at h
    · exact ⟨_, _, _, rfl, rfl, ‹_›, h⟩
    · cases h
  · cases h
def wGet (wa wb : WE Sto) (ρ : Env) (s : Sto) (Q : Hd → Env → Sto → Prop) : Prop := wa ρ s fun h1 ρ1 s1 => wb ρ1 s1 fun h2 ρ2 s2 => onS (res ρ2 h1) fun x => onS (res ρ2 h2) fun y => onS (sGet s2 x y) fun z => Q (.val z) ρ2 s2
def sLen (s : Sto) (xs : List D) : Option D := match xs with
  | [.ref a] => match s a with
    | some ds => some (.int ds.length)
    | none => none
  | _ => none
def wLenW (wa : WA Sto) (ρ : Env) (s : Sto) (Q : Hd → Env → Sto → Prop) : Prop := wa ρ s fun hs ρ1 s1 => onS (resL ρ1 hs) fun xs => onS (sLen s1 xs) fun z => Q (.val z) ρ1 s1
/-- a new list goes into the world -/
def wKeep (w : WN Sto) (ρ : Env) (s : Sto) (Q : Hd → Env → Sto → Prop) : Prop := w ρ s fun d ρ1 s1 => match d with
  | .lst ds => ds.all flat = true ∧ ∀ a, s1 a = none → Q (.val (.ref a)) ρ1 (put s1 a ds)
  | _ => False
/-- w[k] = e, w a list of the world -/
def wSetW (i : Nat) (we wk : WE Sto) (N : DE Sto) (ρ : Env) (s : Sto) : Prop := we ρ s fun h ρ1 s1 => useK h ρ1 fun d ρ2 => match ρ2[i]? with
  | some (.val (.ref _)) => wk ρ2 s1 fun hk ρ3 s2 => match ρ3[i]?, res ρ3 hk with
    | some (.val (.ref a)), some (.int k) => onS (s2 a) fun ds => onS (ixN ds.length k) fun j => flat d = true ∧ N.nx ρ3 (put s2 a (ds.set j d))
    | _, _ => False
  | _ => False
section
variable {K : PySem.W.Frag} {B : Bs Sto} {ta tb te tk : TE} {wa wb we wk : WE Sto}
theorem Rv.ref {S : Type} {B : Bs S} {c : Cf} {v : V} {a : Addr} (r : Rv K B c v (.ref a)) : v = .ref a := by
  rcases r with r | ⟨b, _, _, z⟩
  · cases r; rfl
  · exact z.elim
theorem SimE.get (hB : B.Wd = (wldS K).Wd) (ha : SimE K B ta wa) (hb : SimE K B tb wb) : SimE K B (tOp (rIx K) ta tb) (wGet wa wb) := fun c s ρ σ Q Q' R hw q => by
  refine ha c s ρ σ _ _ R hw fun h1 ρ1 s1 v1 c1 hw R1 e1 o1 => ?_
  refine hb c1 s1 ρ1 σ _ _ R1 hw fun h2 ρ2 s2 v2 c2 hw R2 e2 o2 => ?_
  obtain ⟨x, ex, hw⟩ := onS_iff.mp hw
  obtain ⟨y, ey, hw⟩ := onS_iff.mp hw
  obtain ⟨z, ez, hwz⟩ := onS_iff.mp hw
  have rx := hd_rv R2 (o1.ev e2.sub) ex
  have ry := hd_rv R2 o2 ey
  obtain ⟨a, i, ds, rfl, rfl, hs, ez⟩ := sGet_elim ez
  obtain ⟨_, vs, hH, r⟩ := wget hB R2 hs
  obtain ⟨v, hv, rv⟩ := atI_rp r (getD_atI ez)
  obtain rfl := rx.ref
  obtain rfl := ry.int
  exact .inl ⟨a, vs, i, v, rfl, rfl, .inl (.inl hH), hv, q _ _ _ _ c2 hwz R2 (e1.trans e2) rv.ofNil⟩
theorem SimE.keep {w : WN Sto} (hB : B.Wd = (wldS K).Wd) (h : SimN K B ta w) : SimE K B ta (wKeep w) := fun c s ρ σ Q Q' R hw q => by
  refine h c s ρ σ _ _ R hw fun d ρ1 s1 a o c1 hw R1 e1 ok => ?_
  have ht : c1.T a = some o := by rw [e1.tmp]; simp
  split at hw
  · rename_i x ds
    obtain ⟨vs, eo, r⟩ := ok
    cases eo
    obtain ⟨hs, R2, ef⟩ := R1.wadd hB ht (r.flatG (G := nilF) hw.1)
    refine q _ _ _ (.ref a) ⟨c1.H, fun b => c1.O b ∧ b ≠ a, fun b => c1.W b ∨ b = a, fun b => if b = a then none else c1.T b⟩ (hw.2 a hs) R2 ⟨by rw [ef]; exact e1.sub, ?_⟩ (.ref a)
    funext b
    show (if b = a then none else c1.T b) = c.T b
    rw [e1.tmp]
    by_cases z : b = a
    · subst z; simp [e1.new]
    · simp [z]
  · exact hw.elim
theorem SimS.setW {i : Nat} (hB : B.Wd = (wldS K).Wd) (he : SimE K B te we) (hk : SimE K B tk wk) : SimS K B (tAsg te (gSub (tVar i) tk rSetL)) (wSetW i we wk) := fun c s ρ σ N N' R h E =>
  he c s ρ σ _ _ R h fun h ρ1 s1 v c1 hw R1 e o => by
    obtain ⟨d, ρ2, c2, hw, eh, R2, e2, r⟩ := use_ok R1 o hw
    show gSub (tVar i) tk rSetL v σ c1.H N'.nx
    rw [← eh]
    split at hw
    · rename_i a0 hx0
      obtain ⟨u, q1, q2⟩ := R2.slots i _ hx0
      cases q2
      refine ⟨.ref a0, q1, hk c2 s1 ρ2 σ _ _ R2 hw fun hk ρ3 s2 kv c3 hw R3 e3 o3 => ?_⟩
      split at hw
      · rename_i x y a k hx hkr
        obtain ⟨ds, es, hw⟩ := onS_iff.mp hw
        obtain ⟨j, ej, fl, hw⟩ := onS_iff.mp hw
        have ek := (hd_rv R3 o3 hkr).int
        subst ek
        obtain ⟨u3, q3, q4⟩ := R3.slots i _ hx
        cases q4
        rw [q1] at q3
        cases q3
        obtain ⟨_, vs, hH, rv⟩ := wget hB R3 es
        obtain ⟨R4, e4⟩ := R3.wmut hB (ws := vs.set j v) (es := ds.set j d) es (rv.set (r.flat fl) j)
        exact ⟨a0, vs, k, j, rfl, rfl, hH, by rw [rv.length]; exact ej, E.nx _ _ _ _ hw R4 (((e.trans e2).trans e3).trans e4)⟩
      · exact hw.elim
    · exact hw.elim
end
section
variable {X : Cx} {B : Bs Sto} {e k a b : Expr} {es : List Expr} {ta tb te tk : TE} {t : TA} {wa wb we wk : WE Sto} {w : WA Sto} {wn : WN Sto} {x : Str} {p pos pos' : Pos}
theorem se_get (hB : B.Wd = (wldS B.K).Wd) (ha : SE X B a ta wa) (hb : SE X B b tb wb) (hs : PlainIx b := by exact fun _ _ => rfl) (hK : X.K = B.K := by rfl)  : SE X B (.Subscript a b pos) (tOp (rIx B.K) ta tb) (wGet wa wb) := ⟨hK ▸ (pe_ix ix_seq ha.pe hb.pe hs), SimE.get hB ha.sim hb.sim⟩
theorem se_keep (hB : B.Wd = (wldS B.K).Wd) (h : SN X B e ta wn) : SE X B e ta (wKeep wn) := ⟨h.pe, SimE.keep hB h.sim⟩
theorem se_lenW (hB : B.Wd = (wldS B.K).Wd) (hm : X.mg "len" = none) (ha : SA X B (e :: es) t w) (hg : Gl X "len" := by rfl) (he : starEach (e :: es) X.env = (false, eval e X.env) :: starEach es X.env := by rfl) (hpl : (backTo pos (starEach es X.env)).any (·.1) = false := by rfl) (hK : X.K = B.K := by rfl)  : SE X B (.Call (.Name "len" p) (e :: es) [] pos) (tCB (orC (fun xs H Q => ∃ p ys, xs = [.ref p] ∧ (SqL B.K H p ys ∨ SqT B.K H p ys) ∧ Q (.int ys.length) H) (fun xs H Q => ∃ z, xs = [.str z] ∧ z.length ≤ sizeLine ∧ Q (.int z.length) H)) t) (wLenW w) :=
  ⟨hK ▸ (pe_callB (CallR.or' call_len_seq call_len_str) hg hm PySem.boot_len ha.pa (by decide) (by decide) he hpl), fun c s ρ σ Q Q' R hw q => by
    refine ha.sim c s ρ σ _ _ R hw fun hs ρ1 s1 vs c1 hw R1 e1 o1 => ?_
    obtain ⟨xs, ex, hw⟩ := onS_iff.mp hw
    obtain ⟨z, ez, hw⟩ := onS_iff.mp hw
    have rx := hds_rv R1 o1 ex
    unfold sLen at ez
    split at ez
    · rename_i a
      split at ez
      · rename_i ds hs
        cases ez
        obtain ⟨v, rfl, r1⟩ := rx.one
        obtain rfl := r1.ref
        obtain ⟨_, ws, hH, r⟩ := wget hB R1 hs
        exact .inl ⟨a, ws, rfl, .inl (.inl (.inl hH)), by rw [r.length]; exact q _ _ _ _ c1 hw R1 e1 (.int _)⟩
      · cases ez
    · cases ez⟩
theorem s_setW (hB : B.Wd = (wldS B.K).Wd) (i : Nat) (he : SE X B e te we) (hk : SE X B k tk wk) (ho : SE X B (.Name x p) (tVar i) (wVar i))
    (ha : ∀ v, assign (.Subscript (.Name x p) k pos') X.env v = (do
      let ov ← holding [v] (eval (.Name x p) X.env)
      let iv ← holding [v, ov] (eval k X.env)
      standAt pos'
      holding [v, ov, iv] (setItem ov iv v)
      release [v, ov, iv] []) := by intro _; rfl) (hs : swapsWithSole [.Subscript (.Name x p) k pos'] e pos.line X.env = pure false := by rfl) (hw : swappedStores [.Subscript (.Name x p) k pos'] e X.env = pure none := by rfl)
    (h1 : (assignEach [.Subscript (.Name x p) k pos'] X.env).map (·.2) = [assign (.Subscript (.Name x p) k pos') X.env] := by rfl) : SS X B (.Assign [.Subscript (.Name x p) k pos'] e pos) (tAsg te (gSub (tVar i) tk rSetL)) (wSetW i we wk) :=
  ⟨ps_asg he.pe (pg_sub ho.pe hk.pe set_list ha) hs hw h1, SimS.setW hB he.sim hk.sim⟩
end
/-! equations -/
theorem e_wGet {wa wb : WE Sto} {ρ : Env} {s : Sto} {Q : Hd → Env → Sto → Prop} : wGet wa wb ρ s Q = (wa ρ s fun h1 ρ1 s1 => wb ρ1 s1 fun h2 ρ2 s2 => onS (res ρ2 h1) fun x => onS (res ρ2 h2) fun y => onS (sGet s2 x y) fun z => Q (.val z) ρ2 s2) := nr rfl
theorem e_wLenW {wa : WA Sto} {ρ : Env} {s : Sto} {Q : Hd → Env → Sto → Prop} : wLenW wa ρ s Q = (wa ρ s fun hs ρ1 s1 => onS (resL ρ1 hs) fun xs => onS (sLen s1 xs) fun z => Q (.val z) ρ1 s1) := nr rfl
theorem e_wKeep {w : WN Sto} {ρ : Env} {s : Sto} {Q : Hd → Env → Sto → Prop} : wKeep w ρ s Q = (w ρ s fun d ρ1 s1 => match d with
  | .lst ds => ds.all flat = true ∧ ∀ a, s1 a = none → Q (.val (.ref a)) ρ1 (put s1 a ds)
  | _ => False) := nr rfl
theorem e_wSetW {i : Nat} {we wk : WE Sto} {N : DE Sto} {ρ : Env} {s : Sto} : wSetW i we wk N ρ s = (we ρ s fun h ρ1 s1 => useK h ρ1 fun d ρ2 => match ρ2[i]? with
  | some (.val (.ref _)) => wk ρ2 s1 fun hk ρ3 s2 => match ρ3[i]?, res ρ3 hk with
    | some (.val (.ref a)), some (.int k) => onS (s2 a) fun ds => onS (ixN ds.length k) fun j => flat d = true ∧ N.nx ρ3 (put s2 a (ds.set j d))
    | _, _ => False
  | _ => False) := nr rfl
theorem sGet_some {s : Sto} {a : Addr} {ds : List D} {i : Int} (h : s a = some ds) : sGet s (.ref a) (.int i) = if 0 ≤ i ∧ i < ds.length then some (ds.getD i.toNat .non) else none := by
  simp only [sGet, h]
theorem sLen_some {s : Sto} {a : Addr} {ds : List D} (h : s a = some ds) : sLen s [.ref a] = some (.int ds.length) := by
  simp only [sLen, h]
/-- the law's call, in an empty store -/
theorem law_spS {fr : Bool} {m : MD Sto} (h : ∀ ns : List Int, ns.length ≤ 63 → m [.scr (ns.map D.int)] (fun _ => none) fun d _ => d = .bl true) {K : PySem.W.Frag} {H : Hp} {a : Addr} {ns : List Int} {E : XK} (hl : ns.length ≤ 63) (hS : SqL K H a (ns.map V.int)) :
    spD K (wldS K) fr 1 m [.ref a] H (fun v _ => v = .bl true) E := by
  refine ⟨rfl, H, fun _ => False, fun _ => none, [.scr (ns.map D.int)], fun _ _ e => e, fun _ z => z.elim, ⟨fun a => ⟨fun z => z.elim, fun ⟨_, z⟩ => nomatch z⟩, fun _ _ z => nomatch z⟩, .cons (.scr hS (RpAll.ofInts ns)) .nil, _, h ns hl, fun d s' v H' W' hd _ ro => ?_⟩
  subst hd
  have r := ro.1
  cases r
  rfl
end Ld

/-! Value layer, part 13: enumerate of a tuple; max and min of a list. -/
namespace Ld
open PySem PySem.Spec PyProof.Rows L2

set_option maxHeartbeats 1000000 in
theorem meets_enum_new1 {v : Value} {o : Obj} {H : Heap → Prop} (B : Begins v o H) :
    Meets (Builtin.«enumerate.__new__» ⟨[.type "enumerate", v], []⟩) (fun _ R s => H s.heap ∧
      R (.ok (.ret (.ref (s.heap.push o).objs.size))) { s with heap := (s.heap.push o).push { cls := .type "enumerate", data := .fields #[.none, .bool false, .ref s.heap.objs.size, rawInt 0, .none, .none] } }) :=
  .of_wp fun prog w A R s h => by
    obtain ⟨hp, g, d, tk, os⟩ := s; obtain ⟨h1, h⟩ := h
    have hsub := sub_enumerate
    have q1 : ∀ {A' : Around} {E : Value → Shared → Prop} {Q : Value → Shared → Prop}, Q (.ref hp.objs.size) ⟨hp.push o, g, d, tk, os⟩ → wpAny (model prog w) A' (pyIter v) Q E ⟨hp, g, d, tk, os⟩ :=
      fun q => B.iter prog w _ _ ⟨hp, g, d, tk, os⟩ _ h1 q
    wp_walk using q1
    refine wpAny_stack_any fun st => wpAny_pure ?_
    split
    · rename_i c _ _ _ _ _
      cases (c == Value.type "enumerate")
      · wp_walk using q1
        exact ⟨_, rfl, h⟩
      · wp_walk using q1
        exact ⟨_, rfl, h⟩
    · wp_walk using q1
      exact ⟨_, rfl, h⟩
section
variable {prog : Program} {w : World} {A : Around} {E : Value → Shared → Prop} {s : Shared}
theorem enum_begins1 {v : Value} {o : Obj} {H : Heap → Prop} {Q : Value → Shared → Prop} (B : Begins v o H) (h1 : H s.heap)
    (h : ∀ h', IsEnum h' (s.heap.objs.size + 1) s.heap.objs.size 0 .none → h'.get? s.heap.objs.size = some o → h'.objs.size = s.heap.objs.size + 2 →
      (∀ b o, s.heap.get? b = some o → h'.get? b = some o) → Q (.ref (s.heap.objs.size + 1)) { s with heap := h' }) :
    wpAny (model prog w) A (call (.type "enumerate") [v]) Q E s := by
  refine callType_new F.called_enumerate (by decide) (F.typeCall_enumerate_1 _) (F.newCall_enumerate_1 _) (fun obj => F.args_object_init_2 obj _) F.entry_enumerate_new
    (meets_enum_new1 B) ⟨h1, ?_⟩
  have hz : (s.heap.push o).objs.size = s.heap.objs.size + 1 := Heap.size_push ..
  show _ ∧ _
  rw [hz]
  have he : IsEnum ((s.heap.push o).push { cls := .type "enumerate", data := .fields #[.none, .bool false, .ref s.heap.objs.size, rawInt 0, .none, .none] }) (s.heap.objs.size + 1) s.heap.objs.size 0 .none := by
    have := Heap.get?_push_size (s.heap.push o) (o := { cls := .type "enumerate", data := .fields #[.none, .bool false, .ref s.heap.objs.size, rawInt 0, .none, .none] }) rfl
    rw [hz] at this; exact this
  refine ⟨⟨_, he, rfl⟩, h _ he (Heap.get?_push_of_some _ (Heap.get?_push_size _ B.free)) (by rw [Heap.size_push, hz]) fun b o x => Heap.get?_push_of_some _ (Heap.get?_push_of_some _ x)⟩
end
theorem enum_endT {prog : Program} {w : World} {A : Around} {E : Value → Shared → Prop} {s : Shared} {e it a : Addr} {i : Nat} {items : Array Value} {old : Value} {Q : Option Value → Shared → Prop} (hh : A.handled = none)
    (he : IsEnum s.heap e it i old) (hit : s.heap.IsTupleIter it a i) (hl : s.heap.IsTuple a items) (hx : items[i]? = none)
    (hQ : ∀ h', Heap.ExtBut it s.heap h' → Q none { s with heap := h' }) : wpAny (model prog w) A (pyNext (.ref e)) Q E s := by
  have hT : s.TypeIs (.ref e) "enumerate" := ⟨_, he, rfl⟩
  unfold pyNext
  refine wpAny_bind (wpAny_attempt (wpAny_callSpecial?_slot (name := Str.ofString "__next__") hT F.slot_enumerate_next
    (wpAny_call_entry F.slot_enumerate_next hT F.entry_enumerate_next ?_ (F.args_enumerate_next_1 _))))
  show wpAny _ _ (field (.ref e) 2 >>= _) _ _ _
  refine wpAny_bind (wpAny_field he rfl (x := .ref it) rfl ?_)
  refine wpAny_bind (wpAny_nextOf_tuple_end (A := A.in1) hh hit hl hx fun h' x he' hx' => ?_)
  obtain ⟨o, ho, hc⟩ := hx'
  refine wpAny_bind (wpAny_isInstance (T := "StopIteration") (b := true) ⟨o, ho, hc⟩ isSubtype_stop ?_)
  exact wpAny_pure (hQ _ he')
/-- the tuple at a, each item in a new pair -/
def IteT (K : PySem.W.Frag) (a : Addr) : It :=
  ⟨fun i H => ∃ (xs : List V) (x : V), SqT K H a xs ∧ xs[i]? = some x, fun i H v H' => ∃ T x, v = .ref T ∧ H T = none ∧ H' = upd H T (.tup [.int (i : Nat), x]) ∧ ∀ xs, SqT K H a xs → xs[i]? = some x, fun i H => ∃ xs : List V, SqT K H a xs ∧ xs.length ≤ i⟩
theorem turn_enumT {P : Program} {w : World} {K : PySem.W.Frag} {elts : List Expr} {kk : Nat} {tpos : Pos} (a e it : Addr) :
    Turn P w K (.Tuple elts kk tpos) (IteT K a) [e, it] e (fun i h => (∃ old, IsEnum h e it ((i : Nat) : Int) old) ∧ h.IsTupleIter it a i ∧ e ≠ it ∧ a ≠ it ∧ a ≠ e) where
  mem := by simp
  obj := fun i h st b hb => by
    obtain ⟨⟨old, he⟩, ⟨o, ho, hc, hd⟩, _⟩ := st
    have e' : b = e ∨ b = it := by simpa using hb
    rcases e' with z | z
    · rw [z]; exact ⟨_, he, fun v q => nomatch q⟩
    · rw [z]; exact ⟨o, ho, fun v q => by rw [hd] at q; cases q⟩
  keep := fun i h h' st k => let ⟨⟨old, he⟩, hi, hne⟩ := st; ⟨⟨old, k e (by simp) _ he⟩, hi.at fun o q => k it (by simp) o q, hne⟩
  item := by
    intro X hP hw hK hc i pins s σ H E I hf st hg
    subst hP hw hK
    obtain ⟨⟨old, he⟩, hit, hne, hai, hae⟩ := st
    obtain ⟨xs, x, hq, hx⟩ := hg
    obtain ⟨its, rv, p, hz⟩ := I.tuple hq
    obtain ⟨u, hu, ru⟩ := rv.get hx
    have hel : e < s.heap.objs.size := Heap.lt_size he
    have hil : it < s.heap.objs.size := by obtain ⟨_, q, _⟩ := hit; exact Heap.lt_size q
    have hlt : i < its.toArray.size := by
      rw [List.size_toArray]
      exact (List.getElem?_eq_some_iff.mp hu).1
    refine wpAny_pyNext_enum_itemC (Draws.tuple (A := X.A.in1) (I.ok.hd hc) it a hai its.toArray) he ⟨hit, p⟩ hlt hne (by simp [hne, Ne.symm hae]) fun x' h' tk hP ho hs' hT hsz hk => ?_
    have hxu : x' = u := by
      have hP : its.toArray[i]? = some x' := hP
      rw [List.getElem?_toArray, hu] at hP
      exact (Option.some.inj hP).symm
    subst hxu
    refine ⟨_, rfl, wpAny_letOwnedTupleGo_enum (s := { s with heap := h', toks := tk + 1 }) ho fun h'' he' sb => ?_⟩
    have hT2 : h''.get? s.heap.objs.size = some { cls := .type "tuple", data := .seq #[.int i tk, x'] } := (sb.2 _ (Nat.ne_of_gt hel)).trans hT
    have new : ObjOk X.prog X.w (upd H s.heap.objs.size (.tup [.int (i : Nat), x])) h'' s.heap.objs.size (.tup [.int (i : Nat), x]) :=
      ⟨by show 2 ≤ sizeLine; decide, [.int i tk, x'], .cons ⟨_, rfl⟩ (.cons ru .nil), ⟨_, hT2, rfl, _, rfl⟩⟩
    have I1 : Inv X pins σ (upd H s.heap.objs.size (.tup [.int (i : Nat), x])) { s with heap := h'', toks := tk + 1 } :=
      I.turnedNew (ch := [e, it]) (fun b ob hb q => (sb.2 b (fun z => hb (by simp [z]))).trans (hk b ob (fun z => hb (by simp [z])) (fun z => hb (by simp [z])) q)) hf (Nat.le_refl _) new
    refine ⟨.ref s.heap.objs.size, _, I1, rfl, ⟨_, x, rfl, I.hok.fresh (Nat.le_refl _), rfl, fun ys hy => by rw [I.tuple_inj hy hq]; exact hx⟩, ⟨⟨x', ?_⟩, hs'.1.at fun o q => (sb.2 it (Ne.symm hne)).trans q, hne, hai, hae⟩, fun b hb => ?_⟩
    · have e1 : ((i + 1 : Nat) : Int) = (i : Int) + 1 := by omega
      rw [e1]; exact he'
    · have hb' : b < s.heap.objs.size := by
        have e' : b = e ∨ b = it := by simpa using hb
        rcases e' with z | z
        · rw [z]; exact hel
        · rw [z]; exact hil
      rw [upd_ne (Nat.ne_of_lt hb')]
      exact (hf b hb).1
  done := by
    intro X hP hw hK hc i pins s σ H E I hf st hg
    subst hP hw hK
    obtain ⟨⟨old, he⟩, hit, hne, hai, hae⟩ := st
    obtain ⟨xs, hq, hx⟩ := hg
    obtain ⟨its, rv, p, hz⟩ := I.tuple hq
    obtain ⟨f0, f1, f2, f3, f4, f5⟩ := hf it (by simp)
    have hl := rv.length
    exact enum_endT (I.ok.hd hc) he hit p (by simp; omega) fun h' eb => ⟨rfl, I.turned (t' := s.toks) (fun b o hb q => eb b o hb q) f0 f1 f3 f4 f5⟩
  self := fun A i s Q E st h => let ⟨⟨_, he⟩, _⟩ := st; wpAny_pyIter_enum he h
/-- enumerate of a list or tuple -/
def iEnumA (K : PySem.W.Frag) (ta : TA) : TI := fun σ H R => ta σ H fun vs H1 => ∃ a xs, vs = [.ref a] ∧ ((SqL K H1 a xs ∧ R (Ite K a) H1) ∨ (SqT K H1 a xs ∧ R (IteT K a) H1))
theorem pi_enumA {X : Cx} {e : Expr} {ta : TA} {p pos tpos : Pos} {elts : List Expr} {kk : Nat} (hg : Gl X "enumerate") (hm : X.mg "enumerate" = none) (ha : PA X [e] ta) (hs : starEach [e] X.env = [(false, eval e X.env)] := by rfl) :
    PI X (.Tuple elts kk tpos) (.Call (.Name "enumerate" p) [e] [] pos) (iEnumA X.K ta) := by
  refine ⟨fun pins s σ H R I h => ?_⟩
  refine Call_ (ld_blt I hg hm boot_enumerate (PyProof.Rows.callWith_type1 (thn (ha.run pos pins s σ H _ I h) fun us s1 ⟨vs, H1, I1, r1, q1⟩ => ?_) hs rfl))
  obtain ⟨a, xs, ex, q⟩ := q1
  subst ex
  cases r1 with
  | cons r rr =>
    cases rr
    cases r
    have new : ∀ b, b = s1.heap.objs.size + 1 ∨ b = s1.heap.objs.size → s1.heap.objs.size ≤ b := fun b e' => by
      rcases e' with z | z
      · rw [z]; exact Nat.le_add_right _ _
      · rw [z]; exact Nat.le_refl _
    rcases q with ⟨hq, q⟩ | ⟨hq, q⟩
    · obtain ⟨its, rv, p', hz⟩ := I1.list hq
      refine call_enumerate_list p'.isList fun h' he hit hsz hk => wpAny_pyIter_enum he ?_
      have I2 : Inv X pins σ H1 { s1 with heap := h' } := I1.kept (t' := s1.toks) hk
      refine ⟨s1.heap.objs.size + 1, [s1.heap.objs.size + 1, s1.heap.objs.size], _, _, H1, rfl, I2, turn_enum a (s1.heap.objs.size + 1) s1.heap.objs.size, ⟨⟨.none, he⟩, hit, Nat.succ_ne_self _⟩, fun b hb => ?_, q⟩
      have hle := new b (by simpa using hb)
      exact I1.fpOk hle (I1.hok.fresh hle)
    · obtain ⟨its, rv, p', hz⟩ := I1.tuple hq
      have hlt : a < s1.heap.objs.size := by obtain ⟨_, e, _⟩ := p'; exact Heap.lt_size e
      refine enum_begins1 (begins_tuple a its.toArray) p' fun h' he hit hsz hk => wpAny_pyIter_enum he ?_
      have I2 : Inv X pins σ H1 { s1 with heap := h' } := I1.kept (t' := s1.toks) hk
      refine ⟨s1.heap.objs.size + 1, [s1.heap.objs.size + 1, s1.heap.objs.size], _, _, H1, rfl, I2, turn_enumT a (s1.heap.objs.size + 1) s1.heap.objs.size, ⟨⟨.none, he⟩, ⟨_, hit, rfl, rfl⟩, Nat.succ_ne_self _, Nat.ne_of_lt hlt, Nat.ne_of_lt (Nat.lt_succ_of_lt hlt)⟩, fun b hb => ?_, q⟩
      have hle := new b (by simpa using hb)
      exact I1.fpOk hle (I1.hok.fresh hle)
theorem walk_enumT {K : PySem.W.Frag} {a : Addr} {xs : List V} : Walk (IteT K a) xs.length (fun H => SqT K H a xs) (YPair (fun i => some (.int (i : Nat))) (fun i => xs[i]?)) := by
  refine ⟨fun i _ hi q => ⟨xs, xs[i], q, by simp [hi]⟩, fun _ q => ⟨xs, q, Nat.le_refl _⟩, fun i H v H' _ q y => ?_⟩
  obtain ⟨T, x, h1, h2, h3, h4⟩ := y
  exact ⟨T, .int (i : Nat), x, h1, h2, h3, rfl, h4 xs q⟩
section
variable {S : Type} {K : PySem.W.Frag} {B : Bs S}
def wEnumA (we : WE S) (ρ : Env) (s : S) (Q : List D → Env → S → Prop) : Prop := we ρ s fun h ρ1 s1 => useK h ρ1 fun d ρ2 => match d with
  | .lst ds => Q (enumD ds) ρ2 s1
  | .tup ds => Q (enumD ds) ρ2 s1
  | .scr ds => Q (enumD ds) ρ2 s1
  | _ => False
theorem TupAt.mono {F G : Hp} {a : Addr} {xs : List V} (s : Sub F G) (h : TupAt K F a xs) : TupAt K G a xs := h.imp (s _ _) id
theorem SimI.enumA {te : TE} {we : WE S} (he : SimE K B te we) : SimI K B (iEnumA K (tCons te tNil)) (wEnumA we) := fun c s ρ σ Q R' R hw q => by
  refine he c s ρ σ _ _ R hw fun h ρ1 s1 v c1 hw R1 e1 o1 => ?_
  obtain ⟨d, ρ2, c2, hw, eh, R2, e2, r⟩ := use_ok R1 o1 hw
  cases d with
  | lst ds =>
    cases r with
    | lst h r =>
      rename_i a vs
      refine ⟨a, vs, rfl, .inl ⟨by rw [← eh]; exact .inl (R2.fsub.rd h), ?_⟩⟩
      rw [← eh]
      refine q _ _ _ _ c2 _ _ hw R2 (e1.trans e2) (wk_pair (F := fun _ => none) (G' := fun _ => none) (n := vs.length) (by rw [enumD_len, r.length]) walk_enum (fun c1 s ρ σ R sb => .inl (R.fsub.rd (sb.rd h))) fun i x y hi h1 h2 => ?_)
      cases h1
      obtain ⟨dy, hd, ry⟩ := r.getV h2
      exact ⟨.int i, dy, enumD_get hd, .int _, ry⟩
  | scr ds =>
    cases r with
    | scr h r =>
      rename_i a vs
      refine ⟨a, vs, rfl, .inl ⟨by rw [← eh]; exact R2.fsub.seqL h, ?_⟩⟩
      rw [← eh]
      refine q _ _ _ _ c2 _ _ hw R2 (e1.trans e2) (wk_pair (F := fun _ => none) (G' := fun _ => none) (n := vs.length) (by rw [enumD_len, r.length]) walk_enum (fun c1 s ρ σ R sb => R.fsub.seqL (sb.seqL h)) fun i x y hi h1 h2 => ?_)
      cases h1
      obtain ⟨dy, hd, ry⟩ := r.getV h2
      exact ⟨.int i, dy, enumD_get hd, .int _, ry⟩
  | tup ds =>
    cases r with
    | tup h r =>
      rename_i a vs
      refine ⟨a, vs, rfl, .inr ⟨by rw [← eh]; exact (h.mono R2.fsub).sq, ?_⟩⟩
      rw [← eh]
      refine q _ _ _ _ c2 _ _ hw R2 (e1.trans e2) (wk_pair (F := fun _ => none) (G' := fun _ => none) (n := vs.length) (by rw [enumD_len, r.length]) walk_enumT (fun c1 s ρ σ R sb => ((h.mono sb).mono R.fsub).sq) fun i x y hi h1 h2 => ?_)
      cases h1
      obtain ⟨dy, hd, ry⟩ := r.getV h2
      exact ⟨.int i, dy, enumD_get hd, .int _, ry⟩
  | _ => exact hw.elim
theorem si_enumA {X : Cx} {B : Bs S} {e : Expr} {te : TE} {we : WE S} {p pos tpos : Pos} {elts : List Expr} {kk : Nat} (hm : X.mg "enumerate" = none) (h : SE X B e te we) (hg : Gl X "enumerate" := by rfl) (hs : starEach [e] X.env = [(false, eval e X.env)] := by rfl) (hK : X.K = B.K := by rfl)  :
    SI X B (.Tuple elts kk tpos) (.Call (.Name "enumerate" p) [e] [] pos) (iEnumA B.K (tCons te tNil)) (wEnumA we) := ⟨hK ▸ (pi_enumA hg hm (pa_cons h.pe pa_nil hs) hs), SimI.enumA h.sim⟩
theorem e_wEnumA {we : WE S} {ρ : Env} {s : S} {Q : List D → Env → S → Prop} : wEnumA we ρ s Q = (we ρ s fun h ρ1 s1 => useK h ρ1 fun d ρ2 => match d with
  | .lst ds => Q (enumD ds) ρ2 s1
  | .tup ds => Q (enumD ds) ρ2 s1
  | .scr ds => Q (enumD ds) ρ2 s1
  | _ => False) := nr rfl
end
/-! ### max and min of whole numbers -/
section
variable {X : Cx}

def maxI (n : Int) (ns : List Int) : Int := ns.foldl (fun a y => if a < y then y else a) n
def minI (n : Int) (ns : List Int) : Int := ns.foldl (fun a y => if y < a then y else a) n
def rBestI (K : PySem.W.Frag) (f : Int → List Int → Int) : List V → Hp → VK → Prop := fun vs H Q => ∃ (a : Addr) (n : Int) (ns : List Int), vs = [V.ref a] ∧ (SqL K H a ((n :: ns).map V.int) ∨ SqT K H a ((n :: ns).map V.int)) ∧ Q (.int (f n ns)) H
theorem holds_ints {h : Heap} : ∀ {ns : List Int} {its : List Value}, Vals (ns.map V.int) its → PySem.W.HoldAll h its ns
  | [], _, r => by cases r; exact ⟨_, .nil⟩
  | n :: ns, _, r => by
    cases r with
    | cons r rr =>
      obtain ⟨t, rfl⟩ := r
      exact PySem.W.HoldAll.cons (PySem.W.holds_int n t) (holds_ints rr)
theorem maxOf_I (n : Int) (ns : List Int) : PySem.W.maxOf n ns = maxI n ns := by
  unfold PySem.W.maxOf maxI
  congr 1
  funext a y
  show (if decide (a < y) = true then y else a) = _
  simp
theorem minOf_I (n : Int) (ns : List Int) : PySem.W.minOf n ns = minI n ns := by
  unfold PySem.W.minOf minI
  congr 1
  funext a y
  show (if decide (y < a) = true then y else a) = _
  simp
theorem cr_maxI (hc : X.calm = true) (hu : X.A.units + 64 < cLine) : CallR X (.builtin "max") (rBestI X.K maxI) := by
  intro pins s σ H vs us Q I r h
  obtain ⟨a, n, ns, rfl, hs, q⟩ := h
  rw [Vals.ref1 r]
  rcases hs with hs | hs
  · obtain ⟨its, rv, hl, _⟩ := I.list hs
    refine PySem.W.max_list_datum (α := Int) (x := n) (xs := ns) (I.ok.hd hc) hl.isList (holds_ints rv) (by show X.A.units + 1 + 0 < cLine; omega) fun i v h' tk hi HH hk => ?_
    obtain ⟨t, rfl⟩ := PySem.W.int_of_holds HH
    exact ⟨.int (maxI n ns), H, I.kept (t' := tk) hk, ⟨t, by rw [maxOf_I]⟩, q⟩
  · obtain ⟨its, rv, hl, _⟩ := I.tuple hs
    refine PySem.W.max_tuple_datum (α := Int) (x := n) (xs := ns) (I.ok.hd hc) hl (holds_ints rv) (by show X.A.units + 1 + 0 < cLine; omega) fun i v h' tk hi HH hk => ?_
    obtain ⟨t, rfl⟩ := PySem.W.int_of_holds HH
    exact ⟨.int (maxI n ns), H, I.kept (t' := tk) hk, ⟨t, by rw [maxOf_I]⟩, q⟩
theorem cr_minI (hc : X.calm = true) (hu : X.A.units + 64 < cLine) : CallR X (.builtin "min") (rBestI X.K minI) := by
  intro pins s σ H vs us Q I r h
  obtain ⟨a, n, ns, rfl, hs, q⟩ := h
  rw [Vals.ref1 r]
  rcases hs with hs | hs
  · obtain ⟨its, rv, hl, _⟩ := I.list hs
    refine PySem.W.min_list_datum (α := Int) (x := n) (xs := ns) (I.ok.hd hc) hl.isList (holds_ints rv) (by show X.A.units + 1 + 0 < cLine; omega) fun i v h' tk hi HH hk => ?_
    obtain ⟨t, rfl⟩ := PySem.W.int_of_holds HH
    exact ⟨.int (minI n ns), H, I.kept (t' := tk) hk, ⟨t, by rw [minOf_I]⟩, q⟩
  · obtain ⟨its, rv, hl, _⟩ := I.tuple hs
    refine PySem.W.min_tuple_datum (α := Int) (x := n) (xs := ns) (I.ok.hd hc) hl (holds_ints rv) (by show X.A.units + 1 + 0 < cLine; omega) fun i v h' tk hi HH hk => ?_
    obtain ⟨t, rfl⟩ := PySem.W.int_of_holds HH
    exact ⟨.int (minI n ns), H, I.kept (t' := tk) hk, ⟨t, by rw [minOf_I]⟩, q⟩
end
/-- max or min on data -/
def dBestI (f : Int → List Int → Int) (xs : List D) : Option D := match xs with
  | [.lst ds] => match intsD ds with
    | some (n :: ns) => some (.int (f n ns))
    | _ => none
  | [.tup ds] => match intsD ds with
    | some (n :: ns) => some (.int (f n ns))
    | _ => none
  | _ => none
section
variable {S : Type} {K : PySem.W.Frag} {B : Bs S}
theorem rule_bestI (f : Int → List Int → Int) : RuleC K B (rBestI K f) (dBestI f) := fun c s ρ σ vs ds z Q' R rx e q => by
  unfold dBestI at e
  split at e
  · split at e
    · rename_i xs n ns hi
      cases e
      obtain ⟨v, rfl, r1⟩ := rx.one
      obtain ⟨a, ws, rfl, h, r⟩ := r1.lst R
      have e2 := intsD_some hi
      subst e2
      have e3 := r.ints
      subst e3
      exact ⟨a, n, ns, rfl, .inl (.inl h), q _ c R (Ev.refl c) (.int _)⟩
    · cases e
  · split at e
    · rename_i xs n ns hi
      cases e
      obtain ⟨v, rfl, r1⟩ := rx.one
      obtain ⟨a, ws, rfl, h, r⟩ := r1.tup R
      have e2 := intsD_some hi
      subst e2
      have e3 := r.ints
      subst e3
      exact ⟨a, n, ns, rfl, .inr h, q _ c R (Ev.refl c) (.int _)⟩
    · cases e
  · cases e
end
section
variable {S : Type} {X : Cx} {B : Bs S} {e : Expr} {es : List Expr} {t : TA} {w : WA S} {p pos : Pos}
theorem se_maxL (hu : X.A.units + 64 < cLine) (hm : X.mg "max" = none) (hc : X.calm = true) (ha : SA X B (e :: es) t w) (hg : Gl X "max" := by rfl) (he : starEach (e :: es) X.env = (false, eval e X.env) :: starEach es X.env := by rfl) (hpl : (backTo pos (starEach es X.env)).any (·.1) = false := by rfl) (hK : X.K = B.K := by rfl)  : SE X B (.Call (.Name "max" p) (e :: es) [] pos) (tCB (rBestI B.K maxI) t) (wCallB (dBestI maxI) w) := se_callB (hK ▸ (cr_maxI hc hu)) (rule_bestI maxI) (by decide +kernel) (by decide) (by decide) hm ha hg he hpl
theorem se_minL (hu : X.A.units + 64 < cLine) (hm : X.mg "min" = none) (hc : X.calm = true) (ha : SA X B (e :: es) t w) (hg : Gl X "min" := by rfl) (he : starEach (e :: es) X.env = (false, eval e X.env) :: starEach es X.env := by rfl) (hpl : (backTo pos (starEach es X.env)).any (·.1) = false := by rfl) (hK : X.K = B.K := by rfl)  : SE X B (.Call (.Name "min" p) (e :: es) [] pos) (tCB (rBestI B.K minI) t) (wCallB (dBestI minI) w) := se_callB (hK ▸ (cr_minI hc hu)) (rule_bestI minI) (by decide +kernel) (by decide) (by decide) hm ha hg he hpl
end
theorem dBest_lst {f : Int → List Int → Int} {n : Int} {ns : List Int} : dBestI f [.lst ((n :: ns).map D.int)] = some (.int (f n ns)) := by
  simp only [dBestI, intsD_map]
theorem dBest_tup {f : Int → List Int → Int} {n : Int} {ns : List Int} : dBestI f [.tup ((n :: ns).map D.int)] = some (.int (f n ns)) := by
  simp only [dBestI, intsD_map]
end Ld
namespace Ld
open PySem PySem.Spec PyProof.Rows L2
section
variable {S : Type} {X : Cx} {B : Bs S}
theorem op_eqB (hu : X.A.units + 64 < cLine) (hK : X.K = B.K := by rfl) : OpR X (compareOp .Eq) (rEqD B.K) := hK ▸ op_eqD hu
theorem op_neB (hu : X.A.units + 64 < cLine) (hK : X.K = B.K := by rfl) : OpR X (compareOp .NotEq) (rNeD B.K) := hK ▸ op_neD hu
theorem op_inB (hK : X.K = B.K := by rfl) : OpR X (compareOp .In) (rIn B.K false) := hK ▸ op_in_seq
theorem op_notInB (hK : X.K = B.K := by rfl) : OpR X (compareOp .NotIn) (rIn B.K true) := hK ▸ op_notIn_seq
end
end Ld

/-! Value layer, part 14: how comprehensions are reckoned. -/
namespace Ld
open PySem PySem.Spec PyProof.Rows L2
section
variable {S : Type}
/-- a comprehension, by what holds ahead of each round -/
theorem lc_inv {vs : List Nat} {wg : WG S} {wt : WT S} {we : WE S} {Q : List D → Env → S → Prop} (P : Nat → List D → Env → S → Prop) : ∀ (ds : List D) (k : Nat) {acc : List D} {ρ : Env} {s : S}, P k acc ρ s →
    (∀ j d acc ρ s (f : List D → Env → S → Prop), ds[j]? = some d → P (k + j) acc ρ s → (∀ acc ρ s, P (k + j + 1) acc ρ s → f acc ρ s) →
      wg d ρ s fun ρ2 s2 => wt ρ2 s2 fun b ρ3 s3 => if b = true then we ρ3 s3 fun h ρ4 s4 => useK h ρ4 fun y ρ5 => acc.length < sizeLine ∧ f (acc ++ [y]) (wipeD ρ5 vs) s4 else f acc (wipeD ρ3 vs) s3) →
    (∀ acc ρ s, P (k + ds.length) acc ρ s → Q acc ρ s) → wLcL vs wg wt we Q ds acc ρ s
  | [], k, acc, ρ, s, h0, hb, hN => hN acc ρ s h0
  | d :: ds, k, acc, ρ, s, h0, hb, hN => by
    refine hb 0 d acc ρ s (wLcL vs wg wt we Q ds) rfl h0 fun acc1 ρ1 s1 h1 => ?_
    refine lc_inv P ds (k + 1) h1 (fun j d acc ρ s f e h hf => ?_) fun acc ρ s h => ?_
    · refine hb (j + 1) d acc ρ s f e (by rw [← Nat.add_assoc, Nat.add_right_comm]; exact h) fun acc ρ s h => hf acc ρ s ?_
      have e : k + 1 + j + 1 = k + (j + 1) + 1 := by omega
      rw [e]; exact h
    · refine hN acc ρ s ?_
      have e : k + (d :: ds).length = k + 1 + ds.length := by rw [List.length_cons]; omega
      rw [e]; exact h
theorem lc_upto {vs : List Nat} {wg : WG S} {wt : WT S} {we : WE S} {Q : List D → Env → S → Prop} {lo : Int} {n : Nat} {acc : List D} {ρ : Env} {s : S} (P : Nat → List D → Env → S → Prop) (h0 : P 0 acc ρ s)
    (hb : ∀ (j : Nat) acc ρ s (f : List D → Env → S → Prop), j < n → P j acc ρ s → (∀ acc ρ s, P (j + 1) acc ρ s → f acc ρ s) →
      wg (.int (lo + j)) ρ s fun ρ2 s2 => wt ρ2 s2 fun b ρ3 s3 => if b = true then we ρ3 s3 fun h ρ4 s4 => useK h ρ4 fun y ρ5 => acc.length < sizeLine ∧ f (acc ++ [y]) (wipeD ρ5 vs) s4 else f acc (wipeD ρ3 vs) s3)
    (hN : ∀ acc ρ s, P n acc ρ s → Q acc ρ s) : wLcL vs wg wt we Q (upto lo n) acc ρ s := by
  refine lc_inv P _ 0 h0 (fun j d acc ρ s f e h hf => ?_) fun acc ρ s h => ?_
  · obtain ⟨h1, rfl⟩ := upto_get n lo j d e
    exact hb j acc ρ s f h1 (by simpa using h) (by simpa using hf)
  · rw [upto_len, Nat.zero_add] at h
    exact hN acc ρ s h
theorem e_wipe_nil {ρ : Env} : wipeD ρ [] = ρ := nr rfl
theorem e_wipe_cons {ρ : Env} {v : Nat} {vs : List Nat} : wipeD ρ (v :: vs) = (wipeD ρ vs).set v .emp := nr rfl
theorem e_back_nil {ρ0 ρ : Env} : backD ρ0 [] ρ = ρ := nr rfl
theorem e_back_cons {ρ0 ρ : Env} {v : Nat} {vs : List Nat} : backD ρ0 (v :: vs) ρ = (backD ρ0 vs ρ).set v (match ρ0[v]? with | some (.val d) => .val d | _ => .emp) := nr rfl
end
end Ld

/-! Value layer, part 15: loops and comprehensions over rows of any kind, slices of whole numbers. -/
namespace Ld
open PySem PySem.Spec PyProof.Rows L2
section
variable {S : Type}
theorem cutL_ints {ns : List Int} {lo hi : Option Int} : cutL (ns.map D.int) lo hi = (cutL ns lo hi).map D.int := by
  unfold cutL
  rw [List.length_map, List.map_take, List.map_drop]
theorem e_wGs_nil {ρ : Env} {s : S} {Q : Env → S → Prop} : wGs [] [] ρ s Q = Q ρ s := nr rfl
theorem e_wGs_cons {g : WG S} {gs : List (WG S)} {d : D} {ds : List D} {ρ : Env} {s : S} {Q : Env → S → Prop} : wGs (g :: gs) (d :: ds) ρ s Q = (g d ρ s fun ρ1 s1 => wGs gs ds ρ1 s1 Q) := nr rfl
/-- a loop with any targets, by what holds ahead of each round -/
theorem for_invG {wg : WG S} {wb : WS S} {N : DE S} (P : Nat → Env → S → Prop) : ∀ (ds : List D) (k : Nat) {ρ : Env} {s : S}, P k ρ s →
    (∀ j d ρ s f, ds[j]? = some d → P (k + j) ρ s → (∀ ρ s, P (k + j + 1) ρ s → f ρ s) → wg d ρ s fun ρ1 s1 => wb ⟨f, N.rt, N.nx, f⟩ ρ1 s1) →
    (∀ ρ s, P (k + ds.length) ρ s → N.nx ρ s) → wForL wg wb N ds ρ s
  | [], k, ρ, s, h0, hb, hN => hN ρ s h0
  | d :: ds, k, ρ, s, h0, hb, hN => by
    rw [wForL_cons]
    refine hb 0 d ρ s (wForL wg wb N ds) rfl h0 fun ρ1 s1 h1 => ?_
    refine for_invG P ds (k + 1) h1 (fun j d ρ s f e h hf => ?_) fun ρ s h => ?_
    · refine hb (j + 1) d ρ s f e (by rw [← Nat.add_assoc, Nat.add_right_comm]; exact h) fun ρ s h => hf ρ s ?_
      have e : k + 1 + j + 1 = k + (j + 1) + 1 := by omega
      rw [e]; exact h
    · refine hN ρ s ?_
      have e : k + (d :: ds).length = k + 1 + ds.length := by rw [List.length_cons]; omega
      rw [e]; exact h
/-- .. over rows that a number gives -/
theorem for_rng {α : Type} {wg : WG S} {wb : WS S} {N : DE S} {g : Nat → D} {n : Nat} {ρ : Env} {s : S} (P : Nat → Env → S → Prop) (h0 : P 0 ρ s)
    (hb : ∀ (j : Nat) ρ s f, j < n → P j ρ s → (∀ ρ s, P (j + 1) ρ s → f ρ s) → wg (g j) ρ s fun ρ1 s1 => wb ⟨f, N.rt, N.nx, f⟩ ρ1 s1)
    (hN : ∀ ρ s, P n ρ s → N.nx ρ s) : wForL wg wb N ((List.range n).map g) ρ s := by
  refine for_invG P _ 0 h0 (fun j d ρ s f e h hf => ?_) fun ρ s h => ?_
  · rw [List.getElem?_map] at e
    by_cases hj : j < n
    · rw [List.getElem?_range hj] at e
      cases e
      exact hb j ρ s f hj (by simpa using h) (by simpa using hf)
    · rw [List.getElem?_eq_none (by rw [List.length_range]; omega)] at e
      cases e
  · rw [List.length_map, List.length_range, Nat.zero_add] at h
    exact hN ρ s h
theorem enumD_some {ds : List D} {j : Nat} {d : D} (h : (enumD ds)[j]? = some d) : ∃ x, ds[j]? = some x ∧ d = .tup [.int j, x] := by
  have hj := (List.getElem?_eq_some_iff.mp h).1
  rw [enumD_len] at hj
  have e : ds[j]? = some ds[j] := List.getElem?_eq_getElem hj
  rw [enumD_get e] at h
  cases h
  exact ⟨_, e, rfl⟩
theorem map_int_some {α : Type} {g : α → D} {ns : List α} {j : Nat} {d : D} (h : (ns.map g)[j]? = some d) : ∃ x, ns[j]? = some x ∧ d = g x := by
  rw [List.getElem?_map] at h
  cases e : ns[j]? with
  | none => rw [e] at h; cases h
  | some x => rw [e] at h; cases h; exact ⟨x, rfl, rfl⟩
/-- for i, x in enumerate(ints) -/
theorem for_enum {wb : WS S} {a b : Nat} {N : DE S} {ns : List Int} {ρ : Env} {s : S} (P : Nat → Env → S → Prop) (h0 : P 0 ρ s)
    (hb : ∀ (j : Nat) x ρ s f, ns[j]? = some x → P j ρ s → (∀ ρ s, P (j + 1) ρ s → f ρ s) → wb ⟨f, N.rt, N.nx, f⟩ ((ρ.set a (.val (.int j))).set b (.val (.int x))) s)
    (hN : ∀ ρ s, P ns.length ρ s → N.nx ρ s) : wForL (wGTup [wName a, wName b]) wb N (enumD (ns.map D.int)) ρ s := by
  refine for_invG P _ 0 h0 (fun j d ρ s f e h hf => ?_) fun ρ s h => ?_
  · obtain ⟨y, hy, rfl⟩ := enumD_some e
    obtain ⟨x, hx, rfl⟩ := map_int_some hy
    exact ⟨rfl, hb j x ρ s f hx (by simpa using h) (by simpa using hf)⟩
  · rw [enumD_len, List.length_map, Nat.zero_add] at h
    exact hN ρ s h
theorem lc_upto0 {vs : List Nat} {wg : WG S} {wt : WT S} {we : WE S} {Q : List D → Env → S → Prop} {n : Nat} {acc : List D} {ρ : Env} {s : S} (P : Nat → List D → Env → S → Prop) (h0 : P 0 acc ρ s)
    (hb : ∀ (j : Nat) acc ρ s (f : List D → Env → S → Prop), j < n → P j acc ρ s → (∀ acc ρ s, P (j + 1) acc ρ s → f acc ρ s) →
      wg (.int j) ρ s fun ρ2 s2 => wt ρ2 s2 fun b ρ3 s3 => if b = true then we ρ3 s3 fun h ρ4 s4 => useK h ρ4 fun y ρ5 => acc.length < sizeLine ∧ f (acc ++ [y]) (wipeD ρ5 vs) s4 else f acc (wipeD ρ3 vs) s3)
    (hN : ∀ acc ρ s, P n acc ρ s → Q acc ρ s) : wLcL vs wg wt we Q (upto 0 n) acc ρ s := by
  refine lc_upto P h0 (fun j acc ρ s f h1 h2 h3 => ?_) hN
  rw [Int.zero_add]
  exact hb j acc ρ s f h1 h2 h3
/-- a comprehension over rows that a number gives -/
theorem lc_rng {vs : List Nat} {wg : WG S} {wt : WT S} {we : WE S} {Q : List D → Env → S → Prop} {g : Nat → D} {n : Nat} {acc : List D} {ρ : Env} {s : S} (P : Nat → List D → Env → S → Prop) (h0 : P 0 acc ρ s)
    (hb : ∀ (j : Nat) acc ρ s (f : List D → Env → S → Prop), j < n → P j acc ρ s → (∀ acc ρ s, P (j + 1) acc ρ s → f acc ρ s) →
      wg (g j) ρ s fun ρ2 s2 => wt ρ2 s2 fun b ρ3 s3 => if b = true then we ρ3 s3 fun h ρ4 s4 => useK h ρ4 fun y ρ5 => acc.length < sizeLine ∧ f (acc ++ [y]) (wipeD ρ5 vs) s4 else f acc (wipeD ρ3 vs) s3)
    (hN : ∀ acc ρ s, P n acc ρ s → Q acc ρ s) : wLcL vs wg wt we Q ((List.range n).map g) acc ρ s := by
  refine lc_inv P _ 0 h0 (fun j d acc ρ s f e h hf => ?_) fun acc ρ s h => ?_
  · obtain ⟨i, hi, rfl⟩ := map_int_some e
    have hj : j < n := by
      have := (List.getElem?_eq_some_iff.mp hi).1
      rwa [List.length_range] at this
    rw [List.getElem?_range hj] at hi
    cases hi
    exact hb j acc ρ s f hj (by simpa using h) (by simpa using hf)
  · rw [List.length_map, List.length_range, Nat.zero_add] at h
    exact hN acc ρ s h
theorem lc_ints {vs : List Nat} {wg : WG S} {wt : WT S} {we : WE S} {Q : List D → Env → S → Prop} {ns : List Int} {acc : List D} {ρ : Env} {s : S} (P : Nat → List D → Env → S → Prop) (h0 : P 0 acc ρ s)
    (hb : ∀ (j : Nat) x acc ρ s (f : List D → Env → S → Prop), ns[j]? = some x → P j acc ρ s → (∀ acc ρ s, P (j + 1) acc ρ s → f acc ρ s) →
      wg (.int x) ρ s fun ρ2 s2 => wt ρ2 s2 fun b ρ3 s3 => if b = true then we ρ3 s3 fun h ρ4 s4 => useK h ρ4 fun y ρ5 => acc.length < sizeLine ∧ f (acc ++ [y]) (wipeD ρ5 vs) s4 else f acc (wipeD ρ3 vs) s3)
    (hN : ∀ acc ρ s, P ns.length acc ρ s → Q acc ρ s) : wLcL vs wg wt we Q (ns.map D.int) acc ρ s := by
  refine lc_inv P _ 0 h0 (fun j d acc ρ s f e h hf => ?_) fun acc ρ s h => ?_
  · obtain ⟨x, hx, rfl⟩ := map_int_some e
    exact hb j x acc ρ s f hx (by simpa using h) (by simpa using hf)
  · rw [List.length_map, Nat.zero_add] at h
    exact hN acc ρ s h
theorem map_upto0 (n : Nat) : upto 0 n = (List.range n).map fun (i : Nat) => D.int i := by
  unfold upto
  apply List.map_congr_left
  intro i _
  simp
theorem rng_get {α : Type} {g : Nat → α} {n i : Nat} (h : i < n) : ((List.range n).map g)[i]? = some (g i) := by
  rw [List.getElem?_map, List.getElem?_range h]
  rfl
theorem rng_len {α : Type} {g : Nat → α} {n : Nat} : ((List.range n).map g).length = n := by simp
theorem rng_succ {α : Type} {g : Nat → α} {n : Nat} : (List.range (n + 1)).map g = (List.range n).map g ++ [g n] := by simp [List.range_succ]
theorem getD_all' {α : Type} {p : α → Prop} {ns : List α} {d : α} (h : ∀ x ∈ ns, p x) {i : Nat} (hi : i < ns.length) : p (ns.getD i d) := by
  rw [List.getD_eq_getElem?_getD, List.getElem?_eq_getElem hi]
  exact h _ (List.getElem_mem hi)
theorem bestL_ints {f : Int → List Int → Int} {ns : List Int} {k : D → Prop} : onS (dBestI f [.lst (ns.map D.int)]) k = (ns ≠ [] ∧ k (.int (f (ns.headD 0) ns.tail))) := by
  cases ns with
  | nil => simp [dBestI, intsD, onS]
  | cons n ns => rw [dBest_lst]; simp
theorem bestT_ints {f : Int → List Int → Int} {ns : List Int} {k : D → Prop} : onS (dBestI f [.tup (ns.map D.int)]) k = (ns ≠ [] ∧ k (.int (f (ns.headD 0) ns.tail))) := by
  cases ns with
  | nil => simp [dBestI, intsD, onS]
  | cons n ns => rw [dBest_tup]; simp
theorem ixN_i {n : Nat} {k : Int} {P : Nat → Prop} (h0 : 0 ≤ k) (h1 : k < n) (q : P k.toNat) : onS (ixN n k) P := by
  unfold ixN
  rw [if_pos h0, if_pos h1]
  exact q
theorem map_set_int {ns : List Int} {j : Nat} {v : Int} : (ns.map D.int).set j (.int v) = (ns.set j v).map D.int := by
  rw [List.map_set]
theorem getD_set_same {ns : List Int} {j : Nat} {v : Int} (h : j < ns.length) : (ns.set j v).getD j 0 = v := by
  rw [List.getD_eq_getElem?_getD, List.getElem?_set_self h]
  rfl
theorem all_flat_ints (ns : List Int) : (ns.map D.int).all flat = true := by
  rw [List.all_eq_true]
  intro d hd
  obtain ⟨x, _, rfl⟩ := List.mem_map.mp hd
  rfl
/-- a comprehension with a test that changes nothing -/
theorem lc_filtA {α : Type} {vs : List Nat} {wg : WG S} {wt : WT S} {we : WE S} {Q : List D → Env → S → Prop} {g h : α → D} (p : α → Bool) {ρ : Env} {s : S} : ∀ (xs : List α) (acc : List D), acc.length + xs.length < 16777216 →
    (∀ x ∈ xs, ∀ acc (f : List D → Env → S → Prop), acc.length < sizeLine → f (if p x = true then acc ++ [h x] else acc) ρ s →
      wg (g x) ρ s fun ρ2 s2 => wt ρ2 s2 fun b ρ3 s3 => if b = true then we ρ3 s3 fun h ρ4 s4 => useK h ρ4 fun y ρ5 => acc.length < sizeLine ∧ f (acc ++ [y]) (wipeD ρ5 vs) s4 else f acc (wipeD ρ3 vs) s3) →
    Q (acc ++ (xs.filter p).map h) ρ s → wLcL vs wg wt we Q (xs.map g) acc ρ s
  | [], acc, hn, hb, hN => by simpa [wLcL] using hN
  | x :: xs, acc, hn, hb, hN => by
    rw [List.map_cons]
    rw [List.length_cons] at hn
    refine hb x (by simp) acc (wLcL vs wg wt we Q (xs.map g)) (sizeLine_lt (by omega)) ?_
    refine lc_filtA p xs _ ?_ (fun y hy => hb y (by simp [hy])) ?_
    · split
      · simp; omega
      · omega
    · by_cases hp : p x = true
      · rw [if_pos hp]
        simpa [hp] using hN
      · rw [if_neg hp]
        simpa [hp] using hN
theorem lc_filt {α : Type} {vs : List Nat} {wg : WG S} {wt : WT S} {we : WE S} {Q : List D → Env → S → Prop} {g : α → D} (h : α → D) (p : α → Bool) {ρ : Env} {s : S} {xs : List α} (hn : xs.length < 16777216)
    (hb : ∀ x ∈ xs, ∀ acc (f : List D → Env → S → Prop), acc.length < sizeLine → f (if p x = true then acc ++ [h x] else acc) ρ s →
      wg (g x) ρ s fun ρ2 s2 => wt ρ2 s2 fun b ρ3 s3 => if b = true then we ρ3 s3 fun h ρ4 s4 => useK h ρ4 fun y ρ5 => acc.length < sizeLine ∧ f (acc ++ [y]) (wipeD ρ5 vs) s4 else f acc (wipeD ρ3 vs) s3)
    (hN : Q ((xs.filter p).map h) ρ s) : wLcL vs wg wt we Q (xs.map g) [] ρ s := lc_filtA p xs [] (by simpa using hn) hb (by simpa using hN)
/-- .. without a test -/
theorem lc_map {α : Type} {vs : List Nat} {wg : WG S} {wt : WT S} {we : WE S} {Q : List D → Env → S → Prop} {g : α → D} (h : α → D) {ρ : Env} {s : S} {xs : List α} (hn : xs.length < 16777216)
    (hb : ∀ x ∈ xs, ∀ acc (f : List D → Env → S → Prop), acc.length < sizeLine → f (acc ++ [h x]) ρ s →
      wg (g x) ρ s fun ρ2 s2 => wt ρ2 s2 fun b ρ3 s3 => if b = true then we ρ3 s3 fun h ρ4 s4 => useK h ρ4 fun y ρ5 => acc.length < sizeLine ∧ f (acc ++ [y]) (wipeD ρ5 vs) s4 else f acc (wipeD ρ3 vs) s3)
    (hN : Q (xs.map h) ρ s) : wLcL vs wg wt we Q (xs.map g) [] ρ s :=
  lc_filt h (fun _ => true) hn (fun x hx acc f h1 h2 => hb x hx acc f h1 (by simpa using h2)) (by rw [List.filter_eq_self.mpr (fun _ _ => rfl)]; exact hN)
end
end Ld

/-! Value layer, part 16: gcd; sorted of any plain data. -/
namespace Ld
open PySem PySem.Spec PyProof.Rows L2
/-! ### gcd -/
def dGcd (xs : List D) : Option D := match xs with
  | [.int a, .int b] => some (.int ((Nat.gcd a.natAbs b.natAbs : Nat) : Int))
  | _ => none
section
variable {S : Type} {K : PySem.W.Frag} {X : Cx} {B : Bs S} {e : Expr} {es : List Expr} {t : TA} {w : WA S} {x : Str} {p pos : Pos}
theorem rule_gcd : RuleC K B rGcd dGcd := fun c s ρ σ vs ds z Q' R rx e q => by
  unfold dGcd at e
  split at e
  · rename_i a b
    cases e
    cases rx with
    | cons r1 r2 =>
      cases r2 with
      | cons r2 r3 =>
        cases r3
        exact ⟨a, b, by rw [r1.int, r2.int], q _ c R (Ev.refl c) (.int _)⟩
  · cases e
theorem se_gcd (hm : X.mg x = some (.builtin "math.gcd")) (ha : SA X B (e :: es) t w) (hg : Gl X x := by rfl) (hdb : (x == ("__debug__" : Str)) = false := by decide) (he : starEach (e :: es) X.env = (false, eval e X.env) :: starEach es X.env := by rfl) (hpl : (backTo pos (starEach es X.env)).any (·.1) = false := by rfl) :
    SE X B (.Call (.Name x p) (e :: es) [] pos) (tCB rGcd t) (wCallB dGcd w) := ⟨pe_callBfun cr_gcd hg hm ha.pa hdb he hpl, SimE.callB rule_gcd ha.sim⟩
theorem dGcd_int {i j : Int} : dGcd [.int i, .int j] = some (.int ((Nat.gcd i.natAbs j.natAbs : Nat) : Int)) := nr rfl
end
/-! ### sorted -/
def encP (p : V × D) : PyData := toPy p.2
def SortOk (ps : List PyData) : Prop := PySem.W.AllAlike ps ∧ PySem.W.Sortable ps
section
variable {prog : Program} {w : World} {A : Around} {E : Value → Shared → Prop} {s : Shared} {β : Type} {vs : List Value} {bs : List β} {enc : β → PyData} {R : Value → β → Prop}
open PySem.W PySem.Calls in
theorem collect_tuple {l : Addr} {vs : List Value} {Q : List Value → Shared → Prop} (hl : IsTup s.heap l vs.toArray)
    (h : Q vs { s with heap := (s.heap.push (seqObj "list" #[] 0)).update s.heap.objs.size (Obj.mapSeq (· ++ vs.toArray)) }) (hsz : vs.length ≤ sizeLine) :
    wpAny (model prog w) A (collect (.ref l)) Q E s := by
  obtain ⟨o, ho, hc, n, hd⟩ := id hl
  unfold collect
  refine wpAny_bind (wpAny_runValue (codeAny_builtin entry_proto_collect' ?_))
  show wpAny _ _ (do again (.builtin "list.__iadd__" ⟨[← newList [], .ref l], []⟩)) _ _ s
  refine wpAny_bind (wpAny_newList (wpAny_pure ⟨Code.quiet_builtin _ (by decide +kernel), codeAny_builtin entry_list_iadd' ?_⟩))
  show wpAny _ _ (Builtin.List.listExtendWith (.ref s.heap.objs.size) (.ref l) (.ref s.heap.objs.size)) _ _ { s with heap := s.heap.push (seqObj "list" #[] 0) }
  unfold Builtin.List.listExtendWith
  have ho' : (s.heap.push (seqObj "list" #[] 0)).get? l = some o := Heap.get?_push_of_some _ ho
  refine wpAny_bind (wpAny_typeOf (T := "tuple") ⟨o, ho', hc⟩ ?_)
  have ht : (Value.type "tuple" == Value.type "tuple") = true := by rfl
  rw [if_pos (by rw [ht]; simp)]
  refine wpAny_bind (listItems_at ho' hd ?_)
  refine wpAny_bind (listItems_at (xs := #[]) (n := 0) (Heap.get?_push_size _ rfl) rfl ?_)
  rw [if_neg (by simp)]
  refine wpAny_bind (listUpdate_at (xs := #[]) (n := 0) (Heap.get?_push_size _ rfl) rfl ?_ (Nat.zero_le _) (by show (#[] ++ vs.toArray).size ≤ sizeLine + 1; simp only [Array.size_append, List.size_toArray, List.length_nil]; omega))
  refine wpAny_pure ?_
  show wpAny (model prog w) A (do
      let o ← load s.heap.objs.size
      match o.data with
      | .seq xs _ => pure xs.toList
      | _ => unsupported "internal:collect") Q E { s with heap := (s.heap.push (seqObj "list" #[] 0)).update s.heap.objs.size (Obj.mapSeq (· ++ vs.toArray)) }
  refine wpAny_bind (wpAny_load (get?_update_seq (Heap.get?_push_size _ rfl) _) ?_)
  show wpAny _ _ (pure ((#[] : Array Value) ++ vs.toArray).toList) Q E _
  rw [show ((#[] : Array Value) ++ vs.toArray).toList = vs by simp]
  exact wpAny_pure h
open PySem.W PySem.Calls in
/-- sorted of a tuple -/
theorem sortedT_data {l : Addr} {rev : Bool} {kw : List (Str × Value)} {Q : Value → Shared → Prop} (hk0 : ∀ a, Builtin.«list.sort» ⟨[.ref a], kw⟩ = Builtin.«list.sort» ⟨[.ref a], [(Str.ofString "reverse", .bool rev)]⟩) (ha1 : argsOk "sorted" ⟨[.ref l], kw⟩) (ha2 : ∀ a, argsOk "list.sort" ⟨[.ref a], kw⟩)
    (hl : IsTup s.heap l vs.toArray) (e : EachIs R vs bs) (er : EachIs (fun v b => ∃ as, Reads s.heap v (enc b) as) vs bs) (hal : AllAlike (bs.map enc)) (hk : Sortable (bs.map enc)) (hL : bs.length ≤ sizeLine)
    (hu : ∀ b, b ∈ bs → A.units + 2 + (enc b).depth < cLine) (h : ∀ out, EachIs R out (bs.mergeSort (dataLe rev enc)) → Q (.ref (s.heap.objs.size + 1)) { s with heap := sortedAll s.heap vs (List.toArray out) }) :
    wpAny (model prog w) A (call (.builtin "sorted") [.ref l] kw) Q E s := by
  have hLv : vs.length ≤ sizeLine := by rw [e.length]; exact hL
  refine call_function_entry_kw kind_sorted plain_sorted entry_sorted ha1 ?_
  unfold Builtin.«sorted»
  refine wpAny_bind (m := checkCount "sorted" 1 1 _) (wpAny_pure ?_)
  refine wpAny_bind (collect_tuple hl ?_ hLv)
  refine wpAny_bind (wpAny_newList ?_ hLv)
  have hsz : ((s.heap.push (seqObj "list" #[] 0)).update s.heap.objs.size (Obj.mapSeq (· ++ vs.toArray))).objs.size = s.heap.objs.size + 1 := by
    rw [Heap.size_update, size_push']
  show wpAny _ _ _ _ _ { s with heap := copyHeap s.heap vs }
  rw [hsz]
  refine wpAny_bind (wpAny_holding (wpAny_call_entry_kw slot_list_sort ⟨_, copyHeap_at s.heap vs, rfl⟩ entry_list_sort ?body (ha2 _)))
  case body =>
    rw [hk0]
    have er' : EachIs (fun v b => ∃ as, Reads (sortingHeap (copyHeap s.heap vs) (s.heap.objs.size + 1) vs) v (enc b) as) vs bs := er.mono fun _ _ ⟨as, r⟩ => ⟨as, PyProof.Rows.Reads.keeps (fun _ _ => sorting_copy_old) r⟩
    refine wpAny_mono (list_sort_rev_vals (b := rev) (s := { s with heap := copyHeap s.heap vs }) (copyHeap_at s.heap vs) (SortsAt.data (s := { s with heap := sortingHeap (copyHeap s.heap vs) (s.heap.objs.size + 1) vs }) (each_map (R := fun v d => ∃ as, Reads (sortingHeap (copyHeap s.heap vs) (s.heap.objs.size + 1) vs) v d as) enc er') hal hk (bound_map hu)) hLv
      (P := fun f s' => f = .done (.ret .none) ∧ Q (.ref (s.heap.objs.size + 1)) s') ⟨rfl, h _ (sortVals_data rev e er' hal)⟩) (fun f s' hf => ?_) fun _ _ e => e
    obtain ⟨rfl, hq⟩ := hf
    exact ⟨_, rfl, wpAny_pure ⟨_, rfl, hq⟩⟩
end
def rSortD (K : PySem.W.Frag) (rev : Bool) : List V → Hp → VK → Prop := fun vs H Q => ∃ (a : Addr) (ps : List (V × D)), vs = [V.ref a] ∧ (SqL K H a (ps.map Prod.fst) ∨ SqT K H a (ps.map Prod.fst)) ∧ (∀ p ∈ ps, Dp K H p.1 (toPy p.2)) ∧ SortOk (ps.map encP) ∧ (∀ p ∈ ps, (toPy p.2).depth ≤ 12) ∧
  ∀ q, H q = none → Q (.ref q) (upd H q (.lst ((ps.mergeSort (PySem.W.dataLe rev encP)).map Prod.fst)))
theorem each_pairs {R : Value → V × D → Prop} : ∀ {ps : List (V × D)} {its : List Value}, Vals (ps.map Prod.fst) its → (∀ p ∈ ps, ∀ u, RelV p.1 u → R u p) → PySem.W.EachIs R its ps
  | [], _, r, _ => by cases r; exact .nil
  | p :: ps, _, r, h => by
    cases r with
    | cons r rr => exact .cons (h p (by simp) _ r) (each_pairs rr fun q hq => h q (by simp [hq]))
theorem each_vals : ∀ {ps : List (V × D)} {out : List Value}, PySem.W.EachIs (fun u (p : V × D) => RelV p.1 u) out ps → Vals (ps.map Prod.fst) out
  | _, _, .nil => .nil
  | _, _, .cons h t => .cons h (each_vals t)
section
variable {X : Cx}
theorem run_sortD {rev : Bool} {kw : List (Str × Value)} {pins : List (Addr × Obj)} {s : Shared} {σ : L2.St} {H : Hp} {a : Addr} {ps : List (V × D)} {Q : VK} (hu : X.A.units + 64 < cLine) (I : Inv X pins σ H s) (hk0 : ∀ a, Builtin.«list.sort» ⟨[.ref a], kw⟩ = Builtin.«list.sort» ⟨[.ref a], [(Str.ofString "reverse", .bool rev)]⟩)
    (ha1 : argsOk "sorted" ⟨[.ref a], kw⟩) (ha2 : ∀ a, argsOk "list.sort" ⟨[.ref a], kw⟩)
    (hs : SqL X.K H a (ps.map Prod.fst) ∨ SqT X.K H a (ps.map Prod.fst)) (hd : ∀ p ∈ ps, Dp X.K H p.1 (toPy p.2)) (hal : PySem.W.AllAlike (ps.map encP)) (hso : PySem.W.Sortable (ps.map encP)) (hdp : ∀ p ∈ ps, (toPy p.2).depth ≤ 12)
    (hl : ∀ {l : Addr} {vs : List Value} {Q : Value → Shared → Prop}, s.heap.IsList l vs.toArray → PySem.W.EachIs (fun u (p : V × D) => RelV p.1 u) vs ps → PySem.W.EachIs (fun v b => ∃ as, Reads s.heap v (encP b) as) vs ps → (ps.length ≤ sizeLine) → (∀ out, out.length = ps.length → PySem.W.EachIs (fun u (p : V × D) => RelV p.1 u) out (ps.mergeSort (PySem.W.dataLe rev encP)) → Q (.ref (s.heap.objs.size + 1)) { s with heap := sortedAll s.heap vs (List.toArray out) }) →
      wpAny (model X.prog X.w) X.A (call (.builtin "sorted") [.ref l] kw) Q X.xe s)
    (q : ∀ q, H q = none → Q (.ref q) (upd H q (.lst ((ps.mergeSort (PySem.W.dataLe rev encP)).map Prod.fst)))) : wpAny (model X.prog X.w) X.A (call (.builtin "sorted") [.ref a] kw) (EP X pins σ Q) X.xe s := by
  have fin : ∀ its, (ps.map Prod.fst).length ≤ sizeLine → ∀ out, PySem.W.EachIs (fun u (p : V × D) => RelV p.1 u) out (ps.mergeSort (PySem.W.dataLe rev encP)) → EP X pins σ Q (.ref (s.heap.objs.size + 1)) { s with heap := sortedAll s.heap its (List.toArray out) } := fun its hz out h2 => by
    obtain ⟨ep, he'⟩ := PyProof.Rows.sortedAll_at s.heap its (List.toArray out)
    have hlen : ((ps.mergeSort (PySem.W.dataLe rev encP)).map Prod.fst).length ≤ sizeLine := by rw [List.length_map, List.length_mergeSort, ← List.length_map (f := Prod.fst)]; exact hz
    exact ⟨.ref _, upd H (s.heap.objs.size + 1) (.lst ((ps.mergeSort (PySem.W.dataLe rev encP)).map Prod.fst)), I.laid (t' := s.toks) (fun _ _ => PyProof.Rows.sortedAll_old) (Nat.le_succ _) ⟨hlen, out, ep, each_vals h2, he'⟩, rfl, q _ (I.hok.fresh (Nat.le_succ _))⟩
  rcases hs with hs | hs
  · obtain ⟨its, rv, hl', hz⟩ := I.list hs
    exact hl hl'.isList (each_pairs rv fun p _ u h => h) (each_pairs rv fun p hp u h => Dp.reads I _ _ _ (hd p hp) h) (by rw [List.length_map] at hz; exact hz) fun out _ h2 => fin its hz out h2
  · obtain ⟨its, rv, hl', hz⟩ := I.tuple hs
    exact sortedT_data (bs := ps) (enc := encP) (R := fun u (p : V × D) => RelV p.1 u) hk0 ha1 ha2 hl' (each_pairs rv fun p _ u h => h) (each_pairs rv fun p hp u h => Dp.reads I _ _ _ (hd p hp) h) hal hso (by rw [List.length_map] at hz; exact hz) (fun p hp => by have := hdp p hp; show X.A.units + 2 + (toPy p.2).depth < cLine; omega) fun out h2 => fin its hz out h2
theorem cr_sortD (hu : X.A.units + 64 < cLine) : CallR X (.builtin "sorted") (rSortD X.K false) := by
  intro pins s σ H vs us Q I r h
  obtain ⟨a, ps, rfl, hs, hd, ⟨hal, hso⟩, hdp, q⟩ := h
  rw [Vals.ref1 r]
  exact run_sortD (rev := false) (kw := []) hu I (fun _ => PySem.W.plain_is_rev _) (PyProof.Rows.args_sorted1 _) (fun _ => PyProof.Rows.args_list_sort _) hs hd hal hso hdp (fun h1 h2 h3 h4 h5 => PySem.W.sorted_data (bs := ps) (enc := encP) (R := fun u (p : V × D) => RelV p.1 u) h1 h2 h3 hal hso h4 (fun p hp => by have := hdp p hp; show X.A.units + 2 + (toPy p.2).depth < cLine; omega) h5) q
def rSortKw (K : PySem.W.Frag) (rev : Bool) : List V → List V → Hp → VK → Prop := fun vs zs H Q => zs = [V.bl rev] ∧ rSortD K rev vs H Q
theorem cr_sortRev {b : Bool} (hu : X.A.units + 64 < cLine) : CallRK X (.builtin "sorted") [Str.ofString "reverse"] (rSortKw X.K b) := by
  intro pins s σ H vs zs us ws Q I r rz h
  obtain ⟨rfl, a, ps, rfl, hs, hd, ⟨hal, hso⟩, hdp, q⟩ := h
  rw [Vals.ref1 r]
  obtain ⟨w1, rfl, e1⟩ := vals1 rz
  obtain rfl : w1 = Value.bool b := e1
  exact run_sortD (rev := b) (kw := [(Str.ofString "reverse", .bool b)]) hu I (fun _ => rfl) (PyProof.Rows.args_sorted_rev _ _) (fun _ => PyProof.Rows.args_list_sort_rev _ _) hs hd hal hso hdp (fun h1 h2 h3 h4 h5 => PySem.W.sorted_rev_data (b := b) (bs := ps) (enc := encP) (R := fun u (p : V × D) => RelV p.1 u) h1 h2 h3 hal hso h4 (fun p hp => by have := hdp p hp; show X.A.units + 2 + (toPy p.2).depth < cLine; omega) h5) q
end
open Classical in
/-- sorted on data -/
noncomputable def dSortL (rev : Bool) (ds : List D) : Option D := if pls 12 ds = true ∧ SortOk (ds.map toPy) then some (.lst (ds.mergeSort (PySem.W.dataLe rev toPy))) else none
noncomputable def dSort (rev : Bool) (xs : List D) : Option D := match xs with
  | [.lst ds] => dSortL rev ds
  | [.scr ds] => dSortL rev ds
  | [.tup ds] => dSortL rev ds
  | _ => none
section
variable {S : Type} {K : PySem.W.Frag} {B : Bs S}
theorem RpAll.zip {F : Hp} : ∀ {vs : List V} {ds : List D}, RpAll K F vs ds → (vs.zip ds).map Prod.fst = vs ∧ (vs.zip ds).map Prod.snd = ds ∧ ∀ p ∈ vs.zip ds, Rp K F p.1 p.2
  | _, _, .nil => ⟨rfl, rfl, fun p h => by simp at h⟩
  | _, _, .cons h r => by
    obtain ⟨h1, h2, h3⟩ := r.zip
    refine ⟨by simp [h1], by simp [h2], fun p hp => ?_⟩
    rw [List.zip_cons_cons, List.mem_cons] at hp
    rcases hp with rfl | hp
    · exact h
    · exact h3 p hp
theorem RpAll.ofPairs {F : Hp} : ∀ {ps : List (V × D)}, (∀ p ∈ ps, Rp K F p.1 p.2) → RpAll K F (ps.map Prod.fst) (ps.map Prod.snd)
  | [], _ => .nil
  | p :: ps, h => .cons (h p (by simp)) (RpAll.ofPairs fun q hq => h q (by simp [hq]))
theorem pls_mem {n : Nat} : ∀ {ds : List D}, pls n ds = true → ∀ d ∈ ds, pl n d = true
  | [], _, _, h => by simp at h
  | x :: xs, h, d, hd => by
    simp only [pls, Bool.and_eq_true] at h
    rcases List.mem_cons.mp hd with rfl | hd
    · exact h.1
    · exact pls_mem h.2 d hd
theorem rule_sortL {rev : Bool} {c : Cf} {s : S} {ρ : Env} {σ : L2.St} {a : Addr} {ws : List V} {ds : List D} {z : D} {Q' : VK} (R : Rel K B c s ρ σ) (h : SqL K c.H a ws ∨ SqT K c.H a ws) (r : RpAll K (Fz B c) ws ds) (e : dSortL rev ds = some z)
    (q : ∀ a o c', Rel K B c' s ρ σ → EvN B c c' a o → OwnOk K (Fz B c') (some o) z → Q' (.ref a) c'.H) : rSortD K rev [.ref a] c.H Q' := by
  unfold dSortL at e
  split at e
  · rename_i hp
    cases e
    obtain ⟨h1, h2, h3⟩ := r.zip
    have hm : ∀ p ∈ ws.zip ds, p.2 ∈ ds := fun p hp => h2 ▸ List.mem_map.mpr ⟨p, hp, rfl⟩
    refine ⟨a, ws.zip ds, rfl, by rw [h1]; exact h, fun p hq => rp_dp 12 ((h3 p hq).mono R.fsub) (pls_mem hp.1 _ (hm p hq)), ?_, fun p hq => (pl_shape 12 _ (pls_mem hp.1 _ (hm p hq))).2, fun p hpn => ?_⟩
    · have e : (ws.zip ds).map encP = ds.map toPy := by
        show (ws.zip ds).map (toPy ∘ Prod.snd) = _
        rw [← List.map_map, h2]
      rw [e]
      exact hp.2
    · obtain ⟨R2, sb⟩ := R.newT' (o := .lst (((ws.zip ds).mergeSort (PySem.W.dataLe rev encP)).map Prod.fst)) hpn (fun _ z => nomatch z)
      refine q p _ ⟨_, fun b => c.O b ∨ b = p, c.W, fun b => if b = p then some (.lst (((ws.zip ds).mergeSort (PySem.W.dataLe rev encP)).map Prod.fst)) else c.T b⟩ R2 ⟨sb, rfl, R.newT hpn⟩ ⟨_, rfl, ?_⟩
      have e2 : ds.mergeSort (PySem.W.dataLe rev toPy) = ((ws.zip ds).mergeSort (PySem.W.dataLe rev encP)).map Prod.snd := by
        have e3 := List.map_mergeSort (r := PySem.W.dataLe rev encP) (s := PySem.W.dataLe rev toPy) (f := Prod.snd) (l := ws.zip ds) (fun _ _ _ _ => rfl)
        rw [h2] at e3
        exact e3.symm
      rw [e2]
      exact RpAll.ofPairs fun p hq => (h3 p (List.mem_mergeSort.mp hq)).mono sb
  · cases e
theorem rule_sort {rev : Bool} : RuleCN K B (rSortD K rev) (dSort rev) := fun c s ρ σ vs ds z Q' R rx e q => by
  unfold dSort at e
  split at e
  · obtain ⟨v, rfl, r1⟩ := rx.one
    obtain ⟨a, ws, rfl, h, r⟩ := r1.lst R
    exact rule_sortL R (.inl (.inl h)) r e q
  · obtain ⟨v, rfl, r1⟩ := rx.one
    obtain ⟨a, ws, rfl, h, r⟩ := r1.scr R
    exact rule_sortL R (.inl h) r e q
  · obtain ⟨v, rfl, r1⟩ := rx.one
    obtain ⟨a, ws, rfl, h, r⟩ := r1.tup R
    exact rule_sortL R (.inr h) r e q
  · cases e
end
section
variable {S : Type} {K : PySem.W.Frag} {X : Cx} {B : Bs S} {e : Expr} {es : List Expr} {t : TA} {w : WA S} {p pos kp kpos : Pos}
theorem sn_sorted (hu : X.A.units + 64 < cLine) (hm : X.mg "sorted" = none) (ha : SA X B (e :: es) t w) (hg : Gl X "sorted" := by rfl) (he : starEach (e :: es) X.env = (false, eval e X.env) :: starEach es X.env := by rfl) (hpl : (backTo pos (starEach es X.env)).any (·.1) = false := by rfl) (hK : X.K = B.K := by rfl) :
    SN X B (.Call (.Name "sorted" p) (e :: es) [] pos) (tCB (rSortD B.K false) t) (wCallN (dSort false) w) := ⟨hK ▸ pe_callB (cr_sortD hu) hg hm boot_sorted ha.pa (by decide) (by decide) he hpl, SimN.callB rule_sort ha.sim⟩
theorem sim_sortKw {rev : Bool} {ta : TA} {wa : WA S} (ha : SimA K B ta wa) : SimN K B (tCKw (rSortKw K rev) ta (tCons (tC (.bl rev)) tNil)) (wCallN (dSort rev) wa) := fun c s ρ σ Q Q' R hw q => by
  refine ha c s ρ σ _ _ R hw fun hs ρ1 s1 vs c1 hw R1 e1 o1 => ?_
  obtain ⟨xs, ex, hw⟩ := onS_iff.mp hw
  obtain ⟨z, ez, hw⟩ := onS_iff.mp hw
  exact ⟨rfl, rule_sort c1 s1 ρ1 σ vs xs z _ R1 (hds_rv R1 o1 ex) ez fun a o c3 R3 e3 rz => q _ _ _ _ o c3 hw R3 ⟨e1.sub.trans e3.sub, by rw [e3.tmp, e1.tmp], by rw [← e1.tmp]; exact e3.new⟩ rz⟩
end
section
theorem dSort_mapT {α : Type} {rev : Bool} {g : α → D} {xs : List α} {le : α → α → Bool} (hp : pls 12 (xs.map g) = true) (ho : SortOk ((xs.map g).map toPy)) (hle : ∀ a ∈ xs, ∀ b ∈ xs, PySem.W.dataLe rev toPy (g a) (g b) = le a b) : dSort rev [.tup (xs.map g)] = some (.lst ((xs.mergeSort le).map g)) := by
  show dSortL rev _ = _
  unfold dSortL
  rw [if_pos ⟨hp, ho⟩]
  have e := List.map_mergeSort (r := le) (s := PySem.W.dataLe rev toPy) (f := g) (l := xs) (fun a ha b hb => (hle a ha b hb).symm)
  rw [e]
theorem dSort_map {α : Type} {rev : Bool} {g : α → D} {xs : List α} {le : α → α → Bool} (hp : pls 12 (xs.map g) = true) (ho : SortOk ((xs.map g).map toPy)) (hle : ∀ a ∈ xs, ∀ b ∈ xs, PySem.W.dataLe rev toPy (g a) (g b) = le a b) : dSort rev [.lst (xs.map g)] = some (.lst ((xs.mergeSort le).map g)) := by
  show dSortL rev _ = _
  unfold dSortL
  rw [if_pos ⟨hp, ho⟩]
  have e := List.map_mergeSort (r := le) (s := PySem.W.dataLe rev toPy) (f := g) (l := xs) (fun a ha b hb => (hle a ha b hb).symm)
  rw [e]
theorem sortOk_ints (ns : List Int) : SortOk ((ns.map D.int).map toPy) := by
  rw [List.map_map]
  exact ⟨PySem.W.AllAlike.of fun a b => by simp [toPy, PySem.W.alike], PySem.W.Sortable.others fun b => ⟨fun z => by simp [toPy] at z, fun xs z => by simp [toPy] at z⟩⟩
theorem pls_ints {n : Nat} (ns : List Int) : pls n (ns.map D.int) = true := pls_map (fun _ => by cases n <;> rfl) ns
theorem dSort_ints {ns : List Int} : dSort false [.lst (ns.map D.int)] = some (.lst ((ns.mergeSort fun a b => decide (a ≤ b)).map D.int)) :=
  dSort_map (pls_ints _) (sortOk_ints _) fun a _ b _ => by
    have := congrFun (congrFun (PySem.W.dataLe_int (fun x : Int => x)) a) b
    exact this
theorem dSortT_ints {ns : List Int} : dSort false [.tup (ns.map D.int)] = some (.lst ((ns.mergeSort fun a b => decide (a ≤ b)).map D.int)) :=
  dSort_mapT (pls_ints _) (sortOk_ints _) fun a _ b _ => by
    have := congrFun (congrFun (PySem.W.dataLe_int (fun x : Int => x)) a) b
    exact this
theorem dSortR_ints {ns : List Int} : dSort true [.lst (ns.map D.int)] = some (.lst ((ns.mergeSort fun a b => decide (b ≤ a)).map D.int)) :=
  dSort_map (pls_ints _) (sortOk_ints _) fun a _ b _ => by
    have := congrFun (congrFun (PySem.W.dataGe_int (fun x : Int => x)) a) b
    exact this
end
section
variable {S : Type} {X : Cx} {B : Bs S} {e : Expr} {es : List Expr} {t : TA} {w : WA S} {p pos jp kp : Pos} {b : Bool} {jj : Nat} {kws : List Keyword}
theorem sn_sortedRev (hu : X.A.units + 64 < cLine) (hm : X.mg "sorted" = none) (ha : SA X B (e :: es) t w) (hk : PK X kws (tCons (tC (.bl b)) tNil)) (hg : Gl X "sorted" := by rfl)
    (he : backTo pos (starEach (e :: es) X.env) = (false, eval e X.env) :: backTo pos (starEach es X.env) := by rfl) (hpl : (backTo pos (starEach (e :: es) X.env)).any (·.1) = false := by rfl)
    (hall : (backToKw pos (keywordEach kws X.env)).all (·.1.isSome) = true := by rfl) (hnone : (backToKw pos (keywordEach kws X.env)).any (·.1.isNone) = false := by rfl) (hks : (backToKw pos (keywordEach kws X.env)).filterMap (·.1) = [Str.ofString "reverse"] := by rfl) (hK : X.K = B.K := by rfl) :
    SN X B (.Call (.Name "sorted" p) (e :: es) kws pos) (tCKw (rSortKw B.K b) t (tCons (tC (.bl b)) tNil)) (wCallN (dSort b) w) :=
  ⟨hK ▸ pe_callBK (cr_sortRev hu) hg hm boot_sorted ha.pa hk (by decide) (by decide) he hpl hall hnone hks, sim_sortKw ha.sim⟩
theorem pk_rev : PK X [⟨some (Str.ofString "reverse"), .Constant (.bool b) jj jp, kp⟩] (tCons (tC (.bl b)) tNil) := pk_cons pe_bl pk_nil
end
end Ld

/-! Value layer, part 17: products of great numbers. -/
namespace Ld
open PySem PySem.Spec PyProof.Rows L2
def dMulW : D → D → Option D := dI fun i j => if Md i ∧ Md j then some (.int (i * j)) else none
theorem rule_mulW {S : Type} {K : PySem.W.Frag} {B : Bs S} : RuleB K B (rI CMulW fun i j => .int (i * j)) dMulW := rule_I fun i j z e => by
  split at e
  · rename_i h
    cases e
    exact ⟨wide_mul h.1 h.2 (by decide) (by decide) (by decide), fun F => .int _⟩
  · cases e
section
variable {S : Type} {X : Cx} {B : Bs S} {a b : Expr} {ta tb : TE} {wa wb : WE S} {pos : Pos}
theorem se_mulW (ha : SE X B a ta wa) (hb : SE X B b tb wb) : SE X B (.BinOp a .Mult b pos) (tOp (rI CMulW fun i j => .int (i * j)) ta tb) (wBin dMulW wa wb) := se_bin op_mulW rule_mulW ha hb
theorem dMulW_int {i j : Int} : dMulW (.int i) (.int j) = if Md i ∧ Md j then some (.int (i * j)) else none := nr rfl
end
/-- below 2 ^ k -/
def Lt (k : Nat) (x : Int) : Prop := x.natAbs < 2 ^ k
theorem Lt.mono {a b : Nat} {x : Int} (h : Lt a x) (hab : a ≤ b) : Lt b x := Nat.lt_of_lt_of_le h (Nat.pow_le_pow_right (by decide) hab)
theorem Lt.md {a : Nat} {x : Int} (h : Lt a x) (hab : a ≤ 8000) : Md x := h.mono hab
theorem Lt.mul {a b : Nat} {x y : Int} (h : Lt a x) (h' : Lt b y) : Lt (a + b) (x * y) := by
  unfold Lt at *
  rw [Int.natAbs_mul, Nat.pow_add]
  exact Nat.mul_lt_mul'' h h'
theorem Lt.add {a : Nat} {x y : Int} (h : Lt a x) (h' : Lt a y) : Lt (a + 1) (x + y) := by
  unfold Lt at *
  rw [Nat.pow_succ]
  omega
theorem Lt.sub {a : Nat} {x y : Int} (h : Lt a x) (h' : Lt a y) : Lt (a + 1) (x - y) := by
  unfold Lt at *
  rw [Nat.pow_succ]
  omega
theorem Lt.neg {a : Nat} {x : Int} (h : Lt a x) : Lt a (0 - x) := by
  unfold Lt at *
  omega
theorem Lt.le {a : Nat} {x y : Int} (h : Lt a y) (hx : x.natAbs ≤ y.natAbs) : Lt a x := Nat.lt_of_le_of_lt hx h
end Ld

/-! Value layer, part 18: more plain lemmas. -/
namespace Ld
open PySem PySem.Spec PyProof.Rows L2
theorem popAt_i {ns : List Int} {i : Int} {K : D × List D → Prop} (h0 : 0 ≤ i) (h1 : i < ns.length) (hl : ns.length < 1000000) (q : K (.int (ns.getD i.toNat 0), (ns.eraseIdx i.toNat).map D.int)) : onS (fPopAt (ns.map D.int) [.int i]) K := by
  have e1 : seqIndex? i (ns.map D.int).length = some i.toNat := by
    rw [List.length_map]
    unfold seqIndex?
    simp [show ¬ i < 0 by omega, h0, h1]
  have hg : ns[i.toNat]? = some (ns.getD i.toNat 0) := by
    rw [List.getD_eq_getElem?_getD, List.getElem?_eq_getElem (by omega)]
    rfl
  show onS (if -(2 ^ 63) ≤ i ∧ i < 2 ^ 63 then (seqIndex? i (ns.map D.int).length).bind fun k => ((ns.map D.int)[k]?).map fun z => (z, (ns.map D.int).eraseIdx k) else none) K
  rw [if_pos (by omega), e1]
  simp only [Option.bind_some]
  have ee : (ns.map D.int).eraseIdx i.toNat = (ns.eraseIdx i.toNat).map D.int := by
    rw [List.eraseIdx_eq_take_drop_succ, List.eraseIdx_eq_take_drop_succ, List.map_append, List.map_take, List.map_drop]
  rw [List.getElem?_map, hg, ee]
  exact q
mutual
theorem deq_refl : ∀ (n : Nat) (d : D), pl n d = true → deq d d = true
  | _, .non, _ => rfl
  | _, .bl b, _ => by simp [deq]
  | _, .int i, _ => by simp [deq]
  | _, .str x, _ => by simp [deq]
  | n + 1, .lst xs, h => by simp only [deq]; exact deqs_refl n xs (by simpa [pl] using h)
  | n + 1, .tup xs, h => by simp only [deq]; exact deqs_refl n xs (by simpa [pl] using h)
  | 0, .lst xs, h => by simp [pl] at h
  | 0, .tup xs, h => by simp [pl] at h
  | _, .ty _, h => by simp [pl] at h
  | _, .ref _, h => by simp [pl] at h
  | _, .dct _, h => by simp [pl] at h
  | _, .scr _, h => by simp [pl] at h
theorem deqs_refl : ∀ (n : Nat) (ds : List D), pls n ds = true → deqs ds ds = true
  | _, [], _ => rfl
  | n, d :: ds, h => by
    simp only [pls, Bool.and_eq_true] at h
    simp only [deqs, Bool.and_eq_true]
    exact ⟨deq_refl n d h.1, deqs_refl n ds h.2⟩
end
theorem dEq_self {d : D} (h : pl 12 d = true) : dEq d d = some (.bl true) := by
  unfold dEq
  rw [h, deq_refl 12 d h]
  rfl
theorem dNe_self {d : D} (h : pl 12 d = true) : dNe d d = some (.bl false) := by
  unfold dNe
  rw [h, deq_refl 12 d h]
  rfl
/-- an item of rows -/
theorem ixL_map {α : Type} {xs : List α} (f : α → D) (x0 : α) {i : Int} {k : D → Prop} (h0 : 0 ≤ i) (h1 : i < xs.length) (q : k (f (xs.getD i.toNat x0))) : onS (dIx (.lst (xs.map f)) (.int i)) k :=
  (show onS (if 0 ≤ i ∧ i < (xs.map f).length then some ((xs.map f).getD i.toNat .non) else none) k from (ix_map (x0 := x0)).mpr ⟨⟨h0, h1⟩, q⟩)
theorem ixT_map {α : Type} {xs : List α} (f : α → D) (x0 : α) {i : Int} {k : D → Prop} (h0 : 0 ≤ i) (h1 : i < xs.length) (q : k (f (xs.getD i.toNat x0))) : onS (dIx (.tup (xs.map f)) (.int i)) k :=
  (show onS (if 0 ≤ i ∧ i < (xs.map f).length then some ((xs.map f).getD i.toNat .non) else none) k from (ix_map (x0 := x0)).mpr ⟨⟨h0, h1⟩, q⟩)
theorem map_set_any {α : Type} {f : α → D} {ns : List α} {j : Nat} {v : α} : (ns.map f).set j (f v) = (ns.set j v).map f := by
  rw [List.map_set]
theorem upto_ints (lo : Int) (n : Nat) : upto lo n = ((List.range n).map fun (i : Nat) => lo + i).map D.int := by
  unfold upto
  rw [List.map_map]
  rfl
def iota (n : Nat) : List Int := (List.range n).map fun (i : Nat) => (i : Int)
theorem iota_len (n : Nat) : (iota n).length = n := by simp [iota]
theorem mem_iota {n : Nat} {x : Int} : x ∈ iota n ↔ 0 ≤ x ∧ x < n := by
  unfold iota
  simp only [List.mem_map, List.mem_range]
  constructor
  · rintro ⟨i, hi, rfl⟩
    omega
  · rintro ⟨h0, h1⟩
    exact ⟨x.toNat, by omega, by omega⟩
theorem upto0_iota (n : Nat) : upto 0 n = (iota n).map D.int := by
  rw [upto_ints]
  unfold iota
  congr 1
  apply List.map_congr_left
  intro i _
  omega
theorem iota_nodup (n : Nat) : (iota n).Nodup := by
  unfold iota
  refine List.Pairwise.map _ (fun a b h => ?_) List.nodup_range
  omega
theorem dIsi_tup_bool {xs : List D} : dIsi [.tup xs, .ty "bool"] = some (.bl false) := by simp [dIsi, tyn, isTab]
theorem dIsi_tup_int {xs : List D} : dIsi [.tup xs, .ty "int"] = some (.bl false) := by simp [dIsi, tyn, isTab]
theorem dIsi_tup_str {xs : List D} : dIsi [.tup xs, .ty "str"] = some (.bl false) := by simp [dIsi, tyn, isTab]
theorem dIsi_str_bool {x : Str} : dIsi [.str x, .ty "bool"] = some (.bl false) := by simp [dIsi, tyn, isTab]
theorem dIsi_str_int {x : Str} : dIsi [.str x, .ty "int"] = some (.bl false) := by simp [dIsi, tyn, isTab]
theorem dIsi_str_str {x : Str} : dIsi [.str x, .ty "str"] = some (.bl true) := nr rfl
theorem dIsi_str_tuple {x : Str} : dIsi [.str x, .ty "tuple"] = some (.bl false) := by simp [dIsi, tyn, isTab]
theorem erase_perm : ∀ {l : List Int} {i : Nat}, i < l.length → (l.getD i 0 :: l.eraseIdx i).Perm l
  | [], _, h => absurd h (Nat.not_lt_zero _)
  | x :: xs, 0, _ => List.Perm.refl _
  | x :: xs, i + 1, h => by
    have ih := erase_perm (l := xs) (i := i) (by simpa using h)
    rw [List.getD_cons_succ, List.eraseIdx_cons_succ]
    exact (List.Perm.swap _ _ _).trans (ih.cons x)
theorem dEq_strs {x y : Str} (hx : PyData.strOk x = true) (hy : PyData.strOk y = true) : dEq (.str x) (.str y) = some (.bl (x == y)) := by
  unfold dEq
  simp [pl, hx, hy, deq]
end Ld

/-! Value layer, part 19: range downwards, zip. -/
namespace Ld
open PySem PySem.Spec PyProof.Rows L2
def downD (i : Int) (n : Nat) : List D := (List.range n).map fun k : Nat => D.int (i - k)
section
variable {S : Type} {K : PySem.W.Frag} {B : Bs S}
/-- range(i, j, -1) -/
def wRangeD (wa : WA S) (ρ : Env) (s : S) (Q : List D → Env → S → Prop) : Prop := wa ρ s fun hs ρ1 s1 => onS (resL ρ1 hs) fun ds => match ds with
  | [.int i, .int j, .int k] => (-(2 ^ 62) ≤ i ∧ i < 2 ^ 62 ∧ -(2 ^ 62) ≤ j ∧ j < 2 ^ 62) ∧ k = -1 ∧ Q (downD i (i - j).toNat) ρ1 s1
  | _ => False
theorem wk_down {c : Cf} {i : Int} {n : Nat} : WkOk K B c (Itc i (-1) n) (downD i n) (fun _ => True) (YFn fun k => .int (i + (k : Nat) * (-1))) := by
  have hl : (downD i n).length = n := by simp [downD]
  refine ⟨hl.symm ▸ walk_rangeC, fun _ _ _ _ _ _ => trivial, fun k x H' c1 s ρ σ hi R sb y => ?_⟩
  obtain ⟨rfl, rfl⟩ := y
  refine ⟨c1, .int (i + (k : Nat) * (-1)), rfl, R, Ev.refl c1, ?_, .int _⟩
  rw [hl] at hi
  simp [downD, hi]
  omega
theorem RvAll.three {c : Cf} {vs : List V} {x y z : D} (r : RvAll K B c vs [x, y, z]) : ∃ u v w, vs = [u, v, w] ∧ Rv K B c u x ∧ Rv K B c v y ∧ Rv K B c w z := by
  cases r with
  | cons r1 r => cases r with
    | cons r2 r => cases r with
      | cons r3 r => cases r; exact ⟨_, _, _, rfl, r1, r2, r3⟩
theorem SimI.rangeD {ta : TA} {wa : WA S} (ha : SimA K B ta wa) : SimI K B (iRng3 ta) (wRangeD wa) := fun c s ρ σ Q R' R hw q => by
  refine ha c s ρ σ _ _ R hw fun hs ρ1 s1 vs c1 hw R1 e1 o1 => ?_
  obtain ⟨ds, ed, hw⟩ := onS_iff.mp hw
  have r := hds_rv R1 o1 ed
  split at hw
  · rename_i i j k
    obtain ⟨u, v, w, rfl, r1, r2, r3⟩ := r.three
    obtain ⟨⟨h1, h2, h3, h4⟩, rfl, hw⟩ := hw
    exact ⟨i, j, -1, (i - j).toNat, by rw [r1.int, r2.int, r3.int], RgC.neg h1 h2 h3 h4, q _ _ _ _ c1 _ _ hw R1 e1 wk_down⟩
  · exact hw.elim
theorem si_rangeD {X : Cx} {B : Bs S} {tg a b e : Expr} {ta : TA} {wa : WA S} {p pos : Pos} (hm : X.mg "range" = none) (ha : SA X B [a, b, e] ta wa) (hg : Gl X "range" := by rfl)
    (hs : starEach [a, b, e] X.env = (false, eval a X.env) :: starEach [b, e] X.env := by rfl) (hpl : (backTo pos (starEach [b, e] X.env)).any (·.1) = false := by rfl) :
    SI X B tg (.Call (.Name "range" p) [a, b, e] [] pos) (iRng3 ta) (wRangeD wa) := ⟨pi_range3 hg hm ha.pa hs hpl, SimI.rangeD ha.sim⟩
/-! ### zip -/
def zipD (xs ys : List D) : List D := List.zipWith (fun x y => D.tup [x, y]) xs ys
def wZip (wa : WA S) (ρ : Env) (s : S) (Q : List D → Env → S → Prop) : Prop := wa ρ s fun hs ρ1 s1 => onS (valL hs) fun ds => match ds with
  | [.lst xs, .lst ys] => Q (zipD xs ys) ρ1 s1
  | [.tup xs, .tup ys] => Q (zipD xs ys) ρ1 s1
  | _ => False
theorem walk_zipT {a b : Addr} {xs ys : List V} {n : Nat} (hn : n = min xs.length ys.length) : Walk (RZ.ItzT K a b) n (fun H => SqT K H a xs ∧ SqT K H b ys) (YPair (fun i => xs[i]?) (fun i => ys[i]?)) := by
  subst hn
  refine ⟨fun i _ hi q => ⟨xs, ys, xs[i]'(by omega), ys[i]'(by omega), q.1, q.2, by simp, by simp⟩, fun _ q => ⟨xs, ys, q.1, q.2, by omega⟩, fun i H v H' _ q y => ?_⟩
  obtain ⟨T, x, y, h1, h2, h3, h4, h5⟩ := y
  exact ⟨T, x, y, h1, h2, h3, h4 xs q.1, h5 ys q.2⟩
theorem zipD_len (xs ys : List D) : (zipD xs ys).length = min xs.length ys.length := by simp [zipD]
theorem zipD_get {xs ys : List D} {i : Nat} {x y : D} (h1 : xs[i]? = some x) (h2 : ys[i]? = some y) : (zipD xs ys)[i]? = some (.tup [x, y]) := by
  unfold zipD
  rw [List.getElem?_zipWith, h1, h2]
theorem SimI.zip {ta : TA} {wa : WA S} (ha : SimA K B ta wa) : SimI K B (RZ.iZipA K ta) (wZip wa) := fun c s ρ σ Q R' R hw q => by
  refine ha c s ρ σ _ _ R hw fun hs ρ1 s1 vs c1 hw R1 e1 o1 => ?_
  obtain ⟨ds, ed, hw⟩ := onS_iff.mp hw
  have r := valL_rp o1 ed
  split at hw
  · rename_i xs ys
    cases r with
    | cons r1 r =>
      cases r with
      | cons r2 r =>
        cases r
        cases r1 with
        | lst h1 r1 =>
          cases r2 with
          | lst h2 r2 =>
            rename_i a us b ws
            refine ⟨a, b, us, ws, rfl, .inl ⟨.inl (R1.fsub.rd h1), .inl (R1.fsub.rd h2), ?_⟩⟩
            refine q _ _ _ _ c1 _ _ hw R1 e1 (wk_pair (F := fun _ => none) (G' := fun _ => none) (n := min us.length ws.length) (by rw [zipD_len, r1.length, r2.length]) (walk_zip rfl) (fun c2 s ρ σ R sb => ⟨.inl (R.fsub.rd (sb.rd h1)), .inl (R.fsub.rd (sb.rd h2))⟩) fun i x y hi e1 e2 => ?_)
            obtain ⟨dx, hx, rx⟩ := r1.getV e1
            obtain ⟨dy, hy, ry⟩ := r2.getV e2
            exact ⟨dx, dy, zipD_get hx hy, rx, ry⟩
  · rename_i xs ys
    cases r with
    | cons r1 r =>
      cases r with
      | cons r2 r =>
        cases r
        cases r1 with
        | tup h1 r1 =>
          cases r2 with
          | tup h2 r2 =>
            rename_i a us b ws
            refine ⟨a, b, us, ws, rfl, .inr ⟨(h1.mono R1.fsub).sq, (h2.mono R1.fsub).sq, ?_⟩⟩
            refine q _ _ _ _ c1 _ _ hw R1 e1 (wk_pair (F := fun _ => none) (G' := fun _ => none) (n := min us.length ws.length) (by rw [zipD_len, r1.length, r2.length]) (walk_zipT rfl) (fun c2 s ρ σ R sb => ⟨((h1.mono sb).mono R.fsub).sq, ((h2.mono sb).mono R.fsub).sq⟩) fun i x y hi e1 e2 => ?_)
            obtain ⟨dx, hx, rx⟩ := r1.getV e1
            obtain ⟨dy, hy, ry⟩ := r2.getV e2
            exact ⟨dx, dy, zipD_get hx hy, rx, ry⟩
  · exact hw.elim
theorem si_zip {X : Cx} {B : Bs S} {e e2 : Expr} {ta : TA} {wa : WA S} {p pos tpos : Pos} {elts : List Expr} {kk : Nat} (hm : X.mg "zip" = none) (ha : SA X B [e, e2] ta wa) (hg : Gl X "zip" := by rfl)
    (hs : starEach [e, e2] X.env = (false, eval e X.env) :: starEach [e2] X.env := by rfl) (hpl : (backTo pos (starEach [e2] X.env)).any (·.1) = false := by rfl) (hK : X.K = B.K := by rfl) :
    SI X B (.Tuple elts kk tpos) (.Call (.Name "zip" p) [e, e2] [] pos) (RZ.iZipA B.K ta) (wZip wa) := ⟨hK ▸ RZ.pi_zipA hg hm ha.pa hs hpl, SimI.zip ha.sim⟩
theorem e_wRangeD {wa : WA S} {ρ : Env} {s : S} {Q : List D → Env → S → Prop} : wRangeD wa ρ s Q = (wa ρ s fun hs ρ1 s1 => onS (resL ρ1 hs) fun ds => match ds with
  | [.int i, .int j, .int k] => (-(2 ^ 62) ≤ i ∧ i < 2 ^ 62 ∧ -(2 ^ 62) ≤ j ∧ j < 2 ^ 62) ∧ k = -1 ∧ Q (downD i (i - j).toNat) ρ1 s1
  | _ => False) := nr rfl
theorem e_wZip {wa : WA S} {ρ : Env} {s : S} {Q : List D → Env → S → Prop} : wZip wa ρ s Q = (wa ρ s fun hs ρ1 s1 => onS (valL hs) fun ds => match ds with
  | [.lst xs, .lst ys] => Q (zipD xs ys) ρ1 s1
  | [.tup xs, .tup ys] => Q (zipD xs ys) ρ1 s1
  | _ => False) := nr rfl
/-- a loop downwards -/
theorem for_down {wb : WS S} {i : Nat} {N : DE S} {lo : Int} {n : Nat} {ρ : Env} {s : S} (P : Nat → Env → S → Prop) (h0 : P 0 ρ s)
    (hb : ∀ (j : Nat) ρ s f, j < n → P j ρ s → (∀ ρ s, P (j + 1) ρ s → f ρ s) → wb ⟨f, N.rt, N.nx, f⟩ (ρ.set i (.val (.int (lo - j)))) s)
    (hN : ∀ ρ s, P n ρ s → N.nx ρ s) : wForL (wName i) wb N (downD lo n) ρ s := for_rng (α := Nat) P h0 hb hN
/-- a loop over pairs of two rows of whole numbers or of any rows -/
theorem for_zip {α β : Type} {wg : WG S} {wb : WS S} {N : DE S} {g : α → D} {h : β → D} {xs : List α} {ys : List β} {ρ : Env} {s : S} (P : Nat → Env → S → Prop) (h0 : P 0 ρ s)
    (hb : ∀ (j : Nat) x y ρ s f, xs[j]? = some x → ys[j]? = some y → P j ρ s → (∀ ρ s, P (j + 1) ρ s → f ρ s) → wg (.tup [g x, h y]) ρ s fun ρ1 s1 => wb ⟨f, N.rt, N.nx, f⟩ ρ1 s1)
    (hN : ∀ ρ s, P (min xs.length ys.length) ρ s → N.nx ρ s) : wForL wg wb N (zipD (xs.map g) (ys.map h)) ρ s := by
  refine for_invG P _ 0 h0 (fun j d ρ s f e hp hf => ?_) fun ρ s hp => ?_
  · unfold zipD at e
    rw [List.getElem?_zipWith, List.getElem?_map, List.getElem?_map] at e
    cases hx : xs[j]? with
    | none => rw [hx] at e; cases e
    | some x =>
      cases hy : ys[j]? with
      | none => rw [hx, hy] at e; cases e
      | some y =>
        rw [hx, hy] at e
        cases e
        exact hb j x y ρ s f hx hy (by simpa using hp) (by simpa using hf)
  · rw [zipD_len, List.length_map, List.length_map, Nat.zero_add] at hp
    exact hN ρ s hp
theorem zip_pairs {α β : Type} {g : α → D} {h : β → D} (xs : List α) (ys : List β) : zipD (xs.map g) (ys.map h) = (xs.zip ys).map fun p => .tup [g p.1, h p.2] := by
  unfold zipD
  rw [List.zipWith_map, List.zip, List.map_zipWith]
end
end Ld

/-! Value layer, part 20: a loop over a list of one's own that goes on being one's own. -/
namespace Ld
open PySem PySem.Spec PyProof.Rows L2
section
variable {S : Type} {K : PySem.W.Frag} {B : Bs S} {c : Cf} {s : S} {ρ : Env} {σ : L2.St}
/-- what is lent comes to an end -/
theorem Rel.clearT {a : Addr} (R : Rel K B c s ρ σ) : Rel K B { c with T := fun b => if b = a then none else c.T b } s ρ σ := by
  refine ⟨R.world, R.frame, R.dom, R.tups, R.wnew, R.w0t, R.onew, fun b o e => ?_, R.len, fun j x e => ?_, R.uniq⟩
  · have e : (if b = a then none else c.T b) = some o := e
    split at e
    · cases e
    · exact R.tmp b o e
  · have q := R.slots j x e
    cases x with
    | emp => trivial
    | val d => exact q
    | own d =>
      obtain ⟨b, q1, q2, q3, q4⟩ := q
      refine ⟨b, q1, q2, ?_, q4⟩
      show (if b = a then none else c.T b) = none
      split
      · rfl
      · exact q3
/-- .. and the slot has it again -/
theorem Rel.unlend {a : Addr} {i : Nat} {o : HO} {d : D} (R : Rel K B c s ρ σ) (ht : c.T a = some o) (hi : ρ[i]? = some (.val (.ref a))) (ok : OwnOk K (Fz B c) (some o) d) :
    Rel K B { c with T := fun b => if b = a then none else c.T b } s (ρ.set i (.own d)) σ := by
  obtain ⟨hH, hO⟩ := R.tmp a o ht
  obtain ⟨u, hu, ru⟩ := R.slots i _ hi
  cases ru
  have R1 := R.clearT (a := a)
  refine ⟨R1.world, R1.frame, R1.dom, R1.tups, R1.wnew, R1.w0t, R1.onew, R1.tmp, by simp [R1.len], fun j x e => ?_, fun j k b d' e' h1 h2 h3 h4 => ?_⟩
  · rcases set_get e with ⟨rfl, rfl, hl⟩ | ⟨ne, e⟩
    · refine ⟨a, hu, hO, ?_, ?_⟩
      · show (if a = a then none else c.T a) = none
        simp
      · show OwnOk K (Fz B c) (c.H a) d
        rw [hH]; exact ok
    · exact R1.slots j x e
  · have other : ∀ {j : Nat} {d' : D}, j ≠ i → ρ[j]? = some (.own d') → σ[j]? = some (some (V.ref b)) → b ≠ a := fun {j d'} ne e e2 z => by
      obtain ⟨b', q1, q2, q3, q4⟩ := R.slots j _ e
      rw [e2] at q1
      cases q1
      rw [z, ht] at q3
      cases q3
    rcases set_get h1 with ⟨rfl, _, _⟩ | ⟨n1, h1⟩
    · rcases set_get h2 with ⟨rfl, _, _⟩ | ⟨n2, h2⟩
      · rfl
      · rw [hu] at h3
        cases h3
        exact absurd rfl (other (Ne.symm n2) h2 h4)
    · rcases set_get h2 with ⟨rfl, _, _⟩ | ⟨n2, h2⟩
      · rw [hu] at h4
        cases h4
        exact absurd rfl (other (Ne.symm n1) h1 h3)
      · exact R.uniq j k b d' e' h1 h2 h3 h4
/-- a slot's own list is lent -/
theorem Rel.lend {i : Nat} {d : D} (R : Rel K B c s ρ σ) (h : ρ[i]? = some (.own d)) : ∃ a o, σ[i]? = some (some (.ref a)) ∧ c.H a = some o ∧ c.T a = none ∧ OwnOk K (Fz B c) (some o) d ∧
    Rel K B { c with T := fun b => if b = a then some o else c.T b } s (ρ.set i (.val (.ref a))) σ ∧ Fz B { c with T := fun b => if b = a then some o else c.T b } = Fz B c := by
  obtain ⟨a0, e1, e2, e3, r0⟩ := R.slots i _ h
  obtain ⟨a, o, h1, h2, h3, R1, h4⟩ := R.lift h
  have e0 : a0 = a := by rw [e1] at h1; cases h1; rfl
  subst e0
  refine ⟨a0, o, h1, h2, e3, h3, ?_, h4⟩
  have R2 := R1.set (i := i) (v := .ref a0) (d := .ref a0) (.ref a0)
  have es : σ.set i (some (V.ref a0)) = σ := by
    apply List.ext_getElem?
    intro j
    rw [List.getElem?_set]
    split
    · rename_i hij
      subst hij
      split
      · exact h1.symm
      · rename_i hl
        rw [List.getElem?_eq_none (by omega)] at h1
        cases h1
    · rfl
  rw [es, List.set_set] at R2
  exact R2
/-- for .. in x, x a list of one's own that stands still meanwhile -/
def backN (i : Nat) (a : Addr) (d : D) (N : Env → S → Prop) (ρ : Env) (s : S) : Prop := ρ[i]? = some (.val (.ref a)) ∧ N (ρ.set i (.own d)) s
def wForO (i : Nat) (wg : WG S) (wb : WS S) (N : DE S) (ρ : Env) (s : S) : Prop := match ρ[i]? with
  | some (.own (.lst ds)) => ∀ a : Addr, wForL wg wb { N with nx := backN i a (.lst ds) N.nx } ds (ρ.set i (.val (.ref a))) s
  | _ => False
theorem SimS.forO {g : TG} {tb : TS} {ts : List Nat} {ug : WG S} {ub : WS S} (i : Nat) (hg : SimG K B ts g ug) (hb : SimS K B tb ub) : SimS K B (tFor (iSeq K (tVar i)) g tb) (wForO i ug ub) := fun c s ρ σ N N' R h E => by
  unfold wForO at h
  split at h
  · rename_i ds hi
    obtain ⟨a, o, hσ, hH, hT0, ok, R1, hF⟩ := R.lend hi
    obtain ⟨vs, eo, r⟩ := ok
    cases eo
    have h := h a
    refine ⟨.ref a, hσ, a, rfl, .inl ⟨⟨vs, .inl (.inl hH)⟩, ?_⟩⟩
    have hT1 : ({ c with T := fun b => if b = a then some (.lst vs) else c.T b } : Cf).T a = some (.lst vs) := by simp
    have r1 : RpAll K (Fz B { c with T := fun b => if b = a then some (.lst vs) else c.T b }) vs ds := by rw [hF]; exact r
    generalize hc1 : ({ c with T := fun b => if b = a then some (.lst vs) else c.T b } : Cf) = c1 at R1 hF hT1 r1
    have hback : ∀ c2 : Cf, Ev B c1 c2 → (fun b => if b = a then none else c2.T b) = c.T := fun c2 e2 => by
      funext b
      rw [e2.tmp, ← hc1]
      show (if b = a then none else if b = a then some _ else c.T b) = c.T b
      by_cases z : b = a
      · subst z; simp [hT0]
      · simp [z]
    have hev : ∀ c2 : Cf, Ev B c1 c2 → Ev B c { c2 with T := fun b => if b = a then none else c2.T b } := fun c2 e2 => ⟨by rw [← hF]; exact e2.sub, hback c2 e2⟩
    have hHeq : c1.H = c.H := by rw [← hc1]
    rw [← hHeq]
    refine for_it (J := Itl K a) (G := fun H => SqL K H a vs) (Y := YAt vs) (n := ds.length) (r.length ▸ walk_list) (fun i' σ' H' => ∃ c2 s2 ρ2, c2.H = H' ∧ Rel K B c2 s2 ρ2 σ' ∧ Ev B c1 c2 ∧ wForL ug ub { N with nx := backN i a (.lst ds) N.nx } (ds.drop i') ρ2 s2) ⟨c1, s, _, rfl, R1, Ev.refl c1, by simpa using h⟩ ?_ ?_ ?_
    · rintro i' σ' H' _ ⟨c2, s2, ρ2, rfl, R2, e2, _⟩
      have ht2 : c2.T a = some (.lst vs) := by rw [e2.tmp]; exact hT1
      exact .inl (.inl (R2.tmp a _ ht2).1)
    · rintro i' x σ' H' H'' hlt ⟨c2, s2, ρ2, rfl, R2, e2, hw⟩ y
      obtain ⟨rfl, e⟩ := y
      obtain ⟨d, hd, rd⟩ := r1.getV e
      rw [drop_get hd] at hw
      refine hg c2 s2 ρ2 σ' x d _ _ R2 (rd.mono e2.sub) hw fun ρ4 s4 σ4 c4 hw R4 e4 _ _ => ?_
      have e14 := e2.trans e4
      refine hb c4 s4 ρ4 σ4 _ _ R4 hw ⟨fun ρ5 s5 σ5 c5 a5 R5 e5 => ?_, fun ρ5 s5 σ5 c5 a5 R5 e5 => ?_, fun ρ5 s5 σ5 c5 a5 R5 e5 => ?_, fun d5 ρ5 s5 σ5 v c5 a5 R5 e5 r5 => ?_⟩
      · exact ⟨c5, s5, ρ5, rfl, R5, e14.trans e5, a5⟩
      · have e15 := e14.trans e5
        have ht5 : c5.T a = some (.lst vs) := by rw [e15.tmp]; exact hT1
        exact E.nx _ _ _ { c5 with T := fun b => if b = a then none else c5.T b } a5.2 (R5.unlend ht5 a5.1 ⟨vs, rfl, r1.mono e15.sub⟩) (hev c5 e15)
      · exact ⟨c5, s5, ρ5, rfl, R5, e14.trans e5, a5⟩
      · have e15 := e14.trans e5
        exact E.rt _ _ _ _ _ { c5 with T := fun b => if b = a then none else c5.T b } a5 R5.clearT (hev c5 e15) r5
    · rintro σ' H' ⟨c2, s2, ρ2, rfl, R2, e2, hw⟩
      rw [List.drop_eq_nil_of_le (Nat.le_refl _)] at hw
      have ht2 : c2.T a = some (.lst vs) := by rw [e2.tmp]; exact hT1
      exact E.nx _ _ _ { c2 with T := fun b => if b = a then none else c2.T b } hw.2 (R2.unlend ht2 hw.1 ⟨vs, rfl, r1.mono e2.sub⟩) (hev c2 e2)
  · exact h.elim
theorem s_forO {X : Cx} {B : Bs S} {tg iter : Expr} {body : List Stmt} {g : TG} {tb : TS} {ts : List Nat} {ug : WG S} {ub : WS S} {pos : Pos} (i : Nat) (hp : PassesOwn (model X.prog X.w) X.A X.env X.xe) (hc : X.calm = true) (hi : SE X B iter (tVar i) (wVar i)) (hg : SG X B tg ts g ug) (hb : SSs X B body tb ub)
    (hs : ∀ x, foldedSetIterable iter X.env x = pure x := by intro _; rfl) (hK : X.K = B.K := by rfl) : SS X B (.For tg iter body [] pos) (tFor (iSeq B.K (tVar i)) g tb) (wForO i ug ub) := ⟨ps_for hp hc (hK ▸ pi_seq hi.pe) hg.pg hb.pss hs, SimS.forO i hg.sim hb.sim⟩
theorem e_wForO {i : Nat} {wg : WG S} {wb : WS S} {N : DE S} {ρ : Env} {s : S} : wForO i wg wb N ρ s = (match ρ[i]? with
  | some (.own (.lst ds)) => ∀ a : Addr, wForL wg wb { N with nx := backN i a (.lst ds) N.nx } ds (ρ.set i (.val (.ref a))) s
  | _ => False) := nr rfl
theorem e_backN {i : Nat} {a : Addr} {d : D} {N : Env → S → Prop} {ρ : Env} {s : S} : backN i a d N ρ s = (ρ[i]? = some (.val (.ref a)) ∧ N (ρ.set i (.own d)) s) := nr rfl
end
end Ld

/-! Value layer, part 21: zip of a tuple and a list; items of rows that begin with a text. -/
namespace Ld
open PySem PySem.Spec PyProof.Rows L2
/-- the tuple at a and the list at b, the items in new pairs -/
def ItzM (K : PySem.W.Frag) (a b : Addr) : It :=
  ⟨fun i H => ∃ (xs ys : List V) (x y : V), SqT K H a xs ∧ SqL K H b ys ∧ xs[i]? = some x ∧ ys[i]? = some y,
    fun i H v H' => ∃ T x y, v = .ref T ∧ H T = none ∧ H' = upd H T (.tup [x, y]) ∧ (∀ xs, SqT K H a xs → xs[i]? = some x) ∧ ∀ ys, SqL K H b ys → ys[i]? = some y,
    fun i H => ∃ xs ys : List V, SqT K H a xs ∧ SqL K H b ys ∧ (i = xs.length ∨ i = ys.length) ∧ i ≤ xs.length ∧ i ≤ ys.length⟩
theorem turn_zipM {P : Program} {w : World} {K : PySem.W.Frag} {elts : List Expr} {kk : Nat} {tpos : Pos} {a b z TI TO i1 i2 : Addr} (D : ZipSep2 z TI TO i1 i2 [i1, a] [i2, b]) (hab : a ≠ i1 ∧ b ≠ i2) :
    Turn P w K (.Tuple elts kk tpos) (ItzM K a b) [z, TI, TO, i1, i2] z (fun i h => IsZip h z TI TO .none ∧ IsTupOf2 h TI (.ref i1) (.ref i2) ∧ (∃ x y, IsTupOf2 h TO x y) ∧ h.IsTupleIter i1 a i ∧ h.IsListIter i2 b i) where
  mem := by simp
  obj := fun i h st c hc => by
    obtain ⟨hz, hTI, ⟨x, y, hTO⟩, ⟨o1, e1, _, d1⟩, ⟨o2, e2, _, d2⟩⟩ := st
    have e' : c = z ∨ c = TI ∨ c = TO ∨ c = i1 ∨ c = i2 := by simpa using hc
    rcases e' with rfl | rfl | rfl | rfl | rfl
    · exact ⟨_, hz, fun _ q => nomatch q⟩
    · exact ⟨_, hTI, fun _ q => nomatch q⟩
    · exact ⟨_, hTO, fun _ q => nomatch q⟩
    · exact ⟨o1, e1, fun _ q => by rw [d1] at q; cases q⟩
    · exact ⟨o2, e2, fun _ q => by rw [d2] at q; cases q⟩
  keep := fun i h h' st k => by
    obtain ⟨hz, hTI, ⟨x, y, hTO⟩, h1, h2⟩ := st
    exact ⟨k z (by simp) _ hz, k TI (by simp) _ hTI, ⟨x, y, k TO (by simp) _ hTO⟩, h1.at fun o q => k i1 (by simp) o q, h2.at fun o q => k i2 (by simp) o q⟩
  item := by
    intro X hP hw hK hc i pins s σ H E I hf st hg
    subst hP hw hK
    obtain ⟨hz, hTI, ⟨x0, y0, hTO⟩, h1, h2⟩ := st
    obtain ⟨xs, ys, x, y, hqx, hqy, hx, hy⟩ := hg
    obtain ⟨its, rv, p, _⟩ := I.tuple hqx
    obtain ⟨its2, rv2, p2, _⟩ := I.list hqy
    obtain ⟨u, hu, ru⟩ := rv.get hx
    obtain ⟨u2, hu2, ru2⟩ := rv2.get hy
    have hzl : z < s.heap.objs.size := Heap.lt_size hz
    have lt1 : i < its.toArray.size := by rw [List.size_toArray]; exact (List.getElem?_eq_some_iff.mp hu).1
    have lt2 : i < its2.toArray.size := by rw [List.size_toArray]; exact (List.getElem?_eq_some_iff.mp hu2).1
    refine wpAny_pyNext_zipD2_item D (Draws.tuple (A := X.A.in1) (I.ok.hd hc) i1 a hab.1 its.toArray) (Draws.list (A := X.A.in1) (I.ok.hd hc) i2 b hab.2 its2.toArray) hz hTI hTO ⟨h1, p⟩ ⟨h2, p2.isList⟩ lt1 lt2 fun v1 v2 h' tk P1 P2 z' TO' s1' s2' hT hsz hk => ?_
    have hv1 : v1 = u := by
      have P1 : its.toArray[i]? = some v1 := P1
      rw [List.getElem?_toArray, hu] at P1
      exact (Option.some.inj P1).symm
    have hv2 : v2 = u2 := by
      have P2 : its2.toArray[i]? = some v2 := P2
      rw [List.getElem?_toArray, hu2] at P2
      exact (Option.some.inj P2).symm
    subst hv1 hv2
    refine ⟨_, rfl, wpAny_letOwnedTupleGo_zip (s := { s with heap := h', toks := tk }) z' fun h'' z'' sb => ?_⟩
    have hT2 : h''.get? s.heap.objs.size = some { cls := .type "tuple", data := .seq #[v1, v2] } := (sb.2 _ (Nat.ne_of_gt hzl)).trans hT
    have new : ObjOk X.prog X.w (upd H s.heap.objs.size (.tup [x, y])) h'' s.heap.objs.size (.tup [x, y]) :=
      ⟨by show 2 ≤ sizeLine; decide, [v1, v2], .cons ru (.cons ru2 .nil), ⟨_, hT2, rfl, _, rfl⟩⟩
    have I1 : Inv X pins σ (upd H s.heap.objs.size (.tup [x, y])) { s with heap := h'', toks := tk } :=
      I.turnedNew (ch := [z, TI, TO, i1, i2]) (fun c o hb q => (sb.2 c (fun e => hb (by simp [e]))).trans (hk c o (fun e => hb (by simp [e])) (fun e => hb (by simp [e])) (fun e => hb (by simp [e])) (fun e => hb (by simp [e])) q)) hf (Nat.le_refl _) new
    have ni1 : i1 ≠ z := Ne.symm D.zi1
    have ni2 : i2 ≠ z := Ne.symm D.zi2
    refine ⟨.ref s.heap.objs.size, _, I1, rfl, ⟨_, x, y, rfl, I.hok.fresh (Nat.le_refl _), rfl, fun l hl => by rw [I.tuple_inj hl hqx]; exact hx, fun l hl => by rw [I.list_inj hl hqy]; exact hy⟩, ⟨z'', ?_, ⟨v1, v2, ?_⟩, ?_, ?_⟩, fun c hcm => ?_⟩
    · exact (sb.2 _ D.TIz).trans (hk _ _ D.TIz D.TITO D.TIi1 D.TIi2 hTI)
    · exact (sb.2 _ D.TOz).trans TO'
    · exact s1'.1.at fun o q => (sb.2 _ ni1).trans q
    · exact s2'.1.at fun o q => (sb.2 _ ni2).trans q
    · have hlt : c < s.heap.objs.size := by
        have e' : c = z ∨ c = TI ∨ c = TO ∨ c = i1 ∨ c = i2 := by simpa using hcm
        rcases e' with rfl | rfl | rfl | rfl | rfl
        · exact hzl
        · exact Heap.lt_size hTI
        · exact Heap.lt_size hTO
        · obtain ⟨_, e1, _⟩ := h1; exact Heap.lt_size e1
        · obtain ⟨_, e2, _⟩ := h2; exact Heap.lt_size e2
      rw [upd_ne (Nat.ne_of_lt hlt)]
      exact (hf c hcm).1
  done := by
    intro X hP hw hK hc i pins s σ H E I hf st hg
    subst hP hw hK
    obtain ⟨hz, hTI, ⟨x0, y0, hTO⟩, h1, h2⟩ := st
    obtain ⟨xs, ys, hqx, hqy, hend, hl1, hl2⟩ := hg
    obtain ⟨its, rv, p, _⟩ := I.tuple hqx
    obtain ⟨its2, rv2, p2, _⟩ := I.list hqy
    have l1 := rv.length
    have l2 := rv2.length
    exact wpAny_pyNext_zipD2_end D (Draws.tuple (A := X.A.in1) (I.ok.hd hc) i1 a hab.1 its.toArray) (Draws.list (A := X.A.in1) (I.ok.hd hc) i2 b hab.2 its2.toArray) hz hTI hTO ⟨h1, p⟩ ⟨h2, p2.isList⟩ (by rw [List.size_toArray]; omega) (by rw [List.size_toArray]; omega) (by rw [List.size_toArray, List.size_toArray]; omega)
      fun h' tk hk => ⟨rfl, I.turnedL (ch := [z, TI, TO, i1, i2]) (fun c o hb q => hk c o (fun e => hb (by simp [e])) (fun e => hb (by simp [e])) (fun e => hb (by simp [e])) (fun e => hb (by simp [e])) q) hf⟩
  self := fun A i s Q E st h => wpAny_pyIter_zip st.1 h
theorem nmem2 {x y z : Nat} (h1 : x ≠ y) (h2 : x ≠ z) : x ∉ [y, z] := fun h => by
  simp only [List.mem_cons, List.not_mem_nil, or_false] at h
  exact h.elim h1 h2
theorem zipSep_mk (I a b : Nat) (ha : a < I) (hb : b < I) : ZipSep2 (I + 4) (I + 2) (I + 3) I (I + 1) [I, a] [I + 1, b] where
  TIz := show (I + 2 : Nat) ≠ I + 4 by omega
  TOz := show (I + 3 : Nat) ≠ I + 4 by omega
  TITO := show (I + 2 : Nat) ≠ I + 3 by omega
  TIi1 := show (I + 2 : Nat) ≠ I by omega
  mem1 := by simp
  zf1 := nmem2 (show (I + 4 : Nat) ≠ I by omega) (show (I + 4 : Nat) ≠ a by omega)
  Tf1 := nmem2 (show (I + 3 : Nat) ≠ I by omega) (show (I + 3 : Nat) ≠ a by omega)
  TIi2 := show (I + 2 : Nat) ≠ I + 1 by omega
  mem2 := by simp
  zf2 := nmem2 (show (I + 4 : Nat) ≠ I + 1 by omega) (show (I + 4 : Nat) ≠ b by omega)
  Tf2 := nmem2 (show (I + 3 : Nat) ≠ I + 1 by omega) (show (I + 3 : Nat) ≠ b by omega)
  sep1_2 := nmem2 (show (I : Nat) ≠ I + 1 by omega) (show (I : Nat) ≠ b by omega)
  sep2_1 := nmem2 (show (I + 1 : Nat) ≠ I by omega) (show (I + 1 : Nat) ≠ a by omega)
def iZipM (K : PySem.W.Frag) (ta : TA) : TI := fun σ H R => ta σ H fun vs H1 => (∃ a b xs ys, vs = [.ref a, .ref b] ∧ ((SqL K H1 a xs ∧ SqL K H1 b ys ∧ R (Itz K a b) H1) ∨ (SqT K H1 a xs ∧ SqT K H1 b ys ∧ R (RZ.ItzT K a b) H1))) ∨ ∃ a b xs ys, vs = [.ref a, .ref b] ∧ SqT K H1 a xs ∧ SqL K H1 b ys ∧ R (ItzM K a b) H1
theorem pi_zipM {X : Cx} {e e2 : Expr} {ta : TA} {p pos tpos : Pos} {elts : List Expr} {kk : Nat} (hg : Gl X "zip") (hm : X.mg "zip" = none) (ha : PA X [e, e2] ta)
    (hs : starEach [e, e2] X.env = (false, eval e X.env) :: starEach [e2] X.env := by rfl) (hpl : (backTo pos (starEach [e2] X.env)).any (·.1) = false := by rfl) :
    PI X (.Tuple elts kk tpos) (.Call (.Name "zip" p) [e, e2] [] pos) (iZipM X.K ta) := by
  refine ⟨fun pins s σ H R I h => ?_⟩
  refine Call_ (ld_blt I hg hm PyProof.Rows.boot_zip (PyProof.Rows.callWith_type1 (thn (ha.run pos pins s σ H _ I h) fun us s1 ⟨vs, H1, I1, r1, q1⟩ => ?_) hs hpl))
  rcases q1 with ⟨a, b, xs, ys, rfl, q1⟩ | ⟨a, b, xs, ys, rfl, hqx, hqy, q⟩
  all_goals
    obtain ⟨v1, v2, rfl, ra, rb⟩ := vals2 r1
    obtain rfl : v1 = Value.ref a := ra
    obtain rfl : v2 = Value.ref b := rb
    have fresh5 : ∀ c, c ∈ [s1.heap.objs.size + 4, s1.heap.objs.size + 2, s1.heap.objs.size + 3, s1.heap.objs.size, s1.heap.objs.size + 1] → FpOk X pins H1 c := fun c hcm => by
      have hle : s1.heap.objs.size ≤ c := by
        simp only [List.mem_cons, List.not_mem_nil, or_false] at hcm
        rcases hcm with rfl | rfl | rfl | rfl | rfl <;> first | exact Nat.le_refl _ | exact Nat.le_add_right _ _
      exact I1.fpOk hle (I1.hok.fresh hle)
  · rcases q1 with ⟨hqx, hqy, q⟩ | ⟨hqx, hqy, q⟩
    · obtain ⟨its, rv, p1, _⟩ := I1.list hqx
      obtain ⟨its2, rv2, p2, _⟩ := I1.list hqy
      exact call_zip_2 p1.isList p2.isList fun h' hz hTI hTO h1 h2 hsz hk => wpAny_pyIter_zip hz ⟨_, _, _, _, H1, rfl, I1.kept (t' := s1.toks) hk, turn_zip (PySem.W.ktu_apart s1.heap.objs.size a b p1.lt p2.lt), ⟨hz, hTI, ⟨_, _, hTO⟩, h1, h2⟩, fresh5, q⟩
    · obtain ⟨its, rv, p1, _⟩ := I1.tuple hqx
      obtain ⟨its2, rv2, p2, _⟩ := I1.tuple hqy
      obtain ⟨o1, ho1, _⟩ := id p1
      obtain ⟨o2, ho2, _⟩ := id p2
      exact RZ.call_zipT (show s1.heap.IsTuple a its.toArray from p1) (show s1.heap.IsTuple b its2.toArray from p2) fun h' hz hTI hTO h1 h2 hsz hk => wpAny_pyIter_zip hz ⟨_, _, _, _, H1, rfl, I1.kept (t' := s1.toks) hk, RZ.turn_zipT (PySem.W.ktu_apart s1.heap.objs.size a b (Heap.lt_size ho1) (Heap.lt_size ho2)), ⟨hz, hTI, ⟨_, _, hTO⟩, h1, h2⟩, fresh5, q⟩
  · obtain ⟨its, rv, p1, _⟩ := I1.tuple hqx
    obtain ⟨its2, rv2, p2, _⟩ := I1.list hqy
    obtain ⟨o1, ho1, _⟩ := id p1
    have la : a < s1.heap.objs.size := Heap.lt_size ho1
    have lb : b < s1.heap.objs.size := p2.lt
    refine zip_begins2 (begins_tuple a its.toArray) (begins_list b its2.toArray) p1 p2.isList fun h' hz hTI hTO g1 g2 hsz hk => wpAny_pyIter_zip hz ⟨_, [s1.heap.objs.size + 4, s1.heap.objs.size + 2, s1.heap.objs.size + 3, s1.heap.objs.size, s1.heap.objs.size + 1], _, _, H1, rfl, I1.kept (t' := s1.toks) hk, turn_zipM (a := a) (b := b) (i1 := s1.heap.objs.size) (i2 := s1.heap.objs.size + 1) (TI := s1.heap.objs.size + 2) (TO := s1.heap.objs.size + 3) ?_ ⟨?_, ?_⟩, ⟨hz, hTI, ⟨_, _, hTO⟩, ⟨_, g1, rfl, rfl⟩, ⟨_, g2, rfl, rfl⟩⟩, fresh5, q⟩
    · exact zipSep_mk _ _ _ la lb
    · exact Nat.ne_of_lt la
    · exact Nat.ne_of_lt (Nat.lt_succ_of_lt lb)
section
variable {S : Type} {K : PySem.W.Frag} {B : Bs S}
def wZipM (wa : WA S) (ρ : Env) (s : S) (Q : List D → Env → S → Prop) : Prop := wa ρ s fun hs ρ1 s1 => onS (valL hs) fun ds => match ds with
  | [.lst xs, .lst ys] => Q (zipD xs ys) ρ1 s1
  | [.tup xs, .tup ys] => Q (zipD xs ys) ρ1 s1
  | [.tup xs, .lst ys] => Q (zipD xs ys) ρ1 s1
  | _ => False
theorem walk_zipM {a b : Addr} {xs ys : List V} {n : Nat} (hn : n = min xs.length ys.length) : Walk (ItzM K a b) n (fun H => SqT K H a xs ∧ SqL K H b ys) (YPair (fun i => xs[i]?) (fun i => ys[i]?)) := by
  subst hn
  refine ⟨fun i _ hi q => ⟨xs, ys, xs[i]'(by omega), ys[i]'(by omega), q.1, q.2, by simp, by simp⟩, fun _ q => ⟨xs, ys, q.1, q.2, by omega, by omega, by omega⟩, fun i H v H' _ q y => ?_⟩
  obtain ⟨T, x, y, h1, h2, h3, h4, h5⟩ := y
  exact ⟨T, x, y, h1, h2, h3, h4 xs q.1, h5 ys q.2⟩
theorem SimI.zipM {ta : TA} {wa : WA S} (ha : SimA K B ta wa) : SimI K B (iZipM K ta) (wZipM wa) := fun c s ρ σ Q R' R hw q => by
  refine ha c s ρ σ _ _ R hw fun hs ρ1 s1 vs c1 hw R1 e1 o1 => ?_
  obtain ⟨ds, ed, hw⟩ := onS_iff.mp hw
  have r := valL_rp o1 ed
  split at hw
  · rename_i xs ys
    cases r with
    | cons r1 r =>
      cases r with
      | cons r2 r =>
        cases r
        cases r1 with
        | lst h1 r1 =>
          cases r2 with
          | lst h2 r2 =>
            rename_i a us b ws
            refine .inl ⟨a, b, us, ws, rfl, .inl ⟨.inl (R1.fsub.rd h1), .inl (R1.fsub.rd h2), ?_⟩⟩
            refine q _ _ _ _ c1 _ _ hw R1 e1 (wk_pair (F := fun _ => none) (G' := fun _ => none) (n := min us.length ws.length) (by rw [zipD_len, r1.length, r2.length]) (walk_zip rfl) (fun c2 s ρ σ R sb => ⟨.inl (R.fsub.rd (sb.rd h1)), .inl (R.fsub.rd (sb.rd h2))⟩) fun i x y hi e1 e2 => ?_)
            obtain ⟨dx, hx, rx⟩ := r1.getV e1
            obtain ⟨dy, hy, ry⟩ := r2.getV e2
            exact ⟨dx, dy, zipD_get hx hy, rx, ry⟩
  · rename_i xs ys
    cases r with
    | cons r1 r =>
      cases r with
      | cons r2 r =>
        cases r
        cases r1 with
        | tup h1 r1 =>
          cases r2 with
          | tup h2 r2 =>
            rename_i a us b ws
            refine .inl ⟨a, b, us, ws, rfl, .inr ⟨(h1.mono R1.fsub).sq, (h2.mono R1.fsub).sq, ?_⟩⟩
            refine q _ _ _ _ c1 _ _ hw R1 e1 (wk_pair (F := fun _ => none) (G' := fun _ => none) (n := min us.length ws.length) (by rw [zipD_len, r1.length, r2.length]) (walk_zipT rfl) (fun c2 s ρ σ R sb => ⟨((h1.mono sb).mono R.fsub).sq, ((h2.mono sb).mono R.fsub).sq⟩) fun i x y hi e1 e2 => ?_)
            obtain ⟨dx, hx, rx⟩ := r1.getV e1
            obtain ⟨dy, hy, ry⟩ := r2.getV e2
            exact ⟨dx, dy, zipD_get hx hy, rx, ry⟩
  · rename_i xs ys
    cases r with
    | cons r1 r =>
      cases r with
      | cons r2 r =>
        cases r
        cases r1 with
        | tup h1 r1 =>
          cases r2 with
          | lst h2 r2 =>
            rename_i a us b ws
            refine .inr ⟨a, b, us, ws, rfl, (h1.mono R1.fsub).sq, .inl (R1.fsub.rd h2), ?_⟩
            refine q _ _ _ _ c1 _ _ hw R1 e1 (wk_pair (F := fun _ => none) (G' := fun _ => none) (n := min us.length ws.length) (by rw [zipD_len, r1.length, r2.length]) (walk_zipM rfl) (fun c2 s ρ σ R sb => ⟨((h1.mono sb).mono R.fsub).sq, .inl (R.fsub.rd (sb.rd h2))⟩) fun i x y hi e1 e2 => ?_)
            obtain ⟨dx, hx, rx⟩ := r1.getV e1
            obtain ⟨dy, hy, ry⟩ := r2.getV e2
            exact ⟨dx, dy, zipD_get hx hy, rx, ry⟩
  · exact hw.elim
theorem si_zipM {X : Cx} {B : Bs S} {e e2 : Expr} {ta : TA} {wa : WA S} {p pos tpos : Pos} {elts : List Expr} {kk : Nat} (hm : X.mg "zip" = none) (ha : SA X B [e, e2] ta wa) (hg : Gl X "zip" := by rfl)
    (hs : starEach [e, e2] X.env = (false, eval e X.env) :: starEach [e2] X.env := by rfl) (hpl : (backTo pos (starEach [e2] X.env)).any (·.1) = false := by rfl) (hK : X.K = B.K := by rfl) :
    SI X B (.Tuple elts kk tpos) (.Call (.Name "zip" p) [e, e2] [] pos) (iZipM B.K ta) (wZipM wa) := ⟨hK ▸ pi_zipM hg hm ha.pa hs hpl, SimI.zipM ha.sim⟩
theorem e_wZipM {wa : WA S} {ρ : Env} {s : S} {Q : List D → Env → S → Prop} : wZipM wa ρ s Q = (wa ρ s fun hs ρ1 s1 => onS (valL hs) fun ds => match ds with
  | [.lst xs, .lst ys] => Q (zipD xs ys) ρ1 s1
  | [.tup xs, .tup ys] => Q (zipD xs ys) ρ1 s1
  | [.tup xs, .lst ys] => Q (zipD xs ys) ρ1 s1
  | _ => False) := nr rfl
end
theorem ixs2_0 {x : Str} {a : D} {k : D → Prop} : onS (dIx (.tup [.str x, a]) (.int 0)) k = k (.str x) := nr rfl
theorem ixs2_1 {x : Str} {a : D} {k : D → Prop} : onS (dIx (.tup [.str x, a]) (.int 1)) k = k a := nr rfl
theorem ixs3_0 {x : Str} {a b : D} {k : D → Prop} : onS (dIx (.tup [.str x, a, b]) (.int 0)) k = k (.str x) := nr rfl
theorem ixs3_1 {x : Str} {a b : D} {k : D → Prop} : onS (dIx (.tup [.str x, a, b]) (.int 1)) k = k a := nr rfl
theorem ixs3_2 {x : Str} {a b : D} {k : D → Prop} : onS (dIx (.tup [.str x, a, b]) (.int 2)) k = k b := nr rfl
theorem cutL_take {α : Type} {xs : List α} {k : Nat} (h : k ≤ xs.length) : cutL xs none (some (k : Int)) = xs.take k := by
  unfold cutL
  rw [HT.sIx_none, HT.sIx_nat, List.drop_zero, Nat.min_eq_left h, Nat.sub_zero]
theorem cutL_map {α : Type} {f : α → D} {ns : List α} {lo hi : Option Int} : cutL (ns.map f) lo hi = (cutL ns lo hi).map f := by
  unfold cutL
  rw [List.length_map, List.map_take, List.map_drop]
section
variable {S : Type}
/-- a loop over rows of any kind -/
theorem for_map {α : Type} {g : α → D} {wg : WG S} {wb : WS S} {N : DE S} {xs : List α} {ρ : Env} {s : S} (P : Nat → Env → S → Prop) (h0 : P 0 ρ s)
    (hb : ∀ (j : Nat) x ρ s f, xs[j]? = some x → P j ρ s → (∀ ρ s, P (j + 1) ρ s → f ρ s) → wg (g x) ρ s fun ρ1 s1 => wb ⟨f, N.rt, N.nx, f⟩ ρ1 s1)
    (hN : ∀ ρ s, P xs.length ρ s → N.nx ρ s) : wForL wg wb N (xs.map g) ρ s := by
  refine for_invG P _ 0 h0 (fun j d ρ s f e h hf => ?_) fun ρ s h => ?_
  · obtain ⟨x, hx, rfl⟩ := map_int_some e
    exact hb j x ρ s f hx (by simpa using h) (by simpa using hf)
  · rw [List.length_map, Nat.zero_add] at h
    exact hN ρ s h
theorem for_enumM {α : Type} {g : α → D} {wb : WS S} {a b : Nat} {N : DE S} {xs : List α} {ρ : Env} {s : S} (P : Nat → Env → S → Prop) (h0 : P 0 ρ s)
    (hb : ∀ (j : Nat) x ρ s f, xs[j]? = some x → P j ρ s → (∀ ρ s, P (j + 1) ρ s → f ρ s) → wb ⟨f, N.rt, N.nx, f⟩ ((ρ.set a (.val (.int j))).set b (.val (g x))) s)
    (hN : ∀ ρ s, P xs.length ρ s → N.nx ρ s) : wForL (wGTup [wName a, wName b]) wb N (enumD (xs.map g)) ρ s := by
  refine for_invG P _ 0 h0 (fun j d ρ s f e h hf => ?_) fun ρ s h => ?_
  · obtain ⟨y, hy, rfl⟩ := enumD_some e
    obtain ⟨x, hx, rfl⟩ := map_int_some hy
    exact ⟨rfl, hb j x ρ s f hx (by simpa using h) (by simpa using hf)⟩
  · rw [enumD_len, List.length_map, Nat.zero_add] at h
    exact hN ρ s h
theorem ixA_app {xs : List D} {d : D} {k : D → Prop} (q : k d) : onS (dIxA (.lst (xs ++ [d])) (.int (-1))) k := by
  show onS (atI (xs ++ [d]) (-1)) k
  unfold atI ixN
  rw [if_neg (by decide), List.length_append, List.length_singleton, if_pos (by omega)]
  simp only [Option.bind_some]
  have e : ((-1 : Int) + ((xs.length + 1 : Nat) : Int)).toNat = xs.length := by omega
  rw [e, List.getElem?_append_right (Nat.le_refl _), Nat.sub_self]
  exact q
/-- the first number with a property -/
def fst1 (p : Nat → Bool) : Nat → Option Nat
  | 0 => none
  | n + 1 => match fst1 p n with
    | some i => some i
    | none => if p n = true then some n else none
theorem fst1_none {p : Nat → Bool} : ∀ {n : Nat}, (∀ i, i < n → p i = false) → fst1 p n = none
  | 0, _ => rfl
  | n + 1, h => by simp [fst1, fst1_none (n := n) (fun i hi => h i (by omega)), h n (by omega)]
theorem fst1_some {p : Nat → Bool} {i : Nat} (hp : p i = true) (hl : ∀ j, j < i → p j = false) : ∀ {n : Nat}, i < n → fst1 p n = some i
  | 0, h => absurd h (Nat.not_lt_zero _)
  | n + 1, h => by
    rcases Nat.lt_or_ge i n with hi | hi
    · simp [fst1, fst1_some hp hl hi]
    · obtain rfl : i = n := by omega
      simp [fst1, fst1_none hl, hp]
theorem fst1_eq {p : Nat → Bool} {n i : Nat} (h : fst1 p n = some i) : i < n ∧ p i = true := by
  induction n with
  | zero => cases h
  | succ n ih =>
    unfold fst1 at h
    split at h
    · rename_i j e
      cases h
      obtain ⟨a, b⟩ := ih e
      exact ⟨by omega, b⟩
    · split at h
      · cases h
        exact ⟨by omega, ‹_›⟩
      · cases h
theorem fst1_no {p : Nat → Bool} {n : Nat} (h : fst1 p n = none) : ∀ i, i < n → p i = false := by
  induction n with
  | zero => intro i hi; omega
  | succ n ih =>
    unfold fst1 at h
    split at h
    · cases h
    · rename_i e
      split at h
      · cases h
      · rename_i hn
        intro i hi
        rcases Nat.lt_or_ge i n with hi' | hi'
        · exact ih e i hi'
        · obtain rfl : i = n := by omega
          simpa using hn
end
end Ld

/-! Value layer, part 22: texts. -/
namespace Ld
open PySem PySem.Spec PyProof.Rows L2
/-- the text of code points -/
def sT (l : List Nat) : Str := ⟨l.toArray⟩
theorem sT_len (l : List Nat) : (sT l).length = l.length := by simp [sT, Str.length]
theorem sT_list (l : List Nat) : (sT l).cps.toList = l := by simp [sT]
def dIxS (x y : D) : Option D := match x, y with
  | .str z, .int i => if z.length ≤ sizeLine then (atI z.cps.toList i).map fun c => .str ⟨#[c]⟩ else none
  | _, _ => none
def strsD : List D → Option (List Str)
  | [] => some []
  | .str x :: ds => (strsD ds).map fun xs => x :: xs
  | _ => none
theorem strsD_some : ∀ {ds : List D} {xs : List Str}, strsD ds = some xs → ds = xs.map D.str
  | [], xs, h => by cases h; rfl
  | d :: ds, xs, h => by
    cases d with
    | str x =>
      unfold strsD at h
      cases e : strsD ds with
      | none => rw [e] at h; cases h
      | some ys =>
        rw [e] at h
        cases h
        rw [strsD_some e]
        rfl
    | _ => cases h
theorem strsD_map (xs : List Str) : strsD (xs.map D.str) = some xs := by
  induction xs with
  | nil => rfl
  | cons x xs ih => rw [List.map_cons, strsD, ih]; rfl
theorem RpAll.strs {K : PySem.W.Frag} {F : Hp} : ∀ {vs : List V} {xs : List Str}, RpAll K F vs (xs.map D.str) → vs = xs.map V.str
  | [], [], _ => rfl
  | [], _ :: _, h => by cases h
  | v :: vs, [], h => by cases h
  | v :: vs, x :: xs, h => by
    cases h with
    | cons h r => cases h; rw [r.strs]; rfl
section
variable {S : Type} {K : PySem.W.Frag} {B : Bs S}
theorem rule_ixS : RuleB K B rIxS dIxS := fun c s ρ σ x y dx dy z Q' R rx ry e q => by
  unfold dIxS at e
  split at e
  · rename_i t i
    split at e
    · rename_i hz
      cases ea : atI t.cps.toList i with
      | none => rw [ea] at e; cases e
      | some ch =>
        rw [ea] at e
        cases e
        exact ⟨t, i, ch, rx.str, ry.int, hz, ea, q _ c R (Ev.refl c) (.str _)⟩
    · cases e
  · cases e
def wSlS (we : WE S) (wl wh : WO S) (ρ : Env) (s : S) (Q : Hd → Env → S → Prop) : Prop := we ρ s fun h ρ1 s1 => wl ρ1 s1 fun lo ρ2 s2 => wh ρ2 s2 fun hi ρ3 s3 => match res ρ3 h with
  | some (.str z) => z.length ≤ sizeLine ∧ Q (.val (.str (cutS z lo hi))) ρ3 s3
  | _ => False
theorem SimE.slS {te : TE} {tl th : TO} {we : WE S} {wl wh : WO S} (he : SimE K B te we) (hl : SimO K B tl wl) (hh : SimO K B th wh) : SimE K B (tSl _root_.L2.rSlS te tl th) (wSlS we wl wh) := fun c s ρ σ Q Q' R hw q => by
  refine he c s ρ σ _ _ R hw fun h ρ1 s1 v c1 hw R1 e1 o1 => ?_
  refine hl c1 s1 ρ1 σ _ _ R1 hw fun lo ρ2 s2 c2 hw R2 e2 => ?_
  refine hh c2 s2 ρ2 σ _ _ R2 hw fun hi ρ3 s3 c3 hw R3 e3 => ?_
  split at hw
  · rename_i z hz
    exact ⟨z, (hd_rv R3 (o1.ev (e2.trans e3).sub) hz).str, hw.1, q _ _ _ _ c3 hw.2 R3 ((e1.trans e2).trans e3) (.str _)⟩
  · exact hw.elim
def dJoin (a : Str) (d : D) : Option D := match d with
  | .lst ds => match strsD ds with
    | some ys => if (ys.map (·.length)).sum + ys.length * a.length ≤ 16777216 then some (.str (Txt.join a ys)) else none
    | none => none
  | _ => none
def rJoinS (K : PySem.W.Frag) : V → List V → Hp → VK → Prop := fun x xs H Q => ∃ a p, ∃ ys : List Str, x = .str a ∧ xs = [.ref p] ∧ (SqL K H p (ys.map V.str) ∨ SqT K H p (ys.map V.str)) ∧
    (ys.map (·.length)).sum + ys.length * a.length ≤ 16777216 ∧ Q (.str (Txt.join a ys)) H
/-- "..".join(list of texts) -/
def wJoin (a : Str) (we : WE S) (ρ : Env) (s : S) (Q : Hd → Env → S → Prop) : Prop := we ρ s fun h ρ1 s1 => onS (res ρ1 h) fun d => onS (dJoin a d) fun z => Q (.val z) ρ1 s1
theorem SimE.join {a : Str} {te : TE} {we : WE S} (he : SimE K B te we) : SimE K B (tM1 (rJoinS K) (tC (.str a)) te) (wJoin a we) := fun c s ρ σ Q Q' R hw q => by
  refine ⟨⟨a, rfl⟩, he c s ρ σ _ _ R hw fun h ρ1 s1 v c1 hw R1 e1 o1 => ?_⟩
  obtain ⟨d, ed, hw1⟩ := onS_iff.mp hw
  obtain ⟨z, ez, hw2⟩ := onS_iff.mp hw1
  have rv := hd_rv R1 o1 ed
  unfold dJoin at ez
  split at ez
  · rename_i ds
    split at ez
    · rename_i ys hy
      split at ez
      · rename_i hz
        cases ez
        obtain ⟨p, vs, rfl, h, r⟩ := rv.lst R1
        have e2 := strsD_some hy
        subst e2
        have e3 := r.strs
        subst e3
        exact ⟨a, p, ys, rfl, rfl, .inl (.inl h), hz, q _ _ _ _ c1 hw2 R1 e1 (.str _)⟩
      · cases ez
    · cases ez
  · cases ez
def chD (z : Str) : List D := z.cps.toList.map fun c => D.str ⟨#[c]⟩
def wIterS (we : WE S) (ρ : Env) (s : S) (Q : List D → Env → S → Prop) : Prop := we ρ s fun h ρ1 s1 => match res ρ1 h with
  | some (.str z) => Q (chD z) ρ1 s1
  | _ => False
theorem wk_str {c : Cf} {z : Str} : WkOk K B c (Its z) (chD z) (fun _ => True) (fun i H v H' => H' = H ∧ ∃ c, z.cps[i]? = some c ∧ v = .str ⟨#[c]⟩) := by
  have hl : (chD z).length = z.cps.size := by simp [chD]
  refine ⟨hl.symm ▸ walk_str, fun _ _ _ _ _ _ => trivial, fun i x H' c1 s ρ σ hi R sb y => ?_⟩
  obtain ⟨rfl, ch, hc, rfl⟩ := y
  refine ⟨c1, .str ⟨#[ch]⟩, rfl, R, Ev.refl c1, ?_, .str _⟩
  unfold chD
  rw [List.getElem?_map, Array.getElem?_toList, hc]
  rfl
theorem SimI.str {te : TE} {we : WE S} (he : SimE K B te we) : SimI K B (iStr te) (wIterS we) := fun c s ρ σ Q R' R hw q => by
  refine he c s ρ σ _ _ R hw fun h ρ1 s1 v c1 hw R1 e1 o1 => ?_
  split at hw
  · rename_i z hz
    exact ⟨z, (hd_rv R1 o1 hz).str, q _ _ _ _ c1 _ _ hw R1 e1 wk_str⟩
  · exact hw.elim
end
section
variable {S : Type} {X : Cx} {B : Bs S} {a b e : Expr} {ta tb te : TE} {wa wb we : WE S} {pos p2 apos : Pos} {lo hi : Option Expr} {tl th : TO} {wl wh : WO S}
theorem se_ixS (ha : SE X B a ta wa) (hb : SE X B b tb wb) (hs : PlainIx b := by exact fun _ _ => rfl) : SE X B (.Subscript a b pos) (tOp rIxS ta tb) (wBin dIxS wa wb) := ⟨pe_ix ix_str ha.pe hb.pe hs, SimE.bin rule_ixS ha.sim hb.sim⟩
theorem se_sliceS (he : SE X B e te we) (hl : SO X B lo tl wl) (hh : SO X B hi th wh) : SE X B (.Subscript e (.Slice lo hi none p2) pos) (tSl _root_.L2.rSlS te tl th) (wSlS we wl wh) := ⟨pe_slice sl_str he.pe hl.po hh.po, SimE.slS he.sim hl.sim hh.sim⟩
theorem se_join {x : Str} {j : Nat} {cp : Pos} (he : SE X B e te we) (hs : starEach [e] X.env = [(false, eval e X.env)] := by rfl) (hbase : attributeBase (.Constant (.str x) j cp) "join" X.env (eval (.Constant (.str x) j cp) X.env) = eval (.Constant (.str x) j cp) X.env := by rfl) (hline : (apos.endLine == pos.line) = true := by rfl) (hK : X.K = B.K := by rfl) :
    SE X B (.Call (.Attribute (.Constant (.str x) j cp) "join" apos) [e] [] pos) (tM1 (rJoinS B.K) (tC (.str x)) te) (wJoin x we) := ⟨hK ▸ (pe_m1 PySem.F.slot_str_join PySem.F.type_str_join mt_join pe_str he.pe hs hbase hline), SimE.join he.sim⟩
theorem si_str {tg : Expr} (he : SE X B e te we) : SI X B tg e (iStr te) (wIterS we) := ⟨pi_str he.pe, SimI.str he.sim⟩
end
section
variable {S : Type}
theorem e_wSlS {we : WE S} {wl wh : WO S} {ρ : Env} {s : S} {Q : Hd → Env → S → Prop} : wSlS we wl wh ρ s Q = (we ρ s fun h ρ1 s1 => wl ρ1 s1 fun lo ρ2 s2 => wh ρ2 s2 fun hi ρ3 s3 => match res ρ3 h with
  | some (.str z) => z.length ≤ sizeLine ∧ Q (.val (.str (cutS z lo hi))) ρ3 s3
  | _ => False) := nr rfl
theorem e_wJoin {a : Str} {we : WE S} {ρ : Env} {s : S} {Q : Hd → Env → S → Prop} : wJoin a we ρ s Q = (we ρ s fun h ρ1 s1 => onS (res ρ1 h) fun d => onS (dJoin a d) fun z => Q (.val z) ρ1 s1) := nr rfl
theorem e_wIterS {we : WE S} {ρ : Env} {s : S} {Q : List D → Env → S → Prop} : wIterS we ρ s Q = (we ρ s fun h ρ1 s1 => match res ρ1 h with
  | some (.str z) => Q (chD z) ρ1 s1
  | _ => False) := nr rfl
end
theorem dIxS_i {l : List Nat} {i : Int} {k : D → Prop} (h0 : 0 ≤ i) (h1 : i < l.length) (hl : l.length ≤ 10000) (q : k (.str (sT [l.getD i.toNat 0]))) : onS (dIxS (.str (sT l)) (.int i)) k := by
  have e : atI (sT l).cps.toList i = some (l.getD i.toNat 0) := by
    rw [sT_list]
    apply atI_of h0
    rw [List.getD_eq_getElem?_getD, List.getElem?_eq_getElem (by omega)]
    rfl
  show onS (if (sT l).length ≤ sizeLine then (atI (sT l).cps.toList i).map fun c => .str ⟨#[c]⟩ else none) k
  rw [if_pos (by rw [sT_len]; exact sizeLine_ge (by omega)), e]
  exact q
theorem cutS_sT (l : List Nat) (lo hi : Option Int) : cutS (sT l) lo hi = sT (cutL l lo hi) := by
  unfold cutS cutL
  rw [sT_list, sT_len]
  rfl
theorem sT_app (a b : List Nat) : sT a ++ sT b = sT (a ++ b) := by
  show Str.mk _ = Str.mk _
  simp [sT]
theorem joinL_flat : ∀ ls : List (List Nat), TL.joinL [] ls = ls.flatten
  | [] => rfl
  | [p] => by simp [TL.joinL]
  | p :: q :: r => by
    rw [TL.joinL, joinL_flat (q :: r)]
    simp
theorem join_sT (ls : List (List Nat)) : Txt.join (sT []) (ls.map sT) = sT ls.flatten := by
  have := SX.join_S [] ls
  rw [joinL_flat] at this
  exact this
theorem sT_ok {l : List Nat} (h : ∀ c ∈ l, c < 1114112) : PyData.strOk (sT l) = true := by
  unfold PyData.strOk
  simp [sT]
  exact h
end Ld

/-! Value layer, part 23: a module's tuple constants. -/
namespace Ld
open PySem PySem.Spec PyProof.Rows L2
def TupK (K : PySem.W.Frag) (a : Addr) (xs : List V) : Prop := ∃ (o : Obj) (its : Array Value) (n : Nat), K.lookup a = some o ∧ o.cls = .type "tuple" ∧ o.data = .seq its n ∧ its.size ≤ sizeLine ∧ Vals xs its.toList
section
variable {S : Type} {X : Cx} {B : Bs S} {x : Str} {pos : Pos} {vs : List V} {ds : List D}
theorem se_globT (h : ∃ a, X.mg x = some (.ref a) ∧ TupK X.K a vs) (hd : ∀ F, RpAll X.K F vs ds) (hg : Gl X x := by rfl) (hdb : (x == ("__debug__" : Str)) = false := by decide) (hK : X.K = B.K := by rfl) :
    SE X B (.Name x pos) (tC (.ref (Classical.choose h))) (wC (.tup ds)) := by
  have h1 := Classical.choose_spec h
  refine ⟨pe_glob hg h1.1 rfl hdb, sim_c fun c => ?_⟩
  rw [← hK]
  exact .tup (.inr h1.2) (hd _)
end
end Ld

/-! Value layer, part 24: texts in lists, sorting of any rows. -/
namespace Ld
open PySem PySem.Spec PyProof.Rows L2
theorem dAdd_str {x y : Str} : dAdd (.str x) (.str y) = if x.length + y.length ≤ sizeLine then some (.str (x ++ y)) else none := by
  show (match dCatS (.str x) (.str y) with | some z => some z | none => dCatL (.str x) (.str y)) = _
  show (match (if x.length + y.length ≤ sizeLine then some (D.str (x ++ y)) else none) with | some z => some z | none => none) = _
  split <;> simp_all
theorem add_sT {a b : List Nat} {k : D → Prop} (h : a.length + b.length ≤ 10000) (q : k (.str (sT (a ++ b)))) : onS (dAdd (.str (sT a)) (.str (sT b))) k := by
  rw [dAdd_str, sT_len, sT_len, if_pos (sizeLine_ge (by omega)), sT_app]
  exact q
theorem dLenA_sT {a : List Nat} {k : D → Prop} (h : a.length ≤ 10000) (q : k (.int a.length)) : onS (dLenA [.str (sT a)]) k := by
  show onS (dLenS [.str (sT a)]) k
  unfold dLenS
  simp only [sT_len]
  rw [if_pos (sizeLine_ge (by omega))]
  exact q
theorem ixA_lastM {α : Type} {xs : List α} (f : α → D) (x0 : α) {k : D → Prop} (h : xs ≠ []) (q : k (f (xs.getLastD x0))) : onS (dIxA (.lst (xs.map f)) (.int (-1))) k := by
  obtain ⟨ys, y, rfl⟩ : ∃ ys y, xs = ys ++ [y] := ⟨xs.dropLast, xs.getLast h, (List.dropLast_concat_getLast h).symm⟩
  rw [List.map_append]
  refine ixA_app ?_
  simpa using q
theorem in_strs {neg : Bool} {x : Str} {ls : List Str} {k : D → Prop} (q : ∀ b, k (.bl b)) : onS (dIn neg (.str x) (.lst (ls.map D.str))) k := by
  show onS (dIn.onSeq neg (.str x) (some (ls.map D.str))) k
  unfold dIn.onSeq
  have h : (ls.map D.str).all flatD = true := by
    rw [List.all_eq_true]
    intro d hd
    obtain ⟨y, _, rfl⟩ := List.mem_map.mp hd
    rfl
  simp only [h]
  exact q _
theorem dSort_any {rev : Bool} {ds : List D} (hp : pls 12 ds = true) (ho : SortOk (ds.map toPy)) : dSort rev [.lst ds] = some (.lst (ds.mergeSort (PySem.W.dataLe rev toPy))) := by
  show dSortL rev ds = _
  unfold dSortL
  rw [if_pos ⟨hp, ho⟩]
theorem dSortT_any {rev : Bool} {ds : List D} (hp : pls 12 ds = true) (ho : SortOk (ds.map toPy)) : dSort rev [.tup ds] = some (.lst (ds.mergeSort (PySem.W.dataLe rev toPy))) := by
  show dSortL rev ds = _
  unfold dSortL
  rw [if_pos ⟨hp, ho⟩]
theorem flat_one : ∀ cs : List Nat, (cs.map fun c => [c]).flatten = cs
  | [] => rfl
  | c :: cs => by rw [List.map_cons, List.flatten_cons, flat_one cs]; rfl
theorem len_one : ∀ cs : List Nat, ((cs.map fun c => sT [c]).map (·.length)).sum = cs.length
  | [] => rfl
  | c :: cs => by rw [List.map_cons, List.map_cons, List.sum_cons, len_one cs, sT_len, List.length_cons, List.length_cons]; show 0 + 1 + cs.length = cs.length + 1; omega
theorem join_eq {cs : List Nat} (h : cs.length ≤ 10000) : dJoin "" (.lst (cs.map fun c => D.str (sT [c]))) = some (.str (sT cs)) := by
  have e0 : (cs.map fun c => D.str (sT [c])) = (cs.map fun c => sT [c]).map D.str := by rw [List.map_map]; rfl
  have e2 : Txt.join ("" : Str) (cs.map fun c => sT [c]) = sT cs := by
    have := join_sT (cs.map fun c => [c])
    rw [flat_one, List.map_map] at this
    exact this
  rw [e0]
  unfold dJoin
  simp only [strsD_map]
  rw [if_pos (by rw [len_one, List.length_map]; show cs.length + cs.length * 0 ≤ 16777216; omega), e2]
theorem join_on {cs : List Nat} {k : D → Prop} (h : cs.length ≤ 10000) (q : k (.str (sT cs))) : onS (dJoin "" (.lst (cs.map fun c => D.str (sT [c])))) k := by
  rw [join_eq h]
  exact q
end Ld

/-! Value layer, part 25: all, any, str of a number, insert, x[k] op= e. -/
namespace Ld
open PySem PySem.Spec PyProof.Rows L2
def blsD : List D → Option (List Bool)
  | [] => some []
  | .bl b :: ds => (blsD ds).map fun bs => b :: bs
  | _ => none
theorem blsD_some : ∀ {ds : List D} {bs : List Bool}, blsD ds = some bs → ds = bs.map D.bl
  | [], bs, h => by cases h; rfl
  | d :: ds, bs, h => by
    cases d with
    | bl b =>
      unfold blsD at h
      cases e : blsD ds with
      | none => rw [e] at h; cases h
      | some ys =>
        rw [e] at h
        cases h
        rw [blsD_some e]
        rfl
    | _ => cases h
theorem blsD_map (bs : List Bool) : blsD (bs.map D.bl) = some bs := by
  induction bs with
  | nil => rfl
  | cons b bs ih => rw [List.map_cons, blsD, ih]; rfl
theorem RpAll.bls {K : PySem.W.Frag} {F : Hp} : ∀ {vs : List V} {bs : List Bool}, RpAll K F vs (bs.map D.bl) → vs = bs.map V.bl
  | [], [], _ => rfl
  | [], _ :: _, h => by cases h
  | v :: vs, [], h => by cases h
  | v :: vs, x :: xs, h => by
    cases h with
    | cons h r => cases h; rw [r.bls]; rfl
def dAllL (f : List Bool → Bool) (xs : List D) : Option D := match xs with
  | [.lst ds] => (blsD ds).map fun bs => .bl (f bs)
  | _ => none
def dAll : List D → Option D := dAllL fun bs => bs.all id
def dAny : List D → Option D := dAllL fun bs => bs.any id
def dStr (xs : List D) : Option D := match xs with
  | [.int i] => if i.natAbs.log2 < 1920 then some (.str (toString i)) else none
  | _ => none
def rInsert : V → List V → Hp → VK → Prop := fun x vs H Q => ∃ (l : Addr) (xs : List V) (i : Int) (y : V), x = .ref l ∧ vs = [.int i, y] ∧ H l = some (.lst xs) ∧ xs.length < sizeLine ∧ 0 ≤ i ∧ i < 2 ^ 63 ∧ Q .non (upd H l (.lst (xs.take i.toNat ++ [y] ++ xs.drop i.toNat)))
def fIns : List D → List D → Option (D × List D) := fun ds as => match as with
  | [.int i, d] => if ds.length < sizeLine ∧ 0 ≤ i ∧ i < 2 ^ 63 then some (.non, ds.take i.toNat ++ [d] ++ ds.drop i.toNat) else none
  | _ => none
section
variable {S : Type} {K : PySem.W.Frag} {B : Bs S}
theorem rule_all : RuleC K B (rAll K) dAll := fun c s ρ σ vs ds z Q' R rx e q => by
  unfold dAll dAllL at e
  split at e
  · rename_i xs
    obtain ⟨v, rfl, r1⟩ := rx.one
    obtain ⟨a, ws, rfl, h, r⟩ := r1.lst R
    cases e1 : blsD xs with
    | none => rw [e1] at e; cases e
    | some bs =>
      rw [e1] at e
      cases e
      rw [blsD_some e1] at r
      rw [r.bls] at h
      exact ⟨a, bs, rfl, .inl h, q _ c R (Ev.refl c) (.bl _)⟩
  · cases e
theorem rule_any : RuleC K B (rAny K) dAny := fun c s ρ σ vs ds z Q' R rx e q => by
  unfold dAny dAllL at e
  split at e
  · rename_i xs
    obtain ⟨v, rfl, r1⟩ := rx.one
    obtain ⟨a, ws, rfl, h, r⟩ := r1.lst R
    cases e1 : blsD xs with
    | none => rw [e1] at e; cases e
    | some bs =>
      rw [e1] at e
      cases e
      rw [blsD_some e1] at r
      rw [r.bls] at h
      exact ⟨a, bs, rfl, .inl h, q _ c R (Ev.refl c) (.bl _)⟩
  · cases e
theorem rule_str : RuleC K B (fun xs H Q => ∃ i, xs = [.int i] ∧ i.natAbs.log2 < 1920 ∧ Q (.str (toString i)) H) dStr := fun c s ρ σ vs ds z Q' R rx e q => by
  unfold dStr at e
  split at e
  · split at e
    · rename_i i hi
      cases e
      obtain ⟨v, rfl, r1⟩ := rx.one
      exact ⟨i, by rw [r1.int], hi, q _ c R (Ev.refl c) (.str _)⟩
    · cases e
  · cases e
theorem rule_ins : RuleM K B (AKp K B) rInsert fIns := fun c s ρ σ a vs args ds as z zs Q' R ht r ra hf q => by
  unfold fIns at hf
  split at hf
  · split at hf
    · rename_i i d hi
      cases hf
      obtain ⟨v, w, rfl, rv, rw'⟩ := ra.two2
      cases rv
      exact ⟨a, vs, i, w, rfl, rfl, tmp_lst R ht, by rw [r.length]; exact hi.1, hi.2.1, hi.2.2, q _ _ (((r.take _).append (.cons rw' .nil)).append (r.drop _)) .non⟩
    · cases hf
  · cases hf
/-- x[k] op= e, x a list of one's own, whole numbers -/
def wAugIx (i : Nat) (f : D → D → Option D) (we wk : WE S) (N : DE S) (ρ : Env) (s : S) : Prop := match ρ[i]? with
  | some (.own (.lst _)) => wk ρ s fun hk ρ1 s1 => match ρ1[i]?, res ρ1 hk with
    | some (.own (.lst ds)), some (.int k) => onS (ixN ds.length k) fun j => match ds[j]? with
      | some (.int x) => we ρ1 s1 fun h ρ2 s2 => onS (res ρ2 h) fun y => onS (f (.int x) y) fun z => match z, ρ2[i]? with
        | .int z, some (.own (.lst ds2)) => onS (ixN ds2.length k) fun j2 => N.nx (ρ2.set i (.own (.lst (ds2.set j2 (.int z))))) s2
        | _, _ => False
      | _ => False
    | _, _ => False
  | _ => False
theorem pget_list {X : Cx} : PGet X (rIxL X.K) := by
  intro pins s σ H o i ov iv Q I ro ri h
  obtain ⟨p, xs, k, z, rfl, rfl, hq, he, q⟩ := h
  cases ro
  obtain ⟨t, rfl⟩ := ri
  obtain ⟨its, r, pl, hz⟩ := I.list hq
  obtain ⟨j, h1, h2, h3, h4, h5⟩ := atI_get he
  obtain ⟨w, ew, rw'⟩ := r.get h2
  have hl := r.length
  have hn := line63
  have fin : EP X pins σ Q w s := ⟨z, H, I, rw', q⟩
  by_cases h0 : 0 ≤ k
  · have hj : k.toNat = j := by
      rw [seqIndex_of h0 h5] at h1
      exact Option.some.inj h1
    exact wpAny_getItem_list pl.isList h0 (by omega) (by rw [hj]; simpa using ew) fin
  · have hj : (k + (its.toArray.size : Int)).toNat = j := by
      rw [seqIndex_neg (by omega) h4] at h1
      rw [List.size_toArray, ← hl]
      exact Option.some.inj h1
    exact wpAny_getItem_list_neg pl.isList (by omega) (by rw [List.size_toArray] <;> omega) (by omega) (by rw [hj]; simpa using ew) fin
theorem SimS.augIx {i : Nat} {te tk : TE} {we wk : WE S} {r : R2} {f : D → D → Option D} (hr : RuleB K B r f) (he : SimE K B te we) (hk : SimE K B tk wk) : SimS K B (tAugS (tVar i) tk te (rIxL K) r rSetL) (wAugIx i f we wk) := fun c s ρ σ N N' R h E => by
  unfold wAugIx at h
  split at h
  · rename_i ds0 hx0
    obtain ⟨a, q1, q2, q3, q4⟩ := R.slots i _ hx0
    refine ⟨.ref a, q1, hk c s ρ σ _ _ R h fun hk ρ1 s1 kv c1 hw R1 e1 o1 => ?_⟩
    split at hw
    · rename_i x y ds k hx hkr
      obtain ⟨j, ej, hw⟩ := onS_iff.mp hw
      have ek := (hd_rv R1 o1 hkr).int
      subst ek
      obtain ⟨a', p1, p2, p3, vs, p4, p5⟩ := R1.slots i _ hx
      rw [q1] at p1
      cases p1
      split at hw
      · rename_i xo xi hxi
        obtain ⟨v, hv, rv⟩ := p5.get hxi
        cases rv
        refine ⟨a, vs, k, .int xi, rfl, rfl, .inl (.inl p4), by unfold atI; rw [p5.length, ej]; exact hv, ?_⟩
        refine he c1 s1 ρ1 σ _ _ R1 hw fun h ρ2 s2 v2 c2 hw R2 e2 o2 => ?_
        obtain ⟨y, ey, hw⟩ := onS_iff.mp hw
        obtain ⟨z, ez, hw⟩ := onS_iff.mp hw
        refine hr c2 s2 ρ2 σ (.int xi) v2 (.int xi) y z _ R2 (.inl (.int _)) (hd_rv R2 o2 ey) ez fun u c3 R3 e3 ru => ?_
        split at hw
        · rename_i zi ds2 hx2
          obtain ⟨j2, ej2, hw⟩ := onS_iff.mp hw
          have ru' := ru
          cases ru'
          have go := mut_go (rule_setAs k) R3 (as := [.int zi]) (args := [.int zi]) (z := .non) (zs := ds2.set j2 (.int zi)) hx2 (.cons (.int _) .nil) (fun g h => h) (by simp [fSet, ej2]) (Q' := fun _ H' => N'.nx σ H') q1 fun _ c' R' e' _ => E.nx _ _ _ c' hw R' (((e1.trans e2).trans e3).trans e')
          obtain ⟨v', hv', go⟩ := go
          cases hv'
          exact go
        · exact hw.elim
      · exact hw.elim
    · exact hw.elim
  · exact h.elim
theorem e_wAugIx {i : Nat} {f : D → D → Option D} {we wk : WE S} {N : DE S} {ρ : Env} {s : S} : wAugIx i f we wk N ρ s = (match ρ[i]? with
  | some (.own (.lst _)) => wk ρ s fun hk ρ1 s1 => match ρ1[i]?, res ρ1 hk with
    | some (.own (.lst ds)), some (.int k) => onS (ixN ds.length k) fun j => match ds[j]? with
      | some (.int x) => we ρ1 s1 fun h ρ2 s2 => onS (res ρ2 h) fun y => onS (f (.int x) y) fun z => match z, ρ2[i]? with
        | .int z, some (.own (.lst ds2)) => onS (ixN ds2.length k) fun j2 => N.nx (ρ2.set i (.own (.lst (ds2.set j2 (.int z))))) s2
        | _, _ => False
      | _ => False
    | _, _ => False
  | _ => False) := nr rfl
end
section
variable {S : Type} {X : Cx} {B : Bs S} {e k o : Expr} {es : List Expr} {t : TA} {w : WA S} {te tk : TE} {we wk : WE S} {x : Str} {p pos pos' apos cpos : Pos}
theorem se_all (hm : X.mg "all" = none) (hc : X.calm = true) (ha : SA X B (e :: es) t w) (hg : Gl X "all" := by rfl) (he : starEach (e :: es) X.env = (false, eval e X.env) :: starEach es X.env := by rfl) (hpl : (backTo pos (starEach es X.env)).any (·.1) = false := by rfl) (hK : X.K = B.K := by rfl) : SE X B (.Call (.Name "all" p) (e :: es) [] pos) (tCB (rAll B.K) t) (wCallB dAll w) := se_callB (hK ▸ cr_all hc) rule_all (by decide +kernel) (by decide) (by decide) hm ha hg he hpl
theorem se_any (hm : X.mg "any" = none) (hc : X.calm = true) (ha : SA X B (e :: es) t w) (hg : Gl X "any" := by rfl) (he : starEach (e :: es) X.env = (false, eval e X.env) :: starEach es X.env := by rfl) (hpl : (backTo pos (starEach es X.env)).any (·.1) = false := by rfl) (hK : X.K = B.K := by rfl) : SE X B (.Call (.Name "any" p) (e :: es) [] pos) (tCB (rAny B.K) t) (wCallB dAny w) := se_callB (hK ▸ cr_any hc) rule_any (by decide +kernel) (by decide) (by decide) hm ha hg he hpl
theorem se_strc (hm : X.mg "str" = none) (ha : SA X B (e :: es) t w) (hg : Gl X "str" := by rfl) (he : starEach (e :: es) X.env = (false, eval e X.env) :: starEach es X.env := by rfl) (hpl : (backTo pos (starEach es X.env)).any (·.1) = false := by rfl) : SE X B (.Call (.Name "str" p) (e :: es) [] pos) (tCB (fun xs H Q => ∃ i, xs = [.int i] ∧ i.natAbs.log2 < 1920 ∧ Q (.str (toString i)) H) t) (wCallB dStr w) := se_callT call_str_int rule_str (by decide +kernel) (by decide) (by decide) hm ha hg he hpl
theorem se_ins (i : Nat) (ho : SE X B o (tVar i) (wVar i)) (ha : SA X B (e :: es) t w) (hbase : attributeBase o "insert" X.env (eval o X.env) = eval o X.env := by rfl)
    (hfew : ((backTo cpos (starEach (e :: es) X.env)).all (fun x => !x.1) && (backToKw cpos (keywordEach [] X.env)).all (fun x => x.1.isSome)
      && decide ((e :: es).length + ([] : List Keyword).length + (if ([] : List Keyword).isEmpty then 0 else 1) < 30)) = true := by rfl)
    (hline : (apos.endLine == cpos.line) = true := by rfl) (hs : starEach (e :: es) X.env = (false, eval e X.env) :: starEach es X.env := by rfl) (hplain : (backTo cpos (starEach es X.env)).any (·.1) = false := by rfl) (hK : X.K = B.K := by rfl) :
    SE X B (.Call (.Attribute o "insert" apos) (e :: es) [] cpos) (tBM B.K "list" rInsert (tVar i) t) (wMutK i fIns w) := ⟨hK ▸ (pe_bm PySem.F.plainAttrs_list PySem.F.slot_list_insert PySem.F.type_list_insert mt_insert ho.pe ha.pa hbase hfew hline hs hplain), SimE.mutK rule_ins ha.sim⟩
theorem s_augIx (i : Nat) {op : Operator} {r : R2} {f : D → D → Option D} (hop : OpR X (inplaceOp op) r) (hr : RuleB B.K B r f) (he : SE X B e te we) (hk : SE X B k tk wk) (ho : SE X B (.Name x p) (tVar i) (wVar i))
    (ha : ∀ ov iv new, augStore k ov iv new = (do holding [new, ov, iv] (setItem ov iv new); release [new, ov, iv] []; pure .next) := by intros; rfl) (hK : X.K = B.K := by rfl) :
    SS X B (.AugAssign (.Subscript (.Name x p) k pos') op e pos) (tAugS (tVar i) tk te (rIxL B.K) r rSetL) (wAugIx i f we wk) :=
  ⟨hK ▸ ps_augS ho.pe hk.pe pget_list he.pe hop set_list ha, SimS.augIx hr he.sim hk.sim⟩
end
section
theorem dAll_bls {bs : List Bool} : dAll [.lst (bs.map D.bl)] = some (.bl (bs.all id)) := by
  show (blsD (bs.map D.bl)).map _ = _
  rw [blsD_map]
  rfl
theorem dAny_bls {bs : List Bool} : dAny [.lst (bs.map D.bl)] = some (.bl (bs.any id)) := by
  show (blsD (bs.map D.bl)).map _ = _
  rw [blsD_map]
  rfl
theorem fIns_two {ds : List D} {i : Int} {d : D} : fIns ds [.int i, d] = if ds.length < sizeLine ∧ 0 ≤ i ∧ i < 2 ^ 63 then some (.non, ds.take i.toNat ++ [d] ++ ds.drop i.toNat) else none := nr rfl
theorem dStr_int {i : Int} : dStr [.int i] = if i.natAbs.log2 < 1920 then some (.str (toString i)) else none := nr rfl
end
end Ld

/-! Value layer, part 26: zip of any two lists or tuples. -/
namespace Ld
open PySem PySem.Spec PyProof.Rows L2
/-- the list at a and the tuple at b, the items in new pairs -/
def ItzW (K : PySem.W.Frag) (a b : Addr) : It :=
  ⟨fun i H => ∃ (xs ys : List V) (x y : V), SqL K H a xs ∧ SqT K H b ys ∧ xs[i]? = some x ∧ ys[i]? = some y,
    fun i H v H' => ∃ T x y, v = .ref T ∧ H T = none ∧ H' = upd H T (.tup [x, y]) ∧ (∀ xs, SqL K H a xs → xs[i]? = some x) ∧ ∀ ys, SqT K H b ys → ys[i]? = some y,
    fun i H => ∃ xs ys : List V, SqL K H a xs ∧ SqT K H b ys ∧ (i = xs.length ∨ i = ys.length) ∧ i ≤ xs.length ∧ i ≤ ys.length⟩
theorem turn_zipW {P : Program} {w : World} {K : PySem.W.Frag} {elts : List Expr} {kk : Nat} {tpos : Pos} {a b z TI TO i1 i2 : Addr} (D : ZipSep2 z TI TO i1 i2 [i1, a] [i2, b]) (hab : a ≠ i1 ∧ b ≠ i2) :
    Turn P w K (.Tuple elts kk tpos) (ItzW K a b) [z, TI, TO, i1, i2] z (fun i h => IsZip h z TI TO .none ∧ IsTupOf2 h TI (.ref i1) (.ref i2) ∧ (∃ x y, IsTupOf2 h TO x y) ∧ h.IsListIter i1 a i ∧ h.IsTupleIter i2 b i) where
  mem := by simp
  obj := fun i h st c hc => by
    obtain ⟨hz, hTI, ⟨x, y, hTO⟩, ⟨o1, e1, _, d1⟩, ⟨o2, e2, _, d2⟩⟩ := st
    have e' : c = z ∨ c = TI ∨ c = TO ∨ c = i1 ∨ c = i2 := by simpa using hc
    rcases e' with rfl | rfl | rfl | rfl | rfl
    · exact ⟨_, hz, fun _ q => nomatch q⟩
    · exact ⟨_, hTI, fun _ q => nomatch q⟩
    · exact ⟨_, hTO, fun _ q => nomatch q⟩
    · exact ⟨o1, e1, fun _ q => by rw [d1] at q; cases q⟩
    · exact ⟨o2, e2, fun _ q => by rw [d2] at q; cases q⟩
  keep := fun i h h' st k => by
    obtain ⟨hz, hTI, ⟨x, y, hTO⟩, h1, h2⟩ := st
    exact ⟨k z (by simp) _ hz, k TI (by simp) _ hTI, ⟨x, y, k TO (by simp) _ hTO⟩, h1.at fun o q => k i1 (by simp) o q, h2.at fun o q => k i2 (by simp) o q⟩
  item := by
    intro X hP hw hK hc i pins s σ H E I hf st hg
    subst hP hw hK
    obtain ⟨hz, hTI, ⟨x0, y0, hTO⟩, h1, h2⟩ := st
    obtain ⟨xs, ys, x, y, hqx, hqy, hx, hy⟩ := hg
    obtain ⟨its, rv, p, _⟩ := I.list hqx
    obtain ⟨its2, rv2, p2, _⟩ := I.tuple hqy
    obtain ⟨u, hu, ru⟩ := rv.get hx
    obtain ⟨u2, hu2, ru2⟩ := rv2.get hy
    have hzl : z < s.heap.objs.size := Heap.lt_size hz
    have lt1 : i < its.toArray.size := by rw [List.size_toArray]; exact (List.getElem?_eq_some_iff.mp hu).1
    have lt2 : i < its2.toArray.size := by rw [List.size_toArray]; exact (List.getElem?_eq_some_iff.mp hu2).1
    refine wpAny_pyNext_zipD2_item D (Draws.list (A := X.A.in1) (I.ok.hd hc) i1 a hab.1 its.toArray) (Draws.tuple (A := X.A.in1) (I.ok.hd hc) i2 b hab.2 its2.toArray) hz hTI hTO ⟨h1, p.isList⟩ ⟨h2, p2⟩ lt1 lt2 fun v1 v2 h' tk P1 P2 z' TO' s1' s2' hT hsz hk => ?_
    have hv1 : v1 = u := by
      have P1 : its.toArray[i]? = some v1 := P1
      rw [List.getElem?_toArray, hu] at P1
      exact (Option.some.inj P1).symm
    have hv2 : v2 = u2 := by
      have P2 : its2.toArray[i]? = some v2 := P2
      rw [List.getElem?_toArray, hu2] at P2
      exact (Option.some.inj P2).symm
    subst hv1 hv2
    refine ⟨_, rfl, wpAny_letOwnedTupleGo_zip (s := { s with heap := h', toks := tk }) z' fun h'' z'' sb => ?_⟩
    have hT2 : h''.get? s.heap.objs.size = some { cls := .type "tuple", data := .seq #[v1, v2] } := (sb.2 _ (Nat.ne_of_gt hzl)).trans hT
    have new : ObjOk X.prog X.w (upd H s.heap.objs.size (.tup [x, y])) h'' s.heap.objs.size (.tup [x, y]) :=
      ⟨by show 2 ≤ sizeLine; decide, [v1, v2], .cons ru (.cons ru2 .nil), ⟨_, hT2, rfl, _, rfl⟩⟩
    have I1 : Inv X pins σ (upd H s.heap.objs.size (.tup [x, y])) { s with heap := h'', toks := tk } :=
      I.turnedNew (ch := [z, TI, TO, i1, i2]) (fun c o hb q => (sb.2 c (fun e => hb (by simp [e]))).trans (hk c o (fun e => hb (by simp [e])) (fun e => hb (by simp [e])) (fun e => hb (by simp [e])) (fun e => hb (by simp [e])) q)) hf (Nat.le_refl _) new
    have ni1 : i1 ≠ z := Ne.symm D.zi1
    have ni2 : i2 ≠ z := Ne.symm D.zi2
    refine ⟨.ref s.heap.objs.size, _, I1, rfl, ⟨_, x, y, rfl, I.hok.fresh (Nat.le_refl _), rfl, fun l hl => by rw [I.list_inj hl hqx]; exact hx, fun l hl => by rw [I.tuple_inj hl hqy]; exact hy⟩, ⟨z'', ?_, ⟨v1, v2, ?_⟩, ?_, ?_⟩, fun c hcm => ?_⟩
    · exact (sb.2 _ D.TIz).trans (hk _ _ D.TIz D.TITO D.TIi1 D.TIi2 hTI)
    · exact (sb.2 _ D.TOz).trans TO'
    · exact s1'.1.at fun o q => (sb.2 _ ni1).trans q
    · exact s2'.1.at fun o q => (sb.2 _ ni2).trans q
    · have hlt : c < s.heap.objs.size := by
        have e' : c = z ∨ c = TI ∨ c = TO ∨ c = i1 ∨ c = i2 := by simpa using hcm
        rcases e' with rfl | rfl | rfl | rfl | rfl
        · exact hzl
        · exact Heap.lt_size hTI
        · exact Heap.lt_size hTO
        · obtain ⟨_, e1, _⟩ := h1; exact Heap.lt_size e1
        · obtain ⟨_, e2, _⟩ := h2; exact Heap.lt_size e2
      rw [upd_ne (Nat.ne_of_lt hlt)]
      exact (hf c hcm).1
  done := by
    intro X hP hw hK hc i pins s σ H E I hf st hg
    subst hP hw hK
    obtain ⟨hz, hTI, ⟨x0, y0, hTO⟩, h1, h2⟩ := st
    obtain ⟨xs, ys, hqx, hqy, hend, hl1, hl2⟩ := hg
    obtain ⟨its, rv, p, _⟩ := I.list hqx
    obtain ⟨its2, rv2, p2, _⟩ := I.tuple hqy
    have l1 := rv.length
    have l2 := rv2.length
    exact wpAny_pyNext_zipD2_end D (Draws.list (A := X.A.in1) (I.ok.hd hc) i1 a hab.1 its.toArray) (Draws.tuple (A := X.A.in1) (I.ok.hd hc) i2 b hab.2 its2.toArray) hz hTI hTO ⟨h1, p.isList⟩ ⟨h2, p2⟩ (by rw [List.size_toArray]; omega) (by rw [List.size_toArray]; omega) (by rw [List.size_toArray, List.size_toArray]; omega)
      fun h' tk hk => ⟨rfl, I.turnedL (ch := [z, TI, TO, i1, i2]) (fun c o hb q => hk c o (fun e => hb (by simp [e])) (fun e => hb (by simp [e])) (fun e => hb (by simp [e])) (fun e => hb (by simp [e])) q) hf⟩
  self := fun A i s Q E st h => wpAny_pyIter_zip st.1 h
def iZipA (K : PySem.W.Frag) (ta : TA) : TI := fun σ H R => ta σ H fun vs H1 => (∃ a b xs ys, vs = [.ref a, .ref b] ∧ ((SqL K H1 a xs ∧ SqL K H1 b ys ∧ R (Itz K a b) H1) ∨ (SqT K H1 a xs ∧ SqT K H1 b ys ∧ R (RZ.ItzT K a b) H1))) ∨ (∃ a b xs ys, vs = [.ref a, .ref b] ∧ SqT K H1 a xs ∧ SqL K H1 b ys ∧ R (ItzM K a b) H1) ∨ ∃ a b xs ys, vs = [.ref a, .ref b] ∧ SqL K H1 a xs ∧ SqT K H1 b ys ∧ R (ItzW K a b) H1
theorem pi_zipA {X : Cx} {e e2 : Expr} {ta : TA} {p pos tpos : Pos} {elts : List Expr} {kk : Nat} (hg : Gl X "zip") (hm : X.mg "zip" = none) (ha : PA X [e, e2] ta)
    (hs : starEach [e, e2] X.env = (false, eval e X.env) :: starEach [e2] X.env := by rfl) (hpl : (backTo pos (starEach [e2] X.env)).any (·.1) = false := by rfl) :
    PI X (.Tuple elts kk tpos) (.Call (.Name "zip" p) [e, e2] [] pos) (iZipA X.K ta) := by
  refine ⟨fun pins s σ H R I h => ?_⟩
  refine Call_ (ld_blt I hg hm PyProof.Rows.boot_zip (PyProof.Rows.callWith_type1 (thn (ha.run pos pins s σ H _ I h) fun us s1 ⟨vs, H1, I1, r1, q1⟩ => ?_) hs hpl))
  rcases q1 with ⟨a, b, xs, ys, rfl, q1⟩ | ⟨a, b, xs, ys, rfl, hqx, hqy, q⟩ | ⟨a, b, xs, ys, rfl, hqx, hqy, q⟩
  all_goals
    obtain ⟨v1, v2, rfl, ra, rb⟩ := vals2 r1
    obtain rfl : v1 = Value.ref a := ra
    obtain rfl : v2 = Value.ref b := rb
    have fresh5 : ∀ c, c ∈ [s1.heap.objs.size + 4, s1.heap.objs.size + 2, s1.heap.objs.size + 3, s1.heap.objs.size, s1.heap.objs.size + 1] → FpOk X pins H1 c := fun c hcm => by
      have hle : s1.heap.objs.size ≤ c := by
        simp only [List.mem_cons, List.not_mem_nil, or_false] at hcm
        rcases hcm with rfl | rfl | rfl | rfl | rfl <;> first | exact Nat.le_refl _ | exact Nat.le_add_right _ _
      exact I1.fpOk hle (I1.hok.fresh hle)
  · rcases q1 with ⟨hqx, hqy, q⟩ | ⟨hqx, hqy, q⟩
    · obtain ⟨its, rv, p1, _⟩ := I1.list hqx
      obtain ⟨its2, rv2, p2, _⟩ := I1.list hqy
      exact call_zip_2 p1.isList p2.isList fun h' hz hTI hTO h1 h2 hsz hk => wpAny_pyIter_zip hz ⟨_, _, _, _, H1, rfl, I1.kept (t' := s1.toks) hk, turn_zip (PySem.W.ktu_apart s1.heap.objs.size a b p1.lt p2.lt), ⟨hz, hTI, ⟨_, _, hTO⟩, h1, h2⟩, fresh5, q⟩
    · obtain ⟨its, rv, p1, _⟩ := I1.tuple hqx
      obtain ⟨its2, rv2, p2, _⟩ := I1.tuple hqy
      obtain ⟨o1, ho1, _⟩ := id p1
      obtain ⟨o2, ho2, _⟩ := id p2
      exact RZ.call_zipT (show s1.heap.IsTuple a its.toArray from p1) (show s1.heap.IsTuple b its2.toArray from p2) fun h' hz hTI hTO h1 h2 hsz hk => wpAny_pyIter_zip hz ⟨_, _, _, _, H1, rfl, I1.kept (t' := s1.toks) hk, RZ.turn_zipT (PySem.W.ktu_apart s1.heap.objs.size a b (Heap.lt_size ho1) (Heap.lt_size ho2)), ⟨hz, hTI, ⟨_, _, hTO⟩, h1, h2⟩, fresh5, q⟩
  · obtain ⟨its, rv, p1, _⟩ := I1.tuple hqx
    obtain ⟨its2, rv2, p2, _⟩ := I1.list hqy
    obtain ⟨o1, ho1, _⟩ := id p1
    have la : a < s1.heap.objs.size := Heap.lt_size ho1
    have lb : b < s1.heap.objs.size := p2.lt
    refine zip_begins2 (begins_tuple a its.toArray) (begins_list b its2.toArray) p1 p2.isList fun h' hz hTI hTO g1 g2 hsz hk => wpAny_pyIter_zip hz ⟨_, [s1.heap.objs.size + 4, s1.heap.objs.size + 2, s1.heap.objs.size + 3, s1.heap.objs.size, s1.heap.objs.size + 1], _, _, H1, rfl, I1.kept (t' := s1.toks) hk, turn_zipM (a := a) (b := b) (i1 := s1.heap.objs.size) (i2 := s1.heap.objs.size + 1) (TI := s1.heap.objs.size + 2) (TO := s1.heap.objs.size + 3) ?_ ⟨?_, ?_⟩, ⟨hz, hTI, ⟨_, _, hTO⟩, ⟨_, g1, rfl, rfl⟩, ⟨_, g2, rfl, rfl⟩⟩, fresh5, q⟩
    · exact zipSep_mk _ _ _ la lb
    · exact Nat.ne_of_lt la
    · exact Nat.ne_of_lt (Nat.lt_succ_of_lt lb)
  · obtain ⟨its, rv, p1, _⟩ := I1.list hqx
    obtain ⟨its2, rv2, p2, _⟩ := I1.tuple hqy
    obtain ⟨o2, ho2, _⟩ := id p2
    have la : a < s1.heap.objs.size := p1.lt
    have lb : b < s1.heap.objs.size := Heap.lt_size ho2
    refine zip_begins2 (begins_list a its.toArray) (begins_tuple b its2.toArray) p1.isList p2 fun h' hz hTI hTO g1 g2 hsz hk => wpAny_pyIter_zip hz ⟨_, [s1.heap.objs.size + 4, s1.heap.objs.size + 2, s1.heap.objs.size + 3, s1.heap.objs.size, s1.heap.objs.size + 1], _, _, H1, rfl, I1.kept (t' := s1.toks) hk, turn_zipW (a := a) (b := b) (i1 := s1.heap.objs.size) (i2 := s1.heap.objs.size + 1) (TI := s1.heap.objs.size + 2) (TO := s1.heap.objs.size + 3) ?_ ⟨?_, ?_⟩, ⟨hz, hTI, ⟨_, _, hTO⟩, ⟨_, g1, rfl, rfl⟩, ⟨_, g2, rfl, rfl⟩⟩, fresh5, q⟩
    · exact zipSep_mk _ _ _ la lb
    · exact Nat.ne_of_lt la
    · exact Nat.ne_of_lt (Nat.lt_succ_of_lt lb)
section
variable {S : Type} {K : PySem.W.Frag} {B : Bs S}
def wZipA (wa : WA S) (ρ : Env) (s : S) (Q : List D → Env → S → Prop) : Prop := wa ρ s fun hs ρ1 s1 => onS (valL hs) fun ds => match ds with
  | [.lst xs, .lst ys] => Q (zipD xs ys) ρ1 s1
  | [.tup xs, .tup ys] => Q (zipD xs ys) ρ1 s1
  | [.tup xs, .lst ys] => Q (zipD xs ys) ρ1 s1
  | [.lst xs, .tup ys] => Q (zipD xs ys) ρ1 s1
  | _ => False
theorem walk_zipW {a b : Addr} {xs ys : List V} {n : Nat} (hn : n = min xs.length ys.length) : Walk (ItzW K a b) n (fun H => SqL K H a xs ∧ SqT K H b ys) (YPair (fun i => xs[i]?) (fun i => ys[i]?)) := by
  subst hn
  refine ⟨fun i _ hi q => ⟨xs, ys, xs[i]'(by omega), ys[i]'(by omega), q.1, q.2, by simp, by simp⟩, fun _ q => ⟨xs, ys, q.1, q.2, by omega, by omega, by omega⟩, fun i H v H' _ q y => ?_⟩
  obtain ⟨T, x, y, h1, h2, h3, h4, h5⟩ := y
  exact ⟨T, x, y, h1, h2, h3, h4 xs q.1, h5 ys q.2⟩
theorem SimI.zipA {ta : TA} {wa : WA S} (ha : SimA K B ta wa) : SimI K B (iZipA K ta) (wZipA wa) := fun c s ρ σ Q R' R hw q => by
  refine ha c s ρ σ _ _ R hw fun hs ρ1 s1 vs c1 hw R1 e1 o1 => ?_
  obtain ⟨ds, ed, hw⟩ := onS_iff.mp hw
  have r := valL_rp o1 ed
  split at hw
  · rename_i xs ys
    cases r with
    | cons r1 r =>
      cases r with
      | cons r2 r =>
        cases r
        cases r1 with
        | lst h1 r1 =>
          cases r2 with
          | lst h2 r2 =>
            rename_i a us b ws
            refine .inl ⟨a, b, us, ws, rfl, .inl ⟨.inl (R1.fsub.rd h1), .inl (R1.fsub.rd h2), ?_⟩⟩
            refine q _ _ _ _ c1 _ _ hw R1 e1 (wk_pair (F := fun _ => none) (G' := fun _ => none) (n := min us.length ws.length) (by rw [zipD_len, r1.length, r2.length]) (walk_zip rfl) (fun c2 s ρ σ R sb => ⟨.inl (R.fsub.rd (sb.rd h1)), .inl (R.fsub.rd (sb.rd h2))⟩) fun i x y hi e1 e2 => ?_)
            obtain ⟨dx, hx, rx⟩ := r1.getV e1
            obtain ⟨dy, hy, ry⟩ := r2.getV e2
            exact ⟨dx, dy, zipD_get hx hy, rx, ry⟩
  · rename_i xs ys
    cases r with
    | cons r1 r =>
      cases r with
      | cons r2 r =>
        cases r
        cases r1 with
        | tup h1 r1 =>
          cases r2 with
          | tup h2 r2 =>
            rename_i a us b ws
            refine .inl ⟨a, b, us, ws, rfl, .inr ⟨(h1.mono R1.fsub).sq, (h2.mono R1.fsub).sq, ?_⟩⟩
            refine q _ _ _ _ c1 _ _ hw R1 e1 (wk_pair (F := fun _ => none) (G' := fun _ => none) (n := min us.length ws.length) (by rw [zipD_len, r1.length, r2.length]) (walk_zipT rfl) (fun c2 s ρ σ R sb => ⟨((h1.mono sb).mono R.fsub).sq, ((h2.mono sb).mono R.fsub).sq⟩) fun i x y hi e1 e2 => ?_)
            obtain ⟨dx, hx, rx⟩ := r1.getV e1
            obtain ⟨dy, hy, ry⟩ := r2.getV e2
            exact ⟨dx, dy, zipD_get hx hy, rx, ry⟩
  · rename_i xs ys
    cases r with
    | cons r1 r =>
      cases r with
      | cons r2 r =>
        cases r
        cases r1 with
        | tup h1 r1 =>
          cases r2 with
          | lst h2 r2 =>
            rename_i a us b ws
            refine .inr (.inl ⟨a, b, us, ws, rfl, (h1.mono R1.fsub).sq, .inl (R1.fsub.rd h2), ?_⟩)
            refine q _ _ _ _ c1 _ _ hw R1 e1 (wk_pair (F := fun _ => none) (G' := fun _ => none) (n := min us.length ws.length) (by rw [zipD_len, r1.length, r2.length]) (walk_zipM rfl) (fun c2 s ρ σ R sb => ⟨((h1.mono sb).mono R.fsub).sq, .inl (R.fsub.rd (sb.rd h2))⟩) fun i x y hi e1 e2 => ?_)
            obtain ⟨dx, hx, rx⟩ := r1.getV e1
            obtain ⟨dy, hy, ry⟩ := r2.getV e2
            exact ⟨dx, dy, zipD_get hx hy, rx, ry⟩
  · rename_i xs ys
    cases r with
    | cons r1 r =>
      cases r with
      | cons r2 r =>
        cases r
        cases r1 with
        | lst h1 r1 =>
          cases r2 with
          | tup h2 r2 =>
            rename_i a us b ws
            refine .inr (.inr ⟨a, b, us, ws, rfl, .inl (R1.fsub.rd h1), (h2.mono R1.fsub).sq, ?_⟩)
            refine q _ _ _ _ c1 _ _ hw R1 e1 (wk_pair (F := fun _ => none) (G' := fun _ => none) (n := min us.length ws.length) (by rw [zipD_len, r1.length, r2.length]) (walk_zipW rfl) (fun c2 s ρ σ R sb => ⟨.inl (R.fsub.rd (sb.rd h1)), ((h2.mono sb).mono R.fsub).sq⟩) fun i x y hi e1 e2 => ?_)
            obtain ⟨dx, hx, rx⟩ := r1.getV e1
            obtain ⟨dy, hy, ry⟩ := r2.getV e2
            exact ⟨dx, dy, zipD_get hx hy, rx, ry⟩
  · exact hw.elim
theorem si_zipA {X : Cx} {B : Bs S} {e e2 : Expr} {ta : TA} {wa : WA S} {p pos tpos : Pos} {elts : List Expr} {kk : Nat} (hm : X.mg "zip" = none) (ha : SA X B [e, e2] ta wa) (hg : Gl X "zip" := by rfl)
    (hs : starEach [e, e2] X.env = (false, eval e X.env) :: starEach [e2] X.env := by rfl) (hpl : (backTo pos (starEach [e2] X.env)).any (·.1) = false := by rfl) (hK : X.K = B.K := by rfl) :
    SI X B (.Tuple elts kk tpos) (.Call (.Name "zip" p) [e, e2] [] pos) (iZipA B.K ta) (wZipA wa) := ⟨hK ▸ pi_zipA hg hm ha.pa hs hpl, SimI.zipA ha.sim⟩
theorem e_wZipA {wa : WA S} {ρ : Env} {s : S} {Q : List D → Env → S → Prop} : wZipA wa ρ s Q = (wa ρ s fun hs ρ1 s1 => onS (valL hs) fun ds => match ds with
  | [.lst xs, .lst ys] => Q (zipD xs ys) ρ1 s1
  | [.tup xs, .tup ys] => Q (zipD xs ys) ρ1 s1
  | [.tup xs, .lst ys] => Q (zipD xs ys) ρ1 s1
  | [.lst xs, .tup ys] => Q (zipD xs ys) ρ1 s1
  | _ => False) := nr rfl
end
end Ld

/-! Value layer, part 27: sum of a range. -/
namespace Ld
open PySem PySem.Spec PyProof.Rows L2
def upSum (n : Nat) : Int := ((List.range n).map fun (i : Nat) => (i : Int)).sum
theorem upSum_zero : upSum 0 = 0 := rfl
theorem upSum_succ (n : Nat) : upSum (n + 1) = upSum n + n := by simp [upSum, List.range_succ]
theorem preSum_up (n : Nat) : preSum (fun i => (0 : Int) + (i : Int) * 1) n = upSum n := by
  induction n with
  | zero => rfl
  | succ n ih =>
    rw [preSum, ih, upSum_succ]
    omega
def rRange1 : List V → Hp → VK → Prop := fun vs H Q => ∃ j, vs = [V.int j] ∧ ∀ p, H p = none → Q (.ref p) (upd H p (.rng 0 j))
def rSumRng : List V → Hp → VK → Prop := fun vs H Q => ∃ (a : Addr) (n : Nat), vs = [V.ref a] ∧ H a = some (.rng 0 n) ∧ (n : Int) < 2 ^ 62 ∧ Q (.int (upSum n)) H
section
variable {X : Cx}
theorem cr_range1 : CallR X (.type "range") rRange1 := by
  intro pins s σ H vs us Q I r h
  obtain ⟨j, rfl, q⟩ := h
  obtain ⟨u, rfl, ru⟩ := r.one
  obtain ⟨t, rfl⟩ := ru
  refine call_range_1 ⟨.ref s.heap.objs.size, upd H s.heap.objs.size (.rng 0 j), I.laid (t' := s.toks + 1 + 1) (fun b o e => Heap.get?_push_of_some _ e) (Nat.le_refl _) ?_, rfl, q _ (I.hok.fresh (Nat.le_refl _))⟩
  exact ⟨s.toks, t, s.toks + 1, Heap.get?_push_size _ rfl⟩
theorem cr_sumRng (hc : X.calm = true) : CallR X (.builtin "sum") rSumRng := by
  intro pins s σ H vs us Q I r h
  obtain ⟨a, n, rfl, ha, hn, q⟩ := h
  rw [Vals.ref1 r]
  obtain ⟨t1, t2, t3, ho⟩ := I.hok a _ ha
  refine PySem.call_sum_walkG (wpAny_pyIter_range (a := 0) (b := (n : Int)) (c := 1) ho (small_one (by decide) (by decide) (by omega) (by omega)) ?_)
  refine ⟨_, _, _, n, _, _, fun i => (0 : Int) + (i : Int) * 1, rfl, Walks.range (A := X.A.in1) (I.ok.hd hc) s.heap.objs.size 0 1 n, ?_, ?_, fun i v h => h, fun h' tk t' hk => ?_⟩
  · have e : Builtin.Range.rangeSize 0 (n : Int) 1 = (n : Int) - (0 : Nat) := by rw [rangeSize_one]; split <;> omega
    show IsRangeIter _ _ _ _ _
    rw [show (0 : Int) + ((0 : Nat) : Int) * 1 = 0 by rfl, ← e]
    exact Heap.get?_push_size _ rfl
  · intro b hb
    simp only [List.mem_singleton] at hb
    subst hb
    rw [size_push']
    exact Nat.lt_succ_self _
  · refine ⟨.int _, H, I.kept fun b o eo => hk b o (fun hm => ?_) (Heap.get?_push_of_some _ eo), ⟨t', by rw [preSum_up]⟩, q⟩
    simp only [List.mem_singleton] at hm
    exact absurd (hm ▸ Heap.lt_size eo) (Nat.lt_irrefl _)
end
def dSumR (d : D) : Option D := match d with
  | .int i => if 0 ≤ i ∧ i < 2 ^ 62 then some (.int (upSum i.toNat)) else none
  | _ => none
theorem dSumR_nat {n : Nat} : dSumR (.int n) = if 0 ≤ (n : Int) ∧ (n : Int) < 2 ^ 62 then some (.int (upSum n)) else none := nr rfl
def tSumR (te : TE) : TE := tCB rSumRng (tCons (tCB rRange1 (tCons te tNil)) tNil)
theorem SimE.sumR {S : Type} {K : PySem.W.Frag} {B : Bs S} {te : TE} {we : WE S} (he : SimE K B te we) : SimE K B (tSumR te) (wUn dSumR we) := fun c s ρ σ Q Q' R hw q => by
  refine he c s ρ σ _ _ R hw fun h ρ1 s1 v c1 hw R1 e1 o1 => ?_
  obtain ⟨x, ex, hw⟩ := onS_iff.mp hw
  obtain ⟨z, ez, hw⟩ := onS_iff.mp hw
  unfold dSumR at ez
  split at ez
  · rename_i i
    split at ez
    · rename_i hi
      cases ez
      have rv := (hd_rv R1 o1 ex).int
      refine ⟨i, by rw [rv], fun p hp => ?_⟩
      obtain ⟨R2, e2, f⟩ := R1.new (o := .rng 0 i) hp
      refine ⟨p, i.toNat, rfl, by rw [upd_same, show ((i.toNat : Nat) : Int) = i by omega], by omega, ?_⟩
      exact q _ _ _ _ { c1 with H := upd c1.H p (.rng 0 i) } hw R2 (e1.trans e2) (.int _)
    · cases ez
  · cases ez
section
variable {S : Type} {X : Cx} {B : Bs S} {e : Expr} {te : TE} {we : WE S} {p p2 pos pos2 : Pos}
theorem se_sumRange (hm : X.mg "sum" = none) (hm2 : X.mg "range" = none) (hc : X.calm = true) (he : SE X B e te we) (hg : Gl X "sum" := by rfl) (hg2 : Gl X "range" := by rfl)
    (h1 : starEach [e] X.env = (false, eval e X.env) :: starEach [] X.env := by rfl) (h2 : (backTo pos2 (starEach [] X.env)).any (·.1) = false := by rfl)
    (h3 : starEach [.Call (.Name "range" p2) [e] [] pos2] X.env = (false, eval (.Call (.Name "range" p2) [e] [] pos2) X.env) :: starEach [] X.env := by rfl) (h4 : (backTo pos (starEach [] X.env)).any (·.1) = false := by rfl) :
    SE X B (.Call (.Name "sum" p) [.Call (.Name "range" p2) [e] [] pos2] [] pos) (tSumR te) (wUn dSumR we) :=
  ⟨pe_callB (cr_sumRng hc) hg hm (by decide +kernel) (pa_cons (pe_callTy cr_range1 hg2 hm2 (by decide +kernel) (pa_cons he.pe pa_nil h1) (by decide) (by decide) h1 h2) pa_nil h3) (by decide) (by decide) h3 h4, SimE.sumR he.sim⟩
end
end Ld

/-! Value layer, part 28: defs handed as values, tuples of whole numbers compared. -/
namespace Ld
open PySem PySem.Spec PyProof.Rows L2
def tCallV (i : Nat) (R : Addr → Sp → Prop) (t : TA) : TE := fun σ H Q => ∃ f sp, σ[i]? = some (some (.ref f)) ∧ R f sp ∧ t σ H fun vs H1 => sp vs H1 Q (fun _ _ _ => False)
section
variable {X : Cx} {k i : Nat} {x : Str} {p pos : Pos} {e : Expr} {es : List Expr} {t : TA}
theorem pe_callV2 {R : Addr → Sp → Prop} (A : ∀ f sp, R f sp → Held X.prog X.w X.K X.mg X.base k f sp) (hr : Room k X.A) (hN : X.N[i]? = some x) (hv : Vis X.env.scope x) (ha : PA X (e :: es) t)
    (hdb : (x == ("__debug__" : Str)) = false := by decide) (hcd : (x == ("__classdict__" : Str)) = false := by decide)
    (he : starEach (e :: es) X.env = (false, eval e X.env) :: starEach es X.env := by rfl) (hpl : (backTo pos (starEach es X.env)).any (·.1) = false := by rfl) : PE X (.Call (.Name x p) (e :: es) [] pos) (tCallV i R t) := by
  refine ⟨fun pins s σ H Q I h => ?_⟩
  obtain ⟨f, sp, hs, hS, ht⟩ := h
  obtain ⟨fd, ps, F, hk, hb⟩ := (A f sp hS).ex
  refine (pe_callL (i := i) (f := f) (sp := sp) (dvs := []) (E := fun _ _ _ => False) F hr hN hv hk hb .nil (fun _ _ _ _ _ _ _ z => z.elim) ha hdb hcd he hpl).run pins s σ H Q I ⟨hs, ?_⟩
  have e0 : (fun (vs : List V) (H1 : Hp) => sp (vs ++ []) H1 Q (fun _ _ _ => False)) = fun vs H1 => sp vs H1 Q (fun _ _ _ => False) := by
    funext vs H1
    rw [List.append_nil]
  show t σ H (fun vs H1 => sp (vs ++ []) H1 Q (fun _ _ _ => False))
  rw [e0]
  exact ht
end
section
variable {S : Type} {K : PySem.W.Frag} {B : Bs S} {wl : Wld S} {n i : Nat} {ta : TA} {wa : WA S}
def wCallV (i n : Nat) (R : Addr → MD S → Prop) (wa : WA S) (ρ : Env) (s : S) (Q : Hd → Env → S → Prop) : Prop := match ρ[i]? with
  | some (.val (.ref a)) => ∃ m, R a m ∧ wa ρ s fun hs ρ1 s1 => onS (resL ρ1 hs) fun ds => ds.length = n ∧ mcall m ds s1 fun d s2 => Q (.val d) ρ1 s2
  | _ => False
theorem e_wCallV {R : Addr → MD S → Prop} {ρ : Env} {s : S} {Q : Hd → Env → S → Prop} : wCallV i n R wa ρ s Q = (match ρ[i]? with
  | some (.val (.ref a)) => ∃ m, R a m ∧ wa ρ s fun hs ρ1 s1 => onS (resL ρ1 hs) fun ds => ds.length = n ∧ mcall m ds s1 fun d s2 => Q (.val d) ρ1 s2
  | _ => False) := nr rfl
theorem SimE.callV {R : Addr → MD S → Prop} (hB : B.Wd = wl.Wd) (ha : SimA K B ta wa) : SimE K B (tCallV i (fun f sp => ∃ m, R f m ∧ sp = spD K wl true n m) ta) (wCallV i n R wa) := fun c s ρ σ Q Q' Rl hw q => by
  unfold wCallV at hw
  split at hw
  · rename_i a hx
    obtain ⟨m, hR, hw⟩ := hw
    obtain ⟨v, hv, rv⟩ := Rl.slots i _ hx
    cases rv
    have h := SimE.callF (K := K) (B := B) (wl := wl) (n := n) (m := m) (ta := ta) (wa := wa) (E := fun _ _ _ => False) hB ha c s ρ σ Q Q' Rl hw q
    refine ⟨a, _, hv, ⟨m, hR, rfl⟩, ?_⟩
    have e0 : (fun (vs : List V) (H1 : Hp) => spD K wl true n m (vs ++ []) H1 Q' (fun _ _ _ => False)) = fun vs H1 => spD K wl true n m vs H1 Q' (fun _ _ _ => False) := by
      funext vs H1
      rw [List.append_nil]
    rw [← e0]
    exact h
  · exact hw.elim
end
section
variable {S : Type} {X : Cx} {B : Bs S} {wl : Wld S} {k n : Nat} {x : Str} {p pos : Pos} {e : Expr} {es : List Expr} {t : TA} {wa : WA S}
theorem se_callV (i : Nat) {R : Addr → MD S → Prop} (A : ∀ f m, R f m → ∃ fd ps, FnOk X.prog X.w X.K X.mg X.base CX0 k f fd ps (spD X.K wl true n m) ∧ PySem.W.keepIn X.K (.ref f) = true ∧ Binds X.K fd ps []) (hr : Room k X.A) (ha : SA X B (e :: es) t wa) (hN : X.N[i]? = some x := by rfl) (hv : X.env.scope.names.lookup x = some .local := by rfl) (hB : B.Wd = wl.Wd := by rfl)
    (hdb : (x == ("__debug__" : Str)) = false := by decide) (hcd : (x == ("__classdict__" : Str)) = false := by decide) (he : starEach (e :: es) X.env = (false, eval e X.env) :: starEach es X.env := by rfl) (hpl : (backTo pos (starEach es X.env)).any (·.1) = false := by rfl) (hK : X.K = B.K := by rfl) :
    SE X B (.Call (.Name x p) (e :: es) [] pos) (tCallV i (fun f sp => ∃ m, R f m ∧ sp = spD B.K wl true n m) t) (wCallV i n R wa) :=
  ⟨hK ▸ pe_callV2 (R := fun f sp => ∃ m, R f m ∧ sp = spD X.K wl true n m) (fun f sp h => by obtain ⟨m, hR, rfl⟩ := h; exact ⟨A f m hR⟩) hr hN (.inl hv) ha.pa hdb hcd he hpl, SimE.callV hB ha.sim⟩
end
/-! ### tuples of whole numbers compared -/
def lexD (r : Int → Int → Bool) (z : Bool) (ns ms : List Int) : Bool := Ob.lexAt (fun j => decide (ns.getD j 0 = ms.getD j 0)) (fun j => r (ns.getD j 0) (ms.getD j 0)) z 0 (min ns.length ms.length)
def rLtT (K : PySem.W.Frag) : R2 := fun x y H Q => ∃ (a b : Addr) (ns ms : List Int), x = .ref a ∧ y = .ref b ∧ SqT K H a (ns.map V.int) ∧ SqT K H b (ms.map V.int) ∧ Q (.bl (lexD (fun i j => decide (i < j)) (decide (ns.length < ms.length)) ns ms)) H
theorem op_ltT {X : Cx} (hu : X.A.units < cLine) : OpR X (compareOp .Lt) (rLtT X.K) := by
  intro pins s σ H x y v u Q I rx ry h
  obtain ⟨a, b, ns, ms, rfl, rfl, ha, hb, q⟩ := h
  cases rx
  cases ry
  obtain ⟨its, r1, p1, _⟩ := I.tuple ha
  obtain ⟨its2, r2, p2, _⟩ := I.tuple hb
  have i1 : IntsAre its ns := Vals.ints r1
  have i2 : IntsAre its2 ms := Vals.ints r2
  have e1 : its.toArray.size = ns.length := by rw [List.size_toArray]; exact i1.length
  have e2 : its2.toArray.size = ms.length := by rw [List.size_toArray]; exact i2.length
  have at1 : ∀ j (h1 : j < its.toArray.size), ∃ t, its.toArray[j] = .int (ns.getD j 0) t := fun j h1 => PyProof.Rows.IntsAre.int_at i1 _ _ (by simp at h1; simp [h1])
  have at2 : ∀ j (h1 : j < its2.toArray.size), ∃ t, its2.toArray[j] = .int (ms.getD j 0) t := fun j h1 => PyProof.Rows.IntsAre.int_at i2 _ _ (by simp at h1; simp [h1])
  have R := Ob.RcOp.tuples_lt (A := X.A) (s := s) (e := fun j => decide (ns.getD j 0 = ms.getD j 0)) (r := fun j => decide (ns.getD j 0 < ms.getD j 0)) p1 p2 hu (fun j h1 h2 => by
    obtain ⟨t, et⟩ := at1 j h1
    obtain ⟨t', et'⟩ := at2 j h2
    rw [et, et']
    have z : (ns.getD j 0 == ms.getD j 0) = decide (ns.getD j 0 = ms.getD j 0) := by
      by_cases q : ns.getD j 0 = ms.getD j 0
      · rw [decide_eq_true q]; exact beq_iff_eq.mpr q
      · rw [decide_eq_false q]; exact beq_eq_false_iff_ne.mpr q
    rw [← z]
    exact SeqAt.EqAt.int_int _ _ _ _) (fun j h1 h2 _ => by
    obtain ⟨t, et⟩ := at1 j h1
    obtain ⟨t', et'⟩ := at2 j h2
    rw [et, et']
    exact Ob.RcOp.lt_int _ _ _ _)
  rw [e1, e2] at R
  have z : wpAny (model X.prog X.w) X.A (compareOp .Lt (.ref a) (.ref b)) (EP X pins σ Q) X.xe s := R X.prog X.w X.xe (EP X pins σ Q) ⟨.bl _, H, I, rfl, q⟩
  exact z
def dLexT (r : Int → Int → Bool) (zf : Nat → Nat → Bool) (x y : D) : Option D := match x, y with
  | .tup xs, .tup ys => (intsD xs).bind fun ns => (intsD ys).map fun ms => .bl (lexD r (zf ns.length ms.length) ns ms)
  | _, _ => none
section
variable {S : Type} {K : PySem.W.Frag} {B : Bs S}
theorem rule_ltT : RuleB K B (rLtT K) (dLexT (fun i j => decide (i < j)) fun a b => decide (a < b)) := fun c s ρ σ x y dx dy z Q' R rx ry e q => by
  unfold dLexT at e
  split at e
  · rename_i xs ys
    cases h1 : intsD xs with
    | none => rw [h1] at e; cases e
    | some ns =>
      cases h2 : intsD ys with
      | none => rw [h1, h2] at e; cases e
      | some ms =>
        rw [h1, h2] at e
        cases e
        obtain ⟨a, vs, rfl, ha, ra⟩ := Rv.tup R rx
        obtain ⟨b, ws, rfl, hb, rb⟩ := Rv.tup R ry
        rw [intsD_some h1] at ra
        rw [intsD_some h2] at rb
        rw [ra.ints] at ha
        rw [rb.ints] at hb
        exact ⟨a, b, ns, ms, rfl, rfl, ha, hb, q _ c R (Ev.refl c) (.bl _)⟩
  · cases e
theorem rule_leT : RuleB K B (rLeT K) (dLexT (fun i j => decide (i ≤ j)) fun a b => decide (a ≤ b)) := fun c s ρ σ x y dx dy z Q' R rx ry e q => by
  unfold dLexT at e
  split at e
  · rename_i xs ys
    cases h1 : intsD xs with
    | none => rw [h1] at e; cases e
    | some ns =>
      cases h2 : intsD ys with
      | none => rw [h1, h2] at e; cases e
      | some ms =>
        rw [h1, h2] at e
        cases e
        obtain ⟨a, vs, rfl, ha, ra⟩ := Rv.tup R rx
        obtain ⟨b, ws, rfl, hb, rb⟩ := Rv.tup R ry
        rw [intsD_some h1] at ra
        rw [intsD_some h2] at rb
        rw [ra.ints] at ha
        rw [rb.ints] at hb
        exact ⟨a, b, ns, ms, rfl, rfl, ha, hb, q _ c R (Ev.refl c) (.bl _)⟩
  · cases e
def dLtA : D → D → Option D := orD (dIb fun i j => decide (i < j)) (dLexT (fun i j => decide (i < j)) fun a b => decide (a < b))
def dLeA : D → D → Option D := orD (dIb fun i j => decide (i ≤ j)) (dLexT (fun i j => decide (i ≤ j)) fun a b => decide (a ≤ b))
theorem rule_ltA : RuleB K B (orR (rI0 fun i j => .bl (decide (i < j))) (rLtT K)) dLtA := RuleB.or rule_Ib rule_ltT
theorem rule_leA : RuleB K B (orR (rI0 fun i j => .bl (decide (i ≤ j))) (rLeT K)) dLeA := RuleB.or rule_Ib rule_leT
theorem op_ltA {X : Cx} {B : Bs S} (hu : X.A.units + 64 < cLine) (hK : X.K = B.K := by rfl) : OpR X (compareOp .Lt) (orR (rI0 fun i j => .bl (decide (i < j))) (rLtT B.K)) := hK ▸ OpR.or' op_lt (op_ltT (by omega))
theorem op_leA {X : Cx} {B : Bs S} (hu : X.A.units + 64 < cLine) (hK : X.K = B.K := by rfl) : OpR X (compareOp .LtE) (orR (rI0 fun i j => .bl (decide (i ≤ j))) (rLeT B.K)) := hK ▸ OpR.or' op_le (op_leT (by omega))
theorem dLtA_int {i j : Int} : dLtA (.int i) (.int j) = some (.bl (decide (i < j))) := nr rfl
theorem dLeA_int {i j : Int} : dLeA (.int i) (.int j) = some (.bl (decide (i ≤ j))) := nr rfl
theorem dLtA_two {a b c d : Int} : dLtA (.tup [.int a, .int b]) (.tup [.int c, .int d]) = some (.bl (if a = c then (if b = d then false else decide (b < d)) else decide (a < c))) := by
  have e1 : intsD [D.int a, D.int b] = some [a, b] := rfl
  have e2 : intsD [D.int c, D.int d] = some [c, d] := rfl
  have e0 : ∀ f : Int → Int → Bool, dIb f (D.tup [.int a, .int b]) (D.tup [.int c, .int d]) = none := fun _ => rfl
  simp [dLtA, dLeA, orD, e0, dLexT, e1, e2, lexD, Ob.lexAt]
theorem dLeA_two {a b c d : Int} : dLeA (.tup [.int a, .int b]) (.tup [.int c, .int d]) = some (.bl (if a = c then (if b = d then true else decide (b ≤ d)) else decide (a ≤ c))) := by
  have e1 : intsD [D.int a, D.int b] = some [a, b] := rfl
  have e2 : intsD [D.int c, D.int d] = some [c, d] := rfl
  have e0 : ∀ f : Int → Int → Bool, dIb f (D.tup [.int a, .int b]) (D.tup [.int c, .int d]) = none := fun _ => rfl
  simp [dLtA, dLeA, orD, e0, dLexT, e1, e2, lexD, Ob.lexAt]
end
end Ld

/-! Value layer, part 29: t[::-1] of a tuple, tuple(range(n)), extend by a new list. -/
namespace Ld
open PySem PySem.Spec PyProof.Rows L2
section
variable {prog : Program} {w : World} {A : Around} {E : Value → Shared → Prop} {s : Shared}
theorem adjust_rev (n : Nat) : Builtin.Slice.sliceAdjust none none (-1) (n : Int) = ((n : Int) - 1, -1) := by
  unfold Builtin.Slice.sliceAdjust
  rfl
theorem places_rev (n : Nat) : Builtin.Slice.slicePlaces ((n : Int) - 1) (-1) (-1) = n := by
  unfold Builtin.Slice.slicePlaces
  have h1 : ¬ ((-1 : Int) > 0) := by omega
  rw [if_neg h1]
  by_cases h : (n : Int) - 1 > -1
  · rw [if_pos h]
    have : ((n : Int) - 1 - -1 - 1) / (- -1) = (n : Int) - 1 := by
      rw [show (- -1 : Int) = 1 by omega, Int.ediv_one]
      omega
    rw [this]
    omega
  · rw [if_neg h]
    omega
theorem sliceApplied_rev {sl : Addr} {vs : Value} {n : Nat} {Q : Int × Int × Nat → Shared → Prop} (hs : s.heap.IsSliceOf sl .none .none vs) (ps : IsPart vs (some (-1)))
    (h : Q ((n : Int) - 1, -1, n) s) : wpAny (model prog w) A (Builtin.Slice.sliceApplied (.ref sl) (pure (n : Int))) Q E s := by
  obtain ⟨os, hos, hcs, hds⟩ := id hs
  unfold Builtin.Slice.sliceApplied Builtin.Slice.sliceFields
  refine wpAny_bind (wpAny_bind (wpAny_field hos hds (x := .none) rfl (wpAny_bind (wpAny_field hos hds (x := .none) rfl (wpAny_bind (wpAny_field hos hds (x := vs) rfl (wpAny_pure ?_)))))))
  refine wpAny_bind (HT.slicePart_ ps ?_)
  show wpAny _ _ (if ((-1 : Int) == 0) = true then _ else _) _ _ s
  rw [if_neg (by decide)]
  refine wpAny_bind (HT.slicePart_ .none (wpAny_bind (HT.slicePart_ .none (wpAny_bind (wpAny_pure ?_)))))
  show wpAny _ _ (match Builtin.Slice.sliceAdjust none none (-1) (n : Int) with | (lo, hi) => pure (lo, (-1 : Int), Builtin.Slice.slicePlaces lo hi (-1))) _ _ s
  rw [adjust_rev n]
  show wpAny _ _ (pure ((n : Int) - 1, (-1 : Int), Builtin.Slice.slicePlaces ((n : Int) - 1) (-1) (-1))) _ _ s
  rw [places_rev]
  exact wpAny_pure h
theorem fm_all {α : Type} : ∀ (ys : List α) (f : Nat → Option α), (∀ m, m < ys.length → f m = ys[m]?) → (List.range ys.length).filterMap f = ys
  | [], f, h => rfl
  | y :: ys, f, h => by
    rw [List.length_cons, List.range_succ_eq_map, List.filterMap_cons, h 0 (by simp), List.filterMap_map]
    show y :: _ = _
    congr 1
    exact fm_all ys (f ∘ Nat.succ) fun m hm => by
      show f (m + 1) = _
      rw [h (m + 1) (by simp; omega)]
      rfl
theorem pick_rev (xs : Array Value) : ((List.range xs.size).filterMap fun (m : Nat) => xs[(((xs.size : Int) - 1) + (m : Int) * (-1)).toNat]?) = xs.toList.reverse := by
  have hl : xs.size = xs.toList.reverse.length := by simp
  have := fm_all xs.toList.reverse (fun m => xs[(((xs.size : Int) - 1) + (m : Int) * (-1)).toNat]?) fun m hm => by
    rw [← hl] at hm
    rw [show (((xs.size : Int) - 1) + (m : Int) * (-1)).toNat = xs.size - 1 - m by omega, List.getElem?_reverse (by simpa using hm), Array.getElem?_toList, Array.length_toList]
  rw [← hl] at this
  exact this
theorem getItem_tuple_rev {t sl : Addr} {items : Array Value} {vs : Value} {Q : Value → Shared → Prop} (ht : IsTup s.heap t items) (hs : s.heap.IsSliceOf sl .none .none vs) (ps : IsPart vs (some (-1)))
    (h : Q (.ref s.heap.objs.size) { s with heap := s.heap.push { cls := .type "tuple", data := .seq items.toList.reverse.toArray } }) (hsz : items.size ≤ sizeLine) : wpAny (model prog w) A (getItem (.ref t) (.ref sl)) Q E s := by
  have htake : sizeOk (.seq items.toList.reverse.toArray) := by
    show items.toList.reverse.toArray.size ≤ sizeLine
    rw [List.size_toArray, List.length_reverse, Array.length_toList]
    exact hsz
  obtain ⟨os, hos, hcs, hds⟩ := id hs
  have hTs : s.TypeIs (.ref sl) "slice" := ⟨os, hos, hcs⟩
  unfold getItem
  try with_reducible refine wpAny_holding ?_
  first | refine wpAny_bind (wpAny_pure ?_) | skip
  refine wpAny_bind (wpAny_sequenceKey ht.typeIs (by decide) ?_)
  refine wpAny_bind (wpAny_callSpecial?_slot (name := Str.ofString "__getitem__") ht.typeIs PyProof.Rows.slot_tuple_getitem
    (wpAny_call_entry PyProof.Rows.slot_tuple_getitem ht.typeIs PyProof.Rows.entry_tuple_getitem ?_ (PyProof.Rows.args_tuple_getitem _ _)))
  show wpAny _ _ (Builtin.Tuple.tupleItemsOf (.ref t) >>= _) _ _ s
  refine wpAny_bind (PyProof.Rows.tupleItemsOf_ ht ?_)
  refine wpAny_bind (wpAny_typeOf hTs ?_)
  rw [if_pos (by decide)]
  refine wpAny_bind (sliceApplied_rev hs ps ?_)
  have hno : ¬ ((((items.size : Int) - 1) == 0 && (-1 : Int) == 1 && items.size == items.size) = true) := by
    intro q
    rw [Bool.and_eq_true, Bool.and_eq_true] at q
    exact absurd q.1.2 (by decide)
  show wpAny _ _ (if (((items.size : Int) - 1) == 0 && (-1 : Int) == 1 && items.size == items.size) = true then _ else _) _ _ s
  rw [if_neg hno, pick_rev]
  first
    | exact wpAny_bind (m := Builtin.Tuple.tupleExact _) (wpAny_newObj_type (wpAny_pure ⟨_, rfl, wpAny_pure h⟩) htake)
    | exact wpAny_bind (m := Builtin.Tuple.tupleExact _) (wpAny_newObj_type (wpAny_bind (wpAny_pure (wpAny_pure ⟨_, rfl, wpAny_pure h⟩))) htake)
    | exact wpAny_bind (wpAny_bind (m := Builtin.Tuple.tupleExact _) (wpAny_newObj_type (wpAny_pure (wpAny_pure ⟨_, rfl, wpAny_pure h⟩)) htake))
    | exact wpAny_bind (wpAny_bind (m := Builtin.Tuple.tupleExact _) (wpAny_newObj_type (wpAny_pure ⟨_, rfl, wpAny_pure h⟩) htake))
end
/-! ### t[::-1] -/
def tRevT (K : PySem.W.Frag) (te : TE) : TE := fun σ H Q => te σ H fun x H1 => ∃ a xs, x = .ref a ∧ SqT K H1 a xs ∧ ∀ p, H1 p = none → Q (.ref p) (upd H1 p (.tup xs.reverse))
theorem pe_revT {X : Cx} {te : TE} {e : Expr} {k : Nat} {p1 p2 p3 pos : Pos} (he : PE X e te) : PE X (.Subscript e (.Slice none none (some (.UnaryOp .USub (.Constant (.int 1) k p1) p2)) p3) pos) (tRevT X.K te) := by
  refine ⟨fun pins s σ H Q I h => ?_⟩
  refine Subscript_ (thn (he.run pins s σ H _ I h) fun v s1 ⟨x, H1, I1, r1, q1⟩ => ?_)
  obtain ⟨a, xs, ex, hx, q⟩ := q1
  subst ex
  cases r1
  have hst : PO X (some (.UnaryOp .USub (.Constant (.int 1) k p1) p2)) (tPart (tUn (rU fun i => .int (-i)) (tC (.int 1)))) := po_some (pe_un un_neg pe_int)
  refine wpAny_Slice (thn (po_none.run pins s1 σ H1 (fun o H2 => o = none ∧ H2 = H1) I1 ⟨rfl, rfl⟩) fun vl s2 ⟨l, H2, I2, pl, el, e2⟩ => ?_)
  subst el e2
  refine thn (po_none.run pins s2 σ H2 (fun o H3 => o = none ∧ H3 = H2) I2 ⟨rfl, rfl⟩) fun vu s3 ⟨u, H3, I3, pu, eu, e3⟩ => ?_
  subst eu e3
  refine thn (hst.run pins s3 σ H3 (fun o H4 => o = some (-1) ∧ H4 = H3) I3 ⟨1, rfl, -1, rfl, rfl, rfl⟩) fun vs s4 ⟨o, H4, I4, ps, eo, e4⟩ => ?_
  subst eo e4
  have I5 : Inv X pins σ H4 { s4 with heap := s4.heap.push { cls := .type "slice", data := .fields #[vl, vu, vs] } } := I4.kept (t' := s4.toks) fun b ob q => Heap.get?_push_of_some _ q
  obtain ⟨its, r, ht, hz⟩ := I5.tuple hx
  have hlen := r.length
  cases pl
  cases pu
  show wpAny (model X.prog X.w) X.A (subscriptTail e (.Slice none none (some (.UnaryOp .USub (.Constant (.int 1) k p1) p2)) p3) (.ref a) (.ref s4.heap.objs.size)) (EP X pins σ Q) X.xe { s4 with heap := s4.heap.push { cls := .type "slice", data := .fields #[.none, .none, vs] } }
  refine tail_any (ops := [.ref a, .ref s4.heap.objs.size]) ht.typeIs (PyProof.Rows.slot_tuple_getitem.lookup) ?_ (by with_unfolding_all rfl)
  refine getItem_tuple_rev ht (Heap.IsSliceOf.new _ .none .none vs) ps ?_ (by rw [List.size_toArray]; omega)
  refine ⟨.ref _, _, I5.laid (t' := s4.toks) (o := .tup xs.reverse) (fun b ob q => Heap.get?_push_of_some _ q) (Nat.le_refl _) ?_, rfl, q _ (I5.hok.fresh (Nat.le_refl _))⟩
  exact ⟨by rw [List.length_reverse]; exact hz, _, r.reverse, IsTup.new _ _⟩
section
variable {S : Type} {K : PySem.W.Frag} {B : Bs S}
def wRevT (we : WE S) (ρ : Env) (s : S) (Q : Hd → Env → S → Prop) : Prop := we ρ s fun h ρ1 s1 => onS (res ρ1 h) fun d => match d with
  | .tup xs => Q (.val (.tup xs.reverse)) ρ1 s1
  | _ => False
theorem e_wRevT {we : WE S} {ρ : Env} {s : S} {Q : Hd → Env → S → Prop} : wRevT we ρ s Q = (we ρ s fun h ρ1 s1 => onS (res ρ1 h) fun d => match d with
  | .tup xs => Q (.val (.tup xs.reverse)) ρ1 s1
  | _ => False) := nr rfl
theorem SimE.revT {te : TE} {we : WE S} (he : SimE K B te we) : SimE K B (tRevT K te) (wRevT we) := fun c s ρ σ Q Q' R hw q => by
  refine he c s ρ σ _ _ R hw fun h ρ1 s1 v c1 hw R1 e1 o1 => ?_
  obtain ⟨d, ed, hw⟩ := onS_iff.mp hw
  have rv := hd_rv R1 o1 ed
  cases d with
  | tup xs =>
    obtain ⟨a, vs, rfl, h, r⟩ := rv.tup R1
    refine ⟨a, vs, rfl, h, fun p hp => ?_⟩
    obtain ⟨R2, e2, f⟩ := R1.new (o := .tup vs.reverse) hp
    exact q _ _ _ _ { c1 with H := upd c1.H p (.tup vs.reverse) } hw R2 (e1.trans e2) (.tup (.inl f) (r.reverse.mono e2.sub))
  | _ => exact hw.elim
def wTupRg (we : WE S) (ρ : Env) (s : S) (Q : Hd → Env → S → Prop) : Prop := we ρ s fun h ρ1 s1 => onS (res ρ1 h) fun d => match d with
  | .int n => (0 ≤ n ∧ n ≤ 1000000) ∧ Q (.val (.tup ((List.range n.toNat).map fun (i : Nat) => D.int i))) ρ1 s1
  | _ => False
theorem e_wTupRg {we : WE S} {ρ : Env} {s : S} {Q : Hd → Env → S → Prop} : wTupRg we ρ s Q = (we ρ s fun h ρ1 s1 => onS (res ρ1 h) fun d => match d with
  | .int n => (0 ≤ n ∧ n ≤ 1000000) ∧ Q (.val (.tup ((List.range n.toNat).map fun (i : Nat) => D.int i))) ρ1 s1
  | _ => False) := nr rfl
theorem rp_rg {F : Hp} (n : Nat) : RpAll K F ((List.range n).map fun (i : Nat) => V.int (0 + (i : Nat))) ((List.range n).map fun (i : Nat) => D.int i) := by
  generalize List.range n = ls
  induction ls with
  | nil => exact .nil
  | cons x xs ih =>
    rw [List.map_cons, List.map_cons]
    refine .cons ?_ ih
    rw [Int.zero_add]
    exact .int _
theorem SimE.tupRg {te : TE} {we : WE S} (he : SimE K B te we) : SimE K B (tTupRg (tRg1 te)) (wTupRg we) := fun c s ρ σ Q Q' R hw q => by
  refine he c s ρ σ _ _ R hw fun h ρ1 s1 v c1 hw R1 e1 o1 => ?_
  obtain ⟨d, ed, hw⟩ := onS_iff.mp hw
  have rv := hd_rv R1 o1 ed
  cases d with
  | int n =>
    obtain ⟨⟨h0, h1⟩, hw⟩ := hw
    refine ⟨n, rv.int, RgOk.of_le (by decide) (by omega) (by decide) h0, fun p hp => ?_⟩
    have en : rgV 0 n = (List.range n.toNat).map fun (i : Nat) => V.int (0 + (i : Nat)) := by
      unfold rgV
      rw [Int.sub_zero]
    obtain ⟨R2, e2, f⟩ := R1.new (o := .tup (rgV 0 n)) hp
    refine q _ _ _ _ { c1 with H := upd c1.H p (.tup (rgV 0 n)) } hw R2 (e1.trans e2) (.tup (.inl f) ?_)
    rw [en]
    exact rp_rg n.toNat
  | _ => exact hw.elim
/-- a list of one's own gets the items of a new list -/
def wExtN (i : Nat) (wn : WN S) (ρ : Env) (s : S) (Q : Hd → Env → S → Prop) : Prop := match ρ[i]? with
  | some (.own (.lst _)) => wn ρ s fun d ρ1 s1 => match d, ρ1[i]? with
    | .lst ys, some (.own (.lst ds)) => ds.length + ys.length ≤ sizeLine ∧ Q (.val .non) (ρ1.set i (.own (.lst (ds ++ ys)))) s1
    | _, _ => False
  | _ => False
theorem e_wExtN {i : Nat} {wn : WN S} {ρ : Env} {s : S} {Q : Hd → Env → S → Prop} : wExtN i wn ρ s Q = (match ρ[i]? with
  | some (.own (.lst _)) => wn ρ s fun d ρ1 s1 => match d, ρ1[i]? with
    | .lst ys, some (.own (.lst ds)) => ds.length + ys.length ≤ sizeLine ∧ Q (.val .non) (ρ1.set i (.own (.lst (ds ++ ys)))) s1
    | _, _ => False
  | _ => False) := nr rfl
def ExtA (K : PySem.W.Frag) (B : Bs S) : Cf → List V → List D → Prop := fun c vs ds => ∃ b ws ys, vs = [.ref b] ∧ ds = [.lst ys] ∧ c.H b = some (.lst ws) ∧ RpAll K (Fz B c) ws ys
def fExt : List D → List D → Option (D × List D) := fun ds as => match as with
  | [.lst ys] => if ds.length + ys.length ≤ sizeLine then some (.non, ds ++ ys) else none
  | _ => none
theorem rule_ext : RuleM K B (ExtA K B) rExtend fExt := fun c s ρ σ a vs args ds as z zs Q' R ht r ra hf q => by
  obtain ⟨b, ws, ys, rfl, rfl, hb, rb⟩ := ra
  unfold fExt at hf
  simp only at hf
  split at hf
  · rename_i hz
    cases hf
    exact ⟨a, b, vs, ws, rfl, rfl, tmp_lst R ht, hb, by rw [r.length, rb.length]; exact hz, q _ _ (r.append rb) .non⟩
  · cases hf
theorem SimE.extN {i : Nat} {ta : TE} {wn : WN S} (ha : SimN K B ta wn) : SimE K B (tBM K "list" rExtend (tVar i) (tCons ta tNil)) (wExtN i wn) := fun c s ρ σ Q Q' R hw q => by
  unfold wExtN at hw
  split at hw
  · rename_i ds0 hx0
    obtain ⟨a, e1, e2, e3, vs, eh, _⟩ := R.slots i _ hx0
    refine ⟨.ref a, e1, .inl ⟨rfl, vs, .inl (.inl eh)⟩, ?_⟩
    refine ha c s ρ σ _ _ R hw fun d ρ1 s1 b o c1 hw R1 ev ok => ?_
    split at hw
    · rename_i ys ds hx
      obtain ⟨hz, hw⟩ := hw
      have ht : c1.T b = some o := by rw [ev.tmp]; simp
      have hb := (R1.tmp b o ht).1
      obtain ⟨ws, eo, rb⟩ := ok
      cases eo
      obtain ⟨R2, sb, fa⟩ := R1.rest ht
      have ev2 : Ev B c { c1 with O := fun x => c1.O x ∧ x ≠ b, T := fun x => if x = b then none else c1.T x } := by
        refine ⟨ev.sub.trans sb, ?_⟩
        funext x
        show (if x = b then none else c1.T x) = c.T x
        rw [ev.tmp]
        by_cases z : x = b
        · subst z; simp [ev.new]
        · simp [z]
      exact mut_go (AP := ExtA K B) rule_ext R2 (ds := ds) (as := [.lst ys]) (zs := ds ++ ys) (z := .non) hx ⟨b, ws, ys, rfl, rfl, hb, rb.mono sb⟩ (fun g h => h) (by unfold fExt; simp only; rw [if_pos hz]) e1 fun v c' R' e' rz => q _ _ _ v c' hw R' (ev2.trans e') rz
    · exact hw.elim
  · exact hw.elim
end
section
variable {S : Type} {X : Cx} {B : Bs S} {e o : Expr} {te : TE} {ta : TE} {we : WE S} {wn : WN S} {k : Nat} {p p1 p2 p3 pos pos2 apos cpos : Pos}
theorem se_revT (he : SE X B e te we) (hK : X.K = B.K := by rfl) : SE X B (.Subscript e (.Slice none none (some (.UnaryOp .USub (.Constant (.int 1) k p1) p2)) p3) pos) (tRevT B.K te) (wRevT we) := ⟨hK ▸ pe_revT he.pe, SimE.revT he.sim⟩
theorem se_tupRg (hc : X.calm = true) (hm : X.mg "tuple" = none) (hm2 : X.mg "range" = none) (he : SE X B e te we) (hg : Gl X "tuple" := by rfl) (hg2 : Gl X "range" := by rfl)
    (h1 : starEach [e] X.env = (false, eval e X.env) :: starEach [] X.env := by rfl) (h2 : starEach [.Call (.Name "range" p1) [e] [] p2] X.env = (false, eval (.Call (.Name "range" p1) [e] [] p2) X.env) :: starEach [] X.env := by rfl) :
    SE X B (.Call (.Name "tuple" p) [.Call (.Name "range" p1) [e] [] p2] [] pos) (tTupRg (tRg1 te)) (wTupRg we) := ⟨pe_tupRg hc hg hm (prg_1 hg2 hm2 he.pe h1) h2, SimE.tupRg he.sim⟩
theorem se_extN (i : Nat) (ho : SE X B o (tVar i) (wVar i)) (ha : SN X B e ta wn) (hbase : attributeBase o "extend" X.env (eval o X.env) = eval o X.env := by rfl)
    (hfew : ((backTo cpos (starEach [e] X.env)).all (fun x => !x.1) && (backToKw cpos (keywordEach [] X.env)).all (fun x => x.1.isSome)
      && decide ([e].length + ([] : List Keyword).length + (if ([] : List Keyword).isEmpty then 0 else 1) < 30)) = true := by rfl)
    (hline : (apos.endLine == cpos.line) = true := by rfl) (hs : starEach [e] X.env = (false, eval e X.env) :: starEach [] X.env := by rfl) (hplain : (backTo cpos (starEach [] X.env)).any (·.1) = false := by rfl) (hK : X.K = B.K := by rfl) :
    SE X B (.Call (.Attribute o "extend" apos) [e] [] cpos) (tBM B.K "list" rExtend (tVar i) (tCons ta tNil)) (wExtN i wn) := ⟨hK ▸ (pe_bm PySem.F.plainAttrs_list PySem.F.slot_list_extend PySem.F.type_list_extend mt_extend ho.pe (pa_cons ha.pe pa_nil hs) hbase hfew hline hs hplain), SimE.extN ha.sim⟩
end
end Ld

/-! Value layer, part 30: a comprehension over a list of one's own that goes on being one's own. -/
namespace Ld
open PySem PySem.Spec PyProof.Rows L2
section
variable {S : Type} {K : PySem.W.Frag} {B : Bs S}
def wLcO (vs : List Nat) (i : Nat) (wg : WG S) (wt : WT S) (we : WE S) (ρ : Env) (s : S) (Q : D → Env → S → Prop) : Prop := match ρ[i]? with
  | some (.own (.lst ds)) => ∀ a : Addr, wLcL vs wg wt we (fun acc ρ2 s2 => (backD (ρ.set i (.val (.ref a))) vs ρ2)[i]? = some (.val (.ref a)) ∧ Q (.lst acc) ((backD (ρ.set i (.val (.ref a))) vs ρ2).set i (.own (.lst ds))) s2) ds [] (wipeD (ρ.set i (.val (.ref a))) vs) s
  | _ => False
theorem SimN.lcO {g : TG} {tt : TT} {te : TE} {ts vs : List Nat} {ug : WG S} {ut : WT S} {ue : WE S} (i : Nat) (hg : SimG K B ts g ug) (ht : SimT K B tt ut) (he : SimE K B te ue) (hts : ∀ x ∈ ts, x ∈ vs) :
    SimN K B (tLc (iSeq K (tVar i)) g tt te vs) (wLcO vs i ug ut ue) := fun c s ρ σ Q Q' R h q => by
  unfold wLcO at h
  split at h
  · rename_i ds hi
    obtain ⟨a, o, hσ, hH, hT0, ok, R1, hF⟩ := R.lend hi
    obtain ⟨us, eo, r⟩ := ok
    cases eo
    have h := h a
    refine ⟨.ref a, hσ, a, rfl, .inl ⟨⟨us, .inl (.inl hH)⟩, ?_⟩⟩
    intro Dp hD
    have hT1 : ({ c with T := fun b => if b = a then some (.lst us) else c.T b } : Cf).T a = some (.lst us) := by simp
    have r1 : RpAll K (Fz B { c with T := fun b => if b = a then some (.lst us) else c.T b }) us ds := by rw [hF]; exact r
    have hHeq : ({ c with T := fun b => if b = a then some (.lst us) else c.T b } : Cf).H = c.H := rfl
    have hTc : ({ c with T := fun b => if b = a then some (.lst us) else c.T b } : Cf).T = fun b => if b = a then some (.lst us) else c.T b := rfl
    generalize ({ c with T := fun b => if b = a then some (.lst us) else c.T b } : Cf) = c1 at R1 hF hT1 r1 hHeq hTc
    rw [← hHeq] at hD ⊢
    have hne : Dp ≠ a := fun z => by
      have := R1.newT hD
      rw [z, hT1] at this
      cases this
    obtain ⟨R2, sb2⟩ := R1.newT' (o := .lst []) hD (fun _ z => nomatch z)
    have nT := R1.newT hD
    generalize ρ.set i (.val (.ref a)) = ρ1 at h R1 R2
    refine lc_it (J := Itl K a) (G := fun H => SqL K H a us) (Y := YAt us) (n := ds.length) (r.length ▸ walk_list) (fun i' H' => ∃ c2 s2 ρ2 accV acc, c2.H = H' ∧ Rel K B c2 s2 ρ2 (wipe σ vs) ∧ EvN B c1 c2 Dp (.lst accV) ∧ RpAll K (Fz B c2) accV acc ∧ wLcL vs ug ut ue (fun acc ρ2 s2 => (backD ρ1 vs ρ2)[i]? = some (.val (.ref a)) ∧ Q (.lst acc) ((backD ρ1 vs ρ2).set i (.own (.lst ds))) s2) (ds.drop i') acc ρ2 s2)
      ⟨_, s, wipeD ρ1 vs, [], [], rfl, R2.wipe vs, ⟨sb2, rfl, nT⟩, .nil, by simpa using h⟩ ?_ ?_ ?_
    · rintro i' H' _ ⟨c2, s2, ρ2, accV, acc, rfl, R2, e2, _⟩
      have ht2 : c2.T a = some (.lst us) := by rw [e2.tmp]; simp [Ne.symm hne, hT1]
      exact .inl (.inl (R2.tmp a _ ht2).1)
    · rintro i' x H' H'' hlt ⟨c2, s2, ρ2, accV, acc, rfl, R2, e2, ra, hw⟩ y
      obtain ⟨rfl, e⟩ := y
      obtain ⟨d, hd, rd⟩ := r1.getV e
      rw [drop_get hd] at hw
      refine hg c2 s2 ρ2 (wipe σ vs) x d _ _ R2 (rd.mono e2.sub) hw fun ρ4 s4 σ4 c4 hw R4 e4 k4 l4 => ?_
      have ew : wipe σ4 vs = wipe σ vs := by
        rw [← wipe_wipe σ vs]
        exact wipe_get l4 fun j hj => k4 j fun z => hj (hts j z)
      refine ⟨ew, ht c4 s4 ρ4 σ4 _ _ R4 hw fun b ρ5 s5 c5 hw R5 e5 => ?_⟩
      have e25 := e4.trans e5
      cases b with
      | true =>
        refine he c5 s5 ρ5 σ4 _ _ R5 hw fun h ρ6 s6 v c6 hw R6 e6 o6 => ?_
        obtain ⟨yd, ρ7, c7, ⟨hlen, hw⟩, eh, R7, e7, r7⟩ := use_ok R6 o6 hw
        have e27 := (e25.trans e6).trans e7
        have ht7 : c7.T Dp = some (.lst accV) := by rw [e27.tmp, e2.tmp]; simp
        obtain ⟨R8, sb8⟩ := R7.mutT (o' := .lst (accV ++ [v])) ht7 (fun _ z => nomatch z)
        refine ⟨accV, by rw [← eh]; exact (R7.tmp Dp _ ht7).1, by rw [ra.length]; exact hlen, _, s6, wipeD ρ7 vs, accV ++ [v], acc ++ [yd], (by rw [← eh]), ew ▸ R8.wipe vs, ⟨(e2.sub.trans e27.sub).trans sb8, ?_, e2.new⟩, ?_, hw⟩
        · funext b
          show (if b = Dp then some (.lst (accV ++ [v])) else c7.T b) = _
          rw [e27.tmp, e2.tmp]
          by_cases z : b = Dp <;> simp [z]
        · exact (ra.mono (e27.sub.trans sb8)).append (.cons (r7.mono sb8) .nil)
      | false =>
        exact ⟨c5, s5, wipeD ρ5 vs, accV, acc, rfl, ew ▸ R5.wipe vs, ⟨e2.sub.trans e25.sub, e25.tmp.trans e2.tmp, e2.new⟩, ra.mono e25.sub, hw⟩
    · rintro H' ⟨c2, s2, ρ2, accV, acc, rfl, R2, e2, ra, hw⟩
      rw [List.drop_eq_nil_of_le (Nat.le_refl _)] at hw
      have hw : (backD ρ1 vs ρ2)[i]? = some (.val (.ref a)) ∧ Q (.lst acc) ((backD ρ1 vs ρ2).set i (.own (.lst ds))) s2 := hw
      have R3 : Rel K B c2 s2 (backD ρ1 vs ρ2) σ := Rel.back R1 e2.sub vs vs R2 (wipe_length σ vs) (fun j hj => ?_) fun _ h => h
      · have ht2 : c2.T a = some (.lst us) := by rw [e2.tmp]; simp [Ne.symm hne, hT1]
        have R4 := R3.unlend (d := .lst ds) ht2 hw.1 ⟨us, rfl, r1.mono e2.sub⟩
        refine q (.lst acc) _ _ Dp (.lst accV) { c2 with T := fun b => if b = a then none else c2.T b } hw.2 R4 ⟨by rw [← hF]; exact e2.sub, ?_, ?_⟩ ⟨accV, rfl, ra⟩
        · funext b
          show (if b = a then none else c2.T b) = _
          rw [e2.tmp, hTc]
          by_cases z : b = a
          · subst z; simp [hT0, Ne.symm hne]
          · simp [z]
        · have := nT
          rw [hTc] at this
          simpa [hne] using this
      · have go : ∀ (us : List Nat), (∀ x ∈ us, x ∈ vs) → (wipe σ us)[j]? = σ[j]? := by
          intro us
          induction us with
          | nil => intro _; rfl
          | cons u us ih =>
            intro h
            show ((wipe σ us).set u none)[j]? = _
            rw [List.getElem?_set_ne (fun e => hj (by rw [← e]; exact h u (by simp)))]
            exact ih fun x hx => h x (by simp [hx])
        exact go vs fun _ h => h
  · exact h.elim
theorem e_wLcO {vs : List Nat} {i : Nat} {wg : WG S} {wt : WT S} {we : WE S} {ρ : Env} {s : S} {Q : D → Env → S → Prop} : wLcO vs i wg wt we ρ s Q = (match ρ[i]? with
  | some (.own (.lst ds)) => ∀ a : Addr, wLcL vs wg wt we (fun acc ρ2 s2 => (backD (ρ.set i (.val (.ref a))) vs ρ2)[i]? = some (.val (.ref a)) ∧ Q (.lst acc) ((backD (ρ.set i (.val (.ref a))) vs ρ2).set i (.own (.lst ds))) s2) ds [] (wipeD (ρ.set i (.val (.ref a))) vs) s
  | _ => False) := nr rfl
end
section
variable {S : Type} {X : Cx} {B : Bs S} {i j : Nat} {y : Str} {py : Pos} {elt tg iter : Expr} {ifs : List Expr} {scope : Scope} {own : List (Str × Nat)} {pos spos : Pos} {g : TG} {tt : TT} {te : TE} {ts : List Nat} {ug : WG S} {ut : WT S} {ue : WE S}
theorem sn_lcO (j : Nat) (hc : X.calm = true) (hN : X.N.Nodup)
    (hi : SE X B iter (tVar j) (wVar j)) (ok : BlkOk X.N X.env.scope scope own)
    (hg : ∀ (s : Shared) (H : Hp) (C : Addr) (cl : List (Str × Addr)) (fp : List Addr), SG (X.blk s H scope (compEnvC scope cl C X.env) fp) B tg ts g ug) (ht : ∀ (s : Shared) (H : Hp) (C : Addr) (cl : List (Str × Addr)) (fp : List Addr), STs (X.blk s H scope (compEnvC scope cl C X.env) fp) B ifs tt ut)
    (he : ∀ (s : Shared) (H : Hp) (C : Addr) (cl : List (Str × Addr)) (fp : List Addr), SE (X.blk s H scope (compEnvC scope cl C X.env) fp) B elt te ue) (hts : ∀ x ∈ ts, x ∈ own.map (·.2)) (hs : ∀ x, foldedSetIterable iter X.env x = pure x := by intro _; rfl) (hK : X.K = B.K := by rfl) :
    SN X B (.ListComp elt [⟨tg, iter, ifs, 0⟩] scope pos) (tLc (iSeq B.K (tVar j)) g tt te (own.map (·.2))) (wLcO (own.map (·.2)) j ug ut ue) :=
  ⟨pe_lc hc hN (hK ▸ pi_seq hi.pe) ok (fun s H C cl fp => (hg s H C cl fp).pg) (fun s H C cl fp => (ht s H C cl fp).pts) (fun s H C cl fp => (he s H C cl fp).pe) hs,
    SimN.lcO j (hg {} (fun _ => none) 0 [] []).sim (ht {} (fun _ => none) 0 [] []).sim (he {} (fun _ => none) 0 [] []).sim hts⟩
theorem s_ownLcO (i j : Nat) (hc : X.calm = true) (hN : X.N.Nodup)
    (hi : SE X B iter (tVar j) (wVar j)) (ok : BlkOk X.N X.env.scope scope own)
    (hg : ∀ (s : Shared) (H : Hp) (C : Addr) (cl : List (Str × Addr)) (fp : List Addr), SG (X.blk s H scope (compEnvC scope cl C X.env) fp) B tg ts g ug) (ht : ∀ (s : Shared) (H : Hp) (C : Addr) (cl : List (Str × Addr)) (fp : List Addr), STs (X.blk s H scope (compEnvC scope cl C X.env) fp) B ifs tt ut)
    (he : ∀ (s : Shared) (H : Hp) (C : Addr) (cl : List (Str × Addr)) (fp : List Addr), SE (X.blk s H scope (compEnvC scope cl C X.env) fp) B elt te ue) (hts : ∀ x ∈ ts, x ∈ own.map (·.2)) (hy : X.N[i]? = some y := by rfl) (hyl : X.env.scope.names.lookup y = some .local := by rfl)
    (hsw : swapsWith (.ListComp elt [⟨tg, iter, ifs, 0⟩] scope pos) (some (.Name y py)) spos.line X.env = pure true := by exact sw_true rfl rfl rfl (by decide +kernel)) (hs : ∀ x, foldedSetIterable iter X.env x = pure x := by intro _; rfl) (hK : X.K = B.K := by rfl) :
    SS X B (.Assign [.Name y py] (.ListComp elt [⟨tg, iter, ifs, 0⟩] scope pos) spos) (tAsg (tLc (iSeq B.K (tVar j)) g tt te (own.map (·.2))) (gName i)) (wOwn i (wLcO (own.map (·.2)) j ug ut ue)) :=
  ⟨ps_setLc hc hN hy hyl hsw (hK ▸ pi_seq hi.pe) ok (fun s H C cl fp => (hg s H C cl fp).pg) (fun s H C cl fp => (ht s H C cl fp).pts) (fun s H C cl fp => (he s H C cl fp).pe) hs,
    SimS.own i (SimN.lcO j (hg {} (fun _ => none) 0 [] []).sim (ht {} (fun _ => none) 0 [] []).sim (he {} (fun _ => none) 0 [] []).sim hts)⟩
theorem s_setLcO (i j : Nat) (hc : X.calm = true) (hN : X.N.Nodup)
    (hi : SE X B iter (tVar j) (wVar j)) (ok : BlkOk X.N X.env.scope scope own)
    (hg : ∀ (s : Shared) (H : Hp) (C : Addr) (cl : List (Str × Addr)) (fp : List Addr), SG (X.blk s H scope (compEnvC scope cl C X.env) fp) B tg ts g ug) (ht : ∀ (s : Shared) (H : Hp) (C : Addr) (cl : List (Str × Addr)) (fp : List Addr), STs (X.blk s H scope (compEnvC scope cl C X.env) fp) B ifs tt ut)
    (he : ∀ (s : Shared) (H : Hp) (C : Addr) (cl : List (Str × Addr)) (fp : List Addr), SE (X.blk s H scope (compEnvC scope cl C X.env) fp) B elt te ue) (hts : ∀ x ∈ ts, x ∈ own.map (·.2)) (hy : X.N[i]? = some y := by rfl) (hyl : X.env.scope.names.lookup y = some .local := by rfl)
    (hsw : swapsWith (.ListComp elt [⟨tg, iter, ifs, 0⟩] scope pos) (some (.Name y py)) spos.line X.env = pure true := by exact sw_true rfl rfl rfl (by decide +kernel)) (hs : ∀ x, foldedSetIterable iter X.env x = pure x := by intro _; rfl) (hK : X.K = B.K := by rfl) :
    SS X B (.Assign [.Name y py] (.ListComp elt [⟨tg, iter, ifs, 0⟩] scope pos) spos) (tAsg (tLc (iSeq B.K (tVar j)) g tt te (own.map (·.2))) (gName i)) (wSet i (wNew (wLcO (own.map (·.2)) j ug ut ue))) :=
  ⟨ps_setLc hc hN hy hyl hsw (hK ▸ pi_seq hi.pe) ok (fun s H C cl fp => (hg s H C cl fp).pg) (fun s H C cl fp => (ht s H C cl fp).pts) (fun s H C cl fp => (he s H C cl fp).pe) hs,
    SimS.set i (SimN.e (SimN.lcO j (hg {} (fun _ => none) 0 [] []).sim (ht {} (fun _ => none) 0 [] []).sim (he {} (fun _ => none) 0 [] []).sim hts))⟩
end
end Ld

namespace Law
open PySem PySem.Spec PyProof.Rows L2 Ld
def topS (i : Nat) : Stmt := PySem.Challenge.pw_oncecounted_k41_served_by_days.main.body.getD i (.Pass ⟨0, 0, 0, 0⟩)
abbrev st_is_between : Stmt := topS 4
abbrev N_is_between : List Str := ["value", "least", "most"]
abbrev P_is_between : List Str := ["value", "least", "most"]
theorem sc_is_between : FnScope N_is_between P_is_between (defScope st_is_between) := ⟨rfl, rfl, rfl, by decide +kernel, rfl, by decide +kernel, by decide +kernel⟩
abbrev st_is_row : Stmt := topS 9
abbrev N_is_row : List Str := ["value", "length"]
abbrev P_is_row : List Str := ["value", "length"]
theorem sc_is_row : FnScope N_is_row P_is_row (defScope st_is_row) := ⟨rfl, rfl, rfl, by decide +kernel, rfl, by decide +kernel, by decide +kernel⟩
abbrev st_is_supply : Stmt := topS 10
abbrev N_is_supply : List Str := ["value"]
abbrev P_is_supply : List Str := ["value"]
theorem sc_is_supply : FnScope N_is_supply P_is_supply (defScope st_is_supply) := ⟨rfl, rfl, rfl, by decide +kernel, rfl, by decide +kernel, by decide +kernel⟩
abbrev st_is_need : Stmt := topS 11
abbrev N_is_need : List Str := ["value"]
abbrev P_is_need : List Str := ["value"]
theorem sc_is_need : FnScope N_is_need P_is_need (defScope st_is_need) := ⟨rfl, rfl, rfl, by decide +kernel, rfl, by decide +kernel, by decide +kernel⟩
abbrev st_check_rows : Stmt := topS 12
abbrev N_check_rows : List Str := ["value", "is_right", "row"]
abbrev P_check_rows : List Str := ["value", "is_right"]
theorem sc_check_rows : FnScope N_check_rows P_check_rows (defScope st_check_rows) := ⟨rfl, rfl, rfl, by decide +kernel, rfl, by decide +kernel, by decide +kernel⟩
abbrev st_check_supplies : Stmt := topS 13
abbrev N_check_supplies : List Str := ["value"]
abbrev P_check_supplies : List Str := ["value"]
theorem sc_check_supplies : FnScope N_check_supplies P_check_supplies (defScope st_check_supplies) := ⟨rfl, rfl, rfl, by decide +kernel, rfl, by decide +kernel, by decide +kernel⟩
abbrev st_check_needs : Stmt := topS 14
abbrev N_check_needs : List Str := ["value"]
abbrev P_check_needs : List Str := ["value"]
theorem sc_check_needs : FnScope N_check_needs P_check_needs (defScope st_check_needs) := ⟨rfl, rfl, rfl, by decide +kernel, rfl, by decide +kernel, by decide +kernel⟩
abbrev st_has_day : Stmt := topS 15
abbrev N_has_day : List Str := ["supply", "day"]
abbrev P_has_day : List Str := ["supply", "day"]
theorem sc_has_day : FnScope N_has_day P_has_day (defScope st_has_day) := ⟨rfl, rfl, rfl, by decide +kernel, rfl, by decide +kernel, by decide +kernel⟩
abbrev st_by_last : Stmt := topS 16
abbrev N_by_last : List Str := ["supplies", "day", "found", "place", "supply", "_"]
abbrev P_by_last : List Str := ["supplies", "day"]
theorem sc_by_last : FnScope N_by_last P_by_last (defScope st_by_last) := ⟨rfl, rfl, rfl, by decide +kernel, rfl, by decide +kernel, by decide +kernel⟩
abbrev st_serving_of : Stmt := topS 17
abbrev N_serving_of : List Str := ["supplies", "needs", "left", "supply", "found", "day", "place", "need", "wanted", "at", "count"]
abbrev P_serving_of : List Str := ["supplies", "needs"]
theorem sc_serving_of : FnScope N_serving_of P_serving_of (defScope st_serving_of) := ⟨rfl, rfl, rfl, by decide +kernel, rfl, by decide +kernel, by decide +kernel⟩
abbrev st_pieces_in : Stmt := topS 18
abbrev N_pieces_in : List Str := ["serving", "_", "count"]
abbrev P_pieces_in : List Str := ["serving"]
theorem sc_pieces_in : FnScope N_pieces_in P_pieces_in (defScope st_pieces_in) := ⟨rfl, rfl, rfl, by decide +kernel, rfl, by decide +kernel, by decide +kernel⟩
abbrev st_wanted_in : Stmt := topS 19
abbrev N_wanted_in : List Str := ["needs", "_", "count"]
abbrev P_wanted_in : List Str := ["needs"]
theorem sc_wanted_in : FnScope N_wanted_in P_wanted_in (defScope st_wanted_in) := ⟨rfl, rfl, rfl, by decide +kernel, rfl, by decide +kernel, by decide +kernel⟩
abbrev st_served : Stmt := topS 20
abbrev N_served : List Str := ["supplies", "needs"]
abbrev P_served : List Str := ["supplies", "needs"]
theorem sc_served : FnScope N_served P_served (defScope st_served) := ⟨rfl, rfl, rfl, by decide +kernel, rfl, by decide +kernel, by decide +kernel⟩
abbrev st_most_served : Stmt := topS 21
abbrev N_most_served : List Str := ["supplies", "needs"]
abbrev P_most_served : List Str := ["supplies", "needs"]
theorem sc_most_served : FnScope N_most_served P_most_served (defScope st_most_served) := ⟨rfl, rfl, rfl, by decide +kernel, rfl, by decide +kernel, by decide +kernel⟩
abbrev st_lacking : Stmt := topS 22
abbrev N_lacking : List Str := ["supplies", "needs", "plain", "wants"]
abbrev P_lacking : List Str := ["supplies", "needs"]
theorem sc_lacking : FnScope N_lacking P_lacking (defScope st_lacking) := ⟨rfl, rfl, rfl, by decide +kernel, rfl, by decide +kernel, by decide +kernel⟩
abbrev st_taken_of : Stmt := topS 23
abbrev N_taken_of : List Str := ["serving", "place", "many", "found", "_", "triple"]
abbrev P_taken_of : List Str := ["serving", "place", "many"]
theorem sc_taken_of : FnScope N_taken_of P_taken_of (defScope st_taken_of) := ⟨rfl, rfl, rfl, by decide +kernel, rfl, by decide +kernel, by decide +kernel⟩
abbrev st_check_both : Stmt := topS 25
abbrev N_check_both : List Str := ["supplies", "needs", "plain", "wants"]
abbrev P_check_both : List Str := ["supplies", "needs"]
theorem sc_check_both : FnScope N_check_both P_check_both (defScope st_check_both) := ⟨rfl, rfl, rfl, by decide +kernel, rfl, by decide +kernel, by decide +kernel⟩
abbrev st_unused : Stmt := topS 26
abbrev N_unused : List Str := ["supplies", "needs", "plain", "wants", "given", "supply", "count"]
abbrev P_unused : List Str := ["supplies", "needs"]
theorem sc_unused : FnScope N_unused P_unused (defScope st_unused) := ⟨rfl, rfl, rfl, by decide +kernel, rfl, by decide +kernel, by decide +kernel⟩
abbrev st_left_on : Stmt := topS 27
abbrev N_left_on : List Str := ["supplies", "needs", "day", "later", "plain", "wants", "due", "need", "given", "found", "supply", "count"]
abbrev P_left_on : List Str := ["supplies", "needs", "day", "later"]
theorem sc_left_on : FnScope N_left_on P_left_on (defScope st_left_on) := ⟨rfl, rfl, rfl, by decide +kernel, rfl, by decide +kernel, by decide +kernel⟩
abbrev st__law_draw : Stmt := topS 29
abbrev N__law_draw : List Str := ["bag", "limit", "k", "cells", "seed", "at", "cell"]
abbrev P__law_draw : List Str := ["bag", "limit"]
theorem sc__law_draw : FnScope N__law_draw P__law_draw (defScope st__law_draw) := ⟨rfl, rfl, rfl, by decide +kernel, rfl, by decide +kernel, by decide +kernel⟩
abbrev st__law_number : Stmt := topS 30
abbrev N__law_number : List Str := ["actual", "due"]
abbrev P__law_number : List Str := ["actual", "due"]
theorem sc__law_number : FnScope N__law_number P__law_number (defScope st__law_number) := ⟨rfl, rfl, rfl, by decide +kernel, rfl, by decide +kernel, by decide +kernel⟩
abbrev st__law_numbers : Stmt := topS 31
abbrev N__law_numbers : List Str := ["actual", "due", "k"]
abbrev P__law_numbers : List Str := ["actual", "due"]
theorem sc__law_numbers : FnScope N__law_numbers P__law_numbers (defScope st__law_numbers) := ⟨rfl, rfl, rfl, by decide +kernel, rfl, by decide +kernel, by decide +kernel⟩
abbrev st__law_triples : Stmt := topS 32
abbrev N__law_triples : List Str := ["actual", "due", "k"]
abbrev P__law_triples : List Str := ["actual", "due"]
theorem sc__law_triples : FnScope N__law_triples P__law_triples (defScope st__law_triples) := ⟨rfl, rfl, rfl, by decide +kernel, rfl, by decide +kernel, by decide +kernel⟩
abbrev st__law_supplies : Stmt := topS 33
abbrev N__law_supplies : List Str := ["bag", "kind", "rows", "k", "first"]
abbrev P__law_supplies : List Str := ["bag", "kind"]
theorem sc__law_supplies : FnScope N__law_supplies P__law_supplies (defScope st__law_supplies) := ⟨rfl, rfl, rfl, by decide +kernel, rfl, by decide +kernel, by decide +kernel⟩
abbrev st__law_needs : Stmt := topS 34
abbrev N__law_needs : List Str := ["bag", "kind", "supplies", "rows", "k", "day", "supply", "count"]
abbrev P__law_needs : List Str := ["bag", "kind", "supplies"]
theorem sc__law_needs : FnScope N__law_needs P__law_needs (defScope st__law_needs) := ⟨rfl, rfl, rfl, by decide +kernel, rfl, by decide +kernel, by decide +kernel⟩
abbrev st__law_serving : Stmt := topS 35
abbrev N__law_serving : List Str := ["supplies", "needs", "left", "supply", "rows", "order", "k", "day", "at", "wanted", "last", "pieces"]
abbrev P__law_serving : List Str := ["supplies", "needs"]
theorem sc__law_serving : FnScope N__law_serving P__law_serving (defScope st__law_serving) := ⟨rfl, rfl, rfl, by decide +kernel, rfl, by decide +kernel, by decide +kernel⟩
abbrev st__law_served_stands : Stmt := topS 36
abbrev N__law_served_stands : List Str := ["supplies", "needs", "rows", "pieces", "row", "wanted", "need"]
abbrev P__law_served_stands : List Str := ["supplies", "needs"]
theorem sc__law_served_stands : FnScope N__law_served_stands P__law_served_stands (defScope st__law_served_stands) := ⟨rfl, rfl, rfl, by decide +kernel, rfl, by decide +kernel, by decide +kernel⟩
abbrev st__law_rest_stands : Stmt := topS 37
abbrev N__law_rest_stands : List Str := ["bag", "supplies", "needs", "rows", "left", "supply", "at", "k", "pieces", "turn", "day", "later", "due", "row"]
abbrev P__law_rest_stands : List Str := ["bag", "supplies", "needs"]
theorem sc__law_rest_stands : FnScope N__law_rest_stands P__law_rest_stands (defScope st__law_rest_stands) := ⟨rfl, rfl, rfl, by decide +kernel, rfl, by decide +kernel, by decide +kernel⟩
abbrev st_law : Stmt := topS 38
abbrev N_law : List Str := ["script", "bag", "kind", "supplies", "needs", "before", "got", "need", "at", "k", "pieces", "cut"]
abbrev P_law : List Str := ["script"]
theorem sc_law : FnScope N_law P_law (defScope st_law) := ⟨rfl, rfl, rfl, by decide +kernel, rfl, by decide +kernel, by decide +kernel⟩
structure Ad where
  a_is_between : Addr
  d_is_between : FuncData
  a_is_row : Addr
  d_is_row : FuncData
  a_is_supply : Addr
  d_is_supply : FuncData
  a_is_need : Addr
  d_is_need : FuncData
  a_check_rows : Addr
  d_check_rows : FuncData
  a_check_supplies : Addr
  d_check_supplies : FuncData
  a_check_needs : Addr
  d_check_needs : FuncData
  a_has_day : Addr
  d_has_day : FuncData
  a_by_last : Addr
  d_by_last : FuncData
  a_serving_of : Addr
  d_serving_of : FuncData
  a_pieces_in : Addr
  d_pieces_in : FuncData
  a_wanted_in : Addr
  d_wanted_in : FuncData
  a_served : Addr
  d_served : FuncData
  a_most_served : Addr
  d_most_served : FuncData
  a_lacking : Addr
  d_lacking : FuncData
  a_taken_of : Addr
  d_taken_of : FuncData
  a_check_both : Addr
  d_check_both : FuncData
  a_unused : Addr
  d_unused : FuncData
  a_left_on : Addr
  d_left_on : FuncData
  a__law_draw : Addr
  d__law_draw : FuncData
  a__law_number : Addr
  d__law_number : FuncData
  a__law_numbers : Addr
  d__law_numbers : FuncData
  a__law_triples : Addr
  d__law_triples : FuncData
  a__law_supplies : Addr
  d__law_supplies : FuncData
  a__law_needs : Addr
  d__law_needs : FuncData
  a__law_serving : Addr
  d__law_serving : FuncData
  a__law_served_stands : Addr
  d__law_served_stands : FuncData
  a__law_rest_stands : Addr
  d__law_rest_stands : FuncData
  a_law : Addr
  d_law : FuncData
structure Tx (K : PySem.W.Frag) (mg : Str → Option Value) (z : Ad) : Prop where
  f_is_between : Fun K "is_between" "is_between" st_is_between z.a_is_between z.d_is_between
  g_is_between : mg "is_between" = some (.ref z.a_is_between)
  n_is_between : Binds K z.d_is_between P_is_between []
  f_is_row : Fun K "is_row" "is_row" st_is_row z.a_is_row z.d_is_row
  g_is_row : mg "is_row" = some (.ref z.a_is_row)
  n_is_row : Binds K z.d_is_row P_is_row []
  f_is_supply : Fun K "is_supply" "is_supply" st_is_supply z.a_is_supply z.d_is_supply
  g_is_supply : mg "is_supply" = some (.ref z.a_is_supply)
  n_is_supply : Binds K z.d_is_supply P_is_supply []
  f_is_need : Fun K "is_need" "is_need" st_is_need z.a_is_need z.d_is_need
  g_is_need : mg "is_need" = some (.ref z.a_is_need)
  n_is_need : Binds K z.d_is_need P_is_need []
  f_check_rows : Fun K "check_rows" "check_rows" st_check_rows z.a_check_rows z.d_check_rows
  g_check_rows : mg "check_rows" = some (.ref z.a_check_rows)
  n_check_rows : Binds K z.d_check_rows P_check_rows []
  f_check_supplies : Fun K "check_supplies" "check_supplies" st_check_supplies z.a_check_supplies z.d_check_supplies
  g_check_supplies : mg "check_supplies" = some (.ref z.a_check_supplies)
  n_check_supplies : Binds K z.d_check_supplies P_check_supplies []
  f_check_needs : Fun K "check_needs" "check_needs" st_check_needs z.a_check_needs z.d_check_needs
  g_check_needs : mg "check_needs" = some (.ref z.a_check_needs)
  n_check_needs : Binds K z.d_check_needs P_check_needs []
  f_has_day : Fun K "has_day" "has_day" st_has_day z.a_has_day z.d_has_day
  g_has_day : mg "has_day" = some (.ref z.a_has_day)
  n_has_day : Binds K z.d_has_day P_has_day []
  f_by_last : Fun K "by_last" "by_last" st_by_last z.a_by_last z.d_by_last
  g_by_last : mg "by_last" = some (.ref z.a_by_last)
  n_by_last : Binds K z.d_by_last P_by_last []
  f_serving_of : Fun K "serving_of" "serving_of" st_serving_of z.a_serving_of z.d_serving_of
  g_serving_of : mg "serving_of" = some (.ref z.a_serving_of)
  n_serving_of : Binds K z.d_serving_of P_serving_of []
  f_pieces_in : Fun K "pieces_in" "pieces_in" st_pieces_in z.a_pieces_in z.d_pieces_in
  g_pieces_in : mg "pieces_in" = some (.ref z.a_pieces_in)
  n_pieces_in : Binds K z.d_pieces_in P_pieces_in []
  f_wanted_in : Fun K "wanted_in" "wanted_in" st_wanted_in z.a_wanted_in z.d_wanted_in
  g_wanted_in : mg "wanted_in" = some (.ref z.a_wanted_in)
  n_wanted_in : Binds K z.d_wanted_in P_wanted_in []
  f_served : Fun K "served" "served" st_served z.a_served z.d_served
  g_served : mg "served" = some (.ref z.a_served)
  n_served : Binds K z.d_served P_served []
  f_most_served : Fun K "most_served" "most_served" st_most_served z.a_most_served z.d_most_served
  g_most_served : mg "most_served" = some (.ref z.a_most_served)
  n_most_served : Binds K z.d_most_served P_most_served []
  f_lacking : Fun K "lacking" "lacking" st_lacking z.a_lacking z.d_lacking
  g_lacking : mg "lacking" = some (.ref z.a_lacking)
  n_lacking : Binds K z.d_lacking P_lacking []
  f_taken_of : Fun K "taken_of" "taken_of" st_taken_of z.a_taken_of z.d_taken_of
  g_taken_of : mg "taken_of" = some (.ref z.a_taken_of)
  n_taken_of : Binds K z.d_taken_of P_taken_of []
  f_check_both : Fun K "check_both" "check_both" st_check_both z.a_check_both z.d_check_both
  g_check_both : mg "check_both" = some (.ref z.a_check_both)
  n_check_both : Binds K z.d_check_both P_check_both []
  f_unused : Fun K "unused" "unused" st_unused z.a_unused z.d_unused
  g_unused : mg "unused" = some (.ref z.a_unused)
  n_unused : Binds K z.d_unused P_unused []
  f_left_on : Fun K "left_on" "left_on" st_left_on z.a_left_on z.d_left_on
  g_left_on : mg "left_on" = some (.ref z.a_left_on)
  n_left_on : Binds K z.d_left_on P_left_on []
  f__law_draw : Fun K "_law_draw" "_law_draw" st__law_draw z.a__law_draw z.d__law_draw
  g__law_draw : mg "_law_draw" = some (.ref z.a__law_draw)
  n__law_draw : Binds K z.d__law_draw P__law_draw []
  f__law_number : Fun K "_law_number" "_law_number" st__law_number z.a__law_number z.d__law_number
  g__law_number : mg "_law_number" = some (.ref z.a__law_number)
  n__law_number : Binds K z.d__law_number P__law_number []
  f__law_numbers : Fun K "_law_numbers" "_law_numbers" st__law_numbers z.a__law_numbers z.d__law_numbers
  g__law_numbers : mg "_law_numbers" = some (.ref z.a__law_numbers)
  n__law_numbers : Binds K z.d__law_numbers P__law_numbers []
  f__law_triples : Fun K "_law_triples" "_law_triples" st__law_triples z.a__law_triples z.d__law_triples
  g__law_triples : mg "_law_triples" = some (.ref z.a__law_triples)
  n__law_triples : Binds K z.d__law_triples P__law_triples []
  f__law_supplies : Fun K "_law_supplies" "_law_supplies" st__law_supplies z.a__law_supplies z.d__law_supplies
  g__law_supplies : mg "_law_supplies" = some (.ref z.a__law_supplies)
  n__law_supplies : Binds K z.d__law_supplies P__law_supplies []
  f__law_needs : Fun K "_law_needs" "_law_needs" st__law_needs z.a__law_needs z.d__law_needs
  g__law_needs : mg "_law_needs" = some (.ref z.a__law_needs)
  n__law_needs : Binds K z.d__law_needs P__law_needs []
  f__law_serving : Fun K "_law_serving" "_law_serving" st__law_serving z.a__law_serving z.d__law_serving
  g__law_serving : mg "_law_serving" = some (.ref z.a__law_serving)
  n__law_serving : Binds K z.d__law_serving P__law_serving []
  f__law_served_stands : Fun K "_law_served_stands" "_law_served_stands" st__law_served_stands z.a__law_served_stands z.d__law_served_stands
  g__law_served_stands : mg "_law_served_stands" = some (.ref z.a__law_served_stands)
  n__law_served_stands : Binds K z.d__law_served_stands P__law_served_stands []
  f__law_rest_stands : Fun K "_law_rest_stands" "_law_rest_stands" st__law_rest_stands z.a__law_rest_stands z.d__law_rest_stands
  g__law_rest_stands : mg "_law_rest_stands" = some (.ref z.a__law_rest_stands)
  n__law_rest_stands : Binds K z.d__law_rest_stands P__law_rest_stands []
  f_law : Fun K "law" "law" st_law z.a_law z.d_law
  g_law : mg "law" = some (.ref z.a_law)
  n_law : Binds K z.d_law P_law []
  b_bool : mg "bool" = none
  b_enumerate : mg "enumerate" = none
  b_int : mg "int" = none
  b_isinstance : mg "isinstance" = none
  b_len : mg "len" = none
  b_list : mg "list" = none
  b_min : mg "min" = none
  b_range : mg "range" = none
  b_sorted : mg "sorted" = none
  b_sum : mg "sum" = none
  b_tuple : mg "tuple" = none
  b_zip : mg "zip" = none
  c_MOST_DAY : ∃ t, mg "MOST_DAY" = some (.int 99 t)
  c_MOST_ROWS : ∃ t, mg "MOST_ROWS" = some (.int 12 t)
  c_MOST_COUNT : ∃ t, mg "MOST_COUNT" = some (.int 999 t)
end Law
open PySem PySem.Spec PyProof.Rows L2 Ld
local macro_rules
  | `(tactic| walk_at "ld") => `(tactic| simp -dsimp -implicitDefEqProofs only [↓e_wSeq, ↓e_wIf, ↓e_wB, ↓e_wBin, ↓e_wBinN, ↓e_wUn, ↓e_wVar, ↓e_wC, ↓e_wCallB, ↓e_wCallN, ↓e_wNew, ↓e_wNil, ↓e_wCons, ↓e_wConsU, ↓e_wTup, ↓e_wLst, ↓e_wAnd, ↓e_wOr, ↓e_wNot, ↓e_wAndV, ↓e_wOrV, ↓e_wNotV, ↓e_wIfE, ↓e_wNext, ↓e_wBreak, ↓e_wCont, ↓e_wDrop, ↓e_wSet, ↓e_wOwn, ↓e_wRet, ↓e_wRetNew, ↓e_wRet0, ↓e_wName, ↓e_wGTup, ↓e_wAsg, ↓e_wPar, ↓e_wFor, ↓e_wIter, ↓e_wRange, ↓e_wMut, ↓e_wMutK, ↓e_wSetIx, ↓e_wAug, ↓e_wTruth, ↓e_wLc, ↓e_wYes, e_wipe_nil, e_wipe_cons, e_back_nil, e_back_cons, ↓e_wGet, ↓e_wLenW, ↓e_wKeep, ↓e_wSetW, ↓e_wEnumA, ↓e_wRangeD, ↓e_wZipM, ↓e_wCallV, ↓e_wRevT, ↓e_wTupRg, ↓e_wExtN, dLtA_int, dLeA_int, dSumR_nat, dAdd_lst, dCatL_lst, dStr_int, fIns_two, dAny_bls, dAll_bls, ↓e_wZipA, ↓e_wAugIx, ↓e_wSlS, ↓e_wJoin, ↓e_wIterS, ↓e_wForO, e_wLcO, e_backN, ↓ixs2_0, ↓ixs2_1, ↓ixs3_0, ↓ixs3_1, ↓ixs3_2, cutL_map, ↓e_wWhile, ↓e_wChain, ↓e_wCall, ↓e_wCallF, ↓e_wCallO, ↓e_wSl, ↓e_wSlL, ↓e_wPart, ↓e_wNoPart, ↓bestL_ints, dSort_ints, dSortT_ints, dSortR_ints, dGcd_int, ↓bestT_ints, map_set_int, List.length_set, e_wGs_nil, ↓e_wGs_cons, onS_some, onS_none, onS_ite, slD_val, slD_own, res_val, res_slot, resL_nil, resL_cons, valL_nil, valL_cons, useK_val, useK_slot, useS_val, useS_own, ne_eq, Option.bind_some, Option.map_some, start_eq, repl_zero, repl_succ, dAdd_int, dMul_int, dMulI_int, dMulW_int, dIi_int, dIb_int, dDivI_int, dModI_int, dPowI_int, dEq_int, dNe_int, dEq_bl, dNe_bl, dNeg_int, dAbs_int, dInt_int, dInt_bl, dMax2_int, dMin2_int, dLenA_lst, dLenA_tup, dLenA_scr, dSum_lst, dSum_tup, ↓ixL_ints, ↓ixT_ints, ↓ixS_ints, ↓ixLd1, ↓ixTd1, ↓ixLd2, ↓ixTd2, ↓ixLd3, ↓ixTd3, ↓ixLd4, ↓ixTd4, ↓ixLd5, ↓ixTd5, ↓ixLd6, ↓ixTd6, ↓ixLd7, ↓ixTd7, ↓ixA_last, dList_lst, dList_tup, dList_scr, dTuple_lst, dTuple_tup, fApp_one, seqD_lst, seqD_tup, seqD_scr, tru_bl, tru_int, dEq_ints, dNe_ints, dIsN, dNotN, Ld.isNon, dIsB, dIsNotB, dIsi_int_int, dIsi_int_bool, dIsi_int_tuple, dIsi_int_str, dIsi_bl_bool, dIsi_bl_int, dIsi_bl_tuple, dIsi_tup_tuple, dIsi_tup_bool, dIsi_tup_int, dIsi_tup_str, dIsi_str_bool, dIsi_str_int, dIsi_str_str, dIsi_str_tuple, dIsi_lst_list, dIsi_non_tuple, dIsi_lst_tuple, imm_int, imm_bl, imm_non, imm_str, imm_tup, imms_nil, imms_cons, imms_append, imms_ints, List.getElem?_cons_zero, List.getD_cons_zero, List.getD_cons_succ, List.getElem?_cons_succ, List.set_cons_zero, List.set_cons_succ, List.length_cons, List.length_nil, List.length_map, List.map_cons, List.map_nil, List.cons_append, List.nil_append, Nat.reduceSub, Nat.reduceAdd, Nat.reduceLT, Nat.reduceLeDiff, Nat.reduceEqDiff, Nat.zero_add, Bool.and_true, Bool.true_and, Bool.and_self, Bool.not_true, decide_true, decide_false, eq_self, not_true_eq_false, not_false_eq_true, 
  Bool.not_false, beq_self_eq_true, if_true, if_false, Bool.false_eq_true, reduceIte, reduceCtorEq, and_true, true_and, decide_eq_true_eq, Bool.not_eq_true', decide_eq_false_iff_not, implies_true, forall_const, Bool.decide_eq_true, Int.reduceToNat, Int.toNat_natCast])
  | `(tactic| walk_at "st") => `(tactic| (try with_reducible refine wSeq_i ?_); simp -dsimp -implicitDefEqProofs only [↓e_wIf, ↓e_wB, ↓e_wBin, ↓e_wBinN, ↓e_wUn, ↓e_wVar, ↓e_wC, ↓e_wCallB, ↓e_wCallN, ↓e_wNew, ↓e_wNil, ↓e_wCons, ↓e_wConsU, ↓e_wTup, ↓e_wLst, ↓e_wAnd, ↓e_wOr, ↓e_wNot, ↓e_wAndV, ↓e_wOrV, ↓e_wNotV, ↓e_wIfE, ↓e_wNext, ↓e_wBreak, ↓e_wCont, ↓e_wDrop, ↓e_wSet, ↓e_wOwn, ↓e_wRet, ↓e_wRetNew, ↓e_wRet0, ↓e_wName, ↓e_wGTup, ↓e_wAsg, ↓e_wPar, ↓e_wFor, ↓e_wIter, ↓e_wRange, ↓e_wMut, ↓e_wMutK, ↓e_wSetIx, ↓e_wAug, ↓e_wTruth, ↓e_wLc, ↓e_wYes, e_wipe_nil, e_wipe_cons, e_back_nil, e_back_cons, ↓e_wGet, ↓e_wLenW, ↓e_wKeep, ↓e_wSetW, ↓e_wEnumA, ↓e_wRangeD, ↓e_wZipM, ↓e_wCallV, ↓e_wRevT, ↓e_wTupRg, ↓e_wExtN, dLtA_int, dLeA_int, dSumR_nat, dAdd_lst, dCatL_lst, dStr_int, fIns_two, dAny_bls, dAll_bls, ↓e_wZipA, ↓e_wAugIx, ↓e_wSlS, ↓e_wJoin, ↓e_wIterS, ↓e_wForO, e_wLcO, e_backN, ↓ixs2_0, ↓ixs2_1, ↓ixs3_0, ↓ixs3_1, ↓ixs3_2, cutL_map, ↓e_wWhile, ↓e_wChain, ↓e_wCall, ↓e_wCallF, ↓e_wCallO, ↓e_wSl, ↓e_wSlL, ↓e_wPart, ↓e_wNoPart, ↓bestL_ints, dSort_ints, dSortT_ints, dSortR_ints, dGcd_int, ↓bestT_ints, map_set_int, List.length_set, e_wGs_nil, ↓e_wGs_cons, onS_some, onS_none, onS_ite, slD_val, slD_own, res_val, res_slot, resL_nil, resL_cons, valL_nil, valL_cons, useK_val, useK_slot, useS_val, useS_own, ne_eq, Option.bind_some, Option.map_some, start_eq, repl_zero, repl_succ, dAdd_int, dMul_int, dMulI_int, dMulW_int, dIi_int, dIb_int, dDivI_int, dModI_int, dPowI_int, dEq_int, dNe_int, dEq_bl, dNe_bl, dNeg_int, dAbs_int, dInt_int, dInt_bl, dMax2_int, dMin2_int, dLenA_lst, dLenA_tup, dLenA_scr, dSum_lst, dSum_tup, ↓ixL_ints, ↓ixT_ints, ↓ixS_ints, ↓ixLd1, ↓ixTd1, ↓ixLd2, ↓ixTd2, ↓ixLd3, ↓ixTd3, ↓ixLd4, ↓ixTd4, ↓ixLd5, ↓ixTd5, ↓ixLd6, ↓ixTd6, ↓ixLd7, ↓ixTd7, ↓ixA_last, dList_lst, dList_tup, dList_scr, dTuple_lst, dTuple_tup, fApp_one, seqD_lst, seqD_tup, seqD_scr, tru_bl, tru_int, dEq_ints, dNe_ints, dIsN, dNotN, Ld.isNon, dIsB, dIsNotB, dIsi_int_int, dIsi_int_bool, dIsi_int_tuple, dIsi_int_str, dIsi_bl_bool, dIsi_bl_int, dIsi_bl_tuple, dIsi_tup_tuple, dIsi_tup_bool, dIsi_tup_int, dIsi_tup_str, dIsi_str_bool, dIsi_str_int, dIsi_str_str, dIsi_str_tuple, dIsi_lst_list, dIsi_non_tuple, dIsi_lst_tuple, imm_int, imm_bl, imm_non, imm_str, imm_tup, imms_nil, imms_cons, imms_append, imms_ints, List.getElem?_cons_zero, List.getD_cons_zero, List.getD_cons_succ, List.getElem?_cons_succ, List.set_cons_zero, List.set_cons_succ, List.length_cons, List.length_nil, List.length_map, List.map_cons, List.map_nil, List.cons_append, List.nil_append, Nat.reduceSub, Nat.reduceAdd, Nat.reduceLT, Nat.reduceLeDiff, Nat.reduceEqDiff, Nat.zero_add, Bool.and_true, Bool.true_and, Bool.and_self, Bool.not_true, decide_true, decide_false, eq_self, not_true_eq_false, not_false_eq_true, Bool.not_false, beq_self_eq_true, 
  if_true, if_false, Bool.false_eq_true, reduceIte, reduceCtorEq, and_true, true_and, decide_eq_true_eq, Bool.not_eq_true', decide_eq_false_iff_not, implies_true, forall_const, Bool.decide_eq_true, Int.reduceToNat, Int.toNat_natCast])
  | `(tactic| walk_at "sd") => `(tactic| first | assumption | omega | exact sizeLine_ge (by omega) | exact sizeLine_lt (by omega) | exact Or.inl (by unfold Sm; omega) | exact Or.inr (by unfold Sm; omega) | exact Md.of_Sm (by unfold Sm; omega) | (unfold Sm; omega) | (refine And.intro ?_ ?_ <;> walk_at "sd"))
  | `(tactic| walk_at "go") => `(tactic| repeat (first | (with_reducible refine And.intro ?_ ?_; (focus (walk_at "sd"; done))) | walk_at "st"))
  | `(tactic| walk_at "gs") => `(tactic| repeat' (first | (with_reducible refine And.intro ?_ ?_; (focus (walk_at "sd"; done))) | with_reducible refine ite_i (fun _ => ?_) (fun _ => ?_) | walk_at "st"))

namespace Law
/-- the bag at f as a draw finds it: cells at a, draws so far x -/
structure Bt (f a : Addr) (cells : List Int) (x : Int) (s : Sto) : Prop where
  ne : a ≠ f
  hf : s f = some [.ref a, .int x]
  ha : s a = some (cells.map .int)
def BagOk (f : Addr) (s : Sto) : Prop := ∃ a cells x, Bt f a cells x s ∧ 0 ≤ x
section
variable {f a : Addr} {cells : List Int} {x : Int} {s : Sto}
theorem Bt.b0 (h : Bt f a cells x s) {k : D → Prop} (q : k (.ref a)) : onS (sGet s (.ref f) (.int 0)) k := by rw [sGet_some h.hf]; exact q
theorem Bt.b1 (h : Bt f a cells x s) {k : D → Prop} (q : k (.int x)) : onS (sGet s (.ref f) (.int 1)) k := by rw [sGet_some h.hf]; exact q
theorem Bt.bl (h : Bt f a cells x s) {k : D → Prop} (q : k (.int cells.length)) : onS (sLen s [.ref a]) k := by rw [sLen_some h.ha, List.length_map]; exact q
theorem Bt.bc (h : Bt f a cells x s) {i : Int} {k : D → Prop} (q : (0 ≤ i ∧ i < cells.length) ∧ k (.int (cells.getD i.toNat 0))) : onS (sGet s (.ref a) (.int i)) k := by rw [sGet_some h.ha]; exact ix_map.mpr q
theorem Bt.s1 (h : Bt f a cells x s) {d : Int} {k : Sto → Prop} (q : ∀ s', Bt f a cells d s' → k s') : onS (s f) fun ds => onS (ixN ds.length 1) fun j => flat (.int d) = true ∧ k (put s f (ds.set j (.int d))) := by
  rw [h.hf]; exact ⟨rfl, q _ ⟨h.ne, put_same, by rw [put_ne h.ne]; exact h.ha⟩⟩
theorem Bt.sc (h : Bt f a cells x s) {d i : Int} {k : Sto → Prop} (q : (0 ≤ i ∧ i < cells.length) ∧ ∀ s', Bt f a (cells.set i.toNat d) x s' → k s') : onS (s a) fun ds => onS (ixN ds.length i) fun j => flat (.int d) = true ∧ k (put s a (ds.set j (.int d))) := by
  rw [h.ha]
  refine ixN_i q.1.1 (by rw [List.length_map]; exact q.1.2) ⟨rfl, q.2 _ ⟨h.ne, ?_, ?_⟩⟩
  · rw [put_ne (Ne.symm h.ne)]; exact h.hf
  · rw [put_same, map_set_int]
end
/-- the law's own bag, made of the script -/
theorem bag_new {f a : Addr} {cells : List Int} {s : Sto} (ha : s a = none) (hf : put s a (cells.map .int) f = none) : BagOk f (put (put s a (cells.map .int)) f [.ref a, .int 0]) := by
  have hne : a ≠ f := fun e => by rw [e, put_same] at hf; cases hf
  exact ⟨a, cells, 0, ⟨hne, put_same, by rw [put_ne hne, put_same]⟩, Int.le_refl _⟩
abbrev T3 := Int × Int × Int
abbrev T2 := Int × Int
def z3 : T3 := (0, 0, 0)
def z2 : T2 := (0, 0)
def t3 (x : T3) : D := .tup [.int x.1, .int x.2.1, .int x.2.2]
def t2 (x : T2) : D := .tup [.int x.1, .int x.2]
theorem t3_eq (x : T3) : t3 x = .tup [.int x.1, .int x.2.1, .int x.2.2] := rfl
theorem t2_eq (x : T2) : t2 x = .tup [.int x.1, .int x.2] := rfl
def okP : D → Bool
  | .int _ => true
  | .bl _ => true
  | .non => true
  | .str _ => true
  | _ => false
theorem t3_inj {a b : T3} (h : t3 a = t3 b) : a = b := by
  obtain ⟨a1, a2, a3⟩ := a
  obtain ⟨b1, b2, b3⟩ := b
  simp only [t3, D.tup.injEq, List.cons.injEq, D.int.injEq, and_true] at h
  obtain ⟨rfl, rfl, rfl⟩ := h
  rfl
theorem t3_maps : ∀ {xs ys : List T3}, xs.map t3 = ys.map t3 → xs = ys
  | [], [], _ => rfl
  | [], _ :: _, h => by simp at h
  | _ :: _, [], h => by simp at h
  | x :: xs, y :: ys, h => by
    simp only [List.map_cons, List.cons.injEq] at h
    rw [t3_inj h.1, t3_maps h.2]
theorem imms_t3 (xs : List T3) : imms (xs.map t3) = true := by
  induction xs with
  | nil => rfl
  | cons x xs ih => rw [List.map_cons, imms, ih]; rfl
theorem imms_t2 (xs : List T2) : imms (xs.map t2) = true := by
  induction xs with
  | nil => rfl
  | cons x xs ih => rw [List.map_cons, imms, ih]; rfl
theorem lc_any {vs : List Nat} {wg : WG Sto} {wt : WT Sto} {we : WE Sto} {Q : List D → Ld.Env → Sto → Prop} (h : D → D) {ρ : Ld.Env} {s : Sto} {xs : List D} (hn : xs.length < 16777216)
    (hb : ∀ x ∈ xs, ∀ acc (f : List D → Ld.Env → Sto → Prop), acc.length < sizeLine → f (acc ++ [h x]) ρ s →
      wg x ρ s fun ρ2 s2 => wt ρ2 s2 fun b ρ3 s3 => if b = true then we ρ3 s3 fun h ρ4 s4 => useK h ρ4 fun y ρ5 => acc.length < sizeLine ∧ f (acc ++ [y]) (wipeD ρ5 vs) s4 else f acc (wipeD ρ3 vs) s3)
    (hN : Q (xs.map h) ρ s) : wLcL vs wg wt we Q xs [] ρ s := by
  have := lc_map (vs := vs) (wg := wg) (wt := wt) (we := we) (Q := Q) (g := fun d : D => d) h (ρ := ρ) (s := s) hn hb hN
  rwa [List.map_id'] at this
theorem ixL {α : Type} {xs : List α} {f : α → D} {i : Int} (x0 : α) {k : D → Prop} (h0 : 0 ≤ i) (h1 : i < xs.length) (q : k (f (xs.getD i.toNat x0))) : onS (dIx (.lst (xs.map f)) (.int i)) k := ix_map.mpr ⟨⟨h0, h1⟩, q⟩
theorem ixT {α : Type} {xs : List α} {f : α → D} {i : Int} (x0 : α) {k : D → Prop} (h0 : 0 ≤ i) (h1 : i < xs.length) (q : k (f (xs.getD i.toNat x0))) : onS (dIx (.tup (xs.map f)) (.int i)) k := ix_map.mpr ⟨⟨h0, h1⟩, q⟩
theorem isi_non_t : dIsi [.non, .ty "tuple"] = some (.bl false) := by simp [dIsi, tyn, isTab]
theorem isi_str_t {x : Str} : dIsi [.str x, .ty "tuple"] = some (.bl false) := by simp [dIsi, tyn, isTab]
theorem isi_bl_t {x : Bool} : dIsi [.bl x, .ty "tuple"] = some (.bl false) := by simp [dIsi, tyn, isTab]
theorem isi_lst_t {x : List D} : dIsi [.lst x, .ty "tuple"] = some (.bl false) := by simp [dIsi, tyn, isTab]
theorem isi_non_i : dIsi [.non, .ty "int"] = some (.bl false) := by simp [dIsi, tyn, isTab]
theorem isi_bl_i {x : Bool} : dIsi [.bl x, .ty "int"] = some (.bl true) := by simp [dIsi, tyn, isTab]
theorem isi_bl_b {x : Bool} : dIsi [.bl x, .ty "bool"] = some (.bl true) := by simp [dIsi, tyn, isTab]
theorem mem_getD {α : Type} {p : α → Prop} {xs : List α} {x0 : α} {i : Nat} (h : ∀ x ∈ xs, p x) (hi : i < xs.length) : p (xs.getD i x0) := by
  rw [List.getD_eq_getElem?_getD, List.getElem?_eq_getElem hi]
  exact h _ (List.getElem_mem hi)
theorem ixT_any {xs : List D} {i : Int} {k : D → Prop} : onS (dIx (.tup xs) (.int i)) k = ((0 ≤ i ∧ i < xs.length) ∧ k (xs.getD i.toNat .non)) := onS_ite
theorem ix30 {a b c : D} {k : D → Prop} : onS (dIx (.tup [a, b, c]) (.int 0)) k = k a := by rw [ixT_any]; simp
theorem ix31 {a b c : D} {k : D → Prop} : onS (dIx (.tup [a, b, c]) (.int 1)) k = k b := by rw [ixT_any]; simp
theorem ix32 {a b c : D} {k : D → Prop} : onS (dIx (.tup [a, b, c]) (.int 2)) k = k c := by rw [ixT_any]; simp
theorem ix20 {a b : D} {k : D → Prop} : onS (dIx (.tup [a, b]) (.int 0)) k = k a := by rw [ixT_any]; simp
theorem ix21 {a b : D} {k : D → Prop} : onS (dIx (.tup [a, b]) (.int 1)) k = k b := by rw [ixT_any]; simp
theorem isiT_tup {xs : List D} : dIsiT [.tup xs, .tup [.ty "list", .ty "tuple"]] = some (.bl true) := by simp [dIsiT, anyTy, dIsi, tyn, isTab]
theorem isiT_lst {xs : List D} : dIsiT [.lst xs, .tup [.ty "list", .ty "tuple"]] = some (.bl true) := by simp [dIsiT, anyTy, dIsi, tyn, isTab]
local macro_rules
  | `(tactic| walk_at "gi") => `(tactic| repeat' (first | (with_reducible refine And.intro ?_ ?_; (focus (walk_at "sd"; done))) | with_reducible refine ite_i (fun _ => ?_) (fun _ => ?_) | simp only [t3_eq, t2_eq, isiT_tup, isiT_lst, ix30, ix31, ix32, ix20, ix21, isi_non_t, isi_str_t, isi_bl_t, isi_lst_t, isi_non_i, isi_bl_i, isi_bl_b] | walk_at "st"))
def btw (d : D) (a b : Int) : Bool := match d with
  | .int i => decide (a ≤ i ∧ i ≤ b)
  | _ => false
theorem btw_some {d : D} {a b : Int} (h : btw d a b = true) : ∃ i, d = .int i ∧ a ≤ i ∧ i ≤ b := by
  cases d with
  | int i => exact ⟨i, rfl, of_decide_eq_true h⟩
  | _ => cases h
def SuOk (su : List T3) : Prop := su.length ≤ 12 ∧ ∀ x ∈ su, 0 ≤ x.1 ∧ x.1 ≤ x.2.1 ∧ x.2.1 ≤ 99 ∧ 1 ≤ x.2.2 ∧ x.2.2 ≤ 999
def NeOk (ne : List T2) : Prop := ne.length ≤ 12 ∧ ∀ x ∈ ne, 0 ≤ x.1 ∧ x.1 ≤ 99 ∧ 1 ≤ x.2 ∧ x.2 ≤ 999
def sm (f : Nat → Int) : List Nat → Int
  | [] => 0
  | k :: ks => f k + sm f ks
theorem sm_app (f : Nat → Int) (a b : List Nat) : sm f (a ++ b) = sm f a + sm f b := by
  induction a with
  | nil => simp [sm]
  | cons x xs ih => rw [List.cons_append, sm, sm, ih]; omega
theorem sm_congr {f g : Nat → Int} : ∀ {l : List Nat}, (∀ k ∈ l, f k = g k) → sm f l = sm g l
  | [], _ => rfl
  | k :: l, h => by rw [sm, sm, h k (by simp), sm_congr fun j hj => h j (by simp [hj])]
theorem sm_le {f g : Nat → Int} : ∀ {l : List Nat}, (∀ k ∈ l, f k ≤ g k) → sm f l ≤ sm g l
  | [], _ => Int.le_refl _
  | k :: l, h => by
    have h1 := h k (by simp)
    have h2 := sm_le (l := l) fun j hj => h j (by simp [hj])
    rw [sm, sm]
    omega
theorem sm_zero {l : List Nat} : sm (fun _ => 0) l = 0 := by
  induction l with
  | nil => rfl
  | cons k l ih => rw [sm, ih]; rfl
theorem sm_nn {f : Nat → Int} {l : List Nat} (h : ∀ k ∈ l, 0 ≤ f k) : 0 ≤ sm f l := by
  have := sm_le (f := fun _ => 0) h
  rwa [sm_zero] at this
theorem sm_add (f g : Nat → Int) (l : List Nat) : sm (fun k => f k + g k) l = sm f l + sm g l := by
  induction l with
  | nil => rfl
  | cons k l ih => rw [sm, sm, sm, ih]; omega
theorem sm_sub (f g : Nat → Int) (l : List Nat) : sm (fun k => f k - g k) l = sm f l - sm g l := by
  induction l with
  | nil => rfl
  | cons k l ih => rw [sm, sm, sm, ih]; omega
theorem sm_filter (f : Nat → Int) (p : Nat → Bool) (l : List Nat) : sm f (l.filter p) = sm (fun k => if p k = true then f k else 0) l := by
  induction l with
  | nil => rfl
  | cons k l ih =>
    rw [List.filter_cons, sm]
    split
    · rename_i h; rw [sm, ih]
    · rename_i h; rw [ih]; omega
theorem sm_perm {f : Nat → Int} {a b : List Nat} (h : a.Perm b) : sm f a = sm f b := by
  induction h with
  | nil => rfl
  | cons x _ ih => rw [sm, sm, ih]
  | swap x y l => rw [sm, sm, sm, sm]; omega
  | trans _ _ h1 h2 => rw [h1, h2]
theorem sm_sublist {f : Nat → Int} {a b : List Nat} (h : a.Sublist b) (hf : ∀ k ∈ b, 0 ≤ f k) : sm f a ≤ sm f b := by
  induction h with
  | slnil => exact Int.le_refl _
  | cons x _ ih =>
    have := ih fun k hk => hf k (by simp [hk])
    have := hf x (by simp)
    rw [sm]
    omega
  | cons_cons x _ ih =>
    have := ih fun k hk => hf k (by simp [hk])
    rw [sm, sm]
    omega
/-- the pieces of the rows with p -/
def tot (p : T3 → Bool) : List T3 → Int
  | [] => 0
  | t :: r => (if p t = true then t.2.2 else 0) + tot p r
theorem tot_app (p : T3 → Bool) (a b : List T3) : tot p (a ++ b) = tot p a + tot p b := by
  induction a with
  | nil => simp [tot]
  | cons x xs ih => rw [List.cons_append, tot, tot, ih]; omega
theorem tot_perm {p : T3 → Bool} {a b : List T3} (h : a.Perm b) : tot p a = tot p b := by
  induction h with
  | nil => rfl
  | cons x _ ih => rw [tot, tot, ih]
  | swap x y l => rw [tot, tot, tot, tot]; omega
  | trans _ _ h1 h2 => rw [h1, h2]
theorem tot_congr {p q : T3 → Bool} : ∀ {r : List T3}, (∀ t ∈ r, p t = q t) → tot p r = tot q r
  | [], _ => rfl
  | t :: r, h => by rw [tot, tot, h t (by simp), tot_congr fun s hs => h s (by simp [hs])]
theorem tot_none {p : T3 → Bool} : ∀ {r : List T3}, (∀ t ∈ r, p t = false) → tot p r = 0
  | [], _ => rfl
  | t :: r, h => by rw [tot, h t (by simp), tot_none fun s hs => h s (by simp [hs])]; rfl
theorem tot_nn {p : T3 → Bool} : ∀ {r : List T3}, (∀ t ∈ r, 0 ≤ t.2.2) → 0 ≤ tot p r
  | [], _ => Int.le_refl _
  | t :: r, h => by
    have h1 := h t (by simp)
    have h2 := tot_nn (p := p) (r := r) fun s hs => h s (by simp [hs])
    rw [tot]
    split <;> omega
def atP (i : Nat) (t : T3) : Bool := decide (t.1 = i)
def atS (k : Nat) (t : T3) : Bool := decide (t.2.1 = k)
def any (_ : T3) : Bool := true
/-- over places without repeats that hold all supplies of the rows -/
theorem tot_ks {p : T3 → Bool} {ks : List Nat} (hn : ks.Nodup) : ∀ {r : List T3}, (∀ t ∈ r, ∃ k ∈ ks, t.2.1 = (k : Int)) → sm (fun k => tot (fun t => p t && atS k t) r) ks = tot p r
  | [], _ => sm_zero
  | t :: r, h => by
    have ih := tot_ks (p := p) hn (r := r) fun s hs => h s (by simp [hs])
    obtain ⟨k0, hk0, e0⟩ := h t (by simp)
    have e1 : sm (fun k => tot (fun t => p t && atS k t) (t :: r)) ks = sm (fun k => if (p t && atS k t) = true then t.2.2 else 0) ks + sm (fun k => tot (fun t => p t && atS k t) r) ks := by
      rw [← sm_add]
      exact sm_congr fun k _ => rfl
    rw [e1, ih, tot]
    congr 1
    clear e1 ih h
    induction ks with
    | nil => simp at hk0
    | cons k ks ih =>
      rw [List.nodup_cons] at hn
      rw [sm]
      by_cases hk : k0 = k
      · subst hk
        have : sm (fun k => if (p t && atS k t) = true then t.2.2 else 0) ks = sm (fun _ => 0) ks := sm_congr fun j hj => by
          rw [if_neg]
          simp only [atS, Bool.and_eq_true, decide_eq_true_eq, not_and]
          intro _ e
          have : j = k0 := by omega
          exact hn.1 (this ▸ hj)
        rw [this, sm_zero]
        simp [atS, e0]
      · have h2 : k0 ∈ ks := by
          rcases List.mem_cons.mp hk0 with h | h
          · exact absurd h hk
          · exact h
        rw [ih hn.2 h2, if_neg]
        · omega
        · simp only [atS, Bool.and_eq_true, decide_eq_true_eq, not_and]
          intro _ e
          omega
def mn (a b : Int) : Int := if b < a then b else a
theorem mn_comm (a b : Int) : mn a b = mn b a := by unfold mn; split <;> split <;> omega
def stp (i : Nat) (st : List T3 × List Int × Int) (k : Nat) : List T3 × List Int × Int :=
  if 0 < mn st.2.2 (st.2.1.getD k 0) then (st.1 ++ [((i : Int), (k : Int), mn st.2.2 (st.2.1.getD k 0))], st.2.1.set k (st.2.1.getD k 0 - mn st.2.2 (st.2.1.getD k 0)), st.2.2 - mn st.2.2 (st.2.1.getD k 0)) else st
theorem getD_set {l : List Int} {k j : Nat} {v : Int} (hk : k < l.length) : (l.set k v).getD j 0 = if j = k then v else l.getD j 0 := by
  rw [List.getD_eq_getElem?_getD, List.getD_eq_getElem?_getD, List.getElem?_set]
  by_cases h : k = j
  · subst h; simp [hk]
  · rw [if_neg h, if_neg (fun e => h e.symm)]
/-- what one need has taken, from the state a to the state b -/
structure In (i : Nat) (ks : List Nat) (a b : List T3 × List Int × Int) : Prop where
  len : b.2.1.length = a.2.1.length
  nn : ∀ k, 0 ≤ b.2.1.getD k 0
  w : 0 ≤ b.2.2
  new : ∃ new, b.1 = a.1 ++ new ∧ new.length ≤ ks.length ∧ (∀ t ∈ new, t.1 = i ∧ 0 < t.2.2 ∧ ∃ k ∈ ks, t.2.1 = (k : Int)) ∧ (∀ k : Nat, b.2.1.getD k 0 = a.2.1.getD k 0 - tot (atS k) new) ∧ tot any new = a.2.2 - b.2.2
  all : b.2.2 = 0 ∨ ∀ k ∈ ks, b.2.1.getD k 0 = 0
theorem mn_pos {a b : Int} (h : ¬ 0 < mn a b) (ha : 0 ≤ a) (hb : 0 ≤ b) : a = 0 ∨ b = 0 := by
  unfold mn at h
  split at h <;> omega
theorem stp_zero {i : Nat} {ks : List Nat} {st : List T3 × List Int × Int} (h : st.2.2 = 0) (hn : ∀ k, 0 ≤ st.2.1.getD k 0) : ks.foldl (stp i) st = st := by
  induction ks with
  | nil => rfl
  | cons k ks ih =>
    have e : stp i st k = st := by
      unfold stp
      rw [if_neg]
      have := hn k
      rw [h]
      unfold mn
      split <;> omega
    rw [List.foldl_cons, e, ih]
theorem inn (i : Nat) : ∀ (ks : List Nat) (a : List T3 × List Int × Int), (∀ k ∈ ks, k < a.2.1.length) → (∀ k, 0 ≤ a.2.1.getD k 0) → 0 ≤ a.2.2 → In i ks a (ks.foldl (stp i) a)
  | [], a, _, hn, hw => ⟨rfl, hn, hw, ⟨[], by simp, by simp, by simp, fun k => by simp [tot], by simp [tot]⟩, .inr (by simp)⟩
  | k :: ks, a, hk, hn, hw => by
    rw [List.foldl_cons]
    have hkl := hk k (by simp)
    have hk0 := hn k
    by_cases h : 0 < mn a.2.2 (a.2.1.getD k 0)
    · have e : stp i a k = (a.1 ++ [((i : Int), (k : Int), mn a.2.2 (a.2.1.getD k 0))], a.2.1.set k (a.2.1.getD k 0 - mn a.2.2 (a.2.1.getD k 0)), a.2.2 - mn a.2.2 (a.2.1.getD k 0)) := if_pos h
      have hm1 : mn a.2.2 (a.2.1.getD k 0) ≤ a.2.2 := by unfold mn; split <;> omega
      have hm2 : mn a.2.2 (a.2.1.getD k 0) ≤ a.2.1.getD k 0 := by unfold mn; split <;> omega
      have hm3 : mn a.2.2 (a.2.1.getD k 0) = a.2.2 ∨ mn a.2.2 (a.2.1.getD k 0) = a.2.1.getD k 0 := by unfold mn; split <;> simp
      rw [e]
      generalize mn a.2.2 (a.2.1.getD k 0) = c at *
      have ih := inn i ks (a.1 ++ [((i : Int), (k : Int), c)], a.2.1.set k (a.2.1.getD k 0 - c), a.2.2 - c) (fun j hj => by rw [List.length_set]; exact hk j (by simp [hj])) (fun j => by
        show 0 ≤ (a.2.1.set k (a.2.1.getD k 0 - c)).getD j 0
        rw [getD_set hkl]
        have := hn j
        split <;> omega) (by show 0 ≤ a.2.2 - c; omega)
      generalize ks.foldl (stp i) (a.1 ++ [((i : Int), (k : Int), c)], a.2.1.set k (a.2.1.getD k 0 - c), a.2.2 - c) = b at ih
      obtain ⟨h1, h2, h3, ⟨new, n1, n1l, n2, n3, n4⟩, h5⟩ := ih
      simp only [] at n1 n3 n4 h1
      refine ⟨by rw [h1, List.length_set], h2, h3, ⟨((i : Int), (k : Int), c) :: new, by rw [n1, List.append_assoc]; rfl, by simp; exact n1l, fun t ht => ?_, fun j => ?_, ?_⟩, ?_⟩
      · rcases List.mem_cons.mp ht with rfl | ht
        · exact ⟨rfl, h, k, by simp, rfl⟩
        · obtain ⟨a1, a2, j, a3, a4⟩ := n2 t ht
          exact ⟨a1, a2, j, by simp [a3], a4⟩
      · rw [n3, getD_set hkl, tot]
        by_cases hj : j = k
        · subst hj
          simp [atS]
          omega
        · rw [if_neg hj, if_neg]
          · omega
          · simp only [atS, decide_eq_true_eq]
            omega
      · rw [tot, n4]
        simp [any]
        omega
      · rcases h5 with h5 | h5
        · exact .inl h5
        rcases hm3 with hm3 | hm3
        · left
          have h6 : 0 ≤ tot any new := tot_nn fun t ht => by have := (n2 t ht).2.1; omega
          omega
        · right
          intro j hj
          rcases List.mem_cons.mp hj with rfl | hj
          · have h6 := n3 j
            rw [getD_set hkl, if_pos rfl] at h6
            have h7 : 0 ≤ tot (atS j) new := tot_nn fun t ht => by have := (n2 t ht).2.1; omega
            have := h2 j
            omega
          · exact h5 j hj
    · have e : stp i a k = a := if_neg h
      rw [e]
      obtain ⟨h1, h2, h3, ⟨new, n1, n1l, n2, n3, n4⟩, h5⟩ := inn i ks a (fun j hj => hk j (by simp [hj])) hn hw
      refine ⟨h1, h2, h3, ⟨new, n1, by simp; omega, fun t ht => ?_, n3, n4⟩, ?_⟩
      · obtain ⟨a1, a2, j, a3, a4⟩ := n2 t ht
        exact ⟨a1, a2, j, by simp [a3], a4⟩
      · rcases mn_pos h hw hk0 with h0 | h0
        · left
          rw [stp_zero h0 hn]
          exact h0
        · rcases h5 with h5 | h5
          · exact .inl h5
          · right
            intro j hj
            rcases List.mem_cons.mp hj with rfl | hj
            · have h6 := n3 j
              have h7 : 0 ≤ tot (atS j) new := tot_nn fun t ht => by have := (n2 t ht).2.1; omega
              have := h2 j
              omega
            · exact h5 j hj

theorem In.le {i : Nat} {ks : List Nat} {a b : List T3 × List Int × Int} (h : In i ks a b) (k : Nat) : b.2.1.getD k 0 ≤ a.2.1.getD k 0 := by
  obtain ⟨new, _, _, h2, h3, _⟩ := h.new
  have := h3 k
  have h7 : 0 ≤ tot (atS k) new := tot_nn fun t ht => by have := (h2 t ht).2.1; omega
  omega
theorem In.out {i : Nat} {ks : List Nat} {a b : List T3 × List Int × Int} (h : In i ks a b) {k : Nat} (hk : k ∉ ks) : b.2.1.getD k 0 = a.2.1.getD k 0 := by
  obtain ⟨new, _, _, h2, h3, _⟩ := h.new
  rw [h3 k, tot_none]
  · omega
  intro t ht
  obtain ⟨_, _, j, hj, e⟩ := h2 t ht
  simp only [atS, decide_eq_false_iff_not]
  intro e2
  have : j = k := by omega
  exact hk (this ▸ hj)
theorem In.sum {i : Nat} {ks : List Nat} {a b : List T3 × List Int × Int} (h : In i ks a b) (hn : ks.Nodup) : sm (fun k => b.2.1.getD k 0) ks = sm (fun k => a.2.1.getD k 0) ks - (a.2.2 - b.2.2) := by
  obtain ⟨new, _, _, h2, h3, h4⟩ := h.new
  rw [sm_congr fun k _ => h3 k, sm_sub, ← h4]
  congr 1
  exact tot_ks (p := any) hn fun t ht => (h2 t ht).2.2
theorem In.full {i : Nat} {ks : List Nat} {a b : List T3 × List Int × Int} (h : In i ks a b) (hn : ks.Nodup) (hw : a.2.2 ≤ sm (fun k => a.2.1.getD k 0) ks) : b.2.2 = 0 := by
  rcases h.all with h1 | h1
  · exact h1
  have h2 := h.sum hn
  rw [sm_congr (g := fun _ => 0) fun k hk => h1 k hk, sm_zero] at h2
  have := h.w
  omega
theorem suf {i : Nat} {p s : List Nat} {a : List T3 × List Int × Int} (hn : (p ++ s).Nodup) (hk : ∀ k ∈ p ++ s, k < a.2.1.length) (h0 : ∀ k, 0 ≤ a.2.1.getD k 0) (hw : 0 ≤ a.2.2) :
    sm (fun k => a.2.1.getD k 0) s ≤ sm (fun k => ((p ++ s).foldl (stp i) a).2.1.getD k 0) s ∨ sm (fun k => a.2.1.getD k 0) (p ++ s) - a.2.2 ≤ sm (fun k => ((p ++ s).foldl (stp i) a).2.1.getD k 0) s := by
  have hI := inn i (p ++ s) a hk h0 hw
  have hP := inn i p a (fun k hk2 => hk k (by simp [hk2])) h0 hw
  rw [List.foldl_append] at hI ⊢
  generalize p.foldl (stp i) a = b1 at *
  have hS := inn i s b1 (fun k hk2 => by rw [hP.len]; exact hk k (by simp [hk2])) hP.nn hP.w
  have hd := (List.nodup_append.mp hn).2.2
  rcases hP.all with h1 | h1
  · left
    rw [stp_zero h1 hP.nn]
    refine sm_le fun k hks => ?_
    rw [hP.out]
    · exact Int.le_refl _
    · intro hkp
      exact hd k hkp k hks rfl
  · right
    have h2 := hI.sum hn
    rw [sm_app (fun k => (s.foldl (stp i) b1).2.1.getD k 0)] at h2
    have h3 : sm (fun k => (s.foldl (stp i) b1).2.1.getD k 0) p = 0 := by
      refine (sm_congr (g := fun _ => 0) fun k hkp => ?_).trans sm_zero
      have := hS.le k
      have := h1 k hkp
      have := hS.nn k
      omega
    have := hI.w
    omega
/-! ### the order of places by a key -/
def kle (f : Nat → Int) (i j : Nat) : Bool := decide (f i < f j ∨ (f i = f j ∧ i ≤ j))
def ord (f : Nat → Int) (l : List Nat) : List Nat := l.mergeSort (kle f)
theorem kle_tr {f : Nat → Int} (a b c : Nat) (h1 : kle f a b = true) (h2 : kle f b c = true) : kle f a c = true := by
  simp only [kle, decide_eq_true_eq] at *
  omega
theorem kle_tot {f : Nat → Int} (a b : Nat) : (kle f a b || kle f b a) = true := by
  simp only [kle, Bool.or_eq_true, decide_eq_true_eq]
  omega
theorem kle_anti {f : Nat → Int} {a b : Nat} (h1 : kle f a b = true) (h2 : kle f b a = true) : a = b := by
  simp only [kle, decide_eq_true_eq] at *
  omega
theorem kle_le {f : Nat → Int} {a b : Nat} (h1 : kle f a b = true) : f a ≤ f b := by
  simp only [kle, decide_eq_true_eq] at *
  omega
theorem ord_perm (f : Nat → Int) (l : List Nat) : (ord f l).Perm l := List.mergeSort_perm _ _
theorem ord_pw (f : Nat → Int) (l : List Nat) : (ord f l).Pairwise fun a b => kle f a b = true := List.pairwise_mergeSort kle_tr kle_tot l
theorem ord_le (f : Nat → Int) (l : List Nat) : (ord f l).Pairwise fun a b => f a ≤ f b := (ord_pw f l).imp kle_le
theorem ord_uniq {f : Nat → Int} {l xs : List Nat} (h : xs.Perm l) (hp : xs.Pairwise fun a b => kle f a b = true) : ord f l = xs :=
  List.Perm.eq_of_pairwise (le := fun a b => kle f a b = true) (fun _ _ _ _ => kle_anti) (ord_pw f l) hp ((ord_perm f l).trans h.symm)
theorem ord_filter (f : Nat → Int) (p : Nat → Bool) (l : List Nat) : ord f (l.filter p) = (ord f l).filter p :=
  ord_uniq ((ord_perm f l).filter p) ((ord_pw f l).filter p)
theorem ord_mem {f : Nat → Int} {l : List Nat} {k : Nat} : k ∈ ord f l ↔ k ∈ l := (ord_perm f l).mem_iff
theorem ord_rg_nodup {f : Nat → Int} {n : Nat} : (ord f (List.range n)).Nodup := (ord_perm f _).nodup_iff.mpr List.nodup_range
/-! ### serving by the last days -/
def fst3 (su : List T3) (k : Nat) : Int := (su.getD k z3).1
def last3 (su : List T3) (k : Nat) : Int := (su.getD k z3).2.1
def cnt3 (su : List T3) (k : Nat) : Int := (su.getD k z3).2.2
def day2 (ne : List T2) (i : Nat) : Int := (ne.getD i z2).1
def cnt2 (ne : List T2) (i : Nat) : Int := (ne.getD i z2).2
def al (su : List T3) (d : Int) (k : Nat) : Bool := decide (fst3 su k ≤ d ∧ d ≤ last3 su k)
def odS (su : List T3) : List Nat := ord (last3 su) (List.range su.length)
def odN (ne : List T2) : List Nat := ord (day2 ne) (List.range ne.length)
def one (su : List T3) (ne : List T2) (st : List T3 × List Int) (i : Nat) : List T3 × List Int :=
  ((((odS su).filter (al su (day2 ne i))).foldl (stp i) (st.1, st.2, cnt2 ne i)).1, (((odS su).filter (al su (day2 ne i))).foldl (stp i) (st.1, st.2, cnt2 ne i)).2.1)
def run (su : List T3) (ne : List T2) (is : List Nat) : List T3 × List Int := is.foldl (one su ne) ([], su.map (·.2.2))
theorem odS_mem {su : List T3} {k : Nat} : k ∈ odS su ↔ k < su.length := by rw [odS, ord_mem, List.mem_range]
theorem odN_mem {ne : List T2} {k : Nat} : k ∈ odN ne ↔ k < ne.length := by rw [odN, ord_mem, List.mem_range]
structure Rn (su : List T3) (ne : List T2) (is : List Nat) (r : List T3 × List Int) : Prop where
  len : r.2.length = su.length
  nn : ∀ k, 0 ≤ r.2.getD k 0
  rl : r.1.length ≤ is.length * su.length
  row : ∀ t ∈ r.1, ∃ i ∈ is, ∃ k, k < su.length ∧ t.1 = (i : Int) ∧ t.2.1 = (k : Int) ∧ 0 < t.2.2 ∧ al su (day2 ne i) k = true
  left : ∀ k : Nat, r.2.getD k 0 = cnt3 su k - tot (atS k) r.1
theorem getD_map_cnt {su : List T3} {k : Nat} : (su.map (·.2.2)).getD k 0 = cnt3 su k := by
  unfold cnt3
  rw [List.getD_eq_getElem?_getD, List.getD_eq_getElem?_getD, List.getElem?_map]
  cases su[k]? <;> rfl
theorem run_app {su : List T3} {ne : List T2} {a : List Nat} {i : Nat} : run su ne (a ++ [i]) = one su ne (run su ne a) i := by
  unfold run
  rw [List.foldl_append]
  rfl
theorem one_in {su : List T3} {ne : List T2} {st : List T3 × List Int} {i : Nat} (hl : st.2.length = su.length) (h0 : ∀ k, 0 ≤ st.2.getD k 0) (hw : 0 ≤ cnt2 ne i) : In i ((odS su).filter (al su (day2 ne i))) (st.1, st.2, cnt2 ne i) (((odS su).filter (al su (day2 ne i))).foldl (stp i) (st.1, st.2, cnt2 ne i)) :=
  inn i _ _ (fun k hk => by rw [hl]; exact odS_mem.mp (List.mem_filter.mp hk).1) h0 hw
theorem odS_len {su : List T3} : (odS su).length = su.length := by rw [odS, (ord_perm _ _).length_eq, List.length_range]
theorem run_rn {su : List T3} {ne : List T2} (hs : ∀ x ∈ su, 0 ≤ x.2.2) : ∀ (is : List Nat), (∀ i ∈ is, 0 ≤ cnt2 ne i) → ∀ (ps : List Nat) (r : List T3 × List Int), Rn su ne ps r → Rn su ne (ps ++ is) (is.foldl (one su ne) r)
  | [], _, ps, r, h => by rw [List.append_nil]; exact h
  | i :: is, hw, ps, r, h => by
    rw [List.foldl_cons, show ps ++ i :: is = (ps ++ [i]) ++ is by simp]
    refine run_rn hs is (fun j hj => hw j (by simp [hj])) (ps ++ [i]) _ ?_
    have hI := one_in (ne := ne) (i := i) h.len h.nn (hw i (by simp))
    obtain ⟨new, h1, h1l, h2, h3, h4⟩ := hI.new
    refine ⟨hI.len.trans h.len, hI.nn, ?_, fun t ht => ?_, fun k => ?_⟩
    · show (List.foldl (stp i) (r.1, r.2, cnt2 ne i) (List.filter (al su (day2 ne i)) (odS su))).1.length ≤ _
      rw [h1, List.length_append, List.length_append, List.length_singleton, Nat.add_mul, Nat.one_mul]
      have := List.length_filter_le (al su (day2 ne i)) (odS su)
      rw [odS_len] at this
      have := h.rl
      simp only at *
      omega
    · have ht : t ∈ r.1 ++ new := by rw [← show _ = r.1 ++ new from h1]; exact ht
      rcases List.mem_append.mp ht with ht | ht
      · obtain ⟨j, a1, a2⟩ := h.row t ht
        exact ⟨j, by simp [a1], a2⟩
      · obtain ⟨a1, a2, k, a3, a4⟩ := h2 t ht
        rw [List.mem_filter] at a3
        exact ⟨i, by simp, k, odS_mem.mp a3.1, a1, a4, a2, a3.2⟩
    · show (List.foldl (stp i) (r.1, r.2, cnt2 ne i) (List.filter (al su (day2 ne i)) (odS su))).2.1.getD k 0 = cnt3 su k - tot (atS k) (List.foldl (stp i) (r.1, r.2, cnt2 ne i) (List.filter (al su (day2 ne i)) (odS su))).1
      rw [h3 k, h1, tot_app]
      show r.2.getD k 0 - tot (atS k) new = cnt3 su k - (tot (atS k) r.1 + tot (atS k) new)
      rw [h.left k]
      omega
theorem rn0 {su : List T3} {ne : List T2} (hs : ∀ x ∈ su, 0 ≤ x.2.2) : Rn su ne [] ([], su.map (·.2.2)) := by
  refine ⟨by simp, fun k => ?_, by simp, by simp, fun k => by rw [getD_map_cnt]; simp [tot]⟩
  show 0 ≤ (su.map (·.2.2)).getD k 0
  rw [getD_map_cnt]
  unfold cnt3
  rw [List.getD_eq_getElem?_getD]
  cases h : su[k]? with
  | none => exact Int.le_refl _
  | some x => exact hs x (List.mem_of_getElem? h)
theorem rn {su : List T3} {ne : List T2} (hs : ∀ x ∈ su, 0 ≤ x.2.2) (is : List Nat) (hw : ∀ i ∈ is, 0 ≤ cnt2 ne i) : Rn su ne is (run su ne is) := run_rn hs is hw [] _ (rn0 hs)

/-! ### a serving that serves all needs is found -/
theorem split_le {f : Nat → Int} (d : Int) : ∀ {s : List Nat}, s.Pairwise (fun a b => f a ≤ f b) → ∃ a b, s = a ++ b ∧ (∀ k ∈ a, f k < d) ∧ ∀ k ∈ b, d ≤ f k
  | [], _ => ⟨[], [], rfl, by simp, by simp⟩
  | k :: s, h => by
    rw [List.pairwise_cons] at h
    by_cases hk : f k < d
    · obtain ⟨a, b, e, h1, h2⟩ := split_le d h.2
      refine ⟨k :: a, b, by rw [e]; rfl, fun j hj => ?_, h2⟩
      rcases List.mem_cons.mp hj with rfl | hj
      · exact hk
      · exact h1 j hj
    · refine ⟨[], k :: s, rfl, by simp, fun j hj => ?_⟩
      rcases List.mem_cons.mp hj with rfl | hj
      · omega
      · have := h.1 j hj
        omega
/-- x i k pieces of the supply k for the need i can be given -/
structure Can (su : List T3) (ne : List T2) (is : List Nat) (x : Nat → Nat → Int) : Prop where
  nn : ∀ i k, 0 ≤ x i k
  al : ∀ i ∈ is, ∀ k, x i k ≠ 0 → k < su.length ∧ al su (day2 ne i) k = true
  sup : ∀ k, k < su.length → sm (fun i => x i k) is ≤ cnt3 su k
  need : ∀ i ∈ is, cnt2 ne i ≤ sm (x i) (List.range su.length)
def Df (su : List T3) (x : Nat → Nat → Int) (ps : List Nat) (d : Int) (L : Nat → Int) (k : Nat) : Int := if al su d k = true then L k - (cnt3 su k - sm (fun i => x i k) ps) else 0
structure Iv (su : List T3) (ne : List T2) (x : Nat → Nat → Int) (ps : List Nat) (d : Int) (st : List T3 × List Int) : Prop where
  len : st.2.length = su.length
  nn : ∀ k, 0 ≤ st.2.getD k 0
  pd : ∀ i ∈ ps, day2 ne i ≤ d
  new : ∀ k, k < su.length → d < fst3 su k → st.2.getD k 0 = cnt3 su k
  df : ∀ p s, odS su = p ++ s → 0 ≤ sm (Df su x ps d fun k => st.2.getD k 0) s
  tt : tot any st.1 = sm (cnt2 ne) ps
theorem Iv.later {su : List T3} {ne : List T2} {x : Nat → Nat → Int} {ps : List Nat} {d d2 : Int} {st : List T3 × List Int} (h : Iv su ne x ps d st) (hd : d ≤ d2)
    (hx : ∀ i ∈ ps, ∀ k, x i k ≠ 0 → al su (day2 ne i) k = true) : Iv su ne x ps d2 st := by
  refine ⟨h.len, h.nn, fun i hi => Int.le_trans (h.pd i hi) hd, fun k hk h2 => h.new k hk (by omega), fun p s hod => ?_, h.tt⟩
  have hpw : s.Pairwise fun a b => last3 su a ≤ last3 su b := by
    have := ord_le (last3 su) (List.range su.length)
    rw [← show odS su = ord (last3 su) (List.range su.length) from rfl, hod, List.pairwise_append] at this
    exact this.2.1
  obtain ⟨a, b, e, h1, h2⟩ := split_le d2 hpw
  have hb := h.df (p ++ a) b (by rw [hod, e, List.append_assoc])
  have hlen : ∀ k ∈ b, k < su.length := fun k hk => odS_mem.mp (by rw [hod, e]; simp [hk])
  rw [e, sm_app]
  have ha0 : sm (Df su x ps d2 fun k => st.2.getD k 0) a = 0 := by
    refine (sm_congr (g := fun _ => 0) fun k hk => ?_).trans sm_zero
    have := h1 k hk
    unfold Df al
    rw [if_neg]
    simp only [decide_eq_true_eq]
    omega
  have hbe : sm (Df su x ps d2 fun k => st.2.getD k 0) b = sm (Df su x ps d fun k => st.2.getD k 0) b := by
    refine sm_congr fun k hk => ?_
    have h3 := h2 k hk
    unfold Df al
    simp only [decide_eq_true_eq]
    by_cases h4 : fst3 su k ≤ d
    · rw [if_pos (by omega), if_pos (by omega)]
    · rw [if_neg (show ¬ (fst3 su k ≤ d ∧ d ≤ last3 su k) from fun h => h4 h.1)]
      split
      · rw [h.new k (hlen k hk) (by omega), show sm (fun i => x i k) ps = 0 from (sm_congr (g := fun _ => 0) fun i hi => ?_).trans sm_zero]
        · omega
        · by_cases h5 : x i k = 0
          · exact h5
          · have h6 := hx i hi k h5
            have h7 := h.pd i hi
            simp only [al, decide_eq_true_eq] at h6
            omega
      · rfl
  omega
theorem Iv.step {su : List T3} {ne : List T2} {x : Nat → Nat → Int} {ps : List Nat} {i : Nat} {st : List T3 × List Int} (h : Iv su ne x ps (day2 ne i) st) (hw : 0 ≤ cnt2 ne i)
    (hn : ∀ i k, 0 ≤ x i k) (hal : ∀ k, x i k ≠ 0 → k < su.length ∧ al su (day2 ne i) k = true) (hsup : ∀ k, k < su.length → sm (fun i => x i k) ps + x i k ≤ cnt3 su k)
    (hneed : cnt2 ne i ≤ sm (x i) (List.range su.length)) : Iv su ne x (ps ++ [i]) (day2 ne i) (one su ne st i) := by
  have hI := one_in (ne := ne) (i := i) h.len h.nn hw
  have hod : (odS su).Nodup := ord_rg_nodup
  have hks : ((odS su).filter (al su (day2 ne i))).Nodup := hod.filter _
  -- what the supplies of the day hold
  have hA : sm (x i) ((odS su).filter (al su (day2 ne i))) = sm (x i) (List.range su.length) := by
    rw [sm_filter, ← sm_perm (ord_perm (last3 su) (List.range su.length))]
    refine sm_congr fun k _ => ?_
    split
    · rfl
    · rename_i hk
      by_cases h5 : x i k = 0
      · exact h5.symm
      · exact absurd (hal k h5).2 hk
  have hD : ∀ s p, odS su = p ++ s → sm (fun k => cnt3 su k - sm (fun i => x i k) ps) (s.filter (al su (day2 ne i))) ≤ sm (fun k => st.2.getD k 0) (s.filter (al su (day2 ne i))) := fun s p e => by
    have h1 := h.df p s e
    have h2 : sm (Df su x ps (day2 ne i) fun k => st.2.getD k 0) s = sm (fun k => st.2.getD k 0 - (cnt3 su k - sm (fun i => x i k) ps)) (s.filter (al su (day2 ne i))) := by rw [sm_filter]; rfl
    rw [h2, sm_sub] at h1
    omega
  have hR : ∀ k ∈ (odS su).filter (al su (day2 ne i)), x i k ≤ cnt3 su k - sm (fun i => x i k) ps := fun k hk => by
    have := hsup k (odS_mem.mp (List.mem_filter.mp hk).1)
    omega
  have hfull : (((odS su).filter (al su (day2 ne i))).foldl (stp i) (st.1, st.2, cnt2 ne i)).2.2 = 0 := by
    refine hI.full hks ?_
    have h1 := hD (odS su) [] rfl
    have h2 : sm (x i) _ ≤ sm (fun k => cnt3 su k - sm (fun i => x i k) ps) _ := sm_le hR
    show cnt2 ne i ≤ sm (fun k => st.2.getD k 0) _
    omega
  refine ⟨hI.len.trans h.len, hI.nn, fun j hj => ?_, fun k hk h2 => ?_, fun p s e => ?_, ?_⟩
  · rcases List.mem_append.mp hj with hj | hj
    · exact h.pd j hj
    · rw [List.mem_singleton] at hj
      subst hj
      exact Int.le_refl _
  · refine (hI.out ?_).trans (h.new k hk h2)
    intro hk2
    have := (List.mem_filter.mp hk2).2
    simp only [al, decide_eq_true_eq] at this
    omega
  · have h2 : sm (Df su x (ps ++ [i]) (day2 ne i) fun k => (one su ne st i).2.getD k 0) s = sm (fun k => (one su ne st i).2.getD k 0 - (cnt3 su k - sm (fun i => x i k) (ps ++ [i]))) (s.filter (al su (day2 ne i))) := by rw [sm_filter]; rfl
    have h3 : ∀ k, cnt3 su k - sm (fun i => x i k) (ps ++ [i]) = (cnt3 su k - sm (fun i => x i k) ps) - x i k := fun k => by
      rw [sm_app]
      simp only [sm]
      omega
    rw [h2, sm_sub, sm_congr (fun k _ => h3 k), sm_sub]
    have hx0 : 0 ≤ sm (x i) (s.filter (al su (day2 ne i))) := sm_nn fun k _ => hn i k
    have hDs := hD s p e
    have hDa := hD (odS su) [] rfl
    have hfe : (odS su).filter (al su (day2 ne i)) = p.filter (al su (day2 ne i)) ++ s.filter (al su (day2 ne i)) := by rw [e, List.filter_append]
    have hsf := suf (i := i) (p := p.filter (al su (day2 ne i))) (s := s.filter (al su (day2 ne i))) (a := (st.1, st.2, cnt2 ne i)) (by rw [← hfe]; exact hks) (fun k hk => by rw [← hfe] at hk; rw [h.len]; exact odS_mem.mp (List.mem_filter.mp hk).1) h.nn hw
    rw [← hfe] at hsf
    have hsf : sm (fun k => st.2.getD k 0) (s.filter (al su (day2 ne i))) ≤ sm (fun k => (one su ne st i).2.getD k 0) (s.filter (al su (day2 ne i))) ∨ sm (fun k => st.2.getD k 0) ((odS su).filter (al su (day2 ne i))) - cnt2 ne i ≤ sm (fun k => (one su ne st i).2.getD k 0) (s.filter (al su (day2 ne i))) := hsf
    rcases hsf with h4 | h4
    · omega
    · have h5 : sm (fun k => cnt3 su k - sm (fun i => x i k) ps - x i k) (s.filter (al su (day2 ne i))) ≤ sm (fun k => cnt3 su k - sm (fun i => x i k) ps - x i k) ((odS su).filter (al su (day2 ne i))) := by
        refine sm_sublist ?_ fun k hk => by have := hR k hk; omega
        rw [hfe]
        exact List.sublist_append_right _ _
      rw [sm_sub, sm_sub (fun k => cnt3 su k - sm (fun i => x i k) ps)] at h5
      omega
  · obtain ⟨new, h1, _, _, _, h6⟩ := hI.new
    show tot any (((odS su).filter (al su (day2 ne i))).foldl (stp i) (st.1, st.2, cnt2 ne i)).1 = _
    rw [h1, tot_app, h6, hfull, sm_app]
    show tot any st.1 + (cnt2 ne i - 0) = _
    rw [h.tt]
    simp only [sm]
    omega
theorem run_full {su : List T3} {ne : List T2} {x : Nat → Nat → Int} : ∀ (is ps : List Nat) (d : Int) (st : List T3 × List Int), Can su ne (ps ++ is) x → Iv su ne x ps d st → (∀ i ∈ is, 0 ≤ cnt2 ne i) → (∀ i ∈ is, d ≤ day2 ne i) → is.Pairwise (fun a b => day2 ne a ≤ day2 ne b) → tot any (is.foldl (one su ne) st).1 = sm (cnt2 ne) (ps ++ is)
  | [], ps, d, st, _, h, _, _, _ => by rw [List.append_nil]; exact h.tt
  | i :: is, ps, d, st, hc, h, hw, hd, hp => by
    rw [List.pairwise_cons] at hp
    rw [List.foldl_cons, show ps ++ i :: is = (ps ++ [i]) ++ is by simp]
    have h1 := h.later (hd i (by simp)) fun j hj k hk => (hc.al j (by simp [hj]) k hk).2
    have h2 := h1.step (hw i (by simp)) hc.nn (hc.al i (by simp)) (fun k hk => by
      have h3 := hc.sup k hk
      rw [sm_app] at h3
      have h4 : 0 ≤ sm (fun i => x i k) is := sm_nn fun j _ => hc.nn j k
      simp only [sm] at h3
      omega) (hc.need i (by simp))
    exact run_full is (ps ++ [i]) _ _ (by rw [List.append_assoc]; exact hc) h2 (fun j hj => hw j (by simp [hj])) (fun j hj => hp.1 j hj) hp.2
theorem full {su : List T3} {ne : List T2} {x : Nat → Nat → Int} (hs : ∀ y ∈ su, 0 ≤ y.2.2) (hn : ∀ y ∈ ne, 0 ≤ y.2) (h : Can su ne (odN ne) x) : tot any (run su ne (odN ne)).1 = sm (cnt2 ne) (List.range ne.length) := by
  have hr := rn0 (ne := ne) hs
  have hw : ∀ i, 0 ≤ cnt2 ne i := fun i => by
    unfold cnt2
    rw [List.getD_eq_getElem?_getD]
    cases h : ne[i]? with
    | none => exact Int.le_refl _
    | some x => exact hn x (List.mem_of_getElem? h)
  cases hod : odN ne with
  | nil =>
    have := sm_perm (f := cnt2 ne) (ord_perm (day2 ne) (List.range ne.length))
    rw [show ord (day2 ne) (List.range ne.length) = [] from hod] at this
    rw [← this]
    rfl
  | cons i is =>
    have hpw := ord_le (day2 ne) (List.range ne.length)
    rw [show ord (day2 ne) (List.range ne.length) = i :: is from hod] at hpw
    have h1 := run_full (i :: is) [] (day2 ne i) ([], su.map (·.2.2)) (by rw [← hod]; exact h) ⟨hr.len, hr.nn, by simp, fun k _ _ => by rw [hr.left k]; simp [tot], fun p s e => ?_, rfl⟩ (fun j _ => hw j) (fun j hj => ?_) hpw
    · rw [run, h1, List.nil_append, ← hod]
      exact sm_perm (ord_perm _ _)
    · refine sm_nn fun k _ => ?_
      unfold Df
      split
      · show 0 ≤ (([], su.map (·.2.2)) : List T3 × List Int).2.getD k 0 - (cnt3 su k - sm (fun i => x i k) [])
        rw [hr.left k]
        simp [tot, sm]
      · exact Int.le_refl _
    · rcases List.mem_cons.mp hj with rfl | hj
      · exact Int.le_refl _
      · exact (List.pairwise_cons.mp hpw).1 j hj

/-! ### a part of what is served can be served -/
theorem sm_map (f : Nat → Int) (g : Nat → Nat) (l : List Nat) : sm f (l.map g) = sm (fun k => f (g k)) l := by
  induction l with
  | nil => rfl
  | cons k l ih => rw [List.map_cons, sm, sm, ih]
theorem sm_getD {f : Nat → Int} {l : List Nat} : sm (fun j => f (l.getD j 0)) (List.range l.length) = sm f l := by
  induction l generalizing f with
  | nil => rfl
  | cons k l ih =>
    rw [List.length_cons, List.range_succ_eq_map, sm, sm, sm_map]
    have : sm (fun j => f ((k :: l).getD j.succ 0)) (List.range l.length) = sm (fun j => f (l.getD j 0)) (List.range l.length) := sm_congr fun j _ => rfl
    rw [this, ih]
    rfl
theorem rg_getD {l : List Nat} : (List.range l.length).map (fun j => l.getD j 0) = l := by
  apply List.ext_getElem?
  intro i
  rw [List.getElem?_map]
  by_cases hi : i < l.length
  · rw [List.getElem?_range hi, Option.map_some, List.getD_eq_getElem?_getD, List.getElem?_eq_getElem hi]; rfl
  · rw [List.getElem?_eq_none (by simpa using hi), List.getElem?_eq_none (by omega)]; rfl
theorem tot_is {p : T3 → Bool} {is : List Nat} (hn : is.Nodup) : ∀ {r : List T3}, (∀ t ∈ r, 0 ≤ t.2.2) → sm (fun i => tot (fun t => atP i t && p t) r) is ≤ tot p r
  | [], _ => by rw [show sm (fun i => tot (fun t => atP i t && p t) []) is = sm (fun _ => 0) is from rfl, sm_zero]; exact Int.le_refl _
  | t :: r, h => by
    have ih := tot_is (p := p) hn (r := r) fun s hs => h s (by simp [hs])
    have h0 := h t (by simp)
    have e1 : sm (fun i => tot (fun t => atP i t && p t) (t :: r)) is = sm (fun i => if (atP i t && p t) = true then t.2.2 else 0) is + sm (fun i => tot (fun t => atP i t && p t) r) is := by
      rw [← sm_add]
      exact sm_congr fun k _ => rfl
    rw [e1, tot]
    have e2 : sm (fun i => if (atP i t && p t) = true then t.2.2 else 0) is ≤ if p t = true then t.2.2 else 0 := by
      clear e1 ih h
      induction is with
      | nil => rw [sm]; split <;> omega
      | cons k is ih =>
        rw [List.nodup_cons] at hn
        rw [sm]
        by_cases hk : (atP k t && p t) = true
        · have : sm (fun i => if (atP i t && p t) = true then t.2.2 else 0) is = 0 := (sm_congr (g := fun _ => 0) fun j hj => by
            rw [if_neg]
            simp only [atP, Bool.and_eq_true, decide_eq_true_eq] at hk ⊢
            intro h
            have : j = k := by omega
            exact hn.1 (this ▸ hj)).trans sm_zero
          rw [this, if_pos hk, if_pos (by simp only [Bool.and_eq_true] at hk; exact hk.2)]
          omega
        · rw [if_neg hk]
          have := ih hn.2
          omega
    omega
def got (su : List T3) (ne : List T2) (i : Nat) : Int := tot (atP i) (run su ne (odN ne)).1
def cutN (su : List T3) (ne : List T2) (is : List Nat) : List T2 := is.map fun i => (day2 ne i, got su ne i)
theorem cutN_get {su : List T3} {ne : List T2} {is : List Nat} {j : Nat} (hj : j < is.length) : (cutN su ne is).getD j z2 = (day2 ne (is.getD j 0), got su ne (is.getD j 0)) := by
  unfold cutN
  rw [List.getD_eq_getElem?_getD, List.getD_eq_getElem?_getD, List.getElem?_map, List.getElem?_eq_getElem hj]
  rfl
theorem cut_can {su : List T3} {ne : List T2} (hs : ∀ y ∈ su, 0 ≤ y.2.2) (hw : ∀ i, 0 ≤ cnt2 ne i) {is : List Nat} (hn : is.Nodup) :
    Can su (cutN su ne is) (odN (cutN su ne is)) fun j k => if j < is.length then tot (fun t => atP (is.getD j 0) t && atS k t) (run su ne (odN ne)).1 else 0 := by
  have hr := rn (ne := ne) hs (odN ne) fun i _ => hw i
  have hrn : ∀ t ∈ (run su ne (odN ne)).1, 0 ≤ t.2.2 := fun t ht => by
    obtain ⟨_, _, _, _, _, _, h, _⟩ := hr.row t ht
    omega
  have hcl : (cutN su ne is).length = is.length := by rw [cutN, List.length_map]
  refine ⟨fun j k => ?_, fun j hj k hx => ?_, fun k hk => ?_, fun j hj => ?_⟩
  · split
    · exact tot_nn hrn
    · exact Int.le_refl _
  · rw [odN_mem, hcl] at hj
    simp only [if_pos hj] at hx
    have : ∃ t ∈ (run su ne (odN ne)).1, (atP (is.getD j 0) t && atS k t) = true := by
      refine Classical.byContradiction fun hno => hx (tot_none fun t ht => ?_)
      cases hc : (atP (is.getD j 0) t && atS k t) with
      | false => rfl
      | true => exact absurd ⟨t, ht, hc⟩ hno
    obtain ⟨t, ht, hc⟩ := this
    obtain ⟨i, _, k2, h1, h2, h3, _, h5⟩ := hr.row t ht
    simp only [atP, atS, Bool.and_eq_true, decide_eq_true_eq] at hc
    have e1 : k2 = k := by omega
    have e2 : i = is.getD j 0 := by omega
    subst e1
    refine ⟨h1, ?_⟩
    rw [show day2 (cutN su ne is) j = day2 ne (is.getD j 0) by unfold day2; rw [cutN_get hj]; rfl, ← e2]
    exact h5
  · have e1 : sm (fun j => if j < is.length then tot (fun t => atP (is.getD j 0) t && atS k t) (run su ne (odN ne)).1 else 0) (odN (cutN su ne is)) = sm (fun i => tot (fun t => atP i t && atS k t) (run su ne (odN ne)).1) is := by
      rw [show odN (cutN su ne is) = ord (day2 (cutN su ne is)) (List.range (cutN su ne is).length) from rfl, sm_perm (ord_perm _ _), hcl, ← sm_getD (l := is)]
      exact sm_congr fun j hj => if_pos (List.mem_range.mp hj)
    have h1 := tot_is (p := atS k) hn hrn
    have h2 := hr.left k
    have h3 := hr.nn k
    omega
  · rw [odN_mem, hcl] at hj
    rw [show cnt2 (cutN su ne is) j = got su ne (is.getD j 0) by unfold cnt2; rw [cutN_get hj]]
    have e1 : sm (fun k => if j < is.length then tot (fun t => atP (is.getD j 0) t && atS k t) (run su ne (odN ne)).1 else 0) (List.range su.length) = got su ne (is.getD j 0) := by
      rw [sm_congr (g := fun k => tot (fun t => atP (is.getD j 0) t && atS k t) (run su ne (odN ne)).1) fun k _ => if_pos hj]
      exact tot_ks List.nodup_range fun t ht => by
        obtain ⟨_, _, k, h1, _, h2, _⟩ := hr.row t ht
        exact ⟨k, List.mem_range.mpr h1, h2⟩
    show _ ≤ sm (fun k => if j < is.length then tot (fun t => atP (is.getD j 0) t && atS k t) (run su ne (odN ne)).1 else 0) _
    omega
theorem got_nn {su : List T3} {ne : List T2} (hs : ∀ y ∈ su, 0 ≤ y.2.2) (hw : ∀ i, 0 ≤ cnt2 ne i) (i : Nat) : 0 ≤ got su ne i :=
  tot_nn fun t ht => by
    obtain ⟨_, _, _, _, _, _, h, _⟩ := (rn (ne := ne) hs (odN ne) fun i _ => hw i).row t ht
    omega
theorem cut_full {su : List T3} {ne : List T2} (hs : ∀ y ∈ su, 0 ≤ y.2.2) (hw : ∀ i, 0 ≤ cnt2 ne i) {is : List Nat} (hn : is.Nodup) : tot any (run su (cutN su ne is) (odN (cutN su ne is))).1 = sm (cnt2 (cutN su ne is)) (List.range (cutN su ne is).length) :=
  full hs (fun y hy => by
    obtain ⟨i, _, rfl⟩ := List.mem_map.mp hy
    exact got_nn hs hw i) (cut_can hs hw hn)
/-! ### the needs up to a day -/
theorem stp_rows {i j : Nat} : ∀ (ks : List Nat) {r r2 : List T3} {l : List Int} {w : Int}, (ks.foldl (stp i) (r, l, w)).2 = (ks.foldl (stp j) (r2, l, w)).2
  | [], _, _, _, _ => rfl
  | k :: ks, r, r2, l, w => by
    rw [List.foldl_cons, List.foldl_cons]
    unfold stp
    simp only []
    split
    · exact stp_rows ks
    · exact stp_rows ks
theorem run_left {su : List T3} {ne ne2 : List T2} : ∀ {is js : List Nat} {st st2 : List T3 × List Int}, st.2 = st2.2 → is.map (fun i => (day2 ne i, cnt2 ne i)) = js.map (fun i => (day2 ne2 i, cnt2 ne2 i)) → (is.foldl (one su ne) st).2 = (js.foldl (one su ne2) st2).2
  | [], [], _, _, h, _ => h
  | [], _ :: _, _, _, _, h => by simp at h
  | _ :: _, [], _, _, _, h => by simp at h
  | i :: is, j :: js, st, st2, h, he => by
    simp only [List.map_cons, List.cons.injEq, Prod.mk.injEq] at he
    rw [List.foldl_cons, List.foldl_cons]
    refine run_left ?_ he.2
    unfold one
    rw [he.1.1, he.1.2, h]
    exact congrArg Prod.fst (stp_rows _)
theorem run_new {su : List T3} {ne : List T2} : ∀ (is : List Nat) (st : List T3 × List Int), st.2.length = su.length → (∀ k, 0 ≤ st.2.getD k 0) → (∀ i ∈ is, 0 ≤ cnt2 ne i) → ∃ new, (is.foldl (one su ne) st).1 = st.1 ++ new ∧ ∀ t ∈ new, ∃ i ∈ is, t.1 = (i : Int)
  | [], st, _, _, _ => ⟨[], by simp, by simp⟩
  | i :: is, st, hl, h0, hw => by
    have hI := one_in (ne := ne) (i := i) hl h0 (hw i (by simp))
    obtain ⟨new, h1, _, h2, _⟩ := hI.new
    obtain ⟨new2, h3, h4⟩ := run_new is (one su ne st i) (hI.len.trans hl) hI.nn fun j hj => hw j (by simp [hj])
    refine ⟨new ++ new2, ?_, fun t ht => ?_⟩
    · rw [List.foldl_cons, h3, show (one su ne st i).1 = st.1 ++ new from h1, List.append_assoc]
    · rcases List.mem_append.mp ht with ht | ht
      · exact ⟨i, by simp, (h2 t ht).1⟩
      · obtain ⟨j, hj, e⟩ := h4 t ht
        exact ⟨j, by simp [hj], e⟩
def upTo (ne : List T2) (d : Int) : List T2 := ne.filter fun y => decide (y.1 ≤ d)
theorem filter_rg {α : Type} (p : α → Bool) (x0 : α) (l : List α) : l.filter p = ((List.range l.length).filter fun i => p (l.getD i x0)).map fun i => l.getD i x0 := by
  induction l with
  | nil => rfl
  | cons x l ih =>
    rw [List.length_cons, List.range_succ_eq_map, List.filter_cons, List.filter_cons, List.filter_map, ih]
    have e1 : (x :: l).getD 0 x0 = x := rfl
    have e2 : ((fun i => p ((x :: l).getD i x0)) ∘ Nat.succ) = fun i => p (l.getD i x0) := rfl
    rw [e1, e2]
    split
    · rw [List.map_cons, List.map_map]; rfl
    · rw [List.map_map]; rfl
theorem upTo_left {su : List T3} {ne : List T2} (hs : ∀ y ∈ su, 0 ≤ y.2.2) (hn : ∀ y ∈ ne, 0 ≤ y.2) (d : Int) (k : Nat) :
    tot (atS k) (run su (upTo ne d) (odN (upTo ne d))).1 = tot (fun t => atS k t && decide (day2 ne t.1.toNat ≤ d)) (run su ne (odN ne)).1 := by
  have hw : ∀ (ne : List T2), (∀ y ∈ ne, 0 ≤ y.2) → ∀ i, 0 ≤ cnt2 ne i := fun ne hn i => by
    unfold cnt2
    rw [List.getD_eq_getElem?_getD]
    cases h : ne[i]? with
    | none => exact Int.le_refl _
    | some x => exact hn x (List.mem_of_getElem? h)
  have hn2 : ∀ y ∈ upTo ne d, 0 ≤ y.2 := fun y hy => hn y (List.mem_filter.mp hy).1
  let ks := (List.range ne.length).filter fun i => decide (day2 ne i ≤ d)
  have hks : upTo ne d = ks.map fun i => ne.getD i z2 := filter_rg _ z2 ne
  have hkl : (upTo ne d).length = ks.length := by rw [hks, List.length_map]
  have hget : ∀ j, j < ks.length → (upTo ne d).getD j z2 = ne.getD (ks.getD j 0) z2 := fun j hj => by
    have e : ks.getD j 0 = ks[j] := by rw [List.getD_eq_getElem?_getD, List.getElem?_eq_getElem hj]; rfl
    rw [hks, e, List.getD_eq_getElem?_getD, List.getElem?_map, List.getElem?_eq_getElem hj]
    rfl
  have hasc : ks.Pairwise (· < ·) := List.pairwise_lt_range.filter _
  have hA : (odN (upTo ne d)).map (fun j => ks.getD j 0) = (odN ne).filter fun i => decide (day2 ne i ≤ d) := by
    rw [odN, odN, ← ord_filter]
    symm
    refine ord_uniq ?_ ?_
    · refine ((ord_perm _ _).map _).trans ?_
      rw [hkl, rg_getD]
    · rw [List.pairwise_map]
      refine (ord_pw _ _).imp_of_mem fun {a b} ha hb hab => ?_
      rw [ord_mem, List.mem_range, hkl] at ha hb
      simp only [kle, decide_eq_true_eq] at hab ⊢
      rw [show day2 (upTo ne d) a = day2 ne (ks.getD a 0) by unfold day2; rw [hget a ha], show day2 (upTo ne d) b = day2 ne (ks.getD b 0) by unfold day2; rw [hget b hb]] at hab
      rcases hab with hab | ⟨h1, h2⟩
      · exact .inl hab
      · refine .inr ⟨h1, ?_⟩
        rcases Nat.lt_or_eq_of_le h2 with h2 | h2
        · have h3 := List.pairwise_iff_getElem.mp hasc a b ha hb h2
          rw [List.getD_eq_getElem?_getD, List.getD_eq_getElem?_getD, List.getElem?_eq_getElem ha, List.getElem?_eq_getElem hb]
          exact Nat.le_of_lt h3
        · rw [h2]
          exact Nat.le_refl _
  have hR1 := rn (ne := upTo ne d) hs (odN (upTo ne d)) fun i _ => hw _ hn2 i
  have hR2 := rn (ne := ne) hs ((odN ne).filter fun i => decide (day2 ne i ≤ d)) fun i _ => hw _ hn i
  have hleft : (run su (upTo ne d) (odN (upTo ne d))).2 = (run su ne ((odN ne).filter fun i => decide (day2 ne i ≤ d))).2 := by
    refine run_left rfl ?_
    rw [← hA, List.map_map]
    refine List.map_congr_left fun j hj => ?_
    rw [odN_mem, hkl] at hj
    show (day2 (upTo ne d) j, cnt2 (upTo ne d) j) = (day2 ne (ks.getD j 0), cnt2 ne (ks.getD j 0))
    unfold day2 cnt2
    rw [hget j hj]
  have hsp : odN ne = (odN ne).filter (fun i => decide (day2 ne i ≤ d)) ++ (odN ne).filter (fun i => !decide (day2 ne i ≤ d)) := by
    have hp : ∀ {l : List Nat}, l.Pairwise (fun a b => day2 ne a ≤ day2 ne b) → l = l.filter (fun i => decide (day2 ne i ≤ d)) ++ l.filter (fun i => !decide (day2 ne i ≤ d)) := by
      intro l h
      induction l with
      | nil => rfl
      | cons i l ih =>
        rw [List.pairwise_cons] at h
        by_cases hi : day2 ne i ≤ d
        · rw [List.filter_cons, List.filter_cons, if_pos (decide_eq_true hi), if_neg (by simp [hi]), List.cons_append, ← ih h.2]
        · have h1 : l.filter (fun i => decide (day2 ne i ≤ d)) = [] := by
            rw [List.filter_eq_nil_iff]
            intro j hj
            have := h.1 j hj
            simp
            omega
          have h2 : l.filter (fun i => !decide (day2 ne i ≤ d)) = l := by
            rw [List.filter_eq_self]
            intro j hj
            have := h.1 j hj
            simp
            omega
          rw [List.filter_cons, List.filter_cons, if_neg (by simp [hi]), if_pos (by simp [hi]), h1, h2]
          rfl
    exact hp (ord_le _ _)
  have hrun : (run su ne (odN ne)) = ((odN ne).filter (fun i => !decide (day2 ne i ≤ d))).foldl (one su ne) (run su ne ((odN ne).filter (fun i => decide (day2 ne i ≤ d)))) := by
    conv => lhs; rw [run, hsp, List.foldl_append]
    rfl
  obtain ⟨new, hn1, hn3⟩ := run_new ((odN ne).filter (fun i => !decide (day2 ne i ≤ d))) (run su ne ((odN ne).filter (fun i => decide (day2 ne i ≤ d)))) hR2.len hR2.nn fun i _ => hw _ hn i
  rw [hrun, hn1, tot_app, tot_none (r := new), Int.add_zero, tot_congr (q := atS k) (r := (run su ne ((odN ne).filter (fun i => decide (day2 ne i ≤ d)))).1)]
  · have h1 := hR1.left k
    have h2 := hR2.left k
    rw [hleft] at h1
    omega
  · intro t ht
    obtain ⟨i, hi, _, _, e, _⟩ := hR2.row t ht
    rw [List.mem_filter] at hi
    rw [e, Int.toNat_natCast, hi.2, Bool.and_true]
  · intro t ht
    obtain ⟨i, hi, e⟩ := hn3 t ht
    rw [List.mem_filter] at hi
    have h3 := hi.2
    simp only [Bool.not_eq_true'] at h3
    rw [e, Int.toNat_natCast, h3, Bool.and_false]

def m_is_between : MD Sto := fun ds s Q => ∃ (d : D) (a b : Int), ds = [d, .int a, .int b] ∧ okP d = true ∧ Q (.bl (btw d a b)) s

def w_is_between : WS Sto := (wRet true (wAndV (wCallB dIsi (wCons (wVar 0) (wCons (wC (.ty "int")) wNil))) (wAndV (wNotV (wCallB dIsi (wCons (wVar 0) (wCons (wC (.ty "bool")) wNil)))) (wChain (dIb fun i j => decide (i ≤ j)) (dIb fun i j => decide (i ≤ j)) (wVar 1) (wVar 0) (wVar 2)))))
theorem l_is_between : ∀ ds s Q, ds.length = P_is_between.length → m_is_between ds s Q → w_is_between { nx := fun _ s' => Q .non s', rt := Q } (Ld.start N_is_between.length ds) s := by
  rintro ds s Q hl ⟨d, a, b, rfl, hd, q⟩
  unfold w_is_between
  cases d with
  | int i =>
    walk_at "gi"
    all_goals
      have e : btw (.int i) a b = decide (a ≤ i ∧ i ≤ b) := rfl
      rw [e] at q
      first
        | (rw [show decide (i ≤ b) = decide (a ≤ i ∧ i ≤ b) by simp [*]]; exact q)
        | (rw [show decide (a ≤ i ∧ i ≤ b) = false by simp [*]] at q; exact q)
  | bl b => walk_at "gi"; exact q
  | non => walk_at "gi"; exact q
  | str x => walk_at "gi"; exact q
  | _ => simp [okP] at hd

section
variable {P : Program} {w : World} {K : PySem.W.Frag} {mg : Str → Option Value} {base : Heap} {z : Ad}
theorem b_is_between (T : Tx K mg z) {cdv : Value} {A : Around} {outer : List PySem.Env} {s : Shared} {H0 : Hp} {E : XK} (hr : Room (0) (A.deeper (envOfC "is_between" (defScope st_is_between) s.heap.objs.size z.a_is_between cdv))) {F H : Hp} {W : Addr → Prop} {h1 : ∀ a o, F a = some o → H a = some o} {h2 : ∃ s, (wldS K).Wd s W H} :
    ∃ t, SSs (cxD P w K mg base N_is_between "is_between" (defScope st_is_between) z.a_is_between cdv A outer s H0 E) (mkB K (wldS K) true F H W h1 h2) (defBody st_is_between) t (w_is_between) :=
  have hu := hr.units
  ⟨_, (ss_one (s_ret (se_and (se_isi T.b_isinstance (sa_cons (sv 0) (sa_cons (se_bltn T.b_int (by decide +kernel)) sa_nil))) (se_and (se_not (se_isi T.b_isinstance (sa_cons (sv 0) (sa_cons (se_bltn T.b_bool (by decide +kernel)) sa_nil)))) (se_one (se_chain op_le op_le rule_Ib rule_Ib (sv 1) (sv 0) (sv 2)))))))⟩
theorem ok_is_between (T : Tx K mg z) : FnOk P w K mg base CX0 1 z.a_is_between z.d_is_between P_is_between (spD K (wldS K) true 3 m_is_between) :=
  fun_okD T.f_is_between sc_is_between (wldS K) true m_is_between w_is_between (fun _ _ _ _ _ _ hr _ _ _ _ _ => b_is_between T hr) l_is_between
end
def m_is_row : MD Sto := fun ds s Q => ((∃ x, ds = [t3 x, .int 3]) ∨ (∃ x, ds = [t2 x, .int 2])) ∧ Q (.bl true) s

def w_is_row : WS Sto := (wRet true (wAndV (wCallB dIsiT (wCons (wVar 0) (wCons (wTup (wConsU (wC (.ty "list")) (wConsU (wC (.ty "tuple")) wNil))) wNil))) (wBin dEq (wCallB dLenA (wCons (wVar 0) wNil)) (wVar 1))))
theorem l_is_row : ∀ ds s Q, ds.length = P_is_row.length → m_is_row ds s Q → w_is_row { nx := fun _ s' => Q .non s', rt := Q } (Ld.start N_is_row.length ds) s := by
  rintro ds s Q hl ⟨⟨x, rfl⟩ | ⟨x, rfl⟩, q⟩
  all_goals
    unfold w_is_row
    walk_at "gi"
    exact q

section
variable {P : Program} {w : World} {K : PySem.W.Frag} {mg : Str → Option Value} {base : Heap} {z : Ad}
theorem b_is_row (T : Tx K mg z) {cdv : Value} {A : Around} {outer : List PySem.Env} {s : Shared} {H0 : Hp} {E : XK} (hr : Room (0) (A.deeper (envOfC "is_row" (defScope st_is_row) s.heap.objs.size z.a_is_row cdv))) {F H : Hp} {W : Addr → Prop} {h1 : ∀ a o, F a = some o → H a = some o} {h2 : ∃ s, (wldS K).Wd s W H} :
    ∃ t, SSs (cxD P w K mg base N_is_row "is_row" (defScope st_is_row) z.a_is_row cdv A outer s H0 E) (mkB K (wldS K) true F H W h1 h2) (defBody st_is_row) t (w_is_row) :=
  have hu := hr.units
  ⟨_, (ss_one (s_ret (se_and (se_isiT T.b_isinstance (sa_cons (sv 0) (sa_cons (se_tup (sa_consU (se_bltn T.b_list (by decide +kernel)) (sa_consU (se_bltn T.b_tuple (by decide +kernel)) sa_nil))) sa_nil))) (se_one (se_cmp (op_eqB hu) rule_eq (nobehind _ (by decide) (by decide)) (se_len T.b_len (sa_cons (sv 0) sa_nil)) (sv 1))))))⟩
theorem ok_is_row (T : Tx K mg z) : FnOk P w K mg base CX0 1 z.a_is_row z.d_is_row P_is_row (spD K (wldS K) true 2 m_is_row) :=
  fun_okD T.f_is_row sc_is_row (wldS K) true m_is_row w_is_row (fun _ _ _ _ _ _ hr _ _ _ _ _ => b_is_row T hr) l_is_row
end
def m_is_supply : MD Sto := fun ds s Q => ∃ x : T3, ds = [t3 x] ∧ (0 ≤ x.1 ∧ x.1 ≤ x.2.1 ∧ x.2.1 ≤ 99 ∧ 1 ≤ x.2.2 ∧ x.2.2 ≤ 999) ∧ Q (.bl true) s

def w_is_supply : WS Sto := (wSeq (wIf (wOr (wNot (wB (wCallF 2 m_is_row (wCons (wVar 0) (wCons (wC (.int 3)) wNil))))) (wOr (wNot (wB (wCallF 3 m_is_between (wCons (wBin dIx (wVar 0) (wC (.int 0))) (wCons (wC (.int 0)) (wCons (wC (.int 99)) wNil)))))) (wNot (wB (wCallF 3 m_is_between (wCons (wBin dIx (wVar 0) (wC (.int 1))) (wCons (wC (.int 0)) (wCons (wC (.int 99)) wNil))))))))
  (wRet true (wC (.bl false)))
  wNext)
  (wRet true (wAndV (wBin (dIb fun i j => decide (i ≤ j)) (wBin dIx (wVar 0) (wC (.int 0))) (wBin dIx (wVar 0) (wC (.int 1)))) (wCallF 3 m_is_between (wCons (wBin dIx (wVar 0) (wC (.int 2))) (wCons (wC (.int 1)) (wCons (wC (.int 999)) wNil)))))))
theorem l_is_supply : ∀ ds s Q, ds.length = P_is_supply.length → m_is_supply ds s Q → w_is_supply { nx := fun _ s' => Q .non s', rt := Q } (Ld.start N_is_supply.length ds) s := by
  rintro ds s Q hl ⟨x, rfl, ⟨h1, h2, h3, h4, h5⟩, q⟩
  have e1 : btw (.int x.1) 0 99 = true := decide_eq_true ⟨h1, by omega⟩
  have e2 : btw (.int x.2.1) 0 99 = true := decide_eq_true ⟨by omega, h3⟩
  have e3 : btw (.int x.2.2) 1 999 = true := decide_eq_true ⟨h4, h5⟩
  unfold w_is_supply
  walk_at "gi"
  refine ⟨.inl ⟨x, rfl⟩, ?_⟩
  walk_at "gi"
  refine ⟨_, _, _, rfl, rfl, ?_⟩
  rw [e1]
  walk_at "gi"
  refine ⟨_, _, _, rfl, rfl, ?_⟩
  rw [e2]
  walk_at "gi"
  · refine ⟨_, _, _, rfl, rfl, ?_⟩
    rw [e3]
    walk_at "gi"
    exact q
  · exact absurd h2 (by assumption)

section
variable {P : Program} {w : World} {K : PySem.W.Frag} {mg : Str → Option Value} {base : Heap} {z : Ad}
theorem b_is_supply (T : Tx K mg z) {cdv : Value} {A : Around} {outer : List PySem.Env} {s : Shared} {H0 : Hp} {E : XK} (hr : Room (1) (A.deeper (envOfC "is_supply" (defScope st_is_supply) s.heap.objs.size z.a_is_supply cdv))) {F H : Hp} {W : Addr → Prop} {h1 : ∀ a o, F a = some o → H a = some o} {h2 : ∃ s, (wldS K).Wd s W H} :
    ∃ t, SSs (cxD P w K mg base N_is_supply "is_supply" (defScope st_is_supply) z.a_is_supply cdv A outer s H0 E) (mkB K (wldS K) true F H W h1 h2) (defBody st_is_supply) t (w_is_supply) :=
  have hu := hr.units
  ⟨_, (ss_cons (s_if (st_w (sw_or (st_not (st_val (se_callF (ok_is_row T) (hr.mono (by decide)) T.g_is_row T.f_is_row.kp T.n_is_row (sa_cons (sv 0) (sa_cons se_int sa_nil))))) (sw_or (st_not (st_val (se_callF (ok_is_between T) (hr.mono (by decide)) T.g_is_between T.f_is_between.kp T.n_is_between (sa_cons (se_ix (sv 0) se_int) (sa_cons se_int (sa_cons (se_globI T.c_MOST_DAY) sa_nil)))))) (sw_or1 (st_not (st_val (se_callF (ok_is_between T) (hr.mono (by decide)) T.g_is_between T.f_is_between.kp T.n_is_between (sa_cons (se_ix (sv 0) se_int) (sa_cons se_int (sa_cons (se_globI T.c_MOST_DAY) sa_nil))))))))))
  (ss_one (s_ret se_bl))
  ss_nil)
  (ss_one (s_ret (se_and (se_cmp op_le rule_Ib (nobehind _ (by decide) (by decide)) (se_ix (sv 0) se_int) (se_ix (sv 0) se_int)) (se_one (se_callF (ok_is_between T) (hr.mono (by decide)) T.g_is_between T.f_is_between.kp T.n_is_between (sa_cons (se_ix (sv 0) se_int) (sa_cons se_int (sa_cons (se_globI T.c_MOST_COUNT) sa_nil)))))))))⟩
theorem ok_is_supply (T : Tx K mg z) : FnOk P w K mg base CX0 2 z.a_is_supply z.d_is_supply P_is_supply (spD K (wldS K) true 1 m_is_supply) :=
  fun_okD T.f_is_supply sc_is_supply (wldS K) true m_is_supply w_is_supply (fun _ _ _ _ _ _ hr _ _ _ _ _ => b_is_supply T hr) l_is_supply
end
def m_is_need : MD Sto := fun ds s Q => ∃ x : T2, ds = [t2 x] ∧ (0 ≤ x.1 ∧ x.1 ≤ 99 ∧ 1 ≤ x.2 ∧ x.2 ≤ 999) ∧ Q (.bl true) s

def w_is_need : WS Sto := (wRet true (wAndV (wCallF 2 m_is_row (wCons (wVar 0) (wCons (wC (.int 2)) wNil))) (wAndV (wCallF 3 m_is_between (wCons (wBin dIx (wVar 0) (wC (.int 0))) (wCons (wC (.int 0)) (wCons (wC (.int 99)) wNil)))) (wCallF 3 m_is_between (wCons (wBin dIx (wVar 0) (wC (.int 1))) (wCons (wC (.int 1)) (wCons (wC (.int 999)) wNil)))))))
theorem l_is_need : ∀ ds s Q, ds.length = P_is_need.length → m_is_need ds s Q → w_is_need { nx := fun _ s' => Q .non s', rt := Q } (Ld.start N_is_need.length ds) s := by
  rintro ds s Q hl ⟨x, rfl, ⟨h1, h2, h3, h4⟩, q⟩
  have e1 : btw (.int x.1) 0 99 = true := decide_eq_true ⟨h1, by omega⟩
  have e3 : btw (.int x.2) 1 999 = true := decide_eq_true ⟨h3, h4⟩
  unfold w_is_need
  walk_at "gi"
  refine ⟨.inr ⟨x, rfl⟩, ?_⟩
  walk_at "gi"
  refine ⟨_, _, _, rfl, rfl, ?_⟩
  rw [e1]
  walk_at "gi"
  refine ⟨_, _, _, rfl, rfl, ?_⟩
  rw [e3]
  walk_at "gi"
  exact q

section
variable {P : Program} {w : World} {K : PySem.W.Frag} {mg : Str → Option Value} {base : Heap} {z : Ad}
theorem b_is_need (T : Tx K mg z) {cdv : Value} {A : Around} {outer : List PySem.Env} {s : Shared} {H0 : Hp} {E : XK} (hr : Room (1) (A.deeper (envOfC "is_need" (defScope st_is_need) s.heap.objs.size z.a_is_need cdv))) {F H : Hp} {W : Addr → Prop} {h1 : ∀ a o, F a = some o → H a = some o} {h2 : ∃ s, (wldS K).Wd s W H} :
    ∃ t, SSs (cxD P w K mg base N_is_need "is_need" (defScope st_is_need) z.a_is_need cdv A outer s H0 E) (mkB K (wldS K) true F H W h1 h2) (defBody st_is_need) t (w_is_need) :=
  have hu := hr.units
  ⟨_, (ss_one (s_ret (se_and (se_callF (ok_is_row T) (hr.mono (by decide)) T.g_is_row T.f_is_row.kp T.n_is_row (sa_cons (sv 0) (sa_cons se_int sa_nil))) (se_and (se_callF (ok_is_between T) (hr.mono (by decide)) T.g_is_between T.f_is_between.kp T.n_is_between (sa_cons (se_ix (sv 0) se_int) (sa_cons se_int (sa_cons (se_globI T.c_MOST_DAY) sa_nil)))) (se_one (se_callF (ok_is_between T) (hr.mono (by decide)) T.g_is_between T.f_is_between.kp T.n_is_between (sa_cons (se_ix (sv 0) se_int) (sa_cons se_int (sa_cons (se_globI T.c_MOST_COUNT) sa_nil)))))))))⟩
theorem ok_is_need (T : Tx K mg z) : FnOk P w K mg base CX0 2 z.a_is_need z.d_is_need P_is_need (spD K (wldS K) true 1 m_is_need) :=
  fun_okD T.f_is_need sc_is_need (wldS K) true m_is_need w_is_need (fun _ _ _ _ _ _ hr _ _ _ _ _ => b_is_need T hr) l_is_need
end
def m_check_rows (z : Ad) : MD Sto := fun ds s Q => (∃ v su, ds = [v, .ref z.a_is_supply] ∧ (v = .tup (su.map t3) ∨ v = .lst (su.map t3)) ∧ SuOk su ∧ Q (.tup (su.map t3)) s) ∨ (∃ v ne, ds = [v, .ref z.a_is_need] ∧ (v = .tup (ne.map t2) ∨ v = .lst (ne.map t2)) ∧ NeOk ne ∧ Q (.tup (ne.map t2)) s)

def wb_check_rows_1 (z : Ad) : WS Sto := (wIf (wNot (wB (wCallV 1 1 (fun a m => (a = z.a_is_supply ∧ m = m_is_supply) ∨ (a = z.a_is_need ∧ m = m_is_need)) (wCons (wVar 2) wNil))))
  wNever
  wNext)
def w_check_rows (z : Ad) : WS Sto := (wSeq (wIf (wOr (wNot (wB (wCallB dIsiT (wCons (wVar 0) (wCons (wTup (wConsU (wC (.ty "list")) (wConsU (wC (.ty "tuple")) wNil))) wNil))))) (wB (wBin (dIb fun i j => decide (j < i)) (wCallB dLenA (wCons (wVar 0) wNil)) (wC (.int 12)))))
  wNever
  wNext)
  (wSeq (wFor (wIter (wVar 0)) (wName 2)
  (wb_check_rows_1 z))
  (wRet true (wCallB dTuple (wCons (wNew (wLc [2] (wIter (wVar 0)) (wName 2) wYes (wCallB dTuple (wCons (wVar 2) wNil)))) wNil)))))
theorem l_check_rows (z : Ad) : ∀ ds s Q, ds.length = P_check_rows.length → m_check_rows z ds s Q → w_check_rows z { nx := fun _ s' => Q .non s', rt := Q } (Ld.start N_check_rows.length ds) s := by
  rintro ds s Q hl (⟨v, su, rfl, rfl | rfl, ⟨hn, hs⟩, q⟩ | ⟨v, su, rfl, rfl | rfl, ⟨hn, hs⟩, q⟩)
  · unfold w_check_rows
    walk_at "gi"
    · omega
    refine for_map (g := t3) (fun j ρ s' => s = s' ∧ ∃ x2, ρ = [.val (.tup (su.map t3)), .val (.ref z.a_is_supply), x2]) ⟨rfl, _, rfl⟩ ?_ ?_
    · rintro j x ρ s' f hj ⟨rfl, x2, rfl⟩ hf
      walk_at "gi"
      refine wb_i (wb_check_rows_1.eq_1 z) ?_
      walk_at "gi"
      refine ⟨_, .inl rfl, ?_⟩
      walk_at "gi"
      refine ⟨x, rfl, hs x (List.mem_of_getElem? hj), ?_⟩
      walk_at "gi"
      exact hf _ _ ⟨rfl, _, rfl⟩
    · rintro ρ s' ⟨rfl, x2, rfl⟩
      walk_at "gi"
      refine lc_inv (fun j acc ρ s' => s = s' ∧ acc = (su.take j).map t3 ∧ ∃ x2, ρ = [.val (.tup (su.map t3)), .val (.ref z.a_is_supply), x2]) _ 0 ⟨rfl, rfl, _, rfl⟩ ?_ ?_
      · rintro j d acc ρ s' f hj ⟨rfl, rfl, x2, rfl⟩ hf
        obtain ⟨x, hx, rfl⟩ := map_int_some hj
        walk_at "gi"
        rw [Nat.zero_add] at hf
        refine ⟨?_, hf _ _ _ ⟨rfl, ?_, _, rfl⟩⟩
        · rw [List.length_take]; exact sizeLine_lt (by omega)
        · rw [List.take_succ, hx, List.map_append]; rfl
      · rintro acc ρ s' ⟨rfl, rfl, x2, rfl⟩
        rw [Nat.zero_add, List.length_map, List.take_length]
        walk_at "gi"
        exact ⟨imms_t3 _, q⟩
  · unfold w_check_rows
    walk_at "gi"
    · omega
    refine for_map (g := t3) (fun j ρ s' => s = s' ∧ ∃ x2, ρ = [.val (.lst (su.map t3)), .val (.ref z.a_is_supply), x2]) ⟨rfl, _, rfl⟩ ?_ ?_
    · rintro j x ρ s' f hj ⟨rfl, x2, rfl⟩ hf
      walk_at "gi"
      refine wb_i (wb_check_rows_1.eq_1 z) ?_
      walk_at "gi"
      refine ⟨_, .inl rfl, ?_⟩
      walk_at "gi"
      refine ⟨x, rfl, hs x (List.mem_of_getElem? hj), ?_⟩
      walk_at "gi"
      exact hf _ _ ⟨rfl, _, rfl⟩
    · rintro ρ s' ⟨rfl, x2, rfl⟩
      walk_at "gi"
      refine lc_inv (fun j acc ρ s' => s = s' ∧ acc = (su.take j).map t3 ∧ ∃ x2, ρ = [.val (.lst (su.map t3)), .val (.ref z.a_is_supply), x2]) _ 0 ⟨rfl, rfl, _, rfl⟩ ?_ ?_
      · rintro j d acc ρ s' f hj ⟨rfl, rfl, x2, rfl⟩ hf
        obtain ⟨x, hx, rfl⟩ := map_int_some hj
        walk_at "gi"
        rw [Nat.zero_add] at hf
        refine ⟨?_, hf _ _ _ ⟨rfl, ?_, _, rfl⟩⟩
        · rw [List.length_take]; exact sizeLine_lt (by omega)
        · rw [List.take_succ, hx, List.map_append]; rfl
      · rintro acc ρ s' ⟨rfl, rfl, x2, rfl⟩
        rw [Nat.zero_add, List.length_map, List.take_length]
        walk_at "gi"
        exact ⟨imms_t3 _, q⟩
  · unfold w_check_rows
    walk_at "gi"
    · omega
    refine for_map (g := t2) (fun j ρ s' => s = s' ∧ ∃ x2, ρ = [.val (.tup (su.map t2)), .val (.ref z.a_is_need), x2]) ⟨rfl, _, rfl⟩ ?_ ?_
    · rintro j x ρ s' f hj ⟨rfl, x2, rfl⟩ hf
      walk_at "gi"
      refine wb_i (wb_check_rows_1.eq_1 z) ?_
      walk_at "gi"
      refine ⟨_, .inr rfl, ?_⟩
      walk_at "gi"
      refine ⟨x, rfl, hs x (List.mem_of_getElem? hj), ?_⟩
      walk_at "gi"
      exact hf _ _ ⟨rfl, _, rfl⟩
    · rintro ρ s' ⟨rfl, x2, rfl⟩
      walk_at "gi"
      refine lc_inv (fun j acc ρ s' => s = s' ∧ acc = (su.take j).map t2 ∧ ∃ x2, ρ = [.val (.tup (su.map t2)), .val (.ref z.a_is_need), x2]) _ 0 ⟨rfl, rfl, _, rfl⟩ ?_ ?_
      · rintro j d acc ρ s' f hj ⟨rfl, rfl, x2, rfl⟩ hf
        obtain ⟨x, hx, rfl⟩ := map_int_some hj
        walk_at "gi"
        rw [Nat.zero_add] at hf
        refine ⟨?_, hf _ _ _ ⟨rfl, ?_, _, rfl⟩⟩
        · rw [List.length_take]; exact sizeLine_lt (by omega)
        · rw [List.take_succ, hx, List.map_append]; rfl
      · rintro acc ρ s' ⟨rfl, rfl, x2, rfl⟩
        rw [Nat.zero_add, List.length_map, List.take_length]
        walk_at "gi"
        exact ⟨imms_t2 _, q⟩
  · unfold w_check_rows
    walk_at "gi"
    · omega
    refine for_map (g := t2) (fun j ρ s' => s = s' ∧ ∃ x2, ρ = [.val (.lst (su.map t2)), .val (.ref z.a_is_need), x2]) ⟨rfl, _, rfl⟩ ?_ ?_
    · rintro j x ρ s' f hj ⟨rfl, x2, rfl⟩ hf
      walk_at "gi"
      refine wb_i (wb_check_rows_1.eq_1 z) ?_
      walk_at "gi"
      refine ⟨_, .inr rfl, ?_⟩
      walk_at "gi"
      refine ⟨x, rfl, hs x (List.mem_of_getElem? hj), ?_⟩
      walk_at "gi"
      exact hf _ _ ⟨rfl, _, rfl⟩
    · rintro ρ s' ⟨rfl, x2, rfl⟩
      walk_at "gi"
      refine lc_inv (fun j acc ρ s' => s = s' ∧ acc = (su.take j).map t2 ∧ ∃ x2, ρ = [.val (.lst (su.map t2)), .val (.ref z.a_is_need), x2]) _ 0 ⟨rfl, rfl, _, rfl⟩ ?_ ?_
      · rintro j d acc ρ s' f hj ⟨rfl, rfl, x2, rfl⟩ hf
        obtain ⟨x, hx, rfl⟩ := map_int_some hj
        walk_at "gi"
        rw [Nat.zero_add] at hf
        refine ⟨?_, hf _ _ _ ⟨rfl, ?_, _, rfl⟩⟩
        · rw [List.length_take]; exact sizeLine_lt (by omega)
        · rw [List.take_succ, hx, List.map_append]; rfl
      · rintro acc ρ s' ⟨rfl, rfl, x2, rfl⟩
        rw [Nat.zero_add, List.length_map, List.take_length]
        walk_at "gi"
        exact ⟨imms_t2 _, q⟩

section
variable {P : Program} {w : World} {K : PySem.W.Frag} {mg : Str → Option Value} {base : Heap} {z : Ad}
theorem b_check_rows (T : Tx K mg z) {cdv : Value} {A : Around} {outer : List PySem.Env} {s : Shared} {H0 : Hp} {E : XK} (hr : Room (2) (A.deeper (envOfC "check_rows" (defScope st_check_rows) s.heap.objs.size z.a_check_rows cdv))) {F H : Hp} {W : Addr → Prop} {h1 : ∀ a o, F a = some o → H a = some o} {h2 : ∃ s, (wldS K).Wd s W H} :
    ∃ t, SSs (cxD P w K mg base N_check_rows "check_rows" (defScope st_check_rows) z.a_check_rows cdv A outer s H0 E) (mkB K (wldS K) true F H W h1 h2) (defBody st_check_rows) t (w_check_rows z) :=
  have hu := hr.units
  ⟨_, (ss_cons (s_if (st_w (sw_or (st_not (st_val (se_isiT T.b_isinstance (sa_cons (sv 0) (sa_cons (se_tup (sa_consU (se_bltn T.b_list (by decide +kernel)) (sa_consU (se_bltn T.b_tuple (by decide +kernel)) sa_nil))) sa_nil))))) (sw_or1 (st_cmp op_gt rule_Ib (nobehind _ (by decide) (by decide)) (se_len T.b_len (sa_cons (sv 0) sa_nil)) (se_globI T.c_MOST_ROWS)))))
  (ss_one s_never)
  ss_nil)
  (ss_cons (s_for PassesOwn.never rfl (si_seq (sv 0)) (sg_name 2 sc_check_rows.nd)
  (ss_one (s_if (st_not (st_val (se_callV 1 (R := (fun a m => (a = z.a_is_supply ∧ m = m_is_supply) ∨ (a = z.a_is_need ∧ m = m_is_need))) (fun f m h => by rcases h with ⟨rfl, rfl⟩ | ⟨rfl, rfl⟩ <;> first | exact ⟨_, _, ok_is_supply T, T.f_is_supply.kp, T.n_is_supply⟩ | exact ⟨_, _, ok_is_need T, T.f_is_need.kp, T.n_is_need⟩) (hr.mono (by decide)) (sa_cons (sv 2) sa_nil))))
  (ss_one s_never)
  ss_nil)))
  (ss_one (s_ret (se_tuplec T.b_tuple (sa_cons (SN.e (sn_lc (own := [("row", 2)]) rfl sc_check_rows.nd (si_seq (sv 0)) (blkOk_by (N := N_check_rows) (sc := defScope st_check_rows) (by decide +kernel)) (fun _ _ _ _ _ => (sg_name 2 sc_check_rows.nd)) (fun _ _ _ _ _ => sts_nil) (fun _ _ _ _ _ => (se_tuplec T.b_tuple (sa_cons (sv 2) sa_nil))) (by decide))) sa_nil))))))⟩
theorem ok_check_rows (T : Tx K mg z) : FnOk P w K mg base CX0 3 z.a_check_rows z.d_check_rows P_check_rows (spD K (wldS K) true 2 (m_check_rows z)) :=
  fun_okD T.f_check_rows sc_check_rows (wldS K) true (m_check_rows z) (w_check_rows z) (fun _ _ _ _ _ _ hr _ _ _ _ _ => b_check_rows T hr) (l_check_rows z)
end
def m_check_supplies : MD Sto := fun ds s Q => ∃ v su, ds = [v] ∧ (v = .tup (su.map t3) ∨ v = .lst (su.map t3)) ∧ SuOk su ∧ Q (.tup (su.map t3)) s

def w_check_supplies (z : Ad) : WS Sto := (wRet true (wCallF 2 (m_check_rows z) (wCons (wVar 0) (wCons (wC (.ref z.a_is_supply)) wNil))))
theorem l_check_supplies (z : Ad) : ∀ ds s Q, ds.length = P_check_supplies.length → m_check_supplies ds s Q → w_check_supplies z { nx := fun _ s' => Q .non s', rt := Q } (Ld.start N_check_supplies.length ds) s := by
  rintro ds s Q hl ⟨v, su, rfl, hv, hs, q⟩
  unfold w_check_supplies
  rcases hv with rfl | rfl
  all_goals
    walk_at "gi"
    refine .inl ⟨_, su, rfl, by simp, hs, ?_⟩
    walk_at "gi"
    exact ⟨imms_t3 _, q⟩

section
variable {P : Program} {w : World} {K : PySem.W.Frag} {mg : Str → Option Value} {base : Heap} {z : Ad}
theorem b_check_supplies (T : Tx K mg z) {cdv : Value} {A : Around} {outer : List PySem.Env} {s : Shared} {H0 : Hp} {E : XK} (hr : Room (3) (A.deeper (envOfC "check_supplies" (defScope st_check_supplies) s.heap.objs.size z.a_check_supplies cdv))) {F H : Hp} {W : Addr → Prop} {h1 : ∀ a o, F a = some o → H a = some o} {h2 : ∃ s, (wldS K).Wd s W H} :
    ∃ t, SSs (cxD P w K mg base N_check_supplies "check_supplies" (defScope st_check_supplies) z.a_check_supplies cdv A outer s H0 E) (mkB K (wldS K) true F H W h1 h2) (defBody st_check_supplies) t (w_check_supplies z) :=
  have hu := hr.units
  ⟨_, (ss_one (s_ret (se_callF (ok_check_rows T) (hr.mono (by decide)) T.g_check_rows T.f_check_rows.kp T.n_check_rows (sa_cons (sv 0) (sa_cons (se_glob (v := .ref z.a_is_supply) rfl T.g_is_supply rfl (fun F => .ref _)) sa_nil)))))⟩
theorem ok_check_supplies (T : Tx K mg z) : FnOk P w K mg base CX0 4 z.a_check_supplies z.d_check_supplies P_check_supplies (spD K (wldS K) true 1 m_check_supplies) :=
  fun_okD T.f_check_supplies sc_check_supplies (wldS K) true m_check_supplies (w_check_supplies z) (fun _ _ _ _ _ _ hr _ _ _ _ _ => b_check_supplies T hr) (l_check_supplies z)
end
def m_check_needs : MD Sto := fun ds s Q => ∃ v su, ds = [v] ∧ (v = .tup (su.map t2) ∨ v = .lst (su.map t2)) ∧ NeOk su ∧ Q (.tup (su.map t2)) s

def w_check_needs (z : Ad) : WS Sto := (wRet true (wCallF 2 (m_check_rows z) (wCons (wVar 0) (wCons (wC (.ref z.a_is_need)) wNil))))
theorem l_check_needs (z : Ad) : ∀ ds s Q, ds.length = P_check_needs.length → m_check_needs ds s Q → w_check_needs z { nx := fun _ s' => Q .non s', rt := Q } (Ld.start N_check_needs.length ds) s := by
  rintro ds s Q hl ⟨v, su, rfl, hv, hs, q⟩
  unfold w_check_needs
  rcases hv with rfl | rfl
  all_goals
    walk_at "gi"
    refine .inr ⟨_, su, rfl, by simp, hs, ?_⟩
    walk_at "gi"
    exact ⟨imms_t2 _, q⟩

section
variable {P : Program} {w : World} {K : PySem.W.Frag} {mg : Str → Option Value} {base : Heap} {z : Ad}
theorem b_check_needs (T : Tx K mg z) {cdv : Value} {A : Around} {outer : List PySem.Env} {s : Shared} {H0 : Hp} {E : XK} (hr : Room (3) (A.deeper (envOfC "check_needs" (defScope st_check_needs) s.heap.objs.size z.a_check_needs cdv))) {F H : Hp} {W : Addr → Prop} {h1 : ∀ a o, F a = some o → H a = some o} {h2 : ∃ s, (wldS K).Wd s W H} :
    ∃ t, SSs (cxD P w K mg base N_check_needs "check_needs" (defScope st_check_needs) z.a_check_needs cdv A outer s H0 E) (mkB K (wldS K) true F H W h1 h2) (defBody st_check_needs) t (w_check_needs z) :=
  have hu := hr.units
  ⟨_, (ss_one (s_ret (se_callF (ok_check_rows T) (hr.mono (by decide)) T.g_check_rows T.f_check_rows.kp T.n_check_rows (sa_cons (sv 0) (sa_cons (se_glob (v := .ref z.a_is_need) rfl T.g_is_need rfl (fun F => .ref _)) sa_nil)))))⟩
theorem ok_check_needs (T : Tx K mg z) : FnOk P w K mg base CX0 4 z.a_check_needs z.d_check_needs P_check_needs (spD K (wldS K) true 1 m_check_needs) :=
  fun_okD T.f_check_needs sc_check_needs (wldS K) true m_check_needs (w_check_needs z) (fun _ _ _ _ _ _ hr _ _ _ _ _ => b_check_needs T hr) (l_check_needs z)
end
def m_has_day : MD Sto := fun ds s Q => ∃ (x : T3) (d : Int), ds = [t3 x, .int d] ∧ Q (.bl (decide (x.1 ≤ d ∧ d ≤ x.2.1))) s

def w_has_day : WS Sto := (wRet true (wChain (dIb fun i j => decide (i ≤ j)) (dIb fun i j => decide (i ≤ j)) (wBin dIx (wVar 0) (wC (.int 0))) (wVar 1) (wBin dIx (wVar 0) (wC (.int 1)))))
theorem l_has_day : ∀ ds s Q, ds.length = P_has_day.length → m_has_day ds s Q → w_has_day { nx := fun _ s' => Q .non s', rt := Q } (Ld.start N_has_day.length ds) s := by
  rintro ds s Q hl ⟨x, d, rfl, q⟩
  unfold w_has_day
  walk_at "gi"
  · rw [show decide (d ≤ x.2.1) = decide (x.1 ≤ d ∧ d ≤ x.2.1) by simp [*]]
    exact q
  · rw [show decide (x.1 ≤ d ∧ d ≤ x.2.1) = false by simp [*]] at q
    exact q

section
variable {P : Program} {w : World} {K : PySem.W.Frag} {mg : Str → Option Value} {base : Heap} {z : Ad}
theorem b_has_day (T : Tx K mg z) {cdv : Value} {A : Around} {outer : List PySem.Env} {s : Shared} {H0 : Hp} {E : XK} (hr : Room (0) (A.deeper (envOfC "has_day" (defScope st_has_day) s.heap.objs.size z.a_has_day cdv))) {F H : Hp} {W : Addr → Prop} {h1 : ∀ a o, F a = some o → H a = some o} {h2 : ∃ s, (wldS K).Wd s W H} :
    ∃ t, SSs (cxD P w K mg base N_has_day "has_day" (defScope st_has_day) z.a_has_day cdv A outer s H0 E) (mkB K (wldS K) true F H W h1 h2) (defBody st_has_day) t (w_has_day) :=
  have hu := hr.units
  ⟨_, (ss_one (s_ret (se_chain op_le op_le rule_Ib rule_Ib (se_ix (sv 0) se_int) (sv 1) (se_ix (sv 0) se_int))))⟩
theorem ok_has_day (T : Tx K mg z) : FnOk P w K mg base CX0 1 z.a_has_day z.d_has_day P_has_day (spD K (wldS K) true 2 m_has_day) :=
  fun_okD T.f_has_day sc_has_day (wldS K) true m_has_day w_has_day (fun _ _ _ _ _ _ hr _ _ _ _ _ => b_has_day T hr) l_has_day
end
def g2 (f : Nat → Int) (k : Nat) : D := .tup [.int (f k), .int k]
theorem g2_eq (f : Nat → Int) (k : Nat) : g2 f k = .tup [.int (f k), .int k] := rfl
def bx (b : List Int) : D := .tup (b.map .int)
theorem toPys_ints : ∀ b : List Int, toPys (b.map D.int) = b.map PyData.int
  | [] => rfl
  | x :: b => by rw [List.map_cons, List.map_cons, toPys, toPys_ints b]; rfl
theorem bx_le (a b : List Int) : PySem.W.dataLe false toPy (bx a) (bx b) = decide (a ≤ b) := by
  have h := congrFun (congrFun (PySem.W.dataLe_rows (fun x : List Int => x)) a) b
  rw [← h]
  show (!PySem.W.dataLt (toPy (bx b)) (toPy (bx a))) = !PySem.W.dataLt (.list (b.map .int)) (.list (a.map .int))
  rw [PySem.W.dataLt_list]
  have e : ∀ c : List Int, toPy (bx c) = .tuple (c.map PyData.int) := fun c => by show PyData.tuple (toPys (c.map D.int)) = _; rw [toPys_ints]
  rw [e, e, PySem.W.dataLt_tuple]
theorem sortOk_bx (bs : List (List Int)) (h : ∀ b ∈ bs, b ≠ []) : SortOk ((bs.map bx).map toPy) := by
  have e : ∀ c : List Int, toPy (bx c) = .tuple (c.map PyData.int) := fun c => by show PyData.tuple (toPys (c.map D.int)) = _; rw [toPys_ints]
  have ha : ∀ a b : List Int, PySem.W.alikeAll (a.map PyData.int) (b.map PyData.int) = true := by
    intro a
    induction a with
    | nil => intro b; cases b <;> rfl
    | cons x xs ih =>
      intro b
      cases b with
      | nil => rfl
      | cons y ys => rw [List.map_cons, List.map_cons, PySem.W.alikeAll, ih]; rfl
  rw [List.map_map]
  refine ⟨PySem.W.AllAlike.of fun a b => ?_, .inl fun d hd => ?_⟩
  · show PySem.W.alike (toPy (bx a)) (toPy (bx b)) = true
    rw [e, e]
    exact ha a b
  · obtain ⟨b, hb, rfl⟩ := List.mem_map.mp hd
    have hn := h b hb
    cases b with
    | nil => exact absurd rfl hn
    | cons x xs => exact ⟨_, _, e (x :: xs)⟩
theorem dSort_g2 {f : Nat → Int} {l : List Nat} : dSort false [.lst (l.map (g2 f))] = some (.lst ((ord f l).map (g2 f))) := by
  have e : ∀ k, g2 f k = bx [f k, (k : Int)] := fun k => rfl
  refine dSort_map (g := g2 f) (le := kle f) (pls_map (fun k => rfl) _) ?_ fun a _ b _ => ?_
  · have := sortOk_bx (l.map fun k => [f k, (k : Int)]) (fun b hb => by obtain ⟨k, _, rfl⟩ := List.mem_map.mp hb; simp)
    rw [show l.map (g2 f) = (l.map fun k => [f k, (k : Int)]).map bx by rw [List.map_map]; rfl]
    exact this
  · rw [e, e, bx_le]
    unfold kle
    rw [decide_eq_decide, List.cons_le_cons_iff, List.cons_le_cons_iff]
    simp
    omega
theorem enum_rng {α : Type} {f : α → D} {xs : List α} (x0 : α) : enumD (xs.map f) = (List.range xs.length).map fun (i : Nat) => .tup [.int i, f (xs.getD i x0)] := by
  apply List.ext_getElem?
  intro i
  by_cases hi : i < xs.length
  · rw [enumD_get (d := f (xs.getD i x0)) (by rw [List.getElem?_map, List.getD_eq_getElem?_getD, List.getElem?_eq_getElem hi]; rfl), List.getElem?_map, List.getElem?_range hi]
    rfl
  · rw [List.getElem?_eq_none (by rw [enumD_len, List.length_map]; omega), List.getElem?_eq_none (by simpa using hi)]
def m_by_last : MD Sto := fun ds s Q => ∃ (su : List T3) (d : Int), ds = [.tup (su.map t3), .int d] ∧ su.length ≤ 12 ∧ Q (.lst (((odS su).filter (al su d)).map fun (k : Nat) => .int k)) s

def w_by_last : WS Sto := (wSeq (wSet 2 (wNew (wLc [3, 4] (wEnumA (wVar 0)) (wGTup [(wName 3), (wName 4)]) (wB (wCallF 2 m_has_day (wCons (wVar 4) (wCons (wVar 1) wNil)))) (wTup (wConsU (wBin dIx (wVar 4) (wC (.int 1))) (wConsU (wVar 3) wNil))))))
  (wRetNew true (wLc [5, 3] (wIter (wNew (wCallN (dSort false) (wCons (wVar 2) wNil)))) (wGTup [(wName 5), (wName 3)]) wYes (wVar 3))))
theorem l_by_last : ∀ ds s Q, ds.length = P_by_last.length → m_by_last ds s Q → w_by_last { nx := fun _ s' => Q .non s', rt := Q } (Ld.start N_by_last.length ds) s := by
  rintro ds s Q hl ⟨su, d, rfl, hn, q⟩
  unfold w_by_last
  walk_at "gi"
  rw [enum_rng z3]
  refine lc_filt (g := fun (i : Nat) => .tup [.int i, t3 (su.getD i z3)]) (xs := List.range su.length) (g2 (last3 su)) (al su d) (by simp; omega) (fun i hi acc g ha hg => ?_) ?_
  · walk_at "gi"
    refine ⟨su.getD i z3, d, rfl, ?_⟩
    rw [show decide ((su.getD i z3).1 ≤ d ∧ d ≤ (su.getD i z3).2.1) = al su d i from rfl]
    cases h : al su d i with
    | false =>
      rw [h, if_neg (by decide)] at hg
      walk_at "gi"
      exact hg
    | true =>
      rw [h, if_pos rfl] at hg
      walk_at "gi"
      exact hg
  walk_at "gi"
  rw [dSort_g2, ord_filter]
  walk_at "gi"
  refine lc_map (g := g2 (last3 su)) (xs := (odS su).filter (al su d)) (fun (k : Nat) => .int k) ?_ (fun i hi acc g ha hg => ?_) ?_
  · have := List.length_filter_le (al su d) (odS su)
    rw [odS_len] at this
    omega
  · rw [g2_eq]
    walk_at "gi"
    exact hg
  walk_at "gi"
  exact ⟨imms_map (fun _ => rfl) _, q⟩

section
variable {P : Program} {w : World} {K : PySem.W.Frag} {mg : Str → Option Value} {base : Heap} {z : Ad}
theorem b_by_last (T : Tx K mg z) {cdv : Value} {A : Around} {outer : List PySem.Env} {s : Shared} {H0 : Hp} {E : XK} (hr : Room (1) (A.deeper (envOfC "by_last" (defScope st_by_last) s.heap.objs.size z.a_by_last cdv))) {F H : Hp} {W : Addr → Prop} {h1 : ∀ a o, F a = some o → H a = some o} {h2 : ∃ s, (wldS K).Wd s W H} :
    ∃ t, SSs (cxD P w K mg base N_by_last "by_last" (defScope st_by_last) z.a_by_last cdv A outer s H0 E) (mkB K (wldS K) true F H W h1 h2) (defBody st_by_last) t (w_by_last) :=
  have hu := hr.units
  ⟨_, (ss_cons (s_setLc 2 (own := [("place", 3), ("supply", 4)]) rfl sc_by_last.nd (si_enumA T.b_enumerate (sv 0)) (blkOk_by (N := N_by_last) (sc := defScope st_by_last) (by decide +kernel)) (fun _ _ _ _ _ => (sg_tup rfl (sgs_cons (sg_name 3 sc_by_last.nd) (sgs_cons (sg_name 4 sc_by_last.nd) sgs_nil)))) (fun _ _ _ _ _ => (sts_one (st_val (se_callF (ok_has_day T) (hr.mono (by decide)) T.g_has_day T.f_has_day.kp T.n_has_day (sa_cons (sv 4) (sa_cons (sv 1) sa_nil)))))) (fun _ _ _ _ _ => (se_tup (sa_consU (se_ix (sv 4) se_int) (sa_consU (sv 3) sa_nil)))) (by decide))
  (ss_one (s_retNew (sn_lc (own := [("_", 5), ("place", 3)]) rfl sc_by_last.nd (si_seq (SN.e (sn_sorted hu T.b_sorted (sa_cons (sv 2) sa_nil)))) (blkOk_by (N := N_by_last) (sc := defScope st_by_last) (by decide +kernel)) (fun _ _ _ _ _ => (sg_tup rfl (sgs_cons (sg_name 5 sc_by_last.nd) (sgs_cons (sg_name 3 sc_by_last.nd) sgs_nil)))) (fun _ _ _ _ _ => sts_nil) (fun _ _ _ _ _ => (sv 3)) (by decide)))))⟩
theorem ok_by_last (T : Tx K mg z) : FnOk P w K mg base CX0 2 z.a_by_last z.d_by_last P_by_last (spD K (wldS K) true 2 m_by_last) :=
  fun_okD T.f_by_last sc_by_last (wldS K) true m_by_last w_by_last (fun _ _ _ _ _ _ hr _ _ _ _ _ => b_by_last T hr) l_by_last
end
def le3 (a b : T3) : Bool := decide ([a.1, a.2.1, a.2.2] ≤ [b.1, b.2.1, b.2.2])
def srt (r : List T3) : List T3 := r.mergeSort le3
def serv (su : List T3) (ne : List T2) : List T3 := srt (run su ne (odN ne)).1
theorem dSort_t3 {r : List T3} : dSort false [.lst (r.map t3)] = some (.lst ((srt r).map t3)) := by
  have e : ∀ t, t3 t = bx [t.1, t.2.1, t.2.2] := fun k => rfl
  refine dSort_map (g := t3) (le := le3) (pls_map (fun k => rfl) _) ?_ fun a _ b _ => ?_
  · have := sortOk_bx (r.map fun t => [t.1, t.2.1, t.2.2]) (fun b hb => by obtain ⟨k, _, rfl⟩ := List.mem_map.mp hb; simp)
    rw [show r.map t3 = (r.map fun t => [t.1, t.2.1, t.2.2]).map bx by rw [List.map_map]; rfl]
    exact this
  · rw [e, e, bx_le]
    rfl
theorem map_cons_app {α : Type} (f : α → D) (xs : List α) (x : α) : xs.map f ++ [f x] = (xs ++ [x]).map f := by rw [List.map_append]; rfl
def m_serving_of : MD Sto := fun ds s Q => ∃ (su : List T3) (ne : List T2), ds = [.tup (su.map t3), .tup (ne.map t2)] ∧ SuOk su ∧ NeOk ne ∧ Q (.tup ((serv su ne).map t3)) s

def wb_serving_of_1 : WS Sto := (wSeq (wSet 10 (wCallB dMin2 (wCons (wVar 8) (wCons (wBin dIx (wVar 2) (wVar 9)) wNil))))
  (wIf (wB (wBin (dIb fun i j => decide (j < i)) (wVar 10) (wC (.int 0))))
  (wSeq (wDrop (wMutK 4 fApp (wConsU (wTup (wConsU (wVar 6) (wConsU (wVar 9) (wConsU (wVar 10) wNil)))) wNil)))
  (wSeq (wAugIx 2 (dIi (· - ·)) (wVar 10) (wVar 9))
  (wAug 8 (dIi (· - ·)) (wVar 10))))
  wNext))
def wb_serving_of_2 : WS Sto := (wSeq (wSet 8 (wBin dIx (wBin dIx (wVar 1) (wVar 6)) (wC (.int 1))))
  (wFor (wIter (wCallF 2 m_by_last (wCons (wVar 0) (wCons (wVar 5) wNil)))) (wName 9)
  wb_serving_of_1))
def w_serving_of : WS Sto := (wSeq (wOwn 2 (wLc [3] (wIter (wVar 0)) (wName 3) wYes (wBin dIx (wVar 3) (wC (.int 2)))))
  (wSeq (wOwn 4 (wLst wNil))
  (wSeq (wFor (wIter (wNew (wCallN (dSort false) (wCons (wNew (wLc [6, 7] (wEnumA (wVar 1)) (wGTup [(wName 6), (wName 7)]) wYes (wTup (wConsU (wBin dIx (wVar 7) (wC (.int 0))) (wConsU (wVar 6) wNil))))) wNil)))) (wGTup [(wName 5), (wName 6)])
  wb_serving_of_2)
  (wRet true (wCallB dTuple (wCons (wNew (wCallN (dSort false) (wCons (wVar 4) wNil))) wNil))))))
theorem SuOk.nn {su : List T3} (h : SuOk su) : ∀ y ∈ su, 0 ≤ y.2.2 := fun y hy => by
  have := h.2 y hy
  omega
theorem NeOk.nn {ne : List T2} (h : NeOk ne) : ∀ y ∈ ne, 0 ≤ y.2 := fun y hy => by
  have := h.2 y hy
  omega
theorem NeOk.cnt {ne : List T2} (h : NeOk ne) (i : Nat) : 0 ≤ cnt2 ne i := by
  unfold cnt2
  rw [List.getD_eq_getElem?_getD]
  cases e : ne[i]? with
  | none => exact Int.le_refl _
  | some x => exact h.nn x (List.mem_of_getElem? e)
theorem get_ints {l : List Int} {k : Nat} (h : k < l.length) : (l.map D.int)[((k : Int)).toNat]? = some (.int (l.getD k 0)) := by
  rw [Int.toNat_natCast, List.getElem?_map, List.getD_eq_getElem?_getD, List.getElem?_eq_getElem h]
  rfl
theorem run_take {su : List T3} {ne : List T2} {j i : Nat} {is : List Nat} (h : is[j]? = some i) : run su ne (is.take (j + 1)) = one su ne (run su ne (is.take j)) i := by
  rw [List.take_succ, h]
  exact run_app
theorem foldl_take {α β : Type} (f : β → α → β) {j : Nat} {i : α} {a : β} {is : List α} (h : is[j]? = some i) : (is.take (j + 1)).foldl f a = f ((is.take j).foldl f a) i := by
  rw [List.take_succ, h, List.foldl_append]
  rfl
theorem l_serving_of : ∀ ds s Q, ds.length = P_serving_of.length → m_serving_of ds s Q → w_serving_of { nx := fun _ s' => Q .non s', rt := Q } (Ld.start N_serving_of.length ds) s := by
  rintro ds s Q hl ⟨su, ne, rfl, hsu, hne, q⟩
  have hsl := hsu.1
  have hnl := hne.1
  unfold w_serving_of
  walk_at "gi"
  refine lc_map (g := t3) (xs := su) (fun x => .int x.2.2) (by omega) (fun x hx acc g ha hg => ?_) ?_
  · walk_at "gi"
    exact hg
  walk_at "gi"
  rw [enum_rng z2]
  refine lc_map (g := fun (i : Nat) => .tup [.int i, t2 (ne.getD i z2)]) (xs := List.range ne.length) (g2 (day2 ne)) (by simp; omega) (fun i hi acc g ha hg => ?_) ?_
  · walk_at "gi"
    exact hg
  walk_at "gi"
  rw [dSort_g2]
  walk_at "gi"
  rw [show su.map (fun x => D.int x.2.2) = (su.map (·.2.2)).map .int by rw [List.map_map]; rfl]
  refine for_map (g := g2 (day2 ne)) (xs := odN ne) (fun j ρ s' => s = s' ∧ ∃ x3 x5 x6 x7 x8 x9 x10, ρ = [.val (.tup (su.map t3)), .val (.tup (ne.map t2)), .own (.lst ((run su ne ((odN ne).take j)).2.map .int)), x3, .own (.lst ((run su ne ((odN ne).take j)).1.map t3)), x5, x6, x7, x8, x9, x10]) ⟨rfl, _, _, _, _, _, _, _, rfl⟩ ?_ ?_
  · rintro j i ρ s' g hj ⟨rfl, x3, x5, x6, x7, x8, x9, x10, rfl⟩ hg
    have hi := odN_mem.mp (List.mem_of_getElem? hj)
    rw [run_take hj] at hg
    have hR := rn (ne := ne) hsu.nn ((odN ne).take j) fun i _ => hne.cnt i
    have hjl : j ≤ 12 := by
      have h1 := (List.getElem?_eq_some_iff.mp hj).1
      rw [odN, (ord_perm _ _).length_eq, List.length_range] at h1
      omega
    have hrl : (run su ne ((odN ne).take j)).1.length ≤ 144 := by
      have h1 := hR.rl
      have h2 : ((odN ne).take j).length ≤ 12 := Nat.le_trans (List.length_take_le _ _) hjl
      have h3 := Nat.mul_le_mul h2 hsl
      omega
    have h1 := hR.len
    have h2 := hR.nn
    unfold one at hg
    generalize run su ne ((odN ne).take j) = r at *
    rw [g2_eq]
    walk_at "gi"
    refine wb_i wb_serving_of_2.eq_1 ?_
    walk_at "gi"
    refine ixT z2 (by omega) (by omega) ?_
    rw [Int.toNat_natCast]
    walk_at "gi"
    refine ⟨su, _, rfl, hsl, ?_⟩
    walk_at "gi"
    have hkm : ∀ k ∈ (odS su).filter (al su (day2 ne i)), k < su.length := fun k hk => odS_mem.mp (List.mem_filter.mp hk).1
    have hkl : ((odS su).filter (al su (day2 ne i))).length ≤ 12 := by
      have := List.length_filter_le (al su (day2 ne i)) (odS su)
      rw [odS_len] at this
      omega
    generalize (odS su).filter (al su (day2 ne i)) = ks at *
    refine for_map (g := fun k : Nat => D.int k) (xs := ks) (fun j ρ s' => s = s' ∧ ∃ x3 x5 x7 x9 x10, ρ = [.val (.tup (su.map t3)), .val (.tup (ne.map t2)), .own (.lst (((ks.take j).foldl (stp i) (r.1, r.2, cnt2 ne i)).2.1.map .int)), x3, .own (.lst (((ks.take j).foldl (stp i) (r.1, r.2, cnt2 ne i)).1.map t3)), x5, .val (.int i), x7, .val (.int ((ks.take j).foldl (stp i) (r.1, r.2, cnt2 ne i)).2.2), x9, x10]) ⟨rfl, _, _, _, _, _, rfl⟩ ?_ ?_
    · rintro j k ρ s' g hj ⟨rfl, x3, x5, x7, x9, x10, rfl⟩ hg
      have hk := hkm k (List.mem_of_getElem? hj)
      rw [foldl_take _ hj] at hg
      have hI := inn i (ks.take j) (r.1, r.2, cnt2 ne i) (fun k hk => by rw [h1]; exact hkm k (List.mem_of_mem_take hk)) h2 (hne.cnt i)
      have hl2 := hI.len
      obtain ⟨new, n1, n2, _⟩ := hI.new
      have hl3 : ((ks.take j).foldl (stp i) (r.1, r.2, cnt2 ne i)).1.length ≤ 200 := by
        rw [n1, List.length_append]
        rw [List.length_take] at n2
        show r.1.length + new.length ≤ 200
        omega
      clear n1 n2 hI
      generalize (ks.take j).foldl (stp i) (r.1, r.2, cnt2 ne i) = st at *
      unfold stp mn at hg
      walk_at "gi"
      refine wb_i wb_serving_of_1.eq_1 ?_
      walk_at "gi"
      have hkl2 : k < st.2.1.length := by rw [hl2]; show k < r.2.length; omega
      refine ⟨⟨by omega, by omega⟩, ?_⟩
      generalize (if st.2.1.getD k 0 < st.2.2 then st.2.1.getD k 0 else st.2.2) = c at hg ⊢
      by_cases hc : 0 < c
      · rw [if_pos hc] at hg ⊢
        walk_at "gi"
        refine ixN_i (by omega) (by omega) ?_
        rw [show D.tup [D.int i, D.int k, D.int c] = t3 ((i : Int), (k : Int), c) from rfl, map_cons_app, get_ints hkl2]
        walk_at "gi"
        refine ixN_i (by omega) (by omega) ?_
        rw [Int.toNat_natCast]
        walk_at "gi"
        exact hg _ _ ⟨rfl, _, _, _, _, _, rfl⟩
      · rw [if_neg hc] at hg ⊢
        exact hg _ _ ⟨rfl, _, _, _, _, _, rfl⟩
    · rintro ρ s' ⟨rfl, x3, x5, x7, x9, x10, rfl⟩
      rw [List.take_length]
      exact hg _ _ ⟨rfl, _, _, _, _, _, _, _, rfl⟩
  · rintro ρ s' ⟨rfl, x3, x5, x6, x7, x8, x9, x10, rfl⟩
    rw [List.take_length]
    walk_at "gi"
    rw [dSort_t3]
    walk_at "gi"
    exact ⟨imms_t3 _, q⟩

section
variable {P : Program} {w : World} {K : PySem.W.Frag} {mg : Str → Option Value} {base : Heap} {z : Ad}
theorem b_serving_of (T : Tx K mg z) {cdv : Value} {A : Around} {outer : List PySem.Env} {s : Shared} {H0 : Hp} {E : XK} (hr : Room (2) (A.deeper (envOfC "serving_of" (defScope st_serving_of) s.heap.objs.size z.a_serving_of cdv))) {F H : Hp} {W : Addr → Prop} {h1 : ∀ a o, F a = some o → H a = some o} {h2 : ∃ s, (wldS K).Wd s W H} :
    ∃ t, SSs (cxD P w K mg base N_serving_of "serving_of" (defScope st_serving_of) z.a_serving_of cdv A outer s H0 E) (mkB K (wldS K) true F H W h1 h2) (defBody st_serving_of) t (w_serving_of) :=
  have hu := hr.units
  ⟨_, (ss_cons (s_ownLc 2 (own := [("supply", 3)]) rfl sc_serving_of.nd (si_seq (sv 0)) (blkOk_by (N := N_serving_of) (sc := defScope st_serving_of) (by decide +kernel)) (fun _ _ _ _ _ => (sg_name 3 sc_serving_of.nd)) (fun _ _ _ _ _ => sts_nil) (fun _ _ _ _ _ => (se_ix (sv 3) se_int)) (by decide))
  (ss_cons (s_own 4 sc_serving_of.nd (sn_lst sa_nil))
  (ss_cons (s_for PassesOwn.never rfl (si_seq (SN.e (sn_sorted hu T.b_sorted (sa_cons (SN.e (sn_lc (own := [("place", 6), ("need", 7)]) rfl sc_serving_of.nd (si_enumA T.b_enumerate (sv 1)) (blkOk_by (N := N_serving_of) (sc := defScope st_serving_of) (by decide +kernel)) (fun _ _ _ _ _ => (sg_tup rfl (sgs_cons (sg_name 6 sc_serving_of.nd) (sgs_cons (sg_name 7 sc_serving_of.nd) sgs_nil)))) (fun _ _ _ _ _ => sts_nil) (fun _ _ _ _ _ => (se_tup (sa_consU (se_ix (sv 7) se_int) (sa_consU (sv 6) sa_nil)))) (by decide))) sa_nil)))) (sg_tup rfl (sgs_cons (sg_name 5 sc_serving_of.nd) (sgs_cons (sg_name 6 sc_serving_of.nd) sgs_nil)))
  (ss_cons (s_set 8 sc_serving_of.nd (se_ix (se_ix (sv 1) (sv 6)) se_int))
  (ss_one (s_for PassesOwn.never rfl (si_seq (se_callF (ok_by_last T) (hr.mono (by decide)) T.g_by_last T.f_by_last.kp T.n_by_last (sa_cons (sv 0) (sa_cons (sv 5) sa_nil)))) (sg_name 9 sc_serving_of.nd)
  (ss_cons (s_set 10 sc_serving_of.nd (se_min2 T.b_min rfl (sa_cons (sv 8) (sa_cons (se_ix (sv 2) (sv 9)) sa_nil))))
  (ss_one (s_if (st_cmp op_gt rule_Ib (nobehind _ (by decide) (by decide)) (sv 10) se_int)
  (ss_cons (s_expr (se_app 4 (sv 4) (sa_consU (se_tup (sa_consU (sv 6) (sa_consU (sv 9) (sa_consU (sv 10) sa_nil)))) sa_nil)))
  (ss_cons (s_augIx 2 iop_sub (rule_Ii (f := (· - ·))) (sv 10) (sv 9) (sv 2))
  (ss_one (s_aug 8 iop_sub (rule_Ii (f := (· - ·))) sc_serving_of.nd (sv 10)))))
  ss_nil)))))))
  (ss_one (s_ret (se_tuplec T.b_tuple (sa_cons (SN.e (sn_sorted hu T.b_sorted (sa_cons (sv 4) sa_nil))) sa_nil)))))))⟩
theorem ok_serving_of (T : Tx K mg z) : FnOk P w K mg base CX0 3 z.a_serving_of z.d_serving_of P_serving_of (spD K (wldS K) true 2 m_serving_of) :=
  fun_okD T.f_serving_of sc_serving_of (wldS K) true m_serving_of w_serving_of (fun _ _ _ _ _ _ hr _ _ _ _ _ => b_serving_of T hr) l_serving_of
end
theorem tot_sum {ts : List T3} : (ts.map fun t => t.2.2).sum = tot any ts := by
  induction ts with
  | nil => rfl
  | cons t ts ih => rw [List.map_cons, List.sum_cons, ih]; rfl
def m_pieces_in : MD Sto := fun ds s Q => ∃ ts : List T3, ds = [.tup (ts.map t3)] ∧ ts.length ≤ 1000 ∧ Q (.int (tot any ts)) s

def w_pieces_in : WS Sto := (wRet true (wCallB dSum (wCons (wNew (wLc [1, 1, 2] (wIter (wVar 0)) (wGTup [(wName 1), (wName 1), (wName 2)]) wYes (wVar 2))) wNil)))
theorem l_pieces_in : ∀ ds s Q, ds.length = P_pieces_in.length → m_pieces_in ds s Q → w_pieces_in { nx := fun _ s' => Q .non s', rt := Q } (Ld.start N_pieces_in.length ds) s := by
  rintro ds s Q hl ⟨ts, rfl, hn, q⟩
  unfold w_pieces_in
  walk_at "gi"
  refine lc_map (g := t3) (xs := ts) (fun t => .int t.2.2) (by omega) (fun x hx acc g ha hg => ?_) ?_
  · rw [t3_eq]
    walk_at "gi"
    exact hg
  rw [show ts.map (fun t => D.int t.2.2) = (ts.map fun t => t.2.2).map .int by rw [List.map_map]; rfl]
  walk_at "gi"
  rw [tot_sum]
  exact q

section
variable {P : Program} {w : World} {K : PySem.W.Frag} {mg : Str → Option Value} {base : Heap} {z : Ad}
theorem b_pieces_in (T : Tx K mg z) {cdv : Value} {A : Around} {outer : List PySem.Env} {s : Shared} {H0 : Hp} {E : XK} (hr : Room (0) (A.deeper (envOfC "pieces_in" (defScope st_pieces_in) s.heap.objs.size z.a_pieces_in cdv))) {F H : Hp} {W : Addr → Prop} {h1 : ∀ a o, F a = some o → H a = some o} {h2 : ∃ s, (wldS K).Wd s W H} :
    ∃ t, SSs (cxD P w K mg base N_pieces_in "pieces_in" (defScope st_pieces_in) z.a_pieces_in cdv A outer s H0 E) (mkB K (wldS K) true F H W h1 h2) (defBody st_pieces_in) t (w_pieces_in) :=
  have hu := hr.units
  ⟨_, (ss_one (s_ret (se_sum T.b_sum rfl (sa_cons (SN.e (sn_lc (own := [("_", 1), ("_", 1), ("count", 2)]) rfl sc_pieces_in.nd (si_seq (sv 0)) (blkOk_by (N := N_pieces_in) (sc := defScope st_pieces_in) (by decide +kernel)) (fun _ _ _ _ _ => (sg_tup rfl (sgs_cons (sg_name 1 sc_pieces_in.nd) (sgs_cons (sg_name 1 sc_pieces_in.nd) (sgs_cons (sg_name 2 sc_pieces_in.nd) sgs_nil))))) (fun _ _ _ _ _ => sts_nil) (fun _ _ _ _ _ => (sv 2)) (by decide))) sa_nil))))⟩
theorem ok_pieces_in (T : Tx K mg z) : FnOk P w K mg base CX0 1 z.a_pieces_in z.d_pieces_in P_pieces_in (spD K (wldS K) true 1 m_pieces_in) :=
  fun_okD T.f_pieces_in sc_pieces_in (wldS K) true m_pieces_in w_pieces_in (fun _ _ _ _ _ _ hr _ _ _ _ _ => b_pieces_in T hr) l_pieces_in
end
def wnt (ne : List T2) : Int := (ne.map fun t => t.2).sum
def m_wanted_in : MD Sto := fun ds s Q => ∃ ne : List T2, ds = [.tup (ne.map t2)] ∧ ne.length ≤ 1000 ∧ Q (.int (wnt ne)) s

def w_wanted_in : WS Sto := (wRet true (wCallB dSum (wCons (wNew (wLc [1, 2] (wIter (wVar 0)) (wGTup [(wName 1), (wName 2)]) wYes (wVar 2))) wNil)))
theorem l_wanted_in : ∀ ds s Q, ds.length = P_wanted_in.length → m_wanted_in ds s Q → w_wanted_in { nx := fun _ s' => Q .non s', rt := Q } (Ld.start N_wanted_in.length ds) s := by
  rintro ds s Q hl ⟨ts, rfl, hn, q⟩
  unfold w_wanted_in
  walk_at "gi"
  refine lc_map (g := t2) (xs := ts) (fun t => .int t.2) (by omega) (fun x hx acc g ha hg => ?_) ?_
  · rw [t2_eq]
    walk_at "gi"
    exact hg
  rw [show ts.map (fun t => D.int t.2) = (ts.map fun t => t.2).map .int by rw [List.map_map]; rfl]
  walk_at "gi"
  exact q

section
variable {P : Program} {w : World} {K : PySem.W.Frag} {mg : Str → Option Value} {base : Heap} {z : Ad}
theorem b_wanted_in (T : Tx K mg z) {cdv : Value} {A : Around} {outer : List PySem.Env} {s : Shared} {H0 : Hp} {E : XK} (hr : Room (0) (A.deeper (envOfC "wanted_in" (defScope st_wanted_in) s.heap.objs.size z.a_wanted_in cdv))) {F H : Hp} {W : Addr → Prop} {h1 : ∀ a o, F a = some o → H a = some o} {h2 : ∃ s, (wldS K).Wd s W H} :
    ∃ t, SSs (cxD P w K mg base N_wanted_in "wanted_in" (defScope st_wanted_in) z.a_wanted_in cdv A outer s H0 E) (mkB K (wldS K) true F H W h1 h2) (defBody st_wanted_in) t (w_wanted_in) :=
  have hu := hr.units
  ⟨_, (ss_one (s_ret (se_sum T.b_sum rfl (sa_cons (SN.e (sn_lc (own := [("_", 1), ("count", 2)]) rfl sc_wanted_in.nd (si_seq (sv 0)) (blkOk_by (N := N_wanted_in) (sc := defScope st_wanted_in) (by decide +kernel)) (fun _ _ _ _ _ => (sg_tup rfl (sgs_cons (sg_name 1 sc_wanted_in.nd) (sgs_cons (sg_name 2 sc_wanted_in.nd) sgs_nil)))) (fun _ _ _ _ _ => sts_nil) (fun _ _ _ _ _ => (sv 2)) (by decide))) sa_nil))))⟩
theorem ok_wanted_in (T : Tx K mg z) : FnOk P w K mg base CX0 1 z.a_wanted_in z.d_wanted_in P_wanted_in (spD K (wldS K) true 1 m_wanted_in) :=
  fun_okD T.f_wanted_in sc_wanted_in (wldS K) true m_wanted_in w_wanted_in (fun _ _ _ _ _ _ hr _ _ _ _ _ => b_wanted_in T hr) l_wanted_in
end
theorem serv_len {su : List T3} {ne : List T2} (hsu : SuOk su) (hne : NeOk ne) : (serv su ne).length ≤ 144 := by
  rw [serv, srt, List.length_mergeSort]
  have h1 := (rn (ne := ne) hsu.nn (odN ne) fun i _ => hne.cnt i).rl
  have h2 : (odN ne).length ≤ 12 := by rw [odN, (ord_perm _ _).length_eq, List.length_range]; exact hne.1
  have h3 := Nat.mul_le_mul h2 hsu.1
  omega
theorem serv_perm {su : List T3} {ne : List T2} : (serv su ne).Perm (run su ne (odN ne)).1 := List.mergeSort_perm _ _
def isL (g : α → D) (v : D) (xs : List α) : Prop := v = .tup (xs.map g) ∨ v = .lst (xs.map g)
def m_served : MD Sto := fun ds s Q => ∃ vs vn su ne, ds = [vs, vn] ∧ isL t3 vs su ∧ isL t2 vn ne ∧ SuOk su ∧ NeOk ne ∧ Q (.tup ((serv su ne).map t3)) s

def w_served : WS Sto := (wRet true (wCallF 2 m_serving_of (wCons (wCallF 1 m_check_supplies (wCons (wVar 0) wNil)) (wCons (wCallF 1 m_check_needs (wCons (wVar 1) wNil)) wNil))))
theorem l_served : ∀ ds s Q, ds.length = P_served.length → m_served ds s Q → w_served { nx := fun _ s' => Q .non s', rt := Q } (Ld.start N_served.length ds) s := by
  rintro ds s Q hl ⟨vs, vn, su, ne, rfl, hvs, hvn, hsu, hne, q⟩
  unfold w_served
  walk_at "gi"
  refine ⟨vs, su, rfl, hvs, hsu, ?_⟩
  walk_at "gi"
  refine ⟨vn, ne, rfl, hvn, hne, ?_⟩
  walk_at "gi"
  refine ⟨su, ne, rfl, hsu, hne, ?_⟩
  walk_at "gi"
  exact ⟨imms_t3 _, q⟩

section
variable {P : Program} {w : World} {K : PySem.W.Frag} {mg : Str → Option Value} {base : Heap} {z : Ad}
theorem b_served (T : Tx K mg z) {cdv : Value} {A : Around} {outer : List PySem.Env} {s : Shared} {H0 : Hp} {E : XK} (hr : Room (4) (A.deeper (envOfC "served" (defScope st_served) s.heap.objs.size z.a_served cdv))) {F H : Hp} {W : Addr → Prop} {h1 : ∀ a o, F a = some o → H a = some o} {h2 : ∃ s, (wldS K).Wd s W H} :
    ∃ t, SSs (cxD P w K mg base N_served "served" (defScope st_served) z.a_served cdv A outer s H0 E) (mkB K (wldS K) true F H W h1 h2) (defBody st_served) t (w_served) :=
  have hu := hr.units
  ⟨_, (ss_one (s_ret (se_callF (ok_serving_of T) (hr.mono (by decide)) T.g_serving_of T.f_serving_of.kp T.n_serving_of (sa_cons (se_callF (ok_check_supplies T) (hr.mono (by decide)) T.g_check_supplies T.f_check_supplies.kp T.n_check_supplies (sa_cons (sv 0) sa_nil)) (sa_cons (se_callF (ok_check_needs T) (hr.mono (by decide)) T.g_check_needs T.f_check_needs.kp T.n_check_needs (sa_cons (sv 1) sa_nil)) sa_nil)))))⟩
theorem ok_served (T : Tx K mg z) : FnOk P w K mg base CX0 5 z.a_served z.d_served P_served (spD K (wldS K) true 2 m_served) :=
  fun_okD T.f_served sc_served (wldS K) true m_served w_served (fun _ _ _ _ _ _ hr _ _ _ _ _ => b_served T hr) l_served
end
def m_most_served : MD Sto := fun ds s Q => ∃ vs vn su ne, ds = [vs, vn] ∧ isL t3 vs su ∧ isL t2 vn ne ∧ SuOk su ∧ NeOk ne ∧ Q (.int (tot any (serv su ne))) s

def w_most_served : WS Sto := (wRet true (wCallF 1 m_pieces_in (wCons (wCallF 2 m_served (wCons (wVar 0) (wCons (wVar 1) wNil))) wNil)))
theorem l_most_served : ∀ ds s Q, ds.length = P_most_served.length → m_most_served ds s Q → w_most_served { nx := fun _ s' => Q .non s', rt := Q } (Ld.start N_most_served.length ds) s := by
  rintro ds s Q hl ⟨vs, vn, su, ne, rfl, hvs, hvn, hsu, hne, q⟩
  have hl3 := serv_len hsu hne
  unfold w_most_served
  walk_at "gi"
  refine ⟨vs, vn, su, ne, rfl, hvs, hvn, hsu, hne, ?_⟩
  walk_at "gi"
  refine ⟨_, rfl, by omega, ?_⟩
  walk_at "gi"
  exact q

section
variable {P : Program} {w : World} {K : PySem.W.Frag} {mg : Str → Option Value} {base : Heap} {z : Ad}
theorem b_most_served (T : Tx K mg z) {cdv : Value} {A : Around} {outer : List PySem.Env} {s : Shared} {H0 : Hp} {E : XK} (hr : Room (5) (A.deeper (envOfC "most_served" (defScope st_most_served) s.heap.objs.size z.a_most_served cdv))) {F H : Hp} {W : Addr → Prop} {h1 : ∀ a o, F a = some o → H a = some o} {h2 : ∃ s, (wldS K).Wd s W H} :
    ∃ t, SSs (cxD P w K mg base N_most_served "most_served" (defScope st_most_served) z.a_most_served cdv A outer s H0 E) (mkB K (wldS K) true F H W h1 h2) (defBody st_most_served) t (w_most_served) :=
  have hu := hr.units
  ⟨_, (ss_one (s_ret (se_callF (ok_pieces_in T) (hr.mono (by decide)) T.g_pieces_in T.f_pieces_in.kp T.n_pieces_in (sa_cons (se_callF (ok_served T) (hr.mono (by decide)) T.g_served T.f_served.kp T.n_served (sa_cons (sv 0) (sa_cons (sv 1) sa_nil))) sa_nil))))⟩
theorem ok_most_served (T : Tx K mg z) : FnOk P w K mg base CX0 6 z.a_most_served z.d_most_served P_most_served (spD K (wldS K) true 2 m_most_served) :=
  fun_okD T.f_most_served sc_most_served (wldS K) true m_most_served w_most_served (fun _ _ _ _ _ _ hr _ _ _ _ _ => b_most_served T hr) l_most_served
end
def m_lacking : MD Sto := fun ds s Q => ∃ vs vn su ne, ds = [vs, vn] ∧ isL t3 vs su ∧ isL t2 vn ne ∧ SuOk su ∧ NeOk ne ∧ Q (.int (wnt ne - tot any (serv su ne))) s

def w_lacking : WS Sto := (wSeq (wSet 2 (wCallF 1 m_check_supplies (wCons (wVar 0) wNil)))
  (wSeq (wSet 3 (wCallF 1 m_check_needs (wCons (wVar 1) wNil)))
  (wRet true (wBin (dIi (· - ·)) (wCallF 1 m_wanted_in (wCons (wVar 3) wNil)) (wCallF 1 m_pieces_in (wCons (wCallF 2 m_serving_of (wCons (wVar 2) (wCons (wVar 3) wNil))) wNil))))))
theorem l_lacking : ∀ ds s Q, ds.length = P_lacking.length → m_lacking ds s Q → w_lacking { nx := fun _ s' => Q .non s', rt := Q } (Ld.start N_lacking.length ds) s := by
  rintro ds s Q hl ⟨vs, vn, su, ne, rfl, hvs, hvn, hsu, hne, q⟩
  have hl3 := serv_len hsu hne
  have hnl := hne.1
  unfold w_lacking
  walk_at "gi"
  refine ⟨vs, su, rfl, hvs, hsu, ?_⟩
  walk_at "gi"
  refine ⟨vn, ne, rfl, hvn, hne, ?_⟩
  walk_at "gi"
  refine ⟨ne, rfl, by omega, ?_⟩
  walk_at "gi"
  refine ⟨su, ne, rfl, hsu, hne, ?_⟩
  walk_at "gi"
  refine ⟨_, rfl, by omega, ?_⟩
  walk_at "gi"
  exact q

section
variable {P : Program} {w : World} {K : PySem.W.Frag} {mg : Str → Option Value} {base : Heap} {z : Ad}
theorem b_lacking (T : Tx K mg z) {cdv : Value} {A : Around} {outer : List PySem.Env} {s : Shared} {H0 : Hp} {E : XK} (hr : Room (4) (A.deeper (envOfC "lacking" (defScope st_lacking) s.heap.objs.size z.a_lacking cdv))) {F H : Hp} {W : Addr → Prop} {h1 : ∀ a o, F a = some o → H a = some o} {h2 : ∃ s, (wldS K).Wd s W H} :
    ∃ t, SSs (cxD P w K mg base N_lacking "lacking" (defScope st_lacking) z.a_lacking cdv A outer s H0 E) (mkB K (wldS K) true F H W h1 h2) (defBody st_lacking) t (w_lacking) :=
  have hu := hr.units
  ⟨_, (ss_cons (s_set 2 sc_lacking.nd (se_callF (ok_check_supplies T) (hr.mono (by decide)) T.g_check_supplies T.f_check_supplies.kp T.n_check_supplies (sa_cons (sv 0) sa_nil)))
  (ss_cons (s_set 3 sc_lacking.nd (se_callF (ok_check_needs T) (hr.mono (by decide)) T.g_check_needs T.f_check_needs.kp T.n_check_needs (sa_cons (sv 1) sa_nil)))
  (ss_one (s_ret (se_sub (se_callF (ok_wanted_in T) (hr.mono (by decide)) T.g_wanted_in T.f_wanted_in.kp T.n_wanted_in (sa_cons (sv 3) sa_nil)) (se_callF (ok_pieces_in T) (hr.mono (by decide)) T.g_pieces_in T.f_pieces_in.kp T.n_pieces_in (sa_cons (se_callF (ok_serving_of T) (hr.mono (by decide)) T.g_serving_of T.f_serving_of.kp T.n_serving_of (sa_cons (sv 2) (sa_cons (sv 3) sa_nil))) sa_nil)))))))⟩
theorem ok_lacking (T : Tx K mg z) : FnOk P w K mg base CX0 5 z.a_lacking z.d_lacking P_lacking (spD K (wldS K) true 2 m_lacking) :=
  fun_okD T.f_lacking sc_lacking (wldS K) true m_lacking w_lacking (fun _ _ _ _ _ _ hr _ _ _ _ _ => b_lacking T hr) l_lacking
end
theorem set_rng {α : Type} {n k : Nat} {f g : Nat → α} (hk : k < n) (h : ∀ i, i < n → i ≠ k → g i = f i) : ((List.range n).map f).set k (g k) = (List.range n).map g := by
  apply List.ext_getElem?
  intro i
  by_cases hi : i < n
  · rw [List.getElem?_map, List.getElem?_range hi]
    by_cases e : k = i
    · subst e
      rw [List.getElem?_set_self (by simpa using hk)]
      rfl
    · rw [List.getElem?_set_ne e, List.getElem?_map, List.getElem?_range hi]
      show some (f i) = some (g i)
      rw [h i hi (Ne.symm e)]
  · rw [List.getElem?_eq_none (by simpa using hi), List.getElem?_eq_none (by simpa using hi)]
theorem get_rng {α : Type} {n k : Nat} {f : Nat → α} (hk : k < n) : ((List.range n).map f)[k]? = some (f k) := by
  rw [List.getElem?_map, List.getElem?_range hk]
  rfl
theorem tot_take {p : T3 → Bool} {j : Nat} {ts : List T3} {x : T3} (h : ts[j]? = some x) : tot p (ts.take (j + 1)) = tot p (ts.take j) + if p x = true then x.2.2 else 0 := by
  rw [List.take_succ, h, tot_app]
  simp [tot]
def inS (m : Nat) (ts : List T3) : Prop := ∀ t ∈ ts, ∃ k : Nat, k < m ∧ t.2.1 = (k : Int)
def m_taken_of : MD Sto := fun ds s Q => ∃ (ts : List T3) (many : Nat), ds = [.tup (ts.map t3), .int 1, .int many] ∧ many ≤ 12 ∧ inS many ts ∧ Q (.lst ((List.range many).map fun i => .int (tot (atS i) ts))) s

def wb_taken_of_1 : WS Sto := (wAugIx 3 (dIi (· + ·)) (wBin dIx (wVar 5) (wC (.int 2))) (wBin dIx (wVar 5) (wVar 1)))
def w_taken_of : WS Sto := (wSeq (wOwn 3 (wLc [4] (wRange (wCons (wVar 2) wNil)) (wName 4) wYes (wC (.int 0))))
  (wSeq (wFor (wIter (wVar 0)) (wName 5)
  wb_taken_of_1)
  (wRet true (wVar 3))))
theorem l_taken_of : ∀ ds s Q, ds.length = P_taken_of.length → m_taken_of ds s Q → w_taken_of { nx := fun _ s' => Q .non s', rt := Q } (Ld.start N_taken_of.length ds) s := by
  rintro ds s Q hl ⟨ts, many, rfl, hm, ht, q⟩
  unfold w_taken_of
  walk_at "gi"
  refine lc_upto0 (fun j acc ρ s' => s = s' ∧ acc = (List.range j).map (fun i => .int (tot (atS i) [])) ∧ ∃ x3 x4 x5, ρ = [.val (.tup (ts.map t3)), .val (.int 1), .val (.int many), x3, x4, x5]) ⟨rfl, rfl, _, _, _, rfl⟩ ?_ ?_
  · rintro j acc ρ s' g hj ⟨rfl, rfl, x3, x4, x5, rfl⟩ hg
    walk_at "gi"
    refine ⟨?_, hg _ _ _ ⟨rfl, ?_, _, _, _, rfl⟩⟩
    · rw [List.length_range]; exact sizeLine_lt (by omega)
    · rw [List.range_succ, List.map_append]; rfl
  rintro acc ρ s' ⟨rfl, rfl, x3, x4, x5, rfl⟩
  walk_at "gi"
  refine for_map (g := t3) (fun j ρ s' => s = s' ∧ ∃ x4 x5, ρ = [.val (.tup (ts.map t3)), .val (.int 1), .val (.int many), .own (.lst ((List.range many).map fun i => .int (tot (atS i) (ts.take j)))), x4, x5]) ⟨rfl, _, _, rfl⟩ ?_ ?_
  · rintro j x ρ s' f hj ⟨rfl, x4, x5, rfl⟩ hf
    obtain ⟨k, hk, hx⟩ := ht x (List.mem_of_getElem? hj)
    have fin : ((List.range many).map fun i => D.int (tot (atS i) (ts.take j))).set k (.int (tot (atS k) (ts.take j) + x.2.2)) = (List.range many).map fun i => .int (tot (atS i) (ts.take (j + 1))) := by
      rw [← set_rng (k := k) (f := fun i => D.int (tot (atS i) (ts.take j))) (g := fun i => .int (tot (atS i) (ts.take (j + 1)))) hk fun i hi hne => by
        simp only [tot_take hj]
        rw [if_neg (by simp only [atS, decide_eq_true_eq]; omega), Int.add_zero]]
      rw [tot_take hj, if_pos (by simp only [atS, decide_eq_true_eq]; omega)]
    walk_at "gi"
    refine wb_i wb_taken_of_1.eq_1 ?_
    walk_at "gi"
    rw [hx]
    refine ixN_i (by omega) (by simp; omega) ?_
    rw [Int.toNat_natCast, get_rng hk]
    walk_at "gi"
    refine ixN_i (by omega) (by simp; omega) ?_
    rw [Int.toNat_natCast, fin]
    exact hf _ _ ⟨rfl, _, _, rfl⟩
  · rintro ρ s' ⟨rfl, x4, x5, rfl⟩
    rw [List.take_length]
    walk_at "gi"
    exact ⟨imms_map (fun _ => rfl) _, q⟩

section
variable {P : Program} {w : World} {K : PySem.W.Frag} {mg : Str → Option Value} {base : Heap} {z : Ad}
theorem b_taken_of (T : Tx K mg z) {cdv : Value} {A : Around} {outer : List PySem.Env} {s : Shared} {H0 : Hp} {E : XK} (hr : Room (0) (A.deeper (envOfC "taken_of" (defScope st_taken_of) s.heap.objs.size z.a_taken_of cdv))) {F H : Hp} {W : Addr → Prop} {h1 : ∀ a o, F a = some o → H a = some o} {h2 : ∃ s, (wldS K).Wd s W H} :
    ∃ t, SSs (cxD P w K mg base N_taken_of "taken_of" (defScope st_taken_of) z.a_taken_of cdv A outer s H0 E) (mkB K (wldS K) true F H W h1 h2) (defBody st_taken_of) t (w_taken_of) :=
  have hu := hr.units
  ⟨_, (ss_cons (s_ownLc 3 (own := [("_", 4)]) rfl sc_taken_of.nd (si_range1 T.b_range (sv 2)) (blkOk_by (N := N_taken_of) (sc := defScope st_taken_of) (by decide +kernel)) (fun _ _ _ _ _ => (sg_name 4 sc_taken_of.nd)) (fun _ _ _ _ _ => sts_nil) (fun _ _ _ _ _ => se_int) (by decide))
  (ss_cons (s_for PassesOwn.never rfl (si_seq (sv 0)) (sg_name 5 sc_taken_of.nd)
  (ss_one (s_augIx 3 iop_add (rule_Ii (f := (· + ·))) (se_ix (sv 5) se_int) (se_ix (sv 5) (sv 1)) (sv 3))))
  (ss_one (s_ret (sv 3)))))⟩
theorem ok_taken_of (T : Tx K mg z) : FnOk P w K mg base CX0 1 z.a_taken_of z.d_taken_of P_taken_of (spD K (wldS K) true 3 m_taken_of) :=
  fun_okD T.f_taken_of sc_taken_of (wldS K) true m_taken_of w_taken_of (fun _ _ _ _ _ _ hr _ _ _ _ _ => b_taken_of T hr) l_taken_of
end
def isF (su : List T3) (ne : List T2) : Prop := tot any (serv su ne) = wnt ne
def m_check_both : MD Sto := fun ds s Q => ∃ vs vn su ne, ds = [vs, vn] ∧ isL t3 vs su ∧ isL t2 vn ne ∧ SuOk su ∧ NeOk ne ∧ isF su ne ∧ Q (.tup [.tup (su.map t3), .tup (ne.map t2)]) s

def w_check_both : WS Sto := (wSeq (wSet 2 (wCallF 1 m_check_supplies (wCons (wVar 0) wNil)))
  (wSeq (wSet 3 (wCallF 1 m_check_needs (wCons (wVar 1) wNil)))
  (wSeq (wIf (wB (wBin (dIb fun i j => decide (i < j)) (wCallF 1 m_pieces_in (wCons (wCallF 2 m_serving_of (wCons (wVar 2) (wCons (wVar 3) wNil))) wNil)) (wCallF 1 m_wanted_in (wCons (wVar 3) wNil))))
  wNever
  wNext)
  (wRet true (wTup (wConsU (wVar 2) (wConsU (wVar 3) wNil)))))))
theorem l_check_both : ∀ ds s Q, ds.length = P_check_both.length → m_check_both ds s Q → w_check_both { nx := fun _ s' => Q .non s', rt := Q } (Ld.start N_check_both.length ds) s := by
  rintro ds s Q hl ⟨vs, vn, su, ne, rfl, hvs, hvn, hsu, hne, hF, q⟩
  have hl3 := serv_len hsu hne
  have hnl := hne.1
  unfold w_check_both
  walk_at "gi"
  refine ⟨vs, su, rfl, hvs, hsu, ?_⟩
  walk_at "gi"
  refine ⟨vn, ne, rfl, hvn, hne, ?_⟩
  walk_at "gi"
  refine ⟨su, ne, rfl, hsu, hne, ?_⟩
  walk_at "gi"
  refine ⟨_, rfl, by omega, ?_⟩
  walk_at "gi"
  refine ⟨ne, rfl, by omega, ?_⟩
  rw [hF]
  walk_at "gi"
  · rename_i h
    exact absurd h (Int.lt_irrefl _)
  · exact ⟨by rw [imms_t3, imms_t2]; rfl, q⟩

section
variable {P : Program} {w : World} {K : PySem.W.Frag} {mg : Str → Option Value} {base : Heap} {z : Ad}
theorem b_check_both (T : Tx K mg z) {cdv : Value} {A : Around} {outer : List PySem.Env} {s : Shared} {H0 : Hp} {E : XK} (hr : Room (4) (A.deeper (envOfC "check_both" (defScope st_check_both) s.heap.objs.size z.a_check_both cdv))) {F H : Hp} {W : Addr → Prop} {h1 : ∀ a o, F a = some o → H a = some o} {h2 : ∃ s, (wldS K).Wd s W H} :
    ∃ t, SSs (cxD P w K mg base N_check_both "check_both" (defScope st_check_both) z.a_check_both cdv A outer s H0 E) (mkB K (wldS K) true F H W h1 h2) (defBody st_check_both) t (w_check_both) :=
  have hu := hr.units
  ⟨_, (ss_cons (s_set 2 sc_check_both.nd (se_callF (ok_check_supplies T) (hr.mono (by decide)) T.g_check_supplies T.f_check_supplies.kp T.n_check_supplies (sa_cons (sv 0) sa_nil)))
  (ss_cons (s_set 3 sc_check_both.nd (se_callF (ok_check_needs T) (hr.mono (by decide)) T.g_check_needs T.f_check_needs.kp T.n_check_needs (sa_cons (sv 1) sa_nil)))
  (ss_cons (s_if (st_cmp op_lt rule_Ib (nobehind _ (by decide) (by decide)) (se_callF (ok_pieces_in T) (hr.mono (by decide)) T.g_pieces_in T.f_pieces_in.kp T.n_pieces_in (sa_cons (se_callF (ok_serving_of T) (hr.mono (by decide)) T.g_serving_of T.f_serving_of.kp T.n_serving_of (sa_cons (sv 2) (sa_cons (sv 3) sa_nil))) sa_nil)) (se_callF (ok_wanted_in T) (hr.mono (by decide)) T.g_wanted_in T.f_wanted_in.kp T.n_wanted_in (sa_cons (sv 3) sa_nil)))
  (ss_one s_never)
  ss_nil)
  (ss_one (s_ret (se_tup (sa_consU (sv 2) (sa_consU (sv 3) sa_nil))))))))⟩
theorem ok_check_both (T : Tx K mg z) : FnOk P w K mg base CX0 5 z.a_check_both z.d_check_both P_check_both (spD K (wldS K) true 2 m_check_both) :=
  fun_okD T.f_check_both sc_check_both (wldS K) true m_check_both w_check_both (fun _ _ _ _ _ _ hr _ _ _ _ _ => b_check_both T hr) l_check_both
end
theorem zip_two {n : Nat} {f g : Nat → D} : zipD ((List.range n).map f) ((List.range n).map g) = (List.range n).map fun i => .tup [f i, g i] := by
  unfold zipD
  apply List.ext_getElem?
  intro i
  rw [List.getElem?_zipWith, List.getElem?_map, List.getElem?_map, List.getElem?_map]
  by_cases hi : i < n
  · rw [List.getElem?_range hi]
    rfl
  · rw [List.getElem?_eq_none (by simpa using hi)]
    rfl
theorem map_rng {α : Type} (f : α → D) (x0 : α) (xs : List α) : xs.map f = (List.range xs.length).map fun i => f (xs.getD i x0) := by
  apply List.ext_getElem?
  intro i
  rw [List.getElem?_map, List.getElem?_map]
  by_cases hi : i < xs.length
  · rw [List.getElem?_range hi, List.getElem?_eq_getElem hi]
    show some (f xs[i]) = some (f (xs.getD i x0))
    rw [List.getD_eq_getElem?_getD, List.getElem?_eq_getElem hi]
    rfl
  · rw [List.getElem?_eq_none (by omega), List.getElem?_eq_none (by simpa using hi)]
    rfl
theorem zip_su {su : List T3} {g : Nat → D} : zipD (su.map t3) ((List.range su.length).map g) = (List.range su.length).map fun i => .tup [t3 (su.getD i z3), g i] := by
  rw [map_rng t3 z3 su, zip_two]
theorem serv_inS {su : List T3} {ne : List T2} (hsu : SuOk su) (hne : NeOk ne) : inS su.length (serv su ne) := fun t ht => by
  obtain ⟨_, _, k, h1, _, h2, _⟩ := (rn (ne := ne) hsu.nn (odN ne) fun i _ => hne.cnt i).row t (serv_perm.mem_iff.mp ht)
  exact ⟨k, h1, h2⟩
def m_unused : MD Sto := fun ds s Q => ∃ vs vn su ne, ds = [vs, vn] ∧ isL t3 vs su ∧ isL t2 vn ne ∧ SuOk su ∧ NeOk ne ∧ isF su ne ∧ Q (.tup ((List.range su.length).map fun k => .int (cnt3 su k - tot (atS k) (serv su ne)))) s

def w_unused : WS Sto := (wSeq (wAsg (wCallF 2 m_check_both (wCons (wVar 0) (wCons (wVar 1) wNil))) (wGTup [(wName 2), (wName 3)]))
  (wSeq (wSet 4 (wCallF 3 m_taken_of (wCons (wCallF 2 m_serving_of (wCons (wVar 2) (wCons (wVar 3) wNil))) (wCons (wC (.int 1)) (wCons (wCallB dLenA (wCons (wVar 2) wNil)) wNil)))))
  (wRet true (wCallB dTuple (wCons (wNew (wLc [5, 6] (wZipA (wConsU (wVar 2) (wConsU (wVar 4) wNil))) (wGTup [(wName 5), (wName 6)]) wYes (wBin (dIi (· - ·)) (wBin dIx (wVar 5) (wC (.int 2))) (wVar 6)))) wNil)))))
theorem l_unused : ∀ ds s Q, ds.length = P_unused.length → m_unused ds s Q → w_unused { nx := fun _ s' => Q .non s', rt := Q } (Ld.start N_unused.length ds) s := by
  rintro ds s Q hl ⟨vs, vn, su, ne, rfl, hvs, hvn, hsu, hne, hF, q⟩
  have hsl := hsu.1
  unfold w_unused
  walk_at "gi"
  refine ⟨vs, vn, su, ne, rfl, hvs, hvn, hsu, hne, hF, ?_⟩
  walk_at "gi"
  refine ⟨su, ne, rfl, hsu, hne, ?_⟩
  walk_at "gi"
  refine ⟨_, su.length, rfl, hsl, serv_inS hsu hne, ?_⟩
  walk_at "gi"
  rw [zip_su]
  refine lc_map (g := fun (i : Nat) => .tup [t3 (su.getD i z3), .int (tot (atS i) (serv su ne))]) (xs := List.range su.length) (fun k => .int (cnt3 su k - tot (atS k) (serv su ne))) (by simp; omega) (fun i hi acc g ha hg => ?_) ?_
  · walk_at "gi"
    exact hg
  walk_at "gi"
  exact ⟨imms_map (fun _ => rfl) _, q⟩

section
variable {P : Program} {w : World} {K : PySem.W.Frag} {mg : Str → Option Value} {base : Heap} {z : Ad}
theorem b_unused (T : Tx K mg z) {cdv : Value} {A : Around} {outer : List PySem.Env} {s : Shared} {H0 : Hp} {E : XK} (hr : Room (5) (A.deeper (envOfC "unused" (defScope st_unused) s.heap.objs.size z.a_unused cdv))) {F H : Hp} {W : Addr → Prop} {h1 : ∀ a o, F a = some o → H a = some o} {h2 : ∃ s, (wldS K).Wd s W H} :
    ∃ t, SSs (cxD P w K mg base N_unused "unused" (defScope st_unused) z.a_unused cdv A outer s H0 E) (mkB K (wldS K) true F H W h1 h2) (defBody st_unused) t (w_unused) :=
  have hu := hr.units
  ⟨_, (ss_cons (s_asg (se_callF (ok_check_both T) (hr.mono (by decide)) T.g_check_both T.f_check_both.kp T.n_check_both (sa_cons (sv 0) (sa_cons (sv 1) sa_nil))) (sg_tup rfl (sgs_cons (sg_name 2 sc_unused.nd) (sgs_cons (sg_name 3 sc_unused.nd) sgs_nil))))
  (ss_cons (s_set 4 sc_unused.nd (se_callF (ok_taken_of T) (hr.mono (by decide)) T.g_taken_of T.f_taken_of.kp T.n_taken_of (sa_cons (se_callF (ok_serving_of T) (hr.mono (by decide)) T.g_serving_of T.f_serving_of.kp T.n_serving_of (sa_cons (sv 2) (sa_cons (sv 3) sa_nil))) (sa_cons se_int (sa_cons (se_len T.b_len (sa_cons (sv 2) sa_nil)) sa_nil)))))
  (ss_one (s_ret (se_tuplec T.b_tuple (sa_cons (SN.e (sn_lc (own := [("supply", 5), ("count", 6)]) rfl sc_unused.nd (si_zipA T.b_zip (sa_consU (sv 2) (sa_consU (sv 4) sa_nil))) (blkOk_by (N := N_unused) (sc := defScope st_unused) (by decide +kernel)) (fun _ _ _ _ _ => (sg_tup rfl (sgs_cons (sg_name 5 sc_unused.nd) (sgs_cons (sg_name 6 sc_unused.nd) sgs_nil)))) (fun _ _ _ _ _ => sts_nil) (fun _ _ _ _ _ => (se_sub (se_ix (sv 5) se_int) (sv 6))) (by decide))) sa_nil))))))⟩
theorem ok_unused (T : Tx K mg z) : FnOk P w K mg base CX0 6 z.a_unused z.d_unused P_unused (spD K (wldS K) true 2 m_unused) :=
  fun_okD T.f_unused sc_unused (wldS K) true m_unused w_unused (fun _ _ _ _ _ _ hr _ _ _ _ _ => b_unused T hr) l_unused
end
def lef (su : List T3) (ne : List T2) (day later : Int) (k : Nat) : Int := if fst3 su k ≤ day ∧ later ≤ last3 su k then cnt3 su k - tot (atS k) (serv su (upTo ne day)) else 0
def m_left_on : MD Sto := fun ds s Q => ∃ vs vn su ne day later, ds = [vs, vn, .int day, .int later] ∧ isL t3 vs su ∧ isL t2 vn ne ∧ SuOk su ∧ NeOk ne ∧ isF su ne ∧ Q (.int (sm (lef su ne day later) (List.range su.length))) s

def wb_left_on_1 : WS Sto := (wIf (wAnd (wB (wBin (dIb fun i j => decide (i ≤ j)) (wBin dIx (wVar 10) (wC (.int 0))) (wVar 2))) (wB (wBin (dIb fun i j => decide (j ≤ i)) (wBin dIx (wVar 10) (wC (.int 1))) (wVar 3))))
  (wAug 9 (dIi (· + ·)) (wBin (dIi (· - ·)) (wBin dIx (wVar 10) (wC (.int 2))) (wVar 11)))
  wNext)
def w_left_on : WS Sto := (wSeq (wAsg (wCallF 2 m_check_both (wCons (wVar 0) (wCons (wVar 1) wNil))) (wGTup [(wName 4), (wName 5)]))
  (wSeq (wSet 6 (wCallB dTuple (wCons (wNew (wLc [7] (wIter (wVar 5)) (wName 7) (wB (wBin (dIb fun i j => decide (i ≤ j)) (wBin dIx (wVar 7) (wC (.int 0))) (wVar 2))) (wVar 7))) wNil)))
  (wSeq (wSet 8 (wCallF 3 m_taken_of (wCons (wCallF 2 m_serving_of (wCons (wVar 4) (wCons (wVar 6) wNil))) (wCons (wC (.int 1)) (wCons (wCallB dLenA (wCons (wVar 4) wNil)) wNil)))))
  (wSeq (wSet 9 (wC (.int 0)))
  (wSeq (wFor (wZipA (wConsU (wVar 4) (wConsU (wVar 8) wNil))) (wGTup [(wName 10), (wName 11)])
  wb_left_on_1)
  (wRet true (wVar 9)))))))
theorem NeOk.upTo {ne : List T2} (h : NeOk ne) (d : Int) : NeOk (upTo ne d) := by
  refine ⟨?_, fun y hy => h.2 y (List.mem_filter.mp hy).1⟩
  have h1 := List.length_filter_le (fun y : T2 => decide (y.1 ≤ d)) ne
  have h2 := h.1
  show (ne.filter fun y => decide (y.1 ≤ d)).length ≤ 12
  omega
theorem sm_succ {f : Nat → Int} {n : Nat} : sm f (List.range (n + 1)) = sm f (List.range n) + f n := by
  rw [List.range_succ, sm_app]
  simp only [sm]
  omega
theorem l_left_on : ∀ ds s Q, ds.length = P_left_on.length → m_left_on ds s Q → w_left_on { nx := fun _ s' => Q .non s', rt := Q } (Ld.start N_left_on.length ds) s := by
  rintro ds s Q hl ⟨vs, vn, su, ne, day, later, rfl, hvs, hvn, hsu, hne, hF, q⟩
  have hsl := hsu.1
  have hnl := hne.1
  unfold w_left_on
  walk_at "gi"
  refine ⟨vs, vn, su, ne, rfl, hvs, hvn, hsu, hne, hF, ?_⟩
  walk_at "gi"
  refine lc_filt (g := t2) (xs := ne) t2 (fun y => decide (y.1 ≤ day)) (by omega) (fun x hx acc g ha hg => ?_) ?_
  · walk_at "gi"
    · rename_i h
      rw [decide_eq_true h, if_pos rfl] at hg
      exact hg
    · rename_i h
      rw [decide_eq_false h, if_neg (by decide)] at hg
      exact hg
  rw [show ne.filter (fun y => decide (y.1 ≤ day)) = upTo ne day from rfl]
  walk_at "gi"
  refine ⟨su, _, rfl, hsu, hne.upTo day, ?_⟩
  walk_at "gi"
  refine ⟨_, su.length, rfl, hsl, serv_inS hsu (hne.upTo day), ?_⟩
  walk_at "gi"
  rw [zip_su]
  refine for_map (g := fun (i : Nat) => .tup [t3 (su.getD i z3), .int (tot (atS i) (serv su (upTo ne day)))]) (xs := List.range su.length) (fun j ρ s' => s = s' ∧ ∃ x7 x10 x11, ρ = [.val vs, .val vn, .val (.int day), .val (.int later), .val (.tup (su.map t3)), .val (.tup (ne.map t2)), .val (.tup ((upTo ne day).map t2)), x7, .val (.lst ((List.range su.length).map fun i => .int (tot (atS i) (serv su (upTo ne day))))), .val (.int (sm (lef su ne day later) (List.range j))), x10, x11]) ⟨rfl, _, _, _, rfl⟩ ?_ ?_
  · rintro j k ρ s' g hj ⟨rfl, x7, x10, x11, rfl⟩ hg
    have hk : k = j ∧ j < su.length := by
      obtain ⟨h1, h2⟩ := List.getElem?_eq_some_iff.mp hj
      rw [List.getElem_range] at h2
      rw [List.length_range] at h1
      exact ⟨h2.symm, h1⟩
    obtain ⟨rfl, hk⟩ := hk
    rw [sm_succ] at hg
    walk_at "gi"
    refine wb_i wb_left_on_1.eq_1 ?_
    walk_at "gi"
    · have e : lef su ne day later k = (su.getD k z3).2.2 - tot (atS k) (serv su (upTo ne day)) := if_pos ⟨by assumption, by assumption⟩
      rw [e] at hg
      exact hg _ _ ⟨rfl, _, _, _, rfl⟩
    all_goals
      have e : lef su ne day later k = 0 := if_neg (by unfold fst3 last3; omega)
      rw [e, Int.add_zero] at hg
      exact hg _ _ ⟨rfl, _, _, _, rfl⟩
  · rintro ρ s' ⟨rfl, x7, x10, x11, rfl⟩
    rw [List.length_range]
    walk_at "gi"
    exact q

section
variable {P : Program} {w : World} {K : PySem.W.Frag} {mg : Str → Option Value} {base : Heap} {z : Ad}
theorem b_left_on (T : Tx K mg z) {cdv : Value} {A : Around} {outer : List PySem.Env} {s : Shared} {H0 : Hp} {E : XK} (hr : Room (5) (A.deeper (envOfC "left_on" (defScope st_left_on) s.heap.objs.size z.a_left_on cdv))) {F H : Hp} {W : Addr → Prop} {h1 : ∀ a o, F a = some o → H a = some o} {h2 : ∃ s, (wldS K).Wd s W H} :
    ∃ t, SSs (cxD P w K mg base N_left_on "left_on" (defScope st_left_on) z.a_left_on cdv A outer s H0 E) (mkB K (wldS K) true F H W h1 h2) (defBody st_left_on) t (w_left_on) :=
  have hu := hr.units
  ⟨_, (ss_cons (s_asg (se_callF (ok_check_both T) (hr.mono (by decide)) T.g_check_both T.f_check_both.kp T.n_check_both (sa_cons (sv 0) (sa_cons (sv 1) sa_nil))) (sg_tup rfl (sgs_cons (sg_name 4 sc_left_on.nd) (sgs_cons (sg_name 5 sc_left_on.nd) sgs_nil))))
  (ss_cons (s_set 6 sc_left_on.nd (se_tuplec T.b_tuple (sa_cons (SN.e (sn_lc (own := [("need", 7)]) rfl sc_left_on.nd (si_seq (sv 5)) (blkOk_by (N := N_left_on) (sc := defScope st_left_on) (by decide +kernel)) (fun _ _ _ _ _ => (sg_name 7 sc_left_on.nd)) (fun _ _ _ _ _ => (sts_one (st_cmp op_le rule_Ib (nobehind _ (by decide) (by decide)) (se_ix (sv 7) se_int) (sv 2)))) (fun _ _ _ _ _ => (sv 7)) (by decide))) sa_nil)))
  (ss_cons (s_set 8 sc_left_on.nd (se_callF (ok_taken_of T) (hr.mono (by decide)) T.g_taken_of T.f_taken_of.kp T.n_taken_of (sa_cons (se_callF (ok_serving_of T) (hr.mono (by decide)) T.g_serving_of T.f_serving_of.kp T.n_serving_of (sa_cons (sv 4) (sa_cons (sv 6) sa_nil))) (sa_cons se_int (sa_cons (se_len T.b_len (sa_cons (sv 4) sa_nil)) sa_nil)))))
  (ss_cons (s_set 9 sc_left_on.nd se_int)
  (ss_cons (s_for PassesOwn.never rfl (si_zipA T.b_zip (sa_consU (sv 4) (sa_consU (sv 8) sa_nil))) (sg_tup rfl (sgs_cons (sg_name 10 sc_left_on.nd) (sgs_cons (sg_name 11 sc_left_on.nd) sgs_nil)))
  (ss_one (s_if (st_w (sw_and (st_cmp op_le rule_Ib (nobehind _ (by decide) (by decide)) (se_ix (sv 10) se_int) (sv 2)) (sw_and1 (st_cmp op_ge rule_Ib (nobehind _ (by decide) (by decide)) (se_ix (sv 10) se_int) (sv 3)))))
  (ss_one (s_aug 9 iop_add (rule_Ii (f := (· + ·))) sc_left_on.nd (se_sub (se_ix (sv 10) se_int) (sv 11))))
  ss_nil)))
  (ss_one (s_ret (sv 9))))))))⟩
theorem ok_left_on (T : Tx K mg z) : FnOk P w K mg base CX0 6 z.a_left_on z.d_left_on P_left_on (spD K (wldS K) true 4 m_left_on) :=
  fun_okD T.f_left_on sc_left_on (wldS K) true m_left_on w_left_on (fun _ _ _ _ _ _ hr _ _ _ _ _ => b_left_on T hr) l_left_on
end
def m__law_draw : MD Sto := fun ds s Q => ∃ f n, ds = [.ref f, .int n] ∧ BagOk f s ∧ 0 < n ∧ n ≤ 1000000000 ∧ ∀ k s', 0 ≤ k → k < n → BagOk f s' → Q (.int k) s'

def w__law_draw : WS Sto := (wSeq (wSet 2 (wCallB dInt (wCons (wGet (wVar 0) (wC (.int 1))) wNil)))
  (wSeq (wSetW 0 (wBin dAdd (wVar 2) (wC (.int 1))) (wC (.int 1)))
  (wSeq (wSet 3 (wGet (wVar 0) (wC (.int 0))))
  (wSeq (wSet 4 (wC (.int 0)))
  (wSeq (wIf (wB (wBin (dIb fun i j => decide (j < i)) (wLenW (wCons (wVar 3) wNil)) (wC (.int 0))))
  (wSeq (wSet 5 (wBin dModI (wVar 2) (wLenW (wCons (wVar 3) wNil))))
  (wSeq (wSet 6 (wCallB dInt (wCons (wGet (wVar 3) (wVar 5)) wNil)))
  (wSeq (wIf (wB (wBin (dIb fun i j => decide (j ≤ i)) (wVar 6) (wBin dPowI (wC (.int 10)) (wC (.int 18)))))
  (wSeq (wSetW 3 (wBin dDivI (wVar 6) (wC (.int 1000003))) (wVar 5))
  (wRet true (wBin dModI (wBin dModI (wVar 6) (wC (.int 1000003))) (wVar 1))))
  wNext)
  (wSet 4 (wBin dModI (wVar 6) (wC (.int 1000003)))))))
  wNext)
  (wSeq (wSet 4 (wBin dModI (wBin dAdd (wBin dAdd (wBin dMul (wVar 4) (wC (.int 48271))) (wBin dMul (wVar 2) (wC (.int 69621)))) (wC (.int 12345))) (wC (.int 1000003))))
  (wRet true (wBin dModI (wBin dModI (wBin dAdd (wBin dAdd (wBin dMul (wVar 4) (wVar 4)) (wBin dMul (wC (.int 31)) (wVar 4))) (wBin dMul (wVar 2) (wC (.int 7919)))) (wC (.int 999983))) (wVar 1)))))))))
theorem l__law_draw : ∀ ds s Q, ds.length = P__law_draw.length → m__law_draw ds s Q → w__law_draw { nx := fun _ s' => Q .non s', rt := Q } (Ld.start N__law_draw.length ds) s := by
  rintro ds s Q hl ⟨f, n, rfl, ⟨a, cells, x, h, hx⟩, hn, hn2, q⟩
  unfold w__law_draw
  repeat' (first
    | (with_reducible refine And.intro ?_ ?_; (focus (walk_at "sd"; done)))
    | with_reducible refine ite_i (fun _ => ?_) (fun _ => ?_)
    | with_reducible refine Bt.b0 (by assumption) ?_
    | with_reducible refine Bt.b1 (by assumption) ?_
    | with_reducible refine Bt.bl (by assumption) ?_
    | with_reducible refine Bt.bc (by assumption) ?_
    | with_reducible refine Bt.s1 (by assumption) (fun _ _ => ?_)
    | with_reducible refine And.intro ⟨Int.emod_nonneg _ (by omega), Int.emod_lt_of_pos _ (by omega)⟩ ?_
    | with_reducible refine Bt.sc (by assumption) ⟨⟨Int.emod_nonneg _ (by omega), Int.emod_lt_of_pos _ (by omega)⟩, fun _ _ => ?_⟩
    | walk_at "st")
  all_goals refine q _ _ (Int.emod_nonneg _ (by omega)) (Int.emod_lt_of_pos _ hn) ⟨_, _, _, by assumption, by omega⟩

section
variable {P : Program} {w : World} {K : PySem.W.Frag} {mg : Str → Option Value} {base : Heap} {z : Ad}
theorem b__law_draw (T : Tx K mg z) {cdv : Value} {A : Around} {outer : List PySem.Env} {s : Shared} {H0 : Hp} {E : XK} (hr : Room (0) (A.deeper (envOfC "_law_draw" (defScope st__law_draw) s.heap.objs.size z.a__law_draw cdv))) {F H : Hp} {W : Addr → Prop} {h1 : ∀ a o, F a = some o → H a = some o} {h2 : ∃ s, (wldS K).Wd s W H} :
    ∃ t, SSs (cxD P w K mg base N__law_draw "_law_draw" (defScope st__law_draw) z.a__law_draw cdv A outer s H0 E) (mkB K (wldS K) true F H W h1 h2) (defBody st__law_draw) t (w__law_draw) :=
  have hu := hr.units
  ⟨_, (ss_cons (s_set 2 sc__law_draw.nd (se_intc T.b_int (sa_cons (se_get rfl (sv 0) se_int) sa_nil)))
  (ss_cons (s_setW rfl 0 (se_add (sv 2) se_int) se_int (sv 0))
  (ss_cons (s_set 3 sc__law_draw.nd (se_get rfl (sv 0) se_int))
  (ss_cons (s_set 4 sc__law_draw.nd se_int)
  (ss_cons (s_if (st_cmp op_gt rule_Ib (nobehind _ (by decide) (by decide)) (se_lenW rfl T.b_len (sa_cons (sv 3) sa_nil)) se_int)
  (ss_cons (s_set 5 sc__law_draw.nd (se_mod (sv 2) (se_lenW rfl T.b_len (sa_cons (sv 3) sa_nil))))
  (ss_cons (s_set 6 sc__law_draw.nd (se_intc T.b_int (sa_cons (se_get rfl (sv 3) (sv 5)) sa_nil)))
  (ss_cons (s_if (st_cmp op_ge rule_Ib (nobehind _ (by decide) (by decide)) (sv 6) (se_pow se_int se_int))
  (ss_cons (s_setW rfl 3 (se_fdiv (sv 6) se_int) (sv 5) (sv 3))
  (ss_one (s_ret (se_mod (se_mod (sv 6) se_int) (sv 1)))))
  ss_nil)
  (ss_one (s_set 4 sc__law_draw.nd (se_mod (sv 6) se_int))))))
  ss_nil)
  (ss_cons (s_set 4 sc__law_draw.nd (se_mod (se_add (se_add (se_mul (sv 4) se_int) (se_mul (sv 2) se_int)) se_int) se_int))
  (ss_one (s_ret (se_mod (se_mod (se_add (se_add (se_mul (sv 4) (sv 4)) (se_mul se_int (sv 4))) (se_mul (sv 2) se_int)) se_int) (sv 1))))))))))⟩
theorem ok__law_draw (T : Tx K mg z) : FnOk P w K mg base CX0 1 z.a__law_draw z.d__law_draw P__law_draw (spD K (wldS K) true 2 m__law_draw) :=
  fun_okD T.f__law_draw sc__law_draw (wldS K) true m__law_draw w__law_draw (fun _ _ _ _ _ _ hr _ _ _ _ _ => b__law_draw T hr) l__law_draw
end
def m__law_number : MD Sto := fun ds s Q => ∃ a : Int, ds = [.int a, .int a] ∧ Q (.bl true) s

def w__law_number : WS Sto := (wRet true (wAndV (wCallB dIsi (wCons (wVar 0) (wCons (wC (.ty "int")) wNil))) (wAndV (wNotV (wCallB dIsi (wCons (wVar 0) (wCons (wC (.ty "bool")) wNil)))) (wBin dEq (wVar 0) (wVar 1)))))
theorem l__law_number : ∀ ds s Q, ds.length = P__law_number.length → m__law_number ds s Q → w__law_number { nx := fun _ s' => Q .non s', rt := Q } (Ld.start N__law_number.length ds) s := by
  rintro ds s Q hl ⟨a, rfl, q⟩
  unfold w__law_number
  walk_at "gi"
  exact q

section
variable {P : Program} {w : World} {K : PySem.W.Frag} {mg : Str → Option Value} {base : Heap} {z : Ad}
theorem b__law_number (T : Tx K mg z) {cdv : Value} {A : Around} {outer : List PySem.Env} {s : Shared} {H0 : Hp} {E : XK} (hr : Room (0) (A.deeper (envOfC "_law_number" (defScope st__law_number) s.heap.objs.size z.a__law_number cdv))) {F H : Hp} {W : Addr → Prop} {h1 : ∀ a o, F a = some o → H a = some o} {h2 : ∃ s, (wldS K).Wd s W H} :
    ∃ t, SSs (cxD P w K mg base N__law_number "_law_number" (defScope st__law_number) z.a__law_number cdv A outer s H0 E) (mkB K (wldS K) true F H W h1 h2) (defBody st__law_number) t (w__law_number) :=
  have hu := hr.units
  ⟨_, (ss_one (s_ret (se_and (se_isi T.b_isinstance (sa_cons (sv 0) (sa_cons (se_bltn T.b_int (by decide +kernel)) sa_nil))) (se_and (se_not (se_isi T.b_isinstance (sa_cons (sv 0) (sa_cons (se_bltn T.b_bool (by decide +kernel)) sa_nil)))) (se_one (se_cmp (op_eqB hu) rule_eq (nobehind _ (by decide) (by decide)) (sv 0) (sv 1)))))))⟩
theorem ok__law_number (T : Tx K mg z) : FnOk P w K mg base CX0 1 z.a__law_number z.d__law_number P__law_number (spD K (wldS K) true 2 m__law_number) :=
  fun_okD T.f__law_number sc__law_number (wldS K) true m__law_number w__law_number (fun _ _ _ _ _ _ hr _ _ _ _ _ => b__law_number T hr) l__law_number
end
def m__law_numbers : MD Sto := fun ds s Q => ∃ (xs : List Int) (v : D), ds = [.tup (xs.map .int), v] ∧ xs.length ≤ 1000 ∧ isL .int v xs ∧ Q (.bl true) s

def wb__law_numbers_1 : WS Sto := (wIf (wNot (wB (wCallF 2 m__law_number (wCons (wBin dIx (wVar 0) (wVar 2)) (wCons (wBin dIx (wVar 1) (wVar 2)) wNil)))))
  (wRet true (wC (.bl false)))
  wNext)
def w__law_numbers : WS Sto := (wSeq (wIf (wOr (wNot (wB (wCallB dIsi (wCons (wVar 0) (wCons (wC (.ty "tuple")) wNil))))) (wB (wBin dNe (wCallB dLenA (wCons (wVar 0) wNil)) (wCallB dLenA (wCons (wVar 1) wNil)))))
  (wRet true (wC (.bl false)))
  wNext)
  (wSeq (wFor (wRange (wCons (wCallB dLenA (wCons (wVar 1) wNil)) wNil)) (wName 2)
  wb__law_numbers_1)
  (wRet true (wC (.bl true)))))
theorem l__law_numbers : ∀ ds s Q, ds.length = P__law_numbers.length → m__law_numbers ds s Q → w__law_numbers { nx := fun _ s' => Q .non s', rt := Q } (Ld.start N__law_numbers.length ds) s := by
  rintro ds s Q hl ⟨xs, v, rfl, hn, hv, q⟩
  unfold w__law_numbers
  rcases hv with rfl | rfl
  all_goals
    walk_at "gi"
    refine for_upto0 (fun j ρ s' => s = s' ∧ ∃ v x2, ρ = [.val (.tup (xs.map .int)), .val v, x2] ∧ isL D.int v xs) (by first | exact ⟨rfl, _, _, rfl, .inl rfl⟩ | exact ⟨rfl, _, _, rfl, .inr rfl⟩) ?_ ?_
    · rintro j ρ s' g hj ⟨rfl, v, x2, rfl, hv⟩ hg
      refine wb_i wb__law_numbers_1.eq_1 ?_
      rcases hv with rfl | rfl
      all_goals
        walk_at "gi"
        refine ⟨_, rfl, ?_⟩
        walk_at "gi"
        first | exact hg _ _ ⟨rfl, _, _, rfl, .inl rfl⟩ | exact hg _ _ ⟨rfl, _, _, rfl, .inr rfl⟩
    · rintro ρ s' ⟨rfl, v, x2, rfl, hv⟩
      walk_at "gi"
      exact q

section
variable {P : Program} {w : World} {K : PySem.W.Frag} {mg : Str → Option Value} {base : Heap} {z : Ad}
theorem b__law_numbers (T : Tx K mg z) {cdv : Value} {A : Around} {outer : List PySem.Env} {s : Shared} {H0 : Hp} {E : XK} (hr : Room (1) (A.deeper (envOfC "_law_numbers" (defScope st__law_numbers) s.heap.objs.size z.a__law_numbers cdv))) {F H : Hp} {W : Addr → Prop} {h1 : ∀ a o, F a = some o → H a = some o} {h2 : ∃ s, (wldS K).Wd s W H} :
    ∃ t, SSs (cxD P w K mg base N__law_numbers "_law_numbers" (defScope st__law_numbers) z.a__law_numbers cdv A outer s H0 E) (mkB K (wldS K) true F H W h1 h2) (defBody st__law_numbers) t (w__law_numbers) :=
  have hu := hr.units
  ⟨_, (ss_cons (s_if (st_w (sw_or (st_not (st_val (se_isi T.b_isinstance (sa_cons (sv 0) (sa_cons (se_bltn T.b_tuple (by decide +kernel)) sa_nil))))) (sw_or1 (st_cmp (op_neB hu) rule_ne (nobehind _ (by decide) (by decide)) (se_len T.b_len (sa_cons (sv 0) sa_nil)) (se_len T.b_len (sa_cons (sv 1) sa_nil))))))
  (ss_one (s_ret se_bl))
  ss_nil)
  (ss_cons (s_for PassesOwn.never rfl (si_range1 T.b_range (se_len T.b_len (sa_cons (sv 1) sa_nil))) (sg_name 2 sc__law_numbers.nd)
  (ss_one (s_if (st_not (st_val (se_callF (ok__law_number T) (hr.mono (by decide)) T.g__law_number T.f__law_number.kp T.n__law_number (sa_cons (se_ix (sv 0) (sv 2)) (sa_cons (se_ix (sv 1) (sv 2)) sa_nil)))))
  (ss_one (s_ret se_bl))
  ss_nil)))
  (ss_one (s_ret se_bl))))⟩
theorem ok__law_numbers (T : Tx K mg z) : FnOk P w K mg base CX0 2 z.a__law_numbers z.d__law_numbers P__law_numbers (spD K (wldS K) true 2 m__law_numbers) :=
  fun_okD T.f__law_numbers sc__law_numbers (wldS K) true m__law_numbers w__law_numbers (fun _ _ _ _ _ _ hr _ _ _ _ _ => b__law_numbers T hr) l__law_numbers
end
def m__law_triples : MD Sto := fun ds s Q => ∃ ts : List T3, ds = [.tup (ts.map t3), .lst (ts.map t3)] ∧ ts.length ≤ 1000 ∧ Q (.bl true) s

def wb__law_triples_1 : WS Sto := (wIf (wNot (wB (wCallF 2 m__law_numbers (wCons (wBin dIx (wVar 0) (wVar 2)) (wCons (wBin dIx (wVar 1) (wVar 2)) wNil)))))
  (wRet true (wC (.bl false)))
  wNext)
def w__law_triples : WS Sto := (wSeq (wIf (wOr (wNot (wB (wCallB dIsi (wCons (wVar 0) (wCons (wC (.ty "tuple")) wNil))))) (wB (wBin dNe (wCallB dLenA (wCons (wVar 0) wNil)) (wCallB dLenA (wCons (wVar 1) wNil)))))
  (wRet true (wC (.bl false)))
  wNext)
  (wSeq (wFor (wRange (wCons (wCallB dLenA (wCons (wVar 1) wNil)) wNil)) (wName 2)
  wb__law_triples_1)
  (wRet true (wC (.bl true)))))
theorem l__law_triples : ∀ ds s Q, ds.length = P__law_triples.length → m__law_triples ds s Q → w__law_triples { nx := fun _ s' => Q .non s', rt := Q } (Ld.start N__law_triples.length ds) s := by
  rintro ds s Q hl ⟨ts, rfl, hn, q⟩
  unfold w__law_triples
  walk_at "gi"
  refine for_upto0 (fun j ρ s' => s = s' ∧ ∃ x2, ρ = [.val (.tup (ts.map t3)), .val (.lst (ts.map t3)), x2]) ⟨rfl, _, rfl⟩ ?_ ?_
  · rintro j ρ s' g hj ⟨rfl, x2, rfl⟩ hg
    refine wb_i wb__law_triples_1.eq_1 ?_
    walk_at "gi"
    refine ixT z3 (by omega) (by omega) ?_
    walk_at "gi"
    refine ixL z3 (by omega) (by omega) ?_
    walk_at "gi"
    refine ⟨[(ts.getD j z3).1, (ts.getD j z3).2.1, (ts.getD j z3).2.2], _, rfl, by simp, .inl rfl, ?_⟩
    walk_at "gi"
    exact hg _ _ ⟨rfl, _, rfl⟩
  · rintro ρ s' ⟨rfl, x2, rfl⟩
    walk_at "gi"
    exact q

section
variable {P : Program} {w : World} {K : PySem.W.Frag} {mg : Str → Option Value} {base : Heap} {z : Ad}
theorem b__law_triples (T : Tx K mg z) {cdv : Value} {A : Around} {outer : List PySem.Env} {s : Shared} {H0 : Hp} {E : XK} (hr : Room (2) (A.deeper (envOfC "_law_triples" (defScope st__law_triples) s.heap.objs.size z.a__law_triples cdv))) {F H : Hp} {W : Addr → Prop} {h1 : ∀ a o, F a = some o → H a = some o} {h2 : ∃ s, (wldS K).Wd s W H} :
    ∃ t, SSs (cxD P w K mg base N__law_triples "_law_triples" (defScope st__law_triples) z.a__law_triples cdv A outer s H0 E) (mkB K (wldS K) true F H W h1 h2) (defBody st__law_triples) t (w__law_triples) :=
  have hu := hr.units
  ⟨_, (ss_cons (s_if (st_w (sw_or (st_not (st_val (se_isi T.b_isinstance (sa_cons (sv 0) (sa_cons (se_bltn T.b_tuple (by decide +kernel)) sa_nil))))) (sw_or1 (st_cmp (op_neB hu) rule_ne (nobehind _ (by decide) (by decide)) (se_len T.b_len (sa_cons (sv 0) sa_nil)) (se_len T.b_len (sa_cons (sv 1) sa_nil))))))
  (ss_one (s_ret se_bl))
  ss_nil)
  (ss_cons (s_for PassesOwn.never rfl (si_range1 T.b_range (se_len T.b_len (sa_cons (sv 1) sa_nil))) (sg_name 2 sc__law_triples.nd)
  (ss_one (s_if (st_not (st_val (se_callF (ok__law_numbers T) (hr.mono (by decide)) T.g__law_numbers T.f__law_numbers.kp T.n__law_numbers (sa_cons (se_ix (sv 0) (sv 2)) (sa_cons (se_ix (sv 1) (sv 2)) sa_nil)))))
  (ss_one (s_ret se_bl))
  ss_nil)))
  (ss_one (s_ret se_bl))))⟩
theorem ok__law_triples (T : Tx K mg z) : FnOk P w K mg base CX0 3 z.a__law_triples z.d__law_triples P__law_triples (spD K (wldS K) true 2 m__law_triples) :=
  fun_okD T.f__law_triples sc__law_triples (wldS K) true m__law_triples w__law_triples (fun _ _ _ _ _ _ hr _ _ _ _ _ => b__law_triples T hr) l__law_triples
end
def m__law_supplies : MD Sto := fun ds s Q => ∃ (f : Addr) (kind : Int), ds = [.ref f, .int kind] ∧ BagOk f s ∧ ∀ su s', SuOk su → su ≠ [] → BagOk f s' → Q (.lst (su.map t3)) s'

def wb__law_supplies_1 : WS Sto := (wSeq (wIf (wB (wBin dEq (wVar 1) (wC (.int 0))))
  (wSeq (wSet 4 (wCallF 2 m__law_draw (wCons (wVar 0) (wCons (wC (.int 7)) wNil))))
  (wDrop (wMutK 2 fApp (wConsU (wTup (wConsU (wVar 4) (wConsU (wBin dAdd (wVar 4) (wCallF 2 m__law_draw (wCons (wVar 0) (wCons (wC (.int 5)) wNil)))) (wConsU (wBin dAdd (wC (.int 1)) (wCallF 2 m__law_draw (wCons (wVar 0) (wCons (wC (.int 9)) wNil)))) wNil)))) wNil))))
  (wSeq (wSet 4 (wCallF 2 m__law_draw (wCons (wVar 0) (wCons (wC (.int 100)) wNil))))
  (wDrop (wMutK 2 fApp (wConsU (wTup (wConsU (wVar 4) (wConsU (wBin dAdd (wVar 4) (wCallF 2 m__law_draw (wCons (wVar 0) (wCons (wBin (dIi (· - ·)) (wC (.int 100)) (wVar 4)) wNil)))) (wConsU (wBin dAdd (wC (.int 1)) (wCallF 2 m__law_draw (wCons (wVar 0) (wCons (wC (.int 999)) wNil)))) wNil)))) wNil)))))
  (wIf (wB (wBin dEq (wVar 1) (wC (.int 2))))
  (wSetIx 2 (wBin dIx (wVar 2) (wCallF 2 m__law_draw (wCons (wVar 0) (wCons (wBin dAdd (wVar 3) (wC (.int 1))) wNil)))) (wVar 3))
  wNext))
def w__law_supplies : WS Sto := (wSeq (wOwn 2 (wLst wNil))
  (wSeq (wFor (wRange (wCons (wBin (dIi (· - ·)) (wBin dIx (wNew (wLst (wConsU (wC (.int 3)) (wConsU (wC (.int 6)) (wConsU (wC (.int 12)) wNil))))) (wCallF 2 m__law_draw (wCons (wVar 0) (wCons (wC (.int 3)) wNil)))) (wCallF 2 m__law_draw (wCons (wVar 0) (wCons (wC (.int 3)) wNil)))) wNil)) (wName 3)
  wb__law_supplies_1)
  (wRet true (wVar 2))))
theorem l__law_supplies : ∀ ds s Q, ds.length = P__law_supplies.length → m__law_supplies ds s Q → w__law_supplies { nx := fun _ s' => Q .non s', rt := Q } (Ld.start N__law_supplies.length ds) s := by
  rintro ds s Q hl ⟨f, kind, rfl, hf, q⟩
  unfold w__law_supplies
  walk_at "gi"
  refine ⟨f, 3, rfl, hf, by omega, by omega, fun a s1 a1 a2 hf => ?_⟩
  walk_at "gi"
  refine ⟨f, 3, rfl, hf, by omega, by omega, fun b s1 b1 b2 hf => ?_⟩
  walk_at "gi"
  have hm : 3 ≤ [3, 6, 12].getD a.toNat (0 : Int) ∧ [3, 6, 12].getD a.toNat (0 : Int) ≤ 12 := by
    rcases (by omega : a.toNat = 0 ∨ a.toNat = 1 ∨ a.toNat = 2) with h | h | h <;> rw [h] <;> decide
  generalize [3, 6, 12].getD a.toNat (0 : Int) = m at hm ⊢
  obtain ⟨n, hnm⟩ : ∃ n : Nat, m - b = n := ⟨(m - b).toNat, by omega⟩
  rw [hnm]
  walk_at "gi"
  refine for_upto0 (fun j ρ s' => BagOk f s' ∧ ∃ su : List T3, su.length = j ∧ (∀ x ∈ su, 0 ≤ x.1 ∧ x.1 ≤ x.2.1 ∧ x.2.1 ≤ 99 ∧ 1 ≤ x.2.2 ∧ x.2.2 ≤ 999) ∧ ∃ x3 x4, ρ = [.val (.ref f), .val (.int kind), .own (.lst (su.map t3)), x3, x4]) ⟨hf, [], rfl, by simp, _, _, rfl⟩ ?_ ?_
  · rintro j ρ s' g hj ⟨hf, su, hsl, hsu, x3, x4, rfl⟩ hg
    refine wb_i wb__law_supplies_1.eq_1 ?_
    have fin : ∀ (t : T3) s' x3 x4, BagOk f s' → (0 ≤ t.1 ∧ t.1 ≤ t.2.1 ∧ t.2.1 ≤ 99 ∧ 1 ≤ t.2.2 ∧ t.2.2 ≤ 999) → g [.val (.ref f), .val (.int kind), .own (.lst ((su ++ [t]).map t3)), x3, x4] s' := fun t s' x3 x4 hf ht => hg _ _ ⟨hf, su ++ [t], by simp [hsl], fun x hx => by
      rcases List.mem_append.mp hx with hx | hx
      · exact hsu x hx
      · rw [List.mem_singleton] at hx
        subst hx
        exact ht, _, _, rfl⟩
    walk_at "gi"
    · refine ⟨f, 7, rfl, hf, by omega, by omega, fun x s1 x1 x2 hf => ?_⟩
      walk_at "gi"
      refine ⟨f, 5, rfl, hf, by omega, by omega, fun y s1 y1 y2 hf => ?_⟩
      walk_at "gi"
      refine ⟨f, 9, rfl, hf, by omega, by omega, fun z s1 z1 z2 hf => ?_⟩
      walk_at "gi"
      all_goals rw [show D.tup [D.int x, D.int (x + y), D.int (1 + z)] = t3 (x, x + y, 1 + z) from rfl, map_cons_app]
      · omega
      · exact fin _ _ _ _ hf (by simp only; omega)
    · refine ⟨f, 100, rfl, hf, by omega, by omega, fun x s1 x1 x2 hf => ?_⟩
      walk_at "gi"
      refine ⟨f, _, rfl, hf, by omega, by omega, fun y s1 y1 y2 hf => ?_⟩
      walk_at "gi"
      refine ⟨f, 999, rfl, hf, by omega, by omega, fun z s1 z1 z2 hf => ?_⟩
      walk_at "gi"
      all_goals rw [show D.tup [D.int x, D.int (x + y), D.int (1 + z)] = t3 (x, x + y, 1 + z) from rfl, map_cons_app]
      · refine ⟨f, _, rfl, hf, by omega, by omega, fun k s1 k1 k2 hf => ?_⟩
        walk_at "gi"
        refine ixL z3 (by omega) (by rw [List.length_append, List.length_singleton]; omega) ?_
        have ht := mem_getD (p := fun x : T3 => 0 ≤ x.1 ∧ x.1 ≤ x.2.1 ∧ x.2.1 ≤ 99 ∧ 1 ≤ x.2.2 ∧ x.2.2 ≤ 999) (xs := su ++ [(x, x + y, 1 + z)]) (x0 := z3) (i := k.toNat) (fun t ht => by
          rcases List.mem_append.mp ht with ht | ht
          · exact hsu t ht
          · rw [List.mem_singleton] at ht
            subst ht
            simp only
            omega) (by rw [List.length_append, List.length_singleton]; omega)
        generalize (su ++ [(x, x + y, 1 + z)]).getD k.toNat z3 = t at ht ⊢
        walk_at "gi"
        refine ixN_i (by omega) (by rw [List.length_append, List.length_singleton]; omega) ?_
        rw [show ((su ++ [(x, x + y, 1 + z)]).map t3).set ((j : Int)).toNat (D.tup [D.int t.1, D.int t.2.1, D.int t.2.2]) = (su ++ [t]).map t3 by
          rw [Int.toNat_natCast, List.map_append, List.map_append, List.set_append_right _ _ (by simp; omega)]
          simp [hsl]
          rfl]
        exact fin _ _ _ _ hf ht
      · exact fin _ _ _ _ hf (by simp only; omega)
  · rintro ρ s' ⟨hf, su, hsl, hsu, x3, x4, rfl⟩
    walk_at "gi"
    refine ⟨imms_t3 _, q su s' ⟨by omega, hsu⟩ (fun e => by subst e; simp at hsl; omega) hf⟩

section
variable {P : Program} {w : World} {K : PySem.W.Frag} {mg : Str → Option Value} {base : Heap} {z : Ad}
theorem b__law_supplies (T : Tx K mg z) {cdv : Value} {A : Around} {outer : List PySem.Env} {s : Shared} {H0 : Hp} {E : XK} (hr : Room (1) (A.deeper (envOfC "_law_supplies" (defScope st__law_supplies) s.heap.objs.size z.a__law_supplies cdv))) {F H : Hp} {W : Addr → Prop} {h1 : ∀ a o, F a = some o → H a = some o} {h2 : ∃ s, (wldS K).Wd s W H} :
    ∃ t, SSs (cxD P w K mg base N__law_supplies "_law_supplies" (defScope st__law_supplies) z.a__law_supplies cdv A outer s H0 E) (mkB K (wldS K) true F H W h1 h2) (defBody st__law_supplies) t (w__law_supplies) :=
  have hu := hr.units
  ⟨_, (ss_cons (s_own 2 sc__law_supplies.nd (sn_lst sa_nil))
  (ss_cons (s_for PassesOwn.never rfl (si_range1 T.b_range (se_sub (se_ix (SN.e (sn_lst (sa_consU se_int (sa_consU se_int (sa_consU se_int sa_nil))))) (se_callF (ok__law_draw T) (hr.mono (by decide)) T.g__law_draw T.f__law_draw.kp T.n__law_draw (sa_cons (sv 0) (sa_cons se_int sa_nil)))) (se_callF (ok__law_draw T) (hr.mono (by decide)) T.g__law_draw T.f__law_draw.kp T.n__law_draw (sa_cons (sv 0) (sa_cons se_int sa_nil))))) (sg_name 3 sc__law_supplies.nd)
  (ss_cons (s_if (st_cmp (op_eqB hu) rule_eq (nobehind _ (by decide) (by decide)) (sv 1) se_int)
  (ss_cons (s_set 4 sc__law_supplies.nd (se_callF (ok__law_draw T) (hr.mono (by decide)) T.g__law_draw T.f__law_draw.kp T.n__law_draw (sa_cons (sv 0) (sa_cons se_int sa_nil))))
  (ss_one (s_expr (se_app 2 (sv 2) (sa_consU (se_tup (sa_consU (sv 4) (sa_consU (se_add (sv 4) (se_callF (ok__law_draw T) (hr.mono (by decide)) T.g__law_draw T.f__law_draw.kp T.n__law_draw (sa_cons (sv 0) (sa_cons se_int sa_nil)))) (sa_consU (se_add se_int (se_callF (ok__law_draw T) (hr.mono (by decide)) T.g__law_draw T.f__law_draw.kp T.n__law_draw (sa_cons (sv 0) (sa_cons se_int sa_nil)))) sa_nil)))) sa_nil)))))
  (ss_cons (s_set 4 sc__law_supplies.nd (se_callF (ok__law_draw T) (hr.mono (by decide)) T.g__law_draw T.f__law_draw.kp T.n__law_draw (sa_cons (sv 0) (sa_cons se_int sa_nil))))
  (ss_one (s_expr (se_app 2 (sv 2) (sa_consU (se_tup (sa_consU (sv 4) (sa_consU (se_add (sv 4) (se_callF (ok__law_draw T) (hr.mono (by decide)) T.g__law_draw T.f__law_draw.kp T.n__law_draw (sa_cons (sv 0) (sa_cons (se_sub se_int (sv 4)) sa_nil)))) (sa_consU (se_add se_int (se_callF (ok__law_draw T) (hr.mono (by decide)) T.g__law_draw T.f__law_draw.kp T.n__law_draw (sa_cons (sv 0) (sa_cons se_int sa_nil)))) sa_nil)))) sa_nil))))))
  (ss_one (s_if (st_cmp (op_eqB hu) rule_eq (nobehind _ (by decide) (by decide)) (sv 1) se_int)
  (ss_one (s_setIx 2 (se_ix (sv 2) (se_callF (ok__law_draw T) (hr.mono (by decide)) T.g__law_draw T.f__law_draw.kp T.n__law_draw (sa_cons (sv 0) (sa_cons (se_add (sv 3) se_int) sa_nil)))) (sv 3) (sv 2)))
  ss_nil))))
  (ss_one (s_ret (sv 2)))))⟩
theorem ok__law_supplies (T : Tx K mg z) : FnOk P w K mg base CX0 2 z.a__law_supplies z.d__law_supplies P__law_supplies (spD K (wldS K) true 2 m__law_supplies) :=
  fun_okD T.f__law_supplies sc__law_supplies (wldS K) true m__law_supplies w__law_supplies (fun _ _ _ _ _ _ hr _ _ _ _ _ => b__law_supplies T hr) l__law_supplies
end
def m__law_needs : MD Sto := fun ds s Q => ∃ (f : Addr) (kind : Int) (su : List T3), ds = [.ref f, .int kind, .lst (su.map t3)] ∧ BagOk f s ∧ SuOk su ∧ su ≠ [] ∧ ∀ ne s', NeOk ne → BagOk f s' → Q (.lst (ne.map t2)) s'

def wb__law_needs_1 : WS Sto := (wSeq (wSet 5 (wCallF 2 m__law_draw (wCons (wVar 0) (wCons (wBin dAdd (wC (.int 12)) (wBin dMul (wC (.int 88)) (wCallB dInt (wCons (wBin (dIb fun i j => decide (j < i)) (wVar 1) (wC (.int 0))) wNil)))) wNil))))
  (wSeq (wIf (wB (wBin (dIb fun i j => decide (j < i)) (wCallF 2 m__law_draw (wCons (wVar 0) (wCons (wC (.int 3)) wNil))) (wC (.int 0))))
  (wSeq (wSet 6 (wBin dIx (wVar 2) (wCallF 2 m__law_draw (wCons (wVar 0) (wCons (wCallB dLenA (wCons (wVar 2) wNil)) wNil)))))
  (wSet 5 (wBin dAdd (wBin dIx (wVar 6) (wC (.int 0))) (wCallF 2 m__law_draw (wCons (wVar 0) (wCons (wBin dAdd (wBin (dIi (· - ·)) (wBin dIx (wVar 6) (wC (.int 1))) (wBin dIx (wVar 6) (wC (.int 0)))) (wC (.int 1))) wNil))))))
  wNext)
  (wSeq (wSet 7 (wBin dAdd (wC (.int 1)) (wCallF 2 m__law_draw (wCons (wVar 0) (wCons (wBin dAdd (wC (.int 12)) (wBin dMul (wC (.int 600)) (wCallB dInt (wCons (wBin (dIb fun i j => decide (j < i)) (wVar 1) (wC (.int 0))) wNil)))) wNil)))))
  (wSeq (wDrop (wMutK 3 fApp (wConsU (wTup (wConsU (wVar 5) (wConsU (wVar 7) wNil))) wNil)))
  (wIf (wAnd (wB (wBin (dIb fun i j => decide (j < i)) (wVar 4) (wC (.int 0)))) (wB (wBin dEq (wCallF 2 m__law_draw (wCons (wVar 0) (wCons (wC (.int 6)) wNil))) (wC (.int 0)))))
  (wSetIx 3 (wBin dIx (wVar 3) (wBin (dIi (· - ·)) (wVar 4) (wC (.int 1)))) (wVar 4))
  wNext)))))
def w__law_needs : WS Sto := (wSeq (wOwn 3 (wLst wNil))
  (wSeq (wFor (wRange (wCons (wBin (dIi (· - ·)) (wBin dIx (wNew (wLst (wConsU (wC (.int 3)) (wConsU (wC (.int 6)) (wConsU (wC (.int 12)) wNil))))) (wCallF 2 m__law_draw (wCons (wVar 0) (wCons (wC (.int 3)) wNil)))) (wCallF 2 m__law_draw (wCons (wVar 0) (wCons (wC (.int 4)) wNil)))) wNil)) (wName 4)
  wb__law_needs_1)
  (wRet true (wVar 3))))
theorem l__law_needs : ∀ ds s Q, ds.length = P__law_needs.length → m__law_needs ds s Q → w__law_needs { nx := fun _ s' => Q .non s', rt := Q } (Ld.start N__law_needs.length ds) s := by
  rintro ds s Q hl ⟨f, kind, su, rfl, hf, hsu, hsn, q⟩
  have hsl := hsu.1
  have hs0 := List.length_pos_iff.mpr hsn
  unfold w__law_needs
  walk_at "gi"
  refine ⟨f, 3, rfl, hf, by omega, by omega, fun a s1 a1 a2 hf => ?_⟩
  walk_at "gi"
  refine ⟨f, 4, rfl, hf, by omega, by omega, fun b s1 b1 b2 hf => ?_⟩
  walk_at "gi"
  have hm : 3 ≤ [3, 6, 12].getD a.toNat (0 : Int) ∧ [3, 6, 12].getD a.toNat (0 : Int) ≤ 12 := by
    rcases (by omega : a.toNat = 0 ∨ a.toNat = 1 ∨ a.toNat = 2) with h | h | h <;> rw [h] <;> decide
  generalize [3, 6, 12].getD a.toNat (0 : Int) = m at hm ⊢
  obtain ⟨n, hnm⟩ : ∃ n : Nat, m - b = n := ⟨(m - b).toNat, by omega⟩
  rw [hnm]
  walk_at "gi"
  refine for_upto0 (fun j ρ s' => BagOk f s' ∧ ∃ ne : List T2, ne.length = j ∧ (∀ x ∈ ne, 0 ≤ x.1 ∧ x.1 ≤ 99 ∧ 1 ≤ x.2 ∧ x.2 ≤ 999) ∧ ∃ x4 x5 x6 x7, ρ = [.val (.ref f), .val (.int kind), .val (.lst (su.map t3)), .own (.lst (ne.map t2)), x4, x5, x6, x7]) ⟨hf, [], rfl, by simp, _, _, _, _, rfl⟩ ?_ ?_
  · rintro j ρ s' g hj ⟨hf, ne, hnl, hne, x4, x5, x6, x7, rfl⟩ hg
    have fin : ∀ (t : T2) s' x4 x5 x6 x7, BagOk f s' → (0 ≤ t.1 ∧ t.1 ≤ 99 ∧ 1 ≤ t.2 ∧ t.2 ≤ 999) → g [.val (.ref f), .val (.int kind), .val (.lst (su.map t3)), .own (.lst ((ne ++ [t]).map t2)), x4, x5, x6, x7] s' := fun t s' x4 x5 x6 x7 hf ht => hg _ _ ⟨hf, ne ++ [t], by simp [hnl], fun x hx => by
      rcases List.mem_append.mp hx with hx | hx
      · exact hne x hx
      · rw [List.mem_singleton] at hx
        subst hx
        exact ht, _, _, _, _, rfl⟩
    refine wb_i wb__law_needs_1.eq_1 ?_
    walk_at "gi"
    refine ⟨f, _, rfl, hf, by split <;> omega, by split <;> omega, fun d s1 d1 d2 hf => ?_⟩
    have hd99 : d ≤ 99 := by split at d2 <;> omega
    clear d2
    walk_at "gi"
    refine ⟨f, 3, rfl, hf, by omega, by omega, fun p s1 p1 p2 hf => ?_⟩
    walk_at "gi"
    · refine ⟨f, su.length, rfl, hf, by omega, by omega, fun u s1 u1 u2 hf => ?_⟩
      walk_at "gi"
      refine ixL z3 (by omega) (by omega) ?_
      have hy := mem_getD (x0 := z3) (i := u.toNat) hsu.2 (by omega)
      generalize su.getD u.toNat z3 = y at hy ⊢
      walk_at "gi"
      refine ⟨f, _, rfl, hf, by omega, by omega, fun v s1 v1 v2 hf => ?_⟩
      walk_at "gi"
      refine ⟨f, _, rfl, hf, by split <;> omega, by split <;> omega, fun c s1 c1 c2 hf => ?_⟩
      have hc99 : c ≤ 900 := by split at c2 <;> omega
      clear c2
      walk_at "gi"
      · refine ⟨f, 6, rfl, hf, by omega, by omega, fun w s1 w1 w2 hf => ?_⟩
        walk_at "gi"
        all_goals rw [show D.tup [D.int (y.1 + v), D.int (1 + c)] = t2 (y.1 + v, 1 + c) from rfl, map_cons_app]
        · refine ixL z2 (by omega) (by rw [List.length_append, List.length_singleton]; omega) ?_
          have ht : (ne ++ [(y.1 + v, 1 + c)]).getD ((j : Int) - 1).toNat z2 ∈ ne := by
            rw [List.getD_eq_getElem?_getD, List.getElem?_append_left (by omega), List.getElem?_eq_getElem (by omega)]
            exact List.getElem_mem (by omega)
          have ht := hne _ ht
          generalize (ne ++ [(y.1 + v, 1 + c)]).getD ((j : Int) - 1).toNat z2 = t at ht ⊢
          walk_at "gi"
          refine ixN_i (by omega) (by rw [List.length_append, List.length_singleton]; omega) ?_
          rw [show ((ne ++ [(y.1 + v, 1 + c)]).map t2).set ((j : Int)).toNat (D.tup [D.int t.1, D.int t.2]) = (ne ++ [t]).map t2 by
            rw [Int.toNat_natCast, List.map_append, List.map_append, List.set_append_right _ _ (by simp; omega)]
            simp [hnl]
            rfl]
          exact fin _ _ _ _ _ _ hf ht
        · exact fin _ _ _ _ _ _ hf (by simp only; omega)
      · rw [show D.tup [D.int (y.1 + v), D.int (1 + c)] = t2 (y.1 + v, 1 + c) from rfl, map_cons_app]
        exact fin _ _ _ _ _ _ hf (by simp only; omega)
    · refine ⟨f, _, rfl, hf, by split <;> omega, by split <;> omega, fun c s1 c1 c2 hf => ?_⟩
      have hc99 : c ≤ 900 := by split at c2 <;> omega
      clear c2
      walk_at "gi"
      · refine ⟨f, 6, rfl, hf, by omega, by omega, fun w s1 w1 w2 hf => ?_⟩
        walk_at "gi"
        all_goals rw [show D.tup [D.int (d), D.int (1 + c)] = t2 (d, 1 + c) from rfl, map_cons_app]
        · refine ixL z2 (by omega) (by rw [List.length_append, List.length_singleton]; omega) ?_
          have ht : (ne ++ [(d, 1 + c)]).getD ((j : Int) - 1).toNat z2 ∈ ne := by
            rw [List.getD_eq_getElem?_getD, List.getElem?_append_left (by omega), List.getElem?_eq_getElem (by omega)]
            exact List.getElem_mem (by omega)
          have ht := hne _ ht
          generalize (ne ++ [(d, 1 + c)]).getD ((j : Int) - 1).toNat z2 = t at ht ⊢
          walk_at "gi"
          refine ixN_i (by omega) (by rw [List.length_append, List.length_singleton]; omega) ?_
          rw [show ((ne ++ [(d, 1 + c)]).map t2).set ((j : Int)).toNat (D.tup [D.int t.1, D.int t.2]) = (ne ++ [t]).map t2 by
            rw [Int.toNat_natCast, List.map_append, List.map_append, List.set_append_right _ _ (by simp; omega)]
            simp [hnl]
            rfl]
          exact fin _ _ _ _ _ _ hf ht
        · exact fin _ _ _ _ _ _ hf (by simp only; omega)
      · rw [show D.tup [D.int (d), D.int (1 + c)] = t2 (d, 1 + c) from rfl, map_cons_app]
        exact fin _ _ _ _ _ _ hf (by simp only; omega)
  · rintro ρ s' ⟨hf, ne, hnl, hne, x4, x5, x6, x7, rfl⟩
    walk_at "gi"
    refine ⟨imms_t2 _, q ne s' ⟨by omega, hne⟩ hf⟩

section
variable {P : Program} {w : World} {K : PySem.W.Frag} {mg : Str → Option Value} {base : Heap} {z : Ad}
theorem b__law_needs (T : Tx K mg z) {cdv : Value} {A : Around} {outer : List PySem.Env} {s : Shared} {H0 : Hp} {E : XK} (hr : Room (1) (A.deeper (envOfC "_law_needs" (defScope st__law_needs) s.heap.objs.size z.a__law_needs cdv))) {F H : Hp} {W : Addr → Prop} {h1 : ∀ a o, F a = some o → H a = some o} {h2 : ∃ s, (wldS K).Wd s W H} :
    ∃ t, SSs (cxD P w K mg base N__law_needs "_law_needs" (defScope st__law_needs) z.a__law_needs cdv A outer s H0 E) (mkB K (wldS K) true F H W h1 h2) (defBody st__law_needs) t (w__law_needs) :=
  have hu := hr.units
  ⟨_, (ss_cons (s_own 3 sc__law_needs.nd (sn_lst sa_nil))
  (ss_cons (s_for PassesOwn.never rfl (si_range1 T.b_range (se_sub (se_ix (SN.e (sn_lst (sa_consU se_int (sa_consU se_int (sa_consU se_int sa_nil))))) (se_callF (ok__law_draw T) (hr.mono (by decide)) T.g__law_draw T.f__law_draw.kp T.n__law_draw (sa_cons (sv 0) (sa_cons se_int sa_nil)))) (se_callF (ok__law_draw T) (hr.mono (by decide)) T.g__law_draw T.f__law_draw.kp T.n__law_draw (sa_cons (sv 0) (sa_cons se_int sa_nil))))) (sg_name 4 sc__law_needs.nd)
  (ss_cons (s_set 5 sc__law_needs.nd (se_callF (ok__law_draw T) (hr.mono (by decide)) T.g__law_draw T.f__law_draw.kp T.n__law_draw (sa_cons (sv 0) (sa_cons (se_add se_int (se_mul se_int (se_intc T.b_int (sa_cons (se_cmp op_gt rule_Ib (nobehind _ (by decide) (by decide)) (sv 1) se_int) sa_nil)))) sa_nil))))
  (ss_cons (s_if (st_cmp op_gt rule_Ib (nobehind _ (by decide) (by decide)) (se_callF (ok__law_draw T) (hr.mono (by decide)) T.g__law_draw T.f__law_draw.kp T.n__law_draw (sa_cons (sv 0) (sa_cons se_int sa_nil))) se_int)
  (ss_cons (s_set 6 sc__law_needs.nd (se_ix (sv 2) (se_callF (ok__law_draw T) (hr.mono (by decide)) T.g__law_draw T.f__law_draw.kp T.n__law_draw (sa_cons (sv 0) (sa_cons (se_len T.b_len (sa_cons (sv 2) sa_nil)) sa_nil)))))
  (ss_one (s_set 5 sc__law_needs.nd (se_add (se_ix (sv 6) se_int) (se_callF (ok__law_draw T) (hr.mono (by decide)) T.g__law_draw T.f__law_draw.kp T.n__law_draw (sa_cons (sv 0) (sa_cons (se_add (se_sub (se_ix (sv 6) se_int) (se_ix (sv 6) se_int)) se_int) sa_nil)))))))
  ss_nil)
  (ss_cons (s_set 7 sc__law_needs.nd (se_add se_int (se_callF (ok__law_draw T) (hr.mono (by decide)) T.g__law_draw T.f__law_draw.kp T.n__law_draw (sa_cons (sv 0) (sa_cons (se_add se_int (se_mul se_int (se_intc T.b_int (sa_cons (se_cmp op_gt rule_Ib (nobehind _ (by decide) (by decide)) (sv 1) se_int) sa_nil)))) sa_nil)))))
  (ss_cons (s_expr (se_app 3 (sv 3) (sa_consU (se_tup (sa_consU (sv 5) (sa_consU (sv 7) sa_nil))) sa_nil)))
  (ss_one (s_if (st_w (sw_and (st_cmp op_gt rule_Ib (nobehind _ (by decide) (by decide)) (sv 4) se_int) (sw_and1 (st_cmp (op_eqB hu) rule_eq (nobehind _ (by decide) (by decide)) (se_callF (ok__law_draw T) (hr.mono (by decide)) T.g__law_draw T.f__law_draw.kp T.n__law_draw (sa_cons (sv 0) (sa_cons se_int sa_nil))) se_int))))
  (ss_one (s_setIx 3 (se_ix (sv 3) (se_sub (sv 4) se_int)) (sv 4) (sv 3)))
  ss_nil)))))))
  (ss_one (s_ret (sv 3)))))⟩
theorem ok__law_needs (T : Tx K mg z) : FnOk P w K mg base CX0 2 z.a__law_needs z.d__law_needs P__law_needs (spD K (wldS K) true 3 m__law_needs) :=
  fun_okD T.f__law_needs sc__law_needs (wldS K) true m__law_needs w__law_needs (fun _ _ _ _ _ _ hr _ _ _ _ _ => b__law_needs T hr) l__law_needs
end
theorem tot_le {p q : T3 → Bool} : ∀ {r : List T3}, (∀ t ∈ r, 0 ≤ t.2.2) → (∀ t ∈ r, p t = true → q t = true) → tot p r ≤ tot q r
  | [], _, _ => Int.le_refl _
  | t :: r, h, hp => by
    have h0 := h t (by simp)
    have h1 := tot_le (p := p) (q := q) (r := r) (fun s hs => h s (by simp [hs])) fun s hs => hp s (by simp [hs])
    have h2 := hp t (by simp)
    rw [tot, tot]
    by_cases hc : p t = true
    · rw [if_pos hc, if_pos (h2 hc)]; omega
    · rw [if_neg hc]; split <;> omega
theorem run_got {su : List T3} {ne : List T2} {i : Nat} (h0i : 0 ≤ cnt2 ne i) : ∀ (is : List Nat) (st : List T3 × List Int), st.2.length = su.length → (∀ k, 0 ≤ st.2.getD k 0) → (∀ j ∈ is, 0 ≤ cnt2 ne j) → is.Nodup → tot (atP i) (is.foldl (one su ne) st).1 ≤ tot (atP i) st.1 + if i ∈ is then cnt2 ne i else 0
  | [], st, _, _, _, _ => by simp
  | j :: is, st, hl, h0, hw, hn => by
    rw [List.nodup_cons] at hn
    have hI := one_in (ne := ne) (i := j) hl h0 (hw j (by simp))
    obtain ⟨new, h1, _, h2, _, h4⟩ := hI.new
    have ih := run_got (i := i) h0i is (one su ne st j) (hI.len.trans hl) hI.nn (fun k hk => hw k (by simp [hk])) hn.2
    rw [show (one su ne st j).1 = st.1 ++ new from h1, tot_app] at ih
    rw [List.foldl_cons]
    have hw2 := hI.w
    simp only at h4
    by_cases hij : i = j
    · subst hij
      rw [if_neg hn.1] at ih
      rw [if_pos (by simp)]
      have : tot (atP i) new ≤ tot any new := tot_le (fun t ht => by have := (h2 t ht).2.1; omega) fun _ _ _ => rfl
      omega
    · have : tot (atP i) new = 0 := tot_none fun t ht => by
        have := (h2 t ht).1
        simp only [atP, decide_eq_false_iff_not]
        omega
      have e : (i ∈ j :: is) = (i ∈ is) := by simp [hij]
      rw [this] at ih
      simp only [e]
      omega
theorem got_le {su : List T3} {ne : List T2} (hs : ∀ y ∈ su, 0 ≤ y.2.2) (hw : ∀ i, 0 ≤ cnt2 ne i) (i : Nat) : got su ne i ≤ cnt2 ne i := by
  have h := run_got (su := su) (hw i) (odN ne) ([], su.map (·.2.2)) (by simp) (rn0 (ne := ne) hs).nn (fun j _ => hw j) ord_rg_nodup
  have h2 := hw i
  show tot (atP i) ((odN ne).foldl (one su ne) ([], su.map (·.2.2))).1 ≤ _
  rw [show tot (atP i) (([], su.map (·.2.2)) : List T3 × List Int).1 = 0 from rfl] at h
  split at h <;> omega
theorem tot_filt {p : T3 → Bool} {ts : List T3} : ((ts.filter p).map fun t => t.2.2).sum = tot p ts := by
  induction ts with
  | nil => rfl
  | cons t ts ih =>
    rw [List.filter_cons, tot]
    split
    · rw [List.map_cons, List.sum_cons, ih]
    · rw [ih, Int.zero_add]
theorem wnt_sm {ne : List T2} : (ne.map fun t => t.2).sum = sm (cnt2 ne) (List.range ne.length) := by
  induction ne with
  | nil => rfl
  | cons y ne ih =>
    rw [List.map_cons, List.sum_cons, ih, List.length_cons, List.range_succ_eq_map, sm, sm_map]
    rfl
theorem filt_take {p : Nat → Bool} {j k : Nat} {is : List Nat} (h : is[j]? = some k) : (is.take (j + 1)).filter p = (is.take j).filter p ++ if p k = true then [k] else [] := by
  rw [List.take_succ, h, List.filter_append]
  simp [List.filter_cons]
def m__law_serving : MD Sto := fun ds s Q => ∃ vs su ne, ds = [vs, .lst (ne.map t2)] ∧ isL t3 vs su ∧ SuOk su ∧ NeOk ne ∧ Q (.lst ((serv su ne).map t3)) s

def wb__law_serving_1 : WS Sto := (wIf (wAnd (wB (wChain (dIb fun i j => decide (i ≤ j)) (dIb fun i j => decide (i ≤ j)) (wBin dIx (wBin dIx (wVar 0) (wVar 6)) (wC (.int 0))) (wVar 7) (wVar 10))) (wAnd (wB (wBin (dIb fun i j => decide (j < i)) (wBin dIx (wVar 2) (wVar 6)) (wC (.int 0)))) (wB (wBin (dIb fun i j => decide (j < i)) (wVar 9) (wC (.int 0))))))
  (wSeq (wSet 11 (wCallB dMin2 (wCons (wBin dIx (wVar 2) (wVar 6)) (wCons (wVar 9) wNil))))
  (wSeq (wAugIx 2 (dIi (· - ·)) (wVar 11) (wVar 6))
  (wSeq (wSet 9 (wBin (dIi (· - ·)) (wVar 9) (wVar 11)))
  (wDrop (wMutK 4 fApp (wConsU (wTup (wConsU (wVar 8) (wConsU (wVar 6) (wConsU (wVar 11) wNil)))) wNil))))))
  wNext)
def wb__law_serving_2 : WS Sto := (wSeq (wSet 9 (wBin dIx (wBin dIx (wVar 1) (wVar 8)) (wC (.int 1))))
  (wFor (wIter (wVar 5)) (wGTup [(wName 10), (wName 6)])
  wb__law_serving_1))
def w__law_serving : WS Sto := (wSeq (wOwn 2 (wLc [3] (wIter (wVar 0)) (wName 3) wYes (wBin dIx (wVar 3) (wC (.int 2)))))
  (wSeq (wOwn 4 (wLst wNil))
  (wSeq (wSet 5 (wNew (wCallN (dSort false) (wCons (wNew (wLc [6] (wRange (wCons (wCallB dLenA (wCons (wVar 0) wNil)) wNil)) (wName 6) wYes (wTup (wConsU (wBin dIx (wBin dIx (wVar 0) (wVar 6)) (wC (.int 1))) (wConsU (wVar 6) wNil))))) wNil))))
  (wSeq (wFor (wIter (wNew (wCallN (dSort false) (wCons (wNew (wLc [6] (wRange (wCons (wCallB dLenA (wCons (wVar 1) wNil)) wNil)) (wName 6) wYes (wTup (wConsU (wBin dIx (wBin dIx (wVar 1) (wVar 6)) (wC (.int 0))) (wConsU (wVar 6) wNil))))) wNil)))) (wGTup [(wName 7), (wName 8)])
  wb__law_serving_2)
  (wRetNew true (wCallN (dSort false) (wCons (wVar 4) wNil)))))))
theorem l__law_serving : ∀ ds s Q, ds.length = P__law_serving.length → m__law_serving ds s Q → w__law_serving { nx := fun _ s' => Q .non s', rt := Q } (Ld.start N__law_serving.length ds) s := by
  rintro ds s Q hl ⟨vs, su, ne, rfl, hvs, hsu, hne, q⟩
  have hsl := hsu.1
  have hnl := hne.1
  have lp : ∀ vs : D, isL t3 vs su → w__law_serving { nx := fun _ s' => Q .non s', rt := Q } (Ld.start N__law_serving.length [vs, .lst (ne.map t2)]) s := by
    intro vs h1
    rcases h1 with h1 | h1
    all_goals
      unfold w__law_serving
      rw [h1]
      walk_at "gi"
      refine lc_map (g := t3) (xs := su) (fun x => .int x.2.2) (by omega) (fun x hx acc g ha hg => ?_) ?_
      · walk_at "gi"
        exact hg
      walk_at "gi"
      refine lc_upto0 (fun j acc ρ s' => s = s' ∧ acc = (List.range j).map (g2 (last3 su)) ∧ ∃ x3 x5 x6 x7 x8 x9 x10 x11, ρ = [.val vs, .val (.lst (ne.map t2)), .own (.lst (su.map fun x => .int x.2.2)), x3, .own (.lst []), x5, x6, x7, x8, x9, x10, x11]) ⟨rfl, rfl, _, _, _, _, _, _, _, _, by rw [h1]⟩ ?_ ?_
      · rintro j acc ρ s' g hj ⟨rfl, rfl, x3, x5, x6, x7, x8, x9, x10, x11, rfl⟩ hg
        rw [h1]
        walk_at "gi"
        first | refine ixT z3 (by omega) (by omega) ?_ | refine ixL z3 (by omega) (by omega) ?_
        rw [Int.toNat_natCast]
        walk_at "gi"
        refine ⟨?_, hg _ _ _ ⟨rfl, ?_, _, _, _, _, _, _, _, _, by rw [h1]⟩⟩
        · rw [List.length_range]; exact sizeLine_lt (by omega)
        · rw [List.range_succ, List.map_append]; rfl
      rintro acc ρ s' ⟨rfl, rfl, x3, x5, x6, x7, x8, x9, x10, x11, rfl⟩
      rw [h1]
      walk_at "gi"
      rw [dSort_g2]
      walk_at "gi"
      rw [show ord (last3 su) (List.range su.length) = odS su from rfl]
      refine lc_upto0 (fun j acc ρ s' => s = s' ∧ acc = (List.range j).map (g2 (day2 ne)) ∧ ∃ x3 x6 x7 x8 x9 x10 x11, ρ = [.val vs, .val (.lst (ne.map t2)), .own (.lst (su.map fun x => .int x.2.2)), x3, .own (.lst []), .val (.lst ((odS su).map (g2 (last3 su)))), x6, x7, x8, x9, x10, x11]) ⟨rfl, rfl, _, _, _, _, _, _, _, by rw [h1]⟩ ?_ ?_
      · rintro j acc ρ s' g hj ⟨rfl, rfl, x3, x6, x7, x8, x9, x10, x11, rfl⟩ hg
        walk_at "gi"
        refine ixL z2 (by omega) (by omega) ?_
        rw [Int.toNat_natCast]
        walk_at "gi"
        refine ⟨?_, hg _ _ _ ⟨rfl, ?_, _, _, _, _, _, _, _, rfl⟩⟩
        · rw [List.length_range]; exact sizeLine_lt (by omega)
        · rw [List.range_succ, List.map_append]; rfl
      rintro acc ρ s' ⟨rfl, rfl, x3, x6, x7, x8, x9, x10, x11, rfl⟩
      walk_at "gi"
      rw [dSort_g2]
      walk_at "gi"
      rw [show su.map (fun x => D.int x.2.2) = (su.map (·.2.2)).map .int by rw [List.map_map]; rfl]
      refine for_map (g := g2 (day2 ne)) (xs := odN ne) (fun j ρ s' => s = s' ∧ ∃ x3 x6 x7 x8 x9 x10 x11, ρ = [.val vs, .val (.lst (ne.map t2)), .own (.lst ((run su ne ((odN ne).take j)).2.map .int)), x3, .own (.lst ((run su ne ((odN ne).take j)).1.map t3)), .val (.lst ((odS su).map (g2 (last3 su)))), x6, x7, x8, x9, x10, x11]) ⟨rfl, _, _, _, _, _, _, _, rfl⟩ ?_ ?_
      · rintro j i ρ s' g hj ⟨rfl, x3, x6, x7, x8, x9, x10, x11, rfl⟩ hg
        have hi := odN_mem.mp (List.mem_of_getElem? hj)
        rw [run_take hj] at hg
        have hR := rn (ne := ne) hsu.nn ((odN ne).take j) fun i _ => hne.cnt i
        have hjl : j ≤ 12 := by
          have h1 := (List.getElem?_eq_some_iff.mp hj).1
          rw [odN, (ord_perm _ _).length_eq, List.length_range] at h1
          omega
        have hrl : (run su ne ((odN ne).take j)).1.length ≤ 144 := by
          have h1 := hR.rl
          have h2 : ((odN ne).take j).length ≤ 12 := Nat.le_trans (List.length_take_le _ _) hjl
          have h3 := Nat.mul_le_mul h2 hsl
          omega
        have r1 := hR.len
        have r2 := hR.nn
        unfold one at hg
        generalize run su ne ((odN ne).take j) = r at *
        rw [g2_eq]
        walk_at "gi"
        refine wb_i wb__law_serving_2.eq_1 ?_
        walk_at "gi"
        refine ixL z2 (by omega) (by omega) ?_
        rw [Int.toNat_natCast]
        walk_at "gi"
        refine for_map (g := g2 (last3 su)) (xs := odS su) (fun j ρ s' => s = s' ∧ ∃ x3 x6 x10 x11, ρ = [.val vs, .val (.lst (ne.map t2)), .own (.lst (((((odS su).take j).filter (al su (day2 ne i))).foldl (stp i) (r.1, r.2, cnt2 ne i)).2.1.map .int)), x3, .own (.lst (((((odS su).take j).filter (al su (day2 ne i))).foldl (stp i) (r.1, r.2, cnt2 ne i)).1.map t3)), .val (.lst ((odS su).map (g2 (last3 su)))), x6, .val (.int (day2 ne i)), .val (.int i), .val (.int ((((odS su).take j).filter (al su (day2 ne i))).foldl (stp i) (r.1, r.2, cnt2 ne i)).2.2), x10, x11]) ⟨rfl, _, _, _, _, rfl⟩ ?_ ?_
        · rintro j k ρ s' g hj ⟨rfl, x3, x6, x10, x11, rfl⟩ hg
          have hk := odS_mem.mp (List.mem_of_getElem? hj)
          rw [filt_take hj, List.foldl_append] at hg
          have hI := inn i (((odS su).take j).filter (al su (day2 ne i))) (r.1, r.2, cnt2 ne i) (fun k hk => by rw [r1]; exact odS_mem.mp (List.mem_of_mem_take (List.mem_filter.mp hk).1)) r2 (hne.cnt i)
          have hl2 := hI.len
          have hz := hI.nn k
          have hw := hI.w
          obtain ⟨new, n1, n2, _⟩ := hI.new
          have hl3 : ((((odS su).take j).filter (al su (day2 ne i))).foldl (stp i) (r.1, r.2, cnt2 ne i)).1.length ≤ 200 := by
            have n3 := List.length_filter_le (al su (day2 ne i)) ((odS su).take j)
            have n4 := List.length_take_le j (odS su)
            have n5 := List.length_take_le' j (odS su)
            rw [odS_len] at n5
            rw [n1, List.length_append]
            show r.1.length + new.length ≤ 200
            omega
          clear n1 n2 hI
          generalize (((odS su).take j).filter (al su (day2 ne i))).foldl (stp i) (r.1, r.2, cnt2 ne i) = st at *
          have hkl2 : k < st.2.1.length := by rw [hl2]; show k < r.2.length; omega
          have g0 : ¬ (al su (day2 ne i) k = true ∧ 0 < mn st.2.2 (st.2.1.getD k 0)) → g [.val vs, .val (.lst (ne.map t2)), .own (.lst (st.2.1.map .int)), x3, .own (.lst (st.1.map t3)), .val (.lst ((odS su).map (g2 (last3 su)))), .val (.int k), .val (.int (day2 ne i)), .val (.int i), .val (.int st.2.2), .val (.int (last3 su k)), x11] s := fun hc => by
            refine hg _ _ ⟨rfl, x3, .val (.int k), .val (.int (last3 su k)), x11, ?_⟩
            by_cases ha : al su (day2 ne i) k = true
            · rw [if_pos ha, List.foldl_cons, List.foldl_nil, show stp i st k = st from if_neg fun h => hc ⟨ha, h⟩]
            · rw [if_neg ha, List.foldl_nil]
          rw [g2_eq, h1]
          walk_at "gi"
          refine wb_i wb__law_serving_1.eq_1 ?_
          walk_at "gi"
          first | refine ixT z3 (by omega) (by omega) ?_ | refine ixL z3 (by omega) (by omega) ?_
          rw [Int.toNat_natCast]
          walk_at "gi"
          · have hc : (if st.2.2 < st.2.1.getD k 0 then st.2.2 else st.2.1.getD k 0) = mn st.2.2 (st.2.1.getD k 0) := (mn_comm _ _)
            have hcp : 0 < mn st.2.2 (st.2.1.getD k 0) := by unfold mn; split <;> assumption
            have hal : al su (day2 ne i) k = true := decide_eq_true ⟨by assumption, by assumption⟩
            rw [if_pos hal, List.foldl_cons, List.foldl_nil, show stp i st k = _ from if_pos hcp] at hg
            rw [hc]
            generalize mn st.2.2 (st.2.1.getD k 0) = c at hg hcp ⊢
            refine ixN_i (by omega) (by omega) ?_
            rw [get_ints hkl2]
            walk_at "gi"
            refine ixN_i (by omega) (by omega) ?_
            rw [Int.toNat_natCast]
            walk_at "gi"
            rw [show D.tup [D.int i, D.int k, D.int c] = t3 ((i : Int), (k : Int), c) from rfl, map_cons_app]
            walk_at "gi"
            rw [← h1]
            exact hg _ _ ⟨rfl, _, _, _, _, rfl⟩
          all_goals
            rw [← h1]
            refine g0 fun hc => ?_
            have hc1 := of_decide_eq_true hc.1
            have hc2 := hc.2
            have hv : last3 su k = (su.getD k z3).2.1 := rfl
            unfold fst3 at hc1
            unfold mn at hc2
            split at hc2 <;> omega
        · rintro ρ s' ⟨rfl, x3, x6, x10, x11, rfl⟩
          rw [List.take_length]
          exact hg _ _ ⟨rfl, _, _, _, _, _, _, _, rfl⟩
      · rintro ρ s' ⟨rfl, x3, x6, x7, x8, x9, x10, x11, rfl⟩
        rw [List.take_length]
        walk_at "gi"
        rw [dSort_t3]
        walk_at "gi"
        exact ⟨imms_t3 _, q⟩
  exact lp vs hvs

section
variable {P : Program} {w : World} {K : PySem.W.Frag} {mg : Str → Option Value} {base : Heap} {z : Ad}
theorem b__law_serving (T : Tx K mg z) {cdv : Value} {A : Around} {outer : List PySem.Env} {s : Shared} {H0 : Hp} {E : XK} (hr : Room (0) (A.deeper (envOfC "_law_serving" (defScope st__law_serving) s.heap.objs.size z.a__law_serving cdv))) {F H : Hp} {W : Addr → Prop} {h1 : ∀ a o, F a = some o → H a = some o} {h2 : ∃ s, (wldS K).Wd s W H} :
    ∃ t, SSs (cxD P w K mg base N__law_serving "_law_serving" (defScope st__law_serving) z.a__law_serving cdv A outer s H0 E) (mkB K (wldS K) true F H W h1 h2) (defBody st__law_serving) t (w__law_serving) :=
  have hu := hr.units
  ⟨_, (ss_cons (s_ownLc 2 (own := [("supply", 3)]) rfl sc__law_serving.nd (si_seq (sv 0)) (blkOk_by (N := N__law_serving) (sc := defScope st__law_serving) (by decide +kernel)) (fun _ _ _ _ _ => (sg_name 3 sc__law_serving.nd)) (fun _ _ _ _ _ => sts_nil) (fun _ _ _ _ _ => (se_ix (sv 3) se_int)) (by decide))
  (ss_cons (s_own 4 sc__law_serving.nd (sn_lst sa_nil))
  (ss_cons (s_set 5 sc__law_serving.nd (SN.e (sn_sorted hu T.b_sorted (sa_cons (SN.e (sn_lc (own := [("k", 6)]) rfl sc__law_serving.nd (si_range1 T.b_range (se_len T.b_len (sa_cons (sv 0) sa_nil))) (blkOk_by (N := N__law_serving) (sc := defScope st__law_serving) (by decide +kernel)) (fun _ _ _ _ _ => (sg_name 6 sc__law_serving.nd)) (fun _ _ _ _ _ => sts_nil) (fun _ _ _ _ _ => (se_tup (sa_consU (se_ix (se_ix (sv 0) (sv 6)) se_int) (sa_consU (sv 6) sa_nil)))) (by decide))) sa_nil))))
  (ss_cons (s_for PassesOwn.never rfl (si_seq (SN.e (sn_sorted hu T.b_sorted (sa_cons (SN.e (sn_lc (own := [("k", 6)]) rfl sc__law_serving.nd (si_range1 T.b_range (se_len T.b_len (sa_cons (sv 1) sa_nil))) (blkOk_by (N := N__law_serving) (sc := defScope st__law_serving) (by decide +kernel)) (fun _ _ _ _ _ => (sg_name 6 sc__law_serving.nd)) (fun _ _ _ _ _ => sts_nil) (fun _ _ _ _ _ => (se_tup (sa_consU (se_ix (se_ix (sv 1) (sv 6)) se_int) (sa_consU (sv 6) sa_nil)))) (by decide))) sa_nil)))) (sg_tup rfl (sgs_cons (sg_name 7 sc__law_serving.nd) (sgs_cons (sg_name 8 sc__law_serving.nd) sgs_nil)))
  (ss_cons (s_set 9 sc__law_serving.nd (se_ix (se_ix (sv 1) (sv 8)) se_int))
  (ss_one (s_for PassesOwn.never rfl (si_seq (sv 5)) (sg_tup rfl (sgs_cons (sg_name 10 sc__law_serving.nd) (sgs_cons (sg_name 6 sc__law_serving.nd) sgs_nil)))
  (ss_one (s_if (st_w (sw_and (st_chain op_le op_le rule_Ib rule_Ib (se_ix (se_ix (sv 0) (sv 6)) se_int) (sv 7) (sv 10)) (sw_and (st_cmp op_gt rule_Ib (nobehind _ (by decide) (by decide)) (se_ix (sv 2) (sv 6)) se_int) (sw_and1 (st_cmp op_gt rule_Ib (nobehind _ (by decide) (by decide)) (sv 9) se_int)))))
  (ss_cons (s_set 11 sc__law_serving.nd (se_min2 T.b_min rfl (sa_cons (se_ix (sv 2) (sv 6)) (sa_cons (sv 9) sa_nil))))
  (ss_cons (s_augIx 2 iop_sub (rule_Ii (f := (· - ·))) (sv 11) (sv 6) (sv 2))
  (ss_cons (s_set 9 sc__law_serving.nd (se_sub (sv 9) (sv 11)))
  (ss_one (s_expr (se_app 4 (sv 4) (sa_consU (se_tup (sa_consU (sv 8) (sa_consU (sv 6) (sa_consU (sv 11) sa_nil)))) sa_nil)))))))
  ss_nil))))))
  (ss_one (s_retNew (sn_sorted hu T.b_sorted (sa_cons (sv 4) sa_nil))))))))⟩
theorem ok__law_serving (T : Tx K mg z) : FnOk P w K mg base CX0 1 z.a__law_serving z.d__law_serving P__law_serving (spD K (wldS K) true 2 m__law_serving) :=
  fun_okD T.f__law_serving sc__law_serving (wldS K) true m__law_serving w__law_serving (fun _ _ _ _ _ _ hr _ _ _ _ _ => b__law_serving T hr) l__law_serving
end
def m__law_served_stands : MD Sto := fun ds s Q => ∃ su ne, ds = [.lst (su.map t3), .lst (ne.map t2)] ∧ SuOk su ∧ NeOk ne ∧ Q (.bl true) s

def w__law_served_stands : WS Sto := (wSeq (wSet 2 (wCallF 2 m__law_serving (wCons (wVar 0) (wCons (wVar 1) wNil))))
  (wSeq (wSet 3 (wCallB dSum (wCons (wNew (wLc [4] (wIter (wVar 2)) (wName 4) wYes (wBin dIx (wVar 4) (wC (.int 2))))) wNil)))
  (wSeq (wSet 5 (wCallB dSum (wCons (wNew (wLc [6] (wIter (wVar 1)) (wName 6) wYes (wBin dIx (wVar 6) (wC (.int 1))))) wNil)))
  (wSeq (wIf (wNot (wB (wCallF 2 m__law_triples (wCons (wCallF 2 m_served (wCons (wVar 0) (wCons (wVar 1) wNil))) (wCons (wVar 2) wNil)))))
  (wRet true (wC (.bl false)))
  wNext)
  (wRet true (wAndV (wCallF 2 m__law_number (wCons (wCallF 2 m_most_served (wCons (wVar 0) (wCons (wVar 1) wNil))) (wCons (wVar 3) wNil))) (wCallF 2 m__law_number (wCons (wCallF 2 m_lacking (wCons (wVar 0) (wCons (wVar 1) wNil))) (wCons (wBin (dIi (· - ·)) (wVar 5) (wVar 3)) wNil)))))))))
theorem l__law_served_stands : ∀ ds s Q, ds.length = P__law_served_stands.length → m__law_served_stands ds s Q → w__law_served_stands { nx := fun _ s' => Q .non s', rt := Q } (Ld.start N__law_served_stands.length ds) s := by
  rintro ds s Q hl ⟨su, ne, rfl, hsu, hne, q⟩
  have hsl := hsu.1
  have hnl := hne.1
  have hl3 := serv_len hsu hne
  unfold w__law_served_stands
  walk_at "gi"
  refine ⟨_, su, ne, rfl, .inr rfl, hsu, hne, ?_⟩
  walk_at "gi"
  refine lc_map (g := t3) (xs := serv su ne) (fun t => .int t.2.2) (by omega) (fun x hx acc g ha hg => ?_) ?_
  · rw [t3_eq]
    walk_at "gi"
    exact hg
  rw [show (serv su ne).map (fun t => D.int t.2.2) = ((serv su ne).map fun t => t.2.2).map .int by rw [List.map_map]; rfl]
  walk_at "gi"
  rw [tot_sum]
  refine lc_map (g := t2) (xs := ne) (fun t => .int t.2) (by omega) (fun x hx acc g ha hg => ?_) ?_
  · rw [t2_eq]
    walk_at "gi"
    exact hg
  rw [show ne.map (fun t => D.int t.2) = (ne.map fun t => t.2).map .int by rw [List.map_map]; rfl]
  walk_at "gi"
  refine ⟨_, _, su, ne, rfl, .inr rfl, .inr rfl, hsu, hne, ?_⟩
  walk_at "gi"
  refine ⟨_, rfl, by omega, ?_⟩
  walk_at "gi"
  refine ⟨_, _, su, ne, rfl, .inr rfl, .inr rfl, hsu, hne, ?_⟩
  walk_at "gi"
  refine ⟨_, rfl, ?_⟩
  walk_at "gi"
  refine ⟨_, _, su, ne, rfl, .inr rfl, .inr rfl, hsu, hne, ?_⟩
  walk_at "gi"
  refine ⟨_, rfl, ?_⟩
  walk_at "gi"
  exact q

section
variable {P : Program} {w : World} {K : PySem.W.Frag} {mg : Str → Option Value} {base : Heap} {z : Ad}
theorem b__law_served_stands (T : Tx K mg z) {cdv : Value} {A : Around} {outer : List PySem.Env} {s : Shared} {H0 : Hp} {E : XK} (hr : Room (6) (A.deeper (envOfC "_law_served_stands" (defScope st__law_served_stands) s.heap.objs.size z.a__law_served_stands cdv))) {F H : Hp} {W : Addr → Prop} {h1 : ∀ a o, F a = some o → H a = some o} {h2 : ∃ s, (wldS K).Wd s W H} :
    ∃ t, SSs (cxD P w K mg base N__law_served_stands "_law_served_stands" (defScope st__law_served_stands) z.a__law_served_stands cdv A outer s H0 E) (mkB K (wldS K) true F H W h1 h2) (defBody st__law_served_stands) t (w__law_served_stands) :=
  have hu := hr.units
  ⟨_, (ss_cons (s_set 2 sc__law_served_stands.nd (se_callF (ok__law_serving T) (hr.mono (by decide)) T.g__law_serving T.f__law_serving.kp T.n__law_serving (sa_cons (sv 0) (sa_cons (sv 1) sa_nil))))
  (ss_cons (s_set 3 sc__law_served_stands.nd (se_sum T.b_sum rfl (sa_cons (SN.e (sn_lc (own := [("row", 4)]) rfl sc__law_served_stands.nd (si_seq (sv 2)) (blkOk_by (N := N__law_served_stands) (sc := defScope st__law_served_stands) (by decide +kernel)) (fun _ _ _ _ _ => (sg_name 4 sc__law_served_stands.nd)) (fun _ _ _ _ _ => sts_nil) (fun _ _ _ _ _ => (se_ix (sv 4) se_int)) (by decide))) sa_nil)))
  (ss_cons (s_set 5 sc__law_served_stands.nd (se_sum T.b_sum rfl (sa_cons (SN.e (sn_lc (own := [("need", 6)]) rfl sc__law_served_stands.nd (si_seq (sv 1)) (blkOk_by (N := N__law_served_stands) (sc := defScope st__law_served_stands) (by decide +kernel)) (fun _ _ _ _ _ => (sg_name 6 sc__law_served_stands.nd)) (fun _ _ _ _ _ => sts_nil) (fun _ _ _ _ _ => (se_ix (sv 6) se_int)) (by decide))) sa_nil)))
  (ss_cons (s_if (st_not (st_val (se_callF (ok__law_triples T) (hr.mono (by decide)) T.g__law_triples T.f__law_triples.kp T.n__law_triples (sa_cons (se_callF (ok_served T) (hr.mono (by decide)) T.g_served T.f_served.kp T.n_served (sa_cons (sv 0) (sa_cons (sv 1) sa_nil))) (sa_cons (sv 2) sa_nil)))))
  (ss_one (s_ret se_bl))
  ss_nil)
  (ss_one (s_ret (se_and (se_callF (ok__law_number T) (hr.mono (by decide)) T.g__law_number T.f__law_number.kp T.n__law_number (sa_cons (se_callF (ok_most_served T) (hr.mono (by decide)) T.g_most_served T.f_most_served.kp T.n_most_served (sa_cons (sv 0) (sa_cons (sv 1) sa_nil))) (sa_cons (sv 3) sa_nil))) (se_one (se_callF (ok__law_number T) (hr.mono (by decide)) T.g__law_number T.f__law_number.kp T.n__law_number (sa_cons (se_callF (ok_lacking T) (hr.mono (by decide)) T.g_lacking T.f_lacking.kp T.n_lacking (sa_cons (sv 0) (sa_cons (sv 1) sa_nil))) (sa_cons (se_sub (sv 5) (sv 3)) sa_nil)))))))))))⟩
theorem ok__law_served_stands (T : Tx K mg z) : FnOk P w K mg base CX0 7 z.a__law_served_stands z.d__law_served_stands P__law_served_stands (spD K (wldS K) true 2 m__law_served_stands) :=
  fun_okD T.f__law_served_stands sc__law_served_stands (wldS K) true m__law_served_stands w__law_served_stands (fun _ _ _ _ _ _ hr _ _ _ _ _ => b__law_served_stands T hr) l__law_served_stands
end
theorem lef_eq {su : List T3} {ne : List T2} (hsu : SuOk su) (hne : NeOk ne) (day later : Int) (k : Nat) : lef su ne day later k = if fst3 su k ≤ day ∧ later ≤ last3 su k then cnt3 su k - tot (fun t => atS k t && decide (day2 ne t.1.toNat ≤ day)) (serv su ne) else 0 := by
  unfold lef
  rw [tot_perm (p := atS k) (serv_perm (su := su) (ne := upTo ne day)), upTo_left hsu.nn hne.nn, tot_perm (serv_perm (su := su) (ne := ne))]
theorem serv_row {su : List T3} {ne : List T2} (hsu : SuOk su) (hne : NeOk ne) : ∀ t ∈ serv su ne, ∃ i : Nat, i < ne.length ∧ t.1 = (i : Int) ∧ ∃ k : Nat, k < su.length ∧ t.2.1 = (k : Int) ∧ 0 < t.2.2 := fun t ht => by
  obtain ⟨i, h0, k, h1, h2, h3, h4, _⟩ := (rn (ne := ne) hsu.nn (odN ne) fun i _ => hne.cnt i).row t (serv_perm.mem_iff.mp ht)
  exact ⟨i, odN_mem.mp h0, h2, k, h1, h3, h4⟩
def m__law_rest_stands : MD Sto := fun ds s Q => ∃ f su ne, ds = [.ref f, .tup (su.map t3), .lst (ne.map t2)] ∧ BagOk f s ∧ SuOk su ∧ su ≠ [] ∧ NeOk ne ∧ isF su ne ∧ ∀ s', BagOk f s' → Q (.bl true) s'

def wb__law_rest_stands_1 : WS Sto := (wAugIx 4 (dIi (· - ·)) (wVar 8) (wVar 7))
def wb__law_rest_stands_2 : WS Sto := (wIf (wAnd (wB (wBin (dIb fun i j => decide (i ≤ j)) (wBin dIx (wBin dIx (wVar 1) (wVar 7)) (wC (.int 0))) (wVar 10))) (wB (wBin (dIb fun i j => decide (j ≤ i)) (wBin dIx (wBin dIx (wVar 1) (wVar 7)) (wC (.int 1))) (wVar 11))))
  (wSet 12 (wBin (dIi (· - ·)) (wBin dAdd (wVar 12) (wBin dIx (wBin dIx (wVar 1) (wVar 7)) (wC (.int 2)))) (wCallB dSum (wCons (wNew (wLc [13] (wIter (wVar 3)) (wName 13) (wAnd (wB (wBin dEq (wBin dIx (wVar 13) (wC (.int 1))) (wVar 7))) (wB (wBin (dIb fun i j => decide (i ≤ j)) (wBin dIx (wBin dIx (wVar 2) (wBin dIx (wVar 13) (wC (.int 0)))) (wC (.int 0))) (wVar 10)))) (wBin dIx (wVar 13) (wC (.int 2))))) wNil))))
  wNext)
def wb__law_rest_stands_3 : WS Sto := (wSeq (wSet 10 (wCallF 2 m__law_draw (wCons (wVar 0) (wCons (wC (.int 100)) wNil))))
  (wSeq (wIf (wB (wBin (dIb fun i j => decide (j < i)) (wVar 9) (wC (.int 0))))
  (wSet 10 (wBin dIx (wBin dIx (wVar 1) (wCallF 2 m__law_draw (wCons (wVar 0) (wCons (wCallB dLenA (wCons (wVar 1) wNil)) wNil)))) (wBin (dIi (· - ·)) (wVar 9) (wC (.int 1)))))
  wNext)
  (wSeq (wSet 11 (wBin dIx (wNew (wLst (wConsU (wVar 10) (wConsU (wC (.int 99)) (wConsU (wBin dAdd (wVar 10) (wCallF 2 m__law_draw (wCons (wVar 0) (wCons (wBin (dIi (· - ·)) (wC (.int 100)) (wVar 10)) wNil)))) wNil))))) (wCallF 2 m__law_draw (wCons (wVar 0) (wCons (wC (.int 3)) wNil)))))
  (wSeq (wSet 12 (wC (.int 0)))
  (wSeq (wFor (wRange (wCons (wCallB dLenA (wCons (wVar 1) wNil)) wNil)) (wName 7)
  wb__law_rest_stands_2)
  (wIf (wNot (wB (wCallF 2 m__law_number (wCons (wCallF 4 m_left_on (wCons (wVar 1) (wCons (wVar 2) (wCons (wVar 10) (wCons (wVar 11) wNil))))) (wCons (wVar 12) wNil)))))
  (wRet true (wC (.bl false)))
  wNext))))))
def w__law_rest_stands : WS Sto := (wSeq (wSet 3 (wCallF 2 m__law_serving (wCons (wVar 1) (wCons (wVar 2) wNil))))
  (wSeq (wOwn 4 (wLc [5] (wIter (wVar 1)) (wName 5) wYes (wBin dIx (wVar 5) (wC (.int 2)))))
  (wSeq (wFor (wIter (wVar 3)) (wGTup [(wName 6), (wName 7), (wName 8)])
  wb__law_rest_stands_1)
  (wSeq (wIf (wNot (wB (wCallF 2 m__law_numbers (wCons (wCallF 2 m_unused (wCons (wVar 1) (wCons (wVar 2) wNil))) (wCons (wVar 4) wNil)))))
  (wRet true (wC (.bl false)))
  wNext)
  (wSeq (wFor (wRange (wCons (wC (.int 3)) wNil)) (wName 9)
  wb__law_rest_stands_3)
  (wRet true (wC (.bl true))))))))
theorem l__law_rest_stands : ∀ ds s Q, ds.length = P__law_rest_stands.length → m__law_rest_stands ds s Q → w__law_rest_stands { nx := fun _ s' => Q .non s', rt := Q } (Ld.start N__law_rest_stands.length ds) s := by
  rintro ds s Q hl ⟨f, su, ne, rfl, hf, hsu, hsn, hne, hF, q⟩
  have hsl := hsu.1
  have hnl := hne.1
  have hs0 := List.length_pos_iff.mpr hsn
  have hl3 := serv_len hsu hne
  unfold w__law_rest_stands
  walk_at "gi"
  refine ⟨_, su, ne, rfl, .inl rfl, hsu, hne, ?_⟩
  walk_at "gi"
  refine lc_map (g := t3) (xs := su) (fun t => .int t.2.2) (by omega) (fun x hx acc g ha hg => ?_) ?_
  · walk_at "gi"
    exact hg
  rw [show su.map (fun t => D.int t.2.2) = (List.range su.length).map fun k => .int (cnt3 su k - tot (atS k) ((serv su ne).take 0)) by
    rw [map_rng (fun t : T3 => D.int t.2.2) z3]
    refine List.map_congr_left fun k _ => ?_
    rw [List.take_zero, tot, Int.sub_zero]
    rfl]
  walk_at "gi"
  refine for_map (g := t3) (xs := serv su ne) (fun j ρ s' => s = s' ∧ ∃ x5 x6 x7 x8 x9 x10 x11 x12 x13, ρ = [.val (.ref f), .val (.tup (su.map t3)), .val (.lst (ne.map t2)), .val (.lst ((serv su ne).map t3)), .own (.lst ((List.range su.length).map fun k => .int (cnt3 su k - tot (atS k) ((serv su ne).take j)))), x5, x6, x7, x8, x9, x10, x11, x12, x13]) ⟨rfl, _, _, _, _, _, _, _, _, _, rfl⟩ ?_ ?_
  · rintro j t ρ s' g hj ⟨rfl, x5, x6, x7, x8, x9, x10, x11, x12, x13, rfl⟩ hg
    obtain ⟨i, hi, hti, k, hk, htk, htp⟩ := serv_row hsu hne t (List.mem_of_getElem? hj)
    have fin : ((List.range su.length).map fun k => D.int (cnt3 su k - tot (atS k) ((serv su ne).take j))).set k (.int (cnt3 su k - tot (atS k) ((serv su ne).take j) - t.2.2)) = (List.range su.length).map fun k => .int (cnt3 su k - tot (atS k) ((serv su ne).take (j + 1))) := by
      rw [← set_rng (k := k) (f := fun k => D.int (cnt3 su k - tot (atS k) ((serv su ne).take j))) (g := fun k => .int (cnt3 su k - tot (atS k) ((serv su ne).take (j + 1)))) hk fun i hi hne => by
        simp only [tot_take hj]
        rw [if_neg (by simp only [atS, decide_eq_true_eq]; omega), Int.add_zero]]
      rw [tot_take hj, if_pos (by simp only [atS, decide_eq_true_eq]; omega), Int.sub_sub]
    walk_at "gi"
    refine wb_i wb__law_rest_stands_1.eq_1 ?_
    walk_at "gi"
    rw [htk]
    refine ixN_i (by omega) (by simp; omega) ?_
    rw [Int.toNat_natCast, get_rng hk]
    walk_at "gi"
    refine ixN_i (by omega) (by simp; omega) ?_
    rw [Int.toNat_natCast, fin]
    exact hg _ _ ⟨rfl, _, _, _, _, _, _, _, _, _, rfl⟩
  rintro ρ s' ⟨rfl, x5, x6, x7, x8, x9, x10, x11, x12, x13, rfl⟩
  rw [List.take_length]
  walk_at "gi"
  refine ⟨_, _, su, ne, rfl, .inl rfl, .inr rfl, hsu, hne, hF, ?_⟩
  walk_at "gi"
  refine ⟨(List.range su.length).map fun k => cnt3 su k - tot (atS k) (serv su ne), _, by rw [List.map_map]; rfl, by simp; omega, .inr (by rw [List.map_map]; rfl), ?_⟩
  walk_at "gi"
  refine for_upto0 (fun j ρ s' => BagOk f s' ∧ ∃ x4 x5 x6 x7 x8 x9 x10 x11 x12 x13, ρ = [.val (.ref f), .val (.tup (su.map t3)), .val (.lst (ne.map t2)), .val (.lst ((serv su ne).map t3)), x4, x5, x6, x7, x8, x9, x10, x11, x12, x13]) ⟨hf, _, _, _, _, _, _, _, _, _, _, rfl⟩ ?_ ?_
  · rintro j ρ s' g hj ⟨hf, x4, x5, x6, x7, x8, x9, x10, x11, x12, x13, rfl⟩ hg
    refine wb_i wb__law_rest_stands_3.eq_1 ?_
    walk_at "gi"
    refine ⟨f, 100, rfl, hf, by omega, by omega, fun d s1 d1 d2 hf => ?_⟩
    walk_at "gi"
    refine ⟨f, su.length, rfl, hf, by omega, by omega, fun u s1 u1 u2 hf => ?_⟩
    walk_at "gi"
    refine ixT z3 (by omega) (by omega) ?_
    have hy := mem_getD (x0 := z3) (i := u.toNat) hsu.2 (by omega)
    generalize su.getD u.toNat z3 = y at hy ⊢
    walk_at "gi"
    have hd : 0 ≤ [y.1, y.2.1, y.2.2].getD ((j : Int) - 1).toNat 0 ∧ [y.1, y.2.1, y.2.2].getD ((j : Int) - 1).toNat 0 ≤ 99 := by
      rcases (by omega : j = 1 ∨ j = 2) with rfl | rfl
      · show 0 ≤ y.1 ∧ y.1 ≤ 99
        omega
      · show 0 ≤ y.2.1 ∧ y.2.1 ≤ 99
        omega
    obtain ⟨d, e⟩ : ∃ d, [y.1, y.2.1, y.2.2].getD ((j : Int) - 1).toNat 0 = d := ⟨_, rfl⟩
    rw [e] at hd ⊢
    all_goals
      refine ⟨f, _, rfl, hf, by omega, by omega, fun v s1 v1 v2 hf => ?_⟩
      walk_at "gi"
      refine ⟨f, 3, rfl, hf, by omega, by omega, fun w s1 w1 w2 hf => ?_⟩
      walk_at "gi"
      generalize [d, 99, d + v].getD w.toNat (0 : Int) = later
      refine for_upto0 (fun j2 ρ s' => BagOk f s' ∧ ∃ x4 x5 x6 x7 x8 x13, ρ = [.val (.ref f), .val (.tup (su.map t3)), .val (.lst (ne.map t2)), .val (.lst ((serv su ne).map t3)), x4, x5, x6, x7, x8, .val (.int j), .val (.int d), .val (.int later), .val (.int (sm (lef su ne d later) (List.range j2))), x13]) ⟨hf, _, _, _, _, _, _, rfl⟩ ?_ ?_
      · rintro k ρ s' g hk ⟨hf, x4, x5, x6, x7, x8, x13, rfl⟩ hg
        rw [sm_succ, lef_eq hsu hne] at hg
        refine wb_i wb__law_rest_stands_2.eq_1 ?_
        walk_at "gi"
        refine ixT z3 (by omega) (by omega) ?_
        rw [Int.toNat_natCast]
        walk_at "gi"
        all_goals try
          refine ixT z3 (by omega) (by omega) ?_
          rw [Int.toNat_natCast]
          walk_at "gi"
        all_goals try
          refine ixT z3 (by omega) (by omega) ?_
          rw [Int.toNat_natCast]
          walk_at "gi"
        · have hc : fst3 su k ≤ d ∧ later ≤ last3 su k := ⟨by assumption, by assumption⟩
          rw [if_pos hc] at hg
          refine lc_filt (g := t3) (xs := serv su ne) (fun t => .int t.2.2) (fun t => atS k t && decide (day2 ne t.1.toNat ≤ d)) (by omega) (fun t ht acc g ha hg => ?_) ?_
          · obtain ⟨i, hi, hti, k2, hk2, htk, htp⟩ := serv_row hsu hne t ht
            rw [t3_eq]
            walk_at "gi"
            · refine ixL z2 (by omega) (by omega) ?_
              walk_at "gi"
              · rw [if_pos (by simp only [atS, Bool.and_eq_true, decide_eq_true_eq]; exact ⟨by assumption, by assumption⟩)] at hg
                exact hg
              · rename_i hno
                rw [if_neg (by simp only [atS, Bool.and_eq_true, decide_eq_true_eq]; exact fun hc => hno hc.2)] at hg
                exact hg
            · rename_i hno
              rw [if_neg (by simp only [atS, Bool.and_eq_true, decide_eq_true_eq]; exact fun hc => hno hc.1)] at hg
              exact hg
          rw [show ((serv su ne).filter fun t => atS k t && decide (day2 ne t.1.toNat ≤ d)).map (fun t => D.int t.2.2) = (((serv su ne).filter fun t => atS k t && decide (day2 ne t.1.toNat ≤ d)).map fun t => t.2.2).map .int by rw [List.map_map]; rfl]
          walk_at "gi"
          rw [tot_filt, Int.add_sub_assoc]
          exact hg _ _ ⟨hf, _, _, _, _, _, _, rfl⟩
        all_goals
          have hc : ¬ (fst3 su k ≤ d ∧ later ≤ last3 su k) := by unfold fst3 last3; omega
          rw [if_neg hc, Int.add_zero] at hg
          exact hg _ _ ⟨hf, _, _, _, _, _, _, rfl⟩
      · rintro ρ s' ⟨hf, x4, x5, x6, x7, x8, x13, rfl⟩
        walk_at "gi"
        refine ⟨_, _, su, ne, d, later, rfl, .inl rfl, .inr rfl, hsu, hne, hF, ?_⟩
        walk_at "gi"
        refine ⟨_, rfl, ?_⟩
        walk_at "gi"
        exact hg _ _ ⟨hf, _, _, _, _, _, _, _, _, _, _, rfl⟩
  · rintro ρ s' ⟨hf, x4, x5, x6, x7, x8, x9, x10, x11, x12, x13, rfl⟩
    walk_at "gi"
    exact q _ hf

section
variable {P : Program} {w : World} {K : PySem.W.Frag} {mg : Str → Option Value} {base : Heap} {z : Ad}
theorem b__law_rest_stands (T : Tx K mg z) {cdv : Value} {A : Around} {outer : List PySem.Env} {s : Shared} {H0 : Hp} {E : XK} (hr : Room (6) (A.deeper (envOfC "_law_rest_stands" (defScope st__law_rest_stands) s.heap.objs.size z.a__law_rest_stands cdv))) {F H : Hp} {W : Addr → Prop} {h1 : ∀ a o, F a = some o → H a = some o} {h2 : ∃ s, (wldS K).Wd s W H} :
    ∃ t, SSs (cxD P w K mg base N__law_rest_stands "_law_rest_stands" (defScope st__law_rest_stands) z.a__law_rest_stands cdv A outer s H0 E) (mkB K (wldS K) true F H W h1 h2) (defBody st__law_rest_stands) t (w__law_rest_stands) :=
  have hu := hr.units
  ⟨_, (ss_cons (s_set 3 sc__law_rest_stands.nd (se_callF (ok__law_serving T) (hr.mono (by decide)) T.g__law_serving T.f__law_serving.kp T.n__law_serving (sa_cons (sv 1) (sa_cons (sv 2) sa_nil))))
  (ss_cons (s_ownLc 4 (own := [("supply", 5)]) rfl sc__law_rest_stands.nd (si_seq (sv 1)) (blkOk_by (N := N__law_rest_stands) (sc := defScope st__law_rest_stands) (by decide +kernel)) (fun _ _ _ _ _ => (sg_name 5 sc__law_rest_stands.nd)) (fun _ _ _ _ _ => sts_nil) (fun _ _ _ _ _ => (se_ix (sv 5) se_int)) (by decide))
  (ss_cons (s_for PassesOwn.never rfl (si_seq (sv 3)) (sg_tup rfl (sgs_cons (sg_name 6 sc__law_rest_stands.nd) (sgs_cons (sg_name 7 sc__law_rest_stands.nd) (sgs_cons (sg_name 8 sc__law_rest_stands.nd) sgs_nil))))
  (ss_one (s_augIx 4 iop_sub (rule_Ii (f := (· - ·))) (sv 8) (sv 7) (sv 4))))
  (ss_cons (s_if (st_not (st_val (se_callF (ok__law_numbers T) (hr.mono (by decide)) T.g__law_numbers T.f__law_numbers.kp T.n__law_numbers (sa_cons (se_callF (ok_unused T) (hr.mono (by decide)) T.g_unused T.f_unused.kp T.n_unused (sa_cons (sv 1) (sa_cons (sv 2) sa_nil))) (sa_cons (sv 4) sa_nil)))))
  (ss_one (s_ret se_bl))
  ss_nil)
  (ss_cons (s_for PassesOwn.never rfl (si_range1 T.b_range se_int) (sg_name 9 sc__law_rest_stands.nd)
  (ss_cons (s_set 10 sc__law_rest_stands.nd (se_callF (ok__law_draw T) (hr.mono (by decide)) T.g__law_draw T.f__law_draw.kp T.n__law_draw (sa_cons (sv 0) (sa_cons se_int sa_nil))))
  (ss_cons (s_if (st_cmp op_gt rule_Ib (nobehind _ (by decide) (by decide)) (sv 9) se_int)
  (ss_one (s_set 10 sc__law_rest_stands.nd (se_ix (se_ix (sv 1) (se_callF (ok__law_draw T) (hr.mono (by decide)) T.g__law_draw T.f__law_draw.kp T.n__law_draw (sa_cons (sv 0) (sa_cons (se_len T.b_len (sa_cons (sv 1) sa_nil)) sa_nil)))) (se_sub (sv 9) se_int))))
  ss_nil)
  (ss_cons (s_set 11 sc__law_rest_stands.nd (se_ix (SN.e (sn_lst (sa_consU (sv 10) (sa_consU se_int (sa_consU (se_add (sv 10) (se_callF (ok__law_draw T) (hr.mono (by decide)) T.g__law_draw T.f__law_draw.kp T.n__law_draw (sa_cons (sv 0) (sa_cons (se_sub se_int (sv 10)) sa_nil)))) sa_nil))))) (se_callF (ok__law_draw T) (hr.mono (by decide)) T.g__law_draw T.f__law_draw.kp T.n__law_draw (sa_cons (sv 0) (sa_cons se_int sa_nil)))))
  (ss_cons (s_set 12 sc__law_rest_stands.nd se_int)
  (ss_cons (s_for PassesOwn.never rfl (si_range1 T.b_range (se_len T.b_len (sa_cons (sv 1) sa_nil))) (sg_name 7 sc__law_rest_stands.nd)
  (ss_one (s_if (st_w (sw_and (st_cmp op_le rule_Ib (nobehind _ (by decide) (by decide)) (se_ix (se_ix (sv 1) (sv 7)) se_int) (sv 10)) (sw_and1 (st_cmp op_ge rule_Ib (nobehind _ (by decide) (by decide)) (se_ix (se_ix (sv 1) (sv 7)) se_int) (sv 11)))))
  (ss_one (s_set 12 sc__law_rest_stands.nd (se_sub (se_add (sv 12) (se_ix (se_ix (sv 1) (sv 7)) se_int)) (se_sum T.b_sum rfl (sa_cons (SN.e (sn_lc (own := [("row", 13)]) rfl sc__law_rest_stands.nd (si_seq (sv 3)) (blkOk_by (N := N__law_rest_stands) (sc := defScope st__law_rest_stands) (by decide +kernel)) (fun _ _ _ _ _ => (sg_name 13 sc__law_rest_stands.nd)) (fun _ _ _ _ _ => (sts_one (st_w (sw_and (st_cmp (op_eqB hu) rule_eq (nobehind _ (by decide) (by decide)) (se_ix (sv 13) se_int) (sv 7)) (sw_and1 (st_cmp op_le rule_Ib (nobehind _ (by decide) (by decide)) (se_ix (se_ix (sv 2) (se_ix (sv 13) se_int)) se_int) (sv 10))))))) (fun _ _ _ _ _ => (se_ix (sv 13) se_int)) (by decide))) sa_nil)))))
  ss_nil)))
  (ss_one (s_if (st_not (st_val (se_callF (ok__law_number T) (hr.mono (by decide)) T.g__law_number T.f__law_number.kp T.n__law_number (sa_cons (se_callF (ok_left_on T) (hr.mono (by decide)) T.g_left_on T.f_left_on.kp T.n_left_on (sa_cons (sv 1) (sa_cons (sv 2) (sa_cons (sv 10) (sa_cons (sv 11) sa_nil))))) (sa_cons (sv 12) sa_nil)))))
  (ss_one (s_ret se_bl))
  ss_nil))))))))
  (ss_one (s_ret se_bl)))))))⟩
theorem ok__law_rest_stands (T : Tx K mg z) : FnOk P w K mg base CX0 7 z.a__law_rest_stands z.d__law_rest_stands P__law_rest_stands (spD K (wldS K) true 3 m__law_rest_stands) :=
  fun_okD T.f__law_rest_stands sc__law_rest_stands (wldS K) true m__law_rest_stands w__law_rest_stands (fun _ _ _ _ _ _ hr _ _ _ _ _ => b__law_rest_stands T hr) l__law_rest_stands
end
def isOk (su : List T3) (ne : List T2) (is : List Nat) : Prop := is.Sublist (List.range ne.length) ∧ ∀ i ∈ is, 0 < got su ne i
theorem isOk.take {su : List T3} {ne : List T2} {is : List Nat} (h : isOk su ne is) (m : Nat) : isOk su ne (is.take m) := ⟨(List.take_sublist _ _).trans h.1, fun i hi => h.2 i (List.mem_of_mem_take hi)⟩
theorem isOk.all (su : List T3) (ne : List T2) : isOk su ne ((List.range ne.length).filter fun i => decide (0 < got su ne i)) := ⟨List.filter_sublist, fun i hi => by
  rw [List.mem_filter, decide_eq_true_eq] at hi
  exact hi.2⟩
theorem isOk.ne {su : List T3} {ne : List T2} {is : List Nat} (h : isOk su ne is) (hsu : SuOk su) (hne : NeOk ne) : NeOk (cutN su ne is) := by
  refine ⟨?_, fun x hx => ?_⟩
  · have h1 := h.1.length_le
    have h2 := hne.1
    rw [List.length_range] at h1
    rw [cutN, List.length_map]
    omega
  · obtain ⟨i, hi, rfl⟩ := List.mem_map.mp hx
    have h1 := List.mem_range.mp (h.1.subset hi)
    have h2 := h.2 i hi
    have h3 := got_le (su := su) hsu.nn hne.cnt i
    have h4 := mem_getD (x0 := z2) hne.2 h1
    show 0 ≤ (ne.getD i z2).1 ∧ (ne.getD i z2).1 ≤ 99 ∧ 1 ≤ got su ne i ∧ got su ne i ≤ 999
    have h5 : cnt2 ne i = (ne.getD i z2).2 := rfl
    omega
theorem isOk.full {su : List T3} {ne : List T2} {is : List Nat} (h : isOk su ne is) (hsu : SuOk su) (hne : NeOk ne) : isF su (cutN su ne is) := by
  unfold isF
  rw [tot_perm serv_perm, cut_full hsu.nn hne.cnt (List.nodup_range.sublist h.1), wnt, wnt_sm]
theorem got_eq (su : List T3) (ne : List T2) (i : Nat) : tot (atP i) (serv su ne) = got su ne i := tot_perm serv_perm
theorem cutN_map (su : List T3) (ne : List T2) (is : List Nat) : (cutN su ne is).map t2 = is.map fun i => t2 (day2 ne i, got su ne i) := by
  unfold cutN
  rw [List.map_map]
  rfl
def m_law : MD Sto := fun ds s Q => ∃ ns : List Int, ds = [.scr (ns.map .int)] ∧ ns.length ≤ 63 ∧ ∀ s', Q (.bl true) s'

def wb_law_1 : WS Sto := (wAugIx 6 (dIi (· + ·)) (wVar 10) (wVar 8))
def w_law : WS Sto := (wSeq (wSet 1 (wKeep (wLst (wConsU (wKeep (wCallN dList (wCons (wSl (wVar 0) wNoPart (wPart (wC (.int 63)))) wNil))) (wConsU (wC (.int 0)) wNil)))))
  (wSeq (wSet 2 (wCallF 2 m__law_draw (wCons (wVar 1) (wCons (wC (.int 3)) wNil))))
  (wSeq (wSet 3 (wCallF 2 m__law_supplies (wCons (wVar 1) (wCons (wVar 2) wNil))))
  (wSeq (wOwn 4 (wCallO 3 m__law_needs (wCons (wVar 1) (wCons (wVar 2) (wCons (wVar 3) wNil)))))
  (wSeq (wSet 5 (wTup (wConsU (wNew (wCallN dList (wCons (wVar 3) wNil))) (wConsU (wNew (wCallN dList (wCons (wVar 4) wNil))) wNil))))
  (wSeq (wIf (wNot (wB (wCallF 2 m__law_served_stands (wCons (wVar 3) (wCons (wVar 4) wNil)))))
  (wRet true (wC (.bl false)))
  wNext)
  (wSeq (wOwn 6 (wLcO [7] 4 (wName 7) wYes (wC (.int 0))))
  (wSeq (wFor (wIter (wCallF 2 m__law_serving (wCons (wVar 3) (wCons (wVar 4) wNil)))) (wGTup [(wName 8), (wName 9), (wName 10)])
  wb_law_1)
  (wSeq (wSet 11 (wNew (wLc [9] (wRange (wCons (wCallB dLenA (wCons (wVar 4) wNil)) wNil)) (wName 9) (wB (wBin (dIb fun i j => decide (j < i)) (wBin dIx (wVar 6) (wVar 9)) (wC (.int 0)))) (wTup (wConsU (wBin dIx (wBin dIx (wVar 4) (wVar 9)) (wC (.int 0))) (wConsU (wBin dIx (wVar 6) (wVar 9)) wNil))))))
  (wSeq (wIf (wB (wBin dEq (wCallF 2 m__law_draw (wCons (wVar 1) (wCons (wC (.int 3)) wNil))) (wC (.int 0))))
  (wSet 11 (wSl (wVar 11) wNoPart (wPart (wCallF 2 m__law_draw (wCons (wVar 1) (wCons (wBin dAdd (wCallB dLenA (wCons (wVar 11) wNil)) (wC (.int 1))) wNil))))))
  wNext)
  (wSeq (wIf (wOr (wNot (wB (wCallF 3 m__law_rest_stands (wCons (wVar 1) (wCons (wCallB dTuple (wCons (wVar 3) wNil)) (wCons (wVar 11) wNil)))))) (wNot (wB (wCallF 2 m__law_served_stands (wCons (wVar 3) (wCons (wVar 11) wNil))))))
  (wRet true (wC (.bl false)))
  wNext)
  (wSeq (wIf (wOr (wB (wBin dNe (wVar 3) (wBin dIx (wVar 5) (wC (.int 0))))) (wB (wBin dNe (wVar 4) (wBin dIx (wVar 5) (wC (.int 1))))))
  (wRet true (wC (.bl false)))
  wNext)
  (wSeq (wIf (wB (wBin dEq (wCallB dLenA (wCons (wVar 4) wNil)) (wC (.int 0))))
  (wRet true (wC (.bl true)))
  wNext)
  (wSeq (wSet 8 (wCallF 2 m__law_draw (wCons (wVar 1) (wCons (wCallB dLenA (wCons (wVar 4) wNil)) wNil))))
  (wSeq (wSetIx 4 (wTup (wConsU (wCallF 2 m__law_draw (wCons (wVar 1) (wCons (wC (.int 12)) wNil))) (wConsU (wBin dAdd (wC (.int 1)) (wCallF 2 m__law_draw (wCons (wVar 1) (wCons (wC (.int 999)) wNil)))) wNil))) (wVar 8))
  (wRet true (wCallF 2 m__law_served_stands (wCons (wVar 3) (wCons (wVar 4) wNil)))))))))))))))))))
theorem l_law : ∀ ds s Q, ds.length = P_law.length → m_law ds s Q → w_law { nx := fun _ s' => Q .non s', rt := Q } (Ld.start N_law.length ds) s := by
  rintro ds s Q hl ⟨sc, rfl, hn, q⟩
  unfold w_law
  walk_at "go"
  generalize cutL sc none (some 63) = cs
  refine ⟨all_flat_ints _, fun a ha => ?_⟩
  walk_at "go"
  refine ⟨rfl, fun f hf => ?_⟩
  have hok := bag_new ha hf
  walk_at "gi"
  refine ⟨f, 3, rfl, hok, by omega, by omega, fun kind s1 k1 k2 hf => ?_⟩
  walk_at "gi"
  refine ⟨f, kind, rfl, hf, fun su s1 hsu hsn hf => ?_⟩
  walk_at "gi"
  refine ⟨f, kind, su, rfl, hf, hsu, hsn, fun ne s1 hne hf => ?_⟩
  have hnl := hne.1
  have hsl := hsu.1
  have hl3 := serv_len hsu hne
  walk_at "gi"
  refine ⟨su, ne, rfl, hsu, hne, ?_⟩
  walk_at "gi"
  intro a0
  refine lc_map (g := t2) (xs := ne) (fun _ => .int 0) (by omega) (fun x hx acc g ha hg => ?_) ?_
  · walk_at "gi"
    exact hg
  rw [show ne.map (fun _ => D.int 0) = (List.range ne.length).map fun i => .int (tot (atP i) ((serv su ne).take 0)) by
    rw [map_rng (fun _ : T2 => D.int 0) z2]
    rfl]
  walk_at "gi"
  refine ⟨_, su, ne, rfl, .inr rfl, hsu, hne, ?_⟩
  walk_at "gi"
  refine for_map (g := t3) (xs := serv su ne) (fun j ρ s' => s1 = s' ∧ ∃ x7 x8 x9 x10 x11, ρ = [.val (.scr (sc.map .int)), .val (.ref f), .val (.int kind), .val (.lst (su.map t3)), .own (.lst (ne.map t2)), .val (.tup [.lst (su.map t3), .lst (ne.map t2)]), .own (.lst ((List.range ne.length).map fun i => .int (tot (atP i) ((serv su ne).take j)))), x7, x8, x9, x10, x11]) ⟨rfl, _, _, _, _, _, rfl⟩ ?_ ?_
  · rintro j t ρ s' g hj ⟨rfl, x7, x8, x9, x10, x11, rfl⟩ hg
    obtain ⟨i, hi, hti, k, hk, htk, htp⟩ := serv_row hsu hne t (List.mem_of_getElem? hj)
    have fin : ((List.range ne.length).map fun i => D.int (tot (atP i) ((serv su ne).take j))).set i (.int (tot (atP i) ((serv su ne).take j) + t.2.2)) = (List.range ne.length).map fun i => .int (tot (atP i) ((serv su ne).take (j + 1))) := by
      rw [← set_rng (k := i) (f := fun i => D.int (tot (atP i) ((serv su ne).take j))) (g := fun i => .int (tot (atP i) ((serv su ne).take (j + 1)))) hi fun i hi hne => by
        simp only [tot_take hj]
        rw [if_neg (by simp only [atP, decide_eq_true_eq]; omega), Int.add_zero]]
      rw [tot_take hj, if_pos (by simp only [atP, decide_eq_true_eq]; omega)]
    walk_at "gi"
    refine wb_i wb_law_1.eq_1 ?_
    walk_at "gi"
    rw [hti]
    refine ixN_i (by omega) (by simp; omega) ?_
    rw [Int.toNat_natCast, get_rng hi]
    walk_at "gi"
    refine ixN_i (by omega) (by simp; omega) ?_
    rw [Int.toNat_natCast, fin]
    exact hg _ _ ⟨rfl, _, _, _, _, _, rfl⟩
  rintro ρ s' ⟨rfl, x7, x8, x9, x10, x11, rfl⟩
  rw [List.take_length, show (List.range ne.length).map (fun i => D.int (tot (atP i) (serv su ne))) = (List.range ne.length).map fun i => .int (got su ne i) from List.map_congr_left fun i _ => by rw [got_eq]]
  walk_at "gi"
  refine lc_upto0 (fun j acc ρ s' => s1 = s' ∧ acc = ((List.range j).filter fun i => decide (0 < got su ne i)).map (fun i => t2 (day2 ne i, got su ne i)) ∧ ∃ x7 x8 x9 x10 x11, ρ = [.val (.scr (sc.map .int)), .val (.ref f), .val (.int kind), .val (.lst (su.map t3)), .own (.lst (ne.map t2)), .val (.tup [.lst (su.map t3), .lst (ne.map t2)]), .own (.lst ((List.range ne.length).map fun i => .int (got su ne i))), x7, x8, x9, x10, x11]) ⟨rfl, rfl, _, _, _, _, _, rfl⟩ ?_ ?_
  · rintro j acc ρ s' g hj ⟨rfl, rfl, x7, x8, x9, x10, x11, rfl⟩ hg
    have hal : (((List.range j).filter fun i => decide (0 < got su ne i)).map (fun i => t2 (day2 ne i, got su ne i))).length ≤ 12 := by
      have h1 := List.length_filter_le (fun i => decide (0 < got su ne i)) (List.range j)
      rw [List.length_map]
      rw [List.length_range] at h1
      omega
    rw [List.range_succ, List.filter_append, List.map_append] at hg
    walk_at "gi"
    refine ixL (xs := List.range ne.length) (f := fun i => D.int (got su ne i)) 0 (by omega) (by rw [List.length_range]; omega) ?_
    rw [Int.toNat_natCast, show (List.range ne.length).getD j 0 = j by rw [List.getD_eq_getElem?_getD, List.getElem?_range hj]; rfl]
    walk_at "gi"
    · rename_i hgt
      refine ixL z2 (by omega) (by omega) ?_
      rw [Int.toNat_natCast]
      walk_at "gi"
      refine ixL (xs := List.range ne.length) (f := fun i => D.int (got su ne i)) 0 (by omega) (by rw [List.length_range]; omega) ?_
      rw [Int.toNat_natCast, show (List.range ne.length).getD j 0 = j by rw [List.getD_eq_getElem?_getD, List.getElem?_range hj]; rfl]
      walk_at "gi"
      rw [List.filter_cons, if_pos (decide_eq_true hgt)] at hg
      refine ⟨?_, hg _ _ _ ⟨rfl, rfl, _, _, _, _, _, rfl⟩⟩
      rw [List.length_map] at hal
      exact sizeLine_lt (by omega)
    · rename_i hgt
      rw [List.filter_cons, if_neg (by rw [decide_eq_true_eq]; exact hgt), List.filter_nil, List.map_nil, List.append_nil] at hg
      exact hg _ _ _ ⟨rfl, rfl, _, _, _, _, _, rfl⟩
  rintro acc ρ s' ⟨rfl, rfl, x7, x8, x9, x10, x11, rfl⟩
  rw [← cutN_map]
  have hA := isOk.all su ne
  generalize ((List.range ne.length).filter fun i => decide (0 < got su ne i)) = is at hA ⊢
  walk_at "gi"
  refine ⟨f, 3, rfl, hf, by omega, by omega, fun b s1 b1 b2 hf => ?_⟩
  walk_at "gi"
  have hcl := (hA.ne hsu hne).1
  refine ⟨f, _, rfl, hf, by omega, by omega, fun m s1 m1 m2 hf => ?_⟩
  walk_at "gi"
  obtain ⟨m, rfl⟩ : ∃ n : Nat, m = n := ⟨m.toNat, by omega⟩
  rw [cutL_take (by omega), show (cutN su ne is).take m = cutN su ne (is.take m) by unfold cutN; rw [List.map_take]]
  have hA := hA.take m
  generalize is.take m = is at hA ⊢
  all_goals
    have hC := hA.ne hsu hne
    refine ⟨f, su, _, rfl, hf, hsu, hsn, hC, hA.full hsu hne, fun s1 hf => ?_⟩
    walk_at "gi"
    refine ⟨su, _, rfl, hsu, hC, ?_⟩
    walk_at "gi"
    rw [dNe_self (by show pls _ (su.map t3) = true; exact pls_map (fun _ => rfl) _)]
    walk_at "gi"
    rw [dNe_self (by show pls _ (ne.map t2) = true; exact pls_map (fun _ => rfl) _)]
    walk_at "gi"
    · exact q _
    · refine ⟨f, ne.length, rfl, hf, by omega, by omega, fun p s1 p1 p2 hf => ?_⟩
      walk_at "gi"
      refine ⟨f, 12, rfl, hf, by omega, by omega, fun x s1 x1 x2 hf => ?_⟩
      walk_at "gi"
      refine ⟨f, 999, rfl, hf, by omega, by omega, fun y s1 y1 y2 hf => ?_⟩
      walk_at "gi"
      refine ixN_i (by omega) (by omega) ?_
      walk_at "gi"
      refine ⟨su, ne.set p.toNat (x, 1 + y), by rw [List.map_set]; rfl, hsu, ⟨by rw [List.length_set]; exact hnl, fun z hz => ?_⟩, ?_⟩
      · rcases List.mem_or_eq_of_mem_set hz with hz | rfl
        · exact hne.2 z hz
        · simp only
          omega
      · walk_at "gi"
        exact q _

section
variable {P : Program} {w : World} {K : PySem.W.Frag} {mg : Str → Option Value} {base : Heap} {z : Ad}
theorem b_law (T : Tx K mg z) {cdv : Value} {A : Around} {outer : List PySem.Env} {s : Shared} {H0 : Hp} {E : XK} (hr : Room (7) (A.deeper (envOfC "law" (defScope st_law) s.heap.objs.size z.a_law cdv))) {F H : Hp} {W : Addr → Prop} {h1 : ∀ a o, F a = some o → H a = some o} {h2 : ∃ s, (wldS K).Wd s W H} :
    ∃ t, SSs (cxD P w K mg base N_law "law" (defScope st_law) z.a_law cdv A outer s H0 E) (mkB K (wldS K) true F H W h1 h2) (defBody st_law) t (w_law) :=
  have hu := hr.units
  ⟨_, (ss_cons (s_set 1 sc_law.nd (se_keep rfl (sn_lst (sa_consU (se_keep rfl (sn_listc T.b_list (sa_cons (se_slice (sv 0) so_none (so_some se_int)) sa_nil))) (sa_consU se_int sa_nil)))))
  (ss_cons (s_set 2 sc_law.nd (se_callF (ok__law_draw T) (hr.mono (by decide)) T.g__law_draw T.f__law_draw.kp T.n__law_draw (sa_cons (sv 1) (sa_cons se_int sa_nil))))
  (ss_cons (s_set 3 sc_law.nd (se_callF (ok__law_supplies T) (hr.mono (by decide)) T.g__law_supplies T.f__law_supplies.kp T.n__law_supplies (sa_cons (sv 1) (sa_cons (sv 2) sa_nil))))
  (ss_cons (s_own 4 sc_law.nd (sn_call (ok__law_needs T) (hr.mono (by decide)) T.g__law_needs T.f__law_needs.kp T.n__law_needs (sa_cons (sv 1) (sa_cons (sv 2) (sa_cons (sv 3) sa_nil)))))
  (ss_cons (s_set 5 sc_law.nd (se_tup (sa_consU (SN.e (sn_listc T.b_list (sa_cons (sv 3) sa_nil))) (sa_consU (SN.e (sn_listc T.b_list (sa_cons (sv 4) sa_nil))) sa_nil))))
  (ss_cons (s_if (st_not (st_val (se_callF (ok__law_served_stands T) (hr.mono (by decide)) T.g__law_served_stands T.f__law_served_stands.kp T.n__law_served_stands (sa_cons (sv 3) (sa_cons (sv 4) sa_nil)))))
  (ss_one (s_ret se_bl))
  ss_nil)
  (ss_cons (s_own 6 sc_law.nd (sn_lcO (own := [("need", 7)]) 4 rfl sc_law.nd (sv 4) (blkOk_by (N := N_law) (sc := defScope st_law) (by decide +kernel)) (fun _ _ _ _ _ => (sg_name 7 sc_law.nd)) (fun _ _ _ _ _ => sts_nil) (fun _ _ _ _ _ => se_int) (by decide)))
  (ss_cons (s_for PassesOwn.never rfl (si_seq (se_callF (ok__law_serving T) (hr.mono (by decide)) T.g__law_serving T.f__law_serving.kp T.n__law_serving (sa_cons (sv 3) (sa_cons (sv 4) sa_nil)))) (sg_tup rfl (sgs_cons (sg_name 8 sc_law.nd) (sgs_cons (sg_name 9 sc_law.nd) (sgs_cons (sg_name 10 sc_law.nd) sgs_nil))))
  (ss_one (s_augIx 6 iop_add (rule_Ii (f := (· + ·))) (sv 10) (sv 8) (sv 6))))
  (ss_cons (s_setLc 11 (own := [("k", 9)]) rfl sc_law.nd (si_range1 T.b_range (se_len T.b_len (sa_cons (sv 4) sa_nil))) (blkOk_by (N := N_law) (sc := defScope st_law) (by decide +kernel)) (fun _ _ _ _ _ => (sg_name 9 sc_law.nd)) (fun _ _ _ _ _ => (sts_one (st_cmp op_gt rule_Ib (nobehind _ (by decide) (by decide)) (se_ix (sv 6) (sv 9)) se_int))) (fun _ _ _ _ _ => (se_tup (sa_consU (se_ix (se_ix (sv 4) (sv 9)) se_int) (sa_consU (se_ix (sv 6) (sv 9)) sa_nil)))) (by decide))
  (ss_cons (s_if (st_cmp (op_eqB hu) rule_eq (nobehind _ (by decide) (by decide)) (se_callF (ok__law_draw T) (hr.mono (by decide)) T.g__law_draw T.f__law_draw.kp T.n__law_draw (sa_cons (sv 1) (sa_cons se_int sa_nil))) se_int)
  (ss_one (s_set 11 sc_law.nd (se_slice (sv 11) so_none (so_some (se_callF (ok__law_draw T) (hr.mono (by decide)) T.g__law_draw T.f__law_draw.kp T.n__law_draw (sa_cons (sv 1) (sa_cons (se_add (se_len T.b_len (sa_cons (sv 11) sa_nil)) se_int) sa_nil)))))))
  ss_nil)
  (ss_cons (s_if (st_w (sw_or (st_not (st_val (se_callF (ok__law_rest_stands T) (hr.mono (by decide)) T.g__law_rest_stands T.f__law_rest_stands.kp T.n__law_rest_stands (sa_cons (sv 1) (sa_cons (se_tuplec T.b_tuple (sa_cons (sv 3) sa_nil)) (sa_cons (sv 11) sa_nil)))))) (sw_or1 (st_not (st_val (se_callF (ok__law_served_stands T) (hr.mono (by decide)) T.g__law_served_stands T.f__law_served_stands.kp T.n__law_served_stands (sa_cons (sv 3) (sa_cons (sv 11) sa_nil))))))))
  (ss_one (s_ret se_bl))
  ss_nil)
  (ss_cons (s_if (st_w (sw_or (st_cmp (op_neB hu) rule_ne (nobehind _ (by decide) (by decide)) (sv 3) (se_ix (sv 5) se_int)) (sw_or1 (st_cmp (op_neB hu) rule_ne (nobehind _ (by decide) (by decide)) (sv 4) (se_ix (sv 5) se_int)))))
  (ss_one (s_ret se_bl))
  ss_nil)
  (ss_cons (s_if (st_cmp (op_eqB hu) rule_eq (nobehind _ (by decide) (by decide)) (se_len T.b_len (sa_cons (sv 4) sa_nil)) se_int)
  (ss_one (s_ret se_bl))
  ss_nil)
  (ss_cons (s_set 8 sc_law.nd (se_callF (ok__law_draw T) (hr.mono (by decide)) T.g__law_draw T.f__law_draw.kp T.n__law_draw (sa_cons (sv 1) (sa_cons (se_len T.b_len (sa_cons (sv 4) sa_nil)) sa_nil))))
  (ss_cons (s_setIx 4 (se_tup (sa_consU (se_callF (ok__law_draw T) (hr.mono (by decide)) T.g__law_draw T.f__law_draw.kp T.n__law_draw (sa_cons (sv 1) (sa_cons se_int sa_nil))) (sa_consU (se_add se_int (se_callF (ok__law_draw T) (hr.mono (by decide)) T.g__law_draw T.f__law_draw.kp T.n__law_draw (sa_cons (sv 1) (sa_cons se_int sa_nil)))) sa_nil))) (sv 8) (sv 4))
  (ss_one (s_ret (se_callF (ok__law_served_stands T) (hr.mono (by decide)) T.g__law_served_stands T.f__law_served_stands.kp T.n__law_served_stands (sa_cons (sv 3) (sa_cons (sv 4) sa_nil))))))))))))))))))))⟩
theorem ok_law (T : Tx K mg z) : FnOk P w K mg base CX0 8 z.a_law z.d_law P_law (spD K (wldS K) true 1 m_law) :=
  fun_okD T.f_law sc_law (wldS K) true m_law w_law (fun _ _ _ _ _ _ hr _ _ _ _ _ => b_law T hr) l_law
end
section
variable {K : PySem.W.Frag} {mg : Str → Option Value} {h : Heap}
theorem tx_mk (X : K.In h) (G : h.Ns mainGlobals mg)
  {f0 : Addr} {od0 an0 : Option Addr} {sl0 : Array (Option Value)} {oc0 kV0 dc0 pm0 cd0 ct0 : Value}
  {f1 : Addr} {od1 an1 : Option Addr} {sl1 : Array (Option Value)} {oc1 kV1 dc1 pm1 cd1 ct1 : Value}
  {f2 : Addr} {od2 an2 : Option Addr} {sl2 : Array (Option Value)} {oc2 kV2 dc2 pm2 cd2 ct2 : Value}
  {f3 : Addr} {od3 an3 : Option Addr} {sl3 : Array (Option Value)} {oc3 kV3 dc3 pm3 cd3 ct3 : Value}
  {f4 : Addr} {od4 an4 : Option Addr} {sl4 : Array (Option Value)} {oc4 kV4 dc4 pm4 cd4 ct4 : Value}
  {f5 : Addr} {od5 an5 : Option Addr} {sl5 : Array (Option Value)} {oc5 kV5 dc5 pm5 cd5 ct5 : Value}
  {f6 : Addr} {od6 an6 : Option Addr} {sl6 : Array (Option Value)} {oc6 kV6 dc6 pm6 cd6 ct6 : Value}
  {f7 : Addr} {od7 an7 : Option Addr} {sl7 : Array (Option Value)} {oc7 kV7 dc7 pm7 cd7 ct7 : Value}
  {f8 : Addr} {od8 an8 : Option Addr} {sl8 : Array (Option Value)} {oc8 kV8 dc8 pm8 cd8 ct8 : Value}
  {f9 : Addr} {od9 an9 : Option Addr} {sl9 : Array (Option Value)} {oc9 kV9 dc9 pm9 cd9 ct9 : Value}
  {f10 : Addr} {od10 an10 : Option Addr} {sl10 : Array (Option Value)} {oc10 kV10 dc10 pm10 cd10 ct10 : Value}
  {f11 : Addr} {od11 an11 : Option Addr} {sl11 : Array (Option Value)} {oc11 kV11 dc11 pm11 cd11 ct11 : Value}
  {f12 : Addr} {od12 an12 : Option Addr} {sl12 : Array (Option Value)} {oc12 kV12 dc12 pm12 cd12 ct12 : Value}
  {f13 : Addr} {od13 an13 : Option Addr} {sl13 : Array (Option Value)} {oc13 kV13 dc13 pm13 cd13 ct13 : Value}
  {f14 : Addr} {od14 an14 : Option Addr} {sl14 : Array (Option Value)} {oc14 kV14 dc14 pm14 cd14 ct14 : Value}
  {f15 : Addr} {od15 an15 : Option Addr} {sl15 : Array (Option Value)} {oc15 kV15 dc15 pm15 cd15 ct15 : Value}
  {f16 : Addr} {od16 an16 : Option Addr} {sl16 : Array (Option Value)} {oc16 kV16 dc16 pm16 cd16 ct16 : Value}
  {f17 : Addr} {od17 an17 : Option Addr} {sl17 : Array (Option Value)} {oc17 kV17 dc17 pm17 cd17 ct17 : Value}
  {f18 : Addr} {od18 an18 : Option Addr} {sl18 : Array (Option Value)} {oc18 kV18 dc18 pm18 cd18 ct18 : Value}
  {f19 : Addr} {od19 an19 : Option Addr} {sl19 : Array (Option Value)} {oc19 kV19 dc19 pm19 cd19 ct19 : Value}
  {f20 : Addr} {od20 an20 : Option Addr} {sl20 : Array (Option Value)} {oc20 kV20 dc20 pm20 cd20 ct20 : Value}
  {f21 : Addr} {od21 an21 : Option Addr} {sl21 : Array (Option Value)} {oc21 kV21 dc21 pm21 cd21 ct21 : Value}
  {f22 : Addr} {od22 an22 : Option Addr} {sl22 : Array (Option Value)} {oc22 kV22 dc22 pm22 cd22 ct22 : Value}
  {f23 : Addr} {od23 an23 : Option Addr} {sl23 : Array (Option Value)} {oc23 kV23 dc23 pm23 cd23 ct23 : Value}
  {f24 : Addr} {od24 an24 : Option Addr} {sl24 : Array (Option Value)} {oc24 kV24 dc24 pm24 cd24 ct24 : Value}
  {f25 : Addr} {od25 an25 : Option Addr} {sl25 : Array (Option Value)} {oc25 kV25 dc25 pm25 cd25 ct25 : Value}
  {f26 : Addr} {od26 an26 : Option Addr} {sl26 : Array (Option Value)} {oc26 kV26 dc26 pm26 cd26 ct26 : Value}
  {f27 : Addr} {od27 an27 : Option Addr} {sl27 : Array (Option Value)} {oc27 kV27 dc27 pm27 cd27 ct27 : Value}
  {f28 : Addr} {od28 an28 : Option Addr} {sl28 : Array (Option Value)} {oc28 kV28 dc28 pm28 cd28 ct28 : Value}
  {tk0 : Tok}
  {tk1 : Tok}
  {tk2 : Tok}
  (a0 : PySem.W.nsIn K mainGlobals "is_between" = some (some (.ref f0))) (l0 : K.lookup f0 = some ⟨oc0, od0, .func (PySem.W.fnOf "is_between" "is_between" (defArgs st_is_between) (defBody st_is_between) (defScope st_is_between) .none kV0 dc0 pm0 an0 cd0 ct0), sl0⟩) (c0 : PySem.W.codeIn K cd0 "is_between" = true) (k0 : PySem.W.keepIn K (.ref f0) = true)
  (a1 : PySem.W.nsIn K mainGlobals "is_row" = some (some (.ref f1))) (l1 : K.lookup f1 = some ⟨oc1, od1, .func (PySem.W.fnOf "is_row" "is_row" (defArgs st_is_row) (defBody st_is_row) (defScope st_is_row) .none kV1 dc1 pm1 an1 cd1 ct1), sl1⟩) (c1 : PySem.W.codeIn K cd1 "is_row" = true) (k1 : PySem.W.keepIn K (.ref f1) = true)
  (a2 : PySem.W.nsIn K mainGlobals "is_supply" = some (some (.ref f2))) (l2 : K.lookup f2 = some ⟨oc2, od2, .func (PySem.W.fnOf "is_supply" "is_supply" (defArgs st_is_supply) (defBody st_is_supply) (defScope st_is_supply) .none kV2 dc2 pm2 an2 cd2 ct2), sl2⟩) (c2 : PySem.W.codeIn K cd2 "is_supply" = true) (k2 : PySem.W.keepIn K (.ref f2) = true)
  (a3 : PySem.W.nsIn K mainGlobals "is_need" = some (some (.ref f3))) (l3 : K.lookup f3 = some ⟨oc3, od3, .func (PySem.W.fnOf "is_need" "is_need" (defArgs st_is_need) (defBody st_is_need) (defScope st_is_need) .none kV3 dc3 pm3 an3 cd3 ct3), sl3⟩) (c3 : PySem.W.codeIn K cd3 "is_need" = true) (k3 : PySem.W.keepIn K (.ref f3) = true)
  (a4 : PySem.W.nsIn K mainGlobals "check_rows" = some (some (.ref f4))) (l4 : K.lookup f4 = some ⟨oc4, od4, .func (PySem.W.fnOf "check_rows" "check_rows" (defArgs st_check_rows) (defBody st_check_rows) (defScope st_check_rows) .none kV4 dc4 pm4 an4 cd4 ct4), sl4⟩) (c4 : PySem.W.codeIn K cd4 "check_rows" = true) (k4 : PySem.W.keepIn K (.ref f4) = true)
  (a5 : PySem.W.nsIn K mainGlobals "check_supplies" = some (some (.ref f5))) (l5 : K.lookup f5 = some ⟨oc5, od5, .func (PySem.W.fnOf "check_supplies" "check_supplies" (defArgs st_check_supplies) (defBody st_check_supplies) (defScope st_check_supplies) .none kV5 dc5 pm5 an5 cd5 ct5), sl5⟩) (c5 : PySem.W.codeIn K cd5 "check_supplies" = true) (k5 : PySem.W.keepIn K (.ref f5) = true)
  (a6 : PySem.W.nsIn K mainGlobals "check_needs" = some (some (.ref f6))) (l6 : K.lookup f6 = some ⟨oc6, od6, .func (PySem.W.fnOf "check_needs" "check_needs" (defArgs st_check_needs) (defBody st_check_needs) (defScope st_check_needs) .none kV6 dc6 pm6 an6 cd6 ct6), sl6⟩) (c6 : PySem.W.codeIn K cd6 "check_needs" = true) (k6 : PySem.W.keepIn K (.ref f6) = true)
  (a7 : PySem.W.nsIn K mainGlobals "has_day" = some (some (.ref f7))) (l7 : K.lookup f7 = some ⟨oc7, od7, .func (PySem.W.fnOf "has_day" "has_day" (defArgs st_has_day) (defBody st_has_day) (defScope st_has_day) .none kV7 dc7 pm7 an7 cd7 ct7), sl7⟩) (c7 : PySem.W.codeIn K cd7 "has_day" = true) (k7 : PySem.W.keepIn K (.ref f7) = true)
  (a8 : PySem.W.nsIn K mainGlobals "by_last" = some (some (.ref f8))) (l8 : K.lookup f8 = some ⟨oc8, od8, .func (PySem.W.fnOf "by_last" "by_last" (defArgs st_by_last) (defBody st_by_last) (defScope st_by_last) .none kV8 dc8 pm8 an8 cd8 ct8), sl8⟩) (c8 : PySem.W.codeIn K cd8 "by_last" = true) (k8 : PySem.W.keepIn K (.ref f8) = true)
  (a9 : PySem.W.nsIn K mainGlobals "serving_of" = some (some (.ref f9))) (l9 : K.lookup f9 = some ⟨oc9, od9, .func (PySem.W.fnOf "serving_of" "serving_of" (defArgs st_serving_of) (defBody st_serving_of) (defScope st_serving_of) .none kV9 dc9 pm9 an9 cd9 ct9), sl9⟩) (c9 : PySem.W.codeIn K cd9 "serving_of" = true) (k9 : PySem.W.keepIn K (.ref f9) = true)
  (a10 : PySem.W.nsIn K mainGlobals "pieces_in" = some (some (.ref f10))) (l10 : K.lookup f10 = some ⟨oc10, od10, .func (PySem.W.fnOf "pieces_in" "pieces_in" (defArgs st_pieces_in) (defBody st_pieces_in) (defScope st_pieces_in) .none kV10 dc10 pm10 an10 cd10 ct10), sl10⟩) (c10 : PySem.W.codeIn K cd10 "pieces_in" = true) (k10 : PySem.W.keepIn K (.ref f10) = true)
  (a11 : PySem.W.nsIn K mainGlobals "wanted_in" = some (some (.ref f11))) (l11 : K.lookup f11 = some ⟨oc11, od11, .func (PySem.W.fnOf "wanted_in" "wanted_in" (defArgs st_wanted_in) (defBody st_wanted_in) (defScope st_wanted_in) .none kV11 dc11 pm11 an11 cd11 ct11), sl11⟩) (c11 : PySem.W.codeIn K cd11 "wanted_in" = true) (k11 : PySem.W.keepIn K (.ref f11) = true)
  (a12 : PySem.W.nsIn K mainGlobals "served" = some (some (.ref f12))) (l12 : K.lookup f12 = some ⟨oc12, od12, .func (PySem.W.fnOf "served" "served" (defArgs st_served) (defBody st_served) (defScope st_served) .none kV12 dc12 pm12 an12 cd12 ct12), sl12⟩) (c12 : PySem.W.codeIn K cd12 "served" = true) (k12 : PySem.W.keepIn K (.ref f12) = true)
  (a13 : PySem.W.nsIn K mainGlobals "most_served" = some (some (.ref f13))) (l13 : K.lookup f13 = some ⟨oc13, od13, .func (PySem.W.fnOf "most_served" "most_served" (defArgs st_most_served) (defBody st_most_served) (defScope st_most_served) .none kV13 dc13 pm13 an13 cd13 ct13), sl13⟩) (c13 : PySem.W.codeIn K cd13 "most_served" = true) (k13 : PySem.W.keepIn K (.ref f13) = true)
  (a14 : PySem.W.nsIn K mainGlobals "lacking" = some (some (.ref f14))) (l14 : K.lookup f14 = some ⟨oc14, od14, .func (PySem.W.fnOf "lacking" "lacking" (defArgs st_lacking) (defBody st_lacking) (defScope st_lacking) .none kV14 dc14 pm14 an14 cd14 ct14), sl14⟩) (c14 : PySem.W.codeIn K cd14 "lacking" = true) (k14 : PySem.W.keepIn K (.ref f14) = true)
  (a15 : PySem.W.nsIn K mainGlobals "taken_of" = some (some (.ref f15))) (l15 : K.lookup f15 = some ⟨oc15, od15, .func (PySem.W.fnOf "taken_of" "taken_of" (defArgs st_taken_of) (defBody st_taken_of) (defScope st_taken_of) .none kV15 dc15 pm15 an15 cd15 ct15), sl15⟩) (c15 : PySem.W.codeIn K cd15 "taken_of" = true) (k15 : PySem.W.keepIn K (.ref f15) = true)
  (a16 : PySem.W.nsIn K mainGlobals "check_both" = some (some (.ref f16))) (l16 : K.lookup f16 = some ⟨oc16, od16, .func (PySem.W.fnOf "check_both" "check_both" (defArgs st_check_both) (defBody st_check_both) (defScope st_check_both) .none kV16 dc16 pm16 an16 cd16 ct16), sl16⟩) (c16 : PySem.W.codeIn K cd16 "check_both" = true) (k16 : PySem.W.keepIn K (.ref f16) = true)
  (a17 : PySem.W.nsIn K mainGlobals "unused" = some (some (.ref f17))) (l17 : K.lookup f17 = some ⟨oc17, od17, .func (PySem.W.fnOf "unused" "unused" (defArgs st_unused) (defBody st_unused) (defScope st_unused) .none kV17 dc17 pm17 an17 cd17 ct17), sl17⟩) (c17 : PySem.W.codeIn K cd17 "unused" = true) (k17 : PySem.W.keepIn K (.ref f17) = true)
  (a18 : PySem.W.nsIn K mainGlobals "left_on" = some (some (.ref f18))) (l18 : K.lookup f18 = some ⟨oc18, od18, .func (PySem.W.fnOf "left_on" "left_on" (defArgs st_left_on) (defBody st_left_on) (defScope st_left_on) .none kV18 dc18 pm18 an18 cd18 ct18), sl18⟩) (c18 : PySem.W.codeIn K cd18 "left_on" = true) (k18 : PySem.W.keepIn K (.ref f18) = true)
  (a19 : PySem.W.nsIn K mainGlobals "_law_draw" = some (some (.ref f19))) (l19 : K.lookup f19 = some ⟨oc19, od19, .func (PySem.W.fnOf "_law_draw" "_law_draw" (defArgs st__law_draw) (defBody st__law_draw) (defScope st__law_draw) .none kV19 dc19 pm19 an19 cd19 ct19), sl19⟩) (c19 : PySem.W.codeIn K cd19 "_law_draw" = true) (k19 : PySem.W.keepIn K (.ref f19) = true)
  (a20 : PySem.W.nsIn K mainGlobals "_law_number" = some (some (.ref f20))) (l20 : K.lookup f20 = some ⟨oc20, od20, .func (PySem.W.fnOf "_law_number" "_law_number" (defArgs st__law_number) (defBody st__law_number) (defScope st__law_number) .none kV20 dc20 pm20 an20 cd20 ct20), sl20⟩) (c20 : PySem.W.codeIn K cd20 "_law_number" = true) (k20 : PySem.W.keepIn K (.ref f20) = true)
  (a21 : PySem.W.nsIn K mainGlobals "_law_numbers" = some (some (.ref f21))) (l21 : K.lookup f21 = some ⟨oc21, od21, .func (PySem.W.fnOf "_law_numbers" "_law_numbers" (defArgs st__law_numbers) (defBody st__law_numbers) (defScope st__law_numbers) .none kV21 dc21 pm21 an21 cd21 ct21), sl21⟩) (c21 : PySem.W.codeIn K cd21 "_law_numbers" = true) (k21 : PySem.W.keepIn K (.ref f21) = true)
  (a22 : PySem.W.nsIn K mainGlobals "_law_triples" = some (some (.ref f22))) (l22 : K.lookup f22 = some ⟨oc22, od22, .func (PySem.W.fnOf "_law_triples" "_law_triples" (defArgs st__law_triples) (defBody st__law_triples) (defScope st__law_triples) .none kV22 dc22 pm22 an22 cd22 ct22), sl22⟩) (c22 : PySem.W.codeIn K cd22 "_law_triples" = true) (k22 : PySem.W.keepIn K (.ref f22) = true)
  (a23 : PySem.W.nsIn K mainGlobals "_law_supplies" = some (some (.ref f23))) (l23 : K.lookup f23 = some ⟨oc23, od23, .func (PySem.W.fnOf "_law_supplies" "_law_supplies" (defArgs st__law_supplies) (defBody st__law_supplies) (defScope st__law_supplies) .none kV23 dc23 pm23 an23 cd23 ct23), sl23⟩) (c23 : PySem.W.codeIn K cd23 "_law_supplies" = true) (k23 : PySem.W.keepIn K (.ref f23) = true)
  (a24 : PySem.W.nsIn K mainGlobals "_law_needs" = some (some (.ref f24))) (l24 : K.lookup f24 = some ⟨oc24, od24, .func (PySem.W.fnOf "_law_needs" "_law_needs" (defArgs st__law_needs) (defBody st__law_needs) (defScope st__law_needs) .none kV24 dc24 pm24 an24 cd24 ct24), sl24⟩) (c24 : PySem.W.codeIn K cd24 "_law_needs" = true) (k24 : PySem.W.keepIn K (.ref f24) = true)
  (a25 : PySem.W.nsIn K mainGlobals "_law_serving" = some (some (.ref f25))) (l25 : K.lookup f25 = some ⟨oc25, od25, .func (PySem.W.fnOf "_law_serving" "_law_serving" (defArgs st__law_serving) (defBody st__law_serving) (defScope st__law_serving) .none kV25 dc25 pm25 an25 cd25 ct25), sl25⟩) (c25 : PySem.W.codeIn K cd25 "_law_serving" = true) (k25 : PySem.W.keepIn K (.ref f25) = true)
  (a26 : PySem.W.nsIn K mainGlobals "_law_served_stands" = some (some (.ref f26))) (l26 : K.lookup f26 = some ⟨oc26, od26, .func (PySem.W.fnOf "_law_served_stands" "_law_served_stands" (defArgs st__law_served_stands) (defBody st__law_served_stands) (defScope st__law_served_stands) .none kV26 dc26 pm26 an26 cd26 ct26), sl26⟩) (c26 : PySem.W.codeIn K cd26 "_law_served_stands" = true) (k26 : PySem.W.keepIn K (.ref f26) = true)
  (a27 : PySem.W.nsIn K mainGlobals "_law_rest_stands" = some (some (.ref f27))) (l27 : K.lookup f27 = some ⟨oc27, od27, .func (PySem.W.fnOf "_law_rest_stands" "_law_rest_stands" (defArgs st__law_rest_stands) (defBody st__law_rest_stands) (defScope st__law_rest_stands) .none kV27 dc27 pm27 an27 cd27 ct27), sl27⟩) (c27 : PySem.W.codeIn K cd27 "_law_rest_stands" = true) (k27 : PySem.W.keepIn K (.ref f27) = true)
  (a28 : PySem.W.nsIn K mainGlobals "law" = some (some (.ref f28))) (l28 : K.lookup f28 = some ⟨oc28, od28, .func (PySem.W.fnOf "law" "law" (defArgs st_law) (defBody st_law) (defScope st_law) .none kV28 dc28 pm28 an28 cd28 ct28), sl28⟩) (c28 : PySem.W.codeIn K cd28 "law" = true) (k28 : PySem.W.keepIn K (.ref f28) = true)
  (z0 : PySem.W.nsIn K mainGlobals "bool" = some none)
  (z1 : PySem.W.nsIn K mainGlobals "enumerate" = some none)
  (z2 : PySem.W.nsIn K mainGlobals "int" = some none)
  (z3 : PySem.W.nsIn K mainGlobals "isinstance" = some none)
  (z4 : PySem.W.nsIn K mainGlobals "len" = some none)
  (z5 : PySem.W.nsIn K mainGlobals "list" = some none)
  (z6 : PySem.W.nsIn K mainGlobals "min" = some none)
  (z7 : PySem.W.nsIn K mainGlobals "range" = some none)
  (z8 : PySem.W.nsIn K mainGlobals "sorted" = some none)
  (z9 : PySem.W.nsIn K mainGlobals "sum" = some none)
  (z10 : PySem.W.nsIn K mainGlobals "tuple" = some none)
  (z11 : PySem.W.nsIn K mainGlobals "zip" = some none)
  (y0 : PySem.W.nsIn K mainGlobals "MOST_DAY" = some (some (.int 99 tk0)))
  (y1 : PySem.W.nsIn K mainGlobals "MOST_ROWS" = some (some (.int 12 tk1)))
  (y2 : PySem.W.nsIn K mainGlobals "MOST_COUNT" = some (some (.int 999 tk2))) :
  Tx K mg ⟨f0, PySem.W.fnOf "is_between" "is_between" (defArgs st_is_between) (defBody st_is_between) (defScope st_is_between) .none kV0 dc0 pm0 an0 cd0 ct0, f1, PySem.W.fnOf "is_row" "is_row" (defArgs st_is_row) (defBody st_is_row) (defScope st_is_row) .none kV1 dc1 pm1 an1 cd1 ct1, f2, PySem.W.fnOf "is_supply" "is_supply" (defArgs st_is_supply) (defBody st_is_supply) (defScope st_is_supply) .none kV2 dc2 pm2 an2 cd2 ct2, f3, PySem.W.fnOf "is_need" "is_need" (defArgs st_is_need) (defBody st_is_need) (defScope st_is_need) .none kV3 dc3 pm3 an3 cd3 ct3, f4, PySem.W.fnOf "check_rows" "check_rows" (defArgs st_check_rows) (defBody st_check_rows) (defScope st_check_rows) .none kV4 dc4 pm4 an4 cd4 ct4, f5, PySem.W.fnOf "check_supplies" "check_supplies" (defArgs st_check_supplies) (defBody st_check_supplies) (defScope st_check_supplies) .none kV5 dc5 pm5 an5 cd5 ct5, f6, PySem.W.fnOf "check_needs" "check_needs" (defArgs st_check_needs) (defBody st_check_needs) (defScope st_check_needs) .none kV6 dc6 pm6 an6 cd6 ct6, f7, PySem.W.fnOf "has_day" "has_day" (defArgs st_has_day) (defBody st_has_day) (defScope st_has_day) .none kV7 dc7 pm7 an7 cd7 ct7, f8, PySem.W.fnOf "by_last" "by_last" (defArgs st_by_last) (defBody st_by_last) (defScope st_by_last) .none kV8 dc8 pm8 an8 cd8 ct8, f9, PySem.W.fnOf "serving_of" "serving_of" (defArgs st_serving_of) (defBody st_serving_of) (defScope st_serving_of) .none kV9 dc9 pm9 an9 cd9 ct9, f10, PySem.W.fnOf "pieces_in" "pieces_in" (defArgs st_pieces_in) (defBody st_pieces_in) (defScope st_pieces_in) .none kV10 dc10 pm10 an10 cd10 ct10, f11, PySem.W.fnOf "wanted_in" "wanted_in" (defArgs st_wanted_in) (defBody st_wanted_in) (defScope st_wanted_in) .none kV11 dc11 pm11 an11 cd11 ct11, f12, PySem.W.fnOf "served" "served" (defArgs st_served) (defBody st_served) (defScope st_served) .none kV12 dc12 pm12 an12 cd12 ct12, f13, PySem.W.fnOf "most_served" "most_served" (defArgs st_most_served) (defBody st_most_served) (defScope st_most_served) .none kV13 dc13 pm13 an13 cd13 ct13, f14, PySem.W.fnOf "lacking" "lacking" (defArgs st_lacking) (defBody st_lacking) (defScope st_lacking) .none kV14 dc14 pm14 an14 cd14 ct14, f15, PySem.W.fnOf "taken_of" "taken_of" (defArgs st_taken_of) (defBody st_taken_of) (defScope st_taken_of) .none kV15 dc15 pm15 an15 cd15 ct15, f16, PySem.W.fnOf "check_both" "check_both" (defArgs st_check_both) (defBody st_check_both) (defScope st_check_both) .none kV16 dc16 pm16 an16 cd16 ct16, f17, PySem.W.fnOf "unused" "unused" (defArgs st_unused) (defBody st_unused) (defScope st_unused) .none kV17 dc17 pm17 an17 cd17 ct17, f18, PySem.W.fnOf "left_on" "left_on" (defArgs st_left_on) (defBody st_left_on) (defScope st_left_on) .none kV18 dc18 pm18 an18 cd18 ct18, f19, PySem.W.fnOf "_law_draw" "_law_draw" (defArgs st__law_draw) (defBody st__law_draw) (defScope st__law_draw) .none kV19 dc19 pm19 an19 cd19 ct19, f20, PySem.W.fnOf "_law_number" "_law_number" (defArgs st__law_number) (defBody st__law_number) (defScope st__law_number) .none kV20 dc20 pm20 an20 cd20 ct20, f21, PySem.W.fnOf "_law_numbers" "_law_numbers" (defArgs st__law_numbers) (defBody st__law_numbers) (defScope st__law_numbers) .none kV21 dc21 pm21 an21 cd21 ct21, f22, PySem.W.fnOf "_law_triples" "_law_triples" (defArgs st__law_triples) (defBody st__law_triples) (defScope st__law_triples) .none kV22 dc22 pm22 an22 cd22 ct22, f23, PySem.W.fnOf "_law_supplies" "_law_supplies" (defArgs st__law_supplies) (defBody st__law_supplies) (defScope st__law_supplies) .none kV23 dc23 pm23 an23 cd23 ct23, f24, PySem.W.fnOf "_law_needs" "_law_needs" (defArgs st__law_needs) (defBody st__law_needs) (defScope st__law_needs) .none kV24 dc24 pm24 an24 cd24 ct24, f25, PySem.W.fnOf "_law_serving" "_law_serving" (defArgs st__law_serving) (defBody st__law_serving) (defScope st__law_serving) .none kV25 dc25 pm25 an25 cd25 ct25, f26, PySem.W.fnOf "_law_served_stands" "_law_served_stands" (defArgs st__law_served_stands) (defBody st__law_served_stands) (defScope st__law_served_stands) .none kV26 dc26 pm26 an26 cd26 ct26, f27, PySem.W.fnOf "_law_rest_stands" "_law_rest_stands" (defArgs st__law_rest_stands) (defBody st__law_rest_stands) (defScope st__law_rest_stands) .none kV27 dc27 pm27 an27 cd27 ct27, f28, PySem.W.fnOf "law" "law" (defArgs st_law) (defBody st_law) (defScope st_law) .none kV28 dc28 pm28 an28 cd28 ct28⟩ where
    f_is_between := fun_mk (st := st_is_between) l0 c0 k0
    g_is_between := PySem.W.mg_of X G a0
    n_is_between := (fun_mk (st := st_is_between) l0 c0 k0).binds (ps := P_is_between) fun _ _ _ _ _ _ us hl => match us, hl with | [_, _, _], _ => rfl
    f_is_row := fun_mk (st := st_is_row) l1 c1 k1
    g_is_row := PySem.W.mg_of X G a1
    n_is_row := (fun_mk (st := st_is_row) l1 c1 k1).binds (ps := P_is_row) fun _ _ _ _ _ _ us hl => match us, hl with | [_, _], _ => rfl
    f_is_supply := fun_mk (st := st_is_supply) l2 c2 k2
    g_is_supply := PySem.W.mg_of X G a2
    n_is_supply := (fun_mk (st := st_is_supply) l2 c2 k2).binds (ps := P_is_supply) fun _ _ _ _ _ _ us hl => match us, hl with | [_], _ => rfl
    f_is_need := fun_mk (st := st_is_need) l3 c3 k3
    g_is_need := PySem.W.mg_of X G a3
    n_is_need := (fun_mk (st := st_is_need) l3 c3 k3).binds (ps := P_is_need) fun _ _ _ _ _ _ us hl => match us, hl with | [_], _ => rfl
    f_check_rows := fun_mk (st := st_check_rows) l4 c4 k4
    g_check_rows := PySem.W.mg_of X G a4
    n_check_rows := (fun_mk (st := st_check_rows) l4 c4 k4).binds (ps := P_check_rows) fun _ _ _ _ _ _ us hl => match us, hl with | [_, _], _ => rfl
    f_check_supplies := fun_mk (st := st_check_supplies) l5 c5 k5
    g_check_supplies := PySem.W.mg_of X G a5
    n_check_supplies := (fun_mk (st := st_check_supplies) l5 c5 k5).binds (ps := P_check_supplies) fun _ _ _ _ _ _ us hl => match us, hl with | [_], _ => rfl
    f_check_needs := fun_mk (st := st_check_needs) l6 c6 k6
    g_check_needs := PySem.W.mg_of X G a6
    n_check_needs := (fun_mk (st := st_check_needs) l6 c6 k6).binds (ps := P_check_needs) fun _ _ _ _ _ _ us hl => match us, hl with | [_], _ => rfl
    f_has_day := fun_mk (st := st_has_day) l7 c7 k7
    g_has_day := PySem.W.mg_of X G a7
    n_has_day := (fun_mk (st := st_has_day) l7 c7 k7).binds (ps := P_has_day) fun _ _ _ _ _ _ us hl => match us, hl with | [_, _], _ => rfl
    f_by_last := fun_mk (st := st_by_last) l8 c8 k8
    g_by_last := PySem.W.mg_of X G a8
    n_by_last := (fun_mk (st := st_by_last) l8 c8 k8).binds (ps := P_by_last) fun _ _ _ _ _ _ us hl => match us, hl with | [_, _], _ => rfl
    f_serving_of := fun_mk (st := st_serving_of) l9 c9 k9
    g_serving_of := PySem.W.mg_of X G a9
    n_serving_of := (fun_mk (st := st_serving_of) l9 c9 k9).binds (ps := P_serving_of) fun _ _ _ _ _ _ us hl => match us, hl with | [_, _], _ => rfl
    f_pieces_in := fun_mk (st := st_pieces_in) l10 c10 k10
    g_pieces_in := PySem.W.mg_of X G a10
    n_pieces_in := (fun_mk (st := st_pieces_in) l10 c10 k10).binds (ps := P_pieces_in) fun _ _ _ _ _ _ us hl => match us, hl with | [_], _ => rfl
    f_wanted_in := fun_mk (st := st_wanted_in) l11 c11 k11
    g_wanted_in := PySem.W.mg_of X G a11
    n_wanted_in := (fun_mk (st := st_wanted_in) l11 c11 k11).binds (ps := P_wanted_in) fun _ _ _ _ _ _ us hl => match us, hl with | [_], _ => rfl
    f_served := fun_mk (st := st_served) l12 c12 k12
    g_served := PySem.W.mg_of X G a12
    n_served := (fun_mk (st := st_served) l12 c12 k12).binds (ps := P_served) fun _ _ _ _ _ _ us hl => match us, hl with | [_, _], _ => rfl
    f_most_served := fun_mk (st := st_most_served) l13 c13 k13
    g_most_served := PySem.W.mg_of X G a13
    n_most_served := (fun_mk (st := st_most_served) l13 c13 k13).binds (ps := P_most_served) fun _ _ _ _ _ _ us hl => match us, hl with | [_, _], _ => rfl
    f_lacking := fun_mk (st := st_lacking) l14 c14 k14
    g_lacking := PySem.W.mg_of X G a14
    n_lacking := (fun_mk (st := st_lacking) l14 c14 k14).binds (ps := P_lacking) fun _ _ _ _ _ _ us hl => match us, hl with | [_, _], _ => rfl
    f_taken_of := fun_mk (st := st_taken_of) l15 c15 k15
    g_taken_of := PySem.W.mg_of X G a15
    n_taken_of := (fun_mk (st := st_taken_of) l15 c15 k15).binds (ps := P_taken_of) fun _ _ _ _ _ _ us hl => match us, hl with | [_, _, _], _ => rfl
    f_check_both := fun_mk (st := st_check_both) l16 c16 k16
    g_check_both := PySem.W.mg_of X G a16
    n_check_both := (fun_mk (st := st_check_both) l16 c16 k16).binds (ps := P_check_both) fun _ _ _ _ _ _ us hl => match us, hl with | [_, _], _ => rfl
    f_unused := fun_mk (st := st_unused) l17 c17 k17
    g_unused := PySem.W.mg_of X G a17
    n_unused := (fun_mk (st := st_unused) l17 c17 k17).binds (ps := P_unused) fun _ _ _ _ _ _ us hl => match us, hl with | [_, _], _ => rfl
    f_left_on := fun_mk (st := st_left_on) l18 c18 k18
    g_left_on := PySem.W.mg_of X G a18
    n_left_on := (fun_mk (st := st_left_on) l18 c18 k18).binds (ps := P_left_on) fun _ _ _ _ _ _ us hl => match us, hl with | [_, _, _, _], _ => rfl
    f__law_draw := fun_mk (st := st__law_draw) l19 c19 k19
    g__law_draw := PySem.W.mg_of X G a19
    n__law_draw := (fun_mk (st := st__law_draw) l19 c19 k19).binds (ps := P__law_draw) fun _ _ _ _ _ _ us hl => match us, hl with | [_, _], _ => rfl
    f__law_number := fun_mk (st := st__law_number) l20 c20 k20
    g__law_number := PySem.W.mg_of X G a20
    n__law_number := (fun_mk (st := st__law_number) l20 c20 k20).binds (ps := P__law_number) fun _ _ _ _ _ _ us hl => match us, hl with | [_, _], _ => rfl
    f__law_numbers := fun_mk (st := st__law_numbers) l21 c21 k21
    g__law_numbers := PySem.W.mg_of X G a21
    n__law_numbers := (fun_mk (st := st__law_numbers) l21 c21 k21).binds (ps := P__law_numbers) fun _ _ _ _ _ _ us hl => match us, hl with | [_, _], _ => rfl
    f__law_triples := fun_mk (st := st__law_triples) l22 c22 k22
    g__law_triples := PySem.W.mg_of X G a22
    n__law_triples := (fun_mk (st := st__law_triples) l22 c22 k22).binds (ps := P__law_triples) fun _ _ _ _ _ _ us hl => match us, hl with | [_, _], _ => rfl
    f__law_supplies := fun_mk (st := st__law_supplies) l23 c23 k23
    g__law_supplies := PySem.W.mg_of X G a23
    n__law_supplies := (fun_mk (st := st__law_supplies) l23 c23 k23).binds (ps := P__law_supplies) fun _ _ _ _ _ _ us hl => match us, hl with | [_, _], _ => rfl
    f__law_needs := fun_mk (st := st__law_needs) l24 c24 k24
    g__law_needs := PySem.W.mg_of X G a24
    n__law_needs := (fun_mk (st := st__law_needs) l24 c24 k24).binds (ps := P__law_needs) fun _ _ _ _ _ _ us hl => match us, hl with | [_, _, _], _ => rfl
    f__law_serving := fun_mk (st := st__law_serving) l25 c25 k25
    g__law_serving := PySem.W.mg_of X G a25
    n__law_serving := (fun_mk (st := st__law_serving) l25 c25 k25).binds (ps := P__law_serving) fun _ _ _ _ _ _ us hl => match us, hl with | [_, _], _ => rfl
    f__law_served_stands := fun_mk (st := st__law_served_stands) l26 c26 k26
    g__law_served_stands := PySem.W.mg_of X G a26
    n__law_served_stands := (fun_mk (st := st__law_served_stands) l26 c26 k26).binds (ps := P__law_served_stands) fun _ _ _ _ _ _ us hl => match us, hl with | [_, _], _ => rfl
    f__law_rest_stands := fun_mk (st := st__law_rest_stands) l27 c27 k27
    g__law_rest_stands := PySem.W.mg_of X G a27
    n__law_rest_stands := (fun_mk (st := st__law_rest_stands) l27 c27 k27).binds (ps := P__law_rest_stands) fun _ _ _ _ _ _ us hl => match us, hl with | [_, _, _], _ => rfl
    f_law := fun_mk (st := st_law) l28 c28 k28
    g_law := PySem.W.mg_of X G a28
    n_law := (fun_mk (st := st_law) l28 c28 k28).binds (ps := P_law) fun _ _ _ _ _ _ us hl => match us, hl with | [_], _ => rfl
    b_bool := PySem.W.mg_none_of X G z0
    b_enumerate := PySem.W.mg_none_of X G z1
    b_int := PySem.W.mg_none_of X G z2
    b_isinstance := PySem.W.mg_none_of X G z3
    b_len := PySem.W.mg_none_of X G z4
    b_list := PySem.W.mg_none_of X G z5
    b_min := PySem.W.mg_none_of X G z6
    b_range := PySem.W.mg_none_of X G z7
    b_sorted := PySem.W.mg_none_of X G z8
    b_sum := PySem.W.mg_none_of X G z9
    b_tuple := PySem.W.mg_none_of X G z10
    b_zip := PySem.W.mg_none_of X G z11
    c_MOST_DAY := ⟨_, PySem.W.mg_of X G y0⟩
    c_MOST_ROWS := ⟨_, PySem.W.mg_of X G y1⟩
    c_MOST_COUNT := ⟨_, PySem.W.mg_of X G y2⟩
theorem all_mk {l : PySem.W.OpenLaw} {w : World} {fa : Addr} (X : K.In h) (G : h.Ns mainGlobals mg) (hfa : mg "law" = some (.ref fa))
  {f0 : Addr} {od0 an0 : Option Addr} {sl0 : Array (Option Value)} {oc0 kV0 dc0 pm0 cd0 ct0 : Value}
  {f1 : Addr} {od1 an1 : Option Addr} {sl1 : Array (Option Value)} {oc1 kV1 dc1 pm1 cd1 ct1 : Value}
  {f2 : Addr} {od2 an2 : Option Addr} {sl2 : Array (Option Value)} {oc2 kV2 dc2 pm2 cd2 ct2 : Value}
  {f3 : Addr} {od3 an3 : Option Addr} {sl3 : Array (Option Value)} {oc3 kV3 dc3 pm3 cd3 ct3 : Value}
  {f4 : Addr} {od4 an4 : Option Addr} {sl4 : Array (Option Value)} {oc4 kV4 dc4 pm4 cd4 ct4 : Value}
  {f5 : Addr} {od5 an5 : Option Addr} {sl5 : Array (Option Value)} {oc5 kV5 dc5 pm5 cd5 ct5 : Value}
  {f6 : Addr} {od6 an6 : Option Addr} {sl6 : Array (Option Value)} {oc6 kV6 dc6 pm6 cd6 ct6 : Value}
  {f7 : Addr} {od7 an7 : Option Addr} {sl7 : Array (Option Value)} {oc7 kV7 dc7 pm7 cd7 ct7 : Value}
  {f8 : Addr} {od8 an8 : Option Addr} {sl8 : Array (Option Value)} {oc8 kV8 dc8 pm8 cd8 ct8 : Value}
  {f9 : Addr} {od9 an9 : Option Addr} {sl9 : Array (Option Value)} {oc9 kV9 dc9 pm9 cd9 ct9 : Value}
  {f10 : Addr} {od10 an10 : Option Addr} {sl10 : Array (Option Value)} {oc10 kV10 dc10 pm10 cd10 ct10 : Value}
  {f11 : Addr} {od11 an11 : Option Addr} {sl11 : Array (Option Value)} {oc11 kV11 dc11 pm11 cd11 ct11 : Value}
  {f12 : Addr} {od12 an12 : Option Addr} {sl12 : Array (Option Value)} {oc12 kV12 dc12 pm12 cd12 ct12 : Value}
  {f13 : Addr} {od13 an13 : Option Addr} {sl13 : Array (Option Value)} {oc13 kV13 dc13 pm13 cd13 ct13 : Value}
  {f14 : Addr} {od14 an14 : Option Addr} {sl14 : Array (Option Value)} {oc14 kV14 dc14 pm14 cd14 ct14 : Value}
  {f15 : Addr} {od15 an15 : Option Addr} {sl15 : Array (Option Value)} {oc15 kV15 dc15 pm15 cd15 ct15 : Value}
  {f16 : Addr} {od16 an16 : Option Addr} {sl16 : Array (Option Value)} {oc16 kV16 dc16 pm16 cd16 ct16 : Value}
  {f17 : Addr} {od17 an17 : Option Addr} {sl17 : Array (Option Value)} {oc17 kV17 dc17 pm17 cd17 ct17 : Value}
  {f18 : Addr} {od18 an18 : Option Addr} {sl18 : Array (Option Value)} {oc18 kV18 dc18 pm18 cd18 ct18 : Value}
  {f19 : Addr} {od19 an19 : Option Addr} {sl19 : Array (Option Value)} {oc19 kV19 dc19 pm19 cd19 ct19 : Value}
  {f20 : Addr} {od20 an20 : Option Addr} {sl20 : Array (Option Value)} {oc20 kV20 dc20 pm20 cd20 ct20 : Value}
  {f21 : Addr} {od21 an21 : Option Addr} {sl21 : Array (Option Value)} {oc21 kV21 dc21 pm21 cd21 ct21 : Value}
  {f22 : Addr} {od22 an22 : Option Addr} {sl22 : Array (Option Value)} {oc22 kV22 dc22 pm22 cd22 ct22 : Value}
  {f23 : Addr} {od23 an23 : Option Addr} {sl23 : Array (Option Value)} {oc23 kV23 dc23 pm23 cd23 ct23 : Value}
  {f24 : Addr} {od24 an24 : Option Addr} {sl24 : Array (Option Value)} {oc24 kV24 dc24 pm24 cd24 ct24 : Value}
  {f25 : Addr} {od25 an25 : Option Addr} {sl25 : Array (Option Value)} {oc25 kV25 dc25 pm25 cd25 ct25 : Value}
  {f26 : Addr} {od26 an26 : Option Addr} {sl26 : Array (Option Value)} {oc26 kV26 dc26 pm26 cd26 ct26 : Value}
  {f27 : Addr} {od27 an27 : Option Addr} {sl27 : Array (Option Value)} {oc27 kV27 dc27 pm27 cd27 ct27 : Value}
  {f28 : Addr} {od28 an28 : Option Addr} {sl28 : Array (Option Value)} {oc28 kV28 dc28 pm28 cd28 ct28 : Value}
  {tk0 : Tok}
  {tk1 : Tok}
  {tk2 : Tok}
  (a0 : PySem.W.nsIn K mainGlobals "is_between" = some (some (.ref f0))) (l0 : K.lookup f0 = some ⟨oc0, od0, .func (PySem.W.fnOf "is_between" "is_between" (defArgs st_is_between) (defBody st_is_between) (defScope st_is_between) .none kV0 dc0 pm0 an0 cd0 ct0), sl0⟩) (c0 : PySem.W.codeIn K cd0 "is_between" = true) (k0 : PySem.W.keepIn K (.ref f0) = true)
  (a1 : PySem.W.nsIn K mainGlobals "is_row" = some (some (.ref f1))) (l1 : K.lookup f1 = some ⟨oc1, od1, .func (PySem.W.fnOf "is_row" "is_row" (defArgs st_is_row) (defBody st_is_row) (defScope st_is_row) .none kV1 dc1 pm1 an1 cd1 ct1), sl1⟩) (c1 : PySem.W.codeIn K cd1 "is_row" = true) (k1 : PySem.W.keepIn K (.ref f1) = true)
  (a2 : PySem.W.nsIn K mainGlobals "is_supply" = some (some (.ref f2))) (l2 : K.lookup f2 = some ⟨oc2, od2, .func (PySem.W.fnOf "is_supply" "is_supply" (defArgs st_is_supply) (defBody st_is_supply) (defScope st_is_supply) .none kV2 dc2 pm2 an2 cd2 ct2), sl2⟩) (c2 : PySem.W.codeIn K cd2 "is_supply" = true) (k2 : PySem.W.keepIn K (.ref f2) = true)
  (a3 : PySem.W.nsIn K mainGlobals "is_need" = some (some (.ref f3))) (l3 : K.lookup f3 = some ⟨oc3, od3, .func (PySem.W.fnOf "is_need" "is_need" (defArgs st_is_need) (defBody st_is_need) (defScope st_is_need) .none kV3 dc3 pm3 an3 cd3 ct3), sl3⟩) (c3 : PySem.W.codeIn K cd3 "is_need" = true) (k3 : PySem.W.keepIn K (.ref f3) = true)
  (a4 : PySem.W.nsIn K mainGlobals "check_rows" = some (some (.ref f4))) (l4 : K.lookup f4 = some ⟨oc4, od4, .func (PySem.W.fnOf "check_rows" "check_rows" (defArgs st_check_rows) (defBody st_check_rows) (defScope st_check_rows) .none kV4 dc4 pm4 an4 cd4 ct4), sl4⟩) (c4 : PySem.W.codeIn K cd4 "check_rows" = true) (k4 : PySem.W.keepIn K (.ref f4) = true)
  (a5 : PySem.W.nsIn K mainGlobals "check_supplies" = some (some (.ref f5))) (l5 : K.lookup f5 = some ⟨oc5, od5, .func (PySem.W.fnOf "check_supplies" "check_supplies" (defArgs st_check_supplies) (defBody st_check_supplies) (defScope st_check_supplies) .none kV5 dc5 pm5 an5 cd5 ct5), sl5⟩) (c5 : PySem.W.codeIn K cd5 "check_supplies" = true) (k5 : PySem.W.keepIn K (.ref f5) = true)
  (a6 : PySem.W.nsIn K mainGlobals "check_needs" = some (some (.ref f6))) (l6 : K.lookup f6 = some ⟨oc6, od6, .func (PySem.W.fnOf "check_needs" "check_needs" (defArgs st_check_needs) (defBody st_check_needs) (defScope st_check_needs) .none kV6 dc6 pm6 an6 cd6 ct6), sl6⟩) (c6 : PySem.W.codeIn K cd6 "check_needs" = true) (k6 : PySem.W.keepIn K (.ref f6) = true)
  (a7 : PySem.W.nsIn K mainGlobals "has_day" = some (some (.ref f7))) (l7 : K.lookup f7 = some ⟨oc7, od7, .func (PySem.W.fnOf "has_day" "has_day" (defArgs st_has_day) (defBody st_has_day) (defScope st_has_day) .none kV7 dc7 pm7 an7 cd7 ct7), sl7⟩) (c7 : PySem.W.codeIn K cd7 "has_day" = true) (k7 : PySem.W.keepIn K (.ref f7) = true)
  (a8 : PySem.W.nsIn K mainGlobals "by_last" = some (some (.ref f8))) (l8 : K.lookup f8 = some ⟨oc8, od8, .func (PySem.W.fnOf "by_last" "by_last" (defArgs st_by_last) (defBody st_by_last) (defScope st_by_last) .none kV8 dc8 pm8 an8 cd8 ct8), sl8⟩) (c8 : PySem.W.codeIn K cd8 "by_last" = true) (k8 : PySem.W.keepIn K (.ref f8) = true)
  (a9 : PySem.W.nsIn K mainGlobals "serving_of" = some (some (.ref f9))) (l9 : K.lookup f9 = some ⟨oc9, od9, .func (PySem.W.fnOf "serving_of" "serving_of" (defArgs st_serving_of) (defBody st_serving_of) (defScope st_serving_of) .none kV9 dc9 pm9 an9 cd9 ct9), sl9⟩) (c9 : PySem.W.codeIn K cd9 "serving_of" = true) (k9 : PySem.W.keepIn K (.ref f9) = true)
  (a10 : PySem.W.nsIn K mainGlobals "pieces_in" = some (some (.ref f10))) (l10 : K.lookup f10 = some ⟨oc10, od10, .func (PySem.W.fnOf "pieces_in" "pieces_in" (defArgs st_pieces_in) (defBody st_pieces_in) (defScope st_pieces_in) .none kV10 dc10 pm10 an10 cd10 ct10), sl10⟩) (c10 : PySem.W.codeIn K cd10 "pieces_in" = true) (k10 : PySem.W.keepIn K (.ref f10) = true)
  (a11 : PySem.W.nsIn K mainGlobals "wanted_in" = some (some (.ref f11))) (l11 : K.lookup f11 = some ⟨oc11, od11, .func (PySem.W.fnOf "wanted_in" "wanted_in" (defArgs st_wanted_in) (defBody st_wanted_in) (defScope st_wanted_in) .none kV11 dc11 pm11 an11 cd11 ct11), sl11⟩) (c11 : PySem.W.codeIn K cd11 "wanted_in" = true) (k11 : PySem.W.keepIn K (.ref f11) = true)
  (a12 : PySem.W.nsIn K mainGlobals "served" = some (some (.ref f12))) (l12 : K.lookup f12 = some ⟨oc12, od12, .func (PySem.W.fnOf "served" "served" (defArgs st_served) (defBody st_served) (defScope st_served) .none kV12 dc12 pm12 an12 cd12 ct12), sl12⟩) (c12 : PySem.W.codeIn K cd12 "served" = true) (k12 : PySem.W.keepIn K (.ref f12) = true)
  (a13 : PySem.W.nsIn K mainGlobals "most_served" = some (some (.ref f13))) (l13 : K.lookup f13 = some ⟨oc13, od13, .func (PySem.W.fnOf "most_served" "most_served" (defArgs st_most_served) (defBody st_most_served) (defScope st_most_served) .none kV13 dc13 pm13 an13 cd13 ct13), sl13⟩) (c13 : PySem.W.codeIn K cd13 "most_served" = true) (k13 : PySem.W.keepIn K (.ref f13) = true)
  (a14 : PySem.W.nsIn K mainGlobals "lacking" = some (some (.ref f14))) (l14 : K.lookup f14 = some ⟨oc14, od14, .func (PySem.W.fnOf "lacking" "lacking" (defArgs st_lacking) (defBody st_lacking) (defScope st_lacking) .none kV14 dc14 pm14 an14 cd14 ct14), sl14⟩) (c14 : PySem.W.codeIn K cd14 "lacking" = true) (k14 : PySem.W.keepIn K (.ref f14) = true)
  (a15 : PySem.W.nsIn K mainGlobals "taken_of" = some (some (.ref f15))) (l15 : K.lookup f15 = some ⟨oc15, od15, .func (PySem.W.fnOf "taken_of" "taken_of" (defArgs st_taken_of) (defBody st_taken_of) (defScope st_taken_of) .none kV15 dc15 pm15 an15 cd15 ct15), sl15⟩) (c15 : PySem.W.codeIn K cd15 "taken_of" = true) (k15 : PySem.W.keepIn K (.ref f15) = true)
  (a16 : PySem.W.nsIn K mainGlobals "check_both" = some (some (.ref f16))) (l16 : K.lookup f16 = some ⟨oc16, od16, .func (PySem.W.fnOf "check_both" "check_both" (defArgs st_check_both) (defBody st_check_both) (defScope st_check_both) .none kV16 dc16 pm16 an16 cd16 ct16), sl16⟩) (c16 : PySem.W.codeIn K cd16 "check_both" = true) (k16 : PySem.W.keepIn K (.ref f16) = true)
  (a17 : PySem.W.nsIn K mainGlobals "unused" = some (some (.ref f17))) (l17 : K.lookup f17 = some ⟨oc17, od17, .func (PySem.W.fnOf "unused" "unused" (defArgs st_unused) (defBody st_unused) (defScope st_unused) .none kV17 dc17 pm17 an17 cd17 ct17), sl17⟩) (c17 : PySem.W.codeIn K cd17 "unused" = true) (k17 : PySem.W.keepIn K (.ref f17) = true)
  (a18 : PySem.W.nsIn K mainGlobals "left_on" = some (some (.ref f18))) (l18 : K.lookup f18 = some ⟨oc18, od18, .func (PySem.W.fnOf "left_on" "left_on" (defArgs st_left_on) (defBody st_left_on) (defScope st_left_on) .none kV18 dc18 pm18 an18 cd18 ct18), sl18⟩) (c18 : PySem.W.codeIn K cd18 "left_on" = true) (k18 : PySem.W.keepIn K (.ref f18) = true)
  (a19 : PySem.W.nsIn K mainGlobals "_law_draw" = some (some (.ref f19))) (l19 : K.lookup f19 = some ⟨oc19, od19, .func (PySem.W.fnOf "_law_draw" "_law_draw" (defArgs st__law_draw) (defBody st__law_draw) (defScope st__law_draw) .none kV19 dc19 pm19 an19 cd19 ct19), sl19⟩) (c19 : PySem.W.codeIn K cd19 "_law_draw" = true) (k19 : PySem.W.keepIn K (.ref f19) = true)
  (a20 : PySem.W.nsIn K mainGlobals "_law_number" = some (some (.ref f20))) (l20 : K.lookup f20 = some ⟨oc20, od20, .func (PySem.W.fnOf "_law_number" "_law_number" (defArgs st__law_number) (defBody st__law_number) (defScope st__law_number) .none kV20 dc20 pm20 an20 cd20 ct20), sl20⟩) (c20 : PySem.W.codeIn K cd20 "_law_number" = true) (k20 : PySem.W.keepIn K (.ref f20) = true)
  (a21 : PySem.W.nsIn K mainGlobals "_law_numbers" = some (some (.ref f21))) (l21 : K.lookup f21 = some ⟨oc21, od21, .func (PySem.W.fnOf "_law_numbers" "_law_numbers" (defArgs st__law_numbers) (defBody st__law_numbers) (defScope st__law_numbers) .none kV21 dc21 pm21 an21 cd21 ct21), sl21⟩) (c21 : PySem.W.codeIn K cd21 "_law_numbers" = true) (k21 : PySem.W.keepIn K (.ref f21) = true)
  (a22 : PySem.W.nsIn K mainGlobals "_law_triples" = some (some (.ref f22))) (l22 : K.lookup f22 = some ⟨oc22, od22, .func (PySem.W.fnOf "_law_triples" "_law_triples" (defArgs st__law_triples) (defBody st__law_triples) (defScope st__law_triples) .none kV22 dc22 pm22 an22 cd22 ct22), sl22⟩) (c22 : PySem.W.codeIn K cd22 "_law_triples" = true) (k22 : PySem.W.keepIn K (.ref f22) = true)
  (a23 : PySem.W.nsIn K mainGlobals "_law_supplies" = some (some (.ref f23))) (l23 : K.lookup f23 = some ⟨oc23, od23, .func (PySem.W.fnOf "_law_supplies" "_law_supplies" (defArgs st__law_supplies) (defBody st__law_supplies) (defScope st__law_supplies) .none kV23 dc23 pm23 an23 cd23 ct23), sl23⟩) (c23 : PySem.W.codeIn K cd23 "_law_supplies" = true) (k23 : PySem.W.keepIn K (.ref f23) = true)
  (a24 : PySem.W.nsIn K mainGlobals "_law_needs" = some (some (.ref f24))) (l24 : K.lookup f24 = some ⟨oc24, od24, .func (PySem.W.fnOf "_law_needs" "_law_needs" (defArgs st__law_needs) (defBody st__law_needs) (defScope st__law_needs) .none kV24 dc24 pm24 an24 cd24 ct24), sl24⟩) (c24 : PySem.W.codeIn K cd24 "_law_needs" = true) (k24 : PySem.W.keepIn K (.ref f24) = true)
  (a25 : PySem.W.nsIn K mainGlobals "_law_serving" = some (some (.ref f25))) (l25 : K.lookup f25 = some ⟨oc25, od25, .func (PySem.W.fnOf "_law_serving" "_law_serving" (defArgs st__law_serving) (defBody st__law_serving) (defScope st__law_serving) .none kV25 dc25 pm25 an25 cd25 ct25), sl25⟩) (c25 : PySem.W.codeIn K cd25 "_law_serving" = true) (k25 : PySem.W.keepIn K (.ref f25) = true)
  (a26 : PySem.W.nsIn K mainGlobals "_law_served_stands" = some (some (.ref f26))) (l26 : K.lookup f26 = some ⟨oc26, od26, .func (PySem.W.fnOf "_law_served_stands" "_law_served_stands" (defArgs st__law_served_stands) (defBody st__law_served_stands) (defScope st__law_served_stands) .none kV26 dc26 pm26 an26 cd26 ct26), sl26⟩) (c26 : PySem.W.codeIn K cd26 "_law_served_stands" = true) (k26 : PySem.W.keepIn K (.ref f26) = true)
  (a27 : PySem.W.nsIn K mainGlobals "_law_rest_stands" = some (some (.ref f27))) (l27 : K.lookup f27 = some ⟨oc27, od27, .func (PySem.W.fnOf "_law_rest_stands" "_law_rest_stands" (defArgs st__law_rest_stands) (defBody st__law_rest_stands) (defScope st__law_rest_stands) .none kV27 dc27 pm27 an27 cd27 ct27), sl27⟩) (c27 : PySem.W.codeIn K cd27 "_law_rest_stands" = true) (k27 : PySem.W.keepIn K (.ref f27) = true)
  (a28 : PySem.W.nsIn K mainGlobals "law" = some (some (.ref f28))) (l28 : K.lookup f28 = some ⟨oc28, od28, .func (PySem.W.fnOf "law" "law" (defArgs st_law) (defBody st_law) (defScope st_law) .none kV28 dc28 pm28 an28 cd28 ct28), sl28⟩) (c28 : PySem.W.codeIn K cd28 "law" = true) (k28 : PySem.W.keepIn K (.ref f28) = true)
  (z0 : PySem.W.nsIn K mainGlobals "bool" = some none)
  (z1 : PySem.W.nsIn K mainGlobals "enumerate" = some none)
  (z2 : PySem.W.nsIn K mainGlobals "int" = some none)
  (z3 : PySem.W.nsIn K mainGlobals "isinstance" = some none)
  (z4 : PySem.W.nsIn K mainGlobals "len" = some none)
  (z5 : PySem.W.nsIn K mainGlobals "list" = some none)
  (z6 : PySem.W.nsIn K mainGlobals "min" = some none)
  (z7 : PySem.W.nsIn K mainGlobals "range" = some none)
  (z8 : PySem.W.nsIn K mainGlobals "sorted" = some none)
  (z9 : PySem.W.nsIn K mainGlobals "sum" = some none)
  (z10 : PySem.W.nsIn K mainGlobals "tuple" = some none)
  (z11 : PySem.W.nsIn K mainGlobals "zip" = some none)
  (y0 : PySem.W.nsIn K mainGlobals "MOST_DAY" = some (some (.int 99 tk0)))
  (y1 : PySem.W.nsIn K mainGlobals "MOST_ROWS" = some (some (.int 12 tk1)))
  (y2 : PySem.W.nsIn K mainGlobals "MOST_COUNT" = some (some (.int 999 tk2))) :
  ∃ fd : FuncData, (∀ (s : Shared) (v : Value), BindsTo s fd ⟨[v], []⟩ [("script", v)]) ∧ ∀ base : Heap, K.In base → base.Ns mainGlobals mg → FnOk l.prog w K mg base CX0 8 fa fd ["script"] (spD K (wldS K) true 1 m_law) := by
  have e := hfa.symm.trans (PySem.W.mg_of X G a28)
  cases e
  have T := tx_mk X G a0 l0 c0 k0 a1 l1 c1 k1 a2 l2 c2 k2 a3 l3 c3 k3 a4 l4 c4 k4 a5 l5 c5 k5 a6 l6 c6 k6 a7 l7 c7 k7 a8 l8 c8 k8 a9 l9 c9 k9 a10 l10 c10 k10 a11 l11 c11 k11 a12 l12 c12 k12 a13 l13 c13 k13 a14 l14 c14 k14 a15 l15 c15 k15 a16 l16 c16 k16 a17 l17 c17 k17 a18 l18 c18 k18 a19 l19 c19 k19 a20 l20 c20 k20 a21 l21 c21 k21 a22 l22 c22 k22 a23 l23 c23 k23 a24 l24 c24 k24 a25 l25 c25 k25 a26 l26 c26 k26 a27 l27 c27 k27 a28 l28 c28 k28 z0 z1 z2 z3 z4 z5 z6 z7 z8 z9 z10 z11 y0 y1 y2
  exact ⟨PySem.W.fnOf "law" "law" (defArgs st_law) (defBody st_law) (defScope st_law) .none kV28 dc28 pm28 an28 cd28 ct28, fun s v => .of_eq rfl, fun base _ _ => ok_law T⟩
end
theorem law_true : ∀ ns : List Int, ns.length ≤ 63 → m_law [.scr (ns.map D.int)] (fun _ => none) fun d _ => d = .bl true := fun ns h => ⟨ns, rfl, h, fun _ => rfl⟩

end Law
open PySem PySem.W PyProof.Rows
set_option maxHeartbeats 0 in
theorem PySem.Challenge.cw_oncecounted_k41_served_by_days_holds : PySem.Challenge.rw_oncecounted_k41_served_by_days.Holds := by
  w_on; o_law; k_head; (case hw => w_witness2)
  k_fill
  refine L2.walk_of (l := PySem.Challenge.rw_oncecounted_k41_served_by_days) (n := 63) (k := 8) (x := "script") (CX := fun _ => L2.CX0) (sp := fun w => Ld.spD _ (Ld.wldS _) true 1 Law.m_law) rfl (by decide) rfl ⟨rfl, by decide, by decide⟩ (fun w h Y => PySem.W.kIn_of Y) ?F (fun _ _ a ns hl _ hS => Ld.law_spS Law.law_true hl hS) (fun _ _ _ _ _ h => h)
  case F =>
    intro w mg fa h KX G hmg
    refine' Law.all_mk KX G hmg ?a0 ?l0 ?c0 ?k0 ?a1 ?l1 ?c1 ?k1 ?a2 ?l2 ?c2 ?k2 ?a3 ?l3 ?c3 ?k3 ?a4 ?l4 ?c4 ?k4 ?a5 ?l5 ?c5 ?k5 ?a6 ?l6 ?c6 ?k6 ?a7 ?l7 ?c7 ?k7 ?a8 ?l8 ?c8 ?k8 ?a9 ?l9 ?c9 ?k9 ?a10 ?l10 ?c10 ?k10 ?a11 ?l11 ?c11 ?k11 ?a12 ?l12 ?c12 ?k12 ?a13 ?l13 ?c13 ?k13 ?a14 ?l14 ?c14 ?k14 ?a15 ?l15 ?c15 ?k15 ?a16 ?l16 ?c16 ?k16 ?a17 ?l17 ?c17 ?k17 ?a18 ?l18 ?c18 ?k18 ?a19 ?l19 ?c19 ?k19 ?a20 ?l20 ?c20 ?k20 ?a21 ?l21 ?c21 ?k21 ?a22 ?l22 ?c22 ?k22 ?a23 ?l23 ?c23 ?k23 ?a24 ?l24 ?c24 ?k24 ?a25 ?l25 ?c25 ?k25 ?a26 ?l26 ?c26 ?k26 ?a27 ?l27 ?c27 ?k27 ?a28 ?l28 ?c28 ?k28 ?z0 ?z1 ?z2 ?z3 ?z4 ?z5 ?z6 ?z7 ?z8 ?z9 ?z10 ?z11 ?y0 ?y1 ?y2
    (case a0 => k_is); (case l0 => k_is); (case c0 => k_is); (case k0 => k_is); (case a1 => k_is); (case l1 => k_is); (case c1 => k_is); (case k1 => k_is); (case a2 => k_is); (case l2 => k_is); (case c2 => k_is); (case k2 => k_is); (case a3 => k_is); (case l3 => k_is); (case c3 => k_is); (case k3 => k_is); (case a4 => k_is); (case l4 => k_is); (case c4 => k_is); (case k4 => k_is); (case a5 => k_is); (case l5 => k_is); (case c5 => k_is); (case k5 => k_is); (case a6 => k_is); (case l6 => k_is); (case c6 => k_is); (case k6 => k_is); (case a7 => k_is); (case l7 => k_is); (case c7 => k_is); (case k7 => k_is); (case a8 => k_is); (case l8 => k_is); (case c8 => k_is); (case k8 => k_is); (case a9 => k_is); (case l9 => k_is); (case c9 => k_is); (case k9 => k_is); (case a10 => k_is); (case l10 => k_is); (case c10 => k_is); (case k10 => k_is); (case a11 => k_is); (case l11 => k_is); (case c11 => k_is); (case k11 => k_is); (case a12 => k_is); (case l12 => k_is); (case c12 => k_is); (case k12 => k_is); (case a13 => k_is); (case l13 => k_is); (case c13 => k_is); (case k13 => k_is); (case a14 => k_is); (case l14 => k_is); (case c14 => k_is); (case k14 => k_is); (case a15 => k_is); (case l15 => k_is); (case c15 => k_is); (case k15 => k_is); (case a16 => k_is); (case l16 => k_is); (case c16 => k_is); (case k16 => k_is); (case a17 => k_is); (case l17 => k_is); (case c17 => k_is); (case k17 => k_is); (case a18 => k_is); (case l18 => k_is); (case c18 => k_is); (case k18 => k_is); (case a19 => k_is); (case l19 => k_is); (case c19 => k_is); (case k19 => k_is); (case a20 => k_is); (case l20 => k_is); (case c20 => k_is); (case k20 => k_is); (case a21 => k_is); (case l21 => k_is); (case c21 => k_is); (case k21 => k_is); (case a22 => k_is); (case l22 => k_is); (case c22 => k_is); (case k22 => k_is); (case a23 => k_is); (case l23 => k_is); (case c23 => k_is); (case k23 => k_is); (case a24 => k_is); (case l24 => k_is); (case c24 => k_is); (case k24 => k_is); (case a25 => k_is); (case l25 => k_is); (case c25 => k_is); (case k25 => k_is); (case a26 => k_is); (case l26 => k_is); (case c26 => k_is); (case k26 => k_is); (case a27 => k_is); (case l27 => k_is); (case c27 => k_is); (case k27 => k_is); (case a28 => k_is); (case l28 => k_is); (case c28 => k_is); (case k28 => k_is); (case z0 => k_is); (case z1 => k_is); (case z2 => k_is); (case z3 => k_is); (case z4 => k_is); (case z5 => k_is); (case z6 => k_is); (case z7 => k_is); (case z8 => k_is); (case z9 => k_is); (case z10 => k_is); (case z11 => k_is); (case y0 => k_is); (case y1 => k_is); (case y2 => k_is)
