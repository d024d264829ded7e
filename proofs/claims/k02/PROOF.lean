import PyProof.Rows.All
import Wide.All
import OpenK.AllK
import Wide.FinOn
import HandS.ForMost
import HandS.ForExc
import HandS.Walk
import KE.KDictKeyed
import HandS.Deep
import HandS.TupAny
import HandS.TupMul
import HandS.Zip
import HandS.IsInst
import KE.DataMinMax
import KE.SortData
import HandS.Text
import KE.KDictDisplayH
import HandS.List
import PySem.Challenge.RW_gatherall_k02_whole_steps
set_option Elab.async false
set_option linter.all false
set_option maxRecDepth 100000
/-! VSA: the program's data as plain terms; what of it stands in the heap; who owns what may change -/
namespace VS
open PySem PySem.Spec PyProof.Rows L2

/-! ### data -/
inductive D where
  | non | bl (b : Bool) | int (i : Int) | str (x : Str)
  | tup (l : List D) | lst (l : List D) | scr (l : List D) | dct (l : List (NestedKey × D))
  | ins (c : Str) (fs : List (Str × D)) | glob (x : Str) | exn (c : Str)
  deriving Inhabited

mutual
def ofNK : NestedKey → D
  | .none => .non
  | .num i => .int i
  | .text x => .str x
  | .tup ks => .tup (ofNKs ks)
def ofNKs : List NestedKey → List D
  | [] => []
  | k :: ks => ofNK k :: ofNKs ks
end
mutual
def toNK : D → Option NestedKey
  | .non => some .none
  | .int i => some (.num i)
  | .str x => some (.text x)
  | .tup l => (toNKs l).map .tup
  | _ => none
def toNKs : List D → Option (List NestedKey)
  | [] => some []
  | d :: ds => match toNK d, toNKs ds with
    | some k, some ks => some (k :: ks)
    | _, _ => none
end
mutual
theorem ofNK_toNK : ∀ (d : D) (k : NestedKey), toNK d = some k → ofNK k = d
  | .non, k, h => by simp only [toNK, Option.some.injEq] at h; subst h; rfl
  | .int i, k, h => by simp only [toNK, Option.some.injEq] at h; subst h; rfl
  | .str x, k, h => by simp only [toNK, Option.some.injEq] at h; subst h; rfl
  | .tup l, k, h => by
    simp only [toNK, Option.map_eq_some_iff] at h
    obtain ⟨ks, h1, rfl⟩ := h
    rw [ofNK, ofNKs_toNKs l ks h1]
  | .bl _, k, h => by simp [toNK] at h
  | .lst _, k, h => by simp [toNK] at h
  | .scr _, k, h => by simp [toNK] at h
  | .dct _, k, h => by simp [toNK] at h
  | .ins _ _, k, h => by simp [toNK] at h
  | .glob _, k, h => by simp [toNK] at h
  | .exn _, k, h => by simp [toNK] at h
theorem ofNKs_toNKs : ∀ (l : List D) (ks : List NestedKey), toNKs l = some ks → ofNKs ks = l
  | [], ks, h => by simp only [toNKs, Option.some.injEq] at h; subst h; rfl
  | d :: ds, ks, h => by
    simp only [toNKs] at h
    split at h
    · rename_i k ks' h1 h2
      simp only [Option.some.injEq] at h
      subst h
      rw [ofNKs, ofNK_toNK d k h1, ofNKs_toNKs ds ks' h2]
    · cases h
end
def nkOf : Key → NestedKey
  | .inl i => .num i
  | .inr x => .text x

/-- the program that runs, and what its top has left -/
structure G where
  P : Program
  w : World
  K : PySem.W.Frag
  mg : Str → Option Value

/-- a dict whose keys are tuples: the keys, where their tuples stand, the values -/
def DRep (P : Program) (w : World) (a : Addr) (xs : List (NestedKey × Addr × V)) (h : Heap) : Prop :=
  xs.length ≤ sizeLine ∧ (a == sysModules) = false ∧ ∃ ys : List (NestedKey × Addr × Value), Paired (fun x y => x.1 = y.1 ∧ x.2.1 = y.2.1 ∧ RelV x.2.2 y.2.2) xs ys ∧ (∀ y ∈ ys, y.1.depth ≤ 8) ∧
    ∃ o es ep, h.get? a = some o ∧ o.ExactDict ∧ o.data = .dict es ep ∧ es.toList = ys.map (entryOfKey (nestedKind P w)) ∧ (ys.map (·.1)).Nodup
def DO (P : Program) (w : World) (a : Addr) (xs : List (NestedKey × Addr × V)) : HO := .ext (DRep P w a xs)

/-! ### what stands for good: in the part Z of the heap that nobody changes -/
mutual
inductive Rp (g : G) (Z : Hp) : V → D → Prop
  | non : Rp g Z .non .non
  | bl (b : Bool) : Rp g Z (.bl b) (.bl b)
  | int (i : Int) : Rp g Z (.int i) (.int i)
  | str (x : Str) : Rp g Z (.str x) (.str x)
  | tup {a : Addr} {vs : List V} {ds : List D} : SqT g.K Z a vs → Rps g Z vs ds → Rp g Z (.ref a) (.tup ds)
  | lst {a : Addr} {vs : List V} {ds : List D} : Z a = some (.lst vs) → Rps g Z vs ds → Rp g Z (.ref a) (.lst ds)
  | scr {a : Addr} {vs : List V} {ds : List D} : SqL g.K Z a vs → Rps g Z vs ds → Rp g Z (.ref a) (.scr ds)
  | dK {a : Addr} {o : Obj} {ks : List (Key × V)} {kvs : List (NestedKey × D)} : Z a = some (.frz o (.dK ks)) → kvs.map Prod.fst = ks.map (fun p => nkOf p.1) →
      Rps g Z (ks.map Prod.snd) (kvs.map Prod.snd) → Rp g Z (.ref a) (.dct kvs)
  | dT {a : Addr} {o : Obj} {xs : List (NestedKey × Addr × V)} {kvs : List (NestedKey × D)} : Z a = some (.frz o (DO g.P g.w a xs)) → kvs.map Prod.fst = xs.map (fun x => x.1) →
      Rps g Z (xs.map fun x => .ref x.2.1) (xs.map fun x => ofNK x.1) → Rps g Z (xs.map fun x => x.2.2) (kvs.map Prod.snd) → Rp g Z (.ref a) (.dct kvs)
  | glob {x : Str} {f : Addr} : g.mg x = some (.ref f) → Rp g Z (.ref f) (.glob x)
inductive Rps (g : G) (Z : Hp) : List V → List D → Prop
  | nil : Rps g Z [] []
  | cons {v : V} {d : D} {vs : List V} {ds : List D} : Rp g Z v d → Rps g Z vs ds → Rps g Z (v :: vs) (d :: ds)
end

theorem SqT_mono {K : PySem.W.Frag} {H H' : Hp} {a : Addr} {xs : List V} (e : Same H H') (h : SqT K H a xs) : SqT K H' a xs := by
  rcases h with (h | ⟨o, h⟩) | h
  · exact .inl (.inl (e _ _ h))
  · exact .inl (.inr ⟨o, e _ _ h⟩)
  · exact .inr h
mutual
theorem Rp.mono {g : G} {Z Z' : Hp} (s : Same Z Z') : ∀ {v : V} {d : D}, Rp g Z v d → Rp g Z' v d
  | _, _, .non => .non
  | _, _, .bl b => .bl b
  | _, _, .int i => .int i
  | _, _, .str x => .str x
  | _, _, .tup h r => .tup (SqT_mono s h) (Rps.mono s r)
  | _, _, .lst h r => .lst (s _ _ h) (Rps.mono s r)
  | _, _, .scr h r => .scr (s.seq h) (Rps.mono s r)
  | _, _, .dK h e r => .dK (s _ _ h) e (Rps.mono s r)
  | _, _, .dT h e r r2 => .dT (s _ _ h) e (Rps.mono s r) (Rps.mono s r2)
  | _, _, .glob h => .glob h
theorem Rps.mono {g : G} {Z Z' : Hp} (s : Same Z Z') : ∀ {vs : List V} {ds : List D}, Rps g Z vs ds → Rps g Z' vs ds
  | _, _, .nil => .nil
  | _, _, .cons h r => .cons (Rp.mono s h) (Rps.mono s r)
end
section
variable {g : G} {Z Z' : Hp}
theorem Rps.length : ∀ {vs : List V} {ds : List D}, Rps g Z vs ds → vs.length = ds.length
  | _, _, .nil => rfl
  | _, _, .cons _ r => by rw [List.length_cons, List.length_cons, Rps.length r]
theorem Rps.append : ∀ {vs ws : List V} {ds es : List D}, Rps g Z vs ds → Rps g Z ws es → Rps g Z (vs ++ ws) (ds ++ es)
  | _, _, _, _, .nil, s => s
  | _, _, _, _, .cons h r, s => .cons h (Rps.append r s)
theorem Rps.one {v : V} {d : D} (h : Rp g Z v d) : Rps g Z [v] [d] := .cons h .nil
theorem Rps.get : ∀ {vs : List V} {ds : List D} {i : Nat} {d : D}, Rps g Z vs ds → ds[i]? = some d → ∃ v, vs[i]? = some v ∧ Rp g Z v d
  | _, _, _, _, .nil, e => by simp at e
  | _, _, 0, _, .cons h _, e => by simp at e; subst e; exact ⟨_, rfl, h⟩
  | _, _, i + 1, d, .cons _ r, e => by
    obtain ⟨v, e1, e2⟩ := Rps.get (i := i) (d := d) r (by simpa using e)
    exact ⟨v, by simpa using e1, e2⟩
theorem Rps.getV : ∀ {vs : List V} {ds : List D} {i : Nat} {v : V}, Rps g Z vs ds → vs[i]? = some v → ∃ d, ds[i]? = some d ∧ Rp g Z v d
  | _, _, _, _, .nil, e => by simp at e
  | _, _, 0, _, .cons h _, e => by simp at e; subst e; exact ⟨_, rfl, h⟩
  | _, _, i + 1, d, .cons _ r, e => by
    obtain ⟨v, e1, e2⟩ := Rps.getV (i := i) (v := d) r (by simpa using e)
    exact ⟨v, by simpa using e1, e2⟩
theorem Rps.take : ∀ {vs : List V} {ds : List D} (n : Nat), Rps g Z vs ds → Rps g Z (vs.take n) (ds.take n)
  | _, _, 0, _ => .nil
  | _, _, _ + 1, .nil => .nil
  | _, _, n + 1, .cons h r => .cons h (Rps.take n r)
theorem Rps.drop : ∀ {vs : List V} {ds : List D} (n : Nat), Rps g Z vs ds → Rps g Z (vs.drop n) (ds.drop n)
  | _, _, 0, r => r
  | _, _, _ + 1, .nil => .nil
  | _, _, n + 1, .cons _ r => Rps.drop n r
theorem Rps.set {v : V} {d : D} (h : Rp g Z v d) : ∀ {vs : List V} {ds : List D} (i : Nat), Rps g Z vs ds → Rps g Z (vs.set i v) (ds.set i d)
  | _, _, _, .nil => .nil
  | _, _, 0, .cons _ r => .cons h r
  | _, _, i + 1, .cons q r => .cons q (Rps.set h i r)
theorem Rps.eraseIdx : ∀ {vs : List V} {ds : List D} (i : Nat), Rps g Z vs ds → Rps g Z (vs.eraseIdx i) (ds.eraseIdx i)
  | _, _, _, .nil => .nil
  | _, _, 0, .cons _ r => r
  | _, _, i + 1, .cons q r => .cons q (Rps.eraseIdx i r)
theorem Rps.reverse : ∀ {vs : List V} {ds : List D}, Rps g Z vs ds → Rps g Z vs.reverse ds.reverse
  | _, _, .nil => .nil
  | _, _, .cons h r => by
    rw [List.reverse_cons, List.reverse_cons]
    exact (Rps.reverse r).append (.one h)
theorem Rps.dropLast {vs : List V} {ds : List D} (h : Rps g Z vs ds) : Rps g Z vs.dropLast ds.dropLast := by
  rw [List.dropLast_eq_take, List.dropLast_eq_take, h.length]
  exact h.take _
end

/-! ### what is owned: an object that may be changed, its items for good -/
/-- the fields of an instance: a list is owned (at the next of bs), all else stands for good -/
inductive FldR (g : G) (Z H : Hp) : List V → List D → List Addr → Prop
  | nil : FldR g Z H [] [] []
  | own {b : Addr} {vs : List V} {ds : List D} {r : List V} {rs : List D} {bs : List Addr} : H b = some (.lst vs) → Rps g Z vs ds → FldR g Z H r rs bs → FldR g Z H (.ref b :: r) (.lst ds :: rs) (b :: bs)
  | val {v : V} {d : D} {r : List V} {rs : List D} {bs : List Addr} : (∀ ds, d ≠ .lst ds) → Rp g Z v d → FldR g Z H r rs bs → FldR g Z H (v :: r) (d :: rs) bs
inductive OwnF (g : G) (Z H : Hp) (a : Addr) : D → List Addr → Prop
  | lst {vs : List V} {ds : List D} : H a = some (.lst vs) → Rps g Z vs ds → OwnF g Z H a (.lst ds) []
  | dK {ks : List (Key × V)} {kvs : List (NestedKey × D)} : H a = some (.dK ks) → kvs.map Prod.fst = ks.map (fun p => nkOf p.1) → Rps g Z (ks.map Prod.snd) (kvs.map Prod.snd) → OwnF g Z H a (.dct kvs) []
  | dT {xs : List (NestedKey × Addr × V)} {kvs : List (NestedKey × D)} : H a = some (DO g.P g.w a xs) → kvs.map Prod.fst = xs.map (fun x => x.1) →
      Rps g Z (xs.map fun x => .ref x.2.1) (xs.map fun x => ofNK x.1) → Rps g Z (xs.map fun x => x.2.2) (kvs.map Prod.snd) → OwnF g Z H a (.dct kvs) []
  | ins {c : Str} {C dx : Addr} {fv : List (Str × V)} {fs : List (Str × D)} {bs : List Addr} : g.mg c = some (.ref C) → H a = some (.ins C dx fv) → fv.map Prod.fst = fs.map Prod.fst →
      FldR g Z H (fv.map Prod.snd) (fs.map Prod.snd) bs → OwnF g Z H a (.ins c fs) bs
section
variable {g : G} {Z Z' H H' : Hp} {a : Addr} {d : D} {bs : List Addr}
theorem FldR.mono (s : Same Z Z') : ∀ {vs : List V} {ds : List D} {bs : List Addr}, (∀ b ∈ bs, H' b = H b) → FldR g Z H vs ds bs → FldR g Z' H' vs ds bs
  | _, _, _, _, .nil => .nil
  | _, _, _, k, .own h r f => .own ((k _ List.mem_cons_self).trans h) (r.mono s) (FldR.mono s (fun b hb => k b (List.mem_cons_of_mem _ hb)) f)
  | _, _, _, k, .val n r f => .val n (r.mono s) (FldR.mono s k f)
theorem OwnF.mono (s : Same Z Z') (ka : H' a = H a) (k : ∀ b ∈ bs, H' b = H b) (o : OwnF g Z H a d bs) : OwnF g Z' H' a d bs := by
  cases o with
  | lst h r => exact .lst (ka.trans h) (r.mono s)
  | dK h e r => exact .dK (ka.trans h) e (r.mono s)
  | dT h e r r2 => exact .dT (ka.trans h) e (r.mono s) (r2.mono s)
  | ins m h e f => exact .ins m (ka.trans h) e (f.mono s k)
theorem FldR.there : ∀ {vs : List V} {ds : List D} {bs : List Addr}, FldR g Z H vs ds bs → ∀ b ∈ bs, ∃ o, H b = some o ∧ Mut (some o)
  | _, _, _, .nil, b, hb => by simp at hb
  | _, _, _, .own h r f, b, hb => by
    rcases List.mem_cons.mp hb with rfl | hb
    · exact ⟨_, h, trivial⟩
    · exact FldR.there f b hb
  | _, _, _, .val _ _ f, b, hb => FldR.there f b hb
theorem OwnF.there (o : OwnF g Z H a d bs) : ∀ b ∈ a :: bs, ∃ u, H b = some u ∧ Mut (some u) := by
  intro b hb
  cases o with
  | lst h r => simp at hb; subst hb; exact ⟨_, h, trivial⟩
  | dK h e r => simp at hb; subst hb; exact ⟨_, h, trivial⟩
  | dT h e r r2 => simp at hb; subst hb; exact ⟨_, h, trivial⟩
  | ins m h e f =>
    rcases List.mem_cons.mp hb with rfl | hb
    · exact ⟨_, h, trivial⟩
    · exact f.there b hb
end

/-- what a slot holds: a thing for good, or an object that is the slot's own -/
inductive Slot where
  | val (d : D)
  | own (d : D)
abbrev Env := List (Option Slot)
/-- whose an object is: the slot, and 0, or the number of the field and one more -/
abbrev Ow := Addr → Option (Nat × Nat)
/-- the entry of a def: what stood for good, the heap, who owned what of its arguments, its slots -/
structure FB where
  Z : Hp
  H : Hp
  ow : Ow
  σ : L2.St

def OwnAt (ow : Ow) (i : Nat) (a : Addr) (bs : List Addr) : Prop := ow a = some (i, 0) ∧ ∀ k b, bs[k]? = some b → ow b = some (i, k + 1)
def SlotR (g : G) (Z : Hp) (ow : Ow) (H : Hp) (i : Nat) : Slot → Option (Option V) → Prop
  | .val d, ov => ∃ v, ov = some (some v) ∧ Rp g Z v d
  | .own d, ov => ∃ a bs, ov = some (some (.ref a)) ∧ OwnAt ow i a bs ∧ OwnF g Z H a d bs

/-- what came after the entry, or was then a slot's own that is not lent -/
def Mine (L : List Nat) (B : FB) (b : Addr) : Prop := B.H b = none ∨ ∃ q, B.ow b = some q ∧ q.1 ∉ L

/-- the same slot's, or no lent one's -/
def Lk (L : List Nat) (q p : Nat × Nat) : Prop := q.1 = p.1 ∨ (q.1 ∉ L ∧ p.1 ∉ L)
theorem Lk.out {L : List Nat} {q p : Nat × Nat} (h : Lk L q p) (n : p.1 ∉ L) : q.1 ∉ L := by
  rcases h with e | e
  · rw [e]; exact n
  · exact e.1
theorem Lk.trans {L : List Nat} {q p r : Nat × Nat} (h : Lk L q p) (h' : Lk L p r) : Lk L q r := by
  rcases h with e | e
  · rcases h' with e' | e'
    · exact .inl (e.trans e')
    · exact .inr ⟨by rw [e]; exact e'.1, e'.2⟩
  · rcases h' with e' | e'
    · exact .inr ⟨e.1, by rw [← e']; exact e.2⟩
    · exact .inr ⟨e.1, e'.2⟩

structure RelZ (g : G) (L : List Nat) (B : FB) (Z : Hp) (ow : Ow) (env : Env) (σ : L2.St) (H : Hp) : Prop where
  z0 : Same B.Z Z
  zh : Same Z H
  zn : ∀ b o, Z b = some o → B.Z b = some o ∨ Mine L B b
  fr : ∀ b o, B.H b = some o → B.ow b = none → H b = some o
  own : ∀ b p, ow b = some p → Z b = none ∧ (∃ o, H b = some o) ∧ (B.H b = none ∨ ∃ q, B.ow b = some q ∧ Lk L q p)
  slots : ∀ i sl, env[i]? = some (some sl) → SlotR g Z ow H i sl σ[i]?
  pin : ∀ i ∈ L, σ[i]? = B.σ[i]?
  len : env.length = σ.length
  th : ∀ b o, B.H b = some o → ∃ o', H b = some o'
  b0 : ∀ b q, B.ow b = some q → B.Z b = none
end VS

/-! VSB: expressions, tests and statements as functions of the slots' data; that the model does what they tell -/
namespace VS
open PySem PySem.Spec PyProof.Rows L2

/-! ### results -/
inductive R (α : Type) where
  | ok (a : α) (env : Env)
  | exc (c : Str) (env : Env)
  | stuck
def R.bind {α β : Type} : R α → (α → Env → R β) → R β
  | .ok a e, f => f a e
  | .exc c e, _ => .exc c e
  | .stuck, _ => .stuck
/-- what an expression gives: a thing for good, what a slot holds, a new object that is nobody's yet -/
inductive Opd where
  | val (d : D)
  | slot (i : Nat)
  | fresh (d : D)
abbrev EF := Env → R Opd
abbrev AF := Env → R (List Opd)
abbrev TF := Env → R Bool
inductive Fl where
  | nx | rt (o : Opd) | bk | ct
abbrev SF := Env → R Fl

def rd (env : Env) : Opd → Option D
  | .val d => some d
  | .fresh d => some d
  | .slot i => match env[i]? with
    | some (some (.val d)) => some d
    | some (some (.own d)) => some d
    | _ => none

abbrev gX (X : Cx) : G := ⟨X.prog, X.w, X.K, X.mg⟩
section
variable (g : G) (L : List Nat) (B : FB)
def OpdR (Z : Hp) (ow : Ow) (H : Hp) (σ : L2.St) (v : V) : Opd → Prop
  | .val d => Rp g Z v d
  | .slot i => σ[i]? = some (some v)
  | .fresh d => ∃ a bs, v = .ref a ∧ OwnF g Z H a d bs ∧ (a :: bs).Nodup ∧ ∀ b ∈ a :: bs, Z b = none ∧ ow b = none ∧ B.H b = none
inductive OpdRs (Z : Hp) (ow : Ow) (H : Hp) (σ : L2.St) : List V → List Opd → Prop
  | nil : OpdRs Z ow H σ [] []
  | cons {v : V} {o : Opd} {vs : List V} {os : List Opd} : OpdR g B Z ow H σ v o → (∀ d, o ≠ .fresh d) → OpdRs Z ow H σ vs os → OpdRs Z ow H σ (v :: vs) (o :: os)
/-- what is wanted behind a piece of an expression -/
def PostE {α : Type} (W : WX) (Z : Hp) (σ : L2.St) (r : R α) (Q : α → Hp → Ow → Env → Hp → Prop) : Prop :=
  match r with
  | .ok a env' => ∀ H' Z' ow', RelZ g L B Z' ow' env' σ H' → Same Z Z' → Q a Z' ow' env' H'
  | .exc c env' => ∀ C H' Z' ow', g.mg c = some (.ref C) → RelZ g L B Z' ow' env' σ H' → Same Z Z' → W (.ref C) none σ H'
  | .stuck => False
end
section
variable {g : G} {L : List Nat} {B : FB} {W : WX} {Z Z' : Hp} {σ : L2.St}
theorem PostE.mono {α : Type} {r : R α} {Q : α → Hp → Ow → Env → Hp → Prop} (s : Same Z Z') (h : PostE g L B W Z σ r Q) : PostE g L B W Z' σ r Q := by
  cases r with
  | ok a e => exact fun H' Z2 ow' rel s2 => h H' Z2 ow' rel (s.trans s2)
  | exc c e => exact fun C H' Z2 ow' m rel s2 => h C H' Z2 ow' m rel (s.trans s2)
  | stuck => exact h
theorem PostE.bind {α β : Type} {r : R α} {f : α → Env → R β} {Q : β → Hp → Ow → Env → Hp → Prop} (h : PostE g L B W Z σ (r.bind f) Q) :
    PostE g L B W Z σ r fun a Z' ow' env' H' => PostE g L B W Z' σ (f a env') Q := by
  cases r with
  | ok a e => exact fun H' Z2 ow' rel s2 => PostE.mono s2 h
  | exc c e => exact h
  | stuck => exact h
theorem PostE.imp {α : Type} {r : R α} {Q Q' : α → Hp → Ow → Env → Hp → Prop} (h : PostE g L B W Z σ r Q) (k : ∀ a Z' ow' env' H', RelZ g L B Z' ow' env' σ H' → Same Z Z' → Q a Z' ow' env' H' → Q' a Z' ow' env' H') : PostE g L B W Z σ r Q' := by
  cases r with
  | ok a e => exact fun H' Z2 ow' rel s2 => k _ _ _ _ _ rel s2 (h H' Z2 ow' rel s2)
  | exc c e => exact h
  | stuck => exact h
theorem OpdR.mono {B : FB} {ow : Ow} {H H' : Hp} {v : V} {o : Opd} (s : Same Z Z') (n : ∀ d, o ≠ .fresh d) (h : OpdR g B Z ow H σ v o) : ∀ ow' H', OpdR g B Z' ow' H' σ v o := by
  intro ow' H'
  cases o with
  | val d => exact Rp.mono s h
  | slot i => exact h
  | fresh d => exact absurd rfl (n d)
theorem OpdRs.mono {B : FB} {ow : Ow} {H : Hp} (s : Same Z Z') : ∀ {vs : List V} {os : List Opd}, OpdRs g B Z ow H σ vs os → ∀ ow' H', OpdRs g B Z' ow' H' σ vs os
  | _, _, .nil, _, _ => .nil
  | _, _, .cons h n r, ow', H' => .cons (OpdR.mono (H' := H') s n h ow' H') n (OpdRs.mono s r ow' H')
end

/-! ### the judgements -/
def tX (g : G) (L : List Nat) (W : WX) (f : EF) : TE := fun σ H Q => ∃ B Z ow env, RelZ g L B Z ow env σ H ∧ PostE g L B W Z σ (f env) fun o Z' ow' _ H' => ∀ v, OpdR g B Z' ow' H' σ v o → Q v H'
def tXs (g : G) (L : List Nat) (W : WX) (f : AF) : TA := fun σ H Q => ∃ B Z ow env, RelZ g L B Z ow env σ H ∧ PostE g L B W Z σ (f env) fun os Z' ow' _ H' => ∀ vs, OpdRs g B Z' ow' H' σ vs os → Q vs H'
def tXT (g : G) (L : List Nat) (W : WX) (f : TF) : TT := fun σ H Q => ∃ B Z ow env, RelZ g L B Z ow env σ H ∧ PostE g L B W Z σ (f env) fun b _ _ _ H' => Q b H'
def PostF (g : G) (L : List Nat) (B : FB) (W : WX) (D : Ends) (Z : Hp) (r : R Fl) : Prop :=
  match r with
  | .ok .nx env' => ∀ σ' H' Z' ow', RelZ g L B Z' ow' env' σ' H' → Same Z Z' → D.nx σ' H'
  | .ok .bk env' => ∀ σ' H' Z' ow', RelZ g L B Z' ow' env' σ' H' → Same Z Z' → D.bk σ' H'
  | .ok .ct env' => ∀ σ' H' Z' ow', RelZ g L B Z' ow' env' σ' H' → Same Z Z' → D.ct σ' H'
  | .ok (.rt o) env' => ∀ σ' H' Z' ow', RelZ g L B Z' ow' env' σ' H' → Same Z Z' → ∀ v, OpdR g B Z' ow' H' σ' v o → D.rt v H'
  | .exc c env' => ∀ C σ' H' Z' ow', g.mg c = some (.ref C) → RelZ g L B Z' ow' env' σ' H' → Same Z Z' → W (.ref C) none σ' H'
  | .stuck => False
def tXS (g : G) (L : List Nat) (W : WX) (F : SF) : TS := fun D σ H => ∃ B Z ow env, RelZ g L B Z ow env σ H ∧ PostF g L B W D Z (F env)
abbrev PX (X : Cx) (L : List Nat) (W : WX) (e : Expr) (f : EF) : Prop := PE X e (tX (gX X) L W f)
abbrev PXs (X : Cx) (L : List Nat) (W : WX) (es : List Expr) (f : AF) : Prop := PA X es (tXs (gX X) L W f)
abbrev PXT (X : Cx) (L : List Nat) (W : WX) (e : Expr) (f : TF) : Prop := PT X e (tXT (gX X) L W f)
abbrev PXW (X : Cx) (L : List Nat) (W : WX) (e : Expr) (f : TF) : Prop := PW X e (tXT (gX X) L W f)
abbrev PXS (X : Cx) (L : List Nat) (W : WX) (st : Stmt) (F : SF) : Prop := PS X st (tXS (gX X) L W F)
abbrev PXSs (X : Cx) (L : List Nat) (W : WX) (st : List Stmt) (F : SF) : Prop := PSs X st (tXS (gX X) L W F)
theorem PostF.mono {g : G} {L : List Nat} {B : FB} {W : WX} {D : Ends} {Z Z' : Hp} {r : R Fl} (s : Same Z Z') (h : PostF g L B W D Z r) : PostF g L B W D Z' r := by
  cases r with
  | ok a e =>
    cases a with
    | nx => exact fun σ' H' Z2 ow' rel s2 => h σ' H' Z2 ow' rel (s.trans s2)
    | bk => exact fun σ' H' Z2 ow' rel s2 => h σ' H' Z2 ow' rel (s.trans s2)
    | ct => exact fun σ' H' Z2 ow' rel s2 => h σ' H' Z2 ow' rel (s.trans s2)
    | rt o => exact fun σ' H' Z2 ow' rel s2 => h σ' H' Z2 ow' rel (s.trans s2)
  | exc c e => exact fun C σ' H' Z2 ow' m rel s2 => h C σ' H' Z2 ow' m rel (s.trans s2)
  | stuck => exact h

section
variable {X : Cx} {e : Expr} {t t' : TE}
theorem pe_of (h : PE X e t) (k : ∀ σ H Q, t' σ H Q → t σ H Q) : PE X e t' := ⟨fun pins s σ H Q I q => h.run pins s σ H Q I (k σ H Q q)⟩
theorem pt_of {t t' : TT} (h : PT X e t) (k : ∀ σ H Q, t' σ H Q → t σ H Q) : PT X e t' := ⟨fun pins s σ H Q I q => h.run pins s σ H Q I (k σ H Q q)⟩
theorem pw_of {t t' : TT} (h : PW X e t) (k : ∀ σ H Q, t' σ H Q → t σ H Q) : PW X e t' := ⟨fun wh pins s σ H Q I q => h.run wh pins s σ H Q I (k σ H Q q)⟩
theorem pa_of {es : List Expr} {t t' : TA} (h : PA X es t) (k : ∀ σ H Q, t' σ H Q → t σ H Q) : PA X es t' := ⟨fun pos pins s σ H Q I q => h.run pos pins s σ H Q I (k σ H Q q)⟩
theorem ps_of {st : Stmt} {t t' : TS} (h : PS X st t) (k : ∀ D σ H, t' D σ H → t D σ H) : PS X st t' := ⟨fun pins s σ H D I q => h.run pins s σ H D I (k D σ H q)⟩
theorem pss_of {st : List Stmt} {t t' : TS} (h : PSs X st t) (k : ∀ D σ H, t' D σ H → t D σ H) : PSs X st t' := ⟨fun pins s σ H D I q => h.run pins s σ H D I (k D σ H q)⟩
end

/-! ### how the state goes on -/
structure Ext (Z H Z' H' : Hp) : Prop where
  zz : Same Z Z'
  zh : Same Z' H'
  hh : Same H H'
  zn : ∀ b o, Z' b = some o → Z b = some o ∨ H b = none
theorem Ext.refl {Z H : Hp} (zh : Same Z H) : Ext Z H Z H := ⟨Same.refl Z, zh, Same.refl H, fun _ _ h => .inl h⟩
theorem same_up {H : Hp} {p : Addr} {o : HO} (h : H p = none) : Same H (upd H p o) := fun b x e => by
  rw [upd_ne (ne_of_none e h)]
  exact e
theorem Ext.lay {Z H : Hp} {p : Addr} {o : HO} (zh : Same Z H) (hp : H p = none) : Ext Z H Z (upd H p o) := ⟨Same.refl Z, zh.trans (same_up hp), same_up hp, fun _ _ h => .inl h⟩
theorem Ext.layZ {Z H : Hp} {p : Addr} {o : HO} (zh : Same Z H) (hp : H p = none) : Ext Z H (upd Z p o) (upd H p o) := by
  have zp : Z p = none := zh.free hp
  refine ⟨same_up zp, fun b x e => ?_, same_up hp, fun b x e => ?_⟩
  · by_cases hb : b = p
    · subst hb; rw [upd_same] at e ⊢; exact e
    · rw [upd_ne hb] at e ⊢; exact zh _ _ e
  · by_cases hb : b = p
    · subst hb; exact .inr hp
    · rw [upd_ne hb] at e; exact .inl e
section
variable {g : G} {L : List Nat} {B : FB} {W : WX} {Z Z' H H' : Hp} {ow : Ow} {env : Env} {σ : L2.St}
theorem RelZ.oldH (r : RelZ g L B Z ow env σ H) {b : Addr} (n : H b = none) : B.H b = none := by
  cases e : B.H b with
  | none => rfl
  | some o =>
    obtain ⟨o', e'⟩ := r.th b o e
    rw [n] at e'; cases e'
theorem RelZ.notOwn (r : RelZ g L B Z ow env σ H) {b : Addr} (n : H b = none) : ow b = none := by
  cases e : ow b with
  | none => rfl
  | some p =>
    obtain ⟨_, ⟨o, e'⟩, _⟩ := r.own b p e
    rw [n] at e'; cases e'
theorem OwnAt.mem {ow : Ow} {i : Nat} {a : Addr} {bs : List Addr} (h : OwnAt ow i a bs) {b : Addr} (hb : b ∈ a :: bs) : ∃ k, ow b = some (i, k) := by
  rcases List.mem_cons.mp hb with rfl | hb
  · exact ⟨0, h.1⟩
  · obtain ⟨k, hk⟩ := List.mem_iff_getElem?.mp hb
    exact ⟨k + 1, h.2 k b hk⟩
/-- the heap grows -/
theorem RelZ.ext (r : RelZ g L B Z ow env σ H) (x : Ext Z H Z' H') : RelZ g L B Z' ow env σ H' where
  z0 := r.z0.trans x.zz
  zh := x.zh
  zn := fun b o e => by
    rcases x.zn b o e with q | q
    · exact r.zn b o q
    · exact .inr (.inl (r.oldH q))
  fr := fun b o e n => x.hh b o (r.fr b o e n)
  own := fun b p e => by
    obtain ⟨h1, ⟨o, h2⟩, h3⟩ := r.own b p e
    refine ⟨?_, ⟨o, x.hh b o h2⟩, h3⟩
    cases q : Z' b with
    | none => rfl
    | some u =>
      rcases x.zn b u q with z | z
      · rw [h1] at z; cases z
      · rw [h2] at z; cases z
  slots := fun i sl e => by
    have q := r.slots i sl e
    cases sl with
    | val d =>
      obtain ⟨v, e1, e2⟩ := q
      exact ⟨v, e1, e2.mono x.zz⟩
    | own d =>
      obtain ⟨a, bs, e1, e2, e3⟩ := q
      refine ⟨a, bs, e1, e2, e3.mono x.zz ?_ fun b hb => ?_⟩
      · obtain ⟨u, hu, _⟩ := e3.there a List.mem_cons_self
        rw [hu, x.hh _ _ hu]
      · obtain ⟨u, hu, _⟩ := e3.there b (List.mem_cons_of_mem _ hb)
        rw [hu, x.hh _ _ hu]
  pin := r.pin
  len := r.len
  th := fun b o e => by
    obtain ⟨o', e'⟩ := r.th b o e
    exact ⟨o', x.hh _ _ e'⟩
  b0 := r.b0
/-- what is nobody's may be made to stand for good -/
theorem RelZ.freeze (r : RelZ g L B Z ow env σ H) {a : Addr} {o : HO} (ha : H a = some o) (hz : Z a = none) (ho : ow a = none) (hb : Mine L B a) : RelZ g L B (upd Z a o) ow env σ H ∧ Same Z (upd Z a o) := by
  have s : Same Z (upd Z a o) := same_up hz
  refine ⟨⟨r.z0.trans s, fun b x e => ?_, fun b x e => ?_, r.fr, fun b p e => ?_, fun i sl e => ?_, r.pin, r.len, r.th, r.b0⟩, s⟩
  · by_cases q : b = a
    · subst q; rw [upd_same] at e; rw [ha]; exact e
    · rw [upd_ne q] at e; exact r.zh _ _ e
  · by_cases q : b = a
    · subst q; exact .inr hb
    · rw [upd_ne q] at e; exact r.zn _ _ e
  · obtain ⟨h1, h2, h3⟩ := r.own b p e
    refine ⟨?_, h2, h3⟩
    rw [upd_ne (fun q => by rw [q, ho] at e; cases e)]
    exact h1
  · have q := r.slots i sl e
    cases sl with
    | val d =>
      obtain ⟨v, e1, e2⟩ := q
      exact ⟨v, e1, e2.mono s⟩
    | own d =>
      obtain ⟨a', bs, e1, e2, e3⟩ := q
      exact ⟨a', bs, e1, e2, e3.mono s rfl fun _ _ => rfl⟩
/-- slot i is forgotten; what it owned is nobody's -/
theorem RelZ.drop (r : RelZ g L B Z ow env σ H) (i : Nat) (hi : i ∉ L) : RelZ g L B Z (fun b => match ow b with | some (j, k) => if j = i then none else some (j, k) | none => none) (env.set i none) σ H where
  z0 := r.z0
  zh := r.zh
  zn := r.zn
  fr := r.fr
  own := fun b p e => by
    cases q : ow b with
    | none => rw [q] at e; cases e
    | some jk =>
      obtain ⟨j, k⟩ := jk
      simp only [q] at e
      split at e
      · cases e
      · simp only [Option.some.injEq] at e
        subst e
        exact r.own b _ q
  slots := fun j sl e => by
    by_cases hj : j = i
    · subst hj
      by_cases hl : j < env.length
      · rw [List.getElem?_set_self hl] at e; cases e
      · rw [List.getElem?_eq_none (by rw [List.length_set]; omega)] at e; cases e
    · rw [List.getElem?_set_ne (Ne.symm hj)] at e
      have q := r.slots j sl e
      cases sl with
      | val d => exact q
      | own d =>
        obtain ⟨a, bs, e1, ⟨e2, e2'⟩, e3⟩ := q
        refine ⟨a, bs, e1, ⟨?_, fun k b hk => ?_⟩, e3⟩
        · simp only [e2, if_neg hj]
        · simp only [e2' k b hk, if_neg hj]
  pin := r.pin
  len := by rw [List.length_set]; exact r.len
  th := r.th
  b0 := r.b0
/-- another value is stored in slot i: a thing for good -/
theorem RelZ.store (r : RelZ g L B Z ow env σ H) {i : Nat} {v : V} {d : D} (hi : i ∉ L) (h : Rp g Z v d) :
    ∃ ow', RelZ g L B Z ow' (env.set i (some (.val d))) (σ.set i (some v)) H := by
  have r1 := r.drop i hi
  refine ⟨_, r1.z0, r1.zh, r1.zn, r1.fr, r1.own, fun j sl e => ?_, fun j hj => ?_, ?_, r1.th, r1.b0⟩
  · by_cases hj : j = i
    · subst hj
      by_cases hl : j < env.length
      · rw [List.getElem?_set_self hl] at e
        cases e
        refine ⟨v, ?_, h⟩
        rw [List.getElem?_set_self (by rw [← r.len]; exact hl)]
      · rw [List.getElem?_eq_none (by rw [List.length_set]; omega)] at e; cases e
    · rw [List.getElem?_set_ne (Ne.symm hj)] at e ⊢
      exact r1.slots j sl (by rw [List.getElem?_set_ne (Ne.symm hj)]; exact e)
  · rw [List.getElem?_set_ne (by rintro rfl; exact hi hj)]
    exact r.pin j hj
  · rw [List.length_set, List.length_set]; exact r.len
/-- .. a new object, which is the slot's from now on -/
theorem RelZ.adopt (r : RelZ g L B Z ow env σ H) {i : Nat} {a : Addr} {bs : List Addr} {d : D} (hi : i ∉ L) (h : OwnF g Z H a d bs) (nd : (a :: bs).Nodup) (hf : ∀ b ∈ a :: bs, Z b = none ∧ ow b = none ∧ B.H b = none) :
    ∃ ow', RelZ g L B Z ow' (env.set i (some (.own d))) (σ.set i (some (.ref a))) H := by
  have r1 := r.drop i hi
  have hidx : ∀ b, b ∈ bs → ∃ k, bs[k]? = some b ∧ bs.idxOf b = k := fun b hb => by
    refine ⟨bs.idxOf b, ?_, rfl⟩
    have hl := List.idxOf_lt_length_of_mem hb
    rw [List.getElem?_eq_getElem hl, List.getElem_idxOf]
  have nda : a ∉ bs := (List.nodup_cons.mp nd).1
  have ndb : bs.Nodup := (List.nodup_cons.mp nd).2
  let ow1 : Ow := fun b => match ow b with | some (j, k) => if j = i then none else some (j, k) | none => none
  refine ⟨fun b => if b = a then some (i, 0) else if b ∈ bs then some (i, bs.idxOf b + 1) else ow1 b, r1.z0, r1.zh, r1.zn, r1.fr, fun b p e => ?_, fun j sl e => ?_, fun j hj => ?_, ?_, r1.th, r1.b0⟩
  · by_cases q : b = a
    · subst q
      obtain ⟨z, _, n⟩ := hf b List.mem_cons_self
      obtain ⟨u, hu, _⟩ := h.there b List.mem_cons_self
      exact ⟨z, ⟨u, hu⟩, .inl n⟩
    · by_cases q2 : b ∈ bs
      · obtain ⟨z, _, n⟩ := hf b (List.mem_cons_of_mem _ q2)
        obtain ⟨u, hu, _⟩ := h.there b (List.mem_cons_of_mem _ q2)
        exact ⟨z, ⟨u, hu⟩, .inl n⟩
      · simp only [if_neg q, if_neg q2] at e
        exact r1.own b p e
  · by_cases hj : j = i
    · subst hj
      by_cases hl : j < env.length
      · rw [List.getElem?_set_self hl] at e
        cases e
        refine ⟨a, bs, ?_, ⟨by simp, fun k b hk => ?_⟩, h⟩
        · rw [List.getElem?_set_self (by rw [← r.len]; exact hl)]
        · have hm : b ∈ bs := List.mem_of_getElem? hk
          have hne : b ≠ a := fun q => nda (q ▸ hm)
          have hk' : bs.idxOf b = k := by
            obtain ⟨hl, he⟩ := List.getElem?_eq_some_iff.mp hk
            subst he
            exact ndb.idxOf_getElem k hl
          simp only [if_neg hne, if_pos hm, hk']
      · rw [List.getElem?_eq_none (by rw [List.length_set]; omega)] at e; cases e
    · rw [List.getElem?_set_ne (Ne.symm hj)] at e ⊢
      have q := r1.slots j sl (by rw [List.getElem?_set_ne (Ne.symm hj)]; exact e)
      cases sl with
      | val d => exact q
      | own d =>
        obtain ⟨a', bs', e1, e2, e3⟩ := q
        have keep : ∀ b, b ∈ a' :: bs' → (b ≠ a ∧ b ∉ bs) := fun b hb => by
          obtain ⟨k, hk⟩ := e2.mem hb
          have hk1 : ow1 b = some (j, k) := hk
          have : ow b ≠ none := fun z => by simp only [ow1, z] at hk1; cases hk1
          exact ⟨fun z => this (by rw [z]; exact (hf a List.mem_cons_self).2.1), fun z => this (hf b (List.mem_cons_of_mem _ z)).2.1⟩
        refine ⟨a', bs', e1, ⟨?_, fun k b hk => ?_⟩, e3⟩
        · obtain ⟨n1, n2⟩ := keep a' List.mem_cons_self
          simp only [if_neg n1, if_neg n2]
          exact e2.1
        · obtain ⟨n1, n2⟩ := keep b (List.mem_cons_of_mem _ (List.mem_of_getElem? hk))
          simp only [if_neg n1, if_neg n2]
          exact e2.2 k b hk
  · rw [List.getElem?_set_ne (by rintro rfl; exact hi hj)]
    exact r.pin j hj
  · rw [List.length_set, List.length_set]; exact r.len
/-- the object that slot i owns is changed at b, one of its own places -/
theorem RelZ.write (r : RelZ g L B Z ow env σ H) {i k : Nat} {a b : Addr} {bs : List Addr} {d : D} {o : HO} (hl : i < env.length) (hs : σ[i]? = some (some (.ref a))) (hb : ow b = some (i, k)) (ho : OwnAt ow i a bs) (h : OwnF g Z (upd H b o) a d bs) :
    RelZ g L B Z ow (env.set i (some (.own d))) σ (upd H b o) := by
  obtain ⟨zb, ⟨ob, hob⟩, ob'⟩ := r.own b _ hb
  refine ⟨r.z0, fun c x e => ?_, r.zn, fun c x e n => ?_, fun c p e => ?_, fun j sl e => ?_, r.pin, by rw [List.length_set]; exact r.len, fun c x e => ?_, r.b0⟩
  · by_cases q : c = b
    · subst q; rw [zb] at e; cases e
    · rw [upd_ne q]; exact r.zh _ _ e
  · by_cases q : c = b
    · subst q
      rcases ob' with z | ⟨q', z, _⟩
      · rw [z] at e; cases e
      · rw [z] at n; cases n
    · rw [upd_ne q]; exact r.fr _ _ e n
  · obtain ⟨h1, ⟨u, h2⟩, h3⟩ := r.own c p e
    refine ⟨h1, ?_, h3⟩
    by_cases q : c = b
    · subst q; exact ⟨o, upd_same⟩
    · rw [upd_ne q]; exact ⟨u, h2⟩
  · by_cases hj : j = i
    · subst hj
      rw [List.getElem?_set_self hl] at e
      cases e
      exact ⟨a, bs, hs, ho, h⟩
    · rw [List.getElem?_set_ne (Ne.symm hj)] at e
      have q := r.slots j sl e
      cases sl with
      | val d => exact q
      | own d =>
        obtain ⟨a', bs', e1, e2, e3⟩ := q
        have ne : ∀ c ∈ a' :: bs', c ≠ b := fun c hc z => by
          obtain ⟨k', hk'⟩ := e2.mem hc
          rw [z, hb] at hk'
          simp only [Option.some.injEq, Prod.mk.injEq] at hk'
          exact hj hk'.1.symm
        refine ⟨a', bs', e1, e2, e3.mono (Same.refl Z) (upd_ne (ne a' List.mem_cons_self)) fun c hc => upd_ne (ne c (List.mem_cons_of_mem _ hc))⟩
  · by_cases q : c = b
    · subst q; exact ⟨o, upd_same⟩
    · rw [upd_ne q]; exact r.th _ _ e
/-- a list that slot i owns is made to stand for good -/
theorem RelZ.fix (r : RelZ g L B Z ow env σ H) {i : Nat} {ds : List D} (hi : i ∉ L) (e : env[i]? = some (some (.own (.lst ds)))) :
    ∃ Z' ow' v, RelZ g L B Z' ow' (env.set i (some (.val (.lst ds)))) σ H ∧ Same Z Z' ∧ σ[i]? = some (some v) ∧ Rp g Z' v (.lst ds) := by
  obtain ⟨a, bs, e1, e2, e3⟩ := r.slots i _ e
  cases e3 with
  | @lst vs _ ha rs =>
    have hl : i < env.length := by
      obtain ⟨h, _⟩ := List.getElem?_eq_some_iff.mp e
      exact h
    have r1 := r.drop i hi
    obtain ⟨za, _, ba⟩ := r.own a _ e2.1
    have ba' : Mine L B a := by
      rcases ba with z | ⟨q, z, zl⟩
      · exact .inl z
      · exact .inr ⟨q, z, zl.out hi⟩
    obtain ⟨r2, s⟩ := r1.freeze ha za (by simp only [e2.1, if_true]) ba'
    refine ⟨_, _, .ref a, ⟨r2.z0, r2.zh, r2.zn, r2.fr, r2.own, fun j sl q => ?_, r2.pin, ?_, r2.th, r2.b0⟩, s, e1, .lst upd_same (rs.mono s)⟩
    · by_cases hj : j = i
      · subst hj
        rw [List.getElem?_set_self hl] at q
        cases q
        exact ⟨.ref a, e1, .lst upd_same (rs.mono s)⟩
      · rw [List.getElem?_set_ne (Ne.symm hj)] at q
        exact r2.slots j sl (by rw [List.getElem?_set_ne (Ne.symm hj)]; exact q)
    · rw [List.length_set]; exact r.len
/-- the state as an entry of its own -/
theorem RelZ.base (r : RelZ g L B Z ow env σ H) : RelZ g L ⟨Z, H, ow, σ⟩ Z ow env σ H where
  z0 := Same.refl _
  zh := r.zh
  zn := fun _ _ h => .inl h
  fr := fun _ _ h _ => h
  own := fun b p e => ⟨(r.own b p e).1, (r.own b p e).2.1, .inr ⟨p, e, .inl rfl⟩⟩
  slots := r.slots
  pin := fun _ _ => rfl
  len := r.len
  th := fun _ o h => ⟨o, h⟩
  b0 := fun b q e => (r.own b q e).1
theorem RelZ.unbase {Z' : Hp} {ow' : Ow} {env' : Env} {σ' : L2.St} {H' : Hp} (r : RelZ g L B Z ow env σ H) (r' : RelZ g L ⟨Z, H, ow, σ⟩ Z' ow' env' σ' H') : RelZ g L B Z' ow' env' σ' H' where
  z0 := r.z0.trans r'.z0
  zh := r'.zh
  zn := fun b o e => by
    rcases r'.zn b o e with q | q | ⟨p, q, n⟩
    · exact r.zn b o q
    · exact .inr (.inl (r.oldH q))
    · rcases (r.own b p q).2.2 with z | ⟨p', z, k⟩
      · exact .inr (.inl z)
      · exact .inr (.inr ⟨p', z, k.out n⟩)
  fr := fun b o e n => by
    refine r'.fr b o (r.fr b o e n) ?_
    cases q : ow b with
    | none => exact q
    | some p =>
      rcases (r.own b p q).2.2 with z | ⟨p', z, _⟩
      · rw [z] at e; cases e
      · rw [z] at n; cases n
  own := fun b p e => by
    obtain ⟨h1, h2, h3⟩ := r'.own b p e
    refine ⟨h1, h2, ?_⟩
    rcases h3 with z | ⟨q, z, k⟩
    · exact .inl (r.oldH z)
    · rcases (r.own b q z).2.2 with y | ⟨q', y, k'⟩
      · exact .inl y
      · exact .inr ⟨q', y, k'.trans k⟩
  slots := r'.slots
  pin := fun i hi => (r'.pin i hi).trans (r.pin i hi)
  len := r'.len
  th := fun b o e => by
    obtain ⟨o', e'⟩ := r.th b o e
    exact r'.th b o' e'
  b0 := r.b0
end
end VS

/-! VSC: the rules for expressions and tests -/
namespace VS
open PySem PySem.Spec PyProof.Rows L2

/-- what may be read now: it stands for good, or somebody's own -/
def SR (g : G) (Z H : Hp) (v : V) (d : D) : Prop := Rp g Z v d ∨ ∃ a bs, v = .ref a ∧ OwnF g Z H a d bs
inductive SRs (g : G) (Z H : Hp) : List V → List D → Prop
  | nil : SRs g Z H [] []
  | cons {v : V} {d : D} {vs : List V} {ds : List D} : SR g Z H v d → SRs g Z H vs ds → SRs g Z H (v :: vs) (d :: ds)
/-- what a primitive gives: a thing for good, or a new object -/
def ResR (g : G) (Z' H' H : Hp) (v : V) : Opd → Prop
  | .val d => Rp g Z' v d
  | .slot _ => False
  | .fresh d => ∃ a bs, v = .ref a ∧ OwnF g Z' H' a d bs ∧ (a :: bs).Nodup ∧ ∀ b ∈ a :: bs, Z' b = none ∧ H b = none
section
variable {g : G} {L : List Nat} {B : FB} {W : WX} {Z Z' H H' : Hp} {ow : Ow} {env : Env} {σ : L2.St} {v : V} {o : Opd} {d : D}
theorem RelZ.sr (r : RelZ g L B Z ow env σ H) (h : OpdR g B Z ow H σ v o) (e : rd env o = some d) : SR g Z H v d := by
  cases o with
  | val d' =>
    simp only [rd, Option.some.injEq] at e
    subst e
    exact .inl h
  | fresh d' =>
    simp only [rd, Option.some.injEq] at e
    subst e
    obtain ⟨a, bs, e1, e2, _⟩ := h
    exact .inr ⟨a, bs, e1, e2⟩
  | slot i =>
    have h : σ[i]? = some (some v) := h
    simp only [rd] at e
    split at e
    · rename_i d' q
      simp only [Option.some.injEq] at e
      subst e
      obtain ⟨v', e1, e2⟩ := r.slots i _ q
      rw [h] at e1
      cases e1
      exact .inl e2
    · rename_i d' q
      simp only [Option.some.injEq] at e
      subst e
      obtain ⟨a, bs, e1, _, e2⟩ := r.slots i _ q
      rw [h] at e1
      cases e1
      exact .inr ⟨a, bs, rfl, e2⟩
    · cases e
theorem ResR.opd (r : RelZ g L B Z ow env σ H) (h : ResR g Z' H' H v o) : OpdR g B Z' ow H' σ v o := by
  cases o with
  | val d => exact h
  | slot i => exact h.elim
  | fresh d =>
    obtain ⟨a, bs, e1, e2, nd, e3⟩ := h
    exact ⟨a, bs, e1, e2, nd, fun b hb => ⟨(e3 b hb).1, r.notOwn (e3 b hb).2, r.oldH (e3 b hb).2⟩⟩
theorem PostE.seq {α β : Type} {r : R α} {f : α → Env → R β} {Q : β → Hp → Ow → Env → Hp → Prop} {Q' : α → Hp → Ow → Env → Hp → Prop} (h : PostE g L B W Z σ (r.bind f) Q)
    (k : ∀ a Z' ow' env' H', r = .ok a env' → RelZ g L B Z' ow' env' σ H' → Same Z Z' → PostE g L B W Z' σ (f a env') Q → Q' a Z' ow' env' H') : PostE g L B W Z σ r Q' := by
  cases r with
  | ok a e => exact fun H' Z2 ow' rel s2 => k a Z2 ow' e H' rfl rel s2 (PostE.mono s2 h)
  | exc c e => exact h
  | stuck => exact h
end

/-! ### reading forms -/
/-- as an operand: a new list stands for good from now on -/
def fO (f : EF) : EF := fun env => match f env with
  | .ok (.fresh (.lst l)) e => .ok (.val (.lst l)) e
  | .ok (.fresh _) _ => .stuck
  | r => r
/-- as a value: a list that a slot owns, too -/
def toVal (L : List Nat) (o : Opd) (env : Env) : R Opd := match o with
  | .val d => .ok (.val d) env
  | .fresh _ => .stuck
  | .slot i => match env[i]? with
    | some (some (.val d)) => .ok (.val d) env
    | some (some (.own (.lst l))) => if i ∈ L then .stuck else .ok (.val (.lst l)) (env.set i (some (.val (.lst l))))
    | _ => .stuck
def fV (L : List Nat) (f : EF) : EF := fun env => (fO f env).bind (toVal L)
section
variable {X : Cx} {L : List Nat} {W : WX} {e : Expr} {f : EF}
theorem fO_nf {env env' : Env} {o : Opd} (h : fO f env = .ok o env') : ∀ d, o ≠ .fresh d := by
  unfold fO at h
  split at h
  · cases h; exact fun d q => by cases q
  · cases h
  · rename_i r h1 h2
    intro d q
    subst q
    cases d with
    | lst l => exact h1 l env' h
    | _ => exact h2 _ _ h
theorem px_O (h : PX X L W e f) : PX X L W e (fO f) := by
  refine pe_of h fun σ H Q => ?_
  rintro ⟨B, Z, ow, env, rel, p⟩
  refine ⟨B, Z, ow, env, rel, ?_⟩
  unfold fO at p
  cases hf : f env with
  | exc c e' => rw [hf] at p; exact p
  | stuck => rw [hf] at p; exact p
  | ok o e' =>
    rw [hf] at p
    cases o with
    | val d => exact p
    | slot i => exact p
    | fresh d =>
      cases d with
      | lst l =>
        intro H' Z' ow' rel' s v hv
        obtain ⟨a, bs, e1, e2, nd, e3⟩ := hv
        subst e1
        cases e2 with
        | @lst vs _ ha rs =>
          obtain ⟨z, o0, b0⟩ := e3 a List.mem_cons_self
          obtain ⟨r2, s2⟩ := rel'.freeze ha z o0 (.inl b0)
          exact p H' _ ow' r2 (s.trans s2) (.ref a) (.lst upd_same (rs.mono s2))
      | _ => exact p.elim
theorem px_V (h : PX X L W e f) : PX X L W e (fV L f) := by
  refine pe_of (px_O h) fun σ H Q => ?_
  rintro ⟨B, Z, ow, env, rel, p⟩
  refine ⟨B, Z, ow, env, rel, p.seq fun o Z' ow' env' H' he rel' s p' v hv => ?_⟩
  cases o with
  | val d => exact p' H' Z' ow' rel' (Same.refl _) v hv
  | fresh d => exact absurd rfl (fO_nf he d)
  | slot i =>
    have hv : σ[i]? = some (some v) := hv
    unfold toVal at p'
    simp only at p'
    split at p'
    · rename_i d q
      obtain ⟨v', e1, e2⟩ := rel'.slots i _ q
      rw [hv] at e1; cases e1
      exact p' H' Z' ow' rel' (Same.refl _) v e2
    · rename_i l q
      split at p'
      · exact p'.elim
      · rename_i hi
        obtain ⟨Z2, ow2, v2, r2, s2, e1, e2⟩ := rel'.fix hi q
        rw [hv] at e1; cases e1
        exact p' H' Z2 ow2 r2 s2 v e2
    · exact p'.elim
end

/-! ### names, constants -/
def eVar (i : Nat) : EF := fun env => match env[i]? with
  | some (some (.val d)) => .ok (.val d) env
  | some (some (.own _)) => .ok (.slot i) env
  | _ => .stuck
def eC (d : D) : EF := fun env => .ok (.val d) env
section
variable {X : Cx} {L : List Nat} {W : WX} {e : Expr} {v : V} {d : D}
theorem px_var {i : Nat} (h : PE X e (tVar i)) : PX X L W e (eVar i) := by
  refine pe_of h fun σ H Q => ?_
  rintro ⟨B, Z, ow, env, rel, p⟩
  unfold eVar at p
  split at p
  · rename_i d q
    obtain ⟨v, e1, e2⟩ := rel.slots i _ q
    exact ⟨v, e1, p H Z ow rel (Same.refl _) v e2⟩
  · rename_i d q
    obtain ⟨a, bs, e1, _, _⟩ := rel.slots i _ q
    exact ⟨_, e1, p H Z ow rel (Same.refl _) (.ref a) e1⟩
  · exact p.elim
theorem px_c (h : PE X e (tC v)) (hv : ∀ Z, Rp (gX X) Z v d) : PX X L W e (eC d) := by
  refine pe_of h fun σ H Q => ?_
  rintro ⟨B, Z, ow, env, rel, p⟩
  exact p H Z ow rel (Same.refl _) v (hv Z)
theorem px_int {i : Int} {j pos} : PX X L W (.Constant (.int i) j pos) (eC (.int i)) := px_c pe_int fun _ => .int i
theorem px_bl {b : Bool} {j pos} : PX X L W (.Constant (.bool b) j pos) (eC (.bl b)) := px_c pe_bl fun _ => .bl b
theorem px_non {j pos} : PX X L W (.Constant .none j pos) (eC .non) := px_c pe_non fun _ => .non
theorem px_str {x : Str} {j pos} : PX X L W (.Constant (.str x) j pos) (eC (.str x)) := px_c pe_str fun _ => .str x
/-- a module's constant that is a number, a class, a def -/
theorem px_globI {x : Str} {i : Int} {t : Tok} {pos : Pos} (hg : Gl X x) (hm : X.mg x = some (.int i t)) (hd : (x == ("__debug__" : Str)) = false := by decide) : PX X L W (.Name x pos) (eC (.int i)) := px_c (pe_glob (v := .int i) hg hm ⟨_, rfl⟩ hd) fun _ => .int i
theorem px_globS {x : Str} {y : Str} {t : Tok} {pos : Pos} (hg : Gl X x) (hm : X.mg x = some (.str y t)) (hd : (x == ("__debug__" : Str)) = false := by decide) : PX X L W (.Name x pos) (eC (.str y)) := px_c (pe_glob (v := .str y) hg hm ⟨_, rfl⟩ hd) fun _ => .str y
theorem px_globF {x : Str} {f : Addr} {pos : Pos} (hg : Gl X x) (hm : X.mg x = some (.ref f)) (hd : (x == ("__debug__" : Str)) = false := by decide) : PX X L W (.Name x pos) (eC (.glob x)) := px_c (pe_glob (v := .ref f) hg hm rfl hd) fun _ => .glob hm
end

/-! ### argument lists -/
def aNil : AF := fun env => .ok [] env
def aCons (f : EF) (r : AF) : AF := fun env => (f env).bind fun o e => (r e).bind fun os e' => .ok (o :: os) e'
/-- what gives no new object -/
def NF (f : EF) : Prop := ∀ env o e, f env = .ok o e → ∀ d, o ≠ .fresh d
theorem nf_O (f : EF) : NF (fO f) := fun _ _ _ h => fO_nf h
theorem nf_V (L : List Nat) (f : EF) : NF (fV L f) := by
  intro env o e h d q
  subst q
  unfold fV at h
  cases hf : fO f env with
  | exc c e' => rw [hf] at h; cases h
  | stuck => rw [hf] at h; cases h
  | ok o' e' =>
    rw [hf] at h
    simp only [R.bind] at h
    unfold toVal at h
    split at h
    · cases h
    · cases h
    · split at h
      · cases h
      · split at h <;> cases h
      · cases h
section
variable {X : Cx} {L : List Nat} {W : WX} {e : Expr} {es : List Expr} {f : EF} {r : AF}
theorem pxs_nil : PXs X L W [] aNil := by
  refine pa_of pa_nil fun σ H Q => ?_
  rintro ⟨B, Z, ow, env, rel, p⟩
  exact p H Z ow rel (Same.refl _) [] .nil
theorem pxs_cons (h : PX X L W e f) (n : NF f) (hr : PXs X L W es r) (hs : starEach (e :: es) X.env = (false, eval e X.env) :: starEach es X.env := by rfl) : PXs X L W (e :: es) (aCons f r) := by
  refine pa_of (pa_cons h hr hs) fun σ H Q => ?_
  rintro ⟨B, Z, ow, env, rel, p⟩
  refine ⟨B, Z, ow, env, rel, p.seq fun o Z1 ow1 env1 H1 he rel1 s1 p1 v hv => ?_⟩
  refine ⟨B, Z1, ow1, env1, rel1, p1.seq fun os Z2 ow2 env2 H2 he2 rel2 s2 p2 vs hvs => ?_⟩
  exact p2 H2 Z2 ow2 rel2 (Same.refl _) (v :: vs) (.cons (OpdR.mono (H' := H2) s2 (n _ _ _ he) hv ow2 H2) (n _ _ _ he) hvs)
theorem pxs_O (h : PX X L W e f) (hr : PXs X L W es r) (hs : starEach (e :: es) X.env = (false, eval e X.env) :: starEach es X.env := by rfl) : PXs X L W (e :: es) (aCons (fO f) r) := pxs_cons (px_O h) (nf_O f) hr hs
theorem pxs_V (h : PX X L W e f) (hr : PXs X L W es r) (hs : starEach (e :: es) X.env = (false, eval e X.env) :: starEach es X.env := by rfl) : PXs X L W (e :: es) (aCons (fV L f) r) := pxs_cons (px_V h) (nf_V L f) hr hs
end

/-! ### operations by values -/
def Sim1 (g : G) (r : V → Hp → VK → Prop) (gd : D → Option Opd) : Prop := ∀ (Z H : Hp) (x : V) (dx : D) (o : Opd) (Q : VK), Same Z H → SR g Z H x dx → gd dx = some o →
  (∀ v Z' H', Ext Z H Z' H' → ResR g Z' H' H v o → Q v H') → r x H Q
def Sim2 (g : G) (r : R2) (gd : D → D → Option Opd) : Prop := ∀ (Z H : Hp) (x y : V) (dx dy : D) (o : Opd) (Q : VK), Same Z H → SR g Z H x dx → SR g Z H y dy → gd dx dy = some o →
  (∀ v Z' H', Ext Z H Z' H' → ResR g Z' H' H v o → Q v H') → r x y H Q
def SimN (g : G) (r : List V → Hp → VK → Prop) (gd : List D → Option Opd) : Prop := ∀ (Z H : Hp) (xs : List V) (ds : List D) (o : Opd) (Q : VK), Same Z H → SRs g Z H xs ds → gd ds = some o →
  (∀ v Z' H', Ext Z H Z' H' → ResR g Z' H' H v o → Q v H') → r xs H Q
def lift (o : Option Opd) (env : Env) : R Opd := match o with
  | some o => .ok o env
  | none => .stuck
def rds (env : Env) : List Opd → Option (List D)
  | [] => some []
  | o :: os => match rd env o, rds env os with
    | some d, some ds => some (d :: ds)
    | _, _ => none
def eOp1 (gd : D → Option Opd) (f : EF) : EF := fun env => (fO f env).bind fun o e => lift ((rd e o).bind gd) e
def eOp2 (gd : D → D → Option Opd) (f1 f2 : EF) : EF := fun env => (fO f1 env).bind fun o1 e1 => (fO f2 e1).bind fun o2 e2 => lift ((rd e2 o1).bind fun d1 => (rd e2 o2).bind (gd d1)) e2
def eOpN (gd : List D → Option Opd) (a : AF) : EF := fun env => (a env).bind fun os e => lift ((rds e os).bind gd) e
section
variable {g : G} {L : List Nat} {W : WX} {r : R2} {gd : D → D → Option Opd} {fa fb : EF} {σ : L2.St} {H : Hp} {Q : VK}
theorem tOp_of (hs : Sim2 g r gd) (h : tX g L W (eOp2 gd fa fb) σ H Q) : tOp r (tX g L W (fO fa)) (tX g L W (fO fb)) σ H Q := by
  obtain ⟨B, Z, ow, env, rel, p⟩ := h
  refine ⟨B, Z, ow, env, rel, p.seq fun o1 Z1 ow1 env1 H1 he1 rel1 s1 p1 v1 hv1 => ?_⟩
  refine ⟨B, Z1, ow1, env1, rel1, p1.seq fun o2 Z2 ow2 env2 H2 he2 rel2 s2 p2 v2 hv2 => ?_⟩
  cases h1 : rd env2 o1 with
  | none => rw [h1] at p2; exact p2.elim
  | some d1 =>
    cases h2 : rd env2 o2 with
    | none => rw [h1, h2] at p2; exact p2.elim
    | some d2 =>
      rw [h1, h2] at p2
      simp only [Option.bind_some] at p2
      cases hg : gd d1 d2 with
      | none => rw [hg] at p2; exact p2.elim
      | some o =>
        rw [hg] at p2
        exact hs Z2 H2 v1 v2 d1 d2 o Q rel2.zh (rel2.sr (OpdR.mono (H' := H2) s2 (fO_nf he1) hv1 ow2 H2) h1) (rel2.sr hv2 h2) hg fun v Z' H' x res => p2 H' Z' ow2 (rel2.ext x) x.zz v (res.opd rel2)
theorem tUn_of {r : V → Hp → VK → Prop} {gd : D → Option Opd} (hs : Sim1 g r gd) (h : tX g L W (eOp1 gd fa) σ H Q) : tUn r (tX g L W (fO fa)) σ H Q := by
  obtain ⟨B, Z, ow, env, rel, p⟩ := h
  refine ⟨B, Z, ow, env, rel, p.seq fun o1 Z1 ow1 env1 H1 he1 rel1 s1 p1 v1 hv1 => ?_⟩
  cases h1 : rd env1 o1 with
  | none => rw [h1] at p1; exact p1.elim
  | some d1 =>
    rw [h1] at p1
    simp only [Option.bind_some] at p1
    cases hg : gd d1 with
    | none => rw [hg] at p1; exact p1.elim
    | some o =>
      rw [hg] at p1
      exact hs Z1 H1 v1 d1 o Q rel1.zh (rel1.sr hv1 h1) hg fun v Z' H' x res => p1 H' Z' ow1 (rel1.ext x) x.zz v (res.opd rel1)
theorem RelZ.srs {B : FB} {Z : Hp} {ow : Ow} {env : Env} (r : RelZ g L B Z ow env σ H) : ∀ {vs : List V} {os : List Opd} {ds : List D}, OpdRs g B Z ow H σ vs os → rds env os = some ds → SRs g Z H vs ds
  | _, _, _, .nil, e => by simp only [rds, Option.some.injEq] at e; subst e; exact .nil
  | _, _, _, .cons h n t, e => by
    simp only [rds] at e
    split at e
    · rename_i d ds h1 h2
      simp only [Option.some.injEq] at e
      subst e
      exact .cons (r.sr h h1) (RelZ.srs r t h2)
    · cases e
theorem tCB_of {r : List V → Hp → VK → Prop} {gd : List D → Option Opd} {a : AF} (hs : SimN g r gd) (h : tX g L W (eOpN gd a) σ H Q) : tCB r (tXs g L W a) σ H Q := by
  obtain ⟨B, Z, ow, env, rel, p⟩ := h
  refine ⟨B, Z, ow, env, rel, p.seq fun os Z1 ow1 env1 H1 he1 rel1 s1 p1 vs hvs => ?_⟩
  cases h1 : rds env1 os with
  | none => rw [h1] at p1; exact p1.elim
  | some ds =>
    rw [h1] at p1
    simp only [Option.bind_some] at p1
    cases hg : gd ds with
    | none => rw [hg] at p1; exact p1.elim
    | some o =>
      rw [hg] at p1
      exact hs Z1 H1 vs ds o Q rel1.zh (rel1.srs hvs h1) hg fun v Z' H' x res => p1 H' Z' ow1 (rel1.ext x) x.zz v (res.opd rel1)
end
section
variable {X : Cx} {L : List Nat} {W : WX} {a b : Expr} {fa fb : EF} {r : R2} {gd : D → D → Option Opd} {pos : Pos}
theorem px_op {op : Operator} (ho : OpR X (binaryOp op) r) (hs : Sim2 (gX X) r gd) (ha : PX X L W a fa) (hb : PX X L W b fb) : PX X L W (.BinOp a op b pos) (eOp2 gd fa fb) :=
  pe_of (pe_op ho (px_O ha) (px_O hb)) fun σ H Q h => tOp_of hs h
theorem px_un {op : UnaryOp} {r : V → Hp → VK → Prop} {gd : D → Option Opd} (ho : UnR X (unaryOp op) r) (hs : Sim1 (gX X) r gd) (ha : PX X L W a fa) : PX X L W (.UnaryOp op a pos) (eOp1 gd fa) :=
  pe_of (pe_un ho (px_O ha)) fun σ H Q h => tUn_of hs h
theorem px_cmp {op : CmpOp} (ho : OpR X (compareOp op) r) (hs : Sim2 (gX X) r gd) (ha : PX X L W a fa) (hb : PX X L W b fb) (hm : behindInMarks op b = false) : PX X L W (.Compare a [op] [b] pos) (eOp2 gd fa fb) :=
  pe_of (pe_cmpR ho (px_O ha) (px_O hb) hm) fun σ H Q h => tOp_of hs h
theorem px_ix (hr : IxR X r) (hs : Sim2 (gX X) r gd) (ha : PX X L W a fa) (hb : PX X L W b fb) (hp : PlainIx b) : PX X L W (.Subscript a b pos) (eOp2 gd fa fb) :=
  pe_of (pe_ix hr (px_O ha) (px_O hb) hp) fun σ H Q h => tOp_of hs h
theorem px_callB {x : Str} {id : String} {e : Expr} {es : List Expr} {r : List V → Hp → VK → Prop} {gd : List D → Option Opd} {as : AF} {p : Pos} (hc : CallR X (.builtin id) r) (hs : SimN (gX X) r gd) (hg : Gl X x) (hm : X.mg x = none) (hv : bootBuiltins x = some (.builtin id))
    (ha : PXs X L W (e :: es) as) (hn : x ≠ "__name__" := by decide) (hdb : (x == ("__debug__" : Str)) = false := by decide) (he : starEach (e :: es) X.env = (false, eval e X.env) :: starEach es X.env := by rfl) (hpl : (backTo pos (starEach es X.env)).any (·.1) = false := by rfl) :
    PX X L W (.Call (.Name x p) (e :: es) [] pos) (eOpN gd as) :=
  pe_of (pe_callB hc hg hm hv ha hn hdb he hpl) fun σ H Q h => tCB_of hs h
theorem px_callTy {x : Str} {T : String} {e : Expr} {es : List Expr} {r : List V → Hp → VK → Prop} {gd : List D → Option Opd} {as : AF} {p : Pos} (hc : CallR X (.type T) r) (hs : SimN (gX X) r gd) (hg : Gl X x) (hm : X.mg x = none) (hv : bootBuiltins x = some (.type T))
    (ha : PXs X L W (e :: es) as) (hn : x ≠ "__name__" := by decide) (hdb : (x == ("__debug__" : Str)) = false := by decide) (he : starEach (e :: es) X.env = (false, eval e X.env) :: starEach es X.env := by rfl) (hpl : (backTo pos (starEach es X.env)).any (·.1) = false := by rfl) :
    PX X L W (.Call (.Name x p) (e :: es) [] pos) (eOpN gd as) :=
  pe_of (pe_callTy hc hg hm hv ha hn hdb he hpl) fun σ H Q h => tCB_of hs h
end
end VS

/-! VSD: tests, statements, loops, comprehensions -/
namespace VS
open PySem PySem.Spec PyProof.Rows L2

/-! ### tests -/
def tst (f : EF) : TF := fun env => (f env).bind fun o e => match rd e o with
  | some (.bl b) => .ok b e
  | _ => .stuck
def tAnd2 (f r : TF) : TF := fun env => (f env).bind fun b e => if b then r e else .ok false e
def tOr2 (f r : TF) : TF := fun env => (f env).bind fun b e => if b then .ok true e else r e
def tNot1 (f : TF) : TF := fun env => (f env).bind fun b e => .ok (!b) e
def eT (f : TF) : EF := fun env => (f env).bind fun b e => .ok (.val (.bl b)) e
def eIfE (c : TF) (f r : EF) : EF := fun env => (c env).bind fun b e => if b then f e else r e
theorem SR.bl {g : G} {Z H : Hp} {v : V} {b : Bool} (h : SR g Z H v (.bl b)) : v = .bl b := by
  rcases h with h | ⟨a, bs, _, h⟩
  · cases h; rfl
  · cases h
theorem SR.int {g : G} {Z H : Hp} {v : V} {i : Int} (h : SR g Z H v (.int i)) : v = .int i := by
  rcases h with h | ⟨a, bs, _, h⟩
  · cases h; rfl
  · cases h
theorem SR.str {g : G} {Z H : Hp} {v : V} {x : Str} (h : SR g Z H v (.str x)) : v = .str x := by
  rcases h with h | ⟨a, bs, _, h⟩
  · cases h; rfl
  · cases h
theorem SR.non {g : G} {Z H : Hp} {v : V} (h : SR g Z H v .non) : v = .non := by
  rcases h with h | ⟨a, bs, _, h⟩
  · cases h; rfl
  · cases h
theorem SR.lst {g : G} {Z H : Hp} {v : V} {ds : List D} (s : Same Z H) (h : SR g Z H v (.lst ds)) : ∃ a vs, v = .ref a ∧ H a = some (.lst vs) ∧ Rps g Z vs ds := by
  rcases h with h | ⟨a, bs, e, h⟩
  · cases h with
    | lst h r => exact ⟨_, _, rfl, s _ _ h, r⟩
  · cases h with
    | lst h r => exact ⟨_, _, e, h, r⟩
theorem SR.scr {g : G} {Z H : Hp} {v : V} {ds : List D} (s : Same Z H) (h : SR g Z H v (.scr ds)) : ∃ a vs, v = .ref a ∧ SqL g.K H a vs ∧ Rps g Z vs ds := by
  rcases h with h | ⟨a, bs, e, h⟩
  · cases h with
    | scr h r => exact ⟨_, _, rfl, s.seq h, r⟩
  · cases h
theorem SR.tup {g : G} {Z H : Hp} {v : V} {ds : List D} (s : Same Z H) (h : SR g Z H v (.tup ds)) : ∃ a vs, v = .ref a ∧ SqT g.K H a vs ∧ Rps g Z vs ds := by
  rcases h with h | ⟨a, bs, e, h⟩
  · cases h with
    | tup h r => exact ⟨_, _, rfl, SqT_mono s h, r⟩
  · cases h
section
variable {X : Cx} {L : List Nat} {W : WX} {a b e : Expr} {rest : List Expr} {f fa fb : EF} {T T' : TF} {pos : Pos} {r : R2} {gd : D → D → Option Opd}
theorem tst_of {g : G} {t : TE} {σ : L2.St} {H : Hp} {Q : Bool → Hp → Prop} (k : ∀ Q', tX g L W f σ H Q' → t σ H Q') (h : tXT g L W (tst f) σ H Q) : t σ H fun x H1 => ∃ c, x = .bl c ∧ Q c H1 := by
  apply k
  obtain ⟨B, Z, ow, env, rel, p⟩ := h
  refine ⟨B, Z, ow, env, rel, p.seq fun o Z1 ow1 env1 H1 he1 rel1 s1 p1 v1 hv1 => ?_⟩
  cases h1 : rd env1 o with
  | none => rw [h1] at p1; exact p1.elim
  | some d =>
    rw [h1] at p1
    cases d with
    | bl c => exact ⟨c, (rel1.sr hv1 h1).bl, p1 H1 Z1 ow1 rel1 (Same.refl _)⟩
    | _ => exact p1.elim
theorem pxt_val (h : PX X L W e f) (he : ∀ whole, isTrue e X.env whole = (do let v ← whole; standAt e.pos; holding [v] (truthy v)) := by intro _; rfl) : PXT X L W e (tst f) :=
  pt_of (pt_val h he) fun σ H Q q => tst_of (fun _ z => z) q
theorem pxt_cmp {op : CmpOp} (ho : OpR X (compareOp op) r) (hs : Sim2 (gX X) r gd) (ha : PX X L W a fa) (hb : PX X L W b fb) (hm : behindInMarks op b = false) : PXT X L W (.Compare a [op] [b] pos) (tst (eOp2 gd fa fb)) :=
  pt_of (pt_cmpR ho (px_O ha) (px_O hb) hm) fun σ H Q q => tst_of (fun _ z => tOp_of hs z) q
theorem pxw_and1 (h : PXT X L W a T) : PXW X L W (.BoolOp .And [a] pos) T := pw_and1 h
theorem pxw_or1 (h : PXT X L W a T) : PXW X L W (.BoolOp .Or [a] pos) T := pw_or1 h
theorem pxw_and (h : PXT X L W a T) (hr : PXW X L W (.BoolOp .And (b :: rest) pos) T') : PXW X L W (.BoolOp .And (a :: b :: rest) pos) (tAnd2 T T') := by
  refine pw_of (pw_and h hr) fun σ H Q => ?_
  rintro ⟨B, Z, ow, env, rel, p⟩
  refine ⟨B, Z, ow, env, rel, p.seq fun c Z1 ow1 env1 H1 he1 rel1 s1 p1 => ?_⟩
  cases c with
  | true => exact ⟨B, Z1, ow1, env1, rel1, p1⟩
  | false => exact p1 H1 Z1 ow1 rel1 (Same.refl _)
theorem pxw_or (h : PXT X L W a T) (hr : PXW X L W (.BoolOp .Or (b :: rest) pos) T') : PXW X L W (.BoolOp .Or (a :: b :: rest) pos) (tOr2 T T') := by
  refine pw_of (pw_or h hr) fun σ H Q => ?_
  rintro ⟨B, Z, ow, env, rel, p⟩
  refine ⟨B, Z, ow, env, rel, p.seq fun c Z1 ow1 env1 H1 he1 rel1 s1 p1 => ?_⟩
  cases c with
  | false => exact ⟨B, Z1, ow1, env1, rel1, p1⟩
  | true => exact p1 H1 Z1 ow1 rel1 (Same.refl _)
theorem pxt_w (h : PXW X L W e T) : PXT X L W e T := h.pt
theorem pxt_not (h : PXT X L W a T) : PXT X L W (.UnaryOp .Not a pos) (tNot1 T) := by
  refine pt_of (pt_not h) fun σ H Q => ?_
  rintro ⟨B, Z, ow, env, rel, p⟩
  refine ⟨B, Z, ow, env, rel, p.seq fun c Z1 ow1 env1 H1 he1 rel1 s1 p1 => ?_⟩
  exact p1 H1 Z1 ow1 rel1 (Same.refl _)
/-- a if t else b -/
theorem px_if {c : Expr} (hc : PXT X L W c T) (ha : PX X L W a fa) (hb : PX X L W b fb) : PX X L W (.IfExp c a b pos) (eIfE T fa fb) := by
  refine pe_of (pe_ifExp hc ha hb) fun σ H Q => ?_
  rintro ⟨B, Z, ow, env, rel, p⟩
  refine ⟨B, Z, ow, env, rel, p.seq fun c Z1 ow1 env1 H1 he1 rel1 s1 p1 => ?_⟩
  cases c with
  | true => exact ⟨B, Z1, ow1, env1, rel1, p1⟩
  | false => exact ⟨B, Z1, ow1, env1, rel1, p1⟩
/-- and, or, not of truth values, as values -/
def eAnd2 (f r : EF) : EF := fun env => (f env).bind fun o e => match rd e o with
  | some (.bl true) => r e
  | some (.bl false) => .ok (.val (.bl false)) e
  | _ => .stuck
def eOr2 (f r : EF) : EF := fun env => (f env).bind fun o e => match rd e o with
  | some (.bl false) => r e
  | some (.bl true) => .ok (.val (.bl true)) e
  | _ => .stuck
def eNot1 (f : EF) : EF := fun env => (f env).bind fun o e => match rd e o with
  | some (.bl b) => .ok (.val (.bl (!b))) e
  | _ => .stuck
theorem px_one {op} (h : PX X L W a f) : PX X L W (.BoolOp op [a] pos) f := pe_one h
theorem px_and (ha : PX X L W a fa) (hb : PX X L W (.BoolOp .And (b :: rest) pos) fb) : PX X L W (.BoolOp .And (a :: b :: rest) pos) (eAnd2 fa fb) := by
  refine pe_of (pe_and ha hb) fun σ H Q => ?_
  rintro ⟨B, Z, ow, env, rel, p⟩
  refine ⟨B, Z, ow, env, rel, p.seq fun o Z1 ow1 env1 H1 he1 rel1 s1 p1 v1 hv1 => ?_⟩
  cases h1 : rd env1 o with
  | none => rw [h1] at p1; exact p1.elim
  | some d =>
    rw [h1] at p1
    cases d with
    | bl c =>
      refine ⟨c, (rel1.sr hv1 h1).bl, ?_⟩
      cases c with
      | true => exact ⟨B, Z1, ow1, env1, rel1, p1⟩
      | false => exact p1 H1 Z1 ow1 rel1 (Same.refl _) (.bl false) (.bl false)
    | _ => exact p1.elim
theorem px_or (ha : PX X L W a fa) (hb : PX X L W (.BoolOp .Or (b :: rest) pos) fb) : PX X L W (.BoolOp .Or (a :: b :: rest) pos) (eOr2 fa fb) := by
  refine pe_of (pe_or ha hb) fun σ H Q => ?_
  rintro ⟨B, Z, ow, env, rel, p⟩
  refine ⟨B, Z, ow, env, rel, p.seq fun o Z1 ow1 env1 H1 he1 rel1 s1 p1 v1 hv1 => ?_⟩
  cases h1 : rd env1 o with
  | none => rw [h1] at p1; exact p1.elim
  | some d =>
    rw [h1] at p1
    cases d with
    | bl c =>
      refine ⟨c, (rel1.sr hv1 h1).bl, ?_⟩
      cases c with
      | false => exact ⟨B, Z1, ow1, env1, rel1, p1⟩
      | true => exact p1 H1 Z1 ow1 rel1 (Same.refl _) (.bl true) (.bl true)
    | _ => exact p1.elim
theorem px_not (ha : PX X L W a f) : PX X L W (.UnaryOp .Not a pos) (eNot1 f) := by
  refine pe_of (pe_not ha) fun σ H Q => ?_
  rintro ⟨B, Z, ow, env, rel, p⟩
  refine ⟨B, Z, ow, env, rel, p.seq fun o Z1 ow1 env1 H1 he1 rel1 s1 p1 v1 hv1 => ?_⟩
  cases h1 : rd env1 o with
  | none => rw [h1] at p1; exact p1.elim
  | some d =>
    rw [h1] at p1
    cases d with
    | bl c => exact ⟨c, (rel1.sr hv1 h1).bl, p1 H1 Z1 ow1 rel1 (Same.refl _) (.bl _) (.bl _)⟩
    | _ => exact p1.elim
end

/-! ### statements -/
def sNil : SF := fun env => .ok .nx env
def sBrk : SF := fun env => .ok .bk env
def sCt : SF := fun env => .ok .ct env
def sSeq (F F' : SF) : SF := fun env => match F env with
  | .ok .nx e => F' e
  | r => r
def sExpr (f : EF) : SF := fun env => (f env).bind fun _ e => .ok .nx e
def sRet (f : EF) : SF := fun env => (f env).bind fun o e => .ok (.rt o) e
def sRetN : SF := fun env => .ok (.rt (.val .non)) env
def sIf (T : TF) (F F' : SF) : SF := fun env => (T env).bind fun b e => if b then F e else F' e
/-- what a name is given -/
def setOpd (L : List Nat) (i : Nat) (o : Opd) (env : Env) : R Fl := match o with
  | .val d => .ok .nx (env.set i (some (.val d)))
  | .fresh d => .ok .nx (env.set i (some (.own d)))
  | .slot j => (toVal L (.slot j) env).bind fun o e => match o with
    | .val d => .ok .nx (e.set i (some (.val d)))
    | _ => .stuck
def sSet (L : List Nat) (i : Nat) (f : EF) : SF := fun env => (f env).bind (setOpd L i)
section
variable {g : G} {L : List Nat} {B : FB} {W : WX} {D : Ends} {Z : Hp} {σ : L2.St}
theorem PostF.seqE {α : Type} {r : R α} {f : α → Env → R Fl} {Q' : α → Hp → Ow → Env → Hp → Prop} (h : PostF g L B W D Z (r.bind f))
    (k : ∀ a Z' ow' env' H', r = .ok a env' → RelZ g L B Z' ow' env' σ H' → Same Z Z' → PostF g L B W D Z' (f a env') → Q' a Z' ow' env' H') : PostE g L B W Z σ r Q' := by
  cases r with
  | ok a e => exact fun H' Z2 ow' rel s2 => k a Z2 ow' e H' rfl rel s2 (PostF.mono s2 h)
  | exc c e => exact fun C H' Z' ow' m rel s => h C σ H' Z' ow' m rel s
  | stuck => exact h
end
section
variable {X : Cx} {L : List Nat} {W : WX} {e : Expr} {f : EF} {st : Stmt} {sts : List Stmt} {F F' : SF} {T : TF} {pos : Pos}
theorem pxss_nil : PXSs X L W [] sNil := by
  refine pss_of pss_nil fun D σ H => ?_
  rintro ⟨B, Z, ow, env, rel, p⟩
  exact p σ H Z ow rel (Same.refl _)
theorem seq_of {g : G} {D : Ends} {σ : L2.St} {H : Hp} (h : tXS g L W (sSeq F F') D σ H) : tSeq (tXS g L W F) (tXS g L W F') D σ H := by
  obtain ⟨B, Z, ow, env, rel, p⟩ := h
  refine ⟨B, Z, ow, env, rel, ?_⟩
  unfold sSeq at p
  cases hF : F env with
  | ok a e =>
    rw [hF] at p
    cases a with
    | nx => exact fun σ' H' Z' ow' rel' s => ⟨B, Z', ow', e, rel', PostF.mono s p⟩
    | rt o => exact p
    | bk => exact p
    | ct => exact p
  | exc c e => rw [hF] at p; exact p
  | stuck => rw [hF] at p; exact p
theorem pxss_cons (h : PXS X L W st F) (hr : PXSs X L W sts F') : PXSs X L W (st :: sts) (sSeq F F') := pss_of (pss_cons h hr) fun D σ H q => seq_of q
theorem pxss_one (h : PXS X L W st F) : PXSs X L W [st] F := pss_one h
theorem pxs_pass : PXS X L W (.Pass pos) sNil := by
  refine ps_of ps_pass fun D σ H => ?_
  rintro ⟨B, Z, ow, env, rel, p⟩
  exact p σ H Z ow rel (Same.refl _)
theorem pxs_break : PXS X L W (.Break pos) sBrk := by
  refine ps_of ps_break fun D σ H => ?_
  rintro ⟨B, Z, ow, env, rel, p⟩
  exact p σ H Z ow rel (Same.refl _)
theorem pxs_continue : PXS X L W (.Continue pos) sCt := by
  refine ps_of ps_continue fun D σ H => ?_
  rintro ⟨B, Z, ow, env, rel, p⟩
  exact p σ H Z ow rel (Same.refl _)
theorem pxs_doc {x j pos pos'} : PXS X L W (.Expr (.Constant (.str x) j pos) pos') sNil := by
  refine ps_of ps_doc fun D σ H => ?_
  rintro ⟨B, Z, ow, env, rel, p⟩
  exact p σ H Z ow rel (Same.refl _)
theorem pxs_expr (h : PX X L W e f) (hs : swapsWith e none pos.line X.env = pure false := by rfl) : PXS X L W (.Expr e pos) (sExpr f) := by
  refine ps_of (ps_expr h hs) fun D σ H => ?_
  rintro ⟨B, Z, ow, env, rel, p⟩
  refine ⟨B, Z, ow, env, rel, p.seqE fun o Z1 ow1 env1 H1 he1 rel1 s1 p1 v1 hv1 => ?_⟩
  exact p1 σ H1 Z1 ow1 rel1 (Same.refl _)
theorem pxs_ret (h : PX X L W e f) : PXS X L W (.Return (some e) pos) (sRet f) := by
  refine ps_of (ps_ret h) fun D σ H => ?_
  rintro ⟨B, Z, ow, env, rel, p⟩
  refine ⟨B, Z, ow, env, rel, p.seqE fun o Z1 ow1 env1 H1 he1 rel1 s1 p1 v1 hv1 => ?_⟩
  exact p1 σ H1 Z1 ow1 rel1 (Same.refl _) v1 hv1
theorem pxs_retN : PXS X L W (.Return none pos) sRetN := by
  refine ps_of ps_retN fun D σ H => ?_
  rintro ⟨B, Z, ow, env, rel, p⟩
  exact p σ H Z ow rel (Same.refl _) .non .non
theorem pxs_if {c : Expr} {a b : List Stmt} (hc : PXT X L W c T) (ha : PXSs X L W a F) (hb : PXSs X L W b F') : PXS X L W (.If c a b pos) (sIf T F F') := by
  refine ps_of (ps_if hc ha hb) fun D σ H => ?_
  rintro ⟨B, Z, ow, env, rel, p⟩
  refine ⟨B, Z, ow, env, rel, p.seqE fun c Z1 ow1 env1 H1 he1 rel1 s1 p1 => ?_⟩
  cases c with
  | true => exact ⟨B, Z1, ow1, env1, rel1, p1⟩
  | false => exact ⟨B, Z1, ow1, env1, rel1, p1⟩
theorem set_of {g : G} {D : Ends} {σ : L2.St} {H : Hp} {i : Nat} (hi : i ∉ L) (h : tXS g L W (sSet L i f) D σ H) : tAsg (tX g L W f) (gName i) D σ H := by
  obtain ⟨B, Z, ow, env, rel, p⟩ := h
  refine ⟨B, Z, ow, env, rel, p.seqE fun o Z1 ow1 env1 H1 he1 rel1 s1 p1 v1 hv1 => ?_⟩
  show D.nx (σ.set i (some v1)) H1
  cases o with
  | val d =>
    obtain ⟨ow2, r2⟩ := rel1.store hi hv1
    exact p1 _ _ _ _ r2 (Same.refl _)
  | fresh d =>
    obtain ⟨a, bs, e1, e2, nd, e3⟩ := hv1
    subst e1
    obtain ⟨ow2, r2⟩ := rel1.adopt hi e2 nd e3
    exact p1 _ _ _ _ r2 (Same.refl _)
  | slot j =>
    have hv1 : σ[j]? = some (some v1) := hv1
    unfold setOpd toVal at p1
    simp only at p1
    split at p1
    · rename_i d q
      obtain ⟨v', e1, e2⟩ := rel1.slots j _ q
      rw [hv1] at e1; cases e1
      obtain ⟨ow2, r2⟩ := rel1.store hi e2
      exact p1 _ _ _ _ r2 (Same.refl _)
    · rename_i l q
      split at p1
      · exact p1.elim
      · rename_i hj
        obtain ⟨Z2, ow2, v2, r2, s2, e1, e2⟩ := rel1.fix hj q
        rw [hv1] at e1; cases e1
        obtain ⟨ow3, r3⟩ := r2.store hi e2
        exact p1 _ _ _ _ r3 s2
    · exact p1.elim
theorem pxs_set {i : Nat} {x : Str} {pos' : Pos} (hN : X.N.Nodup) (hi : X.N[i]? = some x) (hx : Loc X.env.scope x) (he : PX X L W e f) (hl : i ∉ L) (hs : swapsWith e (some (.Name x pos')) pos.line X.env = pure false := by rfl)
    (hf : X.fn x = true ∨ X.env.scope.names.lookup x = some .local := by first | exact .inl rfl | exact .inr rfl | assumption) : PXS X L W (.Assign [.Name x pos'] e pos) (sSet L i f) :=
  ps_of (ps_set hN hi hx he hs hf) fun D σ H q => set_of hl q
end

/-! ### targets of loops -/
abbrev GF := D → Env → Option Env
def SimG (g : G) (L is : List Nat) (gD : GF) (t : TG) : Prop := ∀ (B : FB) (Z : Hp) (ow : Ow) (env : Env) (σ : L2.St) (H : Hp) (v : V) (d : D) (env' : Env) (Q : L2.St → Hp → Prop), RelZ g L B Z ow env σ H → Rp g Z v d → gD d env = some env' →
  (∀ σ' ow', RelZ g L B Z ow' env' σ' H → σ'.length = σ.length → (∀ j, j ∉ is → σ'[j]? = σ[j]?) → Q σ' H) → t v σ H Q
def SimGs (g : G) (L is : List Nat) (gD : List D → Env → Option Env) (t : TGs) : Prop := ∀ (B : FB) (Z : Hp) (ow : Ow) (env : Env) (σ : L2.St) (H : Hp) (vs : List V) (ds : List D) (env' : Env) (Q : L2.St → Hp → Prop), RelZ g L B Z ow env σ H → Rps g Z vs ds → gD ds env = some env' →
  (∀ σ' ow', RelZ g L B Z ow' env' σ' H → σ'.length = σ.length → (∀ j, j ∉ is → σ'[j]? = σ[j]?) → Q σ' H) → t vs σ H Q
def dName (i : Nat) : GF := fun d env => some (env.set i (some (.val d)))
def dNil : List D → Env → Option Env := fun ds env => match ds with
  | [] => some env
  | _ => none
def dCons (gD : GF) (r : List D → Env → Option Env) : List D → Env → Option Env := fun ds env => match ds with
  | d :: ds => (gD d env).bind fun e => r ds e
  | [] => none
def dTup (n : Nat) (r : List D → Env → Option Env) : GF := fun d env => match d with
  | .tup ds => if ds.length = n then r ds env else none
  | _ => none
section
variable {g : G} {L is js : List Nat}
theorem sg_name {i : Nat} (hi : i ∉ L) : SimG g L [i] (dName i) (gName i) := by
  intro B Z ow env σ H v d env' Q rel h e q
  unfold dName at e
  cases e
  obtain ⟨ow', r⟩ := rel.store hi h
  exact q _ ow' r (by rw [List.length_set]) fun j hj => by rw [List.getElem?_set_ne (by rintro rfl; exact hj (by simp))]
theorem sg_nil : SimGs g L [] dNil gNil := by
  intro B Z ow env σ H vs ds env' Q rel h e q
  unfold dNil at e
  split at e
  · cases h
    cases e
    exact ⟨rfl, q σ ow rel rfl fun _ _ => rfl⟩
  · cases e
theorem sg_cons {gD : GF} {r : List D → Env → Option Env} {t : TG} {u : TGs} (h1 : SimG g L is gD t) (h2 : SimGs g L js r u) : SimGs g L (is ++ js) (dCons gD r) (gCons t u) := by
  intro B Z ow env σ H vs ds env' Q rel h e q
  unfold dCons at e
  cases h with
  | nil => cases e
  | @cons v d vs ds hv hr =>
    simp only at e
    cases hg : gD d env with
    | none => rw [hg] at e; cases e
    | some e1 =>
      rw [hg] at e
      refine ⟨v, vs, rfl, h1 B Z ow env σ H v d e1 _ rel hv hg fun σ1 ow1 r1 l1 k1 => ?_⟩
      refine h2 B Z ow1 e1 σ1 H vs ds env' Q r1 hr e fun σ2 ow2 r2 l2 k2 => q σ2 ow2 r2 (l2.trans l1) fun j hj => ?_
      rw [List.mem_append, not_or] at hj
      exact (k2 j hj.2).trans (k1 j hj.1)
theorem sg_tup {n : Nat} {r : List D → Env → Option Env} {u : TGs} (h : SimGs g L is r u) : SimG g L is (dTup n r) (gTup g.K n u) := by
  intro B Z ow env σ H v d env' Q rel hv e q
  unfold dTup at e
  split at e
  · split at e
    · rename_i hl
      cases hv with
      | @tup a vs _ hs hr => exact ⟨a, vs, rfl, SqT_mono rel.zh hs, by rw [hr.length]; exact hl, h B Z ow env σ H vs _ env' Q rel hr e q⟩
    · cases e
  · cases e
end

/-! ### what is walked -/
abbrev IF := Env → R (List D)
/-- at each turn: the next thing of ds, that stands, or a new pair -/
def YD (g : G) (Z : Hp) (ds : List D) : Nat → Hp → V → Hp → Prop := fun i H x H' =>
  (H' = H ∧ ∃ d, ds[i]? = some d ∧ Rp g Z x d) ∨ ∃ T xs dl, x = .ref T ∧ H T = none ∧ H' = upd H T (.tup xs) ∧ ds[i]? = some (.tup dl) ∧ Rps g Z xs dl
def Wk (g : G) (Z : Hp) (J : It) (ds : List D) : Prop := Walk J ds.length (fun H => Same Z H) (YD g Z ds)
def tXI (g : G) (L : List Nat) (W : WX) (f : IF) : TI := fun σ H Rr => ∃ B Z ow env, RelZ g L B Z ow env σ H ∧ PostE g L B W Z σ (f env) fun ds Z' _ _ H' => ∀ J, Wk g Z' J ds → Rr J H'
abbrev PXI (X : Cx) (L : List Nat) (W : WX) (tg iter : Expr) (f : IF) : Prop := PI X tg iter (tXI (gX X) L W f)
theorem YD.state {g : G} {L : List Nat} {B : FB} {Z Z1 : Hp} {ow : Ow} {env : Env} {σ : L2.St} {H H' : Hp} {ds : List D} {i : Nat} {x : V} {d : D} (rel : RelZ g L B Z1 ow env σ H) (s : Same Z Z1) (hd : ds[i]? = some d) (y : YD g Z ds i H x H') :
    ∃ Z2, RelZ g L B Z2 ow env σ H' ∧ Same Z1 Z2 ∧ Same H H' ∧ Rp g Z2 x d ∧ ∀ b o, Z2 b = some o → Z1 b = some o ∨ H b = none := by
  rcases y with ⟨e, d', e1, h⟩ | ⟨T, xs, dl, e1, n, e2, e3, h⟩
  · subst e
    rw [hd] at e1
    cases e1
    exact ⟨Z1, rel, Same.refl _, Same.refl _, h.mono s, fun _ _ e => .inl e⟩
  · subst e1 e2
    rw [hd] at e3
    cases e3
    have x := Ext.layZ (o := .tup xs) rel.zh n
    exact ⟨_, rel.ext x, x.zz, x.hh, .tup (.of upd_same) ((h.mono s).mono x.zz), x.zn⟩
def forF (gD : GF) (F : SF) : List D → SF
  | [], env => .ok .nx env
  | d :: ds, env => match gD d env with
    | none => .stuck
    | some e1 => match F e1 with
      | .ok .nx e2 => forF gD F ds e2
      | .ok .ct e2 => forF gD F ds e2
      | .ok .bk e2 => .ok .nx e2
      | r => r
def sFor (src : IF) (gD : GF) (F : SF) : SF := fun env => (src env).bind fun ds e => forF gD F ds e
theorem drop_get {α : Type} {ds : List α} {i : Nat} {d : α} (h : ds[i]? = some d) : ds.drop i = d :: ds.drop (i + 1) := by
  obtain ⟨hl, e⟩ := List.getElem?_eq_some_iff.mp h
  subst e
  exact List.drop_eq_getElem_cons hl
theorem for_of {g : G} {L is : List Nat} {W : WX} {src : IF} {gD : GF} {F : SF} {t : TG} (sg : SimG g L is gD t) {D : Ends} {σ : L2.St} {H : Hp} (h : tXS g L W (sFor src gD F) D σ H) : tFor (tXI g L W src) t (tXS g L W F) D σ H := by
  obtain ⟨B, Z, ow, env, rel, p⟩ := h
  refine ⟨B, Z, ow, env, rel, p.seqE fun ds Z' ow' env' H' he rel' s p' J wk => ?_⟩
  refine for_it wk (fun i σ H => ∃ Z1 ow1 env1, RelZ g L B Z1 ow1 env1 σ H ∧ Same Z' Z1 ∧ PostF g L B W D Z1 (forF gD F (ds.drop i) env1)) ⟨Z', ow', env', rel', Same.refl _, by simpa using p'⟩ ?_ ?_ ?_
  · rintro i σ H hi ⟨Z1, ow1, env1, r1, s1, _⟩
    exact s1.trans r1.zh
  · rintro i x σ1 H1 H2 hi ⟨Z1, ow1, env1, r1, s1, p1⟩ y
    obtain ⟨d, hd⟩ : ∃ d, ds[i]? = some d := ⟨_, List.getElem?_eq_getElem hi⟩
    rw [drop_get hd] at p1
    obtain ⟨Z2, r2, s2, hh, hx, _⟩ := YD.state r1 s1 hd y
    unfold forF at p1
    cases hg : gD d env1 with
    | none => rw [hg] at p1; exact p1.elim
    | some e1 =>
      rw [hg] at p1
      refine sg B Z2 ow1 env1 σ1 H2 x d e1 _ r2 hx hg fun σ2 ow2 r3 _ _ => ⟨B, Z2, ow2, e1, r3, ?_⟩
      have p2 := PostF.mono s2 p1
      cases hF : F e1 with
      | ok a e2 =>
        simp only [hF] at p2
        cases a with
        | nx => exact fun σ3 H3 Z3 ow3 r4 s3 => ⟨Z3, ow3, e2, r4, (s1.trans s2).trans s3, PostF.mono s3 p2⟩
        | ct => exact fun σ3 H3 Z3 ow3 r4 s3 => ⟨Z3, ow3, e2, r4, (s1.trans s2).trans s3, PostF.mono s3 p2⟩
        | bk => exact p2
        | rt o => exact p2
      | exc c e2 => simp only [hF] at p2; exact p2
      | stuck => simp only [hF] at p2; exact p2
  · rintro σ1 H1 ⟨Z1, ow1, env1, r1, s1, p1⟩
    rw [List.drop_of_length_le (Nat.le_refl _)] at p1
    exact p1 σ1 H1 Z1 ow1 r1 (Same.refl _)
theorem pxs_for {X : Cx} {L is : List Nat} {W : WX} {tg iter : Expr} {body : List Stmt} {src : IF} {gD : GF} {F : SF} {t : TG} {pos : Pos} (hp : PassesOwn (model X.prog X.w) X.A X.env X.xe) (hc : X.calm = true) (hi : PXI X L W tg iter src) (hg : PG X tg t) (sg : SimG (gX X) L is gD t) (hb : PXSs X L W body F)
    (hs : ∀ x, foldedSetIterable iter X.env x = pure x := by intro _; rfl) : PXS X L W (.For tg iter body [] pos) (sFor src gD F) :=
  ps_of (ps_for hp hc hi hg hb hs) fun D σ H q => for_of sg q

/-! ### while -/
def fuel : Nat := 1000000000
def whF (T : TF) (F : SF) : Nat → SF
  | 0, _ => .stuck
  | n + 1, env => (T env).bind fun b e => if b then (match F e with
      | .ok .nx e2 => whF T F n e2
      | .ok .ct e2 => whF T F n e2
      | .ok .bk e2 => .ok .nx e2
      | r => r) else .ok .nx e
def sWhile (T : TF) (F : SF) : SF := whF T F fuel
theorem while_of {g : G} {L : List Nat} {W : WX} {T : TF} {F : SF} {D : Ends} {σ : L2.St} {H : Hp} (h : tXS g L W (sWhile T F) D σ H) : tWhile (tXT g L W T) (tXS g L W F) D σ H := by
  obtain ⟨B, Z, ow, env, rel, p⟩ := h
  refine ⟨fun m σ H => ∃ Z1 ow1 env1, RelZ g L B Z1 ow1 env1 σ H ∧ Same Z Z1 ∧ PostF g L B W D Z1 (whF T F m env1), ⟨fuel, Z, ow, env, rel, Same.refl _, p⟩, ?_⟩
  rintro m σ1 H1 ⟨Z1, ow1, env1, r1, s1, p1⟩
  cases m with
  | zero => exact p1.elim
  | succ n =>
    refine ⟨B, Z1, ow1, env1, r1, p1.seqE fun b Z2 ow2 env2 H2 he r2 s2 p2 => ?_⟩
    cases b with
    | false => exact p2 σ1 H2 Z2 ow2 r2 (Same.refl _)
    | true =>
      simp only [if_true] at p2 ⊢
      refine ⟨fun σ' H' => ∃ Z3 ow3 env3, RelZ g L B Z3 ow3 env3 σ' H' ∧ Same Z Z3 ∧ PostF g L B W D Z3 (whF T F n env3), fun σ' H' q => ⟨n, Nat.lt_succ_self n, q⟩, B, Z2, ow2, env2, r2, ?_⟩
      cases hF : F env2 with
      | ok a e2 =>
        simp only [hF] at p2
        cases a with
        | nx => exact fun σ3 H3 Z3 ow3 r4 s3 => ⟨Z3, ow3, e2, r4, (s1.trans s2).trans s3, PostF.mono s3 p2⟩
        | ct => exact fun σ3 H3 Z3 ow3 r4 s3 => ⟨Z3, ow3, e2, r4, (s1.trans s2).trans s3, PostF.mono s3 p2⟩
        | bk => exact p2
        | rt o => exact p2
      | exc c e2 => simp only [hF] at p2; exact p2
      | stuck => simp only [hF] at p2; exact p2
theorem pxs_while {X : Cx} {L : List Nat} {W : WX} {c : Expr} {body : List Stmt} {T : TF} {F : SF} {pos : Pos} (hp : PassesOwn (model X.prog X.w) X.A X.env X.xe) (hc : PXT X L W c T) (hb : PXSs X L W body F) : PXS X L W (.While c body [] pos) (sWhile T F) :=
  ps_of (ps_while hp hc hb) fun D σ H q => while_of q
end VS

/-! VSE: the program's own defs: what a def promises, its body, its call -/
namespace VS
open PySem PySem.Spec PyProof.Rows L2

/-- a def as a function of its arguments: what it hands back, and its slots at the end (a lent argument's is what became of it) -/
abbrev FN := List Slot → R Slot
def retD (L : List Nat) (o : Opd) (e : Env) : R Slot := match o with
  | .val d => .ok (.val d) e
  | .fresh d => .ok (.own d) e
  | .slot i => match e[i]? with
    | some (some (.val d)) => .ok (.val d) e
    | some (some (.own d)) => if i ∈ L then .stuck else .ok (.own d) e
    | _ => .stuck
/-- n parameters, m slots more -/
def fnD (L : List Nat) (m : Nat) (F : SF) : FN := fun as => match F (as.map some ++ List.replicate m none) with
  | .ok (.rt o) e => retD L o e
  | .ok .nx e => .ok (.val .non) e
  | .exc c e => .exc c e
  | _ => .stuck

def After (g : G) (L : List Nat) (Z : Hp) (ow : Ow) (H : Hp) (vs : List V) (fin : Env) (Z' : Hp) (ow' : Ow) (H' : Hp) : Prop :=
  ∃ σ0 σ' : L2.St, (∀ (i : Nat) (v : V), vs[i]? = some v → σ0[i]? = some (some v)) ∧ RelZ g L ⟨Z, H, ow, σ0⟩ Z' ow' fin σ' H'
def RetR (g : G) (L : List Nat) (Z' : Hp) (ow' : Ow) (H' H : Hp) (v : V) : Slot → Prop
  | .val d => Rp g Z' v d
  | .own d => ∃ a bs, v = .ref a ∧ OwnF g Z' H' a d bs ∧ (a :: bs).Nodup ∧ ∀ b ∈ a :: bs, Z' b = none ∧ H b = none ∧ ∀ p, ow' b = some p → p.1 ∉ L
def PostD (g : G) (L : List Nat) (Z : Hp) (ow : Ow) (H : Hp) (vs : List V) (r : R Slot) (Q : VK) (E : XK) : Prop := match r with
  | .ok r fin => ∀ v Z' ow' H', After g L Z ow H vs fin Z' ow' H' → RetR g L Z' ow' H' H v r → Q v H'
  | .exc c fin => ∀ C Z' ow' H', g.mg c = some (.ref C) → After g L Z ow H vs fin Z' ow' H' → E (.ref C) none H'
  | .stuck => False
def spF (g : G) (L : List Nat) (n : Nat) (F : FN) : Sp := fun vs H Q E => vs.length = n ∧ ∃ Z ow as, as.length = n ∧ Same Z H ∧ (∀ b p, ow b = some p → Z b = none ∧ (∃ o, H b = some o) ∧ p.1 ∈ L) ∧
  (∀ i sl, as[i]? = some sl → SlotR g Z ow H i sl (vs.map some)[i]?) ∧ PostD g L Z ow H vs (F as) Q E

/-! ### a def's body -/
theorem start_get {N : List Str} {vs : List V} {i : Nat} {v : V} (h : vs[i]? = some v) : (L2.start N vs)[i]? = some (some v) := by
  unfold L2.start
  obtain ⟨hl, e⟩ := List.getElem?_eq_some_iff.mp h
  rw [List.getElem?_append_left (by simpa using hl), List.getElem?_map, h]
  rfl
theorem body_of {g : G} {L : List Nat} {N : List Str} {n m : Nat} {F : SF} {vs : List V} {H : Hp} {Q : VK} {E : XK} (hn : N.length = n + m) (h : spF g L n (fnD L m F) vs H Q E) :
    tXS g L (fun cls d _ H => E cls d H) F { nx := fun _ H' => Q .non H', rt := Q } (L2.start N vs) H := by
  obtain ⟨hl, Z, ow, as, ha, zh, hw, hs, p⟩ := h
  have env0 : ∀ i sl, (as.map some ++ List.replicate m none)[i]? = some (some sl) → as[i]? = some sl := fun i sl e => by
    by_cases hi : i < as.length
    · rw [List.getElem?_append_left (by simpa using hi), List.getElem?_map] at e
      cases q : as[i]? with
      | none => rw [q] at e; cases e
      | some x => rw [q] at e; simp at e; rw [e]
    · rw [List.getElem?_append_right (by simpa using hi), List.getElem?_replicate] at e
      split at e <;> cases e
  have rel : RelZ g L ⟨Z, H, ow, L2.start N vs⟩ Z ow (as.map some ++ List.replicate m none) (L2.start N vs) H := by
    refine ⟨Same.refl _, zh, fun _ _ e => .inl e, fun _ _ e _ => e, fun b q e => ⟨(hw b q e).1, (hw b q e).2.1, .inr ⟨q, e, .inl rfl⟩⟩, fun i sl e => ?_, fun _ _ => rfl, ?_, fun _ o e => ⟨o, e⟩, fun b q e => (hw b q e).1⟩
    · have e1 := env0 i sl e
      have q := hs i sl e1
      have hi : i < vs.length := by
        obtain ⟨z, _⟩ := List.getElem?_eq_some_iff.mp e1
        omega
      have e2 : (L2.start N vs)[i]? = (vs.map some)[i]? := by
        unfold L2.start
        rw [List.getElem?_append_left (by simpa using hi)]
      rw [e2]
      exact q
    · unfold L2.start
      simp only [List.length_append, List.length_map, List.length_replicate]
      omega
  have aft : ∀ {Z' ow' fin σ' H'}, RelZ g L ⟨Z, H, ow, L2.start N vs⟩ Z' ow' fin σ' H' → After g L Z ow H vs fin Z' ow' H' := fun r => ⟨_, _, fun i v e => start_get e, r⟩
  refine ⟨⟨Z, H, ow, L2.start N vs⟩, Z, ow, _, rel, ?_⟩
  unfold fnD at p
  cases hF : F (as.map some ++ List.replicate m none) with
  | stuck => rw [hF] at p; exact p.elim
  | exc c e =>
    rw [hF] at p
    exact fun C σ' H' Z' ow' hm r _ => p C Z' ow' H' hm (aft r)
  | ok a e =>
    rw [hF] at p
    cases a with
    | bk => exact p.elim
    | ct => exact p.elim
    | nx => exact fun σ' H' Z' ow' r _ => p .non Z' ow' H' (aft r) .non
    | rt o =>
      intro σ' H' Z' ow' r _ v hv
      simp only at p
      cases o with
      | val d => exact p v Z' ow' H' (aft r) hv
      | fresh d =>
        obtain ⟨a, bs, e1, e2, nd, e3⟩ := hv
        refine p v Z' ow' H' (aft r) ⟨a, bs, e1, e2, nd, fun b hb => ⟨(e3 b hb).1, (e3 b hb).2.2, fun q e => ?_⟩⟩
        rw [(e3 b hb).2.1] at e
        cases e
      | slot i =>
        have hv : σ'[i]? = some (some v) := hv
        unfold retD at p
        simp only at p
        split at p
        · rename_i d q
          obtain ⟨v', e1, e2⟩ := r.slots i _ q
          rw [hv] at e1; cases e1
          exact p v Z' ow' H' (aft r) e2
        · rename_i d q
          split at p
          · exact p.elim
          · rename_i hi
            obtain ⟨a, bs, e1, e2, e3⟩ := r.slots i _ q
            rw [hv] at e1; cases e1
            have own : ∀ b ∈ a :: bs, ∃ k, ow' b = some (i, k) := fun b hb => e2.mem hb
            refine p (.ref a) Z' ow' H' (aft r) ⟨a, bs, rfl, e3, ?_, fun b hb => ?_⟩
            · have inj : ∀ k k' b, bs[k]? = some b → bs[k']? = some b → k = k' := fun k k' b h1 h2 => by
                have := (e2.2 k b h1).symm.trans (e2.2 k' b h2)
                simp at this
                exact this
              refine List.nodup_cons.mpr ⟨fun hm => ?_, ?_⟩
              · obtain ⟨k, hk⟩ := List.mem_iff_getElem?.mp hm
                have := e2.1.symm.trans (e2.2 k a hk)
                simp at this
              · refine List.nodup_iff_pairwise_ne.mpr (List.pairwise_iff_getElem.mpr fun k k' h1 h2 hlt e => ?_)
                have := inj k k' _ (List.getElem?_eq_getElem h1) (by rw [e]; exact List.getElem?_eq_getElem h2)
                omega
            · obtain ⟨k, hk⟩ := own b hb
              obtain ⟨z, _, h3⟩ := r.own b _ hk
              refine ⟨z, ?_, fun q e => ?_⟩
              · rcases h3 with y | ⟨q, y, l⟩
                · exact y
                · exact absurd (hw b q y).2.2 (l.out hi)
              · rw [hk] at e
                cases e
                exact hi
        · exact p.elim
/-- THE RULE for a def -/
theorem fn_ok {P : Program} {w : World} {K : PySem.W.Frag} {mg : Str → Option Value} {base : Heap} {x qual : Str} {st : Stmt} {f : Addr} {fd : FuncData} {N ps : List Str} {k : Nat} {L : List Nat} {m : Nat} {F : SF}
    (T : Fun K x qual st f fd) (S : FnScope N ps (defScope st)) (hn : N.length = ps.length + m)
    (hbody : ∀ (cdv : Value) (A : Around) (outer : List PySem.Env) (s : Shared) (H : Hp) (E : XK), Room k (A.deeper (envOfC qual (defScope st) s.heap.objs.size f cdv)) →
      Takes (cxOf (L2.CX P w) P w K mg base N qual (defScope st) f cdv A outer s H E) (fun cls d _ H => E cls d H) →
      PXSs (cxOf (L2.CX P w) P w K mg base N qual (defScope st) f cdv A outer s H E) L (fun cls d _ H => E cls d H) (defBody st) F) :
    FnOk P w K mg base (L2.CX P w) (k + 1) f fd ps (spF ⟨P, w, K, mg⟩ L ps.length (fnD L m F)) := by
  refine T.okX S (fun vs H Q E h => h.1) fun cdv A outer s H vs Q E hr h => ?_
  exact ⟨_, hbody cdv A outer s H E hr (takes_of rfl rfl rfl rfl), body_of hn h⟩

/-! ### its call -/
def argSlot (e : Env) : Opd → Option Slot
  | .val d => some (.val d)
  | .slot j => match e[j]? with
    | some (some s) => some s
    | _ => none
  | .fresh _ => none
def argSlots (e : Env) : List Opd → Option (List Slot)
  | [] => some []
  | o :: os => match argSlot e o, argSlots e os with
    | some s, some ss => some (s :: ss)
    | _, _ => none
def isOwn (e : Env) (j : Nat) : Bool := match e[j]? with
  | some (some (.own _)) => true
  | _ => false
/-- which argument is lent from which slot -/
def lends (e : Env) : Nat → List Opd → List (Nat × Nat)
  | _, [] => []
  | i, .slot j :: os => if isOwn e j then (i, j) :: lends e (i + 1) os else lends e (i + 1) os
  | i, _ :: os => lends e (i + 1) os
def lendOk (L : List Nat) (l : List (Nat × Nat)) : Bool := decide ((l.map (·.2)).Nodup) && l.all fun p => decide (p.1 ∈ L)
def backS (fin : Env) (i : Nat) : Option Slot := match fin[i]? with
  | some (some (.own d)) => some (.own d)
  | _ => none
def backE (e fin : Env) : List (Nat × Nat) → Env
  | [] => e
  | (i, j) :: r => (backE e fin r).set j (backS fin i)
def callO (L : List Nat) (F : FN) (os : List Opd) (e : Env) : R Opd := match argSlots e os with
  | some sl => if lendOk L (lends e 0 os) then (match F sl with
      | .ok (.val d) fin => .ok (.val d) (backE e fin (lends e 0 os))
      | .ok (.own d) fin => .ok (.fresh d) (backE e fin (lends e 0 os))
      | .exc c fin => .exc c (backE e fin (lends e 0 os))
      | .stuck => .stuck) else .stuck
  | none => .stuck
def eCall (L : List Nat) (F : FN) (a : AF) : EF := fun env => (a env).bind (callO L F)

theorem mem_lends {e : Env} : ∀ {os : List Opd} {i0 i j : Nat}, (i, j) ∈ lends e i0 os → i0 ≤ i ∧ os[i - i0]? = some (.slot j) ∧ ∃ d, e[j]? = some (some (.own d))
  | [], _, _, _, h => by simp [lends] at h
  | .slot j' :: os, i0, i, j, h => by
    have tl : (i, j) ∈ lends e (i0 + 1) os → i0 ≤ i ∧ (Opd.slot j' :: os)[i - i0]? = some (.slot j) ∧ ∃ d, e[j]? = some (some (.own d)) := fun h => by
      obtain ⟨h1, h2, h3⟩ := mem_lends h
      refine ⟨by omega, ?_, h3⟩
      rw [show i - i0 = (i - (i0 + 1)) + 1 by omega, List.getElem?_cons_succ]
      exact h2
    unfold lends at h
    split at h
    · rename_i ho
      rcases List.mem_cons.mp h with q | q
      · cases q
        refine ⟨Nat.le_refl _, by simp, ?_⟩
        unfold isOwn at ho
        split at ho
        · exact ⟨_, by assumption⟩
        · cases ho
      · exact tl q
    · exact tl h
  | .val d :: os, i0, i, j, h => by
    obtain ⟨h1, h2, h3⟩ := mem_lends (os := os) (i0 := i0 + 1) (by simpa [lends] using h)
    refine ⟨by omega, ?_, h3⟩
    rw [show i - i0 = (i - (i0 + 1)) + 1 by omega, List.getElem?_cons_succ]
    exact h2
  | .fresh d :: os, i0, i, j, h => by
    obtain ⟨h1, h2, h3⟩ := mem_lends (os := os) (i0 := i0 + 1) (by simpa [lends] using h)
    refine ⟨by omega, ?_, h3⟩
    rw [show i - i0 = (i - (i0 + 1)) + 1 by omega, List.getElem?_cons_succ]
    exact h2
theorem lends_mem {e : Env} : ∀ {os : List Opd} {i0 k j : Nat} {d : D}, os[k]? = some (.slot j) → e[j]? = some (some (.own d)) → (i0 + k, j) ∈ lends e i0 os
  | [], _, _, _, _, h, _ => by simp at h
  | o :: os, i0, 0, j, d, h, h2 => by
    simp only [List.getElem?_cons_zero, Option.some.injEq] at h
    subst h
    unfold lends
    have : isOwn e j = true := by unfold isOwn; rw [h2]
    rw [if_pos this]
    exact List.mem_cons_self
  | o :: os, i0, k + 1, j, d, h, h2 => by
    rw [List.getElem?_cons_succ] at h
    have ih := lends_mem (i0 := i0 + 1) h h2
    rw [show i0 + 1 + k = i0 + (k + 1) by omega] at ih
    cases o with
    | slot j' =>
      unfold lends
      split
      · exact List.mem_cons_of_mem _ ih
      · exact ih
    | val d => unfold lends; exact ih
    | fresh d => unfold lends; exact ih
theorem backE_len {e fin : Env} : ∀ l : List (Nat × Nat), (backE e fin l).length = e.length
  | [] => rfl
  | (i, j) :: r => by rw [backE, List.length_set, backE_len r]
theorem backE_out {e fin : Env} {j : Nat} : ∀ {l : List (Nat × Nat)}, j ∉ l.map (·.2) → (backE e fin l)[j]? = e[j]?
  | [], _ => rfl
  | (i, j') :: r, h => by
    simp only [List.map_cons, List.mem_cons, not_or] at h
    rw [backE, List.getElem?_set_ne (Ne.symm h.1), backE_out h.2]
theorem backE_in {e fin : Env} {i j : Nat} : ∀ {l : List (Nat × Nat)}, (l.map (·.2)).Nodup → (i, j) ∈ l → j < e.length → (backE e fin l)[j]? = some (backS fin i)
  | [], _, h, _ => by simp at h
  | (i', j') :: r, nd, h, hj => by
    simp only [List.map_cons, List.nodup_cons] at nd
    rcases List.mem_cons.mp h with q | q
    · cases q
      rw [backE, List.getElem?_set_self (by rw [backE_len]; exact hj)]
    · have ne : j' ≠ j := fun z => nd.1 (by rw [z]; exact List.mem_map.mpr ⟨_, q, rfl⟩)
      rw [backE, List.getElem?_set_ne ne, backE_in nd.2 q hj]
theorem argSlots_get {e : Env} : ∀ {os : List Opd} {sl : List Slot} {i : Nat} {s : Slot}, argSlots e os = some sl → sl[i]? = some s → ∃ o, os[i]? = some o ∧ argSlot e o = some s
  | [], sl, i, s, h, h2 => by simp only [argSlots, Option.some.injEq] at h; subst h; simp at h2
  | o :: os, sl, i, s, h, h2 => by
    simp only [argSlots] at h
    split at h
    · rename_i s' ss h3 h4
      cases h
      cases i with
      | zero => simp at h2; subst h2; exact ⟨o, rfl, h3⟩
      | succ i =>
        obtain ⟨o', q1, q2⟩ := argSlots_get (os := os) (i := i) h4 (by simpa using h2)
        exact ⟨o', by simpa using q1, q2⟩
    · cases h
theorem argSlots_len {e : Env} : ∀ {os : List Opd} {sl : List Slot}, argSlots e os = some sl → sl.length = os.length
  | [], sl, h => by simp only [argSlots, Option.some.injEq] at h; subst h; rfl
  | o :: os, sl, h => by
    simp only [argSlots] at h
    split at h
    · rename_i s' ss h3 h4
      cases h
      rw [List.length_cons, List.length_cons, argSlots_len h4]
    · cases h
theorem OpdRs.get {g : G} {B : FB} {Z : Hp} {ow : Ow} {H : Hp} {σ : L2.St} : ∀ {vs : List V} {os : List Opd} {i : Nat} {o : Opd}, OpdRs g B Z ow H σ vs os → os[i]? = some o → ∃ v, vs[i]? = some v ∧ OpdR g B Z ow H σ v o
  | _, _, _, _, .nil, h => by simp at h
  | _, _, 0, _, .cons h _ _, e => by simp at e; subst e; exact ⟨_, rfl, h⟩
  | _, _, i + 1, o, .cons _ _ r, e => by
    obtain ⟨v, h1, h2⟩ := OpdRs.get (i := i) (o := o) r (by simpa using e)
    exact ⟨v, by simpa using h1, h2⟩
theorem OpdRs.len {g : G} {B : FB} {Z : Hp} {ow : Ow} {H : Hp} {σ : L2.St} : ∀ {vs : List V} {os : List Opd}, OpdRs g B Z ow H σ vs os → vs.length = os.length
  | _, _, .nil => rfl
  | _, _, .cons _ _ r => by rw [List.length_cons, List.length_cons, OpdRs.len r]

/-- from the caller's owners to the callee's, and back -/
def inOw (l : List (Nat × Nat)) (ow : Ow) : Ow := fun b => match ow b with
  | some (j, k) => (l.find? fun p => p.2 == j).map fun p => (p.1, k)
  | none => none
def outOw (l : List (Nat × Nat)) (ow ow' : Ow) : Ow := fun b => match (match ow' b with
    | some (i, k) => (l.find? fun p => p.1 == i).map fun p => (p.2, k)
    | none => none) with
  | some q => some q
  | none => match inOw l ow b with
    | some _ => none
    | none => ow b
theorem inOw_some {l : List (Nat × Nat)} {ow : Ow} {b : Addr} {i k : Nat} (h : inOw l ow b = some (i, k)) : ∃ j, (i, j) ∈ l ∧ ow b = some (j, k) := by
  unfold inOw at h
  split at h
  · rename_i j k' q
    obtain ⟨p, hp, e⟩ := Option.map_eq_some_iff.mp h
    cases e
    have h1 := List.mem_of_find?_eq_some hp
    have h2 := List.find?_some hp
    simp only [beq_iff_eq] at h2
    obtain ⟨p1, p2⟩ := p
    simp only at h1 h2
    subst h2
    exact ⟨p2, h1, q⟩
  · cases h
theorem inOw_of {l : List (Nat × Nat)} {ow : Ow} {b : Addr} {i j k : Nat} (nd : (l.map (·.2)).Nodup) (h : (i, j) ∈ l) (e : ow b = some (j, k)) : inOw l ow b = some (i, k) := by
  unfold inOw
  rw [e]
  simp only
  cases q : l.find? fun p => p.2 == j with
  | none =>
    have := List.find?_eq_none.mp q (i, j) h
    simp at this
  | some p =>
    have h1 := List.mem_of_find?_eq_some q
    have h2 := List.find?_some q
    simp only [beq_iff_eq] at h2
    obtain ⟨p1, p2⟩ := p
    simp only at h1 h2
    subst h2
    have : p1 = i := by
      obtain ⟨n1, hn1, e1⟩ := List.getElem_of_mem h1
      obtain ⟨n2, hn2, e2⟩ := List.getElem_of_mem h
      have : n1 = n2 := by
        have h3 : (l.map (·.2))[n1]'(by simpa using hn1) = (l.map (·.2))[n2]'(by simpa using hn2) := by simp [e1, e2]
        exact (List.getElem_inj nd).mp h3
      subst this
      rw [e1] at e2
      cases e2
      rfl
    simp [this]
theorem outOw_lent {l : List (Nat × Nat)} {ow ow' : Ow} {b : Addr} {i j k : Nat} (inj : ∀ j', (i, j') ∈ l → j' = j) (h : (i, j) ∈ l) (e : ow' b = some (i, k)) : outOw l ow ow' b = some (j, k) := by
  unfold outOw
  rw [e]
  simp only
  cases q : l.find? fun p => p.1 == i with
  | none =>
    have := List.find?_eq_none.mp q (i, j) h
    simp at this
  | some p =>
    have h1 := List.mem_of_find?_eq_some q
    have h2 := List.find?_some q
    simp only [beq_iff_eq] at h2
    obtain ⟨p1, p2⟩ := p
    simp only at h1 h2
    subst h2
    simp [inj p2 h1]
theorem outOw_cases {l : List (Nat × Nat)} {ow ow' : Ow} {b : Addr} {p : Nat × Nat} (h : outOw l ow ow' b = some p) : (∃ i, (i, p.1) ∈ l ∧ ow' b = some (i, p.2)) ∨ (inOw l ow b = none ∧ ow b = some p) := by
  unfold outOw at h
  split at h
  · rename_i q hq
    cases h
    split at hq
    · rename_i i k e
      obtain ⟨p', hp, e2⟩ := Option.map_eq_some_iff.mp hq
      have h1 := List.mem_of_find?_eq_some hp
      have h2 := List.find?_some hp
      simp only [beq_iff_eq] at h2
      obtain ⟨p1, p2⟩ := p'
      simp only at h1 h2 e2
      subst h2 e2
      exact .inl ⟨p1, h1, e⟩
    · cases hq
  · split at h
    · cases h
    · exact .inr ⟨by assumption, h⟩
theorem outOw_else {l : List (Nat × Nat)} {ow ow' : Ow} {b : Addr} (h1 : ∀ i k, ow' b = some (i, k) → ∀ j, (i, j) ∉ l) (h2 : inOw l ow b = none) : outOw l ow ow' b = ow b := by
  unfold outOw
  rw [h2]
  split
  · rename_i q hq
    split at hq
    · rename_i i k e
      obtain ⟨p', hp, _⟩ := Option.map_eq_some_iff.mp hq
      have h3 := List.mem_of_find?_eq_some hp
      have h4 := List.find?_some hp
      simp only [beq_iff_eq] at h4
      obtain ⟨p1, p2⟩ := p'
      simp only at h3 h4
      subst h4
      exact absurd h3 (h1 _ _ e p2)
    · cases hq
  · rfl

section
variable {g : G} {L L' : List Nat} {B : FB} {Z Z' H H' : Hp} {ow ow' : Ow} {env fin : Env} {σ : L2.St} {vs : List V} {os : List Opd} {sl : List Slot}
theorem lendOk_iff {l : List (Nat × Nat)} (h : lendOk L' l = true) : (l.map (·.2)).Nodup ∧ ∀ p ∈ l, p.1 ∈ L' := by
  unfold lendOk at h
  simp only [Bool.and_eq_true, decide_eq_true_eq, List.all_eq_true] at h
  exact h
theorem lends_inj {e : Env} {i j j' : Nat} (h : (i, j) ∈ lends e 0 os) (h' : (i, j') ∈ lends e 0 os) : j' = j := by
  obtain ⟨_, h1, _⟩ := mem_lends h
  obtain ⟨_, h2, _⟩ := mem_lends h'
  rw [h1] at h2
  cases h2
  rfl
/-- the callee's entry -/
theorem RelZ.enter (r : RelZ g L B Z ow env σ H) (hv : OpdRs g B Z ow H σ vs os) (hs : argSlots env os = some sl) (hl : lendOk L' (lends env 0 os) = true) :
    (∀ b p, inOw (lends env 0 os) ow b = some p → Z b = none ∧ (∃ o, H b = some o) ∧ p.1 ∈ L') ∧ (∀ i s, sl[i]? = some s → SlotR g Z (inOw (lends env 0 os) ow) H i s (vs.map some)[i]?) := by
  obtain ⟨nd, inL⟩ := lendOk_iff hl
  refine ⟨fun b p e => ?_, fun i s e => ?_⟩
  · obtain ⟨i, k⟩ := p
    obtain ⟨j, h1, h2⟩ := inOw_some e
    exact ⟨(r.own b _ h2).1, (r.own b _ h2).2.1, inL (i, j) h1⟩
  · obtain ⟨o, h1, h2⟩ := argSlots_get hs e
    obtain ⟨v, h3, h4⟩ := hv.get h1
    rw [List.getElem?_map, h3]
    cases o with
    | val d =>
      simp only [argSlot, Option.some.injEq] at h2
      subst h2
      exact ⟨v, rfl, h4⟩
    | fresh d => cases h2
    | slot j =>
      have h4 : σ[j]? = some (some v) := h4
      simp only [argSlot] at h2
      split at h2
      · rename_i s' q
        cases h2
        have rs := r.slots j _ q
        cases s with
        | val d =>
          obtain ⟨v', e1, e2⟩ := rs
          rw [h4] at e1; cases e1
          exact ⟨v, rfl, e2⟩
        | own d =>
          obtain ⟨a, bs, e1, e2, e3⟩ := rs
          rw [h4] at e1; cases e1
          have hm := lends_mem (i0 := 0) h1 q
          rw [Nat.zero_add] at hm
          exact ⟨a, bs, rfl, ⟨inOw_of nd hm e2.1, fun k b hk => inOw_of nd hm (e2.2 k b hk)⟩, e3⟩
      · cases h2
/-- behind the call -/
theorem RelZ.leave (r : RelZ g L B Z ow env σ H) (hv : OpdRs g B Z ow H σ vs os) (hs : argSlots env os = some sl) (hl : lendOk L' (lends env 0 os) = true)
    (af : After g L' Z (inOw (lends env 0 os) ow) H vs fin Z' ow' H') : RelZ g L B Z' (outOw (lends env 0 os) ow ow') (backE env fin (lends env 0 os)) σ H' ∧ Same Z Z' ∧
      ∀ b, H b = none → (∀ p, ow' b = some p → p.1 ∉ L') → outOw (lends env 0 os) ow ow' b = none := by
  obtain ⟨nd, inL⟩ := lendOk_iff hl
  obtain ⟨σ0, σ', h0, rc⟩ := af
  have inOw_L : ∀ b p, inOw (lends env 0 os) ow b = some p → p.1 ∈ L' := fun b p e => by
    obtain ⟨i, k⟩ := p
    obtain ⟨j, h1, _⟩ := inOw_some e
    exact inL (i, j) h1
  have nl : ∀ b o, H b = some o → inOw (lends env 0 os) ow b = none → ∀ i k, ow' b = some (i, k) → i ∉ L' := fun b o e n i k e2 => by
    rcases (rc.own b _ e2).2.2 with z | ⟨q, z, _⟩
    · rw [show H b = none from z] at e; cases e
    · rw [show inOw _ _ b = some q from z] at n; cases n
  refine ⟨⟨r.z0.trans rc.z0, rc.zh, fun b o e => ?_, fun b o e n => ?_, fun b p e => ?_, fun j s e => ?_, r.pin, by rw [backE_len]; exact r.len, fun b o e => ?_, r.b0⟩, rc.z0, fun b n k => ?_⟩
  · rcases rc.zn b o e with z | z | ⟨q, z, n⟩
    · exact r.zn b o z
    · exact .inr (.inl (r.oldH z))
    · exact absurd (inOw_L b q z) n
  · refine rc.fr b o (r.fr b o e n) ?_
    cases q : inOw (lends env 0 os) ow b with
    | none => exact q
    | some p =>
      obtain ⟨i, k⟩ := p
      obtain ⟨j, _, h2⟩ := inOw_some q
      rcases (r.own b _ h2).2.2 with z | ⟨p', z, _⟩
      · rw [z] at e; cases e
      · rw [z] at n; cases n
  · rcases outOw_cases e with ⟨i, h1, h2⟩ | ⟨h1, h2⟩
    · obtain ⟨a1, a2, a3⟩ := rc.own b _ h2
      refine ⟨a1, a2, ?_⟩
      rcases a3 with z | ⟨q, z, l⟩
      · exact .inl (r.oldH z)
      · have qi : q.1 = i := by
          rcases l with l | l
          · exact l
          · exact absurd (inOw_L b q z) l.1
        obtain ⟨q1, q2⟩ := q
        simp only at qi
        subst qi
        obtain ⟨j', h3, h4⟩ := inOw_some z
        have : j' = p.1 := lends_inj h1 h3
        subst this
        rcases (r.own b _ h4).2.2 with y | ⟨q', y, l'⟩
        · exact .inl y
        · refine .inr ⟨q', y, ?_⟩
          rcases l' with l' | l'
          · exact .inl l'
          · exact .inr l'
    · obtain ⟨a1, ⟨o, a2⟩, a3⟩ := r.own b _ h2
      refine ⟨?_, ⟨o, rc.fr b o a2 h1⟩, a3⟩
      cases q : Z' b with
      | none => rfl
      | some u =>
        rcases rc.zn b u q with z | z | ⟨q', z, _⟩
        · rw [show Z b = some u from z] at a1; cases a1
        · rw [show H b = none from z] at a2; cases a2
        · rw [show inOw _ _ b = some q' from z] at h1; cases h1
  · by_cases hj : j ∈ (lends env 0 os).map (·.2)
    · obtain ⟨⟨i, j'⟩, hm, ej⟩ := List.mem_map.mp hj
      simp only at ej
      subst ej
      obtain ⟨_, g1, d0, g2⟩ := mem_lends hm
      have hlt : j' < env.length := (List.getElem?_eq_some_iff.mp g2).1
      rw [backE_in nd hm hlt] at e
      unfold backS at e
      split at e
      · rename_i d q
        cases e
        obtain ⟨a, bs, e1, e2, e3⟩ := rc.slots i _ q
        rw [Nat.sub_zero] at g1
        obtain ⟨v, g3, g4⟩ := hv.get g1
        have e1' : σ0[i]? = some (some (.ref a)) := by rw [← rc.pin i (inL _ hm)]; exact e1
        rw [h0 i v g3] at e1'
        cases e1'
        refine ⟨a, bs, g4, ⟨outOw_lent (fun j2 h2 => lends_inj hm h2) hm e2.1, fun k b hk => outOw_lent (fun j2 h2 => lends_inj hm h2) hm (e2.2 k b hk)⟩, e3⟩
      · cases e
    · rw [backE_out hj] at e
      have rs := r.slots j _ e
      cases s with
      | val d =>
        obtain ⟨v, e1, e2⟩ := rs
        exact ⟨v, e1, e2.mono rc.z0⟩
      | own d =>
        obtain ⟨a, bs, e1, e2, e3⟩ := rs
        have ni : ∀ b ∈ a :: bs, inOw (lends env 0 os) ow b = none := fun b hb => by
          obtain ⟨k, hk⟩ := e2.mem hb
          cases q : inOw (lends env 0 os) ow b with
          | none => rfl
          | some p =>
            obtain ⟨i, k'⟩ := p
            obtain ⟨j', h3, h4⟩ := inOw_some q
            rw [hk] at h4
            cases h4
            exact absurd (List.mem_map.mpr ⟨_, h3, rfl⟩) hj
        have same : ∀ b ∈ a :: bs, H' b = H b := fun b hb => by
          obtain ⟨u, hu, _⟩ := e3.there b hb
          rw [hu, rc.fr b u hu (ni b hb)]
        have keep : ∀ b ∈ a :: bs, outOw (lends env 0 os) ow ow' b = ow b := fun b hb => by
          obtain ⟨u, hu, _⟩ := e3.there b hb
          exact outOw_else (fun i k h2 j2 h3 => nl b u hu (ni b hb) i k h2 (inL _ h3)) (ni b hb)
        refine ⟨a, bs, e1, ⟨?_, fun k b hk => ?_⟩, e3.mono rc.z0 (same a List.mem_cons_self) fun b hb => same b (List.mem_cons_of_mem _ hb)⟩
        · rw [keep a List.mem_cons_self]; exact e2.1
        · rw [keep b (List.mem_cons_of_mem _ (List.mem_of_getElem? hk))]; exact e2.2 k b hk
  · obtain ⟨o', e'⟩ := r.th b o e
    exact rc.th b o' e'
  · have hi : inOw (lends env 0 os) ow b = none := by
      cases q : inOw (lends env 0 os) ow b with
      | none => rfl
      | some p =>
        obtain ⟨i, k'⟩ := p
        obtain ⟨j', h3, h4⟩ := inOw_some q
        rw [r.notOwn n] at h4
        cases h4
    rw [outOw_else (fun i k' h2 j2 h3 => k _ h2 (inL (i, j2) h3)) hi]
    exact r.notOwn n
end
/-- what the call rule asks -/
theorem call_of {g : G} {L L' : List Nat} {B : FB} {W : WX} {Z H : Hp} {ow : Ow} {env : Env} {σ : L2.St} {vs : List V} {os : List Opd} {F : FN} {n : Nat} {Q : VK} (hn : os.length = n) (r : RelZ g L B Z ow env σ H) (hv : OpdRs g B Z ow H σ vs os)
    (p : PostE g L B W Z σ (callO L' F os env) fun o Z' ow' _ H' => ∀ v, OpdR g B Z' ow' H' σ v o → Q v H') : spF g L' n F vs H Q (WE W σ) := by
  unfold callO at p
  cases hs : argSlots env os with
  | none => rw [hs] at p; exact p.elim
  | some sl =>
    rw [hs] at p
    simp only at p
    split at p
    · rename_i hl
      obtain ⟨e1, e2⟩ := r.enter hv hs hl
      refine ⟨hv.len.trans hn, Z, _, sl, (argSlots_len hs).trans hn, r.zh, e1, e2, ?_⟩
      cases hF : F sl with
      | stuck => rw [hF] at p; exact p.elim
      | exc c fin =>
        rw [hF] at p
        intro C Z' ow' H' hm af
        obtain ⟨r2, s2, _⟩ := r.leave hv hs hl af
        exact p C H' Z' _ hm r2 s2
      | ok s fin =>
        rw [hF] at p
        intro v Z' ow' H' af rt
        obtain ⟨r2, s2, k2⟩ := r.leave hv hs hl af
        cases s with
        | val d => exact p H' Z' _ r2 s2 v rt
        | own d =>
          obtain ⟨a, bs, f1, f2, nd, f3⟩ := rt
          exact p H' Z' _ r2 s2 v ⟨a, bs, f1, f2, nd, fun b hb => ⟨(f3 b hb).1, k2 b (f3 b hb).2.1 (f3 b hb).2.2, r.oldH (f3 b hb).2.1⟩⟩
    · exact p.elim
section
variable {X : Cx} {L L' : List Nat} {W : WX} {k : Nat} {f : Addr} {fd : FuncData} {ps : List Str} {x : Str} {p pos : Pos} {e : Expr} {es : List Expr} {as : AF} {F : FN}
/-- how many operands a list of arguments gives -/
def ALen (a : AF) (n : Nat) : Prop := ∀ env os e, a env = .ok os e → os.length = n
theorem alen_nil : ALen aNil 0 := fun _ _ _ h => by cases h; rfl
theorem alen_cons {f : EF} {r : AF} {n : Nat} (h : ALen r n) : ALen (aCons f r) (n + 1) := fun env os e q => by
  unfold aCons at q
  cases hf : f env with
  | exc c e' => rw [hf] at q; cases q
  | stuck => rw [hf] at q; cases q
  | ok o e1 =>
    rw [hf] at q
    simp only [R.bind] at q
    cases hr : r e1 with
    | exc c e' => rw [hr] at q; cases q
    | stuck => rw [hr] at q; cases q
    | ok os' e2 =>
      rw [hr] at q
      cases q
      rw [List.length_cons, h _ _ _ hr]
theorem px_call (FO : FnOk X.prog X.w X.K X.mg X.base (L2.CX X.prog X.w) k f fd ps (spF (gX X) L' ps.length F)) (hr : Room k X.A) (tk : Takes X W) (hg : Gl X x) (hm : X.mg x = some (.ref f)) (hk : PySem.W.keepIn X.K (.ref f) = true) (hb : Binds X.K fd ps [])
    (ha : PXs X L W (e :: es) as) (hl : ALen as ps.length) (hdb : (x == ("__debug__" : Str)) = false := by decide) (he : starEach (e :: es) X.env = (false, eval e X.env) :: starEach es X.env := by rfl) (hpl : (backTo pos (starEach es X.env)).any (·.1) = false := by rfl) :
    PX X L W (.Call (.Name x p) (e :: es) [] pos) (eCall L' F as) := by
  refine pe_of (pe_callS FO hr hg hm hk hb (fun σ => passAt tk σ) ha hdb he hpl) fun σ H Q => ?_
  rintro ⟨B, Z, ow, env, rel, p⟩
  refine ⟨B, Z, ow, env, rel, p.seq fun os Z1 ow1 env1 H1 he1 rel1 s1 p1 vs hvs => ?_⟩
  exact call_of (hl _ _ _ he1) rel1 hvs p1
end
end VS

/-! VSF: displays, comprehensions, what is walked -/
namespace VS
open PySem PySem.Spec PyProof.Rows L2

/-! ### displays -/
def valsOf : List Opd → Option (List D)
  | [] => some []
  | .val d :: os => (valsOf os).map (d :: ·)
  | _ => none
def eTup (a : AF) : EF := fun env => (a env).bind fun os e => match valsOf os with
  | some ds => .ok (.val (.tup ds)) e
  | none => .stuck
def eLst (a : AF) : EF := fun env => (a env).bind fun os e => match valsOf os with
  | some ds => .ok (.fresh (.lst ds)) e
  | none => .stuck
theorem OpdRs.vals {g : G} {B : FB} {Z : Hp} {ow : Ow} {H : Hp} {σ : L2.St} : ∀ {vs : List V} {os : List Opd} {ds : List D}, OpdRs g B Z ow H σ vs os → valsOf os = some ds → Rps g Z vs ds
  | _, _, _, .nil, e => by simp only [valsOf, Option.some.injEq] at e; subst e; exact .nil
  | _, _, _, .cons (o := o) h n r, e => by
    cases o with
    | val d =>
      simp only [valsOf, Option.map_eq_some_iff] at e
      obtain ⟨ds', e1, rfl⟩ := e
      exact .cons h (OpdRs.vals r e1)
    | slot i => simp [valsOf] at e
    | fresh d => simp [valsOf] at e
section
variable {X : Cx} {L : List Nat} {W : WX} {es : List Expr} {as : AF} {n : Nat} {pos : Pos}
theorem px_tup {x1} (ha : PXs X L W es as) (hl : ALen as n) (hn : n ≤ 1000 := by decide) : PX X L W (.Tuple es x1 pos) (eTup as) := by
  refine pe_of (pe_tup ha) fun σ H Q => ?_
  rintro ⟨B, Z, ow, env, rel, p⟩
  refine ⟨B, Z, ow, env, rel, p.seq fun os Z1 ow1 env1 H1 he1 rel1 s1 p1 vs hvs => ?_⟩
  cases h1 : valsOf os with
  | none => rw [h1] at p1; exact p1.elim
  | some ds =>
    rw [h1] at p1
    have rs := hvs.vals h1
    refine ⟨Nat.le_of_lt (small1000 (by rw [hvs.len, hl _ _ _ he1]; exact hn)), fun q hq => ?_⟩
    have x := Ext.layZ (o := .tup vs) rel1.zh hq
    exact p1 _ _ _ (rel1.ext x) x.zz _ (.tup (.of upd_same) (rs.mono x.zz))
theorem px_lst (ha : PXs X L W es as) (hl : ALen as n) (hn : n ≤ 1000 := by decide) : PX X L W (.List es pos) (eLst as) := by
  refine pe_of (pe_lst ha) fun σ H Q => ?_
  rintro ⟨B, Z, ow, env, rel, p⟩
  refine ⟨B, Z, ow, env, rel, p.seq fun os Z1 ow1 env1 H1 he1 rel1 s1 p1 vs hvs => ?_⟩
  cases h1 : valsOf os with
  | none => rw [h1] at p1; exact p1.elim
  | some ds =>
    rw [h1] at p1
    have rs := hvs.vals h1
    refine ⟨Nat.le_of_lt (small1000 (by rw [hvs.len, hl _ _ _ he1]; exact hn)), fun q hq => ?_⟩
    have x := Ext.lay (o := .lst vs) rel1.zh hq
    refine p1 _ _ _ (rel1.ext x) x.zz _ ⟨q, [], rfl, .lst upd_same rs, by simp, fun b hb => ?_⟩
    simp only [List.mem_singleton] at hb
    subst hb
    exact ⟨rel1.zh.free hq, rel1.notOwn hq, rel1.oldH hq⟩
end

/-! ### comprehensions -/
def wipeE (env : Env) : List Nat → Env
  | [] => env
  | v :: vs => (wipeE env vs).set v none
def keepV : Option (Option Slot) → Option Slot
  | some (some (.val d)) => some (.val d)
  | _ => none
def restE (e1 e2 : Env) : List Nat → Env
  | [] => e2
  | v :: vs => (restE e1 e2 vs).set v (keepV e1[v]?)
def noX {α : Type} : R α → R α
  | .exc _ _ => .stuck
  | r => r
def tT : TF := fun env => .ok true env
def compF (L : List Nat) (gD : GF) (T : TF) (f : EF) (vs : List Nat) : List D → List D → Env → R (List D)
  | [], acc, env => .ok acc env
  | d :: ds, acc, env => match gD d (wipeE env vs) with
    | none => .stuck
    | some e1 => (noX (T e1)).bind fun b e2 => if b then (noX (fV L f e2)).bind fun o e3 => (match o with
        | .val y => if acc.length < sizeLine then compF L gD T f vs ds (acc ++ [y]) e3 else .stuck
        | _ => .stuck)
      else compF L gD T f vs ds acc e2
def eComp (L : List Nat) (src : IF) (gD : GF) (T : TF) (f : EF) (vs : List Nat) : EF := fun env => (src env).bind fun ds e1 => (compF L gD T f vs ds [] e1).bind fun acc e2 => .ok (.fresh (.lst acc)) (restE e1 e2 vs)
abbrev Wf : WX := fun _ _ _ _ => False
section
theorem wipeE_len (env : Env) : ∀ vs : List Nat, (wipeE env vs).length = env.length
  | [] => rfl
  | v :: vs => by rw [wipeE, List.length_set, wipeE_len env vs]
theorem wipeE_some {env : Env} {j : Nat} {s : Slot} : ∀ {vs : List Nat}, (wipeE env vs)[j]? = some (some s) → j ∉ vs ∧ env[j]? = some (some s)
  | [], h => ⟨by simp, h⟩
  | v :: vs, h => by
    rw [wipeE] at h
    by_cases hj : v = j
    · subst hj
      by_cases hl : v < (wipeE env vs).length
      · rw [List.getElem?_set_self hl] at h; cases h
      · rw [List.getElem?_eq_none (by rw [List.length_set]; omega)] at h; cases h
    · rw [List.getElem?_set_ne hj] at h
      obtain ⟨h1, h2⟩ := wipeE_some h
      exact ⟨by simp only [List.mem_cons, not_or]; exact ⟨fun e => hj e.symm, h1⟩, h2⟩
theorem wipeE_out {env : Env} {j : Nat} : ∀ {vs : List Nat}, j ∉ vs → (wipeE env vs)[j]? = env[j]?
  | [], _ => rfl
  | v :: vs, h => by
    simp only [List.mem_cons, not_or] at h
    rw [wipeE, List.getElem?_set_ne (Ne.symm h.1), wipeE_out h.2]
theorem restE_len (e1 e2 : Env) : ∀ vs : List Nat, (restE e1 e2 vs).length = e2.length
  | [] => rfl
  | v :: vs => by rw [restE, List.length_set, restE_len e1 e2 vs]
theorem restE_some {e1 e2 : Env} {j : Nat} {s : Slot} : ∀ {vs : List Nat}, (restE e1 e2 vs)[j]? = some (some s) → (∃ d, s = .val d ∧ e1[j]? = some (some (.val d))) ∨ (j ∉ vs ∧ e2[j]? = some (some s))
  | [], h => .inr ⟨by simp, h⟩
  | v :: vs, h => by
    rw [restE] at h
    by_cases hj : v = j
    · subst hj
      by_cases hl : v < (restE e1 e2 vs).length
      · rw [List.getElem?_set_self hl] at h
        simp only [Option.some.injEq] at h
        unfold keepV at h
        split at h
        · cases h; exact .inl ⟨_, rfl, by assumption⟩
        · cases h
      · rw [List.getElem?_eq_none (by rw [List.length_set]; omega)] at h; cases h
    · rw [List.getElem?_set_ne hj] at h
      rcases restE_some h with q | ⟨q1, q2⟩
      · exact .inl q
      · exact .inr ⟨by simp only [List.mem_cons, not_or]; exact ⟨fun e => hj e.symm, q1⟩, q2⟩
theorem wipe_set {σ σ2 : L2.St} {vs : List Nat} (hl : σ2.length = σ.length) (h : ∀ j, j ∉ vs → σ2[j]? = σ[j]?) : wipe σ2 vs = wipe σ vs := by
  apply List.ext_getElem?
  intro j
  by_cases hj : j ∈ vs
  · have z : ∀ τ : L2.St, τ.length = σ.length → (wipe τ vs)[j]? = if j < σ.length then some none else none := by
      intro τ ht
      by_cases hlt : j < σ.length
      · rw [if_pos hlt]
        have hw : j < (wipe τ vs).length := by rw [wipe_length, ht]; exact hlt
        rw [List.getElem?_eq_getElem hw]
        cases q : (wipe τ vs)[j] with
        | none => rfl
        | some x =>
          have := (wipe_some (σ := τ) (vs := vs) (i := j) (x := x) (by rw [List.getElem?_eq_getElem hw, q])).2
          exact absurd hj this
      · rw [if_neg hlt, List.getElem?_eq_none (by rw [wipe_length, ht]; omega)]
    rw [z σ2 hl, z σ rfl]
  · rw [wipe_out hj, wipe_out hj, h j hj]
end
section
variable {g : G} {L : List Nat} {B : FB} {Z Z' H H' : Hp} {ow ow' : Ow} {env env1 e1 : Env} {σ : L2.St}
theorem RelZ.wipe (r : RelZ g L B Z ow env σ H) {vs : List Nat} (hv : ∀ v ∈ vs, v ∉ L) : RelZ g L B Z ow (wipeE env vs) (L2.wipe σ vs) H :=
  ⟨r.z0, r.zh, r.zn, r.fr, r.own, fun j s e => by
    obtain ⟨h1, h2⟩ := wipeE_some e
    rw [wipe_out h1]
    exact r.slots j s h2, fun j hj => by
    rw [wipe_out (fun q => hv j q hj)]
    exact r.pin j hj, by rw [wipeE_len, wipe_length]; exact r.len, r.th, r.b0⟩
/-- an object that nobody knows is changed -/
theorem RelZ.garb (r : RelZ g L B Z ow env σ H) {b : Addr} {o : HO} (hz : Z b = none) (ho : ow b = none) (hb : B.H b = none) : RelZ g L B Z ow env σ (upd H b o) := by
  refine ⟨r.z0, fun c x e => ?_, r.zn, fun c x e n => ?_, fun c p e => ?_, fun j s e => ?_, r.pin, r.len, fun c x e => ?_, r.b0⟩
  · rw [upd_ne (fun q => by rw [q, hz] at e; cases e)]; exact r.zh _ _ e
  · rw [upd_ne (fun q => by rw [q, hb] at e; cases e)]; exact r.fr _ _ e n
  · obtain ⟨h1, h2, h3⟩ := r.own c p e
    refine ⟨h1, ?_, h3⟩
    rw [upd_ne (fun q => by rw [q, ho] at e; cases e)]
    exact h2
  · have q := r.slots j s e
    cases s with
    | val d => exact q
    | own d =>
      obtain ⟨a', bs', e1, e2, e3⟩ := q
      have ne : ∀ c ∈ a' :: bs', c ≠ b := fun c hc z => by
        obtain ⟨k', hk'⟩ := e2.mem hc
        rw [z, ho] at hk'
        cases hk'
      exact ⟨a', bs', e1, e2, e3.mono (Same.refl Z) (upd_ne (ne a' List.mem_cons_self)) fun c hc => upd_ne (ne c (List.mem_cons_of_mem _ hc))⟩
  · by_cases q : c = b
    · subst q; exact ⟨o, upd_same⟩
    · rw [upd_ne q]; exact r.th _ _ e
theorem RelZ.rest (r : RelZ g L B Z ow e1 σ H) {vs : List Nat} (hv : ∀ v ∈ vs, v ∉ L) (r' : RelZ g L B Z' ow' (wipeE env1 vs) (L2.wipe σ vs) H') (s : Same Z Z') : RelZ g L B Z' ow' (restE e1 env1 vs) σ H' := by
  refine ⟨r'.z0, r'.zh, r'.zn, r'.fr, r'.own, fun j sl e => ?_, r.pin, ?_, r'.th, r'.b0⟩
  · rcases restE_some e with ⟨d, rfl, q⟩ | ⟨q1, q2⟩
    · obtain ⟨v, e1, e2⟩ := r.slots j _ q
      exact ⟨v, e1, e2.mono s⟩
    · have q := r'.slots j sl (by rw [wipeE_out q1]; exact q2)
      rw [wipe_out q1] at q
      exact q
  · have := r'.len
    rw [wipeE_len, wipe_length] at this
    rw [restE_len]
    exact this
/-- what the block leaves alone -/
theorem RelZ.aside (r : RelZ g L B Z ow env σ H) {o : HO} {b : Addr} (hb : B.H b = some o) (ho : B.ow b = none) (hz : B.Z b = none) : H b = some o ∧ Z b = none ∧ ow b = none := by
  refine ⟨r.fr b o hb ho, ?_, ?_⟩
  · cases q : Z b with
    | none => rfl
    | some u =>
      rcases r.zn b u q with z | z | ⟨p, z, _⟩
      · rw [hz] at z; cases z
      · rw [hb] at z; cases z
      · rw [ho] at z; cases z
  · cases q : ow b with
    | none => rfl
    | some p =>
      rcases (r.own b p q).2.2 with z | ⟨p', z, _⟩
      · rw [hb] at z; cases z
      · rw [ho] at z; cases z
end
theorem fV_val {L : List Nat} {f : EF} {env e : Env} {o : Opd} (h : fV L f env = .ok o e) : ∃ d, o = .val d := by
  unfold fV at h
  cases hf : fO f env with
  | exc c e' => rw [hf] at h; cases h
  | stuck => rw [hf] at h; cases h
  | ok o' e' =>
    rw [hf] at h
    simp only [R.bind] at h
    unfold toVal at h
    split at h
    · cases h; exact ⟨_, rfl⟩
    · cases h
    · split at h
      · cases h; exact ⟨_, rfl⟩
      · split at h
        · cases h
        · cases h; exact ⟨_, rfl⟩
      · cases h
theorem comp_of {g : G} {L is vs : List Nat} {W : WX} {src : IF} {gD : GF} {T : TF} {f : EF} {t : TG} (sg : SimG g L is gD t) (his : ∀ j ∈ is, j ∈ vs) (hvl : ∀ v ∈ vs, v ∉ L) {σ : L2.St} {H : Hp} {Q : VK}
    (h : tX g L W (eComp L src gD T f vs) σ H Q) : tLc (tXI g L W src) t (tXT g L Wf T) (tX g L Wf (fV L f)) vs σ H Q := by
  obtain ⟨B, Z, ow, env, rel, p⟩ := h
  refine ⟨B, Z, ow, env, rel, p.seq fun ds Z' ow' e1 H' he rel' s p' J wk D hD => ?_⟩
  refine lc_it wk (fun i H => ∃ Z1 ow1 env1 acc va, RelZ g L B Z1 ow1 (wipeE env1 vs) (wipe σ vs) H ∧ Same Z' Z1 ∧ H D = some (.lst va) ∧ Rps g Z1 va acc ∧ Z1 D = none ∧ ow1 D = none ∧
    PostE g L B W Z1 σ ((compF L gD T f vs (ds.drop i) acc env1).bind fun acc e2 => .ok (.fresh (.lst acc)) (restE e1 e2 vs)) fun o Z' ow' _ H' => ∀ v, OpdR g B Z' ow' H' σ v o → Q v H') ?_ ?_ ?_ ?_
  · have x := Ext.lay (o := .lst []) rel'.zh hD
    exact ⟨Z', ow', e1, [], [], (rel'.ext x).wipe hvl, Same.refl _, upd_same, .nil, rel'.zh.free hD, rel'.notOwn hD, by simpa using p'⟩
  · rintro i H hi ⟨Z1, ow1, env1, acc, va, r1, s1, _⟩
    exact s1.trans r1.zh
  · rintro i x H1 H2 hi ⟨Z1, ow1, env1, acc, va, r1, s1, hDv, ra, z1, o1, p1⟩ y
    obtain ⟨d, hd⟩ : ∃ d, ds[i]? = some d := ⟨_, List.getElem?_eq_getElem hi⟩
    rw [drop_get hd] at p1
    have bD : B.H D = none := rel'.oldH hD
    obtain ⟨Z2, r2, s2, hh, hx, zn⟩ := YD.state r1 s1 hd y
    have hD2 : H2 D = some (.lst va) := hh _ _ hDv
    have z2 : Z2 D = none := by
      cases q : Z2 D with
      | none => rfl
      | some u =>
        rcases zn D u q with z | z
        · rw [z1] at z; cases z
        · rw [hDv] at z; cases z
    unfold compF at p1
    cases hg : gD d (wipeE env1 vs) with
    | none => rw [hg] at p1; exact p1.elim
    | some e2 =>
      rw [hg] at p1
      simp only at p1
      refine sg _ Z2 ow1 _ _ H2 x d e2 _ r2.base hx hg fun σ2 ow2 r3 l3 k3 => ?_
      have hw : L2.wipe σ2 vs = L2.wipe σ vs := by
        refine wipe_set (by rw [l3, wipe_length]) fun j hj => ?_
        rw [k3 j (fun q => hj (his j q)), wipe_out hj]
      refine ⟨hw, _, Z2, ow2, e2, r3, ?_⟩
      cases hT : T e2 with
      | stuck => rw [hT] at p1; exact p1.elim
      | exc c e3 => rw [hT] at p1; exact p1.elim
      | ok b e3 =>
        rw [hT] at p1
        intro H3 Z3 ow3 r4 s3
        obtain ⟨d3, z3, o3⟩ := r4.aside hD2 o1 z2
        cases b with
        | false =>
          simp only [noX, R.bind, Bool.false_eq_true, if_false] at p1 ⊢
          have r5 := (r2.unbase r4).wipe hvl
          rw [hw] at r5
          exact ⟨Z3, ow3, e3, acc, va, r5, (s1.trans s2).trans s3, d3, ra.mono (s2.trans s3), z3, o3, PostE.mono (s2.trans s3) p1⟩
        | true =>
          simp only [noX, R.bind, if_true] at p1 ⊢
          refine ⟨_, Z3, ow3, e3, r4, ?_⟩
          cases hf : fV L f e3 with
          | stuck => rw [hf] at p1; exact p1.elim
          | exc c e4 => rw [hf] at p1; exact p1.elim
          | ok o e4 =>
            obtain ⟨dy, rfl⟩ := fV_val hf
            rw [hf] at p1
            simp only at p1
            intro H4 Z4 ow4 r5 s4 yv hyv
            obtain ⟨d4, z4, o4⟩ := r5.aside hD2 o1 z2
            by_cases hlen : acc.length < sizeLine
            · simp only [if_pos hlen] at p1
              have r6 := (r2.unbase r5).wipe hvl
              rw [hw] at r6
              have ss := (s2.trans s3).trans s4
              exact ⟨va, d4, by rw [ra.length]; exact hlen, Z4, ow4, e4, acc ++ [dy], va ++ [yv], r6.garb z4 o4 bD, s1.trans ss, upd_same, (ra.mono ss).append (.one hyv), z4, o4, PostE.mono ss p1⟩
            · simp only [if_neg hlen] at p1
              exact p1.elim
  · rintro H1 ⟨Z1, ow1, env1, acc, va, r1, s1, hDv, ra, z1, o1, p1⟩
    rw [List.drop_of_length_le (Nat.le_refl _)] at p1
    refine p1 H1 Z1 ow1 (rel'.rest hvl r1 s1) (Same.refl _) (.ref D) ⟨D, [], rfl, .lst hDv ra, by simp, fun b hb => ?_⟩
    simp only [List.mem_singleton] at hb
    subst hb
    exact ⟨z1, o1, rel'.oldH hD⟩

section
variable {X : Cx} {L is vs : List Nat} {W : WX} {src : IF} {gD : GF} {T : TF} {f : EF} {t : TG} {elt tg iter : Expr} {scope : Scope} {own : List (Str × Nat)} {pos : Pos}
theorem pts_none : PTs X [] (tXT (gX X) L W tT) := ⟨fun pins s σ H Q I h => pts_nil.run pins s σ H Q I (by
  obtain ⟨B, Z, ow, env, rel, p⟩ := h
  exact p H Z ow rel (Same.refl _))⟩
theorem pts_some {c : Expr} (h : PXT X L W c T) : PTs X [c] (tXT (gX X) L W T) := pts_one h
theorem px_comp {ifs : List Expr} (hc : X.calm = true) (hN : X.N.Nodup) (hi : PXI X L W tg iter src) (ok : BlkOk X.N X.env.scope scope own) (hg : ∀ (s : Shared) (H : Hp) (C : Addr) (cl : List (Str × Addr)) (fp : List Addr), PG (X.blk s H scope (compEnvC scope cl C X.env) fp) tg t)
    (sg : SimG (gX X) L is gD t) (his : ∀ j ∈ is, j ∈ own.map (·.2)) (hvl : ∀ v ∈ own.map (·.2), v ∉ L)
    (ht : ∀ (s : Shared) (H : Hp) (C : Addr) (cl : List (Str × Addr)) (fp : List Addr), PTs (X.blk s H scope (compEnvC scope cl C X.env) fp) ifs (tXT (gX X) L Wf T))
    (he : ∀ (s : Shared) (H : Hp) (C : Addr) (cl : List (Str × Addr)) (fp : List Addr), PX (X.blk s H scope (compEnvC scope cl C X.env) fp) L Wf elt f) (hs : ∀ x, foldedSetIterable iter X.env x = pure x := by intro _; rfl) :
    PX X L W (.ListComp elt [⟨tg, iter, ifs, 0⟩] scope pos) (eComp L src gD T f (own.map (·.2))) :=
  pe_of (pe_lc hc hN hi ok hg ht (fun s H C cl fp => px_V (he s H C cl fp)) hs) fun σ H Q h => comp_of sg his hvl h
theorem pxs_setComp {ifs : List Expr} {i : Nat} {y : Str} {py spos : Pos} (hc : X.calm = true) (hN : X.N.Nodup) (hy : X.N[i]? = some y) (hyl : X.env.scope.names.lookup y = some .local) (hl : i ∉ L)
    (hsw : swapsWith (.ListComp elt [⟨tg, iter, ifs, 0⟩] scope pos) (some (.Name y py)) spos.line X.env = pure true)
    (hi : PXI X L W tg iter src) (ok : BlkOk X.N X.env.scope scope own) (hg : ∀ (s : Shared) (H : Hp) (C : Addr) (cl : List (Str × Addr)) (fp : List Addr), PG (X.blk s H scope (compEnvC scope cl C X.env) fp) tg t)
    (sg : SimG (gX X) L is gD t) (his : ∀ j ∈ is, j ∈ own.map (·.2)) (hvl : ∀ v ∈ own.map (·.2), v ∉ L)
    (ht : ∀ (s : Shared) (H : Hp) (C : Addr) (cl : List (Str × Addr)) (fp : List Addr), PTs (X.blk s H scope (compEnvC scope cl C X.env) fp) ifs (tXT (gX X) L Wf T))
    (he : ∀ (s : Shared) (H : Hp) (C : Addr) (cl : List (Str × Addr)) (fp : List Addr), PX (X.blk s H scope (compEnvC scope cl C X.env) fp) L Wf elt f) (hs : ∀ x, foldedSetIterable iter X.env x = pure x := by intro _; rfl) :
    PXS X L W (.Assign [.Name y py] (.ListComp elt [⟨tg, iter, ifs, 0⟩] scope pos) spos) (sSet L i (eComp L src gD T f (own.map (·.2)))) :=
  ps_of (ps_setLc hc hN hy hyl hsw hi ok hg ht (fun s H C cl fp => px_V (he s H C cl fp)) hs) fun D σ H q => comp_of sg his hvl (set_of hl q)
end

/-! ### walks -/
def iSeq (L : List Nat) (f : EF) : IF := fun env => (fV L f env).bind fun o e => match o with
  | .val (.lst ds) => .ok ds e
  | .val (.tup ds) => .ok ds e
  | _ => .stuck
def oneInt (env : Env) : List Opd → Option Int
  | [o] => match rd env o with
    | some (.int j) => some j
    | _ => none
  | _ => none
def twoInts (env : Env) : List Opd → Option (Int × Int)
  | [o, o'] => match rd env o, rd env o' with
    | some (.int i), some (.int j) => some (i, j)
    | _, _ => none
  | _ => none
def rangeD (lo : Int) (n : Nat) : List D := (List.range n).map fun k => .int (lo + (k : Nat))
def iRange1 (a : AF) : IF := fun env => (a env).bind fun os e => match oneInt e os with
  | some j => if -(2 ^ 62) ≤ j ∧ j < 2 ^ 62 then .ok (rangeD 0 j.toNat) e else .stuck
  | none => .stuck
def iRange2 (a : AF) : IF := fun env => (a env).bind fun os e => match twoInts e os with
  | some (i, j) => if -(2 ^ 62) ≤ i ∧ i < 2 ^ 62 ∧ -(2 ^ 62) ≤ j ∧ j < 2 ^ 62 then .ok (rangeD i (j - i).toNat) e else .stuck
  | none => .stuck
/-- a list or a tuple -/
def iSeqT (K : PySem.W.Frag) (tl : TE) : TI := fun σ H R => tl σ H fun x H1 => ∃ a, x = .ref a ∧ (((∃ xs, SqL K H1 a xs) ∧ R (Itl K a) H1) ∨ ((∃ xs, SqT K H1 a xs) ∧ R (Itt K a) H1))
theorem pi_seq {X : Cx} {tg l : Expr} {tl : TE} (hl : PE X l tl) : PI X tg l (iSeqT X.K tl) := by
  refine ⟨fun pins s σ H R I h => ?_⟩
  refine thn (hl.run pins s σ H _ I h) fun v s1 ⟨x, H1, I1, r1, q1⟩ => ?_
  obtain ⟨a, e, q⟩ := q1
  subst e
  cases r1
  have fp : ∀ b ∈ [s1.heap.objs.size], FpOk X pins H1 b := fun b hb => by
    have e : b = s1.heap.objs.size := by simpa using hb
    subst e
    exact I1.fpOk (Nat.le_refl _) (I1.hok.fresh (Nat.le_refl _))
  rcases q with ⟨⟨xs, hq⟩, q⟩ | ⟨⟨xs, hq⟩, q⟩
  · obtain ⟨its, rv, p, hz⟩ := I1.list hq
    refine wpAny_pyIter_list p.isList ?_
    exact ⟨s1.heap.objs.size, [s1.heap.objs.size], _, _, H1, rfl, I1.kept (t' := s1.toks) fun b o e => Heap.get?_push_of_some _ e, turn_list a _, ⟨_, Heap.get?_push_size _ rfl, rfl, rfl⟩, fp, q⟩
  · obtain ⟨its, rv, p, hz⟩ := I1.tuple hq
    refine wpAny_pyIter_tuple (show s1.heap.IsTuple a its.toArray from p) ?_
    exact ⟨s1.heap.objs.size, [s1.heap.objs.size], _, _, H1, rfl, I1.kept (t' := s1.toks) fun b o e => Heap.get?_push_of_some _ e, turn_tuple a _, ⟨_, Heap.get?_push_size _ rfl, rfl, rfl⟩, fp, q⟩
theorem pi_of {X : Cx} {tg l : Expr} {t t' : TI} (h : PI X tg l t) (k : ∀ σ H Q, t' σ H Q → t σ H Q) : PI X tg l t' := ⟨fun pins s σ H Q I q => h.run pins s σ H Q I (k σ H Q q)⟩
theorem wk_lst {g : G} {Z : Hp} {a : Addr} {vs : List V} {ds : List D} (h : Z a = some (.lst vs)) (r : Rps g Z vs ds) : Wk g Z (Itl g.K a) ds := by
  unfold Wk
  rw [← r.length]
  exact walk_list.mono (fun H s => .of (s _ _ h)) fun i H x H' hi s y => .inl ⟨y.1, r.getV y.2⟩
theorem wk_tup {g : G} {Z : Hp} {a : Addr} {vs : List V} {ds : List D} (h : SqT g.K Z a vs) (r : Rps g Z vs ds) : Wk g Z (Itt g.K a) ds := by
  unfold Wk
  rw [← r.length]
  exact walk_tup.mono (fun H s => SqT_mono s h) fun i H x H' hi s y => .inl ⟨y.1, r.getV y.2⟩
theorem wk_range {g : G} {Z : Hp} {lo : Int} {n : Nat} : Wk g Z (Itr lo n) (rangeD lo n) := by
  unfold Wk
  rw [show (rangeD lo n).length = n by simp [rangeD]]
  refine walk_range.mono (fun H s => trivial) fun i H x H' hi s y => .inl ⟨y.1, .int (lo + (i : Nat)), ?_, ?_⟩
  · unfold rangeD
    rw [List.getElem?_map, List.getElem?_range hi]
    rfl
  · rw [y.2]
    exact .int _
section
variable {X : Cx} {L : List Nat} {W : WX} {f : EF} {tg e a b : Expr} {as : AF} {p pos : Pos}
theorem pxi_seq (h : PX X L W e f) : PXI X L W tg e (iSeq L f) := by
  refine pi_of (pi_seq (px_V h)) fun σ H Rr => ?_
  rintro ⟨B, Z, ow, env, rel, p⟩
  refine ⟨B, Z, ow, env, rel, p.seq fun o Z1 ow1 env1 H1 he1 rel1 s1 p1 v1 hv1 => ?_⟩
  cases o with
  | slot i => exact p1.elim
  | fresh d => exact p1.elim
  | val d =>
    cases d with
    | lst ds =>
      have hv1 : Rp (gX X) Z1 v1 (.lst ds) := hv1
      cases hv1 with
      | @lst a vs _ h r => exact ⟨a, rfl, .inl ⟨⟨_, .of (rel1.zh _ _ h)⟩, p1 H1 Z1 ow1 rel1 (Same.refl _) _ (wk_lst h r)⟩⟩
    | tup ds =>
      have hv1 : Rp (gX X) Z1 v1 (.tup ds) := hv1
      cases hv1 with
      | @tup a vs _ h r => exact ⟨a, rfl, .inr ⟨⟨_, SqT_mono rel1.zh h⟩, p1 H1 Z1 ow1 rel1 (Same.refl _) _ (wk_tup h r)⟩⟩
    | _ => exact p1.elim
theorem RelZ.oneI {g : G} {B : FB} {Z H : Hp} {ow : Ow} {env : Env} {σ : L2.St} {vs : List V} {os : List Opd} {j : Int} (r : RelZ g L B Z ow env σ H) (h : OpdRs g B Z ow H σ vs os) (e : oneInt env os = some j) : vs = [.int j] := by
  unfold oneInt at e
  split at e
  · split at e
    · cases e
      rename_i q
      cases h with
      | cons h1 n h2 =>
        cases h2
        rw [(r.sr h1 q).int]
    · cases e
  · cases e
theorem RelZ.twoI {g : G} {B : FB} {Z H : Hp} {ow : Ow} {env : Env} {σ : L2.St} {vs : List V} {os : List Opd} {i j : Int} (r : RelZ g L B Z ow env σ H) (h : OpdRs g B Z ow H σ vs os) (e : twoInts env os = some (i, j)) : vs = [.int i, .int j] := by
  unfold twoInts at e
  split at e
  · split at e
    · cases e
      rename_i q q'
      cases h with
      | cons h1 n h2 =>
        cases h2 with
        | cons h3 n' h4 =>
          cases h4
          rw [(r.sr h1 q).int, (r.sr h3 q').int]
    · cases e
  · cases e
theorem pxi_range1 (hg : Gl X "range") (hm : X.mg "range" = none) (ha : PXs X L W [a] as) (hs : starEach [a] X.env = [(false, eval a X.env)] := by rfl) : PXI X L W tg (.Call (.Name "range" p) [a] [] pos) (iRange1 as) := by
  refine pi_of (pi_range1 hg hm ha hs) fun σ H Rr => ?_
  rintro ⟨B, Z, ow, env, rel, p⟩
  refine ⟨B, Z, ow, env, rel, p.seq fun os Z1 ow1 env1 H1 he1 rel1 s1 p1 vs hvs => ?_⟩
  cases h1 : oneInt env1 os with
  | none => rw [h1] at p1; exact p1.elim
  | some j =>
    rw [h1] at p1
    simp only at p1
    split at p1
    · rename_i hj
      exact ⟨j, rel1.oneI hvs h1, hj.1, hj.2, p1 H1 Z1 ow1 rel1 (Same.refl _) _ wk_range⟩
    · exact p1.elim
theorem pxi_range2 (hg : Gl X "range") (hm : X.mg "range" = none) (ha : PXs X L W [a, b] as) (hs : starEach [a, b] X.env = [(false, eval a X.env), (false, eval b X.env)] := by rfl) (hs2 : starEach [b] X.env = [(false, eval b X.env)] := by rfl) :
    PXI X L W tg (.Call (.Name "range" p) [a, b] [] pos) (iRange2 as) := by
  refine pi_of (pi_range2 hg hm ha hs hs2) fun σ H Rr => ?_
  rintro ⟨B, Z, ow, env, rel, p⟩
  refine ⟨B, Z, ow, env, rel, p.seq fun os Z1 ow1 env1 H1 he1 rel1 s1 p1 vs hvs => ?_⟩
  cases h1 : twoInts env1 os with
  | none => rw [h1] at p1; exact p1.elim
  | some ij =>
    obtain ⟨i, j⟩ := ij
    rw [h1] at p1
    simp only at p1
    split at p1
    · rename_i hj
      exact ⟨i, j, rel1.twoI hvs h1, hj, p1 H1 Z1 ow1 rel1 (Same.refl _) _ wk_range⟩
    · exact p1.elim
end
end VS

/-! VSG: what the operations give, as functions of data -/
namespace VS
open PySem PySem.Spec PyProof.Rows L2

/-! ### pure data -/
mutual
def toP : D → PyData
  | .non => .none
  | .bl b => .bool b
  | .int i => .int i
  | .str x => .str x
  | .tup l => .tuple (toPs l)
  | .lst l => .list (toPs l)
  | .scr l => .list (toPs l)
  | .dct _ => .dict []
  | .ins _ _ => .dict []
  | .glob _ => .dict []
  | .exn _ => .dict []
def toPs : List D → List PyData
  | [] => []
  | d :: ds => toP d :: toPs ds
end
mutual
/-- pure data, nested so deep at most -/
def pl : Nat → D → Bool
  | _, .non => true
  | _, .bl _ => true
  | _, .int _ => true
  | _, .str x => PyData.canLay0 (.str x)
  | n + 1, .tup l => pls n l
  | n + 1, .lst l => pls n l
  | _, _ => false
def pls : Nat → List D → Bool
  | _, [] => true
  | n, d :: ds => pl n d && pls n ds
end
theorem toPs_map : ∀ l : List D, toPs l = l.map toP
  | [] => rfl
  | d :: ds => by rw [toPs, toPs_map ds]; rfl
theorem pls_all : ∀ (n : Nat) (l : List D), pls n l = l.all (pl n)
  | _, [] => rfl
  | n, d :: ds => by rw [pls, pls_all n ds, List.all_cons]
mutual
theorem pl_lay : ∀ (n : Nat) (d : D), pl n d = true → (toP d).canLay0 = true ∧ (toP d).depth ≤ n
  | _, .non, _ => by simp [toP, PyData.canLay0, PyData.depth]
  | _, .bl _, _ => by simp [toP, PyData.canLay0, PyData.depth]
  | _, .int _, _ => by simp [toP, PyData.canLay0, PyData.depth]
  | n, .str x, h => by
    cases n <;> exact ⟨by simpa [pl, toP] using h, by simp [toP, PyData.depth]⟩
  | n + 1, .tup l, h => by
    obtain ⟨h1, h2⟩ := pls_lay n l (by simpa [pl] using h)
    simp only [toP, PyData.canLay0, PyData.depth]
    exact ⟨h1, by omega⟩
  | n + 1, .lst l, h => by
    obtain ⟨h1, h2⟩ := pls_lay n l (by simpa [pl] using h)
    simp only [toP, PyData.canLay0, PyData.depth]
    exact ⟨h1, by omega⟩
  | 0, .tup _, h => by simp [pl] at h
  | 0, .lst _, h => by simp [pl] at h
  | n, .scr _, h => by cases n <;> simp [pl] at h
  | n, .dct _, h => by cases n <;> simp [pl] at h
  | n, .ins _ _, h => by cases n <;> simp [pl] at h
  | n, .glob _, h => by cases n <;> simp [pl] at h
  | n, .exn _, h => by cases n <;> simp [pl] at h
theorem pls_lay : ∀ (n : Nat) (l : List D), pls n l = true → PyData.canLayAll0 (toPs l) = true ∧ PyData.depthAll (toPs l) ≤ n
  | _, [], _ => by simp [toPs, PyData.canLayAll0, PyData.depthAll]
  | n, d :: ds, h => by
    rw [pls, Bool.and_eq_true] at h
    obtain ⟨h1, h2⟩ := pl_lay n d h.1
    obtain ⟨h3, h4⟩ := pls_lay n ds h.2
    simp only [toPs, PyData.canLayAll0, PyData.depthAll, Bool.and_eq_true]
    exact ⟨⟨h1, h3⟩, by omega⟩
end
theorem pl_shaped {n : Nat} {d : D} (h : pl n d = true) (hn : n ≤ 60 := by decide) : SeqAt.shaped (toP d) = true := by
  obtain ⟨h1, h2⟩ := pl_lay n d h
  unfold SeqAt.shaped
  rw [h1, Bool.true_and]
  exact decide_eq_true (by omega)
mutual
theorem Rp.dp {g : G} {Z H : Hp} (s : Same Z H) : ∀ (n : Nat) (d : D) (v : V), pl n d = true → Rp g Z v d → Dp g.K H v (toP d)
  | _, .non, _, _, h => by cases h; exact .non
  | _, .bl _, _, _, h => by cases h; exact .bl _
  | _, .int _, _, _, h => by cases h; exact .int _
  | _, .str _, _, _, h => by cases h; exact .str _
  | n + 1, .tup l, _, p, h => by
    cases h with
    | tup h r => exact .tup (SqT_mono s h) (Rps.dp s n l _ (by simpa [pl] using p) r)
  | n + 1, .lst l, _, p, h => by
    cases h with
    | lst h r => exact .lst (.of (s _ _ h)) (Rps.dp s n l _ (by simpa [pl] using p) r)
  | 0, .tup _, _, p, _ => by simp [pl] at p
  | 0, .lst _, _, p, _ => by simp [pl] at p
  | n, .scr _, _, p, _ => by cases n <;> simp [pl] at p
  | n, .dct _, _, p, _ => by cases n <;> simp [pl] at p
  | n, .ins _ _, _, p, _ => by cases n <;> simp [pl] at p
  | n, .glob _, _, p, _ => by cases n <;> simp [pl] at p
  | n, .exn _, _, p, _ => by cases n <;> simp [pl] at p
theorem Rps.dp {g : G} {Z H : Hp} (s : Same Z H) : ∀ (n : Nat) (l : List D) (vs : List V), pls n l = true → Rps g Z vs l → DpAll g.K H vs (toPs l)
  | _, [], _, _, h => by cases h; exact .nil
  | n, d :: ds, _, p, h => by
    rw [pls, Bool.and_eq_true] at p
    cases h with
    | cons h r => exact .cons (Rp.dp s n d _ p.1 h) (Rps.dp s n ds _ p.2 r)
end
theorem SR.dp {g : G} {Z H : Hp} (s : Same Z H) {n : Nat} {d : D} {v : V} (p : pl n d = true) (h : SR g Z H v d) : Dp g.K H v (toP d) := by
  rcases h with h | ⟨a, bs, rfl, h⟩
  · exact h.dp s n d v p
  · cases h with
    | @lst vs l h r =>
      cases n with
      | zero => simp [pl] at p
      | succ n => exact .lst (.of h) (Rps.dp s n l _ (by simpa [pl] using p) r)
    | dK h e r => cases n <;> simp [pl] at p
    | dT h e r r2 => cases n <;> simp [pl] at p
    | ins m h e f => cases n <;> simp [pl] at p

/-! ### numbers -/
def gI (C : Int → Int → Bool) (f : Int → Int → Int) : D → D → Option Opd
  | .int i, .int j => if C i j then some (.val (.int (f i j))) else none
  | _, _ => none
def gIb (f : Int → Int → Bool) : D → D → Option Opd
  | .int i, .int j => some (.val (.bl (f i j)))
  | _, _ => none
abbrev cMul (i j : Int) : Bool := (decide (-(2 ^ 64) < i) && decide (i < 2 ^ 64)) || (decide (-(2 ^ 64) < j) && decide (j < 2 ^ 64))
abbrev cPow (i j : Int) : Bool := decide (0 ≤ j) && decide (j ≤ 1000000) && decide (i.natAbs < 2 ^ 64)
abbrev cPos (_ j : Int) : Bool := decide (0 < j)
abbrev cDiv (_ j : Int) : Bool := decide (0 < j) && decide (j < 1073741824)
section
variable {g : G}
theorem ResR.val {Z' H' H : Hp} {v : V} {d : D} (h : Rp g Z' v d) : ResR g Z' H' H v (.val d) := h
theorem sim_I {C : Int → Int → Bool} {Cp : Int → Int → Prop} {f : Int → Int → Int} (hC : ∀ i j, C i j = true → Cp i j) : Sim2 g (rI Cp fun i j => .int (f i j)) (gI C f) := by
  intro Z H x y dx dy o Q s hx hy hg q
  unfold gI at hg
  split at hg
  · split at hg
    · rename_i i j hc
      cases hg
      exact ⟨i, j, hx.int, hy.int, hC i j hc, q _ Z H (Ext.refl s) (.int _)⟩
    · cases hg
  · cases hg
theorem sim_Ib {f : Int → Int → Bool} : Sim2 g (rI0 fun i j => .bl (f i j)) (gIb f) := by
  intro Z H x y dx dy o Q s hx hy hg q
  unfold gIb at hg
  split at hg
  · rename_i i j
    cases hg
    exact ⟨i, j, hx.int, hy.int, q _ Z H (Ext.refl s) (.bl _)⟩
  · cases hg
theorem Sim2.or2 {r r' : R2} {gd gd' gd2 : D → D → Option Opd} (h : Sim2 g r gd) (h' : Sim2 g r' gd') (e : ∀ x y o, gd2 x y = some o → gd x y = some o ∨ gd' x y = some o) : Sim2 g (fun x y H Q => r x y H Q ∨ r' x y H Q) gd2 := by
  intro Z H x y dx dy o Q s hx hy hg q
  rcases e dx dy o hg with e | e
  · exact .inl (h Z H x y dx dy o Q s hx hy e q)
  · exact .inr (h' Z H x y dx dy o Q s hx hy e q)
theorem freshL {Z H : Hp} {p : Addr} {vs : List V} {ds : List D} (s : Same Z H) (hp : H p = none) (r : Rps g Z vs ds) : ResR g Z (upd H p (.lst vs)) H (.ref p) (.fresh (.lst ds)) :=
  ⟨p, [], rfl, .lst upd_same r, by simp, fun b hb => by simp at hb; subst hb; exact ⟨s.free hp, hp⟩⟩
theorem newT {Z H : Hp} {p : Addr} {vs : List V} {ds : List D} (s : Same Z H) (hp : H p = none) (r : Rps g Z vs ds) : Rp g (upd Z p (.tup vs)) (.ref p) (.tup ds) :=
  .tup (.of upd_same) (r.mono (Ext.layZ s hp).zz)

/-! ### + -/
def gAdd : D → D → Option Opd
  | .int i, .int j => some (.val (.int (i + j)))
  | .str x, .str y => if x.length + y.length ≤ sizeLine then some (.val (.str (x ++ y))) else none
  | .lst a, .lst b => if a.length + b.length ≤ sizeLine then some (.fresh (.lst (a ++ b))) else none
  | .tup a, .tup b => if a.length + b.length ≤ sizeLine then some (.val (.tup (a ++ b))) else none
  | _, _ => none
end
section
variable {X : Cx}
def rAddA (K : PySem.W.Frag) : R2 := fun x y H Q => (rI0 fun i j => .int (i + j)) x y H Q ∨ (∃ i j, x = .str i ∧ y = .str j ∧ i.length + j.length ≤ sizeLine ∧ Q (.str (i ++ j)) H) ∨ rCat x y H Q ∨ rCatA K x y H Q
theorem op_addA : OpR X (binaryOp .Add) (rAddA X.K) := op_add.or (op_add_str.or (op_cat.or op_catA))
theorem sim_add : Sim2 (gX X) (rAddA X.K) gAdd := by
  intro Z H x y dx dy o Q s hx hy hg q
  unfold gAdd at hg
  split at hg
  · rename_i i j
    cases hg
    exact .inl ⟨i, j, hx.int, hy.int, q _ Z H (Ext.refl s) (.int _)⟩
  · split at hg
    · rename_i i j hl
      cases hg
      exact .inr (.inl ⟨i, j, hx.str, hy.str, hl, q _ Z H (Ext.refl s) (.str _)⟩)
    · cases hg
  · split at hg
    · rename_i a b hl
      cases hg
      obtain ⟨l, vs, e1, h1, r1⟩ := hx.lst s
      obtain ⟨l', vs', e2, h2, r2⟩ := hy.lst s
      exact .inr (.inr (.inl ⟨l, l', vs, vs', e1, e2, h1, h2, by rw [r1.length, r2.length]; exact hl, fun p hp => q _ Z _ (Ext.lay s hp) (freshL s hp (r1.append r2))⟩))
    · cases hg
  · split at hg
    · rename_i a b hl
      cases hg
      obtain ⟨l, vs, e1, h1, r1⟩ := hx.tup s
      obtain ⟨l', vs', e2, h2, r2⟩ := hy.tup s
      subst e1 e2
      refine .inr (.inr (.inr ⟨l, l', vs, vs', rfl, rfl, h1, h2, by rw [r1.length, r2.length]; exact hl, fun e => ?_, fun _ e => ?_, fun _ _ p hp => ?_⟩))
      · subst e
        cases r1
        refine q _ Z H (Ext.refl s) ?_
        rcases hy with hy | ⟨_, _, _, hy⟩
        · exact hy
        · cases hy
      · subst e
        cases r2
        refine q _ Z H (Ext.refl s) ?_
        rw [List.append_nil]
        rcases hx with hx | ⟨_, _, _, hx⟩
        · exact hx
        · cases hx
      · exact q _ _ _ (Ext.layZ s hp) (newT s hp (r1.append r2))
    · cases hg
  · cases hg
def gSub := gI (fun _ _ => true) fun i j => i - j
theorem op_subA : OpR X (binaryOp .Sub) (rI (fun _ _ => True) fun i j => .int (i - j)) := fun pins s σ H x y v u Q I rx ry h => by
  obtain ⟨i, j, e1, e2, _, q⟩ := h
  exact op_sub pins s σ H x y v u Q I rx ry ⟨i, j, e1, e2, q⟩
theorem sim_sub : Sim2 (gX X) (rI (fun _ _ => True) fun i j => .int (i - j)) gSub := sim_I fun _ _ _ => trivial
/-! ### times -/
def gMul : D → D → Option Opd
  | .int i, .int j => if cMul i j then some (.val (.int (i * j))) else none
  | .lst a, .int k => if -(2 ^ 63) ≤ k ∧ k < 2 ^ 63 ∧ a.length * k.toNat ≤ sizeLine then some (.fresh (.lst (List.replicate k.toNat a).flatten)) else none
  | .tup a, .int k => if a ≠ [] ∧ 2 ≤ k ∧ k ≤ 1000 ∧ a.length ≤ 1000 then some (.val (.tup (List.replicate k.toNat a).flatten)) else none
  | _, _ => none
theorem Rps.rep {g : G} {Z : Hp} {vs : List V} {ds : List D} (h : Rps g Z vs ds) : ∀ k : Nat, Rps g Z (List.replicate k vs).flatten (List.replicate k ds).flatten
  | 0 => .nil
  | k + 1 => by
    rw [List.replicate_succ, List.replicate_succ, List.flatten_cons, List.flatten_cons]
    exact h.append (Rps.rep h k)
def rMulA (K : PySem.W.Frag) : R2 := fun x y H Q => (rI CMul fun i j => .int (i * j)) x y H Q ∨ rRep x y H Q ∨ rRepT K x y H Q
theorem op_mulA : OpR X (binaryOp .Mult) (rMulA X.K) := op_mul.or (op_rep.or op_repT)
theorem sim_mul : Sim2 (gX X) (rMulA X.K) gMul := by
  intro Z H x y dx dy o Q s hx hy hg q
  unfold gMul at hg
  split at hg
  · split at hg
    · rename_i i j hc
      cases hg
      refine .inl ⟨i, j, hx.int, hy.int, ?_, q _ Z H (Ext.refl s) (.int _)⟩
      simp only [cMul, Bool.or_eq_true, Bool.and_eq_true, decide_eq_true_eq] at hc
      exact hc
    · cases hg
  · split at hg
    · rename_i a k hc
      cases hg
      obtain ⟨l, vs, e1, h1, r1⟩ := hx.lst s
      exact .inr (.inl ⟨l, k, vs, e1, hy.int, h1, hc.1, hc.2.1, by rw [r1.length]; exact hc.2.2, fun p hp => q _ Z _ (Ext.lay s hp) (freshL s hp (r1.rep _))⟩)
    · cases hg
  · split at hg
    · rename_i a k hc
      cases hg
      obtain ⟨l, vs, e1, h1, r1⟩ := hx.tup s
      refine .inr (.inr ⟨l, k, vs, e1, hy.int, h1, fun e => ?_, hc.2.1, hc.2.2.1, by rw [r1.length]; exact hc.2.2.2, fun p hp => q _ _ _ (Ext.layZ s hp) (newT s hp (r1.rep _))⟩)
      subst e
      cases r1
      exact hc.1 rfl
    · cases hg
  · cases hg
def gMod := gI cPos fun i j => i % j
theorem sim_mod : Sim2 (gX X) (rI (fun _ j => 0 < j) fun i j => .int (i % j)) gMod := sim_I fun _ _ h => of_decide_eq_true h
def gFdiv := gI cDiv fun i j => i / j
theorem sim_fdiv : Sim2 (gX X) (rI CDiv fun i j => .int (i / j)) gFdiv := sim_I fun i j h => by
  simp only [cDiv, Bool.and_eq_true, decide_eq_true_eq] at h
  exact h
def gPow := gI cPow fun i j => i ^ j.toNat
theorem sim_pow : Sim2 (gX X) (rI CPow fun i j => .int (i ^ j.toNat)) gPow := sim_I fun i j h => by
  simp only [cPow, Bool.and_eq_true, decide_eq_true_eq] at h
  exact ⟨h.1.1, h.1.2, h.2⟩
def gNeg : D → Option Opd
  | .int i => some (.val (.int (-i)))
  | _ => none
theorem sim_neg : Sim1 (gX X) (rU fun i => .int (-i)) gNeg := by
  intro Z H x dx o Q s hx hg q
  unfold gNeg at hg
  split at hg
  · rename_i i
    cases hg
    exact ⟨i, hx.int, q _ Z H (Ext.refl s) (.int _)⟩
  · cases hg

/-! ### comparisons -/
def eqD (x y : D) : Bool := PyData.eqv (toP x) (toP y)
/-- .. the script, too -/
def plS (d : D) : Bool := match d with
  | .scr l => pls 8 l
  | d => pl 8 d
theorem plS_shaped {d : D} (h : plS d = true) : SeqAt.shaped (toP d) = true := by
  unfold plS at h
  split at h
  · rename_i l
    exact pl_shaped (n := 9) (d := .lst l) (by simpa [pl] using h)
  · exact pl_shaped h
theorem SR.dpS {g : G} {Z H : Hp} (s : Same Z H) {d : D} {v : V} (p : plS d = true) (h : SR g Z H v d) : Dp g.K H v (toP d) := by
  unfold plS at p
  split at p
  · rename_i l
    obtain ⟨a, vs, rfl, h1, r1⟩ := h.scr s
    exact .lst h1 (Rps.dp s 8 l _ p r1)
  · exact h.dp s p
def gEq : D → D → Option Opd := fun x y => if plS x = true ∧ plS y = true then some (.val (.bl (eqD x y))) else none
def gNe : D → D → Option Opd := fun x y => if plS x = true ∧ plS y = true then some (.val (.bl (!eqD x y))) else none
theorem sim_eq : Sim2 (gX X) (rEqD X.K) gEq := by
  intro Z H x y dx dy o Q s hx hy hg q
  unfold gEq at hg
  split at hg
  · rename_i h
    cases hg
    exact ⟨_, _, hx.dpS s h.1, hy.dpS s h.2, plS_shaped h.1, plS_shaped h.2, q _ Z H (Ext.refl s) (.bl _)⟩
  · cases hg
theorem sim_ne : Sim2 (gX X) (rNeD X.K) gNe := by
  intro Z H x y dx dy o Q s hx hy hg q
  unfold gNe at hg
  split at hg
  · rename_i h
    cases hg
    exact ⟨_, _, hx.dpS s h.1, hy.dpS s h.2, plS_shaped h.1, plS_shaped h.2, q _ Z H (Ext.refl s) (.bl _)⟩
  · cases hg
def isNon : D → Bool
  | .non => true
  | _ => false
theorem SR.isNon {g : G} {Z H : Hp} {v : V} {d : D} (h : SR g Z H v d) : decide (v = .non) = isNon d := by
  rcases h with h | ⟨a, bs, rfl, h⟩
  · cases h <;> simp [VS.isNon]
  · cases h <;> simp [VS.isNon]
def gIs : D → D → Option Opd := fun x y => match y with
  | .non => some (.val (.bl (isNon x)))
  | _ => none
def gIsN : D → D → Option Opd := fun x y => match y with
  | .non => some (.val (.bl (!isNon x)))
  | _ => none
theorem sim_is : Sim2 (gX X) (fun x y H Q => y = .non ∧ Q (.bl (decide (x = .non))) H) gIs := by
  intro Z H x y dx dy o Q s hx hy hg q
  unfold gIs at hg
  split at hg
  · cases hg
    refine ⟨hy.non, ?_⟩
    rw [hx.isNon]
    exact q _ Z H (Ext.refl s) (.bl _)
  · cases hg
theorem sim_isN : Sim2 (gX X) (fun x y H Q => y = .non ∧ Q (.bl (!decide (x = .non))) H) gIsN := by
  intro Z H x y dx dy o Q s hx hy hg q
  unfold gIsN at hg
  split at hg
  · cases hg
    refine ⟨hy.non, ?_⟩
    rw [hx.isNon]
    exact q _ Z H (Ext.refl s) (.bl _)
  · cases hg
def intsOf : List D → Option (List Int)
  | [] => some []
  | .int i :: ds => (intsOf ds).map (i :: ·)
  | _ => none
theorem Rps.ints {g : G} {Z : Hp} : ∀ {vs : List V} {ds : List D} {ns : List Int}, Rps g Z vs ds → intsOf ds = some ns → vs = ns.map V.int
  | _, _, _, .nil, e => by simp only [intsOf, Option.some.injEq] at e; subst e; rfl
  | _, _, _, .cons (d := d) h r, e => by
    cases d with
    | int i =>
      simp only [intsOf, Option.map_eq_some_iff] at e
      obtain ⟨ns, e1, rfl⟩ := e
      cases h
      rw [Rps.ints r e1]
      rfl
    | _ => simp [intsOf] at e
theorem intsOf_ints : ∀ ns : List Int, intsOf (ns.map D.int) = some ns
  | [] => rfl
  | n :: ns => by rw [List.map_cons, intsOf, intsOf_ints ns]; rfl
def gLt : D → D → Option Opd
  | .int i, .int j => some (.val (.bl (decide (i < j))))
  | .tup a, .tup b => match intsOf a, intsOf b with
    | some ns, some ms => some (.val (.bl (HT.lexLt ns ms)))
    | _, _ => none
  | _, _ => none
def rLtA (K : PySem.W.Frag) : R2 := fun x y H Q => (rI0 fun i j => .bl (decide (i < j))) x y H Q ∨ rLtT K x y H Q
theorem op_ltA (hu : X.A.units + 200 < cLine) : OpR X (compareOp .Lt) (rLtA X.K) := op_lt.or (op_ltT (by omega))
theorem sim_lt : Sim2 (gX X) (rLtA X.K) gLt := by
  intro Z H x y dx dy o Q s hx hy hg q
  unfold gLt at hg
  split at hg
  · rename_i i j
    cases hg
    exact .inl ⟨i, j, hx.int, hy.int, q _ Z H (Ext.refl s) (.bl _)⟩
  · split at hg
    · rename_i a b ns ms e1 e2
      cases hg
      obtain ⟨l, vs, f1, h1, r1⟩ := hx.tup s
      obtain ⟨l', vs', f2, h2, r2⟩ := hy.tup s
      rw [r1.ints e1] at h1
      rw [r2.ints e2] at h2
      exact .inr ⟨l, l', ns, ms, f1, f2, h1, h2, q _ Z H (Ext.refl s) (.bl _)⟩
    · cases hg
  · cases hg
def gLe := gIb fun i j => decide (i ≤ j)
def gGt := gIb fun i j => decide (j < i)
def gGe := gIb fun i j => decide (j ≤ i)
theorem sim_le : Sim2 (gX X) (rI0 fun i j => .bl (decide (i ≤ j))) gLe := sim_Ib
theorem sim_gt : Sim2 (gX X) (rI0 fun i j => .bl (decide (j < i))) gGt := sim_Ib
theorem sim_ge : Sim2 (gX X) (rI0 fun i j => .bl (decide (j ≤ i))) gGe := sim_Ib

/-! ### in -/
def itemsOf : D → Option (List D)
  | .tup l => some l
  | .lst l => some l
  | _ => none
def inD (x : D) (l : List D) : Bool := l.any fun z => eqD z x
def gIn : D → D → Option Opd := fun x y => match itemsOf y with
  | some l => if pl 8 x = true ∧ pls 8 l = true then some (.val (.bl (inD x l))) else none
  | none => none
def gNotIn : D → D → Option Opd := fun x y => match itemsOf y with
  | some l => if pl 8 x = true ∧ pls 8 l = true then some (.val (.bl (!inD x l))) else none
  | none => none
def rInA (K : PySem.W.Frag) (neg : Bool) : R2 := fun x y H Q => ∃ d ds, Dp K H x d ∧ (Dp K H y (.list ds) ∨ Dp K H y (.tuple ds)) ∧ d.canLay0 = true ∧ d.depth ≤ 60 ∧ PyData.canLayAll0 ds = true ∧ Q (.bl (if neg then !ds.any fun z => PyData.eqv z d else ds.any fun z => PyData.eqv z d)) H
theorem op_inA (hu : X.A.units + 200 < cLine) : OpR X (compareOp .In) (rInA X.K false) := by
  intro pins s σ H x y v u Q I rx ry h
  obtain ⟨d, ds, hd, he, sd, dd, se, q⟩ := h
  obtain ⟨as, r1⟩ := Dp.reads I d x v hd rx
  have hm : min (PyData.depthAll ds) d.depth ≤ d.depth := Nat.min_le_right _ _
  rcases he with he | he
  · obtain ⟨bs, r2⟩ := Dp.reads I (.list ds) y u he ry
    exact SeqAt.in_list_reads r2 r1 se sd (by omega) ⟨.bl _, H, I, rfl, q⟩
  · obtain ⟨bs, r2⟩ := Dp.reads I (.tuple ds) y u he ry
    exact SeqAt.in_tuple_reads r2 r1 se sd (by omega) ⟨.bl _, H, I, rfl, q⟩
theorem op_notInA (hu : X.A.units + 200 < cLine) : OpR X (compareOp .NotIn) (rInA X.K true) := by
  intro pins s σ H x y v u Q I rx ry h
  obtain ⟨d, ds, hd, he, sd, dd, se, q⟩ := h
  obtain ⟨as, r1⟩ := Dp.reads I d x v hd rx
  have hm : min (PyData.depthAll ds) d.depth ≤ d.depth := Nat.min_le_right _ _
  rcases he with he | he
  · obtain ⟨bs, r2⟩ := Dp.reads I (.list ds) y u he ry
    exact SeqAt.notIn_list_reads r2 r1 se sd (by omega) ⟨.bl _, H, I, rfl, q⟩
  · obtain ⟨bs, r2⟩ := Dp.reads I (.tuple ds) y u he ry
    exact SeqAt.notIn_tuple_reads r2 r1 se sd (by omega) ⟨.bl _, H, I, rfl, q⟩
theorem any_toP (x : D) : ∀ l : List D, ((toPs l).any fun z => PyData.eqv z (toP x)) = inD x l
  | [] => rfl
  | d :: ds => by
    rw [toPs, List.any_cons, any_toP x ds]
    rfl
theorem SR.items {g : G} {Z H : Hp} (s : Same Z H) {y : V} {dy : D} {l : List D} (hy : SR g Z H y dy) (e : itemsOf dy = some l) (p : pls 8 l = true) : Dp g.K H y (.list (toPs l)) ∨ Dp g.K H y (.tuple (toPs l)) := by
  unfold itemsOf at e
  split at e
  · cases e
    exact .inr (hy.dp (n := 9) s (by simpa [pl] using p))
  · cases e
    exact .inl (hy.dp (n := 9) s (by simpa [pl] using p))
  · cases e
theorem sim_in : Sim2 (gX X) (rInA X.K false) gIn := by
  intro Z H x y dx dy o Q s hx hy hg q
  unfold gIn at hg
  split at hg
  · rename_i l e
    split at hg
    · rename_i h
      cases hg
      obtain ⟨p1, p2⟩ := pl_lay 8 dx h.1
      obtain ⟨p3, p4⟩ := pls_lay 8 l h.2
      refine ⟨_, _, hx.dp s h.1, hy.items s e h.2, p1, by omega, p3, ?_⟩
      simp only [Bool.false_eq_true, if_false]
      rw [any_toP]
      exact q _ Z H (Ext.refl s) (.bl _)
    · cases hg
  · cases hg
theorem sim_notIn : Sim2 (gX X) (rInA X.K true) gNotIn := by
  intro Z H x y dx dy o Q s hx hy hg q
  unfold gNotIn at hg
  split at hg
  · rename_i l e
    split at hg
    · rename_i h
      cases hg
      obtain ⟨p1, p2⟩ := pl_lay 8 dx h.1
      obtain ⟨p3, p4⟩ := pls_lay 8 l h.2
      refine ⟨_, _, hx.dp s h.1, hy.items s e h.2, p1, by omega, p3, ?_⟩
      simp only [if_true]
      rw [any_toP]
      exact q _ Z H (Ext.refl s) (.bl _)
    · cases hg
  · cases hg

/-! ### subscripts -/
def seqOf : D → Option (List D)
  | .tup l => some l
  | .lst l => some l
  | .scr l => some l
  | _ => none
def gIx : D → D → Option Opd
  | x, .int i => match seqOf x with
    | some l => (atI l i).map .val
    | none => match x with
      | .str z => if z.length ≤ sizeLine then (atI z.cps.toList i).map fun c => .val (.str ⟨#[c]⟩) else none
      | _ => none
  | _, _ => none
theorem atI_map {g : G} {Z : Hp} {vs : List V} {ds : List D} {i : Int} {d : D} (r : Rps g Z vs ds) (e : atI ds i = some d) : ∃ v, atI vs i = some v ∧ Rp g Z v d := by
  unfold atI at e ⊢
  rw [r.length]
  cases h : ixN ds.length i with
  | none => rw [h] at e; cases e
  | some j =>
    rw [h] at e
    exact r.get e
theorem sim_ix : Sim2 (gX X) (rIx X.K) gIx := by
  intro Z H x y dx dy o Q s hx hy hg q
  unfold gIx at hg
  split at hg
  · rename_i i
    have ey := hy.int
    split at hg
    · rename_i l e
      obtain ⟨d, e1, rfl⟩ := Option.map_eq_some_iff.mp hg
      unfold seqOf at e
      split at e
      · cases e
        obtain ⟨a, vs, f1, h1, r1⟩ := hx.tup s
        obtain ⟨v, e2, hv⟩ := atI_map r1 e1
        exact .inr (.inl ⟨a, vs, i, v, f1, ey, h1, e2, q _ Z H (Ext.refl s) hv⟩)
      · cases e
        obtain ⟨a, vs, f1, h1, r1⟩ := hx.lst s
        obtain ⟨v, e2, hv⟩ := atI_map r1 e1
        exact .inl ⟨a, vs, i, v, f1, ey, .of h1, e2, q _ Z H (Ext.refl s) hv⟩
      · cases e
        obtain ⟨a, vs, f1, h1, r1⟩ := hx.scr s
        obtain ⟨v, e2, hv⟩ := atI_map r1 e1
        exact .inl ⟨a, vs, i, v, f1, ey, h1, e2, q _ Z H (Ext.refl s) hv⟩
      · cases e
    · split at hg
      · split at hg
        · rename_i z _ hz
          obtain ⟨c, e1, rfl⟩ := Option.map_eq_some_iff.mp hg
          exact .inr (.inr ⟨z, i, c, hx.str, ey, hz, e1, q _ Z H (Ext.refl s) (.str _)⟩)
        · cases hg
      · cases hg
  · cases hg
end
end VS

/-! VSH: slices, the built-ins, what changes a list, what is raised -/
namespace VS
open PySem PySem.Spec PyProof.Rows L2

/-! ### slices -/
def cutL {α : Type} (xs : List α) (lo hi : Option Int) : List α := (xs.drop (HT.sIx xs.length 0 lo)).take (HT.sIx xs.length xs.length hi - HT.sIx xs.length 0 lo)
def pNone : Env → R (Option Int) := fun env => .ok none env
def pSome (f : EF) : Env → R (Option Int) := fun env => (f env).bind fun o e => match rd e o with
  | some (.int i) => .ok (some i) e
  | _ => .stuck
def gSl (d : D) (lo hi : Option Int) : Option Opd := match d with
  | .tup l => some (.val (.tup (cutL l lo hi)))
  | .lst l => some (.fresh (.lst (cutL l lo hi)))
  | .str z => if z.length ≤ sizeLine then some (.val (.str (cutS z lo hi))) else none
  | _ => none
def eSl (f : EF) (lo hi : Env → R (Option Int)) : EF := fun env => (fO f env).bind fun o e1 => (lo e1).bind fun l e2 => (hi e2).bind fun u e3 => lift ((rd e3 o).bind fun d => gSl d l u) e3
def tXP (g : G) (L : List Nat) (W : WX) (f : Env → R (Option Int)) : TO := fun σ H Q => ∃ B Z ow env, RelZ g L B Z ow env σ H ∧ PostE g L B W Z σ (f env) fun l _ _ _ H' => Q l H'
abbrev PXP (X : Cx) (L : List Nat) (W : WX) (e : Option Expr) (f : Env → R (Option Int)) : Prop := PO X e (tXP (gX X) L W f)
section
variable {X : Cx} {L : List Nat} {W : WX} {e : Expr} {f : EF} {pos p2 : Pos}
theorem po_of {e : Option Expr} {t t' : TO} (h : PO X e t) (k : ∀ σ H Q, t' σ H Q → t σ H Q) : PO X e t' := ⟨fun pins s σ H Q I q => h.run pins s σ H Q I (k σ H Q q)⟩
theorem pxp_none : PXP X L W none pNone := by
  refine po_of po_none fun σ H Q => ?_
  rintro ⟨B, Z, ow, env, rel, p⟩
  exact p H Z ow rel (Same.refl _)
theorem pxp_some (h : PX X L W e f) : PXP X L W (some e) (pSome f) := by
  refine po_of (po_some h) fun σ H Q => ?_
  rintro ⟨B, Z, ow, env, rel, p⟩
  refine ⟨B, Z, ow, env, rel, p.seq fun o Z1 ow1 env1 H1 he1 rel1 s1 p1 v1 hv1 => ?_⟩
  cases h1 : rd env1 o with
  | none => rw [h1] at p1; exact p1.elim
  | some d =>
    rw [h1] at p1
    cases d with
    | int i => exact ⟨i, (rel1.sr hv1 h1).int, p1 H1 Z1 ow1 rel1 (Same.refl _)⟩
    | _ => exact p1.elim
def rSlAll (K : PySem.W.Frag) : V → Option Int → Option Int → Hp → VK → Prop := fun x lo hi H Q => rSlA K x lo hi H Q ∨ rSlL K x lo hi H Q ∨ rSlS x lo hi H Q
theorem sl_all : SlR X (rSlAll X.K) := sl_tupA.or (sl_list.or sl_str)
theorem cut_rps {g : G} {Z : Hp} {vs : List V} {ds : List D} (r : Rps g Z vs ds) (lo hi : Option Int) : Rps g Z (cutV vs lo hi) (cutL ds lo hi) := by
  unfold cutV cutL
  rw [r.length]
  exact (r.drop _).take _
theorem sim_sl {g : G} {Z H : Hp} {x : V} {d : D} {lo hi : Option Int} {o : Opd} {Q : VK} (s : Same Z H) (hx : SR g Z H x d) (hg : gSl d lo hi = some o) (q : ∀ v Z' H', Ext Z H Z' H' → ResR g Z' H' H v o → Q v H') : rSlAll g.K x lo hi H Q := by
  unfold gSl at hg
  split at hg
  · rename_i l
    cases hg
    obtain ⟨a, vs, e1, h1, r1⟩ := hx.tup s
    subst e1
    refine .inl ⟨a, vs, rfl, h1, fun hw => ?_, fun _ p hp => q _ _ _ (Ext.layZ s hp) (newT s hp (cut_rps r1 lo hi))⟩
    refine q _ Z H (Ext.refl s) ?_
    have e : cutL l lo hi = l := by
      unfold cutL
      rw [← r1.length, hw.1, hw.2, List.drop_zero, Nat.sub_zero, r1.length, List.take_length]
    rw [e]
    rcases hx with hx | ⟨_, _, _, hx⟩
    · exact hx
    · cases hx
  · rename_i l
    cases hg
    obtain ⟨a, vs, e1, h1, r1⟩ := hx.lst s
    exact .inr (.inl ⟨a, vs, e1, .of h1, fun p hp => q _ Z _ (Ext.lay s hp) (freshL s hp (cut_rps r1 lo hi))⟩)
  · split at hg
    · rename_i z hz
      cases hg
      exact .inr (.inr ⟨z, hx.str, hz, q _ Z H (Ext.refl s) (.str _)⟩)
    · cases hg
  · cases hg
theorem px_sl {lo hi : Option Expr} {fl fh : Env → R (Option Int)} (he : PX X L W e f) (hl : PXP X L W lo fl) (hh : PXP X L W hi fh) : PX X L W (.Subscript e (.Slice lo hi none p2) pos) (eSl f fl fh) := by
  refine pe_of (pe_slice sl_all (px_O he) hl hh) fun σ H Q => ?_
  rintro ⟨B, Z, ow, env, rel, p⟩
  refine ⟨B, Z, ow, env, rel, p.seq fun o Z1 ow1 env1 H1 he1 rel1 s1 p1 v1 hv1 => ?_⟩
  refine ⟨B, Z1, ow1, env1, rel1, p1.seq fun l Z2 ow2 env2 H2 he2 rel2 s2 p2 => ?_⟩
  refine ⟨B, Z2, ow2, env2, rel2, p2.seq fun u Z3 ow3 env3 H3 he3 rel3 s3 p3 => ?_⟩
  cases h1 : rd env3 o with
  | none => rw [h1] at p3; exact p3.elim
  | some d =>
    rw [h1] at p3
    simp only [Option.bind_some] at p3
    cases hg : gSl d l u with
    | none => rw [hg] at p3; exact p3.elim
    | some o' =>
      rw [hg] at p3
      exact sim_sl rel3.zh (rel3.sr (OpdR.mono (H' := H3) (s2.trans s3) (fO_nf he1) hv1 ow3 H3) h1) hg fun v Z' H' x res => p3 H' Z' ow3 (rel3.ext x) x.zz v (res.opd rel3)
end

/-! ### built-ins of one thing -/
def gOne (gd : D → Option Opd) : List D → Option Opd
  | [d] => gd d
  | _ => none
theorem SRs.one {g : G} {Z H : Hp} {vs : List V} {d : D} (h : SRs g Z H vs [d]) : ∃ v, vs = [v] ∧ SR g Z H v d := by
  cases h with
  | cons h1 h2 => cases h2; exact ⟨_, rfl, h1⟩
theorem SRs.two {g : G} {Z H : Hp} {vs : List V} {d e : D} (h : SRs g Z H vs [d, e]) : ∃ v u, vs = [v, u] ∧ SR g Z H v d ∧ SR g Z H u e := by
  cases h with
  | cons h1 h2 =>
    cases h2 with
    | cons h3 h4 => cases h4; exact ⟨_, _, rfl, h1, h3⟩
def gLen : D → Option Opd
  | .lst l => some (.val (.int l.length))
  | .tup l => some (.val (.int l.length))
  | .scr l => some (.val (.int l.length))
  | .str z => if z.length ≤ sizeLine then some (.val (.int z.length)) else none
  | _ => none
def boolsOf : List D → Option (List Bool)
  | [] => some []
  | .bl b :: ds => (boolsOf ds).map (b :: ·)
  | _ => none
theorem Rps.bools {g : G} {Z : Hp} : ∀ {vs : List V} {ds : List D} {bs : List Bool}, Rps g Z vs ds → boolsOf ds = some bs → vs = bs.map V.bl
  | _, _, _, .nil, e => by simp only [boolsOf, Option.some.injEq] at e; subst e; rfl
  | _, _, _, .cons (d := d) h r, e => by
    cases d with
    | bl b =>
      simp only [boolsOf, Option.map_eq_some_iff] at e
      obtain ⟨bs, e1, rfl⟩ := e
      cases h
      rw [Rps.bools r e1]
      rfl
    | _ => simp [boolsOf] at e
def gAll : D → Option Opd
  | .lst l => (boolsOf l).map fun bs => .val (.bl (bs.all id))
  | _ => none
def gAny : D → Option Opd
  | .lst l => (boolsOf l).map fun bs => .val (.bl (bs.any id))
  | _ => none
def gSum : D → Option Opd
  | .lst l => (intsOf l).map fun ns => .val (.int ns.sum)
  | _ => none
def gTuple : D → Option Opd
  | .lst l => some (.val (.tup l))
  | .tup l => some (.val (.tup l))
  | _ => none
def gList : D → Option Opd
  | .lst l => some (.fresh (.lst l))
  | .tup l => some (.fresh (.lst l))
  | _ => none
section
variable {X : Cx}
theorem sim_len : SimN (gX X) (fun xs H Q => ∃ x n, xs = [x] ∧ LenV X.K x H n ∧ Q (.int n) H) (gOne gLen) := by
  intro Z H xs ds o Q s hx hg q
  unfold gOne at hg
  split at hg
  · obtain ⟨v, rfl, hv⟩ := hx.one
    unfold gLen at hg
    split at hg
    · cases hg
      obtain ⟨a, vs, e1, h1, r1⟩ := hv.lst s
      subst e1
      exact ⟨_, _, rfl, .inl ⟨vs, .of h1, r1.length.symm⟩, q _ Z H (Ext.refl s) (.int _)⟩
    · cases hg
      obtain ⟨a, vs, e1, h1, r1⟩ := hv.tup s
      subst e1
      exact ⟨_, _, rfl, .inr ⟨vs, h1, r1.length.symm⟩, q _ Z H (Ext.refl s) (.int _)⟩
    · cases hg
      obtain ⟨a, vs, e1, h1, r1⟩ := hv.scr s
      subst e1
      exact ⟨_, _, rfl, .inl ⟨vs, h1, r1.length.symm⟩, q _ Z H (Ext.refl s) (.int _)⟩
    · split at hg
      · rename_i z hz
        cases hg
        have := hv.str
        subst this
        exact ⟨_, _, rfl, ⟨hz, rfl⟩, q _ Z H (Ext.refl s) (.int _)⟩
      · cases hg
    · cases hg
  · cases hg
theorem sim_all : SimN (gX X) (rAll X.K) (gOne gAll) := by
  intro Z H xs ds o Q s hx hg q
  unfold gOne at hg
  split at hg
  · obtain ⟨v, rfl, hv⟩ := hx.one
    unfold gAll at hg
    split at hg
    · obtain ⟨bs, e, rfl⟩ := Option.map_eq_some_iff.mp hg
      obtain ⟨a, vs, e1, h1, r1⟩ := hv.lst s
      rw [r1.bools e] at h1
      exact ⟨a, bs, by rw [e1], .of h1, q _ Z H (Ext.refl s) (.bl _)⟩
    · cases hg
  · cases hg
theorem sim_any : SimN (gX X) (rAny X.K) (gOne gAny) := by
  intro Z H xs ds o Q s hx hg q
  unfold gOne at hg
  split at hg
  · obtain ⟨v, rfl, hv⟩ := hx.one
    unfold gAny at hg
    split at hg
    · obtain ⟨bs, e, rfl⟩ := Option.map_eq_some_iff.mp hg
      obtain ⟨a, vs, e1, h1, r1⟩ := hv.lst s
      rw [r1.bools e] at h1
      exact ⟨a, bs, by rw [e1], .of h1, q _ Z H (Ext.refl s) (.bl _)⟩
    · cases hg
  · cases hg
theorem sim_sum : SimN (gX X) (rSum X.K) (gOne gSum) := by
  intro Z H xs ds o Q s hx hg q
  unfold gOne at hg
  split at hg
  · obtain ⟨v, rfl, hv⟩ := hx.one
    unfold gSum at hg
    split at hg
    · obtain ⟨bs, e, rfl⟩ := Option.map_eq_some_iff.mp hg
      obtain ⟨a, vs, e1, h1, r1⟩ := hv.lst s
      rw [r1.ints e] at h1
      exact ⟨a, bs, by rw [e1], .of h1, q _ Z H (Ext.refl s) (.int _)⟩
    · cases hg
  · cases hg
theorem sim_tuple : SimN (gX X) (fun xs H Q => ∃ p ys, xs = [.ref p] ∧ ((SqL X.K H p ys ∧ ∀ l, H l = none → Q (.ref l) (upd H l (.tup ys))) ∨ (SqT X.K H p ys ∧ Q (.ref p) H))) (gOne gTuple) := by
  intro Z H xs ds o Q s hx hg q
  unfold gOne at hg
  split at hg
  · obtain ⟨v, rfl, hv⟩ := hx.one
    unfold gTuple at hg
    split at hg
    · cases hg
      obtain ⟨a, vs, e1, h1, r1⟩ := hv.lst s
      subst e1
      exact ⟨a, vs, rfl, .inl ⟨.of h1, fun p hp => q _ _ _ (Ext.layZ s hp) (newT s hp r1)⟩⟩
    · cases hg
      obtain ⟨a, vs, e1, h1, r1⟩ := hv.tup s
      subst e1
      refine ⟨a, vs, rfl, .inr ⟨h1, q _ Z H (Ext.refl s) ?_⟩⟩
      rcases hv with hv | ⟨_, _, _, hv⟩
      · exact hv
      · cases hv
    · cases hg
  · cases hg
theorem sim_list : SimN (gX X) (fun xs H Q => ∃ p ys, xs = [.ref p] ∧ (SqL X.K H p ys ∨ SqT X.K H p ys) ∧ ∀ l, H l = none → Q (.ref l) (upd H l (.lst ys))) (gOne gList) := by
  intro Z H xs ds o Q s hx hg q
  unfold gOne at hg
  split at hg
  · obtain ⟨v, rfl, hv⟩ := hx.one
    unfold gList at hg
    split at hg
    · cases hg
      obtain ⟨a, vs, e1, h1, r1⟩ := hv.lst s
      subst e1
      exact ⟨a, vs, rfl, .inl (.of h1), fun p hp => q _ _ _ (Ext.lay s hp) (freshL s hp r1)⟩
    · cases hg
      obtain ⟨a, vs, e1, h1, r1⟩ := hv.tup s
      subst e1
      exact ⟨a, vs, rfl, .inr h1, fun p hp => q _ _ _ (Ext.lay s hp) (freshL s hp r1)⟩
    · cases hg
  · cases hg
end

/-! ### sorted, min, max -/
open PySem.W in
def alk (ds : List D) : Bool := ds.all fun a => ds.all fun b => alike (toP a) (toP b)
def isT1 : D → Bool
  | .tup (_ :: _) => true
  | _ => false
def isT0 : D → Bool
  | .tup _ => true
  | .non => true
  | _ => false
open PySem.W in
def sortD (ds : List D) : List D := ds.mergeSort (dataLe false toP)
def okSort (ds : List D) : Bool := pls 8 ds && alk ds && (ds.all isT1 || ds.all fun d => !isT0 d) && decide (ds.length ≤ sizeLine)
def gSorted : D → Option Opd
  | .lst l => if okSort l = true then some (.fresh (.lst (sortD l))) else none
  | _ => none
open PySem.W in
def minL : List D → Option D
  | [] => none
  | d :: ds => some (ds.foldl (fun a y => if dataLt (toP y) (toP a) then y else a) d)
open PySem.W in
def maxL : List D → Option D
  | [] => none
  | d :: ds => some (ds.foldl (fun a y => if dataLt (toP a) (toP y) then y else a) d)
def okMin (ds : List D) : Bool := pls 8 ds && alk ds && ds.all fun d => !VS.isNon d
def gMin : List D → Option Opd
  | [.lst l] => if okMin l = true then (minL l).map .val else none
  | [.int i, .int j] => some (.val (.int (if j < i then j else i)))
  | _ => none
def gMax : List D → Option Opd
  | [.lst l] => if okMin l = true then (maxL l).map .val else none
  | [.int i, .int j] => some (.val (.int (if j > i then j else i)))
  | _ => none
mutual
theorem toP_inj : ∀ (n m : Nat) (d e : D), pl n d = true → pl m e = true → toP d = toP e → d = e
  | _, m, .non, e, _, h2, h => by cases e <;> simp [toP] at h; rfl
  | _, m, .bl _, e, _, h2, h => by cases e <;> simp [toP] at h; rw [h]
  | _, m, .int _, e, _, h2, h => by cases e <;> simp [toP] at h; rw [h]
  | _, m, .str _, e, _, h2, h => by cases e <;> simp [toP] at h; rw [h]
  | n + 1, m, .tup l, e, h1, h2, h => by
    cases e <;> simp [toP] at h
    rename_i l'
    cases m with
    | zero => simp [pl] at h2
    | succ m => rw [toPs_inj n m l l' (by simpa [pl] using h1) (by simpa [pl] using h2) h]
  | n + 1, m, .lst l, e, h1, h2, h => by
    cases e <;> simp [toP] at h
    · rename_i l'
      cases m with
      | zero => simp [pl] at h2
      | succ m => rw [toPs_inj n m l l' (by simpa [pl] using h1) (by simpa [pl] using h2) h]
    · cases m <;> simp [pl] at h2
  | 0, _, .tup _, _, h1, _, _ => by simp [pl] at h1
  | 0, _, .lst _, _, h1, _, _ => by simp [pl] at h1
  | n, _, .scr _, _, h1, _, _ => by cases n <;> simp [pl] at h1
  | n, _, .dct _, _, h1, _, _ => by cases n <;> simp [pl] at h1
  | n, _, .ins _ _, _, h1, _, _ => by cases n <;> simp [pl] at h1
  | n, _, .glob _, _, h1, _, _ => by cases n <;> simp [pl] at h1
  | n, _, .exn _, _, h1, _, _ => by cases n <;> simp [pl] at h1
theorem toPs_inj : ∀ (n m : Nat) (l l' : List D), pls n l = true → pls m l' = true → toPs l = toPs l' → l = l'
  | _, _, [], [], _, _, _ => rfl
  | _, _, [], e :: es, _, _, h => by simp [toPs] at h
  | _, _, d :: ds, [], _, _, h => by simp [toPs] at h
  | n, m, d :: ds, e :: es, h1, h2, h => by
    rw [pls, Bool.and_eq_true] at h1 h2
    simp only [toPs, List.cons.injEq] at h
    rw [toP_inj n m d e h1.1 h2.1 h.1, toPs_inj n m ds es h1.2 h2.2 h.2]
end
section
open PySem.W
theorem alk_iff {ds : List D} (h : alk ds = true) : ∀ a ∈ ds, ∀ b ∈ ds, alike (toP a) (toP b) = true := by
  unfold alk at h
  intro a ha b hb
  exact List.all_eq_true.mp (List.all_eq_true.mp h a ha) b hb
theorem alk_all {ds : List D} (h : alk ds = true) : AllAlike (ds.map toP) := by
  intro d hd d' hd'
  obtain ⟨a, ha, rfl⟩ := List.mem_map.mp hd
  obtain ⟨b, hb, rfl⟩ := List.mem_map.mp hd'
  exact alk_iff h a ha b hb
theorem sortable_of {ds : List D} (h : (ds.all isT1 || ds.all fun d => !isT0 d) = true) : Sortable (ds.map toP) := by
  rcases Bool.or_eq_true_iff.mp h with h | h
  · refine .inl fun d hd => ?_
    obtain ⟨a, ha, rfl⟩ := List.mem_map.mp hd
    have := List.all_eq_true.mp h a ha
    unfold isT1 at this
    split at this
    · exact ⟨_, _, by rw [toP, toPs]⟩
    · cases this
  · refine .inr fun d hd => ?_
    obtain ⟨a, ha, rfl⟩ := List.mem_map.mp hd
    have := List.all_eq_true.mp h a ha
    cases a <;> simp [isT0, toP] at this ⊢
theorem minL_mem {ds : List D} {d : D} (h : minL ds = some d) : d ∈ ds := by
  cases ds with
  | nil => cases h
  | cons x xs =>
    simp only [minL, Option.some.injEq] at h
    subst h
    have : ∀ (l : List D) (a : D), (l.foldl (fun a y => if dataLt (toP y) (toP a) then y else a) a) ∈ a :: l := by
      intro l
      induction l with
      | nil => intro a; simp
      | cons y ys ih =>
        intro a
        rw [List.foldl_cons]
        have := ih (if dataLt (toP y) (toP a) then y else a)
        rcases List.mem_cons.mp this with e | e
        · rw [e]; split <;> simp
        · simp [e]
    exact this xs x
theorem maxL_mem {ds : List D} {d : D} (h : maxL ds = some d) : d ∈ ds := by
  cases ds with
  | nil => cases h
  | cons x xs =>
    simp only [maxL, Option.some.injEq] at h
    subst h
    have : ∀ (l : List D) (a : D), (l.foldl (fun a y => if dataLt (toP a) (toP y) then y else a) a) ∈ a :: l := by
      intro l
      induction l with
      | nil => intro a; simp
      | cons y ys ih =>
        intro a
        rw [List.foldl_cons]
        have := ih (if dataLt (toP a) (toP y) then y else a)
        rcases List.mem_cons.mp this with e | e
        · rw [e]; split <;> simp
        · simp [e]
    exact this xs x
theorem minL_toP (x : D) (xs : List D) : ∀ d, minL (x :: xs) = some d → toP d = minD (toP x) (toPs xs) := by
  intro d h
  simp only [minL, Option.some.injEq] at h
  subst h
  unfold minD
  rw [toPs_map, List.foldl_map]
  have : ∀ (l : List D) (a : D), toP (l.foldl (fun a y => if dataLt (toP y) (toP a) then y else a) a) = l.foldl (fun a y => if dataLt (toP y) a then toP y else a) (toP a) := by
    intro l
    induction l with
    | nil => intro a; rfl
    | cons y ys ih =>
      intro a
      rw [List.foldl_cons, List.foldl_cons, ih]
      split <;> rfl
  exact this xs x
theorem maxL_toP (x : D) (xs : List D) : ∀ d, maxL (x :: xs) = some d → toP d = maxD (toP x) (toPs xs) := by
  intro d h
  simp only [maxL, Option.some.injEq] at h
  subst h
  unfold maxD
  rw [toPs_map, List.foldl_map]
  have : ∀ (l : List D) (a : D), toP (l.foldl (fun a y => if dataLt (toP a) (toP y) then y else a) a) = l.foldl (fun a y => if dataLt a (toP y) then toP y else a) (toP a) := by
    intro l
    induction l with
    | nil => intro a; rfl
    | cons y ys ih =>
      intro a
      rw [List.foldl_cons, List.foldl_cons, ih]
      split <;> rfl
  exact this xs x
/-- a list of data at a, its items for good -/
def rData (g : G) (ok : List D → Bool) (k : Hp → Hp → List D → Addr → List V → VK → Prop) : List V → Hp → VK → Prop := fun xs H Q => ∃ (Z : Hp) (a : Addr) (vs : List V) (ds : List D), xs = [.ref a] ∧ Same Z H ∧ H a = some (.lst vs) ∧ Rps g Z vs ds ∧ ok ds = true ∧ k Z H ds a vs Q
def rSortedA (g : G) : List V → Hp → VK → Prop := rData g okSort fun Z H ds a vs Q => ∀ p ws, Rps g Z ws (sortD ds) → H p = none → Q (.ref p) (upd H p (.lst ws))
def rMinA (g : G) : List V → Hp → VK → Prop := rData g okMin fun Z H ds a vs Q => ∃ d, minL ds = some d ∧ ∀ v, Rp g Z v d → Q v H
def rMaxA (g : G) : List V → Hp → VK → Prop := rData g okMin fun Z H ds a vs Q => ∃ d, maxL ds = some d ∧ ∀ v, Rp g Z v d → Q v H
variable {X : Cx} {pins : List (Addr × Obj)} {σ : L2.St} {H : Hp} {s : Shared}
theorem each_of {Z : Hp} (I : Inv X pins σ H s) (z : Same Z H) {n : Nat} : ∀ {vs : List V} {ds : List D} {us : List Value}, pls n ds = true → Rps (gX X) Z vs ds → Vals vs us → EachIs (fun (u : Value) (d : D) => ∃ v, RelV v u ∧ Rp (gX X) Z v d) us ds ∧ EachIs (fun (u : Value) (d : D) => ∃ as, Reads s.heap u (toP d) as) us ds
  | _, _, _, _, .nil, .nil => ⟨.nil, .nil⟩
  | _, _, _, p, .cons h r, .cons h' r' => by
    rw [pls, Bool.and_eq_true] at p
    obtain ⟨e1, e2⟩ := each_of I z p.2 r r'
    exact ⟨.cons ⟨_, h', h⟩ e1, .cons (Dp.reads I _ _ _ (h.dp z n _ _ p.1) h') e2⟩
theorem each_back {Z : Hp} {g : G} : ∀ {us : List Value} {ds : List D}, EachIs (fun (u : Value) (d : D) => ∃ v, RelV v u ∧ Rp g Z v d) us ds → ∃ vs, Vals vs us ∧ Rps g Z vs ds
  | _, _, .nil => ⟨[], .nil, .nil⟩
  | _, _, .cons ⟨v, h1, h2⟩ r => by
    obtain ⟨vs, r1, r2⟩ := each_back r
    exact ⟨v :: vs, .cons h1 r1, .cons h2 r2⟩
theorem cr_sortedA (hu : X.A.units + 200 < cLine) : CallR X (.builtin "sorted") (rSortedA (gX X)) := by
  intro pins s σ H vs us Q I r h
  obtain ⟨Z, a, ws, ds, rfl, z, ha, rs, ok, q⟩ := h
  simp only [okSort, Bool.and_eq_true, decide_eq_true_eq] at ok
  obtain ⟨⟨⟨p, al⟩, so⟩, hl⟩ := ok
  obtain ⟨its, rv, pl', _⟩ := I.list (.of ha)
  rw [Vals.ref1 r]
  obtain ⟨e1, e2⟩ := each_of I z p rs rv
  refine sorted_data (R := fun u d => ∃ v, RelV v u ∧ Rp (gX X) Z v d) pl'.isList e1 e2 (alk_all al) (sortable_of so) hl (fun b hb => ?_) fun out h1 h2 => ?_
  · have := (pl_lay 8 b (List.all_eq_true.mp (by rw [← pls_all]; exact p) b hb)).2
    omega
  · obtain ⟨vs', r1, r2⟩ := each_back h2
    obtain ⟨ep, he'⟩ := PyProof.Rows.sortedAll_at s.heap its out.toArray
    have hlen : vs'.length ≤ sizeLine := by rw [r1.length, h1]; exact hl
    exact ⟨.ref _, upd H (s.heap.objs.size + 1) (.lst vs'), I.laid (t' := s.toks) (fun _ _ => PyProof.Rows.sortedAll_old) (Nat.le_succ _) ⟨hlen, out, ep, r1, he'⟩, rfl, q _ vs' r2 (I.hok.fresh (Nat.le_succ _))⟩
theorem readsAll_of {Z : Hp} (I : Inv X pins σ H s) (z : Same Z H) {n : Nat} {vs : List V} {ds : List D} {us : List Value} (p : pls n ds = true) (r : Rps (gX X) Z vs ds) (rv : Vals vs us) : ∃ as, ReadsAll s.heap us (toPs ds) as := Dp.readsAll I (toPs ds) vs us (r.dp z n ds vs p) rv
theorem okMin_alike {ds : List D} (ok : okMin ds = true) : AlikeAll (toPs ds) := by
  simp only [okMin, Bool.and_eq_true] at ok
  obtain ⟨⟨p, al⟩, no⟩ := ok
  rw [toPs_map]
  refine ⟨fun x hx y hy => alk_all al x hx y hy, fun x hx => ?_⟩
  obtain ⟨a, ha, rfl⟩ := List.mem_map.mp hx
  have := List.all_eq_true.mp no a ha
  cases a <;> simp [VS.isNon, toP] at this ⊢
/-- the item that was found is the one that is told -/
theorem found_item {Z : Hp} {g : G} {ds : List D} {ws : List V} {its : List Value} {h' : Heap} {i : Nat} {v : Value} {m : PyData} {bs : List Addr} {d : D} (ok : okMin ds = true) (rs : Rps g Z ws ds) (rv : Vals ws its) (hi : its.toArray[i]? = some v)
    (reads : ∀ d, d ∈ ds → ∀ w u, Rp g Z w d → RelV w u → ∃ as, Reads h' u (toP d) as) (hr : Reads h' v m bs) (hm : toP d = m) (hd : d ∈ ds) : ∃ w, RelV w v ∧ Rp g Z w d := by
  have hi' : its[i]? = some v := by simpa using hi
  have hlt : i < ws.length := by
    rw [rv.length]
    exact (List.getElem?_eq_some_iff.mp hi').1
  have hw : ws[i]? = some ws[i] := List.getElem?_eq_getElem hlt
  obtain ⟨u, hu, ru⟩ := rv.get hw
  rw [hi'] at hu
  cases hu
  obtain ⟨d', hd', rd'⟩ := rs.getV hw
  have hmem : d' ∈ ds := List.mem_of_getElem? hd'
  obtain ⟨as, r2⟩ := reads d' hmem _ _ rd' ru
  simp only [okMin, Bool.and_eq_true] at ok
  obtain ⟨⟨p, al⟩, no⟩ := ok
  have e : toP d' = toP d := alike_unique _ _ v as bs (alk_iff al d' hmem d hd) r2 (by rw [hm]; exact hr)
  rw [pls_all] at p
  have : d' = d := toP_inj 8 8 d' d (List.all_eq_true.mp p d' hmem) (List.all_eq_true.mp p d hd) e
  subst this
  exact ⟨_, ru, rd'⟩
theorem cr_minA (hc : X.calm = true) (hu : X.A.units + 200 < cLine) : CallR X (.builtin "min") (rMinA (gX X)) := by
  intro pins s σ H vs us Q I r h
  obtain ⟨Z, a, ws, ds, rfl, z, ha, rs, ok, d, hd, q⟩ := h
  obtain ⟨its, rv, pl', _⟩ := I.list (.of ha)
  rw [Vals.ref1 r]
  have ok' := ok
  simp only [okMin, Bool.and_eq_true] at ok'
  obtain ⟨as, ra⟩ := readsAll_of I z ok'.1.1 rs rv
  cases ds with
  | nil => cases hd
  | cons x xs =>
    have dep := (pls_lay 8 (x :: xs) ok'.1.1).2
    refine min_list_data (x := toP x) (xs := toPs xs) (I.ok.hd hc) pl'.isList (by simpa [toPs] using ra) (okMin_alike ok) (by show _ + PyData.depthAll (toPs (x :: xs)) < _; omega) fun i v h' tk bs hi hr hk => ?_
    obtain ⟨w, rw', rp⟩ := found_item ok rs rv hi (fun d hd w u h1 h2 => by
      rw [pls_all] at ok'
      obtain ⟨as, r⟩ := Dp.reads I _ _ _ (h1.dp z 8 _ _ (List.all_eq_true.mp ok'.1.1 d hd)) h2
      exact ⟨as, PyProof.Rows.Reads.keeps hk r⟩) hr (minL_toP x xs d hd) (minL_mem hd)
    exact ⟨w, H, I.kept hk, rw', q w rp⟩
theorem cr_maxA (hc : X.calm = true) (hu : X.A.units + 200 < cLine) : CallR X (.builtin "max") (rMaxA (gX X)) := by
  intro pins s σ H vs us Q I r h
  obtain ⟨Z, a, ws, ds, rfl, z, ha, rs, ok, d, hd, q⟩ := h
  obtain ⟨its, rv, pl', _⟩ := I.list (.of ha)
  rw [Vals.ref1 r]
  have ok' := ok
  simp only [okMin, Bool.and_eq_true] at ok'
  obtain ⟨as, ra⟩ := readsAll_of I z ok'.1.1 rs rv
  cases ds with
  | nil => cases hd
  | cons x xs =>
    have dep := (pls_lay 8 (x :: xs) ok'.1.1).2
    refine max_list_data (x := toP x) (xs := toPs xs) (I.ok.hd hc) pl'.isList (by simpa [toPs] using ra) (okMin_alike ok) (by show _ + PyData.depthAll (toPs (x :: xs)) < _; omega) fun i v h' tk bs hi hr hk => ?_
    obtain ⟨w, rw', rp⟩ := found_item ok rs rv hi (fun d hd w u h1 h2 => by
      rw [pls_all] at ok'
      obtain ⟨as, r⟩ := Dp.reads I _ _ _ (h1.dp z 8 _ _ (List.all_eq_true.mp ok'.1.1 d hd)) h2
      exact ⟨as, PyProof.Rows.Reads.keeps hk r⟩) hr (maxL_toP x xs d hd) (maxL_mem hd)
    exact ⟨w, H, I.kept hk, rw', q w rp⟩
theorem sim_sorted : SimN (gX X) (rSortedA (gX X)) (gOne gSorted) := by
  intro Z H xs ds o Q s hx hg q
  unfold gOne at hg
  split at hg
  · obtain ⟨v, rfl, hv⟩ := hx.one
    unfold gSorted at hg
    split at hg
    · split at hg
      · rename_i l ok
        cases hg
        obtain ⟨a, vs, e1, h1, r1⟩ := hv.lst s
        subst e1
        exact ⟨Z, a, vs, l, rfl, s, h1, r1, ok, fun p ws rw' hp => q _ Z _ (Ext.lay s hp) (freshL s hp rw')⟩
      · cases hg
    · cases hg
  · cases hg
def rMin2A (g : G) : List V → Hp → VK → Prop := fun xs H Q => rMinA g xs H Q ∨ ∃ i j, xs = [.int i, .int j] ∧ Q (.int (if j < i then j else i)) H
def rMax2A (g : G) : List V → Hp → VK → Prop := fun xs H Q => rMaxA g xs H Q ∨ ∃ i j, xs = [.int i, .int j] ∧ Q (.int (if j > i then j else i)) H
theorem cr_min2 (hc : X.calm = true) (hu : X.A.units + 200 < cLine) : CallR X (.builtin "min") (rMin2A (gX X)) := (cr_minA hc hu).or (call_min2 hc)
theorem cr_max2 (hc : X.calm = true) (hu : X.A.units + 200 < cLine) : CallR X (.builtin "max") (rMax2A (gX X)) := (cr_maxA hc hu).or (call_max2 hc)
theorem sim_min : SimN (gX X) (rMin2A (gX X)) gMin := by
  intro Z H xs ds o Q s hx hg q
  unfold gMin at hg
  split at hg
  · obtain ⟨v, rfl, hv⟩ := hx.one
    split at hg
    · rename_i l ok
      obtain ⟨d, hd, rfl⟩ := Option.map_eq_some_iff.mp hg
      obtain ⟨a, vs, e1, h1, r1⟩ := hv.lst s
      subst e1
      exact .inl ⟨Z, a, vs, l, rfl, s, h1, r1, ok, d, hd, fun v hv => q _ Z H (Ext.refl s) hv⟩
    · cases hg
  · rename_i i j
    cases hg
    obtain ⟨v, u, rfl, hv, hu⟩ := hx.two
    rw [hv.int, hu.int]
    exact .inr ⟨i, j, rfl, q _ Z H (Ext.refl s) (.int _)⟩
  · cases hg
theorem sim_max : SimN (gX X) (rMax2A (gX X)) gMax := by
  intro Z H xs ds o Q s hx hg q
  unfold gMax at hg
  split at hg
  · obtain ⟨v, rfl, hv⟩ := hx.one
    split at hg
    · rename_i l ok
      obtain ⟨d, hd, rfl⟩ := Option.map_eq_some_iff.mp hg
      obtain ⟨a, vs, e1, h1, r1⟩ := hv.lst s
      subst e1
      exact .inl ⟨Z, a, vs, l, rfl, s, h1, r1, ok, d, hd, fun v hv => q _ Z H (Ext.refl s) hv⟩
    · cases hg
  · rename_i i j
    cases hg
    obtain ⟨v, u, rfl, hv, hu⟩ := hx.two
    rw [hv.int, hu.int]
    exact .inr ⟨i, j, rfl, q _ Z H (Ext.refl s) (.int _)⟩
  · cases hg
end
end VS

/-! VSI: isinstance, chains of comparisons, zip, what changes a list, what is raised -/
namespace VS
open PySem PySem.Spec PyProof.Rows L2

/-! ### isinstance -/
def typeD : D → Option String
  | .non => some "NoneType"
  | .bl _ => some "bool"
  | .int _ => some "int"
  | .str _ => some "str"
  | .tup _ => some "tuple"
  | .lst _ => some "list"
  | .scr _ => some "list"
  | _ => none
def gIsi (T : String) : D → Option Opd := fun d => (typeD d).bind fun t => (kitB t T).map fun b => .val (.bl b)
theorem SR.tyX {g : G} {Z H : Hp} (s : Same Z H) {v : V} {d : D} {t : String} (h : SR g Z H v d) (e : typeD d = some t) : TyX g.K H v (.type t) := by
  unfold typeD at e
  split at e
  · cases e; rw [h.non]; exact .base .non
  · cases e; rw [h.bl]; exact .base (.bl _)
  · cases e; rw [h.int]; exact .base (.int _)
  · cases e; rw [h.str]; exact .base (.str _)
  · cases e
    obtain ⟨a, vs, rfl, h1, _⟩ := h.tup s
    rcases h1 with (h1 | ⟨o, h1⟩) | ⟨o, its, n, hk, hc, _⟩
    · exact .base (.tup h1)
    · exact .fTuple h1
    · exact .kTuple hk hc
  · cases e
    obtain ⟨a, vs, rfl, h1, _⟩ := h.lst s
    exact .base (.lst h1)
  · cases e
    obtain ⟨a, vs, rfl, h1, _⟩ := h.scr s
    rcases h1 with (h1 | ⟨o, h1⟩) | ⟨o, its, n, hk, hc, _⟩
    · exact .base (.lst h1)
    · exact .base (.frz h1)
    · exact .kList hk hc
  · cases e
section
variable {X : Cx} {L : List Nat} {W : WX} {e : Expr} {f : EF} {p p2 pos : Pos}
theorem px_isi {x : Str} {Ts : String} (hg : Gl X "isinstance") (hm : X.mg "isinstance" = none) (hT : Gl X x) (hTm : X.mg x = none) (hTv : bootBuiltins x = some (.type Ts)) (he : PX X L W e f) (hn : x ≠ "__name__" := by decide) (hd : (x == ("__debug__" : Str)) = false := by decide)
    (h1 : starEach [e, .Name x p2] X.env = (false, eval e X.env) :: starEach [.Name x p2] X.env := by rfl) (h2 : starEach [.Name x p2] X.env = (false, eval (.Name x p2) X.env) :: starEach [] X.env := by rfl) (hpl : (backTo pos (starEach [.Name x p2] X.env)).any (·.1) = false := by rfl) :
    PX X L W (.Call (.Name "isinstance" p) [e, .Name x p2] [] pos) (eOp1 (gIsi Ts) f) := by
  refine pe_of (pe_callB (id := "isinstance") call_isi hg hm (by decide +kernel) (pa_cons (px_O he) (pa_cons (pe_bltn (v := .ty Ts) hT hTm hTv rfl hn hd) pa_nil h2) h1) (by decide) (by decide) h1 hpl) fun σ H Q => ?_
  rintro ⟨B, Z, ow, env, rel, p⟩
  refine ⟨B, Z, ow, env, rel, p.seq fun o Z1 ow1 env1 H1 he1 rel1 s1 p1 v1 hv1 => ?_⟩
  cases h1 : rd env1 o with
  | none => rw [h1] at p1; exact p1.elim
  | some d =>
    rw [h1] at p1
    simp only [Option.bind_some, gIsi] at p1
    cases ht : typeD d with
    | none => rw [ht] at p1; exact p1.elim
    | some t =>
      rw [ht] at p1
      simp only [Option.bind_some] at p1
      cases hk : kitB t Ts with
      | none => rw [hk] at p1; exact p1.elim
      | some b =>
        rw [hk] at p1
        exact ⟨v1, .ty Ts, .type t, .type Ts, b, rfl, .ty Ts, (rel1.sr hv1 h1).tyX rel1.zh ht, kit_ty hk, p1 H1 Z1 ow1 rel1 (Same.refl _) (.bl b) (.bl b)⟩
end

/-! ### a < b < c of whole numbers -/
def eChain (p p' : Int → Int → Bool) (f1 f2 f3 : EF) : EF := fun env => (fO f1 env).bind fun o1 e1 => (fO f2 e1).bind fun o2 e2 => match rd e2 o1, rd e2 o2 with
  | some (.int i), some (.int j) => if p i j then (fO f3 e2).bind (fun o3 e3 => match rd e3 o3 with
      | some (.int k) => .ok (.val (.bl (p' j k))) e3
      | _ => .stuck) else .ok (.val (.bl false)) e2
  | _, _ => .stuck
section
variable {X : Cx} {L : List Nat} {W : WX} {a b c : Expr} {fa fb fc : EF} {pos : Pos} {p p' : Int → Int → Bool} {op op' : CmpOp}
theorem chain_of {g : G} {σ : L2.St} {H : Hp} {Q : VK} (h : tX g L W (eChain p p' fa fb fc) σ H Q) : tChain (rI0 fun i j => .bl (p i j)) (rI0 fun i j => .bl (p' i j)) (tX g L W (fO fa)) (tX g L W (fO fb)) (tX g L W (fO fc)) σ H Q := by
  obtain ⟨B, Z, ow, env, rel, q⟩ := h
  refine ⟨B, Z, ow, env, rel, q.seq fun o1 Z1 ow1 env1 H1 he1 rel1 s1 q1 v1 hv1 => ?_⟩
  refine ⟨B, Z1, ow1, env1, rel1, q1.seq fun o2 Z2 ow2 env2 H2 he2 rel2 s2 q2 v2 hv2 => ?_⟩
  cases h1 : rd env2 o1 with
  | none => rw [h1] at q2; exact q2.elim
  | some d1 =>
    cases h2 : rd env2 o2 with
    | none => rw [h1, h2] at q2; cases d1 <;> exact q2.elim
    | some d2 =>
      rw [h1, h2] at q2
      cases d1 with
      | int i =>
        cases d2 with
        | int j =>
          have e1 := (rel2.sr (OpdR.mono (H' := H2) s2 (fO_nf he1) hv1 ow2 H2) h1).int
          have e2 := (rel2.sr hv2 h2).int
          refine ⟨i, j, e1, e2, p i j, rfl, ?_⟩
          simp only at q2
          by_cases hp : p i j = true
          · rw [if_pos hp] at q2 ⊢
            refine ⟨B, Z2, ow2, env2, rel2, q2.seq fun o3 Z3 ow3 env3 H3 he3 rel3 s3 q3 v3 hv3 => ?_⟩
            cases h3 : rd env3 o3 with
            | none => rw [h3] at q3; exact q3.elim
            | some d3 =>
              rw [h3] at q3
              cases d3 with
              | int k => exact ⟨j, k, e2, (rel3.sr hv3 h3).int, q3 H3 Z3 ow3 rel3 (Same.refl _) (.bl _) (.bl _)⟩
              | _ => exact q3.elim
          · rw [if_neg hp] at q2 ⊢
            exact q2 H2 Z2 ow2 rel2 (Same.refl _) (.bl _) (.bl _)
        | _ => exact q2.elim
      | _ => cases d2 <;> exact q2.elim
theorem px_chain (ho : OpR X (compareOp op) (rI0 fun i j => .bl (p i j))) (ho' : OpR X (compareOp op') (rI0 fun i j => .bl (p' i j))) (ha : PX X L W a fa) (hb : PX X L W b fb) (hc : PX X L W c fc) (hm : lastMarks [op, op'] [b, c] = false := by with_unfolding_all rfl) :
    PX X L W (.Compare a [op, op'] [b, c] pos) (eChain p p' fa fb fc) :=
  pe_of (pe_chain ho ho' (px_O ha) (px_O hb) (px_O hc) hm) fun σ H Q h => chain_of h
theorem pxt_chain (ho : OpR X (compareOp op) (rI0 fun i j => .bl (p i j))) (ho' : OpR X (compareOp op') (rI0 fun i j => .bl (p' i j))) (ha : PX X L W a fa) (hb : PX X L W b fb) (hc : PX X L W c fc) (hm : lastMarks [op, op'] [b, c] = false := by with_unfolding_all rfl) :
    PXT X L W (.Compare a [op, op'] [b, c] pos) (tst (eChain p p' fa fb fc)) :=
  pt_of (pt_chain ho ho' (px_O ha) (px_O hb) (px_O hc) hm) fun σ H Q q => tst_of (fun _ z => chain_of z) q
end

/-! ### zip of two lists, of two tuples -/
def twoSeqs : List Opd → Option (List D × List D)
  | [.val (.lst a), .val (.lst b)] => some (a, b)
  | [.val (.tup a), .val (.tup b)] => some (a, b)
  | _ => none
def zipD (a b : List D) : List D := (a.zip b).map fun p => .tup [p.1, p.2]
def iZip (a : AF) : IF := fun env => (a env).bind fun os e => match twoSeqs os with
  | some (a, b) => .ok (zipD a b) e
  | none => .stuck
section
variable {g : G} {Z : Hp} {a b : Addr} {vs ws : List V} {ds es : List D}
theorem zipD_get {i : Nat} {x y : D} (h1 : ds[i]? = some x) (h2 : es[i]? = some y) : (zipD ds es)[i]? = some (.tup [x, y]) := by
  unfold zipD
  rw [List.getElem?_map, (List.getElem?_zip_eq_some (z := (x, y))).mpr ⟨h1, h2⟩]
  rfl
theorem yd_pair {i : Nat} {H H' : Hp} {x : V} (r1 : Rps g Z vs ds) (r2 : Rps g Z ws es) (y : YPair (fun i => vs[i]?) (fun i => ws[i]?) i H x H') : YD g Z (zipD ds es) i H x H' := by
  obtain ⟨T, x1, y1, e1, n, e2, h1, h2⟩ := y
  obtain ⟨d1, f1, g1⟩ := r1.getV h1
  obtain ⟨d2, f2, g2⟩ := r2.getV h2
  exact .inr ⟨T, [x1, y1], [d1, d2], e1, n, e2, zipD_get f1 f2, .cons g1 (.one g2)⟩
theorem wk_zipL (h1 : Z a = some (.lst vs)) (r1 : Rps g Z vs ds) (h2 : Z b = some (.lst ws)) (r2 : Rps g Z ws es) : Wk g Z (Itz g.K a b) (zipD ds es) := by
  unfold Wk
  have e : (zipD ds es).length = min vs.length ws.length := by simp [zipD, r1.length, r2.length]
  rw [e]
  exact (walk_zip rfl).mono (fun H s => ⟨.of (s _ _ h1), .of (s _ _ h2)⟩) fun i H x H' hi s y => yd_pair r1 r2 y
theorem walk_zipT {K : PySem.W.Frag} {xs ys : List V} : Walk (RZ.ItzT K a b) (min xs.length ys.length) (fun H => SqT K H a xs ∧ SqT K H b ys) (YPair (fun i => xs[i]?) (fun i => ys[i]?)) := by
  refine ⟨fun i _ hi q => ?_, fun _ q => ⟨xs, ys, q.1, q.2, by omega⟩, fun i H v H' _ q y => ?_⟩
  · have h1 : i < xs.length := by omega
    have h2 : i < ys.length := by omega
    exact ⟨xs, ys, xs[i], ys[i], q.1, q.2, by simp [h1], by simp [h2]⟩
  · obtain ⟨T, x, z, h1, h2, h3, h4, h5⟩ := y
    exact ⟨T, x, z, h1, h2, h3, h4 xs q.1, h5 ys q.2⟩
theorem wk_zipT (h1 : SqT g.K Z a vs) (r1 : Rps g Z vs ds) (h2 : SqT g.K Z b ws) (r2 : Rps g Z ws es) : Wk g Z (RZ.ItzT g.K a b) (zipD ds es) := by
  unfold Wk
  have e : (zipD ds es).length = min vs.length ws.length := by simp [zipD, r1.length, r2.length]
  rw [e]
  exact walk_zipT.mono (fun H s => ⟨SqT_mono s h1, SqT_mono s h2⟩) fun i H x H' hi s y => yd_pair r1 r2 y
end
section
variable {X : Cx} {L : List Nat} {W : WX} {e e2 : Expr} {as : AF} {p pos tpos : Pos} {elts : List Expr} {kk : Nat}
theorem pxi_zip (hg : Gl X "zip") (hm : X.mg "zip" = none) (ha : PXs X L W [e, e2] as)
    (hs : starEach [e, e2] X.env = (false, eval e X.env) :: starEach [e2] X.env := by rfl) (hpl : (backTo pos (starEach [e2] X.env)).any (·.1) = false := by rfl) : PXI X L W (.Tuple elts kk tpos) (.Call (.Name "zip" p) [e, e2] [] pos) (iZip as) := by
  refine pi_of (RZ.pi_zipA hg hm ha hs hpl) fun σ H Rr => ?_
  rintro ⟨B, Z, ow, env, rel, p⟩
  refine ⟨B, Z, ow, env, rel, p.seq fun os Z1 ow1 env1 H1 he1 rel1 s1 p1 vs hvs => ?_⟩
  unfold twoSeqs at p1
  split at p1
  · rename_i a b h1
    split at h1
    · cases h1
      cases hvs with
      | cons q1 _ r =>
        cases r with
        | cons q2 _ r =>
          cases r
          have q1 : Rp (gX X) Z1 _ (.lst a) := q1
          have q2 : Rp (gX X) Z1 _ (.lst b) := q2
          cases q1 with
          | lst h1 r1 =>
            cases q2 with
            | lst h2 r2 => exact ⟨_, _, _, _, rfl, .inl ⟨.of (rel1.zh _ _ h1), .of (rel1.zh _ _ h2), p1 H1 Z1 ow1 rel1 (Same.refl _) _ (wk_zipL h1 r1 h2 r2)⟩⟩
    · cases h1
      cases hvs with
      | cons q1 _ r =>
        cases r with
        | cons q2 _ r =>
          cases r
          have q1 : Rp (gX X) Z1 _ (.tup a) := q1
          have q2 : Rp (gX X) Z1 _ (.tup b) := q2
          cases q1 with
          | tup h1 r1 =>
            cases q2 with
            | tup h2 r2 => exact ⟨_, _, _, _, rfl, .inr ⟨SqT_mono rel1.zh h1, SqT_mono rel1.zh h2, p1 H1 Z1 ow1 rel1 (Same.refl _) _ (wk_zipT h1 r1 h2 r2)⟩⟩
    · cases h1
  · exact p1.elim
end

/-! ### what changes a list -/
/-- x.m(e), x a slot's own list: what it gives, what the list becomes -/
def eMut1 (L : List Nat) (gm : List D → D → Option (D × List D)) (i : Nat) (f : EF) : EF := fun env => match env[i]? with
  | some (some (.own (.lst _))) => (fV L f env).bind fun o e => (match o, e[i]? with
    | .val d, some (some (.own (.lst ds))) => (match gm ds d with
      | some (r, ds') => .ok (.val r) (e.set i (some (.own (.lst ds'))))
      | none => .stuck)
    | _, _ => .stuck)
  | _ => .stuck
def eMut0 (gm : List D → Option (D × List D)) (i : Nat) : EF := fun env => match env[i]? with
  | some (some (.own (.lst ds))) => (match gm ds with
      | some (r, ds') => .ok (.val r) (env.set i (some (.own (.lst ds'))))
      | none => .stuck)
  | _ => .stuck
def SimM1 (g : G) (r : V → List V → Hp → VK → Prop) (gm : List D → D → Option (D × List D)) : Prop := ∀ (Z H : Hp) (a : Addr) (vs : List V) (ds ds' : List D) (x : V) (d rd : D) (Q : VK), Same Z H → H a = some (.lst vs) → Rps g Z vs ds → Rp g Z x d → gm ds d = some (rd, ds') →
  (∀ v vs', Rp g Z v rd → Rps g Z vs' ds' → Q v (upd H a (.lst vs'))) → r (.ref a) [x] H Q
def SimM0 (g : G) (r : V → List V → Hp → VK → Prop) (gm : List D → Option (D × List D)) : Prop := ∀ (Z H : Hp) (a : Addr) (vs : List V) (ds ds' : List D) (rd : D) (Q : VK), Same Z H → H a = some (.lst vs) → Rps g Z vs ds → gm ds = some (rd, ds') →
  (∀ v vs', Rp g Z v rd → Rps g Z vs' ds' → Q v (upd H a (.lst vs'))) → r (.ref a) [] H Q
def mAppend (ds : List D) (d : D) : Option (D × List D) := if ds.length < sizeLine then some (.non, ds ++ [d]) else none
def mExtend (ds : List D) (d : D) : Option (D × List D) := match d with
  | .lst l => if ds.length + l.length ≤ sizeLine then some (.non, ds ++ l) else none
  | _ => none
def mPopAt (ds : List D) (d : D) : Option (D × List D) := match d with
  | .int i => if -(2 ^ 63) ≤ i ∧ i < 2 ^ 63 then (match seqIndex? i ds.length with
      | some k => (match ds[k]? with
        | some y => some (y, ds.eraseIdx k)
        | none => none)
      | none => none) else none
  | _ => none
def mPop (ds : List D) : Option (D × List D) := match ds[ds.length - 1]? with
  | some y => some (y, ds.dropLast)
  | none => none
def mReverse (ds : List D) : Option (D × List D) := some (.non, ds.reverse)
section
variable {g : G}
theorem sim_append : SimM1 g rAppend mAppend := by
  intro Z H a vs ds ds' x d r Q s ha rs hx hg q
  unfold mAppend at hg
  split at hg
  · rename_i hl
    cases hg
    exact ⟨a, vs, x, rfl, rfl, ha, by rw [rs.length]; exact hl, q _ _ .non (rs.append (.one hx))⟩
  · cases hg
theorem sim_extend : SimM1 g rExtend mExtend := by
  intro Z H a vs ds ds' x d r Q s ha rs hx hg q
  unfold mExtend at hg
  split at hg
  · split at hg
    · rename_i l hl
      cases hg
      cases hx with
      | @lst b ws _ hb rb => exact ⟨a, b, vs, ws, rfl, rfl, ha, s _ _ hb, by rw [rs.length, rb.length]; exact hl, q _ _ .non (rs.append rb)⟩
    · cases hg
  · cases hg
theorem sim_popAt : SimM1 g rPopAt mPopAt := by
  intro Z H a vs ds ds' x d r Q s ha rs hx hg q
  unfold mPopAt at hg
  split at hg
  · split at hg
    · rename_i i hi
      split at hg
      · rename_i k hk
        split at hg
        · rename_i y hy
          cases hg
          cases hx
          obtain ⟨v, e1, e2⟩ := rs.get hy
          exact ⟨a, vs, i, k, v, rfl, rfl, ha, hi.1, hi.2, by rw [rs.length]; exact hk, e1, q _ _ e2 (rs.eraseIdx k)⟩
        · cases hg
      · cases hg
    · cases hg
  · cases hg
theorem sim_pop : SimM0 g rPop mPop := by
  intro Z H a vs ds ds' r Q s ha rs hg q
  unfold mPop at hg
  split at hg
  · rename_i y hy
    cases hg
    obtain ⟨v, e1, e2⟩ := rs.get hy
    exact ⟨a, vs, v, rfl, rfl, ha, by rw [rs.length]; exact e1, q _ _ e2 rs.dropLast⟩
  · cases hg
theorem sim_reverse : SimM0 g rReverse mReverse := by
  intro Z H a vs ds ds' r Q s ha rs hg q
  cases hg
  exact ⟨a, vs, rfl, rfl, ha, q _ _ .non rs.reverse⟩
end
/-- the list that slot i owns -/
theorem RelZ.ownL {g : G} {L : List Nat} {B : FB} {Z H : Hp} {ow : Ow} {env : Env} {σ : L2.St} (r : RelZ g L B Z ow env σ H) {i : Nat} {ds : List D} (e : env[i]? = some (some (.own (.lst ds)))) :
    ∃ a vs, σ[i]? = some (some (.ref a)) ∧ H a = some (.lst vs) ∧ Rps g Z vs ds ∧ ∀ vs' ds', Rps g Z vs' ds' → RelZ g L B Z ow (env.set i (some (.own (.lst ds')))) σ (upd H a (.lst vs')) := by
  obtain ⟨a, bs, e1, e2, e3⟩ := r.slots i _ e
  cases e3 with
  | @lst vs _ h rs => exact ⟨a, vs, e1, h, rs, fun vs' ds' r' => r.write (List.getElem?_eq_some_iff.mp e).1 e1 e2.1 e2 (.lst upd_same r')⟩
section
variable {X : Cx} {L : List Nat} {W : WX} {o e : Expr} {f : EF} {apos cpos : Pos} {name : Str} {id : String} {r : V → List V → Hp → VK → Prop}
theorem px_mut1 {gm : List D → D → Option (D × List D)} {i : Nat} (slot : PySem.Slot "list" name id) (hty : typeOf (.builtin id) = pure (.type "method_descriptor")) (hm : MtR X id r) (hs : SimM1 (gX X) r gm) (ho : PE X o (tVar i)) (he : PX X L W e f)
    (hbase : attributeBase o name X.env (eval o X.env) = eval o X.env := by rfl)
    (hfew : ((backTo cpos (starEach [e] X.env)).all (fun x => !x.1) && (backToKw cpos (keywordEach [] X.env)).all (fun x => x.1.isSome)
      && decide ([e].length + ([] : List Keyword).length + (if ([] : List Keyword).isEmpty then 0 else 1) < 30)) = true := by rfl)
    (hline : (apos.endLine == cpos.line) = true := by rfl) (h1 : starEach [e] X.env = (false, eval e X.env) :: starEach [] X.env := by rfl) (hplain : (backTo cpos (starEach [] X.env)).any (·.1) = false := by rfl) :
    PX X L W (.Call (.Attribute o name apos) [e] [] cpos) (eMut1 L gm i f) := by
  refine pe_of (pe_bm PySem.F.plainAttrs_list slot hty hm ho (pa_cons (px_V he) pa_nil h1) hbase hfew hline h1 hplain) fun σ H Q => ?_
  rintro ⟨B, Z, ow, env, rel, p⟩
  unfold eMut1 at p
  split at p
  · rename_i ds0 q0
    obtain ⟨a, vs, e1, h0, _⟩ := rel.ownL q0
    refine ⟨.ref a, e1, .inl ⟨rfl, vs, .of h0⟩, B, Z, ow, env, rel, p.seq fun o Z1 ow1 env1 H1 he1 rel1 s1 p1 v1 hv1 => ?_⟩
    split at p1
    · rename_i d ds q1
      obtain ⟨a', vs', e1', h1, rs, wr⟩ := rel1.ownL q1
      rw [e1] at e1'
      cases e1'
      split at p1
      · rename_i r' ds' hg
        exact hs Z1 H1 a vs' ds ds' v1 d r' _ rel1.zh h1 rs hv1 hg fun v ws rv rw' => p1 _ Z1 ow1 (wr ws ds' rw') (Same.refl _) v rv
      · exact p1.elim
    · exact p1.elim
  · exact p.elim
theorem px_mut0 {gm : List D → Option (D × List D)} {i : Nat} (slot : PySem.Slot "list" name id) (hty : typeOf (.builtin id) = pure (.type "method_descriptor")) (hm : MtR X id r) (hs : SimM0 (gX X) r gm) (ho : PE X o (tVar i))
    (hbase : attributeBase o name X.env (eval o X.env) = eval o X.env := by rfl) (hline : (apos.endLine == cpos.line) = true := by rfl) :
    PX X L W (.Call (.Attribute o name apos) [] [] cpos) (eMut0 gm i) := by
  refine pe_of (pe_bm0 PySem.F.plainAttrs_list slot hty hm ho hbase hline) fun σ H Q => ?_
  rintro ⟨B, Z, ow, env, rel, p⟩
  unfold eMut0 at p
  split at p
  · rename_i ds q0
    obtain ⟨a, vs, e1, h0, rs, wr⟩ := rel.ownL q0
    refine ⟨.ref a, e1, .inl ⟨rfl, vs, .of h0⟩, ?_⟩
    split at p
    · rename_i r' ds' hg
      exact hs Z H a vs ds ds' r' _ rel.zh h0 rs hg fun v ws rv rw' => p _ Z ow (wr ws ds' rw') (Same.refl _) v rv
    · exact p.elim
  · exact p.elim
theorem px_append {i : Nat} (ho : PE X o (tVar i)) (he : PX X L W e f) (hbase : attributeBase o "append" X.env (eval o X.env) = eval o X.env := by rfl)
    (hfew : ((backTo cpos (starEach [e] X.env)).all (fun x => !x.1) && (backToKw cpos (keywordEach [] X.env)).all (fun x => x.1.isSome)
      && decide ([e].length + ([] : List Keyword).length + (if ([] : List Keyword).isEmpty then 0 else 1) < 30)) = true := by rfl)
    (hline : (apos.endLine == cpos.line) = true := by rfl) (h1 : starEach [e] X.env = (false, eval e X.env) :: starEach [] X.env := by rfl) (hplain : (backTo cpos (starEach [] X.env)).any (·.1) = false := by rfl) :
    PX X L W (.Call (.Attribute o "append" apos) [e] [] cpos) (eMut1 L mAppend i f) := px_mut1 PySem.F.slot_list_append PySem.F.type_list_append mt_append sim_append ho he hbase hfew hline h1 hplain
theorem px_extend {i : Nat} (ho : PE X o (tVar i)) (he : PX X L W e f) (hbase : attributeBase o "extend" X.env (eval o X.env) = eval o X.env := by rfl)
    (hfew : ((backTo cpos (starEach [e] X.env)).all (fun x => !x.1) && (backToKw cpos (keywordEach [] X.env)).all (fun x => x.1.isSome)
      && decide ([e].length + ([] : List Keyword).length + (if ([] : List Keyword).isEmpty then 0 else 1) < 30)) = true := by rfl)
    (hline : (apos.endLine == cpos.line) = true := by rfl) (h1 : starEach [e] X.env = (false, eval e X.env) :: starEach [] X.env := by rfl) (hplain : (backTo cpos (starEach [] X.env)).any (·.1) = false := by rfl) :
    PX X L W (.Call (.Attribute o "extend" apos) [e] [] cpos) (eMut1 L mExtend i f) := px_mut1 PySem.F.slot_list_extend PySem.F.type_list_extend mt_extend sim_extend ho he hbase hfew hline h1 hplain
theorem px_popAt {i : Nat} (ho : PE X o (tVar i)) (he : PX X L W e f) (hbase : attributeBase o "pop" X.env (eval o X.env) = eval o X.env := by rfl)
    (hfew : ((backTo cpos (starEach [e] X.env)).all (fun x => !x.1) && (backToKw cpos (keywordEach [] X.env)).all (fun x => x.1.isSome)
      && decide ([e].length + ([] : List Keyword).length + (if ([] : List Keyword).isEmpty then 0 else 1) < 30)) = true := by rfl)
    (hline : (apos.endLine == cpos.line) = true := by rfl) (h1 : starEach [e] X.env = (false, eval e X.env) :: starEach [] X.env := by rfl) (hplain : (backTo cpos (starEach [] X.env)).any (·.1) = false := by rfl) :
    PX X L W (.Call (.Attribute o "pop" apos) [e] [] cpos) (eMut1 L mPopAt i f) := px_mut1 PySem.F.slot_list_pop PySem.F.type_list_pop mt_popAt sim_popAt ho he hbase hfew hline h1 hplain
theorem px_pop {i : Nat} (ho : PE X o (tVar i)) (hbase : attributeBase o "pop" X.env (eval o X.env) = eval o X.env := by rfl) (hline : (apos.endLine == cpos.line) = true := by rfl) :
    PX X L W (.Call (.Attribute o "pop" apos) [] [] cpos) (eMut0 mPop i) := px_mut0 PySem.F.slot_list_pop PySem.F.type_list_pop mt_pop sim_pop ho hbase hline
theorem px_reverse {i : Nat} (ho : PE X o (tVar i)) (hbase : attributeBase o "reverse" X.env (eval o X.env) = eval o X.env := by rfl) (hline : (apos.endLine == cpos.line) = true := by rfl) :
    PX X L W (.Call (.Attribute o "reverse" apos) [] [] cpos) (eMut0 mReverse i) := px_mut0 PySem.F.slot_list_reverse PySem.F.type_list_reverse mt_reverse sim_reverse ho hbase hline
end

/-! ### what is raised -/
def sRaise (c : Str) : SF := fun env => .exc c env
section
variable {X : Cx} {L : List Nat} {W : WX} {C : Addr} {bmB : List Value} {B newId initId : String}
theorem pxs_raise {x m : Str} {j : Nat} {p p2 pos pos' : Pos} (hc : X.calm = true) (tk : Takes X W) (F : ExcBaseFacts B newId initId bmB) (q : PySem.W.excIn X.K C bmB newId = true) (gC : X.mg x = some (.ref C)) (kC : PySem.W.keepIn X.K (.ref C) = true) (r : Raises X (.ref C)) (hg : Gl X x)
    (hdb : (x == ("__debug__" : Str)) = false := by decide) : PXS X L W (.Raise (some (.Call (.Name x p) [.Constant (.str m) j p2] [] pos)) none pos') (sRaise x) := by
  refine ps_of (ps_raise hc tk (pmk_own F q gC kC r hg hdb)) fun D σ H => ?_
  rintro ⟨B, Z, ow, env, rel, p⟩
  exact p C σ H Z ow gC rel (Same.refl _)
end
end VS

/-! VSJ: dicts -/
namespace VS
open PySem PySem.Spec PyProof.Rows L2

/-! ### keys and what a dict holds, as data -/
def isAtom : NestedKey → Bool
  | .num _ => true
  | .text _ => true
  | _ => false
def isTupK : NestedKey → Bool
  | .tup _ => true
  | _ => false
def keyD (d : D) : Option NestedKey := match toNK d with
  | some k => if k.depth ≤ 8 then some k else none
  | none => none
def dget (kvs : List (NestedKey × D)) (k : NestedKey) : Option D := (kvs.find? fun p => decide (p.1 = k)).map (·.2)
def dput (kvs : List (NestedKey × D)) (k : NestedKey) (d : D) : List (NestedKey × D) :=
  if (dget kvs k).isSome then kvs.map (fun p => if p.1 = k then (p.1, d) else p) else kvs ++ [(k, d)]
def ddrop (kvs : List (NestedKey × D)) (k : NestedKey) : List (NestedKey × D) := kvs.filter fun p => decide (p.1 ≠ k)
/-- all keys of the key's kind -/
def homog (kvs : List (NestedKey × D)) (k : NestedKey) : Bool := (isAtom k && kvs.all fun p => isAtom p.1) || (isTupK k && kvs.all fun p => isTupK p.1)
theorem nkOf_inj {a b : Key} (h : nkOf a = nkOf b) : a = b := by
  cases a <;> cases b <;> simp [nkOf] at h <;> rw [h]
theorem atom_key {k : NestedKey} (h : isAtom k = true) : ∃ a, nkOf a = k := by
  cases k with
  | num i => exact ⟨.inl i, rfl⟩
  | text x => exact ⟨.inr x, rfl⟩
  | _ => simp [isAtom] at h
theorem atom_of (a : Key) : isAtom (nkOf a) = true := by cases a <;> rfl

def AR (g : G) (Z : Hp) : List (NestedKey × D) → List (Key × Value) → Prop := Paired fun p q => p.1 = nkOf q.1 ∧ ∃ v, RelV v q.2 ∧ Rp g Z v p.2
def TR (g : G) (Z : Hp) : List (NestedKey × D) → List (NestedKey × Addr × Value) → Prop := Paired fun p q => p.1 = q.1 ∧ Rp g Z (.ref q.2.1) (ofNK q.1) ∧ (∃ v, RelV v q.2.2 ∧ Rp g Z v p.2) ∧ q.1.depth ≤ 8
section
variable {g : G} {Z : Hp}
theorem AR.get {kvs : List (NestedKey × D)} {vs : List (Key × Value)} (r : AR g Z kvs vs) (k : Key) : match dget kvs (nkOf k), valueAt vs k with
    | some d, some u => ∃ v, RelV v u ∧ Rp g Z v d
    | none, none => True
    | _, _ => False := by
  unfold AR at r
  induction r with
  | nil => simp [dget, valueAt]
  | @cons p q ps qs h t ih =>
    by_cases e : q.1 = k
    · have e' : p.1 = nkOf k := by rw [h.1, e]
      simp only [dget, valueAt, List.find?_cons, e, e', decide_true, Option.map_some]
      exact h.2
    · have e' : ¬ p.1 = nkOf k := by rw [h.1]; exact fun z => e (nkOf_inj z)
      simpa [dget, valueAt, List.find?_cons, e, e'] using ih
theorem AR.isSome {kvs : List (NestedKey × D)} {vs : List (Key × Value)} (r : AR g Z kvs vs) (k : Key) : (dget kvs (nkOf k)).isSome = (valueAt vs k).isSome := by
  have := r.get k
  cases h1 : dget kvs (nkOf k) <;> cases h2 : valueAt vs k <;> rw [h1, h2] at this <;> first | rfl | exact this.elim
theorem AR.put {kvs : List (NestedKey × D)} {vs : List (Key × Value)} (r : AR g Z kvs vs) (k : Key) {v : V} {u : Value} {d : D} (rv : RelV v u) (rd : Rp g Z v d) : AR g Z (dput kvs (nkOf k) d) (stored vs k u) := by
  have e : (vs.any fun kv => decide (kv.1 = k)) = (dget kvs (nkOf k)).isSome := by
    rw [r.isSome]
    clear r
    induction vs with
    | nil => rfl
    | cons x xs ih =>
      unfold valueAt at ih ⊢
      by_cases h : x.1 = k
      · simp [List.find?_cons, h]
      · simp only [List.any_cons, List.find?_cons, h, decide_false, Bool.false_or]
        exact ih
  unfold dput stored
  rw [e]
  split
  · have mp : ∀ {a : List (NestedKey × D)} {b : List (Key × Value)}, AR g Z a b → AR g Z (a.map (fun p => if p.1 = nkOf k then (p.1, d) else p)) (b.map (fun kv => if kv.1 = k then (kv.1, u) else kv)) := by
      intro a b r
      unfold AR at r ⊢
      induction r with
      | nil => exact .nil
      | @cons p q ps qs h t ih =>
        refine .cons ?_ ih
        by_cases e : q.1 = k
        · have e' : p.1 = nkOf k := by rw [h.1, e]
          dsimp only
          rw [if_pos e, if_pos e']
          exact ⟨h.1, v, rv, rd⟩
        · have e' : ¬ p.1 = nkOf k := by rw [h.1]; exact fun z => e (nkOf_inj z)
          dsimp only
          rw [if_neg e, if_neg e']
          exact h
    exact mp r
  · have app : ∀ {a : List (NestedKey × D)} {b : List (Key × Value)}, AR g Z a b → AR g Z (a ++ [(nkOf k, d)]) (b ++ [(k, u)]) := by
      intro a b h
      unfold AR at h ⊢
      induction h with
      | nil => exact .cons ⟨rfl, v, rv, rd⟩ .nil
      | cons h t ih => exact .cons h ih
    exact app r
theorem AR.len {kvs : List (NestedKey × D)} {vs : List (Key × Value)} (r : AR g Z kvs vs) : kvs.length = vs.length := Paired.length r
theorem TR.len {kvs : List (NestedKey × D)} {ys : List (NestedKey × Addr × Value)} (r : TR g Z kvs ys) : kvs.length = ys.length := Paired.length r
theorem TR.get {kvs : List (NestedKey × D)} {ys : List (NestedKey × Addr × Value)} (r : TR g Z kvs ys) (k : NestedKey) : match dget kvs k, atKey ys k with
    | some d, some p => ∃ v, RelV v p.2 ∧ Rp g Z v d
    | none, none => True
    | _, _ => False := by
  unfold TR at r
  induction r with
  | nil => simp [dget, atKey]
  | @cons p q ps qs h t ih =>
    by_cases e : q.1 = k
    · have e' : p.1 = k := by rw [h.1, e]
      simp only [dget, atKey, List.find?_cons, e, e', decide_true, Option.map_some]
      exact h.2.2.1
    · have e' : ¬ p.1 = k := by rw [h.1]; exact e
      simpa [dget, atKey, List.find?_cons, e, e'] using ih
theorem TR.isSome {kvs : List (NestedKey × D)} {ys : List (NestedKey × Addr × Value)} (r : TR g Z kvs ys) (k : NestedKey) : (dget kvs k).isSome = (atKey ys k).isSome := by
  have := r.get k
  cases h1 : dget kvs k <;> cases h2 : atKey ys k <;> rw [h1, h2] at this <;> first | rfl | exact this.elim
theorem TR.put {kvs : List (NestedKey × D)} {ys : List (NestedKey × Addr × Value)} (r : TR g Z kvs ys) {k : NestedKey} {b : Addr} (hb : Rp g Z (.ref b) (ofNK k)) (hd : k.depth ≤ 8) {v : V} {u : Value} {d : D} (rv : RelV v u) (rd : Rp g Z v d) : TR g Z (dput kvs k d) (storedH ys k b u) := by
  unfold dput storedH
  rw [r.isSome]
  split
  · have mp : ∀ {a : List (NestedKey × D)} {b : List (NestedKey × Addr × Value)}, TR g Z a b → TR g Z (a.map (fun p => if p.1 = k then (p.1, d) else p)) (b.map (putAt k u)) := by
      intro a b r
      unfold TR at r ⊢
      induction r with
      | nil => exact .nil
      | @cons p q ps qs h t ih =>
        refine .cons ?_ ih
        unfold putAt
        by_cases e : q.1 = k
        · have e' : p.1 = k := by rw [h.1, e]
          dsimp only
          rw [if_pos e, if_pos e']
          exact ⟨h.1, h.2.1, ⟨v, rv, rd⟩, h.2.2.2⟩
        · have e' : ¬ p.1 = k := by rw [h.1]; exact e
          dsimp only
          rw [if_neg e, if_neg e']
          exact h
    exact mp r
  · have app : ∀ {a : List (NestedKey × D)} {c : List (NestedKey × Addr × Value)}, TR g Z a c → TR g Z (a ++ [(k, d)]) (c ++ [(k, b, u)]) := by
      intro a c h
      unfold TR at h ⊢
      induction h with
      | nil => exact .cons ⟨rfl, hb, ⟨v, rv, rd⟩, hd⟩ .nil
      | cons h t ih => exact .cons h ih
    exact app r
theorem TR.drop {kvs : List (NestedKey × D)} {ys : List (NestedKey × Addr × Value)} (r : TR g Z kvs ys) (k : NestedKey) : TR g Z (ddrop kvs k) (withoutH ys k) := by
  unfold TR at r ⊢
  unfold ddrop withoutH
  induction r with
  | nil => exact .nil
  | @cons p q ps qs h t ih =>
    by_cases e : q.1 = k
    · have e' : p.1 = k := by rw [h.1, e]
      simpa [List.filter_cons, e, e'] using ih
    · have e' : ¬ p.1 = k := by rw [h.1]; exact e
      simp only [List.filter_cons, e, e', ne_eq, not_false_eq_true, decide_true, if_true]
      exact .cons h ih
theorem dput_len (kvs : List (NestedKey × D)) (k : NestedKey) (d : D) : (dput kvs k d).length ≤ kvs.length + 1 := by
  unfold dput
  split
  · rw [List.length_map]; omega
  · rw [List.length_append]; simp
/-- between the two ways to tell it -/
theorem TR.toX {kvs : List (NestedKey × D)} {ys : List (NestedKey × Addr × Value)} (r : TR g Z kvs ys) : ∃ xs : List (NestedKey × Addr × V), Paired (fun x y => x.1 = y.1 ∧ x.2.1 = y.2.1 ∧ RelV x.2.2 y.2.2) xs ys ∧ kvs.map Prod.fst = xs.map (fun x => x.1) ∧
    Rps g Z (xs.map fun x => .ref x.2.1) (xs.map fun x => ofNK x.1) ∧ Rps g Z (xs.map fun x => x.2.2) (kvs.map Prod.snd) ∧ (∀ y ∈ ys, y.1.depth ≤ 8) := by
  unfold TR at r
  induction r with
  | nil => exact ⟨[], .nil, rfl, .nil, .nil, fun _ h => by simp at h⟩
  | @cons p q ps qs h t ih =>
    obtain ⟨xs, h1, h2, h3, h4, h5⟩ := ih
    obtain ⟨a1, a2, ⟨v, a3, a4⟩, a5⟩ := h
    refine ⟨(q.1, q.2.1, v) :: xs, .cons ⟨rfl, rfl, a3⟩ h1, ?_, .cons a2 h3, .cons a4 h4, fun y hy => ?_⟩
    · rw [List.map_cons, List.map_cons, h2, a1]
    · rcases List.mem_cons.mp hy with e | e
      · rw [e]; exact a5
      · exact h5 y e
theorem TR.ofX : ∀ {kvs : List (NestedKey × D)} {xs : List (NestedKey × Addr × V)} {ys : List (NestedKey × Addr × Value)}, Paired (fun x y => x.1 = y.1 ∧ x.2.1 = y.2.1 ∧ RelV x.2.2 y.2.2) xs ys → kvs.map Prod.fst = xs.map (fun x => x.1) →
    Rps g Z (xs.map fun x => .ref x.2.1) (xs.map fun x => ofNK x.1) → Rps g Z (xs.map fun x => x.2.2) (kvs.map Prod.snd) → (∀ y ∈ ys, y.1.depth ≤ 8) → TR g Z kvs ys
  | [], _, _, .nil, _, _, _, _ => .nil
  | _ :: _, _, _, .nil, e, _, _, _ => by simp at e
  | [], _, _, .cons _ _, e, _, _, _ => by simp at e
  | p :: kvs, _, _, .cons h t, e, r1, r2, hd => by
    simp only [List.map_cons, List.cons.injEq] at e
    cases r1 with
    | cons a1 b1 =>
      cases r2 with
      | cons a2 b2 => exact .cons ⟨e.1.trans h.1, by rw [← h.1, ← h.2.1]; exact a1, ⟨_, h.2.2, a2⟩, hd _ List.mem_cons_self⟩ (TR.ofX t e.2 b1 b2 fun y hy => hd y (List.mem_cons_of_mem _ hy))
theorem AR.toK {kvs : List (NestedKey × D)} {vs : List (Key × Value)} (r : AR g Z kvs vs) : ∃ ks : List (Key × V), KV ks vs ∧ kvs.map Prod.fst = ks.map (fun p => nkOf p.1) ∧ Rps g Z (ks.map Prod.snd) (kvs.map Prod.snd) := by
  unfold AR at r
  induction r with
  | nil => exact ⟨[], .nil, rfl, .nil⟩
  | @cons p q ps qs h t ih =>
    obtain ⟨ks, h1, h2, h3⟩ := ih
    obtain ⟨a1, v, a2, a3⟩ := h
    exact ⟨(q.1, v) :: ks, .cons ⟨rfl, a2⟩ h1, by rw [List.map_cons, List.map_cons, h2, a1], .cons a3 h3⟩
theorem AR.ofK : ∀ {kvs : List (NestedKey × D)} {ks : List (Key × V)} {vs : List (Key × Value)}, KV ks vs → kvs.map Prod.fst = ks.map (fun p => nkOf p.1) → Rps g Z (ks.map Prod.snd) (kvs.map Prod.snd) → AR g Z kvs vs
  | [], _, _, .nil, _, _ => .nil
  | _ :: _, _, _, .nil, e, _ => by simp at e
  | [], _, _, .cons _ _, e, _ => by simp at e
  | p :: kvs, _, _, .cons h t, e, r => by
    simp only [List.map_cons, List.cons.injEq] at e
    cases r with
    | cons a b => exact .cons ⟨by rw [e.1, h.1], _, h.2, a⟩ (AR.ofK t e.2 b)
end

/-! ### the heap's dict -/
section
variable {X : Cx} {pins : List (Addr × Obj)} {σ : L2.St} {H : Hp} {s : Shared} {Z : Hp}
mutual
theorem nested_of (I : Inv X pins σ H s) (z : Same Z H) : ∀ (k : NestedKey) (v : V) (u : Value), Rp (gX X) Z v (ofNK k) → RelV v u → NestedIs s.heap k u
  | .none, _, _, h, r => by cases h; cases r; exact .none
  | .num i, _, _, h, r => by cases h; obtain ⟨t, rfl⟩ := r; exact .int i t
  | .text x, _, _, h, r => by cases h; obtain ⟨t, rfl⟩ := r; exact .text x t
  | .tup ks, _, _, h, r => by
    cases h with
    | tup h1 h2 =>
      cases r
      obtain ⟨its, rv, ⟨o, ho, hc, n, hd⟩, _⟩ := I.tuple (SqT_mono z h1)
      exact .tup ho hc hd (by simpa using nesteds_of I z ks _ _ h2 rv)
theorem nesteds_of (I : Inv X pins σ H s) (z : Same Z H) : ∀ (ks : List NestedKey) (vs : List V) (us : List Value), Rps (gX X) Z vs (ofNKs ks) → Vals vs us → NestedAll s.heap ks us
  | [], _, _, h, r => by cases h; cases r; exact .nil
  | k :: ks, _, _, h, r => by
    cases h with
    | cons h1 h2 =>
      cases r with
      | cons r1 r2 => exact .cons (nested_of I z k _ _ h1 r1) (nesteds_of I z ks _ _ h2 r2)
end
theorem key_is (I : Inv X pins σ H s) (z : Same Z H) {k : NestedKey} {b : Addr} (h : Rp (gX X) Z (.ref b) (ofNK k)) (hd : k.depth ≤ 8) : (nestedKind X.prog X.w).is s.heap k b := ⟨nested_of I z k _ _ h rfl, hd⟩
/-- what stands at a dict's address -/
def DHeap (X : Cx) (Z : Hp) (s : Shared) (a : Addr) (kvs : List (NestedKey × D)) : Prop :=
  (a == sysModules) = false ∧ kvs.length ≤ sizeLine ∧ ((∃ vs, AR (gX X) Z kvs vs ∧ s.heap.DictOf (mixKind X.prog X.w) a vs) ∨ ∃ ys, TR (gX X) Z kvs ys ∧ s.heap.DictOfH (nestedKind X.prog X.w) a ys)
theorem drep_heap (I : Inv X pins σ H s) (z : Same Z H) {a : Addr} {xs : List (NestedKey × Addr × V)} {kvs : List (NestedKey × D)} (h : DRep X.prog X.w a xs s.heap) (e : kvs.map Prod.fst = xs.map (fun x => x.1)) (r1 : Rps (gX X) Z (xs.map fun x => .ref x.2.1) (xs.map fun x => ofNK x.1))
    (r2 : Rps (gX X) Z (xs.map fun x => x.2.2) (kvs.map Prod.snd)) : DHeap X Z s a kvs := by
  obtain ⟨hl, hs, ys, pr, dp, o, es, ep, h1, h2, h3, h4, h5⟩ := h
  have tr := TR.ofX pr e r1 r2 dp
  refine ⟨hs, by rw [tr.len, ← Paired.length pr]; exact hl, .inr ⟨ys, tr, o, es, ep, h1, h2, h3, h4, fun y hy => ?_, h5⟩⟩
  have all : ∀ {l : List (NestedKey × D)} {m : List (NestedKey × Addr × Value)}, TR (gX X) Z l m → ∀ y ∈ m, (nestedKind X.prog X.w).is s.heap y.1 y.2.1 := by
    intro l m q
    unfold TR at q
    induction q with
    | nil => intro y hy; simp at hy
    | cons h t ih =>
      intro y hy
      rcases List.mem_cons.mp hy with e | hy
      · rw [e]; exact key_is I z h.2.1 h.2.2.2
      · exact ih y hy
  exact all tr y hy
theorem dct_heap (I : Inv X pins σ H s) (z : Same Z H) {x : V} {kvs : List (NestedKey × D)} (h : SR (gX X) Z H x (.dct kvs)) : ∃ a, x = .ref a ∧ DHeap X Z s a kvs := by
  have atom : ∀ {a : Addr} {ks : List (Key × V)}, Rd H a (.dK ks) → kvs.map Prod.fst = ks.map (fun p => nkOf p.1) → Rps (gX X) Z (ks.map Prod.snd) (kvs.map Prod.snd) → DHeap X Z s a kvs := fun {a ks} e k r => by
    obtain ⟨hl, hs, vs, kv, dd⟩ := dk_rd I.hok e
    have ar := AR.ofK kv k r
    exact ⟨hs, by rw [ar.len, ← kv.length]; exact hl, .inl ⟨vs, ar, dd⟩⟩
  rcases h with h | ⟨a, bs, rfl, h⟩
  · cases h with
    | dK h e r => exact ⟨_, rfl, atom (.inr ⟨_, z _ _ h⟩) e r⟩
    | @dT a o xs _ h e r1 r2 =>
      obtain ⟨_, q, _⟩ := (show ObjOk X.prog X.w H s.heap a (.frz o (DO X.prog X.w a xs)) from I.hok _ _ (z _ _ h))
      exact ⟨a, rfl, drep_heap I z q e r1 r2⟩
  · cases h with
    | dK h e r => exact ⟨_, rfl, atom (.inl h) e r⟩
    | @dT xs _ h e r1 r2 =>
      obtain ⟨q, _⟩ := (show ObjOk X.prog X.w H s.heap a (DO X.prog X.w a xs) from I.hok _ _ h)
      exact ⟨a, rfl, drep_heap I z q e r1 r2⟩
theorem DHeap.typeIs {a : Addr} {kvs : List (NestedKey × D)} (h : DHeap X Z s a kvs) : s.TypeIs (.ref a) "dict" ∧ ∃ ob, s.heap.get? a = some ob ∧ ob.dict = none := by
  obtain ⟨_, _, ⟨vs, _, d⟩ | ⟨ys, _, d⟩⟩ := h
  · obtain ⟨o, _, _, h1, h2, _⟩ := id d
    exact ⟨d.typeIs, o, h1, h2.2.1⟩
  · obtain ⟨o, _, _, h1, h2, _⟩ := id d
    exact ⟨d.typeIs, o, h1, h2.2.1⟩
theorem DHeap.atoms {a : Addr} {kvs : List (NestedKey × D)} (h : DHeap X Z s a kvs) (p : (kvs.all fun p => isAtom p.1) = true) : ∃ vs, AR (gX X) Z kvs vs ∧ s.heap.DictOf (mixKind X.prog X.w) a vs := by
  obtain ⟨_, _, h | ⟨ys, tr, d⟩⟩ := h
  · exact h
  · cases tr with
    | nil =>
      obtain ⟨o, es, ep, h1, h2, h3, h4, _⟩ := d
      have e : es = #[] := by simpa using h4
      subst e
      exact ⟨[], .nil, o, #[], ep, h1, h2, h3, fun _ h => by simp at h, .nil, List.nodup_nil⟩
    | @cons p' q ps qs h t =>
      rw [List.all_cons, Bool.and_eq_true] at p
      obtain ⟨a1, a2, _⟩ := h
      have pa := p.1
      rw [a1] at pa
      generalize q.1 = k at a2 pa
      cases k <;> simp [isAtom] at pa <;> cases a2
theorem pairs_nil {P : Program} {w : World} {l : List DictEntry} (h : Pairs (mixKind P w) l []) : l = [] := by cases h; rfl
theorem DHeap.tups {a : Addr} {kvs : List (NestedKey × D)} (h : DHeap X Z s a kvs) (p : (kvs.all fun p => isTupK p.1) = true) : ∃ ys, TR (gX X) Z kvs ys ∧ s.heap.DictOfH (nestedKind X.prog X.w) a ys := by
  obtain ⟨_, _, ⟨vs, ar, d⟩ | h⟩ := h
  · cases ar with
    | nil =>
      obtain ⟨o, es, ep, h1, h2, h3, h4, h5, _⟩ := d
      have e : es.toList = [] := pairs_nil h5
      exact ⟨[], .nil, o, es, ep, h1, h2, h3, by rw [e]; rfl, fun _ h => by simp at h, List.nodup_nil⟩
    | @cons p' q ps qs h t =>
      rw [List.all_cons, Bool.and_eq_true] at p
      have pa := p.1
      rw [h.1] at pa
      cases hq : q.1 <;> rw [hq] at pa <;> simp [nkOf, isTupK] at pa
  · exact h
/-- the key as a value -/
theorem key_atom {v : V} {d : D} {k : NestedKey} (h : SR (gX X) Z H v d) (e : keyD d = some k) (a : isAtom k = true) : ∃ key, nkOf key = k ∧ v = kV key := by
  unfold keyD at e
  split at e
  · rename_i k' q
    split at e
    · cases e
      have := ofNK_toNK d k q
      cases k with
      | num i => rw [ofNK] at this; subst this; exact ⟨.inl i, rfl, h.int⟩
      | text x => rw [ofNK] at this; subst this; exact ⟨.inr x, rfl, h.str⟩
      | _ => simp [isAtom] at a
    · cases e
  · cases e
theorem key_tup {v : V} {d : D} {k : NestedKey} (h : SR (gX X) Z H v d) (e : keyD d = some k) (a : isTupK k = true) : ∃ b, v = .ref b ∧ Rp (gX X) Z (.ref b) (ofNK k) ∧ k.depth ≤ 8 := by
  unfold keyD at e
  split at e
  · rename_i k' q
    split at e
    · rename_i hd
      cases e
      have := ofNK_toNK d k q
      cases k with
      | tup ks =>
        rw [← this] at h
        rw [ofNK] at h ⊢
        rcases h with h | ⟨_, _, _, h⟩
        · cases h with
          | tup h1 h2 => exact ⟨_, rfl, .tup h1 h2, hd⟩
        · cases h
      | _ => simp [isTupK] at a
    · cases e
  · cases e
theorem nest_room {A : Around} (hu : A.units + 200 < cLine) : (nestedKind X.prog X.w).room A.in1 := by
  show A.units + 1 + 8 < cLine
  omega
variable {a : Addr} {kvs : List (NestedKey × D)} {y : V} {u r : Value} {k : NestedKey} {E : Value → Shared → Prop}
/-- the key y in the dict: there, with its value, or not -/
inductive KeyAt (X : Cx) (Z : Hp) (s : Shared) (a : Addr) (kvs : List (NestedKey × D)) (u : Value) (k : NestedKey) : Prop
  | atom (key : Key) (vs : List (Key × Value)) (e : nkOf key = k) (is : keyIs key u = true) (r : AR (gX X) Z kvs vs) (d : s.heap.DictOf (mixKind X.prog X.w) a vs)
  | tup (b : Addr) (ys : List (NestedKey × Addr × Value)) (e : u = .ref b) (is : (nestedKind X.prog X.w).is s.heap k b) (p : Rp (gX X) Z (.ref b) (ofNK k)) (hd : k.depth ≤ 8) (r : TR (gX X) Z kvs ys) (d : s.heap.DictOfH (nestedKind X.prog X.w) a ys)
theorem keyAt_of (I : Inv X pins σ H s) (z : Same Z H) (h : DHeap X Z s a kvs) {dk : D} (hy : SR (gX X) Z H y dk) (e : keyD dk = some k) (ho : homog kvs k = true) (ry : RelV y u) : KeyAt X Z s a kvs u k := by
  unfold homog at ho
  rcases Bool.or_eq_true_iff.mp ho with q | q
  · rw [Bool.and_eq_true] at q
    obtain ⟨key, e1, e2⟩ := key_atom hy e q.1
    obtain ⟨vs, ar, d⟩ := h.atoms q.2
    subst e2
    exact .atom key vs e1 (kV_is (P := X.prog) (w := X.w) ry) ar d
  · rw [Bool.and_eq_true] at q
    obtain ⟨b, e1, e2, e3⟩ := key_tup hy e q.1
    obtain ⟨ys, tr, d⟩ := h.tups q.2
    subst e1
    cases ry
    exact .tup b ys rfl (key_is I z e2 e3) e2 e3 tr d
end

/-! ### in, [], get -/
def rDIn (X : Cx) (neg : Bool) : R2 := fun x y H Q => ∃ Z dx kvs k, Same Z H ∧ SR (gX X) Z H x dx ∧ SR (gX X) Z H y (.dct kvs) ∧ keyD dx = some k ∧ homog kvs k = true ∧ Q (.bl (if neg then !(dget kvs k).isSome else (dget kvs k).isSome)) H
def rDIx (X : Cx) : R2 := fun x y H Q => ∃ Z dy kvs k d, Same Z H ∧ SR (gX X) Z H x (.dct kvs) ∧ SR (gX X) Z H y dy ∧ keyD dy = some k ∧ homog kvs k = true ∧ dget kvs k = some d ∧ ∀ v, Rp (gX X) Z v d → Q v H
section
variable {X : Cx}
theorem op_inDict (hu : X.A.units + 200 < cLine) : OpR X (compareOp .In) (rDIn X false) := by
  intro pins s σ H x y v u Q I rx ry h
  obtain ⟨Z, dx, kvs, k, z, hx, hy, e, ho, q⟩ := h
  obtain ⟨a, rfl, dh⟩ := dct_heap I z hy
  cases ry
  simp only [Bool.false_eq_true, if_false] at q
  cases keyAt_of I z dh hx e ho rx with
  | atom key vs e1 is ar d =>
    subst e1
    refine wpAny_in_of (knd := mixKind X.prog X.w) is dh.1 d.mapOf ?_
    rw [ar.isSome] at q
    exact ⟨.bl _, H, I.tok _, rfl, q⟩
  | tup b ys e1 is p hd tr d =>
    subst e1
    refine wpAny_in_heap (nest_room hu) is dh.1 d ?_
    rw [tr.isSome] at q
    exact ⟨.bl _, H, I.tok _, rfl, q⟩
theorem op_notInDict (hu : X.A.units + 200 < cLine) : OpR X (compareOp .NotIn) (rDIn X true) := by
  intro pins s σ H x y v u Q I rx ry h
  obtain ⟨Z, dx, kvs, k, z, hx, hy, e, ho, q⟩ := h
  obtain ⟨a, rfl, dh⟩ := dct_heap I z hy
  cases ry
  simp only [if_true] at q
  cases keyAt_of I z dh hx e ho rx with
  | atom key vs e1 is ar d =>
    subst e1
    refine wpAny_notIn_of (knd := mixKind X.prog X.w) is dh.1 d.mapOf ?_
    rw [ar.isSome] at q
    exact ⟨.bl _, H, I.tok _, rfl, q⟩
  | tup b ys e1 is p hd tr d =>
    subst e1
    refine wpAny_notIn_heap (nest_room hu) is dh.1 d ?_
    rw [tr.isSome] at q
    exact ⟨.bl _, H, I.tok _, rfl, q⟩
theorem ix_dict (hu : X.A.units + 200 < cLine) : IxR X (rDIx X) := by
  intro value slice pins s σ H x y v u Q I rx ry h hs
  obtain ⟨Z, dy, kvs, k, d, z, hx, hy, e, ho, hg, q⟩ := h
  obtain ⟨a, rfl, dh⟩ := dct_heap I z hx
  cases rx
  refine tail_any dh.typeIs.1 PySem.F.slot_dict_getitem.lookup ?_ hs
  cases keyAt_of I z dh hy e ho ry with
  | atom key vs e1 is ar dd =>
    subst e1
    have := ar.get key
    rw [hg] at this
    cases hv : valueAt vs key with
    | none => rw [hv] at this; exact this.elim
    | some w =>
      rw [hv] at this
      obtain ⟨v', r1, r2⟩ := this
      exact wpAny_getItem_of (knd := mixKind X.prog X.w) is dd.mapOf hv ⟨v', H, I.tok _, r1, q v' r2⟩
  | tup b ys e1 is p hd tr dd =>
    subst e1
    have := tr.get k
    rw [hg] at this
    cases hv : atKey ys k with
    | none => rw [hv] at this; exact this.elim
    | some w =>
      rw [hv] at this
      obtain ⟨v', r1, r2⟩ := this
      exact wpAny_getItem_heap (nest_room hu) is dd hv ⟨v', H, I.tok _, r1, q v' r2⟩
def gInA : D → D → Option Opd := fun x y => match y with
  | .dct kvs => (keyD x).bind fun k => if homog kvs k = true then some (.val (.bl (dget kvs k).isSome)) else none
  | y => gIn x y
def gNotInA : D → D → Option Opd := fun x y => match y with
  | .dct kvs => (keyD x).bind fun k => if homog kvs k = true then some (.val (.bl (!(dget kvs k).isSome))) else none
  | y => gNotIn x y
def gIxA : D → D → Option Opd := fun x y => match x with
  | .dct kvs => (keyD y).bind fun k => if homog kvs k = true then (dget kvs k).map .val else none
  | x => gIx x y
def rInAll (X : Cx) (neg : Bool) : R2 := fun x y H Q => rInA X.K neg x y H Q ∨ rDIn X neg x y H Q
def rIxAll (X : Cx) : R2 := fun x y H Q => rIx X.K x y H Q ∨ rDIx X x y H Q
theorem op_inAll (hu : X.A.units + 200 < cLine) : OpR X (compareOp .In) (rInAll X false) := (op_inA hu).or (op_inDict hu)
theorem op_notInAll (hu : X.A.units + 200 < cLine) : OpR X (compareOp .NotIn) (rInAll X true) := (op_notInA hu).or (op_notInDict hu)
theorem ix_all (hu : X.A.units + 200 < cLine) : IxR X (rIxAll X) := ix_seq.or (ix_dict hu)
theorem sim_inAll : Sim2 (gX X) (rInAll X false) gInA := by
  intro Z H x y dx dy o Q s hx hy hg q
  unfold gInA at hg
  split at hg
  · rename_i kvs
    obtain ⟨k, e, hg⟩ := Option.bind_eq_some_iff.mp hg
    split at hg
    · rename_i ho
      cases hg
      exact .inr ⟨Z, dx, kvs, k, s, hx, hy, e, ho, by simpa using q _ Z H (Ext.refl s) (.bl _)⟩
    · cases hg
  · exact .inl (sim_in Z H x y dx _ o Q s hx hy hg q)
theorem sim_notInAll : Sim2 (gX X) (rInAll X true) gNotInA := by
  intro Z H x y dx dy o Q s hx hy hg q
  unfold gNotInA at hg
  split at hg
  · rename_i kvs
    obtain ⟨k, e, hg⟩ := Option.bind_eq_some_iff.mp hg
    split at hg
    · rename_i ho
      cases hg
      exact .inr ⟨Z, dx, kvs, k, s, hx, hy, e, ho, by simpa using q _ Z H (Ext.refl s) (.bl _)⟩
    · cases hg
  · exact .inl (sim_notIn Z H x y dx _ o Q s hx hy hg q)
theorem sim_ixAll : Sim2 (gX X) (rIxAll X) gIxA := by
  intro Z H x y dx dy o Q s hx hy hg q
  unfold gIxA at hg
  split at hg
  · rename_i kvs
    obtain ⟨k, e, hg⟩ := Option.bind_eq_some_iff.mp hg
    split at hg
    · rename_i ho
      obtain ⟨d, hd, rfl⟩ := Option.map_eq_some_iff.mp hg
      exact .inr ⟨Z, dy, kvs, k, d, s, hx, hy, e, ho, hd, fun v hv => q _ Z H (Ext.refl s) hv⟩
    · cases hg
  · exact .inl (sim_ix Z H x y _ dy o Q s hx hy hg q)
end

/-! ### new dicts -/
def eDictN : EF := fun env => .ok (.fresh (.dct [])) env
def eDict1 (L : List Nat) (fk fv : EF) : EF := fun env => (fV L fk env).bind fun o1 e1 => (fV L fv e1).bind fun o2 e2 => match o1, o2 with
  | .val dk, .val d => (match keyD dk with
    | some k => if homog [] k = true then .ok (.fresh (.dct [(k, d)])) e2 else .stuck
    | none => .stuck)
  | _, _ => .stuck
section
variable {X : Cx} {L : List Nat} {W : WX} {pos : Pos}
theorem px_dictN : PX X L W (.Dict [] [] pos) eDictN := by
  refine pe_of pe_dnewK fun σ H Q => ?_
  rintro ⟨B, Z, ow, env, rel, p⟩
  intro q hq
  have x := Ext.lay (o := .dK []) rel.zh hq
  refine p _ _ _ (rel.ext x) x.zz _ ⟨q, [], rfl, .dK upd_same rfl .nil, by simp, fun b hb => ?_⟩
  simp only [List.mem_singleton] at hb
  subst hb
  exact ⟨rel.zh.free hq, rel.notOwn hq, rel.oldH hq⟩
theorem do_ok {P : Program} {w : World} {H : Hp} {h : Heap} {a : Addr} {xs : List (NestedKey × Addr × V)} (d : DRep P w a xs h) : ObjOk P w H h a (DO P w a xs) := by
  refine ⟨d, ?_, fun h1 h2 e k => ?_⟩
  · obtain ⟨_, _, _, _, _, o, _, _, ho, _⟩ := d
    exact ⟨o, ho⟩
  · obtain ⟨a1, a2, ys, a3, a4, o, es, ep, ho, r⟩ := e
    exact ⟨a1, a2, ys, a3, a4, o, es, ep, k o ho, r⟩
/-- {k: v} -/
def tDisp1 (X : Cx) (tk tv : TE) : TE := fun σ H Q => ∀ p, H p = none → tk σ (upd H p (.dK [])) fun x H1 => tv σ H1 fun y H2 => H2 p = some (.dK []) ∧
  ((∃ key, x = kV key ∧ Q (.ref p) (upd H2 p (.dK [(key, y)]))) ∨ ∃ Z b k, Same Z H2 ∧ x = .ref b ∧ Rp (gX X) Z (.ref b) (ofNK k) ∧ k.depth ≤ 8 ∧ Q (.ref p) (upd H2 p (DO X.prog X.w p [(k, b, y)])))
theorem pe_disp1 {k v : Expr} {tk tv : TE} (hu : X.A.units + 200 < cLine) (hk : PE X k tk) (hv : PE X v tv) : PE X (.Dict [some k] [v] pos) (tDisp1 X tk tv) := by
  refine ⟨fun pins s σ H Q I q => ?_⟩
  have hn := I.hok.fresh (Nat.le_refl s.heap.objs.size)
  have I1 := I.laid (a := s.heap.objs.size) (o := .dK []) (h' := s.heap.push { cls := .type "dict", data := .dict #[] }) (t' := s.toks) (fun _ _ q => Heap.get?_push_of_some _ q) (Nat.le_refl _) (dk_empty s.heap I.big)
  have hq := q _ hn
  have lp : (pairTrees [some k] [v] X.env pos).length ≤ 15 := by simp [pairTrees]
  rw [arm_eval_Dict, zip_pairTrees [some k] [v] X.env pos rfl rfl, dictDisplay_pairs (pairTrees [some k] [v] X.env pos) (by simp [pairTrees]) (by omega)]
  refine wpAny_bind (wpAny_standAt (wpAny_bind ?_))
  unfold subDict
  refine wpAny_bind (wpAny_alloc ?_)
  refine wpAny_bind (wpAny_holding ?_)
  rw [if_pos lp]
  refine wpAny_bind (pairTrees_cons_walk (thn (hk.run pins _ σ _ _ I1 hq) fun u s1 ⟨x, H1, I2, rx, q1⟩ => thn (hv.run pins s1 σ H1 _ I2 q1) fun w2 s2 ⟨y, H2, I3, ry, e, q2⟩ => pairTrees_nil_walk ?_))
  obtain ⟨z, hd, vs0, r0, dd⟩ := dk_of I3.hok e
  cases r0
  refine wpAny_holding ?_
  rcases q2 with ⟨key, rfl, q2⟩ | ⟨Z, b, kk, zz, rfl, rp, hdp, q2⟩
  · refine wpAny_bind (wpAny_storeAll (knd := mixKind X.prog X.w) [(u, w2)] [(key, w2)] [] s2 _ ⟨kV_is rx, rfl, trivial⟩ dd (by rw [sizeLine_eq]; simp) fun h' dd' hs => wpAny_pure (wpAny_pure (wpAny_pure ?_)))
    have he : ∃ q, h'.get? s.heap.objs.size = some q := let ⟨q, _, _, hq, _⟩ := dd'; ⟨q, hq⟩
    exact ⟨.ref s.heap.objs.size, _, d_write I3 (by rw [e]; exact True.intro) hs he (dk_new (by rw [sizeLine_eq]; simp) hd (.cons ⟨rfl, ry⟩ .nil) dd'), rfl, q2⟩
  · cases rx
    have dh : s2.heap.DictOfH (nestedKind X.prog X.w) s.heap.objs.size [] := by
      obtain ⟨o, es, ep, h1, h2, h3, h4, h5, _⟩ := dd
      have e : es.toList = [] := pairs_nil h5
      exact ⟨o, es, ep, h1, h2, h3, by rw [e]; rfl, fun _ h => by simp at h, List.nodup_nil⟩
    refine wpAny_bind (wpAny_storeAllH (knd := nestedKind X.prog X.w) (show X.A.units + 8 < cLine by omega) [(.ref b, w2)] [(kk, b, w2)] [] s2 _ ⟨rfl, rfl, key_is I3 zz rp hdp, trivial⟩ dh (by rw [sizeLine_eq]; simp) fun h' tk dd' hs => wpAny_pure (wpAny_pure (wpAny_pure ?_)))
    obtain ⟨o, es, ep, h1, h2, h3, h4, h5, h6⟩ := dd'
    exact ⟨.ref s.heap.objs.size, _, d_write I3 (by rw [e]; exact True.intro) hs ⟨o, h1⟩ (do_ok ⟨by rw [sizeLine_eq]; simp, hd, [(kk, b, w2)], .cons ⟨rfl, rfl, ry⟩ .nil, fun y hy => by simp at hy; subst hy; exact hdp, o, es, ep, h1, h2, h3, h4, h6⟩), rfl, q2⟩
end
end VS

/-! VSK: dicts: displays, stores -/
namespace VS
open PySem PySem.Spec PyProof.Rows L2

section
variable {g : G} {L : List Nat} {B : FB} {W : WX} {Z Z0 H0 : Hp} {ow0 : Ow} {env0 : Env} {σ : L2.St}
theorem PostE.seqB {α β : Type} {r : R α} {f : α → Env → R β} {Q : β → Hp → Ow → Env → Hp → Prop} {Q' : α → Hp → Ow → Env → Hp → Prop} (rel0 : RelZ g L B Z0 ow0 env0 σ H0) (h : PostE g L B W Z σ (r.bind f) Q)
    (k : ∀ a Z' ow' env' H', r = .ok a env' → RelZ g L ⟨Z0, H0, ow0, σ⟩ Z' ow' env' σ H' → Same Z Z' → PostE g L B W Z' σ (f a env') Q → Q' a Z' ow' env' H') : PostE g L ⟨Z0, H0, ow0, σ⟩ W Z σ r Q' := by
  cases r with
  | ok a e => exact fun H' Z2 ow' rel s2 => k a Z2 ow' e H' rfl rel s2 (PostE.mono s2 h)
  | exc c e => exact fun C H' Z2 ow' m rel s2 => h C H' Z2 ow' m (rel0.unbase rel) s2
  | stuck => exact h
end

section
variable {X : Cx} {L : List Nat} {W : WX} {pos : Pos}
theorem px_disp1 {k v : Expr} {fk fv : EF} (hu : X.A.units + 200 < cLine) (hk : PX X L W k fk) (hv : PX X L W v fv) : PX X L W (.Dict [some k] [v] pos) (eDict1 L fk fv) := by
  refine pe_of (pe_disp1 hu (px_V hk) (px_V hv)) fun σ H Q => ?_
  rintro ⟨B, Z, ow, env, rel, p⟩
  intro q hq
  have rel0 := rel.ext (Ext.lay (o := .dK []) rel.zh hq)
  refine ⟨_, Z, ow, env, rel0.base, PostE.seqB rel0 p fun o1 Z1 ow1 e1 H1 he1 rel1 s1 p1 v1 hv1 => ?_⟩
  refine ⟨_, Z1, ow1, e1, rel1, PostE.seqB rel0 p1 fun o2 Z2 ow2 e2 H2 he2 rel2 s2 p2 v2 hv2 => ?_⟩
  obtain ⟨dk, rfl⟩ := fV_val he1
  obtain ⟨d, rfl⟩ := fV_val he2
  obtain ⟨hq2, z2, o2⟩ := rel2.aside (b := q) upd_same (rel.notOwn hq) (rel.zh.free hq)
  refine ⟨hq2, ?_⟩
  have rel3 := rel0.unbase rel2
  have hv1 : Rp (gX X) Z2 v1 dk := Rp.mono s2 hv1
  have hv2 : Rp (gX X) Z2 v2 d := hv2
  simp only at p2
  split at p2
  · rename_i kk e
    split at p2
    · rename_i ho
      have nw : ∀ ob, OwnF (gX X) Z2 (upd H2 q ob) q (.dct [(kk, d)]) [] → Q (.ref q) (upd H2 q ob) := fun ob on => by
        refine p2 _ _ _ (rel3.garb (o := ob) z2 o2 (rel.oldH hq)) (Same.refl _) _ ⟨q, [], rfl, on, by simp, fun b hb => ?_⟩
        simp only [List.mem_singleton] at hb
        subst hb
        exact ⟨z2, o2, rel.oldH hq⟩
      unfold homog at ho
      rcases Bool.or_eq_true_iff.mp ho with w | w
      · rw [Bool.and_eq_true] at w
        obtain ⟨key, e1, e2⟩ := key_atom (H := H2) (.inl hv1) e w.1
        exact .inl ⟨key, e2, nw _ (.dK upd_same (by rw [← e1]; rfl) (.one hv2))⟩
      · rw [Bool.and_eq_true] at w
        obtain ⟨b, e1, e2, e3⟩ := key_tup (H := H2) (.inl hv1) e w.1
        exact .inr ⟨Z2, b, kk, rel3.zh, e1, e2, e3, nw _ (.dT upd_same rfl (.one e2) (.one hv2))⟩
    · exact p2.elim
  · exact p2.elim
end

theorem hu200 {k : Nat} {A : Around} (r : Room k A) : A.units + 200 < cLine := by have := r.un; omega
theorem hu64 {k : Nat} {A : Around} (r : Room k A) : A.units + 64 < cLine := by have := r.un; omega
/-! ### x[k] = e -/
def putD (dd dk d : D) : Option D := match dd, dk with
  | .lst ds, .int j => (ixN ds.length j).map fun n => .lst (ds.set n d)
  | .dct kvs, dk => (keyD dk).bind fun k => if homog kvs k = true ∧ kvs.length < sizeLine then some (.dct (dput kvs k d)) else none
  | _, _ => none
def sSetItem (L : List Nat) (i : Nat) (fk fe : EF) : SF := fun env => (fV L fe env).bind fun o e1 => match e1[i]? with
  | some (some (.own _)) => (fV L fk e1).bind fun ok e2 => (match o, ok, e2[i]? with
    | .val d, .val dk, some (some (.own dd)) => (match putD dd dk d with
      | some dd' => .ok .nx (e2.set i (some (.own dd')))
      | none => .stuck)
    | _, _, _ => .stuck)
  | _ => .stuck
/-- .. by values: the object that was somebody's own -/
def rPut (X : Cx) : TSet := fun o i v H Q => ∃ Z a bs dd di d dd', Same Z H ∧ o = .ref a ∧ OwnF (gX X) Z H a dd bs ∧ Rp (gX X) Z i di ∧ Rp (gX X) Z v d ∧ putD dd di d = some dd' ∧ ∀ ob, OwnF (gX X) Z (upd H a ob) a dd' bs → Q (upd H a ob)
section
variable {X : Cx}
theorem putD_cases {dd dk d dd' : D} (h : putD dd dk d = some dd') : (∃ ds j n, dd = .lst ds ∧ dk = .int j ∧ ixN ds.length j = some n ∧ dd' = .lst (ds.set n d)) ∨ ∃ kvs k, dd = .dct kvs ∧ keyD dk = some k ∧ homog kvs k = true ∧ kvs.length < sizeLine ∧ dd' = .dct (dput kvs k d) := by
  unfold putD at h
  split at h
  · obtain ⟨n, h1, rfl⟩ := Option.map_eq_some_iff.mp h
    exact .inl ⟨_, _, n, rfl, rfl, h1, rfl⟩
  · obtain ⟨k, e, h⟩ := Option.bind_eq_some_iff.mp h
    split at h
    · rename_i ho
      cases h
      exact .inr ⟨_, k, rfl, e, ho.1, ho.2, rfl⟩
    · cases h
  · cases h
theorem set_put (hu : X.A.units + 200 < cLine) : PSet X (rPut X) := by
  intro pins s σ H o i v ov iv u Q I ro ri rv h
  obtain ⟨Z, a, bs, dd, di, d, dd', z, rfl, on, hi, hd, hp, q⟩ := h
  rcases putD_cases hp with ⟨ds, j, n, rfl, rfl, hn, rfl⟩ | ⟨kvs, k, rfl, e, ho, hl, rfl⟩
  · cases on with
    | @lst vs _ ha rs =>
      cases hi
      exact set_list pins s σ H (.ref a) (.int j) v ov iv u Q I ro ri rv ⟨a, vs, j, n, rfl, rfl, ha, by rw [rs.length]; exact hn, q _ (.lst upd_same (rs.set hd n))⟩
  · have hb : bs = [] := by cases on <;> rfl
    subst hb
    obtain ⟨ob, hob, hmut⟩ := on.there a List.mem_cons_self
    obtain ⟨a', ea, dh⟩ := dct_heap I z (.inr ⟨a, [], rfl, on⟩)
    cases ea
    cases ro
    cases keyAt_of (H := H) I z dh (.inl hi) e ho ri with
    | atom key vs e1 is ar dd =>
      subst e1
      have ar' := ar.put key rv hd
      obtain ⟨ks, h1, h2, h3⟩ := ar'.toK
      have hlen := ar.len
      have hlen' := h1.length
      have hlen2 := ar'.len
      have hpl := dput_len kvs (nkOf key) d
      refine wpAny_setItem_pairs (hsz := by omega) is dd fun h' dd' hs => ⟨_, d_write (a := a) (t' := _) I (by rw [hob]; exact hmut) hs (let ⟨q, _, _, hq, _⟩ := dd'; ⟨q, hq⟩) (dk_new (by omega) dh.1 h1 dd'), q (.dK ks) (.dK upd_same h2 h3)⟩
    | tup b ys e1 is p hdp tr dd =>
      subst e1
      have tr' := tr.put p hdp rv hd
      obtain ⟨xs, h1, h2, h3, h4, h5⟩ := tr'.toX
      have hlen := tr.len
      have hlen' := Paired.length h1
      have hlen2 := tr'.len
      have hpl := dput_len kvs k d
      refine wpAny_setItem_heap (hsz := by omega) (nest_room hu) is dd fun h' dd' hs => ?_
      obtain ⟨o, es, ep, g1, g2, g3, g4, g5, g6⟩ := dd'
      exact ⟨_, d_write (a := a) (t' := _) I (by rw [hob]; exact hmut) hs ⟨o, g1⟩ (do_ok ⟨by omega, dh.1, _, h1, h5, o, es, ep, g1, g2, g3, g4, g6⟩), q (DO X.prog X.w a xs) (.dT upd_same h2 h3 h4)⟩
theorem pxs_setItem {L : List Nat} {W : WX} {o k e : Expr} {fk fe : EF} {i : Nat} {pos tpos : Pos} (hu : X.A.units + 200 < cLine) (ho : PE X o (tVar i)) (hk : PX X L W k fk) (he : PX X L W e fe)
    (ha : ∀ v, assign (.Subscript o k tpos) X.env v = (do
      let ov ← holding [v] (eval o X.env)
      let iv ← holding [v, ov] (eval k X.env)
      standAt tpos
      holding [v, ov, iv] (setItem ov iv v)
      release [v, ov, iv] []) := by intro _; rfl)
    (hs : swapsWithSole [.Subscript o k tpos] e pos.line X.env = pure false := by rfl) (hw : swappedStores [.Subscript o k tpos] e X.env = pure none := by rfl)
    (h1 : (assignEach [.Subscript o k tpos] X.env).map (·.2) = [assign (.Subscript o k tpos) X.env] := by rfl) :
    PXS X L W (.Assign [.Subscript o k tpos] e pos) (sSetItem L i fk fe) := by
  refine ps_of (ps_asg (px_V he) (pg_sub ho (px_V hk) (set_put hu) ha) hs hw h1) fun D σ H => ?_
  rintro ⟨B, Z, ow, env, rel, p⟩
  refine ⟨B, Z, ow, env, rel, p.seqE fun o1 Z1 ow1 e1 H1 he1 rel1 s1 p1 v1 hv1 => ?_⟩
  split at p1
  · rename_i d0 q0
    obtain ⟨a, bs, hσ, _, _⟩ := rel1.slots i _ q0
    refine ⟨.ref a, hσ, B, Z1, ow1, e1, rel1, p1.seqE fun o2 Z2 ow2 e2 H2 he2 rel2 s2 p2 v2 hv2 => ?_⟩
    obtain ⟨d, rfl⟩ := fV_val he1
    obtain ⟨dk, rfl⟩ := fV_val he2
    split at p2
    · rename_i d' dk' dd x1 x2 q2
      cases x1
      cases x2
      split at p2
      · rename_i dd' hp
        obtain ⟨a', bs', hσ', oa, on⟩ := rel2.slots i _ q2
        rw [hσ] at hσ'
        cases hσ'
        refine ⟨Z2, a, bs', dd, dk, d, dd', rel2.zh, rfl, on, hv2, Rp.mono s2 hv1, hp, fun ob on' => ?_⟩
        exact p2 σ _ Z2 ow2 (rel2.write (List.getElem?_eq_some_iff.mp q2).1 hσ oa.1 oa on') (Same.refl _)
      · exact p2.elim
    · exact p2.elim
  · exact p1.elim
end
end VS

namespace VS
open PySem PySem.Spec PyProof.Rows L2
/-! ### the law's own promise -/
def spT (K : PySem.W.Frag) : Sp := fun vs H Q _ => ∃ (a : Addr) (ns : List Int), vs = [.ref a] ∧ ns.length ≤ 63 ∧ SqL K H a (ns.map V.int) ∧ ∀ H', Q (.bl true) H'
theorem rps_ints {g : G} {Z : Hp} : ∀ ns : List Int, Rps g Z (ns.map V.int) (ns.map D.int)
  | [] => .nil
  | n :: ns => .cons (.int n) (rps_ints ns)
theorem spT_of {g : G} {F : FN} (h : ∀ ns : List Int, ns.length ≤ 63 → ∃ fin, F [.val (.scr (ns.map .int))] = .ok (.val (.bl true)) fin) (vs : List V) (H : Hp) (Q : VK) (E : XK) (s : spT g.K vs H Q E) : spF g [] 1 F vs H Q E := by
  obtain ⟨a, ns, rfl, hl, hS, q⟩ := s
  obtain ⟨fin, e⟩ := h ns hl
  refine ⟨rfl, H, fun _ => none, [.val (.scr (ns.map .int))], rfl, Same.refl H, fun b p e => by simp at e, fun i sl hi => ?_, ?_⟩
  · cases i with
    | zero =>
      simp at hi
      subst hi
      exact ⟨.ref a, rfl, .scr hS (rps_ints ns)⟩
    | succ i => simp at hi
  · rw [e]
    intro v Z' ow' H' _ hv
    have hv : Rp g Z' v (.bl true) := hv
    cases hv
    exact q H'
theorem no_out {P : Program} {w : World} {H : Hp} {s s' : Shared} {e : Value} (h : L2.CX P w [] H s (fun _ _ _ => False) e s') : False := by
  obtain ⟨_, _, _, _, _, _, _, _, _, _, _, _, z⟩ := h
  exact z.elim
end VS

namespace MIR
open PySem PySem.Spec L2 VS
def m_is_whole : FN := fnD [] 0 (sRet (eAnd2 (eOp1 (gIsi "int") (eVar 0)) (eAnd2 (eNot1 (eOp1 (gIsi "bool") (eVar 0))) (eChain (fun i j => decide (i ≤ j)) (fun i j => decide (i ≤ j)) (eVar 1) (eVar 0) (eVar 2)))))
def b1_is_web : SF := (sSeq (sIf (tOr2 (tNot1 (tst (eOp1 (gIsi "tuple") (eVar 1)))) (tOr2 (tst (eOp2 gNe (eOpN (gOne gLen) (aCons (fO (eVar 1)) aNil)) (eC (.int 2)))) (tNot1 (tst (eCall [] m_is_whole (aCons (fV [] (eOp2 gIxA (eVar 1) (eC (.int 1)))) (aCons (fV [] (eC (.int 1))) (aCons (fV [] (eOp2 gSub (eOp2 gIxA (eVar 0) (eC (.int 0))) (eC (.int 1)))) aNil)))))))) (sRet (eC (.bl false))) sNil) (sIf (tNot1 (tst (eCall [] m_is_whole (aCons (fV [] (eOp2 gIxA (eVar 1) (eC (.int 0)))) (aCons (fV [] (eC (.int 0))) (aCons (fV [] (eOp2 gSub (eOp2 gIxA (eVar 1) (eC (.int 1))) (eC (.int 1)))) aNil)))))) (sRet (eC (.bl false))) sNil))
def l1_is_web : SF := sFor (iSeq [] (eOp2 gIxA (eVar 0) (eC (.int 1)))) (dName 1) b1_is_web
def ce1_is_web : EF := (eOp2 gLt (eVar 2) (eVar 3))
def c1_is_web : EF := eComp [] (iZip (aCons (fV [] (eOp2 gIxA (eVar 0) (eC (.int 1)))) (aCons (fV [] (eSl (eOp2 gIxA (eVar 0) (eC (.int 1))) (pSome (eC (.int 1))) pNone)) aNil))) (dTup 2 (dCons (dName 2) (dCons (dName 3) dNil))) tT ce1_is_web [2, 3]
def m_is_web : FN := fnD [] 3 (sSeq (sIf (tOr2 (tNot1 (tst (eOp1 (gIsi "tuple") (eVar 0)))) (tOr2 (tst (eOp2 gNe (eOpN (gOne gLen) (aCons (fO (eVar 0)) aNil)) (eC (.int 2)))) (tNot1 (tst (eCall [] m_is_whole (aCons (fV [] (eOp2 gIxA (eVar 0) (eC (.int 0)))) (aCons (fV [] (eC (.int 1))) (aCons (fV [] (eC (.int 8))) aNil)))))))) (sRet (eC (.bl false))) sNil) (sSeq (sIf (tNot1 (tst (eOp1 (gIsi "tuple") (eOp2 gIxA (eVar 0) (eC (.int 1)))))) (sRet (eC (.bl false))) sNil) (sSeq l1_is_web (sRet (eOpN (gOne gAll) (aCons (fO c1_is_web) aNil))))))
def m_need_web : FN := fnD [] 0 (sIf (tNot1 (tst (eCall [] m_is_web (aCons (fV [] (eVar 0)) aNil)))) (sRaise "NoWeb") sNil)
def ce1_are_places : EF := (eCall [] m_is_whole (aCons (fV [] (eVar 2)) (aCons (fV [] (eC (.int 0))) (aCons (fV [] (eOp2 gSub (eVar 0) (eC (.int 1)))) aNil))))
def c1_are_places : EF := eComp [] (iSeq [] (eVar 1)) (dName 2) tT ce1_are_places [2]
def ce2_are_places : EF := (eOp2 gLt (eVar 2) (eVar 3))
def c2_are_places : EF := eComp [] (iZip (aCons (fV [] (eVar 1)) (aCons (fV [] (eSl (eVar 1) (pSome (eC (.int 1))) pNone)) aNil))) (dTup 2 (dCons (dName 2) (dCons (dName 3) dNil))) tT ce2_are_places [2, 3]
def m_are_places : FN := fnD [] 2 (sSeq (sIf (tOr2 (tNot1 (tst (eOp1 (gIsi "tuple") (eVar 1)))) (tOr2 (tst (eOp2 gEq (eVar 1) (eTup aNil))) (tNot1 (tst (eOpN (gOne gAll) (aCons (fO c1_are_places) aNil)))))) (sRet (eC (.bl false))) sNil) (sRet (eOpN (gOne gAll) (aCons (fO c2_are_places) aNil))))
def m_need_places : FN := fnD [] 0 (sIf (tNot1 (tst (eCall [] m_are_places (aCons (fV [] (eVar 0)) (aCons (fV [] (eVar 1)) aNil))))) (sRaise "NoPlaces") sNil)
def ce1_beside : EF := (eOp2 gSub (eOp2 gAdd (eVar 2) (eVar 3)) (eVar 1))
def ct1_beside : TF := (tst (eOp2 gInA (eVar 1) (eTup (aCons (fV [] (eVar 2)) (aCons (fV [] (eVar 3)) aNil)))))
def c1_beside : EF := eComp [] (iSeq [] (eOp2 gIxA (eVar 0) (eC (.int 1)))) (dTup 2 (dCons (dName 2) (dCons (dName 3) dNil))) ct1_beside ce1_beside [2, 3]
def m_beside : FN := fnD [] 2 (sRet (eOpN (gOne gSorted) (aCons (fO c1_beside) aNil)))
def b1_steps_from : SF := (sIf (tst (eOp2 gNotInA (eVar 5) (eVar 2))) (sSeq (sSetItem [] 2 (eVar 5) (eOp2 gAdd (eOp2 gIxA (eVar 2) (eVar 4)) (eC (.int 1)))) (sExpr (eMut1 [] mAppend 3 (eVar 5)))) sNil)
def l1_steps_from : SF := sFor (iSeq [] (eCall [] m_beside (aCons (fV [] (eVar 0)) (aCons (fV [] (eVar 4)) aNil)))) (dName 5) b1_steps_from
def b2_steps_from : SF := (sSeq (sSet [] 4 (eMut1 [] mPopAt 3 (eC (.int 0)))) l1_steps_from)
def t2_steps_from : TF := (tst (eOp2 gNe (eVar 3) (eLst aNil)))
def l2_steps_from : SF := sWhile t2_steps_from b2_steps_from
def m_steps_from : FN := fnD [] 4 (sSeq (sSet [] 2 (eDict1 [] (eVar 1) (eC (.int 0)))) (sSeq (sSet [] 3 (eLst (aCons (fV [] (eVar 1)) aNil))) (sSeq l2_steps_from (sRet (eVar 2)))))
def ce1_steps : EF := (eOp2 gInA (eVar 5) (eVar 4))
def c1_steps : EF := eComp [] (iSeq [] (eVar 1)) (dName 5) tT ce1_steps [5]
def ce2_steps : EF := (eOp2 gIxA (eVar 4) (eVar 5))
def c2_steps : EF := eComp [] (iSeq [] (eVar 1)) (dName 5) tT ce2_steps [5]
def b1_steps : SF := (sSeq (sSet [] 4 (eCall [] m_steps_from (aCons (fV [] (eVar 0)) (aCons (fV [] (eVar 3)) aNil)))) (sIf (tst (eOpN (gOne gAll) (aCons (fO c1_steps) aNil))) (sExpr (eMut1 [] mAppend 2 (eTup (aCons (fV [] (eOpN (gOne gSum) (aCons (fO c2_steps) aNil))) (aCons (fV [] (eVar 3)) aNil))))) sNil))
def l1_steps : SF := sFor (iRange1 (aCons (fO (eOp2 gIxA (eVar 0) (eC (.int 0)))) aNil)) (dName 3) b1_steps
def m_steps : FN := fnD [] 4 (sSeq (sExpr (eCall [] m_need_web (aCons (fV [] (eVar 0)) aNil))) (sSeq (sExpr (eCall [] m_need_places (aCons (fV [] (eOp2 gIxA (eVar 0) (eC (.int 0)))) (aCons (fV [] (eVar 1)) aNil)))) (sSeq (sSet [] 2 (eLst aNil)) (sSeq l1_steps (sRet (eIfE (tst (eOp2 gNe (eVar 2) (eLst aNil))) (eOpN gMin (aCons (fO (eVar 2)) aNil)) (eC .non)))))))
def m__law_cell_at : FN := fnD [] 0 (sSeq (sIf (tst (eOp2 gLt (eVar 1) (eOpN (gOne gLen) (aCons (fO (eVar 0)) aNil)))) (sRet (eOp2 gIxA (eVar 0) (eVar 1))) sNil) (sSeq (sIf (tst (eOp2 gEq (eVar 0) (eLst aNil))) (sRet (eC (.int 0))) sNil) (sRet (eOp2 gAdd (eOp2 gMul (eOp2 gIxA (eVar 0) (eOp2 gMod (eVar 1) (eOpN (gOne gLen) (aCons (fO (eVar 0)) aNil)))) (eC (.int 31))) (eVar 1)))))
def m__law_mixed : FN := fnD [] 1 (sSeq (sSet [] 3 (eOp2 gMod (eOp2 gMul (eOp2 gAdd (eOp2 gAdd (eCall [] m__law_cell_at (aCons (fV [] (eVar 0)) (aCons (fV [] (eVar 1)) aNil))) (eOp2 gMul (eC (.int 7919)) (eVar 1))) (eC (.int 1))) (eC (.int 48271))) (eC (.int 2147483647)))) (sRet (eOp2 gMod (eOp2 gMod (eOp2 gAdd (eOp2 gAdd (eOp2 gMul (eVar 3) (eVar 3)) (eOp2 gMul (eC (.int 7)) (eVar 3))) (eVar 1)) (eC (.int 2147483629))) (eVar 2))))
def m__law_draw : FN := fnD [1] 0 (sSeq (sExpr (eMut1 [1] mAppend 1 (eC (.int 0)))) (sRet (eCall [] m__law_mixed (aCons (fV [1] (eVar 0)) (aCons (fV [1] (eOpN (gOne gLen) (aCons (fO (eVar 1)) aNil))) (aCons (fV [1] (eVar 2)) aNil))))))
def b1__law_web : SF := (sIf (tOr2 (tst (eOp2 gLt (eCall [1] m__law_draw (aCons (fV [1] (eVar 0)) (aCons (fO (eVar 1)) (aCons (fV [1] (eC (.int 6))) aNil)))) (eVar 4))) (tAnd2 (tst (eOp2 gEq (eOp2 gSub (eVar 6) (eVar 7)) (eC (.int 1)))) (tst (eOp2 gEq (eCall [1] m__law_draw (aCons (fV [1] (eVar 0)) (aCons (fO (eVar 1)) (aCons (fV [1] (eC (.int 2))) aNil)))) (eC (.int 0)))))) (sExpr (eMut1 [1] mAppend 5 (eTup (aCons (fV [1] (eVar 7)) (aCons (fV [1] (eVar 6)) aNil))))) sNil)
def l1__law_web : SF := sFor (iRange1 (aCons (fO (eVar 6)) aNil)) (dName 7) b1__law_web
def b2__law_web : SF := l1__law_web
def l2__law_web : SF := sFor (iRange1 (aCons (fO (eVar 3)) aNil)) (dName 6) b2__law_web
def m__law_web : FN := fnD [1] 5 (sSeq (sSet [1] 3 (eOp2 gAdd (eC (.int 1)) (eCall [1] m__law_draw (aCons (fV [1] (eVar 0)) (aCons (fO (eVar 1)) (aCons (fV [1] (eVar 2)) aNil)))))) (sSeq (sSet [1] 4 (eCall [1] m__law_draw (aCons (fV [1] (eVar 0)) (aCons (fO (eVar 1)) (aCons (fV [1] (eC (.int 5))) aNil))))) (sSeq (sSet [1] 5 (eLst aNil)) (sSeq l2__law_web (sRet (eTup (aCons (fV [1] (eVar 3)) (aCons (fV [1] (eOpN (gOne gTuple) (aCons (fO (eOpN (gOne gSorted) (aCons (fO (eVar 5)) aNil))) aNil))) aNil))))))))
def ce1__law_some : EF := (eVar 4)
def ct1__law_some : TF := (tst (eOp2 gEq (eCall [1] m__law_draw (aCons (fV [1] (eVar 0)) (aCons (fO (eVar 1)) (aCons (fV [1] (eC (.int 3))) aNil)))) (eC (.int 0))))
def c1__law_some : EF := eComp [1] (iRange1 (aCons (fO (eVar 2)) aNil)) (dName 4) ct1__law_some ce1__law_some [4]
def m__law_some : FN := fnD [1] 2 (sSeq (sSet [1] 3 (eOpN (gOne gTuple) (aCons (fO c1__law_some) aNil))) (sSeq (sIf (tst (eOp2 gEq (eVar 3) (eTup aNil))) (sRet (eTup (aCons (fV [1] (eCall [1] m__law_draw (aCons (fV [1] (eVar 0)) (aCons (fO (eVar 1)) (aCons (fV [1] (eVar 2)) aNil))))) aNil))) sNil) (sRet (eVar 3))))
def b1_law : SF := (sSetItem [] 3 (eTup (aCons (fV [] (eVar 4)) (aCons (fV [] (eVar 5)) aNil))) (eIfE (tst (eOp2 gEq (eVar 4) (eVar 5))) (eC (.int 0)) (eC (.int 99))))
def l1_law : SF := sFor (iRange1 (aCons (fO (eOp2 gIxA (eVar 2) (eC (.int 0)))) aNil)) (dName 5) b1_law
def b2_law : SF := l1_law
def l2_law : SF := sFor (iRange1 (aCons (fO (eOp2 gIxA (eVar 2) (eC (.int 0)))) aNil)) (dName 4) b2_law
def b3_law : SF := (sSeq (sSetItem [] 3 (eTup (aCons (fV [] (eVar 4)) (aCons (fV [] (eVar 5)) aNil))) (eC (.int 1))) (sSetItem [] 3 (eTup (aCons (fV [] (eVar 5)) (aCons (fV [] (eVar 4)) aNil))) (eC (.int 1))))
def l3_law : SF := sFor (iSeq [] (eOp2 gIxA (eVar 2) (eC (.int 1)))) (dTup 2 (dCons (dName 4) (dCons (dName 5) dNil))) b3_law
def b4_law : SF := (sSetItem [] 3 (eTup (aCons (fV [] (eVar 4)) (aCons (fV [] (eVar 5)) aNil))) (eOpN gMin (aCons (fO (eOp2 gIxA (eVar 3) (eTup (aCons (fV [] (eVar 4)) (aCons (fV [] (eVar 5)) aNil))))) (aCons (fO (eOp2 gAdd (eOp2 gIxA (eVar 3) (eTup (aCons (fV [] (eVar 4)) (aCons (fV [] (eVar 6)) aNil)))) (eOp2 gIxA (eVar 3) (eTup (aCons (fV [] (eVar 6)) (aCons (fV [] (eVar 5)) aNil)))))) aNil))))
def l4_law : SF := sFor (iRange1 (aCons (fO (eOp2 gIxA (eVar 2) (eC (.int 0)))) aNil)) (dName 5) b4_law
def b5_law : SF := l4_law
def l5_law : SF := sFor (iRange1 (aCons (fO (eOp2 gIxA (eVar 2) (eC (.int 0)))) aNil)) (dName 4) b5_law
def b6_law : SF := l5_law
def l6_law : SF := sFor (iRange1 (aCons (fO (eOp2 gIxA (eVar 2) (eC (.int 0)))) aNil)) (dName 6) b6_law
def ce2_law : EF := (eOp2 gIxA (eVar 3) (eTup (aCons (fV [] (eVar 12)) (aCons (fV [] (eVar 11)) aNil))))
def c2_law : EF := eComp [] (iSeq [] (eVar 8)) (dName 12) tT ce2_law [12]
def ce1_law : EF := (eTup (aCons (fV [] (eOpN (gOne gSum) (aCons (fO c2_law) aNil))) (aCons (fV [] (eVar 11)) aNil)))
def c1_law : EF := eComp [] (iRange1 (aCons (fO (eOp2 gIxA (eVar 2) (eC (.int 0)))) aNil)) (dName 11) tT ce1_law [11]
def b7_law : SF := (sSeq (sSet [] 8 (eCall [1] m__law_some (aCons (fV [] (eVar 0)) (aCons (fO (eVar 1)) (aCons (fV [] (eOp2 gIxA (eVar 2) (eC (.int 0)))) aNil))))) (sSeq (sSet [] 9 c1_law) (sSeq (sSet [] 10 (eOpN gMin (aCons (fO (eVar 9)) aNil))) (sIf (tst (eOp2 gNe (eCall [] m_steps (aCons (fV [] (eVar 2)) (aCons (fV [] (eVar 8)) aNil))) (eIfE (tst (eOp2 gLt (eOp2 gIxA (eVar 10) (eC (.int 0))) (eC (.int 99)))) (eVar 10) (eC .non)))) (sRet (eC (.bl false))) sNil))))
def l7_law : SF := sFor (iRange1 (aCons (fO (eC (.int 3))) aNil)) (dName 7) b7_law
def m_law : FN := fnD [] 12 (sSeq (sSet [] 1 (eLst aNil)) (sSeq (sSet [] 2 (eCall [1] m__law_web (aCons (fV [] (eVar 0)) (aCons (fO (eVar 1)) (aCons (fV [] (eC (.int 8))) aNil))))) (sSeq (sSet [] 3 eDictN) (sSeq l2_law (sSeq l3_law (sSeq l6_law (sSeq l7_law (sRet (eC (.bl true))))))))))
end MIR
/-! PA: tools for what the mirrors give -/
namespace VS
open PySem PySem.Spec L2

/-! ### loops -/
theorem forF_inv {gD : GF} {F : SF} (I : Nat → Env → Prop) : ∀ {ds : List D} {i : Nat} {env : Env}, I i env →
    (∀ j d e, ds[j]? = some d → I (i + j) e → ∃ e1 e2 a, gD d e = some e1 ∧ F e1 = .ok a e2 ∧ (a = .nx ∨ a = .ct) ∧ I (i + j + 1) e2) → ∃ e', forF gD F ds env = .ok .nx e' ∧ I (i + ds.length) e'
  | [], i, env, h0, _ => ⟨env, rfl, h0⟩
  | d :: ds, i, env, h0, hs => by
    obtain ⟨e1, e2, a, g, f, ha, h1⟩ := hs 0 d env rfl h0
    have ih := forF_inv (gD := gD) (F := F) I (ds := ds) (i := i + 1) (env := e2) h1 (fun j d' e hj hI => by
      have := hs (j + 1) d' e (by simpa using hj) (by rw [show i + (j + 1) = i + 1 + j by omega]; exact hI)
      rw [show i + (j + 1) + 1 = i + 1 + j + 1 by omega] at this
      exact this)
    obtain ⟨e', q1, q2⟩ := ih
    refine ⟨e', ?_, by rw [List.length_cons, show i + (ds.length + 1) = i + 1 + ds.length by omega]; exact q2⟩
    simp only [forF, g]
    rcases ha with rfl | rfl <;> simp only [f, q1]
/-- over things of a type of plain Lean -/
theorem forF_map {α : Type} {gD : GF} {F : SF} (enc : α → D) (xs : List α) (I : Nat → Env → Prop) {env : Env} (h0 : I 0 env)
    (hs : ∀ j x e, xs[j]? = some x → I j e → ∃ e1 e2 a, gD (enc x) e = some e1 ∧ F e1 = .ok a e2 ∧ (a = .nx ∨ a = .ct) ∧ I (j + 1) e2) : ∃ e', forF gD F (xs.map enc) env = .ok .nx e' ∧ I xs.length e' := by
  have := forF_inv (gD := gD) (F := F) I (ds := xs.map enc) (i := 0) (env := env) h0 (fun j d e hj hI => by
    rw [List.getElem?_map] at hj
    cases hx : xs[j]? with
    | none => rw [hx] at hj; cases hj
    | some x =>
      rw [hx] at hj
      cases hj
      rw [Nat.zero_add] at hI ⊢
      exact hs j x e hx hI)
  simpa using this
/-- a loop that leaves at the first that is not p -/
theorem forF_all {α : Type} {gD : GF} {F : SF} (enc : α → D) (p : α → Bool) (o : Opd) (I : Env → Prop) : ∀ (xs : List α) {env : Env}, I env →
    (∀ x e, x ∈ xs → I e → ∃ e1 e2, gD (enc x) e = some e1 ∧ I e2 ∧ F e1 = .ok (if p x then .nx else .rt o) e2) → ∃ e', I e' ∧ forF gD F (xs.map enc) env = .ok (if xs.all p then .nx else .rt o) e'
  | [], env, h0, _ => ⟨env, h0, rfl⟩
  | x :: xs, env, h0, hs => by
    obtain ⟨e1, e2, g, h1, f⟩ := hs x env List.mem_cons_self h0
    obtain ⟨e', q1, q2⟩ := forF_all (gD := gD) (F := F) enc p o I xs h1 (fun y e hy hI => hs y e (List.mem_cons_of_mem _ hy) hI)
    by_cases hp : p x = true
    · refine ⟨e', q1, ?_⟩
      simp only [List.map_cons, forF, g, f, hp, if_true, q2, List.all_cons, Bool.true_and]
    · have hp' : p x = false := by simpa using hp
      refine ⟨e2, h1, ?_⟩
      simp only [List.map_cons, forF, g, f, hp', List.all_cons, Bool.false_and, Bool.false_eq_true, if_false]
theorem sFor_of {src : IF} {gD : GF} {F : SF} {env e1 : Env} {ds : List D} {r : R Fl} (hs : src env = .ok ds e1) (h : forF gD F ds e1 = r) : sFor src gD F env = r := by
  unfold sFor
  rw [hs]
  exact h
/-- while, by a measure -/
theorem whF_inv {T : TF} {F : SF} (I : Nat → Env → Prop) (Q : Env → Prop) : ∀ (m n : Nat) {env : Env}, m < n → I m env →
    (∀ k e, I k e → (∃ e', T e = .ok false e' ∧ Q e') ∨ ∃ e1 e2 a, T e = .ok true e1 ∧ F e1 = .ok a e2 ∧ (a = .nx ∨ a = .ct) ∧ ∃ j, j < k ∧ I j e2) → ∃ e', whF T F n env = .ok .nx e' ∧ Q e'
  | m, 0, _, h, _, _ => absurd h (Nat.not_lt_zero m)
  | m, n + 1, env, hmn, h0, hs => by
    rcases hs m env h0 with ⟨e', h1, h2⟩ | ⟨e1, e2, a, h1, h2, ha, j, hj, h3⟩
    · exact ⟨e', by simp only [whF, h1, R.bind, Bool.false_eq_true, if_false], h2⟩
    · obtain ⟨e', q1, q2⟩ := whF_inv I Q j n (by omega) h3 hs
      refine ⟨e', ?_, q2⟩
      simp only [whF, h1, R.bind, if_true]
      rcases ha with rfl | rfl <;> simp only [h2, q1]

/-! ### comprehensions -/
theorem wipeE_wipe (e : Env) (vs : List Nat) (a : Env) (h : ∀ j, j ∉ vs → a[j]? = e[j]?) (hl : a.length = e.length) : wipeE a vs = wipeE e vs := by
  apply List.ext_getElem?
  intro j
  by_cases hj : j ∈ vs
  · have : ∀ (x : Env) (us : List Nat), j ∈ us → (wipeE x us)[j]? = if j < x.length then some none else none := by
      intro x us
      induction us with
      | nil => intro h; simp at h
      | cons u us ih =>
        intro h
        simp only [wipeE, List.getElem?_set, wipeE_len]
        by_cases e : u = j
        · subst e; simp
        · rw [if_neg e]
          rcases List.mem_cons.mp h with q | q
          · exact absurd q.symm e
          · exact ih q
    rw [this a vs hj, this e vs hj, hl]
  · rw [wipeE_out hj, wipeE_out hj, h j hj]
theorem restE_get (e1 e2 : Env) (j : Nat) : ∀ vs : List Nat, (restE e1 e2 vs)[j]? = if j ∈ vs then (if j < e2.length then some (keepV e1[j]?) else none) else e2[j]?
  | [] => by simp [restE]
  | v :: vs => by
    simp only [restE, List.getElem?_set, restE_len, List.mem_cons]
    by_cases e : v = j
    · subst e; simp
    · have e' : ¬ j = v := fun q => e q.symm
      rw [if_neg e, restE_get e1 e2 j vs]
      simp [e']
/-- the names of a block get back what they held -/
theorem restE_same {e1 e2 : Env} {vs : List Nat} (h : wipeE e2 vs = wipeE e1 vs) (hv : ∀ v ∈ vs, keepV e1[v]? = (e1[v]?).join) : restE e1 e2 vs = e1 := by
  have hl : e2.length = e1.length := by
    have := congrArg List.length h
    rwa [wipeE_len, wipeE_len] at this
  apply List.ext_getElem?
  intro j
  rw [restE_get]
  by_cases hj : j ∈ vs
  · rw [if_pos hj, hv j hj, hl]
    by_cases q : j < e1.length
    · rw [if_pos q, List.getElem?_eq_getElem q]
      rfl
    · rw [if_neg q, List.getElem?_eq_none (by omega)]
  · rw [if_neg hj, ← wipeE_out (env := e2) hj, h, wipeE_out hj]
theorem compF_pure {α : Type} {L : List Nat} {gD : GF} {T : TF} {f : EF} {vs : List Nat} (enc : α → D) (p : α → Bool) (h : α → D) (e1 : Env) : ∀ (xs : List α) (acc : List D) (env : Env), wipeE env vs = wipeE e1 vs → acc.length + xs.length ≤ sizeLine →
    (∀ x ∈ xs, ∃ e2, gD (enc x) (wipeE e1 vs) = some e2 ∧ wipeE e2 vs = wipeE e1 vs ∧ T e2 = .ok (p x) e2 ∧ (p x = true → fV L f e2 = .ok (.val (h x)) e2)) →
    ∃ env', wipeE env' vs = wipeE e1 vs ∧ compF L gD T f vs (xs.map enc) acc env = .ok (acc ++ (xs.filter p).map h) env'
  | [], acc, env, hw, _, _ => ⟨env, hw, by simp [compF]⟩
  | x :: xs, acc, env, hw, hl, hb => by
    obtain ⟨e2, g, w, t, k⟩ := hb x List.mem_cons_self
    rw [List.length_cons] at hl
    by_cases hp : p x = true
    · obtain ⟨env', q1, q2⟩ := compF_pure (L := L) (gD := gD) (T := T) (f := f) (vs := vs) enc p h e1 xs (acc ++ [h x]) e2 w (by rw [List.length_append]; simp; omega) (fun y hy => hb y (List.mem_cons_of_mem _ hy))
      refine ⟨env', q1, ?_⟩
      have hlt : acc.length < sizeLine := by omega
      simp only [List.map_cons, compF, hw, g, t, hp, noX, R.bind, if_true, k hp, if_pos hlt, q2, List.filter_cons]
      simp
    · have hp' : p x = false := by simpa using hp
      obtain ⟨env', q1, q2⟩ := compF_pure (L := L) (gD := gD) (T := T) (f := f) (vs := vs) enc p h e1 xs acc e2 w (by omega) (fun y hy => hb y (List.mem_cons_of_mem _ hy))
      refine ⟨env', q1, ?_⟩
      simp only [List.map_cons, compF, hw, g, t, hp', noX, R.bind, Bool.false_eq_true, if_false, q2, List.filter_cons]
theorem eComp_pure {α : Type} {L : List Nat} {src : IF} {gD : GF} {T : TF} {f : EF} {vs : List Nat} {env e1 : Env} (enc : α → D) (xs : List α) (p : α → Bool) (h : α → D) (hs : src env = .ok (xs.map enc) e1) (hv : ∀ v ∈ vs, keepV e1[v]? = (e1[v]?).join) (hl : xs.length ≤ sizeLine)
    (hb : ∀ x ∈ xs, ∃ e2, gD (enc x) (wipeE e1 vs) = some e2 ∧ wipeE e2 vs = wipeE e1 vs ∧ T e2 = .ok (p x) e2 ∧ (p x = true → fV L f e2 = .ok (.val (h x)) e2)) : eComp L src gD T f vs env = .ok (.fresh (.lst ((xs.filter p).map h))) e1 := by
  obtain ⟨env', q1, q2⟩ := compF_pure (L := L) (gD := gD) (T := T) (f := f) (vs := vs) enc p h e1 xs [] e1 rfl (by simpa using hl) hb
  simp only [eComp, hs, R.bind, q2, List.nil_append, restE_same q1 hv]

/-! ### evaluation, from the inside out -/
section ev
variable {α β : Type} {env e : Env} {L : List Nat} {i : Nat} {d : D} {o : Opd} {f f1 f2 f3 : EF} {T T' : TF} {F F' : SF} {a : AF}
theorem ev_ok {x : α} {k : α → Env → R β} : R.bind (.ok x e) k = k x e := (rfl)
theorem ev_exc {c : Str} {k : α → Env → R β} : R.bind (.exc c e) k = .exc c e := (rfl)
def seqR (r : R Fl) (F : SF) : R Fl := match r with
  | .ok .nx e => F e
  | r => r
theorem ev_seq : sSeq F F' env = seqR (F env) F' := by unfold sSeq seqR; rfl
theorem ev_seq_nx : seqR (.ok .nx e) F = F e := (rfl)
theorem ev_seq_rt : seqR (.ok (.rt o) e) F = .ok (.rt o) e := (rfl)
theorem ev_seq_bk : seqR (.ok .bk e) F = .ok .bk e := (rfl)
theorem ev_seq_ct : seqR (.ok .ct e) F = .ok .ct e := (rfl)
theorem ev_seq_exc {c : Str} : seqR (.exc c e) F = .exc c e := (rfl)
theorem ev_seq_if {b : Prop} [Decidable b] {x y : R Fl} : seqR (if b then x else y) F = if b then seqR x F else seqR y F := by split <;> rfl
def kExpr (_ : Opd) (e : Env) : R Fl := .ok .nx e
theorem ev_expr : sExpr f env = (f env).bind kExpr := (rfl)
theorem ev_kExpr : kExpr o e = .ok .nx e := (rfl)
def kRet (o : Opd) (e : Env) : R Fl := .ok (.rt o) e
theorem ev_ret : sRet f env = (f env).bind kRet := (rfl)
theorem ev_kRet : kRet o e = .ok (.rt o) e := (rfl)
theorem ev_retN : sRetN env = .ok (.rt (.val .non)) env := (rfl)
theorem ev_nil : sNil env = .ok .nx env := (rfl)
theorem ev_brk : sBrk env = .ok .bk env := (rfl)
theorem ev_ct : sCt env = .ok .ct env := (rfl)
theorem ev_raise {c : Str} : sRaise c env = .exc c env := (rfl)
def kIf (F F' : SF) (b : Bool) (e : Env) : R Fl := if b = true then F e else F' e
theorem ev_if : sIf T F F' env = (T env).bind (kIf F F') := (rfl)
theorem ev_kIf {b : Bool} : kIf F F' b e = if b = true then F e else F' e := (rfl)
theorem ev_set : sSet L i f env = (f env).bind (setOpd L i) := (rfl)
theorem ev_set_val : setOpd L i (.val d) e = .ok .nx (e.set i (some (.val d))) := (rfl)
theorem ev_set_fresh : setOpd L i (.fresh d) e = .ok .nx (e.set i (some (.own d))) := (rfl)
def kSetS (i : Nat) (o : Opd) (e : Env) : R Fl := match o with
    | .val d => .ok .nx (e.set i (some (.val d)))
    | _ => .stuck
theorem ev_set_slot {j : Nat} : setOpd L i (.slot j) e = (toVal L (.slot j) e).bind (kSetS i) := by unfold setOpd kSetS; rfl
theorem ev_kSetS : kSetS i (.val d) e = .ok .nx (e.set i (some (.val d))) := (rfl)
def varR (s : Option (Option Slot)) (i : Nat) (env : Env) : R Opd := match s with
  | some (some (.val d)) => .ok (.val d) env
  | some (some (.own _)) => .ok (.slot i) env
  | _ => .stuck
theorem ev_var : eVar i env = varR env[i]? i env := (rfl)
theorem ev_var_val : varR (some (some (.val d))) i env = .ok (.val d) env := (rfl)
theorem ev_var_own : varR (some (some (.own d))) i env = .ok (.slot i) env := (rfl)
theorem ev_c : eC d env = .ok (.val d) env := (rfl)
def fOr (r : R Opd) : R Opd := match r with
  | .ok (.fresh (.lst l)) e => .ok (.val (.lst l)) e
  | .ok (.fresh _) _ => .stuck
  | r => r
theorem ev_fO : fO f env = fOr (f env) := by unfold fO fOr; rfl
theorem ev_fO_val : fOr (.ok (.val d) e) = .ok (.val d) e := (rfl)
theorem ev_fO_slot : fOr (.ok (.slot i) e) = .ok (.slot i) e := (rfl)
theorem ev_fO_lst {l : List D} : fOr (.ok (.fresh (.lst l)) e) = .ok (.val (.lst l)) e := (rfl)
theorem ev_fO_exc {c : Str} : fOr (.exc c e) = .exc c e := (rfl)
theorem ev_fO_if {b : Prop} [Decidable b] {x y : R Opd} : fOr (if b then x else y) = if b then fOr x else fOr y := by split <;> rfl
theorem ev_fV : fV L f env = (fO f env).bind (toVal L) := (rfl)
theorem ev_toVal_val : toVal L (.val d) e = .ok (.val d) e := (rfl)
def toValS (L : List Nat) (i : Nat) (s : Option (Option Slot)) (env : Env) : R Opd := match s with
  | some (some (.val d)) => .ok (.val d) env
  | some (some (.own (.lst l))) => if i ∈ L then .stuck else .ok (.val (.lst l)) (env.set i (some (.val (.lst l))))
  | _ => .stuck
theorem ev_toVal_slot : toVal L (.slot i) e = toValS L i e[i]? e := (rfl)
theorem ev_toValS_own {l : List D} : toValS L i (some (some (.own (.lst l)))) e = if i ∈ L then .stuck else .ok (.val (.lst l)) (e.set i (some (.val (.lst l)))) := (rfl)
theorem ev_toValS_val : toValS L i (some (some (.val d))) e = .ok (.val d) e := (rfl)
theorem ev_aNil : aNil env = .ok [] env := (rfl)
def kCons2 (o : Opd) (os : List Opd) (e : Env) : R (List Opd) := .ok (o :: os) e
def kCons1 (r : AF) (o : Opd) (e : Env) : R (List Opd) := (r e).bind (kCons2 o)
theorem ev_aCons {r : AF} : aCons f r env = (f env).bind (kCons1 r) := (rfl)
theorem ev_kCons1 {r : AF} : kCons1 r o e = (r e).bind (kCons2 o) := (rfl)
theorem ev_kCons2 {os : List Opd} : kCons2 o os e = .ok (o :: os) e := (rfl)
theorem ev_lift_some : lift (some o) e = .ok o e := (rfl)
def rdS (s : Option (Option Slot)) : Option D := match s with
  | some (some (.val d)) => some d
  | some (some (.own d)) => some d
  | _ => none
theorem ev_rd_val : rd e (.val d) = some d := (rfl)
theorem ev_rd_fresh : rd e (.fresh d) = some d := (rfl)
theorem ev_rd_slot : rd e (.slot i) = rdS e[i]? := (rfl)
theorem ev_rdS_val : rdS (some (some (.val d))) = some d := (rfl)
theorem ev_rdS_own : rdS (some (some (.own d))) = some d := (rfl)
theorem ev_rds_nil : rds e [] = some [] := (rfl)
def consO (x : Option D) (y : Option (List D)) : Option (List D) := match x, y with
  | some d, some ds => some (d :: ds)
  | _, _ => none
theorem ev_rds_cons {os : List Opd} : rds e (o :: os) = consO (rd e o) (rds e os) := (rfl)
theorem ev_consO {ds : List D} : consO (some d) (some ds) = some (d :: ds) := (rfl)
def kOp1 (gd : D → Option Opd) (o : Opd) (e : Env) : R Opd := lift ((rd e o).bind gd) e
theorem ev_op1 {gd : D → Option Opd} : eOp1 gd f env = (fO f env).bind (kOp1 gd) := (rfl)
theorem ev_kOp1 {gd : D → Option Opd} : kOp1 gd o e = lift ((rd e o).bind gd) e := (rfl)
def op2R (gd : D → D → Option Opd) (x y : Option D) : Option Opd := x.bind fun d1 => y.bind (gd d1)
theorem ev_op2R {gd : D → D → Option Opd} {x y : D} : op2R gd (some x) (some y) = gd x y := (rfl)
def kOp2b (gd : D → D → Option Opd) (o1 o2 : Opd) (e2 : Env) : R Opd := lift (op2R gd (rd e2 o1) (rd e2 o2)) e2
def kOp2a (gd : D → D → Option Opd) (f2 : EF) (o1 : Opd) (e1 : Env) : R Opd := (fO f2 e1).bind (kOp2b gd o1)
theorem ev_op2 {gd : D → D → Option Opd} : eOp2 gd f1 f2 env = (fO f1 env).bind (kOp2a gd f2) := (rfl)
theorem ev_kOp2a {gd : D → D → Option Opd} : kOp2a gd f2 o e = (fO f2 e).bind (kOp2b gd o) := (rfl)
theorem ev_kOp2b {gd : D → D → Option Opd} {o1 o2 : Opd} : kOp2b gd o1 o2 e = lift (op2R gd (rd e o1) (rd e o2)) e := (rfl)
def kOpN (gd : List D → Option Opd) (os : List Opd) (e : Env) : R Opd := lift ((rds e os).bind gd) e
theorem ev_opN {gd : List D → Option Opd} : eOpN gd a env = (a env).bind (kOpN gd) := (rfl)
theorem ev_kOpN {gd : List D → Option Opd} {os : List Opd} : kOpN gd os e = lift ((rds e os).bind gd) e := (rfl)
theorem ev_one {gd : D → Option Opd} : gOne gd [d] = gd d := (rfl)
def tupR (r : Option (List D)) (e : Env) : R Opd := match r with
  | some ds => .ok (.val (.tup ds)) e
  | none => .stuck
def lstR (r : Option (List D)) (e : Env) : R Opd := match r with
  | some ds => .ok (.fresh (.lst ds)) e
  | none => .stuck
def kTup (os : List Opd) (e : Env) : R Opd := tupR (valsOf os) e
def kLst (os : List Opd) (e : Env) : R Opd := lstR (valsOf os) e
theorem ev_tup : eTup a env = (a env).bind kTup := by unfold eTup kTup tupR; rfl
theorem ev_lst : eLst a env = (a env).bind kLst := by unfold eLst kLst lstR; rfl
theorem ev_kTup {os : List Opd} : kTup os e = tupR (valsOf os) e := (rfl)
theorem ev_kLst {os : List Opd} : kLst os e = lstR (valsOf os) e := (rfl)
theorem ev_tupR {ds : List D} : tupR (some ds) e = .ok (.val (.tup ds)) e := (rfl)
theorem ev_lstR {ds : List D} : lstR (some ds) e = .ok (.fresh (.lst ds)) e := (rfl)
theorem ev_valsOf_nil : valsOf [] = some [] := (rfl)
theorem ev_valsOf_cons {os : List Opd} : valsOf (.val d :: os) = (valsOf os).map (d :: ·) := (rfl)
def kIfE (f1 f2 : EF) (b : Bool) (e : Env) : R Opd := if b = true then f1 e else f2 e
theorem ev_ifE : eIfE T f1 f2 env = (T env).bind (kIfE f1 f2) := (rfl)
theorem ev_kIfE {b : Bool} : kIfE f1 f2 b e = if b = true then f1 e else f2 e := (rfl)
def andR (x : Option D) (r : EF) (e : Env) : R Opd := match x with
  | some (.bl true) => r e
  | some (.bl false) => .ok (.val (.bl false)) e
  | _ => .stuck
def orR (x : Option D) (r : EF) (e : Env) : R Opd := match x with
  | some (.bl false) => r e
  | some (.bl true) => .ok (.val (.bl true)) e
  | _ => .stuck
def kAnd (f2 : EF) (o : Opd) (e : Env) : R Opd := andR (rd e o) f2 e
def kOr (f2 : EF) (o : Opd) (e : Env) : R Opd := orR (rd e o) f2 e
theorem ev_and : eAnd2 f1 f2 env = (f1 env).bind (kAnd f2) := by unfold eAnd2 kAnd andR; rfl
theorem ev_or : eOr2 f1 f2 env = (f1 env).bind (kOr f2) := by unfold eOr2 kOr orR; rfl
theorem ev_kAnd : kAnd f2 o e = andR (rd e o) f2 e := (rfl)
theorem ev_kOr : kOr f2 o e = orR (rd e o) f2 e := (rfl)
theorem ev_andR {b : Bool} : andR (some (.bl b)) f e = if b = true then f e else .ok (.val (.bl false)) e := by cases b <;> rfl
theorem ev_orR {b : Bool} : orR (some (.bl b)) f e = if b = true then .ok (.val (.bl true)) e else f e := by cases b <;> rfl
def notR (x : Option D) (e : Env) : R Opd := match x with
  | some (.bl b) => .ok (.val (.bl (!b))) e
  | _ => .stuck
def kNot (o : Opd) (e : Env) : R Opd := notR (rd e o) e
theorem ev_not : eNot1 f env = (f env).bind kNot := by unfold eNot1 kNot notR; rfl
theorem ev_kNot : kNot o e = notR (rd e o) e := (rfl)
theorem ev_notR {b : Bool} : notR (some (.bl b)) e = .ok (.val (.bl (!b))) e := (rfl)
def tstR (x : Option D) (e : Env) : R Bool := match x with
  | some (.bl b) => .ok b e
  | _ => .stuck
def kTst (o : Opd) (e : Env) : R Bool := tstR (rd e o) e
theorem ev_tst : tst f env = (f env).bind kTst := by unfold tst kTst tstR; rfl
theorem ev_kTst : kTst o e = tstR (rd e o) e := (rfl)
theorem ev_tstR {b : Bool} : tstR (some (.bl b)) e = .ok b e := (rfl)
def kTAnd (T' : TF) (b : Bool) (e : Env) : R Bool := if b = true then T' e else .ok false e
def kTOr (T' : TF) (b : Bool) (e : Env) : R Bool := if b = true then .ok true e else T' e
def kTNot (b : Bool) (e : Env) : R Bool := .ok (!b) e
theorem ev_tAnd : tAnd2 T T' env = (T env).bind (kTAnd T') := (rfl)
theorem ev_tOr : tOr2 T T' env = (T env).bind (kTOr T') := (rfl)
theorem ev_tNot : tNot1 T env = (T env).bind kTNot := (rfl)
theorem ev_kTAnd {b : Bool} : kTAnd T' b e = if b = true then T' e else .ok false e := (rfl)
theorem ev_kTOr {b : Bool} : kTOr T' b e = if b = true then .ok true e else T' e := (rfl)
theorem ev_kTNot {b : Bool} : kTNot b e = .ok (!b) e := (rfl)
theorem ev_tT : tT env = .ok true env := (rfl)
theorem ev_mAndV {b c : Bool} : (if b = true then R.ok (Opd.val (.bl c)) e else R.ok (Opd.val (.bl false)) e) = R.ok (Opd.val (.bl (b && c))) e := by cases b <;> rfl
theorem ev_mOrV {b c : Bool} : (if b = true then R.ok (Opd.val (.bl true)) e else R.ok (Opd.val (.bl c)) e) = R.ok (Opd.val (.bl (b || c))) e := by cases b <;> rfl
theorem ev_mAnd {b c : Bool} : (if b = true then R.ok c e else R.ok false e) = R.ok (b && c) e := by cases b <;> rfl
theorem ev_mOr {b c : Bool} : (if b = true then R.ok true e else R.ok c e) = R.ok (b || c) e := by cases b <;> rfl
def chR2 (p' : Int → Int → Bool) (j : Int) (x : Option D) (e3 : Env) : R Opd := match x with
  | some (.int k) => .ok (.val (.bl (p' j k))) e3
  | _ => .stuck
def kCh3 (p' : Int → Int → Bool) (j : Int) (o3 : Opd) (e3 : Env) : R Opd := chR2 p' j (rd e3 o3) e3
def chR (p p' : Int → Int → Bool) (f3 : EF) (e2 : Env) (x y : Option D) : R Opd := match x, y with
  | some (.int i), some (.int j) => if p i j then (fO f3 e2).bind (kCh3 p' j) else .ok (.val (.bl false)) e2
  | _, _ => .stuck
def kCh2 (p p' : Int → Int → Bool) (f3 : EF) (o1 o2 : Opd) (e2 : Env) : R Opd := chR p p' f3 e2 (rd e2 o1) (rd e2 o2)
def kCh1 (p p' : Int → Int → Bool) (f2 f3 : EF) (o1 : Opd) (e1 : Env) : R Opd := (fO f2 e1).bind (kCh2 p p' f3 o1)
theorem ev_chain {p p' : Int → Int → Bool} : eChain p p' f1 f2 f3 env = (fO f1 env).bind (kCh1 p p' f2 f3) := by unfold eChain kCh1 kCh2 chR kCh3 chR2; rfl
theorem ev_kCh1 {p p' : Int → Int → Bool} : kCh1 p p' f2 f3 o e = (fO f2 e).bind (kCh2 p p' f3 o) := (rfl)
theorem ev_kCh2 {p p' : Int → Int → Bool} {o1 o2 : Opd} : kCh2 p p' f3 o1 o2 e = chR p p' f3 e (rd e o1) (rd e o2) := (rfl)
theorem ev_chR {p p' : Int → Int → Bool} {i j : Int} : chR p p' f3 e (some (.int i)) (some (.int j)) = if p i j = true then (fO f3 e).bind (kCh3 p' j) else .ok (.val (.bl false)) e := (rfl)
theorem ev_kCh3 {p' : Int → Int → Bool} {j : Int} : kCh3 p' j o e = chR2 p' j (rd e o) e := (rfl)
theorem ev_chR2 {p' : Int → Int → Bool} {j k : Int} : chR2 p' j (some (.int k)) e = .ok (.val (.bl (p' j k))) e := (rfl)
def backR (e : Env) (ls : List (Nat × Nat)) (r : R Slot) : R Opd := match r with
  | .ok (.val d) fin => .ok (.val d) (backE e fin ls)
  | .ok (.own d) fin => .ok (.fresh d) (backE e fin ls)
  | .exc c fin => .exc c (backE e fin ls)
  | .stuck => .stuck
def callA (L : List Nat) (F : FN) (e : Env) (ls : List (Nat × Nat)) (x : Option (List Slot)) : R Opd := match x with
  | some sl => if lendOk L ls = true then backR e ls (F sl) else .stuck
  | none => .stuck
theorem ev_call {F : FN} : eCall L F a env = (a env).bind (callO L F) := (rfl)
theorem ev_callO {F : FN} {os : List Opd} : callO L F os e = callA L F e (lends e 0 os) (argSlots e os) := by unfold callO callA backR; rfl
theorem ev_callA {F : FN} {ls : List (Nat × Nat)} {sl : List Slot} : callA L F e ls (some sl) = if lendOk L ls = true then backR e ls (F sl) else .stuck := (rfl)
theorem ev_backR_val {ls : List (Nat × Nat)} {fin : Env} : backR e ls (.ok (.val d) fin) = .ok (.val d) (backE e fin ls) := (rfl)
theorem ev_backR_own {ls : List (Nat × Nat)} {fin : Env} : backR e ls (.ok (.own d) fin) = .ok (.fresh d) (backE e fin ls) := (rfl)
theorem ev_backR_exc {ls : List (Nat × Nat)} {fin : Env} {c : Str} : backR e ls (.exc c fin) = .exc c (backE e fin ls) := (rfl)
theorem ev_backE_nil {fin : Env} : backE e fin [] = e := (rfl)
theorem ev_backE_cons {fin : Env} {j : Nat} {r : List (Nat × Nat)} : backE e fin ((i, j) :: r) = (backE e fin r).set j (backS fin i) := (rfl)
def backSS (s : Option (Option Slot)) : Option Slot := match s with
  | some (some (.own d)) => some (.own d)
  | _ => none
theorem ev_backS {fin : Env} : backS fin i = backSS fin[i]? := (rfl)
theorem ev_backSS : backSS (some (some (.own d))) = some (.own d) := (rfl)
theorem ev_argS_nil : argSlots e [] = some [] := (rfl)
def consS (x : Option Slot) (y : Option (List Slot)) : Option (List Slot) := match x, y with
  | some s, some ss => some (s :: ss)
  | _, _ => none
theorem ev_argS_cons {os : List Opd} : argSlots e (o :: os) = consS (argSlot e o) (argSlots e os) := (rfl)
theorem ev_consS {s : Slot} {ss : List Slot} : consS (some s) (some ss) = some (s :: ss) := (rfl)
theorem ev_arg_val : argSlot e (.val d) = some (.val d) := (rfl)
theorem ev_arg_slot : argSlot e (.slot i) = (e[i]?).join := by
  show (match e[i]? with | some (some s) => some s | _ => none) = _
  cases h : e[i]? with
  | none => rfl
  | some x => cases x <;> rfl
theorem ev_join {s : Slot} : (some (some s)).join = some s := (rfl)
theorem ev_lends_nil : lends e i [] = [] := (rfl)
theorem ev_lends_val {os : List Opd} : lends e i (.val d :: os) = lends e (i + 1) os := (rfl)
def isOwnS (s : Option (Option Slot)) : Bool := match s with
  | some (some (.own _)) => true
  | _ => false
theorem ev_lends_slot {j : Nat} {os : List Opd} : lends e i (.slot j :: os) = if isOwnS e[j]? = true then (i, j) :: lends e (i + 1) os else lends e (i + 1) os := (rfl)
theorem ev_isOwnS : isOwnS (some (some (.own d))) = true := (rfl)
theorem ev_isOwnV : isOwnS (some (some (.val d))) = false := (rfl)
theorem ev_lendOk_nil : lendOk L [] = true := by simp [lendOk]
theorem ev_lendOk_one {j : Nat} : lendOk L [(i, j)] = decide (i ∈ L) := by simp [lendOk]
theorem ev_lendOk_two {j i' j' : Nat} : lendOk L [(i, j), (i', j')] = (decide (j ≠ j') && (decide (i ∈ L) && decide (i' ∈ L))) := by simp [lendOk]
def mut1S (i : Nat) (e : Env) (x : Option (D × List D)) : R Opd := match x with
  | some (r, ds') => .ok (.val r) (e.set i (some (.own (.lst ds'))))
  | none => .stuck
def mut1Q (gm : List D → D → Option (D × List D)) (i : Nat) (o : Opd) (e : Env) (s : Option (Option Slot)) : R Opd := match o, s with
  | .val d, some (some (.own (.lst ds))) => mut1S i e (gm ds d)
  | _, _ => .stuck
def kMut1 (gm : List D → D → Option (D × List D)) (i : Nat) (o : Opd) (e : Env) : R Opd := mut1Q gm i o e e[i]?
def mut1R (L : List Nat) (gm : List D → D → Option (D × List D)) (i : Nat) (f : EF) (env : Env) (s : Option (Option Slot)) : R Opd := match s with
  | some (some (.own (.lst _))) => (fV L f env).bind (kMut1 gm i)
  | _ => .stuck
theorem ev_mut1 {gm : List D → D → Option (D × List D)} : eMut1 L gm i f env = mut1R L gm i f env env[i]? := by unfold eMut1 mut1R kMut1 mut1Q mut1S; rfl
theorem ev_mut1R {gm : List D → D → Option (D × List D)} {l : List D} : mut1R L gm i f env (some (some (.own (.lst l)))) = (fV L f env).bind (kMut1 gm i) := (rfl)
theorem ev_kMut1 {gm : List D → D → Option (D × List D)} : kMut1 gm i o e = mut1Q gm i o e e[i]? := (rfl)
theorem ev_mut1Q {gm : List D → D → Option (D × List D)} {l : List D} : mut1Q gm i (.val d) e (some (some (.own (.lst l)))) = mut1S i e (gm l d) := (rfl)
theorem ev_mut1S {r : D} {l : List D} : mut1S i e (some (r, l)) = .ok (.val r) (e.set i (some (.own (.lst l)))) := (rfl)
def mut0R (gm : List D → Option (D × List D)) (i : Nat) (env : Env) (s : Option (Option Slot)) : R Opd := match s with
  | some (some (.own (.lst ds))) => mut1S i env (gm ds)
  | _ => .stuck
theorem ev_mut0 {gm : List D → Option (D × List D)} : eMut0 gm i env = mut0R gm i env env[i]? := (rfl)
theorem ev_mut0R {gm : List D → Option (D × List D)} {l : List D} : mut0R gm i e (some (some (.own (.lst l)))) = mut1S i e (gm l) := (rfl)
def siS (i : Nat) (e : Env) (x : Option D) : R Fl := match x with
  | some dd' => .ok .nx (e.set i (some (.own dd')))
  | none => .stuck
def siQ (i : Nat) (o ok : Opd) (e2 : Env) (s : Option (Option Slot)) : R Fl := match o, ok, s with
    | .val d, .val dk, some (some (.own dd)) => siS i e2 (putD dd dk d)
    | _, _, _ => .stuck
def kSi2 (i : Nat) (o ok : Opd) (e2 : Env) : R Fl := siQ i o ok e2 e2[i]?
def siR (L : List Nat) (i : Nat) (fk : EF) (o : Opd) (e1 : Env) (s : Option (Option Slot)) : R Fl := match s with
  | some (some (.own _)) => (fV L fk e1).bind (kSi2 i o)
  | _ => .stuck
def kSi1 (L : List Nat) (i : Nat) (fk : EF) (o : Opd) (e : Env) : R Fl := siR L i fk o e e[i]?
theorem ev_setItem {fk fe : EF} : sSetItem L i fk fe env = (fV L fe env).bind (kSi1 L i fk) := by unfold sSetItem kSi1 siR kSi2 siQ siS; rfl
theorem ev_kSi1 {fk : EF} : kSi1 L i fk o e = siR L i fk o e e[i]? := (rfl)
theorem ev_siR {fk : EF} : siR L i fk o e (some (some (.own d))) = (fV L fk e).bind (kSi2 i o) := (rfl)
theorem ev_kSi2 {ok : Opd} : kSi2 i o ok e = siQ i o ok e e[i]? := (rfl)
theorem ev_siQ {d dk dd : D} : siQ i (.val d) (.val dk) e (some (some (.own dd))) = siS i e (putD dd dk d) := (rfl)
theorem ev_siS : siS i e (some d) = .ok .nx (e.set i (some (.own d))) := (rfl)
def dict1R (o1 o2 : Opd) (e2 : Env) : R Opd := match o1, o2 with
  | .val dk, .val d => (match keyD dk with
    | some k => if homog [] k = true then .ok (.fresh (.dct [(k, d)])) e2 else .stuck
    | none => .stuck)
  | _, _ => .stuck
def dict1S (x : Option NestedKey) (d : D) (e : Env) : R Opd := match x with
  | some k => if homog [] k = true then .ok (.fresh (.dct [(k, d)])) e else .stuck
  | none => .stuck
def kDi1 (L : List Nat) (fv : EF) (o1 : Opd) (e1 : Env) : R Opd := (fV L fv e1).bind (dict1R o1)
theorem ev_dict1 {fk fv : EF} : eDict1 L fk fv env = (fV L fk env).bind (kDi1 L fv) := by unfold eDict1 kDi1 dict1R; rfl
theorem ev_kDi1 {fv : EF} : kDi1 L fv o e = (fV L fv e).bind (dict1R o) := (rfl)
theorem ev_dict1R {dk : D} : dict1R (.val dk) (.val d) e = dict1S (keyD dk) d e := (rfl)
theorem ev_dict1S {k : NestedKey} : dict1S (some k) d e = if homog [] k = true then .ok (.fresh (.dct [(k, d)])) e else .stuck := (rfl)
theorem ev_dictN : eDictN env = .ok (.fresh (.dct [])) env := (rfl)
def pSomeR (x : Option D) (e : Env) : R (Option Int) := match x with
  | some (.int i) => .ok (some i) e
  | _ => .stuck
theorem ev_pNone : pNone env = .ok none env := (rfl)
def kPS (o : Opd) (e : Env) : R (Option Int) := pSomeR (rd e o) e
theorem ev_pSome : pSome f env = (f env).bind kPS := by unfold pSome kPS pSomeR; rfl
theorem ev_kPS : kPS o e = pSomeR (rd e o) e := (rfl)
theorem ev_pSomeR {j : Int} : pSomeR (some (.int j)) e = .ok (some j) e := (rfl)
def slR (x : Option D) (l u : Option Int) : Option Opd := x.bind fun d => gSl d l u
theorem ev_slR {l u : Option Int} : slR (some d) l u = gSl d l u := (rfl)
def kSl3 (o : Opd) (l u : Option Int) (e : Env) : R Opd := lift (slR (rd e o) l u) e
def kSl2 (hi : Env → R (Option Int)) (o : Opd) (l : Option Int) (e : Env) : R Opd := (hi e).bind (kSl3 o l)
def kSl1 (lo hi : Env → R (Option Int)) (o : Opd) (e : Env) : R Opd := (lo e).bind (kSl2 hi o)
theorem ev_sl {lo hi : Env → R (Option Int)} : eSl f lo hi env = (fO f env).bind (kSl1 lo hi) := (rfl)
theorem ev_kSl1 {lo hi : Env → R (Option Int)} : kSl1 lo hi o e = (lo e).bind (kSl2 hi o) := (rfl)
theorem ev_kSl2 {hi : Env → R (Option Int)} {l : Option Int} : kSl2 hi o l e = (hi e).bind (kSl3 o l) := (rfl)
theorem ev_kSl3 {l u : Option Int} : kSl3 o l u e = lift (slR (rd e o) l u) e := (rfl)
/-- a def's end -/
def retR (L : List Nat) (r : R Fl) : R Slot := match r with
  | .ok (.rt o) e => retD L o e
  | .ok .nx e => .ok (.val .non) e
  | .exc c e => .exc c e
  | _ => .stuck
def nones : Nat → Env
  | 0 => []
  | m + 1 => none :: nones m
theorem nones_eq : ∀ m : Nat, nones m = List.replicate m none
  | 0 => rfl
  | m + 1 => by rw [nones, nones_eq m, List.replicate_succ]
theorem ev_nones0 : nones 0 = [] := (rfl)
theorem ev_nones {m : Nat} : nones (m + 1) = none :: nones m := (rfl)
theorem ev_fn {m : Nat} {as : List Slot} : fnD L m F as = retR L (F (as.map some ++ nones m)) := by rw [nones_eq]; rfl
theorem ev_retR_rt : retR L (.ok (.rt o) e) = retD L o e := (rfl)
theorem ev_retR_nx : retR L (.ok .nx e) = .ok (.val .non) e := (rfl)
theorem ev_retR_exc {c : Str} : retR L (.exc c e) = .exc c e := (rfl)
theorem ev_retR_if {b : Prop} [Decidable b] {x y : R Fl} : retR L (if b then x else y) = if b then retR L x else retR L y := by split <;> rfl
theorem ev_retD_val : retD L (.val d) e = .ok (.val d) e := (rfl)
theorem ev_retD_fresh : retD L (.fresh d) e = .ok (.own d) e := (rfl)
def retS (L : List Nat) (i : Nat) (s : Option (Option Slot)) (e : Env) : R Slot := match s with
    | some (some (.val d)) => .ok (.val d) e
    | some (some (.own d)) => if i ∈ L then .stuck else .ok (.own d) e
    | _ => .stuck
theorem ev_retD_slot : retD L (.slot i) e = retS L i e[i]? e := (rfl)
theorem ev_retS_val : retS L i (some (some (.val d))) e = .ok (.val d) e := (rfl)
theorem ev_retS_own : retS L i (some (some (.own d))) e = if i ∈ L then .stuck else .ok (.own d) e := (rfl)
/-- walks -/
def seqI (o : Opd) (e : Env) : R (List D) := match o with
  | .val (.lst ds) => .ok ds e
  | .val (.tup ds) => .ok ds e
  | _ => .stuck
theorem ev_iSeq : iSeq L f env = (fV L f env).bind seqI := by unfold iSeq seqI; rfl
theorem ev_seqI_lst {ds : List D} : seqI (.val (.lst ds)) e = .ok ds e := (rfl)
theorem ev_seqI_tup {ds : List D} : seqI (.val (.tup ds)) e = .ok ds e := (rfl)
def rng1 (x : Option Int) (e : Env) : R (List D) := match x with
  | some j => if -(2 ^ 62) ≤ j ∧ j < 2 ^ 62 then .ok (rangeD 0 j.toNat) e else .stuck
  | none => .stuck
def oneI (x : Option D) : Option Int := match x with
  | some (.int j) => some j
  | _ => none
def kR1 (os : List Opd) (e : Env) : R (List D) := rng1 (oneInt e os) e
theorem ev_range1 : iRange1 a env = (a env).bind kR1 := by unfold iRange1 kR1 rng1; rfl
theorem ev_kR1 {os : List Opd} : kR1 os e = rng1 (oneInt e os) e := (rfl)
theorem ev_oneInt : oneInt e [o] = oneI (rd e o) := (rfl)
theorem ev_oneI {j : Int} : oneI (some (.int j)) = some j := (rfl)
theorem ev_rng1 {j : Int} : rng1 (some j) e = if -(2 ^ 62) ≤ j ∧ j < 2 ^ 62 then .ok (rangeD 0 j.toNat) e else .stuck := (rfl)
def rng2 (x : Option (Int × Int)) (e : Env) : R (List D) := match x with
  | some (i, j) => if -(2 ^ 62) ≤ i ∧ i < 2 ^ 62 ∧ -(2 ^ 62) ≤ j ∧ j < 2 ^ 62 then .ok (rangeD i (j - i).toNat) e else .stuck
  | none => .stuck
def twoI (x y : Option D) : Option (Int × Int) := match x, y with
  | some (.int i), some (.int j) => some (i, j)
  | _, _ => none
def kR2 (os : List Opd) (e : Env) : R (List D) := rng2 (twoInts e os) e
theorem ev_range2 : iRange2 a env = (a env).bind kR2 := by unfold iRange2 kR2 rng2; rfl
theorem ev_kR2 {os : List Opd} : kR2 os e = rng2 (twoInts e os) e := (rfl)
theorem ev_twoInts {o' : Opd} : twoInts e [o, o'] = twoI (rd e o) (rd e o') := (rfl)
theorem ev_twoI {j k : Int} : twoI (some (.int j)) (some (.int k)) = some (j, k) := (rfl)
theorem ev_rng2 {i j : Int} : rng2 (some (i, j)) e = if -(2 ^ 62) ≤ i ∧ i < 2 ^ 62 ∧ -(2 ^ 62) ≤ j ∧ j < 2 ^ 62 then .ok (rangeD i (j - i).toNat) e else .stuck := (rfl)
def zipI (x : Option (List D × List D)) (e : Env) : R (List D) := match x with
  | some (a, b) => .ok (zipD a b) e
  | none => .stuck
def kZip (os : List Opd) (e : Env) : R (List D) := zipI (twoSeqs os) e
theorem ev_zip : iZip a env = (a env).bind kZip := by unfold iZip kZip zipI; rfl
theorem ev_kZip {os : List Opd} : kZip os e = zipI (twoSeqs os) e := (rfl)
theorem ev_zipI {x y : List D} : zipI (some (x, y)) e = .ok (zipD x y) e := (rfl)
theorem ev_two_ll {x y : List D} : twoSeqs [.val (.lst x), .val (.lst y)] = some (x, y) := (rfl)
theorem ev_two_tt {x y : List D} : twoSeqs [.val (.tup x), .val (.tup y)] = some (x, y) := (rfl)
theorem ev_dName : dName i d env = some (env.set i (some (.val d))) := (rfl)
theorem ev_dTup {n : Nat} {r : List D → Env → Option Env} {ds : List D} : dTup n r (.tup ds) env = if ds.length = n then r ds env else none := (rfl)
theorem ev_dCons {g : GF} {r : List D → Env → Option Env} {ds : List D} : dCons g r (d :: ds) env = (g d env).bind (r ds) := (rfl)
theorem ev_dNil : dNil [] env = some env := (rfl)
/-! ### operations at known kinds -/
def natD (n : Nat) : D := .int (n : Int)
theorem lit0 : D.int 0 = natD 0 := (rfl)
theorem lit1 : D.int 1 = natD 1 := (rfl)
theorem lit2 : D.int 2 = natD 2 := (rfl)
theorem lit3 : D.int 3 = natD 3 := (rfl)
theorem lit4 : D.int 4 = natD 4 := (rfl)
theorem lit5 : D.int 5 = natD 5 := (rfl)
theorem lit6 : D.int 6 = natD 6 := (rfl)
theorem lit7 : D.int 7 = natD 7 := (rfl)
theorem lit8 : D.int 8 = natD 8 := (rfl)
theorem lit9 : D.int 9 = natD 9 := (rfl)
theorem lit10 : D.int 10 = natD 10 := (rfl)
theorem lit11 : D.int 11 = natD 11 := (rfl)
theorem lit12 : D.int 12 = natD 12 := (rfl)
theorem lit31 : D.int 31 = natD 31 := (rfl)
theorem lit99 : D.int 99 = natD 99 := (rfl)
theorem ev_add_i {i j : Int} : gAdd (.int i) (.int j) = some (.val (.int (i + j))) := (rfl)
theorem ev_sub_i {i j : Int} : gSub (.int i) (.int j) = some (.val (.int (i - j))) := (rfl)
theorem ev_neg {i : Int} : gNeg (.int i) = some (.val (.int (-i))) := (rfl)
theorem ev_lt_i {i j : Int} : gLt (.int i) (.int j) = some (.val (.bl (decide (i < j)))) := (rfl)
theorem ev_le_i {i j : Int} : gLe (.int i) (.int j) = some (.val (.bl (decide (i ≤ j)))) := (rfl)
theorem ev_gt_i {i j : Int} : gGt (.int i) (.int j) = some (.val (.bl (decide (j < i)))) := (rfl)
theorem ev_ge_i {i j : Int} : gGe (.int i) (.int j) = some (.val (.bl (decide (j ≤ i)))) := (rfl)
theorem ev_mod {i j : Int} (h : 0 < j) : gMod (.int i) (.int j) = some (.val (.int (i % j))) := by
  unfold gMod gI cPos
  simp [h]
theorem ev_mul {i j : Int} (h : cMul i j = true) : gMul (.int i) (.int j) = some (.val (.int (i * j))) := by
  simp only [gMul, h, if_true]
theorem eqv_int {i j : Int} : PyData.eqv (.int i) (.int j) = decide (i = j) := by
  simp only [PyData.eqv]
  by_cases h : i = j <;> simp [h]
theorem ev_eq_i {i j : Int} : gEq (.int i) (.int j) = some (.val (.bl (decide (i = j)))) := by
  simp [gEq, plS, pl, eqD, toP, eqv_int]
theorem ev_ne_i {i j : Int} : gNe (.int i) (.int j) = some (.val (.bl (!decide (i = j)))) := by
  simp [gNe, plS, pl, eqD, toP, eqv_int]
theorem ev_isi {T t : String} (h : typeD d = some t) {b : Bool} (k : kitB t T = some b) : gIsi T d = some (.val (.bl b)) := by
  unfold gIsi
  rw [h, Option.bind_some, k]
  rfl
theorem ev_isi_int_non : gIsi "int" .non = some (.val (.bl false)) := ev_isi (t := "NoneType") rfl (by rfl)
theorem ev_isi_int_bl {b : Bool} : gIsi "int" (.bl b) = some (.val (.bl true)) := ev_isi (t := "bool") rfl (by rfl)
theorem ev_isi_int_int {i : Int} : gIsi "int" (.int i) = some (.val (.bl true)) := ev_isi (t := "int") rfl (by rfl)
theorem ev_isi_int_str {x : Str} : gIsi "int" (.str x) = some (.val (.bl false)) := ev_isi (t := "str") rfl (by rfl)
theorem ev_isi_int_tup {l : List D} : gIsi "int" (.tup l) = some (.val (.bl false)) := ev_isi (t := "tuple") rfl (by rfl)
theorem ev_isi_int_lst {l : List D} : gIsi "int" (.lst l) = some (.val (.bl false)) := ev_isi (t := "list") rfl (by rfl)
theorem ev_isi_int_scr {l : List D} : gIsi "int" (.scr l) = some (.val (.bl false)) := ev_isi (t := "list") rfl (by rfl)
theorem ev_isi_bool_non : gIsi "bool" .non = some (.val (.bl false)) := ev_isi (t := "NoneType") rfl (by rfl)
theorem ev_isi_bool_bl {b : Bool} : gIsi "bool" (.bl b) = some (.val (.bl true)) := ev_isi (t := "bool") rfl (by rfl)
theorem ev_isi_bool_int {i : Int} : gIsi "bool" (.int i) = some (.val (.bl false)) := ev_isi (t := "int") rfl (by rfl)
theorem ev_isi_bool_str {x : Str} : gIsi "bool" (.str x) = some (.val (.bl false)) := ev_isi (t := "str") rfl (by rfl)
theorem ev_isi_bool_tup {l : List D} : gIsi "bool" (.tup l) = some (.val (.bl false)) := ev_isi (t := "tuple") rfl (by rfl)
theorem ev_isi_bool_lst {l : List D} : gIsi "bool" (.lst l) = some (.val (.bl false)) := ev_isi (t := "list") rfl (by rfl)
theorem ev_isi_bool_scr {l : List D} : gIsi "bool" (.scr l) = some (.val (.bl false)) := ev_isi (t := "list") rfl (by rfl)
theorem ev_isi_tuple_non : gIsi "tuple" .non = some (.val (.bl false)) := ev_isi (t := "NoneType") rfl (by rfl)
theorem ev_isi_tuple_bl {b : Bool} : gIsi "tuple" (.bl b) = some (.val (.bl false)) := ev_isi (t := "bool") rfl (by rfl)
theorem ev_isi_tuple_int {i : Int} : gIsi "tuple" (.int i) = some (.val (.bl false)) := ev_isi (t := "int") rfl (by rfl)
theorem ev_isi_tuple_str {x : Str} : gIsi "tuple" (.str x) = some (.val (.bl false)) := ev_isi (t := "str") rfl (by rfl)
theorem ev_isi_tuple_tup {l : List D} : gIsi "tuple" (.tup l) = some (.val (.bl true)) := ev_isi (t := "tuple") rfl (by rfl)
theorem ev_isi_tuple_lst {l : List D} : gIsi "tuple" (.lst l) = some (.val (.bl false)) := ev_isi (t := "list") rfl (by rfl)
theorem ev_isi_tuple_scr {l : List D} : gIsi "tuple" (.scr l) = some (.val (.bl false)) := ev_isi (t := "list") rfl (by rfl)
theorem ev_isi_list_non : gIsi "list" .non = some (.val (.bl false)) := ev_isi (t := "NoneType") rfl (by rfl)
theorem ev_isi_list_bl {b : Bool} : gIsi "list" (.bl b) = some (.val (.bl false)) := ev_isi (t := "bool") rfl (by rfl)
theorem ev_isi_list_int {i : Int} : gIsi "list" (.int i) = some (.val (.bl false)) := ev_isi (t := "int") rfl (by rfl)
theorem ev_isi_list_str {x : Str} : gIsi "list" (.str x) = some (.val (.bl false)) := ev_isi (t := "str") rfl (by rfl)
theorem ev_isi_list_tup {l : List D} : gIsi "list" (.tup l) = some (.val (.bl false)) := ev_isi (t := "tuple") rfl (by rfl)
theorem ev_isi_list_lst {l : List D} : gIsi "list" (.lst l) = some (.val (.bl true)) := ev_isi (t := "list") rfl (by rfl)
theorem ev_isi_list_scr {l : List D} : gIsi "list" (.scr l) = some (.val (.bl true)) := ev_isi (t := "list") rfl (by rfl)
theorem ev_isi_str_non : gIsi "str" .non = some (.val (.bl false)) := ev_isi (t := "NoneType") rfl (by rfl)
theorem ev_isi_str_bl {b : Bool} : gIsi "str" (.bl b) = some (.val (.bl false)) := ev_isi (t := "bool") rfl (by rfl)
theorem ev_isi_str_int {i : Int} : gIsi "str" (.int i) = some (.val (.bl false)) := ev_isi (t := "int") rfl (by rfl)
theorem ev_isi_str_str {x : Str} : gIsi "str" (.str x) = some (.val (.bl true)) := ev_isi (t := "str") rfl (by rfl)
theorem ev_isi_str_tup {l : List D} : gIsi "str" (.tup l) = some (.val (.bl false)) := ev_isi (t := "tuple") rfl (by rfl)
theorem ev_isi_str_lst {l : List D} : gIsi "str" (.lst l) = some (.val (.bl false)) := ev_isi (t := "list") rfl (by rfl)
theorem ev_isi_str_scr {l : List D} : gIsi "str" (.scr l) = some (.val (.bl false)) := ev_isi (t := "list") rfl (by rfl)
theorem ev_min_i {i j : Int} : gMin [.int i, .int j] = some (.val (.int (if j < i then j else i))) := (rfl)
theorem ev_max_i {i j : Int} : gMax [.int i, .int j] = some (.val (.int (if j > i then j else i))) := (rfl)
theorem ev_len_lst {l : List D} : gLen (.lst l) = some (.val (natD l.length)) := (rfl)
theorem ev_len_tup {l : List D} : gLen (.tup l) = some (.val (natD l.length)) := (rfl)
theorem ev_len_scr {l : List D} : gLen (.scr l) = some (.val (natD l.length)) := (rfl)
theorem ev_add_n {a b : Nat} : gAdd (natD a) (natD b) = some (.val (natD (a + b))) := by simp only [natD, ev_add_i, Int.natCast_add]
theorem ev_lt_n {a b : Nat} : gLt (natD a) (natD b) = some (.val (.bl (decide (a < b)))) := by simp only [natD, ev_lt_i, Int.ofNat_lt]
theorem ev_le_n {a b : Nat} : gLe (natD a) (natD b) = some (.val (.bl (decide (a ≤ b)))) := by simp only [natD, ev_le_i, Int.ofNat_le]
theorem ev_gt_n {a b : Nat} : gGt (natD a) (natD b) = some (.val (.bl (decide (b < a)))) := by simp only [natD, ev_gt_i, Int.ofNat_lt]
theorem ev_ge_n {a b : Nat} : gGe (natD a) (natD b) = some (.val (.bl (decide (b ≤ a)))) := by simp only [natD, ev_ge_i, Int.ofNat_le]
theorem ev_eq_n {a b : Nat} : gEq (natD a) (natD b) = some (.val (.bl (decide (a = b)))) := by simp only [natD, ev_eq_i, Int.ofNat_inj]
theorem ev_ne_n {a b : Nat} : gNe (natD a) (natD b) = some (.val (.bl (!decide (a = b)))) := by simp only [natD, ev_ne_i, Int.ofNat_inj]
theorem ev_min_n {a b : Nat} : gMin [natD a, natD b] = some (.val (natD (min a b))) := by
  simp only [natD, ev_min_i]
  have : (if (b : Int) < (a : Int) then (b : Int) else (a : Int)) = ((min a b : Nat) : Int) := by split <;> omega
  rw [this]
theorem ev_max_n {a b : Nat} : gMax [natD a, natD b] = some (.val (natD (max a b))) := by
  simp only [natD, ev_max_i]
  have : (if (b : Int) > (a : Int) then (b : Int) else (a : Int)) = ((max a b : Nat) : Int) := by split <;> omega
  rw [this]
theorem sub_n {a b : Nat} (h : b ≤ a) : gSub (natD a) (natD b) = some (.val (natD (a - b))) := by
  simp only [natD, ev_sub_i]
  rw [Int.ofNat_sub h]
theorem mod_n {a b : Nat} (h : 0 < b) : gMod (natD a) (natD b) = some (.val (natD (a % b))) := by
  simp only [natD]
  rw [ev_mod (by omega), Int.natCast_emod]
theorem ev_isi_int_n {n : Nat} : gIsi "int" (natD n) = some (.val (.bl true)) := ev_isi_int_int
theorem ev_isi_bool_n {n : Nat} : gIsi "bool" (natD n) = some (.val (.bl false)) := ev_isi_bool_int
theorem ev_isi_tuple_n {n : Nat} : gIsi "tuple" (natD n) = some (.val (.bl false)) := ev_isi_tuple_int
theorem ev_isi_list_n {n : Nat} : gIsi "list" (natD n) = some (.val (.bl false)) := ev_isi_list_int
theorem ev_isi_str_n {n : Nat} : gIsi "str" (natD n) = some (.val (.bl false)) := ev_isi_str_int
theorem ev_oneI_n {j : Nat} : oneI (some (natD j)) = some (j : Int) := (rfl)
theorem ev_twoI_n {j k : Nat} : twoI (some (natD j)) (some (natD k)) = some ((j : Int), (k : Int)) := (rfl)
theorem ev_chR_n {p p' : Int → Int → Bool} {i j : Nat} : chR p p' f3 e (some (natD i)) (some (natD j)) = if p i j = true then (fO f3 e).bind (kCh3 p' j) else .ok (.val (.bl false)) e := (rfl)
theorem ev_chR_ni {p p' : Int → Int → Bool} {i : Nat} {j : Int} : chR p p' f3 e (some (natD i)) (some (.int j)) = if p i j = true then (fO f3 e).bind (kCh3 p' j) else .ok (.val (.bl false)) e := (rfl)
theorem ev_chR2_n {p' : Int → Int → Bool} {j : Int} {k : Nat} : chR2 p' j (some (natD k)) e = .ok (.val (.bl (p' j k))) e := (rfl)
theorem ev_pSomeR_n {j : Nat} : pSomeR (some (natD j)) e = .ok (some (j : Int)) e := (rfl)
def rangeN (lo n : Nat) : List D := (List.range n).map fun k => natD (lo + k)
theorem rangeD_n (lo n : Nat) : rangeD lo n = rangeN lo n := by
  unfold rangeD rangeN
  refine List.map_congr_left fun k _ => ?_
  simp only [natD, Int.natCast_add]
theorem rng1_n {j : Nat} (h : j < 1000000000) : rng1 (some (j : Int)) e = .ok (rangeN 0 j) e := by
  rw [ev_rng1, if_pos (by omega), Int.toNat_natCast]
  exact congrArg (fun l => R.ok l e) (rangeD_n 0 j)
theorem rng2_n {i j : Nat} (h : j < 1000000000) (h2 : i < 1000000000) : rng2 (some ((i : Int), (j : Int))) e = .ok (rangeN i (j - i)) e := by
  rw [ev_rng2, if_pos (by omega)]
  have : ((j : Int) - (i : Int)).toNat = j - i := by omega
  rw [this]
  exact congrArg (fun l => R.ok l e) (rangeD_n i (j - i))
theorem ev_tuple_l {l : List D} : gTuple (.lst l) = some (.val (.tup l)) := (rfl)
theorem ev_tuple_t {l : List D} : gTuple (.tup l) = some (.val (.tup l)) := (rfl)
theorem ev_list_l {l : List D} : gList (.lst l) = some (.fresh (.lst l)) := (rfl)
theorem ev_list_t {l : List D} : gList (.tup l) = some (.fresh (.lst l)) := (rfl)
theorem ev_isN {d : D} : gIs d .non = some (.val (.bl (isNon d))) := by cases d <;> rfl
theorem ev_isNN {d : D} : gIsN d .non = some (.val (.bl (!isNon d))) := by cases d <;> rfl
theorem rangeN0 (n : Nat) : rangeN 0 n = (List.range n).map natD := by
  unfold rangeN
  simp
theorem range1_ok {n : Nat} (hf : fO f env = .ok (.val (natD n)) e) (h : n ≤ 1000000) : iRange1 (aCons (fO f) aNil) env = .ok ((List.range n).map natD) e := by
  have hr := rng1_n (e := e) (show n < 1000000000 by omega)
  rw [ev_range1, ev_aCons, hf, ev_ok, ev_kCons1, ev_aNil, ev_ok, ev_kCons2, ev_ok]
  show rng1 (some (n : Int)) e = _
  rw [hr, rangeN0]
theorem range2_ok {n k : Nat} {e2 : Env} (hf : fO f env = .ok (.val (natD k)) e) (hg : fO f2 e = .ok (.val (natD n)) e2) (h : n ≤ 1000000) (h2 : k ≤ 1000000) : iRange2 (aCons (fO f) (aCons (fO f2) aNil)) env = .ok (rangeN k (n - k)) e2 := by
  have hr := rng2_n (e := e2) (show n < 1000000000 by omega) (show k < 1000000000 by omega)
  rw [ev_range2, ev_aCons, hf, ev_ok, ev_kCons1, ev_aCons, hg, ev_ok, ev_kCons1, ev_aNil, ev_ok, ev_kCons2, ev_ok, ev_kCons2, ev_ok]
  show rng2 (some ((k : Int), (n : Int))) e2 = _
  rw [hr]
end ev
end VS

namespace MIR
open PySem PySem.Spec VS L2
local macro_rules
  | `(tactic| simp! [$xs,*]) => `(tactic| simp only [ev_ok, ev_exc, ev_seq, ev_seq_nx, ev_seq_rt, ev_seq_bk, ev_seq_ct, ev_seq_exc, ev_expr, ev_kExpr, ev_ret, ev_kRet, ev_retN, ev_nil, ev_brk, ev_ct, ev_raise, ev_if, ev_kIf, ev_set, ev_set_val, ev_set_fresh, ev_set_slot, ev_kSetS, ev_var, ev_var_val, ev_var_own, ev_c, ev_fO, ev_fO_val, ev_fO_slot, ev_fO_lst, ev_fO_exc, ev_fV, ev_toVal_val, ev_toVal_slot, ev_toValS_own, ev_toValS_val, ev_aNil, ev_aCons, ev_kCons1, ev_kCons2, ev_lift_some, ev_rd_val, ev_rd_fresh, ev_rd_slot, ev_rdS_val, ev_rdS_own, ev_rds_nil, ev_rds_cons, ev_consO, ev_op1, ev_kOp1, ev_op2R, ev_op2, ev_kOp2a, ev_kOp2b, ev_opN, ev_kOpN, ev_one, ev_tup, ev_lst, ev_kTup, ev_kLst, ev_tupR, ev_lstR, ev_valsOf_nil, ev_valsOf_cons, ev_ifE, ev_kIfE, ev_and, ev_or, ev_kAnd, ev_kOr, ev_andR, ev_orR, ev_not, ev_kNot, ev_notR, ev_tst, ev_kTst, ev_tstR, ev_tAnd, ev_tOr, ev_tNot, ev_kTAnd, ev_kTOr, ev_kTNot, ev_tT, ev_mAndV, ev_mOrV, ev_mAnd, ev_mOr, ev_chain, ev_kCh1, ev_kCh2, ev_chR, ev_kCh3, ev_chR2, ev_call, ev_callO, ev_callA, ev_backR_val, ev_backR_own, ev_backR_exc, ev_backE_nil, ev_backE_cons, ev_backS, ev_backSS, ev_argS_nil, ev_argS_cons, ev_consS, ev_arg_val, ev_arg_slot, ev_join, ev_lends_nil, ev_lends_val, ev_lends_slot, ev_isOwnS, ev_isOwnV, ev_lendOk_nil, ev_lendOk_one, ev_lendOk_two, ev_mut1, ev_mut1R, ev_kMut1, ev_mut1Q, ev_mut1S, ev_mut0, ev_mut0R, ev_setItem, ev_kSi1, ev_siR, ev_kSi2, ev_siQ, ev_siS, ev_dict1, ev_kDi1, ev_dict1R, ev_dict1S, ev_dictN, ev_pNone, ev_pSome, ev_kPS, ev_pSomeR, ev_slR, ev_sl, ev_kSl1, ev_kSl2, ev_kSl3, ev_nones0, ev_nones, ev_fn, ev_retR_rt, ev_retR_nx, ev_retR_exc, ev_retD_val, ev_retD_fresh, ev_retD_slot, ev_retS_val, ev_retS_own, ev_iSeq, ev_seqI_lst, ev_seqI_tup, ev_range1, ev_kR1, ev_oneInt, ev_oneI, ev_rng1, ev_range2, ev_kR2, ev_twoInts, ev_twoI, ev_rng2, ev_zip, ev_kZip, ev_zipI, ev_two_ll, ev_two_tt, ev_dName, ev_dTup, ev_dCons, ev_dNil, ev_add_i, ev_sub_i, ev_neg, ev_lt_i, ev_le_i, ev_gt_i, ev_ge_i, ev_eq_i, ev_ne_i, ev_isi_int_non, ev_isi_int_bl, ev_isi_int_int, ev_isi_int_str, ev_isi_int_tup, ev_isi_int_lst, ev_isi_int_scr, ev_isi_bool_non, ev_isi_bool_bl, ev_isi_bool_int, ev_isi_bool_str, ev_isi_bool_tup, ev_isi_bool_lst, ev_isi_bool_scr, ev_isi_tuple_non, ev_isi_tuple_bl, ev_isi_tuple_int, ev_isi_tuple_str, ev_isi_tuple_tup, ev_isi_tuple_lst, ev_isi_tuple_scr, ev_isi_list_non, ev_isi_list_bl, ev_isi_list_int, ev_isi_list_str, ev_isi_list_tup, ev_isi_list_lst, ev_isi_list_scr, ev_isi_str_non, ev_isi_str_bl, ev_isi_str_int, ev_isi_str_str, ev_isi_str_tup, ev_isi_str_lst, ev_isi_str_scr, ev_min_i, ev_max_i, ev_len_lst, ev_len_tup, ev_len_scr, ev_add_n, ev_lt_n, ev_le_n, ev_gt_n, ev_ge_n, ev_eq_n, ev_ne_n, ev_min_n, ev_max_n, ev_isi_int_n, ev_isi_bool_n, ev_isi_tuple_n, ev_isi_list_n, ev_isi_str_n, ev_oneI_n, ev_twoI_n, ev_chR_n, ev_chR_ni, ev_chR2_n, ev_pSomeR_n, ev_tuple_l, ev_tuple_t, ev_list_l, ev_list_t, ev_isN, ev_isNN, lit0, lit1, lit2, lit3, lit4, lit5, lit6, lit7, lit8, lit9, lit10, lit11, lit12, lit31, lit99, List.map_cons, List.map_nil, List.cons_append, List.nil_append, List.getElem?_cons_zero, List.getElem?_cons_succ, List.getElem?_nil, List.set_cons_zero, List.set_cons_succ, List.set_nil, Option.bind_some, Option.bind_none, Option.map_some, Option.map_none, List.length_cons, List.length_nil, List.not_mem_nil, List.mem_cons, if_true, if_false, Bool.false_eq_true, Nat.zero_add, Nat.reduceAdd, or_false, or_true, true_or, false_or, decide_true, decide_false, Bool.and_self, Bool.and_true, Bool.true_and, Bool.and_false, Bool.false_and, Bool.not_true, Bool.not_false, not_false_eq_true, not_true_eq_false, reduceIte, $xs,*])
/-! ### things of plain Lean as data: equal, less, in order -/
structure EncOk {α : Type} (n : Nat) (enc : α → D) (lt : α → α → Bool) : Prop where
  pl : ∀ a, pl n (enc a) = true
  al : ∀ a b, PySem.W.alike (toP (enc a)) (toP (enc b)) = true
  eq : ∀ a b, PyData.eqv (toP (enc a)) (toP (enc b)) = true ↔ a = b
  lt : ∀ a b, PySem.W.dataLt (toP (enc a)) (toP (enc b)) = lt a b
  nn : ∀ a, VS.isNon (enc a) = false
mutual
theorem pl_up : ∀ (n : Nat) (d : D), pl n d = true → pl (n + 1) d = true
  | _, .non, _ => rfl
  | _, .bl _, _ => rfl
  | _, .int _, _ => rfl
  | n, .str x, h => by cases n <;> simpa [pl] using h
  | n + 1, .tup l, h => by
    simp only [pl] at h ⊢
    exact pls_up n l h
  | n + 1, .lst l, h => by
    simp only [pl] at h ⊢
    exact pls_up n l h
  | 0, .tup _, h => by simp [pl] at h
  | 0, .lst _, h => by simp [pl] at h
  | n, .scr _, h => by cases n <;> simp [pl] at h
  | n, .dct _, h => by cases n <;> simp [pl] at h
  | n, .ins _ _, h => by cases n <;> simp [pl] at h
  | n, .glob _, h => by cases n <;> simp [pl] at h
  | n, .exn _, h => by cases n <;> simp [pl] at h
theorem pls_up : ∀ (n : Nat) (l : List D), pls n l = true → pls (n + 1) l = true
  | _, [], _ => rfl
  | n, d :: ds, h => by
    rw [pls, Bool.and_eq_true] at h ⊢
    exact ⟨pl_up n d h.1, pls_up n ds h.2⟩
end
theorem pl_le {n m : Nat} {d : D} (h : n ≤ m) (p : pl n d = true) : pl m d = true := by
  induction h with
  | refl => exact p
  | step _ ih => exact pl_up _ _ ih
theorem pls_le {n m : Nat} {d : List D} (h : n ≤ m) (p : pls n d = true) : pls m d = true := by
  induction h with
  | refl => exact p
  | step _ ih => exact pls_up _ _ ih
section
variable {α β : Type} {n m : Nat} {enc : α → D} {lt : α → α → Bool} {enc2 : β → D} {lt2 : β → β → Bool}
theorem EncOk.mono (E : EncOk n enc lt) (h : n ≤ m) : EncOk m enc lt := ⟨fun a => pl_le h (E.pl a), E.al, E.eq, E.lt, E.nn⟩
theorem EncOk.pls (E : EncOk n enc lt) (xs : List α) : pls n (xs.map enc) = true := by
  rw [pls_all]
  simp [E.pl]
theorem int_enc : EncOk 0 D.int (fun a b => decide (a < b)) where
  pl _ := rfl
  al _ _ := rfl
  eq a b := by simp [toP, PyData.eqv]
  lt a b := by simp only [toP, PySem.W.dataLt_int]
  nn _ := rfl
theorem nat_enc : EncOk 0 natD (fun a b => decide (a < b)) where
  pl _ := rfl
  al _ _ := rfl
  eq a b := by simp [natD, toP, PyData.eqv, Int.ofNat_inj]
  lt a b := by simp only [natD, toP, PySem.W.dataLt_int, Int.ofNat_lt]
  nn _ := rfl
def encP (enc : α → D) (enc2 : β → D) (p : α × β) : D := .tup [enc p.1, enc2 p.2]
def ltPr [DecidableEq α] (lt : α → α → Bool) (lt2 : β → β → Bool) (p q : α × β) : Bool := if p.1 = q.1 then lt2 p.2 q.2 else lt p.1 q.1
theorem toksAll2 {x y : PyData} {xs ys : List PyData} (h : PySem.W.alike x y = true) : PyProof.Rows.lexLt PyProof.Rows.itemOrd (PySem.W.keyToksAll (x :: xs)) (PySem.W.keyToksAll (y :: ys)) = if PyData.eqv x y = true then PyProof.Rows.lexLt PyProof.Rows.itemOrd (PySem.W.keyToksAll xs) (PySem.W.keyToksAll ys) else PySem.W.dataLt x y := by
  cases e : PyData.eqv x y with
  | true => rw [PySem.W.dataLt_all_yes h e]; rfl
  | false => rw [PySem.W.dataLt_all_no h e]; rfl
theorem toks_nil : PyProof.Rows.lexLt PyProof.Rows.itemOrd (PySem.W.keyToksAll []) (PySem.W.keyToksAll []) = false := rfl
theorem pair_enc [DecidableEq α] (E : EncOk n enc lt) (E2 : EncOk n enc2 lt2) : EncOk (n + 1) (encP enc enc2) (ltPr lt lt2) where
  pl p := by simp [encP, pl, VS.pls, E.pl, E2.pl]
  al p q := by simp [encP, toP, toPs, PySem.W.alike, PySem.W.alikeAll, E.al, E2.al]
  eq p q := by
    simp only [encP, toP, toPs, PyData.eqv, PyData.eqvAll, Bool.and_true, Bool.and_eq_true, E.eq, E2.eq]
    exact Prod.ext_iff.symm
  lt p q := by
    simp only [encP, toP, toPs, PySem.W.dataLt_tuple]
    rw [toksAll2 (E.al _ _), toksAll2 (E2.al _ _), toks_nil]
    unfold ltPr
    by_cases h : p.1 = q.1
    · rw [if_pos ((E.eq _ _).mpr h), if_pos h]
      by_cases h2 : p.2 = q.2
      · have := E2.lt p.2 q.2
        rw [if_pos ((E2.eq _ _).mpr h2), ← this, h2, E2.lt]
        have irr := E2.lt q.2 q.2
        unfold PySem.W.dataLt at irr
        rw [← irr]
        exact (PyProof.Rows.listOrd PyProof.Rows.itemOrd).irrefl _ |>.symm
      · rw [if_neg (fun z => h2 ((E2.eq _ _).mp z)), E2.lt]
    · rw [if_neg (fun z => h ((E.eq _ _).mp z)), if_neg h, E.lt]
  nn _ := rfl
def encL (enc : α → D) (l : List α) : D := .tup (l.map enc)
def ltLs [DecidableEq α] (lt : α → α → Bool) : List α → List α → Bool
  | [], [] => false
  | [], _ :: _ => true
  | _ :: _, [] => false
  | x :: xs, y :: ys => if x = y then ltLs lt xs ys else lt x y
theorem list_enc [DecidableEq α] (E : EncOk n enc lt) : EncOk (n + 1) (encL enc) (ltLs lt) where
  pl l := by
    simp only [encL, pl]
    exact E.pls l
  al p q := by
    simp only [encL, toP, PySem.W.alike]
    induction p generalizing q with
    | nil => cases q <;> simp [toPs, PySem.W.alikeAll]
    | cons x p ih =>
      cases q with
      | nil => simp [toPs, PySem.W.alikeAll]
      | cons y q => simp [toPs, PySem.W.alikeAll, E.al, ih]
  eq p q := by
    simp only [encL, toP, PyData.eqv]
    induction p generalizing q with
    | nil => cases q <;> simp [toPs, PyData.eqvAll]
    | cons x p ih =>
      cases q with
      | nil => simp [toPs, PyData.eqvAll]
      | cons y q => simp [toPs, PyData.eqvAll, E.eq, ih]
  lt p q := by
    simp only [encL, toP, PySem.W.dataLt_tuple]
    induction p generalizing q with
    | nil => cases q <;> rfl
    | cons x p ih =>
      cases q with
      | nil => rfl
      | cons y q =>
        simp only [List.map_cons, toPs]
        rw [toksAll2 (E.al _ _), ih]
        show _ = if x = y then ltLs lt p q else lt x y
        by_cases h : x = y
        · rw [if_pos ((E.eq _ _).mpr h), if_pos h]
        · rw [if_neg (fun z => h ((E.eq _ _).mp z)), if_neg h, E.lt]
  nn _ := rfl
/-! equality, membership -/
theorem EncOk.plS (E : EncOk n enc lt) (hn : n ≤ 8) (a : α) : plS (enc a) = true := by
  have h := pl_le hn (E.pl a)
  unfold VS.plS
  split
  · rename_i l q
    rw [q] at h
    simp [VS.pl] at h
  · exact h
theorem EncOk.eqD [DecidableEq α] (E : EncOk n enc lt) (a b : α) : eqD (enc a) (enc b) = decide (a = b) := by
  unfold VS.eqD
  cases h : PyData.eqv (toP (enc a)) (toP (enc b)) with
  | true => rw [decide_eq_true ((E.eq a b).mp h)]
  | false => rw [decide_eq_false fun z => by rw [(E.eq a b).mpr z] at h; cases h]
theorem EncOk.gEq [DecidableEq α] (E : EncOk n enc lt) (hn : n ≤ 8) (a b : α) : gEq (enc a) (enc b) = some (.val (.bl (decide (a = b)))) := by
  unfold VS.gEq
  rw [if_pos ⟨E.plS hn a, E.plS hn b⟩, E.eqD]
theorem EncOk.gNe [DecidableEq α] (E : EncOk n enc lt) (hn : n ≤ 8) (a b : α) : gNe (enc a) (enc b) = some (.val (.bl (!decide (a = b)))) := by
  unfold VS.gNe
  rw [if_pos ⟨E.plS hn a, E.plS hn b⟩, E.eqD]
theorem inD_enc [DecidableEq α] (E : EncOk n enc lt) (a : α) (xs : List α) : inD (enc a) (xs.map enc) = decide (a ∈ xs) := by
  unfold inD
  induction xs with
  | nil => rfl
  | cons x xs ih =>
    simp only [List.map_cons, List.any_cons, E.eqD, ih, List.mem_cons]
    by_cases h : x = a
    · simp [h]
    · have h' : ¬ a = x := fun z => h z.symm
      simp [h, h']
theorem EncOk.inT [DecidableEq α] (E : EncOk n enc lt) (hn : n ≤ 8) (a : α) (xs : List α) : gInA (enc a) (.tup (xs.map enc)) = some (.val (.bl (decide (a ∈ xs)))) := by
  show gIn (enc a) (.tup (xs.map enc)) = _
  unfold VS.gIn
  simp only [itemsOf]
  rw [if_pos ⟨pl_le hn (E.pl a), pls_le hn (E.pls xs)⟩, inD_enc E]
theorem EncOk.inL [DecidableEq α] (E : EncOk n enc lt) (hn : n ≤ 8) (a : α) (xs : List α) : gInA (enc a) (.lst (xs.map enc)) = some (.val (.bl (decide (a ∈ xs)))) := by
  show gIn (enc a) (.lst (xs.map enc)) = _
  unfold VS.gIn
  simp only [itemsOf]
  rw [if_pos ⟨pl_le hn (E.pl a), pls_le hn (E.pls xs)⟩, inD_enc E]
theorem EncOk.notInT [DecidableEq α] (E : EncOk n enc lt) (hn : n ≤ 8) (a : α) (xs : List α) : gNotInA (enc a) (.tup (xs.map enc)) = some (.val (.bl (!decide (a ∈ xs)))) := by
  show gNotIn (enc a) (.tup (xs.map enc)) = _
  unfold VS.gNotIn
  simp only [itemsOf]
  rw [if_pos ⟨pl_le hn (E.pl a), pls_le hn (E.pls xs)⟩, inD_enc E]
theorem EncOk.notInL [DecidableEq α] (E : EncOk n enc lt) (hn : n ≤ 8) (a : α) (xs : List α) : gNotInA (enc a) (.lst (xs.map enc)) = some (.val (.bl (!decide (a ∈ xs)))) := by
  show gNotIn (enc a) (.lst (xs.map enc)) = _
  unfold VS.gNotIn
  simp only [itemsOf]
  rw [if_pos ⟨pl_le hn (E.pl a), pls_le hn (E.pls xs)⟩, inD_enc E]
/-! lists -/
theorem eqvAll_iff (E : EncOk n enc lt) (p q : List α) : PyData.eqvAll (toPs (p.map enc)) (toPs (q.map enc)) = true ↔ p = q := by
  induction p generalizing q with
  | nil => cases q <;> simp [toPs, PyData.eqvAll]
  | cons x p ih =>
    cases q with
    | nil => simp [toPs, PyData.eqvAll]
    | cons y q => simp [toPs, PyData.eqvAll, E.eq, ih]
theorem EncOk.eqDL [DecidableEq α] (E : EncOk n enc lt) (p q : List α) : VS.eqD (.lst (p.map enc)) (.lst (q.map enc)) = decide (p = q) := by
  unfold VS.eqD
  simp only [toP, PyData.eqv]
  cases h : PyData.eqvAll (toPs (p.map enc)) (toPs (q.map enc)) with
  | true => rw [decide_eq_true ((eqvAll_iff E p q).mp h)]
  | false => rw [decide_eq_false fun z => by rw [(eqvAll_iff E p q).mpr z] at h; cases h]
theorem EncOk.eqLL [DecidableEq α] (E : EncOk n enc lt) (hn : n ≤ 7) (p q : List α) : VS.gEq (.lst (p.map enc)) (.lst (q.map enc)) = some (.val (.bl (decide (p = q)))) := by
  unfold VS.gEq
  have h : ∀ r : List α, VS.plS (.lst (r.map enc)) = true := fun r => pls_le hn (E.pls r)
  rw [if_pos ⟨h p, h q⟩, E.eqDL]
theorem EncOk.neLL [DecidableEq α] (E : EncOk n enc lt) (hn : n ≤ 7) (p q : List α) : VS.gNe (.lst (p.map enc)) (.lst (q.map enc)) = some (.val (.bl (!decide (p = q)))) := by
  unfold VS.gNe
  have h : ∀ r : List α, VS.plS (.lst (r.map enc)) = true := fun r => pls_le hn (E.pls r)
  rw [if_pos ⟨h p, h q⟩, E.eqDL]
theorem EncOk.neL0 [DecidableEq α] (E : EncOk n enc lt) (hn : n ≤ 7) (p : List α) : VS.gNe (.lst (p.map enc)) (.lst []) = some (.val (.bl (!decide (p = [])))) := E.neLL hn p []
theorem EncOk.eqL0 [DecidableEq α] (E : EncOk n enc lt) (hn : n ≤ 7) (p : List α) : VS.gEq (.lst (p.map enc)) (.lst []) = some (.val (.bl (decide (p = [])))) := E.eqLL hn p []
theorem EncOk.eqT0 [DecidableEq α] (E : EncOk n enc lt) (hn : n ≤ 7) (p : List α) : VS.gEq (.tup (p.map enc)) (.tup []) = some (.val (.bl (decide (p = [])))) := (list_enc E).gEq (by omega) p []
theorem EncOk.neT0 [DecidableEq α] (E : EncOk n enc lt) (hn : n ≤ 7) (p : List α) : VS.gNe (.tup (p.map enc)) (.tup []) = some (.val (.bl (!decide (p = [])))) := (list_enc E).gNe (by omega) p []
/-! sorting -/
theorem alk_enc (E : EncOk n enc lt) (xs : List α) : alk (xs.map enc) = true := by
  simp [alk, E.al]
theorem le_enc (E : EncOk n enc lt) (a b : α) : PySem.W.dataLe false toP (enc a) (enc b) = !lt b a := by
  show (!PySem.W.dataLt (toP (enc b)) (toP (enc a))) = _
  rw [E.lt]
theorem sortD_enc (E : EncOk n enc lt) (xs : List α) : sortD (xs.map enc) = (xs.mergeSort fun a b => !lt b a).map enc := by
  unfold sortD
  rw [List.map_mergeSort (r := fun a b => !lt b a)]
  intro a _ b _
  exact (le_enc E a b).symm
theorem EncOk.sorted (E : EncOk n enc lt) (hn : n ≤ 8) (xs : List α) (ht : ((xs.map enc).all isT1 || (xs.map enc).all fun d => !isT0 d) = true) (hl : xs.length ≤ 1000000) : gSorted (.lst (xs.map enc)) = some (.fresh (.lst ((xs.mergeSort fun a b => !lt b a).map enc))) := by
  have ok : okSort (xs.map enc) = true := by
    unfold okSort
    rw [pls_le hn (E.pls xs), alk_enc E, ht, List.length_map, decide_eq_true (by rw [sizeLine_eq]; omega)]
    rfl
  simp only [gSorted, ok, if_true, sortD_enc E]
def minO (lt : α → α → Bool) (x : α) (xs : List α) : α := xs.foldl (fun a y => if lt y a then y else a) x
def maxO (lt : α → α → Bool) (x : α) (xs : List α) : α := xs.foldl (fun a y => if lt a y then y else a) x
theorem minL_enc (E : EncOk n enc lt) (x : α) (xs : List α) : minL ((x :: xs).map enc) = some (enc (minO lt x xs)) := by
  show some _ = some _
  congr 1
  unfold minO
  induction xs generalizing x with
  | nil => rfl
  | cons y ys ih =>
    simp only [List.map_cons, List.foldl_cons, E.lt]
    rw [← ih]
    congr 1
    split <;> rfl
theorem maxL_enc (E : EncOk n enc lt) (x : α) (xs : List α) : maxL ((x :: xs).map enc) = some (enc (maxO lt x xs)) := by
  show some _ = some _
  congr 1
  unfold maxO
  induction xs generalizing x with
  | nil => rfl
  | cons y ys ih =>
    simp only [List.map_cons, List.foldl_cons, E.lt]
    rw [← ih]
    congr 1
    split <;> rfl
theorem okMin_enc (E : EncOk n enc lt) (hn : n ≤ 8) (xs : List α) : okMin (xs.map enc) = true := by
  unfold okMin
  rw [pls_le hn (E.pls xs), alk_enc E]
  simp [E.nn]
theorem EncOk.min (E : EncOk n enc lt) (hn : n ≤ 8) (x : α) (xs : List α) : gMin [.lst ((x :: xs).map enc)] = some (.val (enc (minO lt x xs))) := by
  have ok := okMin_enc E hn (x :: xs)
  simp only [gMin, ok, if_true, minL_enc E, Option.map_some]
theorem EncOk.max (E : EncOk n enc lt) (hn : n ≤ 8) (x : α) (xs : List α) : gMax [.lst ((x :: xs).map enc)] = some (.val (enc (maxO lt x xs))) := by
  have ok := okMin_enc E hn (x :: xs)
  simp only [gMax, ok, if_true, maxL_enc E, Option.map_some]
end
theorem isT_nat (xs : List Nat) : ((xs.map natD).all isT1 || (xs.map natD).all fun d => !isT0 d) = true := by
  have : (xs.map natD).all (fun d => !isT0 d) = true := by simp [natD, isT0]
  rw [this, Bool.or_true]
theorem isT_pair {α β : Type} (e : α → D) (e2 : β → D) (xs : List (α × β)) : ((xs.map (encP e e2)).all isT1 || (xs.map (encP e e2)).all fun d => !isT0 d) = true := by
  have : (xs.map (encP e e2)).all isT1 = true := by simp [encP, isT1]
  rw [this, Bool.true_or]
theorem isT_list {α : Type} (e : α → D) (xs : List (List α)) (h : ∀ x ∈ xs, x ≠ []) : ((xs.map (encL e)).all isT1 || (xs.map (encL e)).all fun d => !isT0 d) = true := by
  have : (xs.map (encL e)).all isT1 = true := by
    simp only [List.all_map, List.all_eq_true]
    intro x hx
    have := h x hx
    cases x with
    | nil => exact absurd rfl this
    | cons y ys => rfl
  rw [this, Bool.true_or]
/-! ### dicts of plain Lean's things -/
structure KeyOk {α : Type} (kK : α → NestedKey) (enc : α → D) : Prop where
  inj : ∀ a b, kK a = kK b → a = b
  key : ∀ a, keyD (enc a) = some (kK a)
  kind : (∀ a, isAtom (kK a) = true) ∨ ∀ a, isTupK (kK a) = true
def dctD {α β : Type} (kK : α → NestedKey) (eV : β → D) (m : List (α × β)) : D := .dct (m.map fun p => (kK p.1, eV p.2))
section
variable {α β : Type} {kK : α → NestedKey} {enc : α → D} {eV : β → D} [DecidableEq α]
def look (m : List (α × β)) (a : α) : Option β := (m.find? fun p => decide (p.1 = a)).map (·.2)
theorem look_mem {m : List (α × β)} {a : α} {v : β} (h : look m a = some v) : (a, v) ∈ m := by
  unfold look at h
  obtain ⟨p, h1, h2⟩ := Option.map_eq_some_iff.mp h
  have h3 := List.find?_some h1
  have h4 := List.mem_of_find?_eq_some h1
  simp at h3
  subst h3 h2
  exact h4
theorem look_isSome {m : List (α × β)} {a : α} : (look m a).isSome = decide (a ∈ m.map (·.1)) := by
  unfold look
  induction m with
  | nil => rfl
  | cons p m ih =>
    simp only [List.find?_cons, List.map_cons, List.mem_cons]
    by_cases h : p.1 = a
    · simp [h]
    · have h' : ¬ a = p.1 := fun z => h z.symm
      simp only [h, decide_false, h', false_or]
      exact ih
theorem look_of_mem {m : List (α × β)} {a : α} {v : β} (nd : (m.map (·.1)).Nodup) (h : (a, v) ∈ m) : look m a = some v := by
  induction m with
  | nil => simp at h
  | cons p m ih =>
    simp only [List.map_cons, List.nodup_cons] at nd
    unfold look
    rw [List.find?_cons]
    by_cases e : p.1 = a
    · simp only [e, decide_true, Option.map_some]
      rcases List.mem_cons.mp h with q | q
      · rw [← q]
      · exact absurd (List.mem_map.mpr ⟨_, q, e.symm⟩) nd.1
    · simp only [e, decide_false]
      rcases List.mem_cons.mp h with q | q
      · exact absurd (by rw [← q]) e
      · exact ih nd.2 q
theorem look_some_of {m : List (α × β)} {a : α} (h : a ∈ m.map (·.1)) : ∃ v, look m a = some v := by
  have := look_isSome (m := m) (a := a)
  rw [decide_eq_true h] at this
  exact Option.isSome_iff_exists.mp this
theorem KeyOk.homog (K : KeyOk kK enc) (m : List (α × β)) (a : α) : homog (m.map fun p => (kK p.1, eV p.2)) (kK a) = true := by
  unfold VS.homog
  rcases K.kind with k | k
  · simp [k]
  · simp [k]
theorem KeyOk.dget (K : KeyOk kK enc) (m : List (α × β)) (a : α) : dget (m.map fun p => (kK p.1, eV p.2)) (kK a) = (look m a).map eV := by
  unfold VS.dget look
  induction m with
  | nil => rfl
  | cons p m ih =>
    simp only [List.map_cons, List.find?_cons]
    by_cases h : p.1 = a
    · simp [h]
    · have h' : ¬ kK p.1 = kK a := fun z => h (K.inj _ _ z)
      simp only [h, h', decide_false]
      exact ih
theorem KeyOk.in (K : KeyOk kK enc) (m : List (α × β)) (a : α) : gInA (enc a) (dctD kK eV m) = some (.val (.bl (decide (a ∈ m.map (·.1))))) := by
  unfold gInA dctD
  simp only [K.key, Option.bind_some, K.homog, if_true, K.dget, Option.isSome_map, look_isSome]
theorem KeyOk.notIn (K : KeyOk kK enc) (m : List (α × β)) (a : α) : gNotInA (enc a) (dctD kK eV m) = some (.val (.bl (!decide (a ∈ m.map (·.1))))) := by
  unfold gNotInA dctD
  simp only [K.key, Option.bind_some, K.homog, if_true, K.dget, Option.isSome_map, look_isSome]
theorem KeyOk.ix (K : KeyOk kK enc) {m : List (α × β)} {a : α} {v : β} (h : look m a = some v) : gIxA (dctD kK eV m) (enc a) = some (.val (eV v)) := by
  unfold gIxA dctD
  simp only [K.key, Option.bind_some, K.homog, if_true, K.dget, h, Option.map_some]
def putM (m : List (α × β)) (a : α) (v : β) : List (α × β) := if a ∈ m.map (·.1) then m.map (fun p => if p.1 = a then (p.1, v) else p) else m ++ [(a, v)]
theorem KeyOk.put (K : KeyOk kK enc) {m : List (α × β)} {a : α} {v : β} (hl : m.length ≤ 1000000) : putD (dctD kK eV m) (enc a) (eV v) = some (dctD kK eV (putM m a v)) := by
  unfold putD dctD
  simp only [K.key, Option.bind_some, K.homog, true_and, List.length_map]
  rw [if_pos (by rw [sizeLine_eq]; omega)]
  congr 2
  unfold dput putM
  rw [K.dget, Option.isSome_map, look_isSome]
  by_cases h : a ∈ m.map (·.1)
  · simp only [h, decide_true, if_true, List.map_map]
    refine List.map_congr_left fun p _ => ?_
    by_cases q : p.1 = a
    · simp [q]
    · have q' : ¬ kK p.1 = kK a := fun z => q (K.inj _ _ z)
      simp [q, q']
  · simp [h]
theorem KeyOk.put_new (K : KeyOk kK enc) {m : List (α × β)} {a : α} {v : β} (hl : m.length ≤ 1000000) (h : a ∉ m.map (·.1)) : putD (dctD kK eV m) (enc a) (eV v) = some (dctD kK eV (m ++ [(a, v)])) := by
  rw [K.put hl, putM, if_neg h]
theorem look_put (m : List (α × β)) (a : α) (v : β) (b : α) : look (putM m a v) b = if b = a then some v else look m b := by
  unfold putM
  by_cases h : a ∈ m.map (·.1)
  · rw [if_pos h]
    induction m with
    | nil => simp at h
    | cons p m ih =>
      unfold look
      simp only [List.map_cons, List.find?_cons]
      by_cases e : p.1 = a
      · simp only [e, if_true]
        by_cases e2 : b = a
        · subst e2; simp
        · have e2' : ¬ a = b := fun z => e2 z.symm
          simp only [e2', decide_false, e2, if_false]
          by_cases hm : a ∈ m.map (·.1)
          · have := ih hm
            unfold look at this
            rw [if_neg e2] at this
            exact this
          · have : m.map (fun p => if p.1 = a then (p.1, v) else p) = m := by
              conv => rhs; rw [← List.map_id m]
              refine List.map_congr_left fun q hq => ?_
              have : ¬ q.1 = a := fun z => hm (List.mem_map.mpr ⟨q, hq, z⟩)
              simp [this]
            rw [this]
      · have hm : a ∈ m.map (·.1) := by
          rw [List.map_cons] at h
          rcases List.mem_cons.mp h with q | q
          · exact absurd q.symm e
          · exact q
        simp only [e, if_false]
        have := ih hm
        unfold look at this
        by_cases e3 : p.1 = b
        · have e2 : ¬ b = a := fun z => e (e3.trans z)
          simp [e3, e2]
        · simp only [e3, decide_false]
          exact this
  · rw [if_neg h]
    unfold look
    rw [List.find?_append]
    by_cases e2 : b = a
    · subst e2
      have : m.find? (fun p => decide (p.1 = b)) = none := by
        rw [List.find?_eq_none]
        intro p hp
        simp only [decide_eq_true_eq]
        exact fun z => h (List.mem_map.mpr ⟨p, hp, z⟩)
      simp [this]
    · have e2' : ¬ a = b := fun z => e2 z.symm
      rw [if_neg e2]
      simp [List.find?_cons, e2']
end
theorem keyD_num (i : Int) : keyD (.int i) = some (.num i) := rfl
theorem int_key : KeyOk (fun i : Int => NestedKey.num i) D.int := ⟨fun a b h => by simpa using h, fun _ => rfl, .inl fun _ => rfl⟩
theorem nat_key : KeyOk (fun i : Nat => NestedKey.num (i : Int)) natD := ⟨fun a b h => Int.ofNat_inj.mp (by simpa using h), fun _ => rfl, .inl fun _ => rfl⟩
/-- a dict that holds one -/
theorem dict1_dct {α β : Type} {kK : α → NestedKey} {enc : α → D} {eV : β → D} (K : KeyOk kK enc) (a : α) (v : β) (e : VS.Env) : dict1S (keyD (enc a)) (eV v) e = .ok (.fresh (dctD kK eV [(a, v)])) e := by
  rw [K.key]
  show (if homog [] (kK a) = true then _ else _) = _
  have := K.kind
  have h : homog [] (kK a) = true := by
    unfold VS.homog
    rcases K.kind with k | k <;> simp [k]
  rw [if_pos h]
  rfl
/-! ### walking a graph breadth first -/
section
variable {α β L : Type} [DecidableEq α] {succ : α → List (L × α)} {ext : β → L → β} {len : β → Nat} {s : α} {v0 : β}
/-- one thing more, if it is new -/
def add1 (v : β) (m : List (α × β)) (a : α) : List (α × β) := if a ∈ m.map (·.1) then m else m ++ [(a, v)]
def addS (ext : β → L → β) (v : β) (m : List (α × β)) (xs : List (L × α)) : List (α × β) := xs.foldl (fun m x => add1 (ext v x.1) m x.2) m
theorem add1_pre (v : β) (m : List (α × β)) (a : α) : ∃ r, add1 v m a = m ++ r := by
  unfold add1
  split
  · exact ⟨[], by simp⟩
  · exact ⟨_, rfl⟩
theorem addS_pre (v : β) : ∀ (xs : List (L × α)) (m : List (α × β)), ∃ r, addS ext v m xs = m ++ r
  | [], m => ⟨[], by simp [addS]⟩
  | x :: xs, m => by
    obtain ⟨r, h⟩ := add1_pre (ext v x.1) m x.2
    obtain ⟨r', h'⟩ := addS_pre v xs (add1 (ext v x.1) m x.2)
    exact ⟨r ++ r', by show addS ext v (add1 (ext v x.1) m x.2) xs = _; rw [h', h, List.append_assoc]⟩
theorem addS_pre2 (v : β) : ∀ (xs : List (L × α)) (m : List (α × β)), ∃ r, addS ext v m xs = m ++ r ∧ r.length ≤ xs.length
  | [], m => ⟨[], by simp [addS], Nat.zero_le _⟩
  | x :: xs, m => by
    obtain ⟨r', h', hl⟩ := addS_pre2 v xs (add1 (ext v x.1) m x.2)
    unfold add1 at h'
    by_cases hb : x.2 ∈ m.map (·.1)
    · rw [if_pos hb] at h'
      refine ⟨r', ?_, by rw [List.length_cons]; omega⟩
      show addS ext v (add1 (ext v x.1) m x.2) xs = _
      unfold add1
      rw [if_pos hb]
      exact h'
    · rw [if_neg hb] at h'
      refine ⟨(x.2, ext v x.1) :: r', ?_, by simp; omega⟩
      show addS ext v (add1 (ext v x.1) m x.2) xs = _
      unfold add1
      rw [if_neg hb, h', List.append_assoc]
      rfl
theorem look_app {m r : List (α × β)} {a : α} {v : β} (h : look m a = some v) : look (m ++ r) a = some v := by
  unfold look at h ⊢
  rw [List.find?_append]
  cases q : m.find? (fun p => decide (p.1 = a)) with
  | none => rw [q] at h; cases h
  | some x => rw [q] at h; simpa using h
theorem look_at {m : List (α × β)} {i : Nat} {a : α} {v : β} (nd : (m.map (·.1)).Nodup) (h : m[i]? = some (a, v)) : look m a = some v := look_of_mem nd (List.mem_of_getElem? h)
theorem addS_take (v : β) (xs : List (L × α)) (m : List (α × β)) (j : Nat) (x : L × α) (h : xs[j]? = some x) : addS ext v m (xs.take (j + 1)) = add1 (ext v x.1) (addS ext v m (xs.take j)) x.2 := by
  unfold addS
  rw [List.take_add_one, h, List.foldl_append]
  rfl
/-- what holds while it goes: m met so far, the first i of them done -/
structure Bfs (succ : α → List (L × α)) (ext : β → L → β) (len : β → Nat) (s : α) (v0 : β) (m : List (α × β)) (i : Nat) : Prop where
  nd : (m.map (·.1)).Nodup
  st : m[0]? = some (s, v0)
  mono : m.Pairwise fun x y => len x.2 ≤ len y.2
  near : ∀ x ∈ m, ∀ y, m[i]? = some y → len x.2 ≤ len y.2 + 1
  clos : ∀ j a u, j < i → m[j]? = some (a, u) → ∀ l b, (l, b) ∈ succ a → ∃ v, (b, v) ∈ m ∧ len v ≤ len u + 1
  frm : ∀ b v, (b, v) ∈ m → (b = s ∧ v = v0) ∨ ∃ a u l, (a, u) ∈ m ∧ (l, b) ∈ succ a ∧ v = ext u l
  le : i ≤ m.length
theorem Bfs.start (hl : len v0 = 0) : Bfs succ ext len s v0 [(s, v0)] 0 where
  nd := by simp
  st := rfl
  mono := by simp
  near x hx y hy := by
    simp at hx
    subst hx
    show len v0 ≤ _
    omega
  clos j a u h := absurd h (Nat.not_lt_zero j)
  frm b v h := by
    simp at h
    exact .inl h
  le := Nat.zero_le _
/-- within one thing's turn: those in done are dealt with -/
structure Mid (succ : α → List (L × α)) (ext : β → L → β) (len : β → Nat) (s : α) (v0 : β) (i : Nat) (a : α) (u : β) (m : List (α × β)) (dn : List (L × α)) : Prop where
  nd : (m.map (·.1)).Nodup
  st : m[0]? = some (s, v0)
  mono : m.Pairwise fun x y => len x.2 ≤ len y.2
  top : ∀ x ∈ m, len x.2 ≤ len u + 1
  here : m[i]? = some (a, u)
  clos : ∀ j a u, j < i → m[j]? = some (a, u) → ∀ l b, (l, b) ∈ succ a → ∃ v, (b, v) ∈ m ∧ len v ≤ len u + 1
  mine : ∀ l b, (l, b) ∈ dn → ∃ v, (b, v) ∈ m ∧ len v ≤ len u + 1
  frm : ∀ b v, (b, v) ∈ m → (b = s ∧ v = v0) ∨ ∃ a u l, (a, u) ∈ m ∧ (l, b) ∈ succ a ∧ v = ext u l
theorem Bfs.mid {m : List (α × β)} {i : Nat} {a : α} {u : β} (B : Bfs succ ext len s v0 m i) (h : m[i]? = some (a, u)) : Mid succ ext len s v0 i a u m [] :=
  ⟨B.nd, B.st, B.mono, fun x hx => B.near x hx _ h, h, B.clos, fun _ _ h => by simp at h, B.frm⟩
theorem get_app {γ : Type} {l r : List γ} {j : Nat} {x : γ} (h : l[j]? = some x) : (l ++ r)[j]? = some x := by
  have hl := (List.getElem?_eq_some_iff.mp h).1
  rw [List.getElem?_append_left hl, h]
theorem get_of_app {γ : Type} {l r : List γ} {j : Nat} {x : γ} (hj : j < l.length) (h : (l ++ r)[j]? = some x) : l[j]? = some x := by
  rw [List.getElem?_append_left hj] at h
  exact h
theorem Mid.step {m : List (α × β)} {i : Nat} {a : α} {u : β} {dn : List (L × α)} {l : L} {b : α} (hext : ∀ u l, len (ext u l) = len u + 1) (M : Mid succ ext len s v0 i a u m dn) (hs : (l, b) ∈ succ a) : Mid succ ext len s v0 i a u (add1 (ext u l) m b) (dn ++ [(l, b)]) := by
  have hi : i < m.length := (List.getElem?_eq_some_iff.mp M.here).1
  by_cases hb : b ∈ m.map (·.1)
  · have e : add1 (ext u l) m b = m := by unfold add1; rw [if_pos hb]
    rw [e]
    refine ⟨M.nd, M.st, M.mono, M.top, M.here, M.clos, fun l' b' h => ?_, M.frm⟩
    rcases List.mem_append.mp h with q | q
    · exact M.mine l' b' q
    · simp at q
      obtain ⟨rfl, rfl⟩ := q
      obtain ⟨p, hp, rfl⟩ := List.mem_map.mp hb
      exact ⟨p.2, hp, M.top p hp⟩
  · have e : add1 (ext u l) m b = m ++ [(b, ext u l)] := by unfold add1; rw [if_neg hb]
    rw [e]
    refine ⟨?_, get_app M.st, ?_, fun x hx => ?_, get_app M.here, fun j a' u' hj h l' b' hs' => ?_, fun l' b' h => ?_, fun b' v' h => ?_⟩
    · rw [List.map_append, List.map_cons, List.map_nil]
      rw [List.nodup_append]
      refine ⟨M.nd, by simp, fun x hx y hy => ?_⟩
      simp at hy
      subst hy
      exact fun z => hb (z ▸ hx)
    · rw [List.pairwise_append]
      refine ⟨M.mono, by simp, fun x hx y hy => ?_⟩
      simp at hy
      subst hy
      have := M.top x hx
      show len x.2 ≤ len (ext u l)
      rw [hext]
      exact this
    · rcases List.mem_append.mp hx with q | q
      · exact M.top x q
      · simp at q
        subst q
        show len (ext u l) ≤ _
        rw [hext]
        exact Nat.le_refl _
    · obtain ⟨v, h1, h2⟩ := M.clos j a' u' hj (get_of_app (by omega) h) l' b' hs'
      exact ⟨v, List.mem_append_left _ h1, h2⟩
    · rcases List.mem_append.mp h with q | q
      · obtain ⟨v, h1, h2⟩ := M.mine l' b' q
        exact ⟨v, List.mem_append_left _ h1, h2⟩
      · simp at q
        obtain ⟨rfl, rfl⟩ := q
        exact ⟨ext u l', by simp, by rw [hext]; exact Nat.le_refl _⟩
    · rcases List.mem_append.mp h with q | q
      · rcases M.frm b' v' q with z | ⟨a', u', l', h1, h2, h3⟩
        · exact .inl z
        · exact .inr ⟨a', u', l', List.mem_append_left _ h1, h2, h3⟩
      · simp at q
        obtain ⟨rfl, rfl⟩ := q
        exact .inr ⟨a, u, l, List.mem_append_left _ (List.mem_of_getElem? M.here), hs, rfl⟩
theorem Mid.steps (hext : ∀ u l, len (ext u l) = len u + 1) {i : Nat} {a : α} {u : β} : ∀ (xs : List (L × α)) {m : List (α × β)} {dn : List (L × α)}, Mid succ ext len s v0 i a u m dn → (∀ x ∈ xs, x ∈ succ a) → Mid succ ext len s v0 i a u (addS ext u m xs) (dn ++ xs)
  | [], m, dn, M, _ => by simpa [addS] using M
  | x :: xs, m, dn, M, h => by
    have := Mid.steps hext xs (M.step hext (h x List.mem_cons_self)) fun y hy => h y (List.mem_cons_of_mem _ hy)
    rw [List.append_assoc] at this
    exact this
theorem Mid.done {m : List (α × β)} {i : Nat} {a : α} {u : β} (M : Mid succ ext len s v0 i a u m (succ a)) : Bfs succ ext len s v0 m (i + 1) where
  nd := M.nd
  st := M.st
  mono := M.mono
  near x hx y hy := by
    have h1 := M.top x hx
    have h2 : len u ≤ len y.2 := by
      obtain ⟨hl, e⟩ := List.getElem?_eq_some_iff.mp hy
      obtain ⟨hl', e'⟩ := List.getElem?_eq_some_iff.mp M.here
      have := (List.pairwise_iff_getElem.mp M.mono) i (i + 1) hl' hl (Nat.lt_succ_self i)
      rw [e, e'] at this
      exact this
    omega
  clos j a' u' hj h l b hs := by
    by_cases e : j = i
    · subst e
      rw [M.here] at h
      cases h
      exact M.mine l b hs
    · exact M.clos j a' u' (by omega) h l b hs
  frm := M.frm
  le := (List.getElem?_eq_some_iff.mp M.here).1
theorem Bfs.step (hext : ∀ u l, len (ext u l) = len u + 1) {m : List (α × β)} {i : Nat} {a : α} {u : β} (B : Bfs succ ext len s v0 m i) (h : m[i]? = some (a, u)) : Bfs succ ext len s v0 (addS ext u m (succ a)) (i + 1) := by
  have := (B.mid h).steps hext (succ a) fun _ h => h
  rw [List.nil_append] at this
  exact this.done
/-- when all is done -/
structure Met (succ : α → List (L × α)) (ext : β → L → β) (len : β → Nat) (s : α) (v0 : β) (m : List (α × β)) : Prop where
  nd : (m.map (·.1)).Nodup
  st : (s, v0) ∈ m
  mono : m.Pairwise fun x y => len x.2 ≤ len y.2
  clos : ∀ a u, (a, u) ∈ m → ∀ l b, (l, b) ∈ succ a → ∃ v, (b, v) ∈ m ∧ len v ≤ len u + 1
  frm : ∀ b v, (b, v) ∈ m → (b = s ∧ v = v0) ∨ ∃ a u l, (a, u) ∈ m ∧ (l, b) ∈ succ a ∧ v = ext u l
theorem Bfs.met {m : List (α × β)} (B : Bfs succ ext len s v0 m m.length) : Met succ ext len s v0 m where
  nd := B.nd
  st := List.mem_of_getElem? B.st
  mono := B.mono
  clos a u h l b hs := by
    obtain ⟨j, hj⟩ := List.mem_iff_getElem?.mp h
    exact B.clos j a u (List.getElem?_eq_some_iff.mp hj).1 hj l b hs
  frm := B.frm
/-- a walk of k moves -/
inductive Walk (succ : α → List (L × α)) : α → List L → α → Prop
  | nil (a : α) : Walk succ a [] a
  | cons {a b c : α} {l : L} {ls : List L} : (l, b) ∈ succ a → Walk succ b ls c → Walk succ a (l :: ls) c
theorem Walk.snoc {a b c : α} {ls : List L} {l : L} (w : Walk succ a ls b) (h : (l, c) ∈ succ b) : Walk succ a (ls ++ [l]) c := by
  induction w with
  | nil a => exact .cons h (.nil _)
  | cons h1 _ ih => exact .cons h1 (ih h)
theorem Walk.append {a b c : α} {ls ms : List L} (w : Walk succ a ls b) (w' : Walk succ b ms c) : Walk succ a (ls ++ ms) c := by
  induction w with
  | nil a => exact w'
  | cons h1 _ ih => exact .cons h1 (ih w')
theorem Met.upper {m : List (α × β)} (M : Met succ ext len s v0 m) (hl : len v0 = 0) {a b : α} {ls : List L} (w : Walk succ a ls b) : ∀ u, (a, u) ∈ m → ∃ v, (b, v) ∈ m ∧ len v ≤ len u + ls.length := by
  induction w with
  | nil a => exact fun u h => ⟨u, h, by simp⟩
  | cons h _ ih =>
    intro u hu
    obtain ⟨v, h1, h2⟩ := M.clos _ u hu _ _ h
    obtain ⟨v', h3, h4⟩ := ih v h1
    exact ⟨v', h3, by rw [List.length_cons]; omega⟩
theorem Met.lower {m : List (α × β)} (M : Met succ ext len s v0 m) (hl : len v0 = 0) (hext : ∀ u l, len (ext u l) = len u + 1) : ∀ (k : Nat) (b : α) (v : β), (b, v) ∈ m → len v = k → ∃ ls, Walk succ s ls b ∧ ls.length = k := by
  intro k
  induction k with
  | zero =>
    intro b v h e
    rcases M.frm b v h with ⟨rfl, rfl⟩ | ⟨a, u, l, _, _, rfl⟩
    · exact ⟨[], .nil _, rfl⟩
    · rw [hext] at e
      omega
  | succ k ih =>
    intro b v h e
    rcases M.frm b v h with ⟨rfl, rfl⟩ | ⟨a, u, l, h1, h2, rfl⟩
    · rw [hl] at e
      omega
    · rw [hext] at e
      obtain ⟨ls, w, q⟩ := ih a u h1 (by omega)
      exact ⟨ls ++ [l], w.snoc h2, by rw [List.length_append]; simp [q]⟩
/-- how far: the least length of a walk -/
def Far (succ : α → List (L × α)) (a b : α) (k : Nat) : Prop := (∃ ls, Walk succ a ls b ∧ ls.length = k) ∧ ∀ ls, Walk succ a ls b → k ≤ ls.length
theorem Far.uniq {a b : α} {k j : Nat} (h : Far succ a b k) (h' : Far succ a b j) : k = j := by
  obtain ⟨⟨ls, w, e⟩, q⟩ := h
  obtain ⟨⟨ls', w', e'⟩, q'⟩ := h'
  have := q ls' w'
  have := q' ls w
  omega
theorem Met.far {m : List (α × β)} (M : Met succ ext len s v0 m) (hl : len v0 = 0) (hext : ∀ u l, len (ext u l) = len u + 1) {b : α} {v : β} (h : (b, v) ∈ m) : Far succ s b (len v) := by
  refine ⟨M.lower hl hext _ b v h rfl, fun ls w => ?_⟩
  obtain ⟨v', h1, h2⟩ := M.upper hl w v0 M.st
  have e : v' = v := by
    have := look_of_mem M.nd h1
    rw [look_of_mem M.nd h] at this
    cases this
    rfl
  rw [e, hl] at h2
  omega
theorem Met.all {m : List (α × β)} (M : Met succ ext len s v0 m) (hl : len v0 = 0) {b : α} {ls : List L} (w : Walk succ s ls b) : b ∈ m.map (·.1) := by
  obtain ⟨v', h1, _⟩ := M.upper hl w v0 M.st
  exact List.mem_map.mpr ⟨_, h1, rfl⟩
theorem Met.walk {m : List (α × β)} (M : Met succ ext len s v0 m) (hl : len v0 = 0) (hext : ∀ u l, len (ext u l) = len u + 1) {b : α} (h : b ∈ m.map (·.1)) : ∃ ls, Walk succ s ls b := by
  obtain ⟨p, hp, rfl⟩ := List.mem_map.mp h
  obtain ⟨ls, w, _⟩ := M.lower hl hext _ p.1 p.2 hp rfl
  exact ⟨ls, w⟩
/-- they are no more than there are things -/
theorem nodup_le {γ : Type} [DecidableEq γ] {l u : List γ} (nd : l.Nodup) (h : ∀ x ∈ l, x ∈ u) : l.length ≤ u.length := by
  induction l generalizing u with
  | nil => exact Nat.zero_le _
  | cons x l ih =>
    rw [List.nodup_cons] at nd
    have hx : x ∈ u := h x List.mem_cons_self
    have := ih (u := u.erase x) nd.2 fun y hy => by
      have : y ≠ x := fun e => nd.1 (e ▸ hy)
      exact (List.mem_erase_of_ne this).mpr (h y (List.mem_cons_of_mem _ hy))
    rw [List.length_erase_of_mem hx] at this
    have hpos : 0 < u.length := List.length_pos_of_mem hx
    rw [List.length_cons]
    omega
theorem Bfs.within {m : List (α × β)} {i : Nat} (B : Bfs succ ext len s v0 m i) (U : List α) (hs : s ∈ U) (hu : ∀ a ∈ U, ∀ l b, (l, b) ∈ succ a → b ∈ U) (hl : len v0 = 0) (hext : ∀ u l, len (ext u l) = len u + 1) : m.length ≤ U.length := by
  have : ∀ k (b : α) (v : β), (b, v) ∈ m → len v = k → b ∈ U := by
    intro k
    induction k with
    | zero =>
      intro b v h e
      rcases B.frm b v h with ⟨rfl, rfl⟩ | ⟨a, u, l, _, _, rfl⟩
      · exact hs
      · rw [hext] at e
        omega
    | succ k ih =>
      intro b v h e
      rcases B.frm b v h with ⟨rfl, rfl⟩ | ⟨a, u, l, h1, h2, rfl⟩
      · exact hs
      · rw [hext] at e
        exact hu a (ih a u h1 (by omega)) l b h2
  rw [← List.length_map (f := (·.1))]
  refine nodup_le B.nd fun b hb => ?_
  obtain ⟨p, hp, rfl⟩ := List.mem_map.mp hb
  exact this _ p.1 p.2 hp rfl
/-- the loop over what waits -/
theorem bfs_queue {T : TF} {F : SF} {env : VS.Env} (E : List (α × β) → Nat → VS.Env → Prop) (N : Nat) (hN : N < 1000000000) (hb : ∀ m i, Bfs succ ext len s v0 m i → m.length ≤ N) (hl : len v0 = 0) (hext : ∀ u l, len (ext u l) = len u + 1) (h0 : E [(s, v0)] 0 env)
    (hT : ∀ m i e, E m i e → Bfs succ ext len s v0 m i → T e = .ok (decide (i < m.length)) e)
    (hF : ∀ m i e a u, E m i e → Bfs succ ext len s v0 m i → m[i]? = some (a, u) → ∃ e', F e = .ok .nx e' ∧ E (addS ext u m (succ a)) (i + 1) e') :
    ∃ e' m, sWhile T F env = .ok .nx e' ∧ E m m.length e' ∧ Bfs succ ext len s v0 m m.length := by
  obtain ⟨e', h1, m, h2, h3⟩ := whF_inv (T := T) (F := F) (fun k e => ∃ m i, E m i e ∧ Bfs succ ext len s v0 m i ∧ k + i = N) (fun e => ∃ m, E m m.length e ∧ Bfs succ ext len s v0 m m.length) N fuel (by unfold fuel; omega) (env := env) ⟨_, 0, h0, Bfs.start hl, rfl⟩ (by
    rintro k e ⟨m, i, hE, B, hk⟩
    have ht := hT m i e hE B
    by_cases hi : i < m.length
    · right
      rw [decide_eq_true hi] at ht
      obtain ⟨⟨a, u⟩, hx⟩ : ∃ y, m[i]? = some y := ⟨_, List.getElem?_eq_getElem hi⟩
      obtain ⟨e2, f1, f2⟩ := hF m i e a u hE B hx
      have := hb _ _ B
      exact ⟨e, e2, .nx, ht, f1, .inl rfl, k - 1, by omega, _, _, f2, B.step hext hx, by omega⟩
    · left
      rw [decide_eq_false hi] at ht
      have e1 : i = m.length := by have := B.le; omega
      subst e1
      exact ⟨e, ht, m, hE, B⟩)
  exact ⟨e', m, h1, h2, h3⟩
theorem bfs_turn {gD : GF} {F : SF} {env : VS.Env} (encS : L × α → D) (E : List (α × β) → VS.Env → Prop) (u : β) (xs : List (L × α)) (m : List (α × β)) (h0 : E m env)
    (hs : ∀ r x e, r.length ≤ xs.length → E (m ++ r) e → x ∈ xs → ∃ e1 e2, gD (encS x) e = some e1 ∧ F e1 = .ok .nx e2 ∧ E (add1 (ext u x.1) (m ++ r) x.2) e2) : ∃ e', forF gD F (xs.map encS) env = .ok .nx e' ∧ E (addS ext u m xs) e' := by
  obtain ⟨e', h1, h2⟩ := forF_map (gD := gD) (F := F) encS xs (fun j e => E (addS ext u m (xs.take j)) e) (env := env) (by simpa [addS] using h0) (fun j x e hj hE => by
    obtain ⟨r, hr, hrl⟩ := addS_pre2 (ext := ext) u (xs.take j) m
    simp only [hr] at hE
    obtain ⟨e1, e2, q1, q2, q3⟩ := hs r x e (by rw [List.length_take] at hrl; omega) hE (List.mem_of_getElem? hj)
    refine ⟨e1, e2, .nx, q1, q2, .inl rfl, ?_⟩
    simp only [addS_take u xs m j x hj, hr]
    exact q3)
  rw [List.take_length] at h2
  exact ⟨e', h1, h2⟩
end
/-! ### things as data -/
def pairD (p : Nat × Nat) : D := .tup [natD p.1, natD p.2]
def webD (n : Nat) (ts : List (Nat × Nat)) : D := .tup [natD n, .tup (ts.map pairD)]
def placesD (ps : List Nat) : D := .tup (ps.map natD)
theorem atI_nat' {ds : List D} {i : Nat} {d : D} (h : ds[i]? = some d) : atI ds (i : Int) = some d := atI_nat h
theorem ix_tn {l : List D} {i : Nat} {d : D} (h : l[i]? = some d) : gIxA (.tup l) (natD i) = some (.val d) := by
  simp [natD, gIxA, gIx, seqOf, atI_nat' h]
theorem ix_t0 {x : D} {l : List D} : gIxA (.tup (x :: l)) (natD 0) = some (.val x) := ix_tn rfl
theorem ix_t1 {x y : D} {l : List D} : gIxA (.tup (x :: y :: l)) (natD 1) = some (.val y) := ix_tn rfl
theorem ix_t2 {x y z : D} {l : List D} : gIxA (.tup (x :: y :: z :: l)) (natD 2) = some (.val z) := ix_tn rfl
theorem ix_ln {l : List D} {i : Nat} {d : D} (h : l[i]? = some d) : gIxA (.lst l) (natD i) = some (.val d) := by
  simp [natD, gIxA, gIx, seqOf, atI_nat' h]
theorem ix_sn {l : List D} {i : Nat} {d : D} (h : l[i]? = some d) : gIxA (.scr l) (natD i) = some (.val d) := by
  simp [natD, gIxA, gIx, seqOf, atI_nat' h]
theorem is_whole_int (i lo hi : Int) : m_is_whole [.val (.int i), .val (.int lo), .val (.int hi)] = .ok (.val (.bl (decide (lo ≤ i) && decide (i ≤ hi)))) [some (.val (.int i)), some (.val (.int lo)), some (.val (.int hi))] := by
  unfold m_is_whole
  simp! []
theorem is_whole_n (i lo hi : Nat) : m_is_whole [.val (natD i), .val (natD lo), .val (natD hi)] = .ok (.val (.bl (decide (lo ≤ i) && decide (i ≤ hi)))) [some (.val (natD i)), some (.val (natD lo)), some (.val (natD hi))] := by
  unfold m_is_whole
  simp! [Int.ofNat_le]
theorem cut1 {l : List D} (hl : l.length ≤ sizeLine) : cutL l (some 1) none = l.drop 1 := by
  unfold cutL
  rw [show HT.sIx l.length 0 (some 1) = min 1 l.length from HT.sIx_nat l.length 0 1, HT.sIx_none]
  cases l with
  | nil => rfl
  | cons x r =>
    rw [show min 1 (x :: r).length = 1 by rw [List.length_cons]; omega]
    show List.take ((x :: r).length - 1) r = r
    rw [List.length_cons, Nat.add_sub_cancel]
    exact List.take_length
theorem gsl1 {l : List D} (hl : l.length ≤ sizeLine) : gSl (.tup l) (some 1) none = some (.val (.tup (l.drop 1))) := by
  simp only [gSl, cut1 hl]
theorem lexLt_pair {a b c d : Int} : HT.lexLt [a, b] [c, d] = (decide (a < c) || (decide (a = c) && decide (b < d))) := by
  simp only [HT.lexLt]
  by_cases h : a = c
  · subst h
    by_cases h2 : b = d
    · subst h2; simp
    · simp [h2]
  · simp [h]

/-! ### draws -/
def scrD (s : List Int) : D := .scr (s.map .int)
def townL (k : Nat) : D := .lst (List.replicate k (natD 0))
def cellAt (s : List Int) (k : Nat) : Int := if h : k < s.length then s[k] else if s = [] then 0 else (s.getD (k % s.length) 0) * 31 + k
def mixedN (s : List Int) (k : Nat) (many : Int) : Int := (let dr := (cellAt s k + 7919 * k + 1) * 48271 % 2147483647; dr * dr + 7 * dr + k) % 2147483629 % many
theorem pls_ints (n : Nat) (s : List Int) : pls n (s.map .int) = true := by
  induction s with
  | nil => cases n <;> rfl
  | cons x s ih =>
    cases n <;> simp [pls, pl, ih]
theorem eq_scr_nil (s : List Int) : gEq (scrD s) (.lst []) = some (.val (.bl (decide (s = [])))) := by
  have h : plS (scrD s) = true := pls_ints 8 s
  have h2 : plS (.lst []) = true := rfl
  simp only [gEq, h, h2, and_self, if_true]
  cases s with
  | nil => rfl
  | cons x s => rfl
theorem cell_at_eq (s : List Int) (k : Nat) : m__law_cell_at [.val (scrD s), .val (natD k)] = .ok (.val (.int (cellAt s k))) [some (.val (scrD s)), some (.val (natD k))] := by
  have hlen : gLen (scrD s) = some (.val (natD s.length)) := by simp [gLen, scrD, natD]
  unfold m__law_cell_at
  by_cases h : k < s.length
  · have hg : gIxA (scrD s) (natD k) = some (.val (.int s[k])) := ix_sn (by simp [h])
    simp! [hlen, hg, h]
    simp [cellAt, h]
  · by_cases h0 : s = []
    · subst h0
      have hlen0 : gLen (scrD []) = some (.val (natD 0)) := rfl
      simp! [hlen0, Nat.not_lt_zero, eq_scr_nil]
      simp [cellAt, natD]
    · have hpos : 0 < s.length := by
        cases s with
        | nil => exact absurd rfl h0
        | cons x s => simp
      have hlt : k % s.length < s.length := Nat.mod_lt _ hpos
      have hg : gIxA (scrD s) (natD (k % s.length)) = some (.val (.int (s.getD (k % s.length) 0))) := by
        refine ix_sn ?_
        simp [List.getElem?_map, List.getD, hlt]
      have hmul : gMul (.int (s.getD (k % s.length) 0)) (natD 31) = some (.val (.int (s.getD (k % s.length) 0 * 31))) := ev_mul (by simp [cMul])
      have hadd : gAdd (.int (s.getD (k % s.length) 0 * 31)) (natD k) = some (.val (.int (s.getD (k % s.length) 0 * 31 + k))) := rfl
      simp! [hlen, h, eq_scr_nil, h0, mod_n hpos, hg, hmul, hadd]
      simp [cellAt, h, h0]
theorem mixed_eq (s : List Int) (k many : Nat) (hm : 0 < many) : ∃ fin, m__law_mixed [.val (scrD s), .val (natD k), .val (natD many)] = .ok (.val (.int (mixedN s k many))) fin := by
  have h1 : gMul (.int 7919) (natD k) = some (.val (.int (7919 * k))) := ev_mul (by simp [cMul])
  have h0 : gAdd (.int (cellAt s k + 7919 * k)) (natD 1) = some (.val (.int (cellAt s k + 7919 * k + 1))) := rfl
  have h2 : gMul (.int (cellAt s k + 7919 * k + 1)) (.int 48271) = some (.val (.int ((cellAt s k + 7919 * k + 1) * 48271))) := ev_mul (by simp [cMul])
  have h3 : gMod (.int ((cellAt s k + 7919 * k + 1) * 48271)) (.int 2147483647) = some (.val (.int ((cellAt s k + 7919 * k + 1) * 48271 % 2147483647))) := ev_mod (by decide)
  generalize hd : (cellAt s k + 7919 * k + 1) * 48271 % 2147483647 = dr at h3
  have d0 : 0 ≤ dr := by rw [← hd]; exact Int.emod_nonneg _ (by decide)
  have d1 : dr < 2147483647 := by rw [← hd]; exact Int.emod_lt_of_pos _ (by decide)
  have h4 : gMul (.int dr) (.int dr) = some (.val (.int (dr * dr))) := ev_mul (by simp [cMul]; omega)
  have h5 : gMul (natD 7) (.int dr) = some (.val (.int (7 * dr))) := ev_mul (by simp [cMul])
  have h6 : gAdd (.int (dr * dr + 7 * dr)) (natD k) = some (.val (.int (dr * dr + 7 * dr + k))) := rfl
  have h7 : gMod (.int (dr * dr + 7 * dr + k)) (.int 2147483629) = some (.val (.int ((dr * dr + 7 * dr + k) % 2147483629))) := ev_mod (by decide)
  have h8 : gMod (.int ((dr * dr + 7 * dr + k) % 2147483629)) (natD many) = some (.val (.int (mixedN s k many))) := by
    unfold natD
    rw [ev_mod (by omega)]
    simp only [mixedN, hd]
  unfold m__law_mixed
  simp! [cell_at_eq, h0, h1, h2, h3, h4, h5, h6, h7, h8]
  exact ⟨_, rfl⟩
theorem mixedN_range (s : List Int) (k : Nat) (many : Int) (hm : 0 < many) : 0 ≤ mixedN s k many ∧ mixedN s k many < many := ⟨Int.emod_nonneg _ (by omega), Int.emod_lt_of_pos _ hm⟩
/-- the next draw -/
def drw (s : List Int) (k : Nat) (many : Nat) : Nat := (mixedN s (k + 1) many).toNat
theorem drw_lt (s : List Int) (k : Nat) {many : Nat} (hm : 0 < many) : drw s k many < many := by
  have := mixedN_range s (k + 1) (many : Int) (by omega)
  unfold drw
  omega
theorem draw_eq (s : List Int) (k many : Nat) (hm : 0 < many) (hk : k < 16777215) : m__law_draw [.val (scrD s), .own (townL k), .val (natD many)] = .ok (.val (natD (drw s k many))) [some (.val (scrD s)), some (.own (townL (k + 1))), some (.val (natD many))] := by
  obtain ⟨fin, hf⟩ := mixed_eq s (k + 1) many hm
  have ha : mAppend (List.replicate k (natD 0)) (natD 0) = some (.non, List.replicate (k + 1) (natD 0)) := by
    unfold mAppend
    rw [if_pos (by rw [List.length_replicate, sizeLine_eq]; omega), List.replicate_succ']
  have hv : D.int (mixedN s (k + 1) (many : Int)) = natD (drw s k many) := by
    have := mixedN_range s (k + 1) (many : Int) (by omega)
    unfold natD drw
    rw [Int.toNat_of_nonneg this.1]
  unfold m__law_draw townL
  simp! [ha, hf, hv, List.length_replicate]
theorem ev_isi_tuple_w {d : D} {l : List D} (h : d = .tup l) : gIsi "tuple" d = some (.val (.bl true)) := by rw [h]; exact ev_isi_tuple_tup
theorem ev_lenw {d : D} {l : List D} (h : d = .tup l) : gLen d = some (.val (natD l.length)) := by rw [h]; rfl
theorem ix_t0w {d x : D} {l : List D} (h : d = .tup (x :: l)) : gIxA d (natD 0) = some (.val x) := by rw [h]; exact ix_t0
theorem ix_t1w {d x y : D} {l : List D} (h : d = .tup (x :: y :: l)) : gIxA d (natD 1) = some (.val y) := by rw [h]; exact ix_t1
/-! ### webs and places that are ones -/
theorem boolsOf_map {α : Type} (p : α → Bool) : ∀ xs : List α, boolsOf (xs.map fun x => .bl (p x)) = some (xs.map p)
  | [] => rfl
  | x :: xs => by simp [boolsOf, boolsOf_map p xs]
theorem all_map {α : Type} (p : α → Bool) (xs : List α) : gAll (.lst (xs.map fun x => .bl (p x))) = some (.val (.bl (xs.all p))) := by
  simp [gAll, boolsOf_map, List.all_map]
theorem any_map {α : Type} (p : α → Bool) (xs : List α) : gAny (.lst (xs.map fun x => .bl (p x))) = some (.val (.bl (xs.any p))) := by
  simp [gAny, boolsOf_map, List.any_map]
theorem filter_true {α : Type} (xs : List α) : xs.filter (fun _ => true) = xs := by simp
def ltP (p q : Nat × Nat) : Bool := decide (p.1 < q.1) || (decide (p.1 = q.1) && decide (p.2 < q.2))
theorem lt_pair (p q : Nat × Nat) : gLt (pairD p) (pairD q) = some (.val (.bl (ltP p q))) := by
  have h : ∀ p : Nat × Nat, intsOf [natD p.1, natD p.2] = some [(p.1 : Int), (p.2 : Int)] := fun _ => rfl
  simp only [pairD, gLt, h, lexLt_pair, ltP]
  have e1 : ((p.1 : Int) < (q.1 : Int)) = (p.1 < q.1) := by simp
  have e2 : ((p.1 : Int) = (q.1 : Int)) = (p.1 = q.1) := by simp [Int.ofNat_inj]
  have e3 : ((p.2 : Int) < (q.2 : Int)) = (p.2 < q.2) := by simp
  simp only [e1, e2, e3]
/-- each less than the next -/
def asc {α : Type} (lt : α → α → Bool) (xs : List α) : Bool := (xs.zip (xs.drop 1)).all fun p => lt p.1 p.2
theorem zip_map {α : Type} (enc : α → D) (xs : List α) : zipD (xs.map enc) ((xs.map enc).drop 1) = (xs.zip (xs.drop 1)).map fun p => .tup [enc p.1, enc p.2] := by
  unfold zipD
  rw [← List.map_drop, List.zip_map, List.map_map]
  rfl
theorem zip_len {α : Type} {xs : List α} {n : Nat} (h : xs.length ≤ n) : (xs.zip (xs.drop 1)).length ≤ n := by
  rw [List.length_zip]
  omega
/-- a web's ties -/
structure WebOk (n : Nat) (ts : List (Nat × Nat)) : Prop where
  n1 : 1 ≤ n
  n8 : n ≤ 8
  lt : ∀ t ∈ ts, t.1 < t.2 ∧ t.2 < n
  asc : asc ltP ts = true
  len : ts.length ≤ 1000
theorem le_line {n : Nat} (h : n ≤ 100000) : n ≤ sizeLine := by rw [sizeLine_eq]; omega
theorem lt_line {n : Nat} (h : n ≤ 100000) : n < sizeLine := by rw [sizeLine_eq]; omega
section
variable {n : Nat} {ts : List (Nat × Nat)}
theorem c1_is_web_eq (hl : ts.length ≤ 1000) (a : Option Slot) : c1_is_web [some (.val (webD n ts)), a, none, none] = .ok (.fresh (.lst ((ts.zip (ts.drop 1)).map fun p => .bl (ltP p.1 p.2)))) [some (.val (webD n ts)), a, none, none] := by
  unfold c1_is_web
  have hsl : gSl (.tup (ts.map pairD)) (some ((1 : Nat) : Int)) none = some (.val (.tup ((ts.map pairD).drop 1))) := gsl1 (by rw [List.length_map]; exact le_line (by omega))
  rw [eComp_pure (fun p : (Nat × Nat) × (Nat × Nat) => .tup [pairD p.1, pairD p.2]) (ts.zip (ts.drop 1)) (fun _ => true) (fun p => .bl (ltP p.1 p.2)) (e1 := [some (.val (webD n ts)), a, none, none]) ?_ ?_ (le_line (zip_len (by omega))) ?_, filter_true]
  · simp! [webD, ix_t1, ev_pSomeR_n, hsl, zip_map]
  · simp [keepV]
  · intro x _
    refine ⟨[some (.val (webD n ts)), a, some (.val (pairD x.1)), some (.val (pairD x.2))], ?_, ?_, ?_, fun _ => ?_⟩ <;> simp! [wipeE, ce1_is_web, lt_pair]
theorem l1_is_web_eq (h : WebOk n ts) : ∃ a, l1_is_web [some (.val (webD n ts)), none, none, none] = .ok .nx [some (.val (webD n ts)), a, none, none] := by
  obtain ⟨e', h1, a, rfl⟩ := forF_map (gD := dName 1) (F := b1_is_web) pairD ts (fun _ e => ∃ a, e = [some (.val (webD n ts)), a, none, none]) (env := [some (.val (webD n ts)), none, none, none]) ⟨none, rfl⟩ (fun j t e hj he => by
    obtain ⟨a, rfl⟩ := he
    obtain ⟨h1, h2⟩ := h.lt t (List.mem_of_getElem? hj)
    refine ⟨[some (.val (webD n ts)), some (.val (pairD t)), none, none], [some (.val (webD n ts)), some (.val (pairD t)), none, none], .nx, by simp! [], ?_, .inl rfl, _, rfl⟩
    have g1 : gSub (natD n) (natD 1) = some (.val (natD (n - 1))) := sub_n (by omega)
    have g2 : gSub (natD t.2) (natD 1) = some (.val (natD (t.2 - 1))) := sub_n (by omega)
    have q1 : 1 ≤ t.2 := by omega
    have q2 : t.2 ≤ n - 1 := by omega
    have q3 : t.1 ≤ t.2 - 1 := by omega
    unfold b1_is_web
    simp! [webD, pairD, ix_t0, ix_t1, g1, g2, is_whole_n, q1, q2, q3, Nat.zero_le])
  refine ⟨a, ?_⟩
  unfold l1_is_web
  refine sFor_of (ds := ts.map pairD) (e1 := [some (.val (webD n ts)), none, none, none]) ?_ h1
  simp! [webD, ix_t1]
theorem is_web_ok (h : WebOk n ts) : ∃ fin, m_is_web [.val (webD n ts)] = .ok (.val (.bl true)) fin := by
  obtain ⟨a, hl⟩ := l1_is_web_eq h
  have hw : webD n ts = .tup [natD n, .tup (ts.map pairD)] := rfl
  have h1 := h.n1
  have h8 := h.n8
  have hall : (ts.zip (ts.drop 1)).all (fun p => ltP p.1 p.2) = true := h.asc
  unfold m_is_web
  simp! [ev_isi_tuple_w hw, ix_t0w hw, ix_t1w hw, ev_lenw hw, ev_isi_tuple_tup, is_whole_n, h1, h8, hl, c1_is_web_eq h.len, all_map, hall]
  exact ⟨_, rfl⟩
theorem need_web_ok (h : WebOk n ts) : ∃ fin, m_need_web [.val (webD n ts)] = .ok (.val .non) fin := by
  obtain ⟨fin, hf⟩ := is_web_ok h
  unfold m_need_web
  simp! [hf]
  exact ⟨_, rfl⟩
end
/-! ### places -/
structure PlacesOk (n : Nat) (ps : List Nat) : Prop where
  ne : ps ≠ []
  lt : ∀ p ∈ ps, p < n
  asc : asc (fun a b => decide (a < b)) ps = true
  len : ps.length ≤ 1000
section
variable {n : Nat} {ps : List Nat}
theorem c1_are_places_eq (hn : 1 ≤ n) (hl : ps.length ≤ 1000) (a b : Option Slot) (ha : keepV (some a) = a) (hb : keepV (some b) = b) : c1_are_places [some (.val (natD n)), some (.val (placesD ps)), a, b] = .ok (.fresh (.lst (ps.map fun p => .bl (decide (p ≤ n - 1))))) [some (.val (natD n)), some (.val (placesD ps)), a, b] := by
  unfold c1_are_places
  rw [eComp_pure natD ps (fun _ => true) (fun p => .bl (decide (p ≤ n - 1))) (e1 := [some (.val (natD n)), some (.val (placesD ps)), a, b]) ?_ ?_ (le_line (by omega)) ?_, filter_true]
  · simp! [placesD]
  · simpa using ha
  · intro x _
    refine ⟨[some (.val (natD n)), some (.val (placesD ps)), some (.val (natD x)), b], ?_, ?_, ?_, fun _ => ?_⟩ <;> simp! [wipeE, ce1_are_places, is_whole_n, sub_n hn, Nat.zero_le]
theorem c2_are_places_eq (hl : ps.length ≤ 1000) (x : D) : c2_are_places [some (.val x), some (.val (placesD ps)), none, none] = .ok (.fresh (.lst ((ps.zip (ps.drop 1)).map fun p => .bl (decide (p.1 < p.2))))) [some (.val x), some (.val (placesD ps)), none, none] := by
  unfold c2_are_places
  have hsl : gSl (.tup (ps.map natD)) (some ((1 : Nat) : Int)) none = some (.val (.tup ((ps.map natD).drop 1))) := gsl1 (by rw [List.length_map]; exact le_line (by omega))
  rw [eComp_pure (fun p : Nat × Nat => .tup [natD p.1, natD p.2]) (ps.zip (ps.drop 1)) (fun _ => true) (fun p => .bl (decide (p.1 < p.2))) (e1 := [some (.val x), some (.val (placesD ps)), none, none]) ?_ ?_ (le_line (zip_len (by omega))) ?_, filter_true]
  · simp! [placesD, ev_pSomeR_n, hsl, zip_map]
  · simp [keepV]
  · intro p _
    refine ⟨[some (.val x), some (.val (placesD ps)), some (.val (natD p.1)), some (.val (natD p.2))], ?_, ?_, ?_, fun _ => ?_⟩ <;> simp! [wipeE, ce2_are_places]
theorem are_places_ok (hn : 1 ≤ n) (h : PlacesOk n ps) : ∃ fin, m_are_places [.val (natD n), .val (placesD ps)] = .ok (.val (.bl true)) fin := by
  have hw : placesD ps = .tup (ps.map natD) := rfl
  have hne : gEq (placesD ps) (.tup []) = some (.val (.bl false)) := by
    have := nat_enc.eqT0 (by decide) ps
    rw [decide_eq_false h.ne] at this
    exact this
  have h1 : ps.all (fun p => decide (p ≤ n - 1)) = true := by
    rw [List.all_eq_true]
    intro p hp
    have := h.lt p hp
    exact decide_eq_true (by omega)
  have h2 : (ps.zip (ps.drop 1)).all (fun p => decide (p.1 < p.2)) = true := h.asc
  unfold m_are_places
  simp! [ev_isi_tuple_w hw, hne, c1_are_places_eq hn h.len none none rfl rfl, all_map, h1, c2_are_places_eq h.len, h2]
  exact ⟨_, rfl⟩
theorem need_places_ok (hn : 1 ≤ n) (h : PlacesOk n ps) : ∃ fin, m_need_places [.val (natD n), .val (placesD ps)] = .ok (.val .non) fin := by
  obtain ⟨fin, hf⟩ := are_places_ok hn h
  unfold m_need_places
  simp! [hf]
  exact ⟨_, rfl⟩
end
/-! ### ties -/
section
variable {n : Nat} {ts : List (Nat × Nat)}
def nbRaw (ts : List (Nat × Nat)) (p : Nat) : List Nat := (ts.filter fun t => decide (p = t.1) || decide (p = t.2)).map fun t => t.1 + t.2 - p
/-- the places tied to one, rising -/
def nb (ts : List (Nat × Nat)) (p : Nat) : List Nat := (nbRaw ts p).mergeSort fun a b => !decide (b < a)
theorem c1_beside_eq (hl : ts.length ≤ 1000) (p : Nat) : c1_beside [some (.val (webD n ts)), some (.val (natD p)), none, none] = .ok (.fresh (.lst ((nbRaw ts p).map natD))) [some (.val (webD n ts)), some (.val (natD p)), none, none] := by
  unfold c1_beside
  rw [eComp_pure pairD ts (fun t => decide (p = t.1) || decide (p = t.2)) (fun t => natD (t.1 + t.2 - p)) (e1 := [some (.val (webD n ts)), some (.val (natD p)), none, none]) ?_ ?_ (le_line (by omega)) ?_]
  · rw [nbRaw, List.map_map]
    rfl
  · simp! [webD, ix_t1]
  · simp [keepV]
  · intro t _
    have hin : gInA (natD p) (.tup [natD t.1, natD t.2]) = some (.val (.bl (decide (p = t.1) || decide (p = t.2)))) := by
      have := nat_enc.inT (by decide) p [t.1, t.2]
      simpa using this
    refine ⟨[some (.val (webD n ts)), some (.val (natD p)), some (.val (natD t.1)), some (.val (natD t.2))], ?_, ?_, ?_, fun hp => ?_⟩
    · simp! [wipeE, pairD]
    · simp! [wipeE]
    · simp! [ct1_beside, hin]
    · have hs : gSub (natD (t.1 + t.2)) (natD p) = some (.val (natD (t.1 + t.2 - p))) := sub_n (by
        simp only [Bool.or_eq_true, decide_eq_true_eq] at hp
        omega)
      simp! [ce1_beside, hs]
theorem beside_eq (hl : ts.length ≤ 1000) (p : Nat) : ∃ fin, m_beside [.val (webD n ts), .val (natD p)] = .ok (.own (.lst ((nb ts p).map natD))) fin := by
  have hs : gSorted (.lst ((nbRaw ts p).map natD)) = some (.fresh (.lst ((nb ts p).map natD))) := nat_enc.sorted (by decide) _ (isT_nat _) (by
    unfold nbRaw
    rw [List.length_map]
    have := List.length_filter_le (fun t : Nat × Nat => decide (p = t.1) || decide (p = t.2)) ts
    omega)
  unfold m_beside
  simp! [c1_beside_eq hl, hs]
  exact ⟨_, rfl⟩
theorem mem_nb {p q : Nat} : q ∈ nb ts p ↔ ∃ t ∈ ts, (p = t.1 ∨ p = t.2) ∧ q = t.1 + t.2 - p := by
  unfold nb nbRaw
  rw [List.mem_mergeSort, List.mem_map]
  constructor
  · rintro ⟨t, h1, h2⟩
    rw [List.mem_filter] at h1
    refine ⟨t, h1.1, ?_, h2.symm⟩
    simpa using h1.2
  · rintro ⟨t, h1, h2, h3⟩
    refine ⟨t, List.mem_filter.mpr ⟨h1, ?_⟩, h3.symm⟩
    simpa using h2
theorem nb_lt (h : WebOk n ts) {p q : Nat} (hq : q ∈ nb ts p) : q < n := by
  obtain ⟨t, h1, h2, h3⟩ := mem_nb.mp hq
  obtain ⟨h4, h5⟩ := h.lt t h1
  omega
theorem nb_len (h : WebOk n ts) (p : Nat) : (nb ts p).length ≤ 1000 := by
  unfold nb nbRaw
  rw [List.length_mergeSort, List.length_map]
  have := List.length_filter_le (fun t : Nat × Nat => decide (p = t.1) || decide (p = t.2)) ts
  have := h.len
  omega
/-! ### steps from a place -/
def natK (n : Nat) : NestedKey := .num (n : Int)
theorem natK_key : KeyOk natK natD := nat_key
abbrev farD (m : List (Nat × Nat)) : D := dctD natK natD m
abbrev nbS (ts : List (Nat × Nat)) (p : Nat) : List (Unit × Nat) := (nb ts p).map fun q => ((), q)
abbrev upN (k : Nat) (_ : Unit) : Nat := k + 1
abbrev StepsMet (ts : List (Nat × Nat)) (p : Nat) (m : List (Nat × Nat)) : Prop := Met (nbS ts) upN id p 0 m
theorem pop0 (x : D) (l : List D) : mPopAt (x :: l) (natD 0) = some (x, l) := by
  have h : seqIndex? ((0 : Nat) : Int) (x :: l).length = some 0 := by
    simp [seqIndex?]
  have h2 : -(2 ^ 63) ≤ ((0 : Nat) : Int) ∧ ((0 : Nat) : Int) < 2 ^ 63 := by decide
  unfold mPopAt natD
  simp only [h, if_pos h2]
  rfl
theorem wait_app {α β : Type} (enc : α → D) {m : List (α × β)} {b : α} {v : β} {i : Nat} (h : i ≤ m.length) : (((m ++ [(b, v)]).drop i).map (·.1)).map enc = ((m.drop i).map (·.1)).map enc ++ [enc b] := by
  rw [List.drop_append_of_le_length h]
  simp
theorem app_ok {l : List D} {d : D} (h : l.length ≤ 1000000) : mAppend l d = some (.non, l ++ [d]) := by
  unfold mAppend
  rw [if_pos (by rw [sizeLine_eq]; omega)]
abbrev wait (m : List (Nat × Nat)) (i : Nat) : D := .lst (((m.drop i).map (·.1)).map natD)
theorem steps_from_ok (h : WebOk n ts) {p : Nat} (hp : p < n) : ∃ m fin, m_steps_from [.val (webD n ts), .val (natD p)] = .ok (.own (farD m)) fin ∧ StepsMet ts p m ∧ m.length ≤ n := by
  have hU : ∀ m i, Bfs (nbS ts) upN id p 0 m i → m.length ≤ n := fun m i B => by
    have := B.within (List.range n) (List.mem_range.mpr hp) (fun a _ l b hb => by
      obtain ⟨q, h1, h2⟩ := List.mem_map.mp hb
      cases h2
      exact List.mem_range.mpr (nb_lt h h1)) rfl (fun _ _ => rfl)
    simpa using this
  have h8 := h.n8
  obtain ⟨e', m, h1, ⟨a, b, rfl⟩, h3⟩ := bfs_queue (succ := nbS ts) (ext := upN) (len := id) (s := p) (v0 := 0) (T := t2_steps_from) (F := b2_steps_from) (env := [some (.val (webD n ts)), some (.val (natD p)), some (.own (farD [(p, 0)])), some (.own (.lst [natD p])), none, none])
    (fun m i e => ∃ a b, e = [some (.val (webD n ts)), some (.val (natD p)), some (.own (farD m)), some (.own (wait m i)), a, b]) n (by omega) hU rfl (fun _ _ => rfl) ⟨none, none, rfl⟩
    (fun m i e hE B => by
      obtain ⟨a, b, rfl⟩ := hE
      have hne := nat_enc.neL0 (by decide) ((m.drop i).map (·.1))
      have e0 : (!decide ((m.drop i).map (·.1) = [])) = decide (i < m.length) := by
        by_cases hi : i < m.length <;> simp [hi]
        omega
      rw [e0] at hne
      unfold t2_steps_from wait
      simp! [hne])
    (fun m i e x u hE B hx => by
      obtain ⟨a, b, rfl⟩ := hE
      have hm := hU m i B
      have hil : i < m.length := (List.getElem?_eq_some_iff.mp hx).1
      have hw : wait m i = .lst (natD x :: ((m.drop (i + 1)).map (·.1)).map natD) := by
        unfold wait
        rw [drop_get hx]
        rfl
      obtain ⟨fin, hb⟩ := beside_eq (n := n) h.len x
      obtain ⟨e2, q1, b2, q2⟩ := bfs_turn (ext := upN) (gD := dName 5) (F := b1_steps_from) (fun y : Unit × Nat => natD y.2) (fun m' e => ∃ b, e = [some (.val (webD n ts)), some (.val (natD p)), some (.own (farD m')), some (.own (wait m' (i + 1))), some (.val (natD x)), b]) u (nbS ts x) m
        (env := [some (.val (webD n ts)), some (.val (natD p)), some (.own (farD m)), some (.own (wait m (i + 1))), some (.val (natD x)), b]) ⟨_, rfl⟩ (fun r y e hr hE hy => by
          obtain ⟨b, rfl⟩ := hE
          have hlk : look (m ++ r) x = some u := look_app (look_at B.nd hx)
          have hlen : (m ++ r).length ≤ 10000 := by
            have := nb_len h x
            rw [List.length_map] at hr
            rw [List.length_append]
            omega
          have hni := natK_key.notIn (eV := natD) (m ++ r) y.2
          refine ⟨[some (.val (webD n ts)), some (.val (natD p)), some (.own (farD (m ++ r))), some (.own (wait (m ++ r) (i + 1))), some (.val (natD x)), some (.val (natD y.2))], ?_⟩
          by_cases hb : y.2 ∈ (m ++ r).map (·.1)
          · refine ⟨[some (.val (webD n ts)), some (.val (natD p)), some (.own (farD (m ++ r))), some (.own (wait (m ++ r) (i + 1))), some (.val (natD x)), some (.val (natD y.2))], by simp! [], ?_, ?_⟩
            · rw [decide_eq_true hb] at hni
              unfold b1_steps_from
              simp! [hni]
            · unfold add1
              rw [if_pos hb]
              exact ⟨_, rfl⟩
          · refine ⟨[some (.val (webD n ts)), some (.val (natD p)), some (.own (farD ((m ++ r) ++ [(y.2, u + 1)]))), some (.own (wait ((m ++ r) ++ [(y.2, u + 1)]) (i + 1))), some (.val (natD x)), some (.val (natD y.2))], by simp! [], ?_, ?_⟩
            · rw [decide_eq_false hb] at hni
              have hix := natK_key.ix (eV := natD) hlk
              have hput := natK_key.put_new (eV := natD) (v := u + 1) (by omega) hb
              have happ : mAppend ((((m ++ r).drop (i + 1)).map (·.1)).map natD) (natD y.2) = some (.non, ((((m ++ r) ++ [(y.2, u + 1)]).drop (i + 1)).map (·.1)).map natD) := by
                rw [app_ok (by simp only [List.length_map, List.length_drop]; omega), wait_app natD (by rw [List.length_append]; omega)]
              unfold b1_steps_from
              simp! [hni, hix, hput, happ]
            · unfold add1
              rw [if_neg hb]
              exact ⟨_, rfl⟩)
      refine ⟨e2, ?_, _, _, q2⟩
      have hl1 : l1_steps_from [some (.val (webD n ts)), some (.val (natD p)), some (.own (farD m)), some (.own (wait m (i + 1))), some (.val (natD x)), b] = .ok .nx e2 := by
        unfold l1_steps_from
        refine sFor_of (ds := (nbS ts x).map fun y => natD y.2) (e1 := _) ?_ q1
        simp! [hb]
        simp
      unfold b2_steps_from
      rw [hw]
      simp! [pop0, hl1])
  suffices hs : ∃ fin, m_steps_from [.val (webD n ts), .val (natD p)] = .ok (.own (farD m)) fin by
    obtain ⟨fin, hf⟩ := hs
    exact ⟨m, fin, hf, h3.met, hU _ _ h3⟩
  have hl2 : l2_steps_from [some (.val (webD n ts)), some (.val (natD p)), some (.own (farD [(p, 0)])), some (.own (.lst [natD p])), none, none] = .ok .nx [some (.val (webD n ts)), some (.val (natD p)), some (.own (farD m)), some (.own (wait m m.length)), a, b] := h1
  have hd := fun e => dict1_dct (eV := natD) natK_key p 0 e
  unfold m_steps_from
  simp! [hd, hl2]
  exact ⟨_, rfl⟩
end
/-! ### how far it is -/
theorem Met.len_lt {α β L : Type} [DecidableEq α] {succ : α → List (L × α)} {ext : β → L → β} {len : β → Nat} {s : α} {v0 : β} {m : List (α × β)} (M : Met succ ext len s v0 m) (hl : len v0 = 0) (hext : ∀ u l, len (ext u l) = len u + 1) {b : α} {v : β} (h : (b, v) ∈ m) : len v < m.length := by
  have key : ∀ k (b : α) (v : β), (b, v) ∈ m → len v = k → ∀ j ∈ List.range (k + 1), j ∈ m.map fun p => len p.2 := by
    intro k
    induction k with
    | zero =>
      intro b v h e j hj
      rw [List.mem_range] at hj
      have : j = 0 := by omega
      subst this
      exact List.mem_map.mpr ⟨_, h, e⟩
    | succ k ih =>
      intro b v h e j hj
      rw [List.mem_range] at hj
      by_cases hjk : j = k + 1
      · subst hjk
        exact List.mem_map.mpr ⟨_, h, e⟩
      · rcases M.frm b v h with ⟨rfl, rfl⟩ | ⟨a, u, l, h1, _, rfl⟩
        · omega
        · rw [hext] at e
          exact ih a u h1 (by omega) j (List.mem_range.mpr (by omega))
  have := nodup_le List.nodup_range (key _ b v h rfl)
  rw [List.length_range, List.length_map] at this
  omega
section
variable {n : Nat} {ts : List (Nat × Nat)}
/-- the fewest steps; 99 where there is no way -/
noncomputable def dist (ts : List (Nat × Nat)) (a b : Nat) : Nat := open Classical in if h : ∃ k, Far (nbS ts) a b k then h.choose else 99
theorem dist_of {a b k : Nat} (h : Far (nbS ts) a b k) : dist ts a b = k := by
  have hx : ∃ k, Far (nbS ts) a b k := ⟨k, h⟩
  unfold dist
  rw [dif_pos hx]
  exact hx.choose_spec.uniq h
theorem dist_not {a b : Nat} (h : ¬ ∃ k, Far (nbS ts) a b k) : dist ts a b = 99 := by
  unfold dist
  rw [dif_neg h]
theorem far_of_walk {α L : Type} {succ : α → List (L × α)} {a b : α} {ls : List L} (w : Walk succ a ls b) : ∃ k, Far succ a b k := by
  have : ∃ k, (∃ ls, Walk succ a ls b ∧ ls.length = k) := ⟨_, ls, w, rfl⟩
  have key : ∀ k, (∃ ls : List L, Walk succ a ls b ∧ ls.length = k) → ∃ k, Far succ a b k := by
    intro k
    induction k using Nat.strongRecOn with
    | ind k ih =>
      intro h
      by_cases hx : ∃ ls : List L, Walk succ a ls b ∧ ls.length < k
      · obtain ⟨ls, w, hlt⟩ := hx
        exact ih _ hlt ⟨ls, w, rfl⟩
      · exact ⟨k, h, fun ls w => Nat.le_of_not_lt fun hlt => hx ⟨ls, w, hlt⟩⟩
  exact key _ ⟨ls, w, rfl⟩
theorem met_dist (h : WebOk n ts) {g : Nat} {m : List (Nat × Nat)} (M : StepsMet ts g m) (hm : m.length ≤ n) (p : Nat) : (p ∈ m.map (·.1) ↔ dist ts g p < 99) ∧ (p ∈ m.map (·.1) → look m p = some (dist ts g p)) ∧ (dist ts g p < 99 → dist ts g p < n) := by
  have h8 := h.n8
  have a1 : p ∈ m.map (·.1) → look m p = some (dist ts g p) ∧ dist ts g p < n := fun hp => by
    obtain ⟨x, hx, rfl⟩ := List.mem_map.mp hp
    have hf := M.far rfl (fun _ _ => rfl) (b := x.1) (v := x.2) hx
    have hlt := M.len_lt rfl (fun _ _ => rfl) (b := x.1) (v := x.2) hx
    rw [dist_of hf]
    exact ⟨look_of_mem M.nd hx, by have : id x.2 = x.2 := rfl; omega⟩
  have a2 : dist ts g p < 99 → p ∈ m.map (·.1) := fun hd => by
    by_cases hx : ∃ k, Far (nbS ts) g p k
    · obtain ⟨k, ⟨ls, w, _⟩, _⟩ := hx
      exact M.all rfl w
    · rw [dist_not hx] at hd
      omega
  exact ⟨⟨fun hp => by have := (a1 hp).2; omega, a2⟩, fun hp => (a1 hp).1, fun hd => (a1 (a2 hd)).2⟩
/-! ### the same both ways -/
theorem nb_sym (h : WebOk n ts) {p q : Nat} (hq : q ∈ nb ts p) : p ∈ nb ts q := by
  obtain ⟨t, h1, h2, h3⟩ := mem_nb.mp hq
  obtain ⟨h4, h5⟩ := h.lt t h1
  exact mem_nb.mpr ⟨t, h1, by omega, by omega⟩
theorem walk_rev (h : WebOk n ts) {a b : Nat} {ls : List Unit} (w : Walk (nbS ts) a ls b) : Walk (nbS ts) b ls.reverse a := by
  induction w with
  | nil a => exact .nil a
  | cons h1 _ ih =>
    rw [List.reverse_cons]
    obtain ⟨q, h2, h3⟩ := List.mem_map.mp h1
    cases h3
    exact ih.snoc (List.mem_map.mpr ⟨_, nb_sym h h2, rfl⟩)
theorem far_sym (h : WebOk n ts) {a b k : Nat} (f : Far (nbS ts) a b k) : Far (nbS ts) b a k := by
  obtain ⟨⟨ls, w, e⟩, q⟩ := f
  refine ⟨⟨ls.reverse, walk_rev h w, by rw [List.length_reverse, e]⟩, fun ms w' => ?_⟩
  have := q _ (walk_rev h w')
  rwa [List.length_reverse] at this
theorem dist_sym (h : WebOk n ts) (a b : Nat) : dist ts a b = dist ts b a := by
  by_cases hx : ∃ k, Far (nbS ts) a b k
  · obtain ⟨k, f⟩ := hx
    rw [dist_of f, dist_of (far_sym h f)]
  · rw [dist_not hx, dist_not fun ⟨k, f⟩ => hx ⟨k, far_sym h f⟩]
/-! ### steps -/
theorem intsOf_nat (xs : List Nat) : intsOf (xs.map natD) = some (xs.map fun x : Nat => (x : Int)) := by
  induction xs with
  | nil => rfl
  | cons x xs ih => simp [intsOf, natD] at ih ⊢; exact ih
theorem sum_nat (xs : List Nat) : gSum (.lst (xs.map natD)) = some (.val (natD xs.sum)) := by
  simp only [gSum, intsOf_nat, Option.map_some, natD]
  congr 3
  induction xs with
  | nil => rfl
  | cons x xs ih => simp only [List.map_cons, List.sum_cons, ih, Int.natCast_add]
abbrev rowD : Nat × Nat → D := encP natD natD
abbrev ltRow : Nat × Nat → Nat × Nat → Bool := ltPr (fun a b => decide (a < b)) fun a b => decide (a < b)
theorem row_enc : EncOk 1 rowD ltRow := pair_enc nat_enc nat_enc
/-- for a goal: the steps of all in all, and the goal -/
noncomputable def rowOf (ts : List (Nat × Nat)) (ps : List Nat) (g : Nat) : Nat × Nat := ((ps.map fun p => dist ts g p).sum, g)
noncomputable def rowsOf (ts : List (Nat × Nat)) (ps : List Nat) (n : Nat) : List (Nat × Nat) := ((List.range n).map (rowOf ts ps)).filter fun r => decide (r.1 < 99)
theorem sum_lt {xs : List Nat} {b : Nat} (h : ∀ x ∈ xs, x ≤ b) : xs.sum ≤ xs.length * b := by
  induction xs with
  | nil => simp
  | cons x xs ih =>
    have h1 := h x List.mem_cons_self
    have h2 := ih fun y hy => h y (List.mem_cons_of_mem _ hy)
    rw [List.sum_cons, List.length_cons, Nat.succ_mul]
    omega
theorem le_sum {xs : List Nat} {x : Nat} (h : x ∈ xs) : x ≤ xs.sum := by
  induction xs with
  | nil => simp at h
  | cons y xs ih =>
    rw [List.sum_cons]
    rcases List.mem_cons.mp h with e | e
    · omega
    · have := ih e
      omega
theorem asc_lt : ∀ {ps : List Nat} {n : Nat}, asc (fun a b => decide (a < b)) ps = true → (∀ p ∈ ps, p < n) → ps.length ≤ n := by
  intro ps n ha hl
  have hp : ps.Pairwise (· < ·) := by
    induction ps with
    | nil => exact .nil
    | cons x ps ih =>
      cases ps with
      | nil => simp
      | cons y r =>
        unfold asc at ha
        simp only [List.drop_succ_cons, List.drop_zero, List.zip_cons_cons, List.all_cons, Bool.and_eq_true, decide_eq_true_eq] at ha
        have hr : asc (fun a b => decide (a < b)) (y :: r) = true := by
          unfold asc
          cases r with
          | nil => rfl
          | cons z r' => simpa using ha.2
        have h2 := ih hr fun p hp => hl p (List.mem_cons_of_mem _ hp)
        refine List.pairwise_cons.mpr ⟨fun z hz => ?_, h2⟩
        rcases List.mem_cons.mp hz with e | e
        · subst e; exact ha.1
        · exact Nat.lt_trans ha.1 ((List.pairwise_cons.mp h2).1 z e)
  have nd : ps.Nodup := hp.imp fun h => Nat.ne_of_lt h
  have := nodup_le nd (u := List.range n) fun p hp => List.mem_range.mpr (hl p hp)
  simpa using this
theorem row_lt (h : WebOk n ts) {ps : List Nat} (hp : PlacesOk n ps) {g : Nat} {m : List (Nat × Nat)} (M : StepsMet ts g m) (hm : m.length ≤ n) : ps.all (fun p => decide (p ∈ m.map (·.1))) = decide ((rowOf ts ps g).1 < 99) := by
  have h8 := h.n8
  by_cases hall : ∀ p ∈ ps, dist ts g p < 99
  · have e1 : ps.all (fun p => decide (p ∈ m.map (·.1))) = true := by
      rw [List.all_eq_true]
      exact fun p hpp => decide_eq_true ((met_dist h M hm p).1.mpr (hall p hpp))
    have e2 : (rowOf ts ps g).1 < 99 := by
      have h1 := sum_lt (xs := ps.map fun p => dist ts g p) (b := 7) fun x hx => by
        obtain ⟨p, hpp, rfl⟩ := List.mem_map.mp hx
        have := (met_dist h M hm p).2.2 (hall p hpp)
        omega
      have h2 := asc_lt hp.asc hp.lt
      rw [List.length_map] at h1
      have : ps.length * 7 ≤ 8 * 7 := Nat.mul_le_mul_right 7 (by omega)
      show (ps.map fun p => dist ts g p).sum < 99
      omega
    rw [e1, decide_eq_true e2]
  · obtain ⟨p, hpp, hd⟩ : ∃ p, p ∈ ps ∧ ¬ dist ts g p < 99 := by
      apply Classical.byContradiction
      intro hn
      exact hall fun p hpp => Classical.byContradiction fun hd => hn ⟨p, hpp, hd⟩
    have e1 : ps.all (fun p => decide (p ∈ m.map (·.1))) = false := by
      rw [List.all_eq_false]
      exact ⟨p, hpp, by simpa using fun x hx => hd ((met_dist h M hm p).1.mp (List.mem_map.mpr ⟨_, hx, rfl⟩))⟩
    have e2 : ¬ (rowOf ts ps g).1 < 99 := by
      have := le_sum (xs := ps.map fun p => dist ts g p) (List.mem_map.mpr ⟨p, hpp, rfl⟩)
      show ¬ (ps.map fun p => dist ts g p).sum < 99
      omega
    rw [e1, decide_eq_false e2]
theorem c1_steps_eq {ps : List Nat} (hl : ps.length ≤ 1000) (m : List (Nat × Nat)) (w r g : Option Slot) : c1_steps [w, some (.val (placesD ps)), r, g, some (.own (farD m)), none] = .ok (.fresh (.lst (ps.map fun p => .bl (decide (p ∈ m.map (·.1)))))) [w, some (.val (placesD ps)), r, g, some (.own (farD m)), none] := by
  unfold c1_steps
  rw [eComp_pure natD ps (fun _ => true) (fun p => .bl (decide (p ∈ m.map (·.1)))) (e1 := [w, some (.val (placesD ps)), r, g, some (.own (farD m)), none]) ?_ ?_ (le_line (by omega)) ?_, filter_true]
  · simp! [placesD]
  · simp [keepV]
  · intro p _
    have hi := natK_key.in (eV := natD) m p
    refine ⟨[w, some (.val (placesD ps)), r, g, some (.own (farD m)), some (.val (natD p))], ?_, ?_, ?_, fun _ => ?_⟩ <;> simp! [wipeE, ce1_steps, hi]
theorem c2_steps_eq {ps : List Nat} (hl : ps.length ≤ 1000) {m : List (Nat × Nat)} {f : Nat → Nat} (hf : ∀ p ∈ ps, look m p = some (f p)) (w r g : Option Slot) : c2_steps [w, some (.val (placesD ps)), r, g, some (.own (farD m)), none] = .ok (.fresh (.lst ((ps.map f).map natD))) [w, some (.val (placesD ps)), r, g, some (.own (farD m)), none] := by
  unfold c2_steps
  rw [eComp_pure natD ps (fun _ => true) (fun p => natD (f p)) (e1 := [w, some (.val (placesD ps)), r, g, some (.own (farD m)), none]) ?_ ?_ (le_line (by omega)) ?_, filter_true, List.map_map]
  · rfl
  · simp! [placesD]
  · simp [keepV]
  · intro p hp
    have hi := natK_key.ix (eV := natD) (hf p hp)
    refine ⟨[w, some (.val (placesD ps)), r, g, some (.own (farD m)), some (.val (natD p))], ?_, ?_, ?_, fun _ => ?_⟩ <;> simp! [wipeE, ce2_steps, hi]
def minD? (rows : List (Nat × Nat)) : D := match rows with
  | [] => .non
  | r :: rs => rowD (minO ltRow r rs)
theorem rowsOf_succ (ts : List (Nat × Nat)) (ps : List Nat) (g : Nat) : rowsOf ts ps (g + 1) = rowsOf ts ps g ++ (if (rowOf ts ps g).1 < 99 then [rowOf ts ps g] else []) := by
  unfold rowsOf
  rw [List.range_succ, List.map_append, List.filter_append]
  congr 1
  simp [List.filter_cons]
theorem rowsOf_len (ts : List (Nat × Nat)) (ps : List Nat) (g : Nat) : (rowsOf ts ps g).length ≤ g := by
  unfold rowsOf
  have := List.length_filter_le (fun r : Nat × Nat => decide (r.1 < 99)) ((List.range g).map (rowOf ts ps))
  rw [List.length_map, List.length_range] at this
  exact this
theorem b1_steps_eq (h : WebOk n ts) {ps : List Nat} (hp : PlacesOk n ps) {g : Nat} (hg : g < n) (b : Option Slot) : ∃ b', b1_steps [some (.val (webD n ts)), some (.val (placesD ps)), some (.own (.lst ((rowsOf ts ps g).map rowD))), some (.val (natD g)), b, none] = .ok .nx [some (.val (webD n ts)), some (.val (placesD ps)), some (.own (.lst ((rowsOf ts ps (g + 1)).map rowD))), some (.val (natD g)), b', none] := by
  have h8 := h.n8
  obtain ⟨m, fin, s1, M, hm⟩ := steps_from_ok h hg
  have hrow := row_lt h hp M hm
  have hc1 := c1_steps_eq hp.len m (some (.val (webD n ts))) (some (.own (.lst ((rowsOf ts ps g).map rowD)))) (some (.val (natD g)))
  have hlen := rowsOf_len ts ps g
  refine ⟨some (.own (farD m)), ?_⟩
  by_cases hlt : (rowOf ts ps g).1 < 99
  · have hall := hrow
    rw [decide_eq_true hlt] at hall
    have hc2 := c2_steps_eq (m := m) (f := dist ts g) hp.len (fun p hpp => (met_dist h M hm p).2.1 (of_decide_eq_true (List.all_eq_true.mp hall p hpp))) (some (.val (webD n ts))) (some (.own (.lst ((rowsOf ts ps g).map rowD)))) (some (.val (natD g)))
    have happ : mAppend ((rowsOf ts ps g).map rowD) (.tup [natD (ps.map fun p => dist ts g p).sum, natD g]) = some (.non, (rowsOf ts ps (g + 1)).map rowD) := by
      rw [app_ok (by rw [List.length_map]; omega), rowsOf_succ, if_pos hlt, List.map_append]
      rfl
    unfold b1_steps
    simp! [s1, hc1, all_map, hall, hc2, sum_nat, happ]
  · have hall := hrow
    rw [decide_eq_false hlt] at hall
    have e0 : rowsOf ts ps (g + 1) = rowsOf ts ps g := by rw [rowsOf_succ, if_neg hlt, List.append_nil]
    unfold b1_steps
    rw [e0]
    simp! [s1, hc1, all_map, hall]
theorem l1_steps_eq (h : WebOk n ts) {ps : List Nat} (hp : PlacesOk n ps) : ∃ a b, l1_steps [some (.val (webD n ts)), some (.val (placesD ps)), some (.own (.lst [])), none, none, none] = .ok .nx [some (.val (webD n ts)), some (.val (placesD ps)), some (.own (.lst ((rowsOf ts ps n).map rowD))), a, b, none] := by
  have h8 := h.n8
  have hw : webD n ts = .tup [natD n, .tup (ts.map pairD)] := rfl
  obtain ⟨e', h1, a, b, rfl⟩ := forF_map (gD := dName 3) (F := b1_steps) natD (List.range n) (fun j e => ∃ a b, e = [some (.val (webD n ts)), some (.val (placesD ps)), some (.own (.lst ((rowsOf ts ps j).map rowD))), a, b, none]) (env := [some (.val (webD n ts)), some (.val (placesD ps)), some (.own (.lst [])), none, none, none]) ⟨none, none, rfl⟩ (fun j g e hj hE => by
    obtain ⟨a, b, rfl⟩ := hE
    have hjl : j < n := by simpa using (List.getElem?_eq_some_iff.mp hj).1
    have hg : g = j := by
      rw [List.getElem?_range hjl] at hj
      exact (Option.some.inj hj).symm
    subst hg
    obtain ⟨b', hb⟩ := b1_steps_eq h hp hjl b
    exact ⟨_, _, .nx, rfl, hb, .inl rfl, some (.val (natD g)), b', rfl⟩)
  rw [List.length_range] at h1
  refine ⟨a, b, ?_⟩
  unfold l1_steps
  exact sFor_of (range1_ok (by simp! [ix_t0w hw]) (by omega)) h1
theorem steps_ok (h : WebOk n ts) {ps : List Nat} (hp : PlacesOk n ps) : ∃ fin, m_steps [.val (webD n ts), .val (placesD ps)] = .ok (.val (minD? (rowsOf ts ps n))) fin := by
  have hw : webD n ts = .tup [natD n, .tup (ts.map pairD)] := rfl
  obtain ⟨f1, hf1⟩ := need_web_ok h
  obtain ⟨f2, hf2⟩ := need_places_ok h.n1 hp
  obtain ⟨a, b, hl1⟩ := l1_steps_eq h hp
  have hne := row_enc.neL0 (by decide) (rowsOf ts ps n)
  unfold m_steps
  cases hr : rowsOf ts ps n with
  | nil =>
    rw [hr] at hne hl1
    simp! [hf1, hf2, ix_t0w hw, hl1, hne]
    exact ⟨_, rfl⟩
  | cons r rs =>
    rw [hr] at hne hl1
    have hmin := row_enc.min (by decide) r rs
    simp only [List.map_cons] at hne hmin
    simp! [hf1, hf2, ix_t0w hw, hl1, hne, hmin]
    exact ⟨_, rfl⟩
end
/-! ### strict orders; what is sorted -/
structure SLt {α : Type} (lt : α → α → Bool) : Prop where
  irr : ∀ a, lt a a = false
  tr : ∀ a b c, lt a b = true → lt b c = true → lt a c = true
  tri : ∀ a b, lt a b = true ∨ a = b ∨ lt b a = true
section
variable {α β : Type} {lt : α → α → Bool} {lt2 : β → β → Bool}
theorem SLt.asym (S : SLt lt) {a b : α} (h : lt a b = true) : lt b a = false := by
  cases e : lt b a with
  | false => rfl
  | true =>
    have := S.tr _ _ _ h e
    rw [S.irr] at this
    cases this
theorem nat_slt : SLt (fun a b : Nat => decide (a < b)) where
  irr a := by simp
  tr a b c h1 h2 := by
    simp only [decide_eq_true_eq] at *
    omega
  tri a b := by
    simp only [decide_eq_true_eq]
    omega
theorem pair_slt [DecidableEq α] (S : SLt lt) (S2 : SLt lt2) : SLt (ltPr lt lt2) where
  irr a := by simp [ltPr, S2.irr]
  tr a b c h1 h2 := by
    unfold ltPr at *
    by_cases e1 : a.1 = b.1
    · by_cases e2 : b.1 = c.1
      · rw [if_pos e1] at h1
        rw [if_pos e2] at h2
        rw [if_pos (e1.trans e2)]
        exact S2.tr _ _ _ h1 h2
      · rw [if_neg e2] at h2
        rw [if_neg (fun z => e2 (e1.symm.trans z)), e1]
        exact h2
    · rw [if_neg e1] at h1
      by_cases e2 : b.1 = c.1
      · rw [if_neg (fun z => e1 (z.trans e2.symm)), ← e2]
        exact h1
      · rw [if_neg e2] at h2
        have h3 := S.tr _ _ _ h1 h2
        by_cases e3 : a.1 = c.1
        · rw [e3, S.irr] at h3
          cases h3
        · rw [if_neg e3]
          exact h3
  tri a b := by
    unfold ltPr
    by_cases e1 : a.1 = b.1
    · rw [if_pos e1, if_pos e1.symm]
      rcases S2.tri a.2 b.2 with h | h | h
      · exact .inl h
      · exact .inr (.inl (Prod.ext e1 h))
      · exact .inr (.inr h)
    · rw [if_neg e1, if_neg fun z => e1 z.symm]
      rcases S.tri a.1 b.1 with h | h | h
      · exact .inl h
      · exact absurd h e1
      · exact .inr (.inr h)
theorem list_slt [DecidableEq α] (S : SLt lt) : SLt (ltLs lt) where
  irr a := by
    induction a with
    | nil => rfl
    | cons x xs ih => simp [ltLs, ih]
  tr a := by
    induction a with
    | nil =>
      intro b c h1 h2
      cases b with
      | nil => cases h1
      | cons y ys =>
        cases c with
        | nil => cases h2
        | cons z zs => rfl
    | cons x xs ih =>
      intro b c h1 h2
      cases b with
      | nil => cases h1
      | cons y ys =>
        cases c with
        | nil => cases h2
        | cons z zs =>
          simp only [ltLs] at *
          by_cases e1 : x = y
          · subst e1
            by_cases e2 : x = z
            · subst e2
              simp only [if_true] at *
              exact ih _ _ h1 h2
            · simp only [e2, if_false, if_true] at *
              exact h2
          · by_cases e2 : y = z
            · subst e2
              simp only [e1, if_false, if_true] at *
              exact h1
            · simp only [e1, e2, if_false] at *
              have h3 := S.tr _ _ _ h1 h2
              by_cases e3 : x = z
              · rw [e3, S.irr] at h3
                cases h3
              · simp only [e3, if_false]
                exact h3
  tri a := by
    induction a with
    | nil =>
      intro b
      cases b with
      | nil => exact .inr (.inl rfl)
      | cons y ys => exact .inl rfl
    | cons x xs ih =>
      intro b
      cases b with
      | nil => exact .inr (.inr rfl)
      | cons y ys =>
        simp only [ltLs]
        by_cases e1 : x = y
        · subst e1
          simp only [if_true]
          rcases ih ys with h | h | h
          · exact .inl h
          · exact .inr (.inl (by rw [h]))
          · exact .inr (.inr h)
        · have e2 : ¬ y = x := fun z => e1 z.symm
          simp only [e1, e2, if_false]
          rcases S.tri x y with h | h | h
          · exact .inl h
          · exact absurd h e1
          · exact .inr (.inr h)
abbrev leOf (lt : α → α → Bool) (a b : α) : Bool := !lt b a
theorem SLt.sorted (S : SLt lt) (xs : List α) : (xs.mergeSort (leOf lt)).Pairwise fun a b => leOf lt a b = true := by
  refine List.pairwise_mergeSort (fun a b c h1 h2 => ?_) (fun a b => ?_) xs
  · simp only [leOf, Bool.not_eq_true'] at *
    rcases S.tri a c with h | h | h
    · exact S.asym h
    · subst h
      exact S.irr _
    · rcases S.tri a b with q | q | q
      · rw [S.tr _ _ _ h q] at h2
        cases h2
      · subst q
        rw [h] at h2
        cases h2
      · rw [q] at h1
        cases h1
  · simp only [leOf, Bool.or_eq_true, Bool.not_eq_true']
    rcases S.tri a b with h | h | h
    · exact .inl (S.asym h)
    · subst h
      exact .inl (S.irr _)
    · exact .inr (S.asym h)
theorem SLt.sorted_lt (S : SLt lt) {xs : List α} (nd : xs.Nodup) : (xs.mergeSort (leOf lt)).Pairwise fun a b => lt a b = true := by
  have h1 := S.sorted xs
  have h2 : (xs.mergeSort (leOf lt)).Nodup := (List.mergeSort_perm xs (leOf lt)).nodup_iff.mpr nd
  refine (List.Pairwise.and h1 h2).imp fun {a b} h => ?_
  obtain ⟨h3, h4⟩ := h
  simp only [leOf, Bool.not_eq_true'] at h3
  rcases S.tri a b with q | q | q
  · exact q
  · exact absurd q h4
  · rw [q] at h3
    cases h3
theorem asc_of {xs : List α} (h : xs.Pairwise fun a b => lt a b = true) : asc lt xs = true := by
  induction xs with
  | nil => rfl
  | cons x xs ih =>
    rw [List.pairwise_cons] at h
    cases xs with
    | nil => rfl
    | cons y ys =>
      have h2 := ih h.2
      unfold asc at h2 ⊢
      simp only [List.drop_succ_cons, List.drop_zero, List.zip_cons_cons, List.all_cons, Bool.and_eq_true]
      refine ⟨h.1 y List.mem_cons_self, ?_⟩
      cases ys with
      | nil => rfl
      | cons z zs => simpa using h2
theorem pairwise_of_asc (S : SLt lt) {xs : List α} (h : asc lt xs = true) : xs.Pairwise fun a b => lt a b = true := by
  induction xs with
  | nil => exact .nil
  | cons x xs ih =>
    cases xs with
    | nil => simp
    | cons y ys =>
      unfold asc at h
      simp only [List.drop_succ_cons, List.drop_zero, List.zip_cons_cons, List.all_cons, Bool.and_eq_true] at h
      have hr : asc lt (y :: ys) = true := by
        unfold asc
        cases ys with
        | nil => rfl
        | cons z zs => simpa using h.2
      have h2 := ih hr
      refine List.pairwise_cons.mpr ⟨fun z hz => ?_, h2⟩
      rcases List.mem_cons.mp hz with e | e
      · subst e
        exact h.1
      · exact S.tr _ _ _ h.1 ((List.pairwise_cons.mp h2).1 z e)
/-! the least -/
theorem minO_le (S : SLt lt) (x : α) (xs : List α) : minO lt x xs ∈ x :: xs ∧ ∀ y ∈ x :: xs, lt y (minO lt x xs) = false := by
  unfold minO
  induction xs generalizing x with
  | nil => exact ⟨by simp, fun y hy => by simp at hy; subst hy; exact S.irr _⟩
  | cons z xs ih =>
    simp only [List.foldl_cons]
    obtain ⟨h1, h2⟩ := ih (if lt z x then z else x)
    constructor
    · rcases List.mem_cons.mp h1 with e | e
      · rw [e]
        split
        · exact List.mem_cons_of_mem _ List.mem_cons_self
        · exact List.mem_cons_self
      · exact List.mem_cons_of_mem _ (List.mem_cons_of_mem _ e)
    · intro y hy
      have h3 := h2 _ List.mem_cons_self
      rcases List.mem_cons.mp hy with e | hy
      · subst e
        by_cases q : lt z y = true
        · rw [if_pos q] at h2 h3 ⊢
          cases r : lt y (List.foldl (fun a y => if lt y a = true then y else a) z xs) with
          | false => rfl
          | true => rw [S.tr _ _ _ q r] at h3; cases h3
        · rw [if_neg q] at h3 ⊢
          exact h3
      · rcases List.mem_cons.mp hy with e | e
        · subst e
          by_cases q : lt y x = true
          · rw [if_pos q] at h3 ⊢
            exact h3
          · rw [if_neg q] at h3 ⊢
            cases r : lt y (List.foldl (fun a y => if lt y a = true then y else a) x xs) with
            | false => rfl
            | true =>
              rcases S.tri y x with w | w | w
              · exact absurd w q
              · subst w
                rw [h3] at r
                cases r
              · rw [S.tr _ _ _ w r] at h3
                cases h3
        · exact h2 y (List.mem_cons_of_mem _ e)
theorem minO_uniq (S : SLt lt) {x m : α} {xs : List α} (h1 : m ∈ x :: xs) (h2 : ∀ y ∈ x :: xs, lt y m = false) : minO lt x xs = m := by
  obtain ⟨h3, h4⟩ := minO_le S x xs
  rcases S.tri (minO lt x xs) m with h | h | h
  · rw [h2 _ h3] at h
    cases h
  · exact h
  · rw [h4 _ h1] at h
    cases h
end
theorem row_slt : SLt ltRow := pair_slt nat_slt nat_slt
theorem ltP_row : ltP = ltRow := by
  funext p q
  show _ = ltPr _ _ p q
  unfold ltP ltPr
  by_cases h : p.1 = q.1
  · simp [h]
  · simp [h]
theorem pairD_row : pairD = rowD := rfl
/-! ### comprehensions that draw -/
theorem compF_st {α S : Type} {L : List Nat} {gD : GF} {T : TF} {f : EF} {vs : List Nat} (enc : α → D) (h : α → D) (base : S → VS.Env) (P : Nat → S → Prop) (K : Nat) : ∀ (xs : List α) (acc : List D) (env : VS.Env) (k : Nat) (s : S), wipeE env vs = base s → P k s → acc.length + xs.length ≤ sizeLine → k + xs.length ≤ K →
    (∀ k s x, k < K → x ∈ xs → P k s → ∃ e2 e3 s' b, gD (enc x) (base s) = some e2 ∧ T e2 = .ok b e3 ∧ wipeE e3 vs = base s' ∧ P (k + 1) s' ∧ (b = true → fV L f e3 = .ok (.val (h x)) e3)) →
    ∃ (env' : VS.Env) (s' : S) (ys : List α), compF L gD T f vs (xs.map enc) acc env = .ok (acc ++ ys.map h) env' ∧ wipeE env' vs = base s' ∧ P (k + xs.length) s' ∧ ys.Sublist xs
  | [], acc, env, k, s, hw, hp, _, _, _ => ⟨env, s, [], by simp [compF], hw, hp, .slnil⟩
  | x :: xs, acc, env, k, s, hw, hp, hl, hK, hb => by
    rw [List.length_cons] at hl hK
    obtain ⟨e2, e3, s', b, g, t, w, hp', kf⟩ := hb k s x (by omega) List.mem_cons_self hp
    cases b with
    | true =>
      obtain ⟨env', s2, ys, q1, q2, q3, q4⟩ := compF_st (L := L) (gD := gD) (T := T) (f := f) (vs := vs) enc h base P K xs (acc ++ [h x]) e3 (k + 1) s' w hp' (by rw [List.length_append]; simp; omega) (by omega) (fun k s y hk hy => hb k s y hk (List.mem_cons_of_mem _ hy))
      refine ⟨env', s2, x :: ys, ?_, q2, by rw [List.length_cons, show k + (xs.length + 1) = k + 1 + xs.length by omega]; exact q3, q4.cons₂ x⟩
      have hlt : acc.length < sizeLine := by omega
      simp only [List.map_cons, compF, hw, g, t, noX, R.bind, if_true, kf rfl, if_pos hlt, q1]
      simp
    | false =>
      obtain ⟨env', s2, ys, q1, q2, q3, q4⟩ := compF_st (L := L) (gD := gD) (T := T) (f := f) (vs := vs) enc h base P K xs acc e3 (k + 1) s' w hp' (by omega) (by omega) (fun k s y hk hy => hb k s y hk (List.mem_cons_of_mem _ hy))
      refine ⟨env', s2, ys, ?_, q2, by rw [List.length_cons, show k + (xs.length + 1) = k + 1 + xs.length by omega]; exact q3, q4.cons x⟩
      simp only [List.map_cons, compF, hw, g, t, noX, R.bind, Bool.false_eq_true, if_false, q1]
theorem restE_congr (e1 : VS.Env) {a b : VS.Env} {vs : List Nat} (h : wipeE a vs = wipeE b vs) : restE e1 a vs = restE e1 b vs := by
  have hl : a.length = b.length := by
    have := congrArg List.length h
    rwa [wipeE_len, wipeE_len] at this
  apply List.ext_getElem?
  intro j
  rw [restE_get, restE_get, hl]
  by_cases hj : j ∈ vs
  · rw [if_pos hj, if_pos hj]
  · rw [if_neg hj, if_neg hj, ← wipeE_out (env := a) hj, h, wipeE_out hj]
theorem wipeE_idem (a : VS.Env) (vs : List Nat) : wipeE (wipeE a vs) vs = wipeE a vs := wipeE_wipe a vs (wipeE a vs) (fun j hj => wipeE_out hj) (wipeE_len a vs)
theorem eComp_st {α S : Type} {L : List Nat} {src : IF} {gD : GF} {T : TF} {f : EF} {vs : List Nat} {env e1 : VS.Env} (enc : α → D) (xs : List α) (h : α → D) (base : S → VS.Env) (P : Nat → S → Prop) (s : S) (hs : src env = .ok (xs.map enc) e1) (hw : wipeE e1 vs = base s) (hp : P 0 s) (hl : xs.length ≤ sizeLine)
    (hb : ∀ k s x, k < xs.length → x ∈ xs → P k s → ∃ e2 e3 s' b, gD (enc x) (base s) = some e2 ∧ T e2 = .ok b e3 ∧ wipeE e3 vs = base s' ∧ P (k + 1) s' ∧ (b = true → fV L f e3 = .ok (.val (h x)) e3)) :
    ∃ (s' : S) (ys : List α), eComp L src gD T f vs env = .ok (.fresh (.lst (ys.map h))) (restE e1 (base s') vs) ∧ P xs.length s' ∧ ys.Sublist xs := by
  obtain ⟨env', s', ys, q1, q2, q3, q4⟩ := compF_st (L := L) (gD := gD) (T := T) (f := f) (vs := vs) enc h base P xs.length xs [] e1 0 s hw hp (by simpa using hl) (by omega) hb
  refine ⟨s', ys, ?_, by simpa using q3, q4⟩
  simp only [eComp, hs, R.bind, q1, List.nil_append]
  rw [restE_congr e1 (a := env') (b := base s') (by rw [← q2, wipeE_idem])]
/-! ### webs and places that the law draws -/
abbrev scS (s : List Int) : Option VS.Slot := some (.val (scrD s))
abbrev twS (k : Nat) : Option VS.Slot := some (.own (townL k))
section
variable (s : List Int)
theorem b1_web_eq {k dense other place : Nat} (most many : D) (acc : List (Nat × Nat)) (hp : place < other) (hk : k ≤ 1000000) (ha : acc.length ≤ 1000) : ∃ k' b, k' ≤ k + 2 ∧
    b1__law_web [scS s, twS k, some (.val most), some (.val many), some (.val (natD dense)), some (.own (.lst (acc.map pairD))), some (.val (natD other)), some (.val (natD place))] =
      .ok .nx [scS s, twS k', some (.val most), some (.val many), some (.val (natD dense)), some (.own (.lst ((acc ++ if b = true then [(place, other)] else []).map pairD))), some (.val (natD other)), some (.val (natD place))] := by
  have d1 := draw_eq s k 6 (by decide) (by omega)
  have d2 := draw_eq s (k + 1) 2 (by decide) (by omega)
  have hs : gSub (natD other) (natD place) = some (.val (natD (other - place))) := sub_n (by omega)
  have happ : mAppend (acc.map pairD) (.tup [natD place, natD other]) = some (.non, (acc ++ [(place, other)]).map pairD) := by
    rw [app_ok (by rw [List.length_map]; omega), List.map_append]
    rfl
  by_cases h1 : drw s k 6 < dense
  · refine ⟨k + 1, true, by omega, ?_⟩
    unfold b1__law_web
    simp! [d1, h1, happ]
  · by_cases h2 : other - place = 1
    · by_cases h3 : drw s (k + 1) 2 = 0
      · refine ⟨k + 1 + 1, true, by omega, ?_⟩
        unfold b1__law_web
        simp! [d1, h1, hs, h2, d2, h3, happ]
      · refine ⟨k + 1 + 1, false, by omega, ?_⟩
        unfold b1__law_web
        simp! [d1, h1, hs, h2, d2, h3, List.append_nil]
    · refine ⟨k + 1, false, by omega, ?_⟩
      unfold b1__law_web
      simp! [d1, h1, hs, h2, List.append_nil]
/-- ties made so far: the greater places below m, and m's lesser ones below j -/
structure TieAcc (acc : List (Nat × Nat)) (m j : Nat) : Prop where
  lt : ∀ t ∈ acc, t.1 < t.2 ∧ (t.2 < m ∨ t.2 = m ∧ t.1 < j)
  nd : acc.Nodup
theorem TieAcc.add {acc : List (Nat × Nat)} {m j : Nat} (T : TieAcc acc m j) (hj : j < m) (b : Bool) : TieAcc (acc ++ if b = true then [(j, m)] else []) m (j + 1) := by
  cases b with
  | false =>
    refine ⟨fun t ht => ?_, by simpa using T.nd⟩
    have := T.lt t (by simpa using ht)
    omega
  | true =>
    refine ⟨fun t ht => ?_, ?_⟩
    · rcases List.mem_append.mp ht with h | h
      · have := T.lt t h
        omega
      · simp at h
        subst h
        exact ⟨hj, .inr ⟨rfl, Nat.lt_succ_self j⟩⟩
    · rw [List.nodup_append]
      refine ⟨T.nd, by simp, fun a ha b hb => ?_⟩
      simp at hb
      subst hb
      intro e
      subst e
      have := T.lt _ ha
      simp at this
theorem TieAcc.next {acc : List (Nat × Nat)} {m : Nat} (T : TieAcc acc m m) : TieAcc acc (m + 1) 0 :=
  ⟨fun t ht => by have := T.lt t ht; omega, T.nd⟩
theorem TieAcc.len {acc : List (Nat × Nat)} {m j : Nat} (T : TieAcc acc m j) (hm : m ≤ 8) : acc.length ≤ 100 := by
  have : acc.length ≤ ((List.range 9).flatMap fun a => (List.range 9).map fun b => (a, b)).length := nodup_le T.nd fun t ht => by
    have := T.lt t ht
    rw [List.mem_flatMap]
    exact ⟨t.1, List.mem_range.mpr (by omega), List.mem_map.mpr ⟨t.2, List.mem_range.mpr (by omega), rfl⟩⟩
  exact Nat.le_trans this (by decide)
theorem l1_web_eq {k dense other : Nat} (most many : D) (acc : List (Nat × Nat)) (T : TieAcc acc other 0) (ho : other ≤ 8) (hk : k ≤ 100000) (x : Option VS.Slot) : ∃ k' acc' x', k' ≤ k + 2 * other ∧ TieAcc acc' other other ∧
    l1__law_web [scS s, twS k, some (.val most), some (.val many), some (.val (natD dense)), some (.own (.lst (acc.map pairD))), some (.val (natD other)), x] =
      .ok .nx [scS s, twS k', some (.val most), some (.val many), some (.val (natD dense)), some (.own (.lst (acc'.map pairD))), some (.val (natD other)), x'] := by
  obtain ⟨e', h1, k', acc', x', h2, h3, rfl⟩ := forF_map (gD := dName 7) (F := b1__law_web) natD (List.range other) (fun j e => ∃ k' acc' x', k' ≤ k + 2 * j ∧ TieAcc acc' other j ∧ e = [scS s, twS k', some (.val most), some (.val many), some (.val (natD dense)), some (.own (.lst (acc'.map pairD))), some (.val (natD other)), x'])
    (env := [scS s, twS k, some (.val most), some (.val many), some (.val (natD dense)), some (.own (.lst (acc.map pairD))), some (.val (natD other)), x]) ⟨k, acc, x, by omega, T, rfl⟩ (fun j p e hj hE => by
      obtain ⟨k', acc', x', h1, h2, rfl⟩ := hE
      have hjl : j < other := by simpa using (List.getElem?_eq_some_iff.mp hj).1
      have hg : p = j := by
        rw [List.getElem?_range hjl] at hj
        exact (Option.some.inj hj).symm
      subst hg
      obtain ⟨k2, b, q1, q2⟩ := b1_web_eq s (k := k') (dense := dense) most many acc' hjl (by omega) (by have := h2.len ho; omega)
      exact ⟨_, _, .nx, rfl, q2, .inl rfl, k2, _, _, by omega, h2.add hjl b, rfl⟩)
  rw [List.length_range] at h2 h3
  refine ⟨k', acc', x', h2, h3, ?_⟩
  unfold l1__law_web
  exact sFor_of (range1_ok (by simp! []) (by omega)) h1
theorem l2_web_eq {k dense many : Nat} (most : D) (hm : many ≤ 8) (hk : k ≤ 10000) (x y : Option VS.Slot) : ∃ k' acc' x' y', k' ≤ k + 16 * many ∧ TieAcc acc' many 0 ∧
    l2__law_web [scS s, twS k, some (.val most), some (.val (natD many)), some (.val (natD dense)), some (.own (.lst [])), x, y] =
      .ok .nx [scS s, twS k', some (.val most), some (.val (natD many)), some (.val (natD dense)), some (.own (.lst (acc'.map pairD))), x', y'] := by
  obtain ⟨e', h1, k', acc', x', y', h2, h3, rfl⟩ := forF_map (gD := dName 6) (F := b2__law_web) natD (List.range many) (fun j e => ∃ k' acc' x' y', k' ≤ k + 16 * j ∧ TieAcc acc' j 0 ∧ e = [scS s, twS k', some (.val most), some (.val (natD many)), some (.val (natD dense)), some (.own (.lst (acc'.map pairD))), x', y'])
    (env := [scS s, twS k, some (.val most), some (.val (natD many)), some (.val (natD dense)), some (.own (.lst [])), x, y]) ⟨k, [], x, y, by omega, ⟨fun _ h => by simp at h, List.nodup_nil⟩, rfl⟩ (fun j p e hj hE => by
      obtain ⟨k', acc', x', y', h1, h2, rfl⟩ := hE
      have hjl : j < many := by simpa using (List.getElem?_eq_some_iff.mp hj).1
      have hg : p = j := by
        rw [List.getElem?_range hjl] at hj
        exact (Option.some.inj hj).symm
      subst hg
      obtain ⟨k2, acc2, y2, q1, q2, q3⟩ := l1_web_eq s (k := k') (dense := dense) most (natD many) acc' h2 (by omega) (by omega) y'
      exact ⟨_, _, .nx, rfl, q3, .inl rfl, k2, acc2, _, y2, by omega, q2.next, rfl⟩)
  rw [List.length_range] at h2 h3
  refine ⟨k', acc', x', y', h2, h3, ?_⟩
  unfold l2__law_web
  exact sFor_of (range1_ok (by simp! []) (by omega)) h1
theorem law_web_ok {k most : Nat} (h1 : 1 ≤ most) (h8 : most ≤ 8) (hk : k ≤ 9000) : ∃ n ts k' fin, m__law_web [.val (scrD s), .own (townL k), .val (natD most)] = .ok (.val (webD n ts)) fin ∧ fin[1]? = some (twS k') ∧ k' ≤ k + 200 ∧ WebOk n ts ∧ n ≤ most := by
  have d1 := draw_eq s k most (by omega) (by omega)
  have d2 := draw_eq s (k + 1) 5 (by decide) (by omega)
  have hv := drw_lt s k (many := most) (by omega)
  obtain ⟨k', acc, x, y, q1, T, q3⟩ := l2_web_eq s (k := k + 1 + 1) (dense := drw s (k + 1) 5) (many := 1 + drw s k most) (natD most) (by omega) (by omega) none none
  have hs : gSorted (.lst (acc.map pairD)) = some (.fresh (.lst ((acc.mergeSort (leOf ltRow)).map pairD))) := row_enc.sorted (by decide) acc (isT_pair _ _ _) (by have := T.len (by omega); omega)
  have ok : WebOk (1 + drw s k most) (acc.mergeSort (leOf ltRow)) := by
    refine ⟨by omega, by omega, fun t ht => ?_, ?_, ?_⟩
    · have := T.lt t ((List.mem_mergeSort).mp ht)
      omega
    · rw [ltP_row]
      exact asc_of (row_slt.sorted_lt T.nd)
    · rw [List.length_mergeSort]
      have := T.len (by omega)
      omega
  suffices hx : ∃ fin, m__law_web [.val (scrD s), .own (townL k), .val (natD most)] = .ok (.val (webD (1 + drw s k most) (acc.mergeSort (leOf ltRow)))) fin ∧ fin[1]? = some (twS k') by
    obtain ⟨fin, e1, e2⟩ := hx
    exact ⟨_, _, k', fin, e1, e2, by omega, ok, by omega⟩
  unfold m__law_web
  simp! [d1, d2, q3, hs]
  exact ⟨_, rfl, rfl⟩
/-! some places -/
theorem law_some_ok {k many : Nat} (h1 : 1 ≤ many) (h8 : many ≤ 8) (hk : k ≤ 900000) : ∃ ps k' fin, m__law_some [.val (scrD s), .own (townL k), .val (natD many)] = .ok (.val (placesD ps)) fin ∧ fin[1]? = some (twS k') ∧ k' ≤ k + 10 ∧ PlacesOk many ps := by
  obtain ⟨k1, ys, q1, q2, q3⟩ := eComp_st (L := [1]) (src := iRange1 (aCons (fO (eVar 2)) aNil)) (gD := dName 4) (T := ct1__law_some) (f := ce1__law_some) (vs := [4]) (env := [scS s, twS k, some (.val (natD many)), none, none]) (e1 := [scS s, twS k, some (.val (natD many)), none, none]) natD (List.range many) natD
    (fun k => [scS s, twS k, some (.val (natD many)), none, none]) (fun j k' => k' ≤ k + j) k (range1_ok (by simp! []) (by omega)) (by simp! [wipeE]) (by omega) (by rw [List.length_range]; exact le_line (by omega)) (fun j k' x hj hx hP => by
      rw [List.length_range] at hj
      have d := draw_eq s k' 3 (by decide) (by omega)
      refine ⟨[scS s, twS k', some (.val (natD many)), none, some (.val (natD x))], [scS s, twS (k' + 1), some (.val (natD many)), none, some (.val (natD x))], k' + 1, decide (drw s k' 3 = 0), by simp! [], ?_, by simp! [wipeE], by omega, fun _ => ?_⟩
      · unfold ct1__law_some
        simp! [d]
      · unfold ce1__law_some
        simp! [])
  rw [List.length_range] at q2
  have hc : c1__law_some [scS s, twS k, some (.val (natD many)), none, none] = .ok (.fresh (.lst (ys.map natD))) [scS s, twS k1, some (.val (natD many)), none, none] := by
    unfold c1__law_some
    rw [q1]
    simp [restE, keepV]
  have hlt : ∀ p ∈ ys, p < many := fun p hp => List.mem_range.mp (q3.subset hp)
  have hpw : ys.Pairwise fun a b => decide (a < b) = true := (List.pairwise_lt_range (n := many)).sublist q3 |>.imp fun h => decide_eq_true h
  have hlen : ys.length ≤ 1000 := by
    have := q3.length_le
    rw [List.length_range] at this
    omega
  have he := nat_enc.eqT0 (by decide) ys
  by_cases h0 : ys = []
  · subst h0
    have d := draw_eq s k1 many (by omega) (by omega)
    have hv := drw_lt s k1 (many := many) (by omega)
    have ok : PlacesOk many [drw s k1 many] := ⟨by simp, fun p hp => by simp at hp; omega, rfl, by simp⟩
    suffices hx : ∃ fin, m__law_some [.val (scrD s), .own (townL k), .val (natD many)] = .ok (.val (placesD [drw s k1 many])) fin ∧ fin[1]? = some (twS (k1 + 1)) by
      obtain ⟨fin, e1, e2⟩ := hx
      exact ⟨_, _, fin, e1, e2, by omega, ok⟩
    rw [decide_eq_true rfl] at he
    unfold m__law_some
    simp only [List.map_nil] at he hc
    simp! [hc, he, d]
    exact ⟨_, rfl, rfl⟩
  · have ok : PlacesOk many ys := ⟨h0, hlt, asc_of hpw, hlen⟩
    suffices hx : ∃ fin, m__law_some [.val (scrD s), .own (townL k), .val (natD many)] = .ok (.val (placesD ys)) fin ∧ fin[1]? = some (twS k1) by
      obtain ⟨fin, e1, e2⟩ := hx
      exact ⟨_, _, fin, e1, e2, by omega, ok⟩
    rw [decide_eq_false h0] at he
    unfold m__law_some
    simp! [hc, he]
    exact ⟨_, rfl, rfl⟩
end
/-! ### k02: the law's own table, mid by mid -/
def pairK (p : Nat × Nat) : NestedKey := .tup [.num (p.1 : Int), .num (p.2 : Int)]
theorem pair_key : KeyOk pairK rowD where
  inj a b h := by
    simp only [pairK, NestedKey.tup.injEq, List.cons.injEq, NestedKey.num.injEq, and_true] at h
    exact Prod.ext (Int.ofNat_inj.mp h.1) (Int.ofNat_inj.mp h.2)
  key a := by rfl
  kind := .inr fun _ => rfl
abbrev tabD (m : List ((Nat × Nat) × Nat)) : D := dctD pairK natD m
/-- m tells f at the pairs of dom -/
structure Tab (n : Nat) (m : List ((Nat × Nat) × Nat)) (f : Nat → Nat → Nat) (dom : Nat → Nat → Prop) : Prop where
  at_ : ∀ a b, dom a b → look m (a, b) = some (f a b)
  nd : (m.map (·.1)).Nodup
  lt : ∀ p ∈ m.map (·.1), p.1 < n ∧ p.2 < n
def setF (f : Nat → Nat → Nat) (i j v : Nat) : Nat → Nat → Nat := fun a b => if a = i ∧ b = j then v else f a b
theorem putM_keys {α β : Type} [DecidableEq α] (m : List (α × β)) (a : α) (v : β) : (putM m a v).map (·.1) = if a ∈ m.map (·.1) then m.map (·.1) else m.map (·.1) ++ [a] := by
  unfold putM
  split
  · rw [List.map_map]
    refine List.map_congr_left fun p _ => ?_
    show (if p.1 = a then (p.1, v) else p).1 = p.1
    split <;> rfl
  · simp
section
variable {n : Nat} {ts : List (Nat × Nat)} {m : List ((Nat × Nat) × Nat)} {f : Nat → Nat → Nat} {dom : Nat → Nat → Prop}
theorem Tab.len (T : Tab n m f dom) (h8 : n ≤ 8) : m.length ≤ 100 := by
  have : (m.map (·.1)).length ≤ ((List.range 9).flatMap fun a => (List.range 9).map fun b => (a, b)).length := nodup_le T.nd fun t ht => by
    have := T.lt t ht
    rw [List.mem_flatMap]
    exact ⟨t.1, List.mem_range.mpr (by omega), List.mem_map.mpr ⟨t.2, List.mem_range.mpr (by omega), rfl⟩⟩
  rw [List.length_map] at this
  exact Nat.le_trans this (by decide)
theorem Tab.put (T : Tab n m f dom) {i j : Nat} (hi : i < n) (hj : j < n) (v : Nat) : Tab n (putM m (i, j) v) (setF f i j v) (fun a b => dom a b ∨ (a = i ∧ b = j)) := by
  refine ⟨fun a b h => ?_, ?_, ?_⟩
  · rw [look_put]
    unfold setF
    by_cases e : a = i ∧ b = j
    · rw [if_pos e, if_pos (by rw [e.1, e.2])]
    · have e' : ¬ (a, b) = (i, j) := fun z => e (by simpa using z)
      rw [if_neg e, if_neg e']
      rcases h with h | h
      · exact T.at_ a b h
      · exact absurd h e
  · rw [putM_keys]
    split
    · exact T.nd
    · rename_i h
      rw [List.nodup_append]
      refine ⟨T.nd, by simp, fun x hx y hy => ?_⟩
      simp at hy
      subst hy
      exact fun z => h (z ▸ hx)
  · rw [putM_keys]
    intro p hp
    split at hp
    · exact T.lt p hp
    · rcases List.mem_append.mp hp with h | h
      · exact T.lt p h
      · simp at h
        subst h
        exact ⟨hi, hj⟩
theorem Tab.mono {dom' : Nat → Nat → Prop} {f' : Nat → Nat → Nat} (T : Tab n m f dom) (h : ∀ a b, dom' a b → dom a b ∧ f' a b = f a b) : Tab n m f' dom' :=
  ⟨fun a b hd => by rw [(h a b hd).2]; exact T.at_ a b (h a b hd).1, T.nd, T.lt⟩
theorem Tab.ix (T : Tab n m f dom) {a b : Nat} (h : dom a b) : gIxA (tabD m) (.tup [natD a, natD b]) = some (.val (natD (f a b))) := pair_key.ix (eV := natD) (T.at_ a b h)
theorem Tab.putD (T : Tab n m f dom) (h8 : n ≤ 8) (i j v : Nat) : VS.putD (tabD m) (.tup [natD i, natD j]) (natD v) = some (tabD (putM m (i, j) v)) := pair_key.put (eV := natD) (a := (i, j)) (by have := T.len h8; omega)
abbrev all (n : Nat) : Nat → Nat → Prop := fun a b => a < n ∧ b < n
def f0 (a b : Nat) : Nat := if a = b then 0 else 99
abbrev lenv (s : List Int) (k n : Nat) (ts : List (Nat × Nat)) (m : List ((Nat × Nat) × Nat)) (a4 a5 a6 a7 a8 a9 a10 : Option VS.Slot) : VS.Env := [scS s, twS k, some (.val (webD n ts)), some (.own (tabD m)), a4, a5, a6, a7, a8, a9, a10, none, none]
variable {s : List Int} {k : Nat} (a4 a5 a6 a7 a8 a9 a10 : Option VS.Slot)
theorem rng_web (m : List ((Nat × Nat) × Nat)) (h8 : n ≤ 8) : iRange1 (aCons (fO (eOp2 gIxA (eVar 2) (eC (.int 0)))) aNil) (lenv s k n ts m a4 a5 a6 a7 a8 a9 a10) = .ok ((List.range n).map natD) (lenv s k n ts m a4 a5 a6 a7 a8 a9 a10) := by
  have hw : webD n ts = .tup [natD n, .tup (ts.map pairD)] := rfl
  exact range1_ok (by simp! [ix_t0w hw]) (by omega)
theorem rngAt {j p n : Nat} (hj : (List.range n)[j]? = some p) : p = j ∧ j < n := by
  have hjl : j < n := by simpa using (List.getElem?_eq_some_iff.mp hj).1
  rw [List.getElem?_range hjl] at hj
  exact ⟨(Option.some.inj hj).symm, hjl⟩
theorem b1_law_eq (h8 : n ≤ 8) (T : Tab n m f dom) (i j : Nat) : b1_law (lenv s k n ts m (some (.val (natD i))) (some (.val (natD j))) a6 a7 a8 a9 a10) = .ok .nx (lenv s k n ts (putM m (i, j) (f0 i j)) (some (.val (natD i))) (some (.val (natD j))) a6 a7 a8 a9 a10) := by
  have hp := T.putD h8 i j (f0 i j)
  unfold f0 at hp ⊢
  unfold b1_law
  by_cases e : i = j
  · simp only [e, if_true] at hp
    simp! [e, hp]
  · simp only [e, if_false] at hp
    simp! [e, hp]
theorem l1_law_eq (h8 : n ≤ 8) {i : Nat} (hi : i < n) (T : Tab n m f0 (fun a b => a < i ∧ b < n)) : ∃ m' b5, Tab n m' f0 (fun a b => a < i + 1 ∧ b < n) ∧ l1_law (lenv s k n ts m (some (.val (natD i))) a5 a6 a7 a8 a9 a10) = .ok .nx (lenv s k n ts m' (some (.val (natD i))) b5 a6 a7 a8 a9 a10) := by
  obtain ⟨e', h1, m', b5, T', rfl⟩ := forF_map (gD := dName 5) (F := b1_law) natD (List.range n) (fun j e => ∃ m' b5, Tab n m' f0 (fun a b => (a < i ∧ b < n) ∨ (a = i ∧ b < j)) ∧ e = lenv s k n ts m' (some (.val (natD i))) b5 a6 a7 a8 a9 a10)
    (env := lenv s k n ts m (some (.val (natD i))) a5 a6 a7 a8 a9 a10) ⟨m, a5, T.mono fun a b h => ⟨by omega, rfl⟩, rfl⟩ (fun j p e hj hE => by
      obtain ⟨m', b5, T', rfl⟩ := hE
      obtain ⟨rfl, hjl⟩ := rngAt hj
      refine ⟨_, _, .nx, rfl, b1_law_eq a6 a7 a8 a9 a10 h8 T' i p, .inl rfl, _, _, ?_, rfl⟩
      refine (T'.put hi hjl (f0 i p)).mono fun a b h => ⟨by omega, ?_⟩
      unfold setF
      by_cases e : a = i ∧ b = p
      · rw [if_pos e, e.1, e.2]
      · rw [if_neg e])
  rw [List.length_range] at T'
  refine ⟨m', b5, T'.mono fun a b h => ⟨by omega, rfl⟩, ?_⟩
  unfold l1_law
  exact sFor_of (rng_web _ _ _ _ _ _ _ m h8) h1
theorem l2_law_eq (h8 : n ≤ 8) : ∃ m' b4 b5, Tab n m' f0 (all n) ∧ l2_law (lenv s k n ts [] a4 a5 a6 a7 a8 a9 a10) = .ok .nx (lenv s k n ts m' b4 b5 a6 a7 a8 a9 a10) := by
  obtain ⟨e', h1, m', b4, b5, T', rfl⟩ := forF_map (gD := dName 4) (F := b2_law) natD (List.range n) (fun j e => ∃ m' b4 b5, Tab n m' f0 (fun a b => a < j ∧ b < n) ∧ e = lenv s k n ts m' b4 b5 a6 a7 a8 a9 a10)
    (env := lenv s k n ts [] a4 a5 a6 a7 a8 a9 a10) ⟨[], a4, a5, ⟨fun a b h => by omega, List.nodup_nil, fun p h => by simp at h⟩, rfl⟩ (fun j p e hj hE => by
      obtain ⟨m', b4, b5, T', rfl⟩ := hE
      obtain ⟨rfl, hjl⟩ := rngAt hj
      obtain ⟨m2, c5, q1, q2⟩ := l1_law_eq (s := s) (k := k) (ts := ts) b5 a6 a7 a8 a9 a10 h8 hjl T'
      exact ⟨_, _, .nx, rfl, q2, .inl rfl, _, _, _, q1, rfl⟩)
  rw [List.length_range] at T'
  refine ⟨m', b4, b5, T', ?_⟩
  unfold l2_law
  exact sFor_of (rng_web _ _ _ _ _ _ _ [] h8) h1
/-- .. the ties in us put in -/
def fT (us : List (Nat × Nat)) (a b : Nat) : Nat := if (a, b) ∈ us ∨ (b, a) ∈ us then 1 else f0 a b
theorem l3_law_eq (h : WebOk n ts) (T : Tab n m f0 (all n)) : ∃ m' b4 b5, Tab n m' (fT ts) (all n) ∧ l3_law (lenv s k n ts m a4 a5 a6 a7 a8 a9 a10) = .ok .nx (lenv s k n ts m' b4 b5 a6 a7 a8 a9 a10) := by
  have h8 := h.n8
  have hw : webD n ts = .tup [natD n, .tup (ts.map pairD)] := rfl
  obtain ⟨e', h1, m', b4, b5, T', rfl⟩ := forF_map (gD := dTup 2 (dCons (dName 4) (dCons (dName 5) dNil))) (F := b3_law) pairD ts (fun j e => ∃ m' b4 b5, Tab n m' (fT (ts.take j)) (all n) ∧ e = lenv s k n ts m' b4 b5 a6 a7 a8 a9 a10)
    (env := lenv s k n ts m a4 a5 a6 a7 a8 a9 a10) ⟨m, a4, a5, T.mono fun a b h => ⟨h, by simp [fT]⟩, rfl⟩ (fun j t e hj hE => by
      obtain ⟨m', b4, b5, T', rfl⟩ := hE
      obtain ⟨q1, q2⟩ := h.lt t (List.mem_of_getElem? hj)
      have T1 := T'.put (i := t.1) (j := t.2) (by omega) (by omega) 1
      have T2 := T1.put (i := t.2) (j := t.1) (by omega) (by omega) 1
      have p1 := T'.putD h8 t.1 t.2 1
      have p2 := T1.putD h8 t.2 t.1 1
      refine ⟨lenv s k n ts m' (some (.val (natD t.1))) (some (.val (natD t.2))) a6 a7 a8 a9 a10, lenv s k n ts (putM (putM m' (t.1, t.2) 1) (t.2, t.1) 1) (some (.val (natD t.1))) (some (.val (natD t.2))) a6 a7 a8 a9 a10, .nx, by simp! [pairD], ?_, .inl rfl, _, _, _, ?_, rfl⟩
      · unfold b3_law
        simp! [p1, p2]
      · refine T2.mono fun a b hab => ⟨.inl (.inl hab), ?_⟩
        have htk : ts.take (j + 1) = ts.take j ++ [t] := by rw [List.take_add_one, hj]; rfl
        unfold setF fT
        rw [htk]
        have et : t = (t.1, t.2) := rfl
        by_cases e1 : a = t.2 ∧ b = t.1
        · rw [if_pos e1]
          have : (b, a) ∈ ts.take j ++ [t] := by rw [e1.1, e1.2]; simp
          rw [if_pos (.inr this)]
        · rw [if_neg e1]
          by_cases e2 : a = t.1 ∧ b = t.2
          · rw [if_pos e2]
            have : (a, b) ∈ ts.take j ++ [t] := by rw [e2.1, e2.2]; simp
            rw [if_pos (.inl this)]
          · rw [if_neg e2]
            have n1 : (a, b) ≠ t := fun z => e2 (by rw [← z]; exact ⟨rfl, rfl⟩)
            have n2 : (b, a) ≠ t := fun z => e1 (by rw [← z]; exact ⟨rfl, rfl⟩)
            simp [List.mem_append, n1, n2])
  rw [List.take_length] at T'
  refine ⟨m', b4, b5, T', ?_⟩
  unfold l3_law
  refine sFor_of (ds := ts.map pairD) (e1 := lenv s k n ts m a4 a5 a6 a7 a8 a9 a10) ?_ h1
  simp! [ix_t1w hw]
end
/-! ### shorter by way of one more -/
/-- from a to b by d moves, all between below k -/
inductive RW (ts : List (Nat × Nat)) (k : Nat) : Nat → Nat → Nat → Prop
  | one {a b : Nat} : b ∈ nb ts a → RW ts k a b 1
  | more {a c b d : Nat} : c ∈ nb ts a → c < k → RW ts k c b d → RW ts k a b (d + 1)
section
variable {n : Nat} {ts : List (Nat × Nat)} {f : Nat → Nat → Nat}
theorem RW.split {k a b d : Nat} (w : RW ts (k + 1) a b d) : (∃ d', d' ≤ d ∧ RW ts k a b d') ∨ ∃ d1 d2, d1 + d2 ≤ d ∧ RW ts k a k d1 ∧ RW ts k k b d2 := by
  induction w with
  | one h => exact .inl ⟨1, Nat.le_refl _, .one h⟩
  | @more a c b d h hc _ ih =>
    by_cases e : c = k
    · subst e
      rcases ih with ⟨d', h1, h2⟩ | ⟨d1, d2, h1, _, h3⟩
      · exact .inr ⟨1, d', by omega, .one h, h2⟩
      · exact .inr ⟨1, d2, by omega, .one h, h3⟩
    · rcases ih with ⟨d', h1, h2⟩ | ⟨d1, d2, h1, h2, h3⟩
      · exact .inl ⟨d' + 1, by omega, .more h (by omega) h2⟩
      · exact .inr ⟨d1 + 1, d2, by omega, .more h (by omega) h2, h3⟩
theorem RW.of_walk (h : WebOk n ts) {a b : Nat} {ls : List Unit} (w : Walk (nbS ts) a ls b) : ls = [] ∧ a = b ∨ RW ts n a b ls.length := by
  induction w with
  | nil a => exact .inl ⟨rfl, rfl⟩
  | cons h1 _ ih =>
    obtain ⟨q, h2, h3⟩ := List.mem_map.mp h1
    cases h3
    rcases ih with ⟨rfl, rfl⟩ | ih
    · exact .inr (.one h2)
    · exact .inr (.more h2 (nb_lt h h2) ih)
/-- what holds in the phase k at the pair (i, j) -/
structure FW (n : Nat) (ts : List (Nat × Nat)) (k i j : Nat) (f : Nat → Nat → Nat) : Prop where
  snd : ∀ a b, a < n → b < n → f a b < 99 → ∃ ls, Walk (nbS ts) a ls b ∧ ls.length = f a b
  up : ∀ a b, a < n → b < n → f a b ≤ 99
  dg : ∀ a, a < n → f a a = 0
  old : ∀ a b d, a < n → b < n → RW ts k a b d → f a b ≤ d
  new : ∀ a b d, a < n → b < n → (a < i ∨ (a = i ∧ b < j)) → RW ts (k + 1) a b d → f a b ≤ d
def relax (f : Nat → Nat → Nat) (k i j : Nat) : Nat → Nat → Nat := setF f i j (min (f i j) (f i k + f k j))
theorem relax_le (k i j a b : Nat) : relax f k i j a b ≤ f a b := by
  unfold relax setF
  by_cases e : a = i ∧ b = j
  · rw [if_pos e, e.1, e.2]
    omega
  · rw [if_neg e]
    exact Nat.le_refl _
theorem FW.step {k i j : Nat} (F : FW n ts k i j f) (hk : k < n) (hi : i < n) (hj : j < n) : FW n ts k i (j + 1) (relax f k i j) where
  snd a b ha hb hlt := by
    by_cases e : a = i ∧ b = j
    · obtain ⟨rfl, rfl⟩ := e
      have ev : relax f k a b a b = min (f a b) (f a k + f k b) := by simp [relax, setF]
      rw [ev] at hlt ⊢
      by_cases q : f a b ≤ f a k + f k b
      · rw [Nat.min_eq_left q] at hlt ⊢
        exact F.snd a b ha hb hlt
      · rw [Nat.min_eq_right (by omega)] at hlt ⊢
        obtain ⟨l1, w1, e1⟩ := F.snd a k ha hk (by omega)
        obtain ⟨l2, w2, e2⟩ := F.snd k b hk hb (by omega)
        exact ⟨l1 ++ l2, w1.append w2, by rw [List.length_append, e1, e2]⟩
    · have ev : relax f k i j a b = f a b := by simp [relax, setF, e]
      rw [ev] at hlt ⊢
      exact F.snd a b ha hb hlt
  up a b ha hb := Nat.le_trans (relax_le k i j a b) (F.up a b ha hb)
  dg a ha := by
    have := relax_le (f := f) k i j a a
    rw [F.dg a ha] at this
    omega
  old a b d ha hb w := Nat.le_trans (relax_le k i j a b) (F.old a b d ha hb w)
  new a b d ha hb hab w := by
    by_cases e : a = i ∧ b = j
    · obtain ⟨rfl, rfl⟩ := e
      have ev : relax f k a b a b = min (f a b) (f a k + f k b) := by simp [relax, setF]
      rw [ev]
      rcases w.split with ⟨d', h1, h2⟩ | ⟨d1, d2, h1, h2, h3⟩
      · have := F.old a b d' ha hb h2
        omega
      · have := F.old a k d1 ha hk h2
        have := F.old k b d2 hk hb h3
        omega
    · exact Nat.le_trans (relax_le k i j a b) (F.new a b d ha hb (by omega) w)
theorem FW.row {k i : Nat} (F : FW n ts k i n f) : FW n ts k (i + 1) 0 f :=
  ⟨F.snd, F.up, F.dg, F.old, fun a b d ha hb hab w => F.new a b d ha hb (by omega) w⟩
theorem FW.phase {k : Nat} (F : FW n ts k n 0 f) : FW n ts (k + 1) 0 0 f :=
  ⟨F.snd, F.up, F.dg, fun a b d ha hb w => F.new a b d ha hb (by omega) w, fun a b d ha hb hab => by omega⟩
theorem FW.start (h : WebOk n ts) : FW n ts 0 0 0 (fT ts) where
  snd a b ha hb hlt := by
    unfold fT at hlt ⊢
    by_cases e : (a, b) ∈ ts ∨ (b, a) ∈ ts
    · rw [if_pos e]
      refine ⟨[()], .cons (List.mem_map.mpr ⟨b, mem_nb.mpr ?_, rfl⟩) (.nil b), rfl⟩
      rcases e with e | e
      · exact ⟨_, e, .inl rfl, by show b = a + b - a; omega⟩
      · exact ⟨_, e, .inr rfl, by show b = b + a - a; omega⟩
    · rw [if_neg e] at hlt ⊢
      unfold f0 at hlt ⊢
      by_cases e2 : a = b
      · subst e2
        exact ⟨[], .nil a, by simp⟩
      · rw [if_neg e2] at hlt
        omega
  up a b ha hb := by
    unfold fT f0
    split
    · omega
    · split <;> omega
  dg a ha := by
    unfold fT f0
    have : ¬ ((a, a) ∈ ts ∨ (a, a) ∈ ts) := fun z => by
      have := h.lt (a, a) (by simpa using z)
      simp at this
    rw [if_neg this, if_pos rfl]
  old a b d ha hb w := by
    cases w with
    | one h1 =>
      obtain ⟨t, h2, h3, h4⟩ := mem_nb.mp h1
      obtain ⟨h5, h6⟩ := h.lt t h2
      have : (a, b) ∈ ts ∨ (b, a) ∈ ts := by
        rcases h3 with e | e
        · have e2 : b = t.2 := by omega
          exact .inl (by rw [e, e2]; exact h2)
        · have e2 : b = t.1 := by omega
          exact .inr (by rw [e, e2]; exact h2)
      unfold fT
      rw [if_pos this]
      exact Nat.le_refl _
    | more h1 h2 _ => omega
  new a b d ha hb hab := by omega
theorem FW.dist (h : WebOk n ts) (F : FW n ts n 0 0 f) {a b : Nat} (ha : a < n) (hb : b < n) : f a b = dist ts a b := by
  have h8 := h.n8
  by_cases hx : ∃ k, Far (nbS ts) a b k
  · obtain ⟨k, hf⟩ := hx
    obtain ⟨m, fin, _, M, hm⟩ := steps_from_ok h ha
    have e := dist_of hf
    obtain ⟨⟨ls, w, el⟩, hmin⟩ := hf
    have hk : MIR.dist ts a b < n := by
      refine (met_dist h M hm b).2.2 ((met_dist h M hm b).1.mp (M.all rfl w))
    have le : f a b ≤ k := by
      rcases RW.of_walk h w with ⟨_, e2⟩ | r
      · subst e2
        rw [F.dg a ha]
        exact Nat.zero_le _
      · rw [← el]
        exact F.old a b _ ha hb r
    obtain ⟨ls', w', el'⟩ := F.snd a b ha hb (by omega)
    have := hmin ls' w'
    omega
  · rw [dist_not hx]
    have := F.up a b ha hb
    by_cases q : f a b < 99
    · obtain ⟨ls, w, _⟩ := F.snd a b ha hb q
      exact absurd (far_of_walk w) hx
    · omega
end
section
variable {n : Nat} {ts : List (Nat × Nat)} {m : List ((Nat × Nat) × Nat)} {f : Nat → Nat → Nat}
variable {s : List Int} {k : Nat} (a4 a5 a6 a7 a8 a9 a10 : Option VS.Slot)
theorem b4_law_eq (h8 : n ≤ 8) (T : Tab n m f (all n)) {i j q : Nat} (hi : i < n) (hj : j < n) (hq : q < n) : Tab n (putM m (i, j) (min (f i j) (f i q + f q j))) (relax f q i j) (all n) ∧ b4_law (lenv s k n ts m (some (.val (natD i))) (some (.val (natD j))) (some (.val (natD q))) a7 a8 a9 a10) = .ok .nx (lenv s k n ts (putM m (i, j) (min (f i j) (f i q + f q j))) (some (.val (natD i))) (some (.val (natD j))) (some (.val (natD q))) a7 a8 a9 a10) := by
  have hp := T.putD h8 i j (min (f i j) (f i q + f q j))
  have i1 := T.ix (a := i) (b := j) ⟨hi, hj⟩
  have i2 := T.ix (a := i) (b := q) ⟨hi, hq⟩
  have i3 := T.ix (a := q) (b := j) ⟨hq, hj⟩
  refine ⟨(T.put hi hj _).mono fun a b h => ⟨.inl h, rfl⟩, ?_⟩
  unfold b4_law
  simp! [i1, i2, i3, hp]
theorem l4_law_eq (h8 : n ≤ 8) {i q : Nat} (hi : i < n) (hq : q < n) (T : Tab n m f (all n)) (F : FW n ts q i 0 f) : ∃ m' f' b5, Tab n m' f' (all n) ∧ FW n ts q (i + 1) 0 f' ∧ l4_law (lenv s k n ts m (some (.val (natD i))) a5 (some (.val (natD q))) a7 a8 a9 a10) = .ok .nx (lenv s k n ts m' (some (.val (natD i))) b5 (some (.val (natD q))) a7 a8 a9 a10) := by
  obtain ⟨e', h1, m', f', b5, T', F', rfl⟩ := forF_map (gD := dName 5) (F := b4_law) natD (List.range n) (fun j e => ∃ m' f' b5, Tab n m' f' (all n) ∧ FW n ts q i j f' ∧ e = lenv s k n ts m' (some (.val (natD i))) b5 (some (.val (natD q))) a7 a8 a9 a10)
    (env := lenv s k n ts m (some (.val (natD i))) a5 (some (.val (natD q))) a7 a8 a9 a10) ⟨m, f, a5, T, F, rfl⟩ (fun j p e hj hE => by
      obtain ⟨m', f', b5, T', F', rfl⟩ := hE
      obtain ⟨rfl, hjl⟩ := rngAt hj
      obtain ⟨q1, q2⟩ := b4_law_eq (s := s) (k := k) (ts := ts) a7 a8 a9 a10 h8 T' hi hjl hq
      exact ⟨_, _, .nx, rfl, q2, .inl rfl, _, _, _, q1, F'.step hq hi hjl, rfl⟩)
  rw [List.length_range] at F'
  refine ⟨m', f', b5, T', F'.row, ?_⟩
  unfold l4_law
  exact sFor_of (rng_web _ _ _ _ _ _ _ m h8) h1
theorem l5_law_eq (h8 : n ≤ 8) {q : Nat} (hq : q < n) (T : Tab n m f (all n)) (F : FW n ts q 0 0 f) : ∃ m' f' b4 b5, Tab n m' f' (all n) ∧ FW n ts (q + 1) 0 0 f' ∧ l5_law (lenv s k n ts m a4 a5 (some (.val (natD q))) a7 a8 a9 a10) = .ok .nx (lenv s k n ts m' b4 b5 (some (.val (natD q))) a7 a8 a9 a10) := by
  obtain ⟨e', h1, m', f', b4, b5, T', F', rfl⟩ := forF_map (gD := dName 4) (F := b5_law) natD (List.range n) (fun j e => ∃ m' f' b4 b5, Tab n m' f' (all n) ∧ FW n ts q j 0 f' ∧ e = lenv s k n ts m' b4 b5 (some (.val (natD q))) a7 a8 a9 a10)
    (env := lenv s k n ts m a4 a5 (some (.val (natD q))) a7 a8 a9 a10) ⟨m, f, a4, a5, T, F, rfl⟩ (fun j p e hj hE => by
      obtain ⟨m', f', b4, b5, T', F', rfl⟩ := hE
      obtain ⟨rfl, hjl⟩ := rngAt hj
      obtain ⟨m2, f2, c5, q1, q2, q3⟩ := l4_law_eq (s := s) (k := k) (ts := ts) b5 a7 a8 a9 a10 h8 hjl hq T' F'
      exact ⟨_, _, .nx, rfl, q3, .inl rfl, _, _, _, _, q1, q2, rfl⟩)
  rw [List.length_range] at F'
  refine ⟨m', f', b4, b5, T', F'.phase, ?_⟩
  unfold l5_law
  exact sFor_of (rng_web _ _ _ _ _ _ _ m h8) h1
theorem l6_law_eq (h : WebOk n ts) (T : Tab n m (fT ts) (all n)) : ∃ m' b4 b5 b6, Tab n m' (dist ts) (all n) ∧ l6_law (lenv s k n ts m a4 a5 a6 a7 a8 a9 a10) = .ok .nx (lenv s k n ts m' b4 b5 b6 a7 a8 a9 a10) := by
  have h8 := h.n8
  obtain ⟨e', h1, m', f', b4, b5, b6, T', F', rfl⟩ := forF_map (gD := dName 6) (F := b6_law) natD (List.range n) (fun j e => ∃ m' f' b4 b5 b6, Tab n m' f' (all n) ∧ FW n ts j 0 0 f' ∧ e = lenv s k n ts m' b4 b5 b6 a7 a8 a9 a10)
    (env := lenv s k n ts m a4 a5 a6 a7 a8 a9 a10) ⟨m, _, a4, a5, a6, T, FW.start h, rfl⟩ (fun j p e hj hE => by
      obtain ⟨m', f', b4, b5, b6, T', F', rfl⟩ := hE
      obtain ⟨rfl, hjl⟩ := rngAt hj
      obtain ⟨m2, f2, c4, c5, q1, q2, q3⟩ := l5_law_eq (s := s) (k := k) (ts := ts) b4 b5 a7 a8 a9 a10 h8 hjl T' F'
      exact ⟨_, _, .nx, rfl, q3, .inl rfl, _, _, _, _, _, q1, q2, rfl⟩)
  rw [List.length_range] at F'
  refine ⟨m', b4, b5, b6, T'.mono fun a b hab => ⟨hab, (F'.dist h hab.1 hab.2).symm⟩, ?_⟩
  unfold l6_law
  exact sFor_of (rng_web _ _ _ _ _ _ _ m h8) h1
/-! ### the answers -/
theorem c2_law_eq {ps : List Nat} (hl : ps.length ≤ 1000) {g : Nat} (hf : ∀ p ∈ ps, gIxA (tabD m) (.tup [natD p, natD g]) = some (.val (natD (f p g)))) : c2_law [scS s, twS k, some (.val (webD n ts)), some (.own (tabD m)), a4, a5, a6, a7, some (.val (placesD ps)), a9, a10, some (.val (natD g)), none] = .ok (.fresh (.lst ((ps.map fun p => f p g).map natD))) [scS s, twS k, some (.val (webD n ts)), some (.own (tabD m)), a4, a5, a6, a7, some (.val (placesD ps)), a9, a10, some (.val (natD g)), none] := by
  unfold c2_law
  rw [eComp_pure natD ps (fun _ => true) (fun p => natD (f p g)) (e1 := [scS s, twS k, some (.val (webD n ts)), some (.own (tabD m)), a4, a5, a6, a7, some (.val (placesD ps)), a9, a10, some (.val (natD g)), none]) ?_ ?_ (le_line (by omega)) ?_, filter_true, List.map_map]
  · rfl
  · simp! [placesD]
  · simp [keepV]
  · intro p hp
    have hi := hf p hp
    refine ⟨[scS s, twS k, some (.val (webD n ts)), some (.own (tabD m)), a4, a5, a6, a7, some (.val (placesD ps)), a9, a10, some (.val (natD g)), some (.val (natD p))], ?_, ?_, ?_, fun _ => ?_⟩ <;> simp! [wipeE, ce2_law, hi]
theorem c1_law_eq (h : WebOk n ts) {ps : List Nat} (hp : PlacesOk n ps) (T : Tab n m (dist ts) (all n)) : c1_law (lenv s k n ts m a4 a5 a6 a7 (some (.val (placesD ps))) a9 a10) = .ok (.fresh (.lst (((List.range n).map (rowOf ts ps)).map rowD))) (lenv s k n ts m a4 a5 a6 a7 (some (.val (placesD ps))) a9 a10) := by
  have h8 := h.n8
  unfold c1_law
  rw [eComp_pure natD (List.range n) (fun _ => true) (fun g => rowD (rowOf ts ps g)) (rng_web _ _ _ _ _ _ _ m h8) ?_ (by rw [List.length_range]; exact le_line (by omega)) ?_, filter_true, List.map_map]
  · rfl
  · simp [keepV]
  · intro g hg
    have hgl := List.mem_range.mp hg
    have hc2 := c2_law_eq (n := n) (ts := ts) (s := s) (k := k) (m := m) (f := dist ts) a4 a5 a6 a7 a9 a10 hp.len (g := g) fun p hpp => T.ix ⟨hp.lt p hpp, hgl⟩
    have hr : rowD (rowOf ts ps g) = .tup [natD (ps.map fun p => dist ts p g).sum, natD g] := by
      have : (ps.map fun p => dist ts g p) = ps.map fun p => dist ts p g := List.map_congr_left fun p _ => dist_sym h g p
      show D.tup [natD (ps.map fun p => dist ts g p).sum, natD g] = _
      rw [this]
    refine ⟨[scS s, twS k, some (.val (webD n ts)), some (.own (tabD m)), a4, a5, a6, a7, some (.val (placesD ps)), a9, a10, some (.val (natD g)), none], ?_, ?_, ?_, fun _ => ?_⟩
    · simp! [wipeE]
    · simp! [wipeE]
    · simp! []
    · unfold ce1_law
      rw [hr]
      simp! [hc2, sum_nat]
theorem min_filter (r : Nat × Nat) (rs : List (Nat × Nat)) : minD? ((r :: rs).filter fun r => decide (r.1 < 99)) = if (minO ltRow r rs).1 < 99 then rowD (minO ltRow r rs) else .non := by
  obtain ⟨h1, h2⟩ := minO_le row_slt r rs
  by_cases h : (minO ltRow r rs).1 < 99
  · rw [if_pos h]
    have hm : minO ltRow r rs ∈ (r :: rs).filter fun r => decide (r.1 < 99) := List.mem_filter.mpr ⟨h1, decide_eq_true h⟩
    cases hl : (r :: rs).filter fun r => decide (r.1 < 99) with
    | nil => rw [hl] at hm; simp at hm
    | cons x xs =>
      show rowD (minO ltRow x xs) = _
      rw [minO_uniq row_slt (m := minO ltRow r rs) (by rw [← hl]; exact hm) fun y hy => h2 y (List.mem_filter.mp (by rw [hl]; exact hy)).1]
  · rw [if_neg h]
    have : (r :: rs).filter (fun r => decide (r.1 < 99)) = [] := by
      rw [List.filter_eq_nil_iff]
      intro y hy hlt
      have hlt := of_decide_eq_true hlt
      have h3 := h2 y hy
      show False
      have h3 : ltPr (fun a b => decide (a < b)) (fun a b => decide (a < b)) y (minO ltRow r rs) = false := h3
      unfold ltPr at h3
      by_cases e : y.1 = (minO ltRow r rs).1
      · omega
      · rw [if_neg e] at h3
        have := of_decide_eq_false h3
        omega
    rw [this]
    rfl
theorem b7_law_eq (h : WebOk n ts) (T : Tab n m (dist ts) (all n)) (hk : k ≤ 800000) : ∃ k' b8 b9 b10, k' ≤ k + 10 ∧ b7_law (lenv s k n ts m a4 a5 a6 a7 a8 a9 a10) = .ok .nx (lenv s k' n ts m a4 a5 a6 a7 b8 b9 b10) := by
  have h8 := h.n8
  have hw : webD n ts = .tup [natD n, .tup (ts.map pairD)] := rfl
  obtain ⟨ps, k', fin, e1, e2, e3, hp⟩ := law_some_ok s (k := k) (many := n) h.n1 h8 (by omega)
  obtain ⟨fs, hs⟩ := steps_ok h hp
  have hc1 := c1_law_eq (s := s) (k := k') (m := m) a4 a5 a6 a7 a9 a10 h hp T
  have hrows : rowsOf ts ps n = ((List.range n).map (rowOf ts ps)).filter fun r => decide (r.1 < 99) := rfl
  have h1 := h.n1
  cases hr : (List.range n).map (rowOf ts ps) with
  | nil =>
    have := congrArg List.length hr
    simp at this
    omega
  | cons r rs =>
    rw [hr] at hc1 hrows
    rw [hrows, min_filter] at hs
    have hmin := row_enc.min (by decide) r rs
    have hix : gIxA (rowD (minO ltRow r rs)) (natD 0) = some (.val (natD (minO ltRow r rs).1)) := ix_t0
    refine ⟨k', some (.val (placesD ps)), some (.own (.lst ((r :: rs).map rowD))), some (.val (rowD (minO ltRow r rs))), e3, ?_⟩
    simp only [List.map_cons] at hmin hc1 ⊢
    by_cases hlt : (minO ltRow r rs).1 < 99
    · rw [if_pos hlt] at hs
      have hne := row_enc.gNe (by decide) (minO ltRow r rs) (minO ltRow r rs)
      rw [decide_eq_true rfl] at hne
      unfold b7_law
      simp! [ix_t0w hw, e1, e2, hc1, hmin, hs, hix, hlt, hne]
    · rw [if_neg hlt] at hs
      have hne : gNe .non .non = some (.val (.bl false)) := rfl
      unfold b7_law
      simp! [ix_t0w hw, e1, e2, hc1, hmin, hs, hix, hlt, hne]
theorem l7_law_eq (h : WebOk n ts) (T : Tab n m (dist ts) (all n)) (hk : k ≤ 100000) : ∃ k' b7 b8 b9 b10, l7_law (lenv s k n ts m a4 a5 a6 a7 a8 a9 a10) = .ok .nx (lenv s k' n ts m a4 a5 a6 b7 b8 b9 b10) := by
  obtain ⟨e', h1, k', b7, b8, b9, b10, _, rfl⟩ := forF_map (gD := dName 7) (F := b7_law) natD (List.range 3) (fun j e => ∃ k' b7 b8 b9 b10, k' ≤ k + 10 * j ∧ e = lenv s k' n ts m a4 a5 a6 b7 b8 b9 b10)
    (env := lenv s k n ts m a4 a5 a6 a7 a8 a9 a10) ⟨k, a7, a8, a9, a10, by omega, rfl⟩ (fun j p e hj hE => by
      obtain ⟨k', b7, b8, b9, b10, hk', rfl⟩ := hE
      obtain ⟨rfl, hjl⟩ := rngAt hj
      obtain ⟨k2, c8, c9, c10, q1, q2⟩ := b7_law_eq (s := s) (k := k') (m := m) a4 a5 a6 (some (.val (natD p))) b8 b9 b10 h T (by omega)
      exact ⟨_, _, .nx, rfl, q2, .inl rfl, k2, _, _, _, _, by omega, rfl⟩)
  refine ⟨k', b7, b8, b9, b10, ?_⟩
  unfold l7_law
  exact sFor_of (range1_ok (by simp! []) (by omega)) h1
end
theorem law_true (s : List Int) (_ : s.length ≤ 63) : ∃ fin, m_law [.val (.scr (s.map .int))] = .ok (.val (.bl true)) fin := by
  obtain ⟨n, ts, k, fin, e1, e2, hk, h, _⟩ := law_web_ok s (k := 0) (most := 8) (by decide) (by decide) (by decide)
  have h8 := h.n8
  obtain ⟨m1, b4, b5, T1, q1⟩ := l2_law_eq (n := n) (ts := ts) (s := s) (k := k) none none none none none none none h8
  obtain ⟨m2, c4, c5, T2, q2⟩ := l3_law_eq (s := s) (k := k) b4 b5 none none none none none h T1
  obtain ⟨m3, d4, d5, d6, T3, q3⟩ := l6_law_eq (s := s) (k := k) c4 c5 none none none none none h T2
  obtain ⟨k4, f7, f8, f9, f10, q4⟩ := l7_law_eq (s := s) (k := k) d4 d5 d6 none none none none h T3 (by omega)
  have htown : D.lst [] = townL 0 := rfl
  have hdct : D.dct [] = tabD [] := rfl
  show ∃ fin, m_law [.val (scrD s)] = _
  unfold m_law
  simp! [htown, e1, e2, hdct, q1, q2, q3, q4]
  exact ⟨_, rfl⟩
end MIR
namespace K02
open PySem PySem.Spec PyProof.Rows L2 VS MIR
/-! ### the text -/
def topS (i : Nat) : Stmt := PySem.Challenge.pw_gatherall_k02_whole_steps.main.body.getD i (.Pass ⟨0, 0, 0, 0⟩)
abbrev s_is_whole : Stmt := topS 6
abbrev N_is_whole : List Str := ["thing", "low", "most"]
theorem sc_is_whole : FnScope N_is_whole ["thing", "low", "most"] (defScope s_is_whole) := ⟨rfl, rfl, rfl, by decide +kernel, rfl, by decide +kernel, by decide +kernel⟩
abbrev s_is_web : Stmt := topS 7
abbrev N_is_web : List Str := ["thing", "tie", "one", "other"]
theorem sc_is_web : FnScope N_is_web ["thing"] (defScope s_is_web) := ⟨rfl, rfl, rfl, by decide +kernel, rfl, by decide +kernel, by decide +kernel⟩
abbrev s_need_web : Stmt := topS 8
abbrev N_need_web : List Str := ["thing"]
theorem sc_need_web : FnScope N_need_web ["thing"] (defScope s_need_web) := ⟨rfl, rfl, rfl, by decide +kernel, rfl, by decide +kernel, by decide +kernel⟩
abbrev s_are_places : Stmt := topS 9
abbrev N_are_places : List Str := ["many", "thing", "one", "other"]
theorem sc_are_places : FnScope N_are_places ["many", "thing"] (defScope s_are_places) := ⟨rfl, rfl, rfl, by decide +kernel, rfl, by decide +kernel, by decide +kernel⟩
abbrev s_need_places : Stmt := topS 10
abbrev N_need_places : List Str := ["many", "thing"]
theorem sc_need_places : FnScope N_need_places ["many", "thing"] (defScope s_need_places) := ⟨rfl, rfl, rfl, by decide +kernel, rfl, by decide +kernel, by decide +kernel⟩
abbrev s_beside : Stmt := topS 11
abbrev N_beside : List Str := ["web", "place", "a", "b"]
theorem sc_beside : FnScope N_beside ["web", "place"] (defScope s_beside) := ⟨rfl, rfl, rfl, by decide +kernel, rfl, by decide +kernel, by decide +kernel⟩
abbrev s_steps_from : Stmt := topS 12
abbrev N_steps_from : List Str := ["web", "place", "far", "row", "here", "other"]
theorem sc_steps_from : FnScope N_steps_from ["web", "place"] (defScope s_steps_from) := ⟨rfl, rfl, rfl, by decide +kernel, rfl, by decide +kernel, by decide +kernel⟩
abbrev s_steps : Stmt := topS 13
abbrev N_steps : List Str := ["web", "places", "rows", "goal", "far", "place"]
theorem sc_steps : FnScope N_steps ["web", "places"] (defScope s_steps) := ⟨rfl, rfl, rfl, by decide +kernel, rfl, by decide +kernel, by decide +kernel⟩
abbrev s__law_cell_at : Stmt := topS 15
abbrev N__law_cell_at : List Str := ["_law_script", "_law_k"]
theorem sc__law_cell_at : FnScope N__law_cell_at ["_law_script", "_law_k"] (defScope s__law_cell_at) := ⟨rfl, rfl, rfl, by decide +kernel, rfl, by decide +kernel, by decide +kernel⟩
abbrev s__law_mixed : Stmt := topS 16
abbrev N__law_mixed : List Str := ["_law_script", "_law_k", "_law_many", "_law_drawn"]
theorem sc__law_mixed : FnScope N__law_mixed ["_law_script", "_law_k", "_law_many"] (defScope s__law_mixed) := ⟨rfl, rfl, rfl, by decide +kernel, rfl, by decide +kernel, by decide +kernel⟩
abbrev s__law_draw : Stmt := topS 17
abbrev N__law_draw : List Str := ["_law_script", "_law_town", "_law_many"]
theorem sc__law_draw : FnScope N__law_draw ["_law_script", "_law_town", "_law_many"] (defScope s__law_draw) := ⟨rfl, rfl, rfl, by decide +kernel, rfl, by decide +kernel, by decide +kernel⟩
abbrev s__law_web : Stmt := topS 18
abbrev N__law_web : List Str := ["_law_script", "_law_town", "_law_most", "_law_many", "_law_dense", "_law_ties", "_law_other", "_law_place"]
theorem sc__law_web : FnScope N__law_web ["_law_script", "_law_town", "_law_most"] (defScope s__law_web) := ⟨rfl, rfl, rfl, by decide +kernel, rfl, by decide +kernel, by decide +kernel⟩
abbrev s__law_some : Stmt := topS 19
abbrev N__law_some : List Str := ["_law_script", "_law_town", "_law_many", "_law_made", "_law_place"]
theorem sc__law_some : FnScope N__law_some ["_law_script", "_law_town", "_law_many"] (defScope s__law_some) := ⟨rfl, rfl, rfl, by decide +kernel, rfl, by decide +kernel, by decide +kernel⟩
abbrev s_law : Stmt := topS 20
def cs1_law : Scope := { kind := PySem.ScopeKind.function, names := [ (PySem.Str.ofString ".0", PySem.NameKind.local), (PySem.Str.ofString "_law_goal", PySem.NameKind.cell), (PySem.Str.ofString "sum", PySem.NameKind.globalImplicit), (PySem.Str.ofString "_law_far", PySem.NameKind.free), (PySem.Str.ofString "_law_places", PySem.NameKind.free)], isGenerator := false, isCoroutine := false, more := [] : PySem.Scope }
abbrev N_law : List Str := ["_law_script", "_law_town", "_law_web_here", "_law_far", "_law_one", "_law_other", "_law_mid", "_law_turn", "_law_places", "_law_rows", "_law_due", "_law_goal", "_law_place"]
theorem sc_law : FnScope N_law ["_law_script"] (defScope s_law) := ⟨rfl, rfl, rfl, by decide +kernel, rfl, by decide +kernel, by decide +kernel⟩
structure Txt (K : PySem.W.Frag) (mg : Str → Option Value) where
  a_is_whole : Addr
  fd_is_whole : FuncData
  F_is_whole : Fun K "is_whole" "is_whole" s_is_whole a_is_whole fd_is_whole
  g_is_whole : mg "is_whole" = some (.ref a_is_whole)
  b_is_whole : Binds K fd_is_whole ["thing", "low", "most"] []
  a_is_web : Addr
  fd_is_web : FuncData
  F_is_web : Fun K "is_web" "is_web" s_is_web a_is_web fd_is_web
  g_is_web : mg "is_web" = some (.ref a_is_web)
  b_is_web : Binds K fd_is_web ["thing"] []
  a_need_web : Addr
  fd_need_web : FuncData
  F_need_web : Fun K "need_web" "need_web" s_need_web a_need_web fd_need_web
  g_need_web : mg "need_web" = some (.ref a_need_web)
  b_need_web : Binds K fd_need_web ["thing"] []
  a_are_places : Addr
  fd_are_places : FuncData
  F_are_places : Fun K "are_places" "are_places" s_are_places a_are_places fd_are_places
  g_are_places : mg "are_places" = some (.ref a_are_places)
  b_are_places : Binds K fd_are_places ["many", "thing"] []
  a_need_places : Addr
  fd_need_places : FuncData
  F_need_places : Fun K "need_places" "need_places" s_need_places a_need_places fd_need_places
  g_need_places : mg "need_places" = some (.ref a_need_places)
  b_need_places : Binds K fd_need_places ["many", "thing"] []
  a_beside : Addr
  fd_beside : FuncData
  F_beside : Fun K "beside" "beside" s_beside a_beside fd_beside
  g_beside : mg "beside" = some (.ref a_beside)
  b_beside : Binds K fd_beside ["web", "place"] []
  a_steps_from : Addr
  fd_steps_from : FuncData
  F_steps_from : Fun K "steps_from" "steps_from" s_steps_from a_steps_from fd_steps_from
  g_steps_from : mg "steps_from" = some (.ref a_steps_from)
  b_steps_from : Binds K fd_steps_from ["web", "place"] []
  a_steps : Addr
  fd_steps : FuncData
  F_steps : Fun K "steps" "steps" s_steps a_steps fd_steps
  g_steps : mg "steps" = some (.ref a_steps)
  b_steps : Binds K fd_steps ["web", "places"] []
  a__law_cell_at : Addr
  fd__law_cell_at : FuncData
  F__law_cell_at : Fun K "_law_cell_at" "_law_cell_at" s__law_cell_at a__law_cell_at fd__law_cell_at
  g__law_cell_at : mg "_law_cell_at" = some (.ref a__law_cell_at)
  b__law_cell_at : Binds K fd__law_cell_at ["_law_script", "_law_k"] []
  a__law_mixed : Addr
  fd__law_mixed : FuncData
  F__law_mixed : Fun K "_law_mixed" "_law_mixed" s__law_mixed a__law_mixed fd__law_mixed
  g__law_mixed : mg "_law_mixed" = some (.ref a__law_mixed)
  b__law_mixed : Binds K fd__law_mixed ["_law_script", "_law_k", "_law_many"] []
  a__law_draw : Addr
  fd__law_draw : FuncData
  F__law_draw : Fun K "_law_draw" "_law_draw" s__law_draw a__law_draw fd__law_draw
  g__law_draw : mg "_law_draw" = some (.ref a__law_draw)
  b__law_draw : Binds K fd__law_draw ["_law_script", "_law_town", "_law_many"] []
  a__law_web : Addr
  fd__law_web : FuncData
  F__law_web : Fun K "_law_web" "_law_web" s__law_web a__law_web fd__law_web
  g__law_web : mg "_law_web" = some (.ref a__law_web)
  b__law_web : Binds K fd__law_web ["_law_script", "_law_town", "_law_most"] []
  a__law_some : Addr
  fd__law_some : FuncData
  F__law_some : Fun K "_law_some" "_law_some" s__law_some a__law_some fd__law_some
  g__law_some : mg "_law_some" = some (.ref a__law_some)
  b__law_some : Binds K fd__law_some ["_law_script", "_law_town", "_law_many"] []
  a_law : Addr
  fd_law : FuncData
  F_law : Fun K "law" "law" s_law a_law fd_law
  g_law : mg "law" = some (.ref a_law)
  b_law : Binds K fd_law ["_law_script"] []
  z_all : mg "all" = none
  z_bool : mg "bool" = none
  z_int : mg "int" = none
  z_isinstance : mg "isinstance" = none
  z_len : mg "len" = none
  z_min : mg "min" = none
  z_range : mg "range" = none
  z_sorted : mg "sorted" = none
  z_sum : mg "sum" = none
  z_tuple : mg "tuple" = none
  z_zip : mg "zip" = none
  c_NoPlaces : Addr
  gx_NoPlaces : mg "NoPlaces" = some (.ref c_NoPlaces)
  qx_NoPlaces : PySem.W.excIn K c_NoPlaces [.type "ValueError", .type "Exception", .type "BaseException", .type "object"] "ValueError.__new__" = true
  kx_NoPlaces : PySem.W.keepIn K (.ref c_NoPlaces) = true
  bx_NoPlaces : PySem.W.subIn K (.ref c_NoPlaces) (.type "BaseException") = some true
  tx_NoPlaces : PySem.W.typeIn K (.ref c_NoPlaces) = some (.type "type")
  c_NoWeb : Addr
  gx_NoWeb : mg "NoWeb" = some (.ref c_NoWeb)
  qx_NoWeb : PySem.W.excIn K c_NoWeb [.type "ValueError", .type "Exception", .type "BaseException", .type "object"] "ValueError.__new__" = true
  kx_NoWeb : PySem.W.keepIn K (.ref c_NoWeb) = true
  bx_NoWeb : PySem.W.subIn K (.ref c_NoWeb) (.type "BaseException") = some true
  tx_NoWeb : PySem.W.typeIn K (.ref c_NoWeb) = some (.type "type")
  t_MANY : Tok
  n_MANY : mg "MANY" = some (.int 8 t_MANY)
/-! ### the walks -/
section
variable {P : Program} {w : World} {K : PySem.W.Frag} {mg : Str → Option Value} {base : Heap}
set_option maxHeartbeats 4000000 in
theorem ok_is_whole (T : Txt K mg) : FnOk P w K mg base (L2.CX P w) 1 T.a_is_whole T.fd_is_whole ["thing", "low", "most"] (spF ⟨P, w, K, mg⟩ [] 3 m_is_whole) := by
  refine fn_ok (m := 0) T.F_is_whole sc_is_whole rfl fun cdv A outer s H E hr tk => ?_
  have hu := hu200 hr
  have hv := hu64 hr
  exact (pxss_one (pxs_ret (px_and (px_isi (by rfl) T.z_isinstance (by rfl) T.z_int (by decide +kernel) (px_var (pv 0))) (px_and (px_not (px_isi (by rfl) T.z_isinstance (by rfl) T.z_bool (by decide +kernel) (px_var (pv 0)))) (px_one (px_chain op_le op_le (px_var (pv 1)) (px_var (pv 0)) (px_var (pv 2))))))))
set_option maxHeartbeats 4000000 in
theorem ok_is_web (T : Txt K mg) : FnOk P w K mg base (L2.CX P w) 2 T.a_is_web T.fd_is_web ["thing"] (spF ⟨P, w, K, mg⟩ [] 1 m_is_web) := by
  refine fn_ok (m := 3) T.F_is_web sc_is_web rfl fun cdv A outer s H E hr tk => ?_
  have hu := hu200 hr
  have hv := hu64 hr
  exact (pxss_cons (pxs_if (pxt_w (pxw_or (pxt_not (pxt_val (px_isi (by rfl) T.z_isinstance (by rfl) T.z_tuple (by decide +kernel) (px_var (pv 0))))) (pxw_or (pxt_cmp (op_neD hv) sim_ne (px_callB call_len sim_len (by rfl) T.z_len (by decide +kernel) (pxs_O (px_var (pv 0)) pxs_nil)) px_int (by rfl)) (pxw_or1 (pxt_not (pxt_val (px_call (ok_is_whole T) (hr.mono (by decide)) tk (by rfl) T.g_is_whole T.F_is_whole.kp T.b_is_whole (pxs_V (px_ix (ix_all hu) sim_ixAll (px_var (pv 0)) px_int (fun _ _ => rfl)) (pxs_V px_int (pxs_V (px_globI (by rfl) T.n_MANY) pxs_nil))) (alen_cons (alen_cons (alen_cons alen_nil)))))))))) (pxss_one (pxs_ret px_bl)) pxss_nil)
    (pxss_cons (pxs_if (pxt_not (pxt_val (px_isi (by rfl) T.z_isinstance (by rfl) T.z_tuple (by decide +kernel) (px_ix (ix_all hu) sim_ixAll (px_var (pv 0)) px_int (fun _ _ => rfl))))) (pxss_one (pxs_ret px_bl)) pxss_nil)
    (pxss_cons (pxs_for (passes_of rfl) rfl (pxi_seq (px_ix (ix_all hu) sim_ixAll (px_var (pv 0)) px_int (fun _ _ => rfl))) (pg_name (i := 1) sc_is_web.nd rfl (.inl rfl)) (sg_name (by decide))
    (pxss_cons (pxs_if (pxt_w (pxw_or (pxt_not (pxt_val (px_isi (by rfl) T.z_isinstance (by rfl) T.z_tuple (by decide +kernel) (px_var (pv 1))))) (pxw_or (pxt_cmp (op_neD hv) sim_ne (px_callB call_len sim_len (by rfl) T.z_len (by decide +kernel) (pxs_O (px_var (pv 1)) pxs_nil)) px_int (by rfl)) (pxw_or1 (pxt_not (pxt_val (px_call (ok_is_whole T) (hr.mono (by decide)) tk (by rfl) T.g_is_whole T.F_is_whole.kp T.b_is_whole (pxs_V (px_ix (ix_all hu) sim_ixAll (px_var (pv 1)) px_int (fun _ _ => rfl)) (pxs_V px_int (pxs_V (px_op op_subA sim_sub (px_ix (ix_all hu) sim_ixAll (px_var (pv 0)) px_int (fun _ _ => rfl)) px_int) pxs_nil))) (alen_cons (alen_cons (alen_cons alen_nil)))))))))) (pxss_one (pxs_ret px_bl)) pxss_nil)
    (pxss_one (pxs_if (pxt_not (pxt_val (px_call (ok_is_whole T) (hr.mono (by decide)) tk (by rfl) T.g_is_whole T.F_is_whole.kp T.b_is_whole (pxs_V (px_ix (ix_all hu) sim_ixAll (px_var (pv 1)) px_int (fun _ _ => rfl)) (pxs_V px_int (pxs_V (px_op op_subA sim_sub (px_ix (ix_all hu) sim_ixAll (px_var (pv 1)) px_int (fun _ _ => rfl)) px_int) pxs_nil))) (alen_cons (alen_cons (alen_cons alen_nil)))))) (pxss_one (pxs_ret px_bl)) pxss_nil))))
    (pxss_one (pxs_ret (px_callB (cr_all rfl) sim_all (by rfl) T.z_all (by decide +kernel) (pxs_O (px_comp (own := [("one", 2), ("other", 3)]) rfl sc_is_web.nd (pxi_zip (by rfl) T.z_zip (pxs_V (px_ix (ix_all hu) sim_ixAll (px_var (pv 0)) px_int (fun _ _ => rfl)) (pxs_V (px_sl (px_ix (ix_all hu) sim_ixAll (px_var (pv 0)) px_int (fun _ _ => rfl)) (pxp_some px_int) pxp_none) pxs_nil))) (blkOk_by (N := N_is_web) (sc := defScope s_is_web) (by decide +kernel)) (fun _ _ _ _ _ => (pg_tup rfl (pgs_cons (pg_name (i := 2) sc_is_web.nd rfl (by first | exact .inl rfl | exact .inr rfl)) (pgs_cons (pg_name (i := 3) sc_is_web.nd rfl (by first | exact .inl rfl | exact .inr rfl)) pgs_nil)))) (sg_tup (sg_cons (sg_name (by decide)) (sg_cons (sg_name (by decide)) sg_nil))) (by decide) (by decide) (fun _ _ _ _ _ => pts_none) (fun _ _ _ _ _ => (px_cmp (op_ltA hu) sim_lt (px_var (pv 2)) (px_var (pv 3)) (by rfl)))) pxs_nil)))))))
set_option maxHeartbeats 4000000 in
theorem ok_need_web (T : Txt K mg) : FnOk P w K mg base (L2.CX P w) 3 T.a_need_web T.fd_need_web ["thing"] (spF ⟨P, w, K, mg⟩ [] 1 m_need_web) := by
  refine fn_ok (m := 0) T.F_need_web sc_need_web rfl fun cdv A outer s H E hr tk => ?_
  have hu := hu200 hr
  have hv := hu64 hr
  exact (pxss_one (pxs_if (pxt_not (pxt_val (px_call (ok_is_web T) (hr.mono (by decide)) tk (by rfl) T.g_is_web T.F_is_web.kp T.b_is_web (pxs_V (px_var (pv 0)) pxs_nil) (alen_cons alen_nil)))) (pxss_one (pxs_raise rfl tk PySem.F.excBase_ValueError T.qx_NoWeb T.gx_NoWeb T.kx_NoWeb (raises_own T.bx_NoWeb T.tx_NoWeb) (by rfl))) pxss_nil))
set_option maxHeartbeats 4000000 in
theorem ok_are_places (T : Txt K mg) : FnOk P w K mg base (L2.CX P w) 2 T.a_are_places T.fd_are_places ["many", "thing"] (spF ⟨P, w, K, mg⟩ [] 2 m_are_places) := by
  refine fn_ok (m := 2) T.F_are_places sc_are_places rfl fun cdv A outer s H E hr tk => ?_
  have hu := hu200 hr
  have hv := hu64 hr
  exact (pxss_cons (pxs_if (pxt_w (pxw_or (pxt_not (pxt_val (px_isi (by rfl) T.z_isinstance (by rfl) T.z_tuple (by decide +kernel) (px_var (pv 1))))) (pxw_or (pxt_cmp (op_eqD hv) sim_eq (px_var (pv 1)) (px_tup pxs_nil alen_nil) (by rfl)) (pxw_or1 (pxt_not (pxt_val (px_callB (cr_all rfl) sim_all (by rfl) T.z_all (by decide +kernel) (pxs_O (px_comp (own := [("one", 2)]) rfl sc_are_places.nd (pxi_seq (px_var (pv 1))) (blkOk_by (N := N_are_places) (sc := defScope s_are_places) (by decide +kernel)) (fun _ _ _ _ _ => (pg_name (i := 2) sc_are_places.nd rfl (by first | exact .inl rfl | exact .inr rfl))) (sg_name (by decide)) (by decide) (by decide) (fun _ _ _ _ _ => pts_none) (fun _ _ _ _ _ => (px_call (ok_is_whole T) (hr.mono (by decide)) takes0 (by rfl) T.g_is_whole T.F_is_whole.kp T.b_is_whole (pxs_V (px_var (pv 2)) (pxs_V px_int (pxs_V (px_op op_subA sim_sub (px_var (pv 0)) px_int) pxs_nil))) (alen_cons (alen_cons (alen_cons alen_nil)))))) pxs_nil)))))))) (pxss_one (pxs_ret px_bl)) pxss_nil)
    (pxss_one (pxs_ret (px_callB (cr_all rfl) sim_all (by rfl) T.z_all (by decide +kernel) (pxs_O (px_comp (own := [("one", 2), ("other", 3)]) rfl sc_are_places.nd (pxi_zip (by rfl) T.z_zip (pxs_V (px_var (pv 1)) (pxs_V (px_sl (px_var (pv 1)) (pxp_some px_int) pxp_none) pxs_nil))) (blkOk_by (N := N_are_places) (sc := defScope s_are_places) (by decide +kernel)) (fun _ _ _ _ _ => (pg_tup rfl (pgs_cons (pg_name (i := 2) sc_are_places.nd rfl (by first | exact .inl rfl | exact .inr rfl)) (pgs_cons (pg_name (i := 3) sc_are_places.nd rfl (by first | exact .inl rfl | exact .inr rfl)) pgs_nil)))) (sg_tup (sg_cons (sg_name (by decide)) (sg_cons (sg_name (by decide)) sg_nil))) (by decide) (by decide) (fun _ _ _ _ _ => pts_none) (fun _ _ _ _ _ => (px_cmp (op_ltA hu) sim_lt (px_var (pv 2)) (px_var (pv 3)) (by rfl)))) pxs_nil)))))
set_option maxHeartbeats 4000000 in
theorem ok_need_places (T : Txt K mg) : FnOk P w K mg base (L2.CX P w) 3 T.a_need_places T.fd_need_places ["many", "thing"] (spF ⟨P, w, K, mg⟩ [] 2 m_need_places) := by
  refine fn_ok (m := 0) T.F_need_places sc_need_places rfl fun cdv A outer s H E hr tk => ?_
  have hu := hu200 hr
  have hv := hu64 hr
  exact (pxss_one (pxs_if (pxt_not (pxt_val (px_call (ok_are_places T) (hr.mono (by decide)) tk (by rfl) T.g_are_places T.F_are_places.kp T.b_are_places (pxs_V (px_var (pv 0)) (pxs_V (px_var (pv 1)) pxs_nil)) (alen_cons (alen_cons alen_nil))))) (pxss_one (pxs_raise rfl tk PySem.F.excBase_ValueError T.qx_NoPlaces T.gx_NoPlaces T.kx_NoPlaces (raises_own T.bx_NoPlaces T.tx_NoPlaces) (by rfl))) pxss_nil))
set_option maxHeartbeats 4000000 in
theorem ok_beside (T : Txt K mg) : FnOk P w K mg base (L2.CX P w) 1 T.a_beside T.fd_beside ["web", "place"] (spF ⟨P, w, K, mg⟩ [] 2 m_beside) := by
  refine fn_ok (m := 2) T.F_beside sc_beside rfl fun cdv A outer s H E hr tk => ?_
  have hu := hu200 hr
  have hv := hu64 hr
  exact (pxss_one (pxs_ret (px_callB (cr_sortedA hu) sim_sorted (by rfl) T.z_sorted (by decide +kernel) (pxs_O (px_comp (own := [("a", 2), ("b", 3)]) rfl sc_beside.nd (pxi_seq (px_ix (ix_all hu) sim_ixAll (px_var (pv 0)) px_int (fun _ _ => rfl))) (blkOk_by (N := N_beside) (sc := defScope s_beside) (by decide +kernel)) (fun _ _ _ _ _ => (pg_tup rfl (pgs_cons (pg_name (i := 2) sc_beside.nd rfl (by first | exact .inl rfl | exact .inr rfl)) (pgs_cons (pg_name (i := 3) sc_beside.nd rfl (by first | exact .inl rfl | exact .inr rfl)) pgs_nil)))) (sg_tup (sg_cons (sg_name (by decide)) (sg_cons (sg_name (by decide)) sg_nil))) (by decide) (by decide) (fun _ _ _ _ _ => (pts_some (pxt_cmp (op_inAll hu) sim_inAll (px_var (pv 1)) (px_tup (pxs_V (px_var (pv 2)) (pxs_V (px_var (pv 3)) pxs_nil)) (alen_cons (alen_cons alen_nil))) (by rfl)))) (fun _ _ _ _ _ => (px_op op_subA sim_sub (px_op op_addA sim_add (px_var (pv 2)) (px_var (pv 3))) (px_var (pv 1))))) pxs_nil))))
set_option maxHeartbeats 4000000 in
theorem ok_steps_from (T : Txt K mg) : FnOk P w K mg base (L2.CX P w) 2 T.a_steps_from T.fd_steps_from ["web", "place"] (spF ⟨P, w, K, mg⟩ [] 2 m_steps_from) := by
  refine fn_ok (m := 4) T.F_steps_from sc_steps_from rfl fun cdv A outer s H E hr tk => ?_
  have hu := hu200 hr
  have hv := hu64 hr
  exact (pxss_cons (pxs_set (i := 2) sc_steps_from.nd rfl (.inl rfl) (px_disp1 hu (px_var (pv 1)) px_int) (by decide))
    (pxss_cons (pxs_set (i := 3) sc_steps_from.nd rfl (.inl rfl) (px_lst (pxs_V (px_var (pv 1)) pxs_nil) (alen_cons alen_nil)) (by decide))
    (pxss_cons (pxs_while (passes_of rfl) (pxt_cmp (op_neD hv) sim_ne (px_var (pv 3)) (px_lst pxs_nil alen_nil) (by rfl)) (pxss_cons (pxs_set (i := 4) sc_steps_from.nd rfl (.inl rfl) (px_popAt (pv 3) px_int) (by decide))
    (pxss_one (pxs_for (passes_of rfl) rfl (pxi_seq (px_call (ok_beside T) (hr.mono (by decide)) tk (by rfl) T.g_beside T.F_beside.kp T.b_beside (pxs_V (px_var (pv 0)) (pxs_V (px_var (pv 4)) pxs_nil)) (alen_cons (alen_cons alen_nil)))) (pg_name (i := 5) sc_steps_from.nd rfl (.inl rfl)) (sg_name (by decide))
    (pxss_one (pxs_if (pxt_cmp (op_notInAll hu) sim_notInAll (px_var (pv 5)) (px_var (pv 2)) (by rfl)) (pxss_cons (pxs_setItem hu (pv 2) (px_var (pv 5)) (px_op op_addA sim_add (px_ix (ix_all hu) sim_ixAll (px_var (pv 2)) (px_var (pv 4)) (fun _ _ => rfl)) px_int))
    (pxss_one (pxs_expr (px_append (pv 3) (px_var (pv 5)))))) pxss_nil))))))
    (pxss_one (pxs_ret (px_var (pv 2)))))))
set_option maxHeartbeats 4000000 in
theorem ok_steps (T : Txt K mg) : FnOk P w K mg base (L2.CX P w) 4 T.a_steps T.fd_steps ["web", "places"] (spF ⟨P, w, K, mg⟩ [] 2 m_steps) := by
  refine fn_ok (m := 4) T.F_steps sc_steps rfl fun cdv A outer s H E hr tk => ?_
  have hu := hu200 hr
  have hv := hu64 hr
  exact (pxss_cons (pxs_expr (px_call (ok_need_web T) (hr.mono (by decide)) tk (by rfl) T.g_need_web T.F_need_web.kp T.b_need_web (pxs_V (px_var (pv 0)) pxs_nil) (alen_cons alen_nil)))
    (pxss_cons (pxs_expr (px_call (ok_need_places T) (hr.mono (by decide)) tk (by rfl) T.g_need_places T.F_need_places.kp T.b_need_places (pxs_V (px_ix (ix_all hu) sim_ixAll (px_var (pv 0)) px_int (fun _ _ => rfl)) (pxs_V (px_var (pv 1)) pxs_nil)) (alen_cons (alen_cons alen_nil))))
    (pxss_cons (pxs_set (i := 2) sc_steps.nd rfl (.inl rfl) (px_lst pxs_nil alen_nil) (by decide))
    (pxss_cons (pxs_for (passes_of rfl) rfl (pxi_range1 (by rfl) T.z_range (pxs_O (px_ix (ix_all hu) sim_ixAll (px_var (pv 0)) px_int (fun _ _ => rfl)) pxs_nil)) (pg_name (i := 3) sc_steps.nd rfl (.inl rfl)) (sg_name (by decide))
    (pxss_cons (pxs_set (i := 4) sc_steps.nd rfl (.inr rfl) (px_call (ok_steps_from T) (hr.mono (by decide)) tk (by rfl) T.g_steps_from T.F_steps_from.kp T.b_steps_from (pxs_V (px_var (pv 0)) (pxs_V (px_var (pv 3)) pxs_nil)) (alen_cons (alen_cons alen_nil))) (by decide))
    (pxss_one (pxs_if (pxt_val (px_callB (cr_all rfl) sim_all (by rfl) T.z_all (by decide +kernel) (pxs_O (px_comp (own := [("place", 5)]) rfl sc_steps.nd (pxi_seq (px_var (pv 1))) (blkOk_by (N := N_steps) (sc := defScope s_steps) (by decide +kernel)) (fun _ _ _ _ _ => (pg_name (i := 5) sc_steps.nd rfl (by first | exact .inl rfl | exact .inr rfl))) (sg_name (by decide)) (by decide) (by decide) (fun _ _ _ _ _ => pts_none) (fun _ _ _ _ _ => (px_cmp (op_inAll hu) sim_inAll (px_var (pv 5)) (px_var (pv 4)) (by rfl)))) pxs_nil))) (pxss_one (pxs_expr (px_append (pv 2) (px_tup (pxs_V (px_callB (cr_sum rfl) sim_sum (by rfl) T.z_sum (by decide +kernel) (pxs_O (px_comp (own := [("place", 5)]) rfl sc_steps.nd (pxi_seq (px_var (pv 1))) (blkOk_by (N := N_steps) (sc := defScope s_steps) (by decide +kernel)) (fun _ _ _ _ _ => (pg_name (i := 5) sc_steps.nd rfl (by first | exact .inl rfl | exact .inr rfl))) (sg_name (by decide)) (by decide) (by decide) (fun _ _ _ _ _ => pts_none) (fun _ _ _ _ _ => (px_ix (ix_all hu) sim_ixAll (px_var (pv 4)) (px_var (pv 5)) (fun _ _ => rfl)))) pxs_nil)) (pxs_V (px_var (pv 3)) pxs_nil)) (alen_cons (alen_cons alen_nil)))))) pxss_nil))))
    (pxss_one (pxs_ret (px_if (pxt_cmp (op_neD hv) sim_ne (px_var (pv 2)) (px_lst pxs_nil alen_nil) (by rfl)) (px_callB (cr_min2 rfl hu) sim_min (by rfl) T.z_min (by decide +kernel) (pxs_O (px_var (pv 2)) pxs_nil)) px_non)))))))
set_option maxHeartbeats 4000000 in
theorem ok__law_cell_at (T : Txt K mg) : FnOk P w K mg base (L2.CX P w) 1 T.a__law_cell_at T.fd__law_cell_at ["_law_script", "_law_k"] (spF ⟨P, w, K, mg⟩ [] 2 m__law_cell_at) := by
  refine fn_ok (m := 0) T.F__law_cell_at sc__law_cell_at rfl fun cdv A outer s H E hr tk => ?_
  have hu := hu200 hr
  have hv := hu64 hr
  exact (pxss_cons (pxs_if (pxt_cmp (op_ltA hu) sim_lt (px_var (pv 1)) (px_callB call_len sim_len (by rfl) T.z_len (by decide +kernel) (pxs_O (px_var (pv 0)) pxs_nil)) (by rfl)) (pxss_one (pxs_ret (px_ix (ix_all hu) sim_ixAll (px_var (pv 0)) (px_var (pv 1)) (fun _ _ => rfl)))) pxss_nil)
    (pxss_cons (pxs_if (pxt_cmp (op_eqD hv) sim_eq (px_var (pv 0)) (px_lst pxs_nil alen_nil) (by rfl)) (pxss_one (pxs_ret px_int)) pxss_nil)
    (pxss_one (pxs_ret (px_op op_addA sim_add (px_op op_mulA sim_mul (px_ix (ix_all hu) sim_ixAll (px_var (pv 0)) (px_op op_mod sim_mod (px_var (pv 1)) (px_callB call_len sim_len (by rfl) T.z_len (by decide +kernel) (pxs_O (px_var (pv 0)) pxs_nil))) (fun _ _ => rfl)) px_int) (px_var (pv 1)))))))
set_option maxHeartbeats 4000000 in
theorem ok__law_mixed (T : Txt K mg) : FnOk P w K mg base (L2.CX P w) 2 T.a__law_mixed T.fd__law_mixed ["_law_script", "_law_k", "_law_many"] (spF ⟨P, w, K, mg⟩ [] 3 m__law_mixed) := by
  refine fn_ok (m := 1) T.F__law_mixed sc__law_mixed rfl fun cdv A outer s H E hr tk => ?_
  have hu := hu200 hr
  have hv := hu64 hr
  exact (pxss_cons (pxs_set (i := 3) sc__law_mixed.nd rfl (.inl rfl) (px_op op_mod sim_mod (px_op op_mulA sim_mul (px_op op_addA sim_add (px_op op_addA sim_add (px_call (ok__law_cell_at T) (hr.mono (by decide)) tk (by rfl) T.g__law_cell_at T.F__law_cell_at.kp T.b__law_cell_at (pxs_V (px_var (pv 0)) (pxs_V (px_var (pv 1)) pxs_nil)) (alen_cons (alen_cons alen_nil))) (px_op op_mulA sim_mul px_int (px_var (pv 1)))) px_int) px_int) px_int) (by decide))
    (pxss_one (pxs_ret (px_op op_mod sim_mod (px_op op_mod sim_mod (px_op op_addA sim_add (px_op op_addA sim_add (px_op op_mulA sim_mul (px_var (pv 3)) (px_var (pv 3))) (px_op op_mulA sim_mul px_int (px_var (pv 3)))) (px_var (pv 1))) px_int) (px_var (pv 2))))))
set_option maxHeartbeats 4000000 in
theorem ok__law_draw (T : Txt K mg) : FnOk P w K mg base (L2.CX P w) 3 T.a__law_draw T.fd__law_draw ["_law_script", "_law_town", "_law_many"] (spF ⟨P, w, K, mg⟩ [1] 3 m__law_draw) := by
  refine fn_ok (m := 0) T.F__law_draw sc__law_draw rfl fun cdv A outer s H E hr tk => ?_
  have hu := hu200 hr
  have hv := hu64 hr
  exact (pxss_cons (pxs_expr (px_append (pv 1) px_int))
    (pxss_one (pxs_ret (px_call (ok__law_mixed T) (hr.mono (by decide)) tk (by rfl) T.g__law_mixed T.F__law_mixed.kp T.b__law_mixed (pxs_V (px_var (pv 0)) (pxs_V (px_callB call_len sim_len (by rfl) T.z_len (by decide +kernel) (pxs_O (px_var (pv 1)) pxs_nil)) (pxs_V (px_var (pv 2)) pxs_nil))) (alen_cons (alen_cons (alen_cons alen_nil)))))))
set_option maxHeartbeats 4000000 in
theorem ok__law_web (T : Txt K mg) : FnOk P w K mg base (L2.CX P w) 4 T.a__law_web T.fd__law_web ["_law_script", "_law_town", "_law_most"] (spF ⟨P, w, K, mg⟩ [1] 3 m__law_web) := by
  refine fn_ok (m := 5) T.F__law_web sc__law_web rfl fun cdv A outer s H E hr tk => ?_
  have hu := hu200 hr
  have hv := hu64 hr
  exact (pxss_cons (pxs_set (i := 3) sc__law_web.nd rfl (.inl rfl) (px_op op_addA sim_add px_int (px_call (ok__law_draw T) (hr.mono (by decide)) tk (by rfl) T.g__law_draw T.F__law_draw.kp T.b__law_draw (pxs_V (px_var (pv 0)) (pxs_O (px_var (pv 1)) (pxs_V (px_var (pv 2)) pxs_nil))) (alen_cons (alen_cons (alen_cons alen_nil))))) (by decide))
    (pxss_cons (pxs_set (i := 4) sc__law_web.nd rfl (.inl rfl) (px_call (ok__law_draw T) (hr.mono (by decide)) tk (by rfl) T.g__law_draw T.F__law_draw.kp T.b__law_draw (pxs_V (px_var (pv 0)) (pxs_O (px_var (pv 1)) (pxs_V px_int pxs_nil))) (alen_cons (alen_cons (alen_cons alen_nil)))) (by decide))
    (pxss_cons (pxs_set (i := 5) sc__law_web.nd rfl (.inl rfl) (px_lst pxs_nil alen_nil) (by decide))
    (pxss_cons (pxs_for (passes_of rfl) rfl (pxi_range1 (by rfl) T.z_range (pxs_O (px_var (pv 3)) pxs_nil)) (pg_name (i := 6) sc__law_web.nd rfl (.inl rfl)) (sg_name (by decide))
    (pxss_one (pxs_for (passes_of rfl) rfl (pxi_range1 (by rfl) T.z_range (pxs_O (px_var (pv 6)) pxs_nil)) (pg_name (i := 7) sc__law_web.nd rfl (.inl rfl)) (sg_name (by decide))
    (pxss_one (pxs_if (pxt_w (pxw_or (pxt_cmp (op_ltA hu) sim_lt (px_call (ok__law_draw T) (hr.mono (by decide)) tk (by rfl) T.g__law_draw T.F__law_draw.kp T.b__law_draw (pxs_V (px_var (pv 0)) (pxs_O (px_var (pv 1)) (pxs_V px_int pxs_nil))) (alen_cons (alen_cons (alen_cons alen_nil)))) (px_var (pv 4)) (by rfl)) (pxw_or1 (pxt_w (pxw_and (pxt_cmp (op_eqD hv) sim_eq (px_op op_subA sim_sub (px_var (pv 6)) (px_var (pv 7))) px_int (by rfl)) (pxw_and1 (pxt_cmp (op_eqD hv) sim_eq (px_call (ok__law_draw T) (hr.mono (by decide)) tk (by rfl) T.g__law_draw T.F__law_draw.kp T.b__law_draw (pxs_V (px_var (pv 0)) (pxs_O (px_var (pv 1)) (pxs_V px_int pxs_nil))) (alen_cons (alen_cons (alen_cons alen_nil)))) px_int (by rfl)))))))) (pxss_one (pxs_expr (px_append (pv 5) (px_tup (pxs_V (px_var (pv 7)) (pxs_V (px_var (pv 6)) pxs_nil)) (alen_cons (alen_cons alen_nil)))))) pxss_nil)))))
    (pxss_one (pxs_ret (px_tup (pxs_V (px_var (pv 3)) (pxs_V (px_callTy call_tuple_of sim_tuple (by rfl) T.z_tuple (by decide +kernel) (pxs_O (px_callB (cr_sortedA hu) sim_sorted (by rfl) T.z_sorted (by decide +kernel) (pxs_O (px_var (pv 5)) pxs_nil)) pxs_nil)) pxs_nil)) (alen_cons (alen_cons alen_nil)))))))))
set_option maxHeartbeats 4000000 in
theorem ok__law_some (T : Txt K mg) : FnOk P w K mg base (L2.CX P w) 4 T.a__law_some T.fd__law_some ["_law_script", "_law_town", "_law_many"] (spF ⟨P, w, K, mg⟩ [1] 3 m__law_some) := by
  refine fn_ok (m := 2) T.F__law_some sc__law_some rfl fun cdv A outer s H E hr tk => ?_
  have hu := hu200 hr
  have hv := hu64 hr
  exact (pxss_cons (pxs_set (i := 3) sc__law_some.nd rfl (.inl rfl) (px_callTy call_tuple_of sim_tuple (by rfl) T.z_tuple (by decide +kernel) (pxs_O (px_comp (own := [("_law_place", 4)]) rfl sc__law_some.nd (pxi_range1 (by rfl) T.z_range (pxs_O (px_var (pv 2)) pxs_nil)) (blkOk_by (N := N__law_some) (sc := defScope s__law_some) (by decide +kernel)) (fun _ _ _ _ _ => (pg_name (i := 4) sc__law_some.nd rfl (by first | exact .inl rfl | exact .inr rfl))) (sg_name (by decide)) (by decide) (by decide) (fun _ _ _ _ _ => (pts_some (pxt_cmp (op_eqD hv) sim_eq (px_call (ok__law_draw T) (hr.mono (by decide)) takes0 (by rfl) T.g__law_draw T.F__law_draw.kp T.b__law_draw (pxs_V (px_var (pv 0)) (pxs_O (px_var (pv 1)) (pxs_V px_int pxs_nil))) (alen_cons (alen_cons (alen_cons alen_nil)))) px_int (by rfl)))) (fun _ _ _ _ _ => (px_var (pv 4)))) pxs_nil)) (by decide))
    (pxss_cons (pxs_if (pxt_cmp (op_eqD hv) sim_eq (px_var (pv 3)) (px_tup pxs_nil alen_nil) (by rfl)) (pxss_one (pxs_ret (px_tup (pxs_V (px_call (ok__law_draw T) (hr.mono (by decide)) tk (by rfl) T.g__law_draw T.F__law_draw.kp T.b__law_draw (pxs_V (px_var (pv 0)) (pxs_O (px_var (pv 1)) (pxs_V (px_var (pv 2)) pxs_nil))) (alen_cons (alen_cons (alen_cons alen_nil)))) pxs_nil) (alen_cons alen_nil)))) pxss_nil)
    (pxss_one (pxs_ret (px_var (pv 3))))))
set_option maxHeartbeats 4000000 in
theorem ok_law (T : Txt K mg) : FnOk P w K mg base (L2.CX P w) 5 T.a_law T.fd_law ["_law_script"] (spF ⟨P, w, K, mg⟩ [] 1 m_law) := by
  refine fn_ok (m := 12) T.F_law sc_law rfl fun cdv A outer s H E hr tk => ?_
  have hu := hu200 hr
  have hv := hu64 hr
  exact (pxss_cons (pxs_set (i := 1) sc_law.nd rfl (.inl rfl) (px_lst pxs_nil alen_nil) (by decide))
    (pxss_cons (pxs_set (i := 2) sc_law.nd rfl (.inl rfl) (px_call (ok__law_web T) (hr.mono (by decide)) tk (by rfl) T.g__law_web T.F__law_web.kp T.b__law_web (pxs_V (px_var (pv 0)) (pxs_O (px_var (pv 1)) (pxs_V px_int pxs_nil))) (alen_cons (alen_cons (alen_cons alen_nil)))) (by decide))
    (pxss_cons (pxs_set (i := 3) sc_law.nd rfl (.inr rfl) px_dictN (by decide))
    (pxss_cons (pxs_for (passes_of rfl) rfl (pxi_range1 (by rfl) T.z_range (pxs_O (px_ix (ix_all hu) sim_ixAll (px_var (pv 2)) px_int (fun _ _ => rfl)) pxs_nil)) (pg_name (i := 4) sc_law.nd rfl (.inl rfl)) (sg_name (by decide))
    (pxss_one (pxs_for (passes_of rfl) rfl (pxi_range1 (by rfl) T.z_range (pxs_O (px_ix (ix_all hu) sim_ixAll (px_var (pv 2)) px_int (fun _ _ => rfl)) pxs_nil)) (pg_name (i := 5) sc_law.nd rfl (.inl rfl)) (sg_name (by decide))
    (pxss_one (pxs_setItem hu (pv 3) (px_tup (pxs_V (px_var (pv 4)) (pxs_V (px_var (pv 5)) pxs_nil)) (alen_cons (alen_cons alen_nil))) (px_if (pxt_cmp (op_eqD hv) sim_eq (px_var (pv 4)) (px_var (pv 5)) (by rfl)) px_int px_int))))))
    (pxss_cons (pxs_for (passes_of rfl) rfl (pxi_seq (px_ix (ix_all hu) sim_ixAll (px_var (pv 2)) px_int (fun _ _ => rfl))) (pg_tup rfl (pgs_cons (pg_name (i := 4) sc_law.nd rfl (.inl rfl)) (pgs_cons (pg_name (i := 5) sc_law.nd rfl (.inl rfl)) pgs_nil))) (sg_tup (sg_cons (sg_name (by decide)) (sg_cons (sg_name (by decide)) sg_nil)))
    (pxss_cons (pxs_setItem hu (pv 3) (px_tup (pxs_V (px_var (pv 4)) (pxs_V (px_var (pv 5)) pxs_nil)) (alen_cons (alen_cons alen_nil))) px_int)
    (pxss_one (pxs_setItem hu (pv 3) (px_tup (pxs_V (px_var (pv 5)) (pxs_V (px_var (pv 4)) pxs_nil)) (alen_cons (alen_cons alen_nil))) px_int))))
    (pxss_cons (pxs_for (passes_of rfl) rfl (pxi_range1 (by rfl) T.z_range (pxs_O (px_ix (ix_all hu) sim_ixAll (px_var (pv 2)) px_int (fun _ _ => rfl)) pxs_nil)) (pg_name (i := 6) sc_law.nd rfl (.inl rfl)) (sg_name (by decide))
    (pxss_one (pxs_for (passes_of rfl) rfl (pxi_range1 (by rfl) T.z_range (pxs_O (px_ix (ix_all hu) sim_ixAll (px_var (pv 2)) px_int (fun _ _ => rfl)) pxs_nil)) (pg_name (i := 4) sc_law.nd rfl (.inl rfl)) (sg_name (by decide))
    (pxss_one (pxs_for (passes_of rfl) rfl (pxi_range1 (by rfl) T.z_range (pxs_O (px_ix (ix_all hu) sim_ixAll (px_var (pv 2)) px_int (fun _ _ => rfl)) pxs_nil)) (pg_name (i := 5) sc_law.nd rfl (.inl rfl)) (sg_name (by decide))
    (pxss_one (pxs_setItem hu (pv 3) (px_tup (pxs_V (px_var (pv 4)) (pxs_V (px_var (pv 5)) pxs_nil)) (alen_cons (alen_cons alen_nil))) (px_callB (cr_min2 rfl hu) sim_min (by rfl) T.z_min (by decide +kernel) (pxs_O (px_ix (ix_all hu) sim_ixAll (px_var (pv 3)) (px_tup (pxs_V (px_var (pv 4)) (pxs_V (px_var (pv 5)) pxs_nil)) (alen_cons (alen_cons alen_nil))) (fun _ _ => rfl)) (pxs_O (px_op op_addA sim_add (px_ix (ix_all hu) sim_ixAll (px_var (pv 3)) (px_tup (pxs_V (px_var (pv 4)) (pxs_V (px_var (pv 6)) pxs_nil)) (alen_cons (alen_cons alen_nil))) (fun _ _ => rfl)) (px_ix (ix_all hu) sim_ixAll (px_var (pv 3)) (px_tup (pxs_V (px_var (pv 6)) (pxs_V (px_var (pv 5)) pxs_nil)) (alen_cons (alen_cons alen_nil))) (fun _ _ => rfl))) pxs_nil))))))))))
    (pxss_cons (pxs_for (passes_of rfl) rfl (pxi_range1 (by rfl) T.z_range (pxs_O px_int pxs_nil)) (pg_name (i := 7) sc_law.nd rfl (.inl rfl)) (sg_name (by decide))
    (pxss_cons (pxs_set (i := 8) sc_law.nd rfl (.inr rfl) (px_call (ok__law_some T) (hr.mono (by decide)) tk (by rfl) T.g__law_some T.F__law_some.kp T.b__law_some (pxs_V (px_var (pv 0)) (pxs_O (px_var (pv 1)) (pxs_V (px_ix (ix_all hu) sim_ixAll (px_var (pv 2)) px_int (fun _ _ => rfl)) pxs_nil))) (alen_cons (alen_cons (alen_cons alen_nil)))) (by decide))
    (pxss_cons (pxs_setComp (i := 9) (own := [("_law_goal", 11)]) rfl sc_law.nd rfl rfl (by decide) (sw_true rfl rfl rfl (by decide +kernel)) (pxi_range1 (by rfl) T.z_range (pxs_O (px_ix (ix_all hu) sim_ixAll (px_var (pv 2)) px_int (fun _ _ => rfl)) pxs_nil)) (blkOk_by (N := N_law) (sc := defScope s_law) (by decide +kernel)) (fun _ _ _ _ _ => (pg_name (i := 11) sc_law.nd rfl (by first | exact .inl rfl | exact .inr rfl))) (sg_name (by decide)) (by decide) (by decide) (fun _ _ _ _ _ => pts_none) (fun _ _ _ _ _ => (px_tup (pxs_V (px_callB (cr_sum rfl) sim_sum (by rfl) T.z_sum (by decide +kernel) (pxs_O (px_comp (own := [("_law_place", 12)]) rfl sc_law.nd (pxi_seq (px_var (pv 8))) (blkOk_by (N := N_law) (sc := (compEnvC cs1_law [] 0 (envOfC "" (defScope s_law) 0 0 .none)).scope) (by decide +kernel)) (fun _ _ _ _ _ => (pg_name (i := 12) sc_law.nd rfl (by first | exact .inl rfl | exact .inr rfl))) (sg_name (by decide)) (by decide) (by decide) (fun _ _ _ _ _ => pts_none) (fun _ _ _ _ _ => (px_ix (ix_all hu) sim_ixAll (px_var (pv 3)) (px_tup (pxs_V (px_var (pv 12)) (pxs_V (px_var (pv 11)) pxs_nil)) (alen_cons (alen_cons alen_nil))) (fun _ _ => rfl)))) pxs_nil)) (pxs_V (px_var (pv 11)) pxs_nil)) (alen_cons (alen_cons alen_nil)))))
    (pxss_cons (pxs_set (i := 10) sc_law.nd rfl (.inl rfl) (px_callB (cr_min2 rfl hu) sim_min (by rfl) T.z_min (by decide +kernel) (pxs_O (px_var (pv 9)) pxs_nil)) (by decide))
    (pxss_one (pxs_if (pxt_cmp (op_neD hv) sim_ne (px_call (ok_steps T) (hr.mono (by decide)) tk (by rfl) T.g_steps T.F_steps.kp T.b_steps (pxs_V (px_var (pv 2)) (pxs_V (px_var (pv 8)) pxs_nil)) (alen_cons (alen_cons alen_nil))) (px_if (pxt_cmp (op_ltA hu) sim_lt (px_ix (ix_all hu) sim_ixAll (px_var (pv 10)) px_int (fun _ _ => rfl)) px_int (by rfl)) (px_var (pv 10)) px_non) (by rfl)) (pxss_one (pxs_ret px_bl)) pxss_nil))))))
    (pxss_one (pxs_ret px_bl)))))))))
end
/-! ### what the top has written -/
theorem txt_mk {K : PySem.W.Frag} {h : Heap} {mg : Str → Option Value} (X : K.In h) (G : h.Ns mainGlobals mg)
  {f0 : Addr} {oc0 : Value} {od0 an0 : Option Addr} {kV0 dc0 pm0 cd0 ct0 : Value} {sl0 : Array (Option Value)}
  (a0 : PySem.W.nsIn K mainGlobals "is_whole" = some (some (.ref f0))) (l0 : K.lookup f0 = some ⟨oc0, od0, .func (PySem.W.fnOf "is_whole" "is_whole" (defArgs s_is_whole) (defBody s_is_whole) (defScope s_is_whole) .none kV0 dc0 pm0 an0 cd0 ct0), sl0⟩) (c0 : PySem.W.codeIn K cd0 "is_whole" = true) (k0 : PySem.W.keepIn K (.ref f0) = true)
  {f1 : Addr} {oc1 : Value} {od1 an1 : Option Addr} {kV1 dc1 pm1 cd1 ct1 : Value} {sl1 : Array (Option Value)}
  (a1 : PySem.W.nsIn K mainGlobals "is_web" = some (some (.ref f1))) (l1 : K.lookup f1 = some ⟨oc1, od1, .func (PySem.W.fnOf "is_web" "is_web" (defArgs s_is_web) (defBody s_is_web) (defScope s_is_web) .none kV1 dc1 pm1 an1 cd1 ct1), sl1⟩) (c1 : PySem.W.codeIn K cd1 "is_web" = true) (k1 : PySem.W.keepIn K (.ref f1) = true)
  {f2 : Addr} {oc2 : Value} {od2 an2 : Option Addr} {kV2 dc2 pm2 cd2 ct2 : Value} {sl2 : Array (Option Value)}
  (a2 : PySem.W.nsIn K mainGlobals "need_web" = some (some (.ref f2))) (l2 : K.lookup f2 = some ⟨oc2, od2, .func (PySem.W.fnOf "need_web" "need_web" (defArgs s_need_web) (defBody s_need_web) (defScope s_need_web) .none kV2 dc2 pm2 an2 cd2 ct2), sl2⟩) (c2 : PySem.W.codeIn K cd2 "need_web" = true) (k2 : PySem.W.keepIn K (.ref f2) = true)
  {f3 : Addr} {oc3 : Value} {od3 an3 : Option Addr} {kV3 dc3 pm3 cd3 ct3 : Value} {sl3 : Array (Option Value)}
  (a3 : PySem.W.nsIn K mainGlobals "are_places" = some (some (.ref f3))) (l3 : K.lookup f3 = some ⟨oc3, od3, .func (PySem.W.fnOf "are_places" "are_places" (defArgs s_are_places) (defBody s_are_places) (defScope s_are_places) .none kV3 dc3 pm3 an3 cd3 ct3), sl3⟩) (c3 : PySem.W.codeIn K cd3 "are_places" = true) (k3 : PySem.W.keepIn K (.ref f3) = true)
  {f4 : Addr} {oc4 : Value} {od4 an4 : Option Addr} {kV4 dc4 pm4 cd4 ct4 : Value} {sl4 : Array (Option Value)}
  (a4 : PySem.W.nsIn K mainGlobals "need_places" = some (some (.ref f4))) (l4 : K.lookup f4 = some ⟨oc4, od4, .func (PySem.W.fnOf "need_places" "need_places" (defArgs s_need_places) (defBody s_need_places) (defScope s_need_places) .none kV4 dc4 pm4 an4 cd4 ct4), sl4⟩) (c4 : PySem.W.codeIn K cd4 "need_places" = true) (k4 : PySem.W.keepIn K (.ref f4) = true)
  {f5 : Addr} {oc5 : Value} {od5 an5 : Option Addr} {kV5 dc5 pm5 cd5 ct5 : Value} {sl5 : Array (Option Value)}
  (a5 : PySem.W.nsIn K mainGlobals "beside" = some (some (.ref f5))) (l5 : K.lookup f5 = some ⟨oc5, od5, .func (PySem.W.fnOf "beside" "beside" (defArgs s_beside) (defBody s_beside) (defScope s_beside) .none kV5 dc5 pm5 an5 cd5 ct5), sl5⟩) (c5 : PySem.W.codeIn K cd5 "beside" = true) (k5 : PySem.W.keepIn K (.ref f5) = true)
  {f6 : Addr} {oc6 : Value} {od6 an6 : Option Addr} {kV6 dc6 pm6 cd6 ct6 : Value} {sl6 : Array (Option Value)}
  (a6 : PySem.W.nsIn K mainGlobals "steps_from" = some (some (.ref f6))) (l6 : K.lookup f6 = some ⟨oc6, od6, .func (PySem.W.fnOf "steps_from" "steps_from" (defArgs s_steps_from) (defBody s_steps_from) (defScope s_steps_from) .none kV6 dc6 pm6 an6 cd6 ct6), sl6⟩) (c6 : PySem.W.codeIn K cd6 "steps_from" = true) (k6 : PySem.W.keepIn K (.ref f6) = true)
  {f7 : Addr} {oc7 : Value} {od7 an7 : Option Addr} {kV7 dc7 pm7 cd7 ct7 : Value} {sl7 : Array (Option Value)}
  (a7 : PySem.W.nsIn K mainGlobals "steps" = some (some (.ref f7))) (l7 : K.lookup f7 = some ⟨oc7, od7, .func (PySem.W.fnOf "steps" "steps" (defArgs s_steps) (defBody s_steps) (defScope s_steps) .none kV7 dc7 pm7 an7 cd7 ct7), sl7⟩) (c7 : PySem.W.codeIn K cd7 "steps" = true) (k7 : PySem.W.keepIn K (.ref f7) = true)
  {f8 : Addr} {oc8 : Value} {od8 an8 : Option Addr} {kV8 dc8 pm8 cd8 ct8 : Value} {sl8 : Array (Option Value)}
  (a8 : PySem.W.nsIn K mainGlobals "_law_cell_at" = some (some (.ref f8))) (l8 : K.lookup f8 = some ⟨oc8, od8, .func (PySem.W.fnOf "_law_cell_at" "_law_cell_at" (defArgs s__law_cell_at) (defBody s__law_cell_at) (defScope s__law_cell_at) .none kV8 dc8 pm8 an8 cd8 ct8), sl8⟩) (c8 : PySem.W.codeIn K cd8 "_law_cell_at" = true) (k8 : PySem.W.keepIn K (.ref f8) = true)
  {f9 : Addr} {oc9 : Value} {od9 an9 : Option Addr} {kV9 dc9 pm9 cd9 ct9 : Value} {sl9 : Array (Option Value)}
  (a9 : PySem.W.nsIn K mainGlobals "_law_mixed" = some (some (.ref f9))) (l9 : K.lookup f9 = some ⟨oc9, od9, .func (PySem.W.fnOf "_law_mixed" "_law_mixed" (defArgs s__law_mixed) (defBody s__law_mixed) (defScope s__law_mixed) .none kV9 dc9 pm9 an9 cd9 ct9), sl9⟩) (c9 : PySem.W.codeIn K cd9 "_law_mixed" = true) (k9 : PySem.W.keepIn K (.ref f9) = true)
  {f10 : Addr} {oc10 : Value} {od10 an10 : Option Addr} {kV10 dc10 pm10 cd10 ct10 : Value} {sl10 : Array (Option Value)}
  (a10 : PySem.W.nsIn K mainGlobals "_law_draw" = some (some (.ref f10))) (l10 : K.lookup f10 = some ⟨oc10, od10, .func (PySem.W.fnOf "_law_draw" "_law_draw" (defArgs s__law_draw) (defBody s__law_draw) (defScope s__law_draw) .none kV10 dc10 pm10 an10 cd10 ct10), sl10⟩) (c10 : PySem.W.codeIn K cd10 "_law_draw" = true) (k10 : PySem.W.keepIn K (.ref f10) = true)
  {f11 : Addr} {oc11 : Value} {od11 an11 : Option Addr} {kV11 dc11 pm11 cd11 ct11 : Value} {sl11 : Array (Option Value)}
  (a11 : PySem.W.nsIn K mainGlobals "_law_web" = some (some (.ref f11))) (l11 : K.lookup f11 = some ⟨oc11, od11, .func (PySem.W.fnOf "_law_web" "_law_web" (defArgs s__law_web) (defBody s__law_web) (defScope s__law_web) .none kV11 dc11 pm11 an11 cd11 ct11), sl11⟩) (c11 : PySem.W.codeIn K cd11 "_law_web" = true) (k11 : PySem.W.keepIn K (.ref f11) = true)
  {f12 : Addr} {oc12 : Value} {od12 an12 : Option Addr} {kV12 dc12 pm12 cd12 ct12 : Value} {sl12 : Array (Option Value)}
  (a12 : PySem.W.nsIn K mainGlobals "_law_some" = some (some (.ref f12))) (l12 : K.lookup f12 = some ⟨oc12, od12, .func (PySem.W.fnOf "_law_some" "_law_some" (defArgs s__law_some) (defBody s__law_some) (defScope s__law_some) .none kV12 dc12 pm12 an12 cd12 ct12), sl12⟩) (c12 : PySem.W.codeIn K cd12 "_law_some" = true) (k12 : PySem.W.keepIn K (.ref f12) = true)
  {f13 : Addr} {oc13 : Value} {od13 an13 : Option Addr} {kV13 dc13 pm13 cd13 ct13 : Value} {sl13 : Array (Option Value)}
  (a13 : PySem.W.nsIn K mainGlobals "law" = some (some (.ref f13))) (l13 : K.lookup f13 = some ⟨oc13, od13, .func (PySem.W.fnOf "law" "law" (defArgs s_law) (defBody s_law) (defScope s_law) .none kV13 dc13 pm13 an13 cd13 ct13), sl13⟩) (c13 : PySem.W.codeIn K cd13 "law" = true) (k13 : PySem.W.keepIn K (.ref f13) = true)
  (z_all : PySem.W.nsIn K mainGlobals "all" = some none)
  (z_bool : PySem.W.nsIn K mainGlobals "bool" = some none)
  (z_int : PySem.W.nsIn K mainGlobals "int" = some none)
  (z_isinstance : PySem.W.nsIn K mainGlobals "isinstance" = some none)
  (z_len : PySem.W.nsIn K mainGlobals "len" = some none)
  (z_min : PySem.W.nsIn K mainGlobals "min" = some none)
  (z_range : PySem.W.nsIn K mainGlobals "range" = some none)
  (z_sorted : PySem.W.nsIn K mainGlobals "sorted" = some none)
  (z_sum : PySem.W.nsIn K mainGlobals "sum" = some none)
  (z_tuple : PySem.W.nsIn K mainGlobals "tuple" = some none)
  (z_zip : PySem.W.nsIn K mainGlobals "zip" = some none)
  {C_NoPlaces : Addr} (gx_NoPlaces : PySem.W.nsIn K mainGlobals "NoPlaces" = some (some (.ref C_NoPlaces))) (qx_NoPlaces : PySem.W.excIn K C_NoPlaces [.type "ValueError", .type "Exception", .type "BaseException", .type "object"] "ValueError.__new__" = true) (kx_NoPlaces : PySem.W.keepIn K (.ref C_NoPlaces) = true) (bx_NoPlaces : PySem.W.subIn K (.ref C_NoPlaces) (.type "BaseException") = some true) (tx_NoPlaces : PySem.W.typeIn K (.ref C_NoPlaces) = some (.type "type"))
  {C_NoWeb : Addr} (gx_NoWeb : PySem.W.nsIn K mainGlobals "NoWeb" = some (some (.ref C_NoWeb))) (qx_NoWeb : PySem.W.excIn K C_NoWeb [.type "ValueError", .type "Exception", .type "BaseException", .type "object"] "ValueError.__new__" = true) (kx_NoWeb : PySem.W.keepIn K (.ref C_NoWeb) = true) (bx_NoWeb : PySem.W.subIn K (.ref C_NoWeb) (.type "BaseException") = some true) (tx_NoWeb : PySem.W.typeIn K (.ref C_NoWeb) = some (.type "type"))
  {t_MANY : Tok} (n_MANY : PySem.W.nsIn K mainGlobals "MANY" = some (some (.int 8 t_MANY)))
  : ∃ T : Txt K mg, (∀ (s : Shared) (v : Value), BindsTo s T.fd_law ⟨[v], []⟩ [("_law_script", v)]) := by
  have F0 := fun_mk (st := s_is_whole) l0 c0 k0
  have F1 := fun_mk (st := s_is_web) l1 c1 k1
  have F2 := fun_mk (st := s_need_web) l2 c2 k2
  have F3 := fun_mk (st := s_are_places) l3 c3 k3
  have F4 := fun_mk (st := s_need_places) l4 c4 k4
  have F5 := fun_mk (st := s_beside) l5 c5 k5
  have F6 := fun_mk (st := s_steps_from) l6 c6 k6
  have F7 := fun_mk (st := s_steps) l7 c7 k7
  have F8 := fun_mk (st := s__law_cell_at) l8 c8 k8
  have F9 := fun_mk (st := s__law_mixed) l9 c9 k9
  have F10 := fun_mk (st := s__law_draw) l10 c10 k10
  have F11 := fun_mk (st := s__law_web) l11 c11 k11
  have F12 := fun_mk (st := s__law_some) l12 c12 k12
  have F13 := fun_mk (st := s_law) l13 c13 k13
  refine ⟨{ a_is_whole := f0, fd_is_whole := _, F_is_whole := F0, g_is_whole := PySem.W.mg_of X G a0, b_is_whole := F0.binds (ps := ["thing", "low", "most"]) fun _ _ _ _ _ _ us hl => match us, hl with | [_, _, _], _ => rfl, a_is_web := f1, fd_is_web := _, F_is_web := F1, g_is_web := PySem.W.mg_of X G a1, b_is_web := F1.binds (ps := ["thing"]) fun _ _ _ _ _ _ us hl => match us, hl with | [_], _ => rfl, a_need_web := f2, fd_need_web := _, F_need_web := F2, g_need_web := PySem.W.mg_of X G a2, b_need_web := F2.binds (ps := ["thing"]) fun _ _ _ _ _ _ us hl => match us, hl with | [_], _ => rfl, a_are_places := f3, fd_are_places := _, F_are_places := F3, g_are_places := PySem.W.mg_of X G a3, b_are_places := F3.binds (ps := ["many", "thing"]) fun _ _ _ _ _ _ us hl => match us, hl with | [_, _], _ => rfl, a_need_places := f4, fd_need_places := _, F_need_places := F4, g_need_places := PySem.W.mg_of X G a4, b_need_places := F4.binds (ps := ["many", "thing"]) fun _ _ _ _ _ _ us hl => match us, hl with | [_, _], _ => rfl, a_beside := f5, fd_beside := _, F_beside := F5, g_beside := PySem.W.mg_of X G a5, b_beside := F5.binds (ps := ["web", "place"]) fun _ _ _ _ _ _ us hl => match us, hl with | [_, _], _ => rfl, a_steps_from := f6, fd_steps_from := _, F_steps_from := F6, g_steps_from := PySem.W.mg_of X G a6, b_steps_from := F6.binds (ps := ["web", "place"]) fun _ _ _ _ _ _ us hl => match us, hl with | [_, _], _ => rfl, a_steps := f7, fd_steps := _, F_steps := F7, g_steps := PySem.W.mg_of X G a7, b_steps := F7.binds (ps := ["web", "places"]) fun _ _ _ _ _ _ us hl => match us, hl with | [_, _], _ => rfl, a__law_cell_at := f8, fd__law_cell_at := _, F__law_cell_at := F8, g__law_cell_at := PySem.W.mg_of X G a8, b__law_cell_at := F8.binds (ps := ["_law_script", "_law_k"]) fun _ _ _ _ _ _ us hl => match us, hl with | [_, _], _ => rfl, a__law_mixed := f9, fd__law_mixed := _, F__law_mixed := F9, g__law_mixed := PySem.W.mg_of X G a9, b__law_mixed := F9.binds (ps := ["_law_script", "_law_k", "_law_many"]) fun _ _ _ _ _ _ us hl => match us, hl with | [_, _, _], _ => rfl, a__law_draw := f10, fd__law_draw := _, F__law_draw := F10, g__law_draw := PySem.W.mg_of X G a10, b__law_draw := F10.binds (ps := ["_law_script", "_law_town", "_law_many"]) fun _ _ _ _ _ _ us hl => match us, hl with | [_, _, _], _ => rfl, a__law_web := f11, fd__law_web := _, F__law_web := F11, g__law_web := PySem.W.mg_of X G a11, b__law_web := F11.binds (ps := ["_law_script", "_law_town", "_law_most"]) fun _ _ _ _ _ _ us hl => match us, hl with | [_, _, _], _ => rfl, a__law_some := f12, fd__law_some := _, F__law_some := F12, g__law_some := PySem.W.mg_of X G a12, b__law_some := F12.binds (ps := ["_law_script", "_law_town", "_law_many"]) fun _ _ _ _ _ _ us hl => match us, hl with | [_, _, _], _ => rfl, a_law := f13, fd_law := _, F_law := F13, g_law := PySem.W.mg_of X G a13, b_law := F13.binds (ps := ["_law_script"]) fun _ _ _ _ _ _ us hl => match us, hl with | [_], _ => rfl, z_all := PySem.W.mg_none_of X G z_all, z_bool := PySem.W.mg_none_of X G z_bool, z_int := PySem.W.mg_none_of X G z_int, z_isinstance := PySem.W.mg_none_of X G z_isinstance, z_len := PySem.W.mg_none_of X G z_len, z_min := PySem.W.mg_none_of X G z_min, z_range := PySem.W.mg_none_of X G z_range, z_sorted := PySem.W.mg_none_of X G z_sorted, z_sum := PySem.W.mg_none_of X G z_sum, z_tuple := PySem.W.mg_none_of X G z_tuple, z_zip := PySem.W.mg_none_of X G z_zip, c_NoPlaces := C_NoPlaces, gx_NoPlaces := PySem.W.mg_of X G gx_NoPlaces, qx_NoPlaces := qx_NoPlaces, kx_NoPlaces := kx_NoPlaces, bx_NoPlaces := bx_NoPlaces, tx_NoPlaces := tx_NoPlaces, c_NoWeb := C_NoWeb, gx_NoWeb := PySem.W.mg_of X G gx_NoWeb, qx_NoWeb := qx_NoWeb, kx_NoWeb := kx_NoWeb, bx_NoWeb := bx_NoWeb, tx_NoWeb := tx_NoWeb, t_MANY := t_MANY, n_MANY := PySem.W.mg_of X G n_MANY }, fun s v => .of_eq rfl⟩
end K02

namespace K02
open PySem PySem.Spec PyProof.Rows L2 VS MIR
theorem all_mk {P : Program} {w : World} {K : PySem.W.Frag} {mg : Str → Option Value} {fa : Addr} (hfa : mg "law" = some (.ref fa)) (T : ∃ T : Txt K mg, (∀ (s : Shared) (v : Value), BindsTo s T.fd_law ⟨[v], []⟩ [("_law_script", v)])) :
    ∃ fd : FuncData, (∀ (s : Shared) (v : Value), BindsTo s fd ⟨[v], []⟩ [("_law_script", v)]) ∧ ∀ base : Heap, K.In base → base.Ns mainGlobals mg → FnOk P w K mg base (L2.CX P w) 5 fa fd ["_law_script"] (spT K) := by
  obtain ⟨T, b⟩ := T
  have e := hfa.symm.trans T.g_law
  cases e
  exact ⟨T.fd_law, b, fun base _ _ => (ok_law T).imp fun vs H Q E h => spT_of (g := ⟨P, w, K, mg⟩) law_true vs H Q E h⟩
end K02
open PySem PySem.W PyProof.Rows
set_option maxHeartbeats 0 in
theorem PySem.Challenge.cw_gatherall_k02_whole_steps_holds : PySem.Challenge.rw_gatherall_k02_whole_steps.Holds := by
  w_on; o_law; k_head; (case hw => w_witness2)
  k_fill
  refine L2.walk_of (l := PySem.Challenge.rw_gatherall_k02_whole_steps) (n := 63) (k := 5) (x := "_law_script") (CX := fun w => L2.CX PySem.Challenge.rw_gatherall_k02_whole_steps.prog w) (sp := fun w => VS.spT _) rfl (by decide) rfl ⟨rfl, by decide, by decide⟩ (fun w h Y => PySem.W.kIn_of Y) ?F (fun _ _ a ns hl _ hS => ⟨a, ns, rfl, hl, hS, fun _ => rfl⟩) (fun _ _ _ _ _ h => VS.no_out h)
  case F =>
    intro w mg fa h KX G hmg
    refine' K02.all_mk hmg (K02.txt_mk KX G ?a0 ?l0 ?c0 ?k0 ?a1 ?l1 ?c1 ?k1 ?a2 ?l2 ?c2 ?k2 ?a3 ?l3 ?c3 ?k3 ?a4 ?l4 ?c4 ?k4 ?a5 ?l5 ?c5 ?k5 ?a6 ?l6 ?c6 ?k6 ?a7 ?l7 ?c7 ?k7 ?a8 ?l8 ?c8 ?k8 ?a9 ?l9 ?c9 ?k9 ?a10 ?l10 ?c10 ?k10 ?a11 ?l11 ?c11 ?k11 ?a12 ?l12 ?c12 ?k12 ?a13 ?l13 ?c13 ?k13 ?z_all ?z_bool ?z_int ?z_isinstance ?z_len ?z_min ?z_range ?z_sorted ?z_sum ?z_tuple ?z_zip ?gx_NoPlaces ?qx_NoPlaces ?kx_NoPlaces ?bx_NoPlaces ?tx_NoPlaces ?gx_NoWeb ?qx_NoWeb ?kx_NoWeb ?bx_NoWeb ?tx_NoWeb ?n_MANY)
    (case a0 => k_is)
    (case l0 => k_is)
    (case c0 => k_is)
    (case k0 => k_is)
    (case a1 => k_is)
    (case l1 => k_is)
    (case c1 => k_is)
    (case k1 => k_is)
    (case a2 => k_is)
    (case l2 => k_is)
    (case c2 => k_is)
    (case k2 => k_is)
    (case a3 => k_is)
    (case l3 => k_is)
    (case c3 => k_is)
    (case k3 => k_is)
    (case a4 => k_is)
    (case l4 => k_is)
    (case c4 => k_is)
    (case k4 => k_is)
    (case a5 => k_is)
    (case l5 => k_is)
    (case c5 => k_is)
    (case k5 => k_is)
    (case a6 => k_is)
    (case l6 => k_is)
    (case c6 => k_is)
    (case k6 => k_is)
    (case a7 => k_is)
    (case l7 => k_is)
    (case c7 => k_is)
    (case k7 => k_is)
    (case a8 => k_is)
    (case l8 => k_is)
    (case c8 => k_is)
    (case k8 => k_is)
    (case a9 => k_is)
    (case l9 => k_is)
    (case c9 => k_is)
    (case k9 => k_is)
    (case a10 => k_is)
    (case l10 => k_is)
    (case c10 => k_is)
    (case k10 => k_is)
    (case a11 => k_is)
    (case l11 => k_is)
    (case c11 => k_is)
    (case k11 => k_is)
    (case a12 => k_is)
    (case l12 => k_is)
    (case c12 => k_is)
    (case k12 => k_is)
    (case a13 => k_is)
    (case l13 => k_is)
    (case c13 => k_is)
    (case k13 => k_is)
    (case z_all => k_is)
    (case z_bool => k_is)
    (case z_int => k_is)
    (case z_isinstance => k_is)
    (case z_len => k_is)
    (case z_min => k_is)
    (case z_range => k_is)
    (case z_sorted => k_is)
    (case z_sum => k_is)
    (case z_tuple => k_is)
    (case z_zip => k_is)
    (case gx_NoPlaces => k_is)
    (case qx_NoPlaces => k_exc)
    (case kx_NoPlaces => k_is)
    (case bx_NoPlaces => k_is)
    (case tx_NoPlaces => k_is)
    (case gx_NoWeb => k_is)
    (case qx_NoWeb => k_exc)
    (case kx_NoWeb => k_is)
    (case bx_NoWeb => k_is)
    (case tx_NoWeb => k_is)
    (case n_MANY => k_is)
