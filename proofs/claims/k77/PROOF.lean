import PyProof.Rows.All
import Wide.All
import OpenK.AllK
import Wide.FinOn
import KE.KStateDown
import KE.HD3
import HandS.HeadHook1
import HandS.HeadHook2
import HandS.HeadHook3
import HandS.HeadHook4
import HandS.HeadWalk
import HandS.ForMost
import HandS.Lambda
import HandS.Wide
import HandS.Zip
import HandS.TupAny
import HandS.IsInst
import HandS.Conv
import HandS.Style
import HandS.NoneIn
import HandS.Star
import HandS.Gcd
import HandS.RaiseMore
import KE.DataMinMax
import Flt.RightSqrt
import HandS.GenCall
import KE.KDictZip
import KE.GoesZip
import KE.GoesMore
import HandS.GenList
import HandS.RevTup
import HandS.ExcValue
import KE.DataMinKey
import KE.SortKeyHeap
import HandS.Keys
import PyProof.GenComp
import HandS.EndTab
import PySem.Challenge.RW_signfours_k77_whole_forms_alike_or_not
set_option Elab.async false
set_option linter.all false
set_option maxRecDepth 100000
set_option maxHeartbeats 4000000
section
/-! DL: values as data trees (tuples and unshared lists), mutable lists as numbered boxes. -/
namespace DL
open PySem PySem.Spec PyProof.Rows L2

inductive D where
  | non
  | bl (b : Bool)
  | int (i : Int)
  | str (x : Str)
  | tup (ds : List D)
  | lst (ds : List D)
  | scr (ds : List D)
  | box (k : Nat)
abbrev Dl := List (Option D)
abbrev Mu := List (List D)

mutual
def pure : D → Bool
  | .box _ => false
  | .tup ds => pureAll ds
  | .lst ds => pureAll ds
  | .scr ds => pureAll ds
  | .non => true
  | .bl _ => true
  | .int _ => true
  | .str _ => true
def pureAll : List D → Bool
  | [] => true
  | d :: r => pure d && pureAll r
end
mutual
def flat : D → Bool
  | .box _ => false
  | .tup ds => flatAll ds
  | .lst _ => false
  | .scr _ => false
  | .non => true
  | .bl _ => true
  | .int _ => true
  | .str _ => true
def flatAll : List D → Bool
  | [] => true
  | d :: r => flat d && flatAll r
end

/-- the boxes' addresses; further lists that are being changed -/
abbrev Bx := List Addr × List Addr
abbrev Hidn (as : Bx) (b : Addr) : Prop := b ∈ as.1 ∨ b ∈ as.2
def hid (as : Bx) (H : Hp) : Hp := fun b => if Hidn as b then none else H b
theorem hid_some {as : Bx} {H : Hp} {b : Addr} {o : HO} : hid as H b = some o ↔ ¬ Hidn as b ∧ H b = some o := by
  unfold hid
  by_cases h : Hidn as b
  · rw [if_pos h]
    constructor
    · intro z; cases z
    · intro z; exact absurd h z.1
  · rw [if_neg h]
    constructor
    · intro z; exact ⟨h, z⟩
    · intro z; exact z.2

mutual
inductive Rd (K : PySem.W.Frag) (as : Bx) (H : Hp) : V → D → Prop
  | non : Rd K as H .non .non
  | bl (b : Bool) : Rd K as H (.bl b) (.bl b)
  | int (i : Int) : Rd K as H (.int i) (.int i)
  | str (x : Str) : Rd K as H (.str x) (.str x)
  | tup {a : Addr} {xs : List V} {ds : List D} : SqT K (hid as H) a xs → RdAll K as H xs ds → Rd K as H (.ref a) (.tup ds)
  | lst {a : Addr} {xs : List V} {ds : List D} : hid as H a = some (.lst xs) → RdAll K as H xs ds → Rd K as H (.ref a) (.lst ds)
  | scr {a : Addr} {xs : List V} {ds : List D} : SqL K (hid as H) a xs → RdAll K as H xs ds → Rd K as H (.ref a) (.scr ds)
  | box {a : Addr} {k : Nat} : as.1[k]? = some a → Rd K as H (.ref a) (.box k)
inductive RdAll (K : PySem.W.Frag) (as : Bx) (H : Hp) : List V → List D → Prop
  | nil : RdAll K as H [] []
  | cons {v : V} {vs : List V} {d : D} {ds : List D} : Rd K as H v d → RdAll K as H vs ds → RdAll K as H (v :: vs) (d :: ds)
end

section
variable {K : PySem.W.Frag} {as as1 as2 : Bx} {H H1 H2 : Hp}

theorem sqT_of {J J1 : Hp} (h : ∀ b o, J b = some o → (∀ ps, o ≠ .tbl ps) → J1 b = some o) {a : Addr} {xs : List V} (q : SqT K J a xs) : SqT K J1 a xs := by
  rcases q with (q | ⟨o, q⟩) | q
  · exact .inl (.inl (h _ _ q fun _ z => by cases z))
  · exact .inl (.inr ⟨o, h _ _ q fun _ z => by cases z⟩)
  · exact .inr q
theorem sqL_of {J J1 : Hp} (h : ∀ b o, J b = some o → (∀ ps, o ≠ .tbl ps) → J1 b = some o) {a : Addr} {xs : List V} (q : SqL K J a xs) : SqL K J1 a xs := by
  rcases q with (q | ⟨o, q⟩) | q
  · exact .inl (.inl (h _ _ q fun _ z => by cases z))
  · exact .inl (.inr ⟨o, h _ _ q fun _ z => by cases z⟩)
  · exact .inr q
mutual
theorem Rd.map (hst : ∀ b o, hid as H b = some o → (∀ ps, o ≠ .tbl ps) → hid as1 H1 b = some o) (hb : ∀ (k : Nat) a, as.1[k]? = some a → as1.1[k]? = some a) :
    ∀ {v : V} {d : D}, Rd K as H v d → Rd K as1 H1 v d
  | _, _, .non => .non
  | _, _, .bl b => .bl b
  | _, _, .int i => .int i
  | _, _, .str x => .str x
  | _, _, .tup h r => .tup (sqT_of hst h) (RdAll.map hst hb r)
  | _, _, .lst h r => .lst (hst _ _ h fun _ z => by cases z) (RdAll.map hst hb r)
  | _, _, .scr h r => .scr (sqL_of hst h) (RdAll.map hst hb r)
  | _, _, .box h => .box (hb _ _ h)
theorem RdAll.map (hst : ∀ b o, hid as H b = some o → (∀ ps, o ≠ .tbl ps) → hid as1 H1 b = some o) (hb : ∀ (k : Nat) a, as.1[k]? = some a → as1.1[k]? = some a) :
    ∀ {vs : List V} {ds : List D}, RdAll K as H vs ds → RdAll K as1 H1 vs ds
  | _, _, .nil => .nil
  | _, _, .cons h r => .cons (Rd.map hst hb h) (RdAll.map hst hb r)
end
mutual
theorem Rd.mapP (hst : ∀ b o, hid as H b = some o → (∀ ps, o ≠ .tbl ps) → hid as1 H1 b = some o) :
    ∀ {v : V} {d : D}, Rd K as H v d → pure d = true → Rd K as1 H1 v d
  | _, _, .non, _ => .non
  | _, _, .bl b, _ => .bl b
  | _, _, .int i, _ => .int i
  | _, _, .str x, _ => .str x
  | _, _, .tup h r, p => .tup (sqT_of hst h) (RdAll.mapP hst r (by unfold pure at p; exact p))
  | _, _, .lst h r, p => .lst (hst _ _ h fun _ z => by cases z) (RdAll.mapP hst r (by unfold pure at p; exact p))
  | _, _, .scr h r, p => .scr (sqL_of hst h) (RdAll.mapP hst r (by unfold pure at p; exact p))
  | _, _, .box h, p => by unfold pure at p; cases p
theorem RdAll.mapP (hst : ∀ b o, hid as H b = some o → (∀ ps, o ≠ .tbl ps) → hid as1 H1 b = some o) :
    ∀ {vs : List V} {ds : List D}, RdAll K as H vs ds → pureAll ds = true → RdAll K as1 H1 vs ds
  | _, _, .nil, _ => .nil
  | _, _, .cons h r, p => by
    unfold pureAll at p
    rw [Bool.and_eq_true] at p
    exact .cons (Rd.mapP hst h p.1) (RdAll.mapP hst r p.2)
end
mutual
theorem Rd.mapF (ht : ∀ a xs, SqT K (hid as H) a xs → SqT K (hid as1 H1) a xs) :
    ∀ {v : V} {d : D}, Rd K as H v d → flat d = true → Rd K as1 H1 v d
  | _, _, .non, _ => .non
  | _, _, .bl b, _ => .bl b
  | _, _, .int i, _ => .int i
  | _, _, .str x, _ => .str x
  | _, _, .tup h r, p => .tup (ht _ _ h) (RdAll.mapF ht r (by unfold flat at p; exact p))
  | _, _, .lst h r, p => by unfold flat at p; cases p
  | _, _, .scr h r, p => by unfold flat at p; cases p
  | _, _, .box h, p => by unfold flat at p; cases p
theorem RdAll.mapF (ht : ∀ a xs, SqT K (hid as H) a xs → SqT K (hid as1 H1) a xs) :
    ∀ {vs : List V} {ds : List D}, RdAll K as H vs ds → flatAll ds = true → RdAll K as1 H1 vs ds
  | _, _, .nil, _ => .nil
  | _, _, .cons h r, p => by
    unfold flatAll at p
    rw [Bool.and_eq_true] at p
    exact .cons (Rd.mapF ht h p.1) (RdAll.mapF ht r p.2)
end
mutual
theorem pure_of_flat : ∀ {d : D}, flat d = true → pure d = true
  | .non, _ => rfl
  | .bl _, _ => rfl
  | .int _, _ => rfl
  | .str _, _ => rfl
  | .tup ds, h => by
    unfold flat at h
    unfold pure
    exact pureAll_of_flat h
  | .lst _, h => by unfold flat at h; cases h
  | .scr _, h => by unfold flat at h; cases h
  | .box _, h => by unfold flat at h; cases h
theorem pureAll_of_flat : ∀ {ds : List D}, flatAll ds = true → pureAll ds = true
  | [], _ => rfl
  | d :: r, h => by
    unfold flatAll at h
    rw [Bool.and_eq_true] at h
    unfold pureAll
    rw [pure_of_flat h.1, pureAll_of_flat h.2]
    rfl
end

theorem RdAll.length : ∀ {vs : List V} {ds : List D}, RdAll K as H vs ds → vs.length = ds.length
  | _, _, .nil => rfl
  | _, _, .cons _ r => congrArg (· + 1) r.length
theorem RdAll.get : ∀ {vs : List V} {ds : List D} {i : Nat} {d : D}, RdAll K as H vs ds → ds[i]? = some d → ∃ v, vs[i]? = some v ∧ Rd K as H v d
  | _, _, _, _, .nil, e => by simp at e
  | _, _, 0, _, .cons h _, e => by
    simp only [List.getElem?_cons_zero, Option.some.injEq] at e
    subst e
    exact ⟨_, rfl, h⟩
  | _, _, i + 1, d, .cons _ r, e => by
    obtain ⟨v, h1, h2⟩ := RdAll.get (i := i) (d := d) r (by simpa using e)
    exact ⟨v, by simpa using h1, h2⟩
theorem RdAll.get' : ∀ {vs : List V} {ds : List D} {i : Nat} {v : V}, RdAll K as H vs ds → vs[i]? = some v → ∃ d, ds[i]? = some d ∧ Rd K as H v d
  | _, _, _, _, .nil, e => by simp at e
  | _, _, 0, _, .cons h _, e => by
    simp only [List.getElem?_cons_zero, Option.some.injEq] at e
    subst e
    exact ⟨_, rfl, h⟩
  | _, _, i + 1, v, .cons _ r, e => by
    obtain ⟨d, h1, h2⟩ := RdAll.get' (i := i) (v := v) r (by simpa using e)
    exact ⟨d, by simpa using h1, h2⟩
theorem RdAll.append : ∀ {vs ws : List V} {ds es : List D}, RdAll K as H vs ds → RdAll K as H ws es → RdAll K as H (vs ++ ws) (ds ++ es)
  | _, _, _, _, .nil, h => h
  | _, _, _, _, .cons h r, g => .cons h (RdAll.append r g)
theorem RdAll.take : ∀ {vs : List V} {ds : List D} (n : Nat), RdAll K as H vs ds → RdAll K as H (vs.take n) (ds.take n)
  | _, _, 0, _ => by simp only [List.take_zero]; exact .nil
  | _, _, _ + 1, .nil => .nil
  | _, _, n + 1, .cons h r => .cons h (RdAll.take n r)
theorem RdAll.drop : ∀ {vs : List V} {ds : List D} (n : Nat), RdAll K as H vs ds → RdAll K as H (vs.drop n) (ds.drop n)
  | _, _, 0, h => h
  | _, _, _ + 1, .nil => .nil
  | _, _, n + 1, .cons _ r => RdAll.drop n r
theorem RdAll.set : ∀ {vs : List V} {ds : List D} {v : V} {d : D} (i : Nat), RdAll K as H vs ds → Rd K as H v d → RdAll K as H (vs.set i v) (ds.set i d)
  | _, _, _, _, _, .nil, _ => .nil
  | _, _, _, _, 0, .cons _ r, g => .cons g r
  | _, _, _, _, i + 1, .cons h r, g => .cons h (RdAll.set i r g)
theorem RdAll.reverse {vs : List V} {ds : List D} (r : RdAll K as H vs ds) : RdAll K as H vs.reverse ds.reverse := by
  induction r using RdAll.rec (motive_1 := fun _ _ _ => True) with
  | nil => exact .nil
  | cons h r _ ih =>
    rw [List.reverse_cons, List.reverse_cons]
    exact ih.append (.cons h .nil)
  | _ => trivial
theorem RdAll.ints {vs : List V} {ns : List Int} (r : RdAll K as H vs (ns.map D.int)) : vs = ns.map V.int := by
  induction ns generalizing vs with
  | nil => cases r; rfl
  | cons n ns ih =>
    cases r with
    | cons h r =>
      cases h
      rw [ih r]; rfl
theorem RdAll.of_ints : ∀ (ns : List Int), RdAll K as H (ns.map V.int) (ns.map D.int)
  | [] => .nil
  | n :: ns => .cons (.int n) (RdAll.of_ints ns)
theorem RdAll.bls {vs : List V} {ns : List Bool} (r : RdAll K as H vs (ns.map D.bl)) : vs = ns.map V.bl := by
  induction ns generalizing vs with
  | nil => cases r; rfl
  | cons n ns ih =>
    cases r with
    | cons h r =>
      cases h
      rw [ih r]; rfl

/-- the boxes' lists, as they stand -/
structure Sto (K : PySem.W.Frag) (as : Bx) (H : Hp) (mu : Mu) : Prop where
  nd : as.1.Nodup
  len : as.1.length = mu.length
  hs : ∀ b ∈ as.2, ∃ xs, H b = some (.lst xs)
  dj : ∀ b ∈ as.1, b ∉ as.2
  get : ∀ (k : Nat) a ds, as.1[k]? = some a → mu[k]? = some ds → ∃ vs, H a = some (.lst vs) ∧ RdAll K as H vs ds ∧ pureAll ds = true

/-- the heap has gone on: what is seen stays, new boxes are new lists -/
structure Fwd (as : Bx) (H : Hp) (as1 : Bx) (H1 : Hp) : Prop where
  pre : as.1 <+: as1.1
  ext : as1.2 = as.2
  new : ∀ b ∈ as1.1, b ∈ as.1 ∨ H b = none
  stay : ∀ b o, ¬ Hidn as b → H b = some o → (∀ ps, o ≠ .tbl ps) → H1 b = some o
  there : ∀ b, H b ≠ none → H1 b ≠ none
  keep : ∀ b ∈ as.2, H1 b = H b
theorem Fwd.refl : Fwd as H as H := ⟨List.prefix_refl _, rfl, fun _ h => .inl h, fun _ _ _ h _ => h, fun _ h => h, fun _ _ => rfl⟩
theorem Fwd.trans (a : Fwd as H as1 H1) (b : Fwd as1 H1 as2 H2) : Fwd as H as2 H2 := by
  refine ⟨a.pre.trans b.pre, b.ext.trans a.ext, fun x hx => ?_, fun x o hx ho hn => ?_, fun x hx => b.there x (a.there x hx), fun x hx => (b.keep x (by rw [a.ext]; exact hx)).trans (a.keep x hx)⟩
  · rcases b.new x hx with h | h
    · exact a.new x h
    · right
      cases q : H x with
      | none => rfl
      | some o => exact absurd h (a.there x (by rw [q]; simp))
  · refine b.stay x o (fun z => ?_) (a.stay x o hx ho hn) hn
    rcases z with z | z
    · rcases a.new x z with h | h
      · exact hx (.inl h)
      · rw [h] at ho; cases ho
    · rw [a.ext] at z
      exact hx (.inr z)
theorem Fwd.hid (f : Fwd as H as1 H1) {b : Addr} {o : HO} (h : DL.hid as H b = some o) (hn : ∀ ps, o ≠ .tbl ps) : DL.hid as1 H1 b = some o := by
  obtain ⟨h1, h2⟩ := hid_some.mp h
  refine hid_some.mpr ⟨fun z => ?_, f.stay b o h1 h2 hn⟩
  rcases z with z | z
  · rcases f.new b z with q | q
    · exact h1 (.inl q)
    · rw [q] at h2; cases h2
  · rw [f.ext] at z
    exact h1 (.inr z)
theorem pre_get {l m : List Addr} (h : l <+: m) (k : Nat) (a : Addr) (e : l[k]? = some a) : m[k]? = some a := by
  obtain ⟨r, rfl⟩ := h
  have hk : k < l.length := (List.getElem?_eq_some_iff.mp e).1
  rw [List.getElem?_append_left hk]
  exact e
theorem Fwd.rd (f : Fwd as H as1 H1) {v : V} {d : D} (r : Rd K as H v d) : Rd K as1 H1 v d :=
  r.map (fun _ _ h n => f.hid h n) (pre_get f.pre)
theorem Fwd.rdA (f : Fwd as H as1 H1) {v : List V} {d : List D} (r : RdAll K as H v d) : RdAll K as1 H1 v d :=
  r.map (fun _ _ h n => f.hid h n) (pre_get f.pre)
/-- seen by the heap itself -/
theorem seeT {a : Addr} {xs : List V} (q : SqT K (hid as H) a xs) : SqT K H a xs := sqT_of (fun _ _ h _ => (hid_some.mp h).2) q
theorem seeL {a : Addr} {xs : List V} (q : SqL K (hid as H) a xs) : SqL K H a xs := sqL_of (fun _ _ h _ => (hid_some.mp h).2) q
theorem Rd.tupI {v : V} {ds : List D} (r : Rd K as H v (.tup ds)) : ∃ a xs, v = .ref a ∧ SqT K H a xs ∧ RdAll K as H xs ds := by
  cases r with
  | tup h g => exact ⟨_, _, rfl, seeT h, g⟩
theorem Rd.lstI {v : V} {ds : List D} (r : Rd K as H v (.lst ds)) : ∃ a xs, v = .ref a ∧ H a = some (.lst xs) ∧ RdAll K as H xs ds := by
  cases r with
  | lst h g => exact ⟨_, _, rfl, (hid_some.mp h).2, g⟩
/-- a new object -/
theorem Fwd.new_at {p : Addr} {o : HO} (S : ∀ b ∈ as.2, H b ≠ none) (n : H p = none) : Fwd as H as (upd H p o) := by
  refine ⟨List.prefix_refl _, rfl, fun _ h => .inl h, fun b u _ h _ => ?_, fun b h => ?_, fun b h => upd_ne fun z => S b h (by rw [z]; exact n)⟩
  · rw [upd_ne (ne_of_none h n)]; exact h
  · by_cases z : b = p
    · rw [z, upd_same]; simp
    · rw [upd_ne z]; exact h
theorem Sto.hn {mu : Mu} (S : Sto K as H mu) : ∀ b ∈ as.2, H b ≠ none := fun b hb z => by
  obtain ⟨xs, e⟩ := S.hs b hb
  rw [z] at e
  cases e
theorem Sto.some {mu : Mu} (S : Sto K as H mu) : ∀ b, Hidn as b → H b ≠ none := fun b hb => by
  rcases hb with hb | hb
  case inr => exact S.hn b hb
  obtain ⟨k, hk, e⟩ := List.mem_iff_getElem.mp hb
  have e1 : as.1[k]? = Option.some b := by rw [List.getElem?_eq_getElem hk, e]
  have hk2 : k < mu.length := by rw [← S.len]; exact hk
  obtain ⟨vs, h, _⟩ := S.get k b mu[k] e1 (List.getElem?_eq_getElem hk2)
  rw [h]; simp
theorem Sto.notmem {mu : Mu} (S : Sto K as H mu) {p : Addr} (n : H p = none) : ¬ Hidn as p := fun h => S.some p h n
theorem Sto.fwd {mu : Mu} (S : Sto K as H mu) (f : Fwd as H as H1) (hb : ∀ b ∈ as.1, H1 b = H b) : Sto K as H1 mu :=
  ⟨S.nd, S.len, fun b h => let ⟨xs, e⟩ := S.hs b h; ⟨xs, (f.keep b h).trans e⟩, S.dj, fun k a ds h1 h2 => by
    obtain ⟨vs, q1, q2, q3⟩ := S.get k a ds h1 h2
    exact ⟨vs, by rw [hb a (List.mem_of_getElem? h1)]; exact q1, f.rdA q2, q3⟩⟩
theorem Sto.new_at {mu : Mu} {p : Addr} {o : HO} (S : Sto K as H mu) (n : H p = none) : Sto K as (upd H p o) mu :=
  S.fwd (Fwd.new_at S.hn n) fun b hb => upd_ne fun z => S.notmem n (.inl (z ▸ hb))
end

/-! ### states, readings -/
/-- behind an expression or a statement -/
structure Post (K : PySem.W.Frag) (T : List (Addr × Str)) (as : Bx) (H : Hp) (as1 : Bx) (H1 : Hp) (mu1 : Mu) : Prop where
  fwd : Fwd as H as1 H1
  sto : Sto K as1 H1 mu1
  tab : LamX.Tabs T H1
theorem Post.trans {K : PySem.W.Frag} {T : List (Addr × Str)} {as as1 as2 : Bx} {H H1 H2 : Hp} {mu1 mu2 : Mu} (a : Post K T as H as1 H1 mu1) (b : Post K T as1 H1 as2 H2 mu2) : Post K T as H as2 H2 mu2 := ⟨a.fwd.trans b.fwd, b.sto, b.tab⟩
structure Ok (K : PySem.W.Frag) (T : List (Addr × Str)) (as : Bx) (H : Hp) (σ : L2.St) (δ : Dl) (mu : Mu) : Prop where
  len : σ.length = δ.length
  rel : ∀ (i : Nat) d, δ[i]? = some (some d) → ∃ v, σ[i]? = some (some v) ∧ Rd K as H v d
  sto : Sto K as H mu
  tab : LamX.Tabs T H
theorem Ok.post {K : PySem.W.Frag} {T : List (Addr × Str)} {as : Bx} {H : Hp} {σ : L2.St} {δ : Dl} {mu : Mu} (o : Ok K T as H σ δ mu) : Post K T as H as H mu := ⟨Fwd.refl, o.sto, o.tab⟩
theorem Ok.go {K : PySem.W.Frag} {T : List (Addr × Str)} {as as1 : Bx} {H H1 : Hp} {σ : L2.St} {δ : Dl} {mu mu1 : Mu} (o : Ok K T as H σ δ mu) (p : Post K T as H as1 H1 mu1) : Ok K T as1 H1 σ δ mu1 :=
  ⟨o.len, fun i d h => let ⟨v, h1, h2⟩ := o.rel i d h; ⟨v, h1, p.fwd.rd h2⟩, p.sto, p.tab⟩
theorem Ok.set {K : PySem.W.Frag} {T : List (Addr × Str)} {as : Bx} {H : Hp} {σ : L2.St} {δ : Dl} {mu : Mu} {v : V} {d : D} (i : Nat) (o : Ok K T as H σ δ mu) (r : Rd K as H v d) : Ok K T as H (σ.set i (some v)) (δ.set i (some d)) mu := by
  refine ⟨by simp only [List.length_set]; exact o.len, fun j e h => ?_, o.sto, o.tab⟩
  by_cases z : i = j
  · subst z
    by_cases hl : i < δ.length
    · rw [List.getElem?_set_self hl] at h
      cases h
      exact ⟨v, List.getElem?_set_self (by rw [o.len]; exact hl), r⟩
    · rw [List.getElem?_eq_none (by rw [List.length_set]; omega)] at h
      cases h
  · rw [List.getElem?_set_ne z] at h
    obtain ⟨w, h1, h2⟩ := o.rel j e h
    exact ⟨w, by rw [List.getElem?_set_ne z]; exact h1, h2⟩

abbrev DE := Dl → Mu → (D → Mu → Prop) → Prop
abbrev DT := Dl → Mu → (Bool → Mu → Prop) → Prop
abbrev DA := Dl → Mu → (List D → Mu → Prop) → Prop
structure DEnds where
  nx : Dl → Mu → Prop
  rt : D → Mu → Prop
  bk : Dl → Mu → Prop := fun _ _ => False
  ct : Dl → Mu → Prop := fun _ _ => False
abbrev DS := DEnds → Dl → Mu → Prop
abbrev DG := D → Dl → Mu → (Dl → Mu → Prop) → Prop

section
variable (K : PySem.W.Frag) (T : List (Addr × Str))
def tD (φ : DE) : TE := fun σ H Q => ∃ as δ mu Qd, Ok K T as H σ δ mu ∧ φ δ mu Qd ∧ ∀ d mu1 v H1, Qd d mu1 → Post K T as H as H1 mu1 → Rd K as H1 v d → Q v H1
def tDT (φ : DT) : TT := fun σ H Q => ∃ as δ mu Qd, Ok K T as H σ δ mu ∧ φ δ mu Qd ∧ ∀ b mu1 H1, Qd b mu1 → Post K T as H as H1 mu1 → Q b H1
def tDA (φ : DA) : TA := fun σ H Q => ∃ as δ mu Qd, Ok K T as H σ δ mu ∧ φ δ mu Qd ∧ ∀ ds mu1 vs H1, Qd ds mu1 → Post K T as H as H1 mu1 → RdAll K as H1 vs ds → Q vs H1
/-- behind a statement: E follows from Dd -/
structure EndsOk (as : Bx) (H : Hp) (Dd : DEnds) (E : Ends) : Prop where
  nx : ∀ as1 δ1 mu1 σ1 H1, Dd.nx δ1 mu1 → Fwd as H as1 H1 → Ok K T as1 H1 σ1 δ1 mu1 → E.nx σ1 H1
  rt : ∀ as1 d mu1 v H1, Dd.rt d mu1 → Post K T as H as1 H1 mu1 → Rd K as1 H1 v d → E.rt v H1
  bk : ∀ as1 δ1 mu1 σ1 H1, Dd.bk δ1 mu1 → Fwd as H as1 H1 → Ok K T as1 H1 σ1 δ1 mu1 → E.bk σ1 H1
  ct : ∀ as1 δ1 mu1 σ1 H1, Dd.ct δ1 mu1 → Fwd as H as1 H1 → Ok K T as1 H1 σ1 δ1 mu1 → E.ct σ1 H1
def tDS (φ : DS) : TS := fun E σ H => ∃ as δ mu Dd, Ok K T as H σ δ mu ∧ φ Dd δ mu ∧ EndsOk K T as H Dd E
end
theorem EndsOk.go {K : PySem.W.Frag} {T : List (Addr × Str)} {as as1 : Bx} {H H1 : Hp} {Dd : DEnds} {E : Ends} (h : EndsOk K T as H Dd E) (f : Fwd as H as1 H1) : EndsOk K T as1 H1 Dd E :=
  ⟨fun as2 δ2 mu2 σ2 H2 q g o => h.nx as2 δ2 mu2 σ2 H2 q (f.trans g) o, fun as2 d mu2 v H2 q g r => h.rt as2 d mu2 v H2 q ⟨f.trans g.fwd, g.sto, g.tab⟩ r,
    fun as2 δ2 mu2 σ2 H2 q g o => h.bk as2 δ2 mu2 σ2 H2 q (f.trans g) o, fun as2 δ2 mu2 σ2 H2 q g o => h.ct as2 δ2 mu2 σ2 H2 q (f.trans g) o⟩

abbrev ED (X : Cx) (T : List (Addr × Str)) (e : Expr) (φ : DE) : Prop := PE X e (tD X.K T φ)
abbrev TD (X : Cx) (T : List (Addr × Str)) (e : Expr) (φ : DT) : Prop := PT X e (tDT X.K T φ)
abbrev AD (X : Cx) (T : List (Addr × Str)) (es : List Expr) (φ : DA) : Prop := PA X es (tDA X.K T φ)
abbrev SD (X : Cx) (T : List (Addr × Str)) (s : Stmt) (φ : DS) : Prop := PS X s (tDS X.K T φ)
abbrev SsD (X : Cx) (T : List (Addr × Str)) (s : List Stmt) (φ : DS) : Prop := PSs X s (tDS X.K T φ)

section
variable {X : Cx} {T : List (Addr × Str)}
theorem pe_conv {e : Expr} {t t1 : TE} (h : PE X e t) (c : ∀ σ H Q, t1 σ H Q → t σ H Q) : PE X e t1 := ⟨fun pins s σ H Q I q => h.run pins s σ H Q I (c σ H Q q)⟩
theorem pt_conv {e : Expr} {t t1 : TT} (h : PT X e t) (c : ∀ σ H Q, t1 σ H Q → t σ H Q) : PT X e t1 := ⟨fun pins s σ H Q I q => h.run pins s σ H Q I (c σ H Q q)⟩
theorem pa_conv {e : List Expr} {t t1 : TA} (h : PA X e t) (c : ∀ σ H Q, t1 σ H Q → t σ H Q) : PA X e t1 := ⟨fun pos pins s σ H Q I q => h.run pos pins s σ H Q I (c σ H Q q)⟩
theorem ps_conv {e : Stmt} {t t1 : TS} (h : PS X e t) (c : ∀ σ H Q, t1 Q σ H → t Q σ H) : PS X e t1 := ⟨fun pins s σ H Q I q => h.run pins s σ H Q I (c σ H Q q)⟩
theorem pss_conv {e : List Stmt} {t t1 : TS} (h : PSs X e t) (c : ∀ σ H Q, t1 Q σ H → t Q σ H) : PSs X e t1 := ⟨fun pins s σ H Q I q => h.run pins s σ H Q I (c σ H Q q)⟩
/-- the reading of a part, with what follows -/
theorem tD_mk {K : PySem.W.Frag} {φ : DE} {as : Bx} {δ : Dl} {mu : Mu} {Qd : D → Mu → Prop} {σ : L2.St} {H : Hp} {Q : VK} (o : Ok K T as H σ δ mu) (h : φ δ mu Qd) (q : ∀ d mu1 v H1, Qd d mu1 → Post K T as H as H1 mu1 → Rd K as H1 v d → Q v H1) : tD K T φ σ H Q := ⟨as, δ, mu, Qd, o, h, q⟩

/-! ### names, constants -/
def dVar (i : Nat) : DE := fun δ mu Q => ∃ d, δ[i]? = some (some d) ∧ Q d mu
def dC (d : D) : DE := fun _ mu Q => Q d mu
theorem ed_var {e : Expr} (i : Nat) (h : PE X e (tVar i)) : ED X T e (dVar i) := pe_conv h fun σ H Q ⟨as, δ, mu, Qd, o, ⟨d, h1, h2⟩, q⟩ => by
  obtain ⟨v, h3, h4⟩ := o.rel i d h1
  exact ⟨v, h3, q d mu v H h2 o.post h4⟩
theorem ed_c {e : Expr} {v : V} {d : D} (h : PE X e (tC v)) (hr : ∀ as H, Rd X.K as H v d) : ED X T e (dC d) := pe_conv h fun σ H Q ⟨as, δ, mu, Qd, o, h1, q⟩ => q d mu v H h1 o.post (hr as H)
theorem ed_int {i : Int} {j pos} : ED X T (.Constant (.int i) j pos) (dC (.int i)) := ed_c pe_int fun _ _ => .int i
theorem ed_bl {b : Bool} {j pos} : ED X T (.Constant (.bool b) j pos) (dC (.bl b)) := ed_c pe_bl fun _ _ => .bl b
theorem ed_non {j pos} : ED X T (.Constant .none j pos) (dC .non) := ed_c pe_non fun _ _ => .non
theorem ed_str {x : Str} {j pos} : ED X T (.Constant (.str x) j pos) (dC (.str x)) := ed_c pe_str fun _ _ => .str x

/-! ### operators -/
abbrev R2D := D → D → (D → Prop) → Prop
/-- a rule by values, told of data -/
def OpD (X : Cx) (T : List (Addr × Str)) (r : R2) (ρ : R2D) : Prop :=
  ∀ (as : Bx) (H : Hp) (x y : V) (dx dy : D) (mu : Mu) (Qd : D → Prop) (Q : VK), Rd X.K as H x dx → Rd X.K as H y dy → Sto X.K as H mu → LamX.Tabs T H → ρ dx dy Qd →
    (∀ d v H1, Qd d → Post X.K T as H as H1 mu → Rd X.K as H1 v d → Q v H1) → r x y H Q
def d2 (ρ : R2D) (φa φb : DE) : DE := fun δ mu Q => φa δ mu fun x mu1 => φb δ mu1 fun y mu2 => ρ x y fun d => Q d mu2
def dCmp (ρ : R2D) (φa φb : DE) : DT := fun δ mu Q => φa δ mu fun x mu1 => φb δ mu1 fun y mu2 => ρ x y fun d => ∃ b, d = .bl b ∧ Q b mu2
theorem tOp_d {r : R2} {ρ : R2D} {φa φb : DE} (hd : OpD X T r ρ) {as : Bx} {δ : Dl} {mu : Mu} {Qd : D → Mu → Prop} {σ : L2.St} {H : Hp} {Q : VK} (o : Ok X.K T as H σ δ mu) (h : d2 ρ φa φb δ mu Qd)
    (q : ∀ d mu1 v H1, Qd d mu1 → Post X.K T as H as H1 mu1 → Rd X.K as H1 v d → Q v H1) : tOp r (tD X.K T φa) (tD X.K T φb) σ H Q := by
  refine tD_mk o h fun x mu1 v1 H1 h1 p1 r1 => ?_
  refine tD_mk (o.go p1) h1 fun y mu2 v2 H2 h2 p2 r2 => ?_
  exact hd as H2 v1 v2 x y mu2 _ Q (p2.fwd.rd r1) r2 p2.sto p2.tab h2 fun d v H3 hq p3 r3 => q d mu2 v H3 hq ((p1.trans p2).trans p3) r3
theorem ed_op {op : Operator} {r : R2} {ρ : R2D} {a b : Expr} {φa φb : DE} {pos : Pos} (ho : OpR X (binaryOp op) r) (hd : OpD X T r ρ) (ha : ED X T a φa) (hb : ED X T b φb) : ED X T (.BinOp a op b pos) (d2 ρ φa φb) :=
  pe_conv (pe_op ho ha hb) fun σ H Q ⟨as, δ, mu, Qd, o, h, q⟩ => tOp_d hd o h q
theorem ed_cmp {op : CmpOp} {r : R2} {ρ : R2D} {a b : Expr} {φa φb : DE} {pos : Pos} (ho : OpR X (compareOp op) r) (hd : OpD X T r ρ) (ha : ED X T a φa) (hb : ED X T b φb) (hm : behindInMarks op b = false) : ED X T (.Compare a [op] [b] pos) (d2 ρ φa φb) :=
  pe_conv (pe_cmpR ho ha hb hm) fun σ H Q ⟨as, δ, mu, Qd, o, h, q⟩ => tOp_d hd o h q
theorem td_cmp {op : CmpOp} {r : R2} {ρ : R2D} {a b : Expr} {φa φb : DE} {pos : Pos} (ho : OpR X (compareOp op) r) (hd : OpD X T r ρ) (ha : ED X T a φa) (hb : ED X T b φb) (hm : behindInMarks op b = false) : TD X T (.Compare a [op] [b] pos) (dCmp ρ φa φb) :=
  pt_conv (pt_cmpR ho ha hb hm) fun σ H Q ⟨as, δ, mu, Qd, o, h, q⟩ => by
    refine tOp_d (Qd := fun d mu2 => ∃ b, d = .bl b ∧ Qd b mu2) hd o h fun d mu1 v H1 ⟨b, e, hb⟩ p1 r1 => ?_
    subst e
    cases r1
    exact ⟨b, rfl, q b mu1 H1 hb p1⟩
/-- ints to an int, to a truth value -/
def rhoI (C : Int → Int → Prop) (g : Int → Int → Int) : R2D := fun x y Q => ∃ i j, x = .int i ∧ y = .int j ∧ C i j ∧ Q (.int (g i j))
def rhoI0 (g : Int → Int → Int) : R2D := fun x y Q => ∃ i j, x = .int i ∧ y = .int j ∧ Q (.int (g i j))
def rhoB (g : Int → Int → Bool) : R2D := fun x y Q => ∃ i j, x = .int i ∧ y = .int j ∧ Q (.bl (g i j))
theorem od_I {C : Int → Int → Prop} {g : Int → Int → Int} : OpD X T (rI C fun i j => .int (g i j)) (rhoI C g) := by
  intro as H x y dx dy mu Qd Q rx ry S TT ⟨i, j, ex, ey, c, h⟩ q
  subst ex ey
  cases rx
  cases ry
  exact ⟨i, j, rfl, rfl, c, q _ _ _ h ⟨Fwd.refl, S, TT⟩ (.int _)⟩
theorem od_I0 {g : Int → Int → Int} : OpD X T (rI0 fun i j => .int (g i j)) (rhoI0 g) := by
  intro as H x y dx dy mu Qd Q rx ry S TT ⟨i, j, ex, ey, h⟩ q
  subst ex ey
  cases rx
  cases ry
  exact ⟨i, j, rfl, rfl, q _ _ _ h ⟨Fwd.refl, S, TT⟩ (.int _)⟩
theorem od_B {g : Int → Int → Bool} : OpD X T (rI0 fun i j => .bl (g i j)) (rhoB g) := by
  intro as H x y dx dy mu Qd Q rx ry S TT ⟨i, j, ex, ey, h⟩ q
  subst ex ey
  cases rx
  cases ry
  exact ⟨i, j, rfl, rfl, q _ _ _ h ⟨Fwd.refl, S, TT⟩ (.bl _)⟩
/-- scalars -/
def isScal : D → D → Bool
  | .int _, .int _ => true
  | .bl _, .bl _ => true
  | .str _, .str _ => true
  | _, _ => false
def eqScal : D → D → Bool
  | .int i, .int j => decide (i = j)
  | .bl i, .bl j => decide (i = j)
  | .str i, .str j => decide (i = j)
  | _, _ => false
theorem dec_congr {A B : Prop} [Decidable A] [Decidable B] (h : A ↔ B) : decide A = decide B := by
  by_cases a : A
  · rw [decide_eq_true a, decide_eq_true (h.mp a)]
  · rw [decide_eq_false a, decide_eq_false (fun z => a (h.mpr z))]
theorem scal_V {as : Bx} {H : Hp} {x y : V} {dx dy : D} (rx : Rd X.K as H x dx) (ry : Rd X.K as H y dy) (h : isScal dx dy = true) : scal x y = true ∧ decide (x = y) = eqScal dx dy := by
  cases rx <;> cases ry
  case int.int i j => exact ⟨by simp [scal], dec_congr ⟨fun z => V.int.inj z, fun z => congrArg V.int z⟩⟩
  case bl.bl i j => exact ⟨by simp [scal], dec_congr ⟨fun z => V.bl.inj z, fun z => congrArg V.bl z⟩⟩
  case str.str i j => exact ⟨by simp [scal], dec_congr ⟨fun z => V.str.inj z, fun z => congrArg V.str z⟩⟩
  all_goals exact absurd h (by simp [isScal])
def rhoEq : R2D := fun x y Q => isScal x y = true ∧ Q (.bl (eqScal x y))
def rhoNe : R2D := fun x y Q => isScal x y = true ∧ Q (.bl (!eqScal x y))
theorem od_eq : OpD X T rEq rhoEq := by
  intro as H x y dx dy mu Qd Q rx ry S TT ⟨hs, h⟩ q
  obtain ⟨h1, h2⟩ := scal_V rx ry hs
  refine ⟨h1, ?_⟩
  rw [h2]
  exact q _ _ _ h ⟨Fwd.refl, S, TT⟩ (.bl _)
theorem od_ne : OpD X T rNe rhoNe := by
  intro as H x y dx dy mu Qd Q rx ry S TT ⟨hs, h⟩ q
  obtain ⟨h1, h2⟩ := scal_V rx ry hs
  refine ⟨h1, ?_⟩
  rw [h2]
  exact q _ _ _ h ⟨Fwd.refl, S, TT⟩ (.bl _)
end
end DL
end
section
/-! DL: tests, arguments, displays, statements, loops, defs. -/
namespace DL
open PySem PySem.Spec PyProof.Rows L2
section
variable {X : Cx} {T : List (Addr × Str)} {pos : Pos}

/-! ### tests -/
def dVal (φ : DE) : DT := fun δ mu Q => φ δ mu fun d mu1 => ∃ b, d = .bl b ∧ Q b mu1
theorem td_val {e : Expr} {φ : DE} (h : ED X T e φ) (he : ∀ whole, isTrue e X.env whole = (do let v ← whole; standAt e.pos; holding [v] (truthy v)) := by intro _; rfl) : TD X T e (dVal φ) :=
  pt_conv (pt_val h he) fun σ H Q ⟨as, δ, mu, Qd, o, h, q⟩ => tD_mk o h fun d mu1 v H1 ⟨b, e, hb⟩ p1 r1 => by
    subst e
    cases r1
    exact ⟨b, rfl, q b mu1 H1 hb p1⟩
abbrev WD (X : Cx) (T : List (Addr × Str)) (e : Expr) (φ : DT) : Prop := PW X e (tDT X.K T φ)
theorem pw_conv {e : Expr} {t t1 : TT} (h : PW X e t) (c : ∀ σ H Q, t1 σ H Q → t σ H Q) : PW X e t1 := ⟨fun wh pins s σ H Q I q => h.run wh pins s σ H Q I (c σ H Q q)⟩
def dAnd (φ ψ : DT) : DT := fun δ mu Q => φ δ mu fun c mu1 => if c = true then ψ δ mu1 Q else Q false mu1
def dOr (φ ψ : DT) : DT := fun δ mu Q => φ δ mu fun c mu1 => if c = true then Q true mu1 else ψ δ mu1 Q
def dNot (φ : DT) : DT := fun δ mu Q => φ δ mu fun c mu1 => Q (!c) mu1
theorem tDT_mk {K : PySem.W.Frag} {φ : DT} {as : Bx} {δ : Dl} {mu : Mu} {Qd : Bool → Mu → Prop} {σ : L2.St} {H : Hp} {Q : Bool → Hp → Prop} (o : Ok K T as H σ δ mu) (h : φ δ mu Qd) (q : ∀ b mu1 H1, Qd b mu1 → Post K T as H as H1 mu1 → Q b H1) : tDT K T φ σ H Q := ⟨as, δ, mu, Qd, o, h, q⟩
theorem wd_one {op : BoolOp} {a : Expr} {φ : DT} (hop : op = .And ∨ op = .Or) (h : TD X T a φ) : WD X T (.BoolOp op [a] pos) φ := by
  rcases hop with e | e
  · subst e; exact pw_and1 h
  · subst e; exact pw_or1 h
theorem wd_and {a b : Expr} {rest : List Expr} {φ ψ : DT} (ha : TD X T a φ) (hb : WD X T (.BoolOp .And (b :: rest) pos) ψ) : WD X T (.BoolOp .And (a :: b :: rest) pos) (dAnd φ ψ) :=
  pw_conv (pw_and ha hb) fun σ H Q ⟨as, δ, mu, Qd, o, h, q⟩ => tDT_mk o h fun c mu1 H1 hc p1 => by
    cases c with
    | true => exact tDT_mk (o.go p1) (by simpa using hc) fun b mu2 H2 hb p2 => q b mu2 H2 hb (p1.trans p2)
    | false => exact q false mu1 H1 (by simpa using hc) p1
theorem wd_or {a b : Expr} {rest : List Expr} {φ ψ : DT} (ha : TD X T a φ) (hb : WD X T (.BoolOp .Or (b :: rest) pos) ψ) : WD X T (.BoolOp .Or (a :: b :: rest) pos) (dOr φ ψ) :=
  pw_conv (pw_or ha hb) fun σ H Q ⟨as, δ, mu, Qd, o, h, q⟩ => tDT_mk o h fun c mu1 H1 hc p1 => by
    cases c with
    | true => exact q true mu1 H1 (by simpa using hc) p1
    | false => exact tDT_mk (o.go p1) (by simpa using hc) fun b mu2 H2 hb p2 => q b mu2 H2 hb (p1.trans p2)
theorem td_w {e : Expr} {φ : DT} (h : WD X T e φ) : TD X T e φ := h.pt
theorem td_not {a : Expr} {φ : DT} (h : TD X T a φ) : TD X T (.UnaryOp .Not a pos) (dNot φ) :=
  pt_conv (pt_not h) fun σ H Q ⟨as, δ, mu, Qd, o, h, q⟩ => tDT_mk o h fun c mu1 H1 hc p1 => q (!c) mu1 H1 hc p1
/-! ### and, or, not of truth values, as values -/
def dAndV (φ ψ : DE) : DE := fun δ mu Q => φ δ mu fun d mu1 => ∃ c, d = .bl c ∧ if c = true then ψ δ mu1 Q else Q (.bl false) mu1
def dOrV (φ ψ : DE) : DE := fun δ mu Q => φ δ mu fun d mu1 => ∃ c, d = .bl c ∧ if c = true then Q (.bl true) mu1 else ψ δ mu1 Q
def dNotV (φ : DE) : DE := fun δ mu Q => φ δ mu fun d mu1 => ∃ c, d = .bl c ∧ Q (.bl (!c)) mu1
theorem ed_one {op : BoolOp} {a : Expr} {φ : DE} (h : ED X T a φ) : ED X T (.BoolOp op [a] pos) φ := pe_one h
theorem ed_and {a b : Expr} {rest : List Expr} {φ ψ : DE} (ha : ED X T a φ) (hb : ED X T (.BoolOp .And (b :: rest) pos) ψ) : ED X T (.BoolOp .And (a :: b :: rest) pos) (dAndV φ ψ) :=
  pe_conv (pe_and ha hb) fun σ H Q ⟨as, δ, mu, Qd, o, h, q⟩ => tD_mk o h fun d mu1 v H1 ⟨c, e, hc⟩ p1 r1 => by
    subst e
    cases r1
    refine ⟨c, rfl, ?_⟩
    cases c with
    | true => exact tD_mk (o.go p1) (by simpa using hc) fun d mu2 v H2 hb p2 r2 => q d mu2 v H2 hb (p1.trans p2) r2
    | false => exact q (.bl false) mu1 _ H1 (by simpa using hc) p1 (.bl _)
theorem ed_or {a b : Expr} {rest : List Expr} {φ ψ : DE} (ha : ED X T a φ) (hb : ED X T (.BoolOp .Or (b :: rest) pos) ψ) : ED X T (.BoolOp .Or (a :: b :: rest) pos) (dOrV φ ψ) :=
  pe_conv (pe_or ha hb) fun σ H Q ⟨as, δ, mu, Qd, o, h, q⟩ => tD_mk o h fun d mu1 v H1 ⟨c, e, hc⟩ p1 r1 => by
    subst e
    cases r1
    refine ⟨c, rfl, ?_⟩
    cases c with
    | true => exact q (.bl true) mu1 _ H1 (by simpa using hc) p1 (.bl _)
    | false => exact tD_mk (o.go p1) (by simpa using hc) fun d mu2 v H2 hb p2 r2 => q d mu2 v H2 hb (p1.trans p2) r2
theorem ed_not {a : Expr} {φ : DE} (h : ED X T a φ) : ED X T (.UnaryOp .Not a pos) (dNotV φ) :=
  pe_conv (pe_not h) fun σ H Q ⟨as, δ, mu, Qd, o, h, q⟩ => tD_mk o h fun d mu1 v H1 ⟨c, e, hc⟩ p1 r1 => by
    subst e
    cases r1
    exact ⟨c, rfl, q _ mu1 _ H1 hc p1 (.bl _)⟩
/-- a if t else b -/
def dIfE (c : DT) (φ ψ : DE) : DE := fun δ mu Q => c δ mu fun b mu1 => if b = true then φ δ mu1 Q else ψ δ mu1 Q
theorem ed_if {c a b : Expr} {φc : DT} {φ ψ : DE} (hc : TD X T c φc) (ha : ED X T a φ) (hb : ED X T b ψ) : ED X T (.IfExp c a b pos) (dIfE φc φ ψ) :=
  pe_conv (pe_ifExp hc ha hb) fun σ H Q ⟨as, δ, mu, Qd, o, h, q⟩ => tDT_mk o h fun c mu1 H1 hc p1 => by
    cases c with
    | true => exact tD_mk (o.go p1) (by simpa using hc) fun d mu2 v H2 hb p2 r2 => q d mu2 v H2 hb (p1.trans p2) r2
    | false => exact tD_mk (o.go p1) (by simpa using hc) fun d mu2 v H2 hb p2 r2 => q d mu2 v H2 hb (p1.trans p2) r2
/-! ### is None -/
def isNon : D → Bool
  | .non => true
  | _ => false
def dIsN (φ : DE) : DE := fun δ mu Q => φ δ mu fun d mu1 => Q (.bl (isNon d)) mu1
def dNotN (φ : DE) : DE := fun δ mu Q => φ δ mu fun d mu1 => Q (.bl (!isNon d)) mu1
theorem non_dec {as : Bx} {H : Hp} {v : V} {d : D} (r : Rd X.K as H v d) : decide (v = .non) = isNon d := by
  cases r <;> first
    | rfl
    | exact decide_eq_false (fun z => nomatch z)
theorem ed_isN {a : Expr} {j : Nat} {pos' : Pos} {φ : DE} (h : ED X T a φ) : ED X T (.Compare a [.Is] [.Constant .none j pos'] pos) (dIsN φ) :=
  pe_conv (pe_cmp (pc_isN h)) fun σ H Q ⟨as, δ, mu, Qd, o, h, q⟩ => tD_mk o h fun d mu1 v H1 hd p1 r1 => by
    rw [non_dec r1]
    exact q _ mu1 _ H1 hd p1 (.bl _)
theorem ed_notN {a : Expr} {j : Nat} {pos' : Pos} {φ : DE} (h : ED X T a φ) : ED X T (.Compare a [.IsNot] [.Constant .none j pos'] pos) (dNotN φ) :=
  pe_conv (pe_cmp (pc_notN h)) fun σ H Q ⟨as, δ, mu, Qd, o, h, q⟩ => tD_mk o h fun d mu1 v H1 hd p1 r1 => by
    rw [non_dec r1]
    exact q _ mu1 _ H1 hd p1 (.bl _)
def dIsNT (φ : DE) : DT := fun δ mu Q => φ δ mu fun d mu1 => Q (isNon d) mu1
def dNotNT (φ : DE) : DT := fun δ mu Q => φ δ mu fun d mu1 => Q (!isNon d) mu1
theorem td_isN {a : Expr} {j : Nat} {pos' : Pos} {φ : DE} (h : ED X T a φ) : TD X T (.Compare a [.Is] [.Constant .none j pos'] pos) (dIsNT φ) :=
  pt_conv (pt_cmp (pc_isN h)) fun σ H Q ⟨as, δ, mu, Qd, o, h, q⟩ => tD_mk o h fun d mu1 v H1 hd p1 r1 => by
    rw [non_dec r1]
    exact ⟨_, rfl, q _ mu1 H1 hd p1⟩
theorem td_notN {a : Expr} {j : Nat} {pos' : Pos} {φ : DE} (h : ED X T a φ) : TD X T (.Compare a [.IsNot] [.Constant .none j pos'] pos) (dNotNT φ) :=
  pt_conv (pt_cmp (pc_notN h)) fun σ H Q ⟨as, δ, mu, Qd, o, h, q⟩ => tD_mk o h fun d mu1 v H1 hd p1 r1 => by
    rw [non_dec r1]
    exact ⟨_, rfl, q _ mu1 H1 hd p1⟩
/-! ### one operand -/
def d1 (ρ : D → (D → Prop) → Prop) (φ : DE) : DE := fun δ mu Q => φ δ mu fun d mu1 => ρ d fun e => Q e mu1
theorem ed_neg {a : Expr} {φ : DE} (h : ED X T a φ) : ED X T (.UnaryOp .USub a pos) (d1 (fun d Q => ∃ i, d = .int i ∧ Q (.int (-i))) φ) :=
  pe_conv (pe_un un_neg h) fun σ H Q ⟨as, δ, mu, Qd, o, h, q⟩ => tD_mk o h fun d mu1 v H1 ⟨i, e, hi⟩ p1 r1 => by
    subst e
    cases r1
    exact ⟨i, rfl, q _ mu1 _ H1 hi p1 (.int _)⟩

/-! ### arguments, displays -/
def aNil : DA := fun _ mu Q => Q [] mu
def aCons (φ : DE) (ψ : DA) : DA := fun δ mu Q => φ δ mu fun d mu1 => ψ δ mu1 fun ds mu2 => Q (d :: ds) mu2
theorem tDA_mk {K : PySem.W.Frag} {φ : DA} {as : Bx} {δ : Dl} {mu : Mu} {Qd : List D → Mu → Prop} {σ : L2.St} {H : Hp} {Q : List V → Hp → Prop} (o : Ok K T as H σ δ mu) (h : φ δ mu Qd) (q : ∀ b mu1 vs H1, Qd b mu1 → Post K T as H as H1 mu1 → RdAll K as H1 vs b → Q vs H1) : tDA K T φ σ H Q := ⟨as, δ, mu, Qd, o, h, q⟩
theorem ad_nil : AD X T [] aNil := pa_conv pa_nil fun σ H Q ⟨as, δ, mu, Qd, o, h, q⟩ => q [] mu [] H h o.post .nil
theorem ad_cons {e : Expr} {es : List Expr} {φ : DE} {ψ : DA} (he : ED X T e φ) (hr : AD X T es ψ) (hs : starEach (e :: es) X.env = (false, eval e X.env) :: starEach es X.env := by rfl) : AD X T (e :: es) (aCons φ ψ) :=
  pa_conv (pa_cons he hr hs) fun σ H Q ⟨as, δ, mu, Qd, o, h, q⟩ => tD_mk o h fun d mu1 v H1 hd p1 r1 => tDA_mk (o.go p1) hd fun ds mu2 vs H2 hds p2 r2 => q (d :: ds) mu2 (v :: vs) H2 hds (p1.trans p2) (.cons (p2.fwd.rd r1) r2)
/-- a new tuple, a new list -/
theorem post_new {K : PySem.W.Frag} {as : Bx} {H : Hp} {mu : Mu} {p : Addr} {ob : HO} (S : Sto K as H mu) (TT : LamX.Tabs T H) (n : H p = none) : Post K T as H as (upd H p ob) mu :=
  ⟨Fwd.new_at S.hn n, S.new_at n, TT.ext fun b o e => by rw [upd_ne (ne_of_none e n)]; exact e⟩
theorem rd_tup {K : PySem.W.Frag} {as : Bx} {H : Hp} {mu : Mu} {p : Addr} {vs : List V} {ds : List D} (S : Sto K as H mu) (n : H p = none) (r : RdAll K as H vs ds) : Rd K as (upd H p (.tup vs)) (.ref p) (.tup ds) :=
  .tup (.inl (.inl (hid_some.mpr ⟨S.notmem n, upd_same⟩))) ((Fwd.new_at S.hn n).rdA r)
theorem rd_lst {K : PySem.W.Frag} {as : Bx} {H : Hp} {mu : Mu} {p : Addr} {vs : List V} {ds : List D} (S : Sto K as H mu) (n : H p = none) (r : RdAll K as H vs ds) : Rd K as (upd H p (.lst vs)) (.ref p) (.lst ds) :=
  .lst (hid_some.mpr ⟨S.notmem n, upd_same⟩) ((Fwd.new_at S.hn n).rdA r)
def dTup (φ : DA) : DE := fun δ mu Q => φ δ mu fun ds mu1 => ds.length ≤ sizeLine ∧ Q (.tup ds) mu1
def dLst (φ : DA) : DE := fun δ mu Q => φ δ mu fun ds mu1 => ds.length ≤ sizeLine ∧ Q (.lst ds) mu1
theorem ed_tup {es : List Expr} {φ : DA} {x1} (h : AD X T es φ) : ED X T (.Tuple es x1 pos) (dTup φ) :=
  pe_conv (pe_tup h) fun σ H Q ⟨as, δ, mu, Qd, o, h, q⟩ => tDA_mk o h fun ds mu1 vs H1 hd p1 r1 => ⟨by rw [r1.length]; exact hd.1, fun p n => q _ mu1 _ _ hd.2 (p1.trans (post_new p1.sto p1.tab n)) (rd_tup p1.sto n r1)⟩
theorem ed_lst {es : List Expr} {φ : DA} (h : AD X T es φ) : ED X T (.List es pos) (dLst φ) :=
  pe_conv (pe_lst h) fun σ H Q ⟨as, δ, mu, Qd, o, h, q⟩ => tDA_mk o h fun ds mu1 vs H1 hd p1 r1 => ⟨by rw [r1.length]; exact hd.1, fun p n => q _ mu1 _ _ hd.2 (p1.trans (post_new p1.sto p1.tab n)) (rd_lst p1.sto n r1)⟩

/-! ### statements -/
/-- the slots as they then stand, by their value -/
def Put (δ : Dl) (Q : Dl → Prop) : Prop := ∀ δ1, δ1 = δ → Q δ1
theorem put_e {δ : Dl} {Q : Dl → Prop} (h : ∀ δ1, δ1 = δ → Q δ1) : Put δ Q := h
theorem Put.go {δ : Dl} {Q : Dl → Prop} (h : Put δ Q) : Q δ := h δ rfl
def sSet (φ : DE) (i : Nat) : DS := fun D δ mu => φ δ mu fun d mu1 => Put (δ.set i (some d)) fun δ1 => D.nx δ1 mu1
theorem EndsOk.nxs {K : PySem.W.Frag} {as : Bx} {H H1 : Hp} {Dd : DEnds} {E : Ends} {σ : L2.St} {δ : Dl} {mu mu1 : Mu} {v : V} {d : D} (en : EndsOk K T as H Dd E) (o : Ok K T as H σ δ mu) (i : Nat) (h : Put (δ.set i (some d)) fun δ1 => Dd.nx δ1 mu1) (p : Post K T as H as H1 mu1) (r : Rd K as H1 v d) : E.nx (σ.set i (some v)) H1 :=
  en.nx as _ mu1 _ H1 h.go p.fwd ((o.go p).set i r)
theorem sd_set {i : Nat} {x : Str} {e : Expr} {φ : DE} {pos' : Pos} (hN : X.N.Nodup) (hi : X.N[i]? = some x) (hx : Loc X.env.scope x) (he : ED X T e φ) (hs : swapsWith e (some (.Name x pos')) pos.line X.env = Pure.pure false := by rfl)
    (hf : X.fn x = true ∨ X.env.scope.names.lookup x = some .local := by first | exact .inl rfl | exact .inr rfl | assumption) : SD X T (.Assign [.Name x pos'] e pos) (sSet φ i) :=
  ps_conv (ps_set hN hi hx he hs hf) fun σ H E ⟨as, δ, mu, Dd, o, h, en⟩ => tD_mk o h fun d mu1 v H1 hd p1 r1 => en.nxs o i hd p1 r1
def sExpr (φ : DE) : DS := fun D δ mu => φ δ mu fun _ mu1 => D.nx δ mu1
theorem sd_expr {e : Expr} {φ : DE} (he : ED X T e φ) (hs : swapsWith e none pos.line X.env = Pure.pure false := by rfl) : SD X T (.Expr e pos) (sExpr φ) :=
  ps_conv (ps_expr he hs) fun σ H E ⟨as, δ, mu, Dd, o, h, en⟩ => tD_mk o h fun d mu1 v H1 hd p1 r1 => en.nx as δ mu1 σ H1 hd p1.fwd (o.go p1)
def sRet (φ : DE) : DS := fun D δ mu => φ δ mu fun d mu1 => D.rt d mu1
theorem sd_ret {e : Expr} {φ : DE} (he : ED X T e φ) : SD X T (.Return (some e) pos) (sRet φ) :=
  ps_conv (ps_ret he) fun σ H E ⟨as, δ, mu, Dd, o, h, en⟩ => tD_mk o h fun d mu1 v H1 hd p1 r1 => en.rt as d mu1 v H1 hd p1 r1
def sNever : DS := fun _ _ _ => False
theorem sd_never {s : Stmt} : SD X T s sNever := ps_conv ps_never fun σ H E ⟨_, _, _, _, _, h, _⟩ => h
theorem ssd_never {s : List Stmt} : SsD X T s sNever := pss_conv pss_never fun σ H E ⟨_, _, _, _, _, h, _⟩ => h
def sNil : DS := fun D δ mu => D.nx δ mu
def sSeq (φ ψ : DS) : DS := fun D δ mu => φ { D with nx := ψ D } δ mu
theorem ssd_nil : SsD X T [] sNil := pss_conv pss_nil fun σ H E ⟨as, δ, mu, Dd, o, h, en⟩ => en.nx as δ mu σ H h Fwd.refl o
theorem ssd_one {s : Stmt} {φ : DS} (h : SD X T s φ) : SsD X T [s] φ := pss_one h
theorem ssd_cons {s : Stmt} {r : List Stmt} {φ ψ : DS} (h : SD X T s φ) (hr : SsD X T r ψ) : SsD X T (s :: r) (sSeq φ ψ) :=
  pss_conv (pss_cons h hr) fun σ H E ⟨as, δ, mu, Dd, o, h, en⟩ => ⟨as, δ, mu, { Dd with nx := ψ Dd }, o, h, fun as1 δ1 mu1 σ1 H1 q f o1 => ⟨as1, δ1, mu1, Dd, o1, q, en.go f⟩, en.rt, en.bk, en.ct⟩
def sIf (c : DT) (φ ψ : DS) : DS := fun D δ mu => c δ mu fun b mu1 => if b = true then φ D δ mu1 else ψ D δ mu1
theorem sd_if {c : Expr} {a b : List Stmt} {φc : DT} {φ ψ : DS} (hc : TD X T c φc) (ha : SsD X T a φ) (hb : SsD X T b ψ) : SD X T (.If c a b pos) (sIf φc φ ψ) :=
  ps_conv (ps_if hc ha hb) fun σ H E ⟨as, δ, mu, Dd, o, h, en⟩ => tDT_mk o h fun b mu1 H1 hb p1 => by
    cases b with
    | true => exact ⟨as, δ, mu1, Dd, o.go p1, by simpa using hb, en.go p1.fwd⟩
    | false => exact ⟨as, δ, mu1, Dd, o.go p1, by simpa using hb, en.go p1.fwd⟩
/-- a, b = x, y -/
def sPar (i j : Nat) (φ : DA) : DS := fun D δ mu => φ δ mu fun ds mu1 => ∃ d e, ds = [d, e] ∧ Put ((δ.set i (some d)).set j (some e)) fun δ1 => D.nx δ1 mu1
theorem sd_par {i j : Nat} {x y : Str} {a b : Expr} {φ : DA} {px py pt : Pos} {kt k2 pt2} (hc : X.calm = true) (hN : X.N.Nodup) (hi : X.N[i]? = some x) (hj : X.N[j]? = some y) (hij : i ≠ j)
    (hx : X.env.scope.names.lookup x = some .local) (hy : X.env.scope.names.lookup y = some .local) (ha : AD X T [a, b] φ)
    (hw : swappedStores [.Tuple [.Name x px, .Name y py] kt pt] (.Tuple [a, b] k2 pt2) X.env = Pure.pure (some [x, y]))
    (hs : swapsWithSole [.Tuple [.Name x px, .Name y py] kt pt] (.Tuple [a, b] k2 pt2) pos.line X.env = Pure.pure false := by rfl) :
    SD X T (.Assign [.Tuple [.Name x px, .Name y py] kt pt] (.Tuple [a, b] k2 pt2) pos) (sPar i j φ) :=
  ps_conv (ps_par hc hN hi hj hij hx hy ha hw hs) fun σ H E ⟨as, δ, mu, Dd, o, h, en⟩ => tDA_mk o h fun ds mu1 vs H1 ⟨d, e, hd, hq⟩ p1 r1 => by
    subst hd
    cases r1 with
    | cons ra r1 =>
      cases r1 with
      | cons rb r1 =>
        cases r1
        exact ⟨_, _, rfl, en.nx as _ mu1 _ H1 hq.go p1.fwd (((o.go p1).set i ra).set j rb)⟩
/-! ### targets -/
abbrev GD (X : Cx) (T : List (Addr × Str)) (e : Expr) (g : DG) : Prop :=
  PG X e fun v σ H Q => ∃ as δ mu d Qd, Ok X.K T as H σ δ mu ∧ Rd X.K as H v d ∧ g d δ mu Qd ∧ ∀ δ1 mu1 σ1 H1, Qd δ1 mu1 → Fwd as H as H1 → Ok X.K T as H1 σ1 δ1 mu1 → Q σ1 H1
abbrev DGs := List D → Dl → Mu → (Dl → Mu → Prop) → Prop
abbrev GsD (X : Cx) (T : List (Addr × Str)) (e : List Expr) (g : DGs) : Prop :=
  PGs X e fun v σ H Q => ∃ as δ mu d Qd, Ok X.K T as H σ δ mu ∧ RdAll X.K as H v d ∧ g d δ mu Qd ∧ ∀ δ1 mu1 σ1 H1, Qd δ1 mu1 → Fwd as H as H1 → Ok X.K T as H1 σ1 δ1 mu1 → Q σ1 H1
theorem pg_conv {e : Expr} {t t1 : TG} (h : PG X e t) (c : ∀ v σ H Q, t1 v σ H Q → t v σ H Q) : PG X e t1 := ⟨fun pins s σ H v u Q I r q => h.run pins s σ H v u Q I r (c v σ H Q q)⟩
theorem pgs_conv {e : List Expr} {t t1 : TGs} (h : PGs X e t) (c : ∀ v σ H Q, t1 v σ H Q → t v σ H Q) : PGs X e t1 := ⟨fun pins s σ H v u Q I r q => h.run pins s σ H v u Q I r (c v σ H Q q)⟩
def gN (i : Nat) : DG := fun d δ mu Q => Put (δ.set i (some d)) fun δ1 => Q δ1 mu
def gsNil : DGs := fun ds δ mu Q => ds = [] ∧ Q δ mu
def gsCons (g : DG) (u : DGs) : DGs := fun ds δ mu Q => ∃ d r, ds = d :: r ∧ g d δ mu fun δ1 mu1 => u r δ1 mu1 Q
def gT (u : DGs) (n : Nat) : DG := fun d δ mu Q => ∃ ds, d = .tup ds ∧ ds.length = n ∧ u ds δ mu Q
theorem gd_name {i : Nat} {x : Str} (hN : X.N.Nodup) (hi : X.N[i]? = some x) (hx : Loc X.env.scope x) (hf : X.fn x = true ∨ X.env.scope.names.lookup x = some .local := by first | exact .inl rfl | exact .inr rfl | assumption) : GD X T (.Name x pos) (gN i) :=
  pg_conv (pg_name hN hi hx hf) fun v σ H Q ⟨as, δ, mu, d, Qd, o, r, h, q⟩ => q _ mu _ H h.go Fwd.refl (o.set i r)
theorem gsd_nil : GsD X T [] gsNil := pgs_conv pgs_nil fun v σ H Q ⟨as, δ, mu, d, Qd, o, r, h, q⟩ => by
  obtain ⟨e, h⟩ := h
  subst e
  cases r
  exact ⟨rfl, q _ mu _ H h Fwd.refl o⟩
theorem gsd_cons {e : Expr} {es : List Expr} {g : DG} {u : DGs} (h1 : GD X T e g) (h2 : GsD X T es u) (hs : (assignEach (e :: es) X.env).map (·.2) = assign e X.env :: (assignEach es X.env).map (·.2) := by rfl) : GsD X T (e :: es) (gsCons g u) :=
  pgs_conv (pgs_cons h1 h2 hs) fun v σ H Q ⟨as, δ, mu, d, Qd, o, r, ⟨d1, dr, e1, h⟩, q⟩ => by
    subst e1
    cases r with
    | cons ra rr =>
      exact ⟨_, _, rfl, as, δ, mu, d1, _, o, ra, h, fun δ1 mu1 σ1 H1 hq f o1 => ⟨as, δ1, mu1, dr, Qd, o1, f.rdA rr, hq, fun δ2 mu2 σ2 H2 hq2 f2 o2 => q δ2 mu2 σ2 H2 hq2 (f.trans f2) o2⟩⟩
theorem gd_tup {es : List Expr} {k : Nat} {u : DGs} {n : Nat} (hc : X.calm = true) (h : GsD X T es u)
    (hn : (assignEach es X.env).length = n := by rfl) (hst : (assignEach es X.env).findIdx? (·.1) = none := by rfl) : GD X T (.Tuple es k pos) (gT u n) :=
  pg_conv (pg_tup hc h hn hst) fun v σ H Q ⟨as, δ, mu, d, Qd, o, r, ⟨ds, e1, hl, h⟩, q⟩ => by
    subst e1
    obtain ⟨a, xs, rfl, hs, r1⟩ := r.tupI
    exact ⟨a, xs, rfl, hs, by rw [r1.length]; exact hl, as, δ, mu, ds, Qd, o, r1, h, q⟩
def sAsg (φ : DE) (g : DG) : DS := fun D δ mu => φ δ mu fun d mu1 => g d δ mu1 D.nx
theorem sd_asg {tg e : Expr} {φ : DE} {g : DG} (he : ED X T e φ) (hg : GD X T tg g) (hs : swapsWithSole [tg] e pos.line X.env = Pure.pure false := by rfl) (hw : swappedStores [tg] e X.env = Pure.pure none := by rfl)
    (h1 : (assignEach [tg] X.env).map (·.2) = [assign tg X.env] := by rfl) : SD X T (.Assign [tg] e pos) (sAsg φ g) :=
  ps_conv (ps_asg he hg hs hw h1) fun σ H E ⟨as, δ, mu, Dd, o, h, en⟩ => tD_mk o h fun d mu1 v H1 hd p1 r1 =>
    ⟨as, δ, mu1, d, _, o.go p1, r1, hd, fun δ2 mu2 σ2 H2 hq f2 o2 => en.nx as δ2 mu2 σ2 H2 hq (p1.fwd.trans f2) o2⟩
/-! ### loops -/
/-- one turn of a for -/
def turnD (Dd : DEnds) (φ : DS) (j : Nat) (P : Nat → Dl → Mu → Prop) (i : Nat) (x : D) (δ : Dl) (mu : Mu) : Prop :=
  Put (δ.set j (some x)) fun δ1 => φ { Dd with nx := P (i + 1), ct := P (i + 1), bk := Dd.nx } δ1 mu
def overD (ds : List D) (φ : DS) (j : Nat) : DS := fun Dd δ mu => ∃ P : Nat → Dl → Mu → Prop, P 0 δ mu ∧ (∀ i x δ mu, ds[i]? = some x → P i δ mu → turnD Dd φ j P i x δ mu) ∧ ∀ δ mu, P ds.length δ mu → Dd.nx δ mu
def sForL (φl : DE) (φ : DS) (j : Nat) : DS := fun Dd δ mu => φl δ mu fun d mu1 => ∃ ds, d = .lst ds ∧ overD ds φ j Dd δ mu1
def sForT (φl : DE) (φ : DS) (j : Nat) : DS := fun Dd δ mu => φl δ mu fun d mu1 => ∃ ds, d = .tup ds ∧ overD ds φ j Dd δ mu1
def overR (lo : Int) (n : Nat) (φ : DS) (j : Nat) : DS := fun Dd δ mu => ∃ P : Nat → Dl → Mu → Prop, P 0 δ mu ∧ (∀ (i : Nat) δ mu, i < n → P i δ mu → turnD Dd φ j P i (.int (lo + (i : Int))) δ mu) ∧ ∀ δ mu, P n δ mu → Dd.nx δ mu
def inR (i : Int) : Prop := -(2 ^ 62) ≤ i ∧ i < 2 ^ 62
def sForR1 (φa : DA) (φ : DS) (j : Nat) : DS := fun Dd δ mu => φa δ mu fun ds mu1 => ∃ n, ds = [.int n] ∧ inR n ∧ overR 0 n.toNat φ j Dd δ mu1
def sForR2 (φa : DA) (φ : DS) (j : Nat) : DS := fun Dd δ mu => φa δ mu fun ds mu1 => ∃ m n, ds = [.int m, .int n] ∧ inR m ∧ inR n ∧ overR m (n - m).toNat φ j Dd δ mu1
theorem loopEnds {as : Bx} {H H1 : Hp} {as1 : Bx} {Dd : DEnds} {E : Ends} {P : Dl → Mu → Prop} {Pv : L2.St → Hp → Prop} (en : EndsOk X.K T as H Dd E) (f : Fwd as H as1 H1)
    (hp : ∀ as2 δ2 mu2 σ2 H2, P δ2 mu2 → Fwd as1 H1 as2 H2 → Ok X.K T as2 H2 σ2 δ2 mu2 → Pv σ2 H2) :
    EndsOk X.K T as1 H1 { Dd with nx := P, ct := P, bk := Dd.nx } { E with nx := Pv, ct := Pv, bk := E.nx } :=
  ⟨hp, (en.go f).rt, (en.go f).nx, hp⟩
theorem sd_forL {x : Str} {j : Nat} {e : Expr} {body : List Stmt} {φl : DE} {φ : DS} {px : Pos} (hp : PassesOwn (model X.prog X.w) X.A X.env X.xe) (hc : X.calm = true) (hN : X.N.Nodup) (hi : X.N[j]? = some x) (hx : Loc X.env.scope x) (he : ED X T e φl) (hb : SsD X T body φ)
    (hf : X.fn x = true ∨ X.env.scope.names.lookup x = some .local := by first | exact .inl rfl | exact .inr rfl | assumption) (hs : ∀ x, foldedSetIterable e X.env x = Pure.pure x := by intro _; rfl) : SD X T (.For (.Name x px) e body [] pos) (sForL φl φ j) :=
  ps_conv (ps_for hp hc (pi_list he) (pg_name hN hi hx hf) hb hs) fun σ H E ⟨as, δ, mu, Dd, o, h, en⟩ => tD_mk o h fun d mu1 v H1 ⟨ds, ed, P, h0, hstep, hend⟩ p1 r1 => by
    subst ed
    cases r1 with
    | lst hS rA =>
      rename_i a xs
      refine ⟨a, rfl, ⟨xs, SqL.of (hid_some.mp hS).2⟩, for_list (xs := xs) (fun i σ2 H2 => ∃ as2 δ2 mu2, Fwd as H1 as2 H2 ∧ Ok X.K T as2 H2 σ2 δ2 mu2 ∧ P i δ2 mu2) ⟨as, δ, mu1, Fwd.refl, o.go p1, h0⟩ (fun i σ2 H2 _ ⟨as2, δ2, mu2, f2, _, _⟩ => SqL.of (hid_some.mp (f2.hid hS fun _ z => by cases z)).2)
        (fun i x σ2 H2 hxi ⟨as2, δ2, mu2, f2, o2, hP⟩ => ?_) fun σ2 H2 ⟨as2, δ2, mu2, f2, o2, hP⟩ => en.nx as2 δ2 mu2 σ2 H2 (hend _ _ (by rw [← rA.length]; exact hP)) (p1.fwd.trans f2) o2⟩
      obtain ⟨dx, hdx, rx⟩ := (f2.rdA rA).get' hxi
      exact ⟨as2, _, mu2, _, o2.set j rx, (hstep i dx δ2 mu2 hdx hP).go, loopEnds en (p1.fwd.trans f2) fun as3 δ3 mu3 σ3 H3 q f3 o3 => ⟨as3, δ3, mu3, f2.trans f3, o3, q⟩⟩
theorem sd_forT {x : Str} {j : Nat} {e : Expr} {body : List Stmt} {φl : DE} {φ : DS} {px : Pos} (hp : PassesOwn (model X.prog X.w) X.A X.env X.xe) (hc : X.calm = true) (hN : X.N.Nodup) (hi : X.N[j]? = some x) (hx : Loc X.env.scope x) (he : ED X T e φl) (hb : SsD X T body φ)
    (hf : X.fn x = true ∨ X.env.scope.names.lookup x = some .local := by first | exact .inl rfl | exact .inr rfl | assumption) (hs : ∀ x, foldedSetIterable e X.env x = Pure.pure x := by intro _; rfl) : SD X T (.For (.Name x px) e body [] pos) (sForT φl φ j) :=
  ps_conv (ps_for hp hc (pi_tup he) (pg_name hN hi hx hf) hb hs) fun σ H E ⟨as, δ, mu, Dd, o, h, en⟩ => tD_mk o h fun d mu1 v H1 ⟨ds, ed, P, h0, hstep, hend⟩ p1 r1 => by
    subst ed
    cases r1 with
    | tup hS rA =>
      rename_i a xs
      refine ⟨a, rfl, ⟨xs, seeT hS⟩, for_tup (xs := xs) (fun i σ2 H2 => ∃ as2 δ2 mu2, Fwd as H1 as2 H2 ∧ Ok X.K T as2 H2 σ2 δ2 mu2 ∧ P i δ2 mu2) ⟨as, δ, mu1, Fwd.refl, o.go p1, h0⟩ (fun i σ2 H2 _ ⟨as2, δ2, mu2, f2, _, _⟩ => seeT (sqT_of (fun _ _ h n => f2.hid h n) hS))
        (fun i x σ2 H2 hxi ⟨as2, δ2, mu2, f2, o2, hP⟩ => ?_) fun σ2 H2 ⟨as2, δ2, mu2, f2, o2, hP⟩ => en.nx as2 δ2 mu2 σ2 H2 (hend _ _ (by rw [← rA.length]; exact hP)) (p1.fwd.trans f2) o2⟩
      obtain ⟨dx, hdx, rx⟩ := (f2.rdA rA).get' hxi
      exact ⟨as2, _, mu2, _, o2.set j rx, (hstep i dx δ2 mu2 hdx hP).go, loopEnds en (p1.fwd.trans f2) fun as3 δ3 mu3 σ3 H3 q f3 o3 => ⟨as3, δ3, mu3, f2.trans f3, o3, q⟩⟩
theorem forR_core {as : Bx} {H H1 : Hp} {E : Ends} {Dd : DEnds} {σ : L2.St} {δ : Dl} {mu mu1 : Mu} {lo : Int} {n : Nat} {φ : DS} {j : Nat} (o : Ok X.K T as H σ δ mu) (en : EndsOk X.K T as H Dd E) (p1 : Post X.K T as H as H1 mu1) (h : overR lo n φ j Dd δ mu1) :
    ∃ W : Nat → Nat → L2.St → Hp → Prop, (∃ m, W 0 m σ H1) ∧ ∀ i m σ H, W i m σ H → ((Itr lo n).stop i H ∧ E.nx σ H) ∨ ((Itr lo n).go i H ∧ ∃ N : L2.St → Hp → Prop, (∀ σ' H', N σ' H' → ∃ m', m' < m ∧ W (i + 1) m' σ' H') ∧
      ∀ x H', (Itr lo n).yld i H x H' → gName j x σ H' fun σ2 H2 => tDS X.K T φ { E with nx := N, ct := N, bk := E.nx } σ2 H2) := by
  obtain ⟨P, h0, hstep, hend⟩ := h
  refine for_range (fun i σ2 H2 => ∃ as2 δ2 mu2, Fwd as H1 as2 H2 ∧ Ok X.K T as2 H2 σ2 δ2 mu2 ∧ P i δ2 mu2) ⟨as, δ, mu1, Fwd.refl, o.go p1, h0⟩ (fun i σ2 H2 hi ⟨as2, δ2, mu2, f2, o2, hP⟩ => ?_) fun σ2 H2 ⟨as2, δ2, mu2, f2, o2, hP⟩ => en.nx as2 δ2 mu2 σ2 H2 (hend _ _ hP) (p1.fwd.trans f2) o2
  exact ⟨as2, _, mu2, _, o2.set j (.int _), (hstep i δ2 mu2 hi hP).go, loopEnds en (p1.fwd.trans f2) fun as3 δ3 mu3 σ3 H3 q f3 o3 => ⟨as3, δ3, mu3, f2.trans f3, o3, q⟩⟩
theorem sd_forR1 {x : Str} {j : Nat} {a : Expr} {body : List Stmt} {φa : DA} {φ : DS} {px p cp : Pos} (hp : PassesOwn (model X.prog X.w) X.A X.env X.xe) (hc : X.calm = true) (hN : X.N.Nodup) (hi : X.N[j]? = some x) (hx : Loc X.env.scope x) (hg : Gl X "range") (hm : X.mg "range" = none) (ha : AD X T [a] φa) (hb : SsD X T body φ)
    (hf : X.fn x = true ∨ X.env.scope.names.lookup x = some .local := by first | exact .inl rfl | exact .inr rfl | assumption) (hse : starEach [a] X.env = [(false, eval a X.env)] := by rfl) (hs : ∀ x, foldedSetIterable (.Call (.Name "range" p) [a] [] cp) X.env x = Pure.pure x := by intro _; rfl) :
    SD X T (.For (.Name x px) (.Call (.Name "range" p) [a] [] cp) body [] pos) (sForR1 φa φ j) :=
  ps_conv (ps_for hp hc (pi_range1 hg hm ha hse) (pg_name hN hi hx hf) hb hs) fun σ H E ⟨as, δ, mu, Dd, o, h, en⟩ => tDA_mk o h fun ds mu1 vs H1 ⟨n, ed, ⟨b1, b2⟩, hq⟩ p1 r1 => by
    subst ed
    cases r1 with
    | cons r r1 =>
      cases r1
      cases r
      exact ⟨n, rfl, b1, b2, forR_core o en p1 hq⟩
theorem sd_forR2 {x : Str} {j : Nat} {a b : Expr} {body : List Stmt} {φa : DA} {φ : DS} {px p cp : Pos} (hp : PassesOwn (model X.prog X.w) X.A X.env X.xe) (hc : X.calm = true) (hN : X.N.Nodup) (hi : X.N[j]? = some x) (hx : Loc X.env.scope x) (hg : Gl X "range") (hm : X.mg "range" = none) (ha : AD X T [a, b] φa) (hb : SsD X T body φ)
    (hf : X.fn x = true ∨ X.env.scope.names.lookup x = some .local := by first | exact .inl rfl | exact .inr rfl | assumption) (hse : starEach [a, b] X.env = [(false, eval a X.env), (false, eval b X.env)] := by rfl) (hse2 : starEach [b] X.env = [(false, eval b X.env)] := by rfl) (hs : ∀ x, foldedSetIterable (.Call (.Name "range" p) [a, b] [] cp) X.env x = Pure.pure x := by intro _; rfl) :
    SD X T (.For (.Name x px) (.Call (.Name "range" p) [a, b] [] cp) body [] pos) (sForR2 φa φ j) :=
  ps_conv (ps_for hp hc (pi_range2 hg hm ha hse hse2) (pg_name hN hi hx hf) hb hs) fun σ H E ⟨as, δ, mu, Dd, o, h, en⟩ => tDA_mk o h fun ds mu1 vs H1 ⟨m, n, ed, ⟨b1, b2⟩, ⟨b3, b4⟩, hq⟩ p1 r1 => by
    subst ed
    cases r1 with
    | cons r r1 =>
      cases r1 with
      | cons r' r1 =>
        cases r1
        cases r
        cases r'
        exact ⟨m, n, rfl, ⟨b1, b2, b3, b4⟩, forR_core o en p1 hq⟩
/-- while: W by a measure -/
def sWhile (c : DT) (φ : DS) : DS := fun Dd δ mu => ∃ W : Nat → Dl → Mu → Prop, (∃ m, W m δ mu) ∧ ∀ m δ mu, W m δ mu →
  c δ mu fun b mu1 => if b = true then φ { Dd with nx := fun δ1 mu2 => ∃ m1, m1 < m ∧ W m1 δ1 mu2, ct := fun δ1 mu2 => ∃ m1, m1 < m ∧ W m1 δ1 mu2, bk := Dd.nx } δ mu1 else Dd.nx δ mu1
theorem sd_while {c : Expr} {body : List Stmt} {φc : DT} {φ : DS} (hp : PassesOwn (model X.prog X.w) X.A X.env X.xe) (hc : TD X T c φc) (hb : SsD X T body φ) : SD X T (.While c body [] pos) (sWhile φc φ) :=
  ps_conv (ps_while hp hc hb) fun σ H E ⟨as, δ, mu, Dd, o, ⟨W, ⟨m0, w0⟩, turn⟩, en⟩ => by
    refine ⟨fun m σ1 H1 => ∃ as1 δ1 mu1, Fwd as H as1 H1 ∧ Ok X.K T as1 H1 σ1 δ1 mu1 ∧ W m δ1 mu1, ⟨m0, as, δ, mu, Fwd.refl, o, w0⟩, ?_⟩
    rintro m σ1 H1 ⟨as1, δ1, mu1, f1, o1, w1⟩
    refine tDT_mk o1 (turn m δ1 mu1 w1) fun b mu2 H2 hb p2 => ?_
    cases b with
    | true =>
      rw [if_pos rfl] at hb ⊢
      refine ⟨fun σ3 H3 => ∃ m1, m1 < m ∧ ∃ as3 δ3 mu3, Fwd as H as3 H3 ∧ Ok X.K T as3 H3 σ3 δ3 mu3 ∧ W m1 δ3 mu3, fun σ3 H3 h3 => h3, as1, δ1, mu2, _, o1.go p2, hb, ?_⟩
      have back : ∀ as3 δ3 mu3 σ3 H3, (∃ m1, m1 < m ∧ W m1 δ3 mu3) → Fwd as1 H2 as3 H3 → Ok X.K T as3 H3 σ3 δ3 mu3 → ∃ m1, m1 < m ∧ ∃ as3 δ3 mu3, Fwd as H as3 H3 ∧ Ok X.K T as3 H3 σ3 δ3 mu3 ∧ W m1 δ3 mu3 :=
        fun as3 δ3 mu3 σ3 H3 ⟨m1, hm, w3⟩ f3 o3 => ⟨m1, hm, as3, δ3, mu3, (f1.trans p2.fwd).trans f3, o3, w3⟩
      exact ⟨back, (en.go (f1.trans p2.fwd)).rt, (en.go (f1.trans p2.fwd)).nx, back⟩
    | false =>
      rw [if_neg Bool.false_ne_true] at hb ⊢
      exact en.nx as1 δ1 mu2 σ1 H2 hb (f1.trans p2.fwd) (o1.go p2)

/-! ### defs -/
/-- what a def makes of data: the arguments, the boxes, what is wanted of the answer -/
abbrev PhiD := List D → Mu → (D → Mu → Prop) → Prop
def spD (K : PySem.W.Frag) (T : List (Addr × Str)) (Φ : PhiD) : Sp := fun vs H Q _ => ∃ as ds mu Qd, RdAll K as H vs ds ∧ Sto K as H mu ∧ LamX.Tabs T H ∧ Φ ds mu Qd ∧
  ∀ d mu1 v H1, Qd d mu1 → Post K T as H as H1 mu1 → Rd K as H1 v d → Q v H1
/-- the slots at a def's entry -/
def startD (N : List Str) (ds : List D) : Dl := ds.map some ++ List.replicate (N.length - ds.length) none
theorem start_ok {K : PySem.W.Frag} {as : Bx} {H : Hp} {N : List Str} {vs : List V} {ds : List D} {mu : Mu} (r : RdAll K as H vs ds) (S : Sto K as H mu) (TT : LamX.Tabs T H) : Ok K T as H (L2.start N vs) (startD N ds) mu := by
  refine ⟨?_, fun i d h => ?_, S, TT⟩
  · unfold L2.start startD
    simp only [List.length_append, List.length_map, List.length_replicate, r.length]
  · unfold startD at h
    by_cases hi : i < ds.length
    · rw [List.getElem?_append_left (by simpa using hi), List.getElem?_map] at h
      cases e : ds[i]? with
      | none => rw [e] at h; cases h
      | some d' =>
        rw [e] at h
        cases h
        obtain ⟨v, h1, h2⟩ := r.get e
        refine ⟨v, ?_, h2⟩
        unfold L2.start
        rw [List.getElem?_append_left (by rw [List.length_map, r.length]; exact hi), List.getElem?_map, h1]
        rfl
    · rw [List.getElem?_append_right (by simpa using hi), List.getElem?_replicate] at h
      split at h <;> cases h
/-- the ends of a def's body: new boxes are forgotten -/
def endsD (mu : Mu) (Qd : D → Mu → Prop) : DEnds := { nx := fun _ mu1 => Qd .non (mu1.take mu.length), rt := fun d mu1 => (pure d = true ∨ mu1.length = mu.length) ∧ Qd d (mu1.take mu.length) }
theorem hid_less {K : PySem.W.Frag} {as as1 : Bx} {H : Hp} (h : as.1 <+: as1.1) (h2 : as1.2 = as.2) : ∀ b o, hid as1 H b = some o → (∀ ps, o ≠ HO.tbl ps) → hid as H b = some o := fun b o q _ =>
  hid_some.mpr ⟨fun z => (hid_some.mp q).1 (z.elim (fun z => .inl (h.mem z)) fun z => .inr (by rw [h2]; exact z)), (hid_some.mp q).2⟩
theorem Post.back {K : PySem.W.Frag} {as as1 : Bx} {H H1 : Hp} {mu mu1 : Mu} (S : Sto K as H mu) (p : Post K T as H as1 H1 mu1) : Post K T as H as H1 (mu1.take mu.length) := by
  have hl := p.fwd.pre.length_le
  refine ⟨⟨List.prefix_refl _, rfl, fun _ h => .inl h, p.fwd.stay, p.fwd.there, p.fwd.keep⟩, ⟨S.nd, ?_, fun b h => let ⟨xs, e⟩ := S.hs b h; ⟨xs, (p.fwd.keep b h).trans e⟩, S.dj, fun k a ds h1 h2 => ?_⟩, p.tab⟩
  · rw [List.length_take, ← p.sto.len, S.len.symm]
    omega
  · have hk : k < as.1.length := (List.getElem?_eq_some_iff.mp h1).1
    rw [List.getElem?_take_of_lt (by rw [← S.len]; exact hk)] at h2
    obtain ⟨vs, q1, q2, q3⟩ := p.sto.get k a ds (pre_get p.fwd.pre k a h1) h2
    exact ⟨vs, q1, q2.mapP (hid_less (K := K) p.fwd.pre p.fwd.ext) q3, q3⟩
theorem rd_back {K : PySem.W.Frag} {as as1 : Bx} {H1 : Hp} {v : V} {d : D} (h : as.1 <+: as1.1) (h2 : as1.2 = as.2) (r : Rd K as1 H1 v d) (p : pure d = true) : Rd K as H1 v d :=
  r.mapP (hid_less (K := K) h h2) p
/-- THE RULE for a def by its body's data reading -/
theorem fn_d {P : Program} {w : World} {K : PySem.W.Frag} {mg : Str → Option Value} {base : Heap} {x qual : Str} {st : Stmt} {f : Addr} {fd : FuncData} {N ps : List Str} {k : Nat} {Φ : PhiD} {φ : DS} (F : Fun K x qual st f fd) (S : FnScope N ps (defScope st))
    (len : ∀ ds mu Qd, Φ ds mu Qd → ds.length = ps.length)
    (hbody : ∀ (cdv : Value) (A : Around) (outer : List Env) (s : Shared) (H : Hp) (E : XK), Room k (A.deeper (envOfC qual (defScope st) s.heap.objs.size f cdv)) → SsD (cxOf CX0 P w K mg base N qual (defScope st) f cdv A outer s H E).nox T (defBody st) φ)
    (hread : ∀ ds mu Qd, Φ ds mu Qd → Put (startD N ds) fun δ => φ (endsD mu Qd) δ mu) : FnOk P w K mg base CX0 (k + 1) f fd ps (spD K T Φ) := by
  refine F.ok S (fun vs H Q E ⟨as, ds, mu, Qd, r, _, _, h, _⟩ => by rw [r.length]; exact len ds mu Qd h) fun cdv A outer s H vs Q E hr ⟨as, ds, mu, Qd, r, S0, TT, h, q⟩ => ⟨_, hbody cdv A outer s H E hr, as, startD N ds, mu, _, start_ok r S0 TT, (hread ds mu Qd h).go, ?_⟩
  refine ⟨fun as1 δ1 mu1 σ1 H1 hq f1 o1 => ?_, fun as1 d mu1 v H1 ⟨hd, hq⟩ p1 r1 => ?_, fun _ _ _ _ _ z => z.elim, fun _ _ _ _ _ z => z.elim⟩
  · exact q _ _ _ H1 hq (Post.back S0 ⟨f1, o1.sto, o1.tab⟩) .non
  · rcases hd with hd | hd
    · exact q _ _ _ H1 hq (Post.back S0 p1) (rd_back p1.fwd.pre p1.fwd.ext r1 hd)
    · have e : as1 = as := by
        have h1 : as1.1.length = as.1.length := by rw [p1.sto.len, S0.len]; exact hd
        exact Prod.ext (p1.fwd.pre.eq_of_length h1.symm).symm p1.fwd.ext
      subst e
      exact q _ _ _ H1 hq (Post.back S0 p1) r1
/-- f(e, ..) -/
def dCall (Φ : PhiD) (φ : DA) : DE := fun δ mu Q => φ δ mu fun ds mu1 => Φ ds mu1 Q
theorem ed_call {k : Nat} {f : Addr} {fd : FuncData} {ps : List Str} {Φ : PhiD} {x : Str} {p : Pos} {e : Expr} {es : List Expr} {φ : DA} (F : FnOk X.prog X.w X.K X.mg X.base CX0 k f fd ps (spD X.K T Φ)) (hr : Room k X.A) (hg : Gl X x) (hm : X.mg x = some (.ref f)) (hk : PySem.W.keepIn X.K (.ref f) = true) (hb : Binds X.K fd ps [])
    (ha : AD X T (e :: es) φ) (hdb : (x == ("__debug__" : Str)) = false := by decide) (he : starEach (e :: es) X.env = (false, eval e X.env) :: starEach es X.env := by rfl) (hpl : (backTo pos (starEach es X.env)).any (·.1) = false := by rfl) : ED X T (.Call (.Name x p) (e :: es) [] pos) (dCall Φ φ) :=
  pe_conv (pe_call F hr hg hm hk hb .nil pass0 ha hdb he hpl) fun σ H Q ⟨as, δ, mu, Qd, o, h, q⟩ => tDA_mk o h fun ds mu1 vs H1 hd p1 r1 => by
    rw [List.append_nil]
    exact ⟨as, ds, mu1, Qd, r1, p1.sto, p1.tab, hd, fun d mu2 v H2 hq p2 r2 => q d mu2 v H2 hq (p1.trans p2) r2⟩
/-! ### built-ins by values -/
abbrev RcD := List D → (D → Prop) → Prop
def RcOk (X : Cx) (T : List (Addr × Str)) (r : List V → Hp → VK → Prop) (ρ : RcD) : Prop :=
  ∀ (as : Bx) (H : Hp) (vs : List V) (ds : List D) (mu : Mu) (Qd : D → Prop) (Q : VK), RdAll X.K as H vs ds → Sto X.K as H mu → LamX.Tabs T H → ρ ds Qd →
    (∀ d v H1, Qd d → Post X.K T as H as H1 mu → Rd X.K as H1 v d → Q v H1) → r vs H Q
def dCB (ρ : RcD) (φ : DA) : DE := fun δ mu Q => φ δ mu fun ds mu1 => ρ ds fun d => Q d mu1
theorem tCB_d {r : List V → Hp → VK → Prop} {ρ : RcD} {φ : DA} (hd : RcOk X T r ρ) {σ : L2.St} {H : Hp} {Q : VK} (h : tD X.K T (dCB ρ φ) σ H Q) : tCB r (tDA X.K T φ) σ H Q := by
  obtain ⟨as, δ, mu, Qd, o, h, q⟩ := h
  exact tDA_mk o h fun ds mu1 vs H1 hds p1 r1 => hd as H1 vs ds mu1 _ Q r1 p1.sto p1.tab hds fun d v H2 hq p2 r2 => q d mu1 v H2 hq (p1.trans p2) r2
theorem ed_callB {id : String} {x : Str} {p : Pos} {e : Expr} {es : List Expr} {r : List V → Hp → VK → Prop} {ρ : RcD} {φ : DA} (hd : RcOk X T r ρ) (hc : CallR X (.builtin id) r) (hg : Gl X x) (hm : X.mg x = none) (hv : bootBuiltins x = some (.builtin id)) (ha : AD X T (e :: es) φ) (hn : x ≠ "__name__" := by decide) (hdb : (x == ("__debug__" : Str)) = false := by decide)
    (he : starEach (e :: es) X.env = (false, eval e X.env) :: starEach es X.env := by rfl) (hpl : (backTo pos (starEach es X.env)).any (·.1) = false := by rfl) : ED X T (.Call (.Name x p) (e :: es) [] pos) (dCB ρ φ) :=
  pe_conv (pe_callB hc hg hm hv ha hn hdb he hpl) fun σ H Q h => tCB_d hd h
theorem ed_callTy {ty : String} {x : Str} {p : Pos} {e : Expr} {es : List Expr} {r : List V → Hp → VK → Prop} {ρ : RcD} {φ : DA} (hd : RcOk X T r ρ) (hc : CallR X (.type ty) r) (hg : Gl X x) (hm : X.mg x = none) (hv : bootBuiltins x = some (.type ty)) (ha : AD X T (e :: es) φ) (hn : x ≠ "__name__" := by decide) (hdb : (x == ("__debug__" : Str)) = false := by decide)
    (he : starEach (e :: es) X.env = (false, eval e X.env) :: starEach es X.env := by rfl) (hpl : (backTo pos (starEach es X.env)).any (·.1) = false := by rfl) : ED X T (.Call (.Name x p) (e :: es) [] pos) (dCB ρ φ) :=
  pe_conv (pe_callTy hc hg hm hv ha hn hdb he hpl) fun σ H Q h => tCB_d hd h
end
end DL
end
section
/-! DL: comprehensions. -/
namespace DL
open PySem PySem.Spec PyProof.Rows L2 RZ
section
variable {K : PySem.W.Frag} {as as1 as2 : Bx} {H H1 H2 : Hp}
/-- what is seen there is seen here -/
structure See (as : Bx) (H : Hp) (as1 : Bx) (H1 : Hp) : Prop where
  pre : as.1 <+: as1.1
  stay : ∀ b o, hid as H b = some o → (∀ ps, o ≠ .tbl ps) → hid as1 H1 b = some o
theorem Fwd.see (f : Fwd as H as1 H1) : See as H as1 H1 := ⟨f.pre, fun _ _ h n => f.hid h n⟩
theorem See.trans (a : See as H as1 H1) (b : See as1 H1 as2 H2) : See as H as2 H2 := ⟨a.pre.trans b.pre, fun x o h n => b.stay x o (a.stay x o h n) n⟩
theorem See.rd (f : See as H as1 H1) {v : V} {d : D} (r : Rd K as H v d) : Rd K as1 H1 v d := r.map f.stay (pre_get f.pre)
theorem See.rdA (f : See as H as1 H1) {v : List V} {d : List D} (r : RdAll K as H v d) : RdAll K as1 H1 v d := r.map f.stay (pre_get f.pre)
theorem See.refl : See as H as H := ⟨List.prefix_refl _, fun _ _ h _ => h⟩
end
/-- what J walks is the data ds -/
def Wk (K : PySem.W.Frag) (T : List (Addr × Str)) (J : It) (as : Bx) (H : Hp) (ds : List D) : Prop :=
  ∀ as2 H2 mu2, See as H as2 H2 → Sto K as2 H2 mu2 → LamX.Tabs T H2 → ∀ i, (i < ds.length → J.go i H2) ∧ (ds.length ≤ i → J.stop i H2) ∧ (i < ds.length → ∀ x H3, J.yld i H2 x H3 → ∃ d, ds[i]? = some d ∧ Rd K as2 H3 x d ∧ Post K T as2 H2 as2 H3 mu2)
abbrev ID (X : Cx) (T : List (Addr × Str)) (tg iter : Expr) (φ : DA) : Prop :=
  PI X tg iter fun σ H R => ∃ as δ mu Qd, Ok X.K T as H σ δ mu ∧ φ δ mu Qd ∧ ∀ ds mu1 H1 J, Qd ds mu1 → Post X.K T as H as H1 mu1 → Wk X.K T J as H1 ds → R J H1
theorem pi_conv {X : Cx} {tg iter : Expr} {t t1 : TI} (h : PI X tg iter t) (c : ∀ σ H Q, t1 σ H Q → t σ H Q) : PI X tg iter t1 := ⟨fun pins s σ H R I q => h.run pins s σ H R I (c σ H R q)⟩
section
variable {X : Cx} {T : List (Addr × Str)} {pos : Pos} {tg : Expr}
theorem wk_list {as : Bx} {H : Hp} {a : Addr} {xs : List V} {ds : List D} (hS : SqL X.K (hid as H) a xs) (r : RdAll X.K as H xs ds) : Wk X.K T (Itl X.K a) as H ds := by
  intro as2 H2 mu2 see S TT i
  have hS2 := seeL (sqL_of see.stay hS)
  have hl := r.length
  refine ⟨fun h => ⟨xs, xs[i]'(by omega), hS2, List.getElem?_eq_getElem _⟩, fun h => ⟨xs, hS2, by omega⟩, fun _ x H3 ⟨e, hy⟩ => ?_⟩
  subst e
  obtain ⟨d, h1, h2⟩ := (see.rdA r).get' (hy xs hS2)
  exact ⟨d, h1, h2, ⟨Fwd.refl, S, TT⟩⟩
theorem wk_tup {as : Bx} {H : Hp} {a : Addr} {xs : List V} {ds : List D} (hS : SqT X.K (hid as H) a xs) (r : RdAll X.K as H xs ds) : Wk X.K T (Itt X.K a) as H ds := by
  intro as2 H2 mu2 see S TT i
  have hS2 := seeT (sqT_of see.stay hS)
  have hl := r.length
  refine ⟨fun h => ⟨xs, xs[i]'(by omega), hS2, List.getElem?_eq_getElem _⟩, fun h => ⟨xs, hS2, by omega⟩, fun _ x H3 ⟨e, hy⟩ => ?_⟩
  subst e
  obtain ⟨d, h1, h2⟩ := (see.rdA r).get' (hy xs hS2)
  exact ⟨d, h1, h2, ⟨Fwd.refl, S, TT⟩⟩
def iLst (φ : DE) : DA := fun δ mu Q => φ δ mu fun d mu1 => ∃ ds, d = .lst ds ∧ Q ds mu1
def iTupD (φ : DE) : DA := fun δ mu Q => φ δ mu fun d mu1 => ∃ ds, d = .tup ds ∧ Q ds mu1
theorem id_list {e : Expr} {φ : DE} (h : ED X T e φ) : ID X T tg e (iLst φ) :=
  pi_conv (pi_list h) fun σ H R ⟨as, δ, mu, Qd, o, h, q⟩ => tD_mk o h fun d mu1 v H1 ⟨ds, e, hq⟩ p1 r1 => by
    subst e
    cases r1 with
    | lst hS r => exact ⟨_, rfl, ⟨_, SqL.of (hid_some.mp hS).2⟩, q ds mu1 H1 _ hq p1 (wk_list (.inl (.inl hS)) r)⟩
theorem id_tup {e : Expr} {φ : DE} (h : ED X T e φ) : ID X T tg e (iTupD φ) :=
  pi_conv (pi_tup h) fun σ H R ⟨as, δ, mu, Qd, o, h, q⟩ => tD_mk o h fun d mu1 v H1 ⟨ds, e, hq⟩ p1 r1 => by
    subst e
    cases r1 with
    | tup hS r => exact ⟨_, rfl, ⟨_, seeT hS⟩, q ds mu1 H1 _ hq p1 (wk_tup hS r)⟩
def rangeD (lo : Int) (n : Nat) : List D := (List.range n).map fun i => .int (lo + (i : Nat))
theorem wk_range {as : Bx} {H : Hp} {lo : Int} {n : Nat} : Wk X.K T (Itr lo n) as H (rangeD lo n) := by
  intro as2 H2 mu2 see S TT i
  have hl : (rangeD lo n).length = n := by simp [rangeD]
  refine ⟨fun h => by rw [hl] at h; exact h, fun h => by rw [hl] at h; exact h, fun hi x H3 ⟨e, hy⟩ => ?_⟩
  subst e hy
  rw [hl] at hi
  refine ⟨.int (lo + (i : Nat)), ?_, .int _, ⟨Fwd.refl, S, TT⟩⟩
  unfold rangeD
  rw [List.getElem?_map, List.getElem?_range hi]
  rfl
def iRg1 (φ : DA) : DA := fun δ mu Q => φ δ mu fun ds mu1 => ∃ n, ds = [.int n] ∧ inR n ∧ Q (rangeD 0 n.toNat) mu1
def iRg2 (φ : DA) : DA := fun δ mu Q => φ δ mu fun ds mu1 => ∃ m n, ds = [.int m, .int n] ∧ inR m ∧ inR n ∧ Q (rangeD m (n - m).toNat) mu1
theorem id_range1 {a : Expr} {φ : DA} {p : Pos} (hg : Gl X "range") (hm : X.mg "range" = none) (ha : AD X T [a] φ) (hs : starEach [a] X.env = [(false, eval a X.env)] := by rfl) : ID X T tg (.Call (.Name "range" p) [a] [] pos) (iRg1 φ) :=
  pi_conv (pi_range1 hg hm ha hs) fun σ H R ⟨as, δ, mu, Qd, o, h, q⟩ => tDA_mk o h fun ds mu1 vs H1 ⟨n, e, ⟨b1, b2⟩, hq⟩ p1 r1 => by
    subst e
    cases r1 with
    | cons r r1 =>
      cases r1
      cases r
      exact ⟨n, rfl, b1, b2, q _ mu1 H1 _ hq p1 wk_range⟩
theorem id_range2 {a b : Expr} {φ : DA} {p : Pos} (hg : Gl X "range") (hm : X.mg "range" = none) (ha : AD X T [a, b] φ) (hs : starEach [a, b] X.env = [(false, eval a X.env), (false, eval b X.env)] := by rfl) (hs2 : starEach [b] X.env = [(false, eval b X.env)] := by rfl) : ID X T tg (.Call (.Name "range" p) [a, b] [] pos) (iRg2 φ) :=
  pi_conv (pi_range2 hg hm ha hs hs2) fun σ H R ⟨as, δ, mu, Qd, o, h, q⟩ => tDA_mk o h fun ds mu1 vs H1 ⟨m, n, e, ⟨b1, b2⟩, ⟨b3, b4⟩, hq⟩ p1 r1 => by
    subst e
    cases r1 with
    | cons r r1 =>
      cases r1 with
      | cons r' r1 =>
        cases r1
        cases r
        cases r'
        exact ⟨m, n, rfl, ⟨b1, b2, b3, b4⟩, q _ mu1 H1 _ hq p1 wk_range⟩
def pairD (x y : D) : D := .tup [x, y]
theorem rd_pair {as : Bx} {H : Hp} {mu : Mu} {p : Addr} {x y : V} {dx dy : D} (S : Sto X.K as H mu) (n : H p = none) (rx : Rd X.K as H x dx) (ry : Rd X.K as H y dy) : Rd X.K as (upd H p (.tup [x, y])) (.ref p) (pairD dx dy) :=
  rd_tup S n (.cons rx (.cons ry .nil))
def enumD : Nat → List D → List D
  | _, [] => []
  | n, d :: r => pairD (.int (n : Int)) d :: enumD (n + 1) r
theorem enumD_length : ∀ (n : Nat) (ds : List D), (enumD n ds).length = ds.length
  | _, [] => rfl
  | n, d :: r => congrArg (· + 1) (enumD_length (n + 1) r)
theorem enumD_get : ∀ (n : Nat) (ds : List D) (i : Nat) (d : D), ds[i]? = some d → (enumD n ds)[i]? = some (pairD (.int ((n + i : Nat) : Int)) d)
  | _, [], _, _, h => by simp at h
  | n, e :: r, 0, d, h => by
    simp only [List.getElem?_cons_zero, Option.some.injEq] at h
    subst h
    rfl
  | n, e :: r, i + 1, d, h => by
    have := enumD_get (n + 1) r i d (by simpa using h)
    rw [show n + (i + 1) = n + 1 + i by omega]
    simpa [enumD] using this
theorem wk_enum {as : Bx} {H : Hp} {a : Addr} {xs : List V} {ds : List D} (hS : SqL X.K (hid as H) a xs) (r : RdAll X.K as H xs ds) : Wk X.K T (Ite X.K a) as H (enumD 0 ds) := by
  intro as2 H2 mu2 see S TT i
  have hS2 := seeL (sqL_of see.stay hS)
  have hl := r.length
  have hl2 := enumD_length 0 ds
  refine ⟨fun h => ⟨xs, xs[i]'(by omega), hS2, List.getElem?_eq_getElem _⟩, fun h => ⟨xs, hS2, by omega⟩, fun _ x H3 ⟨t, y, e1, n, e2, hy⟩ => ?_⟩
  subst e1 e2
  obtain ⟨d, h1, h2⟩ := (see.rdA r).get' (hy xs hS2)
  refine ⟨_, enumD_get 0 ds i d h1, ?_, post_new S TT n⟩
  rw [Nat.zero_add]
  exact rd_pair S n (.int _) h2
def iEnm (φ : DA) : DA := fun δ mu Q => φ δ mu fun ds mu1 => ∃ es, ds = [.lst es] ∧ Q (enumD 0 es) mu1
theorem id_enum {e : Expr} {φ : DA} {p tpos : Pos} {elts : List Expr} {kk : Nat} (hg : Gl X "enumerate") (hm : X.mg "enumerate" = none) (ha : AD X T [e] φ) (hs : starEach [e] X.env = [(false, eval e X.env)] := by rfl) : ID X T (.Tuple elts kk tpos) (.Call (.Name "enumerate" p) [e] [] pos) (iEnm φ) :=
  pi_conv (pi_enum hg hm ha hs) fun σ H R ⟨as, δ, mu, Qd, o, h, q⟩ => tDA_mk o h fun ds mu1 vs H1 ⟨es, e, hq⟩ p1 r1 => by
    subst e
    cases r1 with
    | cons r r1 =>
      cases r1
      cases r with
      | lst hS r => exact ⟨_, _, rfl, SqL.of (hid_some.mp hS).2, q _ mu1 H1 _ hq p1 (wk_enum (.inl (.inl hS)) r)⟩
def zipD (xs ys : List D) : List D := List.zipWith pairD xs ys
theorem zipD_get {xs ys : List D} {i : Nat} {x y : D} (h : xs[i]? = some x) (g : ys[i]? = some y) : (zipD xs ys)[i]? = some (pairD x y) := by
  unfold zipD
  rw [List.getElem?_zipWith, h, g]
theorem wk_zipL {as : Bx} {H : Hp} {a b : Addr} {xs ys : List V} {ds es : List D} (hS : SqL X.K (hid as H) a xs) (hS' : SqL X.K (hid as H) b ys) (r : RdAll X.K as H xs ds) (r' : RdAll X.K as H ys es) : Wk X.K T (Itz X.K a b) as H (zipD ds es) := by
  intro as2 H2 mu2 see S TT i
  have hS2 := seeL (sqL_of see.stay hS)
  have hS3 := seeL (sqL_of see.stay hS')
  have hl := r.length
  have hl' := r'.length
  have hz : (zipD ds es).length = min ds.length es.length := by simp [zipD]
  refine ⟨fun h => ⟨xs, ys, xs[i]'(by omega), ys[i]'(by omega), hS2, hS3, List.getElem?_eq_getElem _, List.getElem?_eq_getElem _⟩, fun h => ⟨xs, ys, hS2, hS3, by omega⟩, fun _ x H3 ⟨t, u, w', e1, n, e2, hy, hy'⟩ => ?_⟩
  subst e1 e2
  obtain ⟨d, h1, h2⟩ := (see.rdA r).get' (hy xs hS2)
  obtain ⟨d', h1', h2'⟩ := (see.rdA r').get' (hy' ys hS3)
  exact ⟨_, zipD_get h1 h1', rd_pair S n h2 h2', post_new S TT n⟩
theorem wk_zipT {as : Bx} {H : Hp} {a b : Addr} {xs ys : List V} {ds es : List D} (hS : SqT X.K (hid as H) a xs) (hS' : SqT X.K (hid as H) b ys) (r : RdAll X.K as H xs ds) (r' : RdAll X.K as H ys es) : Wk X.K T (ItzT X.K a b) as H (zipD ds es) := by
  intro as2 H2 mu2 see S TT i
  have hS2 := seeT (sqT_of see.stay hS)
  have hS3 := seeT (sqT_of see.stay hS')
  have hl := r.length
  have hl' := r'.length
  have hz : (zipD ds es).length = min ds.length es.length := by simp [zipD]
  refine ⟨fun h => ⟨xs, ys, xs[i]'(by omega), ys[i]'(by omega), hS2, hS3, List.getElem?_eq_getElem _, List.getElem?_eq_getElem _⟩, fun h => ⟨xs, ys, hS2, hS3, by omega⟩, fun _ x H3 ⟨t, u, w', e1, n, e2, hy, hy'⟩ => ?_⟩
  subst e1 e2
  obtain ⟨d, h1, h2⟩ := (see.rdA r).get' (hy xs hS2)
  obtain ⟨d', h1', h2'⟩ := (see.rdA r').get' (hy' ys hS3)
  exact ⟨_, zipD_get h1 h1', rd_pair S n h2 h2', post_new S TT n⟩
def iZp (φ : DA) : DA := fun δ mu Q => φ δ mu fun ds mu1 => ∃ xs ys, (ds = [.tup xs, .tup ys] ∨ ds = [.lst xs, .lst ys]) ∧ Q (zipD xs ys) mu1
theorem id_zip {e e2 : Expr} {φ : DA} {p tpos : Pos} {elts : List Expr} {kk : Nat} (hg : Gl X "zip") (hm : X.mg "zip" = none) (ha : AD X T [e, e2] φ)
    (hs : starEach [e, e2] X.env = (false, eval e X.env) :: starEach [e2] X.env := by rfl) (hpl : (backTo pos (starEach [e2] X.env)).any (·.1) = false := by rfl) : ID X T (.Tuple elts kk tpos) (.Call (.Name "zip" p) [e, e2] [] pos) (iZp φ) :=
  pi_conv (pi_zipA hg hm ha hs hpl) fun σ H R ⟨as, δ, mu, Qd, o, h, q⟩ => tDA_mk o h fun ds mu1 vs H1 ⟨xs, ys, e, hq⟩ p1 r1 => by
    rcases e with e | e
    · subst e
      cases r1 with
      | cons r r1 =>
        cases r1 with
        | cons r' r1 =>
          cases r1
          cases r with
          | tup hS r =>
            cases r' with
            | tup hS' r' => exact ⟨_, _, _, _, rfl, .inr ⟨seeT hS, seeT hS', q _ mu1 H1 _ hq p1 (wk_zipT hS hS' r r')⟩⟩
    · subst e
      cases r1 with
      | cons r r1 =>
        cases r1 with
        | cons r' r1 =>
          cases r1
          cases r with
          | lst hS r =>
            cases r' with
            | lst hS' r' => exact ⟨_, _, _, _, rfl, .inl ⟨SqL.of (hid_some.mp hS).2, SqL.of (hid_some.mp hS').2, q _ mu1 H1 _ hq p1 (wk_zipL (.inl (.inl hS)) (.inl (.inl hS')) r r')⟩⟩

/-! ### the comprehension -/
def wipeD (δ : Dl) : List Nat → Dl
  | [] => δ
  | v :: vs => (wipeD δ vs).set v none
theorem Ok.wipe {K : PySem.W.Frag} {as : Bx} {H : Hp} {σ : L2.St} {δ : Dl} {mu : Mu} (o : Ok K T as H σ δ mu) : ∀ vs : List Nat, Ok K T as H (L2.wipe σ vs) (wipeD δ vs) mu
  | [] => o
  | v :: vs => by
    have ih := Ok.wipe o vs
    refine ⟨by unfold L2.wipe wipeD; simp only [List.length_set]; exact ih.len, fun i d h => ?_, o.sto, o.tab⟩
    unfold wipeD at h
    by_cases z : v = i
    · subst z
      by_cases hl : v < (wipeD δ vs).length
      · rw [List.getElem?_set_self hl] at h; cases h
      · rw [List.getElem?_eq_none (by rw [List.length_set]; omega)] at h; cases h
    · rw [List.getElem?_set_ne z] at h
      obtain ⟨w, h1, h2⟩ := ih.rel i d h
      exact ⟨w, by unfold L2.wipe; rw [List.getElem?_set_ne z]; exact h1, h2⟩
/-- a target of a comprehension, with the names that it stores -/
def CompG (K : PySem.W.Frag) (T : List (Addr × Str)) (vs : List Nat) (g : TG) (gd : DG) : Prop :=
  ∀ (as : Bx) (H : Hp) (σ : L2.St) (δ : Dl) (mu : Mu) (x : V) (d : D) (Qd : Dl → Mu → Prop) (R : L2.St → Hp → Prop), Ok K T as H (L2.wipe σ vs) δ mu → Rd K as H x d → gd d δ mu Qd →
    (∀ δ1 mu1 σ2, Qd δ1 mu1 → L2.wipe σ2 vs = L2.wipe σ vs → Ok K T as H σ2 δ1 mu1 → R σ2 H) → g x (L2.wipe σ vs) H R
theorem cg_name {K : PySem.W.Frag} (j : Nat) : CompG K T [j] (gName j) (gN j) := by
  intro as H σ δ mu x d Qd R o r h q
  refine q _ mu _ h.go ?_ (o.set j r)
  simp [L2.wipe]
theorem cg_pair {K : PySem.W.Frag} (j k : Nat) : CompG K T [j, k] (gTup K 2 (gCons (gName j) (gCons (gName k) gNil))) (gT (gsCons (gN j) (gsCons (gN k) gsNil)) 2) := by
  intro as H σ δ mu x d Qd R o r ⟨ds, e, hl, d1, dr, e1, h⟩ q
  obtain ⟨d2, dr2, e2, h3⟩ := h.go
  obtain ⟨e3, h4⟩ := h3.go
  subst e e1 e2 e3
  cases r with
  | tup hS rA =>
    cases rA with
    | cons r1 rA =>
      cases rA with
      | cons r2 rA =>
        cases rA
        refine ⟨_, _, rfl, seeT hS, rfl, _, _, rfl, _, _, rfl, rfl, q _ mu _ h4 ?_ ((o.set j r1).set k r2)⟩
        simp only [L2.wipe]
        apply List.ext_getElem?
        intro i
        simp only [List.getElem?_set, List.length_set]
        split <;> split <;> simp_all
def LcBody (gd : DG) (φt : DT) (φe : DE) (δw : Dl) (ds : List D) (Q : D → Mu → Prop) (mu1 : Mu) : Prop := ∃ P : Nat → List D → Mu → Prop, P 0 [] mu1 ∧
  (∀ i x acc mu, ds[i]? = some x → P i acc mu → gd x δw mu fun δ2 mu2 => φt δ2 mu2 fun b mu3 => if b = true then φe δ2 mu3 fun y mu4 => acc.length < sizeLine ∧ pure y = true ∧ P (i + 1) (acc ++ [y]) mu4 else P (i + 1) acc mu3) ∧
  ∀ acc mu, P ds.length acc mu → Q (.lst acc) mu
def dLc (φi : DA) (gd : DG) (φt : DT) (φe : DE) (vs : List Nat) : DE := fun δ mu Q => φi δ mu fun ds mu1 => LcBody gd φt φe (wipeD δ vs) ds Q mu1
theorem pureAll_snoc : ∀ {ds : List D} {d : D}, pureAll ds = true → pure d = true → pureAll (ds ++ [d]) = true
  | [], d, _, h => by
    show pureAll [d] = true
    unfold pureAll
    rw [h]
    rfl
  | e :: r, d, h, g => by
    unfold pureAll at h
    rw [Bool.and_eq_true] at h
    show pureAll (e :: (r ++ [d])) = true
    unfold pureAll
    rw [h.1, pureAll_snoc h.2 g]
    rfl
theorem see_in {as : Bx} {H : Hp} {p : Addr} {o : HO} (n : H p = none) : See as H (as.1, p :: as.2) (upd H p o) :=
  ⟨List.prefix_refl _, fun b u h _ => by
    obtain ⟨h1, h2⟩ := hid_some.mp h
    have hne := ne_of_none h2 n
    refine hid_some.mpr ⟨fun z => ?_, by rw [upd_ne hne]; exact h2⟩
    rcases z with z | z
    · exact h1 (.inl z)
    · rcases List.mem_cons.mp z with z | z
      · exact hne z
      · exact h1 (.inr z)⟩
theorem hid_upd {as : Bx} {H : Hp} {p : Addr} {o : HO} (h : Hidn as p) : hid as (upd H p o) = hid as H := by
  funext b
  unfold hid
  by_cases z : Hidn as b
  · rw [if_pos z, if_pos z]
  · rw [if_neg z, if_neg z, upd_ne (fun e => z (by rw [e]; exact h))]
theorem Ok.hidW {K : PySem.W.Frag} {as : Bx} {H : Hp} {σ : L2.St} {δ : Dl} {mu : Mu} {p : Addr} {xs ys : List V} (o : Ok K T as H σ δ mu) (h : p ∈ as.2) (n1 : p ∉ as.1) (hp : H p = some (.lst xs)) : Ok K T as (upd H p (.lst ys)) σ δ mu := by
  have e : hid as (upd H p (.lst ys)) = hid as H := hid_upd (.inr h)
  have m : ∀ {v d}, Rd K as H v d → Rd K as (upd H p (.lst ys)) v d := fun r => r.map (fun _ _ q _ => by rw [e]; exact q) fun _ _ q => q
  have mA : ∀ {v d}, RdAll K as H v d → RdAll K as (upd H p (.lst ys)) v d := fun r => r.map (fun _ _ q _ => by rw [e]; exact q) fun _ _ q => q
  have hs1 : ∀ b, (∃ xs, H b = some (.lst xs)) → ∃ xs, (upd H p (.lst ys)) b = some (.lst xs) := fun b hb => by
    by_cases z : b = p
    · exact ⟨ys, by rw [z, upd_same]⟩
    · rw [upd_ne z]; exact hb
  refine ⟨o.len, fun i d q => let ⟨v, q1, q2⟩ := o.rel i d q; ⟨v, q1, m q2⟩, ⟨o.sto.nd, o.sto.len, fun b hb => hs1 b (o.sto.hs b hb), o.sto.dj, fun k a ds h1 h2 => ?_⟩, fun q hq => ?_⟩
  · obtain ⟨vs, q1, q2, q3⟩ := o.sto.get k a ds h1 h2
    refine ⟨vs, ?_, mA q2, q3⟩
    rw [upd_ne (fun z => n1 (by rw [← z]; exact List.mem_of_getElem? h1))]
    exact q1
  · obtain ⟨ps, t1, t2, t3⟩ := o.tab q hq
    have np : q.1 ≠ p := fun z => by rw [z, hp] at t1; cases t1
    refine ⟨ps, by rw [upd_ne np]; exact t1, t2, fun pos cv hc => ?_⟩
    obtain ⟨c, c1, c2⟩ := t3 pos cv hc
    refine ⟨c, c1, ?_⟩
    rw [upd_ne (fun z => by rw [z, hp] at c2; unfold LamX.CodeO at c2; cases c2)]
    exact c2
theorem less {as : Bx} {p : Addr} {H : Hp} {b : Addr} {o : HO} (w : hid (as.1, p :: as.2) H b = some o) : hid as H b = some o := by
  obtain ⟨h1, h2⟩ := hid_some.mp w
  exact hid_some.mpr ⟨fun z => h1 (z.elim .inl fun z => .inr (List.mem_cons_of_mem _ z)), h2⟩
/-- a list that nobody else has, behind the expression that made it -/
structure NewL (K : PySem.W.Frag) (T : List (Addr × Str)) (as : Bx) (H : Hp) (p : Addr) (H1 : Hp) (vs : List V) (es : List D) (mu1 : Mu) : Prop where
  post : Post K T as H as H1 mu1
  new : H p = none
  at_ : H1 p = some (.lst vs)
  rd : RdAll K (as.1, p :: as.2) H1 vs es
  sto : Sto K (as.1, p :: as.2) H1 mu1
  pu : pureAll es = true
theorem NewL.lst {K : PySem.W.Frag} {as : Bx} {H H1 : Hp} {p : Addr} {vs : List V} {es : List D} {mu1 : Mu} (N : NewL K T as H p H1 vs es mu1) : Rd K as H1 (.ref p) (.lst es) := by
  refine .lst (hid_some.mpr ⟨fun z => ?_, N.at_⟩) (N.rd.mapP (fun _ _ w _ => less w) N.pu)
  rcases z with z | z
  · exact N.sto.dj p z List.mem_cons_self
  · have h := N.at_
    rw [N.post.fwd.keep p z, N.new] at h
    cases h
abbrev srcD (K : PySem.W.Frag) (T : List (Addr × Str)) (φi : DA) : TI := fun σ H R => ∃ as δ mu Qd, Ok K T as H σ δ mu ∧ φi δ mu Qd ∧ ∀ ds mu1 H1 J, Qd ds mu1 → Post K T as H as H1 mu1 → Wk K T J as H1 ds → R J H1
theorem lc_read {K : PySem.W.Frag} {φi : DA} {g : TG} {gd : DG} {φt : DT} {φe : DE} {ws : List Nat} (hG : CompG K T ws g gd) {as : Bx} {δ : Dl} {mu : Mu} {Qd : D → Mu → Prop} {σ : L2.St} {H : Hp} {Q : VK} (o : Ok K T as H σ δ mu) (h : dLc φi gd φt φe ws δ mu Qd)
    (q : ∀ acc mu3 p H3 vacc, Qd (.lst acc) mu3 → NewL K T as H p H3 vacc acc mu3 → Q (.ref p) H3) : tLc (srcD K T φi) g (tDT K T φt) (tD K T φe) ws σ H Q := by
  refine ⟨as, δ, mu, _, o, h, fun ds mu1 H1 J ⟨P, h0, hstep, hend⟩ p1 wk p n => ?_⟩
  have see := see_in (as := as) (o := .lst []) n
  have o1 : Ok K T as H1 σ δ mu1 := o.go p1
  have np : ¬ Hidn as p := p1.sto.notmem n
  have pn := post_new (ob := .lst []) p1.sto p1.tab n
  have o2 : Ok K T (as.1, p :: as.2) (upd H1 p (.lst [])) (L2.wipe σ ws) (wipeD δ ws) mu1 := by
    refine Ok.wipe ⟨o1.len, fun i d hd => let ⟨v, q1, q2⟩ := o1.rel i d hd; ⟨v, q1, see.rd q2⟩, ⟨p1.sto.nd, p1.sto.len, fun b hb => ?_, fun b hb z => ?_, fun k a es e1 e2 => ?_⟩, pn.tab⟩ _
    · rcases List.mem_cons.mp hb with z | z
      · exact ⟨[], by rw [z, upd_same]⟩
      · obtain ⟨xs, e⟩ := p1.sto.hs b z
        exact ⟨xs, (pn.fwd.keep b z).trans e⟩
    · rcases List.mem_cons.mp z with z | z
      · exact np (.inl (by rw [← z]; exact hb))
      · exact p1.sto.dj b hb z
    · obtain ⟨vs, q1, q2, q3⟩ := p1.sto.get k a es e1 e2
      exact ⟨vs, by rw [upd_ne (ne_of_none q1 n)]; exact q1, see.rdA q2, q3⟩
  have back : ∀ {H3 H4 : Hp} {vacc : List V}, H3 p = some (.lst vacc) → Fwd (as.1, p :: as.2) H3 (as.1, p :: as.2) H4 → Fwd as H3 as H4 := fun {H3 H4 vacc} hp3 f => by
    refine ⟨List.prefix_refl _, rfl, fun _ h => .inl h, fun b ob nb hb ht => ?_, f.there, fun b hb => f.keep b (List.mem_cons_of_mem _ hb)⟩
    by_cases z : b = p
    · rw [z, f.keep p List.mem_cons_self, ← z]; exact hb
    · refine f.stay b ob (fun w => ?_) hb ht
      rcases w with w | w
      · exact nb (.inl w)
      · rcases List.mem_cons.mp w with w | w
        · exact z w
        · exact nb (.inr w)
  have wr : ∀ {H4 : Hp} {ys : List V}, Fwd as H1 as H4 → Fwd as H1 as (upd H4 p (.lst ys)) := fun {H4 ys} f => by
    refine ⟨List.prefix_refl _, rfl, fun _ h => .inl h, fun b ob nb hb ht => ?_, fun b hb => ?_, fun b hb => ?_⟩
    · rw [upd_ne (ne_of_none hb n)]; exact f.stay b ob nb hb ht
    · by_cases z : b = p
      · rw [z, upd_same]; simp
      · rw [upd_ne z]; exact f.there b hb
    · rw [upd_ne (fun z => np (.inr (by rw [← z]; exact hb)))]; exact f.keep b hb
  refine ⟨fun i m H3 => ∃ acc vacc mu3, m = ds.length - i ∧ i ≤ ds.length ∧ Fwd as H1 as H3 ∧ See as H1 (as.1, p :: as.2) H3 ∧ Ok K T (as.1, p :: as.2) H3 (L2.wipe σ ws) (wipeD δ ws) mu3 ∧ H3 p = some (.lst vacc) ∧
      RdAll K (as.1, p :: as.2) H3 vacc acc ∧ pureAll acc = true ∧ P i acc mu3, ⟨ds.length, [], [], mu1, by omega, by omega, pn.fwd, see, o2, upd_same, .nil, by unfold pureAll; rfl, h0⟩, ?_⟩
  rintro i m H3 ⟨acc, vacc, mu3, rfl, hi', f3, see3, o3, hp3, rA3, pu3, hP⟩
  have wki := wk (as.1, p :: as.2) H3 mu3 see3 o3.sto o3.tab i
  by_cases hlt : i < ds.length
  · refine .inr ⟨wki.1 hlt, fun H4 => ∃ acc vacc mu4, Fwd as H1 as H4 ∧ See as H1 (as.1, p :: as.2) H4 ∧ Ok K T (as.1, p :: as.2) H4 (L2.wipe σ ws) (wipeD δ ws) mu4 ∧ H4 p = some (.lst vacc) ∧
        RdAll K (as.1, p :: as.2) H4 vacc acc ∧ pureAll acc = true ∧ P (i + 1) acc mu4, fun H4 ⟨acc4, vacc4, mu4, f4, s4, o4, a1, a2, a3, a4⟩ => ⟨ds.length - (i + 1), by omega, acc4, vacc4, mu4, rfl, hlt, f4, s4, o4, a1, a2, a3, a4⟩, fun x H4 hy => ?_⟩
    obtain ⟨d, hd, rx, p4⟩ := wki.2.2 hlt x H4 hy
    have hpk : ∀ {H5 : Hp} {mu5 : Mu}, Post K T (as.1, p :: as.2) H3 (as.1, p :: as.2) H5 mu5 → H5 p = some (.lst vacc) := fun p5 => (p5.fwd.keep p List.mem_cons_self).trans hp3
    refine hG _ H4 σ _ mu3 x d _ _ (o3.go p4) rx (hstep i d acc mu3 hd hP) fun δ2 mu5 σ2 h5 hw o5 => ⟨hw, ?_⟩
    have p45 : Post K T (as.1, p :: as.2) H3 (as.1, p :: as.2) H4 mu5 := ⟨p4.fwd, o5.sto, o5.tab⟩
    refine tDT_mk o5 h5 fun b mu6 H6 h6 p6 => ?_
    have p46 := p45.trans p6
    cases b with
    | false =>
      rw [if_neg Bool.false_ne_true] at h6 ⊢
      exact ⟨acc, vacc, mu6, f3.trans (back hp3 p46.fwd), see3.trans p46.fwd.see, o3.go p46, hpk p46, p46.fwd.rdA rA3, pu3, h6⟩
    | true =>
      rw [if_pos rfl] at h6 ⊢
      refine tD_mk (o5.go p6) h6 fun y mu7 v H7 ⟨hlen, hpu, hP7⟩ p7 r7 => ?_
      have p47 := p46.trans p7
      have hp7 := hpk p47
      have o7 := o3.go p47
      have e7 : hid (as.1, p :: as.2) (upd H7 p (.lst (vacc ++ [v]))) = hid (as.1, p :: as.2) H7 := hid_upd (.inr List.mem_cons_self)
      refine ⟨vacc, hp7, by rw [rA3.length]; exact hlen, acc ++ [y], vacc ++ [v], mu7, wr (f3.trans (back hp3 p47.fwd)), ?_, o7.hidW List.mem_cons_self (fun z => np (.inl z)) hp7, upd_same, ?_, pureAll_snoc pu3 hpu, hP7⟩
      · exact ⟨List.prefix_refl _, by rw [e7]; exact (see3.trans p47.fwd.see).stay⟩
      · exact ((p47.fwd.rdA rA3).append (.cons r7 .nil)).map (fun _ _ q _ => by rw [e7]; exact q) fun _ _ q => q
  · have e : i = ds.length := by omega
    subst e
    refine .inl ⟨wki.2.1 (Nat.le_refl _), ?_⟩
    have pe : Post K T as H1 as H3 mu3 := ⟨f3, ⟨p1.sto.nd, o3.sto.len, fun b hb => let ⟨xs, e⟩ := p1.sto.hs b hb; ⟨xs, (f3.keep b hb).trans e⟩, p1.sto.dj, fun k a es e1 e2 => ?_⟩, o3.tab⟩
    · refine q acc mu3 p H3 vacc (hend acc mu3 hP) ⟨p1.trans pe, ?_, hp3, rA3, o3.sto, pu3⟩
      cases z : H p with
      | none => rfl
      | some u => exact absurd n (p1.fwd.there p (by rw [z]; simp))
    · obtain ⟨vs, q1, q2, q3⟩ := o3.sto.get k a es e1 e2
      exact ⟨vs, q1, q2.mapP (fun _ _ w _ => less w) q3, q3⟩
theorem ed_lc {elt tgt iter : Expr} {ifs : List Expr} {scope : Scope} {own : List (Str × Nat)} {φi : DA} {g : TG} {gd : DG} {φt : DT} {φe : DE} (hc : X.calm = true) (hN : X.N.Nodup) (hi : ID X T tgt iter φi) (ok : BlkOk X.N X.env.scope scope own)
    (hG : CompG X.K T (own.map (·.2)) g gd)
    (hg : ∀ (s : Shared) (H : Hp) (C : Addr) (cl : List (Str × Addr)) (fp : List Addr), PG (X.blk s H scope (compEnvC scope cl C X.env) fp) tgt g) (ht : ∀ (s : Shared) (H : Hp) (C : Addr) (cl : List (Str × Addr)) (fp : List Addr), PTs (X.blk s H scope (compEnvC scope cl C X.env) fp) ifs (tDT X.K T φt))
    (he : ∀ (s : Shared) (H : Hp) (C : Addr) (cl : List (Str × Addr)) (fp : List Addr), PE (X.blk s H scope (compEnvC scope cl C X.env) fp) elt (tD X.K T φe)) (hs : ∀ x, foldedSetIterable iter X.env x = Pure.pure x := by intro _; rfl) :
    ED X T (.ListComp elt [⟨tgt, iter, ifs, 0⟩] scope pos) (dLc φi gd φt φe (own.map (·.2))) :=
  pe_conv (pe_lc hc hN hi ok hg ht he hs) fun σ H Q ⟨as, δ, mu, Qd, o, h, q⟩ => lc_read hG o h fun acc mu3 p H3 vacc hq N => q _ mu3 _ H3 hq N.post N.lst
/-- a list that nobody else has -/
def tDN (K : PySem.W.Frag) (T : List (Addr × Str)) (φ : DE) : TE := fun σ H Q => ∃ as δ mu Qd, Ok K T as H σ δ mu ∧ φ δ mu Qd ∧ ∀ es mu1 p H1 vs, Qd (.lst es) mu1 → NewL K T as H p H1 vs es mu1 → Q (.ref p) H1
abbrev ND (X : Cx) (T : List (Addr × Str)) (e : Expr) (φ : DE) : Prop := PE X e (tDN X.K T φ)
theorem nd_lc {elt tgt iter : Expr} {ifs : List Expr} {scope : Scope} {own : List (Str × Nat)} {φi : DA} {g : TG} {gd : DG} {φt : DT} {φe : DE} (hc : X.calm = true) (hN : X.N.Nodup) (hi : ID X T tgt iter φi) (ok : BlkOk X.N X.env.scope scope own)
    (hG : CompG X.K T (own.map (·.2)) g gd)
    (hg : ∀ (s : Shared) (H : Hp) (C : Addr) (cl : List (Str × Addr)) (fp : List Addr), PG (X.blk s H scope (compEnvC scope cl C X.env) fp) tgt g) (ht : ∀ (s : Shared) (H : Hp) (C : Addr) (cl : List (Str × Addr)) (fp : List Addr), PTs (X.blk s H scope (compEnvC scope cl C X.env) fp) ifs (tDT X.K T φt))
    (he : ∀ (s : Shared) (H : Hp) (C : Addr) (cl : List (Str × Addr)) (fp : List Addr), PE (X.blk s H scope (compEnvC scope cl C X.env) fp) elt (tD X.K T φe)) (hs : ∀ x, foldedSetIterable iter X.env x = Pure.pure x := by intro _; rfl) :
    ND X T (.ListComp elt [⟨tgt, iter, ifs, 0⟩] scope pos) (dLc φi gd φt φe (own.map (·.2))) :=
  pe_conv (pe_lc hc hN hi ok hg ht he hs) fun σ H Q ⟨as, δ, mu, Qd, o, h, q⟩ => lc_read hG o h fun acc mu3 p H3 vacc hq N => q _ mu3 _ H3 _ hq N
/-- name = [..], the name a local -/
theorem sd_setLc {i : Nat} {y : Str} {py spos : Pos} {elt tgt iter : Expr} {ifs : List Expr} {scope : Scope} {own : List (Str × Nat)} {φi : DA} {g : TG} {gd : DG} {φt : DT} {φe : DE} (hc : X.calm = true) (hN : X.N.Nodup) (hy : X.N[i]? = some y) (hyl : X.env.scope.names.lookup y = some .local)
    (hsw : swapsWith (.ListComp elt [⟨tgt, iter, ifs, 0⟩] scope pos) (some (.Name y py)) spos.line X.env = Pure.pure true) (hi : ID X T tgt iter φi) (ok : BlkOk X.N X.env.scope scope own)
    (hG : CompG X.K T (own.map (·.2)) g gd)
    (hg : ∀ (s : Shared) (H : Hp) (C : Addr) (cl : List (Str × Addr)) (fp : List Addr), PG (X.blk s H scope (compEnvC scope cl C X.env) fp) tgt g) (ht : ∀ (s : Shared) (H : Hp) (C : Addr) (cl : List (Str × Addr)) (fp : List Addr), PTs (X.blk s H scope (compEnvC scope cl C X.env) fp) ifs (tDT X.K T φt))
    (he : ∀ (s : Shared) (H : Hp) (C : Addr) (cl : List (Str × Addr)) (fp : List Addr), PE (X.blk s H scope (compEnvC scope cl C X.env) fp) elt (tD X.K T φe)) (hs : ∀ x, foldedSetIterable iter X.env x = Pure.pure x := by intro _; rfl) :
    SD X T (.Assign [.Name y py] (.ListComp elt [⟨tgt, iter, ifs, 0⟩] scope pos) spos) (sSet (dLc φi gd φt φe (own.map (·.2))) i) :=
  ps_conv (ps_setLc hc hN hy hyl hsw hi ok hg ht he hs) fun σ H E ⟨as, δ, mu, Dd, o, h, en⟩ => lc_read hG o h fun acc mu3 p H3 vacc hq N => en.nxs o i hq N.post N.lst
/-! ### boxes are made -/
theorem NewL.box {K : PySem.W.Frag} {as : Bx} {H H1 : Hp} {p : Addr} {vs : List V} {es : List D} {mu1 : Mu} (N : NewL K T as H p H1 vs es mu1) : Post K T as H (as.1 ++ [p], as.2) H1 (mu1 ++ [es]) ∧ Rd K (as.1 ++ [p], as.2) H1 (.ref p) (.box mu1.length) := by
  have n1 : p ∉ as.1 := fun z => N.sto.dj p z List.mem_cons_self
  have n2 : p ∉ as.2 := fun z => by
    have h := N.at_
    rw [N.post.fwd.keep p z, N.new] at h
    cases h
  have e : hid (as.1 ++ [p], as.2) H1 = hid (as.1, p :: as.2) H1 := by
    funext b
    unfold hid
    have iff : Hidn (as.1 ++ [p], as.2) b ↔ Hidn (as.1, p :: as.2) b := by
      unfold Hidn
      simp only [List.mem_append, List.mem_cons, List.not_mem_nil, or_false]
      constructor
      · rintro ((z | z) | z)
        · exact .inl z
        · exact .inr (.inl z)
        · exact .inr (.inr z)
      · rintro (z | z | z)
        · exact .inl (.inl z)
        · exact .inl (.inr z)
        · exact .inr z
    by_cases z : Hidn (as.1 ++ [p], as.2) b
    · rw [if_pos z, if_pos (iff.mp z)]
    · rw [if_neg z, if_neg fun w => z (iff.mpr w)]
  have mA : ∀ {v d}, RdAll K (as.1, p :: as.2) H1 v d → RdAll K (as.1 ++ [p], as.2) H1 v d := fun r => RdAll.map (as := (as.1, p :: as.2)) (as1 := (as.1 ++ [p], as.2)) (H := H1) (H1 := H1) (fun _ _ q _ => by rw [e]; exact q) (fun k a q => pre_get (List.prefix_append as.1 [p]) k a q) r
  refine ⟨⟨⟨List.prefix_append _ _, rfl, fun b hb => ?_, N.post.fwd.stay, N.post.fwd.there, N.post.fwd.keep⟩, ⟨?_, ?_, fun b hb => N.sto.hs b (List.mem_cons_of_mem _ hb), fun b hb z => ?_, fun k a ds h1 h2 => ?_⟩, N.post.tab⟩, .box ?_⟩
  · rcases List.mem_append.mp hb with z | z
    · exact .inl z
    · rw [List.mem_singleton.mp z]; exact .inr N.new
  · rw [List.nodup_append]
    refine ⟨N.sto.nd, by simp, fun a ha b hb z => ?_⟩
    rw [List.mem_singleton.mp hb] at z
    rw [z] at ha
    exact n1 ha
  · show (as.1 ++ [p]).length = _
    rw [List.length_append, List.length_append, N.sto.len]
    rfl
  · rcases List.mem_append.mp hb with w | w
    · exact N.sto.dj b w (List.mem_cons_of_mem _ z)
    · rw [List.mem_singleton.mp w] at z; exact n2 z
  · have hl : as.1.length = mu1.length := N.sto.len
    by_cases hk : k < as.1.length
    · rw [List.getElem?_append_left hk] at h1
      rw [List.getElem?_append_left (by omega)] at h2
      obtain ⟨ws, q1, q2, q3⟩ := N.sto.get k a ds h1 h2
      exact ⟨ws, q1, mA q2, q3⟩
    · rw [List.getElem?_append_right (by omega)] at h1 h2
      have hk2 : k - as.1.length = 0 := by
        cases z : k - as.1.length with
        | zero => rfl
        | succ m => rw [z] at h1; simp at h1
      rw [hk2] at h1
      rw [show k - mu1.length = 0 by omega] at h2
      simp only [List.getElem?_cons_zero, Option.some.injEq] at h1 h2
      subst h1 h2
      exact ⟨vs, N.at_, mA N.rd, N.pu⟩
  · show (as.1 ++ [p])[mu1.length]? = some p
    rw [← show as.1.length = mu1.length from N.sto.len, List.getElem?_append_right (Nat.le_refl _), Nat.sub_self]
    rfl
def sBox (φ : DE) (i : Nat) : DS := fun Dd δ mu => φ δ mu fun d mu1 => ∃ es, d = .lst es ∧ Put (δ.set i (some (.box mu1.length))) fun δ1 => Dd.nx δ1 (mu1 ++ [es])
theorem box_nx {K : PySem.W.Frag} {as : Bx} {H H1 : Hp} {Dd : DEnds} {E : Ends} {σ : L2.St} {δ : Dl} {mu mu1 : Mu} {p : Addr} {vs : List V} {es : List D} (en : EndsOk K T as H Dd E) (o : Ok K T as H σ δ mu) (i : Nat) (h : Put (δ.set i (some (.box mu1.length))) fun δ1 => Dd.nx δ1 (mu1 ++ [es])) (N : NewL K T as H p H1 vs es mu1) :
    E.nx (σ.set i (some (.ref p))) H1 := en.nx _ _ _ _ H1 h.go N.box.1.fwd ((o.go N.box.1).set i N.box.2)
theorem sd_box {i : Nat} {x : Str} {e : Expr} {φ : DE} {pos' : Pos} (hN : X.N.Nodup) (hi : X.N[i]? = some x) (hx : Loc X.env.scope x) (he : ND X T e φ) (hs : swapsWith e (some (.Name x pos')) pos.line X.env = Pure.pure false := by rfl)
    (hf : X.fn x = true ∨ X.env.scope.names.lookup x = some .local := by first | exact .inl rfl | exact .inr rfl | assumption) : SD X T (.Assign [.Name x pos'] e pos) (sBox φ i) :=
  ps_conv (ps_set hN hi hx he hs hf) fun σ H E ⟨as, δ, mu, Dd, o, h, en⟩ => ⟨as, δ, mu, _, o, h, fun es mu1 p H1 vs ⟨es', e, hq⟩ N => by
    cases e
    exact box_nx en o i hq N⟩
theorem sd_boxLc {i : Nat} {y : Str} {py spos : Pos} {elt tgt iter : Expr} {ifs : List Expr} {scope : Scope} {own : List (Str × Nat)} {φi : DA} {g : TG} {gd : DG} {φt : DT} {φe : DE} (hc : X.calm = true) (hN : X.N.Nodup) (hy : X.N[i]? = some y) (hyl : X.env.scope.names.lookup y = some .local)
    (hsw : swapsWith (.ListComp elt [⟨tgt, iter, ifs, 0⟩] scope pos) (some (.Name y py)) spos.line X.env = Pure.pure true) (hi : ID X T tgt iter φi) (ok : BlkOk X.N X.env.scope scope own)
    (hG : CompG X.K T (own.map (·.2)) g gd)
    (hg : ∀ (s : Shared) (H : Hp) (C : Addr) (cl : List (Str × Addr)) (fp : List Addr), PG (X.blk s H scope (compEnvC scope cl C X.env) fp) tgt g) (ht : ∀ (s : Shared) (H : Hp) (C : Addr) (cl : List (Str × Addr)) (fp : List Addr), PTs (X.blk s H scope (compEnvC scope cl C X.env) fp) ifs (tDT X.K T φt))
    (he : ∀ (s : Shared) (H : Hp) (C : Addr) (cl : List (Str × Addr)) (fp : List Addr), PE (X.blk s H scope (compEnvC scope cl C X.env) fp) elt (tD X.K T φe)) (hs : ∀ x, foldedSetIterable iter X.env x = Pure.pure x := by intro _; rfl) :
    SD X T (.Assign [.Name y py] (.ListComp elt [⟨tgt, iter, ifs, 0⟩] scope pos) spos) (sBox (dLc φi gd φt φe (own.map (·.2))) i) :=
  ps_conv (ps_setLc hc hN hy hyl hsw hi ok hg ht he hs) fun σ H E ⟨as, δ, mu, Dd, o, h, en⟩ => lc_read hG o h fun acc mu3 p H3 vacc ⟨es, e, hq⟩ N => by
    cases e
    exact box_nx en o i hq N
/-- a display, list(t), as lists that nobody else has -/
theorem newL_of {K : PySem.W.Frag} {as : Bx} {H H1 : Hp} {mu1 : Mu} {p : Addr} {vs : List V} {es : List D} (p1 : Post K T as H as H1 mu1) (n : H1 p = none) (r : RdAll K as H1 vs es) (hp : pureAll es = true) : NewL K T as H p (upd H1 p (.lst vs)) vs es mu1 := by
  have see := see_in (as := as) (o := .lst vs) n
  have np : ¬ Hidn as p := p1.sto.notmem n
  have pn : Post K T as H1 as (upd H1 p (.lst vs)) mu1 := ⟨Fwd.new_at p1.sto.hn n, p1.sto.new_at n, p1.tab.ext fun b o e => by rw [upd_ne (ne_of_none e n)]; exact e⟩
  refine ⟨p1.trans pn, ?_, upd_same, see.rdA r, ⟨p1.sto.nd, p1.sto.len, fun b hb => ?_, fun b hb z => ?_, fun k a ds e1 e2 => ?_⟩, hp⟩
  · cases z : H p with
    | none => rfl
    | some u => exact absurd n (p1.fwd.there p (by rw [z]; simp))
  · rcases List.mem_cons.mp hb with z | z
    · exact ⟨vs, by rw [z, upd_same]⟩
    · obtain ⟨xs, e⟩ := p1.sto.hs b z
      exact ⟨xs, (pn.fwd.keep b z).trans e⟩
  · rcases List.mem_cons.mp z with z | z
    · exact np (.inl (by rw [← z]; exact hb))
    · exact p1.sto.dj b hb z
  · obtain ⟨ws, q1, q2, q3⟩ := p1.sto.get k a ds e1 e2
    exact ⟨ws, by rw [upd_ne (ne_of_none q1 n)]; exact q1, see.rdA q2, q3⟩
def dLstP (φ : DA) : DE := fun δ mu Q => φ δ mu fun ds mu1 => ds.length ≤ sizeLine ∧ pureAll ds = true ∧ Q (.lst ds) mu1
theorem nd_lst {es : List Expr} {φ : DA} (h : AD X T es φ) : ND X T (.List es pos) (dLstP φ) :=
  pe_conv (pe_lst h) fun σ H Q ⟨as, δ, mu, Qd, o, h, q⟩ => tDA_mk o h fun ds mu1 vs H1 hd p1 r1 => ⟨by rw [r1.length]; exact hd.1, fun p n => q _ mu1 _ _ _ hd.2.2 (newL_of p1 n r1 hd.2.1)⟩
end
end DL
end
section
/-! DL: built-ins and operators over data. -/
namespace DL
open PySem PySem.Spec PyProof.Rows L2
section
variable {X : Cx} {T : List (Addr × Str)} {pos : Pos}
theorem post_id {K : PySem.W.Frag} {as : Bx} {H : Hp} {mu : Mu} (S : Sto K as H mu) (TT : LamX.Tabs T H) : Post K T as H as H mu := ⟨Fwd.refl, S, TT⟩
/-! ### calls -/
def rcTuple : RcD := fun ds Q => ∃ es, (ds = [.lst es] ∨ ds = [.tup es]) ∧ Q (.tup es)
theorem rc_tuple : RcOk X T (fun xs H Q => ∃ p ys, xs = [.ref p] ∧ ((SqL X.K H p ys ∧ ∀ l, H l = none → Q (.ref l) (upd H l (.tup ys))) ∨ (SqT X.K H p ys ∧ Q (.ref p) H))) rcTuple := by
  intro as H vs ds mu Qd Q r S TT ⟨es, e, h⟩ q
  rcases e with e | e
  · subst e
    cases r with
    | cons r r1 =>
      cases r1
      cases r with
      | lst hS rA => exact ⟨_, _, rfl, .inl ⟨SqL.of (hid_some.mp hS).2, fun l n => q _ _ _ h (post_new S TT n) (rd_tup S n rA)⟩⟩
  · subst e
    cases r with
    | cons r r1 =>
      cases r1
      cases r with
      | tup hS rA => exact ⟨_, _, rfl, .inr ⟨seeT hS, q _ _ _ h (post_id S TT) (.tup hS rA)⟩⟩
def rcList : RcD := fun ds Q => ∃ es, (ds = [.lst es] ∨ ds = [.tup es]) ∧ Q (.lst es)
theorem rc_list : RcOk X T (fun xs H Q => ∃ p ys, xs = [.ref p] ∧ (SqL X.K H p ys ∨ SqT X.K H p ys) ∧ ∀ l, H l = none → Q (.ref l) (upd H l (.lst ys))) rcList := by
  intro as H vs ds mu Qd Q r S TT ⟨es, e, h⟩ q
  rcases e with e | e
  · subst e
    cases r with
    | cons r r1 =>
      cases r1
      cases r with
      | lst hS rA => exact ⟨_, _, rfl, .inl (SqL.of (hid_some.mp hS).2), fun l n => q _ _ _ h (post_new S TT n) (rd_lst S n rA)⟩
  · subst e
    cases r with
    | cons r r1 =>
      cases r1
      cases r with
      | tup hS rA => exact ⟨_, _, rfl, .inr (seeT hS), fun l n => q _ _ _ h (post_new S TT n) (rd_lst S n rA)⟩
def rcSum : RcD := fun ds Q => ∃ ns : List Int, ds = [.lst (ns.map D.int)] ∧ Q (.int ns.sum)
theorem rc_sum : RcOk X T (rSum X.K) rcSum := by
  intro as H vs ds mu Qd Q r S TT ⟨ns, e, h⟩ q
  subst e
  cases r with
  | cons r r1 =>
    cases r1
    cases r with
    | lst hS rA =>
      rename_i a xs
      have e := rA.ints
      subst e
      exact ⟨a, ns, rfl, SqL.of (hid_some.mp hS).2, q _ _ _ h (post_id S TT) (.int _)⟩
def rcAll : RcD := fun ds Q => ∃ bs : List Bool, ds = [.lst (bs.map D.bl)] ∧ Q (.bl (bs.all id))
theorem rc_all : RcOk X T (rAll X.K) rcAll := by
  intro as H vs ds mu Qd Q r S TT ⟨ns, e, h⟩ q
  subst e
  cases r with
  | cons r r1 =>
    cases r1
    cases r with
    | lst hS rA =>
      rename_i a xs
      have e := rA.bls
      subst e
      exact ⟨a, ns, rfl, SqL.of (hid_some.mp hS).2, q _ _ _ h (post_id S TT) (.bl _)⟩
def rcAny : RcD := fun ds Q => ∃ bs : List Bool, ds = [.lst (bs.map D.bl)] ∧ Q (.bl (bs.any id))
theorem rc_any : RcOk X T (rAny X.K) rcAny := by
  intro as H vs ds mu Qd Q r S TT ⟨ns, e, h⟩ q
  subst e
  cases r with
  | cons r r1 =>
    cases r1
    cases r with
    | lst hS rA =>
      rename_i a xs
      have e := rA.bls
      subst e
      exact ⟨a, ns, rfl, SqL.of (hid_some.mp hS).2, q _ _ _ h (post_id S TT) (.bl _)⟩
/-- what a tuple, a list, the script holds -/
def itemsD : D → Option (List D)
  | .tup es => some es
  | .lst es => some es
  | .scr es => some es
  | _ => none
theorem items_at {K : PySem.W.Frag} {as : Bx} {H : Hp} {v : V} {d : D} {es : List D} (r : Rd K as H v d) (h : itemsD d = some es) : ∃ a xs, v = .ref a ∧ (SqL K H a xs ∨ SqT K H a xs) ∧ RdAll K as H xs es := by
  cases r with
  | tup hS rA => cases h; exact ⟨_, _, rfl, .inr (seeT hS), rA⟩
  | lst hS rA => cases h; exact ⟨_, _, rfl, .inl (SqL.of (hid_some.mp hS).2), rA⟩
  | scr hS rA => cases h; exact ⟨_, _, rfl, .inl (seeL hS), rA⟩
  | _ => cases h
def rcLen : RcD := fun ds Q => ∃ d es, ds = [d] ∧ itemsD d = some es ∧ Q (.int es.length)
theorem rc_len : RcOk X T (fun xs H Q => ∃ p ys, xs = [.ref p] ∧ (SqL X.K H p ys ∨ SqT X.K H p ys) ∧ Q (.int ys.length) H) rcLen := by
  intro as H vs ds mu Qd Q r S TT ⟨d, es, e, he, h⟩ q
  subst e
  cases r with
  | cons r r1 =>
    cases r1
    obtain ⟨a, xs, rfl, hS, rA⟩ := items_at r he
    refine ⟨a, xs, rfl, hS, ?_⟩
    rw [rA.length]
    exact q _ _ _ h (post_id S TT) (.int _)
def rcAbs : RcD := fun ds Q => ∃ i, ds = [.int i] ∧ Q (.int (if i < 0 then -i else i))
theorem rc_abs : RcOk X T (fun xs H Q => ∃ i, xs = [.int i] ∧ Q (.int (if i < 0 then -i else i)) H) rcAbs := by
  intro as H vs ds mu Qd Q r S TT ⟨i, e, h⟩ q
  subst e
  cases r with
  | cons r r1 =>
    cases r1
    cases r
    exact ⟨i, rfl, q _ _ _ h (post_id S TT) (.int _)⟩
def rcMax2 : RcD := fun ds Q => ∃ i j, ds = [.int i, .int j] ∧ Q (.int (if j > i then j else i))
theorem rc_max2 : RcOk X T (fun xs H Q => ∃ i j, xs = [.int i, .int j] ∧ Q (.int (if j > i then j else i)) H) rcMax2 := by
  intro as H vs ds mu Qd Q r S TT ⟨i, j, e, h⟩ q
  subst e
  cases r with
  | cons r r1 =>
    cases r1 with
    | cons r' r1 =>
      cases r1
      cases r
      cases r'
      exact ⟨i, j, rfl, q _ _ _ h (post_id S TT) (.int _)⟩
def rcMin2 : RcD := fun ds Q => ∃ i j, ds = [.int i, .int j] ∧ Q (.int (if j < i then j else i))
theorem rc_min2 : RcOk X T (fun xs H Q => ∃ i j, xs = [.int i, .int j] ∧ Q (.int (if j < i then j else i)) H) rcMin2 := by
  intro as H vs ds mu Qd Q r S TT ⟨i, j, e, h⟩ q
  subst e
  cases r with
  | cons r r1 =>
    cases r1 with
    | cons r' r1 =>
      cases r1
      cases r
      cases r'
      exact ⟨i, j, rfl, q _ _ _ h (post_id S TT) (.int _)⟩
def rcInt : RcD := fun ds Q => (∃ i, ds = [.int i] ∧ Q (.int i)) ∨ ∃ k, ds = [.bl k] ∧ Q (.int (if k then 1 else 0))
theorem rc_int : RcOk X T (fun xs H Q => (∃ i, xs = [.int i] ∧ Q (.int i) H) ∨ ∃ k, xs = [.bl k] ∧ Q (.int (if k then 1 else 0)) H) rcInt := by
  intro as H vs ds mu Qd Q r S TT h q
  rcases h with ⟨i, e, h⟩ | ⟨k, e, h⟩
  · subst e
    cases r with
    | cons r r1 =>
      cases r1
      cases r
      exact .inl ⟨i, rfl, q _ _ _ h (post_id S TT) (.int _)⟩
  · subst e
    cases r with
    | cons r r1 =>
      cases r1
      cases r
      exact .inr ⟨k, rfl, q _ _ _ h (post_id S TT) (.int _)⟩
/-! ### isinstance(x, T) -/
def isiD (ty : String) : D → Option Bool
  | .non => some false
  | .bl _ => some (ty == "bool" || ty == "int")
  | .int _ => some (ty == "int")
  | .str _ => some false
  | .tup _ => some (ty == "tuple")
  | .lst _ => some false
  | .scr _ => none
  | .box _ => none
def dIsi (ty : String) (φ : DE) : DE := fun δ mu Q => φ δ mu fun d mu1 => ∃ b, isiD ty d = some b ∧ Q (.bl b) mu1
theorem isi_ok {K : PySem.W.Frag} {as : Bx} {H : Hp} {v : V} {d : D} {b : Bool} {ty : String} (hty : ty = "int" ∨ ty = "bool" ∨ ty = "tuple") (r : Rd K as H v d) (h : isiD ty d = some b) : ∃ t, TyX K H v t ∧ PySem.W.kitOne K t (.type ty) = some b := by
  cases r with
  | non => cases h; exact ⟨_, .base .non, by rcases hty with e | e | e <;> subst e <;> exact kit_ty (by decide +kernel)⟩
  | bl x => cases h; exact ⟨_, .base (.bl x), by rcases hty with e | e | e <;> subst e <;> exact kit_ty (by decide +kernel)⟩
  | int x => cases h; exact ⟨_, .base (.int x), by rcases hty with e | e | e <;> subst e <;> exact kit_ty (by decide +kernel)⟩
  | str x => cases h; exact ⟨_, .base (.str x), by rcases hty with e | e | e <;> subst e <;> exact kit_ty (by decide +kernel)⟩
  | tup hS rA =>
    cases h
    have k : PySem.W.kitOne K (.type "tuple") (.type ty) = some (ty == "tuple") := by rcases hty with e | e | e <;> subst e <;> exact kit_ty (by decide +kernel)
    rcases seeT hS with (z | ⟨o, z⟩) | ⟨o, its, n, z1, z2, _⟩
    · exact ⟨_, .base (.tup z), k⟩
    · exact ⟨_, .fTuple z, k⟩
    · exact ⟨_, .kTuple z1 z2, k⟩
  | lst hS rA => cases h; exact ⟨_, .base (.lst (hid_some.mp hS).2), by rcases hty with e | e | e <;> subst e <;> exact kit_ty (by decide +kernel)⟩
  | scr hS rA => cases h
  | box h' => cases h
theorem ed_isi {e : Expr} {φ : DE} {ty : String} {x : Str} {p pt : Pos} (hty : ty = "int" ∨ ty = "bool" ∨ ty = "tuple") (hg : Gl X "isinstance") (hm : X.mg "isinstance" = none) (hv : bootBuiltins "isinstance" = some (.builtin "isinstance")) (he : ED X T e φ) (ht : PE X (.Name x pt) (tC (.ty ty)))
    (hs : starEach [e, .Name x pt] X.env = (false, eval e X.env) :: starEach [.Name x pt] X.env := by rfl) (hs2 : starEach [.Name x pt] X.env = (false, eval (.Name x pt) X.env) :: starEach [] X.env := by rfl) (hpl : (backTo pos (starEach [.Name x pt] X.env)).any (·.1) = false := by rfl) :
    ED X T (.Call (.Name "isinstance" p) [e, .Name x pt] [] pos) (dIsi ty φ) :=
  pe_conv (pe_callB call_isi hg hm hv (pa_cons he (pa_cons ht pa_nil hs2) hs) (by decide) (by decide) hs hpl) fun σ H Q ⟨as, δ, mu, Qd, o, h, q⟩ => tD_mk o h fun d mu1 v H1 ⟨b, hb, hq⟩ p1 r1 => by
    obtain ⟨t, t1, t2⟩ := isi_ok hty r1 hb
    exact ⟨v, _, t, _, b, rfl, .ty ty, t1, t2, q _ mu1 _ H1 hq p1 (.bl _)⟩
/-! ### subscripts -/
def seqOf (mu : Mu) : D → Option (List D)
  | .tup es => some es
  | .lst es => some es
  | .scr es => some es
  | .box k => mu[k]?
  | _ => none
def dIx (φa φb : DE) : DE := fun δ mu Q => φa δ mu fun x mu1 => φb δ mu1 fun y mu2 => ∃ es i d, seqOf mu2 x = some es ∧ y = .int i ∧ atI es i = some d ∧ Q d mu2
theorem atI_rd {K : PySem.W.Frag} {as : Bx} {H : Hp} {xs : List V} {es : List D} {i : Int} {d : D} (r : RdAll K as H xs es) (h : atI es i = some d) : ∃ v, atI xs i = some v ∧ Rd K as H v d := by
  unfold atI at h ⊢
  rw [r.length]
  cases e : ixN es.length i with
  | none => rw [e] at h; cases h
  | some j =>
    rw [e] at h
    exact r.get (by simpa using h)
theorem seq_at {K : PySem.W.Frag} {as : Bx} {H : Hp} {v : V} {d : D} {es : List D} {mu : Mu} (S : Sto K as H mu) (r : Rd K as H v d) (h : seqOf mu d = some es) : ∃ a xs, v = .ref a ∧ (SqL K H a xs ∨ SqT K H a xs) ∧ RdAll K as H xs es := by
  cases r with
  | tup hS rA => cases h; exact ⟨_, _, rfl, .inr (seeT hS), rA⟩
  | lst hS rA => cases h; exact ⟨_, _, rfl, .inl (SqL.of (hid_some.mp hS).2), rA⟩
  | scr hS rA => cases h; exact ⟨_, _, rfl, .inl (seeL hS), rA⟩
  | box hb =>
    obtain ⟨vs, q1, q2, _⟩ := S.get _ _ _ hb h
    exact ⟨_, _, rfl, .inl (SqL.of q1), q2⟩
  | _ => cases h
theorem ed_ix {a b : Expr} {φa φb : DE} (ha : ED X T a φa) (hb : ED X T b φb) (hs : PlainIx b) : ED X T (.Subscript a b pos) (dIx φa φb) :=
  pe_conv (pe_ix (ix_list.or ix_tup) ha hb hs) fun σ H Q ⟨as, δ, mu, Qd, o, h, q⟩ => tD_mk o h fun x mu1 v H1 h1 p1 r1 => tD_mk (o.go p1) h1 fun y mu2 w' H2 ⟨es, i, d, hseq, hy, hat, hq⟩ p2 r2 => by
    subst hy
    cases r2
    obtain ⟨a, xs, rfl, hS, rA⟩ := seq_at p2.sto (p2.fwd.rd r1) hseq
    obtain ⟨u, hu, ru⟩ := atI_rd rA hat
    rcases hS with hS | hS
    · exact .inl ⟨a, xs, i, u, rfl, rfl, hS, hu, q d mu2 u H2 hq (p1.trans p2) ru⟩
    · exact .inr ⟨a, xs, i, u, rfl, rfl, hS, hu, q d mu2 u H2 hq (p1.trans p2) ru⟩
abbrev DO := Dl → Mu → (Option Int → Mu → Prop) → Prop
def oNone : DO := fun _ mu Q => Q none mu
def oSome (φ : DE) : DO := fun δ mu Q => φ δ mu fun d mu1 => ∃ i, d = .int i ∧ Q (some i) mu1
abbrev OD (X : Cx) (T : List (Addr × Str)) (e : Option Expr) (φ : DO) : Prop :=
  PO X e fun σ H Q => ∃ as δ mu Qd, Ok X.K T as H σ δ mu ∧ φ δ mu Qd ∧ ∀ i mu1 H1, Qd i mu1 → Post X.K T as H as H1 mu1 → Q i H1
theorem po_conv {e : Option Expr} {t t1 : TO} (h : PO X e t) (c : ∀ σ H Q, t1 σ H Q → t σ H Q) : PO X e t1 := ⟨fun pins s σ H Q I q => h.run pins s σ H Q I (c σ H Q q)⟩
theorem od_none : OD X T none oNone := po_conv po_none fun σ H Q ⟨as, δ, mu, Qd, o, h, q⟩ => q none mu H h o.post
theorem od_some {e : Expr} {φ : DE} (h : ED X T e φ) : OD X T (some e) (oSome φ) := po_conv (po_some h) fun σ H Q ⟨as, δ, mu, Qd, o, h, q⟩ => tD_mk o h fun d mu1 v H1 ⟨i, e, hi⟩ p1 r1 => by
  subst e
  cases r1
  exact ⟨i, rfl, q _ mu1 H1 hi p1⟩
def cutD {α : Type} (xs : List α) (lo hi : Option Int) : List α := (xs.drop (HT.sIx xs.length 0 lo)).take (HT.sIx xs.length xs.length hi - HT.sIx xs.length 0 lo)
theorem cut_rd {K : PySem.W.Frag} {as : Bx} {H : Hp} {xs : List V} {es : List D} (r : RdAll K as H xs es) (lo hi : Option Int) : RdAll K as H (cutV xs lo hi) (cutD es lo hi) := by
  unfold cutV cutD
  rw [r.length]
  exact (r.drop _).take _
def dSl (φ : DE) (l h : DO) : DE := fun δ mu Q => φ δ mu fun x mu1 => l δ mu1 fun lo mu2 => h δ mu2 fun hi mu3 => (∃ es, x = .tup es ∧ Q (.tup (cutD es lo hi)) mu3) ∨ (∃ es, (x = .lst es ∨ x = .scr es) ∧ Q (.lst (cutD es lo hi)) mu3)
theorem ed_sl {e : Expr} {lo hi : Option Expr} {φ : DE} {l h : DO} {p2 : Pos} (he : ED X T e φ) (hl : OD X T lo l) (hh : OD X T hi h) : ED X T (.Subscript e (.Slice lo hi none p2) pos) (dSl φ l h) :=
  pe_conv (pe_slice (sl_tupA.or sl_list) he hl hh) fun σ H Q ⟨as, δ, mu, Qd, o, h, q⟩ => tD_mk o h fun x mu1 v H1 h1 p1 r1 => ⟨as, δ, mu1, _, o.go p1, h1, fun lo mu2 H2 h2 p2 => ⟨as, δ, mu2, _, (o.go p1).go p2, h2, fun hi mu3 H3 h3 p3 => by
    have pp := (p1.trans p2).trans p3
    rcases h3 with ⟨es, e, hq⟩ | ⟨es, e, hq⟩
    · subst e
      cases (p2.trans p3).fwd.rd r1 with
      | tup hS rA =>
        rename_i a xs
        refine .inl ⟨a, xs, rfl, seeT hS, fun hw => ?_, fun _ p n => q _ mu3 _ _ hq (pp.trans (post_new p3.sto p3.tab n)) (rd_tup p3.sto n (cut_rd rA _ _))⟩
        have e : cutD es lo hi = es := by
          unfold cutD
          rw [← rA.length, hw.1, hw.2, List.drop_zero, Nat.sub_zero, rA.length, List.take_length]
        rw [e] at hq
        exact q _ mu3 _ _ hq pp (.tup hS rA)
    · rcases e with e | e
      · subst e
        cases (p2.trans p3).fwd.rd r1 with
        | lst hS rA => exact .inr ⟨_, _, rfl, SqL.of (hid_some.mp hS).2, fun p n => q _ mu3 _ _ hq (pp.trans (post_new p3.sto p3.tab n)) (rd_lst p3.sto n (cut_rd rA _ _))⟩
      · subst e
        cases (p2.trans p3).fwd.rd r1 with
        | scr hS rA => exact .inr ⟨_, _, rfl, seeL hS, fun p n => q _ mu3 _ _ hq (pp.trans (post_new p3.sto p3.tab n)) (rd_lst p3.sto n (cut_rd rA _ _))⟩⟩⟩
/-! ### sequences added, repeated -/
def rhoCatT : R2D := fun x y Q => ∃ xs ys, x = .tup xs ∧ y = .tup ys ∧ xs.length + ys.length ≤ sizeLine ∧ Q (.tup (xs ++ ys))
theorem od_catT : OpD X T (rCatA X.K) rhoCatT := by
  intro as H x y dx dy mu Qd Q rx ry S TT ⟨xs, ys, ex, ey, hl, h⟩ q
  subst ex ey
  cases rx with
  | tup hS rA =>
    cases ry with
    | tup hS' rA' =>
      refine ⟨_, _, _, _, rfl, rfl, seeT hS, seeT hS', by rw [rA.length, rA'.length]; exact hl, fun e => ?_, fun _ e => ?_, fun _ _ p n => q _ _ _ h (post_new S TT n) (rd_tup S n (rA.append rA'))⟩
      · subst e
        cases rA
        exact q _ _ _ h (post_id S TT) (.tup hS' rA')
      · subst e
        cases rA'
        rw [List.append_nil] at h
        exact q _ _ _ h (post_id S TT) (.tup hS rA)
def rhoCatL : R2D := fun x y Q => ∃ xs ys, x = .lst xs ∧ y = .lst ys ∧ xs.length + ys.length ≤ sizeLine ∧ Q (.lst (xs ++ ys))
theorem od_catL : OpD X T rCat rhoCatL := by
  intro as H x y dx dy mu Qd Q rx ry S TT ⟨xs, ys, ex, ey, hl, h⟩ q
  subst ex ey
  cases rx with
  | lst hS rA =>
    cases ry with
    | lst hS' rA' => exact ⟨_, _, _, _, rfl, rfl, (hid_some.mp hS).2, (hid_some.mp hS').2, by rw [rA.length, rA'.length]; exact hl, fun p n => q _ _ _ h (post_new S TT n) (rd_lst S n (rA.append rA'))⟩
theorem rd_rep {K : PySem.W.Frag} {as : Bx} {H : Hp} {xs : List V} {es : List D} (r : RdAll K as H xs es) : ∀ n : Nat, RdAll K as H (List.replicate n xs).flatten (List.replicate n es).flatten
  | 0 => .nil
  | n + 1 => by
    rw [List.replicate_succ, List.replicate_succ, List.flatten_cons, List.flatten_cons]
    exact r.append (rd_rep r n)
def rhoRep : R2D := fun x y Q => ∃ xs k, x = .lst xs ∧ y = .int k ∧ -(2 ^ 63) ≤ k ∧ k < 2 ^ 63 ∧ xs.length * k.toNat ≤ sizeLine ∧ Q (.lst (List.replicate k.toNat xs).flatten)
theorem od_rep : OpD X T rRep rhoRep := by
  intro as H x y dx dy mu Qd Q rx ry S TT ⟨xs, k, ex, ey, h1, h2, hl, h⟩ q
  subst ex ey
  cases ry
  cases rx with
  | lst hS rA => exact ⟨_, _, _, rfl, rfl, (hid_some.mp hS).2, h1, h2, by rw [rA.length]; exact hl, fun p n => q _ _ _ h (post_new S TT n) (rd_lst S n (rd_rep rA _))⟩
/-! ### == of data -/
mutual
def toP : D → PyData
  | .non => .none
  | .bl b => .bool b
  | .int i => .int i
  | .str x => .str x
  | .tup ds => .tuple (toPs ds)
  | .lst ds => .list (toPs ds)
  | .scr ds => .list (toPs ds)
  | .box _ => .none
def toPs : List D → List PyData
  | [] => []
  | d :: r => toP d :: toPs r
end
mutual
theorem rd_dp {K : PySem.W.Frag} {as : Bx} {H : Hp} : ∀ {v : V} {d : D}, Rd K as H v d → pure d = true → Dp K H v (toP d)
  | _, _, .non, _ => by unfold toP; exact .non
  | _, _, .bl b, _ => by unfold toP; exact .bl b
  | _, _, .int b, _ => by unfold toP; exact .int b
  | _, _, .str b, _ => by unfold toP; exact .str b
  | _, _, .tup hS r, h => by
    unfold toP
    unfold pure at h
    exact .tup (seeT hS) (rd_dps r h)
  | _, _, .lst hS r, h => by
    unfold toP
    unfold pure at h
    exact .lst (SqL.of (hid_some.mp hS).2) (rd_dps r h)
  | _, _, .scr hS r, h => by
    unfold toP
    unfold pure at h
    exact .lst (seeL hS) (rd_dps r h)
  | _, _, .box _, h => by unfold pure at h; cases h
theorem rd_dps {K : PySem.W.Frag} {as : Bx} {H : Hp} : ∀ {v : List V} {d : List D}, RdAll K as H v d → pureAll d = true → DpAll K H v (toPs d)
  | _, _, .nil, _ => by unfold toPs; exact .nil
  | _, _, .cons r rs, h => by
    unfold toPs
    unfold pureAll at h
    rw [Bool.and_eq_true] at h
    exact .cons (rd_dp r h.1) (rd_dps rs h.2)
end
def rhoEqD : R2D := fun x y Q => pure x = true ∧ pure y = true ∧ SeqAt.shaped (toP x) = true ∧ SeqAt.shaped (toP y) = true ∧ Q (.bl (PyData.eqv (toP x) (toP y)))
def rhoNeD : R2D := fun x y Q => pure x = true ∧ pure y = true ∧ SeqAt.shaped (toP x) = true ∧ SeqAt.shaped (toP y) = true ∧ Q (.bl (!PyData.eqv (toP x) (toP y)))
theorem od_eqD : OpD X T (rEqD X.K) rhoEqD := by
  intro as H x y dx dy mu Qd Q rx ry S TT ⟨h1, h2, h3, h4, h⟩ q
  exact ⟨_, _, rd_dp rx h1, rd_dp ry h2, h3, h4, q _ _ _ h (post_id S TT) (.bl _)⟩
theorem od_neD : OpD X T (rNeD X.K) rhoNeD := by
  intro as H x y dx dy mu Qd Q rx ry S TT ⟨h1, h2, h3, h4, h⟩ q
  exact ⟨_, _, rd_dp rx h1, rd_dp ry h2, h3, h4, q _ _ _ h (post_id S TT) (.bl _)⟩
/-! ### great powers -/
def CPowW (i j : Int) : Prop := 0 ≤ j ∧ (Builtin.Int.intBits i : Int) * j ≤ 2 ^ 27
theorem op_powW : OpR X (binaryOp .Pow) (rI CPowW fun i j => .int (i ^ j.toNat)) := opI fun _ _ _ _ _ _ _ hc q => PyProof.Rows.pow_int hc.1 hc.2 q
/-! ### list(range(a, b)) -/
end
end DL
end
section
/-! DL: further built-ins; boxes. -/
namespace DL
open PySem PySem.Spec PyProof.Rows L2
section
variable {X : Cx} {T : List (Addr × Str)} {pos : Pos}
/-! ### list(range(a, b)) -/
theorem rg_eq (a b : Int) {K : PySem.W.Frag} {as : Bx} {H : Hp} : RdAll K as H (rgV a b) (rangeD a (b - a).toNat) := by
  have e : rgV a b = ((List.range (b - a).toNat).map fun i => a + ((i : Nat) : Int)).map V.int := by
    unfold rgV
    rw [List.map_map]
    rfl
  have e2 : rangeD a (b - a).toNat = ((List.range (b - a).toNat).map fun i => a + ((i : Nat) : Int)).map D.int := by
    unfold rangeD
    rw [List.map_map]
    rfl
  rw [e, e2]
  exact .of_ints _
def dLR (φa φb : DE) : DE := fun δ mu Q => φa δ mu fun x mu1 => φb δ mu1 fun y mu2 => ∃ i j, x = .int i ∧ y = .int j ∧ RgOk i j ∧ Q (.lst (rangeD i (j - i).toNat)) mu2
theorem ed_lr {a b : Expr} {φa φb : DE} {p1 p2 p3 : Pos} (hc : X.calm = true) (hgl : Gl X "list") (hml : X.mg "list" = none) (hgr : Gl X "range") (hmr : X.mg "range" = none) (ha : ED X T a φa) (hb : ED X T b φb)
    (n1 : starEach [a, b] X.env = (false, eval a X.env) :: starEach [b] X.env := by rfl) (n2 : starEach [b] X.env = (false, eval b X.env) :: starEach [] X.env := by rfl) (hp : (backTo p3 (starEach [b] X.env)).any (·.1) = false := by rfl)
    (n3 : starEach [.Call (.Name "range" p2) [a, b] [] p3] X.env = (false, eval (.Call (.Name "range" p2) [a, b] [] p3) X.env) :: starEach [] X.env := by rfl) :
    ED X T (.Call (.Name "list" p1) [.Call (.Name "range" p2) [a, b] [] p3] [] pos) (dLR φa φb) :=
  pe_conv (pe_listRg hc hgl hml (prg_2 hgr hmr ha hb n1 n2 hp) n3) fun σ H Q ⟨as, δ, mu, Qd, o, h, q⟩ => tD_mk o h fun x mu1 v H1 h1 p1 r1 => tD_mk (o.go p1) h1 fun y mu2 w' H2 ⟨i, j, ex, ey, ok, hq⟩ p2 r2 => by
    subst ex ey
    cases r1
    cases r2
    exact ⟨i, j, rfl, rfl, ok, fun p n => q _ mu2 _ _ hq ((p1.trans p2).trans (post_new p2.sto p2.tab n)) (rd_lst p2.sto n (rg_eq i j))⟩
/-! ### isqrt -/
theorem cr_isqrt : CallR X (.builtin "math.isqrt") (fun vs H Q => ∃ a : Int, vs = [.int a] ∧ 0 ≤ a ∧ a < 2 ^ 1000 ∧ Q (.int ((Float64.isqrt a.toNat : Nat) : Int)) H) := by
  intro pins s σ H vs us Q I r h
  obtain ⟨a, rfl, h0, h1, q⟩ := h
  obtain ⟨u, rfl, t, rfl⟩ := vals1 r
  have hl : a.toNat.log2 ≤ 999 := PySem.W.mg_log (k := 999) (by show a.toNat < 2 ^ 1000; omega)
  exact call_function_meets PySem.W.MGF.kind_isqrt PySem.W.MGF.plain_isqrt PySem.W.MGF.entry_isqrt (PySem.W.MGF.args_isqrt _) (PySem.W.mg_run_isqrt a t (by omega) (by omega) (by omega)).meets ⟨.int _, H, I.tok _, ⟨_, rfl⟩, q⟩
def rcIsq : RcD := fun ds Q => ∃ a : Int, ds = [.int a] ∧ 0 ≤ a ∧ a < 2 ^ 1000 ∧ Q (.int ((Float64.isqrt a.toNat : Nat) : Int))
theorem rc_isqrt : RcOk X T (fun vs H Q => ∃ a : Int, vs = [.int a] ∧ 0 ≤ a ∧ a < 2 ^ 1000 ∧ Q (.int ((Float64.isqrt a.toNat : Nat) : Int)) H) rcIsq := by
  intro as H vs ds mu Qd Q r S TT ⟨i, e, h0, h1, h⟩ q
  subst e
  cases r with
  | cons r r1 =>
    cases r1
    cases r
    exact ⟨i, rfl, h0, h1, q _ _ _ h (post_id S TT) (.int _)⟩
theorem ed_callBf {id : String} {x : Str} {p : Pos} {e : Expr} {es : List Expr} {r : List V → Hp → VK → Prop} {ρ : RcD} {φ : DA} (hd : RcOk X T r ρ) (hc : CallR X (.builtin id) r) (hg : Gl X x) (hm : X.mg x = some (.builtin id)) (ha : AD X T (e :: es) φ) (hdb : (x == ("__debug__" : Str)) = false := by decide)
    (he : starEach (e :: es) X.env = (false, eval e X.env) :: starEach es X.env := by rfl) (hpl : (backTo pos (starEach es X.env)).any (·.1) = false := by rfl) : ED X T (.Call (.Name x p) (e :: es) [] pos) (dCB ρ φ) :=
  pe_conv (pe_callBfun hc hg hm ha hdb he hpl) fun σ H Q h => tCB_d hd h
/-! ### repr of a truth value -/
def reprB (b : Bool) : Str := if b then "True" else "False"
/-! ### t[::-1] of a tuple, by its own rule -/
/-! ### a, b, c = a list -/
def gU (u : DGs) (n : Nat) : DG := fun d δ mu Q => ∃ ds, d = .lst ds ∧ ds.length = n ∧ u ds δ mu Q
theorem gd_unl {es : List Expr} {k : Nat} {u : DGs} {n : Nat} (hc : X.calm = true) (h : GsD X T es u)
    (hn : (assignEach es X.env).length = n := by rfl) (hst : (assignEach es X.env).findIdx? (·.1) = none := by rfl) : GD X T (.Tuple es k pos) (gU u n) :=
  pg_conv (pg_unl hc h hn hst) fun v σ H Q ⟨as, δ, mu, d, Qd, o, r, ⟨ds, e1, hl, h⟩, q⟩ => by
    subst e1
    obtain ⟨a, xs, rfl, hs, r1⟩ := r.lstI
    exact ⟨a, xs, rfl, SqL.of hs, by rw [r1.length]; exact hl, as, δ, mu, ds, Qd, o, r1, h, q⟩
/-! ### a, b, c = x, y, z -/
def sPar3 (i j l : Nat) (φ : DA) : DS := fun D δ mu => φ δ mu fun ds mu1 => ∃ d e f, ds = [d, e, f] ∧ Put (((δ.set i (some d)).set j (some e)).set l (some f)) fun δ1 => D.nx δ1 mu1
/-! ### * in a display -/
def aStar (φ : DE) (ψ : DA) : DA := fun δ mu Q => φ δ mu fun d mu1 => ∃ es, itemsD d = some es ∧ ψ δ mu1 fun ds mu2 => Q (es ++ ds) mu2
theorem ad_star {e : Expr} {p : Pos} {es : List Expr} {φ : DE} {ψ : DA} (he : ED X T e φ) (hr : AD X T es ψ) (hs : starEach (.Starred e p :: es) X.env = (true, eval e X.env) :: starEach es X.env := by rfl) : AD X T (.Starred e p :: es) (aStar φ ψ) :=
  pa_conv (StX.pa_star he hr hs) fun σ H Q ⟨as, δ, mu, Qd, o, h, q⟩ => tD_mk o h fun d mu1 v H1 ⟨es', hi, hd⟩ p1 r1 => by
    obtain ⟨a, xs, rfl, hS, rA⟩ := items_at r1 hi
    exact ⟨a, xs, rfl, hS.symm, tDA_mk (o.go p1) hd fun ds mu2 vs H2 hds p2 r2 => q _ mu2 _ H2 hds (p1.trans p2) ((p2.fwd.rdA rA).append r2)⟩
/-! ### boxes: a store by an index, extend -/
theorem nodup_at : ∀ {l : List Addr} {i j : Nat} {a : Addr}, l.Nodup → l[i]? = some a → l[j]? = some a → i = j
  | [], _, _, _, _, h, _ => by simp at h
  | b :: r, 0, 0, a, _, _, _ => rfl
  | b :: r, 0, j + 1, a, n, h, g => by
    simp only [List.getElem?_cons_zero, Option.some.injEq] at h
    subst h
    exact absurd (List.mem_of_getElem? (by simpa using g)) (List.nodup_cons.mp n).1
  | b :: r, i + 1, 0, a, n, h, g => by
    simp only [List.getElem?_cons_zero, Option.some.injEq] at g
    subst g
    exact absurd (List.mem_of_getElem? (by simpa using h)) (List.nodup_cons.mp n).1
  | b :: r, i + 1, j + 1, a, n, h, g => congrArg (· + 1) (nodup_at (List.nodup_cons.mp n).2 (by simpa using h) (by simpa using g))
theorem box_write {K : PySem.W.Frag} {as : Bx} {H : Hp} {mu : Mu} {k : Nat} {a : Addr} {vs ys : List V} {es fs : List D} (S : Sto K as H mu) (TT : LamX.Tabs T H) (hk : as.1[k]? = some a) (hm : mu[k]? = some es) (ha : H a = some (.lst vs)) (r : RdAll K as H ys fs) (hp : pureAll fs = true) :
    Post K T as H as (upd H a (.lst ys)) (mu.set k fs) := by
  have hin : a ∈ as.1 := List.mem_of_getElem? hk
  have e : hid as (upd H a (.lst ys)) = hid as H := hid_upd (.inl hin)
  have mA : ∀ {v d}, RdAll K as H v d → RdAll K as (upd H a (.lst ys)) v d := fun r => r.map (fun _ _ q _ => by rw [e]; exact q) fun _ _ q => q
  have nt : ∀ b, H b ≠ none → (upd H a (.lst ys)) b ≠ none := fun b hb => by
    by_cases z : b = a
    · rw [z, upd_same]; simp
    · rw [upd_ne z]; exact hb
  have nh : a ∉ as.2 := S.dj a hin
  refine ⟨⟨List.prefix_refl _, rfl, fun _ h => .inl h, fun b o nb hb _ => ?_, nt, fun b hb => upd_ne fun z => nh (by rw [← z]; exact hb)⟩, ⟨S.nd, by rw [List.length_set]; exact S.len, fun b hb => let ⟨xs, e⟩ := S.hs b hb; ⟨xs, by rw [upd_ne fun z => nh (by rw [← z]; exact hb)]; exact e⟩, S.dj, fun j c ds h1 h2 => ?_⟩, fun q hq => ?_⟩
  · rw [upd_ne (fun z => nb (.inl (by rw [z]; exact hin)))]; exact hb
  · by_cases z : k = j
    · subst z
      rw [hk] at h1
      cases h1
      rw [List.getElem?_set_self (List.getElem?_eq_some_iff.mp hm).1] at h2
      cases h2
      exact ⟨ys, upd_same, mA r, hp⟩
    · rw [List.getElem?_set_ne z] at h2
      obtain ⟨ws, q1, q2, q3⟩ := S.get j c ds h1 h2
      refine ⟨ws, ?_, mA q2, q3⟩
      rw [upd_ne fun y => z ?_]
      · exact q1
      · subst y
        exact nodup_at S.nd hk h1
  · obtain ⟨ps, t1, t2, t3⟩ := TT q hq
    have np : q.1 ≠ a := fun z => by rw [z, ha] at t1; cases t1
    refine ⟨ps, by rw [upd_ne np]; exact t1, t2, fun pos cv hc => ?_⟩
    obtain ⟨c, c1, c2⟩ := t3 pos cv hc
    refine ⟨c, c1, ?_⟩
    rw [upd_ne (fun z => by rw [z, ha] at c2; unfold LamX.CodeO at c2; cases c2)]
    exact c2
def gSubD (φo φi : DE) : DG := fun d δ mu Q => φo δ mu fun x mu1 => φi δ mu1 fun y mu2 => ∃ k i es j, x = .box k ∧ y = .int i ∧ mu2[k]? = some es ∧ ixN es.length i = some j ∧ pure d = true ∧ Q δ (mu2.set k (es.set j d))
theorem pureAll_set : ∀ {ds : List D} {d : D} (i : Nat), pureAll ds = true → pure d = true → pureAll (ds.set i d) = true
  | [], _, _, _, _ => by unfold pureAll; rfl
  | e :: r, d, 0, h, g => by
    unfold pureAll at h
    rw [Bool.and_eq_true] at h
    show pureAll (d :: r) = true
    unfold pureAll
    rw [g, h.2]
    rfl
  | e :: r, d, i + 1, h, g => by
    unfold pureAll at h
    rw [Bool.and_eq_true] at h
    show pureAll (e :: r.set i d) = true
    unfold pureAll
    rw [h.1, pureAll_set i h.2 g]
    rfl
theorem gd_sub {o i : Expr} {φo φi : DE} (hp : PG X (.Subscript o i pos) (gSub (tD X.K T φo) (tD X.K T φi) rSetL)) : GD X T (.Subscript o i pos) (gSubD φo φi) :=
  pg_conv hp fun v σ H Q ⟨as, δ, mu, d, Qd, o, r, h, q⟩ => tD_mk o h fun x mu1 v1 H1 h1 p1 r1 => tD_mk (o.go p1) h1 fun y mu2 v2 H2 ⟨k, i, es, j, ex, ey, hm, hj, hp, hq⟩ p2 r2 => by
    subst ex ey
    cases r2
    cases p2.fwd.rd r1 with
    | box hk =>
      obtain ⟨vs, q1, q2, q3⟩ := p2.sto.get k _ es hk hm
      refine ⟨_, vs, i, j, rfl, rfl, q1, by rw [q2.length]; exact hj, ?_⟩
      have pw := box_write p2.sto p2.tab hk hm q1 (q2.set j ((p1.trans p2).fwd.rd r)) (pureAll_set j q3 hp)
      exact q _ _ _ _ hq ((p1.trans p2).trans pw).fwd (((o.go p1).go p2).go pw)
/-- xs.extend(ys), xs a box -/
def dExt (φo φa : DE) : DE := fun δ mu Q => φo δ mu fun x mu1 => (∃ k, x = .box k ∧ k < mu1.length) ∧ φa δ mu1 fun y mu2 => ∃ k es fs, x = .box k ∧ y = .lst fs ∧ mu2[k]? = some es ∧ pureAll fs = true ∧ es.length + fs.length ≤ sizeLine ∧ Q .non (mu2.set k (es ++ fs))
theorem pureAll_app : ∀ {ds es : List D}, pureAll ds = true → pureAll es = true → pureAll (ds ++ es) = true
  | [], _, _, h => h
  | e :: r, es, h, g => by
    unfold pureAll at h
    rw [Bool.and_eq_true] at h
    show pureAll (e :: (r ++ es)) = true
    unfold pureAll
    rw [h.1, pureAll_app h.2 g]
    rfl
theorem ed_ext {o e : Expr} {φo φe : DE} {apos : Pos} (hp : PE X (.Call (.Attribute o "extend" apos) [e] [] pos) (tBM X.K "list" rExtend (tD X.K T φo) (tCons (tD X.K T φe) tNil))) : ED X T (.Call (.Attribute o "extend" apos) [e] [] pos) (dExt φo φe) :=
  pe_conv hp fun σ H Q ⟨as, δ, mu, Qd, o, h, q⟩ => tD_mk o h fun x mu1 v H1 ⟨⟨k0, e0, hk0⟩, h1⟩ p1 r1 => by
    subst e0
    have r1' := r1
    cases r1 with
    | box hk =>
      rename_i a
      obtain ⟨ws, w1, w2, w3⟩ := p1.sto.get k0 _ mu1[k0] hk (List.getElem?_eq_getElem hk0)
      refine ⟨.inl ⟨rfl, _, SqL.of w1⟩, tD_mk (o.go p1) h1 fun y mu2 v2 H2 ⟨k, es, fs, e1, e2, hm, hp, hl, hq⟩ p2 r2 => ?_⟩
      cases e1
      subst e2
      cases p2.fwd.rd r1' with
      | box hk2 =>
        cases r2 with
        | lst hS rA =>
          obtain ⟨vs, q1, q2, q3⟩ := p2.sto.get k0 _ es hk2 hm
          have pw := box_write p2.sto p2.tab hk2 hm q1 (q2.append rA) (pureAll_app q3 hp)
          exact ⟨_, _, vs, _, rfl, rfl, q1, (hid_some.mp hS).2, by rw [q2.length, rA.length]; exact hl, q _ _ _ _ hq ((p1.trans p2).trans pw) .non⟩
theorem sd_par3 {i j l : Nat} {x y z : Str} {a b c : Expr} {φ : DA} {px py pz pt : Pos} {kt k2 pt2} (h : PS X (.Assign [.Tuple [.Name x px, .Name y py, .Name z pz] kt pt] (.Tuple [a, b, c] k2 pt2) pos) (tPar3 i j l (tDA X.K T φ))) :
    SD X T (.Assign [.Tuple [.Name x px, .Name y py, .Name z pz] kt pt] (.Tuple [a, b, c] k2 pt2) pos) (sPar3 i j l φ) :=
  ps_conv h fun σ H E ⟨as, δ, mu, Dd, o, h, en⟩ => tDA_mk o h fun ds mu1 vs H1 ⟨d, e, f, hd, hq⟩ p1 r1 => by
    subst hd
    cases r1 with
    | cons ra r1 =>
      cases r1 with
      | cons rb r1 =>
        cases r1 with
        | cons rc r1 =>
          cases r1
          exact ⟨_, _, _, rfl, en.nx as _ mu1 _ H1 hq.go p1.fwd ((((o.go p1).set i ra).set j rb).set l rc)⟩
/-! ### list(t) as a list that nobody else has -/
def dNL (φ : DA) : DE := fun δ mu Q => φ δ mu fun ds mu1 => ∃ es, ds = [.tup es] ∧ pureAll es = true ∧ Q (.lst es) mu1
theorem nd_list {x : Str} {p : Pos} {e : Expr} {es : List Expr} {φ : DA} (hg : Gl X x) (hm : X.mg x = none) (hv : bootBuiltins x = some (.type "list")) (ha : AD X T (e :: es) φ) (hn : x ≠ "__name__" := by decide) (hdb : (x == ("__debug__" : Str)) = false := by decide)
    (he : starEach (e :: es) X.env = (false, eval e X.env) :: starEach es X.env := by rfl) (hpl : (backTo pos (starEach es X.env)).any (·.1) = false := by rfl) : ND X T (.Call (.Name x p) (e :: es) [] pos) (dNL φ) :=
  pe_conv (pe_callTy call_list_of hg hm hv ha hn hdb he hpl) fun σ H Q ⟨as, δ, mu, Qd, o, h, q⟩ => tDA_mk o h fun ds mu1 vs H1 ⟨fs, ed, hp, hq⟩ p1 r1 => by
    subst ed
    cases r1 with
    | cons r r1 =>
      cases r1
      cases r with
      | tup hS rA => exact ⟨_, _, rfl, .inr (seeT hS), fun l n => q _ mu1 _ _ _ hq (newL_of p1 n rA hp)⟩
/-! ### repr of a truth value -/
theorem cr_repr : CallR X (.builtin "repr") (fun vs H Q => ∃ b : Bool, vs = [.bl b] ∧ Q (.str (if b then "True" else "False")) H) := by
  intro pins s σ H vs us Q I r h
  obtain ⟨b, rfl, q⟩ := h
  obtain ⟨u, rfl, ru⟩ := vals1 r
  cases ru
  exact PySem.P.repr_of_bool ⟨.str _, H, I.tok _, ⟨_, rfl⟩, q⟩
def rcRepr : RcD := fun ds Q => ∃ b : Bool, ds = [.bl b] ∧ Q (.str (if b then "True" else "False"))
theorem rc_repr : RcOk X T (fun vs H Q => ∃ b : Bool, vs = [.bl b] ∧ Q (.str (if b then "True" else "False")) H) rcRepr := by
  intro as H vs ds mu Qd Q r S TT ⟨i, e, h⟩ q
  subst e
  cases r with
  | cons r r1 =>
    cases r1
    cases r
    exact ⟨i, rfl, q _ _ _ h (post_id S TT) (.str _)⟩
/-! ### max of a tuple of three ints -/
def maxL3 (i j k : Int) : Int := max (max i j) k
theorem cr_max3 (hc : X.calm = true) (hu : X.A.units + 64 < cLine) : CallR X (.builtin "max") (fun vs H Q => ∃ a i j k, vs = [.ref a] ∧ SqT X.K H a [.int i, .int j, .int k] ∧ Q (.int (maxL3 i j k)) H) := by
  intro pins s σ H vs us Q I r h
  obtain ⟨a, i, j, k, rfl, hS, q⟩ := h
  rw [Vals.ref1 r]
  obtain ⟨its, rv, ht, hz⟩ := I.tuple hS
  obtain ⟨u1, u2, u3, rfl, ⟨t1, rfl⟩, ⟨t2, rfl⟩, ⟨t3, rfl⟩⟩ : ∃ u1 u2 u3, its = [u1, u2, u3] ∧ RelV (.int i) u1 ∧ RelV (.int j) u2 ∧ RelV (.int k) u3 := by
    cases rv with
    | cons a1 rv =>
      cases rv with
      | cons a2 rv =>
        cases rv with
        | cons a3 rv =>
          cases rv
          exact ⟨_, _, _, rfl, a1, a2, a3⟩
  have rds : ReadsAll s.heap (List.toArray [Value.int i t1, .int j t2, .int k t3]).toList [PyData.int i, .int j, .int k] ([] ++ ([] ++ ([] ++ []))) :=
    .cons (.int i t1) (.cons (.int j t2) (.cons (.int k t3) .nil))
  have al : PySem.W.AlikeAll [PyData.int i, .int j, .int k] := by
    refine ⟨fun x hx y hy => ?_, fun x hx => ?_⟩
    · simp only [List.mem_cons, List.not_mem_nil, or_false] at hx hy
      rcases hx with e | e | e <;> rcases hy with f | f | f <;> subst e <;> subst f <;> rfl
    · simp only [List.mem_cons, List.not_mem_nil, or_false] at hx
      rcases hx with e | e | e <;> subst e <;> exact fun z => by cases z
  refine PySem.W.max_tuple_data (x := .int i) (xs := [.int j, .int k]) (I.ok.hd hc) (show s.heap.IsTuple a _ from ht) rds al ?_ fun n v h' tk bs hv hr hk => ?_
  · have e : PyData.depthAll [PyData.int i, .int j, .int k] = 0 := by simp [PyData.depthAll, PyData.depth]
    rw [e]
    omega
  · have e := PySem.W.maxD_ints i [j, k]
    have e2 : [PyData.int j, PyData.int k] = [j, k].map PyData.int := rfl
    rw [e2, e] at hr
    cases hr with
    | int m t => exact ⟨.int _, H, I.kept hk, ⟨t, rfl⟩, q⟩
def rcMax3 : RcD := fun ds Q => ∃ i j k, ds = [.tup [.int i, .int j, .int k]] ∧ Q (.int (maxL3 i j k))
theorem rc_max3 : RcOk X T (fun vs H Q => ∃ a i j k, vs = [.ref a] ∧ SqT X.K H a [.int i, .int j, .int k] ∧ Q (.int (maxL3 i j k)) H) rcMax3 := by
  intro as H vs ds mu Qd Q r S TT ⟨i, j, k, e, h⟩ q
  subst e
  cases r with
  | cons r r1 =>
    cases r1
    cases r with
    | tup hS rA =>
      cases rA with
      | cons a1 rA =>
        cases rA with
        | cons a2 rA =>
          cases rA with
          | cons a3 rA =>
            cases rA
            cases a1
            cases a2
            cases a3
            exact ⟨_, i, j, k, rfl, seeT hS, q _ _ _ h (post_id S TT) (.int _)⟩
/-! ### t[::-1] of a tuple of three -/
theorem getRev3 {M : Program} {wo : World} {Ar : Around} {Ex : Value → Shared → Prop} {st : Shared} {tu sl : Addr} {u v w' vs : Value} {Qv : Value → Shared → Prop} (hT : IsTup st.heap tu [u, v, w'].toArray) (hSl : st.heap.IsSliceOf sl .none .none vs) (pv : IsPart vs (some (-1)))
    (hq : Qv (.ref st.heap.objs.size) { st with heap := st.heap.push { cls := .type "tuple", data := .seq [w', v, u].toArray } }) : wpAny (model M wo) Ar (getItem (.ref tu) (.ref sl)) Qv Ex st := by
  obtain ⟨ob, hob, hcl, hdt⟩ := id hSl
  have hTy : st.TypeIs (.ref sl) "slice" := ⟨ob, hob, hcl⟩
  unfold getItem
  try with_reducible refine wpAny_holding ?_
  first | refine wpAny_bind (wpAny_pure ?_) | skip
  refine wpAny_bind (wpAny_sequenceKey hT.typeIs (by decide) ?_)
  refine wpAny_bind (wpAny_callSpecial?_slot (name := Str.ofString "__getitem__") hT.typeIs PyProof.Rows.slot_tuple_getitem (wpAny_call_entry PyProof.Rows.slot_tuple_getitem hT.typeIs entry_tuple_getitem ?_ (args_tuple_getitem _ _)))
  show wpAny _ _ (Builtin.Tuple.tupleItemsOf (.ref tu) >>= _) _ _ st
  refine wpAny_bind (tupleItemsOf_ hT ?_)
  refine wpAny_bind (wpAny_typeOf hTy ?_)
  rw [if_pos (by decide)]
  have key : ∀ {R : Int × Int × Nat → Shared → Prop} {Bf : Around}, R (2, -1, 3) st → wpAny (model M wo) Bf (Builtin.Slice.sliceApplied (.ref sl) (Pure.pure (([u, v, w'].toArray.size : Nat) : Int))) R Ex st := by
    intro R Bf hR
    unfold Builtin.Slice.sliceApplied Builtin.Slice.sliceFields
    refine wpAny_bind (wpAny_bind (wpAny_field hob hdt (x := .none) rfl (wpAny_bind (wpAny_field hob hdt (x := .none) rfl (wpAny_bind (wpAny_field hob hdt (x := vs) rfl (wpAny_pure ?_)))))))
    refine wpAny_bind (HT.slicePart_ pv ?_)
    show wpAny _ _ (if ((-1 : Int) == 0) = true then _ else _) _ _ st
    rw [if_neg (by decide)]
    refine wpAny_bind (HT.slicePart_ .none (wpAny_bind (HT.slicePart_ .none (wpAny_bind (wpAny_pure ?_)))))
    show wpAny _ _ (match Builtin.Slice.sliceAdjust none none (-1) 3 with | (lo, hi) => Pure.pure (lo, (-1 : Int), Builtin.Slice.slicePlaces lo hi (-1))) _ _ st
    have e1 : Builtin.Slice.sliceAdjust none none (-1) 3 = (2, -1) := by decide
    rw [e1]
    show wpAny _ _ (Pure.pure ((2 : Int), (-1 : Int), Builtin.Slice.slicePlaces 2 (-1) (-1))) _ _ st
    have e2 : Builtin.Slice.slicePlaces 2 (-1) (-1) = 3 := by decide
    rw [e2]
    exact wpAny_pure hR
  refine wpAny_bind (key ?_)
  show wpAny _ _ (if (((2 : Int) == 0) && ((-1 : Int) == 1) && ((3 : Nat) == 3)) = true then _ else _) _ _ st
  rw [if_neg (show ¬ ((((2 : Int) == 0) && ((-1 : Int) == 1) && ((3 : Nat) == 3)) = true) by decide)]
  have pick : ((List.range 3).filterMap fun (m : Nat) => [u, v, w'].toArray[((2 : Int) + (m : Int) * (-1)).toNat]?).toArray = [w', v, u].toArray := rfl
  rw [pick]
  have sz : sizeOk (.seq [w', v, u].toArray) := (show (3 : Nat) ≤ sizeLine by decide)
  first
    | exact wpAny_bind (m := Builtin.Tuple.tupleExact _) (wpAny_newObj_type (wpAny_pure ⟨_, rfl, wpAny_pure hq⟩) sz)
    | exact wpAny_bind (m := Builtin.Tuple.tupleExact _) (wpAny_newObj_type (wpAny_bind (wpAny_pure (wpAny_pure ⟨_, rfl, wpAny_pure hq⟩))) sz)
    | exact wpAny_bind (wpAny_bind (m := Builtin.Tuple.tupleExact _) (wpAny_newObj_type (wpAny_pure (wpAny_pure ⟨_, rfl, wpAny_pure hq⟩)) sz))
    | exact wpAny_bind (wpAny_bind (m := Builtin.Tuple.tupleExact _) (wpAny_newObj_type (wpAny_pure ⟨_, rfl, wpAny_pure hq⟩) sz))
def dRev3 (φ : DE) : DE := fun δ mu Q => φ δ mu fun d mu1 => ∃ a b c, d = .tup [a, b, c] ∧ Q (.tup [c, b, a]) mu1
theorem ed_rev3 {e : Expr} {φ : DE} {k : Nat} {p1 p2 p3 : Pos} (he : ED X T e φ) : ED X T (.Subscript e (.Slice none none (some (.UnaryOp .USub (.Constant (.int 1) k p1) p2)) p3) pos) (dRev3 φ) := by
  refine ⟨fun pins st σ H Q I h => ?_⟩
  obtain ⟨as, δ, mu, Qd, o, h, q⟩ := h
  refine Subscript_ (thn (he.run pins st σ H (fun v H1 => ∃ a b c mu1, Qd (.tup [c, b, a]) mu1 ∧ Post X.K T as H as H1 mu1 ∧ Rd X.K as H1 v (.tup [a, b, c])) I (tD_mk o h fun d mu1 v H1 ⟨a, b, c, e1, hq⟩ pp rr => ⟨a, b, c, mu1, hq, pp, by rw [← e1]; exact rr⟩)) fun v s1 ⟨x, H1, I1, r1, a, b, c, mu1, hq, pp, rr⟩ => ?_)
  cases rr with
  | tup hS rA =>
    cases rA with
    | cons a1 rA =>
      cases rA with
      | cons a2 rA =>
        cases rA with
        | cons a3 rA =>
          cases rA
          rename_i ad x1 x2 x3
          cases r1
          have hx := seeT hS
          have hst : PO X (some (.UnaryOp .USub (.Constant (.int 1) k p1) p2)) (tPart (tUn (rU fun i => .int (-i)) (tC (.int 1)))) := po_some (pe_un un_neg pe_int)
          refine wpAny_Slice (thn (po_none.run pins s1 σ H1 (fun o1 J => o1 = none ∧ J = H1) I1 ⟨rfl, rfl⟩) fun vl s2 ⟨l, H2, I2, pl, el, e2⟩ => ?_)
          subst el e2
          refine thn (po_none.run pins s2 σ H2 (fun o1 J => o1 = none ∧ J = H2) I2 ⟨rfl, rfl⟩) fun vu s3 ⟨u, H3, I3, pu, eu, e3⟩ => ?_
          subst eu e3
          refine thn (hst.run pins s3 σ H3 (fun o1 J => o1 = some (-1) ∧ J = H3) I3 ⟨1, rfl, -1, rfl, rfl, rfl⟩) fun vs s4 ⟨o4, H4, I4, pz, eo, e4⟩ => ?_
          subst eo e4
          cases pl
          cases pu
          have I5 : Inv X pins σ H4 { s4 with heap := s4.heap.push { cls := .type "slice", data := .fields #[.none, .none, vs] } } := I4.kept (t' := s4.toks) fun b ob q => Heap.get?_push_of_some _ q
          obtain ⟨its, r, ht, hz⟩ := I5.tuple hx
          obtain ⟨u1, u2, u3, rfl, ru1, ru2, ru3⟩ : ∃ u1 u2 u3, its = [u1, u2, u3] ∧ RelV x1 u1 ∧ RelV x2 u2 ∧ RelV x3 u3 := by
            cases r with
            | cons b1 r =>
              cases r with
              | cons b2 r =>
                cases r with
                | cons b3 r =>
                  cases r
                  exact ⟨_, _, _, rfl, b1, b2, b3⟩
          refine tail_any (ops := [.ref ad, .ref s4.heap.objs.size]) ht.typeIs (PyProof.Rows.slot_tuple_getitem.lookup) ?_ (by with_unfolding_all rfl)
          refine getRev3 ht (Heap.IsSliceOf.new _ .none .none vs) pz ?_
          have nf := I5.hok.fresh (Nat.le_refl _)
          refine ⟨.ref _, _, I5.laid (t' := s4.toks) (o := .tup [x3, x2, x1]) (fun b ob q => Heap.get?_push_of_some _ q) (Nat.le_refl _) ⟨by show (3 : Nat) ≤ sizeLine; decide, _, .cons ru3 (.cons ru2 (.cons ru1 .nil)), IsTup.new _ _⟩, rfl, q _ mu1 _ _ hq (pp.trans (post_new pp.sto pp.tab nf)) (rd_tup pp.sto nf (.cons a3 (.cons a2 (.cons a1 .nil))))⟩
end
end DL
end
section
/-! DL: small things for printed terms. -/
namespace DL
open PySem PySem.Spec PyProof.Rows L2
section
variable {X : Cx} {T : List (Addr × Str)} {pos : Pos}
def dYes : DT := fun _ mu Q => Q true mu
theorem pts_yes {K : PySem.W.Frag} : PTs X [] (tDT K T dYes) := ⟨fun _ _ _ H _ I ⟨as, δ, mu, Qd, o, h, q⟩ => PySem.wpAny_tests_nil ⟨H, I, q true mu H h o.post⟩⟩
/-- the names of a block within a block -/
theorem blkOk_in {s : Shared} {H : Hp} {sc1 sc0 scope : Scope} {C : Addr} {cl : List (Str × Addr)} {fp : List Addr} {own : List (Str × Nat)} {N : List Str} (hN : X.N = N) (h0 : X.env.scope = sc0) (h : blkC N (relS sc1 sc0) scope own = true) :
    BlkOk (X.blk s H sc1 (compEnvC sc1 cl C X.env) fp).N (X.blk s H sc1 (compEnvC sc1 cl C X.env) fp).env.scope scope own := by
  subst hN h0
  exact blkOk_by h
def sAug (φ : DE) (i : Nat) : DS := fun Dd δ mu => ∃ m, δ[i]? = some (some (.int m)) ∧ φ δ mu fun y mu1 => ∃ n, y = .int n ∧ Put (δ.set i (some (.int (m + n)))) fun δ1 => Dd.nx δ1 mu1
/-! the points of the space, forms, tables as data -/
abbrev ptD (x y z : Int) : D := .tup [.int x, .int y, .int z]
abbrev fmD (a b c d e f : Int) : D := .tup [.int a, .int b, .int c, .int d, .int e, .int f]
def idleD : D := .tup [ptD 1 0 0, ptD 0 1 0, ptD 0 0 1]
end
end DL
end
section
/-! DL: +=; comprehensions by the items. -/
namespace DL
open PySem PySem.Spec PyProof.Rows L2
section
variable {X : Cx} {T : List (Addr × Str)} {pos : Pos}
theorem sd_aug {i : Nat} {x : Str} {e : Expr} {φ : DE} {pos' : Pos} (hN : X.N.Nodup) (hi : X.N[i]? = some x) (hx : Loc X.env.scope x) (he : ED X T e φ) (hf : X.fn x = true ∨ X.env.scope.names.lookup x = some .local := by first | exact .inl rfl | exact .inr rfl | assumption) :
    SD X T (.AugAssign (.Name x pos') .Add e pos) (sAug φ i) :=
  ps_conv (ps_aug hN hi hx he ip_add hf) fun σ H E ⟨as, δ, mu, Dd, o, ⟨m, hm, h⟩, en⟩ => by
    obtain ⟨v, e1, r1⟩ := o.rel i _ hm
    refine ⟨v, e1, tD_mk o h fun y mu1 u H1 ⟨n, ey, hq⟩ p1 ru => ?_⟩
    subst ey
    cases r1
    cases ru
    exact ⟨_, _, rfl, rfl, en.nxs o i hq p1 (.int _)⟩
end
/-! ### comprehensions by the items -/
def lcAll (st : D → D → Prop) : List D → List D → Prop
  | [], [] => True
  | x :: xs, y :: ys => st x y ∧ lcAll st xs ys
  | _, _ => False
theorem lcAll_len {st : D → D → Prop} : ∀ {xs ys : List D}, lcAll st xs ys → xs.length = ys.length
  | [], [], _ => rfl
  | _ :: _, _ :: _, h => congrArg (· + 1) (lcAll_len h.2)
  | [], _ :: _, h => h.elim
  | _ :: _, [], h => h.elim
theorem lcAll_get {st : D → D → Prop} : ∀ {xs ys : List D} {i : Nat} {x : D}, lcAll st xs ys → xs[i]? = some x → ∃ y, ys[i]? = some y ∧ st x y
  | [], [], _, _, _, e => by simp at e
  | _ :: _, y :: _, 0, _, h, e => by
    simp only [List.getElem?_cons_zero, Option.some.injEq] at e
    subst e
    exact ⟨y, rfl, h.1⟩
  | _ :: _, _ :: _, i + 1, x, h, e => by
    obtain ⟨y, h1, h2⟩ := lcAll_get (i := i) (x := x) h.2 (by simpa using e)
    exact ⟨y, by simpa using h1, h2⟩
  | [], _ :: _, _, _, h, _ => h.elim
  | _ :: _, [], _, _, h, _ => h.elim
theorem pureAll_mem : ∀ {ds : List D} {d : D}, pureAll ds = true → d ∈ ds → pure d = true
  | e :: r, d, h, m => by
    unfold pureAll at h
    rw [Bool.and_eq_true] at h
    rcases List.mem_cons.mp m with z | z
    · rw [z]; exact h.1
    · exact pureAll_mem h.2 z
/-- each item's answer, in turn -/
theorem lc_fix {gd : DG} {φt : DT} {φe : DE} {δw : Dl} {ds : List D} {Q : D → Mu → Prop} {mu : Mu} (ys : List D)
    (h : lcAll (fun x y => ∀ (R : D → Mu → Prop) (N : Mu → Prop), R y mu → gd x δw mu fun δ2 mu2 => φt δ2 mu2 fun b mu3 => if b = true then φe δ2 mu3 R else N mu3) ds ys) (hl : ys.length ≤ sizeLine) (hp : pureAll ys = true) (hq : Q (.lst ys) mu) : LcBody gd φt φe δw ds Q mu := by
  refine ⟨fun i acc mu' => mu' = mu ∧ acc = ys.take i, ⟨rfl, by simp⟩, ?_, ?_⟩
  · rintro i x acc mu' hx ⟨rfl, rfl⟩
    obtain ⟨y, hy, st⟩ := lcAll_get h hx
    have hi : i < ys.length := (List.getElem?_eq_some_iff.mp hy).1
    refine st _ _ ⟨by rw [List.length_take]; omega, pureAll_mem hp (List.mem_of_getElem? hy), rfl, ?_⟩
    rw [List.take_add_one, hy]
    rfl
  · rintro acc mu' ⟨rfl, rfl⟩
    rw [lcAll_len h, List.take_length]
    exact hq
/-- some items are kept, what is made of them -/
theorem lc_fm {α : Type} {gd : DG} {φt : DT} {φe : DE} {δw : Dl} {Q : D → Mu → Prop} {mu : Mu} (emb : α → D) (L : List α) (g : α → Option D)
    (h : ∀ a ∈ L, ∀ (R : D → Mu → Prop) (N : Mu → Prop), (∀ y, g a = some y → R y mu) → (g a = none → N mu) → gd (emb a) δw mu fun δ2 mu2 => φt δ2 mu2 fun b mu3 => if b = true then φe δ2 mu3 R else N mu3) (hl : L.length ≤ sizeLine) (hp : ∀ a ∈ L, ∀ y, g a = some y → pure y = true) (hq : Q (.lst (L.filterMap g)) mu) :
    LcBody gd φt φe δw (L.map emb) Q mu := by
  refine ⟨fun i acc mu' => mu' = mu ∧ acc = (L.take i).filterMap g, ⟨rfl, by simp⟩, ?_, ?_⟩
  · rintro i x acc mu' hx ⟨rfl, rfl⟩
    rw [List.getElem?_map] at hx
    cases ha : L[i]? with
    | none => rw [ha] at hx; cases hx
    | some a =>
      rw [ha] at hx
      cases hx
      have hi : i < L.length := (List.getElem?_eq_some_iff.mp ha).1
      have hm : a ∈ L := List.mem_of_getElem? ha
      have e : L.take (i + 1) = L.take i ++ [a] := by rw [List.take_add_one, ha]; rfl
      refine h a hm _ _ (fun y hy => ⟨?_, hp a hm y hy, rfl, ?_⟩) fun hn => ⟨rfl, ?_⟩
      · exact Nat.lt_of_le_of_lt (List.length_filterMap_le g _) (by rw [List.length_take]; omega)
      · rw [e, List.filterMap_append]
        simp [hy]
      · rw [e, List.filterMap_append]
        simp [hn]
  · rintro acc mu' ⟨rfl, rfl⟩
    rw [List.length_map, List.take_length]
    exact hq
/-- an if, its test told -/
theorem if_t {c : Bool} {A B : Prop} (h : c = true) (a : A) : if c = true then A else B := by rw [if_pos h]; exact a
theorem if_f {c : Bool} {A B : Prop} (h : c = false) (b : B) : if c = true then A else B := by rw [if_neg (by rw [h]; exact Bool.false_ne_true)]; exact b
end DL
end
section
/-! DL: list(zip(*t)), t a tuple of three tuples of three. -/
namespace DL
open PySem PySem.Spec PyProof.Rows L2
theorem nolen_zip3 : typeLookup (.type "zip") "__len__" = Pure.pure none := by rw [typeLookup_type, builtinLookup_eq_fast]; kernel_rfl
theorem nohint_zip3 : typeLookup (.type "zip") "__length_hint__" = Pure.pure none := by rw [typeLookup_type, builtinLookup_eq_fast]; kernel_rfl
section
variable {prog : Program} {w : World} {A : Around} {E : Value → Shared → Prop} {s : Shared} {z TI TO TT i1 i2 i3 : Addr} {fp1 fp2 fp3 : List Addr} {n1 n2 n3 i : Nat} {P1 P2 P3 : Nat → Value → Prop} {St1 St2 St3 : Nat → Heap → Prop} {f : Bool} {oT : Obj}
theorem zip3_item_held {Q : Value → Shared → Prop} (S : ZipSep3 z TI TO i1 i2 i3 fp1 fp2 fp3) (D1 : Draws prog w A i1 fp1 n1 P1 St1) (D2 : Draws prog w A i2 fp2 n2 P2 St2) (D3 : Draws prog w A i3 fp3 n3 P3 St3)
    (hz : IsZipHeld s.heap z TI TO TT f) (hT : s.heap.get? TT = some oT) (hTI : IsTupOf3 s.heap TI (.ref i1) (.ref i2) (.ref i3)) (st1 : St1 i s.heap) (st2 : St2 i s.heap) (st3 : St3 i s.heap) (hlt1 : i < n1) (hlt2 : i < n2) (hlt3 : i < n3)
    (hQ : ∀ x1 x2 x3 h' tk, P1 i x1 → P2 i x2 → P3 i x3 → IsZipHeld h' z TI TO TT true → St1 (i + 1) h' → St2 (i + 1) h' → St3 (i + 1) h' → IsTupOf3 h' s.heap.objs.size x1 x2 x3 → h'.objs.size = s.heap.objs.size + 1 →
      (∀ c o, c ≠ z → c ≠ i1 → c ≠ i2 → c ≠ i3 → s.heap.get? c = some o → h'.get? c = some o) → Q (.ref s.heap.objs.size) { s with heap := h', toks := tk }) :
    wpAny (model prog w) A (Builtin.«zip.__next__» ⟨[.ref z], []⟩) (fun fin s' => ∃ v, fin = .done (.ret v) ∧ Q v s') E s := by
  obtain ⟨hp, g, d, tk0, os⟩ := s
  show wpAny _ _ (field (.ref z) 2 >>= _) _ _ _
  refine wpAny_bind (wpAny_field hz rfl (x := .bool false) rfl ?_)
  show wpAny _ _ (field (.ref z) 3 >>= _) _ _ _
  refine wpAny_bind (wpAny_field hz rfl (x := .ref TI) rfl ?_)
  refine wpAny_bind (wpAny_seqItems hTI rfl ?_)
  show wpAny _ _ (Builtin.SmallTypes.ownedTupleIsFree (.ref z) >>= _) _ _ _
  refine wpAny_bind (wpAny_tupleHeld_zip hz hT fun g0 hz0 hs0 => ?_)
  replace hs0 : Heap.SameBut z hp g0 := hs0
  simp only [Bool.false_eq_true, if_false]
  refine wpAny_bind ?_
  rw [← Array.forIn_toList]
  simp only [List.forIn_cons, List.forIn_nil]
  refine wpAny_bind (wpAny_bind (wpAny_holding ?_))
  show wpAny _ _ (Builtin.SmallTypes.nextOf (.ref i1) >>= _) _ _ ⟨g0, g, d, tk0, os⟩
  refine wpAny_bind (D1.item i _ _ _ hlt1 (D1.over st1 hs0 S.zf1) fun x1 p1 tk1 hx1 sn1 hp1 => wpAny_pure ?_)
  replace hp1 : Heap.SameBut i1 g0 p1 := hp1
  refine wpAny_pure ?_
  refine wpAny_bind (wpAny_bind (wpAny_holding ?_))
  show wpAny _ _ (Builtin.SmallTypes.nextOf (.ref i2) >>= _) _ _ ⟨p1, g, d, tk1, os⟩
  refine wpAny_bind (D2.item i _ _ _ hlt2 (D2.over (D2.over st2 hs0 S.zf2) hp1 S.sep1_2) fun x2 p2 tk2 hx2 sn2 hp2 => wpAny_pure ?_)
  replace hp2 : Heap.SameBut i2 p1 p2 := hp2
  refine wpAny_pure ?_
  refine wpAny_bind (wpAny_bind (wpAny_holding ?_))
  show wpAny _ _ (Builtin.SmallTypes.nextOf (.ref i3) >>= _) _ _ ⟨p2, g, d, tk2, os⟩
  refine wpAny_bind (D3.item i _ _ _ hlt3 (D3.over (D3.over (D3.over st3 hs0 S.zf3) hp1 S.sep1_3) hp2 S.sep2_3) fun x3 p3 tk3 hx3 sn3 hp3 => wpAny_pure ?_)
  replace hp3 : Heap.SameBut i3 p2 p3 := hp3
  refine wpAny_pure (wpAny_pure ?_)
  show wpAny _ _ (newTuple [x1, x2, x3] >>= _) _ _ ⟨p3, g, d, tk3, os⟩
  refine wpAny_bind (wpAny_newTuple ?_)
  have hsz : p3.objs.size = hp.objs.size := by rw [hp3.1, hp2.1, hp1.1, hs0.1]
  have hz3 : IsZipHeld p3 z TI TO TT true := hp3.extBut _ _ S.zi3 (hp2.extBut _ _ S.zi2 (hp1.extBut _ _ S.zi1 hz0))
  have hk : ∀ c o, c ≠ z → c ≠ i1 → c ≠ i2 → c ≠ i3 → hp.get? c = some o → p3.get? c = some o := fun c o cz c1 c2 c3 e => hp3.extBut _ _ c3 (hp2.extBut _ _ c2 (hp1.extBut _ _ c1 (hs0.extBut _ _ cz e)))
  have j1 : St1 (i + 1) p3 := D1.over (D1.over sn1 hp2 S.sep2_1) hp3 S.sep3_1
  have j2 : St2 (i + 1) p3 := D2.over sn2 hp3 S.sep3_2
  refine wpAny_pure ⟨_, rfl, ?_⟩
  show Q (.ref p3.objs.size) ⟨p3.push { cls := .type "tuple", data := .seq #[x1, x2, x3] }, g, d, tk3, os⟩
  have hp' : IsTupOf3 (p3.push { cls := .type "tuple", data := .seq #[x1, x2, x3] }) p3.objs.size x1 x2 x3 := Heap.get?_push_size _ rfl
  have hz4 : (p3.push { cls := .type "tuple", data := .seq #[x1, x2, x3] }).objs.size = p3.objs.size + 1 := Heap.size_push ..
  rw [hsz] at hp' hz4 ⊢
  exact hQ x1 x2 x3 _ tk3 hx1 hx2 hx3 (Heap.get?_push_of_some _ hz3) (D1.frame _ _ _ j1 fun b _ o e => Heap.get?_push_of_some _ e) (D2.frame _ _ _ j2 fun b _ o e => Heap.get?_push_of_some _ e) (D3.frame _ _ _ sn3 fun b _ o e => Heap.get?_push_of_some _ e) hp' hz4 fun c o cz c1 c2 c3 e => Heap.get?_push_of_some _ (hk c o cz c1 c2 c3 e)
theorem zip3_end_held {Q : Fin → Shared → Prop} (S : ZipSep3 z TI TO i1 i2 i3 fp1 fp2 fp3) (D1 : Draws prog w A i1 fp1 n1 P1 St1)
    (hz : IsZipHeld s.heap z TI TO TT f) (hT : s.heap.get? TT = some oT) (hTI : IsTupOf3 s.heap TI (.ref i1) (.ref i2) (.ref i3)) (st1 : St1 n1 s.heap)
    (hE : ∀ h' tk e, (∀ c o, c ≠ z → c ≠ i1 → s.heap.get? c = some o → h'.get? c = some o) → (∃ o, h'.get? e = some o ∧ o.cls = .type "StopIteration") → E (.ref e) { s with heap := h', toks := tk }) :
    wpAny (model prog w) A (Builtin.«zip.__next__» ⟨[.ref z], []⟩) Q E s := by
  obtain ⟨hp, g, d, tk0, os⟩ := s
  show wpAny _ _ (field (.ref z) 2 >>= _) _ _ _
  refine wpAny_bind (wpAny_field hz rfl (x := .bool false) rfl ?_)
  show wpAny _ _ (field (.ref z) 3 >>= _) _ _ _
  refine wpAny_bind (wpAny_field hz rfl (x := .ref TI) rfl ?_)
  refine wpAny_bind (wpAny_seqItems hTI rfl ?_)
  show wpAny _ _ (Builtin.SmallTypes.ownedTupleIsFree (.ref z) >>= _) _ _ _
  refine wpAny_bind (wpAny_tupleHeld_zip hz hT fun g0 hz0 hs0 => ?_)
  replace hs0 : Heap.SameBut z hp g0 := hs0
  simp only [Bool.false_eq_true, if_false]
  refine wpAny_bind ?_
  rw [← Array.forIn_toList]
  simp only [List.forIn_cons, List.forIn_nil]
  refine wpAny_bind (wpAny_bind (wpAny_holding ?_))
  show wpAny _ _ (Builtin.SmallTypes.nextOf (.ref i1) >>= _) _ _ ⟨g0, g, d, tk0, os⟩
  refine wpAny_bind (D1.done ⟨g0, g, d, tk0, os⟩ _ _ (D1.over st1 hs0 S.zf1) fun q e hq he => ?_)
  replace hq : Heap.ExtBut i1 g0 q := hq
  exact hE q tk0 e (fun c o cz c1 x => hq _ _ c1 (hs0.extBut _ _ cz x)) he
end
section
variable {prog : Program} {w : World} {A : Around} {E : Value → Shared → Prop} {s : Shared} {z TI TO TT i1 i2 i3 : Addr} {fp1 fp2 fp3 : List Addr} {n1 n2 n3 i : Nat} {P1 P2 P3 : Nat → Value → Prop} {St1 St2 St3 : Nat → Heap → Prop} {f : Bool} {oT : Obj}
theorem next_zip3_held {Q : Option Value → Shared → Prop} (S : ZipSep3 z TI TO i1 i2 i3 fp1 fp2 fp3) (D1 : Draws prog w A.in1 i1 fp1 n1 P1 St1) (D2 : Draws prog w A.in1 i2 fp2 n2 P2 St2) (D3 : Draws prog w A.in1 i3 fp3 n3 P3 St3)
    (hz : IsZipHeld s.heap z TI TO TT f) (hT : s.heap.get? TT = some oT) (hTI : IsTupOf3 s.heap TI (.ref i1) (.ref i2) (.ref i3)) (st1 : St1 i s.heap) (st2 : St2 i s.heap) (st3 : St3 i s.heap) (hlt1 : i < n1) (hlt2 : i < n2) (hlt3 : i < n3)
    (hQ : ∀ x1 x2 x3 h' tk, P1 i x1 → P2 i x2 → P3 i x3 → IsZipHeld h' z TI TO TT true → St1 (i + 1) h' → St2 (i + 1) h' → St3 (i + 1) h' → IsTupOf3 h' s.heap.objs.size x1 x2 x3 → h'.objs.size = s.heap.objs.size + 1 →
      (∀ c o, c ≠ z → c ≠ i1 → c ≠ i2 → c ≠ i3 → s.heap.get? c = some o → h'.get? c = some o) → Q (some (.ref s.heap.objs.size)) { s with heap := h', toks := tk }) :
    wpAny (model prog w) A (pyNext (.ref z)) Q E s := by
  have hTy : s.TypeIs (.ref z) "zip" := ⟨_, hz, rfl⟩
  unfold pyNext
  exact wpAny_bind (wpAny_attempt (wpAny_callSpecial?_slot (name := Str.ofString "__next__") hTy F.slot_zip_next
    (wpAny_call_entry F.slot_zip_next hTy F.entry_zip_next
      (zip3_item_held S D1 D2 D3 hz hT hTI st1 st2 st3 hlt1 hlt2 hlt3 fun x1 x2 x3 h' tk a1 a2 a3 a4 a5 a6 a7 a8 a9 b1 => wpAny_pure (hQ x1 x2 x3 h' tk a1 a2 a3 a4 a5 a6 a7 a8 a9 b1)) (F.args_zip_next_1 _))))
theorem next_zip3_end {Q : Option Value → Shared → Prop} (S : ZipSep3 z TI TO i1 i2 i3 fp1 fp2 fp3) (D1 : Draws prog w A.in1 i1 fp1 n1 P1 St1)
    (hz : IsZipHeld s.heap z TI TO TT f) (hT : s.heap.get? TT = some oT) (hTI : IsTupOf3 s.heap TI (.ref i1) (.ref i2) (.ref i3)) (st1 : St1 n1 s.heap)
    (hQ : ∀ h' tk, (∀ c o, c ≠ z → c ≠ i1 → s.heap.get? c = some o → h'.get? c = some o) → Q none { s with heap := h', toks := tk }) :
    wpAny (model prog w) A (pyNext (.ref z)) Q E s := by
  have hTy : s.TypeIs (.ref z) "zip" := ⟨_, hz, rfl⟩
  unfold pyNext
  refine wpAny_bind (wpAny_attempt (wpAny_callSpecial?_slot (name := Str.ofString "__next__") hTy F.slot_zip_next
    (wpAny_call_entry F.slot_zip_next hTy F.entry_zip_next (zip3_end_held S D1 hz hT hTI st1 fun h' tk e hk he => ?_) (F.args_zip_next_1 _))))
  obtain ⟨o, ho, hc⟩ := he
  refine wpAny_bind (wpAny_isInstance (T := "StopIteration") (b := true) ⟨o, ho, hc⟩ isSubtype_stop ?_)
  exact wpAny_pure (hQ _ _ hk)
end
section
variable {prog : Program} {w : World} {A : Around} {s : Shared} {R : Result → Shared → Prop} {S I : Addr} {res : Value} {acc : Array Value} {c : Nat}
theorem ext_item (hn : acc.size < sizeLine)
    (h : wpAny (model prog w) A.in1 (pyNext (.ref I)) (fun r s' => ∃ v, r = some v ∧ s'.heap.get? S = some { cls := .type "list", dict := none, data := .seq acc c, slots := #[] } ∧
      ∀ h' c', h'.get? S = some { cls := .type "list", dict := none, data := .seq (acc.push v) c', slots := #[] } → Heap.SameBut S s'.heap h' → codeAny (model prog w) A (.builtin "list.extend.loop" ⟨[.ref S, .ref I, res], []⟩) R { s' with heap := h' }) (fun e s' => R (.error e) s') s) :
    codeAny (model prog w) A (.builtin "list.extend.loop" ⟨[.ref S, .ref I, res], []⟩) R s := by
  refine codeAny_builtin F.entry_extend_loop ?_
  rw [Around.under_plainId F.plain_extend_loop _]
  show wpAny _ A.in1 (pyNext (.ref I) >>= _) _ _ s
  refine wpAny_bind (thn h fun r s' ⟨v, e, hS, k⟩ => ?_)
  subst e
  show wpAny _ A.in1 (updateSeq S (·.push v) >>= _) _ _ _
  refine wpAny_bind ?_
  refine wpAny_updateSeq hS rfl (wpAny_pure ⟨plainId_quiet F.plain_extend_loop _, k _ _ (Heap.get?_update_self _ hS rfl) (Heap.SameBut.update ..)⟩) (by omega) (by show (acc.push v).size ≤ sizeLine + 1; rw [Array.size_push]; omega)
theorem ext_end (h : wpAny (model prog w) A.in1 (pyNext (.ref I)) (fun r s' => r = none ∧ R (.ok (.ret res)) s') (fun e s' => R (.error e) s') s) :
    codeAny (model prog w) A (.builtin "list.extend.loop" ⟨[.ref S, .ref I, res], []⟩) R s := by
  refine codeAny_builtin F.entry_extend_loop ?_
  rw [Around.under_plainId F.plain_extend_loop _]
  show wpAny _ A.in1 (pyNext (.ref I) >>= _) _ _ s
  refine wpAny_bind (thn h fun r s' ⟨e, k⟩ => ?_)
  subst e
  exact wpAny_pure k
end
section
variable {prog : Program} {w : World} {A : Around} {E : Value → Shared → Prop} {s : Shared} {z TI TO i1 i2 i3 t1 t2 t3 : Addr} {x1 x2 x3 x4 x5 x6 x7 x8 x9 : Value}
theorem loop_zip3 {R : Result → Shared → Prop} {L : Addr} {c : Nat} {res : Value} (hh : A.handled = none) (S : ZipSep3 z TI TO i1 i2 i3 [i1, t1] [i2, t2] [i3, t3]) (ne1 : t1 ≠ i1) (ne2 : t2 ≠ i2) (ne3 : t3 ≠ i3) (hL : L ∉ [z, TI, TO, i1, i2, i3, t1, t2, t3]) (hz : IsZip s.heap z TI TO .none) (hTI : IsTupOf3 s.heap TI (.ref i1) (.ref i2) (.ref i3)) (hTO : IsTupOf3 s.heap TO .none .none .none)
    (h1 : s.heap.IsTupleIter i1 t1 0) (h2 : s.heap.IsTupleIter i2 t2 0) (h3 : s.heap.IsTupleIter i3 t3 0) (T1 : s.heap.IsTuple t1 #[x1, x2, x3]) (T2 : s.heap.IsTuple t2 #[x4, x5, x6]) (T3 : s.heap.IsTuple t3 #[x7, x8, x9])
    (hS : s.heap.get? L = some { cls := .type "list", dict := none, data := .seq #[] c, slots := #[] })
    (hR : ∀ h' tk a b d c', (∀ q o, q ∉ [z, TO, i1, i2, i3, L] → s.heap.get? q = some o → h'.get? q = some o) → h'.get? L = some { cls := .type "list", dict := none, data := .seq #[.ref a, .ref b, .ref d] c', slots := #[] } →
      IsTupOf3 h' a x1 x4 x7 → IsTupOf3 h' b x2 x5 x8 → IsTupOf3 h' d x3 x6 x9 → s.heap.objs.size ≤ a → a < b → b < d → R (.ok (.ret res)) { s with heap := h', toks := tk }) :
    codeAny (model prog w) A (.builtin "list.extend.loop" ⟨[.ref L, .ref z, res], []⟩) R s := by
  have Lne : L ≠ z ∧ L ≠ TI ∧ L ≠ TO ∧ L ≠ i1 ∧ L ≠ i2 ∧ L ≠ i3 ∧ L ≠ t1 ∧ L ≠ t2 ∧ L ≠ t3 := by simpa [not_or] using hL
  obtain ⟨Lz, LTI, LTO, L1, L2, L3, Lt1, Lt2, Lt3⟩ := Lne
  have D1 := Draws.tuple (prog := prog) (w := w) (A := A.in1.in1) hh i1 t1 ne1 #[x1, x2, x3]
  have D2 := Draws.tuple (prog := prog) (w := w) (A := A.in1.in1) hh i2 t2 ne2 #[x4, x5, x6]
  have D3 := Draws.tuple (prog := prog) (w := w) (A := A.in1.in1) hh i3 t3 ne3 #[x7, x8, x9]
  obtain ⟨hp, g, d0, tk0, os⟩ := s
  have n12 : i1 ≠ i2 := fun e => S.sep1_2 (by rw [e]; simp)
  -- first
  refine ext_item (acc := #[]) (c := c) (by show 0 < sizeLine; decide) (wpAny_pyNext_zipD3_item (i := 0) S D1 D2 D3 hz hTI hTO ⟨h1, T1⟩ ⟨h2, T2⟩ ⟨h3, T3⟩ (by show 0 < 3; omega) (by show 0 < 3; omega) (by show 0 < 3; omega) fun y1 y2 y3 g1 tk1 e1 e2 e3 hz1 hTO1 s1 s2 s3 tu1 sz1 k1 => ?_)
  have e1 : y1 = x1 := (Option.some.inj e1).symm
  have e2 : y2 = x4 := (Option.some.inj e2).symm
  have e3 : y3 = x7 := (Option.some.inj e3).symm
  subst e1 e2 e3
  replace tu1 : IsTupOf3 g1 hp.objs.size y1 y2 y3 := tu1
  replace sz1 : g1.objs.size = hp.objs.size + 1 := sz1
  have hTI1 : IsTupOf3 g1 TI (.ref i1) (.ref i2) (.ref i3) := k1 _ _ S.TIz S.TITO S.TIi1 S.TIi2 S.TIi3 hTI
  refine ⟨_, rfl, k1 L _ Lz LTO L1 L2 L3 hS, fun u1 c1 hu1 su1 => ?_⟩
  replace su1 : Heap.SameBut L g1 u1 := su1
  have ltL : L < hp.objs.size := Heap.lt_size hS
  -- second
  refine ext_item (acc := #[.ref hp.objs.size]) (c := c1) (by show 1 < sizeLine; decide) (next_zip3_held (i := 1) (s := ⟨u1, g, d0, tk1, os⟩) (TT := hp.objs.size) (f := false) S D1 D2 D3 (su1.extBut _ _ (Ne.symm Lz) hz1) (su1.extBut _ _ (Nat.ne_of_gt ltL) tu1) (su1.extBut _ _ (Ne.symm LTI) hTI1)
    (D1.over s1 su1 (by simp [L1, Lt1])) (D2.over s2 su1 (by simp [L2, Lt2])) (D3.over s3 su1 (by simp [L3, Lt3])) (by show 1 < 3; omega) (by show 1 < 3; omega) (by show 1 < 3; omega) fun y4 y5 y6 g2 tk2 e4 e5 e6 hz2 s4 s5 s6 tu2 sz2 k2 => ?_)
  have e4 : y4 = x2 := (Option.some.inj e4).symm
  have e5 : y5 = x5 := (Option.some.inj e5).symm
  have e6 : y6 = x8 := (Option.some.inj e6).symm
  subst e4 e5 e6
  have zu1 : u1.objs.size = hp.objs.size + 1 := by rw [su1.1, sz1]
  replace tu2 : IsTupOf3 g2 u1.objs.size y4 y5 y6 := tu2
  replace sz2 : g2.objs.size = u1.objs.size + 1 := sz2
  replace k2 : ∀ c o, c ≠ z → c ≠ i1 → c ≠ i2 → c ≠ i3 → u1.get? c = some o → g2.get? c = some o := k2
  have zlt : z < hp.objs.size := Heap.lt_size hz
  have i1lt : i1 < hp.objs.size := by obtain ⟨o, e, _⟩ := h1; exact Heap.lt_size e
  have i2lt : i2 < hp.objs.size := by obtain ⟨o, e, _⟩ := h2; exact Heap.lt_size e
  have i3lt : i3 < hp.objs.size := by obtain ⟨o, e, _⟩ := h3; exact Heap.lt_size e
  have far : ∀ b : Addr, hp.objs.size ≤ b → b ≠ z ∧ b ≠ i1 ∧ b ≠ i2 ∧ b ≠ i3 ∧ b ≠ L := fun b h => ⟨Nat.ne_of_gt (Nat.lt_of_lt_of_le zlt h), Nat.ne_of_gt (Nat.lt_of_lt_of_le i1lt h), Nat.ne_of_gt (Nat.lt_of_lt_of_le i2lt h), Nat.ne_of_gt (Nat.lt_of_lt_of_le i3lt h), Nat.ne_of_gt (Nat.lt_of_lt_of_le ltL h)⟩
  have keep2 : ∀ b o, hp.objs.size ≤ b → g1.get? b = some o → g2.get? b = some o := fun b o h e => by
    obtain ⟨a1, a2, a3, a4, a5⟩ := far b h
    exact k2 b o a1 a2 a3 a4 (su1.extBut _ _ a5 e)
  refine ⟨_, rfl, k2 L _ Lz L1 L2 L3 hu1, fun u2 c2 hu2 su2 => ?_⟩
  replace su2 : Heap.SameBut L g2 u2 := su2
  have zu2 : u2.objs.size = hp.objs.size + 2 := by rw [su2.1, sz2, zu1]
  -- third
  refine ext_item (acc := #[.ref hp.objs.size, .ref u1.objs.size]) (c := c2) (by show 2 < sizeLine; decide) (next_zip3_held (i := 2) (s := ⟨u2, g, d0, tk2, os⟩) (TT := hp.objs.size) (f := true) S D1 D2 D3 (su2.extBut _ _ (Ne.symm Lz) hz2) (su2.extBut _ _ (Nat.ne_of_gt ltL) (keep2 _ _ (Nat.le_refl _) tu1)) (su2.extBut _ _ (Ne.symm LTI) (k2 _ _ S.TIz S.TIi1 S.TIi2 S.TIi3 (su1.extBut _ _ (Ne.symm LTI) hTI1)))
    (D1.over s4 su2 (by simp [L1, Lt1])) (D2.over s5 su2 (by simp [L2, Lt2])) (D3.over s6 su2 (by simp [L3, Lt3])) (by show 2 < 3; omega) (by show 2 < 3; omega) (by show 2 < 3; omega) fun y7 y8 y9 g3 tk3 e7 e8 e9 hz3 s7 s8 s9 tu3 sz3 k3 => ?_)
  have e7 : y7 = x3 := (Option.some.inj e7).symm
  have e8 : y8 = x6 := (Option.some.inj e8).symm
  have e9 : y9 = x9 := (Option.some.inj e9).symm
  subst e7 e8 e9
  replace tu3 : IsTupOf3 g3 u2.objs.size y7 y8 y9 := tu3
  replace k3 : ∀ c o, c ≠ z → c ≠ i1 → c ≠ i2 → c ≠ i3 → u2.get? c = some o → g3.get? c = some o := k3
  have keep3 : ∀ b o, hp.objs.size ≤ b → g2.get? b = some o → g3.get? b = some o := fun b o h e => by
    obtain ⟨a1, a2, a3, a4, a5⟩ := far b h
    exact k3 b o a1 a2 a3 a4 (su2.extBut _ _ a5 e)
  have sz3' : g3.objs.size = u2.objs.size + 1 := sz3
  refine ⟨_, rfl, k3 L _ Lz L1 L2 L3 hu2, fun u3 c3 hu3 su3 => ?_⟩
  replace su3 : Heap.SameBut L g3 u3 := su3
  -- the end
  refine ext_end (next_zip3_end (s := ⟨u3, g, d0, tk3, os⟩) (TT := hp.objs.size) (f := true) S D1 (su3.extBut _ _ (Ne.symm Lz) hz3) (su3.extBut _ _ (Nat.ne_of_gt ltL) (keep3 _ _ (Nat.le_refl _) (keep2 _ _ (Nat.le_refl _) tu1))) (su3.extBut _ _ (Ne.symm LTI) (k3 _ _ S.TIz S.TIi1 S.TIi2 S.TIi3 (su2.extBut _ _ (Ne.symm LTI) (k2 _ _ S.TIz S.TIi1 S.TIi2 S.TIi3 (su1.extBut _ _ (Ne.symm LTI) hTI1)))))
    (D1.over s7 su3 (by simp [L1, Lt1])) fun g4 tk4 k4 => ?_)
  replace k4 : ∀ c o, c ≠ z → c ≠ i1 → u3.get? c = some o → g4.get? c = some o := k4
  have keep4 : ∀ b o, hp.objs.size ≤ b → g3.get? b = some o → g4.get? b = some o := fun b o h e => by
    obtain ⟨a1, a2, a3, a4, a5⟩ := far b h
    exact k4 b o a1 a2 (su3.extBut _ _ a5 e)
  refine ⟨rfl, ?_⟩
  have hle1 : hp.objs.size ≤ u1.objs.size := by rw [zu1]; omega
  have hle2 : hp.objs.size ≤ u2.objs.size := by rw [zu2]; omega
  refine hR g4 tk4 hp.objs.size u1.objs.size u2.objs.size c3 (fun q o hq e => ?_) (k4 L _ Lz L1 hu3) (keep4 _ _ (Nat.le_refl _) (keep3 _ _ (Nat.le_refl _) (keep2 _ _ (Nat.le_refl _) tu1))) (keep4 _ _ hle1 (keep3 _ _ hle1 tu2)) (keep4 _ _ hle2 tu3) (Nat.le_refl _) (show hp.objs.size < u1.objs.size by rw [zu1]; exact Nat.lt_succ_self _) (show u1.objs.size < u2.objs.size by rw [zu1, zu2]; exact Nat.lt_succ_self _)
  have hq' : q ≠ z ∧ q ≠ TO ∧ q ≠ i1 ∧ q ≠ i2 ∧ q ≠ i3 ∧ q ≠ L := by simpa [not_or] using hq
  obtain ⟨qz, qT, q1, q2, q3, qL⟩ := hq'
  exact k4 q o qz q1 (su3.extBut _ _ qL (k3 q o qz q1 q2 q3 (su2.extBut _ _ qL (k2 q o qz q1 q2 q3 (su1.extBut _ _ qL (k1 q o qz qT q1 q2 q3 e))))))
theorem call_list_zip3 {Q : Value → Shared → Prop} (hh : A.handled = none) (S : ZipSep3 z TI TO i1 i2 i3 [i1, t1] [i2, t2] [i3, t3]) (ne1 : t1 ≠ i1) (ne2 : t2 ≠ i2) (ne3 : t3 ≠ i3) (hz : IsZip s.heap z TI TO .none) (hTI : IsTupOf3 s.heap TI (.ref i1) (.ref i2) (.ref i3)) (hTO : IsTupOf3 s.heap TO .none .none .none)
    (h1 : s.heap.IsTupleIter i1 t1 0) (h2 : s.heap.IsTupleIter i2 t2 0) (h3 : s.heap.IsTupleIter i3 t3 0) (T1 : s.heap.IsTuple t1 #[x1, x2, x3]) (T2 : s.heap.IsTuple t2 #[x4, x5, x6]) (T3 : s.heap.IsTuple t3 #[x7, x8, x9])
    (hQ : ∀ h' tk L a b d c', (∀ q o, q ∉ [z, TO, i1, i2, i3] → s.heap.get? q = some o → h'.get? q = some o) → h'.get? L = some { cls := .type "list", dict := none, data := .seq #[.ref a, .ref b, .ref d] c', slots := #[] } →
      IsTupOf3 h' a x1 x4 x7 → IsTupOf3 h' b x2 x5 x8 → IsTupOf3 h' d x3 x6 x9 → s.heap.objs.size ≤ L → L < a → a < b → b < d → Q (.ref L) { s with heap := h', toks := tk }) :
    wpAny (model prog w) A (call (.type "list") [.ref z]) Q E s := by
  obtain ⟨hp, g, d0, tk0, os⟩ := s
  have zlt : z < hp.objs.size := Heap.lt_size hz
  have TIlt : TI < hp.objs.size := Heap.lt_size hTI
  have TOlt : TO < hp.objs.size := Heap.lt_size hTO
  have i1lt : i1 < hp.objs.size := by obtain ⟨o, e, _⟩ := h1; exact Heap.lt_size e
  have i2lt : i2 < hp.objs.size := by obtain ⟨o, e, _⟩ := h2; exact Heap.lt_size e
  have i3lt : i3 < hp.objs.size := by obtain ⟨o, e, _⟩ := h3; exact Heap.lt_size e
  have t1lt : t1 < hp.objs.size := by obtain ⟨o, e, _⟩ := T1; exact Heap.lt_size e
  have t2lt : t2 < hp.objs.size := by obtain ⟨o, e, _⟩ := T2; exact Heap.lt_size e
  have t3lt : t3 < hp.objs.size := by obtain ⟨o, e, _⟩ := T3; exact Heap.lt_size e
  have hL : hp.objs.size ∉ [z, TI, TO, i1, i2, i3, t1, t2, t3] := by
    simp only [List.mem_cons, List.not_mem_nil, or_false, not_or]
    exact ⟨Nat.ne_of_gt zlt, Nat.ne_of_gt TIlt, Nat.ne_of_gt TOlt, Nat.ne_of_gt i1lt, Nat.ne_of_gt i2lt, Nat.ne_of_gt i3lt, Nat.ne_of_gt t1lt, Nat.ne_of_gt t2lt, Nat.ne_of_gt t3lt⟩
  have hSz : hp.objs.size ≠ z := Nat.ne_of_gt zlt
  refine callType_codes (Q₁ := fun obj s₁ => obj = .ref hp.objs.size ∧ s₁ = { (⟨hp, g, d0, tk0, os⟩ : Shared) with heap := hp.push { cls := .type "list", data := .seq #[] } }) F.called_list (F.typeCall_list_1 _) F.entry_list_init
    (code_list_new _ ⟨rfl, rfl⟩) fun obj s₁ h₁ => ?_
  obtain ⟨rfl, rfl⟩ := h₁
  have hS : (hp.push { cls := .type "list", data := .seq #[] }).get? hp.objs.size = some { cls := .type "list", data := .seq #[] } := Heap.get?_push_size _ rfl
  refine ⟨⟨_, hS, rfl⟩, F.args_list_init_2 _ _, ?_⟩
  show wpAny _ A.in1.in1 (do let old ← Builtin.List.listItems (.ref hp.objs.size); Builtin.List.listUpdate (.ref hp.objs.size) (fun _ => #[]); letGo old.toList.reverse; Builtin.List.listExtendWith (.ref hp.objs.size) (.ref z) .none) _ _ _
  refine wpAny_bind ?_
  unfold Builtin.List.listItems
  refine wpAny_bind (wpAny_seqItems hS rfl (wpAny_pure ?_))
  show wpAny _ A.in1.in1 (updateSeq hp.objs.size (fun _ => #[]) >>= fun _ => letGo (#[] : Array Value).toList.reverse >>= fun _ => Builtin.List.listExtendWith (.ref hp.objs.size) (.ref z) .none) _ _ _
  refine wpAny_bind (wpAny_updateSeq hS rfl ?_)
  have hS2 := Heap.get?_update_self (Obj.mapSeq (fun _ => (#[] : Array Value))) hS rfl
  refine wpAny_bind (wpAny_letGo ?_)
  unfold Builtin.List.listExtendWith
  have up : ∀ (h : Heap) (f : Obj → Obj), (∀ b o, hp.get? b = some o → h.get? b = some o) → ∀ b o, hp.get? b = some o → (h.update hp.objs.size f).get? b = some o := fun h f q b o e =>
    (Heap.get?_update_other _ _ (Ne.symm (Nat.ne_of_lt (Heap.lt_size e)))).trans (q b o e)
  have k1 : ∀ b o, hp.get? b = some o → (hp.push { cls := .type "list", data := .seq #[] }).get? b = some o := fun b o e => Heap.get?_push_of_some _ e
  have k2 := up _ (Obj.mapSeq (fun _ => (#[] : Array Value))) k1
  refine wpAny_bind (wpAny_typeOf (T := "zip") ⟨_, k2 _ _ hz, rfl⟩ ?_)
  have h1' : Builtin.List.listSameRef (.ref hp.objs.size) (.ref z) = false := by simp [Builtin.List.listSameRef, hSz]
  have h2' : (Value.type "zip" == Value.type "list") = false := by decide
  have h3' : (Value.type "zip" == Value.type "tuple") = false := by decide
  simp only [h1', h2', h3', Bool.or_false, Bool.false_eq_true, if_false]
  refine wpAny_bind (wpAny_pyIter_zip (k2 _ _ hz) ?_)
  refine wpAny_bind (wpAny_holding ?_)
  unfold Builtin.List.listLengthHint
  refine wpAny_bind (wpAny_specialOf (T := "zip") ⟨_, k2 _ _ hz, rfl⟩ nolen_zip3 ?_)
  show wpAny _ A.in1.in1 (specialOf (Value.ref z) (Str.ofString "__length_hint__") >>= _) _ _ _
  refine wpAny_bind (wpAny_specialOf (T := "zip") ⟨_, k2 _ _ hz, rfl⟩ nohint_zip3 ?_)
  refine wpAny_pure ?_
  show wpAny _ A.in1.in1 (rule "list.extend.makes-room" >>= fun _ => Builtin.List.listTouch (.ref hp.objs.size) >>= fun _ =>
    again (.builtin "list.extend.loop" ⟨[.ref hp.objs.size, .ref z, .none], []⟩)) _ _ _
  refine wpAny_bind (wpAny_rule ?_)
  refine wpAny_bind ?_
  show wpAny _ A.in1.in1 (updateSeq hp.objs.size (·.push .none) >>= fun _ => updateSeq hp.objs.size (·.pop)) _ _ _
  refine wpAny_bind (wpAny_updateSeq hS2 rfl ?_)
  have hS3 := Heap.get?_update_self (Obj.mapSeq (·.push Value.none)) hS2 rfl
  refine wpAny_updateSeq (hz := by seq_fits) hS3 rfl ?_
  have hS4 := Heap.get?_update_self (Obj.mapSeq (·.pop)) hS3 rfl
  have k4 := up _ (Obj.mapSeq (·.pop)) (up _ (Obj.mapSeq (·.push Value.none)) k2)
  refine wpAny_pure ⟨plainId_quiet F.plain_extend_loop _, ?_⟩
  refine loop_zip3 (A := A.in1) (s := ⟨_, g, d0, tk0, os⟩) (L := hp.objs.size) hh S ne1 ne2 ne3 hL (k4 _ _ hz) (k4 _ _ hTI) (k4 _ _ hTO) (h1.at fun o e => k4 _ o e) (h2.at fun o e => k4 _ o e) (h3.at fun o e => k4 _ o e) (T1.at fun o e => k4 _ o e) (T2.at fun o e => k4 _ o e) (T3.at fun o e => k4 _ o e) hS4
    fun h' tk a b d c' kk hl ta tb td le1 le2 le3 => ?_
  refine ⟨rfl, hQ h' tk hp.objs.size a b d c' (fun q o hq e => kk q o ?_ (k4 q o e)) hl ta tb td (Nat.le_refl _) (Nat.lt_of_lt_of_le ?_ le1) le2 le3⟩
  · have : q ≠ hp.objs.size := Nat.ne_of_lt (Heap.lt_size e)
    simp only [List.mem_cons, List.not_mem_nil, or_false, not_or] at hq ⊢
    exact ⟨hq.1, hq.2.1, hq.2.2.1, hq.2.2.2.1, hq.2.2.2.2, this⟩
  · exact Heap.lt_size hS4
end
/-! ### the expression -/
section
variable {M : Model} {A : Around} {E : Value → Shared → Prop} {s : Shared}
theorem callWith_typeS {pos : Pos} {ty : String} {first : List Value} {args : List (Bool × Sem Value)} {Q : Value → Shared → Prop} (hst : args.any (·.1) = true)
    (h : wpAny M A (evalArgs (.type ty) true args []) (fun a s₁ => wpAny M A (call (.type ty) (first ++ a.pos) a.kw) Q E s₁) E s) :
    wpAny M A (callWith pos (.type ty) first args []) Q E s := by
  unfold callWith
  refine wpAny_bind (wpAny_holding (wpAny_mono h (fun a s₁ h₁ => wpAny_bind (wpAny_standAt ?_)) fun _ _ x => x))
  simp only [hst, List.any_nil, Bool.or_false]
  refine wpAny_bind (wpAny_pure ?_)
  have tail : ∀ {t : Sem Value}, wpAny M A t Q E s₁ → wpAny M A (t >>= fun r => holding [r] point >>= fun _ => Pure.pure r) Q E s₁ :=
    fun ht => wpAny_bind (wpAny_mono ht (fun r s₂ hr => wpAny_bind (wpAny_holding (wpAny_point (wpAny_pure hr)))) fun _ _ x => x)
  exact tail (wpAny_operating h₁)
end
theorem un_more {fs ex : List Addr} {H H' : Hp} {h h' : Heap} (k : ∀ b u, h.get? b = some u → h'.get? b = some u) (e : ∀ b o, H b = some o → H' b = some o) (n : ∀ b o, h.get? b = some o → H b = none → H' b = none) : L2.Un fs ex H H' h h' :=
  ⟨fun b o e1 _ _ _ => k b o e1, fun b o e1 _ _ _ => ⟨o.slots, k b o e1⟩, fun b o e1 e2 _ => n b o e1 e2, fun b o e1 _ => ⟨o, k b o e1⟩, fun b xs q => e _ _ q, fun b o u q => e _ _ q, fun b ps q => ⟨#[], by rw [e _ _ q]; simp⟩⟩
section
variable {X : Cx} {T : List (Addr × Str)} {pos : Pos}
def dLzip (φ : DE) : DE := fun δ mu Q => φ δ mu fun x mu1 => ∃ a b c d e f g h i, x = .tup [.tup [a, b, c], .tup [d, e, f], .tup [g, h, i]] ∧ Q (.lst [.tup [a, d, g], .tup [b, e, h], .tup [c, f, i]]) mu1
theorem sep_of (N xa xb xc : Nat) (h1 : xa < N) (h2 : xb < N) (h3 : xc < N) : ZipSep3 (N + 5) (N + 3) (N + 4) N (N + 1) (N + 2) [N, xa] [N + 1, xb] [N + 2, xc] := by
  have g : ∀ a b : Nat, b < a → a ≠ b := fun a b h => Nat.ne_of_gt h
  have l : ∀ a b : Nat, a < b → a ≠ b := fun a b h => Nat.ne_of_lt h
  have nm : ∀ a b c : Nat, a ≠ b → a ≠ c → a ∉ [b, c] := fun a b c h1 h2 z => by
    rcases List.mem_cons.mp z with z | z
    · exact h1 z
    · exact h2 (List.mem_singleton.mp z)
  exact ⟨l _ _ (by omega), l _ _ (by omega), l _ _ (by omega), g _ _ (by omega), List.mem_cons_self, nm _ _ _ (g _ _ (by omega)) (g _ _ (by omega)), nm _ _ _ (g _ _ (by omega)) (g _ _ (by omega)), g _ _ (by omega), List.mem_cons_self, nm _ _ _ (g _ _ (by omega)) (g _ _ (by omega)), nm _ _ _ (g _ _ (by omega)) (g _ _ (by omega)),
    g _ _ (by omega), List.mem_cons_self, nm _ _ _ (g _ _ (by omega)) (g _ _ (by omega)), nm _ _ _ (g _ _ (by omega)) (g _ _ (by omega)), nm _ _ _ (l _ _ (by omega)) (g _ _ (by omega)), nm _ _ _ (l _ _ (by omega)) (g _ _ (by omega)), nm _ _ _ (g _ _ (by omega)) (g _ _ (by omega)), nm _ _ _ (l _ _ (by omega)) (g _ _ (by omega)), nm _ _ _ (g _ _ (by omega)) (g _ _ (by omega)), nm _ _ _ (g _ _ (by omega)) (g _ _ (by omega))⟩
theorem objok3 {H : Hp} {h : Heap} {a : Addr} {u v z : V} {u' v' z' : Value} (t : IsTupOf3 h a u' v' z') (r1 : RelV u u') (r2 : RelV v v') (r3 : RelV z z') : ObjOk X.prog X.w H h a (.tup [u, v, z]) :=
  ⟨by show 3 ≤ sizeLine; decide, [u', v', z'], .cons r1 (.cons r2 (.cons r3 .nil)), ⟨_, t, rfl, 0, rfl⟩⟩
theorem ed_lzip {e : Expr} {φ : DE} {p1 p2 p3 p4 : Pos} (hc : X.calm = true) (hgl : Gl X "list") (hml : X.mg "list" = none) (hgz : Gl X "zip") (hmz : X.mg "zip" = none) (he : ED X T e φ)
    (n1 : starEach [.Starred e p3] X.env = [(true, eval e X.env)] := by rfl)
    (n3 : starEach [.Call (.Name "zip" p2) [.Starred e p3] [] p4] X.env = (false, eval (.Call (.Name "zip" p2) [.Starred e p3] [] p4) X.env) :: starEach [] X.env := by rfl) :
    ED X T (.Call (.Name "list" p1) [.Call (.Name "zip" p2) [.Starred e p3] [] p4] [] pos) (dLzip φ) := by
  refine ⟨fun pins st σ H Q I h => ?_⟩
  obtain ⟨as, δ, mu, Qd, o, h, q⟩ := h
  refine Call_ (ld_blt I hgl hml (by decide +kernel : bootBuiltins "list" = some (.type "list")) (PyProof.Rows.callWith_type1 (args_cons ?_ n3) n3))
  refine Call_ (ld_blt I hgz hmz (by decide +kernel : bootBuiltins "zip" = some (.type "zip")) ?_)
  rw [n1]
  refine callWith_typeS rfl (PySem.W.ks_lone (thn (he.run pins st σ H (fun v H1 => ∃ a b c d e f g h i mu1, Qd (.lst [.tup [a, d, g], .tup [b, e, h], .tup [c, f, i]]) mu1 ∧ Post X.K T as H as H1 mu1 ∧ Rd X.K as H1 v (.tup [.tup [a, b, c], .tup [d, e, f], .tup [g, h, i]])) I
    (tD_mk o h fun x mu1 v H1 ⟨a, b, c, d, e, f, g, h, i, e1, hq⟩ pp rr => ⟨a, b, c, d, e, f, g, h, i, mu1, hq, pp, by rw [← e1]; exact rr⟩)) fun v s1 ⟨x, H1, I1, r1, a, b, c, d, e, f, g, h, i, mu1, hq, pp, rr⟩ => ?_))
  cases rr with
  | tup hS rA =>
  cases rA with
  | cons ra rA =>
  cases rA with
  | cons rb rA =>
  cases rA with
  | cons rc rA =>
  cases rA
  cases ra with
  | tup hSa rAa =>
  cases rb with
  | tup hSb rAb =>
  cases rc with
  | tup hSc rAc =>
  rename_i ta xa xsa xb xsb xc xsc
  cases rAa with
  | cons q1 rAa =>
  cases rAa with
  | cons q2 rAa =>
  cases rAa with
  | cons q3 rAa =>
  cases rAa
  cases rAb with
  | cons q4 rAb =>
  cases rAb with
  | cons q5 rAb =>
  cases rAb with
  | cons q6 rAb =>
  cases rAb
  cases rAc with
  | cons q7 rAc =>
  cases rAc with
  | cons q8 rAc =>
  cases rAc with
  | cons q9 rAc =>
  cases rAc
  rename_i y1 y2 y3 y4 y5 y6 y7 y8 y9
  obtain rfl : v = Value.ref ta := r1
  refine StX.star_any I1 (.inl (seeT hS)) fun us s2 I2 rv => ?_
  obtain rfl : us = [.ref xa, .ref xb, .ref xc] := by
    cases rv with
    | cons c1 rv =>
      cases rv with
      | cons c2 rv =>
        cases rv with
        | cons c3 rv =>
          cases rv
          cases c1
          cases c2
          cases c3
          rfl
  obtain ⟨ia, va, ha, za⟩ := I2.tuple (seeT hSa)
  obtain ⟨ib, vb, hb, zb⟩ := I2.tuple (seeT hSb)
  obtain ⟨ic, vc, hc', zc⟩ := I2.tuple (seeT hSc)
  obtain ⟨u1, u2, u3, rfl, ru1, ru2, ru3⟩ : ∃ u1 u2 u3, ia = [u1, u2, u3] ∧ RelV y1 u1 ∧ RelV y2 u2 ∧ RelV y3 u3 := by
    cases va with
    | cons b1 va =>
      cases va with
      | cons b2 va =>
        cases va with
        | cons b3 va => cases va; exact ⟨_, _, _, rfl, b1, b2, b3⟩
  obtain ⟨u4, u5, u6, rfl, ru4, ru5, ru6⟩ : ∃ u1 u2 u3, ib = [u1, u2, u3] ∧ RelV y4 u1 ∧ RelV y5 u2 ∧ RelV y6 u3 := by
    cases vb with
    | cons b1 va =>
      cases va with
      | cons b2 va =>
        cases va with
        | cons b3 va => cases va; exact ⟨_, _, _, rfl, b1, b2, b3⟩
  obtain ⟨u7, u8, u9, rfl, ru7, ru8, ru9⟩ : ∃ u1 u2 u3, ic = [u1, u2, u3] ∧ RelV y7 u1 ∧ RelV y8 u2 ∧ RelV y9 u3 := by
    cases vc with
    | cons b1 va =>
      cases va with
      | cons b2 va =>
        cases va with
        | cons b3 va => cases va; exact ⟨_, _, _, rfl, b1, b2, b3⟩
  have Ta : s2.heap.IsTuple xa #[u1, u2, u3] := ha
  have Tb : s2.heap.IsTuple xb #[u4, u5, u6] := hb
  have Tc : s2.heap.IsTuple xc #[u7, u8, u9] := hc'
  have lta : xa < s2.heap.objs.size := by obtain ⟨o, e, _⟩ := Ta; exact Heap.lt_size e
  have ltb : xb < s2.heap.objs.size := by obtain ⟨o, e, _⟩ := Tb; exact Heap.lt_size e
  have ltc : xc < s2.heap.objs.size := by obtain ⟨o, e, _⟩ := Tc; exact Heap.lt_size e
  refine zip_begins3 (begins_tuple xa _) (begins_tuple xb _) (begins_tuple xc _) Ta Tb Tc fun h1 hz hTI hTO g1 g2 g3 hsz hk => ?_
  refine args_nil ?_
  refine call_list_zip3 (s := { s2 with heap := h1 }) (A := X.A) (I2.ok.hd hc) (t1 := xa) (t2 := xb) (t3 := xc) ?sep (Nat.ne_of_lt lta) (Nat.ne_of_lt (Nat.lt_succ_of_lt ltb)) (Nat.ne_of_lt (Nat.lt_succ_of_lt (Nat.lt_succ_of_lt ltc))) hz hTI hTO ⟨_, g1, rfl, rfl⟩ ⟨_, g2, rfl, rfl⟩ ⟨_, g3, rfl, rfl⟩ (Ta.at fun o e => hk _ o e) (Tb.at fun o e => hk _ o e) (Tc.at fun o e => hk _ o e)
    fun h2 tk L aa ab ac c' kk hL tA tB tC le0 le1 le2 le3 => ?fin
  case sep => exact sep_of _ _ _ _ lta ltb ltc
  have hsz' : h1.objs.size = s2.heap.objs.size + 6 := hsz
  have leL : s2.heap.objs.size + 6 ≤ L := by rw [← hsz']; exact le0
  have k : ∀ b u, s2.heap.get? b = some u → h2.get? b = some u := fun b u e => kk b u (by
    simp only [List.mem_cons, List.not_mem_nil, or_false, not_or]
    have hb := fun m => Nat.ne_of_lt (Nat.lt_of_lt_of_le (Heap.lt_size e) (Nat.le_add_right s2.heap.objs.size m))
    exact ⟨hb 5, hb 4, hb 0, hb 1, hb 2⟩) (hk b u e)
  have fr : ∀ b : Addr, L ≤ b → H1 b = none := fun b hb => I2.hok.fresh (Nat.le_trans (Nat.le_trans (Nat.le_add_right _ 6) leL) hb)
  have nL : H1 L = none := fr _ (Nat.le_refl _)
  have na : H1 aa = none := fr _ (Nat.le_of_lt le1)
  have nb : H1 ab = none := fr _ (Nat.le_of_lt (Nat.lt_trans le1 le2))
  have nc : H1 ac = none := fr _ (Nat.le_of_lt (Nat.lt_trans le1 (Nat.lt_trans le2 le3)))
  have nb1 : upd H1 aa (.tup [y1, y4, y7]) ab = none := by rw [upd_ne (Nat.ne_of_gt le2)]; exact nb
  have nc1 : upd (upd H1 aa (.tup [y1, y4, y7])) ab (.tup [y2, y5, y8]) ac = none := by rw [upd_ne (Nat.ne_of_gt le3), upd_ne (Nat.ne_of_gt (Nat.lt_trans le2 le3))]; exact nc
  have nL1 : upd (upd (upd H1 aa (.tup [y1, y4, y7])) ab (.tup [y2, y5, y8])) ac (.tup [y3, y6, y9]) L = none := by
    rw [upd_ne (Nat.ne_of_lt (Nat.lt_trans le1 (Nat.lt_trans le2 le3))), upd_ne (Nat.ne_of_lt (Nat.lt_trans le1 le2)), upd_ne (Nat.ne_of_lt le1)]; exact nL
  have ok1 := HOk.laidN I2.hok k na (objok3 (H := upd H1 aa (.tup [y1, y4, y7])) tA ru1 ru4 ru7)
  have ok2 := HOk.laidN ok1 (fun _ _ e => e) nb1 (objok3 tB ru2 ru5 ru8)
  have ok3 := HOk.laidN ok2 (fun _ _ e => e) nc1 (objok3 tC ru3 ru6 ru9)
  have ok4 := HOk.laidN ok3 (o := .lst [.ref aa, .ref ab, .ref ac]) (fun _ _ e => e) nL1 ⟨by show 3 ≤ sizeLine; decide, [.ref aa, .ref ab, .ref ac], c', .cons rfl (.cons rfl (.cons rfl .nil)), hL⟩
  have ext : ∀ b o, H1 b = some o → upd (upd (upd (upd H1 aa (.tup [y1, y4, y7])) ab (.tup [y2, y5, y8])) ac (.tup [y3, y6, y9])) L (.lst [.ref aa, .ref ab, .ref ac]) b = some o := fun b o e => by
    rw [upd_ne (ne_of_none e nL), upd_ne (ne_of_none e nc), upd_ne (ne_of_none e nb), upd_ne (ne_of_none e na)]; exact e
  have far : ∀ b o, s2.heap.get? b = some o → b < L := fun b o e => Nat.lt_of_lt_of_le (Heap.lt_size e) (Nat.le_trans (Nat.le_add_right _ 6) leL)
  have I3 := I2.un (t' := tk) (un_more k ext fun b o e n => by
    have hb := far b o e
    rw [upd_ne (Nat.ne_of_lt hb), upd_ne (Nat.ne_of_lt (Nat.lt_trans hb (Nat.lt_trans le1 (Nat.lt_trans le2 le3)))), upd_ne (Nat.ne_of_lt (Nat.lt_trans hb (Nat.lt_trans le1 le2))), upd_ne (Nat.ne_of_lt (Nat.lt_trans hb le1))]; exact n) ok4
  have r1 := rd_tup (K := X.K) (vs := [y1, y4, y7]) (ds := [a, d, g]) pp.sto na (.cons q1 (.cons q4 (.cons q7 .nil)))
  have P1 := post_new (K := X.K) (ob := .tup [y1, y4, y7]) pp.sto pp.tab na
  have r2 := rd_tup (K := X.K) (vs := [y2, y5, y8]) (ds := [b, e, h]) P1.sto nb1 (.cons (P1.fwd.rd q2) (.cons (P1.fwd.rd q5) (.cons (P1.fwd.rd q8) .nil)))
  have P2 := post_new (K := X.K) (ob := .tup [y2, y5, y8]) P1.sto P1.tab nb1
  have P12 := P1.trans P2
  have r3 := rd_tup (K := X.K) (vs := [y3, y6, y9]) (ds := [c, f, i]) P2.sto nc1 (.cons (P12.fwd.rd q3) (.cons (P12.fwd.rd q6) (.cons (P12.fwd.rd q9) .nil)))
  have P3 := post_new (K := X.K) (ob := .tup [y3, y6, y9]) P2.sto P2.tab nc1
  have r4 := rd_lst (K := X.K) (vs := [.ref aa, .ref ab, .ref ac]) (ds := [.tup [a, d, g], .tup [b, e, h], .tup [c, f, i]]) P3.sto nL1 (.cons ((P2.trans P3).fwd.rd r1) (.cons (P3.fwd.rd r2) (.cons r3 .nil)))
  have P4 := post_new (K := X.K) (ob := .lst [.ref aa, .ref ab, .ref ac]) P3.sto P3.tab nL1
  exact ⟨.ref L, _, I3, rfl, q _ mu1 _ _ hq (pp.trans (P12.trans (P3.trans P4))) r4⟩
end
end DL
end
section
/-! DL: a lambda of one parameter as the key of min, of sorted. -/
namespace DL
open PySem PySem.Spec PyProof.Rows L2
section
variable {X : Cx} {T : List (Addr × Str)} {pos : Pos} {pins : List (Addr × Obj)} {σ : L2.St} {H : Hp} {s : Shared}
abbrev lamQ (X : Cx) : Str := X.env.qual ++ "<lambda>"
abbrev lamO (X : Cx) (params : Arguments) (body : Expr) (scope : Scope) (pm : Value) (c' : Addr) (ctv : Value) : Obj :=
  PySem.W.kla_obj "<lambda>" (lamQ X) params body scope (cloFrom X.env.cells scope.names []) pm c' ctv
/-- what is known behind the making of a lambda -/
structure Lam (X : Cx) (T : List (Addr × Str)) (pins : List (Addr × Obj)) (σ : L2.St) (H : Hp) (params : Arguments) (body : Expr) (scope : Scope) (pm : Value) (c' : Addr) (ctv : Value) (f : Addr) (H1 : Hp) (s' : Shared) : Prop where
  inv : L2.Inv X pins σ H1 s'
  ext : LamX.ExtN H H1
  there : ∀ b, H b ≠ none → H1 b ≠ none
  tabs : LamX.Tabs T H1
  obj : s'.heap.get? f = some (lamO X params body scope pm c' ctv)
  fp : FpOk X pins H1 f
  co : H1 c' = some (LamX.CodeO c' (lamQ X))
theorem lam_new {c P : Addr} {params : Arguments} {body : Expr} {scope : Scope} {E : Value → Shared → Prop} {Q : Value → Shared → Prop} (TB : LamX.TabB X.base X.mg c P) (hcode : X.env.code = .ref c) (hm : (P, lamQ X) ∈ T) (hu : ∀ p ∈ T, p.1 = P → p.2 = lamQ X)
    (hdef : defaultsOf params X.env = ([], [])) (hfree : ∀ y ∈ scope.names, y.2 = .free → ∃ c, X.env.cells.lookup y.1 = some c) (hT : LamX.Tabs T H) (I : L2.Inv X pins σ H s)
    (h : ∀ (f c' : Addr) (pm ctv : Value) (H1 : Hp) (s' : Shared), Lam X T pins σ H params body scope pm c' ctv f H1 s' → Q (.ref f) s') :
    wpAny (model X.prog X.w) X.A (eval (.Lambda params body scope pos) X.env) Q E s := by
  have tab := hT _ hm
  obtain ⟨ps, tabP, trip, among⟩ := tab
  have heapP : s.heap.get? P = some { cls := .none, data := .fields ps } := I.hok P _ tabP
  have cd := TB.code.keeps I.bk
  have bm := TB.bm.keeps I.bk
  have gl := I.mod.glob.keeps I.bk
  refine PySem.W.kla_eval hdef ?_
  rcases hc : codeAmong pos ps.toList with _ | cv
  · refine PySem.W.kla_makeFunction (mg := X.mg) (c := c) (P := P) (ps := ps) (closure_ok hfree) I.ok.glob gl hcode cd heapP trip hc TB.gP bm fun c' ctv g tk extb above below code tabN => ?_
    obtain ⟨c2, oc, flds, tq, e2, got, dat, nm⟩ := code
    obtain rfl : c2 = c' := by cases e2; rfl
    have grow : s.heap.objs.size ≤ g.objs.size := Nat.le_trans above (Nat.le_of_lt below)
    have nC : H c2 = none := I.hok.fresh above
    have nPc := ne_of_none tabP nC
    have up : ∀ (b : Addr) (o : Obj), b ≠ P → s.heap.get? b = some o → (g.push (lamO X params body scope ((X.mg "__name__").getD .none) c2 ctv)).get? b = some o := fun b o hb e => Heap.get?_push_of_some _ (extb b o hb e)
    have I1 := LamX.inv_table (q := lamQ X) (t' := tk) (more := #[rawInt pos.line, rawInt pos.col, .ref c2]) (h' := g.push (lamO X params body scope ((X.mg "__name__").getD .none) c2 ctv)) I tabP up (Heap.get?_push_of_some _ tabN) above ⟨oc, flds, tq, Heap.get?_push_of_some _ got, dat, nm⟩
    have nt : ∀ b o, H b = some o → (∀ q, o ≠ .tbl q) → b ≠ P := fun b o e n z => by
      rw [z] at e
      exact n ps (Option.some.inj (e.symm.trans tabP))
    have ext : LamX.ExtN H (upd (upd H P (.tbl (ps ++ #[rawInt pos.line, rawInt pos.col, .ref c2]))) c2 (LamX.CodeO c2 (lamQ X))) := fun b o e n => (upd_ne (ne_of_none e nC)).trans ((upd_ne (nt b o e n)).trans e)
    have far : ∀ b : Addr, g.objs.size ≤ b → upd (upd H P (.tbl (ps ++ #[rawInt pos.line, rawInt pos.col, .ref c2]))) c2 (LamX.CodeO c2 (lamQ X)) b = none := fun b hb =>
      (upd_ne (Nat.ne_of_gt (Nat.lt_of_lt_of_le below hb))).trans ((upd_ne (Nat.ne_of_gt (Nat.lt_of_lt_of_le (Heap.lt_size heapP) (Nat.le_trans grow hb)))).trans (I.hok.fresh (Nat.le_trans grow hb)))
    refine h g.objs.size c2 _ ctv _ _ ⟨I1, ext, fun b hb => ?_, fun p hp => ?_, Heap.get?_push_size _ rfl, I.fpOk grow (far _ (Nat.le_refl _)), upd_same⟩
    · by_cases z : b = c2
      · rw [z, upd_same]; simp
      · rw [upd_ne z]
        by_cases y : b = P
        · rw [y, upd_same]; simp
        · rw [upd_ne y]; exact hb
    · by_cases hb : p.1 = P
      · have lst : (ps ++ #[rawInt pos.line, rawInt pos.col, Value.ref c2]).toList = ps.toList ++ [rawInt pos.line, rawInt pos.col, .ref c2] := by simp
        rw [hu p hp hb, hb]
        refine ⟨_, (upd_ne nPc).trans upd_same, by rw [lst]; exact PySem.TriplesOk_snoc _ _ _ _ trip, fun p' cv hcv => ?_⟩
        rw [lst] at hcv
        rcases LamX.among_app _ trip hcv with z | z
        · obtain ⟨c0, f1, f2⟩ := among p' cv z
          exact ⟨c0, f1, ext _ _ f2 LamX.codeO_ne⟩
        · exact ⟨c2, z, upd_same⟩
      · obtain ⟨ps', a1, a2, a3⟩ := hT p hp
        refine ⟨ps', (upd_ne (ne_of_none a1 nC)).trans ((upd_ne hb).trans a1), a2, fun p' cv hcv => ?_⟩
        obtain ⟨c0, f1, f2⟩ := a3 p' cv hcv
        exact ⟨c0, f1, ext _ _ f2 LamX.codeO_ne⟩
  · obtain ⟨c', rfl, hco⟩ := among pos cv hc
    refine PySem.W.kla_makeFunctionHit (mg := X.mg) (c := c) (P := P) (ps := ps) (closure_ok hfree) I.ok.glob gl hcode cd heapP trip hc bm fun ctv g tk keep grow => ?_
    have I1 : L2.Inv X pins σ H { s with heap := g.push (lamO X params body scope ((X.mg "__name__").getD .none) c' ctv), toks := tk } := I.kept fun b o e => Heap.get?_push_of_some _ (keep b o e)
    exact h g.objs.size c' _ ctv H _ ⟨I1, LamX.ExtN.refl H, fun _ hb => hb, hT, Heap.get?_push_size _ rfl, I.fpOk grow (I.hok.fresh grow), hco⟩
/-! ### the lambda is called -/
structure LamS1 (sc scope : Scope) (p : Str) : Prop where
  kind : scope.kind = .function
  co : scope.isCoroutine = false
  gen : scope.isGenerator = false
  own : ∀ y ∈ scope.names, y.2 ≠ .cell ∧ (y.2 = .local → y.1 = p)
  par : scope.names.lookup p = some .local
  free : ∀ y ∈ scope.names, y.2 = .free → sc.names.lookup y.1 = some .cell ∨ sc.names.lookup y.1 = some .free
def lamSB1 (sc scope : Scope) (p : Str) : Bool :=
  decide (scope.kind = .function) && !scope.isCoroutine && !scope.isGenerator && (scope.names.all fun y => !decide (y.2 = .cell) && (!decide (y.2 = .local) || decide (y.1 = p)) && (!decide (y.2 = .free) || decide (sc.names.lookup y.1 = some .cell) || decide (sc.names.lookup y.1 = some .free))) &&
    decide (scope.names.lookup p = some .local)
theorem lamS1_by {sc scope : Scope} {p : Str} (h : lamSB1 sc scope p = true) : LamS1 sc scope p := by
  unfold lamSB1 at h
  simp only [Bool.and_eq_true, Bool.or_eq_true, Bool.not_eq_true', decide_eq_true_eq, decide_eq_false_iff_not, List.all_eq_true] at h
  obtain ⟨⟨⟨⟨h1, h2⟩, h3⟩, h4⟩, h5⟩ := h
  refine ⟨h1, h2, h3, fun y hy => ⟨(h4 y hy).1.1, fun e => ?_⟩, h5, fun y hy e => ?_⟩
  · rcases (h4 y hy).1.2 with z | z
    · exact absurd e z
    · exact z
  · rcases (h4 y hy).2 with (z | z) | z
    · exact absurd e z
    · exact .inl z
    · exact .inr z
theorem LamS1.has {scope : Scope} {p : Str} (L : LamS1 X.env.scope scope p) (ok : X.Ok) : ∀ y ∈ scope.names, y.2 = .free → ∃ c, X.env.cells.lookup y.1 = some c := fun y hy e => by
  rcases L.free y hy e with k | k
  · exact ok.has _ (.inl k)
  · exact ok.has _ (.inr k)
theorem lam_start1 {A : Around} {E : XK} {scope : Scope} {f c' : Addr} {h1 : Heap} {tk : Nat} {p : Str} {ip : Nat} {x : V} {v : Value} (I : L2.Inv X pins σ H s) (L : LamS1 X.env.scope scope p) (hN : X.N.Nodup) (hip : X.N[ip]? = some p) (rx : RelV x v)
    (e0 : Env0 X.prog X.w X.K X.mg X.base A X.stack s H) (hd : A.handled = none) (hns : h1.Ns s.heap.objs.size fun y => [(p, v)].reverse.lookup y) (kp : ∀ b o, s.heap.get? b = some o → h1.get? b = some o) :
    L2.Inv (LamX.lamCx X A X.stack s H E scope f c') [] (σ.set ip (some x)) H { s with heap := h1, toks := tk } := by
  have hfree := L.has I.ok
  have back : ∀ {y c}, (cloFrom X.env.cells scope.names []).lookup y = some c → X.env.cells.lookup y = some c := fun {y c} e => by
    rcases cloFrom_mem (PySem.mem_of_lookup e) with hm | ⟨hy, hc⟩
    · cases hm
    · obtain ⟨c1, e1⟩ := hfree _ hy rfl
      have e1 : X.env.cells.lookup y = some c1 := e1
      have e2 : c = c1 := by
        rw [hc, e1] <;> rfl
      rw [e2]
      exact e1
  have there : ∀ {y}, scope.names.lookup y = some .free → ∃ c, (cloFrom X.env.cells scope.names []).lookup y = some c := fun {y} hl =>
    mem_lookup (cloFrom_has (cells := X.env.cells) (acc := []) (PySem.mem_of_lookup hl))
  have cellK : ∀ {c : Addr} {u : Option Value}, s.heap.IsCell c u → h1.IsCell c u := fun {c u} ⟨o, ho, hdt⟩ => ⟨o, kp _ _ ho, hdt⟩
  have noA : ∀ b : Addr, b ∉ (LamX.lamCx X A X.stack s H E scope f c').ex := fun b z => absurd (show b ∈ ([] : List Addr) from z) (by simp)
  refine ⟨⟨e0.mod, L.kind, rfl, rfl, Nat.le_refl _, fun y z c e1 e2 => I.ok.inj y z c (back e1) (back e2), fun y hy => ?_, fun y c z _ => ?_, fun _ => hd, Around.frames_deeper e0.frames, .inr ⟨rfl, rfl⟩, fun b z => absurd z (noA b), e0.bs, e0.bsz, fun b _ _ => noA b,
      fun b z => absurd z (noA b), e0.funs, e0.frf⟩,
    rfl, e0.bare, L2.Un.kept kp, ⟨_, hns, fun i y u e1 e2 e3 => ?_⟩, fun y c e => ?_, e0.hok.fresh (Nat.le_refl _), fun y c e => ?_, fun q hq => absurd (show q ∈ ([] : List (Addr × Obj)) ++ [] from hq) (by simp), e0.hok.kept kp, by rw [List.length_set]; exact I.len⟩
  · have hy : scope.names.lookup y = some .cell ∨ scope.names.lookup y = some .free := hy
    rcases hy with hy | hy
    · exact absurd rfl (L.own _ (PySem.mem_of_lookup hy)).1
    · exact there hy
  · have z : false = true := z
    cases z
  · have e3 : Vis scope y := e3
    have e1 : X.N[i]? = some y := e1
    rcases e3 with k | k | k
    · have ey : y = p := (L.own _ (PySem.mem_of_lookup k)).2 rfl
      subst ey
      have ei : i = ip := L2.nodup_ix hN e1 hip
      subst ei
      have hl : i < σ.length := by rw [I.len]; exact (List.getElem?_eq_some_iff.mp hip).1
      rw [List.getElem?_set_self hl] at e2
      cases e2
      exact ⟨v, rx, .inl ⟨k, by simp⟩⟩
    · exact absurd rfl (L.own _ (PySem.mem_of_lookup k)).1
    · have ne : ip ≠ i := fun z => by
        subst z
        rw [hip] at e1
        cases e1
        have k2 := L.par
        rw [show scope.names.lookup p = some .free from k] at k2
        cases k2
      rw [List.getElem?_set_ne ne] at e2
      obtain ⟨m, hn, hl⟩ := I.loc
      have hvis : Vis X.env.scope y := (L.free _ (PySem.mem_of_lookup k) rfl).elim (fun k => .inr (.inl k)) (fun k => .inr (.inr k))
      obtain ⟨w', r, q⟩ := hl i y u e1 e2 hvis
      obtain ⟨c2, h2⟩ := there k
      refine ⟨w', r, .inr ⟨.inr k, c2, h2, ?_⟩⟩
      have c1 := back h2
      rcases q with ⟨k', _⟩ | ⟨_, c3, e', z⟩
      · have k' : X.env.scope.names.lookup y = some .local := k'
        rcases L.free _ (PySem.mem_of_lookup k) rfl with k2 | k2 <;> rw [show X.env.scope.names.lookup y = _ from k2] at k' <;> cases k'
      · rw [c1] at e'
        cases e'
        exact cellK z
  · obtain ⟨w', z⟩ := I.cell y c (back e)
    exact ⟨w', cellK z⟩
  · exact I.freeC y c (back e)
abbrev noE : XK := fun _ _ _ => False
theorem lam_call1 {A : Around} {k ip : Nat} {f c' : Addr} {params : Arguments} {body : Expr} {scope : Scope} {pm ctv : Value} {p : Str} {x : V} {v : Value} {tb : TE} {Q : VK} {E : Value → Shared → Prop} (hr : Room (k + 1) A) (e0 : Env0 X.prog X.w X.K X.mg X.base A X.stack s H) (I : L2.Inv X pins σ H s)
    (L : LamS1 X.env.scope scope p) (hN : X.N.Nodup) (hip : X.N[ip]? = some p) (hf : s.heap.get? f = some (lamO X params body scope pm c' ctv)) (hc : H c' = some (LamX.CodeO c' (lamQ X)))
    (hbind : bindArgs (PySem.W.kla_fn "<lambda>" (lamQ X) params body scope (cloFrom X.env.cells scope.names []) pm (.ref c') ctv) ⟨[v], []⟩ = Pure.pure [(p, v)]) (rx : RelV x v)
    (hbody : Room k (A.deeper (LamX.lamEnv X scope s.heap.objs.size f c')) → PE (LamX.lamCx X A X.stack s H noE scope f c') body tb) (ht : tb (σ.set ip (some x)) H Q) :
    wpAny (model X.prog X.w) A (call (.ref f) [v]) (fun u s' => ∃ y H', L2.Inv X pins σ H' s' ∧ RelV y u ∧ Q y H' ∧ L2.Un (frs X.stack) [] H H' s.heap s'.heap) E s := by
  obtain ⟨⟨oc, vs, t, hoc, hdc, hvc⟩, _, _⟩ := I.hok c' _ hc
  have rc : codeAny (model X.prog X.w) A (.call (.ref f) ⟨[v], []⟩) (CR (L2.CX X.prog X.w) X.stack X.prog X.w H s Q noE) s := by
    refine PySem.W.kla_callFunE (by have := hr.dp; omega) hf rfl L.co L.gen rfl ⟨c', oc, vs, t, rfl, hoc, hdc, hvc⟩ ?_
    rw [hbind]
    refine wpAny_pure (wpAny_newFunctionEnv (fun y hy => (L.own y hy).1) (fun y hy => ?_) (fun h₁ hns hsb => ⟨I.nolimit.fresh _ hsb, ?_⟩) L.kind)
    · rw [List.mem_singleton.mp hy]; exact L.par
    show codeAny _ _ (.expr body (LamX.lamEnv X scope s.heap.objs.size f c')) _ _
    have kp : ∀ b o, s.heap.get? b = some o → h₁.get? b = some o := fun b o e => hsb.extBut b o (Nat.ne_of_lt (Heap.lt_size e)) (Heap.get?_push_of_some _ e)
    have J := lam_start1 (E := noE) (f := f) (c' := c') (tk := s.toks + [(p, v)].length) I L hN hip rx e0 hr.hd hns kp
    refine PySem.W.kla_codeExpr (wpAny_mono ((hbody (hr.deeper _)).run [] _ _ H Q J ht) (fun u s' hq => ?_) fun e s' hq => hq)
    obtain ⟨w', H', J', rv, q⟩ := hq
    exact ⟨w', H', J'.os, J'.bare, J'.base, J'.hok, rv, q⟩
  refine wpAny_call (codeAny_mono rc fun r s' hq => ?_)
  cases r with
  | error e =>
    obtain ⟨_, _, _, _, _, _, _, _, _, _, _, _, _, _, _, _, z⟩ := (show L2.CX X.prog X.w X.stack H s noE e s' from hq)
  | ok fl =>
    cases fl with
    | ret u =>
      obtain ⟨y, H', os, bare, un, hok, ry, q⟩ := (show CE X.stack X.prog X.w H s Q u s' from hq)
      obtain ⟨hh, g, d, t, os'⟩ := s'
      obtain rfl : os' = s.os := os
      exact ⟨y, H', I.call (h' := hh) (g' := g) (d' := d) (t' := t) (ch := []) un hok bare (fun b z => absurd z (by simp)), ry, q, un⟩
    | next => exact False.elim hq
    | brk => exact False.elim hq
    | cont => exact False.elim hq
/-! ### a key's turn -/
def mask (δ : Dl) : Dl := δ.map fun o => match o with
  | some d => if flat d = true then some d else none
  | none => none
theorem flat_go {K : PySem.W.Frag} {as : Bx} {H H1 : Hp} {v : V} {d : D} (st : ∀ b o, H b = some o → (∀ ps, o ≠ .tbl ps) → H1 b = some o) (r : Rd K as H v d) (h : flat d = true) : Rd K ([], []) H1 v d :=
  r.mapF (fun a xs q => sqT_of (fun b o e n => hid_some.mpr ⟨fun z => by rcases z with z | z <;> simp at z, st b o (hid_some.mp e).2 n⟩) q) h
theorem sto0 {K : PySem.W.Frag} {H : Hp} : Sto K ([], []) H [] := ⟨List.nodup_nil, rfl, fun b hb => by simp at hb, fun b hb => by simp at hb, fun k a ds h => by simp at h⟩
theorem Ok.mask {K : PySem.W.Frag} {as : Bx} {H H1 : Hp} {σ : L2.St} {δ : Dl} {mu : Mu} (o : Ok K T as H σ δ mu) (st : ∀ b o, H b = some o → (∀ ps, o ≠ .tbl ps) → H1 b = some o) (tb : LamX.Tabs T H1) : Ok K T ([], []) H1 σ (mask δ) [] := by
  refine ⟨by unfold DL.mask; rw [List.length_map]; exact o.len, fun i d h => ?_, sto0, tb⟩
  unfold DL.mask at h
  rw [List.getElem?_map] at h
  rcases e : δ[i]? with _ | (_ | d')
  · rw [e] at h; cases h
  · rw [e] at h; cases h
  · rw [e] at h
    by_cases hf : flat d' = true
    · have h : some (if flat d' = true then some d' else none) = some (some d) := h
      rw [if_pos hf] at h
      cases h
      obtain ⟨v, h1, h2⟩ := o.rel i _ e
      exact ⟨v, h1, flat_go st h2 hf⟩
    · have h : some (if flat d' = true then some d' else none) = some (some d) := h
      rw [if_neg hf] at h
      cases h
/-- what stays through the keys' calls -/
structure KJ (X : Cx) (T : List (Addr × Str)) (pins : List (Addr × Obj)) (σ : L2.St) (H : Hp) (f : Addr) (fo : Obj) (scr : List Addr) (s : Shared) : Prop where
  ex : ∃ H1, L2.Inv X pins σ H1 s ∧ Post X.K T ([], []) H ([], []) H1 [] ∧ ∀ b ∈ f :: scr, FpOk X pins H1 b
  obj : s.heap.get? f = some fo
theorem KJ.moved {f : Addr} {fo : Obj} {scr ch : List Addr} {h' : Heap} {tk : Nat} (J : KJ X T pins σ H f fo scr s) (hc : ∀ b ∈ ch, b ∈ scr) (hf : f ∉ ch) (k : ∀ b o, b ∉ ch → s.heap.get? b = some o → h'.get? b = some o) : KJ X T pins σ H f fo scr { s with heap := h', toks := tk } := by
  obtain ⟨H1, I, p, q⟩ := J.ex
  exact ⟨⟨H1, I.turnedL k fun b hb => q b (List.mem_cons_of_mem _ (hc b hb)), p, q⟩, k _ _ hf J.obj⟩
theorem stay_of {as : Bx} {H H1 : Hp} (f : Fwd ([], []) H ([], []) H1) : ∀ b o, H b = some o → (∀ ps, o ≠ .tbl ps) → H1 b = some o := fun b o e n => f.stay b o (fun z => by rcases z with z | z <;> simp at z) e n
theorem key_turn {A : Around} {k ip : Nat} {f c' : Addr} {params : Arguments} {body : Expr} {scope : Scope} {pm ctv : Value} {p : Str} {as : Bx} {δ : Dl} {mu : Mu} {x : V} {v : Value} {d : D} {n : Int} {φ : DE} {scr : List Addr} {E : Value → Shared → Prop}
    (hr : Room (k + 1) A) (hA : ∀ s H, Env0 X.prog X.w X.K X.mg X.base X.A X.stack s H → Env0 X.prog X.w X.K X.mg X.base A X.stack s H) (L : LamS1 X.env.scope scope p) (hN : X.N.Nodup) (hip : X.N[ip]? = some p) (hc : H c' = some (LamX.CodeO c' (lamQ X)))
    (hbind : bindArgs (PySem.W.kla_fn "<lambda>" (lamQ X) params body scope (cloFrom X.env.cells scope.names []) pm (.ref c') ctv) ⟨[v], []⟩ = Pure.pure [(p, v)])
    (hbody : ∀ (s : Shared) (H : Hp), Room k (A.deeper (LamX.lamEnv X scope s.heap.objs.size f c')) → ED (LamX.lamCx X A X.stack s H noE scope f c') T body φ)
    (o : Ok X.K T as H σ δ mu) (rd : Rd X.K as H x d) (hd : flat d = true) (hk : ∀ Qd : D → Mu → Prop, Qd (.int n) [] → φ ((mask δ).set ip (some d)) [] Qd) (rx : RelV x v)
    (J : KJ X T pins σ H f (lamO X params body scope pm c' ctv) scr s) (hex : ∀ b ∈ scr, ∃ o, s.heap.get? b = some o) :
    wpAny (model X.prog X.w) A (call (.ref f) [v]) (fun r s' => (∃ t, r = .int n t) ∧ KJ X T pins σ H f (lamO X params body scope pm c' ctv) scr s' ∧ (∀ b ∈ scr, ∀ o, s.heap.get? b = some o → s'.heap.get? b = some o)) E s := by
  obtain ⟨H1, I, p1, q1⟩ := J.ex
  have hexA : ∀ b ∈ f :: scr, ∃ o, s.heap.get? b = some o := fun b hb => by
    rcases List.mem_cons.mp hb with z | z
    · rw [z]; exact ⟨_, J.obj⟩
    · exact hex b z
  have st := stay_of (as := as) p1.fwd
  have o1 := (o.mask st p1.tab).set ip (flat_go st rd hd)
  refine thn (lam_call1 (E := E) (Q := fun u H2 => (∃ u', u = .int u' ∧ u' = n) ∧ Post X.K T ([], []) H1 ([], []) H2 []) hr (hA _ _ I.env0) I L hN hip J.obj (st _ _ hc LamX.codeO_ne) hbind rx (fun r => hbody s H1 r) ⟨([], []), _, [], _, o1, hk (fun e mu1 => e = .int n ∧ mu1 = []) ⟨rfl, rfl⟩, fun e mu1 u H2 ⟨e1, e2⟩ p2 r2 => ?_⟩) fun r s' ⟨u, H2, I2, ru, ⟨⟨u', e1, e2⟩, p2⟩, un⟩ => ?_
  · subst e1 e2
    cases r2
    exact ⟨⟨_, rfl, rfl⟩, p2⟩
  · subst e1 e2
    have nofr : ∀ b ∈ f :: scr, b ∉ frs X.stack := fun b hb z => by
      rcases List.mem_cons.mp (I.stkSub b z) with e | e
      · exact (q1 b hb).2.1 e
      · exact (q1 b hb).2.2.1 e
    have pin : ∀ b ∈ f :: scr, ∀ o, s.heap.get? b = some o → s'.heap.get? b = some o ∧ H2 b = none := fun b hb o e =>
      ⟨un.keep b o e (q1 b hb).1 (nofr b hb) (by simp), un.free b o e (q1 b hb).1 (by simp)⟩
    refine ⟨ru, ⟨⟨H2, I2, p1.trans p2, fun b hb => ?_⟩, (pin f List.mem_cons_self _ J.obj).1⟩, fun b hb o e => (pin b (List.mem_cons_of_mem _ hb) o e).1⟩
    obtain ⟨o, e⟩ := hexA b hb
    exact ⟨(pin b hb o e).2, (q1 b hb).2⟩
theorem ext_fwd {K : PySem.W.Frag} {as : Bx} {H H1 : Hp} {mu : Mu} (S : Sto K as H mu) (st : ∀ b o, H b = some o → (∀ ps, o ≠ .tbl ps) → H1 b = some o) (th : ∀ b, H b ≠ none → H1 b ≠ none) (tb : LamX.Tabs T H1) : Post K T as H as H1 mu := by
  have f : Fwd as H as H1 := ⟨List.prefix_refl _, rfl, fun _ h => .inl h, fun b o _ e n => st b o e n, th, fun b hb => by
    obtain ⟨xs, e⟩ := S.hs b hb
    rw [e]; exact st b _ e fun _ z => by cases z⟩
  refine ⟨f, S.fwd f fun b hb => ?_, tb⟩
  obtain ⟨k, hk, e⟩ := List.mem_iff_getElem.mp hb
  have hk2 : k < mu.length := by rw [← S.len]; exact hk
  obtain ⟨vs, e1, _⟩ := S.get k b mu[k] (by rw [List.getElem?_eq_getElem hk, e]) (List.getElem?_eq_getElem hk2)
  rw [e1]; exact st b _ e1 fun _ z => by cases z
theorem lift_post {K : PySem.W.Frag} {as : Bx} {H H1 : Hp} {mu : Mu} (S : Sto K as H mu) (p : Post K T ([], []) H ([], []) H1 []) : Post K T as H as H1 mu := ext_fwd S (stay_of (as := as) p.fwd) p.fwd.there p.tab
/-! ### the least -/
theorem argBest_le (kf : Nat → Int) : ∀ k, argBest (fun i j => decide (kf i < kf j)) k ≤ k ∧ ∀ j, j ≤ k → kf (argBest (fun i j => decide (kf i < kf j)) k) ≤ kf j
  | 0 => ⟨Nat.le_refl _, fun j hj => by rw [Nat.le_zero.mp hj]; exact Int.le_refl _⟩
  | k + 1 => by
    obtain ⟨h1, h2⟩ := argBest_le kf k
    unfold argBest
    by_cases c : kf (k + 1) < kf (argBest (fun i j => decide (kf i < kf j)) k)
    · rw [if_pos (decide_eq_true c)]
      refine ⟨Nat.le_refl _, fun j hj => ?_⟩
      rcases Nat.lt_or_ge j (k + 1) with z | z
      · have := h2 j (by omega); omega
      · rw [show j = k + 1 by omega]; exact Int.le_refl _
    · rw [if_neg (by rw [decide_eq_false c]; exact Bool.false_ne_true)]
      refine ⟨by omega, fun j hj => ?_⟩
      rcases Nat.lt_or_ge j (k + 1) with z | z
      · exact h2 j (by omega)
      · rw [show j = k + 1 by omega]; omega
def keyAt (key : D → Int) (ds : List D) (i : Nat) : Int := match ds[i]? with
  | some d => key d
  | none => 0
theorem keyAt_of {key : D → Int} {ds : List D} {i : Nat} {d : D} (h : ds[i]? = some d) : keyAt key ds i = key d := by unfold keyAt; rw [h]
/-- a list that is walked, its values known -/
theorem walk_vals {prog : Program} {w : World} {A : Around} (hh : A.handled = none) (I a : Addr) (hne : a ≠ I) (vs : List V) :
    WalksS prog w A I [I, a] [I] (fun a b => b = a) vs.length (fun i v => ∃ x, vs[i]? = some x ∧ RelV x v) (fun i s => ∃ its : Array Value, Vals vs its.toList ∧ s.heap.IsListIter I a i ∧ s.heap.IsList a its) where
  sub := fun b hb => by simp at hb; simp [hb]
  grefl := fun _ => rfl
  gtrans := fun _ _ _ h1 h2 => h2.trans h1
  frame := fun i s h' tk ⟨its, r, a1, a2⟩ _ hk => ⟨its, r, a1.at fun o e => hk I (by simp) o e, a2.at fun o e => hk a (by simp) o e⟩
  item := fun i s Q E hi ⟨its, r, a1, a2⟩ hQ => by
    have hl : vs.length = its.size := by rw [r.length, Array.length_toList]
    refine (Walks.list hh I a hne its).toS.item i s Q E (by rw [← hl]; exact hi) ⟨a1, a2⟩ fun v s' hv st mv => hQ v s' ?_ ⟨its, r, st.1, st.2⟩ mv
    have hv' : its.toList[i]? = some v := by rw [Array.getElem?_toList]; exact hv
    have hi2 : i < vs.length := hi
    obtain ⟨u, e1, e2⟩ := Vals.get r (List.getElem?_eq_getElem hi2)
    rw [hv'] at e1
    cases e1
    exact ⟨_, List.getElem?_eq_getElem hi2, e2⟩
  done := fun s Q E ⟨its, r, a1, a2⟩ hQ => by
    have hl : vs.length = its.size := by rw [r.length, Array.length_toList]
    exact (Walks.list hh I a hne its).toS.done s Q E ⟨by rw [← hl]; exact a1, a2⟩ hQ
  self := fun i s Q E ⟨its, r, a1, a2⟩ hQ => wpAny_pyIter_listiter a1 hQ
/-- a def's body, its code known -/
theorem fn_dc {P : Program} {w : World} {K : PySem.W.Frag} {mg : Str → Option Value} {base : Heap} {x qual : Str} {st : Stmt} {f c : Addr} {fd : FuncData} {N ps : List Str} {k : Nat} {Φ : PhiD} {φ : DS} (F : Fun K x qual st f fd) (S : FnScope N ps (defScope st)) (hcode : fd.code = .ref c)
    (len : ∀ ds mu Qd, Φ ds mu Qd → ds.length = ps.length)
    (hbody : ∀ (A : Around) (outer : List Env) (s : Shared) (H : Hp) (E : XK), Room k (A.deeper (envOfC qual (defScope st) s.heap.objs.size f (.ref c))) → SsD (cxOf CX0 P w K mg base N qual (defScope st) f (.ref c) A outer s H E).nox T (defBody st) φ)
    (hread : ∀ ds mu Qd, Φ ds mu Qd → Put (startD N ds) fun δ => φ (endsD mu Qd) δ mu) : FnOk P w K mg base CX0 (k + 1) f fd ps (spD K T Φ) := by
  obtain ⟨oc, od, kV, doc, pm, an, cdv, ct, osl, rfl, lk, hcd⟩ := F.ex
  obtain rfl : cdv = .ref c := hcode
  refine fn_of lk hcd S (fun vs H Q E ⟨as, ds, mu, Qd, r, _, _, h, _⟩ => by rw [r.length]; exact len ds mu Qd h) fun A outer s H vs Q E hr ⟨as, ds, mu, Qd, r, S0, TT, h, q⟩ => ⟨_, (hbody A outer s H E hr).nox, as, startD N ds, mu, _, start_ok r S0 TT, (hread ds mu Qd h).go, ?_⟩
  refine ⟨fun as1 δ1 mu1 σ1 H1 hq f1 o1 => ?_, fun as1 d mu1 v H1 ⟨hd, hq⟩ p1 r1 => ?_, fun _ _ _ _ _ z => z.elim, fun _ _ _ _ _ z => z.elim⟩
  · exact q _ _ _ H1 hq (Post.back S0 ⟨f1, o1.sto, o1.tab⟩) .non
  · rcases hd with hd | hd
    · exact q _ _ _ H1 hq (Post.back S0 p1) (rd_back p1.fwd.pre p1.fwd.ext r1 hd)
    · have e : as1 = as := by
        have h1 : as1.1.length = as.1.length := by rw [p1.sto.len, S0.len]; exact hd
        exact Prod.ext (p1.fwd.pre.eq_of_length h1.symm).symm p1.fwd.ext
      subst e
      exact q _ _ _ H1 hq (Post.back S0 p1) r1
/-- the lambda, as the keys' rules want it -/
structure LamOk (X : Cx) (T : List (Addr × Str)) (k ip : Nat) (p : Str) (params : Arguments) (body : Expr) (scope : Scope) (φk : DE) : Prop where
  tab : ∃ c P, LamX.TabB X.base X.mg c P ∧ X.env.code = .ref c ∧ (P, lamQ X) ∈ T ∧ ∀ q ∈ T, q.1 = P → q.2 = lamQ X
  dflt : defaultsOf params X.env = ([], [])
  sc : LamS1 X.env.scope scope p
  nd : X.N.Nodup
  ip : X.N[ip]? = some p
  room : Room (k + 3) X.A
  bind : ∀ (q : Str) (cl : List (Str × Addr)) (pm cv ctv v : Value), bindArgs (PySem.W.kla_fn "<lambda>" q params body scope cl pm cv ctv) ⟨[v], []⟩ = Pure.pure [(p, v)]
  body : ∀ (A : Around) (s : Shared) (H : Hp) (f c' : Addr), Room k (A.deeper (LamX.lamEnv X scope s.heap.objs.size f c')) → ED (LamX.lamCx X A X.stack s H noE scope f c') T body φk
def keysD (ip : Nat) (φk : DE) (δ : Dl) (ds : List D) (key : D → Int) : Prop := ∀ d ∈ ds, flat d = true ∧ Put ((mask δ).set ip (some d)) fun δ1 => ∀ Qd : D → Mu → Prop, Qd (.int (key d)) [] → φk δ1 [] Qd
def dMinK (ip : Nat) (φ : DE) (φk : DE) : DE := fun δ mu Q => φ δ mu fun x mu1 => ∃ k ds key, x = .box k ∧ mu1[k]? = some ds ∧ 0 < ds.length ∧ keysD ip φk δ ds key ∧ ∀ d ∈ ds, (∀ e ∈ ds, key d ≤ key e) → Q d mu1
theorem ed_minK {e : Expr} {p1 lpos kpos : Pos} {params : Arguments} {body : Expr} {scope : Scope} {k ip : Nat} {p : Str} {φ φk : DE} (hcalm : X.calm = true) (hg : Gl X "min") (hm : X.mg "min" = none) (he : ED X T e φ) (O : LamOk X T k ip p params body scope φk)
    (n1 : starEach [e] X.env = (false, eval e X.env) :: starEach [] X.env := by rfl) (n2 : backTo pos (starEach [e] X.env) = (false, eval e X.env) :: backTo pos (starEach [] X.env) := by rfl) (n3 : (backTo pos (starEach [e] X.env)).any (·.1) = false := by rfl) :
    ED X T (.Call (.Name "min" p1) [e] [⟨some "key", .Lambda params body scope lpos, kpos⟩] pos) (dMinK ip φ φk) := by
  refine ⟨fun pins st σ H0 Q I0 h => ?_⟩
  obtain ⟨as, δ, mu, Qd, o0, h, q⟩ := h
  obtain ⟨c, P, TB, hcode, hmT, hu⟩ := O.tab
  refine wpAny_Call_Name_kw (ld_blt I0 hg hm (by decide +kernel : bootBuiltins "min" = some (.builtin "min")) ?_)
  refine PyProof.Rows.callWith_kw (kws := [⟨some "key", .Lambda params body scope lpos, kpos⟩]) (thn ((ad_cons he ad_nil n1).run pos pins st σ H0 (fun vs H1 => ∃ v k ds key mu1, vs = [v] ∧ mu1[k]? = some ds ∧ 0 < ds.length ∧ keysD ip φk δ ds key ∧ (∀ d ∈ ds, (∀ e ∈ ds, key d ≤ key e) → Qd d mu1) ∧ Post X.K T as H0 as H1 mu1 ∧ Rd X.K as H1 v (.box k)) I0
    ⟨as, δ, mu, fun es mu1 => match es with
      | [x] => ∃ k ds key, x = .box k ∧ mu1[k]? = some ds ∧ 0 < ds.length ∧ keysD ip φk δ ds key ∧ ∀ d ∈ ds, (∀ e ∈ ds, key d ≤ key e) → Qd d mu1
      | _ => False, o0, h, fun es mu1 vs H1 hes pp rr => ?hmid⟩) fun us s1 ⟨vs, H1, I1, r1, v, bk, ds, key, mu1, ev, hbk, hlen, hkeys, hend, pp, rr⟩ => ?_) n2 n3 (by rfl) (by rfl)
  case hmid =>
    cases rr with
    | nil => exact hes.elim
    | cons ra rr =>
      cases rr with
      | cons rb rr => exact hes.elim
      | nil =>
        obtain ⟨k, ds, key, e1, h1, h2, h3, h4⟩ := hes
        subst e1
        exact ⟨_, k, ds, key, mu1, rfl, h1, h2, h3, h4, pp, ra⟩
  subst ev
  cases rr with
  | box hbox =>
  rename_i a
  obtain rfl : us = [.ref a] := Vals.ref1 r1
  obtain ⟨vs, hla, rvs, pvs⟩ := pp.sto.get bk a ds hbox hbk
  refine wpAny_evalAll_cons (wpAny_bind (lam_new TB hcode hmT hu O.dflt (O.sc.has I1.ok) pp.tab I1 fun f c' pm ctv H2 s2 LM => wpAny_bind (wpAny_standAt (wpAny_pure ?_))))
  refine wpAny_evalAll_nil ?_
  have p2 : Post X.K T as H1 as H2 mu1 := ext_fwd pp.sto LM.ext LM.there LM.tabs
  have o2 : Ok X.K T as H2 σ δ mu1 := (o0.go pp).go p2
  have hla2 : H2 a = some (.lst vs) := LM.ext _ _ hla fun _ z => by cases z
  have rvs2 := p2.fwd.rdA rvs
  show wpAny _ _ (call (.builtin "min") [.ref a] [(Str.ofString "key", .ref f)]) _ _ s2
  refine call_min_walkK ?_
  obtain ⟨lz, its, nn, ri, ho⟩ := LM.inv.hok a _ hla2
  have hl : s2.heap.IsList a its.toArray := ⟨_, ho, rfl, nn, rfl⟩
  refine wpAny_pyIter_list hl ?_
  have alt : a < s2.heap.objs.size := Heap.lt_size ho
  have hh := LM.inv.ok.hd hcalm
  have hfa : f < s2.heap.objs.size := Heap.lt_size LM.obj
  have hsz : (s2.heap.push { cls := .type "list_iterator", data := .fields #[.ref a, .int 0 0] }).objs.size = s2.heap.objs.size + 1 := Heap.size_push ..
  refine ⟨s2.heap.objs.size, [s2.heap.objs.size, a], [s2.heap.objs.size], fun a b => b = a, vs.length, fun i v => ∃ x, vs[i]? = some x ∧ RelV x v, fun i s => ∃ its : Array Value, Vals vs its.toList ∧ s.heap.IsListIter s2.heap.objs.size a i ∧ s.heap.IsList a its, KJ X T pins σ H2 f (lamO X params body scope pm c' ctv) [s2.heap.objs.size + 1, s2.heap.objs.size], fun i k _ => ∃ t, k = .int (keyAt key ds i) t, fun i j => decide (keyAt key ds i < keyAt key ds j), rfl,
    walk_vals (A := X.A.in1) hh s2.heap.objs.size a (Nat.ne_of_lt alt) vs, ⟨its.toArray, ri, ⟨_, Heap.get?_push_size _ rfl, rfl, rfl⟩, hl.at fun o e => Heap.get?_push_of_some _ e⟩, ?_, by rw [rvs.length]; exact hlen, ?_, ?_, ?_⟩
  · intro b hb
    show b < (s2.heap.push _).objs.size
    rw [hsz]
    rcases List.mem_cons.mp hb with z | z
    · rw [z]; exact Nat.lt_succ_self _
    · rw [List.mem_singleton.mp z]; exact Nat.lt_succ_of_lt alt
  · refine ⟨fun s t J mv => ?_, fun i k s t v _ => v, fun i v s o Q' E' hi ⟨x, hx, rx⟩ J ⟨its1, r1', l1, l2⟩ hS hQ => ?_, fun i j ki kj s Q' E' _ ⟨t1, e1⟩ ⟨t2, e2⟩ hq => ?_⟩
    · rw [Moved.eq_with mv]
      refine J.moved (ch := [s2.heap.objs.size + 1, s2.heap.objs.size]) (fun b hb => hb) (fun z => ?_) fun b o hb e => mv.heap b o (by rw [← hsz] at hb; exact hb) e
      rcases List.mem_cons.mp z with z | z
      · rw [z] at hfa; exact absurd (Nat.lt_trans hfa (Nat.lt_succ_self _)) (Nat.lt_irrefl _)
      · rw [List.mem_singleton.mp z] at hfa; exact absurd hfa (Nat.lt_irrefl _)
    · obtain ⟨d, hd, rd⟩ := rvs2.get' hx
      obtain ⟨fl, hk⟩ := hkeys d (List.mem_of_getElem? hd)
      rw [keyAt_of hd] at hQ
      have hS' : s.heap.get? (s2.heap.objs.size + 1) = some o := by rw [← hsz]; exact hS
      obtain ⟨oi, e1, e2, e3⟩ := l1
      refine thn (key_turn (A := X.A.in1) (E := E') (scr := [s2.heap.objs.size + 1, s2.heap.objs.size]) (O.room.mono (by omega)).in1 (fun s H e => e.in1) O.sc O.nd O.ip LM.co (O.bind _ _ _ _ _ _) (fun s H r => O.body _ _ _ _ _ r) o2 rd fl (hk.go) rx J ?_) fun r s' ⟨hr', J', kp⟩ => ?_
      · intro b hb
        rcases List.mem_cons.mp hb with z | z
        · rw [z]; exact ⟨o, hS'⟩
        · rw [List.mem_singleton.mp z]; exact ⟨oi, e1⟩
      · refine hQ r s' J' ?_ (by rw [hsz]; exact kp _ List.mem_cons_self _ hS') hr' fun j k' z => z
        obtain ⟨H3, I3, p3, q3⟩ := J'.ex
        obtain ⟨lz3, its3, nn3, ri3, ho3⟩ := I3.hok a _ (stay_of (as := as) p3.fwd a _ hla2 fun _ z => by cases z)
        exact ⟨its3.toArray, ri3, ⟨oi, kp _ (List.mem_cons_of_mem _ List.mem_cons_self) _ e1, e2, e3⟩, ⟨_, ho3, rfl, nn3, rfl⟩⟩
    · subst e1 e2
      exact lt_int hq
  · refine ⟨⟨H2, ?_, ⟨Fwd.refl, sto0, LM.tabs⟩, fun b hb => ?_⟩, Heap.get?_push_of_some _ LM.obj⟩
    · exact LM.inv.kept (t' := s2.toks) fun b o e => Heap.get?_push_of_some _ e
    · rcases List.mem_cons.mp hb with z | z
      · rw [z]; exact LM.fp
      · rcases List.mem_cons.mp z with z | z
        · rw [z]; exact LM.inv.fpOk (Nat.le_succ _) (LM.inv.hok.fresh (Nat.le_succ _))
        · rw [List.mem_singleton.mp z]; exact LM.inv.fpOk (Nat.le_refl _) (LM.inv.hok.fresh (Nat.le_refl _))
  · intro v s' ⟨x, hx, rx⟩ J
    obtain ⟨H3, I3, p3, q3⟩ := J.ex
    obtain ⟨d, hd, rd⟩ := rvs2.get' hx
    have best := argBest_le (keyAt key ds) (vs.length - 1)
    have p4 := lift_post (as := as) (mu := mu1) p2.sto p3
    refine ⟨x, H3, I3, rx, q d mu1 x H3 (hend d (List.mem_of_getElem? hd) fun e he => ?_) ((pp.trans p2).trans p4) (p4.fwd.rd rd)⟩
    obtain ⟨j, hj, ej⟩ := List.mem_iff_getElem.mp he
    have := best.2 j (by rw [rvs.length]; omega)
    rw [keyAt_of hd, keyAt_of (by rw [List.getElem?_eq_getElem hj, ej])] at this
    exact this
end
end DL
end
section
/-! DL: sorted by a lambda's key. -/
namespace DL
open PySem PySem.Spec PySem.Calls PyProof.Rows L2 PySem.W
section
variable {prog : Program} {w : World} {A : Around} {E : Value → Shared → Prop} {s : Shared}
abbrev lobj (xs : Array Value) (n : Nat) : Obj := seqObj "list" xs n
theorem key_fold {f : Value} {a kS : Addr} {e1 : Nat} {vs : List Value} {ns : List Int} {J : Shared → Prop} {P : PySem.Fin → Shared → Prop} (hJ : J s) (nk : s.heap.get? kS = some (lobj #[] 0)) (na : s.heap.get? a = some (lobj #[] e1)) (hka : kS ≠ a)
    (hlen : ns.length = vs.length) (hZ : vs.length ≤ sizeLine) (hu : A.units < cLine)
    (keep : ∀ (t : Shared) (h' : Heap) (tk : Nat), J t → (∀ b o, b ≠ a → b ≠ kS → t.heap.get? b = some o → h'.get? b = some o) → J { t with heap := h', toks := tk })
    (turn : ∀ (i : Nat) (v : Value) (n : Int), vs[i]? = some v → ns[i]? = some n → ∀ t : Shared, J t → (∃ o, t.heap.get? a = some o) → (∃ o, t.heap.get? kS = some o) →
      wpAny (model prog w) A (call f [v]) (fun r t' => (∃ u, r = .int n u) ∧ J t' ∧ (∀ o, t.heap.get? a = some o → t'.heap.get? a = some o) ∧ ∀ o, t.heap.get? kS = some o → t'.heap.get? kS = some o) (fun _ _ => False) t)
    (h : ∀ t out c, J t → t.heap.get? a = some (lobj (List.toArray out) c) → KeyedOut false (ns.map PyData.int) vs out → P (.done (.ret .none)) t) :
    wpAny (model prog w) A (ksk_rest a f false vs.toArray e1 (.ref kS)) P E s := by
  unfold ksk_rest
  refine wpAny_bind (wpAny_rule ?_)
  first
    | rw [List.forIn_toArray]
    | (rw [← Array.forIn_toList]; simp only [List.toList_toArray])
    | rw [← Array.forIn_toList]
  refine wpAny_bind (ksk_fold (fun i t => ∃ kA e, J t ∧ t.heap.get? kS = some (lobj kA e) ∧ t.heap.get? a = some (lobj #[] e1) ∧ EachIs (fun v n => ∃ u, v = Value.int n u) kA.toList (ns.take i)) vs 0 s
    ⟨#[], 0, hJ, nk, na, by rw [List.take_zero]; exact EachIs.nil⟩ ?step ?done)
  case step =>
    rintro j x t hx ⟨kA, e, Jt, nk', na', hk⟩
    simp only [Nat.zero_add] at hk ⊢
    have hj : j < vs.length := (List.getElem?_eq_some_iff.mp hx).1
    obtain ⟨n, hn⟩ : ∃ n, ns[j]? = some n := ⟨_, List.getElem?_eq_getElem (by omega)⟩
    have hz : kA.size ≤ vs.length := by
      have h1 := hk.length
      rw [Array.length_toList, List.length_take] at h1
      omega
    refine wpAny_bind (wpAny_attempt (wpAny_mono (turn j x n hx hn t Jt ⟨_, na'⟩ ⟨_, nk'⟩) (fun v t' he => ?_) fun _ _ hF => hF.elim))
    obtain ⟨⟨u, rfl⟩, J2, ka, kk⟩ := he
    have nk2 := kk _ nk'
    have na2 := ka _ na'
    have s1 := Heap.SameBut.update t'.heap kS (Obj.mapSeq (·.push (Value.int n u)))
    obtain ⟨c2, hc2⟩ : ∃ c2, (t'.heap.update kS (Obj.mapSeq (·.push (Value.int n u)))).get? kS = some (lobj (kA.push (.int n u)) c2) := ⟨_, get?_update_seq nk2 (·.push (Value.int n u))⟩
    refine wpAny_bind (listUpdate_at nk2 rfl ?_ (Nat.le_trans hz hZ) (Nat.le_trans (Nat.le_of_eq (Array.size_push ..)) (Nat.succ_le_succ (Nat.le_trans hz hZ))))
    refine wpAny_pure ⟨rfl, kA.push (.int n u), c2, keep t' _ t'.toks J2 fun b o hb hb2 q => (s1.2 b hb2).trans q, hc2, (s1.2 a hka.symm).trans na2, ?_⟩
    have ek : ns.take (j + 1) = ns.take j ++ [n] := by rw [List.take_add_one, hn]; simp
    have ea : (kA.push (Value.int n u)).toList = kA.toList ++ [.int n u] := by simp
    rw [ea, ek]
    exact each_snoc (R := fun (v : Value) (n : Int) => ∃ u, v = Value.int n u) ⟨u, rfl⟩ hk
  case done =>
    rintro t ⟨kA, e, Jt, nk', na', hk⟩
    have e3 : ns.take (0 + vs.length) = ns := List.take_of_length_le (by omega)
    rw [e3] at hk
    have hr : EachIs (fun v d => ∃ as, Reads t.heap v d as) kA.toList (ns.map PyData.int) := by
      clear h turn keep e3 hZ hlen
      revert hk
      generalize kA.toList = l
      intro hk
      induction hk with
      | nil => exact .nil
      | cons q _ ih =>
        obtain ⟨u, rfl⟩ := q
        exact .cons ⟨[], .int _ u⟩ ih
    have hsz : kA.size = vs.length := by
      have h1 := hk.length
      rw [Array.length_toList] at h1
      omega
    have al : AllAlike (ns.map PyData.int) := fun d hd d' hd' => by
      obtain ⟨i, _, rfl⟩ := List.mem_map.mp hd
      obtain ⟨j, _, rfl⟩ := List.mem_map.mp hd'
      rfl
    have so : Sortable (ns.map PyData.int) := .inr fun d hd => by
      obtain ⟨i, _, rfl⟩ := List.mem_map.mp hd
      exact ⟨(fun z => nomatch z), (fun xs z => nomatch z)⟩
    have un : ∀ d, d ∈ ns.map PyData.int → A.units + d.depth < cLine := fun d hd => by
      obtain ⟨i, _, rfl⟩ := List.mem_map.mp hd
      exact hu
    obtain ⟨G, g1, g2⟩ := restrict t.heap fun b => decide (b ≠ kS)
    try dsimp only
    refine wpAny_bind (listItems_at nk' rfl ?_)
    refine keyH_end (κ := dataKind t.heap (ns.map PyData.int)) (h₁ := G) (fun b o hb q => ?_) (g2 kS (decide_eq_false fun z => z rfl)) nk' na' hka (SortsAt.data (s := t) hr al so un) hsz hZ fun h3 tk3 c k3 n3 => h _ _ c (keep t h3 tk3 Jt fun b o hb hb2 q => k3 b o hb ?_) n3 ⟨t.heap, kA.toList, al, rfl, hr⟩
    · by_cases z : b = kS
      · rw [z, g2 kS (decide_eq_false fun z => z rfl)] at q; cases q
      · rw [← g1 b (decide_eq_true z)]; exact q
    · rw [g1 b (decide_eq_true hb2)]; exact q
theorem sorted_J {l f : Addr} {vs : List Value} {ns : List Int} {J : Shared → Prop} {Q : Value → Shared → Prop} (hl : s.heap.IsList l vs.toArray) (hlen : ns.length = vs.length) (hZ : vs.length ≤ sizeLine) (hu : A.units + 2 < cLine)
    (hJ : ∀ h', (∀ b o, s.heap.get? b = some o → h'.get? b = some o) → J { s with heap := h' })
    (keep : ∀ (t : Shared) (h' : Heap) (tk : Nat), J t → (∀ b o, b ≠ s.heap.objs.size + 1 → b ≠ s.heap.objs.size + 3 → t.heap.get? b = some o → h'.get? b = some o) → J { t with heap := h', toks := tk })
    (turn : ∀ (i : Nat) (v : Value) (n : Int), vs[i]? = some v → ns[i]? = some n → ∀ t : Shared, J t → (∃ o, t.heap.get? (s.heap.objs.size + 1) = some o) → (∃ o, t.heap.get? (s.heap.objs.size + 3) = some o) →
      wpAny (model prog w) A.in1.in1 (call (.ref f) [v]) (fun r t' => (∃ u, r = .int n u) ∧ J t' ∧ (∀ o, t.heap.get? (s.heap.objs.size + 1) = some o → t'.heap.get? (s.heap.objs.size + 1) = some o) ∧ ∀ o, t.heap.get? (s.heap.objs.size + 3) = some o → t'.heap.get? (s.heap.objs.size + 3) = some o) (fun _ _ => False) t)
    (h : ∀ t out c, J t → t.heap.get? (s.heap.objs.size + 1) = some (lobj (List.toArray out) c) → KeyedOut false (ns.map PyData.int) vs out → Q (.ref (s.heap.objs.size + 1)) t) :
    wpAny (model prog w) A (call (.builtin "sorted") [.ref l] [(Str.ofString "key", .ref f)]) Q E s := by
  refine sorted_of_sort hl hZ (ksk_s1 _ _) (fun _ => ksk_l1 _ _) fun E' => ?_
  rw [ksk_t1]
  have at0 := copyHeap_at s.heap vs
  have sz0 : (copyHeap s.heap vs).objs.size = s.heap.objs.size + 2 := by
    unfold copyHeap
    rw [size_push', Heap.size_update, size_push']
  obtain ⟨e1, ho1⟩ : ∃ e1, ((copyHeap s.heap vs).update (s.heap.objs.size + 1) (Obj.mapSeq fun _ => (#[] : Array Value))).get? (s.heap.objs.size + 1) = some (seqObj "list" #[] e1) := ⟨_, get?_update_seq at0 fun _ => #[]⟩
  have szk : (((copyHeap s.heap vs).update (s.heap.objs.size + 1) (Obj.mapSeq fun _ => (#[] : Array Value))).push (seqObj "tuple" vs.toArray 0)).objs.size = s.heap.objs.size + 3 := by rw [size_push', Heap.size_update, sz0]
  unfold ksk_tree
  refine wpAny_bind (listItems_at at0 rfl ?_)
  refine wpAny_bind (listUpdate_at at0 rfl ?_ (by rw [List.size_toArray]; exact hZ) (Nat.zero_le _))
  refine wpAny_bind (seqEpoch_at ho1 rfl ?_)
  refine wpAny_bind (wpAny_newTuple ?_ (by show vs.length ≤ _; exact hZ))
  refine wpAny_bind (wpAny_newList ?_ (Nat.zero_le _))
  refine wpAny_holding ?_
  show wpAny _ _ (ksk_rest (s.heap.objs.size + 1) (.ref f) false vs.toArray e1 (.ref (((copyHeap s.heap vs).update (s.heap.objs.size + 1) (Obj.mapSeq fun _ => (#[] : Array Value))).push (seqObj "tuple" vs.toArray 0)).objs.size)) _ _ _
  rw [szk]
  refine key_fold (ns := ns) (J := J) (hJ _ fun b o q => ?_) ?_ (Heap.get?_push_of_some _ (Heap.get?_push_of_some _ ho1)) (by exact Nat.ne_of_gt (Nat.add_lt_add_left (by decide) _)) hlen hZ hu keep turn fun t out c Jt ht ko => ⟨rfl, h t out c Jt ht ko⟩
  · refine Heap.get?_push_of_some _ (Heap.get?_push_of_some _ ((Heap.get?_update_other _ _ ?_).trans (copyHeap_old q)))
    exact Nat.ne_of_gt (Nat.lt_succ_of_lt (Heap.lt_size q))
  · rw [← szk]; exact Heap.get?_push_size _ rfl
end
section
variable {X : Cx} {T : List (Addr × Str)} {pos : Pos}
theorem rdAll_zip {K : PySem.W.Frag} {as : Bx} {H : Hp} : ∀ {vs : List V} {ds : List D}, RdAll K as H vs ds → ∀ p ∈ vs.zip ds, Rd K as H p.1 p.2
  | _, _, .nil, p, h => by simp at h
  | _, _, .cons r rr, p, h => by
    rw [List.zip_cons_cons] at h
    rcases List.mem_cons.mp h with z | z
    · rw [z]; exact r
    · exact rdAll_zip rr p z
theorem rdAll_of {K : PySem.W.Frag} {as : Bx} {H : Hp} : ∀ {ps : List (V × D)}, (∀ p ∈ ps, Rd K as H p.1 p.2) → RdAll K as H (ps.map Prod.fst) (ps.map Prod.snd)
  | [], _ => .nil
  | p :: ps, h => .cons (h p List.mem_cons_self) (rdAll_of fun q hq => h q (List.mem_cons_of_mem _ hq))
theorem vals_each : ∀ {out : List Value} {ps : List (V × D)}, EachIs (fun v (p : V × D) => RelV p.1 v) out ps → Vals (ps.map Prod.fst) out
  | _, _, .nil => .nil
  | _, _, .cons r rr => .cons r (vals_each rr)
theorem each_vals : ∀ {vs : List V} {its : List Value} {ds : List D}, Vals vs its → vs.length = ds.length → EachIs (fun v (p : V × D) => RelV p.1 v) its (vs.zip ds)
  | _, _, [], .nil, _ => .nil
  | _, _, _ :: _, .nil, h => by simp at h
  | _, _, [], .cons _ _, h => by simp at h
  | _, _, d :: ds, .cons r rr, h => .cons r (each_vals rr (by simpa using h))
def dSortK (ip : Nat) (φ : DE) (φk : DE) : DE := fun δ mu Q => φ δ mu fun x mu1 => ∃ k ds key, x = .box k ∧ mu1[k]? = some ds ∧ keysD ip φk δ ds key ∧ ∀ es, es.Perm ds → Q (.lst es) mu1
theorem ed_sortK {e : Expr} {p1 lpos kpos : Pos} {params : Arguments} {body : Expr} {scope : Scope} {k ip : Nat} {p : Str} {φ φk : DE} (hcalm : X.calm = true) (hg : Gl X "sorted") (hm : X.mg "sorted" = none) (he : ED X T e φ) (O : LamOk X T k ip p params body scope φk)
    (n1 : starEach [e] X.env = (false, eval e X.env) :: starEach [] X.env := by rfl) (n2 : backTo pos (starEach [e] X.env) = (false, eval e X.env) :: backTo pos (starEach [] X.env) := by rfl) (n3 : (backTo pos (starEach [e] X.env)).any (·.1) = false := by rfl) :
    ED X T (.Call (.Name "sorted" p1) [e] [⟨some "key", .Lambda params body scope lpos, kpos⟩] pos) (dSortK ip φ φk) := by
  refine ⟨fun pins st σ H0 Q I0 h => ?_⟩
  obtain ⟨as, δ, mu, Qd, o0, h, q⟩ := h
  obtain ⟨c, P, TB, hcode, hmT, hu⟩ := O.tab
  refine wpAny_Call_Name_kw (ld_blt I0 hg hm (by decide +kernel : bootBuiltins "sorted" = some (.builtin "sorted")) ?_)
  refine PyProof.Rows.callWith_kw (kws := [⟨some "key", .Lambda params body scope lpos, kpos⟩]) (thn ((ad_cons he ad_nil n1).run pos pins st σ H0 (fun vs H1 => ∃ v k ds key mu1, vs = [v] ∧ mu1[k]? = some ds ∧ keysD ip φk δ ds key ∧ (∀ es, es.Perm ds → Qd (.lst es) mu1) ∧ Post X.K T as H0 as H1 mu1 ∧ Rd X.K as H1 v (.box k)) I0
    ⟨as, δ, mu, fun es mu1 => match es with
      | [x] => ∃ k ds key, x = .box k ∧ mu1[k]? = some ds ∧ keysD ip φk δ ds key ∧ ∀ es, es.Perm ds → Qd (.lst es) mu1
      | _ => False, o0, h, fun es mu1 vs H1 hes pp rr => ?hmid⟩) fun us s1 ⟨vs, H1, I1, r1, v, bk, ds, key, mu1, ev, hbk, hkeys, hend, pp, rr⟩ => ?_) n2 n3 (by rfl) (by rfl)
  case hmid =>
    cases rr with
    | nil => exact hes.elim
    | cons ra rr =>
      cases rr with
      | cons rb rr => exact hes.elim
      | nil =>
        obtain ⟨k, ds, key, e1, h1, h3, h4⟩ := hes
        subst e1
        exact ⟨_, k, ds, key, mu1, rfl, h1, h3, h4, pp, ra⟩
  subst ev
  cases rr with
  | box hbox =>
  rename_i a
  obtain rfl : us = [.ref a] := Vals.ref1 r1
  obtain ⟨vs, hla, rvs, pvs⟩ := pp.sto.get bk a ds hbox hbk
  refine wpAny_evalAll_cons (wpAny_bind (lam_new TB hcode hmT hu O.dflt (O.sc.has I1.ok) pp.tab I1 fun f c' pm ctv H2 s2 LM => wpAny_bind (wpAny_standAt (wpAny_pure ?_))))
  refine wpAny_evalAll_nil ?_
  have p2 : Post X.K T as H1 as H2 mu1 := ext_fwd pp.sto LM.ext LM.there LM.tabs
  have o2 : Ok X.K T as H2 σ δ mu1 := (o0.go pp).go p2
  have hla2 : H2 a = some (.lst vs) := LM.ext _ _ hla fun _ z => by cases z
  have rvs2 := p2.fwd.rdA rvs
  obtain ⟨lz, its, nn, ri, ho⟩ := LM.inv.hok a _ hla2
  have hl : s2.heap.IsList a its.toArray := ⟨_, ho, rfl, nn, rfl⟩
  have hli := ri.length
  have hlv := rvs.length
  have hfa : f < s2.heap.objs.size := Heap.lt_size LM.obj
  have zl : (vs.zip ds).length = its.length := by rw [List.length_zip]; omega
  show wpAny _ _ (call (.builtin "sorted") [.ref a] [(Str.ofString "key", .ref f)]) _ _ s2
  refine sorted_J (ns := (vs.zip ds).map fun p => key p.2) (J := KJ X T pins σ H2 f (lamO X params body scope pm c' ctv) [s2.heap.objs.size + 1, s2.heap.objs.size + 3]) hl (by rw [List.length_map]; exact zl) (by rw [← hli]; exact lz) (by have := O.room.un; omega) (fun h' kp => ?_) (fun t h' tk J kp => ?_) (fun i v n hv hn t J ea ek => ?_) fun t out cc J ht ko => ?_
  · refine ⟨⟨H2, LM.inv.kept (t' := s2.toks) kp, ⟨Fwd.refl, sto0, LM.tabs⟩, fun b hb => ?_⟩, kp _ _ LM.obj⟩
    rcases List.mem_cons.mp hb with z | z
    · rw [z]; exact LM.fp
    · rcases List.mem_cons.mp z with z | z
      · rw [z]; exact LM.inv.fpOk (Nat.le_succ _) (LM.inv.hok.fresh (Nat.le_succ _))
      · rw [List.mem_singleton.mp z]; exact LM.inv.fpOk (Nat.le_add_right _ 3) (LM.inv.hok.fresh (Nat.le_add_right _ 3))
  · refine J.moved (ch := [s2.heap.objs.size + 1, s2.heap.objs.size + 3]) (fun b hb => hb) (fun z => ?_) fun b o hb e => kp b o (fun z => hb (by rw [z]; simp)) (fun z => hb (by rw [z]; simp)) e
    rcases List.mem_cons.mp z with z | z
    · rw [z] at hfa; exact absurd (Nat.lt_trans hfa (Nat.lt_succ_self _)) (Nat.lt_irrefl _)
    · rw [List.mem_singleton.mp z] at hfa; exact absurd (Nat.lt_of_lt_of_le hfa (Nat.le_add_right _ 3)) (Nat.lt_irrefl _)
  · have hi : i < its.length := (List.getElem?_eq_some_iff.mp hv).1
    have hx : vs[i]? = some (vs[i]'(by omega)) := List.getElem?_eq_getElem _
    obtain ⟨u, hu1, rx⟩ := Vals.get ri hx
    rw [hv] at hu1
    cases hu1
    obtain ⟨d, hd, rd⟩ := rvs2.get' hx
    have hz : (vs.zip ds)[i]? = some (vs[i]'(by omega), d) := by rw [List.getElem?_zip_eq_some]; exact ⟨hx, hd⟩
    rw [List.getElem?_map, hz] at hn
    have hn : n = key d := (Option.some.inj hn).symm
    subst hn
    obtain ⟨fl, hk⟩ := hkeys d (List.mem_of_getElem? hd)
    have hr1 : Room (k + 1) X.A.in1.in1 := (show Room (k + 2) X.A.in1 from Room.in1 O.room).in1
    refine thn (key_turn (A := X.A.in1.in1) (E := fun _ _ => False) (scr := [s2.heap.objs.size + 1, s2.heap.objs.size + 3]) hr1 (fun s H e => e.in1.in1) O.sc O.nd O.ip LM.co (O.bind _ _ _ _ _ _) (fun s H r => O.body _ _ _ _ _ r) o2 rd fl (hk.go) rx J ?_) fun r t' ⟨hr', J', kp⟩ => ⟨hr', J', fun o e => kp _ List.mem_cons_self o e, fun o e => kp _ (List.mem_cons_of_mem _ List.mem_cons_self) o e⟩
    intro b hb
    rcases List.mem_cons.mp hb with z | z
    · rw [z]; exact ea
    · rw [List.mem_singleton.mp z]; exact ek
  · obtain ⟨H3, I3, p3, q3⟩ := J.ex
    have p4 := lift_post (as := as) (mu := mu1) p2.sto p3
    rw [List.map_map] at ko
    have ea := keyedOut_each (R := fun v (p : V × D) => RelV p.1 v) (bs := vs.zip ds) (fun p => PyData.int (key p.2)) ko (each_vals ri rvs.length)
    have pm' := List.mergeSort_perm (vs.zip ds) (dataLe false fun p => PyData.int (key p.2))
    revert ea pm'
    generalize (vs.zip ds).mergeSort (dataLe false fun p => PyData.int (key p.2)) = ps
    intro ea pm'
    have fpA := q3 (s2.heap.objs.size + 1) (List.mem_cons_of_mem _ List.mem_cons_self)
    have hlen : (ps.map Prod.fst).length = vs.length := by rw [List.length_map, pm'.length_eq, List.length_zip]; omega
    have I4 := I3.take (o := .lst (ps.map Prod.fst)) (t' := t.toks) (fun b ob hb e => e) fpA ⟨by rw [hlen]; exact lz, out, cc, vals_each ea, ht⟩
    have rps : RdAll X.K as H3 (ps.map Prod.fst) (ps.map Prod.snd) := rdAll_of fun p hp => p4.fwd.rd (rdAll_zip rvs2 p (pm'.mem_iff.mp hp))
    refine ⟨.ref _, _, I4, rfl, q _ mu1 _ _ (hend (ps.map Prod.snd) ?_) ((pp.trans p2).trans (p4.trans (post_new p4.sto p4.tab fpA.1))) (rd_lst p4.sto fpA.1 rps)⟩
    have e2 : (vs.zip ds).map Prod.snd = ds := List.map_snd_zip (by omega)
    rw [← e2]
    exact pm'.map _
end
end DL
end
section
/-! DL: a call that is told of no box; a new list stored beside an int. -/
namespace DL
open PySem PySem.Spec PyProof.Rows L2
section
variable {X : Cx} {T : List (Addr × Str)} {pos : Pos}
def unbox (mu : Mu) : D → Option D
  | .box k => (mu[k]?).map D.lst
  | d => if flat d = true then some d else none
def unboxAll (mu : Mu) : List D → Option (List D)
  | [] => some []
  | d :: r => (unbox mu d).bind fun e => (unboxAll mu r).map (e :: ·)
theorem all_go {H H1 : Hp} {K : PySem.W.Frag} {as : Bx} (st : ∀ b o, hid as H b = some o → (∀ ps, o ≠ .tbl ps) → hid ([], []) H1 b = some o) : ∀ {vs : List V} {ds : List D}, RdAll K as H vs ds → pureAll ds = true → RdAll K ([], []) H1 vs ds := fun r h => RdAll.mapP st r h
theorem hid0 {as : Bx} {H : Hp} : ∀ b o, hid as H b = some o → (∀ ps, o ≠ .tbl ps) → hid ([], []) H b = some o := fun b o e _ => hid_some.mpr ⟨fun z => by rcases z with z | z <;> simp at z, (hid_some.mp e).2⟩
theorem unbox_rd {K : PySem.W.Frag} {as : Bx} {H : Hp} {mu : Mu} (S : Sto K as H mu) {v : V} {d e : D} (r : Rd K as H v d) (h : unbox mu d = some e) : Rd K ([], []) H v e := by
  cases r with
  | box hb =>
    rename_i a k
    have h : (mu[k]?).map D.lst = some e := h
    cases hm : mu[k]? with
    | none => rw [hm] at h; cases h
    | some ds =>
      rw [hm] at h
      cases h
      obtain ⟨vs, e1, e2, e3⟩ := S.get k a ds hb hm
      exact .lst (hid_some.mpr ⟨fun z => by rcases z with z | z <;> simp at z, e1⟩) (RdAll.mapP hid0 e2 e3)
  | non => cases h; exact .non
  | bl b => cases h; exact .bl b
  | int i => cases h; exact .int i
  | str x => cases h; exact .str x
  | tup hS rA =>
    rename_i ds
    have h : (if flat (.tup ds) = true then some (D.tup ds) else none) = some e := h
    by_cases hf : flat (.tup ds) = true
    · rw [if_pos hf] at h
      cases h
      exact (Rd.tup hS rA).mapP hid0 (pure_of_flat hf)
    · rw [if_neg hf] at h; cases h
  | lst hS rA => cases h
  | scr hS rA => cases h
theorem unbox_all {K : PySem.W.Frag} {as : Bx} {H : Hp} {mu : Mu} (S : Sto K as H mu) : ∀ {vs : List V} {ds es : List D}, RdAll K as H vs ds → unboxAll mu ds = some es → RdAll K ([], []) H vs es
  | _, _, _, .nil, h => by cases h; exact .nil
  | _, _, es, .cons (d := d) (ds := ds) r rr, h => by
    have h : (unbox mu d).bind (fun e => (unboxAll mu ds).map (e :: ·)) = some es := h
    cases h1 : unbox mu d with
    | none => rw [h1] at h; cases h
    | some e =>
      rw [h1] at h
      cases h2 : unboxAll mu ds with
      | none => rw [h2] at h; cases h
      | some r2 =>
        rw [h2] at h
        cases h
        exact .cons (unbox_rd S r h1) (unbox_all S rr h2)
/-- a flat thing is seen behind the boxes too -/
theorem flat_back {K : PySem.W.Frag} {as : Bx} {H : Hp} {mu : Mu} (S : Sto K as H mu) {v : V} {d : D} (r : Rd K ([], []) H v d) (h : flat d = true) : Rd K as H v d := by
  refine r.mapF (fun a xs q => ?_) h
  have lst : ∀ b, Hidn as b → ∃ xs, H b = some (.lst xs) := fun b hb => by
    rcases hb with hb | hb
    · obtain ⟨k, hk, e⟩ := List.mem_iff_getElem.mp hb
      have hk2 : k < mu.length := by rw [← S.len]; exact hk
      obtain ⟨vs, h1, _⟩ := S.get k b mu[k] (by rw [List.getElem?_eq_getElem hk, e]) (List.getElem?_eq_getElem hk2)
      exact ⟨vs, h1⟩
    · exact S.hs b hb
  rcases q with (q | ⟨o, q⟩) | q
  · refine .inl (.inl (hid_some.mpr ⟨fun z => ?_, (hid_some.mp q).2⟩))
    obtain ⟨ys, e⟩ := lst _ z
    rw [(hid_some.mp q).2] at e
    cases e
  · refine .inl (.inr ⟨o, hid_some.mpr ⟨fun z => ?_, (hid_some.mp q).2⟩⟩)
    obtain ⟨ys, e⟩ := lst _ z
    rw [(hid_some.mp q).2] at e
    cases e
  · exact .inr q
def dCallU (Φ : PhiD) (φ : DA) : DE := fun δ mu Q => φ δ mu fun ds mu1 => ∃ es, unboxAll mu1 ds = some es ∧ Φ es [] fun d mu2 => flat d = true ∧ Q d mu1
theorem ed_callU {k : Nat} {f : Addr} {fd : FuncData} {ps : List Str} {Φ : PhiD} {x : Str} {p : Pos} {e : Expr} {es : List Expr} {φ : DA} (F : FnOk X.prog X.w X.K X.mg X.base CX0 k f fd ps (spD X.K T Φ)) (hr : Room k X.A) (hg : Gl X x) (hm : X.mg x = some (.ref f)) (hk : PySem.W.keepIn X.K (.ref f) = true) (hb : Binds X.K fd ps [])
    (ha : AD X T (e :: es) φ) (hdb : (x == ("__debug__" : Str)) = false := by decide) (he : starEach (e :: es) X.env = (false, eval e X.env) :: starEach es X.env := by rfl) (hpl : (backTo pos (starEach es X.env)).any (·.1) = false := by rfl) : ED X T (.Call (.Name x p) (e :: es) [] pos) (dCallU Φ φ) :=
  pe_conv (pe_call F hr hg hm hk hb .nil pass0 ha hdb he hpl) fun σ H Q ⟨as, δ, mu, Qd, o, h, q⟩ => tDA_mk o h fun ds mu1 vs H1 ⟨es, hu, hd⟩ p1 r1 => by
    rw [List.append_nil]
    refine ⟨([], []), es, [], _, unbox_all p1.sto r1 hu, sto0, p1.tab, hd, fun d mu2 v H2 ⟨hf, hq⟩ p2 r2 => ?_⟩
    have e0 : mu2 = [] := List.eq_nil_of_length_eq_zero p2.sto.len.symm
    subst e0
    have p3 := lift_post (as := as) (mu := mu1) p1.sto p2
    exact q d mu1 v H2 hq (p1.trans p3) (flat_back p3.sto r2 hf)
/-- a, b = a new list, an int -/
def sParBox (i j : Nat) (φ : DE) (n : Int) : DS := fun Dd δ mu => φ δ mu fun d mu1 => ∃ es, d = .lst es ∧ Put ((δ.set i (some (.box mu1.length))).set j (some (.int n))) fun δ1 => Dd.nx δ1 (mu1 ++ [es])
theorem sd_parBox {i j : Nat} {x y : Str} {a : Expr} {n : Int} {kn : Nat} {φ : DE} {px py pt pn : Pos} {kt k2 pt2} (hc : X.calm = true) (hN : X.N.Nodup) (hi : X.N[i]? = some x) (hj : X.N[j]? = some y) (hij : i ≠ j)
    (hx : X.env.scope.names.lookup x = some .local) (hy : X.env.scope.names.lookup y = some .local) (ha : ND X T a φ)
    (hw : swappedStores [.Tuple [.Name x px, .Name y py] kt pt] (.Tuple [a, .Constant (.int n) kn pn] k2 pt2) X.env = Pure.pure (some [x, y]))
    (n1 : starEach [a, .Constant (.int n) kn pn] X.env = (false, eval a X.env) :: starEach [.Constant (.int n) kn pn] X.env := by rfl)
    (n2 : starEach [.Constant (.int n) kn pn] X.env = (false, eval (.Constant (.int n) kn pn) X.env) :: starEach [] X.env := by rfl)
    (hs : swapsWithSole [.Tuple [.Name x px, .Name y py] kt pt] (.Tuple [a, .Constant (.int n) kn pn] k2 pt2) pos.line X.env = Pure.pure false := by rfl) :
    SD X T (.Assign [.Tuple [.Name x px, .Name y py] kt pt] (.Tuple [a, .Constant (.int n) kn pn] k2 pt2) pos) (sParBox i j φ n) :=
  ps_conv (ps_par hc hN hi hj hij hx hy (pa_cons ha (pa_cons pe_int pa_nil n2) n1) hw hs) fun σ H E ⟨as, δ, mu, Dd, o, h, en⟩ => ⟨as, δ, mu, _, o, h, fun es mu1 p H1 vs ⟨es', e, hq⟩ N => by
    cases e
    exact ⟨_, _, rfl, en.nx _ _ _ _ H1 hq.go N.box.1.fwd (((o.go N.box.1).set i N.box.2).set j (.int n))⟩⟩
end
end DL
end
section
/-! the text: the defs by their places, their names, what the top leaves; printed by gen.py -/
namespace K77
open PySem PySem.Spec PyProof.Rows L2 DL
def topS (i : Nat) : Stmt := PySem.Challenge.pw_signfours_k77_whole_forms_alike_or_not.main.body.getD i (.Pass ⟨0, 0, 0, 0⟩)
abbrev s_is_whole : Stmt := topS 6
abbrev N_is_whole : List Str := ["value"]
theorem sc_is_whole : FnScope N_is_whole ["value"] (defScope s_is_whole) := ⟨rfl, rfl, rfl, by decide +kernel, rfl, by decide +kernel, by decide +kernel⟩
theorem st_is_whole (d0 : D) : startD N_is_whole [d0] = [some d0] := rfl
abbrev s_value_at : Stmt := topS 8
abbrev N_value_at : List Str := ["form", "point", "a", "b", "c", "d", "e", "f", "x", "y", "z"]
theorem sc_value_at : FnScope N_value_at ["form", "point"] (defScope s_value_at) := ⟨rfl, rfl, rfl, by decide +kernel, rfl, by decide +kernel, by decide +kernel⟩
theorem st_value_at (d0 d1 : D) : startD N_value_at [d0, d1] = [some d0, some d1, none, none, none, none, none, none, none, none, none] := rfl
abbrev s_discriminant_of : Stmt := topS 9
abbrev N_discriminant_of : List Str := ["form", "a", "b", "c", "d", "e", "f"]
theorem sc_discriminant_of : FnScope N_discriminant_of ["form"] (defScope s_discriminant_of) := ⟨rfl, rfl, rfl, by decide +kernel, rfl, by decide +kernel, by decide +kernel⟩
theorem st_discriminant_of (d0 : D) : startD N_discriminant_of [d0] = [some d0, none, none, none, none, none, none] := rfl
abbrev s_plus : Stmt := topS 10
abbrev N_plus : List Str := ["one", "other", "first", "second"]
theorem sc_plus : FnScope N_plus ["one", "other"] (defScope s_plus) := ⟨rfl, rfl, rfl, by decide +kernel, rfl, by decide +kernel, by decide +kernel⟩
theorem st_plus (d0 d1 : D) : startD N_plus [d0, d1] = [some d0, some d1, none, none] := rfl
abbrev s_times : Stmt := topS 11
abbrev N_times : List Str := ["factor", "point", "entry"]
theorem sc_times : FnScope N_times ["factor", "point"] (defScope s_times) := ⟨rfl, rfl, rfl, by decide +kernel, rfl, by decide +kernel, by decide +kernel⟩
theorem st_times (d0 d1 : D) : startD N_times [d0, d1] = [some d0, some d1, none] := rfl
abbrev s_both_at : Stmt := topS 12
abbrev N_both_at : List Str := ["form", "one", "other"]
theorem sc_both_at : FnScope N_both_at ["form", "one", "other"] (defScope s_both_at) := ⟨rfl, rfl, rfl, by decide +kernel, rfl, by decide +kernel, by decide +kernel⟩
theorem st_both_at (d0 d1 d2 : D) : startD N_both_at [d0, d1, d2] = [some d0, some d1, some d2] := rfl
abbrev s_across : Stmt := topS 13
abbrev N_across : List Str := ["one", "other", "x", "y", "z", "u", "v", "w"]
theorem sc_across : FnScope N_across ["one", "other"] (defScope s_across) := ⟨rfl, rfl, rfl, by decide +kernel, rfl, by decide +kernel, by decide +kernel⟩
theorem st_across (d0 d1 : D) : startD N_across [d0, d1] = [some d0, some d1, none, none, none, none, none, none] := rfl
abbrev s_summed : Stmt := topS 14
abbrev N_summed : List Str := ["one", "other", "first", "second"]
theorem sc_summed : FnScope N_summed ["one", "other"] (defScope s_summed) := ⟨rfl, rfl, rfl, by decide +kernel, rfl, by decide +kernel, by decide +kernel⟩
theorem st_summed (d0 d1 : D) : startD N_summed [d0, d1] = [some d0, some d1, none, none] := rfl
abbrev s_doubled_rows : Stmt := topS 15
abbrev N_doubled_rows : List Str := ["form", "a", "b", "c", "d", "e", "f"]
theorem sc_doubled_rows : FnScope N_doubled_rows ["form"] (defScope s_doubled_rows) := ⟨rfl, rfl, rfl, by decide +kernel, rfl, by decide +kernel, by decide +kernel⟩
theorem st_doubled_rows (d0 : D) : startD N_doubled_rows [d0] = [some d0, none, none, none, none, none, none] := rfl
abbrev s_led_by : Stmt := topS 16
abbrev N_led_by : List Str := ["rows", "point", "row"]
theorem sc_led_by : FnScope N_led_by ["rows", "point"] (defScope s_led_by) := ⟨rfl, rfl, rfl, by decide +kernel, rfl, by decide +kernel, by decide +kernel⟩
theorem st_led_by (d0 d1 : D) : startD N_led_by [d0, d1] = [some d0, some d1, none] := rfl
abbrev s_spanned : Stmt := topS 17
abbrev N_spanned : List Str := ["least", "most", "step"]
theorem sc_spanned : FnScope N_spanned ["least", "most", "step"] (defScope s_spanned) := ⟨rfl, rfl, rfl, by decide +kernel, rfl, by decide +kernel, by decide +kernel⟩
theorem st_spanned (d0 d1 d2 : D) : startD N_spanned [d0, d1, d2] = [some d0, some d1, some d2] := rfl
abbrev s_points_to : Stmt := topS 18
abbrev N_points_to : List Str := ["form", "most", "a", "b", "c", "d", "e", "f", "wide", "skew", "size", "high", "z", "reach", "y", "left", "root", "x"]
theorem sc_points_to : GScope N_points_to ["form", "most"] (defScope s_points_to) := ⟨rfl, rfl, rfl, by decide +kernel, rfl, by decide +kernel, by decide +kernel⟩
theorem st_points_to (d0 d1 : D) : startD N_points_to [d0, d1] = [some d0, some d1, none, none, none, none, none, none, none, none, none, none, none, none, none, none, none, none] := rfl
abbrev s_points_with : Stmt := topS 19
abbrev N_points_with : List Str := ["form", "value", "point"]
theorem sc_points_with : FnScope N_points_with ["form", "value"] (defScope s_points_with) := ⟨rfl, rfl, rfl, by decide +kernel, rfl, by decide +kernel, by decide +kernel⟩
theorem st_points_with (d0 d1 : D) : startD N_points_with [d0, d1] = [some d0, some d1, none] := rfl
abbrev s_turned : Stmt := topS 22
abbrev N_turned : List Str := ["table"]
theorem sc_turned : FnScope N_turned ["table"] (defScope s_turned) := ⟨rfl, rfl, rfl, by decide +kernel, rfl, by decide +kernel, by decide +kernel⟩
theorem st_turned (d0 : D) : startD N_turned [d0] = [some d0] := rfl
abbrev s_determinant : Stmt := topS 23
abbrev N_determinant : List Str := ["table"]
theorem sc_determinant : FnScope N_determinant ["table"] (defScope s_determinant) := ⟨rfl, rfl, rfl, by decide +kernel, rfl, by decide +kernel, by decide +kernel⟩
theorem st_determinant (d0 : D) : startD N_determinant [d0] = [some d0] := rfl
abbrev s_product : Stmt := topS 24
abbrev N_product : List Str := ["one", "other", "columns", "row", "column"]
theorem sc_product : FnScope N_product ["one", "other"] (defScope s_product) := ⟨rfl, rfl, rfl, by decide +kernel, rfl, by decide +kernel, by decide +kernel⟩
theorem st_product (d0 d1 : D) : startD N_product [d0, d1] = [some d0, some d1, none, none, none] := rfl
abbrev s_taken_back : Stmt := topS 25
abbrev N_taken_back : List Str := ["table", "first", "second", "third"]
theorem sc_taken_back : FnScope N_taken_back ["table"] (defScope s_taken_back) := ⟨rfl, rfl, rfl, by decide +kernel, rfl, by decide +kernel, by decide +kernel⟩
theorem st_taken_back (d0 : D) : startD N_taken_back [d0] = [some d0, none, none, none] := rfl
abbrev s_form_by : Stmt := topS 26
abbrev N_form_by : List Str := ["form", "points", "first", "second", "third", "squares", "point"]
theorem sc_form_by : FnScope N_form_by ["form", "points"] (defScope s_form_by) := ⟨rfl, rfl, rfl, by decide +kernel, rfl, by decide +kernel, by decide +kernel⟩
theorem st_form_by (d0 d1 : D) : startD N_form_by [d0, d1] = [some d0, some d1, none, none, none, none, none] := rfl
abbrev s_nearest : Stmt := topS 27
abbrev N_nearest : List Str := ["top", "bottom"]
theorem sc_nearest : FnScope N_nearest ["top", "bottom"] (defScope s_nearest) := ⟨rfl, rfl, rfl, by decide +kernel, rfl, by decide +kernel, by decide +kernel⟩
theorem st_nearest (d0 d1 : D) : startD N_nearest [d0, d1] = [some d0, some d1] := rfl
abbrev s_lessened : Stmt := topS 28
abbrev N_lessened : List Str := ["form", "points", "at", "here", "others", "near", "sign", "best", "place", "point", "one", "more"]
theorem sc_lessened : FnScope N_lessened ["form", "points", "at"] (defScope s_lessened) := ⟨rfl, rfl, rfl, by decide +kernel, rfl, by decide +kernel, by decide +kernel⟩
theorem st_lessened (d0 d1 d2 : D) : startD N_lessened [d0, d1, d2] = [some d0, some d1, some d2, none, none, none, none, none, none, none, none, none] := rfl
abbrev s_small_points : Stmt := topS 29
abbrev N_small_points : List Str := ["form", "points", "at", "found", "point"]
theorem sc_small_points : FnScope N_small_points ["form"] (defScope s_small_points) := ⟨rfl, rfl, rfl, by decide +kernel, rfl, by decide +kernel, by decide +kernel⟩
theorem st_small_points (d0 : D) : startD N_small_points [d0] = [some d0, none, none, none, none] := rfl
abbrev s_third_point : Stmt := topS 30
abbrev N_third_point : List Str := ["form", "goal", "first", "second", "rows", "line", "one", "other", "size", "sums", "found", "entry"]
theorem sc_third_point : FnScope N_third_point ["form", "goal", "first", "second"] (defScope s_third_point) := ⟨rfl, rfl, rfl, by decide +kernel, rfl, by decide +kernel, by decide +kernel⟩
theorem st_third_point (d0 d1 d2 d3 : D) : startD N_third_point [d0, d1, d2, d3] = [some d0, some d1, some d2, some d3, none, none, none, none, none, none, none, none] := rfl
abbrev s_small_lead : Stmt := topS 31
abbrev N_small_lead : List Str := ["form", "goal", "seconds", "first", "second", "third"]
theorem sc_small_lead : FnScope N_small_lead ["form", "goal"] (defScope s_small_lead) := ⟨rfl, rfl, rfl, by decide +kernel, rfl, by decide +kernel, by decide +kernel⟩
theorem st_small_lead (d0 d1 : D) : startD N_small_lead [d0, d1] = [some d0, some d1, none, none, none, none] := rfl
abbrev s_lead_of : Stmt := topS 32
abbrev N_lead_of : List Str := ["one", "other", "near", "far", "found"]
theorem sc_lead_of : FnScope N_lead_of ["one", "other"] (defScope s_lead_of) := ⟨rfl, rfl, rfl, by decide +kernel, rfl, by decide +kernel, by decide +kernel⟩
theorem st_lead_of (d0 d1 : D) : startD N_lead_of [d0, d1] = [some d0, some d1, none, none, none] := rfl
abbrev s_is_lead_of : Stmt := topS 33
abbrev N_is_lead_of : List Str := ["one", "other", "table"]
theorem sc_is_lead_of : FnScope N_is_lead_of ["one", "other", "table"] (defScope s_is_lead_of) := ⟨rfl, rfl, rfl, by decide +kernel, rfl, by decide +kernel, by decide +kernel⟩
theorem st_is_lead_of (d0 d1 d2 : D) : startD N_is_lead_of [d0, d1, d2] = [some d0, some d1, some d2] := rfl
abbrev s_is_form : Stmt := topS 38
abbrev N_is_form : List Str := ["value", "a", "b", "f", "entry"]
theorem sc_is_form : FnScope N_is_form ["value"] (defScope s_is_form) := ⟨rfl, rfl, rfl, by decide +kernel, rfl, by decide +kernel, by decide +kernel⟩
theorem st_is_form (d0 : D) : startD N_is_form [d0] = [some d0, none, none, none, none] := rfl
abbrev s_require_form : Stmt := topS 39
abbrev N_require_form : List Str := ["value"]
theorem sc_require_form : FnScope N_require_form ["value"] (defScope s_require_form) := ⟨rfl, rfl, rfl, by decide +kernel, rfl, by decide +kernel, by decide +kernel⟩
theorem st_require_form (d0 : D) : startD N_require_form [d0] = [some d0] := rfl
abbrev s_require_small_forms : Stmt := topS 40
abbrev N_require_small_forms : List Str := ["one", "other"]
theorem sc_require_small_forms : FnScope N_require_small_forms ["one", "other"] (defScope s_require_small_forms) := ⟨rfl, rfl, rfl, by decide +kernel, rfl, by decide +kernel, by decide +kernel⟩
theorem st_require_small_forms (d0 d1 : D) : startD N_require_small_forms [d0, d1] = [some d0, some d1] := rfl
abbrev s_form_lead : Stmt := topS 41
abbrev N_form_lead : List Str := ["one", "other"]
theorem sc_form_lead : FnScope N_form_lead ["one", "other"] (defScope s_form_lead) := ⟨rfl, rfl, rfl, by decide +kernel, rfl, by decide +kernel, by decide +kernel⟩
theorem st_form_lead (d0 d1 : D) : startD N_form_lead [d0, d1] = [some d0, some d1] := rfl
abbrev s_are_forms_alike : Stmt := topS 42
abbrev N_are_forms_alike : List Str := ["one", "other"]
theorem sc_are_forms_alike : FnScope N_are_forms_alike ["one", "other"] (defScope s_are_forms_alike) := ⟨rfl, rfl, rfl, by decide +kernel, rfl, by decide +kernel, by decide +kernel⟩
theorem st_are_forms_alike (d0 d1 : D) : startD N_are_forms_alike [d0, d1] = [some d0, some d1] := rfl
abbrev s_is_table : Stmt := topS 43
abbrev N_is_table : List Str := ["value", "row", "one"]
theorem sc_is_table : FnScope N_is_table ["value"] (defScope s_is_table) := ⟨rfl, rfl, rfl, by decide +kernel, rfl, by decide +kernel, by decide +kernel⟩
theorem st_is_table (d0 : D) : startD N_is_table [d0] = [some d0, none, none] := rfl
abbrev s_is_form_lead : Stmt := topS 44
abbrev N_is_form_lead : List Str := ["one", "other", "value"]
theorem sc_is_form_lead : FnScope N_is_form_lead ["one", "other", "value"] (defScope s_is_form_lead) := ⟨rfl, rfl, rfl, by decide +kernel, rfl, by decide +kernel, by decide +kernel⟩
theorem st_is_form_lead (d0 d1 d2 : D) : startD N_is_form_lead [d0, d1, d2] = [some d0, some d1, some d2] := rfl
abbrev s__law_jug : Stmt := topS 46
abbrev N__law_jug : List Str := ["_law_script", "_law_spot", "_law_cell", "_law_great", "_law_mixed"]
theorem sc__law_jug : FnScope N__law_jug ["_law_script", "_law_spot"] (defScope s__law_jug) := ⟨rfl, rfl, rfl, by decide +kernel, rfl, by decide +kernel, by decide +kernel⟩
theorem st__law_jug (d0 d1 : D) : startD N__law_jug [d0, d1] = [some d0, some d1, none, none, none] := rfl
abbrev s__law_pour : Stmt := topS 47
abbrev N__law_pour : List Str := ["_law_jug_here", "_law_many", "_law_found", "_law_one", "_law_two"]
theorem sc__law_pour : FnScope N__law_pour ["_law_jug_here", "_law_many"] (defScope s__law_pour) := ⟨rfl, rfl, rfl, by decide +kernel, rfl, by decide +kernel, by decide +kernel⟩
theorem st__law_pour (d0 d1 : D) : startD N__law_pour [d0, d1] = [some d0, some d1, none, none, none] := rfl
abbrev s__law_of : Stmt := topS 48
abbrev N__law_of : List Str := ["_law_jug_here", "_law_items"]
theorem sc__law_of : FnScope N__law_of ["_law_jug_here", "_law_items"] (defScope s__law_of) := ⟨rfl, rfl, rfl, by decide +kernel, rfl, by decide +kernel, by decide +kernel⟩
theorem st__law_of (d0 d1 : D) : startD N__law_of [d0, d1] = [some d0, some d1] := rfl
abbrev s__law_value : Stmt := topS 49
abbrev N__law_value : List Str := ["_law_form_here", "_law_spot", "_law_a", "_law_b", "_law_c", "_law_d", "_law_e", "_law_f", "_law_x", "_law_y", "_law_z"]
theorem sc__law_value : FnScope N__law_value ["_law_form_here", "_law_spot"] (defScope s__law_value) := ⟨rfl, rfl, rfl, by decide +kernel, rfl, by decide +kernel, by decide +kernel⟩
theorem st__law_value (d0 d1 : D) : startD N__law_value [d0, d1] = [some d0, some d1, none, none, none, none, none, none, none, none, none] := rfl
abbrev s__law_mixed_value : Stmt := topS 50
abbrev N__law_mixed_value : List Str := ["_law_form_here", "_law_one", "_law_other", "_law_both", "_law_x", "_law_y"]
theorem sc__law_mixed_value : FnScope N__law_mixed_value ["_law_form_here", "_law_one", "_law_other"] (defScope s__law_mixed_value) := ⟨rfl, rfl, rfl, by decide +kernel, rfl, by decide +kernel, by decide +kernel⟩
theorem st__law_mixed_value (d0 d1 d2 : D) : startD N__law_mixed_value [d0, d1, d2] = [some d0, some d1, some d2, none, none, none] := rfl
abbrev s__law_size : Stmt := topS 51
abbrev N__law_size : List Str := ["_law_form_here", "_law_a", "_law_b", "_law_c", "_law_d", "_law_e", "_law_f"]
theorem sc__law_size : FnScope N__law_size ["_law_form_here"] (defScope s__law_size) := ⟨rfl, rfl, rfl, by decide +kernel, rfl, by decide +kernel, by decide +kernel⟩
theorem st__law_size (d0 : D) : startD N__law_size [d0] = [some d0, none, none, none, none, none, none] := rfl
abbrev s__law_is_whole : Stmt := topS 52
abbrev N__law_is_whole : List Str := ["_law_value_here"]
theorem sc__law_is_whole : FnScope N__law_is_whole ["_law_value_here"] (defScope s__law_is_whole) := ⟨rfl, rfl, rfl, by decide +kernel, rfl, by decide +kernel, by decide +kernel⟩
theorem st__law_is_whole (d0 : D) : startD N__law_is_whole [d0] = [some d0] := rfl
abbrev s__law_is_form : Stmt := topS 53
abbrev N__law_is_form : List Str := ["_law_value_here", "_law_x"]
theorem sc__law_is_form : FnScope N__law_is_form ["_law_value_here"] (defScope s__law_is_form) := ⟨rfl, rfl, rfl, by decide +kernel, rfl, by decide +kernel, by decide +kernel⟩
theorem st__law_is_form (d0 : D) : startD N__law_is_form [d0] = [some d0, none] := rfl
abbrev s__law_columns : Stmt := topS 54
abbrev N__law_columns : List Str := ["_law_table_here", "_law_at", "_law_row"]
theorem sc__law_columns : FnScope N__law_columns ["_law_table_here"] (defScope s__law_columns) := ⟨rfl, rfl, rfl, by decide +kernel, rfl, by decide +kernel, by decide +kernel⟩
theorem st__law_columns (d0 : D) : startD N__law_columns [d0] = [some d0, none, none] := rfl
abbrev s__law_deciding : Stmt := topS 55
abbrev N__law_deciding : List Str := ["_law_table_here", "_law_a", "_law_b", "_law_c", "_law_d", "_law_e", "_law_f", "_law_g", "_law_h", "_law_i"]
theorem sc__law_deciding : FnScope N__law_deciding ["_law_table_here"] (defScope s__law_deciding) := ⟨rfl, rfl, rfl, by decide +kernel, rfl, by decide +kernel, by decide +kernel⟩
theorem st__law_deciding (d0 : D) : startD N__law_deciding [d0] = [some d0, none, none, none, none, none, none, none, none, none] := rfl
abbrev s__law_led_form : Stmt := topS 56
abbrev N__law_led_form : List Str := ["_law_form_here", "_law_table_here", "_law_u", "_law_v", "_law_w", "_law_ends"]
theorem sc__law_led_form : FnScope N__law_led_form ["_law_form_here", "_law_table_here"] (defScope s__law_led_form) := ⟨rfl, rfl, rfl, by decide +kernel, rfl, by decide +kernel, by decide +kernel⟩
theorem st__law_led_form (d0 d1 : D) : startD N__law_led_form [d0, d1] = [some d0, some d1, none, none, none, none] := rfl
abbrev s__law_table : Stmt := topS 57
abbrev N__law_table : List Str := ["_law_jug_here", "_law_turns", "_law_rows", "_law_turn", "_law_at", "_law_to", "_law_many", "_law_x", "_law_y", "_law_row"]
theorem sc__law_table : FnScope N__law_table ["_law_jug_here", "_law_turns"] (defScope s__law_table) := ⟨rfl, rfl, rfl, by decide +kernel, rfl, by decide +kernel, by decide +kernel⟩
theorem st__law_table (d0 d1 : D) : startD N__law_table [d0, d1] = [some d0, some d1, none, none, none, none, none, none, none, none] := rfl
abbrev s__law_form : Stmt := topS 58
abbrev N__law_form : List Str := ["_law_jug_here", "_law_turn", "_law_ends", "_law_found", "_law_at"]
theorem sc__law_form : FnScope N__law_form ["_law_jug_here"] (defScope s__law_form) := ⟨rfl, rfl, rfl, by decide +kernel, rfl, by decide +kernel, by decide +kernel⟩
theorem st__law_form (d0 : D) : startD N__law_form [d0] = [some d0, none, none, none, none] := rfl
abbrev s__law_root : Stmt := topS 59
abbrev N__law_root : List Str := ["_law_number", "_law_found"]
theorem sc__law_root : FnScope N__law_root ["_law_number"] (defScope s__law_root) := ⟨rfl, rfl, rfl, by decide +kernel, rfl, by decide +kernel, by decide +kernel⟩
theorem st__law_root (d0 : D) : startD N__law_root [d0] = [some d0, none] := rfl
abbrev s__law_spots : Stmt := topS 60
abbrev N__law_spots : List Str := ["_law_form_here", "_law_most", "_law_a", "_law_b", "_law_c", "_law_d", "_law_e", "_law_f", "_law_size_here", "_law_x", "_law_y", "_law_z", "_law_found", "_law_one", "_law_two", "_law_some", "_law_three", "_law_spot"]
theorem sc__law_spots : FnScope N__law_spots ["_law_form_here", "_law_most"] (defScope s__law_spots) := ⟨rfl, rfl, rfl, by decide +kernel, rfl, by decide +kernel, by decide +kernel⟩
theorem st__law_spots (d0 d1 : D) : startD N__law_spots [d0, d1] = [some d0, some d1, none, none, none, none, none, none, none, none, none, none, none, none, none, none, none, none] := rfl
abbrev s__law_is_lead : Stmt := topS 61
abbrev N__law_is_lead : List Str := ["_law_one", "_law_other", "_law_value_here", "_law_row", "_law_x"]
theorem sc__law_is_lead : FnScope N__law_is_lead ["_law_one", "_law_other", "_law_value_here"] (defScope s__law_is_lead) := ⟨rfl, rfl, rfl, by decide +kernel, rfl, by decide +kernel, by decide +kernel⟩
theorem st__law_is_lead (d0 d1 d2 : D) : startD N__law_is_lead [d0, d1, d2] = [some d0, some d1, some d2, none, none] := rfl
abbrev s__law_are_alike : Stmt := topS 62
abbrev N__law_are_alike : List Str := ["_law_one", "_law_other", "_law_some", "_law_u", "_law_first", "_law_last", "_law_v", "_law_near_here", "_law_w"]
theorem sc__law_are_alike : FnScope N__law_are_alike ["_law_one", "_law_other"] (defScope s__law_are_alike) := ⟨rfl, rfl, rfl, by decide +kernel, rfl, by decide +kernel, by decide +kernel⟩
theorem st__law_are_alike (d0 d1 : D) : startD N__law_are_alike [d0, d1] = [some d0, some d1, none, none, none, none, none, none, none] := rfl
abbrev s__law_joined : Stmt := topS 63
abbrev N__law_joined : List Str := ["_law_one", "_law_other", "_law_row", "_law_column", "_law_x", "_law_y"]
theorem sc__law_joined : FnScope N__law_joined ["_law_one", "_law_other"] (defScope s__law_joined) := ⟨rfl, rfl, rfl, by decide +kernel, rfl, by decide +kernel, by decide +kernel⟩
theorem st__law_joined (d0 d1 : D) : startD N__law_joined [d0, d1] = [some d0, some d1, none, none, none, none] := rfl
abbrev s__law_near : Stmt := topS 64
abbrev N__law_near : List Str := ["_law_jug_here", "_law_table_here", "_law_at", "_law_spot", "_law_bad", "_law_row", "_law_some", "_law_one", "_law_x"]
theorem sc__law_near : FnScope N__law_near ["_law_jug_here", "_law_table_here"] (defScope s__law_near) := ⟨rfl, rfl, rfl, by decide +kernel, rfl, by decide +kernel, by decide +kernel⟩
theorem st__law_near (d0 d1 : D) : startD N__law_near [d0, d1] = [some d0, some d1, none, none, none, none, none, none, none] := rfl
abbrev s__law_right : Stmt := topS 65
abbrev N__law_right : List Str := ["_law_jug_here", "_law_form_here", "_law_table_here", "_law_more", "_law_later", "_law_last", "_law_told", "_law_back", "_law_turn", "_law_near_here", "_law_other", "_law_due", "_law_found"]
theorem sc__law_right : FnScope N__law_right ["_law_jug_here"] (defScope s__law_right) := ⟨rfl, rfl, rfl, by decide +kernel, rfl, by decide +kernel, by decide +kernel⟩
theorem st__law_right (d0 : D) : startD N__law_right [d0] = [some d0, none, none, none, none, none, none, none, none, none, none, none, none] := rfl
abbrev s_law : Stmt := topS 66
abbrev N_law : List Str := ["_law_script", "_law_spot", "_law_whole", "_law_told"]
theorem sc_law : FnScope N_law ["_law_script"] (defScope s_law) := ⟨rfl, rfl, rfl, by decide +kernel, rfl, by decide +kernel, by decide +kernel⟩
theorem st_law (d0 : D) : startD N_law [d0] = [some d0, none, none, none] := rfl
/-- what the top leaves: each def where it stands, the constants, the built-ins that are still theirs -/
structure Al (K : PySem.W.Frag) (mg : Str → Option Value) (base : Heap) (T : List (Addr × Str)) where
  f_is_whole : Addr
  fd_is_whole : FuncData
  F_is_whole : Fun K "is_whole" "is_whole" s_is_whole f_is_whole fd_is_whole
  g_is_whole : mg "is_whole" = some (.ref f_is_whole)
  b_is_whole : Binds K fd_is_whole ["value"] []
  f_value_at : Addr
  fd_value_at : FuncData
  F_value_at : Fun K "value_at" "value_at" s_value_at f_value_at fd_value_at
  g_value_at : mg "value_at" = some (.ref f_value_at)
  b_value_at : Binds K fd_value_at ["form", "point"] []
  f_discriminant_of : Addr
  fd_discriminant_of : FuncData
  F_discriminant_of : Fun K "discriminant_of" "discriminant_of" s_discriminant_of f_discriminant_of fd_discriminant_of
  g_discriminant_of : mg "discriminant_of" = some (.ref f_discriminant_of)
  b_discriminant_of : Binds K fd_discriminant_of ["form"] []
  f_plus : Addr
  fd_plus : FuncData
  F_plus : Fun K "plus" "plus" s_plus f_plus fd_plus
  g_plus : mg "plus" = some (.ref f_plus)
  b_plus : Binds K fd_plus ["one", "other"] []
  f_times : Addr
  fd_times : FuncData
  F_times : Fun K "times" "times" s_times f_times fd_times
  g_times : mg "times" = some (.ref f_times)
  b_times : Binds K fd_times ["factor", "point"] []
  f_both_at : Addr
  fd_both_at : FuncData
  F_both_at : Fun K "both_at" "both_at" s_both_at f_both_at fd_both_at
  g_both_at : mg "both_at" = some (.ref f_both_at)
  b_both_at : Binds K fd_both_at ["form", "one", "other"] []
  f_across : Addr
  fd_across : FuncData
  F_across : Fun K "across" "across" s_across f_across fd_across
  g_across : mg "across" = some (.ref f_across)
  b_across : Binds K fd_across ["one", "other"] []
  f_summed : Addr
  fd_summed : FuncData
  F_summed : Fun K "summed" "summed" s_summed f_summed fd_summed
  g_summed : mg "summed" = some (.ref f_summed)
  b_summed : Binds K fd_summed ["one", "other"] []
  f_doubled_rows : Addr
  fd_doubled_rows : FuncData
  F_doubled_rows : Fun K "doubled_rows" "doubled_rows" s_doubled_rows f_doubled_rows fd_doubled_rows
  g_doubled_rows : mg "doubled_rows" = some (.ref f_doubled_rows)
  b_doubled_rows : Binds K fd_doubled_rows ["form"] []
  f_led_by : Addr
  fd_led_by : FuncData
  F_led_by : Fun K "led_by" "led_by" s_led_by f_led_by fd_led_by
  g_led_by : mg "led_by" = some (.ref f_led_by)
  b_led_by : Binds K fd_led_by ["rows", "point"] []
  f_spanned : Addr
  fd_spanned : FuncData
  F_spanned : Fun K "spanned" "spanned" s_spanned f_spanned fd_spanned
  g_spanned : mg "spanned" = some (.ref f_spanned)
  b_spanned : Binds K fd_spanned ["least", "most", "step"] []
  f_points_to : Addr
  fd_points_to : FuncData
  F_points_to : Fun K "points_to" "points_to" s_points_to f_points_to fd_points_to
  g_points_to : mg "points_to" = some (.ref f_points_to)
  b_points_to : Binds K fd_points_to ["form", "most"] []
  f_points_with : Addr
  fd_points_with : FuncData
  F_points_with : Fun K "points_with" "points_with" s_points_with f_points_with fd_points_with
  g_points_with : mg "points_with" = some (.ref f_points_with)
  b_points_with : Binds K fd_points_with ["form", "value"] []
  f_turned : Addr
  fd_turned : FuncData
  F_turned : Fun K "turned" "turned" s_turned f_turned fd_turned
  g_turned : mg "turned" = some (.ref f_turned)
  b_turned : Binds K fd_turned ["table"] []
  f_determinant : Addr
  fd_determinant : FuncData
  F_determinant : Fun K "determinant" "determinant" s_determinant f_determinant fd_determinant
  g_determinant : mg "determinant" = some (.ref f_determinant)
  b_determinant : Binds K fd_determinant ["table"] []
  f_product : Addr
  fd_product : FuncData
  F_product : Fun K "product" "product" s_product f_product fd_product
  g_product : mg "product" = some (.ref f_product)
  b_product : Binds K fd_product ["one", "other"] []
  f_taken_back : Addr
  fd_taken_back : FuncData
  F_taken_back : Fun K "taken_back" "taken_back" s_taken_back f_taken_back fd_taken_back
  g_taken_back : mg "taken_back" = some (.ref f_taken_back)
  b_taken_back : Binds K fd_taken_back ["table"] []
  f_form_by : Addr
  fd_form_by : FuncData
  F_form_by : Fun K "form_by" "form_by" s_form_by f_form_by fd_form_by
  g_form_by : mg "form_by" = some (.ref f_form_by)
  b_form_by : Binds K fd_form_by ["form", "points"] []
  f_nearest : Addr
  fd_nearest : FuncData
  F_nearest : Fun K "nearest" "nearest" s_nearest f_nearest fd_nearest
  g_nearest : mg "nearest" = some (.ref f_nearest)
  b_nearest : Binds K fd_nearest ["top", "bottom"] []
  f_lessened : Addr
  fd_lessened : FuncData
  F_lessened : Fun K "lessened" "lessened" s_lessened f_lessened fd_lessened
  g_lessened : mg "lessened" = some (.ref f_lessened)
  b_lessened : Binds K fd_lessened ["form", "points", "at"] []
  f_small_points : Addr
  fd_small_points : FuncData
  F_small_points : Fun K "small_points" "small_points" s_small_points f_small_points fd_small_points
  g_small_points : mg "small_points" = some (.ref f_small_points)
  b_small_points : Binds K fd_small_points ["form"] []
  f_third_point : Addr
  fd_third_point : FuncData
  F_third_point : Fun K "third_point" "third_point" s_third_point f_third_point fd_third_point
  g_third_point : mg "third_point" = some (.ref f_third_point)
  b_third_point : Binds K fd_third_point ["form", "goal", "first", "second"] []
  f_small_lead : Addr
  fd_small_lead : FuncData
  F_small_lead : Fun K "small_lead" "small_lead" s_small_lead f_small_lead fd_small_lead
  g_small_lead : mg "small_lead" = some (.ref f_small_lead)
  b_small_lead : Binds K fd_small_lead ["form", "goal"] []
  f_lead_of : Addr
  fd_lead_of : FuncData
  F_lead_of : Fun K "lead_of" "lead_of" s_lead_of f_lead_of fd_lead_of
  g_lead_of : mg "lead_of" = some (.ref f_lead_of)
  b_lead_of : Binds K fd_lead_of ["one", "other"] []
  f_is_lead_of : Addr
  fd_is_lead_of : FuncData
  F_is_lead_of : Fun K "is_lead_of" "is_lead_of" s_is_lead_of f_is_lead_of fd_is_lead_of
  g_is_lead_of : mg "is_lead_of" = some (.ref f_is_lead_of)
  b_is_lead_of : Binds K fd_is_lead_of ["one", "other", "table"] []
  f_is_form : Addr
  fd_is_form : FuncData
  F_is_form : Fun K "is_form" "is_form" s_is_form f_is_form fd_is_form
  g_is_form : mg "is_form" = some (.ref f_is_form)
  b_is_form : Binds K fd_is_form ["value"] []
  f_require_form : Addr
  fd_require_form : FuncData
  F_require_form : Fun K "require_form" "require_form" s_require_form f_require_form fd_require_form
  g_require_form : mg "require_form" = some (.ref f_require_form)
  b_require_form : Binds K fd_require_form ["value"] []
  f_require_small_forms : Addr
  fd_require_small_forms : FuncData
  F_require_small_forms : Fun K "require_small_forms" "require_small_forms" s_require_small_forms f_require_small_forms fd_require_small_forms
  g_require_small_forms : mg "require_small_forms" = some (.ref f_require_small_forms)
  b_require_small_forms : Binds K fd_require_small_forms ["one", "other"] []
  f_form_lead : Addr
  fd_form_lead : FuncData
  F_form_lead : Fun K "form_lead" "form_lead" s_form_lead f_form_lead fd_form_lead
  g_form_lead : mg "form_lead" = some (.ref f_form_lead)
  b_form_lead : Binds K fd_form_lead ["one", "other"] []
  f_are_forms_alike : Addr
  fd_are_forms_alike : FuncData
  F_are_forms_alike : Fun K "are_forms_alike" "are_forms_alike" s_are_forms_alike f_are_forms_alike fd_are_forms_alike
  g_are_forms_alike : mg "are_forms_alike" = some (.ref f_are_forms_alike)
  b_are_forms_alike : Binds K fd_are_forms_alike ["one", "other"] []
  f_is_table : Addr
  fd_is_table : FuncData
  F_is_table : Fun K "is_table" "is_table" s_is_table f_is_table fd_is_table
  g_is_table : mg "is_table" = some (.ref f_is_table)
  b_is_table : Binds K fd_is_table ["value"] []
  f_is_form_lead : Addr
  fd_is_form_lead : FuncData
  F_is_form_lead : Fun K "is_form_lead" "is_form_lead" s_is_form_lead f_is_form_lead fd_is_form_lead
  g_is_form_lead : mg "is_form_lead" = some (.ref f_is_form_lead)
  b_is_form_lead : Binds K fd_is_form_lead ["one", "other", "value"] []
  f__law_jug : Addr
  fd__law_jug : FuncData
  F__law_jug : Fun K "_law_jug" "_law_jug" s__law_jug f__law_jug fd__law_jug
  g__law_jug : mg "_law_jug" = some (.ref f__law_jug)
  b__law_jug : Binds K fd__law_jug ["_law_script", "_law_spot"] []
  f__law_pour : Addr
  fd__law_pour : FuncData
  F__law_pour : Fun K "_law_pour" "_law_pour" s__law_pour f__law_pour fd__law_pour
  g__law_pour : mg "_law_pour" = some (.ref f__law_pour)
  b__law_pour : Binds K fd__law_pour ["_law_jug_here", "_law_many"] []
  f__law_of : Addr
  fd__law_of : FuncData
  F__law_of : Fun K "_law_of" "_law_of" s__law_of f__law_of fd__law_of
  g__law_of : mg "_law_of" = some (.ref f__law_of)
  b__law_of : Binds K fd__law_of ["_law_jug_here", "_law_items"] []
  f__law_value : Addr
  fd__law_value : FuncData
  F__law_value : Fun K "_law_value" "_law_value" s__law_value f__law_value fd__law_value
  g__law_value : mg "_law_value" = some (.ref f__law_value)
  b__law_value : Binds K fd__law_value ["_law_form_here", "_law_spot"] []
  f__law_mixed_value : Addr
  fd__law_mixed_value : FuncData
  F__law_mixed_value : Fun K "_law_mixed_value" "_law_mixed_value" s__law_mixed_value f__law_mixed_value fd__law_mixed_value
  g__law_mixed_value : mg "_law_mixed_value" = some (.ref f__law_mixed_value)
  b__law_mixed_value : Binds K fd__law_mixed_value ["_law_form_here", "_law_one", "_law_other"] []
  f__law_size : Addr
  fd__law_size : FuncData
  F__law_size : Fun K "_law_size" "_law_size" s__law_size f__law_size fd__law_size
  g__law_size : mg "_law_size" = some (.ref f__law_size)
  b__law_size : Binds K fd__law_size ["_law_form_here"] []
  f__law_is_whole : Addr
  fd__law_is_whole : FuncData
  F__law_is_whole : Fun K "_law_is_whole" "_law_is_whole" s__law_is_whole f__law_is_whole fd__law_is_whole
  g__law_is_whole : mg "_law_is_whole" = some (.ref f__law_is_whole)
  b__law_is_whole : Binds K fd__law_is_whole ["_law_value_here"] []
  f__law_is_form : Addr
  fd__law_is_form : FuncData
  F__law_is_form : Fun K "_law_is_form" "_law_is_form" s__law_is_form f__law_is_form fd__law_is_form
  g__law_is_form : mg "_law_is_form" = some (.ref f__law_is_form)
  b__law_is_form : Binds K fd__law_is_form ["_law_value_here"] []
  f__law_columns : Addr
  fd__law_columns : FuncData
  F__law_columns : Fun K "_law_columns" "_law_columns" s__law_columns f__law_columns fd__law_columns
  g__law_columns : mg "_law_columns" = some (.ref f__law_columns)
  b__law_columns : Binds K fd__law_columns ["_law_table_here"] []
  f__law_deciding : Addr
  fd__law_deciding : FuncData
  F__law_deciding : Fun K "_law_deciding" "_law_deciding" s__law_deciding f__law_deciding fd__law_deciding
  g__law_deciding : mg "_law_deciding" = some (.ref f__law_deciding)
  b__law_deciding : Binds K fd__law_deciding ["_law_table_here"] []
  f__law_led_form : Addr
  fd__law_led_form : FuncData
  F__law_led_form : Fun K "_law_led_form" "_law_led_form" s__law_led_form f__law_led_form fd__law_led_form
  g__law_led_form : mg "_law_led_form" = some (.ref f__law_led_form)
  b__law_led_form : Binds K fd__law_led_form ["_law_form_here", "_law_table_here"] []
  f__law_table : Addr
  fd__law_table : FuncData
  F__law_table : Fun K "_law_table" "_law_table" s__law_table f__law_table fd__law_table
  g__law_table : mg "_law_table" = some (.ref f__law_table)
  b__law_table : Binds K fd__law_table ["_law_jug_here", "_law_turns"] []
  f__law_form : Addr
  fd__law_form : FuncData
  F__law_form : Fun K "_law_form" "_law_form" s__law_form f__law_form fd__law_form
  g__law_form : mg "_law_form" = some (.ref f__law_form)
  b__law_form : Binds K fd__law_form ["_law_jug_here"] []
  f__law_root : Addr
  fd__law_root : FuncData
  F__law_root : Fun K "_law_root" "_law_root" s__law_root f__law_root fd__law_root
  g__law_root : mg "_law_root" = some (.ref f__law_root)
  b__law_root : Binds K fd__law_root ["_law_number"] []
  f__law_spots : Addr
  fd__law_spots : FuncData
  F__law_spots : Fun K "_law_spots" "_law_spots" s__law_spots f__law_spots fd__law_spots
  g__law_spots : mg "_law_spots" = some (.ref f__law_spots)
  b__law_spots : Binds K fd__law_spots ["_law_form_here", "_law_most"] []
  f__law_is_lead : Addr
  fd__law_is_lead : FuncData
  F__law_is_lead : Fun K "_law_is_lead" "_law_is_lead" s__law_is_lead f__law_is_lead fd__law_is_lead
  g__law_is_lead : mg "_law_is_lead" = some (.ref f__law_is_lead)
  b__law_is_lead : Binds K fd__law_is_lead ["_law_one", "_law_other", "_law_value_here"] []
  f__law_are_alike : Addr
  fd__law_are_alike : FuncData
  F__law_are_alike : Fun K "_law_are_alike" "_law_are_alike" s__law_are_alike f__law_are_alike fd__law_are_alike
  g__law_are_alike : mg "_law_are_alike" = some (.ref f__law_are_alike)
  b__law_are_alike : Binds K fd__law_are_alike ["_law_one", "_law_other"] []
  f__law_joined : Addr
  fd__law_joined : FuncData
  F__law_joined : Fun K "_law_joined" "_law_joined" s__law_joined f__law_joined fd__law_joined
  g__law_joined : mg "_law_joined" = some (.ref f__law_joined)
  b__law_joined : Binds K fd__law_joined ["_law_one", "_law_other"] []
  f__law_near : Addr
  fd__law_near : FuncData
  F__law_near : Fun K "_law_near" "_law_near" s__law_near f__law_near fd__law_near
  g__law_near : mg "_law_near" = some (.ref f__law_near)
  b__law_near : Binds K fd__law_near ["_law_jug_here", "_law_table_here"] []
  f__law_right : Addr
  fd__law_right : FuncData
  F__law_right : Fun K "_law_right" "_law_right" s__law_right f__law_right fd__law_right
  g__law_right : mg "_law_right" = some (.ref f__law_right)
  b__law_right : Binds K fd__law_right ["_law_jug_here"] []
  f_law : Addr
  fd_law : FuncData
  F_law : Fun K "law" "law" s_law f_law fd_law
  g_law : mg "law" = some (.ref f_law)
  b_law : Binds K fd_law ["_law_script"] []
  t_MAX_ENTRY : Tok
  m_MAX_ENTRY : mg "MAX_ENTRY" = some (.int 1000000 t_MAX_ENTRY)
  t_ENTRIES : Tok
  m_ENTRIES : mg "ENTRIES" = some (.int 6 t_ENTRIES)
  t_ROWS : Tok
  m_ROWS : mg "ROWS" = some (.int 3 t_ROWS)
  c_lessened : Addr
  p_lessened : Addr
  e_lessened : fd_lessened.code = .ref c_lessened
  t_lessened : LamX.TabB base mg c_lessened p_lessened
  i_lessened : (p_lessened, (("lessened" : Str) ++ ".<locals>.") ++ "<lambda>") ∈ T
  u_lessened : ∀ q ∈ T, q.1 = p_lessened → q.2 = (("lessened" : Str) ++ ".<locals>.") ++ "<lambda>"
  c_small_points : Addr
  p_small_points : Addr
  e_small_points : fd_small_points.code = .ref c_small_points
  t_small_points : LamX.TabB base mg c_small_points p_small_points
  i_small_points : (p_small_points, (("small_points" : Str) ++ ".<locals>.") ++ "<lambda>") ∈ T
  u_small_points : ∀ q ∈ T, q.1 = p_small_points → q.2 = (("small_points" : Str) ++ ".<locals>.") ++ "<lambda>"
  a_IDLE : Addr
  m_IDLE : mg "IDLE" = some (.ref a_IDLE)
  r_IDLE : ∀ as H, Rd K as H (.ref a_IDLE) idleD
  m_isqrt : mg "isqrt" = some (.builtin "math.isqrt")
  z_tuple : mg "tuple" = none
  z_zip : mg "zip" = none
  z_sum : mg "sum" = none
  z_list : mg "list" = none
  z_range : mg "range" = none
  z_len : mg "len" = none
  z_isinstance : mg "isinstance" = none
  z_int : mg "int" = none
  z_bool : mg "bool" = none
  z_all : mg "all" = none
  z_any : mg "any" = none
  z_abs : mg "abs" = none
  z_enumerate : mg "enumerate" = none
  z_min : mg "min" = none
  z_max : mg "max" = none
  z_sorted : mg "sorted" = none
  z_repr : mg "repr" = none
end K77
end
section
set_option maxHeartbeats 0
namespace K77
open PySem PySem.Spec PyProof.Rows L2 DL

def loose0 : List PySem.Str := ["FourError", "InvalidForm", "TooMany", "is_whole", "value_at", "discriminant_of", "plus", "times", "both_at", "across", "summed", "doubled_rows", "led_by", "spanned", "points_to", "points_with", "IDLE", "turned", "determinant", "product", "taken_back", "form_by", "nearest", "lessened", "small_points", "third_point", "small_lead", "lead_of", "is_lead_of", "MAX_ENTRY"]
def loose1 : List PySem.Str := ["ENTRIES", "ROWS", "is_form", "require_form", "require_small_forms", "form_lead", "are_forms_alike", "is_table", "is_form_lead", "_law_jug", "_law_pour", "_law_of", "_law_value", "_law_mixed_value", "_law_size", "_law_is_whole", "_law_is_form", "_law_columns", "_law_deciding", "_law_led_form", "_law_table", "_law_form", "_law_root", "_law_spots", "_law_is_lead", "_law_are_alike", "_law_joined", "_law_near", "_law_right"]
def loose : List PySem.Str := loose0 ++ loose1
def d_is_whole : He.DefD := ⟨("is_whole", none), "is_whole", "is_whole", defArgs s_is_whole, defBody s_is_whole, defScope s_is_whole, [], []⟩
def d_value_at : He.DefD := ⟨("value_at", none), "value_at", "value_at", defArgs s_value_at, defBody s_value_at, defScope s_value_at, [], []⟩
def d_discriminant_of : He.DefD := ⟨("discriminant_of", none), "discriminant_of", "discriminant_of", defArgs s_discriminant_of, defBody s_discriminant_of, defScope s_discriminant_of, [], []⟩
def d_plus : He.DefD := ⟨("plus", none), "plus", "plus", defArgs s_plus, defBody s_plus, defScope s_plus, [], []⟩
def d_times : He.DefD := ⟨("times", none), "times", "times", defArgs s_times, defBody s_times, defScope s_times, [], []⟩
def d_both_at : He.DefD := ⟨("both_at", none), "both_at", "both_at", defArgs s_both_at, defBody s_both_at, defScope s_both_at, [], []⟩
def d_across : He.DefD := ⟨("across", none), "across", "across", defArgs s_across, defBody s_across, defScope s_across, [], []⟩
def d_summed : He.DefD := ⟨("summed", none), "summed", "summed", defArgs s_summed, defBody s_summed, defScope s_summed, [], []⟩
def d_doubled_rows : He.DefD := ⟨("doubled_rows", none), "doubled_rows", "doubled_rows", defArgs s_doubled_rows, defBody s_doubled_rows, defScope s_doubled_rows, [], []⟩
def d_led_by : He.DefD := ⟨("led_by", none), "led_by", "led_by", defArgs s_led_by, defBody s_led_by, defScope s_led_by, [], []⟩
def d_spanned : He.DefD := ⟨("spanned", none), "spanned", "spanned", defArgs s_spanned, defBody s_spanned, defScope s_spanned, [], []⟩
def d_points_to : He.DefD := ⟨("points_to", none), "points_to", "points_to", defArgs s_points_to, defBody s_points_to, defScope s_points_to, [], []⟩
def d_points_with : He.DefD := ⟨("points_with", none), "points_with", "points_with", defArgs s_points_with, defBody s_points_with, defScope s_points_with, [], []⟩
def d_turned : He.DefD := ⟨("turned", none), "turned", "turned", defArgs s_turned, defBody s_turned, defScope s_turned, [], []⟩
def d_determinant : He.DefD := ⟨("determinant", none), "determinant", "determinant", defArgs s_determinant, defBody s_determinant, defScope s_determinant, [], []⟩
def d_product : He.DefD := ⟨("product", none), "product", "product", defArgs s_product, defBody s_product, defScope s_product, [], []⟩
def d_taken_back : He.DefD := ⟨("taken_back", none), "taken_back", "taken_back", defArgs s_taken_back, defBody s_taken_back, defScope s_taken_back, [], []⟩
def d_form_by : He.DefD := ⟨("form_by", none), "form_by", "form_by", defArgs s_form_by, defBody s_form_by, defScope s_form_by, [], []⟩
def d_nearest : He.DefD := ⟨("nearest", none), "nearest", "nearest", defArgs s_nearest, defBody s_nearest, defScope s_nearest, [], []⟩
def d_lessened : He.DefD := ⟨("lessened", none), "lessened", "lessened", defArgs s_lessened, defBody s_lessened, defScope s_lessened, [], []⟩
def d_small_points : He.DefD := ⟨("small_points", none), "small_points", "small_points", defArgs s_small_points, defBody s_small_points, defScope s_small_points, [], []⟩
def d_third_point : He.DefD := ⟨("third_point", none), "third_point", "third_point", defArgs s_third_point, defBody s_third_point, defScope s_third_point, [], []⟩
def d_small_lead : He.DefD := ⟨("small_lead", none), "small_lead", "small_lead", defArgs s_small_lead, defBody s_small_lead, defScope s_small_lead, [], []⟩
def d_lead_of : He.DefD := ⟨("lead_of", none), "lead_of", "lead_of", defArgs s_lead_of, defBody s_lead_of, defScope s_lead_of, [], []⟩
def d_is_lead_of : He.DefD := ⟨("is_lead_of", none), "is_lead_of", "is_lead_of", defArgs s_is_lead_of, defBody s_is_lead_of, defScope s_is_lead_of, [], []⟩
def d_is_form : He.DefD := ⟨("is_form", none), "is_form", "is_form", defArgs s_is_form, defBody s_is_form, defScope s_is_form, [], []⟩
def d_require_form : He.DefD := ⟨("require_form", none), "require_form", "require_form", defArgs s_require_form, defBody s_require_form, defScope s_require_form, [], []⟩
def d_require_small_forms : He.DefD := ⟨("require_small_forms", none), "require_small_forms", "require_small_forms", defArgs s_require_small_forms, defBody s_require_small_forms, defScope s_require_small_forms, [], []⟩
def d_form_lead : He.DefD := ⟨("form_lead", none), "form_lead", "form_lead", defArgs s_form_lead, defBody s_form_lead, defScope s_form_lead, [], []⟩
def d_are_forms_alike : He.DefD := ⟨("are_forms_alike", none), "are_forms_alike", "are_forms_alike", defArgs s_are_forms_alike, defBody s_are_forms_alike, defScope s_are_forms_alike, [], []⟩
def d_is_table : He.DefD := ⟨("is_table", none), "is_table", "is_table", defArgs s_is_table, defBody s_is_table, defScope s_is_table, [], []⟩
def d_is_form_lead : He.DefD := ⟨("is_form_lead", none), "is_form_lead", "is_form_lead", defArgs s_is_form_lead, defBody s_is_form_lead, defScope s_is_form_lead, [], []⟩
def d__law_jug : He.DefD := ⟨("_law_jug", none), "_law_jug", "_law_jug", defArgs s__law_jug, defBody s__law_jug, defScope s__law_jug, [], []⟩
def d__law_pour : He.DefD := ⟨("_law_pour", none), "_law_pour", "_law_pour", defArgs s__law_pour, defBody s__law_pour, defScope s__law_pour, [], []⟩
def d__law_of : He.DefD := ⟨("_law_of", none), "_law_of", "_law_of", defArgs s__law_of, defBody s__law_of, defScope s__law_of, [], []⟩
def d__law_value : He.DefD := ⟨("_law_value", none), "_law_value", "_law_value", defArgs s__law_value, defBody s__law_value, defScope s__law_value, [], []⟩
def d__law_mixed_value : He.DefD := ⟨("_law_mixed_value", none), "_law_mixed_value", "_law_mixed_value", defArgs s__law_mixed_value, defBody s__law_mixed_value, defScope s__law_mixed_value, [], []⟩
def d__law_size : He.DefD := ⟨("_law_size", none), "_law_size", "_law_size", defArgs s__law_size, defBody s__law_size, defScope s__law_size, [], []⟩
def d__law_is_whole : He.DefD := ⟨("_law_is_whole", none), "_law_is_whole", "_law_is_whole", defArgs s__law_is_whole, defBody s__law_is_whole, defScope s__law_is_whole, [], []⟩
def d__law_is_form : He.DefD := ⟨("_law_is_form", none), "_law_is_form", "_law_is_form", defArgs s__law_is_form, defBody s__law_is_form, defScope s__law_is_form, [], []⟩
def d__law_columns : He.DefD := ⟨("_law_columns", none), "_law_columns", "_law_columns", defArgs s__law_columns, defBody s__law_columns, defScope s__law_columns, [], []⟩
def d__law_deciding : He.DefD := ⟨("_law_deciding", none), "_law_deciding", "_law_deciding", defArgs s__law_deciding, defBody s__law_deciding, defScope s__law_deciding, [], []⟩
def d__law_led_form : He.DefD := ⟨("_law_led_form", none), "_law_led_form", "_law_led_form", defArgs s__law_led_form, defBody s__law_led_form, defScope s__law_led_form, [], []⟩
def d__law_table : He.DefD := ⟨("_law_table", none), "_law_table", "_law_table", defArgs s__law_table, defBody s__law_table, defScope s__law_table, [], []⟩
def d__law_form : He.DefD := ⟨("_law_form", none), "_law_form", "_law_form", defArgs s__law_form, defBody s__law_form, defScope s__law_form, [], []⟩
def d__law_root : He.DefD := ⟨("_law_root", none), "_law_root", "_law_root", defArgs s__law_root, defBody s__law_root, defScope s__law_root, [], []⟩
def d__law_spots : He.DefD := ⟨("_law_spots", none), "_law_spots", "_law_spots", defArgs s__law_spots, defBody s__law_spots, defScope s__law_spots, [], []⟩
def d__law_is_lead : He.DefD := ⟨("_law_is_lead", none), "_law_is_lead", "_law_is_lead", defArgs s__law_is_lead, defBody s__law_is_lead, defScope s__law_is_lead, [], []⟩
def d__law_are_alike : He.DefD := ⟨("_law_are_alike", none), "_law_are_alike", "_law_are_alike", defArgs s__law_are_alike, defBody s__law_are_alike, defScope s__law_are_alike, [], []⟩
def d__law_joined : He.DefD := ⟨("_law_joined", none), "_law_joined", "_law_joined", defArgs s__law_joined, defBody s__law_joined, defScope s__law_joined, [], []⟩
def d__law_near : He.DefD := ⟨("_law_near", none), "_law_near", "_law_near", defArgs s__law_near, defBody s__law_near, defScope s__law_near, [], []⟩
def d__law_right : He.DefD := ⟨("_law_right", none), "_law_right", "_law_right", defArgs s__law_right, defBody s__law_right, defScope s__law_right, [], []⟩
def d_law : He.DefD := ⟨("law", none), "law", "law", defArgs s_law, defBody s_law, defScope s_law, [], []⟩
def fnL0 : List He.DefD := [d_is_whole, d_value_at, d_discriminant_of, d_plus, d_times, d_both_at, d_across, d_summed, d_doubled_rows, d_led_by, d_spanned, d_points_to, d_points_with, d_turned, d_determinant, d_product, d_taken_back, d_form_by, d_nearest, d_lessened]
def fnL1 : List He.DefD := [d_small_points, d_third_point, d_small_lead, d_lead_of, d_is_lead_of, d_is_form, d_require_form, d_require_small_forms, d_form_lead, d_are_forms_alike, d_is_table, d_is_form_lead, d__law_jug, d__law_pour, d__law_of, d__law_value, d__law_mixed_value, d__law_size, d__law_is_whole, d__law_is_form]
def fnL2 : List He.DefD := [d__law_columns, d__law_deciding, d__law_led_form, d__law_table, d__law_form, d__law_root, d__law_spots, d__law_is_lead, d__law_are_alike, d__law_joined, d__law_near, d__law_right, d_law]
def fnL : List He.DefD := fnL0 ++ fnL1 ++ fnL2
def faL0 : List He.Fa := [.glo "is_whole", .glo "value_at", .glo "discriminant_of", .glo "plus", .glo "times", .glo "both_at", .glo "across", .glo "summed", .glo "doubled_rows", .glo "led_by", .glo "spanned", .glo "points_to", .glo "points_with", .glo "turned", .glo "determinant", .glo "product", .glo "taken_back", .glo "form_by", .glo "nearest", .glo "lessened"]
def faL1 : List He.Fa := [.glo "small_points", .glo "third_point", .glo "small_lead", .glo "lead_of", .glo "is_lead_of", .glo "is_form", .glo "require_form", .glo "require_small_forms", .glo "form_lead", .glo "are_forms_alike", .glo "is_table", .glo "is_form_lead", .glo "_law_jug", .glo "_law_pour", .glo "_law_of", .glo "_law_value", .glo "_law_mixed_value", .glo "_law_size", .glo "_law_is_whole", .glo "_law_is_form"]
def faL2 : List He.Fa := [.glo "_law_columns", .glo "_law_deciding", .glo "_law_led_form", .glo "_law_table", .glo "_law_form", .glo "_law_root", .glo "_law_spots", .glo "_law_is_lead", .glo "_law_are_alike", .glo "_law_joined", .glo "_law_near", .glo "_law_right", .glo "law", .free "tuple", .free "zip", .free "sum", .free "list", .free "range", .free "len", .free "isinstance"]
def faL3 : List He.Fa := [.free "int", .free "bool", .free "all", .free "any", .free "abs", .free "enumerate", .free "min", .free "max", .free "sorted", .free "repr", .int "MAX_ENTRY" 1000000, .int "ENTRIES" 6, .int "ROWS" 3]
def faL : List He.Fa := faL0 ++ faL1 ++ faL2 ++ faL3
def tfL : List He.Defn := [("lessened", none), ("small_points", none)]
/-- a tuple of the written part -/
def tupA (K : PySem.W.Frag) (a : Addr) (vs : List V) : Bool := match K.lookup a with
  | some ⟨.type c, _, .seq its _, _⟩ => decide (c = "tuple") && (decide (its.size ≤ sizeLine) && He.relAll vs its.toList)
  | _ => false
theorem tupA_ok {K : PySem.W.Frag} {a : Addr} {vs : List V} (h : tupA K a vs = true) (H : Hp) : SqT K H a vs := by
  unfold tupA at h
  cases q : K.lookup a with
  | none =>
    rw [q] at h
    cases h
  | some o =>
    obtain ⟨oc, od, dt, osl⟩ := o
    rw [q] at h
    cases oc with
    | type c =>
      cases dt with
      | seq its n =>
        obtain ⟨h1, h2⟩ := He.ba (show (decide (c = "tuple") && (decide (its.size ≤ sizeLine) && He.relAll vs its.toList)) = true from h)
        obtain ⟨h3, h4⟩ := He.ba h2
        exact .inr ⟨_, its, n, q, congrArg Value.type (of_decide_eq_true h1), rfl, of_decide_eq_true h3, He.relAll_ok h4⟩
      | _ => cases h
    | _ => cases dt <;> cases h
/-- the i-th item of a tuple, if it is an object -/
def itemA (K : PySem.W.Frag) (a : Addr) (i : Nat) : Addr := match K.lookup a with
  | some ⟨_, _, .seq its _, _⟩ => (match its.toList[i]? with
    | some (.ref b) => b
    | _ => 0)
  | _ => 0
def idleA (K : PySem.W.Frag) : Addr := He.ga K "IDLE"
def exL (K : PySem.W.Frag) : Bool := He.eqO (PySem.W.nsIn K mainGlobals "isqrt") (some (some (.builtin "math.isqrt"))) && (He.eqO (PySem.W.nsIn K mainGlobals "IDLE") (some (some (.ref (idleA K)))) &&
  (tupA K (idleA K) [.ref (itemA K (idleA K) 0), .ref (itemA K (idleA K) 1), .ref (itemA K (idleA K) 2)] && (tupA K (itemA K (idleA K) 0) [.int 1, .int 0, .int 0] && (tupA K (itemA K (idleA K) 1) [.int 0, .int 1, .int 0] && (tupA K (itemA K (idleA K) 2) [.int 0, .int 0, .int 1] &&
  !decide ((He.cT K ("lessened", none)).2 = (He.cT K ("small_points", none)).2))))))
abbrev R77 : PySem.W.OpenRow := PySem.W.OpenLaw.row PySem.Challenge.rw_signfours_k77_whole_forms_alike_or_not
abbrev hk77 : PySem.W.Hook := He.hookX 2 faL fnL [] tfL exL
def ob77 (s : PySem.W.SharedT) : He.AlX := He.obsX 2 faL fnL [] tfL exL (HeadRun.getT s)
theorem ob77_eq (s : PySem.W.SharedT) : ob77 s = hk77.obs s.abs := He.obsX_eq (HeadRun.getT_eq s)
abbrev qv77 : Program := PySem.W.view R77.prog [0, 66]
theorem run77 (w : World) : HeadRun.RunEqI R77 qv77 hk77 ob77 20000 loose w := by
  unfold HeadRun.RunEqI
  kernel_rfl
end K77
end
section
set_option exponentiation.threshold 100000
namespace K77
open PySem PySem.Spec PyProof.Rows L2 DL
/-! ### sizes of ints -/
structure Bn (n : Nat) (i : Int) : Prop where
  h : i.natAbs < 2 ^ n
theorem Bn.mono {m n : Nat} {i : Int} (h : Bn m i) (l : m ≤ n) : Bn n i := ⟨Nat.lt_of_lt_of_le h.h (Nat.pow_le_pow_right (by decide) l)⟩
theorem Bn.add {m n : Nat} {i j : Int} (a : Bn m i) (b : Bn n j) : Bn (max m n + 1) (i + j) := by
  have h1 := (a.mono (Nat.le_max_left m n)).h
  have h2 := (b.mono (Nat.le_max_right m n)).h
  refine ⟨?_⟩
  rw [Nat.pow_succ]
  omega
theorem Bn.sub {m n : Nat} {i j : Int} (a : Bn m i) (b : Bn n j) : Bn (max m n + 1) (i - j) := by
  have h1 := (a.mono (Nat.le_max_left m n)).h
  have h2 := (b.mono (Nat.le_max_right m n)).h
  refine ⟨?_⟩
  rw [Nat.pow_succ]
  omega
theorem Bn.neg {m : Nat} {i : Int} (a : Bn m i) : Bn m (-i) := ⟨by rw [Int.natAbs_neg]; exact a.h⟩
theorem Bn.mul {m n : Nat} {i j : Int} (a : Bn m i) (b : Bn n j) : Bn (m + n) (i * j) := ⟨L2.wide_lt a.h b.h⟩
theorem Bn.lit {i : Int} (h : i.natAbs < 2 ^ 256) : Bn 256 i := ⟨h⟩
theorem Bn.cmul {m n : Nat} {i j : Int} (a : Bn m i) (b : Bn n j) (l : m + n ≤ 900000) : L2.CMulW i j :=
  L2.wide_mul (a := m + 1) (b := n + 1) (a.mono (Nat.le_succ m)).h (b.mono (Nat.le_succ n)).h (Nat.succ_pos _) (Nat.succ_pos _) (by omega)
theorem Bn.cdiv {n : Nat} {i j : Int} (h : 0 < j) (b : Bn n j) (l : n ≤ 8000) : L2.CDivW i j := L2.wide_div h (b.mono (Nat.le_succ n)).h (Nat.succ_pos _) (by omega)
theorem Bn.of_le {n : Nat} {i : Int} {k : Nat} (h : i.natAbs ≤ k) (hk : k < 2 ^ n) : Bn n i := ⟨Nat.lt_of_le_of_lt h hk⟩
structure Bn3 (n : Nat) (x y z : Int) : Prop where
  x : Bn n x
  y : Bn n y
  z : Bn n z
structure Bn6 (n : Nat) (a b c d e f : Int) : Prop where
  a : Bn n a
  b : Bn n b
  c : Bn n c
  d : Bn n d
  e : Bn n e
  f : Bn n f
theorem Bn3.mono {m n : Nat} {x y z : Int} (h : Bn3 m x y z) (l : m ≤ n) : Bn3 n x y z := ⟨h.x.mono l, h.y.mono l, h.z.mono l⟩
theorem Bn6.mono {m n : Nat} {a b c d e f : Int} (h : Bn6 m a b c d e f) (l : m ≤ n) : Bn6 n a b c d e f := ⟨h.a.mono l, h.b.mono l, h.c.mono l, h.d.mono l, h.e.mono l, h.f.mono l⟩
end K77
end
section
/-! points, forms, tables; what the program's small defs compute -/
namespace K77
open DL
structure Pt where
  x : Int
  y : Int
  z : Int
deriving DecidableEq
structure Fm where
  a : Int
  b : Int
  c : Int
  d : Int
  e : Int
  f : Int
deriving DecidableEq
structure Tb where
  u : Pt
  v : Pt
  w : Pt
deriving DecidableEq
abbrev Pt.D (p : Pt) : D := ptD p.x p.y p.z
abbrev Fm.D (F : Fm) : D := fmD F.a F.b F.c F.d F.e F.f
abbrev Tb.D (t : Tb) : D := .tup [t.u.D, t.v.D, t.w.D]
def val (F : Fm) (p : Pt) : Int := F.a * p.x * p.x + F.b * p.y * p.y + F.c * p.z * p.z + F.d * p.y * p.z + F.e * p.x * p.z + F.f * p.x * p.y
def disc (F : Fm) : Int := 4 * F.a * F.b * F.c + F.d * F.e * F.f - F.a * F.d * F.d - F.b * F.e * F.e - F.c * F.f * F.f
def add (p q : Pt) : Pt := ⟨p.x + q.x, p.y + q.y, p.z + q.z⟩
def smul (k : Int) (p : Pt) : Pt := ⟨k * p.x, k * p.y, k * p.z⟩
def both (F : Fm) (p q : Pt) : Int := val F (add p q) - val F p - val F q
def cross (p q : Pt) : Pt := ⟨p.y * q.z - p.z * q.y, p.z * q.x - p.x * q.z, p.x * q.y - p.y * q.x⟩
def dot (p q : Pt) : Int := p.x * q.x + p.y * q.y + p.z * q.z
def dbl (F : Fm) : Tb := ⟨⟨2 * F.a, F.f, F.e⟩, ⟨F.f, 2 * F.b, F.d⟩, ⟨F.e, F.d, 2 * F.c⟩⟩
def led (t : Tb) (p : Pt) : Pt := ⟨dot t.u p, dot t.v p, dot t.w p⟩
def tr (t : Tb) : Tb := ⟨⟨t.u.x, t.v.x, t.w.x⟩, ⟨t.u.y, t.v.y, t.w.y⟩, ⟨t.u.z, t.v.z, t.w.z⟩⟩
def det (t : Tb) : Int := dot (cross t.u t.v) t.w
def mulT (s t : Tb) : Tb := ⟨⟨dot s.u (tr t).u, dot s.u (tr t).v, dot s.u (tr t).w⟩, ⟨dot s.v (tr t).u, dot s.v (tr t).v, dot s.v (tr t).w⟩, ⟨dot s.w (tr t).u, dot s.w (tr t).v, dot s.w (tr t).w⟩⟩
def adj (t : Tb) : Tb := tr ⟨cross t.v t.w, cross t.w t.u, cross t.u t.v⟩
def formBy (F : Fm) (t : Tb) : Fm := ⟨val F t.u, val F t.v, val F t.w, both F t.v t.w, both F t.u t.w, both F t.u t.v⟩
def nearest (top bottom : Int) : Int := (2 * top + bottom) / (2 * bottom)
theorem sum3 (a b c : Int) : [a, b, c].sum = a + b + c := by
  simp only [List.sum_cons, List.sum_nil]
  omega
/-- what is an int, and no truth value -/
def isW : D → Bool
  | .int _ => true
  | _ => false
def told : D → Bool
  | .scr _ => false
  | .box _ => false
  | _ => true
end K77
end
section
namespace K77
open PySem PySem.Spec PyProof.Rows L2 DL
local macro_rules | `(tactic| walk_at "bn") => `(tactic| first
  | assumption
  | (apply Bn.add <;> walk_at "bn")
  | (apply Bn.sub <;> walk_at "bn")
  | (apply Bn.mul <;> walk_at "bn")
  | (apply Bn.neg; walk_at "bn")
  | exact Bn.lit (by decide))
local macro_rules | `(tactic| walk_at "cm") => `(tactic| (apply Bn.cmul; (focus walk_at "bn"); (focus walk_at "bn"); (focus decide)))
local macro_rules | `(tactic| walk_at "st") => `(tactic| first
  | (refine put_e ?_; intro δ1 e; simp only [List.set_cons_zero, List.set_cons_succ, wipeD, List.map_cons, List.map_nil] at e; subst e)
  | refine ⟨_, rfl, ?_⟩
  | (refine ⟨_, _, rfl, rfl, ?cm, ?_⟩; (case cm => walk_at "cm"))
  | refine ⟨_, _, rfl, rfl, ?_⟩
  | refine ⟨_, rfl, rfl, ?_⟩
  | refine ⟨_, _, rfl, ?_⟩
  | refine ⟨_, _, _, rfl, ?_⟩
  | refine ⟨_, _, .inl rfl, ?_⟩
  | refine ⟨_, .inl rfl, ?_⟩
  | refine ⟨_, .inr rfl, ?_⟩
  | refine ⟨rfl, ?_⟩
  | refine ⟨_, _, _, rfl, rfl, rfl, ?_⟩
  | refine if_t rfl ?_
  | refine if_f rfl ?_)
section
variable {P : Program} {w : World} {K : PySem.W.Frag} {mg : Str → Option Value} {base : Heap} {T : List (Addr × Str)}
theorem end_ok {mu : Mu} {Qd : D → Mu → Prop} {d : D} (p : pure d = true) (h : Qd d mu) : (endsD mu Qd).rt d mu := ⟨.inl p, by rw [List.take_length]; exact h⟩
theorem end_nx {δ : Dl} {mu : Mu} {Qd : D → Mu → Prop} (h : Qd .non mu) : (endsD mu Qd).nx δ mu := by
  show Qd .non (mu.take mu.length)
  rw [List.take_length]; exact h
theorem three : 3 ≤ sizeLine := by decide
def Ph_is_whole : PhiD := fun ds mu Q => ∃ d, ds = [d] ∧ told d = true ∧ Q (.bl (isW d)) mu
theorem ok_is_whole (A : Al K mg base T) : FnOk P w K mg base CX0 1 A.f_is_whole A.fd_is_whole ["value"] (spD K T Ph_is_whole) := by
  refine fn_d A.F_is_whole sc_is_whole ?len (fun cdv Ar outer s H E hr => (ssd_one (sd_ret (ed_and (ed_isi (.inl rfl) rfl A.z_isinstance (by decide +kernel) (ed_var 0 (pv 0)) (pe_bltn rfl A.z_int (by decide +kernel) rfl)) (ed_one (ed_not (ed_isi (.inr (.inl rfl)) rfl A.z_isinstance (by decide +kernel) (ed_var 0 (pv 0)) (pe_bltn rfl A.z_bool (by decide +kernel) rfl)))))))) ?rd
  · rintro ds mu Qd ⟨d, rfl, _⟩; rfl
  · rintro ds mu Qd ⟨d, rfl, hd, hq⟩
    refine put_e ?_; intro δ1 e; rw [st_is_whole] at e; subst e
    refine ⟨d, rfl, ?_⟩
    cases d with
    | scr _ => cases hd
    | box _ => cases hd
    | non => exact ⟨_, rfl, _, rfl, if_f rfl (end_ok rfl hq)⟩
    | str x => exact ⟨_, rfl, _, rfl, if_f rfl (end_ok rfl hq)⟩
    | tup x => exact ⟨_, rfl, _, rfl, if_f (by decide) (end_ok rfl hq)⟩
    | lst x => exact ⟨_, rfl, _, rfl, if_f rfl (end_ok rfl hq)⟩
    | bl x => exact ⟨_, rfl, _, rfl, if_t (by decide) ⟨_, rfl, _, rfl, _, rfl, end_ok rfl hq⟩⟩
    | int x => exact ⟨_, rfl, _, rfl, if_t (by decide) ⟨_, rfl, _, rfl, _, rfl, end_ok rfl hq⟩⟩
def Ph_value_at : PhiD := fun ds mu Q => ∃ a b c d e f x y z, ds = [fmD a b c d e f, ptD x y z] ∧ Bn6 64000 a b c d e f ∧ Bn3 64000 x y z ∧ Q (.int (val ⟨a, b, c, d, e, f⟩ ⟨x, y, z⟩)) mu
theorem ok_value_at (A : Al K mg base T) : FnOk P w K mg base CX0 1 A.f_value_at A.fd_value_at ["form", "point"] (spD K T Ph_value_at) := by
  refine fn_d A.F_value_at sc_value_at ?len (fun cdv Ar outer s H E hr => (ssd_cons (sd_asg (ed_var 0 (pv 0)) (gd_tup (n := 6) rfl (gsd_cons (gd_name (i := 2) sc_value_at.nd rfl (.inl rfl)) (gsd_cons (gd_name (i := 3) sc_value_at.nd rfl (.inl rfl)) (gsd_cons (gd_name (i := 4) sc_value_at.nd rfl (.inl rfl)) (gsd_cons (gd_name (i := 5) sc_value_at.nd rfl (.inl rfl)) (gsd_cons (gd_name (i := 6) sc_value_at.nd rfl (.inl rfl)) (gsd_cons (gd_name (i := 7) sc_value_at.nd rfl (.inl rfl)) gsd_nil))))))))
    (ssd_cons (sd_asg (ed_var 1 (pv 1)) (gd_tup (n := 3) rfl (gsd_cons (gd_name (i := 8) sc_value_at.nd rfl (.inl rfl)) (gsd_cons (gd_name (i := 9) sc_value_at.nd rfl (.inl rfl)) (gsd_cons (gd_name (i := 10) sc_value_at.nd rfl (.inl rfl)) gsd_nil)))))
    (ssd_one (sd_ret (ed_op op_add od_I0 (ed_op op_add od_I0 (ed_op op_add od_I0 (ed_op op_add od_I0 (ed_op op_add od_I0 (ed_op op_mulW od_I (ed_op op_mulW od_I (ed_var 2 (pv 2)) (ed_var 8 (pv 8))) (ed_var 8 (pv 8))) (ed_op op_mulW od_I (ed_op op_mulW od_I (ed_var 3 (pv 3)) (ed_var 9 (pv 9))) (ed_var 9 (pv 9)))) (ed_op op_mulW od_I (ed_op op_mulW od_I (ed_var 4 (pv 4)) (ed_var 10 (pv 10))) (ed_var 10 (pv 10)))) (ed_op op_mulW od_I (ed_op op_mulW od_I (ed_var 5 (pv 5)) (ed_var 9 (pv 9))) (ed_var 10 (pv 10)))) (ed_op op_mulW od_I (ed_op op_mulW od_I (ed_var 6 (pv 6)) (ed_var 8 (pv 8))) (ed_var 10 (pv 10)))) (ed_op op_mulW od_I (ed_op op_mulW od_I (ed_var 7 (pv 7)) (ed_var 8 (pv 8))) (ed_var 9 (pv 9))))))))) ?rd
  · rintro ds mu Qd ⟨a, b, c, d, e, f, x, y, z, rfl, _⟩; rfl
  · rintro ds mu Qd ⟨a, b, c, d, e, f, x, y, z, rfl, ⟨ba, bb, bc, bd, be, bf⟩, ⟨bx, by_, bz⟩, hq⟩
    refine put_e ?_; intro δ1 e; rw [st_value_at] at e; subst e
    repeat walk_at "st"
    exact end_ok rfl hq
def Ph_discriminant_of : PhiD := fun ds mu Q => ∃ a b c d e f, ds = [fmD a b c d e f] ∧ Bn6 64000 a b c d e f ∧ Q (.int (disc ⟨a, b, c, d, e, f⟩)) mu
theorem ok_discriminant_of (A : Al K mg base T) : FnOk P w K mg base CX0 1 A.f_discriminant_of A.fd_discriminant_of ["form"] (spD K T Ph_discriminant_of) := by
  refine fn_d A.F_discriminant_of sc_discriminant_of ?len (fun cdv Ar outer s H E hr => (ssd_cons (sd_asg (ed_var 0 (pv 0)) (gd_tup (n := 6) rfl (gsd_cons (gd_name (i := 1) sc_discriminant_of.nd rfl (.inl rfl)) (gsd_cons (gd_name (i := 2) sc_discriminant_of.nd rfl (.inl rfl)) (gsd_cons (gd_name (i := 3) sc_discriminant_of.nd rfl (.inl rfl)) (gsd_cons (gd_name (i := 4) sc_discriminant_of.nd rfl (.inl rfl)) (gsd_cons (gd_name (i := 5) sc_discriminant_of.nd rfl (.inl rfl)) (gsd_cons (gd_name (i := 6) sc_discriminant_of.nd rfl (.inl rfl)) gsd_nil))))))))
    (ssd_one (sd_ret (ed_op op_sub od_I0 (ed_op op_sub od_I0 (ed_op op_sub od_I0 (ed_op op_add od_I0 (ed_op op_mulW od_I (ed_op op_mulW od_I (ed_op op_mulW od_I ed_int (ed_var 1 (pv 1))) (ed_var 2 (pv 2))) (ed_var 3 (pv 3))) (ed_op op_mulW od_I (ed_op op_mulW od_I (ed_var 4 (pv 4)) (ed_var 5 (pv 5))) (ed_var 6 (pv 6)))) (ed_op op_mulW od_I (ed_op op_mulW od_I (ed_var 1 (pv 1)) (ed_var 4 (pv 4))) (ed_var 4 (pv 4)))) (ed_op op_mulW od_I (ed_op op_mulW od_I (ed_var 2 (pv 2)) (ed_var 5 (pv 5))) (ed_var 5 (pv 5)))) (ed_op op_mulW od_I (ed_op op_mulW od_I (ed_var 3 (pv 3)) (ed_var 6 (pv 6))) (ed_var 6 (pv 6)))))))) ?rd
  · rintro ds mu Qd ⟨a, b, c, d, e, f, rfl, _⟩; rfl
  · rintro ds mu Qd ⟨a, b, c, d, e, f, rfl, ⟨ba, bb, bc, bd, be, bf⟩, hq⟩
    refine put_e ?_; intro δ1 e; rw [st_discriminant_of] at e; subst e
    repeat walk_at "st"
    exact end_ok rfl hq
def Ph_plus : PhiD := fun ds mu Q => ∃ x y z u v w, ds = [ptD x y z, ptD u v w] ∧ Q (ptD (x + u) (y + v) (z + w)) mu
theorem ok_plus (A : Al K mg base T) : FnOk P w K mg base CX0 1 A.f_plus A.fd_plus ["one", "other"] (spD K T Ph_plus) := by
  refine fn_d A.F_plus sc_plus ?len (fun cdv Ar outer s H E hr => (ssd_one (sd_ret (ed_callTy rc_tuple call_tuple_of (by rfl) A.z_tuple (by decide +kernel) (ad_cons (ed_lc rfl sc_plus.nd (id_zip rfl A.z_zip (ad_cons (ed_var 0 (pv 0)) (ad_cons (ed_var 1 (pv 1)) ad_nil))) (blkOk_by (own := [("first", 2), ("second", 3)]) (N := N_plus) (sc := defScope s_plus) (by decide +kernel)) (cg_pair 2 3) (fun _ _ _ _ _ => (pg_tup rfl (pgs_cons (pg_name (i := 2) sc_plus.nd rfl (.inl rfl)) (pgs_cons (pg_name (i := 3) sc_plus.nd rfl (.inl rfl)) pgs_nil)))) (fun _ _ _ _ _ => pts_yes) (fun _ _ _ _ _ => (ed_op op_add od_I0 (ed_var 2 (pv 2)) (ed_var 3 (pv 3))))) ad_nil))))) ?rd
  · rintro ds mu Qd ⟨x, y, z, u, v, w, rfl, _⟩; rfl
  · rintro ds mu Qd ⟨x, y, z, u, v, w, rfl, hq⟩
    refine put_e ?_; intro δ1 e; rw [st_plus] at e; subst e
    repeat walk_at "st"
    refine lc_fix [.int (x + u), .int (y + v), .int (z + w)] ?_ three rfl ?_
    · refine ⟨?_, ?_, ?_, trivial⟩ <;> (intro R N hR; repeat walk_at "st") <;> exact hR
    repeat walk_at "st"
    exact end_ok rfl hq
def Ph_times : PhiD := fun ds mu Q => ∃ k x y z, ds = [.int k, ptD x y z] ∧ Bn 64000 k ∧ Bn3 64000 x y z ∧ Q (ptD (k * x) (k * y) (k * z)) mu
theorem ok_times (A : Al K mg base T) : FnOk P w K mg base CX0 1 A.f_times A.fd_times ["factor", "point"] (spD K T Ph_times) := by
  refine fn_d A.F_times sc_times ?len (fun cdv Ar outer s H E hr => (ssd_one (sd_ret (ed_callTy rc_tuple call_tuple_of (by rfl) A.z_tuple (by decide +kernel) (ad_cons (ed_lc rfl sc_times.nd (id_tup (ed_var 1 (pv 1))) (blkOk_by (own := [("entry", 2)]) (N := N_times) (sc := defScope s_times) (by decide +kernel)) (cg_name 2) (fun _ _ _ _ _ => (pg_name (i := 2) sc_times.nd rfl (.inl rfl))) (fun _ _ _ _ _ => pts_yes) (fun _ _ _ _ _ => (ed_op op_mulW od_I (ed_var 0 (pv 0)) (ed_var 2 (pv 2))))) ad_nil))))) ?rd
  · rintro ds mu Qd ⟨k, x, y, z, rfl, _⟩; rfl
  · rintro ds mu Qd ⟨k, x, y, z, rfl, bk, ⟨bx, by_, bz⟩, hq⟩
    refine put_e ?_; intro δ1 e; rw [st_times] at e; subst e
    repeat walk_at "st"
    refine lc_fix [.int (k * x), .int (k * y), .int (k * z)] ?_ three rfl ?_
    · refine ⟨?_, ?_, ?_, trivial⟩ <;> (intro R N hR; repeat walk_at "st") <;> exact hR
    repeat walk_at "st"
    exact end_ok rfl hq
def Ph_across : PhiD := fun ds mu Q => ∃ x y z u v w, ds = [ptD x y z, ptD u v w] ∧ Bn3 64000 x y z ∧ Bn3 64000 u v w ∧ Q (cross ⟨x, y, z⟩ ⟨u, v, w⟩).D mu
theorem ok_across (A : Al K mg base T) : FnOk P w K mg base CX0 1 A.f_across A.fd_across ["one", "other"] (spD K T Ph_across) := by
  refine fn_d A.F_across sc_across ?len (fun cdv Ar outer s H E hr => (ssd_cons (sd_asg (ed_var 0 (pv 0)) (gd_tup (n := 3) rfl (gsd_cons (gd_name (i := 2) sc_across.nd rfl (.inl rfl)) (gsd_cons (gd_name (i := 3) sc_across.nd rfl (.inl rfl)) (gsd_cons (gd_name (i := 4) sc_across.nd rfl (.inl rfl)) gsd_nil)))))
    (ssd_cons (sd_asg (ed_var 1 (pv 1)) (gd_tup (n := 3) rfl (gsd_cons (gd_name (i := 5) sc_across.nd rfl (.inl rfl)) (gsd_cons (gd_name (i := 6) sc_across.nd rfl (.inl rfl)) (gsd_cons (gd_name (i := 7) sc_across.nd rfl (.inl rfl)) gsd_nil)))))
    (ssd_one (sd_ret (ed_tup (ad_cons (ed_op op_sub od_I0 (ed_op op_mulW od_I (ed_var 3 (pv 3)) (ed_var 7 (pv 7))) (ed_op op_mulW od_I (ed_var 4 (pv 4)) (ed_var 6 (pv 6)))) (ad_cons (ed_op op_sub od_I0 (ed_op op_mulW od_I (ed_var 4 (pv 4)) (ed_var 5 (pv 5))) (ed_op op_mulW od_I (ed_var 2 (pv 2)) (ed_var 7 (pv 7)))) (ad_cons (ed_op op_sub od_I0 (ed_op op_mulW od_I (ed_var 2 (pv 2)) (ed_var 6 (pv 6))) (ed_op op_mulW od_I (ed_var 3 (pv 3)) (ed_var 5 (pv 5)))) ad_nil))))))))) ?rd
  · rintro ds mu Qd ⟨x, y, z, u, v, w, rfl, _⟩; rfl
  · rintro ds mu Qd ⟨x, y, z, u, v, w, rfl, ⟨bx, by_, bz⟩, ⟨bu, bv, bw⟩, hq⟩
    refine put_e ?_; intro δ1 e; rw [st_across] at e; subst e
    repeat walk_at "st"
    refine ⟨three, ?_⟩
    exact end_ok rfl hq
def Ph_summed : PhiD := fun ds mu Q => ∃ x y z u v w, ds = [ptD x y z, ptD u v w] ∧ Bn3 64000 x y z ∧ Bn3 64000 u v w ∧ Q (.int (dot ⟨x, y, z⟩ ⟨u, v, w⟩)) mu
theorem ok_summed (A : Al K mg base T) : FnOk P w K mg base CX0 1 A.f_summed A.fd_summed ["one", "other"] (spD K T Ph_summed) := by
  refine fn_d A.F_summed sc_summed ?len (fun cdv Ar outer s H E hr => (ssd_one (sd_ret (ed_callB rc_sum (cr_sum rfl) (by rfl) A.z_sum (by decide +kernel) (ad_cons (ed_lc rfl sc_summed.nd (id_zip rfl A.z_zip (ad_cons (ed_var 0 (pv 0)) (ad_cons (ed_var 1 (pv 1)) ad_nil))) (blkOk_by (own := [("first", 2), ("second", 3)]) (N := N_summed) (sc := defScope s_summed) (by decide +kernel)) (cg_pair 2 3) (fun _ _ _ _ _ => (pg_tup rfl (pgs_cons (pg_name (i := 2) sc_summed.nd rfl (.inl rfl)) (pgs_cons (pg_name (i := 3) sc_summed.nd rfl (.inl rfl)) pgs_nil)))) (fun _ _ _ _ _ => pts_yes) (fun _ _ _ _ _ => (ed_op op_mulW od_I (ed_var 2 (pv 2)) (ed_var 3 (pv 3))))) ad_nil))))) ?rd
  · rintro ds mu Qd ⟨x, y, z, u, v, w, rfl, _⟩; rfl
  · rintro ds mu Qd ⟨x, y, z, u, v, w, rfl, ⟨bx, by_, bz⟩, ⟨bu, bv, bw⟩, hq⟩
    refine put_e ?_; intro δ1 e; rw [st_summed] at e; subst e
    repeat walk_at "st"
    refine lc_fix [.int (x * u), .int (y * v), .int (z * w)] ?_ three rfl ?_
    · refine ⟨?_, ?_, ?_, trivial⟩ <;> (intro R N hR; repeat walk_at "st") <;> exact hR
    refine ⟨[x * u, y * v, z * w], rfl, ?_⟩
    rw [sum3]
    exact end_ok rfl hq
def Ph_doubled_rows : PhiD := fun ds mu Q => ∃ a b c d e f, ds = [fmD a b c d e f] ∧ Bn6 64000 a b c d e f ∧ Q (dbl ⟨a, b, c, d, e, f⟩).D mu
theorem ok_doubled_rows (A : Al K mg base T) : FnOk P w K mg base CX0 1 A.f_doubled_rows A.fd_doubled_rows ["form"] (spD K T Ph_doubled_rows) := by
  refine fn_d A.F_doubled_rows sc_doubled_rows ?len (fun cdv Ar outer s H E hr => (ssd_cons (sd_asg (ed_var 0 (pv 0)) (gd_tup (n := 6) rfl (gsd_cons (gd_name (i := 1) sc_doubled_rows.nd rfl (.inl rfl)) (gsd_cons (gd_name (i := 2) sc_doubled_rows.nd rfl (.inl rfl)) (gsd_cons (gd_name (i := 3) sc_doubled_rows.nd rfl (.inl rfl)) (gsd_cons (gd_name (i := 4) sc_doubled_rows.nd rfl (.inl rfl)) (gsd_cons (gd_name (i := 5) sc_doubled_rows.nd rfl (.inl rfl)) (gsd_cons (gd_name (i := 6) sc_doubled_rows.nd rfl (.inl rfl)) gsd_nil))))))))
    (ssd_one (sd_ret (ed_tup (ad_cons (ed_tup (ad_cons (ed_op op_mulW od_I ed_int (ed_var 1 (pv 1))) (ad_cons (ed_var 6 (pv 6)) (ad_cons (ed_var 5 (pv 5)) ad_nil)))) (ad_cons (ed_tup (ad_cons (ed_var 6 (pv 6)) (ad_cons (ed_op op_mulW od_I ed_int (ed_var 2 (pv 2))) (ad_cons (ed_var 4 (pv 4)) ad_nil)))) (ad_cons (ed_tup (ad_cons (ed_var 5 (pv 5)) (ad_cons (ed_var 4 (pv 4)) (ad_cons (ed_op op_mulW od_I ed_int (ed_var 3 (pv 3))) ad_nil)))) ad_nil)))))))) ?rd
  · rintro ds mu Qd ⟨a, b, c, d, e, f, rfl, _⟩; rfl
  · rintro ds mu Qd ⟨a, b, c, d, e, f, rfl, ⟨ba, bb, bc, bd, be, bf⟩, hq⟩
    refine put_e ?_; intro δ1 e; rw [st_doubled_rows] at e; subst e
    repeat walk_at "st"
    refine ⟨three, ?_⟩
    repeat walk_at "st"
    refine ⟨three, ?_⟩
    repeat walk_at "st"
    refine ⟨three, ?_⟩
    repeat walk_at "st"
    refine ⟨three, ?_⟩
    exact end_ok rfl hq
def Ph_nearest : PhiD := fun ds mu Q => ∃ a b, ds = [.int a, .int b] ∧ Bn 64000 a ∧ Bn 6000 b ∧ 0 < b ∧ Q (.int (nearest a b)) mu
theorem ok_nearest (A : Al K mg base T) : FnOk P w K mg base CX0 1 A.f_nearest A.fd_nearest ["top", "bottom"] (spD K T Ph_nearest) := by
  refine fn_d A.F_nearest sc_nearest ?len (fun cdv Ar outer s H E hr => (ssd_one (sd_ret (ed_op op_fdivW od_I (ed_op op_add od_I0 (ed_op op_mulW od_I ed_int (ed_var 0 (pv 0))) (ed_var 1 (pv 1))) (ed_op op_mulW od_I ed_int (ed_var 1 (pv 1))))))) ?rd
  · rintro ds mu Qd ⟨a, b, rfl, _⟩; rfl
  · rintro ds mu Qd ⟨a, b, rfl, ba, bb, h0, hq⟩
    refine put_e ?_; intro δ1 e; rw [st_nearest] at e; subst e
    repeat walk_at "st"
    refine ⟨Bn.cdiv (n := 6300) (by omega) (Bn.mono (n := 6300) (by walk_at "bn") (by decide)) (by decide), ?_⟩
    exact end_ok rfl hq
def Ph_both_at : PhiD := fun ds mu Q => ∃ a b c d e f x y z u v w, ds = [fmD a b c d e f, ptD x y z, ptD u v w] ∧ Bn6 60000 a b c d e f ∧ Bn3 60000 x y z ∧ Bn3 60000 u v w ∧ Q (.int (both ⟨a, b, c, d, e, f⟩ ⟨x, y, z⟩ ⟨u, v, w⟩)) mu
theorem bn3_add {n m x y z u v w} (h : Bn3 n x y z) (g : Bn3 m u v w) : Bn3 (max n m + 1) (x + u) (y + v) (z + w) := ⟨h.x.add g.x, h.y.add g.y, h.z.add g.z⟩
theorem ok_both_at (A : Al K mg base T) : FnOk P w K mg base CX0 2 A.f_both_at A.fd_both_at ["form", "one", "other"] (spD K T Ph_both_at) := by
  refine fn_d A.F_both_at sc_both_at ?len (fun cdv Ar outer s H E hr => (ssd_one (sd_ret (ed_op op_sub od_I0 (ed_op op_sub od_I0 (ed_call (ok_value_at A) hr rfl A.g_value_at A.F_value_at.kp A.b_value_at (ad_cons (ed_var 0 (pv 0)) (ad_cons (ed_call (ok_plus A) hr rfl A.g_plus A.F_plus.kp A.b_plus (ad_cons (ed_var 1 (pv 1)) (ad_cons (ed_var 2 (pv 2)) ad_nil))) ad_nil))) (ed_call (ok_value_at A) hr rfl A.g_value_at A.F_value_at.kp A.b_value_at (ad_cons (ed_var 0 (pv 0)) (ad_cons (ed_var 1 (pv 1)) ad_nil)))) (ed_call (ok_value_at A) hr rfl A.g_value_at A.F_value_at.kp A.b_value_at (ad_cons (ed_var 0 (pv 0)) (ad_cons (ed_var 2 (pv 2)) ad_nil))))))) ?rd
  · rintro ds mu Qd ⟨a, b, c, d, e, f, x, y, z, u, v, w, rfl, _⟩; rfl
  · rintro ds mu Qd ⟨a, b, c, d, e, f, x, y, z, u, v, w, rfl, bF, b1, b2, hq⟩
    refine put_e ?_; intro δ1 e; rw [st_both_at] at e; subst e
    repeat walk_at "st"
    refine ⟨_, _, _, _, _, _, rfl, ?_⟩
    refine ⟨_, _, _, _, _, _, _, _, _, rfl, bF.mono (by decide), (bn3_add b1 b2).mono (by decide), ?_⟩
    repeat walk_at "st"
    refine ⟨_, _, _, _, _, _, _, _, _, rfl, bF.mono (by decide), b1.mono (by decide), ?_⟩
    repeat walk_at "st"
    refine ⟨_, _, _, _, _, _, _, _, _, rfl, bF.mono (by decide), b2.mono (by decide), ?_⟩
    repeat walk_at "st"
    exact end_ok rfl hq
def Ph_led_by : PhiD := fun ds mu Q => ∃ (t : Tb) (p : Pt), ds = [t.D, p.D] ∧ Bn3 64000 t.u.x t.u.y t.u.z ∧ Bn3 64000 t.v.x t.v.y t.v.z ∧ Bn3 64000 t.w.x t.w.y t.w.z ∧ Bn3 64000 p.x p.y p.z ∧ Q (led t p).D mu
theorem ok_led_by (A : Al K mg base T) : FnOk P w K mg base CX0 2 A.f_led_by A.fd_led_by ["rows", "point"] (spD K T Ph_led_by) := by
  refine fn_d A.F_led_by sc_led_by ?len (fun cdv Ar outer s H E hr => (ssd_one (sd_ret (ed_callTy rc_tuple call_tuple_of (by rfl) A.z_tuple (by decide +kernel) (ad_cons (ed_lc rfl sc_led_by.nd (id_tup (ed_var 0 (pv 0))) (blkOk_by (own := [("row", 2)]) (N := N_led_by) (sc := defScope s_led_by) (by decide +kernel)) (cg_name 2) (fun _ _ _ _ _ => (pg_name (i := 2) sc_led_by.nd rfl (.inl rfl))) (fun _ _ _ _ _ => pts_yes) (fun _ _ _ _ _ => (ed_call (ok_summed A) hr rfl A.g_summed A.F_summed.kp A.b_summed (ad_cons (ed_var 2 (pv 2)) (ad_cons (ed_var 1 (pv 1)) ad_nil))))) ad_nil))))) ?rd
  · rintro ds mu Qd ⟨t, p, rfl, _⟩; rfl
  · rintro ds mu Qd ⟨t, p, rfl, b1, b2, b3, b4, hq⟩
    refine put_e ?_; intro δ1 e; rw [st_led_by] at e; subst e
    repeat walk_at "st"
    refine lc_fix [.int (dot t.u p), .int (dot t.v p), .int (dot t.w p)] ?_ three rfl ?_
    · refine ⟨?_, ?_, ?_, trivial⟩
      · intro R N hR; repeat walk_at "st"
        exact ⟨_, _, _, _, _, _, rfl, b1, b4, hR⟩
      · intro R N hR; repeat walk_at "st"
        exact ⟨_, _, _, _, _, _, rfl, b2, b4, hR⟩
      · intro R N hR; repeat walk_at "st"
        exact ⟨_, _, _, _, _, _, rfl, b3, b4, hR⟩
    repeat walk_at "st"
    exact end_ok rfl hq
end
end K77
end
section
namespace K77
open PySem PySem.Spec PyProof.Rows L2 DL
local macro_rules | `(tactic| walk_at "bn") => `(tactic| first
  | assumption
  | (apply Bn.add <;> walk_at "bn")
  | (apply Bn.sub <;> walk_at "bn")
  | (apply Bn.mul <;> walk_at "bn")
  | (apply Bn.neg; walk_at "bn")
  | exact Bn.lit (by decide))
local macro_rules | `(tactic| walk_at "cm") => `(tactic| (apply Bn.cmul; (focus walk_at "bn"); (focus walk_at "bn"); (focus decide)))
local macro_rules | `(tactic| walk_at "st") => `(tactic| first
  | (refine put_e ?_; intro δ1 e; simp only [List.set_cons_zero, List.set_cons_succ, wipeD, List.map_cons, List.map_nil] at e; subst e)
  | refine ⟨_, rfl, ?_⟩
  | (refine ⟨_, _, rfl, rfl, ?cm, ?_⟩; (case cm => walk_at "cm"))
  | refine ⟨_, _, rfl, rfl, ?_⟩
  | refine ⟨_, rfl, rfl, ?_⟩
  | refine ⟨_, _, rfl, ?_⟩
  | refine ⟨_, _, _, rfl, ?_⟩
  | refine ⟨_, _, .inl rfl, ?_⟩
  | refine ⟨_, .inl rfl, ?_⟩
  | refine ⟨_, .inr rfl, ?_⟩
  | refine ⟨rfl, ?_⟩
  | refine ⟨_, _, _, rfl, rfl, rfl, ?_⟩
  | refine if_t rfl ?_
  | refine if_f rfl ?_)
section
variable {P : Program} {w : World} {K : PySem.W.Frag} {mg : Str → Option Value} {base : Heap} {T : List (Addr × Str)}
abbrev tbD (a b c d e f g h i : Int) : D := .tup [ptD a b c, ptD d e f, ptD g h i]
structure Bt (n : Nat) (a b c d e f g h i : Int) : Prop where
  u : Bn3 n a b c
  v : Bn3 n d e f
  w : Bn3 n g h i
theorem Bt.mono {m n a b c d e f g h i} (t : Bt m a b c d e f g h i) (l : m ≤ n) : Bt n a b c d e f g h i := ⟨t.u.mono l, t.v.mono l, t.w.mono l⟩
theorem bn3_cross {n m : Nat} {x y z u v w : Int} (h : Bn3 n x y z) (g : Bn3 m u v w) : Bn3 (n + m + 1) (cross ⟨x, y, z⟩ ⟨u, v, w⟩).x (cross ⟨x, y, z⟩ ⟨u, v, w⟩).y (cross ⟨x, y, z⟩ ⟨u, v, w⟩).z := by
  have k : ∀ {i j k l : Int}, Bn n i → Bn m j → Bn n k → Bn m l → Bn (n + m + 1) (i * j - k * l) := fun a b c d => ((a.mul b).sub (c.mul d)).mono (by omega)
  exact ⟨k h.y g.z h.z g.y, k h.z g.x h.x g.z, k h.x g.y h.y g.x⟩
theorem bn_dot {n m : Nat} {x y z u v w : Int} (h : Bn3 n x y z) (g : Bn3 m u v w) : Bn (n + m + 2) (dot ⟨x, y, z⟩ ⟨u, v, w⟩) :=
  (((h.x.mul g.x).add (h.y.mul g.y)).add (h.z.mul g.z)).mono (by omega)
def Ph_turned : PhiD := fun ds mu Q => ∃ a b c d e f g h i, ds = [tbD a b c d e f g h i] ∧ Q (tr ⟨⟨a, b, c⟩, ⟨d, e, f⟩, ⟨g, h, i⟩⟩).D mu
theorem ok_turned (A : Al K mg base T) : FnOk P w K mg base CX0 1 A.f_turned A.fd_turned ["table"] (spD K T Ph_turned) := by
  refine fn_d A.F_turned sc_turned ?len (fun cdv Ar outer s H E hr => (ssd_one (sd_ret (ed_callTy rc_tuple call_tuple_of (by rfl) A.z_tuple (by decide +kernel) (ad_cons (ed_lzip rfl rfl A.z_list rfl A.z_zip (ed_var 0 (pv 0))) ad_nil))))) ?rd
  · rintro ds mu Qd ⟨a, b, c, d, e, f, g, h, i, rfl, _⟩; rfl
  · rintro ds mu Qd ⟨a, b, c, d, e, f, g, h, i, rfl, hq⟩
    refine put_e ?_; intro δ1 e; rw [st_turned] at e; subst e
    repeat walk_at "st"
    refine ⟨_, _, _, _, _, _, _, _, _, rfl, ?_⟩
    repeat walk_at "st"
    exact end_ok rfl hq
def Ph_determinant : PhiD := fun ds mu Q => ∃ x a b c d e f g h i, ds = [x] ∧ (x = tbD a b c d e f g h i ∨ x = .lst [ptD a b c, ptD d e f, ptD g h i]) ∧ Bt 20000 a b c d e f g h i ∧ Q (.int (det ⟨⟨a, b, c⟩, ⟨d, e, f⟩, ⟨g, h, i⟩⟩)) mu
theorem ok_determinant (A : Al K mg base T) : FnOk P w K mg base CX0 2 A.f_determinant A.fd_determinant ["table"] (spD K T Ph_determinant) := by
  refine fn_d A.F_determinant sc_determinant ?len (fun cdv Ar outer s H E hr => (ssd_one (sd_ret (ed_call (ok_summed A) hr rfl A.g_summed A.F_summed.kp A.b_summed (ad_cons (ed_call (ok_across A) hr rfl A.g_across A.F_across.kp A.b_across (ad_cons (ed_ix (ed_var 0 (pv 0)) ed_int (fun _ _ => rfl)) (ad_cons (ed_ix (ed_var 0 (pv 0)) ed_int (fun _ _ => rfl)) ad_nil))) (ad_cons (ed_ix (ed_var 0 (pv 0)) ed_int (fun _ _ => rfl)) ad_nil)))))) ?rd
  · rintro ds mu Qd ⟨x, a, b, c, d, e, f, g, h, i, rfl, _⟩; rfl
  · rintro ds mu Qd ⟨x, a, b, c, d, e, f, g, h, i, rfl, hx, ⟨b1, b2, b3⟩, hq⟩
    refine put_e ?_; intro δ1 e; rw [st_determinant] at e; subst e
    rcases hx with rfl | rfl
    · repeat walk_at "st"
      refine ⟨_, _, _, _, _, _, rfl, b1.mono (by decide), b2.mono (by decide), ?_⟩
      repeat walk_at "st"
      refine ⟨_, _, _, _, _, _, rfl, (bn3_cross b1 b2).mono (by decide), b3.mono (by decide), ?_⟩
      exact end_ok rfl hq
    · repeat walk_at "st"
      refine ⟨_, _, _, _, _, _, rfl, b1.mono (by decide), b2.mono (by decide), ?_⟩
      repeat walk_at "st"
      refine ⟨_, _, _, _, _, _, rfl, (bn3_cross b1 b2).mono (by decide), b3.mono (by decide), ?_⟩
      exact end_ok rfl hq
def Ph_taken_back : PhiD := fun ds mu Q => ∃ a b c d e f g h i, ds = [tbD a b c d e f g h i] ∧ Bt 20000 a b c d e f g h i ∧ Q (adj ⟨⟨a, b, c⟩, ⟨d, e, f⟩, ⟨g, h, i⟩⟩).D mu
theorem ok_taken_back (A : Al K mg base T) : FnOk P w K mg base CX0 2 A.f_taken_back A.fd_taken_back ["table"] (spD K T Ph_taken_back) := by
  refine fn_d A.F_taken_back sc_taken_back ?len (fun cdv Ar outer s H E hr => (ssd_cons (sd_asg (ed_var 0 (pv 0)) (gd_tup (n := 3) rfl (gsd_cons (gd_name (i := 1) sc_taken_back.nd rfl (.inl rfl)) (gsd_cons (gd_name (i := 2) sc_taken_back.nd rfl (.inl rfl)) (gsd_cons (gd_name (i := 3) sc_taken_back.nd rfl (.inl rfl)) gsd_nil)))))
    (ssd_one (sd_ret (ed_call (ok_turned A) hr rfl A.g_turned A.F_turned.kp A.b_turned (ad_cons (ed_tup (ad_cons (ed_call (ok_across A) hr rfl A.g_across A.F_across.kp A.b_across (ad_cons (ed_var 2 (pv 2)) (ad_cons (ed_var 3 (pv 3)) ad_nil))) (ad_cons (ed_call (ok_across A) hr rfl A.g_across A.F_across.kp A.b_across (ad_cons (ed_var 3 (pv 3)) (ad_cons (ed_var 1 (pv 1)) ad_nil))) (ad_cons (ed_call (ok_across A) hr rfl A.g_across A.F_across.kp A.b_across (ad_cons (ed_var 1 (pv 1)) (ad_cons (ed_var 2 (pv 2)) ad_nil))) ad_nil)))) ad_nil)))))) ?rd
  · rintro ds mu Qd ⟨a, b, c, d, e, f, g, h, i, rfl, _⟩; rfl
  · rintro ds mu Qd ⟨a, b, c, d, e, f, g, h, i, rfl, ⟨b1, b2, b3⟩, hq⟩
    refine put_e ?_; intro δ1 e; rw [st_taken_back] at e; subst e
    repeat walk_at "st"
    refine ⟨_, _, _, _, _, _, rfl, b2.mono (by decide), b3.mono (by decide), ?_⟩
    repeat walk_at "st"
    refine ⟨_, _, _, _, _, _, rfl, b3.mono (by decide), b1.mono (by decide), ?_⟩
    repeat walk_at "st"
    refine ⟨_, _, _, _, _, _, rfl, b1.mono (by decide), b2.mono (by decide), ?_⟩
    refine ⟨three, ?_⟩
    refine ⟨_, _, _, _, _, _, _, _, _, rfl, ?_⟩
    exact end_ok rfl hq
def Ph_product : PhiD := fun ds mu Q => ∃ a b c d e f g h i j k l m n o p q r, ds = [tbD a b c d e f g h i, tbD j k l m n o p q r] ∧ Bt 60000 a b c d e f g h i ∧ Bt 60000 j k l m n o p q r ∧ Q (mulT ⟨⟨a, b, c⟩, ⟨d, e, f⟩, ⟨g, h, i⟩⟩ ⟨⟨j, k, l⟩, ⟨m, n, o⟩, ⟨p, q, r⟩⟩).D mu
theorem ok_product (A : Al K mg base T) : FnOk P w K mg base CX0 2 A.f_product A.fd_product ["one", "other"] (spD K T Ph_product) := by
  refine fn_d A.F_product sc_product ?len (fun cdv Ar outer s H E hr => (ssd_cons (sd_set (i := 2) sc_product.nd rfl (.inr rfl) (ed_call (ok_turned A) hr rfl A.g_turned A.F_turned.kp A.b_turned (ad_cons (ed_var 1 (pv 1)) ad_nil)))
    (ssd_one (sd_ret (ed_callTy rc_tuple call_tuple_of (by rfl) A.z_tuple (by decide +kernel) (ad_cons (ed_lc rfl sc_product.nd (id_tup (ed_var 0 (pv 0))) (blkOk_by (own := [("row", 3)]) (N := N_product) (sc := defScope s_product) (by decide +kernel)) (cg_name 3) (fun _ _ _ _ _ => (pg_name (i := 3) sc_product.nd rfl (.inr rfl))) (fun _ _ _ _ _ => pts_yes) (fun _ _ _ _ _ => (ed_callTy rc_tuple call_tuple_of (by rfl) A.z_tuple (by decide +kernel) (ad_cons (ed_lc rfl sc_product.nd (id_tup (ed_var 2 (pv 2))) (blkOk_in (own := [("column", 4)]) (N := N_product) rfl (sc0 := defScope s_product) rfl (by decide +kernel)) (cg_name 4) (fun _ _ _ _ _ => (pg_name (i := 4) sc_product.nd rfl (.inl rfl))) (fun _ _ _ _ _ => pts_yes) (fun _ _ _ _ _ => (ed_call (ok_summed A) hr rfl A.g_summed A.F_summed.kp A.b_summed (ad_cons (ed_var 3 (pv 3)) (ad_cons (ed_var 4 (pv 4)) ad_nil))))) ad_nil)))) ad_nil)))))) ?rd
  · rintro ds mu Qd ⟨a, b, c, d, e, f, g, h, i, j, k, l, m, n, o, p, q, r, rfl, _⟩; rfl
  · rintro ds mu Qd ⟨a, b, c, d, e, f, g, h, i, j, k, l, m, n, o, p, q, r, rfl, ⟨b1, b2, b3⟩, ⟨b4, b5, b6⟩, hq⟩
    refine put_e ?_; intro δ1 e; rw [st_product] at e; subst e
    repeat walk_at "st"
    refine ⟨_, _, _, _, _, _, _, _, _, rfl, ?_⟩
    repeat walk_at "st"
    have c1 : Bn3 64000 j m p := ⟨b4.x.mono (by decide), b5.x.mono (by decide), b6.x.mono (by decide)⟩
    have c2 : Bn3 64000 k n q := ⟨b4.y.mono (by decide), b5.y.mono (by decide), b6.y.mono (by decide)⟩
    have c3 : Bn3 64000 l o r := ⟨b4.z.mono (by decide), b5.z.mono (by decide), b6.z.mono (by decide)⟩
    have row : ∀ {x y z : Int} (R : D → Mu → Prop) (N : Mu → Prop), Bn3 64000 x y z → R (ptD (dot ⟨x, y, z⟩ ⟨j, m, p⟩) (dot ⟨x, y, z⟩ ⟨k, n, q⟩) (dot ⟨x, y, z⟩ ⟨l, o, r⟩)) mu → True := fun _ _ _ _ => trivial
    refine lc_fix [ptD (dot ⟨a, b, c⟩ ⟨j, m, p⟩) (dot ⟨a, b, c⟩ ⟨k, n, q⟩) (dot ⟨a, b, c⟩ ⟨l, o, r⟩), ptD (dot ⟨d, e, f⟩ ⟨j, m, p⟩) (dot ⟨d, e, f⟩ ⟨k, n, q⟩) (dot ⟨d, e, f⟩ ⟨l, o, r⟩), ptD (dot ⟨g, h, i⟩ ⟨j, m, p⟩) (dot ⟨g, h, i⟩ ⟨k, n, q⟩) (dot ⟨g, h, i⟩ ⟨l, o, r⟩)] ?_ three rfl ?_
    · refine ⟨?_, ?_, ?_, trivial⟩
      · intro R N hR; repeat walk_at "st"
        refine lc_fix [.int (dot ⟨a, b, c⟩ ⟨j, m, p⟩), .int (dot ⟨a, b, c⟩ ⟨k, n, q⟩), .int (dot ⟨a, b, c⟩ ⟨l, o, r⟩)] ?_ three rfl ?_
        · refine ⟨?_, ?_, ?_, trivial⟩
          · intro R N hR; repeat walk_at "st"
            exact ⟨_, _, _, _, _, _, rfl, b1.mono (by decide), c1, hR⟩
          · intro R N hR; repeat walk_at "st"
            exact ⟨_, _, _, _, _, _, rfl, b1.mono (by decide), c2, hR⟩
          · intro R N hR; repeat walk_at "st"
            exact ⟨_, _, _, _, _, _, rfl, b1.mono (by decide), c3, hR⟩
        repeat walk_at "st"
        exact hR
      · intro R N hR; repeat walk_at "st"
        refine lc_fix [.int (dot ⟨d, e, f⟩ ⟨j, m, p⟩), .int (dot ⟨d, e, f⟩ ⟨k, n, q⟩), .int (dot ⟨d, e, f⟩ ⟨l, o, r⟩)] ?_ three rfl ?_
        · refine ⟨?_, ?_, ?_, trivial⟩
          · intro R N hR; repeat walk_at "st"
            exact ⟨_, _, _, _, _, _, rfl, b2.mono (by decide), c1, hR⟩
          · intro R N hR; repeat walk_at "st"
            exact ⟨_, _, _, _, _, _, rfl, b2.mono (by decide), c2, hR⟩
          · intro R N hR; repeat walk_at "st"
            exact ⟨_, _, _, _, _, _, rfl, b2.mono (by decide), c3, hR⟩
        repeat walk_at "st"
        exact hR
      · intro R N hR; repeat walk_at "st"
        refine lc_fix [.int (dot ⟨g, h, i⟩ ⟨j, m, p⟩), .int (dot ⟨g, h, i⟩ ⟨k, n, q⟩), .int (dot ⟨g, h, i⟩ ⟨l, o, r⟩)] ?_ three rfl ?_
        · refine ⟨?_, ?_, ?_, trivial⟩
          · intro R N hR; repeat walk_at "st"
            exact ⟨_, _, _, _, _, _, rfl, b3.mono (by decide), c1, hR⟩
          · intro R N hR; repeat walk_at "st"
            exact ⟨_, _, _, _, _, _, rfl, b3.mono (by decide), c2, hR⟩
          · intro R N hR; repeat walk_at "st"
            exact ⟨_, _, _, _, _, _, rfl, b3.mono (by decide), c3, hR⟩
        repeat walk_at "st"
        exact hR
    repeat walk_at "st"
    exact end_ok rfl hq
end
end K77
end
section
namespace K77
open PySem PySem.Spec PyProof.Rows L2 DL
local macro_rules | `(tactic| walk_at "bn") => `(tactic| first
  | assumption
  | (apply Bn.add <;> walk_at "bn")
  | (apply Bn.sub <;> walk_at "bn")
  | (apply Bn.mul <;> walk_at "bn")
  | (apply Bn.neg; walk_at "bn")
  | exact Bn.lit (by decide))
local macro_rules | `(tactic| walk_at "cm") => `(tactic| (apply Bn.cmul; (focus walk_at "bn"); (focus walk_at "bn"); (focus decide)))
local macro_rules | `(tactic| walk_at "st") => `(tactic| first
  | (refine put_e ?_; intro δ1 e; simp only [List.set_cons_zero, List.set_cons_succ, wipeD, List.map_cons, List.map_nil] at e; subst e)
  | refine ⟨_, rfl, ?_⟩
  | (refine ⟨_, _, rfl, rfl, ?cm, ?_⟩; (case cm => walk_at "cm"))
  | refine ⟨_, _, rfl, rfl, ?_⟩
  | refine ⟨_, rfl, rfl, ?_⟩
  | refine ⟨_, _, rfl, ?_⟩
  | refine ⟨_, _, _, rfl, ?_⟩
  | refine ⟨_, _, .inl rfl, ?_⟩
  | refine ⟨_, .inl rfl, ?_⟩
  | refine ⟨_, .inr rfl, ?_⟩
  | refine ⟨rfl, ?_⟩
  | refine ⟨_, _, _, rfl, rfl, rfl, ?_⟩
  | refine if_t rfl ?_
  | refine if_f rfl ?_)
section
variable {P : Program} {w : World} {K : PySem.W.Frag} {mg : Str → Option Value} {base : Heap} {T : List (Addr × Str)}
/-- what the program takes for a form -/
structure IsFm (F : Fm) : Prop where
  la : F.a.natAbs ≤ 1000000
  lb : F.b.natAbs ≤ 1000000
  lc : F.c.natAbs ≤ 1000000
  ld : F.d.natAbs ≤ 1000000
  le : F.e.natAbs ≤ 1000000
  lf : F.f.natAbs ≤ 1000000
  pa : 0 < F.a
  pb : F.f * F.f < 4 * F.a * F.b
  pc : 0 < disc F
theorem IsFm.bn {F : Fm} (h : IsFm F) : Bn6 20 F.a F.b F.c F.d F.e F.f :=
  ⟨.of_le h.la (by decide), .of_le h.lb (by decide), .of_le h.lc (by decide), .of_le h.ld (by decide), .of_le h.le (by decide), .of_le h.lf (by decide)⟩
theorem bn_val {n m : Nat} {F : Fm} {p : Pt} (h : Bn6 n F.a F.b F.c F.d F.e F.f) (g : Bn3 m p.x p.y p.z) : Bn (n + m + m + 5) (val F p) := by
  have k : ∀ {i j l : Int}, Bn n i → Bn m j → Bn m l → Bn (n + m + m) (i * j * l) := fun a b c => (a.mul b).mul c
  exact ((((((k h.a g.x g.x).add (k h.b g.y g.y)).add (k h.c g.z g.z)).add (k h.d g.y g.z)).add (k h.e g.x g.z)).add (k h.f g.x g.y)).mono (by omega)
theorem bn_both {n m : Nat} {F : Fm} {p q : Pt} (h : Bn6 n F.a F.b F.c F.d F.e F.f) (g : Bn3 m p.x p.y p.z) (g' : Bn3 m q.x q.y q.z) : Bn (n + m + m + 9) (both F p q) :=
  (((bn_val h (p := add p q) ((bn3_add g g').mono (n := m + 1) (by rw [Nat.max_self]; exact Nat.le_refl _))).sub (bn_val h g)).sub (bn_val h g')).mono (by omega)
def Ph_form_by : PhiD := fun ds mu Q => ∃ a b c d e f p q r s t u v w x, ds = [fmD a b c d e f, tbD p q r s t u v w x] ∧ Bn6 60000 a b c d e f ∧ Bt 60000 p q r s t u v w x ∧ Q (formBy ⟨a, b, c, d, e, f⟩ ⟨⟨p, q, r⟩, ⟨s, t, u⟩, ⟨v, w, x⟩⟩).D mu
theorem ok_form_by (A : Al K mg base T) : FnOk P w K mg base CX0 3 A.f_form_by A.fd_form_by ["form", "points"] (spD K T Ph_form_by) := by
  refine fn_d A.F_form_by sc_form_by ?len (fun cdv Ar outer s H E hr => (ssd_cons (sd_asg (ed_var 1 (pv 1)) (gd_tup (n := 3) rfl (gsd_cons (gd_name (i := 2) sc_form_by.nd rfl (.inl rfl)) (gsd_cons (gd_name (i := 3) sc_form_by.nd rfl (.inl rfl)) (gsd_cons (gd_name (i := 4) sc_form_by.nd rfl (.inl rfl)) gsd_nil)))))
    (ssd_cons (sd_setLc (i := 5) rfl sc_form_by.nd rfl rfl (sw_true rfl rfl rfl (by decide +kernel)) (id_tup (ed_var 1 (pv 1))) (blkOk_by (own := [("point", 6)]) (N := N_form_by) (sc := defScope s_form_by) (by decide +kernel)) (cg_name 6) (fun _ _ _ _ _ => (pg_name (i := 6) sc_form_by.nd rfl (.inl rfl))) (fun _ _ _ _ _ => pts_yes) (fun _ _ _ _ _ => (ed_call (ok_value_at A) (hr.mono (by decide)) rfl A.g_value_at A.F_value_at.kp A.b_value_at (ad_cons (ed_var 0 (pv 0)) (ad_cons (ed_var 6 (pv 6)) ad_nil)))))
    (ssd_one (sd_ret (ed_tup (ad_star (ed_var 5 (pv 5)) (ad_cons (ed_call (ok_both_at A) hr rfl A.g_both_at A.F_both_at.kp A.b_both_at (ad_cons (ed_var 0 (pv 0)) (ad_cons (ed_var 3 (pv 3)) (ad_cons (ed_var 4 (pv 4)) ad_nil)))) (ad_cons (ed_call (ok_both_at A) hr rfl A.g_both_at A.F_both_at.kp A.b_both_at (ad_cons (ed_var 0 (pv 0)) (ad_cons (ed_var 2 (pv 2)) (ad_cons (ed_var 4 (pv 4)) ad_nil)))) (ad_cons (ed_call (ok_both_at A) hr rfl A.g_both_at A.F_both_at.kp A.b_both_at (ad_cons (ed_var 0 (pv 0)) (ad_cons (ed_var 2 (pv 2)) (ad_cons (ed_var 3 (pv 3)) ad_nil)))) ad_nil)))))))))) ?rd
  · rintro ds mu Qd ⟨a, b, c, d, e, f, p, q, r, s, t, u, v, w, x, rfl, _⟩; rfl
  · rintro ds mu Qd ⟨a, b, c, d, e, f, p, q, r, s, t, u, v, w, x, rfl, bF, ⟨b1, b2, b3⟩, hq⟩
    refine put_e ?_; intro δ1 e; rw [st_form_by] at e; subst e
    repeat walk_at "st"
    refine lc_fix [.int (val ⟨a, b, c, d, e, f⟩ ⟨p, q, r⟩), .int (val ⟨a, b, c, d, e, f⟩ ⟨s, t, u⟩), .int (val ⟨a, b, c, d, e, f⟩ ⟨v, w, x⟩)] ?_ three rfl ?_
    · refine ⟨?_, ?_, ?_, trivial⟩
      · intro R N hR; repeat walk_at "st"
        exact ⟨_, _, _, _, _, _, _, _, _, rfl, bF.mono (by decide), b1.mono (by decide), hR⟩
      · intro R N hR; repeat walk_at "st"
        exact ⟨_, _, _, _, _, _, _, _, _, rfl, bF.mono (by decide), b2.mono (by decide), hR⟩
      · intro R N hR; repeat walk_at "st"
        exact ⟨_, _, _, _, _, _, _, _, _, rfl, bF.mono (by decide), b3.mono (by decide), hR⟩
    repeat walk_at "st"
    refine ⟨_, _, _, _, _, _, _, _, _, _, _, _, rfl, bF, b2, b3, ?_⟩
    repeat walk_at "st"
    refine ⟨_, _, _, _, _, _, _, _, _, _, _, _, rfl, bF, b1, b3, ?_⟩
    repeat walk_at "st"
    refine ⟨_, _, _, _, _, _, _, _, _, _, _, _, rfl, bF, b1, b2, ?_⟩
    refine ⟨(by decide : 6 ≤ sizeLine), ?_⟩
    exact end_ok rfl hq
def Ph_is_form : PhiD := fun ds mu Q => ∃ F : Fm, ds = [F.D] ∧ IsFm F ∧ Q (.bl true) mu
theorem absOk {i : Int} (h : i.natAbs ≤ 1000000) : decide ((if i < 0 then -i else i) ≤ 1000000) = true := decide_eq_true (by split <;> omega)
theorem ok_is_form (A : Al K mg base T) : FnOk P w K mg base CX0 2 A.f_is_form A.fd_is_form ["value"] (spD K T Ph_is_form) := by
  refine fn_d A.F_is_form sc_is_form ?len (fun cdv Ar outer s H E hr => (ssd_cons (sd_if (td_w (wd_or (td_not (td_val (ed_isi (.inr (.inr rfl)) rfl A.z_isinstance (by decide +kernel) (ed_var 0 (pv 0)) (pe_bltn rfl A.z_tuple (by decide +kernel) rfl)))) (wd_one (.inr rfl) (td_cmp op_ne od_ne (ed_callB rc_len call_len_seq (by rfl) A.z_len (by decide +kernel) (ad_cons (ed_var 0 (pv 0)) ad_nil)) (ed_c (v := .int 6) (d := .int 6) (pe_glob rfl A.m_ENTRIES ⟨_, rfl⟩) fun _ _ => .int _) (nomark _))))) (ssd_one (sd_ret ed_bl)) ssd_nil)
    (ssd_cons (sd_if (td_not (td_val (ed_callB rc_all (cr_all rfl) (by rfl) A.z_all (by decide +kernel) (ad_cons (ed_lc rfl sc_is_form.nd (id_tup (ed_var 0 (pv 0))) (blkOk_by (own := [("entry", 4)]) (N := N_is_form) (sc := defScope s_is_form) (by decide +kernel)) (cg_name 4) (fun _ _ _ _ _ => (pg_name (i := 4) sc_is_form.nd rfl (.inl rfl))) (fun _ _ _ _ _ => pts_yes) (fun _ _ _ _ _ => (ed_and (ed_call (ok_is_whole A) hr rfl A.g_is_whole A.F_is_whole.kp A.b_is_whole (ad_cons (ed_var 4 (pv 4)) ad_nil)) (ed_one (ed_cmp op_le od_B (ed_callB rc_abs call_abs (by rfl) A.z_abs (by decide +kernel) (ad_cons (ed_var 4 (pv 4)) ad_nil)) (ed_c (v := .int 1000000) (d := .int 1000000) (pe_glob rfl A.m_MAX_ENTRY ⟨_, rfl⟩) fun _ _ => .int _) (nomark _)))))) ad_nil)))) (ssd_one (sd_ret ed_bl)) ssd_nil)
    (ssd_cons (sd_par3 (ps_par3 (i := 1) (j := 2) (l := 3) rfl sc_is_form.nd rfl rfl rfl (by decide) (by decide) (by decide) rfl rfl rfl (ad_cons (ed_ix (ed_var 0 (pv 0)) ed_int (fun _ _ => rfl)) (ad_cons (ed_ix (ed_var 0 (pv 0)) ed_int (fun _ _ => rfl)) (ad_cons (ed_ix (ed_var 0 (pv 0)) ed_int (fun _ _ => rfl)) ad_nil))) (by rfl)))
    (ssd_one (sd_ret (ed_and (ed_cmp op_gt od_B (ed_var 1 (pv 1)) ed_int (nomark _)) (ed_and (ed_cmp op_gt od_B (ed_op op_mulW od_I (ed_op op_mulW od_I ed_int (ed_var 1 (pv 1))) (ed_var 2 (pv 2))) (ed_op op_mulW od_I (ed_var 3 (pv 3)) (ed_var 3 (pv 3))) (nomark _)) (ed_one (ed_cmp op_gt od_B (ed_call (ok_discriminant_of A) hr rfl A.g_discriminant_of A.F_discriminant_of.kp A.b_discriminant_of (ad_cons (ed_var 0 (pv 0)) ad_nil)) ed_int (nomark _))))))))))) ?rd
  · rintro ds mu Qd ⟨F, rfl, _⟩; rfl
  · rintro ds mu Qd ⟨F, rfl, hF, hq⟩
    refine put_e ?_; intro δ1 e; rw [st_is_form] at e; subst e
    repeat walk_at "st"
    refine lc_fix [.bl true, .bl true, .bl true, .bl true, .bl true, .bl true] ?_ (by decide : 6 ≤ sizeLine) rfl ?_
    · refine ⟨?_, ?_, ?_, ?_, ?_, ?_, trivial⟩
      · intro R N hR; repeat walk_at "st"
        exact (congrArg (fun b => R (.bl b) mu) (absOk hF.la)).mpr hR
      · intro R N hR; repeat walk_at "st"
        exact (congrArg (fun b => R (.bl b) mu) (absOk hF.lb)).mpr hR
      · intro R N hR; repeat walk_at "st"
        exact (congrArg (fun b => R (.bl b) mu) (absOk hF.lc)).mpr hR
      · intro R N hR; repeat walk_at "st"
        exact (congrArg (fun b => R (.bl b) mu) (absOk hF.ld)).mpr hR
      · intro R N hR; repeat walk_at "st"
        exact (congrArg (fun b => R (.bl b) mu) (absOk hF.le)).mpr hR
      · intro R N hR; repeat walk_at "st"
        exact (congrArg (fun b => R (.bl b) mu) (absOk hF.lf)).mpr hR
    refine ⟨[true, true, true, true, true, true], rfl, ?_⟩
    repeat walk_at "st"
    refine if_t (decide_eq_true hF.pa) ?_
    have ba := hF.bn.a
    have bb := hF.bn.b
    have bf := hF.bn.f
    repeat walk_at "st"
    refine if_t (decide_eq_true hF.pb) ?_
    repeat walk_at "st"
    refine ⟨_, _, _, _, _, _, rfl, hF.bn.mono (by decide), ?_⟩
    repeat walk_at "st"
    exact (congrArg (fun b => (endsD mu Qd).rt (.bl b) mu) (decide_eq_true hF.pc)).mpr (end_ok rfl hq)
end
end K77
end
section
namespace K77
open PySem PySem.Spec PyProof.Rows L2 DL
local macro_rules | `(tactic| walk_at "bn") => `(tactic| first
  | assumption
  | (apply Bn.add <;> walk_at "bn")
  | (apply Bn.sub <;> walk_at "bn")
  | (apply Bn.mul <;> walk_at "bn")
  | (apply Bn.neg; walk_at "bn")
  | exact Bn.lit (by decide))
local macro_rules | `(tactic| walk_at "cm") => `(tactic| (apply Bn.cmul; (focus walk_at "bn"); (focus walk_at "bn"); (focus decide)))
local macro_rules | `(tactic| walk_at "st") => `(tactic| first
  | (refine put_e ?_; intro δ1 e; simp only [List.set_cons_zero, List.set_cons_succ, wipeD, List.map_cons, List.map_nil] at e; subst e)
  | refine ⟨_, rfl, ?_⟩
  | (refine ⟨_, _, rfl, rfl, ?cm, ?_⟩; (case cm => walk_at "cm"))
  | refine ⟨_, _, rfl, rfl, ?_⟩
  | refine ⟨_, rfl, rfl, ?_⟩
  | refine ⟨_, _, rfl, ?_⟩
  | refine ⟨_, _, _, rfl, ?_⟩
  | refine ⟨_, _, .inl rfl, ?_⟩
  | refine ⟨_, .inl rfl, ?_⟩
  | refine ⟨_, .inr rfl, ?_⟩
  | refine ⟨rfl, ?_⟩
  | refine ⟨_, _, _, rfl, rfl, rfl, ?_⟩
  | refine if_t rfl ?_
  | refine if_f rfl ?_)
section
variable {P : Program} {w : World} {K : PySem.W.Frag} {mg : Str → Option Value} {base : Heap} {T : List (Addr × Str)}
theorem lcAll_of {st : D → D → Prop} {f : D → D} : ∀ {ds : List D}, (∀ x ∈ ds, st x (f x)) → lcAll st ds (ds.map f)
  | [], _ => trivial
  | d :: ds, h => ⟨h d List.mem_cons_self, lcAll_of fun x hx => h x (List.mem_cons_of_mem _ hx)⟩
def Ph_require_form : PhiD := fun ds mu Q => ∃ F : Fm, ds = [F.D] ∧ IsFm F ∧ Q .non mu
theorem ok_require_form (A : Al K mg base T) : FnOk P w K mg base CX0 3 A.f_require_form A.fd_require_form ["value"] (spD K T Ph_require_form) := by
  refine fn_d A.F_require_form sc_require_form ?len (fun cdv Ar outer s H E hr => (ssd_one (sd_if (td_not (td_val (ed_call (ok_is_form A) hr rfl A.g_is_form A.F_is_form.kp A.b_is_form (ad_cons (ed_var 0 (pv 0)) ad_nil)))) (ssd_one sd_never) ssd_nil))) ?rd
  · rintro ds mu Qd ⟨F, rfl, _⟩; rfl
  · rintro ds mu Qd ⟨F, rfl, hF, hq⟩
    refine put_e ?_; intro δ1 e; rw [st_require_form] at e; subst e
    repeat walk_at "st"
    refine ⟨hF, ?_⟩
    repeat walk_at "st"
    exact end_nx hq
def Ph_require_small_forms : PhiD := fun ds mu Q => ∃ F G : Fm, ds = [F.D, G.D] ∧ IsFm F ∧ IsFm G ∧ disc F ≤ 1000000 ∧ disc G ≤ 1000000 ∧ Q .non mu
theorem ok_require_small_forms (A : Al K mg base T) : FnOk P w K mg base CX0 4 A.f_require_small_forms A.fd_require_small_forms ["one", "other"] (spD K T Ph_require_small_forms) := by
  refine fn_d A.F_require_small_forms sc_require_small_forms ?len (fun cdv Ar outer s H E hr => (ssd_cons (sd_expr (ed_call (ok_require_form A) hr rfl A.g_require_form A.F_require_form.kp A.b_require_form (ad_cons (ed_var 0 (pv 0)) ad_nil)))
    (ssd_cons (sd_expr (ed_call (ok_require_form A) hr rfl A.g_require_form A.F_require_form.kp A.b_require_form (ad_cons (ed_var 1 (pv 1)) ad_nil)))
    (ssd_one (sd_if (td_w (wd_or (td_cmp op_gt od_B (ed_call (ok_discriminant_of A) (hr.mono (by decide)) rfl A.g_discriminant_of A.F_discriminant_of.kp A.b_discriminant_of (ad_cons (ed_var 0 (pv 0)) ad_nil)) (ed_c (v := .int 1000000) (d := .int 1000000) (pe_glob rfl A.m_MAX_ENTRY ⟨_, rfl⟩) fun _ _ => .int _) (nomark _)) (wd_one (.inr rfl) (td_cmp op_gt od_B (ed_call (ok_discriminant_of A) (hr.mono (by decide)) rfl A.g_discriminant_of A.F_discriminant_of.kp A.b_discriminant_of (ad_cons (ed_var 1 (pv 1)) ad_nil)) (ed_c (v := .int 1000000) (d := .int 1000000) (pe_glob rfl A.m_MAX_ENTRY ⟨_, rfl⟩) fun _ _ => .int _) (nomark _))))) (ssd_one sd_never) ssd_nil))))) ?rd
  · rintro ds mu Qd ⟨F, G, rfl, _⟩; rfl
  · rintro ds mu Qd ⟨F, G, rfl, hF, hG, lF, lG, hq⟩
    refine put_e ?_; intro δ1 e; rw [st_require_small_forms] at e; subst e
    repeat walk_at "st"
    refine ⟨hF, ?_⟩
    repeat walk_at "st"
    refine ⟨hG, ?_⟩
    repeat walk_at "st"
    refine ⟨_, _, _, _, _, _, rfl, hF.bn.mono (by decide), ?_⟩
    repeat walk_at "st"
    refine if_f (decide_eq_false (Int.not_lt.mpr lF)) ?_
    repeat walk_at "st"
    refine ⟨_, _, _, _, _, _, rfl, hG.bn.mono (by decide), ?_⟩
    repeat walk_at "st"
    refine if_f (decide_eq_false (Int.not_lt.mpr lG)) ?_
    exact end_nx hq
/-! ### what is a table -/
def isRow : D → Bool
  | .tup [x, y, z] => isW x && (isW y && isW z)
  | _ => false
def isTb : D → Bool
  | .tup [x, y, z] => isRow x && (isRow y && isRow z)
  | _ => false
/-- all parts, down to the entries, are told -/
def toldA : D → Bool
  | .tup es => es.all told
  | d => told d
def toldT : D → Bool
  | .tup es => es.all toldA
  | d => told d
theorem told_of {d : D} (h : toldA d = true) : told d = true := by
  cases d <;> first | rfl | exact h
def Ph_is_table : PhiD := fun ds mu Q => ∃ d, ds = [d] ∧ toldT d = true ∧ Q (.bl (isTb d)) mu
theorem notup {d : D} (h : told d = true) (n : ∀ es, d ≠ .tup es) : isiD "tuple" d = some false := by
  cases d with
  | tup es => exact absurd rfl (n es)
  | scr _ => cases h
  | box _ => cases h
  | _ => rfl
theorem is_tup (d : D) : (∃ es, d = .tup es) ∨ ∀ es, d ≠ .tup es := by
  cases d with
  | tup es => exact .inl ⟨es, rfl⟩
  | _ => exact .inr fun es z => nomatch z
theorem len3 (es : List D) : (∃ x y z, es = [x, y, z]) ∨ es.length ≠ 3 := by
  rcases es with _ | ⟨x, _ | ⟨y, _ | ⟨z, _ | ⟨w, es⟩⟩⟩⟩
  · exact .inr (by decide)
  · exact .inr (by simp)
  · exact .inr (by simp)
  · exact .inl ⟨x, y, z, rfl⟩
  · exact .inr (by simp)
theorem ne3 {es : List D} (h : es.length ≠ 3) : eqScal (.int (es.length : Int)) (.int 3) = false := decide_eq_false (by omega)
theorem row_no {d : D} (h : ∀ x y z, d ≠ .tup [x, y, z]) : isRow d = false := by
  cases d with
  | tup es =>
    rcases len3 es with ⟨x, y, z, rfl⟩ | hn
    · exact absurd rfl (h x y z)
    · rcases es with _ | ⟨x, _ | ⟨y, _ | ⟨z, _ | ⟨w, es⟩⟩⟩⟩ <;> first | rfl | exact absurd rfl hn
  | _ => rfl
theorem tb_no {d : D} (h : ∀ x y z, d ≠ .tup [x, y, z]) : isTb d = false := by
  cases d with
  | tup es =>
    rcases len3 es with ⟨x, y, z, rfl⟩ | hn
    · exact absurd rfl (h x y z)
    · rcases es with _ | ⟨x, _ | ⟨y, _ | ⟨z, _ | ⟨w, es⟩⟩⟩⟩ <;> first | rfl | exact absurd rfl hn
  | _ => rfl
theorem ok_is_table (A : Al K mg base T) : FnOk P w K mg base CX0 2 A.f_is_table A.fd_is_table ["value"] (spD K T Ph_is_table) := by
  refine fn_d A.F_is_table sc_is_table ?len (fun cdv Ar outer s H E hr => (ssd_cons (sd_if (td_w (wd_or (td_not (td_val (ed_isi (.inr (.inr rfl)) rfl A.z_isinstance (by decide +kernel) (ed_var 0 (pv 0)) (pe_bltn rfl A.z_tuple (by decide +kernel) rfl)))) (wd_one (.inr rfl) (td_cmp op_ne od_ne (ed_callB rc_len call_len_seq (by rfl) A.z_len (by decide +kernel) (ad_cons (ed_var 0 (pv 0)) ad_nil)) (ed_c (v := .int 3) (d := .int 3) (pe_glob rfl A.m_ROWS ⟨_, rfl⟩) fun _ _ => .int _) (nomark _))))) (ssd_one (sd_ret ed_bl)) ssd_nil)
    (ssd_one (sd_ret (ed_callB rc_all (cr_all rfl) (by rfl) A.z_all (by decide +kernel) (ad_cons (ed_lc rfl sc_is_table.nd (id_tup (ed_var 0 (pv 0))) (blkOk_by (own := [("row", 1)]) (N := N_is_table) (sc := defScope s_is_table) (by decide +kernel)) (cg_name 1) (fun _ _ _ _ _ => (pg_name (i := 1) sc_is_table.nd rfl (.inl rfl))) (fun _ _ _ _ _ => pts_yes) (fun _ _ _ _ _ => (ed_and (ed_isi (.inr (.inr rfl)) rfl A.z_isinstance (by decide +kernel) (ed_var 1 (pv 1)) (pe_bltn rfl A.z_tuple (by decide +kernel) rfl)) (ed_and (ed_cmp op_eq od_eq (ed_callB rc_len call_len_seq (by rfl) A.z_len (by decide +kernel) (ad_cons (ed_var 1 (pv 1)) ad_nil)) (ed_c (v := .int 3) (d := .int 3) (pe_glob rfl A.m_ROWS ⟨_, rfl⟩) fun _ _ => .int _) (nomark _)) (ed_one (ed_callB rc_all (cr_all rfl) (by rfl) A.z_all (by decide +kernel) (ad_cons (ed_lc rfl sc_is_table.nd (id_tup (ed_var 1 (pv 1))) (blkOk_in (own := [("one", 2)]) (N := N_is_table) rfl (sc0 := defScope s_is_table) rfl (by decide +kernel)) (cg_name 2) (fun _ _ _ _ _ => (pg_name (i := 2) sc_is_table.nd rfl (.inl rfl))) (fun _ _ _ _ _ => pts_yes) (fun _ _ _ _ _ => (ed_call (ok_is_whole A) hr rfl A.g_is_whole A.F_is_whole.kp A.b_is_whole (ad_cons (ed_var 2 (pv 2)) ad_nil)))) ad_nil))))))) ad_nil)))))) ?rd
  · rintro ds mu Qd ⟨d, rfl, _⟩; rfl
  · rintro ds mu Qd ⟨d, rfl, hd, hq⟩
    refine put_e ?_; intro δ1 e; rw [st_is_table] at e; subst e
    rcases is_tup d with ⟨es, rfl⟩ | hn
    · repeat walk_at "st"
      rcases len3 es with ⟨x, y, z, rfl⟩ | hl
      · repeat walk_at "st"
        refine lc_fix ([x, y, z].map fun r => .bl (isRow r)) (lcAll_of fun r hr R N hR => ?_) three rfl ?_
        · have tr : toldA r = true := List.all_eq_true.mp hd r hr
          repeat walk_at "st"
          rcases is_tup r with ⟨fs, rfl⟩ | hn
          · repeat walk_at "st"
            rcases len3 fs with ⟨u, v, w', rfl⟩ | hl
            · refine if_t rfl ?_
              repeat walk_at "st"
              refine lc_fix ([u, v, w'].map fun r => .bl (isW r)) (lcAll_of fun r hr2 R N hR => ?_) three rfl ?_
              · have tr2 : told r = true := List.all_eq_true.mp tr r hr2
                repeat walk_at "st"
                exact ⟨tr2, hR⟩
              refine ⟨[isW u, isW v, isW w'], rfl, ?_⟩
              exact (congrArg (fun b => R (.bl b) mu) (show [isW u, isW v, isW w'].all id = isRow (.tup [u, v, w']) by simp [isRow])).mpr hR
            · rw [row_no fun x y z e => hl (by cases e; rfl)] at hR
              refine if_f (ne3 hl) ?_
              exact hR
          · rw [row_no fun x y z => hn _] at hR
            refine ⟨false, notup (told_of tr) hn, ?_⟩
            repeat walk_at "st"
            exact hR
        refine ⟨[isRow x, isRow y, isRow z], rfl, ?_⟩
        exact (congrArg (fun b => (endsD mu Qd).rt (.bl b) mu) (show [isRow x, isRow y, isRow z].all id = isTb (.tup [x, y, z]) by simp [isTb])).mpr (end_ok rfl hq)
      · rw [tb_no fun x y z e => hl (by cases e; rfl)] at hq
        refine if_t (by rw [ne3 hl]; rfl) ?_
        exact end_ok rfl hq
    · rw [tb_no fun x y z => hn _] at hq
      refine ⟨d, rfl, false, notup ?_ hn, ?_⟩
      · cases d <;> first | rfl | exact hd | exact absurd rfl (hn _)
      repeat walk_at "st"
      exact end_ok rfl hq
end
end K77
end
section
/-! value_at, run by the very states: nothing but new objects -/
namespace K77
open PySem PySem.Spec PyProof.Rows L2 DL
section
variable {M : Model} {prog : Program} {w : World} {A : Around} {s₀ : Shared} {L a : Addr} {m : Str → Option Value} {fd : FuncData}
def EvI (prog : Program) (w : World) (A : Around) (s₀ : Shared) (L : Addr) (m : Str → Option Value) (env : Env) (e : Expr) (i : Int) : Prop :=
  ∀ (s : Shared) (Q : Value → Shared → Prop) (E : Value → Shared → Prop), InCall s₀ L m s → (∀ t s', InCall s₀ L m s' → Q (.int i t) s') → wpAny (model prog w) A (eval e env) Q E s
theorem evi_name {n : Str} {pos : Pos} {i : Int} {t : Tok} (hk : fd.scope.kind = .function) (hl : (callEnv fd L a).kindOf n = some .local) (hv : m n = some (.int i t)) (hd : (n == ("__debug__" : Str)) = false := by decide) : EvI prog w A s₀ L m (callEnv fd L a) (.Name n pos) i :=
  fun s Q E x h => ldI x hk hl hv (h t s x) hd
theorem evi_mul {env : Env} {l r : Expr} {pos : Pos} {i j : Int} (hl : EvI prog w A s₀ L m env l i) (hr : EvI prog w A s₀ L m env r j) (hc : CMulW i j) : EvI prog w A s₀ L m env (.BinOp l .Mult r pos) (i * j) :=
  fun s Q E x h => wpAny_BinOp (hl s _ E x fun t1 s1 x1 => hr s1 _ E x1 fun t2 s2 x2 => mul_int (h _ _ (x2.tok _)) hc.ok)
theorem evi_add {env : Env} {l r : Expr} {pos : Pos} {i j : Int} (hl : EvI prog w A s₀ L m env l i) (hr : EvI prog w A s₀ L m env r j) : EvI prog w A s₀ L m env (.BinOp l .Add r pos) (i + j) :=
  fun s Q E x h => wpAny_BinOp (hl s _ E x fun t1 s1 x1 => hr s1 _ E x1 fun t2 s2 x2 => add_int (h _ _ (x2.tok _)))
theorem incall_keep {s : Shared} {h' : Heap} (x : InCall s₀ L m s) (k : ∀ b o, s.heap.get? b = some o → h'.get? b = some o) : InCall s₀ L m { s with heap := h' } := by
  obtain ⟨⟨h, tk, rfl⟩, ns, kp, fr⟩ := x
  exact ⟨⟨h', tk, rfl⟩, ns.at' fun o e => k L o e, fun b o e => k b o (kp b o e), fr⟩
end
theorem va_exact {P : Program} {w : World} {K : PySem.W.Frag} {f p q : Addr} {fd : FuncData} {A : Around} {s : Shared} {a b c d e g x y z : Int} {ta tb tc td te tg tx ty tz : Tok}
    (F : Fun K "value_at" "value_at" s_value_at f fd) (hroom : A.depth < recursionLimit) (hh : A.handled = none) (hK : K.In s.heap) (hlim : s.heap.NoLimit)
    (hp : IsTup s.heap p #[.int a ta, .int b tb, .int c tc, .int d td, .int e te, .int g tg]) (hq : IsTup s.heap q #[.int x tx, .int y ty, .int z tz]) (bF : Bn6 64000 a b c d e g) (bP : Bn3 64000 x y z) {R : Result → Shared → Prop}
    (hR : ∀ t h' tk, (∀ b o, s.heap.get? b = some o → h'.get? b = some o) → R (.ok (.ret (.int (val ⟨a, b, c, d, e, g⟩ ⟨x, y, z⟩) t))) { s with heap := h', toks := tk }) :
    codeAny (model P w) A (.call (.ref f) ⟨[.ref p, .ref q], []⟩) R s := by
  obtain ⟨oc, od, kV, doc, pm, an, cdv, ct, osl, rfl, lk, hcd⟩ := F.ex
  refine codeAny_call_straight (body := defBody s_value_at) (binds := [("form", .ref p), ("point", .ref q)]) hroom (hK _ _ lk) rfl hlim (PySem.W.codeRec_of hK hcd) rfl rfl (show ∀ y ∈ (defScope s_value_at).names, y.2 ≠ .cell by decide +kernel) (fun y hy => ?_) fun s1 x1 => ?_
  · show (defScope s_value_at).names.lookup y.1 = some .local
    rcases List.mem_cons.mp hy with z | z
    · rw [z]; exact (show (defScope s_value_at).names.lookup ("form" : Str) = some NameKind.local by decide +kernel)
    · rw [List.mem_singleton.mp z]; exact (show (defScope s_value_at).names.lookup ("point" : Str) = some NameKind.local by decide +kernel)
  have tk : ∀ {r : Addr} {xs : Array Value} {t : Shared} {m : Str → Option Value}, IsTup s.heap r xs → InCall s s.heap.objs.size m t → IsTup t.heap r xs := fun ⟨o, e, k⟩ x => ⟨o, x.keep _ _ e, k⟩
  have up : ∀ {t : Shared} {h' : Heap} {m : Str → Option Value}, InCall s s.heap.objs.size m t → Heap.ExtBut t.heap.objs.size t.heap h' → InCall s s.heap.objs.size m { t with heap := h' } := fun x e => incall_keep x fun b o q => e b o (Nat.ne_of_lt (Heap.lt_size q)) q
  refine wpAny_execs_cons ?_
  refine wpAny_Assign_stores (ldI x1 rfl rfl (v := .ref p) rfl ?_ (by decide)) rfl rfl
  show wpAny _ _ (assign _ _ (.ref p)) _ _ s1
  refine assign_Tuple_tuple hh (tk hp x1) rfl rfl fun h2 e2 => ?_
  have x2 := up x1 e2
  refine assignInOrder_cons (wpAny_assign_Name (stI x2 rfl rfl fun _ x3 => ?_))
  refine assignInOrder_cons (wpAny_assign_Name (stI x3 rfl rfl fun _ x4 => ?_))
  refine assignInOrder_cons (wpAny_assign_Name (stI x4 rfl rfl fun _ x5 => ?_))
  refine assignInOrder_cons (wpAny_assign_Name (stI x5 rfl rfl fun _ x6 => ?_))
  refine assignInOrder_cons (wpAny_assign_Name (stI x6 rfl rfl fun _ x7 => ?_))
  refine assignInOrder_cons (wpAny_assign_Name (stI x7 rfl rfl fun s8 x8 => ?_))
  refine assignInOrder_nil ?_
  refine wpAny_execs_cons ?_
  refine wpAny_Assign_stores (ldI x8 rfl rfl (v := .ref q) rfl ?_ (by decide)) rfl rfl
  show wpAny _ _ (assign _ _ (.ref q)) _ _ s8
  refine assign_Tuple_tuple hh (tk hq x8) rfl rfl fun h9 e9 => ?_
  have x9 := up x8 e9
  refine assignInOrder_cons (wpAny_assign_Name (stI x9 rfl rfl fun _ y1 => ?_))
  refine assignInOrder_cons (wpAny_assign_Name (stI y1 rfl rfl fun _ y2 => ?_))
  refine assignInOrder_cons (wpAny_assign_Name (stI y2 rfl rfl fun s10 y3 => ?_))
  refine assignInOrder_nil ?_
  refine wpAny_execs_cons ?_
  refine wpAny_Return_some ?_
  obtain ⟨ba, bb, bc, bd, be, bg⟩ := bF
  obtain ⟨bx, by_, bz⟩ := bP
  refine (evi_add (evi_add (evi_add (evi_add (evi_add
    (evi_mul (i := a * x) (j := x) (evi_mul (i := a) (j := x) (evi_name rfl rfl rfl) (evi_name rfl rfl rfl) (Bn.cmul ba bx (by decide))) (evi_name rfl rfl rfl) (Bn.cmul (ba.mul bx) bx (by decide)))
    (evi_mul (i := b * y) (j := y) (evi_mul (i := b) (j := y) (evi_name rfl rfl rfl) (evi_name rfl rfl rfl) (Bn.cmul bb by_ (by decide))) (evi_name rfl rfl rfl) (Bn.cmul (bb.mul by_) by_ (by decide))))
    (evi_mul (i := c * z) (j := z) (evi_mul (i := c) (j := z) (evi_name rfl rfl rfl) (evi_name rfl rfl rfl) (Bn.cmul bc bz (by decide))) (evi_name rfl rfl rfl) (Bn.cmul (bc.mul bz) bz (by decide))))
    (evi_mul (i := d * y) (j := z) (evi_mul (i := d) (j := y) (evi_name rfl rfl rfl) (evi_name rfl rfl rfl) (Bn.cmul bd by_ (by decide))) (evi_name rfl rfl rfl) (Bn.cmul (bd.mul by_) bz (by decide))))
    (evi_mul (i := e * x) (j := z) (evi_mul (i := e) (j := x) (evi_name rfl rfl rfl) (evi_name rfl rfl rfl) (Bn.cmul be bx (by decide))) (evi_name rfl rfl rfl) (Bn.cmul (be.mul bx) bz (by decide))))
    (evi_mul (i := g * x) (j := y) (evi_mul (i := g) (j := x) (evi_name rfl rfl rfl) (evi_name rfl rfl rfl) (Bn.cmul bg bx (by decide))) (evi_name rfl rfl rfl) (Bn.cmul (bg.mul bx) by_ (by decide)))) s10 _ _ y3 fun t s' x' => ?_
  obtain ⟨h', tk', rfl, kp⟩ := x'.done
  exact hR t h' tk' kp
end K77
end
section
/-! DL: one stretch of a generator, up to where it hands out or ends; the statements' steps in it. -/
namespace DL
open PySem PySem.Spec PyProof.Rows L2 GenW
abbrev SusP := Value → Shared → Code → (Resume → Sem PySem.Fin) → List Frame → Prop
def SgEnd (R : Result → Shared → Prop) (Y : SusP) (e : End) (s' : Shared) : Prop :=
  match e with
  | .ret r => R r s'
  | .susp v g l k c p fs => (End.susp v g l k c p fs).quiet = true ∧ Y v s' c k fs
/-- code c with t left to do under the frames fs, from s -/
def Sg (M : Model) (A : Around) (R : Result → Shared → Prop) (Y : SusP) (c : Code) (t : Sem PySem.Fin) (fs : List Frame) (s : Shared) : Prop :=
  ∀ Γ p, Γ.code = c → Γ.Woken A → ∃ e s', Runs M Γ p t fs s e s' ∧ SgEnd R Y e s'
section
variable {M : Model} {A : Around} {R : Result → Shared → Prop} {Y : SusP} {c : Code} {fs : List Frame} {s : Shared}
theorem sg_wrap {α : Type} {m : Sem α} {K : α → Sem PySem.Fin} {J : Value → Sem PySem.Fin} {gd lv}
    (h : wpAny M (A.over c fs) m (fun a s' => Sg M A R Y c (K a) fs s') (fun x s' => Sg M A R Y c (J x) fs s') s) : Sg M A R Y c (m.wrap K J gd lv) fs s := by
  rintro Γ p rfl hΓ
  exact runs_wrap_of_wp K J gd lv m (h (Γ.over fs) p (hΓ.over fs)) (fun a p' s' h' => h' Γ p' rfl hΓ) fun x p' s' h' => h' Γ p' rfl hΓ
theorem sg_bind {α : Type} {m : Sem α} {K : α → Sem PySem.Fin}
    (h : wpAny M (A.over c fs) m (fun a s' => Sg M A R Y c (K a) fs s') (fun x s' => Sg M A R Y c (.raise x) fs s') s) : Sg M A R Y c (m >>= K) fs s := by
  rw [Sem.bind_eq_wrap']; exact sg_wrap h
theorem sg_bindw {α β : Type} {m : Sem α} {K : α → Sem β} {K' : β → Sem PySem.Fin} {J : Value → Sem PySem.Fin} {gd lv}
    (h : wpAny M (A.over c fs) m (fun a s' => Sg M A R Y c ((K a).wrap K' J gd lv) fs s') (fun x s' => Sg M A R Y c (J x) fs s') s) : Sg M A R Y c ((m >>= K).wrap K' J gd lv) fs s := by
  rw [Sem.bind_eq_wrap', Sem.wrap_wrap]; exact sg_wrap h
theorem sg_at {p' : Pos} {k : Unit → Sem PySem.Fin} (h : Sg M A R Y c (k ()) fs s) : Sg M A R Y c (.at p' k) fs s :=
  sg_wrap (m := standAt p') (K := k) (J := .raise) (gd := id) (lv := id) (wpAny_standAt h)
theorem sg_point {l : List Value} {k : Unit → Sem PySem.Fin} (h : Sg M A R Y c (k ()) fs s) : Sg M A R Y c (.point l k) fs s :=
  sg_wrap (m := point) (K := k) (J := .raise) (gd := id) (lv := fun _ => l) (wpAny_point h)
theorem sg_call {c' : Code} {h g l} {k : Result → Sem PySem.Fin} (hc : ∀ p, Sg M A R Y c' (M.den c') (.ret k h g l c p [] :: fs) s) : Sg M A R Y c (.call c' h g l k) fs s := by
  rintro Γ p rfl hΓ
  obtain ⟨e, s', hr, he⟩ := hc p (Γ.goto c') p rfl (hΓ.goto c')
  exact ⟨e, s', runs_call_seg hr, he⟩
theorem sg_leaf {k h g l c₁ p₁ kp} (r : Result) (hk : Sg M A R Y c₁ (k r) fs s) : Sg M A R Y c (leafOf r) (.ret k h g l c₁ p₁ kp :: fs) s := by
  rintro Γ p rfl hΓ
  obtain ⟨e, s', hr, he⟩ := hk (Γ.goto c₁) p₁ rfl (hΓ.goto c₁)
  exact ⟨e, s', Runs.pop r hr, he⟩
theorem sg_again {c' : Code} (hq : c'.quiet = true) (hc : Sg M A R Y c' (M.den c') fs s) : Sg M A R Y c (.pure (.again c')) fs s := by
  rintro Γ p rfl hΓ
  obtain ⟨e, s', hr, he⟩ := hc (Γ.goto c') p rfl (hΓ.goto c')
  exact ⟨e, s', Runs.head (c₁ := c') (fun _ _ x => .again hq x) hr, he⟩
theorem sg_end (r : Result) (h : R r s) : Sg M A R Y c (leafOf r) [] s := by
  rintro Γ p rfl _
  exact ⟨.ret r, s, Runs.leaf r, h⟩
theorem sg_yield {v g l} {k : Resume → Sem PySem.Fin} (hfs : splitAtGen fs = none) (hg : g = false) (hfg : fs.any Frame.guarded = false) (h : Y v s c k fs) : Sg M A R Y c (.yield v g l k) fs s := by
  rintro Γ p rfl _
  exact ⟨_, s, Runs.yield' fs hfs, And.intro (by simp [End.quiet, hg, hfg]) h⟩
end
/-- a generator, as it stands, woken by r -/
def SgGoes (M : Model) (A : Around) (R : Result → Shared → Prop) (Y : SusP) (gs : GenState) (r : Resume) (s : Shared) : Prop :=
  match gs with
  | .fresh c => r = .send .none ∧ Sg M A R Y c (M.den c) [] s
  | .suspended k _ c _ fs _ => Sg M A R Y c (k r) fs s
  | _ => False
section
variable {M : Model}
theorem sg_resume {A : Around} {R : Result → Shared → Prop} {Y : SusP} {E : Value → Shared → Prop} {s : Shared} {g : Nat} {gs : GenState}
    {r : Resume} {l : List Value} {α : Type} {k : GenResult → Sem α} {Q : α → Shared → Prop} (hg : s.gens[g]? = some gs)
    (hgo : SgGoes M A R Y gs r (s.setGen g .running))
    (hR : ∀ x s₁, R x s₁ → wpAny M A (k (End.ret x).result) Q E (s₁.setGen g .finished))
    (hY : ∀ v s₁ gs', gs'.bare = true → (∃ k' l' c' p' fs' cl, gs' = .suspended k' l' c' p' fs' cl ∧ Y v s₁ c' k' fs') → wpAny M A (k (.yielded v)) Q E (s₁.setGen g gs')) :
    wpAny M A (.resume g r l k) Q E s := by
  intro Γ p hΓ
  rw [Sem.wp_resume]
  have hB : ∀ c, (Γ.wake c p).Woken A := fun c => hΓ.wake c p
  have fin : ∀ e₁ s₁, SgEnd R Y e₁ s₁ → Sem.wp M Γ (k e₁.result) (fun a _ s' => Q a s') (fun e _ s' => E e s') p (s₁.setGen g e₁.genState) := by
    intro e₁ s₁ he
    cases e₁ with
    | ret x => exact hR x s₁ he Γ p hΓ
    | susp v g₀ l₀ k₀ c₀ p₀ fs₀ => exact hY v s₁ _ (End.bare_of_quiet he.1) ⟨_, _, _, _, _, _, rfl, he.2⟩ Γ p hΓ
  have hqt : ∀ e₁ s₁, SgEnd R Y e₁ s₁ → e₁.quiet = true := by
    intro e₁ s₁ he
    cases e₁ with
    | ret x => rfl
    | susp v g₀ l₀ k₀ c₀ p₀ fs₀ => exact he.1
  cases gs with
  | fresh c =>
    obtain ⟨rfl, hs⟩ := hgo
    obtain ⟨e₁, s₁, hr, he⟩ := hs (Γ.wake c p) p rfl (hB c)
    exact ⟨_, _, by unfold Wakes; rw [hg]; exact ⟨e₁, s₁, hr, hqt e₁ s₁ he, rfl, rfl⟩, fin e₁ s₁ he⟩
  | suspended k₀ l₀ c₀ p₀ fs₀ cl =>
    obtain ⟨e₁, s₁, hr, he⟩ := hgo (Γ.wake c₀ p) p₀ rfl (hB c₀)
    exact ⟨_, _, by unfold Wakes; rw [hg]; exact ⟨e₁, s₁, hr, hqt e₁ s₁ he, rfl, rfl⟩, fin e₁ s₁ he⟩
  | running => exact hgo.elim
  | finished => exact hgo.elim
end
section
variable {P : Program} {w : World} {A : Around} {E : Value → Shared → Prop} {s : Shared}
/-- the next item of a generator that raises nothing -/
theorem sg_next {a : Addr} {g : Nat} {gs : GenState} {F : Shared → Prop} {Y : SusP} {Q : Option Value → Shared → Prop} (hh : A.handled = none)
    (hl : s.heap.NoLimit) (hroom : A.depth < recursionLimit) (hg : s.heap.IsGen a g) (hgs : s.gens[g]? = some gs)
    (hgo : SgGoes (model P w) A.in1 (fun r s₁ => (r = .ok (.ret .none) ∨ r = .ok .next) ∧ F s₁) Y gs (.send .none) (s.setGen g .running))
    (hY : ∀ v s₁ gs', gs'.bare = true → (∃ k' l' c' p' fs' cl, gs' = .suspended k' l' c' p' fs' cl ∧ Y v s₁ c' k' fs') → Q (some v) (s₁.setGen g gs'))
    (hP : ∀ s₁, F s₁ → ∀ h', (∀ b o, s₁.heap.get? b = some o → h'.get? b = some o) → Q none { s₁.setGen g .finished with heap := h' }) :
    wpAny (model P w) A (pyNext (.ref a)) Q E s := by
  unfold pyNext
  refine wpAny_bind (wpAny_attempt (wpAny_callSpecial?_slot (name := Str.ofString "__next__") hg.typeIs slot_gen_next
    (wpAny_call_entry slot_gen_next hg.typeIs entry_gen_next ?_ (args_gen_next _))))
  show wpAny _ A.in1 (Builtin.Generator.genWake (.ref a) (.send .none)) _ _ s
  unfold Builtin.Generator.genWake
  refine wpAny_bind (wpAny_holding (wpAny_genNumber hg (wpAny_bind (wpAny_genState hgs ?_))))
  cases gs with
  | running => exact hgo.elim
  | finished => exact hgo.elim
  | _ =>
    refine wpAny_bind (wpAny_roomToWake hl hroom ?_)
    show wpAny _ A.in1 (.resume g (.send .none) [] _) _ _ s
    refine sg_resume hgs hgo (fun x s₁ hx => ?_) (fun v s₁ gs' hb hv => ?_)
    · obtain ⟨hr, hp⟩ := hx
      have hres : End.result (.ret x) = .returned .none := by
        rcases hr with hr | hr <;> rw [hr] <;> rfl
      first | rw [hres] | simp only [hres]
      show wpAny _ A.in1 (newExc (.type "StopIteration") [] >>= _) _ _ _
      refine wpAny_bind ?_
      simp only [newExc, newTuple]
      refine wpAny_bind (wpAny_newObj_type ?_ (by size_fits))
      refine wpAny_bind (m := firstArgMember _ _) (wpAny_of_eq (a := Value.none) (by first | rfl | (simp only [firstArgMember]; rfl)) ?_)
      refine wpAny_newObj_type ?_ (by size_fits)
      simp only [raiseNew]
      refine wpAny_bind (wpAny_bind (wpAny_handled ?_))
      first | rw [show A.in1.handled = none from hh] | rw [hh]
      refine wpAny_throw ?_
      refine wpAny_bind (wpAny_isInstance (T := "StopIteration") (b := true) ⟨_, Heap.get?_push_size _ rfl, rfl⟩ isSubtype_stop ?_)
      exact wpAny_pure (hP s₁ hp _ fun b o hb => Heap.get?_push_of_some _ (Heap.get?_push_of_some _ hb))
    · exact wpAny_pure ⟨v, rfl, wpAny_pure (hY v s₁ gs' hb hv)⟩
end
/-! ### statements -/
section
variable {M : Model} {A : Around} {R : Result → Shared → Prop} {Y : SusP} {c : Code} {fs : List Frame} {s : Shared} {env : Env} {K : Flow → Sem PySem.Fin} {J : Value → Sem PySem.Fin} {gd : Bool → Bool} {lv : List Value → List Value}
theorem sg_execs_nil (h : Sg M A R Y c (K .next) fs s) : Sg M A R Y c ((execs [] env).wrap K J gd lv) fs s := h
theorem sg_execs_cons {st : Stmt} {rest : List Stmt} (h : Sg M A R Y c ((exec st env).wrap (fun f => match f with | .next => (execs rest env).wrap K J gd lv | f => K f) J gd lv) fs s) :
    Sg M A R Y c ((execs (st :: rest) env).wrap K J gd lv) fs s := by rw [execs_cons_wrap]; exact h
theorem sg_Yield {e : Expr} {ypos pos : Pos} (hfs : splitAtGen fs = none) (hgd : gd false = false) (hfg : fs.any Frame.guarded = false)
    (h : wpAny M (A.over c fs) (eval e env) (fun v s' => ∀ k : Resume → Sem PySem.Fin, (∀ R' Y' s'', Sg M A R' Y' c (K .next) fs s'' → Sg M A R' Y' c (k (.send .none)) fs s'') → Y v s' c k fs) (fun x s' => Sg M A R Y c (J x) fs s') s)
    (hco : env.scope.isCoroutine = false := by rfl) (hi : interactive env = false := by rfl) : Sg M A R Y c ((exec (.Expr (.Yield (some e) ypos) pos) env).wrap K J gd lv) fs s := by
  rw [exec_Expr env _ pos hi rfl]
  show Sg M A R Y c (.at pos fun _ => ((eval e env >>= fun v => (standAt ypos >>= fun _ => yieldOut env v)) >>= fun x => dropValue (.Yield (some e) ypos) pos x).wrap K J gd lv) fs s
  have hy : ∀ v, yieldOut env v = yieldValue v := fun v => by simp only [yieldOut, hco, Bool.false_eq_true, if_false]
  simp only [hy]
  refine sg_at ?_
  rw [Sem.bind_eq_wrap', Sem.bind_eq_wrap', Sem.wrap_wrap, Sem.wrap_wrap]
  refine sg_wrap (wpAny_mono h (fun v s' h' => ?_) fun _ _ x => x)
  refine sg_at (sg_yield hfs hgd hfg (h' _ fun R' Y' s'' hx => ?_))
  exact hx
theorem sg_For {target iter : Expr} {body orelse : List Stmt} {pos : Pos}
    (h : wpAny M (A.over c fs) (eval iter env) (fun x s₁ => wpAny M (A.over c fs) (pyIter x) (fun it s₂ => ∀ p, Sg M A R Y (.forLoop target it body orelse env) (M.den (.forLoop target it body orelse env))
      (.ret (fun r => ((match r with | .ok f => (.pure f : Sem Flow) | .error e => .raise e).onRaise (cameBack env)).wrap K J gd lv) none (gd false) (lv []) c p [] :: fs) s₂) (fun x s' => Sg M A R Y c (J x) fs s') s₁) (fun x s' => Sg M A R Y c (J x) fs s') s)
    (hs : ∀ x, foldedSetIterable iter env x = Pure.pure x := by intro _; rfl) : Sg M A R Y c ((exec (.For target iter body orelse pos) env).wrap K J gd lv) fs s := by
  rw [exec_For]
  refine sg_bindw (wpAny_standAt ?_)
  refine sg_bindw (wpAny_mono h (fun x s₁ h₁ => ?_) fun _ _ x => x)
  refine sg_bindw (wpAny_of_eq (hs x) ?_)
  refine sg_bindw (wpAny_standAt ?_)
  refine sg_bindw (wpAny_holding (wpAny_mono h₁ (fun it s₂ h₂ => ?_) fun _ _ x => x))
  exact sg_call h₂
end
section
variable {prog : Program} {w : World} {A : Around} {R : Result → Shared → Prop} {Y : SusP} {fs : List Frame} {s : Shared} {env : Env}
/-- an exception leaves a loop's code -/
abbrev outJ (env : Env) (e : Value) : Sem PySem.Fin := (do noteFrame e env; theTreesLotGoes e : Sem Unit).wrap (fun _ => .raise e) .raise id id
theorem sg_forLoop {target : Expr} {it : Value} {body : List Stmt} {EE : Value → Shared → Prop}
    (hE : ∀ x s', EE x s' → Sg (model prog w) A R Y (.forLoop target it body [] env) (outJ env x) fs s')
    (h : wpAny (model prog w) (A.over (.forLoop target it body [] env) fs) (pyNext it) (fun r s₁ => match r with
      | none => Sg (model prog w) A R Y (.block [] env) (.pure (.done .next)) fs s₁
      | some v => wpAny (model prog w) (A.over (.forLoop target it body [] env) fs) (letOwnedTupleGo target it v) (fun _ s₂ => wpAny (model prog w) (A.over (.forLoop target it body [] env) fs) (assign target env v) (fun _ s₃ =>
          Sg (model prog w) A R Y (.forLoop target it body [] env) ((execs body env).wrap (fun f => match f with
            | .next | .cont => .pure (.again (.forLoop target it body [] env))
            | .brk => .pure (.done .next)
            | .ret v => .pure (.done (.ret v))) (outJ env) id id) fs s₃) EE s₂) EE s₁) EE s) :
    Sg (model prog w) A R Y (.forLoop target it body [] env) ((model prog w).den (.forLoop target it body [] env)) fs s := by
  show Sg _ A R Y _ ((forTurn target it body [] env).onRaise (fun x => do noteFrame x env; theTreesLotGoes x)) fs s
  have eJ : ∀ e, ((do noteFrame e env; theTreesLotGoes e : Sem Unit).bind fun _ => (.raise e : Sem PySem.Fin)) = outJ env e := fun e => Sem.bind_eq_wrap _ _
  unfold forTurn
  rw [Sem.onRaise_eq_wrap]
  refine sg_bindw (wpAny_standAt ?_)
  refine sg_bindw (wpAny_onRaise (wpAny_mono h (fun r s₁ h₁ => ?_) fun x s' hx => wpAny_standAt ?_))
  · cases r with
    | none =>
      show Sg _ A R Y _ (.pure (.again (.block [] env))) fs s₁
      exact sg_again rfl h₁
    | some v =>
      refine sg_bindw (wpAny_mono h₁ (fun _ s₂ h₂ => ?_) fun x s' hx => ?_)
      · refine sg_bindw (wpAny_mono h₂ (fun _ s₃ h₃ => ?_) fun x s' hx => ?_)
        · rw [Sem.bind_eq_wrap', Sem.wrap_wrap]
          rw [Sem.wrap_congr (execs body env) _ _ (H := fun e => (Sem.raise e : Sem PySem.Fin).wrap .pure (fun e => (do noteFrame e env; theTreesLotGoes e : Sem Unit).bind fun _ => .raise e) id id) (K' := fun f => match f with
            | .next | .cont => .pure (.again (.forLoop target it body [] env))
            | .brk => .pure (.done .next)
            | .ret v => .pure (.done (.ret v))) (H' := outJ env) (fun f => by cases f <;> rfl) (fun e => eJ e)]
          exact h₃
        · rw [eJ]; exact hE x s' hx
      · rw [eJ]; exact hE x s' hx
  · rw [eJ]; exact hE x s' hx
theorem sg_func {body : List Stmt}
    (h : Sg (model prog w) A R Y (.func body env) ((execs body env).wrap (fun f => .pure (.done (.ret (match f with | .ret v => v | _ => .none)))) (fun e => (leaving env e).wrap (fun _ => .raise e) .raise id id) id id) fs s) :
    Sg (model prog w) A R Y (.func body env) ((model prog w).den (.func body env)) fs s := by
  show Sg _ A R Y _ (.point [] fun _ => ((execs body env).onRaise (leaving env)) >>= _) fs s
  refine sg_point ?_
  rw [Sem.onRaise_eq_wrap, Sem.bind_eq_wrap', Sem.wrap_wrap]
  rw [Sem.wrap_congr (execs body env) _ _ (K' := fun f => .pure (.done (.ret (match f with | .ret v => v | _ => .none)))) (H' := fun e => (leaving env e).wrap (fun _ => .raise e) .raise id id) (fun f => by cases f <;> rfl)
    (fun e => by rw [Sem.bind_eq_wrap, Sem.wrap_wrap]; rfl)]
  exact h
end
end DL
end
section
/-! DL: a generator's statements over data; what is still to be handed out. -/
namespace DL
open PySem PySem.Spec PyProof.Rows L2 GenW
abbrev gAs (DD : Addr) : Bx := ([], [DD])
/-- an object that keeps names -/
def NsO (o : Obj) : Prop := ∃ (es : Array DictEntry) (ep : Nat) (m : Str → Option Value), o.data = .dict es ep ∧ StrKeys es ∧ ∀ name, nsFind es name = m name
/-- running, or asleep: ip: its own iterators, as they stand; at C: the consumer's names -/
def Gn (X : Cx) (C : Addr) (ip : List (Addr × Obj)) (σ : L2.St) (H : Hp) (s : Shared) : Prop := ∃ oC, NsO oC ∧ L2.Inv X ((C, oC) :: ip) σ H s
/-- what its consumer may do while it sleeps -/
structure WakeD (T : List (Addr × Str)) (DD : Addr) (H H' : Hp) : Prop where
  stay : ∀ b o, b ≠ DD → H b = some o → (∀ ps, o ≠ .tbl ps) → H' b = some o
  lst : ∃ xs, H' DD = some (.lst xs)
  tab : LamX.Tabs T H'
section
variable {K : PySem.W.Frag} {T : List (Addr × Str)} {DD : Addr} {H H' : Hp}
theorem WakeD.hid (w : WakeD T DD H H') : ∀ b o, hid (gAs DD) H b = some o → (∀ ps, o ≠ .tbl ps) → DL.hid (gAs DD) H' b = some o := fun b o e n => by
  obtain ⟨h1, h2⟩ := hid_some.mp e
  exact hid_some.mpr ⟨h1, w.stay b o (fun z => h1 (.inr (by rw [z]; exact List.mem_singleton.mpr rfl))) h2 n⟩
theorem WakeD.see (w : WakeD T DD H H') : See (gAs DD) H (gAs DD) H' := ⟨List.prefix_refl _, w.hid⟩
theorem sto_g (h : ∃ xs, H DD = some (.lst xs)) : Sto K (gAs DD) H [] := ⟨List.nodup_nil, rfl, fun b hb => by rw [List.mem_singleton.mp hb]; exact h, fun b hb => absurd hb (by simp), fun k a ds h => by simp at h⟩
theorem Ok.wake {σ : L2.St} {δ : Dl} (o : Ok K T (gAs DD) H σ δ []) (w : WakeD T DD H H') : Ok K T (gAs DD) H' σ δ [] :=
  ⟨o.len, fun i d h => let ⟨v, h1, h2⟩ := o.rel i d h; ⟨v, h1, w.see.rd h2⟩, sto_g w.lst, w.tab⟩
end
def gR (X : Cx) (T : List (Addr × Str)) (C DD : Addr) (L : List D) (Hw : Hp) : Result → Shared → Prop := fun r s =>
  (r = .ok (.ret .none) ∨ r = .ok .next) ∧ L = [] ∧ ∃ ip σ H, (∀ p ∈ ip, p.1 ≠ C) ∧ Gn X C ip σ H s ∧ Post X.K T (gAs DD) Hw (gAs DD) H []
def gY (X : Cx) (T : List (Addr × Str)) (C DD : Addr) (A : Around) : List D → Hp → SusP
  | [], _ => fun _ _ _ _ _ => False
  | d :: r, Hw => fun v s' c' k fs' => ∃ x ip σ H, RelV x v ∧ flat d = true ∧ Rd X.K (gAs DD) H x d ∧ (∀ p ∈ ip, p.1 ≠ C) ∧ Gn X C ip σ H s' ∧ Post X.K T (gAs DD) Hw (gAs DD) H [] ∧
      ∀ s'' H'', Gn X C ip σ H'' s'' → WakeD T DD H H'' → Sg (model X.prog X.w) A (gR X T C DD r H'') (gY X T C DD A r H'') c' (k (.send .none)) fs' s''
abbrev GRun (X : Cx) (T : List (Addr × Str)) (C DD : Addr) (A : Around) (L : List D) (Hw : Hp) (c : Code) (t : Sem PySem.Fin) (fs : List Frame) (s : Shared) : Prop := Sg (model X.prog X.w) A (gR X T C DD L Hw) (gY X T C DD A L Hw) c t fs s
/-- where it stands -/
def GAt (X : Cx) (T : List (Addr × Str)) (C DD : Addr) (ip : List (Addr × Obj)) (Hb Hw : Hp) (δ : Dl) (s : Shared) : Prop :=
  ∃ σ H, Gn X C ip σ H s ∧ Ok X.K T (gAs DD) H σ δ [] ∧ Post X.K T (gAs DD) Hw (gAs DD) H [] ∧ See (gAs DD) Hb (gAs DD) H
structure GE where
  nx : List D → Dl → Prop
  bk : List D → Dl → Prop := fun _ _ => False
  ct : List D → Dl → Prop := fun _ _ => False
abbrev DGn := GE → List D → Dl → Prop
structure GCt (X : Cx) (C : Addr) (ip : List (Addr × Obj)) (A : Around) (c : Code) (fs : List Frame) (gd : Bool → Bool) : Prop where
  ip : ∀ p ∈ ip, p.1 ≠ C
  over : A.over c fs = X.A
  split : splitAtGen fs = none
  guard : fs.any Frame.guarded = false
  gd : gd false = false
def GKt (X : Cx) (T : List (Addr × Str)) (C DD : Addr) (ip : List (Addr × Obj)) (A : Around) (Hb : Hp) (c : Code) (fs : List Frame) (K : Flow → Sem PySem.Fin) (D : GE) : Prop :=
  ∀ (L : List DL.D) (Hw : Hp) (f : Flow) (δ : Dl) (s : Shared), GAt X T C DD ip Hb Hw δ s → (match f with | .next => D.nx L δ | .brk => D.bk L δ | .cont => D.ct L δ | .ret _ => False) → GRun X T C DD A L Hw c (K f) fs s
def GSt (X : Cx) (T : List (Addr × Str)) (C DD : Addr) (st : Stmt) (φ : DGn) : Prop :=
  ∀ (A : Around) (ip : List (Addr × Obj)) (L : List D) (Hb Hw : Hp) (c : Code) (fs : List Frame) (K : Flow → Sem PySem.Fin) (J : Value → Sem PySem.Fin) (gd : Bool → Bool) (lv : List Value → List Value) (s : Shared) (δ : Dl) (D : GE),
    GCt X C ip A c fs gd → GKt X T C DD ip A Hb c fs K D → GAt X T C DD ip Hb Hw δ s → φ D L δ → GRun X T C DD A L Hw c ((exec st X.env).wrap K J gd lv) fs s
def GSts (X : Cx) (T : List (Addr × Str)) (C DD : Addr) (st : List Stmt) (φ : DGn) : Prop :=
  ∀ (A : Around) (ip : List (Addr × Obj)) (L : List D) (Hb Hw : Hp) (c : Code) (fs : List Frame) (K : Flow → Sem PySem.Fin) (J : Value → Sem PySem.Fin) (gd : Bool → Bool) (lv : List Value → List Value) (s : Shared) (δ : Dl) (D : GE),
    GCt X C ip A c fs gd → GKt X T C DD ip A Hb c fs K D → GAt X T C DD ip Hb Hw δ s → φ D L δ → GRun X T C DD A L Hw c ((execs st X.env).wrap K J gd lv) fs s
section
variable {X : Cx} {T : List (Addr × Str)} {C DD : Addr} {st : Stmt} {rest : List Stmt}
def gNil : DGn := fun D L δ => D.nx L δ
theorem gsts_nil : GSts X T C DD [] gNil := fun A ip L Hb Hw c fs K J gd lv s δ D g k at_ h => sg_execs_nil (k L Hw .next δ s at_ h)
def gSeq (φ ψ : DGn) : DGn := fun D L δ => φ { D with nx := ψ D } L δ
theorem gsts_cons {φ ψ : DGn} (a : GSt X T C DD st φ) (b : GSts X T C DD rest ψ) : GSts X T C DD (st :: rest) (gSeq φ ψ) := fun A ip L Hb Hw c fs K J gd lv s δ D g k at_ h => by
  refine sg_execs_cons (a A ip L Hb Hw c fs _ J gd lv s δ { D with nx := ψ D } g (fun L' Hw' f δ' s' at' hf => ?_) at_ h)
  cases f with
  | next => exact b A ip L' Hb Hw' c fs K J gd lv s' δ' D g k at' hf
  | brk => exact k L' Hw' .brk δ' s' at' hf
  | cont => exact k L' Hw' .cont δ' s' at' hf
  | ret v => exact hf.elim
theorem gsts_one {φ : DGn} (a : GSt X T C DD st φ) : GSts X T C DD [st] (gSeq φ gNil) := gsts_cons a gsts_nil
/-- a statement that hands out nothing -/
def gPlain (φ : DS) : DGn := fun D L δ => φ { nx := fun δ1 mu => mu = [] ∧ D.nx L δ1, rt := fun _ _ => False, bk := fun δ1 mu => mu = [] ∧ D.bk L δ1, ct := fun δ1 mu => mu = [] ∧ D.ct L δ1 } δ []
theorem as_g {as1 : Bx} {H H1 : Hp} {K : PySem.W.Frag} (f : Fwd (gAs DD) H as1 H1) (S : Sto K as1 H1 []) : as1 = gAs DD :=
  Prod.ext (List.eq_nil_of_length_eq_zero S.len) f.ext
theorem gst_plain {φ : DS} (hx : ∀ e s, ¬ X.xe e s) (h : SD X T st φ) : GSt X T C DD st (gPlain φ) := fun A ip L Hb Hw c fs K J gd lv s δ D g k at_ hφ => by
  obtain ⟨σ, H, ⟨oC, hC, I⟩, o, p, see⟩ := at_
  refine sg_wrap ?_
  rw [g.over]
  have fin : ∀ {f : Flow} {σ1 : L2.St} {H1 : Hp} {s1 : Shared} {δ1 : Dl} {as1 : Bx} {mu1 : Mu}, L2.Inv X ((C, oC) :: ip) σ1 H1 s1 → mu1 = [] → Fwd (gAs DD) H as1 H1 → Ok X.K T as1 H1 σ1 δ1 mu1 → GAt X T C DD ip Hb Hw δ1 s1 := fun {f σ1 H1 s1 δ1 as1 mu1} I1 e1 f1 o1 => by
    subst e1
    obtain rfl := as_g f1 o1.sto
    exact ⟨σ1, H1, ⟨oC, hC, I1⟩, o1, p.trans ⟨f1, o1.sto, o1.tab⟩, see.trans f1.see⟩
  refine wpAny_mono (h.run ((C, oC) :: ip) s σ H { nx := fun σ1 H1 => ∃ as1 δ1, Fwd (gAs DD) H as1 H1 ∧ Ok X.K T as1 H1 σ1 δ1 [] ∧ D.nx L δ1, rt := fun _ _ => False, bk := fun σ1 H1 => ∃ as1 δ1, Fwd (gAs DD) H as1 H1 ∧ Ok X.K T as1 H1 σ1 δ1 [] ∧ D.bk L δ1, ct := fun σ1 H1 => ∃ as1 δ1, Fwd (gAs DD) H as1 H1 ∧ Ok X.K T as1 H1 σ1 δ1 [] ∧ D.ct L δ1 } I
    ⟨gAs DD, δ, [], _, o, hφ, ⟨fun as1 δ1 mu1 σ1 H1 ⟨e1, h1⟩ f1 o1 => ⟨as1, δ1, f1, by rw [← e1]; exact o1, h1⟩, fun _ _ _ _ _ z => z.elim, fun as1 δ1 mu1 σ1 H1 ⟨e1, h1⟩ f1 o1 => ⟨as1, δ1, f1, by rw [← e1]; exact o1, h1⟩, fun as1 δ1 mu1 σ1 H1 ⟨e1, h1⟩ f1 o1 => ⟨as1, δ1, f1, by rw [← e1]; exact o1, h1⟩⟩⟩) (fun f s' hs => ?_) fun x s' hx' => absurd hx' (hx x s')
  cases f with
  | next => obtain ⟨σ1, H1, I1, as1, δ1, f1, o1, q⟩ := hs; exact k L Hw .next δ1 s' (fin (f := .next) I1 rfl f1 o1) q
  | brk => obtain ⟨σ1, H1, I1, as1, δ1, f1, o1, q⟩ := hs; exact k L Hw .brk δ1 s' (fin (f := .brk) I1 rfl f1 o1) q
  | cont => obtain ⟨σ1, H1, I1, as1, δ1, f1, o1, q⟩ := hs; exact k L Hw .cont δ1 s' (fin (f := .cont) I1 rfl f1 o1) q
  | ret v => obtain ⟨_, _, _, _, _, q⟩ := hs; exact q.elim
/-- yield -/
def gYield (φ : DE) : DGn := fun D L δ => φ δ [] fun d mu => mu = [] ∧ flat d = true ∧ ∃ r, L = d :: r ∧ D.nx r δ
theorem gst_yield {e : Expr} {yp pos : Pos} {φ : DE} (hx : ∀ e s, ¬ X.xe e s) (he : ED X T e φ) (hco : X.env.scope.isCoroutine = false := by rfl) (hi : interactive X.env = false := by rfl) : GSt X T C DD (.Expr (.Yield (some e) yp) pos) (gYield φ) := fun A ip L Hb Hw c fs K J gd lv s δ D g k at_ hφ => by
  obtain ⟨σ, H, ⟨oC, hC, I⟩, o, p, see⟩ := at_
  refine sg_Yield g.split g.gd g.guard ?_ hco hi
  rw [g.over]
  refine wpAny_mono (he.run ((C, oC) :: ip) s σ H (fun x H1 => ∃ d r, L = d :: r ∧ flat d = true ∧ D.nx r δ ∧ Post X.K T (gAs DD) H (gAs DD) H1 [] ∧ Rd X.K (gAs DD) H1 x d) I ⟨gAs DD, δ, [], _, o, hφ, fun d mu1 x H1 ⟨e1, e2, r, e3, e4⟩ p1 r1 => ?_⟩) (fun v s' hv => ?_) fun x s' hx' => absurd hx' (hx x s')
  · subst e1
    exact ⟨d, r, e3, e2, e4, p1, r1⟩
  · obtain ⟨x, H1, I1, rv, d, r, e3, e2, e4, p1, r1⟩ := hv
    intro kk hk
    subst e3
    exact ⟨x, ip, σ, H1, rv, e2, r1, g.ip, ⟨oC, hC, I1⟩, p.trans p1, fun s'' H'' gn w => hk _ _ s'' (k r H'' .next δ s'' ⟨σ, H'', gn, (o.go p1).wake w, ⟨Fwd.refl, sto_g w.lst, w.tab⟩, (see.trans p1.fwd.see).trans w.see⟩ e4)⟩
/-- for -/
abbrev gWalk (gd : DG) (φ : DGn) (G : GE) (ds : List DL.D) (L : List DL.D) (δ : Dl) : Prop := ∃ P : Nat → List DL.D → Dl → Prop, P 0 L δ ∧
  (∀ j x L δ, ds[j]? = some x → P j L δ → gd x δ [] fun δ1 mu => mu = [] ∧ φ { nx := P (j + 1), ct := P (j + 1), bk := G.nx } L δ1) ∧ ∀ L δ, P ds.length L δ → G.nx L δ
def gFor (φi : DA) (gd : DG) (φ : DGn) : DGn := fun D L δ => φi δ [] fun ds mu1 => mu1 = [] ∧ gWalk gd φ D ds L δ
theorem gst_for {tg iter : Expr} {body : List Stmt} {pos : Pos} {φi : DA} {gdt : DG} {φ : DGn} (hx : ∀ e s, ¬ X.xe e s) (hc : X.calm = true) (hi : ID X T tg iter φi) (hg : GD X T tg gdt) (hb : GSts X T C DD body φ)
    (hs : ∀ x, foldedSetIterable iter X.env x = Pure.pure x := by intro _; rfl) : GSt X T C DD (.For tg iter body [] pos) (gFor φi gdt φ) := fun A ip L Hb Hw c fs K J gd lv s δ D g k at_ hφ => by
  obtain ⟨σ, H, ⟨oC, hC, I⟩, o, p, see⟩ := at_
  have noX : ∀ {α : Type} {t : Sem α} {Q : α → Shared → Prop} {E : Value → Shared → Prop} {s : Shared}, wpAny (model X.prog X.w) X.A t Q X.xe s → wpAny (model X.prog X.w) X.A t Q E s := fun h => wpAny_mono h (fun _ _ q => q) fun x s' hx' => absurd hx' (hx x s')
  refine sg_For ?_ hs
  rw [g.over]
  refine noX (wpAny_mono (hi.run ((C, oC) :: ip) s σ H (fun J1 H1 => ∃ ds, Post X.K T (gAs DD) H (gAs DD) H1 [] ∧ Wk X.K T J1 (gAs DD) H1 ds ∧ ∃ P : Nat → List DL.D → Dl → Prop, P 0 L δ ∧
      (∀ j x L δ, ds[j]? = some x → P j L δ → gdt x δ [] fun δ1 mu => mu = [] ∧ φ { nx := P (j + 1), ct := P (j + 1), bk := D.nx } L δ1) ∧ ∀ L δ, P ds.length L δ → D.nx L δ) I
    ⟨gAs DD, δ, [], _, o, hφ, fun ds mu1 H1 J1 ⟨e1, P, h1⟩ p1 wk => ?_⟩) (fun v s1 h1 => ?_) fun _ _ q => q)
  · subst e1
    exact ⟨ds, p1, wk, P, h1⟩
  refine noX (wpAny_mono h1 (fun itv s2 h2 => ?_) fun _ _ q => q)
  obtain ⟨it, fp, tn, J1, H1, e, I2, T1, st2, f2, ds, p1, wk, P, h0, hstep, hend⟩ := h2
  subst e
  intro pq
  have over' : ∀ kk : Result → Sem PySem.Fin, A.over (.forLoop tg (.ref it) body [] X.env) (.ret kk none (gd false) (lv []) c pq [] :: fs) = X.A := fun kk => (over_loop rfl rfl).trans g.over
  have stat : ∀ {H' : Hp}, (∀ b ∈ fp, H' b = none) → ∀ b ∈ fp, FpOk X ((C, oC) :: ip) H' b := fun hn b hb => ⟨hn b hb, (f2 b hb).2⟩
  have nC : ∀ b ∈ fp, b ≠ C := fun b hb => ((f2 b hb).2.2.2.2.2 (C, oC) (List.mem_append_right _ List.mem_cons_self)).symm
  have main : ∀ (m j : Nat) (L : List DL.D) (Hw : Hp) (δ : Dl) (s : Shared) (σ : L2.St) (H : Hp) (oC : Obj), NsO oC → j + m = ds.length → P j L δ → L2.Inv X ((C, oC) :: ip) σ H s → Ok X.K T (gAs DD) H σ δ [] → Post X.K T (gAs DD) Hw (gAs DD) H [] → See (gAs DD) H1 (gAs DD) H → tn j s.heap → (∀ b ∈ fp, H b = none) →
      GRun X T C DD A L Hw (.forLoop tg (.ref it) body [] X.env) ((model X.prog X.w).den (.forLoop tg (.ref it) body [] X.env))
        (.ret (fun r => ((match r with | .ok f => (.pure f : Sem Flow) | .error e => .raise e).onRaise (cameBack X.env)).wrap K J gd lv) none (gd false) (lv []) c pq [] :: fs) s := by
    intro m
    induction m with
    | zero =>
      intro j L Hw δ s σ H oC' hC' hj hP I o p se st nf
      refine sg_forLoop (EE := fun _ _ => False) (fun _ _ z => z.elim) ?_
      rw [over']
      have wkj := wk (gAs DD) H [] se o.sto o.tab j
      refine wpAny_mono (T1.done X rfl rfl rfl hc j ((C, oC') :: ip) s σ H (fun _ _ => False) I (fun b hb => ⟨nf b hb, (f2 b hb).2.1, (f2 b hb).2.2.1, (f2 b hb).2.2.2.1, (f2 b hb).2.2.2.2.1, fun q hq => ?_⟩) st (wkj.2.1 (by omega))) (fun r s6 ⟨hr, I6⟩ => ?_) fun _ _ z => z
      · rcases List.mem_append.mp hq with z | z
        · exact (f2 b hb).2.2.2.2.2 q (List.mem_append_left _ z)
        · rcases List.mem_cons.mp z with z | z
          · rw [z]; exact (nC b hb).symm
          · exact (f2 b hb).2.2.2.2.2 q (List.mem_append_right _ (List.mem_cons_of_mem _ z))
      · subst hr
        have hj' : j = ds.length := by omega
        subst hj'
        exact sg_leaf (.ok .next) (k L Hw .next δ s6 ⟨σ, H, ⟨oC', hC', I6⟩, o, p, (see.trans p1.fwd.see).trans se⟩ (hend L δ hP))
    | succ m ih =>
      intro j L Hw δ s σ H oC' hC' hj hP I o p se st nf
      refine sg_forLoop (EE := fun _ _ => False) (fun _ _ z => z.elim) ?_
      rw [over']
      have wkj := wk (gAs DD) H [] se o.sto o.tab j
      have fpI : ∀ b ∈ fp, FpOk X ((C, oC') :: ip) H b := fun b hb => ⟨nf b hb, (f2 b hb).2.1, (f2 b hb).2.2.1, (f2 b hb).2.2.2.1, (f2 b hb).2.2.2.2.1, fun q hq => by
        rcases List.mem_append.mp hq with z | z
        · exact (f2 b hb).2.2.2.2.2 q (List.mem_append_left _ z)
        · rcases List.mem_cons.mp z with z | z
          · rw [z]; exact (nC b hb).symm
          · exact (f2 b hb).2.2.2.2.2 q (List.mem_append_right _ (List.mem_cons_of_mem _ z))⟩
      refine wpAny_mono (T1.item X rfl rfl rfl hc j ((C, oC') :: ip) s σ H (fun _ _ => False) I fpI st (wkj.1 (by omega))) (fun r s4 ⟨u, hr, h4⟩ => ?_) fun _ _ z => z
      subst hr
      refine wpAny_mono h4 (fun _ s5 ⟨x, H5, I5, r5, y5, st5, fr5⟩ => ?_) fun _ _ z => z
      obtain ⟨d, hd, rx, p5⟩ := wkj.2.2 (by omega) x H5 y5
      have o5 := o.go p5
      have I5' := I5.pinned (fun b hb => ⟨fr5 b hb, (fpI b hb).2⟩) (T1.obj _ _ st5)
      refine noX (thn (hg.run _ s5 σ H5 x u (fun σ6 H6 => ∃ δ6 mu6, (mu6 = [] ∧ φ { nx := P (j + 1), ct := P (j + 1), bk := D.nx } L δ6) ∧ Fwd (gAs DD) H5 (gAs DD) H6 ∧ Ok X.K T (gAs DD) H6 σ6 δ6 mu6) I5' r5 ⟨gAs DD, δ, [], d, _, o5, rx, hstep j d L δ hd hP, fun δ1 mu1 σ1 H1' hq f1 o1 => ⟨δ1, mu1, hq, f1, o1⟩⟩) fun _ s6 ⟨σ6, H6, I6, δ6, mu6, ⟨e6, q6⟩, f6, o6⟩ => ?_)
      subst e6
      have p56 : Post X.K T (gAs DD) H (gAs DD) H6 [] := p5.trans ⟨f6, o6.sto, o6.tab⟩
      have gl : ∀ kk : Result → Sem PySem.Fin, GCt X C (ip ++ pinsAt fp s5.heap) A (.forLoop tg (.ref it) body [] X.env) (.ret kk none (gd false) (lv []) c pq [] :: fs) id := fun kk => ⟨fun q hq => by
          rcases List.mem_append.mp hq with z | z
          · exact g.ip q z
          · exact nC _ (of_pinsAt z).1, over' kk, by show (splitAtGen fs).map _ = none; rw [g.split]; rfl, by show (gd false || fs.any Frame.guarded) = false; rw [g.gd, g.guard]; rfl, rfl⟩
      refine hb A (ip ++ pinsAt fp s5.heap) L H1 Hw _ _ _ _ id id s6 δ6 { nx := P (j + 1), ct := P (j + 1), bk := D.nx } (gl _) (fun L7 Hw7 f δ7 s7 at7 q7 => ?_) ⟨σ6, H6, ⟨oC', hC', I6⟩, o6, p.trans p56, se.trans p56.fwd.see⟩ q6
      obtain ⟨σ7, H7, ⟨oC7, hC7, I7⟩, o7, p7, se7⟩ := at7
      have I7 : L2.Inv X (((C, oC7) :: ip) ++ pinsAt fp s5.heap) σ7 H7 s7 := I7
      have pin7 : ∀ b ∈ fp, ∀ ob, s5.heap.get? b = some ob → s7.heap.get? b = some ob ∧ H7 b = none := fun b hb ob e =>
        let z := I7.pin (b, ob) (List.mem_append_right _ (List.mem_append_right _ (mem_pinsAt hb e)))
        ⟨z.1, z.2.1⟩
      have again : P (j + 1) L7 δ7 → GRun X T C DD A L7 Hw7 (.forLoop tg (.ref it) body [] X.env) (.pure (.again (.forLoop tg (.ref it) body [] X.env)))
          (.ret (fun r => ((match r with | .ok f => (.pure f : Sem Flow) | .error e => .raise e).onRaise (cameBack X.env)).wrap K J gd lv) none (gd false) (lv []) c pq [] :: fs) s7 := fun hP7 =>
        sg_again rfl (ih (j + 1) L7 Hw7 δ7 s7 σ7 H7 oC7 hC7 (by omega) hP7 I7.unpinned o7 p7 se7 (T1.keep _ _ _ st5 fun b hb ob e => (pin7 b hb ob e).1) fun b hb => by
          obtain ⟨ob, e, _⟩ := T1.obj _ _ st5 b hb
          exact (pin7 b hb ob e).2)
      cases f with
      | next => exact again q7
      | cont => exact again q7
      | brk => exact sg_leaf (.ok .next) (k L7 Hw7 .next δ7 s7 ⟨σ7, H7, ⟨oC7, hC7, I7.unpinned⟩, o7, p7, (see.trans p1.fwd.see).trans se7⟩ q7)
      | ret v => exact q7.elim
  exact main ds.length 0 L Hw δ s2 σ H1 oC hC (Nat.zero_add _) h0 I2 (o.go p1) (p.trans p1) See.refl st2 fun b hb => (f2 b hb).1
end
end DL
end
section
/-! the comprehension of points_with, over the generator -/
namespace K77
open PySem PySem.Spec PyProof.Rows L2 DL GenW
abbrev noX : XK := fun _ _ _ => False
/-- the context of the generator's body -/
abbrev gxOf (P : Program) (w : World) (K : PySem.W.Frag) (mg : Str → Option Value) (base : Heap) (N : List Str) (qual : Str) (scope : Scope) (f : Addr) (cd : Value) (A : Around) (outer : List Env) (s : Shared) (H : Hp) (pn : List (Addr × Obj)) : Cx :=
  (gcxOf P w K mg base N qual scope f cd A outer s H noX pn).nox
structure PwS (X : Cx) (sc : Scope) : Prop where
  kind : sc.kind = .function
  uniq : ∀ y ∈ sc.names, sc.names.lookup y.1 = some y.2
  free : ∀ y ∈ sc.names, y.2 = .free → X.env.scope.names.lookup y.1 = some .cell
  point : (relS sc X.env.scope).names.lookup ("point" : Str) = some NameKind.local
  form : (relS sc X.env.scope).names.lookup ("form" : Str) = some NameKind.cell
  value : (relS sc X.env.scope).names.lookup ("value" : Str) = some NameKind.cell
  va : (relS sc X.env.scope).names.lookup ("value_at" : Str) = some NameKind.globalImplicit
  cform : ∀ n cells c, List.lookup ("form" : Str) cells = some c → List.lookup ("form" : Str) (cellsFrom n sc.names (cloFrom cells sc.names [])) = some c
  cvalue : ∀ n cells c, List.lookup ("value" : Str) cells = some c → List.lookup ("value" : Str) (cellsFrom n sc.names (cloFrom cells sc.names [])) = some c
  pushed : ∀ h : Heap, pushCells h sc.names = h
section
variable {X : Cx} {T : List (Addr × Str)} {sc : Scope} {pins : List (Addr × Obj)} {σ : L2.St} {H : Hp} {s : Shared}
/-- the turn by the very states: the item stored, tested, put behind the list -/
theorem pw_turn {A : Around} {ce : Env} {C DD p q cf cv fv : Addr} {fd : FuncData} {m : Str → Option Value} {a b c d e g x y z n : Int} {ta tb tc td te tg tx ty tz tn : Tok} {its : Array Value} {cnt : Nat}
    {pa pb p1 p2 p3 p4 p5 p6 : Pos} {E : Value → Shared → Prop} {Qf : Shared → Prop}
    (hk : ce.scope.kind = .function) (hL : ce.locals = C) (hpt : ce.kindOf "point" = some .local) (hfm : ce.kindOf "form" = some .cell) (hvl : ce.kindOf "value" = some .cell) (hva : ce.kindOf "value_at" = some .globalImplicit) (hcf : ce.cells.lookup ("form" : Str) = some cf) (hcv : ce.cells.lookup ("value" : Str) = some cv)
    (hgl : ce.globals = mainGlobals) (hmg : s.heap.Ns mainGlobals X.mg) (mva : X.mg "value_at" = some (.ref fv)) (F : Fun X.K "value_at" "value_at" s_value_at fv fd) (hroom : A.depth < recursionLimit) (hh : A.handled = none) (hK : X.K.In s.heap) (hlim : s.heap.NoLimit)
    (hC : s.heap.Ns C m) (hCf : s.heap.IsCell cf (some (.ref p))) (hCv : s.heap.IsCell cv (some (.int n tn)))
    (hp : IsTup s.heap p #[.int a ta, .int b tb, .int c tc, .int d td, .int e te, .int g tg]) (hq : IsTup s.heap q #[.int x tx, .int y ty, .int z tz]) (hD : s.heap.get? DD = some (lstObj its cnt)) (hsz : its.size ≤ sizeLine)
    (bF : Bn6 64000 a b c d e g) (bP : Bn3 64000 x y z) (hCD : C ≠ DD) (hCp : C ≠ p) (hCq : C ≠ q) (hCc : C ≠ cf) (hCc2 : C ≠ cv) (hCm : C ≠ mainGlobals)
    (hin : ∀ b o, X.base.get? b = some o → s.heap.get? b = some o) (hinC : ∀ b o, X.base.get? b = some o → b ≠ C) (kin : X.K.In X.base) (nl : X.base.NoLimit)
    (hno : val ⟨a, b, c, d, e, g⟩ ⟨x, y, z⟩ ≠ n → ∀ h' tk, (∀ b o, b ≠ C → s.heap.get? b = some o → h'.get? b = some o) → (∃ m', h'.Ns C m') → Qf { s with heap := h', toks := tk })
    (hyes : val ⟨a, b, c, d, e, g⟩ ⟨x, y, z⟩ = n → ∀ (h2 h' : Heap) (tk : Nat), (∀ b o, b ≠ C → s.heap.get? b = some o → h2.get? b = some o) → (∃ m', h2.Ns C m') → (∀ b o, b ≠ DD → h2.get? b = some o → h'.get? b = some o) → h'.get? DD = some (lstObj (its.push (.ref q)) (cnt + 1)) → Qf { s with heap := h', toks := tk }) :
    wpAny (model X.prog X.w) A (assign (.Name "point" pa) ce (.ref q)) (fun _ s₂ => wpAny (model X.prog X.w) A (forIn [Expr.Compare (.Call (.Name "value_at" p1) [.Name "form" p2, .Name "point" p3] [] p4) [.Eq] [.Name "value" p5] p6] true fun c r => if r = true then do let ok ← isTrue c ce (eval c ce); Pure.pure (ForInStep.yield ok) else Pure.pure (ForInStep.yield r)) (fun ok s₃ =>
      if ok = true then wpAny (model X.prog X.w) A (eval (.Name "point" pb) ce) (fun x s₄ => wpAny (model X.prog X.w) A (call (.builtin "list.append") [.ref DD, x]) (fun _ s₅ => Qf s₅) E s₄) E s₃ else Qf s₃) E s₂) E s := by
  have hcls : (ce.scope.kind == .class || (ce.scope.kind == .module && ce.locals != ce.globals)) = false := by rw [hk]; rfl
  refine wpAny_assign_Name (wpAny_storeName_local (env := ce) hpt (by rw [hL]; exact hC) (fun h1 n1 sb1 => ?_) hcls)
  rw [hL] at n1 sb1
  have k1 : ∀ b o, b ≠ C → s.heap.get? b = some o → h1.get? b = some o := fun b o hb e => sb1.extBut b o hb e
  have tup1 : ∀ {r : Addr} {xs : Array Value}, C ≠ r → IsTup s.heap r xs → IsTup h1 r xs := fun hb ⟨o, e, k⟩ => ⟨o, k1 _ o (Ne.symm hb) e, k⟩
  have b1 : ∀ b o, X.base.get? b = some o → h1.get? b = some o := fun b o e => k1 b o (hinC b o e) (hin b o e)
  refine wpAny_tests_one (wpAny_isTrue_Compare1 ?_ rfl)
  have Kin : ∀ {h : Heap}, (∀ b o, X.base.get? b = some o → h.get? b = some o) → X.K.In h := fun k => kin.keeps k
  have n2 : h1.Ns C (fun y => if y = "point" then some (.ref q) else m y) := n1
  refine wpAny_Call_Name_kw (Calls.Name_function_global hk hva (Calls.loadGlobal_global (by rw [hgl]; exact hmg.at' fun o e => k1 _ o (Ne.symm hCm) e) mva ?_) (by decide))
  refine PySem.W.callWith_K (h₀ := X.base) kin F.kp (args_cons ?_ rfl) rfl rfl
  refine wpAny_Name (wpAny_loadName_cell hk hfm hcf (v := .ref p) ?_ ?_) (by decide)
  · obtain ⟨o, ho, hd⟩ := hCf; exact ⟨o, k1 _ o (Ne.symm hCc) ho, hd⟩
  refine args_cons ?_ rfl
  refine wpAny_Name (wpAny_loadName_local hk hpt (by rw [hL]; exact n2) (v := .ref q) (by simp) ?_) (by decide)
  refine args_nil ⟨Kin b1, ?_⟩
  refine wpAny_call (va_exact F hroom hh (Kin b1) (nl.keeps b1) (tup1 hCp hp) (tup1 hCq hq) bF bP fun t h2 tk k2 => ?_)
  have k12 : ∀ b o, b ≠ C → s.heap.get? b = some o → h2.get? b = some o := fun b o hb e => k2 b o (k1 b o hb e)
  have n3 : h2.Ns C (fun y => if y = "point" then some (.ref q) else m y) := n2.at' fun o e => k2 _ o e
  show wpAny _ _ _ _ _ _
  refine wpAny_Name (wpAny_loadName_cell hk hvl hcv (v := .int n tn) ?_ ?_) (by decide)
  · obtain ⟨o, ho, hd⟩ := hCv; exact ⟨o, k12 _ o (Ne.symm hCc2) ho, hd⟩
  refine eq_int ?_
  refine wpAny_truthy_bool ?_
  by_cases hv : val ⟨a, b, c, d, e, g⟩ ⟨x, y, z⟩ = n
  · rw [show (val ⟨a, b, c, d, e, g⟩ ⟨x, y, z⟩ == n) = true from beq_iff_eq.mpr hv, if_pos rfl]
    refine wpAny_Name (wpAny_loadName_local hk hpt (by rw [hL]; exact n3) (v := .ref q) (by simp) ?_) (by decide)
    refine append_at (its := its) (n := cnt) (k12 _ _ (Ne.symm hCD) hD) (fun h4 sb4 e4 => ?_) hsz
    exact hyes hv h2 h4 _ k12 ⟨_, n3⟩ (fun b o hb e => sb4.extBut b o hb e) e4
  · rw [show (val ⟨a, b, c, d, e, g⟩ ⟨x, y, z⟩ == n) = false from beq_eq_false_iff_ne.mpr hv, if_neg Bool.false_ne_true]
    exact hno hv h2 _ k12 ⟨_, n3⟩
/-- what points_with's comprehension makes: L: the points that the generator hands out -/
def dPw (ψ : Fm → Int → List Pt → Prop) (φa : DA) : DE := fun δ mu Q => (∃ F n, δ[0]? = some (some (Fm.D F)) ∧ δ[1]? = some (some (.int n)) ∧ φa δ mu fun ds mu1 => ∃ L : List Pt, ds = [F.D, .int n] ∧ ψ F n L ∧ Bn6 64000 F.a F.b F.c F.d F.e F.f ∧ (∀ p ∈ L, Bn3 64000 p.x p.y p.z) ∧ (L.filter fun p => decide (val F p = n)).length ≤ sizeLine ∧ Q (.lst ((L.filter fun p => decide (val F p = n)).map Pt.D)) mu1)
end
end K77
end
section
/-! the comprehension of points_with: the whole loop -/
namespace K77
open PySem PySem.Spec PyProof.Rows L2 DL GenW
theorem flat_re {K : PySem.W.Frag} {as as2 : Bx} {H H2 : Hp} {mu2 : Mu} (S : Sto K as2 H2 mu2) (st : ∀ b o, H b = some o → (∀ ps, o ≠ .tbl ps) → H2 b = some o) {v : V} {d : D} (r : Rd K as H v d) (h : flat d = true) : Rd K as2 H2 v d :=
  flat_back S (flat_go st r h) h
theorem flat_reA {K : PySem.W.Frag} {as as2 : Bx} {H H2 : Hp} {mu2 : Mu} (S : Sto K as2 H2 mu2) (st : ∀ b o, H b = some o → (∀ ps, o ≠ .tbl ps) → H2 b = some o) : ∀ {vs : List V} {ds : List D}, RdAll K as H vs ds → flatAll ds = true → RdAll K as2 H2 vs ds
  | _, _, .nil, _ => .nil
  | _, _, .cons r rr, h => by
    unfold flatAll at h
    rw [Bool.and_eq_true] at h
    exact .cons (flat_re S st r h.1) (flat_reA S st rr h.2)
theorem tabs_lst {T : List (Addr × Str)} {H : Hp} {b : Addr} {xs ys : List V} (t : LamX.Tabs T H) (e : H b = some (.lst xs)) : LamX.Tabs T (upd H b (.lst ys)) := fun q hq => by
  obtain ⟨ps, h1, h2, h3⟩ := t q hq
  refine ⟨ps, (upd_ne fun z => by rw [z, e] at h1; cases h1).trans h1, h2, fun pos cv hc => ?_⟩
  obtain ⟨c, e1, e2⟩ := h3 pos cv hc
  refine ⟨c, e1, (upd_ne fun z => ?_).trans e2⟩
  rw [z, e] at e2
  unfold LamX.CodeO at e2
  cases e2
abbrev xg (X : Cx) (Ng : List Str) (fg : Addr) (cdv : Value) (s1 : Shared) (H1 : Hp) (a : Addr) (go : Obj) : Cx :=
  gxOf X.prog X.w X.K X.mg X.base Ng "points_to" (defScope s_points_to) fg cdv X.A.in1 X.stack s1 H1 [(a, go)]
section
variable {X : Cx} {T : List (Addr × Str)} {pins : List (Addr × Obj)} {σ σg : L2.St} {H H1 H2 : Hp} {s s1 : Shared} {Ng : List Str} {fg C DD a : Addr} {cdv : Value} {go oC : Obj} {ip : List (Addr × Obj)}
/-- where the consumer's frame stands -/
structure Cpl (X : Cx) (Ng : List Str) (fg : Addr) (cdv : Value) (s1 : Shared) (H1 : Hp) (a : Addr) (go : Obj) (C : Addr) : Prop where
  ge : s1.heap.objs.size ≤ C
  L : C ≠ (xg X Ng fg cdv s1 H1 a go).env.locals
  fs : C ∉ frs X.stack
  cell : ∀ x c, (xg X Ng fg cdv s1 H1 a go).env.cells.lookup x = some c → c ≠ C
  a : a ≠ C
theorem Cpl.fp (c : Cpl X Ng fg cdv s1 H1 a go C) (hn : H C = none) (hip : ∀ p ∈ ip, p.1 ≠ C) : FpOk (xg X Ng fg cdv s1 H1 a go) ip H C :=
  ⟨hn, c.L, c.fs, .inr c.ge, c.cell, fun p hp => by
    rcases List.mem_append.mp hp with z | z
    · rw [List.mem_singleton.mp z]; exact c.a
    · exact hip p z⟩
theorem gn_gens {X : Cx} {pins : List (Addr × Obj)} {σ : L2.St} (I : Inv X pins σ H s) {s' : Shared} (hs : s'.heap = s.heap) (ho : s'.os = s.os) (hb : AllBare s'.gens) : Inv X pins σ H s' :=
  I.call' (ch := []) ho (by rw [hs]; exact Un.refl) (by rw [hs]; exact I.hok) hb fun b z => by simp at z
theorem gn_drop {X : Cx} (I : Inv X ((C, oC) :: ip) σg H s) : Inv X ip σg H s := I.pins_of fun p hp => I.pin p (List.mem_append_right _ (List.mem_cons_of_mem _ hp))
theorem gn_pin (c : Cpl X Ng fg cdv s1 H1 a go C) (I : Inv (xg X Ng fg cdv s1 H1 a go) ip σg H s) (hn : H C = none) (hN : ∃ m, s.heap.Ns C m) : ∃ oC, NsO oC ∧ Inv (xg X Ng fg cdv s1 H1 a go) ((C, oC) :: ip) σg H s := by
  obtain ⟨m, o, es, ep, ho, hd, hk, hm⟩ := hN
  refine ⟨o, ⟨es, ep, m, hd, hk, hm⟩, I.pins_of fun p hp => ?_⟩
  rcases List.mem_cons.mp hp with z | z
  · rw [z]; exact ⟨ho, hn, c.L, c.fs, fun v q => by rw [hd] at q; cases q⟩
  · exact I.pin p (List.mem_append_right _ z)
theorem gn_ns {X : Cx} (I : Inv X ((C, oC) :: ip) σg H s) (hN : NsO oC) : ∃ m, s.heap.Ns C m := by
  obtain ⟨es, ep, m, hd, hk, hm⟩ := hN
  exact ⟨m, oC, es, ep, (I.pin (C, oC) (List.mem_append_right _ List.mem_cons_self)).1, hd, hk, hm⟩
theorem gn_free {X : Cx} (I : Inv X ((C, oC) :: ip) σg H s) : H C = none := (I.pin (C, oC) (List.mem_append_right _ List.mem_cons_self)).2.1
/-- the consumer's turn has changed the frame -/
theorem gn_turn (c : Cpl X Ng fg cdv s1 H1 a go C) (hip : ∀ p ∈ ip, p.1 ≠ C) (I : Inv (xg X Ng fg cdv s1 H1 a go) ((C, oC) :: ip) σg H s) {h' : Heap} {tk : Nat} (k : ∀ b o, b ≠ C → s.heap.get? b = some o → h'.get? b = some o) :
    Inv (xg X Ng fg cdv s1 H1 a go) ip σg H { s with heap := h', toks := tk } :=
  (gn_drop I).turnedL (ch := [C]) (fun b o hb e => k b o (fun z => hb (by rw [z]; exact List.mem_singleton.mpr rfl)) e) fun b hb => by rw [List.mem_singleton.mp hb]; exact c.fp (gn_free I) hip

/-- where the loop stands: rest: the points still to come -/
def PwI (X : Cx) (T : List (Addr × Str)) (Ng : List Str) (fg : Addr) (cdv : Value) (s1 : Shared) (H1 H2 : Hp) (a g : Addr) (go : Obj) (C DD : Addr) (F : Fm) (n : Int) (L : List Pt) (m : Nat) (s : Shared) : Prop :=
  ∃ (gs : GenState) (ip : List (Addr × Obj)) (σg : L2.St) (H : Hp) (oC : Obj) (done rest : List Pt) (vacc : List V), s.gens[g]? = some gs ∧ NsO oC ∧ (∀ p ∈ ip, p.1 ≠ C) ∧ L2.Inv (xg X Ng fg cdv s1 H1 a go) ((C, oC) :: ip) σg H s ∧
    (∀ s'', Gn (xg X Ng fg cdv s1 H1 a go) C ip σg H s'' → SgGoes (model X.prog X.w) X.A.in1 (gR (xg X Ng fg cdv s1 H1 a go) T C DD (rest.map Pt.D) H) (gY (xg X Ng fg cdv s1 H1 a go) T C DD X.A.in1 (rest.map Pt.D) H) gs (.send .none) s'') ∧
    L = done ++ rest ∧ m = rest.length ∧ H DD = some (.lst vacc) ∧ RdAll X.K (gAs DD) H vacc ((done.filter fun p => decide (val F p = n)).map Pt.D) ∧ LamX.Tabs T H ∧ (∀ b o, b ≠ DD → H2 b = some o → (∀ ps, o ≠ .tbl ps) → H b = some o) ∧ (∀ b, H2 b ≠ none → H b ≠ none)
theorem pw_end {g : Nat} {E : Value → Shared → Prop} {Q : Value → Shared → Prop} {s₁ : Shared} {h' : Heap} (c : Cpl X Ng fg cdv s1 H1 a go C) (I1 : Inv X pins σ H1 s1)
    (hip : ∀ p ∈ ip, p.1 ≠ C) (G : Gn (xg X Ng fg cdv s1 H1 a go) C ip σg H s₁) (hk : ∀ b o, s₁.heap.get? b = some o → h'.get? b = some o)
    (hQ : ∀ s', Inv X pins σ H s' → Q (.ref DD) s') : compPost (model X.prog X.w) X.A E none Q (.ref DD) C (.ok .next) { s₁.setGen g .finished with heap := h' } := by
  obtain ⟨oC, hN, I⟩ := G
  obtain ⟨mm, hm⟩ := gn_ns I hN
  refine ⟨mm, hm.at' fun o e => hk _ o e, fun h3 sb => hQ _ ?_⟩
  have I3 := gn_turn (h' := h3) (tk := s₁.toks) c hip I fun b o hb e => (sb.2 b hb).trans (hk b o e)
  exact I1.call' (ch := []) (I3.os) I3.base I3.hok (allBare_setGen (s := s₁) I.bare rfl) fun b z => by simp at z
theorem rd_pt {K : PySem.W.Frag} {as : Bx} {H : Hp} {x : V} {p : Pt} (r : Rd K as H x (Pt.D p)) : ∃ q, x = .ref q ∧ SqT K H q [.int p.x, .int p.y, .int p.z] := by
  obtain ⟨q, xs, e, h, rr⟩ := Rd.tupI r
  refine ⟨q, e, ?_⟩
  cases rr with
  | cons r1 r2 =>
    cases r2 with
    | cons r2 r3 =>
      cases r3 with
      | cons r3 r4 =>
        cases r4
        cases r1; cases r2; cases r3
        exact h
theorem rd_fm {K : PySem.W.Frag} {as : Bx} {H : Hp} {x : V} {p : Fm} (r : Rd K as H x (Fm.D p)) : ∃ q, x = .ref q ∧ SqT K H q [.int p.a, .int p.b, .int p.c, .int p.d, .int p.e, .int p.f] := by
  obtain ⟨q, xs, e, h, rr⟩ := Rd.tupI r
  refine ⟨q, e, ?_⟩
  cases rr with
  | cons r1 rr =>
    cases rr with
    | cons r2 rr =>
      cases rr with
      | cons r3 rr =>
        cases rr with
        | cons r4 rr =>
          cases rr with
          | cons r5 rr =>
            cases rr with
            | cons r6 rr =>
              cases rr
              cases r1; cases r2; cases r3; cases r4; cases r5; cases r6
              exact h
theorem val3 {us : List Value} {x y z : Int} (r : Vals [.int x, .int y, .int z] us) : ∃ tx ty tz, us = [.int x tx, .int y ty, .int z tz] := by
  cases r with
  | cons r1 r =>
    cases r with
    | cons r2 r =>
      cases r with
      | cons r3 r =>
        cases r
        obtain ⟨t1, e1⟩ := r1
        obtain ⟨t2, e2⟩ := r2
        obtain ⟨t3, e3⟩ := r3
        exact ⟨t1, t2, t3, by rw [e1, e2, e3]⟩
theorem val6 {us : List Value} {x y z u v w : Int} (r : Vals [.int x, .int y, .int z, .int u, .int v, .int w] us) : ∃ tx ty tz tu tv tw, us = [.int x tx, .int y ty, .int z tz, .int u tu, .int v tv, .int w tw] := by
  cases r with
  | cons r1 r =>
    cases r with
    | cons r2 r =>
      cases r with
      | cons r3 r =>
        obtain ⟨t1, e1⟩ := r1
        obtain ⟨t2, e2⟩ := r2
        obtain ⟨t3, e3⟩ := r3
        obtain ⟨t4, t5, t6, e⟩ := val3 r
        exact ⟨t1, t2, t3, t4, t5, t6, by rw [e1, e2, e3, e]⟩
theorem pw_loop {ce : Env} {cf cv fv p g : Addr} {fdv : FuncData} {F : Fm} {n : Int} {tn : Tok} {L : List Pt} {sc : Scope} {pa pb p1 p2 p3 p4 p5 p6 pos : Pos} {it : Expr} {Q : Value → Shared → Prop}
    (c : Cpl X Ng fg cdv s1 H1 a go C) (I1 : Inv X pins σ H1 s1) (hgo : ∀ h : Heap, h.get? a = some go → h.IsGen a g) (hroom : Room 3 X.A)
    (hk : ce.scope.kind = .function) (hL : ce.locals = C) (hpt : ce.kindOf "point" = some .local) (hfm : ce.kindOf "form" = some .cell) (hvl : ce.kindOf "value" = some .cell) (hva : ce.kindOf "value_at" = some .globalImplicit) (hcf : ce.cells.lookup ("form" : Str) = some cf) (hcv : ce.cells.lookup ("value" : Str) = some cv) (hgl : ce.globals = mainGlobals)
    (mva : X.mg "value_at" = some (.ref fv)) (Fv : Fun X.K "value_at" "value_at" s_value_at fv fdv)
    (hcf1 : s1.heap.IsCell cf (some (.ref p))) (ncf : H1 cf = none) (hcv1 : s1.heap.IsCell cv (some (.int n tn))) (ncv : H1 cv = none) (rF : ∃ as, Rd X.K as H1 (.ref p) (Fm.D F)) (nDD : H1 DD = none) (hCD : C ≠ DD) (h12 : ∀ b o, H1 b = some o → H2 b = some o)
    (bF : Bn6 64000 F.a F.b F.c F.d F.e F.f) (bL : ∀ p ∈ L, Bn3 64000 p.x p.y p.z) (hsz : (L.filter fun p => decide (val F p = n)).length ≤ sizeLine)
    (hQ : ∀ H' s' vacc, Inv X pins σ H' s' → H' DD = some (.lst vacc) → RdAll X.K (gAs DD) H' vacc ((L.filter fun p => decide (val F p = n)).map Pt.D) → LamX.Tabs T H' → (∀ b o, b ≠ DD → H2 b = some o → (∀ ps, o ≠ .tbl ps) → H' b = some o) → (∀ b, H2 b ≠ none → H' b ≠ none) → Q (.ref DD) s')
    (m : Nat) (s : Shared) (h0 : PwI X T Ng fg cdv s1 H1 H2 a g go C DD F n L m s) :
    codeAny (model X.prog X.w) X.A (.compLoop (.ListComp (.Name "point" pa) [⟨.Name "point" pb, it, [.Compare (.Call (.Name "value_at" p1) [.Name "form" p2, .Name "point" p3] [] p4) [.Eq] [.Name "value" p5] p6], 0⟩] sc pos) 0 (.ref a) (.ref DD) ce) (compPost (model X.prog X.w) X.A X.xe none Q (.ref DD) C) s := by
  refine compLoop_any (PwI X T Ng fg cdv s1 H1 H2 a g go C DD F n L) (fun m s hI => ?_) m h0
  obtain ⟨gs, ip, σg, H, oC, done, rest, vacc, hgs, hNo, hip, I, goes, hL2, hm, hDD, hrd, htab, hstay, hthere⟩ := hI
  have pinA : ∀ {σ' : L2.St} {ip' : List (Addr × Obj)} {H' : Hp} {s' : Shared}, Inv (xg X Ng fg cdv s1 H1 a go) ip' σ' H' s' → s'.heap.IsGen a g := fun {σ' ip' H' s'} I' => hgo _ (I'.pin (a, go) (List.mem_append_left _ (List.mem_singleton.mpr rfl))).1
  have run : Gn (xg X Ng fg cdv s1 H1 a go) C ip σg H (s.setGen g .running) := ⟨oC, hNo, gn_gens I rfl rfl (allBare_setGen I.bare rfl)⟩
  have hgl0 : g < s.gens.size := (Array.getElem?_eq_some_iff.mp hgs).1
  refine wpAny_gsz (n := g + 1) hgl0 (sg_next (F := fun s₁ => rest.map Pt.D = [] ∧ ∃ (ip : List (Addr × Obj)) (σ : L2.St) (H' : Hp), (∀ p ∈ ip, p.1 ≠ C) ∧ Gn (xg X Ng fg cdv s1 H1 a go) C ip σ H' s₁ ∧ Post X.K T (gAs DD) H (gAs DD) H' []) (Y := gY (xg X Ng fg cdv s1 H1 a go) T C DD X.A.in1 (rest.map Pt.D) H) (hroom.hd) I.nolimit hroom.depth (pinA I) hgs (goes _ run) (fun v s₁ gs' hbare hv => ?_) fun s₁ hp h' hk' => ?_)
  · intro hsz1
    obtain ⟨k', l', c', p', fs', cl, egs, hy⟩ := hv
    cases rest with
    | nil => exact hy.elim
    | cons pt rest =>
    obtain ⟨x, ip1, σ1, H', rx, hfl, rd, hip1, G1, pp, cont⟩ := hy
    obtain ⟨q, ex, sq⟩ := rd_pt rd
    subst ex
    have ev : v = .ref q := rx
    subst ev
    obtain ⟨oC1, hNo1, I1g⟩ := G1
    have hptL : pt ∈ L := by rw [hL2]; exact List.mem_append_right _ List.mem_cons_self
    have bP := bL pt hptL
    have IA : Inv (xg X Ng fg cdv s1 H1 a go) ((C, oC1) :: ip1) σ1 H' (s₁.setGen g gs') := gn_gens I1g rfl rfl (allBare_setGen I1g.bare hbare)
    have hgsA : (s₁.setGen g gs').gens[g]? = some gs' := setGen_at (by have q : (s₁.setGen g gs').gens.size = s₁.gens.size := setGen_size _ _ _; omega)
    generalize s₁.setGen g gs' = sA at IA hgsA ⊢
    have hDD' : H' DD = some (.lst vacc) := (pp.fwd.keep DD (List.mem_singleton.mpr rfl)).trans hDD
    have hrd' := pp.fwd.rdA hrd
    have st2 : ∀ b o, b ≠ DD → H2 b = some o → (∀ ps, o ≠ .tbl ps) → H' b = some o := fun b o nb e nt => pp.fwd.stay b o (fun z => by rcases z with z | z; exact absurd z (by simp); exact nb (List.mem_singleton.mp z)) (hstay b o nb e nt) nt
    have st1 : ∀ b o, H1 b = some o → (∀ ps, o ≠ .tbl ps) → H' b = some o := fun b o e nt => st2 b o (fun z => by rw [z, nDD] at e; cases e) (h12 b o e) nt
    have lt1 : ∀ {b : Addr} {o : Obj}, s1.heap.get? b = some o → C ≠ b := fun {b o} e => Nat.ne_of_gt (Nat.lt_of_lt_of_le (Heap.lt_size e) c.ge)
    have cellK : ∀ {b : Addr} {v : Option Value}, s1.heap.IsCell b v → H1 b = none → sA.heap.IsCell b v := fun {b v} ⟨o, e, hd⟩ n => by
      obtain ⟨sl, e1⟩ := IA.base.any e n (fun z => absurd (show b ∈ ([] : List Addr) from z) (by simp))
      exact ⟨_, e1, hd⟩
    obtain ⟨m0, hns⟩ := gn_ns IA hNo1
    obtain ⟨as', rF⟩ := rF
    obtain ⟨p', ep, sqp⟩ := rd_fm (flat_re (sto_g ⟨vacc, hDD'⟩) st1 rF rfl)
    cases ep
    obtain ⟨its6, v6, tup6, _⟩ := IA.tuple sqp
    obtain ⟨t1, t2, t3, t4, t5, t6, e6⟩ := val6 v6
    subst e6
    obtain ⟨its3, v3, tup3, _⟩ := IA.tuple sq
    obtain ⟨u1, u2, u3, e3⟩ := val3 v3
    subst e3
    obtain ⟨its, cnt, va, eD, _⟩ := IA.lst hDD'
    obtain ⟨p0, e0, sq0⟩ := rd_fm rF
    cases e0
    have nCp : C ≠ p := by
      obtain ⟨_, _, ⟨o, e, _⟩, _⟩ := I1.tuple sq0
      exact lt1 e
    have nCq : C ≠ q := fun z => by
      obtain ⟨o, e, _, n, hd⟩ := tup3
      obtain ⟨o', es, ep, e', hd', _⟩ := hns
      rw [← z, e'] at e
      cases e
      rw [hd'] at hd
      cases hd
    have lenD : its.length = (done.filter fun p => decide (val F p = n)).length := by rw [← va.length, hrd'.length, List.length_map]
    have split : (L.filter fun p => decide (val F p = n)).length = (done.filter fun p => decide (val F p = n)).length + ((pt :: rest).filter fun p => decide (val F p = n)).length := by rw [hL2, List.filter_append, List.length_append]
    refine wpAny_of_eq (a := ()) rfl ?_
    refine pw_turn (X := X) (C := C) (DD := DD) (p := p) (q := q) (its := its.toArray) (cnt := cnt) (tn := tn) hk hL hpt hfm hvl hva hcf hcv hgl (I1.mod.glob.at' fun o e => IA.bk _ o e) mva Fv hroom.depth hroom.hd IA.kIn IA.nolimit hns (cellK hcf1 ncf) (cellK hcv1 ncv) tup6 tup3 eD (by rw [List.size_toArray]; omega) bF bP hCD nCp nCq
      (fun z => by obtain ⟨o, e, _⟩ := hcf1; exact lt1 e z) (fun z => by obtain ⟨o, e, _⟩ := hcv1; exact lt1 e z) ?_ IA.bk (fun b o e z => ?_) I1.mod.kin I1.mod.nolimit (fun hne h' tk hk2 hns2 => ?_) fun heq h2 h' tk hk2 hns2 hk3 hD3 => ?_
    · obtain ⟨o, es, ep, e, _⟩ := I1.mod.glob
      exact lt1 (I1.bk _ _ e)
    · exact lt1 (I1.bk _ _ e) z.symm
    · have I5 := gn_turn (h' := h') (tk := tk) c hip1 IA hk2
      obtain ⟨oC5, hNo5, I6⟩ := gn_pin c I5 (gn_free IA) hns2
      refine ⟨rest.length, by rw [hm]; exact Nat.lt_succ_self _, gs', ip1, σ1, H', oC5, done ++ [pt], rest, vacc, hgsA, hNo5, hip1, I6, fun s'' G => ?_, by rw [hL2]; simp, rfl, hDD', ?_, pp.tab, st2, fun b hb => pp.fwd.there b (hthere b hb)⟩
      · rw [egs]
        exact cont s'' H' G ⟨fun b o _ e _ => e, ⟨vacc, hDD'⟩, pp.tab⟩
      · rw [List.filter_append, List.filter_cons_of_neg (by simpa using hne), List.filter_nil, List.append_nil]
        exact hrd'
    · have I5 := gn_turn (h' := h2) (tk := tk) c hip1 IA hk2
      have mu : Mut (H' DD) := by rw [hDD']; trivial
      have hlen1 : vacc.length + 1 ≤ sizeLine := by
        have e1 : ((pt :: rest).filter fun p => decide (val F p = n)).length = (rest.filter fun p => decide (val F p = n)).length + 1 := by rw [List.filter_cons_of_pos (by simpa using heq), List.length_cons]
        have := va.length
        omega
      have I6 : Inv (xg X Ng fg cdv s1 H1 a go) ip1 σ1 (upd H' DD (.lst (vacc ++ [.ref q]))) { sA with heap := h', toks := tk } :=
        I5.write (t' := tk) mu (.inl rfl) (fun b u hb e => hk3 b u hb e) ⟨_, hD3⟩ ⟨by rw [List.length_append]; exact hlen1, its ++ [.ref q], cnt + 1, va.append (.cons (show RelV (.ref q) (.ref q) from rfl) .nil), by rw [hD3]; simp⟩
      have nC : (upd H' DD (.lst (vacc ++ [.ref q]))) C = none := (upd_ne hCD).trans (gn_free IA)
      obtain ⟨oC5, hNo5, I7⟩ := gn_pin c I6 nC (by obtain ⟨m', hm'⟩ := hns2; exact ⟨m', hm'.at' fun o e => hk3 _ o hCD e⟩)
      have tb := tabs_lst (ys := vacc ++ [.ref q]) pp.tab hDD'
      have wk : WakeD T DD H' (upd H' DD (.lst (vacc ++ [.ref q]))) := ⟨fun b o nb e _ => (upd_ne nb).trans e, ⟨_, upd_same⟩, tb⟩
      refine ⟨rest.length, by rw [hm]; exact Nat.lt_succ_self _, gs', ip1, σ1, _, oC5, done ++ [pt], rest, vacc ++ [.ref q], hgsA, hNo5, hip1, I7, fun s'' G => ?_, by rw [hL2]; simp, rfl, upd_same, ?_, tb, fun b o nb e nt => (upd_ne nb).trans (st2 b o nb e nt), fun b hb => ?_⟩
      · rw [egs]
        exact cont s'' _ G wk
      · rw [List.filter_append, List.filter_cons_of_pos (by simpa using heq), List.filter_nil, List.map_append]
        exact (wk.see.rdA hrd').append (.cons (wk.see.rd rd) .nil)
      · by_cases z : b = DD
        · rw [z, upd_same]; simp
        · rw [upd_ne z]; exact pp.fwd.there b (hthere b hb)
  · intro _
    obtain ⟨hnil, ip1, σ1, H', hip1, G1, pp⟩ := hp
    have hr0 : rest = [] := List.map_eq_nil_iff.mp hnil
    subst hr0
    rw [List.append_nil] at hL2
    subst hL2
    have hDD' : H' DD = some (.lst vacc) := (pp.fwd.keep DD (List.mem_singleton.mpr rfl)).trans hDD
    exact pw_end (g := g) c I1 hip1 G1 hk' fun s' I' => hQ H' s' vacc I' hDD' (pp.fwd.rdA hrd) pp.tab (fun b o nb e nt => pp.fwd.stay b o (fun z => by rcases z with z | z; exact absurd z (by simp); exact nb (List.mem_singleton.mp z)) (hstay b o nb e nt) nt) fun b hb => pp.fwd.there b (hthere b hb)
end
end K77
end
section
/-! the comprehension of points_with, whole -/
namespace K77
open PySem PySem.Spec PyProof.Rows L2 DL GenW
section
variable {X : Cx} {T : List (Addr × Str)} {sc : Scope}
theorem flat_pts : ∀ l : List Pt, flatAll (l.map Pt.D) = true
  | [] => rfl
  | p :: r => by
    show (flat (Pt.D p) && flatAll (r.map Pt.D)) = true
    rw [flat_pts r]; rfl
theorem ed_pw {fg fv : Addr} {fdg fdv : FuncData} {k : Nat} {Ng psg : List Str} {es : List Expr} {e1 : Expr} {ψ : Fm → Int → List Pt → Prop} {φa : DA} {φg : DGn} {pa pb pc pd p1 p2 p3 p4 p5 p6 pos : Pos}
    (hcalm : X.calm = true) (hr : Room (k + 4) X.A) (S : PwS X sc) (hN0 : X.N[0]? = some ("form" : Str)) (hN1 : X.N[1]? = some ("value" : Str)) (hf0 : X.env.scope.names.lookup ("form" : Str) = some NameKind.cell) (hf1 : X.env.scope.names.lookup ("value" : Str) = some NameKind.cell) (hq0 : X.env.globals = mainGlobals)
    (Fg : Fun X.K "points_to" "points_to" s_points_to fg fdg) (Sg : GScope Ng psg (defScope s_points_to)) (hbg : Binds X.K fdg psg []) (hlg : psg.length = 2)
    (hgg : Gl X "points_to") (hmg : X.mg "points_to" = some (.ref fg)) (mva : X.mg "value_at" = some (.ref fv)) (Fv : Fun X.K "value_at" "value_at" s_value_at fv fdv)
    (hbody : ∀ (cdv : Value) (A : Around) (outer : List Env) (s : Shared) (H : Hp) (pn : List (Addr × Obj)) (C DD : Addr), Room k (A.deeper (envOfC "points_to" (defScope s_points_to) s.heap.objs.size fg cdv)) → GSts (gxOf X.prog X.w X.K X.mg X.base Ng "points_to" (defScope s_points_to) fg cdv A outer s H pn) T C DD (defBody s_points_to) φg)
    (hread : ∀ F n L, ψ F n L → Put (startD Ng [Fm.D F, .int n]) fun δ => φg { nx := fun L' _ => L' = [] } (L.map Pt.D) δ)
    (ha : AD X T (e1 :: es) φa) (he : starEach (e1 :: es) X.env = (false, eval e1 X.env) :: starEach es X.env := by rfl) (hpl : (backTo pd (starEach es X.env)).any (·.1) = false := by rfl) :
    ED X T (.ListComp (.Name "point" pa) [⟨.Name "point" pb, .Call (.Name "points_to" pc) (e1 :: es) [] pd, [.Compare (.Call (.Name "value_at" p1) [.Name "form" p2, .Name "point" p3] [] p4) [.Eq] [.Name "value" p5] p6], 0⟩] sc pos) (dPw ψ φa) := by
  refine ⟨fun pins st σ H0 Q I0 h => ?_⟩
  obtain ⟨as, δ, mu, Qd, o0, ⟨F, n, d0, d1, h⟩, q⟩ := h
  have hfree : ∀ y ∈ sc.names, y.2 = .free → ∃ c, X.env.cells.lookup y.1 = some c := fun y hy e => I0.ok.has _ (.inl (S.free y hy e))
  rw [eval_ListComp]
  refine wpAny_comprehension_free (use := none) rfl (fun _ => rfl) (closure_ok hfree) S.kind (fun y hy e => by rw [S.uniq y hy, e]) ?_
  refine wpAny_Call_Name_kw (ld_glob I0 hgg hmg ?_ (by decide))
  refine PySem.W.callWith_K (h₀ := X.base) I0.ok.mod.kin Fg.kp (thn (ha.run pd pins st σ H0 (fun vs H1 => ∃ L : List Pt, ∃ mu1, Post X.K T as H0 as H1 mu1 ∧ RdAll X.K as H1 vs [F.D, .int n] ∧ ψ F n L ∧ Bn6 64000 F.a F.b F.c F.d F.e F.f ∧ (∀ p ∈ L, Bn3 64000 p.x p.y p.z) ∧ (L.filter fun p => decide (val F p = n)).length ≤ sizeLine ∧ Qd (.lst ((L.filter fun p => decide (val F p = n)).map Pt.D)) mu1) I0
    ⟨as, δ, mu, _, o0, h, fun ds mu1 vs H1 ⟨L, e1, h1, h2, h3, h4, h5⟩ pp rr => ⟨L, mu1, pp, by rw [← e1]; exact rr, h1, h2, h3, h4, h5⟩⟩) fun us s1 ⟨vs, H1, I1, r1, L, mu1, pp, rr, hψ, bF, bL, hsz, hq⟩ => ⟨I1.kIn, ?_⟩) he hpl
  obtain ⟨oc, od, kV, doc, pm, an, cdv, ct, osl, rfl, lk, hcd⟩ := Fg.ex
  have hlv : vs.length = psg.length := by rw [rr.length, hlg]; rfl
  have hlu : us.length = psg.length := by rw [← r1.length]; exact hlv
  have hkind : ∀ y ∈ psg.zip us, (defScope s_points_to).names.lookup y.1 = some .local ∨ ((defScope s_points_to).names.lookup y.1 = some .cell ∧ ((cellsFrom (s1.heap.objs.size + 1) (defScope s_points_to).names []).lookup y.1).isSome = true) := fun ⟨nm, v⟩ hy => by
    rcases Sg.par nm (List.of_mem_zip hy).1 with q | q
    · exact .inl q
    · exact .inr ⟨q, PySem.W.cellsFrom_some _ _ _ (.inl q)⟩
  have hb1 := hbg s1 us I1.kIn (by rw [List.length_append]; simpa using hlu)
  rw [List.append_nil] at hb1
  refine wpAny_call (codeAny_call_generator (show Room (k + 4) X.A from hr).depth (I1.kIn _ _ lk) rfl Sg.co Sg.gen rfl (PySem.W.codeRec_of I1.kIn hcd) (hb1 _ _ _ _ ?_))
  refine wpAny_newFunctionEnv_cells Sg.kind hkind fun env he s2 x => ?_
  subst he
  refine ⟨I1.nolimit.keeps x.toInCall.keep, ?_⟩
  have os2 : s2.os = s1.os := by obtain ⟨h, tk, e, _⟩ := x.done; rw [e]
  have gen2 : s2.gens = s1.gens := by obtain ⟨h, tk, e, _⟩ := x.done; rw [e]
  have lt2 : s1.heap.objs.size < s2.heap.objs.size := x.toInCall.ns.lt
  show wpAny _ _ _ _ _ _
  generalize hgo : ({ cls := .type "generator", data := .fields #[.int s2.gens.size 0, _, _] } : Obj) = go
  have hgc : go.cls = .type "generator" := by rw [← hgo]
  have hgs : go.slots = #[] := by rw [← hgo]
  have hgd : ∃ nm qn, go.data = .fields #[.int s2.gens.size 0, nm, qn] := by rw [← hgo]; exact ⟨_, _, rfl⟩
  have hgp : ∀ h : Heap, (h.push go).get? h.objs.size = some go := fun h => Heap.get?_push_size _ (by rw [← hgo]; rfl)
  have hgen : ∀ h : Heap, h.get? s2.heap.objs.size = some go → h.IsGen s2.heap.objs.size s2.gens.size := fun h e => let ⟨nm, qn, d⟩ := hgd; ⟨go, nm, qn, e, hgc, d, hgs⟩
  have hgcell : ∀ v, go.data ≠ .cell v := fun v z => by obtain ⟨nm, qn, d⟩ := hgd; rw [d] at z; cases z
  clear hgo
  generalize hs3 : ({ s2 with heap := s2.heap.push go, gens := s2.gens.push (.fresh (.func _ _)), toks := _ } : Shared) = s3
  have h3 : s3.heap = s2.heap.push go := by rw [← hs3]
  have o3 : s3.os = s2.os := by rw [← hs3]
  have g3 : s3.gens = s2.gens.push (.fresh (.func (defBody s_points_to) (envOfC "points_to" (defScope s_points_to) s1.heap.objs.size fg cdv))) := by rw [← hs3]; rfl
  clear hs3
  refine wpAny_pyIter_gen (g := s2.gens.size) (hgen _ (by rw [h3]; exact hgp _)) ?_
  refine wpAny_newObj_type (newEnv_comp ?_) (by show 0 ≤ sizeLine; decide)
  rw [S.pushed]
  generalize hDD : s3.heap.objs.size = DD
  generalize hh4 : s3.heap.push { cls := .type "list", data := .seq ([] : List Value).toArray } = h4
  show codeAny _ _ (.compStart _ 0 (.ref s2.heap.objs.size) (.ref DD) (compEnvC sc (cellsFrom (h4.objs.size + 1) sc.names (cloFrom X.env.cells sc.names [])) h4.objs.size X.env)) (compPost (model X.prog X.w) X.A X.xe none (EP X pins σ Q) (.ref DD) h4.objs.size) { s3 with heap := h4.push { cls := .type "dict", data := .dict #[] } }
  have e2 : s3.heap.objs.size = s2.heap.objs.size + 1 := by rw [h3, Heap.size_push]
  have e4 : h4.objs.size = DD + 1 := by rw [← hh4, Heap.size_push, hDD]
  have hDn : H1 DD = none := I1.hok.fresh (by omega)
  have kp4 : ∀ b o, s3.heap.get? b = some o → (h4.push { cls := .type "dict", data := .dict #[] }).get? b = some o := fun b o e => Heap.get?_push_of_some _ (by rw [← hh4]; exact Heap.get?_push_of_some _ e)
  have kp3 : ∀ b o, s2.heap.get? b = some o → s3.heap.get? b = some o := fun b o e => by rw [h3]; exact Heap.get?_push_of_some _ e
  have getD : (h4.push { cls := .type "dict", data := .dict #[] }).get? DD = some { cls := .type "list", data := .seq ([] : List Value).toArray } := Heap.get?_push_of_some _ (by rw [← hh4, ← hDD]; exact Heap.get?_push_size _ rfl)
  have getC : (h4.push { cls := .type "dict", data := .dict #[] }).get? h4.objs.size = some { cls := .type "dict", data := .dict #[] } := Heap.get?_push_size _ rfl
  have Is : Inv (gcxOf X.prog X.w X.K X.mg X.base Ng "points_to" (defScope s_points_to) fg cdv X.A.in1 X.stack s1 H1 noX []) [] (start Ng vs) H1 s2 := inv_startG Sg hr.hd I1.env0.in1 hlv r1 x
  have Is3 : Inv (gcxOf X.prog X.w X.K X.mg X.base Ng "points_to" (defScope s_points_to) fg cdv X.A.in1 X.stack s1 H1 noX []) [] (start Ng vs) H1 s3 :=
    Is.call' (ch := []) o3 (Un.kept kp3) (Is.hok.kept kp3) (by rw [g3, gen2]; exact AllBare.push I1.bare rfl) fun b z => by simp at z
  have Is5 := Is3.laid (t' := s3.toks) (h' := h4.push { cls := .type "dict", data := .dict #[] }) (a := DD) (o := .lst []) kp4 (Nat.le_of_eq hDD) ⟨Nat.zero_le _, [], 0, .nil, getD⟩
  have young : ∀ b, s2.heap.objs.size ≤ b → b ≠ DD → (upd H1 DD (.lst [])) b = none ∧ b ≠ s1.heap.objs.size ∧ b ∉ frs X.stack := fun b hb hne => ⟨(upd_ne hne).trans (I1.hok.fresh (Nat.le_of_lt (Nat.lt_of_lt_of_le lt2 hb))), Nat.ne_of_gt (Nat.lt_of_lt_of_le lt2 hb), fun z => by
    rcases List.mem_cons.mp (I1.stkSub b z) with y | y
    · have := I1.lt
      rw [← y] at this
      exact absurd (Nat.lt_of_lt_of_le lt2 hb) (Nat.not_lt_of_lt this)
    · exact I1.nofs (Nat.le_of_lt (Nat.lt_of_lt_of_le lt2 hb)) y⟩
  have Ig : Inv (xg X Ng fg cdv s1 H1 s2.heap.objs.size go) [(h4.objs.size, { cls := .type "dict", data := .dict #[] })] (start Ng vs) (upd H1 DD (.lst [])) { s3 with heap := h4.push { cls := .type "dict", data := .dict #[] } } :=
    (Inv.pinnedG Is5 fun p hp => by
      rcases List.mem_append.mp hp with z | z
      · rw [List.mem_singleton.mp z]
        obtain ⟨y1, y2, y3⟩ := young s2.heap.objs.size (Nat.le_refl _) (Nat.ne_of_lt (by omega))
        exact ⟨kp4 _ _ (by rw [h3]; exact hgp _), y1, y2, y3, hgcell⟩
      · rw [List.mem_singleton.mp z]
        obtain ⟨y1, y2, y3⟩ := young h4.objs.size (by omega) (Nat.ne_of_gt (by omega))
        exact ⟨getC, y1, y2, y3, fun v q => by cases q⟩).wish _
  have hC1 : s1.heap.objs.size < h4.objs.size := by omega
  have hC2 : s2.heap.objs.size < h4.objs.size := by omega
  have hC3 : DD < h4.objs.size := by omega
  have cpl : Cpl X Ng fg cdv s1 H1 s2.heap.objs.size go h4.objs.size := ⟨Nat.le_of_lt hC1, Nat.ne_of_gt hC1, (young h4.objs.size (by omega) (Nat.ne_of_gt (by omega))).2.2, fun y c e => by
    obtain ⟨v, ob, ho, _⟩ := Is.cell y c e
    have := Heap.lt_size ho
    exact Nat.ne_of_lt (Nat.lt_trans this hC2), Nat.ne_of_lt hC2⟩
  have h12 : ∀ b o, H1 b = some o → (upd H1 DD (.lst [])) b = some o := fun b o e => (upd_ne (ne_of_none e hDn)).trans e
  have tab2 : LamX.Tabs T (upd H1 DD (.lst [])) := pp.tab.ext h12
  have stoD : Sto X.K (gAs DD) (upd H1 DD (.lst [])) [] := sto_g ⟨[], upd_same⟩
  obtain ⟨cf, hcf⟩ := I1.ok.has ("form" : Str) (.inl hf0)
  obtain ⟨cv, hcv⟩ := I1.ok.has ("value" : Str) (.inl hf1)
  obtain ⟨m1, hn1, look⟩ := I1.loc
  have o1 := o0.go pp
  obtain ⟨v0, s0, rd0⟩ := o1.rel 0 _ d0
  obtain ⟨v1, s1', rd1⟩ := o1.rel 1 _ d1
  obtain ⟨u0, ru0, lk0⟩ := look 0 _ v0 hN0 s0 (.inr (.inl hf0))
  obtain ⟨u1, ru1, lk1⟩ := look 1 _ v1 hN1 s1' (.inr (.inl hf1))
  obtain ⟨p, ep, _⟩ := rd_fm rd0
  subst ep
  have eu0 : u0 = .ref p := ru0
  subst eu0
  cases rd1
  obtain ⟨tn, eu1⟩ := ru1
  subst eu1
  have cell0 : s1.heap.IsCell cf (some (.ref p)) := by
    rcases lk0 with ⟨k, _⟩ | ⟨_, c, e, h⟩
    · have k' : X.env.scope.names.lookup ("form" : Str) = some NameKind.local := k
      rw [hf0] at k'; cases k'
    · rw [hcf] at e; cases e; exact h
  have cell1 : s1.heap.IsCell cv (some (.int n tn)) := by
    rcases lk1 with ⟨k, _⟩ | ⟨_, c, e, h⟩
    · have k' : X.env.scope.names.lookup ("value" : Str) = some NameKind.local := k
      rw [hf1] at k'; cases k'
    · rw [hcv] at e; cases e; exact h
  have loop := pw_loop (X := X) (T := T) (H2 := upd H1 DD (.lst [])) (g := s2.gens.size) (L := L) (F := F) (n := n) (tn := tn) (p := p) (cf := cf) (cv := cv) (fv := fv) (Q := EP X pins σ Q) (it := .Call (.Name "points_to" pc) (e1 :: es) [] pd) (sc := sc) (pa := pa) (pb := pb) (p1 := p1) (p2 := p2) (p3 := p3) (p4 := p4) (p5 := p5) (p6 := p6) (pos := pos)
    (ce := compEnvC sc (cellsFrom (h4.objs.size + 1) sc.names (cloFrom X.env.cells sc.names [])) h4.objs.size X.env) cpl I1 hgen (hr.mono (by omega)) S.kind rfl S.point S.form S.value S.va (S.cform _ _ _ hcf) (S.cvalue _ _ _ hcv) hq0 mva Fv cell0 (I1.freeC _ _ hcf) cell1 (I1.freeC _ _ hcv) ⟨as, rd0⟩ hDn (Nat.ne_of_gt hC3) h12 bF bL hsz
    (fun H' s' vacc I' hD' hrd tb st th => ?_) L.length { s3 with heap := h4.push { cls := .type "dict", data := .dict #[] } } ?_
  · exact codeAny_compStart_list loop (wpAny_pyIter_gen (g := s2.gens.size) (hgen _ (kp4 _ _ (by rw [h3]; exact hgp _))) loop)
  · have P1 : Post X.K T as H1 as H' mu1 := ext_fwd pp.sto (fun b o e nt => st b o (ne_of_none e hDn) (h12 b o e) nt) (fun b hb => th b (by
      cases e : H1 b with
      | none => exact absurd e hb
      | some o => rw [h12 b o e]; simp)) tb
    exact ⟨.ref DD, H', I', rfl, q _ mu1 _ H' hq (pp.trans P1) (.lst (hid_some.mpr ⟨pp.sto.notmem hDn, hD'⟩) (flat_reA P1.sto (fun b o e _ => e) hrd (flat_pts _)))⟩
  · refine ⟨.fresh (.func (defBody s_points_to) (envOfC "points_to" (defScope s_points_to) s1.heap.objs.size fg cdv)), [], start Ng vs, upd H1 DD (.lst []), _, [], L, [], by show s3.gens[_]? = _; rw [g3]; exact Array.getElem?_push_size .., ⟨#[], _, fun _ => none, rfl, fun e he => by simp at he, fun nm => rfl⟩, fun p hp => by simp at hp, Ig, fun s'' G => ⟨rfl, sg_func ?_⟩, rfl, rfl, upd_same, .nil, tab2, fun b o _ e _ => e, fun b hb => hb⟩
    have room : Room k (X.A.in1.deeper (envOfC "points_to" (defScope s_points_to) s1.heap.objs.size fg cdv)) := ((hr.mono (by omega) : Room (k + 2) X.A).in1).deeper _
    have ok0 := start_ok (N := Ng) (flat_reA stoD (fun b o e _ => h12 b o e) rr rfl) stoD tab2
    refine hbody cdv X.A.in1 X.stack s1 H1 [(s2.heap.objs.size, go)] h4.objs.size DD room X.A.in1 [] (L.map Pt.D) (upd H1 DD (.lst [])) (upd H1 DD (.lst [])) _ [] _ _ id id s'' _ { nx := fun L' _ => L' = [] } ⟨fun p hp => by simp at hp, over_func, rfl, rfl, rfl⟩ (fun L' Hw f δ' s' at_ hf => ?_) ⟨start Ng vs, upd H1 DD (.lst []), G, ok0, ok0.post, See.refl⟩ (hread F n L hψ).go
    obtain ⟨σ', H', G', o', p', _⟩ := at_
    cases f with
    | next => exact sg_end (.ok (.ret .none)) ⟨.inl rfl, hf, [], σ', H', (fun p hp => by simp at hp), G', p'⟩
    | brk => exact hf.elim
    | cont => exact hf.elim
    | ret v => exact hf.elim
end
end K77
end
section
/-! the enumeration of the small values' points: what it gives (no program in sight) -/
namespace K77
/-! ### roots, spans -/
def isq (n : Int) : Int := ((PySem.Float64.isqrt n.toNat : Nat) : Int)
theorem isq_nonneg (n : Int) : 0 ≤ isq n := Int.natCast_nonneg _
theorem isq_sq {n : Int} (h : 0 ≤ n) : isq n * isq n ≤ n := by
  have q := (PySem.Float64.isqrt_spec n.toNat).1
  have e : ((n.toNat : Nat) : Int) = n := Int.toNat_of_nonneg h
  unfold isq
  rw [← Int.natCast_mul]
  omega
theorem isq_lt {n : Int} (h : 0 ≤ n) : n < (isq n + 1) * (isq n + 1) := by
  have q := (PySem.Float64.isqrt_spec n.toNat).2
  have e : ((n.toNat : Nat) : Int) = n := Int.toNat_of_nonneg h
  have e2 : (((PySem.Float64.isqrt n.toNat + 1) * (PySem.Float64.isqrt n.toNat + 1) : Nat) : Int) = (isq n + 1) * (isq n + 1) := by
    unfold isq
    rw [Int.natCast_mul, Int.natCast_add]
    rfl
  rw [← e2]
  omega
theorem sq_nonneg (x : Int) : 0 ≤ x * x := by
  rcases Int.le_total 0 x with h | h
  · exact Int.mul_nonneg h h
  · have := Int.mul_nonneg (Int.neg_nonneg.mpr h) (Int.neg_nonneg.mpr h)
    rwa [Int.neg_mul_neg] at this
theorem sq_le_sq {x y : Int} (h : 0 ≤ x) (l : x ≤ y) : x * x ≤ y * y := Int.mul_le_mul l l h (Int.le_trans h l)
theorem sq_le_of {x r : Int} (h1 : -r ≤ x) (h2 : x ≤ r) : x * x ≤ r * r := by
  rcases Int.le_total 0 x with h | h
  · exact sq_le_sq h h2
  · have := sq_le_sq (x := -x) (y := r) (by omega) (by omega)
    rwa [Int.neg_mul_neg] at this
theorem le_isq {n x : Int} (h : 0 ≤ n) : x * x ≤ n ↔ -isq n ≤ x ∧ x ≤ isq n := by
  constructor
  · intro l
    have h1 := isq_lt h
    have h0 := isq_nonneg n
    constructor
    · rcases Int.lt_or_le x (-isq n) with c | c
      · have := sq_le_sq (x := isq n + 1) (y := -x) (by omega) (by omega)
        rw [Int.neg_mul_neg] at this
        omega
      · exact c
    · rcases Int.lt_or_le (isq n) x with c | c
      · have := sq_le_sq (x := isq n + 1) (y := x) (by omega) (by omega)
        omega
      · exact c
  · intro ⟨a, b⟩
    exact Int.le_trans (sq_le_of a b) (isq_sq h)
/-- a root of a small number is small -/
theorem isq_le {n k : Int} (h : 0 ≤ n) (hk : 0 ≤ k) (l : n ≤ k * k) : isq n ≤ k := by
  rcases Int.lt_or_le k (isq n) with c | c
  · have h1 := sq_le_sq (x := k + 1) (y := isq n) (by omega) (by omega)
    have h2 := isq_sq h
    have h3 : (k + 1) * (k + 1) = k * k + 2 * k + 1 := by grind
    omega
  · exact c
def spanLo (l s : Int) : Int := -(-l / s)
def spanHi (m s : Int) : Int := m / s + 1
def spanL (l m s : Int) : List Int := (List.range (spanHi m s - spanLo l s).toNat).map fun i => spanLo l s + ((i : Nat) : Int)
theorem mem_range {lo hi x : Int} : x ∈ ((List.range (hi - lo).toNat).map fun i => lo + ((i : Nat) : Int)) ↔ lo ≤ x ∧ x < hi := by
  rw [List.mem_map]
  constructor
  · rintro ⟨i, hi', rfl⟩
    rw [List.mem_range] at hi'
    omega
  · intro ⟨a, b⟩
    exact ⟨(x - lo).toNat, by rw [List.mem_range]; omega, by omega⟩
theorem mem_spanL {l m s x : Int} (h : 0 < s) : x ∈ spanL l m s ↔ l ≤ s * x ∧ s * x ≤ m := by
  unfold spanL
  rw [mem_range]
  unfold spanLo spanHi
  have h1 : -x ≤ -l / s ↔ -x * s ≤ -l := Int.le_ediv_iff_mul_le h
  have h2 : x ≤ m / s ↔ x * s ≤ m := Int.le_ediv_iff_mul_le h
  have e : -x * s = -(s * x) := by grind
  have e2 : x * s = s * x := Int.mul_comm _ _
  rw [e] at h1
  rw [e2] at h2
  constructor
  · intro ⟨a, b⟩
    exact ⟨by have := h1.mp (by omega); omega, h2.mp (by omega)⟩
  · intro ⟨a, b⟩
    have q1 := h1.mpr (by omega)
    have q2 := h2.mpr b
    constructor <;> omega
/-! ### the forms' numbers -/
def wid (F : Fm) : Int := 4 * F.a * F.b - F.f * F.f
def skw (F : Fm) : Int := 2 * F.a * F.d - F.e * F.f
def cee (F : Fm) : Int := 4 * F.a * F.c - F.e * F.e
/-- a form with small diagonal -/
structure Sm (F : Fm) : Prop where
  a0 : 0 < F.a
  w0 : 0 < wid F
  s0 : 0 < disc F
  a1 : F.a ≤ 4374
  b1 : F.b ≤ 4374
  c1 : F.c ≤ 4374
theorem wid_cee (F : Fm) : wid F * cee F = skw F * skw F + 4 * F.a * disc F := by unfold wid cee skw disc; grind
theorem four_val (F : Fm) (p : Pt) : 4 * F.a * val F p = (2 * F.a * p.x + F.f * p.y + F.e * p.z) * (2 * F.a * p.x + F.f * p.y + F.e * p.z) + (wid F * p.y * p.y + 2 * skw F * p.y * p.z + cee F * p.z * p.z) := by
  unfold val wid cee skw; grind
theorem pos_of_mul_pos {x y : Int} (h : 0 < x * y) (hx : 0 < x) : 0 < y := by
  rcases Int.lt_or_le 0 y with c | c
  · exact c
  · have := Int.mul_le_mul_of_nonneg_left c (Int.le_of_lt hx)
    rw [Int.mul_zero] at this
    omega
theorem le_of_mul_le {x y z : Int} (hx : 0 < x) (h : x * y ≤ x * z) : y ≤ z := Int.le_of_mul_le_mul_left h hx
theorem cee_pos {F : Fm} (h : 0 < F.a) (w : 0 < wid F) (s : 0 < disc F) : 0 < cee F := by
  have h1 := wid_cee F
  have h2 := sq_nonneg (skw F)
  have h3 := Int.mul_pos (Int.mul_pos (by omega : (0 : Int) < 4) h) s
  exact pos_of_mul_pos (by omega) w
theorem b_pos {F : Fm} (h : 0 < F.a) (w : 0 < wid F) : 0 < F.b := by
  have h1 := sq_nonneg F.f
  unfold wid at w
  exact pos_of_mul_pos (x := 4 * F.a) (by omega) (by omega)
theorem c_pos {F : Fm} (h : 0 < F.a) (w : 0 < wid F) (s : 0 < disc F) : 0 < F.c := by
  have h1 := sq_nonneg F.e
  have h2 := cee_pos h w s
  unfold cee at h2
  exact pos_of_mul_pos (x := 4 * F.a) (by omega) (by omega)
/-! ### the points to a value -/
def ptsX (F : Fm) (M z y : Int) : List Pt :=
  (spanL (-isq (4 * F.a * M - (wid F * y * y + 2 * skw F * y * z + cee F * z * z)) - F.f * y - F.e * z) (isq (4 * F.a * M - (wid F * y * y + 2 * skw F * y * z + cee F * z * z)) - F.f * y - F.e * z) (2 * F.a)).map fun x => ⟨x, y, z⟩
def ptsY (F : Fm) (M z : Int) : List Pt :=
  (spanL (-isq (4 * F.a * (M * wid F - disc F * z * z)) - skw F * z) (isq (4 * F.a * (M * wid F - disc F * z * z)) - skw F * z) (wid F)).flatMap (ptsX F M z)
def hiZ (F : Fm) (M : Int) : Int := isq (M * wid F / disc F)
def ptsTo (F : Fm) (M : Int) : List Pt := ((List.range (hiZ F M + 1 - -hiZ F M).toNat).map fun i => -hiZ F M + ((i : Nat) : Int)).flatMap (ptsY F M)
theorem z_ok {F : Fm} {M z : Int} (s : 0 < disc F) (w : 0 < wid F) (h : 0 ≤ M) : (-hiZ F M ≤ z ∧ z ≤ hiZ F M) ↔ disc F * z * z ≤ M * wid F := by
  unfold hiZ
  rw [← le_isq (Int.ediv_nonneg (Int.mul_nonneg h (Int.le_of_lt w)) (Int.le_of_lt s)), Int.le_ediv_iff_mul_le s]
  have e : z * z * disc F = disc F * z * z := by grind
  rw [e]
theorem wid_left (F : Fm) (M y z : Int) : wid F * (4 * F.a * M - (wid F * y * y + 2 * skw F * y * z + cee F * z * z)) = 4 * F.a * (M * wid F - disc F * z * z) - (wid F * y + skw F * z) * (wid F * y + skw F * z) := by
  have h := wid_cee F
  grind
theorem zin_nonneg {F : Fm} {M z : Int} (a : 0 < F.a) (h : disc F * z * z ≤ M * wid F) : 0 ≤ 4 * F.a * (M * wid F - disc F * z * z) := Int.mul_nonneg (by omega) (by omega)
theorem y_ok {F : Fm} {M y z : Int} (a : 0 < F.a) (w : 0 < wid F) (h : disc F * z * z ≤ M * wid F) :
    y ∈ spanL (-isq (4 * F.a * (M * wid F - disc F * z * z)) - skw F * z) (isq (4 * F.a * (M * wid F - disc F * z * z)) - skw F * z) (wid F) ↔ 0 ≤ 4 * F.a * M - (wid F * y * y + 2 * skw F * y * z + cee F * z * z) := by
  rw [mem_spanL w]
  have h1 := le_isq (x := wid F * y + skw F * z) (zin_nonneg a h)
  have h2 := wid_left F M y z
  constructor
  · intro ⟨q1, q2⟩
    have := h1.mpr ⟨by omega, by omega⟩
    exact le_of_mul_le w (by rw [Int.mul_zero]; omega)
  · intro q
    have q3 := Int.mul_nonneg (Int.le_of_lt w) q
    have := h1.mp (by omega)
    constructor <;> omega
theorem x_ok {F : Fm} {M x y z : Int} (a : 0 < F.a) (h : 0 ≤ 4 * F.a * M - (wid F * y * y + 2 * skw F * y * z + cee F * z * z)) : (⟨x, y, z⟩ : Pt) ∈ ptsX F M z y ↔ val F ⟨x, y, z⟩ ≤ M := by
  unfold ptsX
  rw [List.mem_map]
  have h1 := le_isq (x := 2 * F.a * x + F.f * y + F.e * z) h
  have h2 := four_val F ⟨x, y, z⟩
  simp only at h2
  constructor
  · rintro ⟨x', hx, e⟩
    cases e
    rw [mem_spanL (by omega)] at hx
    have := h1.mpr ⟨by omega, by omega⟩
    exact le_of_mul_le (x := 4 * F.a) (by omega) (by omega)
  · intro q
    refine ⟨x, ?_, rfl⟩
    rw [mem_spanL (by omega)]
    have q1 := Int.mul_le_mul_of_nonneg_left q (by omega : (0 : Int) ≤ 4 * F.a)
    have := h1.mp (by omega)
    constructor <;> omega
theorem left_of_val {F : Fm} {M : Int} {p : Pt} (a : 0 < F.a) (q : val F p ≤ M) : 0 ≤ 4 * F.a * M - (wid F * p.y * p.y + 2 * skw F * p.y * p.z + cee F * p.z * p.z) := by
  have h2 := four_val F p
  have q1 := Int.mul_le_mul_of_nonneg_left q (by omega : (0 : Int) ≤ 4 * F.a)
  have := sq_nonneg (2 * F.a * p.x + F.f * p.y + F.e * p.z)
  omega
theorem z_of_left {F : Fm} {M y z : Int} (a : 0 < F.a) (w : 0 < wid F) (h : 0 ≤ 4 * F.a * M - (wid F * y * y + 2 * skw F * y * z + cee F * z * z)) : disc F * z * z ≤ M * wid F := by
  have h2 := wid_left F M y z
  have q3 := Int.mul_nonneg (Int.le_of_lt w) h
  have := sq_nonneg (wid F * y + skw F * z)
  have q4 := le_of_mul_le (x := 4 * F.a) (y := 0) (z := M * wid F - disc F * z * z) (by omega) (by rw [Int.mul_zero]; omega)
  omega
theorem mem_ptsTo {F : Fm} {M : Int} {p : Pt} (a : 0 < F.a) (w : 0 < wid F) (s : 0 < disc F) (h : 0 ≤ M) : p ∈ ptsTo F M ↔ val F p ≤ M := by
  obtain ⟨x, y, z⟩ := p
  unfold ptsTo
  rw [List.mem_flatMap]
  constructor
  · rintro ⟨z', hz, hp⟩
    rw [mem_range] at hz
    have zk := (z_ok (z := z') s w h).mp ⟨by omega, by omega⟩
    unfold ptsY at hp
    rw [List.mem_flatMap] at hp
    obtain ⟨y', hy, hp⟩ := hp
    have yk := (y_ok a w zk).mp hy
    have e : y' = y ∧ z' = z := by
      unfold ptsX at hp
      rw [List.mem_map] at hp
      obtain ⟨_, _, e⟩ := hp
      cases e
      exact ⟨rfl, rfl⟩
    obtain ⟨rfl, rfl⟩ := e
    exact (x_ok a yk).mp hp
  · intro q
    have yk := left_of_val a q
    have zk := z_of_left a w yk
    refine ⟨z, by rw [mem_range]; have := (z_ok (z := z) s w h).mpr zk; omega, ?_⟩
    unfold ptsY
    rw [List.mem_flatMap]
    exact ⟨y, (y_ok a w zk).mpr yk, (x_ok a yk).mpr q⟩
end K77
end
section
/-! how large the enumeration's numbers are -/
namespace K77
open L2
theorem abs_of_sq {x k : Int} (hk : 0 ≤ k) (h : x * x ≤ k * k) : -k ≤ x ∧ x ≤ k := by
  constructor
  · rcases Int.lt_or_le x (-k) with c | c
    · have h1 := sq_le_sq (x := k + 1) (y := -x) (by omega) (by omega)
      rw [Int.neg_mul_neg] at h1
      have h3 : (k + 1) * (k + 1) = k * k + 2 * k + 1 := by grind
      omega
    · exact c
  · rcases Int.lt_or_le k x with c | c
    · have h1 := sq_le_sq (x := k + 1) (y := x) (by omega) (by omega)
      have h3 : (k + 1) * (k + 1) = k * k + 2 * k + 1 := by grind
      omega
    · exact c
theorem mul_le {x y m n : Int} (hx : 0 ≤ x) (hy : 0 ≤ y) (h1 : x ≤ m) (h2 : y ≤ n) : x * y ≤ m * n := Int.mul_le_mul h1 h2 hy (Int.le_trans hx h1)
def dee (F : Fm) : Int := 4 * F.b * F.c - F.d * F.d
theorem wid_dee (F : Fm) : wid F * dee F = (2 * F.b * F.e - F.d * F.f) * (2 * F.b * F.e - F.d * F.f) + 4 * F.b * disc F := by unfold wid dee disc; grind
theorem dee_pos {F : Fm} (h : 0 < F.a) (w : 0 < wid F) (s : 0 < disc F) : 0 < dee F := by
  have h1 := wid_dee F
  have h2 := sq_nonneg (2 * F.b * F.e - F.d * F.f)
  have h3 := Int.mul_pos (Int.mul_pos (by omega : (0 : Int) < 4) (b_pos h w)) s
  exact pos_of_mul_pos (by omega) w
theorem two_le {x y z : Int} (hx : 0 < x) (hy : 0 < y) (x1 : x ≤ 4374) (y1 : y ≤ 4374) (h : 0 < 4 * x * y - z * z) : -8748 ≤ z ∧ z ≤ 8748 := by
  have h1 := mul_le (Int.le_of_lt hx) (Int.le_of_lt hy) x1 y1
  have h2 : 4 * x * y = 4 * (x * y) := by grind
  exact abs_of_sq (by omega) (by omega)
theorem Sm.b0 {F : Fm} (S : Sm F) : 0 < F.b := b_pos S.a0 S.w0
theorem Sm.c0 {F : Fm} (S : Sm F) : 0 < F.c := c_pos S.a0 S.w0 S.s0
theorem Sm.f {F : Fm} (S : Sm F) : -8748 ≤ F.f ∧ F.f ≤ 8748 := two_le S.a0 S.b0 S.a1 S.b1 (by have := S.w0; unfold wid at this; exact this)
theorem Sm.e {F : Fm} (S : Sm F) : -8748 ≤ F.e ∧ F.e ≤ 8748 := two_le S.a0 S.c0 S.a1 S.c1 (by have := cee_pos S.a0 S.w0 S.s0; unfold cee at this; exact this)
theorem Sm.d {F : Fm} (S : Sm F) : -8748 ≤ F.d ∧ F.d ≤ 8748 := two_le S.b0 S.c0 S.b1 S.c1 (by have := dee_pos S.a0 S.w0 S.s0; unfold dee at this; exact this)
theorem bn_of {n : Nat} {x k : Int} (h : -k ≤ x ∧ x ≤ k) (hk : k < ((2 ^ n : Nat) : Int)) : Bn n x := ⟨by obtain ⟨a, b⟩ := h; omega⟩
theorem Sm.bn {F : Fm} (S : Sm F) : Bn6 14 F.a F.b F.c F.d F.e F.f := by
  have a := S.a0; have b := S.b0; have c := S.c0; have a1 := S.a1; have b1 := S.b1; have c1 := S.c1
  exact ⟨bn_of (k := 8748) (by omega) (by decide), bn_of (k := 8748) (by omega) (by decide), bn_of (k := 8748) (by omega) (by decide), bn_of S.d (by decide), bn_of S.e (by decide), bn_of S.f (by decide)⟩
theorem Sm.wid_le {F : Fm} (S : Sm F) : wid F ≤ 76527504 := by
  have h1 := mul_le (Int.le_of_lt S.a0) (Int.le_of_lt S.b0) S.a1 S.b1
  have h2 := sq_nonneg F.f
  have h3 : wid F = 4 * (F.a * F.b) - F.f * F.f := by unfold wid; grind
  omega
theorem Sm.cee_le {F : Fm} (S : Sm F) : cee F ≤ 76527504 := by
  have h1 := mul_le (Int.le_of_lt S.a0) (Int.le_of_lt S.c0) S.a1 S.c1
  have h2 := sq_nonneg F.e
  have h3 : cee F = 4 * (F.a * F.c) - F.e * F.e := by unfold cee; grind
  omega
theorem z_le {F : Fm} {M z : Int} (S : Sm F) (m0 : 0 ≤ M) (m1 : M ≤ 4374) (h : disc F * z * z ≤ M * wid F) : -600000 ≤ z ∧ z ≤ 600000 := by
  have h1 := mul_le m0 (Int.le_of_lt S.w0) m1 S.wid_le
  have h2 : z * z ≤ disc F * z * z := by
    have := Int.mul_le_mul_of_nonneg_right (show (1 : Int) ≤ disc F from S.s0) (sq_nonneg z)
    rw [Int.one_mul] at this
    rw [Int.mul_assoc]
    exact this
  exact abs_of_sq (by omega) (by omega)
theorem cee_left (F : Fm) (M y z : Int) : cee F * (4 * F.a * M - (wid F * y * y + 2 * skw F * y * z + cee F * z * z)) = 4 * F.a * (M * cee F - disc F * y * y) - (cee F * z + skw F * y) * (cee F * z + skw F * y) := by
  have h := wid_cee F
  grind
theorem y_le {F : Fm} {M y z : Int} (S : Sm F) (m0 : 0 ≤ M) (m1 : M ≤ 4374) (h : 0 ≤ 4 * F.a * M - (wid F * y * y + 2 * skw F * y * z + cee F * z * z)) : -600000 ≤ y ∧ y ≤ 600000 := by
  have c0 := cee_pos S.a0 S.w0 S.s0
  have h2 := cee_left F M y z
  have q3 := Int.mul_nonneg (Int.le_of_lt c0) h
  have := sq_nonneg (cee F * z + skw F * y)
  have a0 := S.a0
  have q4 := le_of_mul_le (x := 4 * F.a) (y := 0) (z := M * cee F - disc F * y * y) (by omega) (by rw [Int.mul_zero]; omega)
  have h1 := mul_le m0 (Int.le_of_lt c0) m1 S.cee_le
  have h2 : y * y ≤ disc F * y * y := by
    have := Int.mul_le_mul_of_nonneg_right (show (1 : Int) ≤ disc F from S.s0) (sq_nonneg y)
    rw [Int.one_mul] at this
    rw [Int.mul_assoc]
    exact this
  exact abs_of_sq (by omega) (by omega)
theorem hiZ_le {F : Fm} {M : Int} (S : Sm F) (m0 : 0 ≤ M) (m1 : M ≤ 4374) : 0 ≤ hiZ F M ∧ hiZ F M ≤ 600000 := by
  have h0 := isq_nonneg (M * wid F / disc F)
  exact ⟨h0, (z_le S m0 m1 ((z_ok S.s0 S.w0 m0).mp ⟨by unfold hiZ; omega, Int.le_refl _⟩)).2⟩
/-! ### the spans' lengths -/
theorem rg_of {l m s r t k : Int} (hs : 0 < s) (hk : 0 ≤ k) (k1 : k ≤ 10000) (e1 : l = -r - t) (e2 : m = r - t) (hr0 : 0 ≤ r) (hr : r ≤ k * s) (ht : -(2 ^ 60) ≤ t ∧ t ≤ 2 ^ 60) (hs1 : s ≤ 2 ^ 40) : RgOk (spanLo l s) (spanHi m s) ∧ spanHi m s - spanLo l s ≤ 2 * k + 1 := by
  have q1 : -l / s * s ≤ -l := Int.ediv_mul_le _ (by omega)
  have q2 : m / s * s ≤ m := Int.ediv_mul_le _ (by omega)
  have q3 : -l < (-l / s + 1) * s := Int.lt_ediv_add_one_mul_self _ hs
  have q4 : m < (m / s + 1) * s := Int.lt_ediv_add_one_mul_self _ hs
  have hks : k * s ≤ 10000 * 2 ^ 40 := mul_le hk (Int.le_of_lt hs) k1 hs1
  have len : spanHi m s - spanLo l s ≤ 2 * k + 1 := by
    unfold spanHi spanLo
    have : m / s + -l / s ≤ 2 * k := by
      have h : (m / s + -l / s) * s ≤ 2 * k * s := by
        rw [Int.add_mul]
        have : 2 * k * s = 2 * (k * s) := by grind
        omega
      exact Int.le_of_mul_le_mul_right h hs
    omega
  have ab : ∀ x : Int, -(2 ^ 61) ≤ x → x ≤ 2 ^ 61 → -(2 ^ 61) ≤ x / s ∧ x / s ≤ 2 ^ 61 := fun x h1 h2 => by
    constructor
    · exact (Int.le_ediv_iff_mul_le hs).mpr (Int.le_trans (by have := Int.mul_le_mul_of_nonpos_left (a := -(2 ^ 61)) (b := s) (c := 1) (by decide) (by omega); omega) h1)
    · rcases Int.lt_or_le (2 ^ 61) (x / s) with c | c
      · have h3 : x / s * s ≤ x := Int.ediv_mul_le _ (by omega)
        have h4 := Int.mul_le_mul_of_nonneg_left (show (1 : Int) ≤ s by omega) (show 0 ≤ x / s by omega)
        omega
      · exact c
  have a1 := ab (-l) (by omega) (by omega)
  have a2 := ab m (by omega) (by omega)
  refine ⟨⟨?_, ?_, ?_, ?_, ?_⟩, len⟩
  · unfold spanLo; omega
  · unfold spanLo; omega
  · unfold spanHi; omega
  · unfold spanHi; omega
  · omega
theorem sk_le {F : Fm} {z : Int} (S : Sm F) (hz : -600000 ≤ z ∧ z ≤ 600000) : -(2 ^ 60) ≤ skw F * z ∧ skw F * z ≤ 2 ^ 60 := by
  have b := S.bn
  have h : Bn 60 (skw F * z) := by
    have zb : Bn 20 z := bn_of hz (by decide)
    have h1 : Bn 32 (skw F) := ((((Bn.of_le (n := 2) (k := 2) (by decide) (by decide)).mul b.a).mul b.d).sub (b.e.mul b.f)).mono (by decide)
    exact (h1.mul zb).mono (by decide)
  have := h.h
  omega
theorem rgY {F : Fm} {M z : Int} (S : Sm F) (m0 : 0 ≤ M) (m1 : M ≤ 4374) (h : disc F * z * z ≤ M * wid F) :
    RgOk (spanLo (-isq (4 * F.a * (M * wid F - disc F * z * z)) - skw F * z) (wid F)) (spanHi (isq (4 * F.a * (M * wid F - disc F * z * z)) - skw F * z) (wid F)) ∧
      spanHi (isq (4 * F.a * (M * wid F - disc F * z * z)) - skw F * z) (wid F) - spanLo (-isq (4 * F.a * (M * wid F - disc F * z * z)) - skw F * z) (wid F) ≤ 2 * 8748 + 1 := by
  refine rg_of (k := 8748) S.w0 (by decide) (by decide) rfl rfl (isq_nonneg _) ?_ (sk_le S (z_le S m0 m1 h)) (by have := S.wid_le; omega)
  refine isq_le (zin_nonneg S.a0 h) (Int.mul_nonneg (by decide) (Int.le_of_lt S.w0)) ?_
  have h1 : 0 ≤ disc F * z * z := by rw [Int.mul_assoc]; exact Int.mul_nonneg (Int.le_of_lt S.s0) (sq_nonneg z)
  have a0 := S.a0
  have h2 : 4 * F.a * (M * wid F - disc F * z * z) ≤ 4 * F.a * (M * wid F) := Int.mul_le_mul_of_nonneg_left (by omega) (by omega)
  have h3 := mul_le (Int.le_of_lt a0) m0 S.a1 m1
  have h4 : wid F ≤ wid F * wid F := by
    have := Int.mul_le_mul_of_nonneg_left (show (1 : Int) ≤ wid F from S.w0) (Int.le_of_lt S.w0)
    rw [Int.mul_one] at this
    exact this
  have h5 := mul_le (Int.mul_nonneg (Int.le_of_lt a0) m0) (Int.le_of_lt S.w0) h3 h4
  have e1 : 4 * F.a * (M * wid F) = 4 * (F.a * M * wid F) := by grind
  have e2 : 8748 * wid F * (8748 * wid F) = 4 * (4374 * 4374 * (wid F * wid F)) := by grind
  omega
theorem left_le {F : Fm} {M y z : Int} (S : Sm F) : 4 * F.a * M - (wid F * y * y + 2 * skw F * y * z + cee F * z * z) ≤ 4 * F.a * M := by
  have h1 : 0 ≤ disc F * z * z := by rw [Int.mul_assoc]; exact Int.mul_nonneg (Int.le_of_lt S.s0) (sq_nonneg z)
  have a0 := S.a0
  have h2 : 4 * F.a * (M * wid F - disc F * z * z) ≤ 4 * F.a * (M * wid F) := Int.mul_le_mul_of_nonneg_left (by omega) (by omega)
  have h3 := wid_left F M y z
  have h4 := sq_nonneg (wid F * y + skw F * z)
  have e1 : 4 * F.a * (M * wid F) = wid F * (4 * F.a * M) := by grind
  exact le_of_mul_le S.w0 (by omega)
theorem fe_le {F : Fm} {y z : Int} (S : Sm F) (hy : -600000 ≤ y ∧ y ≤ 600000) (hz : -600000 ≤ z ∧ z ≤ 600000) : -(2 ^ 60) ≤ F.f * y + F.e * z ∧ F.f * y + F.e * z ≤ 2 ^ 60 := by
  have b := S.bn
  have yb : Bn 20 y := bn_of hy (by decide)
  have zb : Bn 20 z := bn_of hz (by decide)
  have h : Bn 60 (F.f * y + F.e * z) := ((b.f.mul yb).add (b.e.mul zb)).mono (by decide)
  have := h.h
  omega
theorem rgX {F : Fm} {M y z : Int} (S : Sm F) (m0 : 0 ≤ M) (m1 : M ≤ 4374) (h : 0 ≤ 4 * F.a * M - (wid F * y * y + 2 * skw F * y * z + cee F * z * z)) :
    RgOk (spanLo (-isq (4 * F.a * M - (wid F * y * y + 2 * skw F * y * z + cee F * z * z)) - F.f * y - F.e * z) (2 * F.a)) (spanHi (isq (4 * F.a * M - (wid F * y * y + 2 * skw F * y * z + cee F * z * z)) - F.f * y - F.e * z) (2 * F.a)) := by
  have a0 := S.a0
  refine (rg_of (k := 67) (r := isq (4 * F.a * M - (wid F * y * y + 2 * skw F * y * z + cee F * z * z))) (t := F.f * y + F.e * z) (by omega) (by decide) (by decide) (by omega) (by omega) (isq_nonneg _) ?_ (fe_le S (y_le S m0 m1 h) (z_le S m0 m1 (z_of_left a0 S.w0 h))) (by have := S.a1; omega)).1
  refine isq_le h (by omega) ?_
  have h1 := left_le (M := M) (y := y) (z := z) S
  have h4 : F.a ≤ F.a * F.a := by
    have := Int.mul_le_mul_of_nonneg_left (show (1 : Int) ≤ F.a from a0) (Int.le_of_lt a0)
    rw [Int.mul_one] at this
    exact this
  have h5 := mul_le (Int.le_of_lt a0) m0 h4 m1
  have e1 : 4 * F.a * M = 4 * (F.a * M) := by grind
  have e2 : 67 * (2 * F.a) * (67 * (2 * F.a)) = 4 * (F.a * F.a * 4489) := by grind
  have h6 := sq_nonneg F.a
  omega
end K77
end
section
namespace K77
open PySem PySem.Spec PyProof.Rows L2 DL
local macro_rules | `(tactic| walk_at "bn") => `(tactic| first
  | assumption
  | (apply Bn.add <;> walk_at "bn")
  | (apply Bn.sub <;> walk_at "bn")
  | (apply Bn.mul <;> walk_at "bn")
  | (apply Bn.neg; walk_at "bn")
  | exact Bn.lit (by decide))
local macro_rules | `(tactic| walk_at "cm") => `(tactic| (apply Bn.cmul; (focus walk_at "bn"); (focus walk_at "bn"); (focus decide)))
local macro_rules | `(tactic| walk_at "st") => `(tactic| first
  | (refine put_e ?_; intro δ1 e; simp only [List.set_cons_zero, List.set_cons_succ, wipeD, List.map_cons, List.map_nil] at e; subst e)
  | refine ⟨_, rfl, ?_⟩
  | (refine ⟨_, _, rfl, rfl, ?cm, ?_⟩; (case cm => walk_at "cm"))
  | refine ⟨_, _, rfl, rfl, ?_⟩
  | refine ⟨_, rfl, rfl, ?_⟩
  | refine ⟨_, _, rfl, ?_⟩
  | refine ⟨_, _, _, rfl, ?_⟩
  | refine ⟨_, _, .inl rfl, ?_⟩
  | refine ⟨_, .inl rfl, ?_⟩
  | refine ⟨_, .inr rfl, ?_⟩
  | refine ⟨rfl, ?_⟩
  | refine ⟨_, _, _, rfl, rfl, rfl, ?_⟩
  | refine if_t rfl ?_
  | refine if_f rfl ?_)
section
variable {P : Program} {w : World} {K : PySem.W.Frag} {mg : Str → Option Value} {base : Heap} {T : List (Addr × Str)}
theorem rangeD_span (l m s : Int) : rangeD (spanLo l s) (spanHi m s - spanLo l s).toNat = (spanL l m s).map D.int := by
  unfold rangeD spanL
  rw [List.map_map]
  rfl
theorem pure_ints : ∀ l : List Int, pureAll (l.map D.int) = true
  | [] => rfl
  | _ :: r => pure_ints r
def Ph_spanned : PhiD := fun ds mu Q => ∃ l m s, ds = [.int l, .int m, .int s] ∧ 0 < s ∧ Bn 6000 l ∧ Bn 6000 m ∧ Bn 6000 s ∧ RgOk (spanLo l s) (spanHi m s) ∧ Q (.lst ((spanL l m s).map D.int)) mu
theorem ok_spanned (A : Al K mg base T) : FnOk P w K mg base CX0 1 A.f_spanned A.fd_spanned ["least", "most", "step"] (spD K T Ph_spanned) := by
  refine fn_d A.F_spanned sc_spanned ?len (fun cdv Ar outer s H E hr => (ssd_one (sd_ret (ed_lr rfl rfl A.z_list rfl A.z_range (ed_neg (ed_op op_fdivW od_I (ed_neg (ed_var 0 (pv 0))) (ed_var 2 (pv 2)))) (ed_op op_add od_I0 (ed_op op_fdivW od_I (ed_var 1 (pv 1)) (ed_var 2 (pv 2))) ed_int))))) ?rd
  · rintro ds mu Qd ⟨l, m, s, rfl, _⟩; rfl
  · rintro ds mu Qd ⟨l, m, s, rfl, h0, bl, bm, bs, rg, hq⟩
    refine put_e ?_; intro δ1 e; rw [st_spanned] at e; subst e
    repeat walk_at "st"
    refine ⟨Bn.cdiv h0 bs (by decide), _, rfl, ?_⟩
    repeat walk_at "st"
    refine ⟨Bn.cdiv h0 bs (by decide), ?_⟩
    repeat walk_at "st"
    refine ⟨rg, ?_⟩
    rw [show m / s + 1 = spanHi m s from rfl, show -(-l / s) = spanLo l s from rfl, rangeD_span]
    exact end_ok (pure_ints _) hq
/-! ### the generator's body -/
theorem gsts_conv {X : Cx} {C DD : Addr} {st : List Stmt} {φ ψ : DGn} (h : GSts X T C DD st φ) (c : ∀ D L δ, ψ D L δ → φ D L δ) : GSts X T C DD st ψ := fun A ip L Hb Hw cc fs K J gd lv s δ D g k at_ hφ => h A ip L Hb Hw cc fs K J gd lv s δ D g k at_ (c _ _ _ hφ)
theorem gfor_flat {gd : DG} {φ : DGn} {G : GE} {L : List D} {δ : Dl} {ds : List D} {rest : List D} (pts : D → List D) (Q : Dl → Prop) (h0 : L = ds.flatMap pts ++ rest) (hQ : Q δ)
    (hs : ∀ x ∈ ds, ∀ R δ, Q δ → gd x δ [] fun δ1 mu => mu = [] ∧ φ { nx := fun L' δ' => L' = R ∧ Q δ', ct := fun L' δ' => L' = R ∧ Q δ', bk := G.nx } (pts x ++ R) δ1) (he : ∀ δ, Q δ → G.nx rest δ) :
    gWalk gd φ G ds L δ := by
  refine ⟨fun j L δ => L = (ds.drop j).flatMap pts ++ rest ∧ Q δ, ⟨by rw [List.drop_zero]; exact h0, hQ⟩, fun j x L δ hx ⟨e, q⟩ => ?_, fun L δ ⟨e, q⟩ => ?_⟩
  · obtain ⟨hj, ex⟩ := List.getElem?_eq_some_iff.mp hx
    have e2 : ds.drop j = x :: ds.drop (j + 1) := by rw [← ex]; exact List.drop_eq_getElem_cons hj
    rw [e2, List.flatMap_cons, List.append_assoc] at e
    subst e
    exact hs x (List.mem_of_getElem? hx) _ δ q
  · rw [List.drop_length] at e
    subst e
    exact he δ q
theorem bn_isq {n : Int} {m : Nat} (h0 : 0 ≤ n) (h : Bn m n) : Bn m (isq n) := by
  have h1 := isq_sq h0
  have h2 := isq_nonneg n
  have h3 : isq n ≤ n := by
    rcases Int.lt_or_le 0 (isq n) with c | c
    · have := Int.mul_le_mul_of_nonneg_left (show (1 : Int) ≤ isq n from c) h2
      rw [Int.mul_one] at this
      omega
    · omega
  have := h.h
  exact ⟨by omega⟩
theorem mem_rangeD {lo hi : Int} {x : D} (h : x ∈ rangeD lo (hi - lo).toNat) : ∃ z, x = .int z ∧ lo ≤ z ∧ z < hi := by
  unfold rangeD at h
  rw [List.mem_map] at h
  obtain ⟨i, hi', e⟩ := h
  rw [List.mem_range] at hi'
  exact ⟨_, e.symm, by omega, by omega⟩
def ofI (f : Int → List D) : D → List D
  | .int z => f z
  | _ => []
theorem flat_ofI (f : Int → List D) (l : List Int) : (l.map D.int).flatMap (ofI f) = l.flatMap f := by rw [List.flatMap_map]; rfl
/-- the slots of points_to, the last ones whatever they be -/
def Sl (F : Fm) (M : Int) (δ : Dl) : Prop := ∃ o12 o13 o14 o15 o16 o17, δ = [some F.D, some (.int M), some (.int F.a), some (.int F.b), some (.int F.c), some (.int F.d), some (.int F.e), some (.int F.f), some (.int (wid F)), some (.int (skw F)), some (.int (disc F)), some (.int (hiZ F M)), o12, o13, o14, o15, o16, o17]
def SlZ (F : Fm) (M z : Int) (δ : Dl) : Prop := ∃ o13 o14 o15 o16 o17, δ = [some F.D, some (.int M), some (.int F.a), some (.int F.b), some (.int F.c), some (.int F.d), some (.int F.e), some (.int F.f), some (.int (wid F)), some (.int (skw F)), some (.int (disc F)), some (.int (hiZ F M)), some (.int z), o13, o14, o15, o16, o17]
def SlY (F : Fm) (M z y : Int) (δ : Dl) : Prop := ∃ o13 o15 o16 o17, δ = [some F.D, some (.int M), some (.int F.a), some (.int F.b), some (.int F.c), some (.int F.d), some (.int F.e), some (.int F.f), some (.int (wid F)), some (.int (skw F)), some (.int (disc F)), some (.int (hiZ F M)), some (.int z), o13, some (.int y), o15, o16, o17]
def gd_points_to : DGn := fun G L δ => ∃ F M, Sm F ∧ 0 ≤ M ∧ M ≤ 4374 ∧ δ = startD N_points_to [F.D, .int M] ∧ L = (ptsTo F M).map Pt.D ∧ ∀ δ', G.nx [] δ'
theorem gb_points_to (A : Al K mg base T) (cdv : Value) (A_ : Around) (outer : List Env) (s : Shared) (H : Hp) (pn : List (Addr × Obj)) (C DD : Addr) (hr : Room 1 (A_.deeper (envOfC "points_to" (defScope s_points_to) s.heap.objs.size A.f_points_to cdv))) :
    GSts (gxOf P w K mg base N_points_to "points_to" (defScope s_points_to) A.f_points_to cdv A_ outer s H pn) T C DD (defBody s_points_to) gd_points_to := by
  refine gsts_conv (gsts_cons (gst_plain (fun _ _ h => h) (sd_asg (ed_var 0 (pv 0)) (gd_tup (n := 6) rfl (gsd_cons (gd_name (i := 2) sc_points_to.nd rfl (.inl rfl)) (gsd_cons (gd_name (i := 3) sc_points_to.nd rfl (.inl rfl)) (gsd_cons (gd_name (i := 4) sc_points_to.nd rfl (.inl rfl)) (gsd_cons (gd_name (i := 5) sc_points_to.nd rfl (.inl rfl)) (gsd_cons (gd_name (i := 6) sc_points_to.nd rfl (.inl rfl)) (gsd_cons (gd_name (i := 7) sc_points_to.nd rfl (.inl rfl)) gsd_nil)))))))))
    (gsts_cons (gst_plain (fun _ _ h => h) (sd_par3 (ps_par3 (i := 8) (j := 9) (l := 10) rfl sc_points_to.nd rfl rfl rfl (by decide) (by decide) (by decide) rfl rfl rfl (ad_cons (ed_op op_sub od_I0 (ed_op op_mulW od_I (ed_op op_mulW od_I ed_int (ed_var 2 (pv 2))) (ed_var 3 (pv 3))) (ed_op op_mulW od_I (ed_var 7 (pv 7)) (ed_var 7 (pv 7)))) (ad_cons (ed_op op_sub od_I0 (ed_op op_mulW od_I (ed_op op_mulW od_I ed_int (ed_var 2 (pv 2))) (ed_var 5 (pv 5))) (ed_op op_mulW od_I (ed_var 6 (pv 6)) (ed_var 7 (pv 7)))) (ad_cons (ed_call (ok_discriminant_of A) hr rfl A.g_discriminant_of A.F_discriminant_of.kp A.b_discriminant_of (ad_cons (ed_var 0 (pv 0)) ad_nil)) ad_nil))) (by rfl))))
    (gsts_cons (gst_plain (fun _ _ h => h) (sd_set (i := 11) sc_points_to.nd rfl (.inl rfl) (ed_callBf rc_isqrt cr_isqrt rfl A.m_isqrt (ad_cons (ed_op op_fdivW od_I (ed_op op_mulW od_I (ed_var 1 (pv 1)) (ed_var 8 (pv 8))) (ed_var 10 (pv 10))) ad_nil))))
    (gsts_one (gst_for (fun _ _ h => h) rfl (id_range2 rfl A.z_range (ad_cons (ed_neg (ed_var 11 (pv 11))) (ad_cons (ed_op op_add od_I0 (ed_var 11 (pv 11)) ed_int) ad_nil))) (gd_name (i := 12) sc_points_to.nd rfl (.inl rfl)) (gsts_cons (gst_plain (fun _ _ h => h) (sd_set (i := 13) sc_points_to.nd rfl (.inl rfl) (ed_callBf rc_isqrt cr_isqrt rfl A.m_isqrt (ad_cons (ed_op op_mulW od_I (ed_op op_mulW od_I ed_int (ed_var 2 (pv 2))) (ed_op op_sub od_I0 (ed_op op_mulW od_I (ed_var 1 (pv 1)) (ed_var 8 (pv 8))) (ed_op op_mulW od_I (ed_op op_mulW od_I (ed_var 10 (pv 10)) (ed_var 12 (pv 12))) (ed_var 12 (pv 12))))) ad_nil))))
    (gsts_one (gst_for (fun _ _ h => h) rfl (id_list (ed_call (ok_spanned A) hr rfl A.g_spanned A.F_spanned.kp A.b_spanned (ad_cons (ed_op op_sub od_I0 (ed_neg (ed_var 13 (pv 13))) (ed_op op_mulW od_I (ed_var 9 (pv 9)) (ed_var 12 (pv 12)))) (ad_cons (ed_op op_sub od_I0 (ed_var 13 (pv 13)) (ed_op op_mulW od_I (ed_var 9 (pv 9)) (ed_var 12 (pv 12)))) (ad_cons (ed_var 8 (pv 8)) ad_nil))))) (gd_name (i := 14) sc_points_to.nd rfl (.inl rfl)) (gsts_cons (gst_plain (fun _ _ h => h) (sd_set (i := 15) sc_points_to.nd rfl (.inl rfl) (ed_op op_sub od_I0 (ed_op op_mulW od_I (ed_op op_mulW od_I ed_int (ed_var 2 (pv 2))) (ed_var 1 (pv 1))) (ed_op op_add od_I0 (ed_op op_add od_I0 (ed_op op_mulW od_I (ed_op op_mulW od_I (ed_var 8 (pv 8)) (ed_var 14 (pv 14))) (ed_var 14 (pv 14))) (ed_op op_mulW od_I (ed_op op_mulW od_I (ed_op op_mulW od_I ed_int (ed_var 9 (pv 9))) (ed_var 14 (pv 14))) (ed_var 12 (pv 12)))) (ed_op op_mulW od_I (ed_op op_mulW od_I (ed_op op_sub od_I0 (ed_op op_mulW od_I (ed_op op_mulW od_I ed_int (ed_var 2 (pv 2))) (ed_var 4 (pv 4))) (ed_op op_mulW od_I (ed_var 6 (pv 6)) (ed_var 6 (pv 6)))) (ed_var 12 (pv 12))) (ed_var 12 (pv 12)))))))
    (gsts_cons (gst_plain (fun _ _ h => h) (sd_set (i := 16) sc_points_to.nd rfl (.inl rfl) (ed_callBf rc_isqrt cr_isqrt rfl A.m_isqrt (ad_cons (ed_var 15 (pv 15)) ad_nil))))
    (gsts_one (gst_for (fun _ _ h => h) rfl (id_list (ed_call (ok_spanned A) hr rfl A.g_spanned A.F_spanned.kp A.b_spanned (ad_cons (ed_op op_sub od_I0 (ed_op op_sub od_I0 (ed_neg (ed_var 16 (pv 16))) (ed_op op_mulW od_I (ed_var 7 (pv 7)) (ed_var 14 (pv 14)))) (ed_op op_mulW od_I (ed_var 6 (pv 6)) (ed_var 12 (pv 12)))) (ad_cons (ed_op op_sub od_I0 (ed_op op_sub od_I0 (ed_var 16 (pv 16)) (ed_op op_mulW od_I (ed_var 7 (pv 7)) (ed_var 14 (pv 14)))) (ed_op op_mulW od_I (ed_var 6 (pv 6)) (ed_var 12 (pv 12)))) (ad_cons (ed_op op_mulW od_I ed_int (ed_var 2 (pv 2))) ad_nil))))) (gd_name (i := 17) sc_points_to.nd rfl (.inl rfl)) (gsts_one (gst_yield (fun _ _ h => h) (ed_tup (ad_cons (ed_var 17 (pv 17)) (ad_cons (ed_var 14 (pv 14)) (ad_cons (ed_var 12 (pv 12)) ad_nil)))))))))))))))))) fun G L δ ⟨F, M, S, m0, m1, eδ, eL, hG⟩ => ?_
  rw [st_points_to] at eδ
  subst eδ eL
  obtain ⟨ba, bb, bc, bd, be, bf⟩ := S.bn
  have bM : Bn 14 M := bn_of (k := 4374) ⟨by omega, m1⟩ (by decide)
  have bw : Bn 40 (wid F) := ((((Bn.of_le (n := 3) (k := 4) (by decide) (by decide)).mul ba).mul bb).sub (bf.mul bf)).mono (by decide)
  have bs : Bn 40 (skw F) := ((((Bn.of_le (n := 2) (k := 2) (by decide) (by decide)).mul ba).mul bd).sub (be.mul bf)).mono (by decide)
  have bdi : Bn 100 (disc F) := (((((((Bn.of_le (n := 3) (k := 4) (by decide) (by decide)).mul ba).mul bb).mul bc).add ((bd.mul be).mul bf)).sub ((ba.mul bd).mul bd)).sub ((bb.mul be).mul be)).sub ((bc.mul bf).mul bf) |>.mono (by decide)
  have lt1000 : ∀ {i : Int}, Bn 900 i → i < 2 ^ 1000 := fun {i} h => by
    have h1 := (h.mono (n := 1000) (by decide)).h
    have h2 : ((2 ^ 1000 : Nat) : Int) = 2 ^ 1000 := by norm_cast
    omega
  unfold gSeq gPlain
  repeat walk_at "st"
  refine ⟨_, _, _, _, _, _, rfl, S.bn.mono (by decide), ?_⟩
  repeat walk_at "st"
  rw [show 4 * F.a * F.b - F.f * F.f = wid F from rfl, show 2 * F.a * F.d - F.e * F.f = skw F from rfl, show disc { a := F.a, b := F.b, c := F.c, d := F.d, e := F.e, f := F.f } = disc F from rfl]
  refine ⟨Bn.cdiv S.s0 bdi (by decide), ?_⟩
  repeat walk_at "st"
  have mw0 : 0 ≤ M * wid F := Int.mul_nonneg m0 (Int.le_of_lt S.w0)
  refine ⟨Int.ediv_nonneg mw0 (Int.le_of_lt S.s0), Int.lt_of_le_of_lt (Int.ediv_le_self _ mw0) (lt1000 ((bM.mul bw).mono (by decide))), ?_⟩
  repeat walk_at "st"
  rw [show ((PySem.Float64.isqrt (M * wid F / disc F).toNat : Nat) : Int) = hiZ F M from rfl]
  have hz := hiZ_le S m0 m1
  have bh : Bn 20 (hiZ F M) := bn_of (k := 600000) ⟨by omega, hz.2⟩ (by decide)
  refine ⟨⟨by omega, by omega⟩, ⟨by omega, by omega⟩, rfl, ?_⟩
  refine gfor_flat (ofI fun z => (ptsY F M z).map Pt.D) (Sl F M) (rest := []) ?h0 ⟨_, _, _, _, _, _, rfl⟩ (fun x hx R δ hδ => ?hs) fun δ _ => hG δ
  case h0 =>
    rw [List.append_nil]
    unfold ptsTo rangeD
    rw [List.flatMap_map, List.map_flatMap, List.flatMap_map]
    rfl
  obtain ⟨z, rfl, z1, z2⟩ := mem_rangeD hx
  obtain ⟨o12, o13, o14, o15, o16, o17, rfl⟩ := hδ
  have zk := (z_ok (z := z) S.s0 S.w0 m0).mp ⟨by omega, by omega⟩
  have zl := z_le S m0 m1 zk
  have bz : Bn 20 z := bn_of zl (by decide)
  repeat walk_at "st"
  have bin : Bn 300 (4 * F.a * (M * wid F - disc F * z * z)) := (((Bn.of_le (n := 3) (k := 4) (by decide) (by decide)).mul ba).mul ((bM.mul bw).sub ((bdi.mul bz).mul bz))).mono (by decide)
  refine ⟨zin_nonneg S.a0 zk, lt1000 (bin.mono (by decide)), ?_⟩
  have br := bn_isq (zin_nonneg S.a0 zk) bin
  repeat walk_at "st"
  rw [show ((PySem.Float64.isqrt (4 * F.a * (M * wid F - disc F * z * z)).toNat : Nat) : Int) = isq (4 * F.a * (M * wid F - disc F * z * z)) from rfl]
  have bsz := bs.mul bz
  refine ⟨S.w0, (br.neg.sub bsz).mono (by decide), (br.sub bsz).mono (by decide), bw.mono (by decide), (rgY S m0 m1 zk).1, _, rfl, rfl, ?_⟩
  refine gfor_flat (ofI fun y => (ptsX F M z y).map Pt.D) (SlZ F M z) (rest := R) ?h02 ⟨_, _, _, _, _, rfl⟩ (fun x hx R δ hδ => ?hs2) fun δ hδ => ⟨rfl, ?he2⟩
  case h02 =>
    rw [flat_ofI]
    show (ptsY F M z).map Pt.D ++ R = _
    unfold ptsY
    rw [List.map_flatMap]
  case he2 =>
    obtain ⟨_, _, _, _, _, rfl⟩ := hδ
    exact ⟨_, _, _, _, _, _, rfl⟩
  obtain ⟨y, hy, rfl⟩ := List.mem_map.mp hx
  obtain ⟨o13, o14, o15, o16, o17, rfl⟩ := hδ
  have yk := (y_ok S.a0 S.w0 zk).mp hy
  have yl := y_le S m0 m1 yk
  have bY : Bn 20 y := bn_of yl (by decide)
  repeat walk_at "st"
  rw [show 4 * F.a * F.c - F.e * F.e = cee F from rfl]
  have bce : Bn 40 (cee F) := ((((Bn.of_le (n := 3) (k := 4) (by decide) (by decide)).mul ba).mul bc).sub (be.mul be)).mono (by decide)
  have bl : Bn 300 (4 * F.a * M - (wid F * y * y + 2 * skw F * y * z + cee F * z * z)) := ((((Bn.of_le (n := 3) (k := 4) (by decide) (by decide)).mul ba).mul bM).sub ((((bw.mul bY).mul bY).add ((((Bn.of_le (n := 2) (k := 2) (by decide) (by decide)).mul bs).mul bY).mul bz)).add ((bce.mul bz).mul bz))).mono (by decide)
  refine ⟨yk, lt1000 (bl.mono (by decide)), ?_⟩
  have brt := bn_isq yk bl
  repeat walk_at "st"
  rw [show ((PySem.Float64.isqrt (4 * F.a * M - (wid F * y * y + 2 * skw F * y * z + cee F * z * z)).toNat : Nat) : Int) = isq (4 * F.a * M - (wid F * y * y + 2 * skw F * y * z + cee F * z * z)) from rfl]
  have a0 := S.a0
  have b1 := bf.mul bY
  have b2 := be.mul bz
  refine ⟨by omega, ((brt.neg.sub b1).sub b2).mono (by decide), ((brt.sub b1).sub b2).mono (by decide), Bn.mono (m := 20) (((Bn.of_le (n := 2) (k := 2) (by decide) (by decide)).mul ba).mono (by decide)) (by decide), rgX S m0 m1 yk, _, rfl, rfl, ?_⟩
  refine gfor_flat (ofI fun x => [Pt.D ⟨x, y, z⟩]) (SlY F M z y) (rest := R) ?h03 ⟨_, _, _, _, rfl⟩ (fun x hx R δ hδ => ?hs3) fun δ hδ => ⟨rfl, ?he3⟩
  case h03 =>
    rw [flat_ofI]
    show (ptsX F M z y).map Pt.D ++ R = _
    unfold ptsX
    rw [List.map_map, List.map_eq_flatMap]
    rfl
  case he3 =>
    obtain ⟨_, _, _, _, rfl⟩ := hδ
    exact ⟨_, _, _, _, _, rfl⟩
  obtain ⟨x, hxx, rfl⟩ := List.mem_map.mp hx
  obtain ⟨o13, o15, o16, o17, rfl⟩ := hδ
  repeat walk_at "st"
  exact ⟨three, rfl, rfl, R, rfl, rfl, _, _, _, _, rfl⟩
/-! ### points_with -/
theorem pws_by {X : Cx} {sc : Scope} (hk : sc.kind = .function) (hn : sc.names = ([((".0" : Str), NameKind.local), (("point" : Str), NameKind.local), (("value_at" : Str), NameKind.globalImplicit), (("form" : Str), NameKind.free), (("value" : Str), NameKind.free)] : List (Str × NameKind))) (k0 : X.env.scope.kind = .function)
    (h1 : X.env.scope.names.lookup ("form" : Str) = some .cell) (h2 : X.env.scope.names.lookup ("value" : Str) = some .cell) : PwS X sc where
  kind := hk
  uniq := by rw [hn]; decide +kernel
  free := fun y hy e => by
    rw [hn] at hy
    simp only [List.mem_cons, List.not_mem_nil, or_false] at hy
    rcases hy with rfl | rfl | rfl | rfl | rfl
    · cases e
    · cases e
    · cases e
    · exact h1
    · exact h2
  point := by unfold relS; rw [hn]; rfl
  form := by
    unfold relS; rw [hn, k0]
    simp only [List.map_cons, List.map_nil]
    rw [h1, h2]
    rfl
  value := by
    unfold relS; rw [hn, k0]
    simp only [List.map_cons, List.map_nil]
    rw [h1, h2]
    rfl
  va := by unfold relS; rw [hn]; rfl
  cform := fun n cells c e => by
    rw [hn]
    show List.lookup ("form" : Str) [(("value" : Str), (cells.lookup ("value" : Str)).getD 0), (("form" : Str), (cells.lookup ("form" : Str)).getD 0)] = some c
    rw [e]
    rfl
  cvalue := fun n cells c e => by
    rw [hn]
    show List.lookup ("value" : Str) [(("value" : Str), (cells.lookup ("value" : Str)).getD 0), (("form" : Str), (cells.lookup ("form" : Str)).getD 0)] = some c
    rw [e]
    rfl
  pushed := fun h => by rw [hn]; rfl
def Ph_points_with : PhiD := fun ds mu Q => ∃ F n, ds = [F.D, .int n] ∧ Sm F ∧ 0 ≤ n ∧ n ≤ 4374 ∧ ((ptsTo F n).filter fun p => decide (val F p = n)).length ≤ sizeLine ∧ Q (.lst (((ptsTo F n).filter fun p => decide (val F p = n)).map Pt.D)) mu
theorem rd_points_to : ∀ F n L, (Sm F ∧ 0 ≤ n ∧ n ≤ 4374 ∧ L = ptsTo F n) → Put (startD N_points_to [Fm.D F, .int n]) fun δ => gd_points_to { nx := fun L' _ => L' = [] } (L.map Pt.D) δ := fun F n L ⟨S, h0, h1, e⟩ δ eδ => by
  subst e
  exact ⟨F, n, S, h0, h1, eδ, rfl, fun _ => rfl⟩
theorem val_le_bn {F : Fm} {M : Int} (S : Sm F) (h0 : 0 ≤ M) (h1 : M ≤ 4374) {p : Pt} (hv : val F p ≤ M) : Bn3 64 p.x p.y p.z := by
  have yk := left_of_val S.a0 hv
  have yl := y_le S h0 h1 yk
  have zl := z_le S h0 h1 (z_of_left S.a0 S.w0 yk)
  have a0 := S.a0
  have h2 := four_val F p
  have q1 := Int.mul_le_mul_of_nonneg_left hv (by omega : (0 : Int) ≤ 4 * F.a)
  have h3 := left_le (M := M) (y := p.y) (z := p.z) S
  have h4 := mul_le (Int.le_of_lt a0) h0 S.a1 h1
  have e1 : 4 * F.a * M = 4 * (F.a * M) := by grind
  have h5 : -8748 - 4374 * 2000000 ≤ 2 * F.a * p.x + F.f * p.y + F.e * p.z ∧ 2 * F.a * p.x + F.f * p.y + F.e * p.z ≤ 8748 + 4374 * 2000000 := by
    have h7 : (2 * F.a * p.x + F.f * p.y + F.e * p.z) * (2 * F.a * p.x + F.f * p.y + F.e * p.z) ≤ (8748 + 4374 * 2000000) * (8748 + 4374 * 2000000) := by
      have h8 : 0 ≤ wid F * p.y * p.y + 2 * skw F * p.y * p.z + cee F * p.z * p.z := by
        have h9 := left_le (M := 0) (y := p.y) (z := p.z) S
        omega
      omega
    have := abs_of_sq (by decide) h7
    omega
  have h6 := fe_le S yl zl
  have hx : Bn 62 (2 * F.a * p.x) := ⟨by omega⟩
  have hx2 : p.x.natAbs ≤ (2 * F.a * p.x).natAbs := by
    rw [Int.natAbs_mul]
    exact Nat.le_mul_of_pos_left _ (by omega)
  exact ⟨⟨Nat.lt_of_le_of_lt hx2 (hx.mono (by decide)).h⟩, (bn_of (n := 20) yl (by decide)).mono (by decide), (bn_of (n := 20) zl (by decide)).mono (by decide)⟩
theorem pts_bn {F : Fm} {M : Int} (S : Sm F) (h0 : 0 ≤ M) (h1 : M ≤ 4374) : ∀ p ∈ ptsTo F M, Bn3 64000 p.x p.y p.z := fun p hp =>
  (val_le_bn S h0 h1 ((mem_ptsTo S.a0 S.w0 S.s0 h0).mp hp)).mono (by decide)
theorem pure_of_flat' (l : List Pt) : DL.pure (.lst (l.map Pt.D)) = true := pureAll_of_flat (flat_pts l)
theorem ok_points_with (A : Al K mg base T) : FnOk P w K mg base CX0 6 A.f_points_with A.fd_points_with ["form", "value"] (spD K T Ph_points_with) := by
  refine fn_d A.F_points_with sc_points_with ?len (fun cdv Ar outer s H E hr => (ssd_one (sd_ret (ed_pw (k := 1) rfl hr (pws_by rfl rfl rfl rfl rfl) rfl rfl rfl rfl rfl A.F_points_to sc_points_to A.b_points_to rfl rfl A.g_points_to A.g_value_at A.F_value_at (fun cdv A_ outer s H pn C DD hr => gb_points_to A cdv A_ outer s H pn C DD hr) rd_points_to (ad_cons (ed_var 0 (pv 0)) (ad_cons (ed_var 1 (pv 1)) ad_nil)))))) ?rd
  · rintro ds mu Qd ⟨F, n, rfl, _⟩; rfl
  · rintro ds mu Qd ⟨F, n, rfl, S, n0, n1, hl, hq⟩
    refine put_e ?_; intro δ1 e; rw [st_points_with] at e; subst e
    repeat walk_at "st"
    refine ⟨ptsTo F n, rfl, ⟨S, n0, n1, rfl⟩, S.bn.mono (by decide), pts_bn S n0 n1, hl, ?_⟩
    exact end_ok (pure_of_flat' _) hq
end
end K77
end
section
/-! the third point, leads (no program in sight) -/
namespace K77
def gramU (F : Fm) (u : Pt) : Pt := led (dbl F) u
def sizeOf3 (F : Fm) (u v : Pt) : Int := dot (cross (gramU F u) (gramU F v)) (cross u v)
def sums3 (F G : Fm) (u v : Pt) : Pt := add (add (smul G.e (cross (gramU F v) (cross u v))) (smul G.d (cross (cross u v) (gramU F u)))) (cross (gramU F u) (gramU F v))
def quot3 (p : Pt) (n : Int) : Pt := ⟨p.x / n, p.y / n, p.z / n⟩
def thirdP (F G : Fm) (u v : Pt) : Option Pt :=
  if (!((sums3 F G u v).x % sizeOf3 F u v == 0)) || ((!((sums3 F G u v).y % sizeOf3 F u v == 0)) || ((!((sums3 F G u v).z % sizeOf3 F u v == 0)) || false)) then none
  else if val F (quot3 (sums3 F G u v) (sizeOf3 F u v)) = G.c then some (quot3 (sums3 F G u v) (sizeOf3 F u v)) else none
/-- the rows of t lead F to G -/
def Leads (F G : Fm) (t : Tb) : Prop := det t = 1 ∧ formBy F t = G

theorem size3_eq (F : Fm) (u v : Pt) : sizeOf3 F u v = 4 * val F u * val F v - both F u v * both F u v := by
  unfold sizeOf3 gramU led dbl cross dot both val add; simp only; grind
theorem both_gram (F : Fm) (u w : Pt) : both F u w = dot (gramU F u) w := by
  unfold gramU led dbl dot both val add; simp only; grind
theorem both_comm (F : Fm) (u w : Pt) : both F u w = both F w u := by unfold both val add; simp only; grind
/-- Cramer -/
theorem cramer (p q l w : Pt) : smul (dot (cross p q) l) w = add (add (smul (dot p w) (cross q l)) (smul (dot q w) (cross l p))) (smul (dot l w) (cross p q)) := by
  unfold smul add dot cross
  simp only [Pt.mk.injEq]
  refine ⟨?_, ?_, ?_⟩ <;> grind
theorem dot_sums (p q l : Pt) (x y : Int) : dot p (add (add (smul x (cross q l)) (smul y (cross l p))) (cross p q)) = x * dot (cross p q) l ∧ dot q (add (add (smul x (cross q l)) (smul y (cross l p))) (cross p q)) = y * dot (cross p q) l ∧ dot l (add (add (smul x (cross q l)) (smul y (cross l p))) (cross p q)) = dot (cross p q) l := by
  unfold smul add dot cross
  simp only
  refine ⟨?_, ?_, ?_⟩ <;> grind
theorem smul_quot {S : Pt} {n : Int} (hx : S.x % n = 0) (hy : S.y % n = 0) (hz : S.z % n = 0) : smul n (quot3 S n) = S := by
  obtain ⟨x, y, z⟩ := S
  unfold smul quot3
  simp only [Pt.mk.injEq] at *
  exact ⟨Int.mul_ediv_cancel' (Int.dvd_of_emod_eq_zero hx), Int.mul_ediv_cancel' (Int.dvd_of_emod_eq_zero hy), Int.mul_ediv_cancel' (Int.dvd_of_emod_eq_zero hz)⟩
theorem dot_smul (p w : Pt) (n : Int) : dot p (smul n w) = n * dot p w := by unfold dot smul; simp only; grind
theorem formBy_eq {F G : Fm} {t : Tb} : formBy F t = G ↔ val F t.u = G.a ∧ val F t.v = G.b ∧ val F t.w = G.c ∧ both F t.v t.w = G.d ∧ both F t.u t.w = G.e ∧ both F t.u t.v = G.f := by
  obtain ⟨a, b, c, d, e, f⟩ := G
  unfold formBy
  simp only [Fm.mk.injEq]
theorem third_some {F G : Fm} {u v w : Pt} (hu : val F u = G.a) (hv : val F v = G.b) (hf : both F u v = G.f) (hs : 0 < sizeOf3 F u v) (h : thirdP F G u v = some w) : Leads F G ⟨u, v, w⟩ := by
  unfold thirdP at h
  by_cases hb : (!((sums3 F G u v).x % sizeOf3 F u v == 0) || (!((sums3 F G u v).y % sizeOf3 F u v == 0) || (!((sums3 F G u v).z % sizeOf3 F u v == 0) || false))) = true
  · rw [if_pos hb] at h; cases h
  · rw [if_neg hb] at h
    by_cases hc : val F (quot3 (sums3 F G u v) (sizeOf3 F u v)) = G.c
    · rw [if_pos hc] at h
      cases h
      simp only [Bool.or_false, Bool.or_eq_true, Bool.not_eq_true', beq_eq_false_iff_ne, ne_eq, not_or, Decidable.not_not] at hb
      obtain ⟨h1, h2, h3⟩ := hb
      have e := smul_quot h1 h2 h3
      generalize quot3 (sums3 F G u v) (sizeOf3 F u v) = w at e hc
      have d := dot_sums (gramU F u) (gramU F v) (cross u v) G.e G.d
      have e' : smul (sizeOf3 F u v) w = add (add (smul G.e (cross (gramU F v) (cross u v))) (smul G.d (cross (cross u v) (gramU F u)))) (cross (gramU F u) (gramU F v)) := e
      rw [← e'] at d
      rw [dot_smul, dot_smul, dot_smul] at d
      obtain ⟨d1, d2, d3⟩ := d
      have hn : sizeOf3 F u v ≠ 0 := Int.ne_of_gt hs
      have c : ∀ {x y : Int}, sizeOf3 F u v * x = y * dot (cross (gramU F u) (gramU F v)) (cross u v) → x = y := fun {x y} q => by
        have q' : sizeOf3 F u v * x = sizeOf3 F u v * y := by rw [q, Int.mul_comm]; rfl
        exact Int.eq_of_mul_eq_mul_left hn q'
      refine ⟨?_, formBy_eq.mpr ⟨hu, hv, hc, ?_, ?_, hf⟩⟩
      · exact c (y := 1) (by rw [Int.one_mul]; exact d3)
      · show both F v w = G.d
        rw [both_gram]; exact c d2
      · show both F u w = G.e
        rw [both_gram]; exact c d1
    · rw [if_neg hc] at h; cases h
theorem third_all {F G : Fm} {u v w : Pt} (hs : 0 < sizeOf3 F u v) (h : Leads F G ⟨u, v, w⟩) : thirdP F G u v = some w := by
  obtain ⟨hd, hf⟩ := h
  obtain ⟨_, _, hc, h1, h2, _⟩ := formBy_eq.mp hf
  have cr := cramer (gramU F u) (gramU F v) (cross u v) w
  have e2 : dot (gramU F u) w = G.e := by rw [← both_gram]; exact h2
  have e1 : dot (gramU F v) w = G.d := by rw [← both_gram]; exact h1
  have e3 : dot (cross u v) w = 1 := hd
  rw [e2, e1, e3] at cr
  have one : smul 1 (cross (gramU F u) (gramU F v)) = cross (gramU F u) (gramU F v) := by unfold smul; simp
  rw [one] at cr
  have cr' : sums3 F G u v = smul (sizeOf3 F u v) w := cr.symm
  have hn : sizeOf3 F u v ≠ 0 := Int.ne_of_gt hs
  unfold thirdP
  rw [cr']
  have m0 : ∀ x : Int, sizeOf3 F u v * x % sizeOf3 F u v = 0 := fun x => Int.mul_emod_right _ _
  have q : quot3 (smul (sizeOf3 F u v) w) (sizeOf3 F u v) = w := by
    unfold quot3 smul
    simp only [Int.mul_ediv_cancel_left _ hn]
  rw [q, if_neg, if_pos hc]
  unfold smul
  simp only [m0]
  decide
end K77
end
section
namespace K77
open PySem PySem.Spec PyProof.Rows L2 DL
local macro_rules | `(tactic| walk_at "bn") => `(tactic| first
  | assumption
  | (apply Bn.add <;> walk_at "bn")
  | (apply Bn.sub <;> walk_at "bn")
  | (apply Bn.mul <;> walk_at "bn")
  | (apply Bn.neg; walk_at "bn")
  | exact Bn.lit (by decide))
local macro_rules | `(tactic| walk_at "cm") => `(tactic| (apply Bn.cmul; (focus walk_at "bn"); (focus walk_at "bn"); (focus decide)))
local macro_rules | `(tactic| walk_at "st") => `(tactic| first
  | (refine put_e ?_; intro δ1 e; simp only [List.set_cons_zero, List.set_cons_succ, wipeD, List.map_cons, List.map_nil] at e; subst e)
  | refine ⟨_, rfl, ?_⟩
  | (refine ⟨_, _, rfl, rfl, ?cm, ?_⟩; (case cm => walk_at "cm"))
  | refine ⟨_, _, rfl, rfl, ?_⟩
  | refine ⟨_, rfl, rfl, ?_⟩
  | refine ⟨_, _, rfl, ?_⟩
  | refine ⟨_, _, _, rfl, ?_⟩
  | refine ⟨_, _, .inl rfl, ?_⟩
  | refine ⟨_, .inl rfl, ?_⟩
  | refine ⟨_, .inr rfl, ?_⟩
  | refine ⟨rfl, ?_⟩
  | refine ⟨_, _, _, rfl, rfl, rfl, ?_⟩
  | refine if_t rfl ?_
  | refine if_f rfl ?_)
section
variable {P : Program} {w : World} {K : PySem.W.Frag} {mg : Str → Option Value} {base : Heap} {T : List (Addr × Str)}
theorem bn3_led {n m : Nat} {t : Tb} {p : Pt} (h1 : Bn3 n t.u.x t.u.y t.u.z) (h2 : Bn3 n t.v.x t.v.y t.v.z) (h3 : Bn3 n t.w.x t.w.y t.w.z) (g : Bn3 m p.x p.y p.z) : Bn3 (n + m + 2) (led t p).x (led t p).y (led t p).z :=
  ⟨bn_dot h1 g, bn_dot h2 g, bn_dot h3 g⟩
theorem bn_ediv {n : Nat} {i j : Int} (h : Bn n i) : Bn n (i / j) := ⟨Nat.lt_of_le_of_lt (Int.natAbs_ediv_le_natAbs i j) h.h⟩
theorem bn3_smul {n m : Nat} {k : Int} {p : Pt} (h : Bn n k) (g : Bn3 m p.x p.y p.z) : Bn3 (n + m) (smul k p).x (smul k p).y (smul k p).z := ⟨h.mul g.x, h.mul g.y, h.mul g.z⟩
theorem bn3_addP {n m : Nat} {p q : Pt} (h : Bn3 n p.x p.y p.z) (g : Bn3 m q.x q.y q.z) : Bn3 (max n m + 1) (add p q).x (add p q).y (add p q).z := bn3_add h g
theorem pt_eta (p : Pt) : (⟨p.x, p.y, p.z⟩ : Pt) = p := rfl
theorem fm_eta (F : Fm) : (⟨F.a, F.b, F.c, F.d, F.e, F.f⟩ : Fm) = F := rfl
def optP : Option Pt → D
  | none => .non
  | some p => p.D
def Ph_third_point : PhiD := fun ds mu Q => ∃ (F G : Fm) (u v : Pt), ds = [F.D, G.D, u.D, v.D] ∧ Bn6 14 F.a F.b F.c F.d F.e F.f ∧ Bn6 14 G.a G.b G.c G.d G.e G.f ∧ Bn3 64 u.x u.y u.z ∧ Bn3 64 v.x v.y v.z ∧ 0 < sizeOf3 F u v ∧ Q (optP (thirdP F G u v)) mu
theorem ok_third_point (A : Al K mg base T) : FnOk P w K mg base CX0 3 A.f_third_point A.fd_third_point ["form", "goal", "first", "second"] (spD K T Ph_third_point) := by
  refine fn_d A.F_third_point sc_third_point ?len (fun cdv Ar outer s H E hr => (ssd_cons (sd_par (i := 4) (j := 5) rfl sc_third_point.nd rfl rfl (by decide) rfl rfl (ad_cons (ed_call (ok_doubled_rows A) (hr.mono (by decide)) rfl A.g_doubled_rows A.F_doubled_rows.kp A.b_doubled_rows (ad_cons (ed_var 0 (pv 0)) ad_nil)) (ad_cons (ed_call (ok_across A) (hr.mono (by decide)) rfl A.g_across A.F_across.kp A.b_across (ad_cons (ed_var 2 (pv 2)) (ad_cons (ed_var 3 (pv 3)) ad_nil))) ad_nil)) (by rfl))
    (ssd_cons (sd_par (i := 6) (j := 7) rfl sc_third_point.nd rfl rfl (by decide) rfl rfl (ad_cons (ed_call (ok_led_by A) hr rfl A.g_led_by A.F_led_by.kp A.b_led_by (ad_cons (ed_var 4 (pv 4)) (ad_cons (ed_var 2 (pv 2)) ad_nil))) (ad_cons (ed_call (ok_led_by A) hr rfl A.g_led_by A.F_led_by.kp A.b_led_by (ad_cons (ed_var 4 (pv 4)) (ad_cons (ed_var 3 (pv 3)) ad_nil))) ad_nil)) (by rfl))
    (ssd_cons (sd_set (i := 8) sc_third_point.nd rfl (.inr rfl) (ed_call (ok_summed A) (hr.mono (by decide)) rfl A.g_summed A.F_summed.kp A.b_summed (ad_cons (ed_call (ok_across A) (hr.mono (by decide)) rfl A.g_across A.F_across.kp A.b_across (ad_cons (ed_var 6 (pv 6)) (ad_cons (ed_var 7 (pv 7)) ad_nil))) (ad_cons (ed_var 5 (pv 5)) ad_nil))))
    (ssd_cons (sd_if (td_cmp op_eq od_eq (ed_var 8 (pv 8)) ed_int (nomark _)) (ssd_one (sd_ret ed_non)) ssd_nil)
    (ssd_cons (sd_set (i := 9) sc_third_point.nd rfl (.inl rfl) (ed_call (ok_plus A) (hr.mono (by decide)) rfl A.g_plus A.F_plus.kp A.b_plus (ad_cons (ed_call (ok_plus A) (hr.mono (by decide)) rfl A.g_plus A.F_plus.kp A.b_plus (ad_cons (ed_call (ok_times A) (hr.mono (by decide)) rfl A.g_times A.F_times.kp A.b_times (ad_cons (ed_ix (ed_var 1 (pv 1)) ed_int (fun _ _ => rfl)) (ad_cons (ed_call (ok_across A) (hr.mono (by decide)) rfl A.g_across A.F_across.kp A.b_across (ad_cons (ed_var 7 (pv 7)) (ad_cons (ed_var 5 (pv 5)) ad_nil))) ad_nil))) (ad_cons (ed_call (ok_times A) (hr.mono (by decide)) rfl A.g_times A.F_times.kp A.b_times (ad_cons (ed_ix (ed_var 1 (pv 1)) ed_int (fun _ _ => rfl)) (ad_cons (ed_call (ok_across A) (hr.mono (by decide)) rfl A.g_across A.F_across.kp A.b_across (ad_cons (ed_var 5 (pv 5)) (ad_cons (ed_var 6 (pv 6)) ad_nil))) ad_nil))) ad_nil))) (ad_cons (ed_call (ok_across A) (hr.mono (by decide)) rfl A.g_across A.F_across.kp A.b_across (ad_cons (ed_var 6 (pv 6)) (ad_cons (ed_var 7 (pv 7)) ad_nil))) ad_nil))))
    (ssd_cons (sd_if (td_val (ed_callB rc_any (cr_any rfl) (by rfl) A.z_any (by decide +kernel) (ad_cons (ed_lc rfl sc_third_point.nd (id_tup (ed_var 9 (pv 9))) (blkOk_by (own := [("entry", 11)]) (N := N_third_point) (sc := defScope s_third_point) (by decide +kernel)) (cg_name 11) (fun _ _ _ _ _ => (pg_name (i := 11) sc_third_point.nd rfl (.inl rfl))) (fun _ _ _ _ _ => pts_yes) (fun _ _ _ _ _ => (ed_cmp op_ne od_ne (ed_op op_mod od_I (ed_var 11 (pv 11)) (ed_var 8 (pv 8))) ed_int (nomark _)))) ad_nil))) (ssd_one (sd_ret ed_non)) ssd_nil)
    (ssd_cons (sd_set (i := 10) sc_third_point.nd rfl (.inl rfl) (ed_callTy rc_tuple call_tuple_of (by rfl) A.z_tuple (by decide +kernel) (ad_cons (ed_lc rfl sc_third_point.nd (id_tup (ed_var 9 (pv 9))) (blkOk_by (own := [("entry", 11)]) (N := N_third_point) (sc := defScope s_third_point) (by decide +kernel)) (cg_name 11) (fun _ _ _ _ _ => (pg_name (i := 11) sc_third_point.nd rfl (.inl rfl))) (fun _ _ _ _ _ => pts_yes) (fun _ _ _ _ _ => (ed_op op_fdivW od_I (ed_var 11 (pv 11)) (ed_var 8 (pv 8))))) ad_nil)))
    (ssd_one (sd_ret (ed_if (td_cmp op_eq od_eq (ed_call (ok_value_at A) (hr.mono (by decide)) rfl A.g_value_at A.F_value_at.kp A.b_value_at (ad_cons (ed_var 0 (pv 0)) (ad_cons (ed_var 10 (pv 10)) ad_nil))) (ed_ix (ed_var 1 (pv 1)) ed_int (fun _ _ => rfl)) (nomark _)) (ed_var 10 (pv 10)) ed_non))))))))))) ?rd
  · rintro ds mu Qd ⟨F, G, u, v, rfl, _⟩; rfl
  · rintro ds mu Qd ⟨F, G, u, v, rfl, bF, bG, bu, bv, hs, hq⟩
    refine put_e ?_; intro δ1 e; rw [st_third_point] at e; subst e
    repeat walk_at "st"
    refine ⟨_, _, _, _, _, _, rfl, bF.mono (by decide), ?_⟩
    repeat walk_at "st"
    refine ⟨_, _, _, _, _, _, rfl, bu.mono (by decide), bv.mono (by decide), ?_⟩
    repeat walk_at "st"
    have b2 : ∀ {i : Int}, Bn 14 i → Bn 16 (2 * i) := fun h => ((Bn.of_le (n := 2) (k := 2) (by decide) (by decide)).mul h).mono (by decide)
    have m16 : ∀ {i : Int}, Bn 14 i → Bn 16 i := fun h => h.mono (by decide)
    have d1 : Bn3 16 (dbl F).u.x (dbl F).u.y (dbl F).u.z := ⟨b2 bF.a, m16 bF.f, m16 bF.e⟩
    have d2 : Bn3 16 (dbl F).v.x (dbl F).v.y (dbl F).v.z := ⟨m16 bF.f, b2 bF.b, m16 bF.d⟩
    have d3 : Bn3 16 (dbl F).w.x (dbl F).w.y (dbl F).w.z := ⟨m16 bF.e, m16 bF.d, b2 bF.c⟩
    have bU : Bn3 82 (gramU F u).x (gramU F u).y (gramU F u).z := bn3_led d1 d2 d3 bu
    have bV : Bn3 82 (gramU F v).x (gramU F v).y (gramU F v).z := bn3_led d1 d2 d3 bv
    have bL : Bn3 129 (cross u v).x (cross u v).y (cross u v).z := bn3_cross bu bv
    have bUV : Bn3 165 (cross (gramU F u) (gramU F v)).x (cross (gramU F u) (gramU F v)).y (cross (gramU F u) (gramU F v)).z := bn3_cross bU bV
    have bVL : Bn3 212 (cross (gramU F v) (cross u v)).x (cross (gramU F v) (cross u v)).y (cross (gramU F v) (cross u v)).z := bn3_cross bV bL
    have bLU : Bn3 212 (cross (cross u v) (gramU F u)).x (cross (cross u v) (gramU F u)).y (cross (cross u v) (gramU F u)).z := (bn3_cross bL bU).mono (by decide)
    rw [fm_eta, pt_eta, pt_eta]
    refine ⟨d1.mono (by decide), d2.mono (by decide), d3.mono (by decide), bu.mono (by decide), ?_⟩
    repeat walk_at "st"
    refine ⟨d1.mono (by decide), d2.mono (by decide), d3.mono (by decide), bv.mono (by decide), ?_⟩
    repeat walk_at "st"
    rw [show led (dbl F) u = gramU F u from rfl, show led (dbl F) v = gramU F v from rfl]
    refine ⟨_, _, _, _, _, _, rfl, bU.mono (by decide), bV.mono (by decide), ?_⟩
    repeat walk_at "st"
    refine ⟨_, _, _, _, _, _, rfl, bUV.mono (by decide), bL.mono (by decide), ?_⟩
    repeat walk_at "st"
    refine if_f (beq_eq_false_iff_ne.mpr (Int.ne_of_gt hs)) ?_
    simp only [pt_eta]
    rw [show dot (cross (gramU F u) (gramU F v)) (cross u v) = sizeOf3 F u v from rfl]
    repeat walk_at "st"
    refine ⟨_, _, _, _, _, _, rfl, bV.mono (by decide), bL.mono (by decide), ?_⟩
    repeat walk_at "st"
    refine ⟨_, _, _, _, rfl, bG.e.mono (by decide), bVL.mono (by decide), ?_⟩
    repeat walk_at "st"
    refine ⟨_, _, _, _, _, _, rfl, bL.mono (by decide), bU.mono (by decide), ?_⟩
    repeat walk_at "st"
    refine ⟨_, _, _, _, rfl, bG.d.mono (by decide), bLU.mono (by decide), ?_⟩
    repeat walk_at "st"
    refine ⟨_, _, _, _, _, _, rfl, ?_⟩
    repeat walk_at "st"
    refine ⟨_, _, _, _, _, _, rfl, bU.mono (by decide), bV.mono (by decide), ?_⟩
    repeat walk_at "st"
    refine ⟨_, _, _, _, _, _, rfl, ?_⟩
    repeat walk_at "st"
    simp only [pt_eta]
    rw [show G.e * (cross (gramU F v) (cross u v)).x + G.d * (cross (cross u v) (gramU F u)).x + (cross (gramU F u) (gramU F v)).x = (sums3 F G u v).x from rfl, show G.e * (cross (gramU F v) (cross u v)).y + G.d * (cross (cross u v) (gramU F u)).y + (cross (gramU F u) (gramU F v)).y = (sums3 F G u v).y from rfl, show G.e * (cross (gramU F v) (cross u v)).z + G.d * (cross (cross u v) (gramU F u)).z + (cross (gramU F u) (gramU F v)).z = (sums3 F G u v).z from rfl]
    have bS : Bn3 300 (sums3 F G u v).x (sums3 F G u v).y (sums3 F G u v).z := (bn3_addP (bn3_addP (bn3_smul bG.e bVL) (bn3_smul bG.d bLU)) bUV).mono (by decide)
    have bN : Bn 300 (sizeOf3 F u v) := (bn_dot bUV bL).mono (by decide)
    unfold thirdP at hq
    generalize sums3 F G u v = S at hq bS ⊢
    generalize sizeOf3 F u v = N at hq hs bN ⊢
    refine lc_fix [.bl (!(S.x % N == 0)), .bl (!(S.y % N == 0)), .bl (!(S.z % N == 0))] ?_ three rfl ?_
    · refine ⟨?_, ?_, ?_, trivial⟩ <;> (intro R M hR; repeat walk_at "st") <;> exact ⟨hs, rfl, hR⟩
    refine ⟨[!(S.x % N == 0), !(S.y % N == 0), !(S.z % N == 0)], rfl, _, rfl, ?_⟩
    show if (!(S.x % N == 0) || (!(S.y % N == 0) || (!(S.z % N == 0) || false))) = true then _ else _
    by_cases hb : (!(S.x % N == 0) || (!(S.y % N == 0) || (!(S.z % N == 0) || false))) = true
    · rw [if_pos hb] at hq ⊢
      exact end_ok rfl hq
    · rw [if_neg hb] at hq ⊢
      repeat walk_at "st"
      refine lc_fix [.int (S.x / N), .int (S.y / N), .int (S.z / N)] ?_ three rfl ?_
      · refine ⟨?_, ?_, ?_, trivial⟩ <;> (intro R M hR; repeat walk_at "st") <;> exact ⟨Bn.cdiv hs bN (by decide), hR⟩
      repeat walk_at "st"
      refine ⟨_, _, _, _, _, _, _, _, _, rfl, bF.mono (by decide), ⟨(bn_ediv bS.x).mono (by decide), (bn_ediv bS.y).mono (by decide), (bn_ediv bS.z).mono (by decide)⟩, ?_⟩
      repeat walk_at "st"
      by_cases hv : val F (quot3 S N) = G.c
      · rw [if_pos hv] at hq
        refine if_t (beq_iff_eq.mpr hv) ?_
        exact ⟨_, rfl, end_ok rfl hq⟩
      · rw [if_neg hv] at hq
        refine if_f (beq_eq_false_iff_ne.mpr hv) ?_
        exact end_ok rfl hq
/-! ### small_lead -/
theorem over_all {α : Type} {emb : α → D} {l : List α} {φ : DS} {j : Nat} {Dd : DEnds} {δ : Dl} {mu : Mu} (Q : Dl → Prop) (no : α → Prop) (h0 : Q δ)
    (step : ∀ x ∈ l, ∀ (R : Prop), (no x → R) → ∀ δ, Q δ → Put (δ.set j (some (emb x))) fun δ1 => φ { Dd with nx := fun δ' mu' => mu' = mu ∧ Q δ' ∧ R, ct := fun δ' mu' => mu' = mu ∧ Q δ' ∧ R, bk := Dd.nx } δ1 mu)
    (hend : ∀ δ, Q δ → (∀ x ∈ l, no x) → Dd.nx δ mu) : overD (l.map emb) φ j Dd δ mu := by
  refine ⟨fun i δ' mu' => mu' = mu ∧ Q δ' ∧ ∀ x ∈ l.take i, no x, ⟨rfl, h0, fun x hx => by simp at hx⟩, fun i x δ' mu' hx ⟨e, q, hn⟩ => ?_, fun δ' mu' ⟨e, q, hn⟩ => ?_⟩
  · subst e
    rw [List.getElem?_map] at hx
    cases hy : l[i]? with
    | none => rw [hy] at hx; cases hx
    | some y =>
      rw [hy] at hx
      cases hx
      obtain ⟨hi, ey⟩ := List.getElem?_eq_some_iff.mp hy
      refine step y (List.mem_of_getElem? hy) (∀ x ∈ l.take (i + 1), no x) (fun hno x hx => ?_) δ' q
      rw [List.take_succ, hy] at hx
      rcases List.mem_append.mp hx with z | z
      · exact hn x z
      · have : x = y := by simpa using z
        rw [this]; exact hno
  · subst e
    rw [List.length_map, List.take_length] at hn
    exact hend δ' q hn
theorem mem_with {F : Fm} {n : Int} {p : Pt} (S : Sm F) (h0 : 0 ≤ n) : p ∈ (ptsTo F n).filter (fun p => decide (val F p = n)) ↔ val F p = n := by
  rw [List.mem_filter, mem_ptsTo S.a0 S.w0 S.s0 h0]
  constructor
  · intro h; exact of_decide_eq_true h.2
  · intro h; exact ⟨by omega, decide_eq_true h⟩
def Ph_small_lead : PhiD := fun ds mu Q => ∃ F G : Fm, ds = [F.D, G.D] ∧ Sm F ∧ Sm G ∧ (∀ n, 0 ≤ n → n ≤ 4374 → ((ptsTo F n).filter fun p => decide (val F p = n)).length ≤ sizeLine) ∧ ∀ d, ((d = .non ∧ ∀ t, ¬ Leads F G t) ∨ ∃ t : Tb, d = t.D ∧ Leads F G t ∧ Bn3 64 t.u.x t.u.y t.u.z ∧ Bn3 64 t.v.x t.v.y t.v.z ∧ Bn3 64 t.w.x t.w.y t.w.z) → Q d mu
theorem ok_small_lead (A : Al K mg base T) : FnOk P w K mg base CX0 7 A.f_small_lead A.fd_small_lead ["form", "goal"] (spD K T Ph_small_lead) := by
  refine fn_d A.F_small_lead sc_small_lead ?len (fun cdv Ar outer s H E hr => (ssd_cons (sd_set (i := 2) sc_small_lead.nd rfl (.inl rfl) (ed_call (ok_points_with A) hr rfl A.g_points_with A.F_points_with.kp A.b_points_with (ad_cons (ed_var 0 (pv 0)) (ad_cons (ed_ix (ed_var 1 (pv 1)) ed_int (fun _ _ => rfl)) ad_nil))))
    (ssd_cons (sd_forL PassesOwn.never rfl sc_small_lead.nd (j := 3) rfl (.inl rfl) (ed_call (ok_points_with A) hr rfl A.g_points_with A.F_points_with.kp A.b_points_with (ad_cons (ed_var 0 (pv 0)) (ad_cons (ed_ix (ed_var 1 (pv 1)) ed_int (fun _ _ => rfl)) ad_nil))) (ssd_one (sd_forL PassesOwn.never rfl sc_small_lead.nd (j := 4) rfl (.inl rfl) (ed_var 2 (pv 2)) (ssd_one (sd_if (td_cmp op_eq od_eq (ed_call (ok_both_at A) (hr.mono (by decide)) rfl A.g_both_at A.F_both_at.kp A.b_both_at (ad_cons (ed_var 0 (pv 0)) (ad_cons (ed_var 3 (pv 3)) (ad_cons (ed_var 4 (pv 4)) ad_nil)))) (ed_ix (ed_var 1 (pv 1)) ed_int (fun _ _ => rfl)) (nomark _)) (ssd_cons (sd_set (i := 5) sc_small_lead.nd rfl (.inl rfl) (ed_call (ok_third_point A) (hr.mono (by decide)) rfl A.g_third_point A.F_third_point.kp A.b_third_point (ad_cons (ed_var 0 (pv 0)) (ad_cons (ed_var 1 (pv 1)) (ad_cons (ed_var 3 (pv 3)) (ad_cons (ed_var 4 (pv 4)) ad_nil))))))
    (ssd_one (sd_if (td_notN (ed_var 5 (pv 5))) (ssd_one (sd_ret (ed_tup (ad_cons (ed_var 3 (pv 3)) (ad_cons (ed_var 4 (pv 4)) (ad_cons (ed_var 5 (pv 5)) ad_nil)))))) ssd_nil))) ssd_nil)))))
    (ssd_one (sd_ret ed_non))))) ?rd
  · rintro ds mu Qd ⟨F, G, rfl, _⟩; rfl
  · rintro ds mu Qd ⟨F, G, rfl, S, SG, hl, hq⟩
    refine put_e ?_; intro δ1 e; rw [st_small_lead] at e; subst e
    have g1 : 0 < G.a := SG.a0
    have g2 : 0 < G.b := SG.b0
    repeat walk_at "st"
    refine ⟨S, Int.le_of_lt g2, SG.b1, hl _ (Int.le_of_lt g2) SG.b1, ?_⟩
    repeat walk_at "st"
    refine ⟨S, Int.le_of_lt g1, SG.a1, hl _ (Int.le_of_lt g1) SG.a1, _, rfl, ?_⟩
    refine over_all (fun δ => ∃ o3 o4 o5, δ = [some F.D, some G.D, some (D.lst (List.map Pt.D (List.filter (fun p => decide (val F p = G.b)) (ptsTo F G.b)))), o3, o4, o5]) (fun p => ∀ t, Leads F G t → t.u ≠ p) ⟨_, _, _, rfl⟩ (fun p hp R hR δ hδ => ?_) fun δ hδ hno => ?_
    · obtain ⟨o3, o4, o5, rfl⟩ := hδ
      have vp := (mem_with S (Int.le_of_lt g1)).mp hp
      have bp := val_le_bn (p := p) S (Int.le_of_lt g1) SG.a1 (by omega)
      repeat walk_at "st"
      refine over_all (fun δ => ∃ o4 o5, δ = [some F.D, some G.D, some (D.lst (List.map Pt.D (List.filter (fun p => decide (val F p = G.b)) (ptsTo F G.b)))), some p.D, o4, o5]) (fun q => ∀ t, Leads F G t → t.u = p → t.v ≠ q) ⟨_, _, rfl⟩ (fun q hq' R' hR' δ hδ => ?_) fun δ hδ hno => ?_
      · obtain ⟨o4, o5, rfl⟩ := hδ
        have vq := (mem_with S (Int.le_of_lt g2)).mp hq'
        have bq := val_le_bn (p := q) S (Int.le_of_lt g2) SG.b1 (by omega)
        repeat walk_at "st"
        refine ⟨_, _, _, _, _, _, _, _, _, _, _, _, rfl, S.bn.mono (by decide), bp.mono (by decide), bq.mono (by decide), ?_⟩
        repeat walk_at "st"
        simp only [pt_eta, fm_eta]
        by_cases hb : both F p q = G.f
        · refine if_t (beq_iff_eq.mpr hb) ?_
          have hs : 0 < sizeOf3 F p q := by
            rw [size3_eq, vp, vq, hb]
            have := SG.w0
            unfold wid at this
            exact this
          repeat walk_at "st"
          refine ⟨F, G, p, q, rfl, S.bn, SG.bn, bp, bq, hs, ?_⟩
          repeat walk_at "st"
          cases h3 : thirdP F G p q with
          | none =>
            refine if_f rfl ?_
            refine ⟨rfl, ⟨_, _, rfl⟩, hR' fun t ht e1 e2 => ?_⟩
            obtain ⟨tu, tv, tw⟩ := t
            cases e1
            cases e2
            rw [third_all hs ht] at h3
            cases h3
          | some r =>
            have L := third_some vp vq hb hs h3
            have vr := (formBy_eq.mp L.2).2.2.1
            have br := val_le_bn (p := r) S (Int.le_of_lt SG.c0) SG.c1 (by simp only at vr; omega)
            refine if_t rfl ?_
            repeat walk_at "st"
            exact ⟨three, end_ok rfl (hq _ (.inr ⟨⟨p, q, r⟩, rfl, L, bp, bq, br⟩))⟩
        · refine if_f (beq_eq_false_iff_ne.mpr hb) ?_
          refine ⟨rfl, ⟨_, _, rfl⟩, hR' fun t ht e1 e2 => hb ?_⟩
          have := (formBy_eq.mp ht.2).2.2.2.2.2
          rw [e1, e2] at this
          exact this
      · obtain ⟨o4, o5, rfl⟩ := hδ
        refine ⟨rfl, ⟨_, _, _, rfl⟩, hR fun t ht e => ?_⟩
        refine hno t.v ((mem_with S (Int.le_of_lt g2)).mpr ?_) t ht e rfl
        exact (formBy_eq.mp ht.2).2.1
    · obtain ⟨o3, o4, o5, rfl⟩ := hδ
      refine end_ok rfl (hq _ (.inl ⟨rfl, fun t ht => ?_⟩))
      exact hno t.u ((mem_with S (Int.le_of_lt g1)).mpr (formBy_eq.mp ht.2).1) t ht rfl
end
end K77
end
section
/-! positive values; one step of the lessening; the disc of a led form (no program in sight) -/
namespace K77
theorem sq_zero {x : Int} (h : x * x ≤ 0) : x = 0 := by
  have := abs_of_sq (x := x) (k := 0) (by decide) (by omega)
  omega
theorem sq_zero' {c x : Int} (hc : 0 < c) (h : c * x * x ≤ 0) : x = 0 := by
  rw [Int.mul_assoc] at h
  have h1 : c * (x * x) ≤ c * 0 := by rw [Int.mul_zero]; exact h
  exact sq_zero (le_of_mul_le hc h1)
theorem val_zero {F : Fm} {p : Pt} (a : 0 < F.a) (w : 0 < wid F) (s : 0 < disc F) (h : val F p ≤ 0) : p = ⟨0, 0, 0⟩ := by
  have yk := left_of_val (M := 0) a h
  have zk := z_of_left (M := 0) a w yk
  rw [Int.zero_mul] at zk
  obtain ⟨x, y, z⟩ := p
  simp only at yk zk
  have z0 := sq_zero' s zk
  subst z0
  have yk2 : wid F * y * y ≤ 0 := by
    have e : 2 * skw F * y * 0 = 0 := by simp
    have e2 : cee F * 0 * 0 = 0 := by simp
    rw [e, e2] at yk
    have e3 : 4 * F.a * 0 = 0 := by simp
    omega
  have y0 := sq_zero' w yk2
  subst y0
  have hx : F.a * x * x ≤ 0 := by
    unfold val at h
    simp only [Int.mul_zero, Int.zero_mul, Int.add_zero] at h
    exact h
  have x0 := sq_zero' a hx
  subst x0
  rfl
theorem val_pos {F : Fm} {p : Pt} (a : 0 < F.a) (w : 0 < wid F) (s : 0 < disc F) (h : p ≠ ⟨0, 0, 0⟩) : 0 < val F p := by
  rcases Int.lt_or_le 0 (val F p) with c | c
  · exact c
  · exact absurd (val_zero a w s c) h
/-- a table of det not zero has rows that are not zero -/
theorem rows_ne {t : Tb} (h : det t ≠ 0) : t.u ≠ ⟨0, 0, 0⟩ ∧ t.v ≠ ⟨0, 0, 0⟩ ∧ t.w ≠ ⟨0, 0, 0⟩ := by
  obtain ⟨u, v, w⟩ := t
  refine ⟨fun e => h ?_, fun e => h ?_, fun e => h ?_⟩ <;> (simp only at e; subst e; unfold det dot cross; simp)
theorem det_tr (t : Tb) : det (tr t) = det t := by unfold det tr dot cross; simp only; grind
theorem det_mul (s t : Tb) : det (mulT s t) = det s * det t := by unfold det mulT tr dot cross; simp only; grind
theorem det_adj (t : Tb) : det (adj t) = det t * det t := by unfold det adj tr dot cross; simp only; grind
theorem det_dbl (F : Fm) : det (dbl F) = 2 * disc F := by unfold det dbl dot cross disc; simp only; grind
theorem dbl_formBy (F : Fm) (t : Tb) : dbl (formBy F t) = mulT t (mulT (dbl F) (tr t)) := by
  unfold dbl formBy mulT both val add tr dot; simp only [Tb.mk.injEq, Pt.mk.injEq]
  refine ⟨⟨?_, ?_, ?_⟩, ⟨?_, ?_, ?_⟩, ⟨?_, ?_, ?_⟩⟩ <;> grind
/-- a form led by a table -/
theorem disc_formBy (F : Fm) (t : Tb) : disc (formBy F t) = disc F * (det t * det t) := by
  have h := det_dbl (formBy F t)
  rw [dbl_formBy, det_mul, det_mul, det_tr, det_dbl] at h
  have e : det t * (2 * disc F * det t) = 2 * (disc F * (det t * det t)) := by grind
  omega
theorem formBy_mul (F : Fm) (s t : Tb) : formBy F (mulT t s) = formBy (formBy F s) t := by
  unfold formBy both val add mulT tr dot; simp only [Fm.mk.injEq]
  refine ⟨?_, ?_, ?_, ?_, ?_, ?_⟩ <;> grind
end K77
end
section
namespace K77
open PySem PySem.Spec PyProof.Rows L2 DL
local macro_rules | `(tactic| walk_at "bn") => `(tactic| first
  | assumption
  | (apply Bn.add <;> walk_at "bn")
  | (apply Bn.sub <;> walk_at "bn")
  | (apply Bn.mul <;> walk_at "bn")
  | (apply Bn.neg; walk_at "bn")
  | exact Bn.lit (by decide))
local macro_rules | `(tactic| walk_at "cm") => `(tactic| (apply Bn.cmul; (focus walk_at "bn"); (focus walk_at "bn"); (focus decide)))
local macro_rules | `(tactic| walk_at "st") => `(tactic| first
  | (refine put_e ?_; intro δ1 e; simp only [List.set_cons_zero, List.set_cons_succ, wipeD, List.map_cons, List.map_nil] at e; subst e)
  | refine ⟨_, rfl, ?_⟩
  | (refine ⟨_, _, rfl, rfl, ?cm, ?_⟩; (case cm => walk_at "cm"))
  | refine ⟨_, _, rfl, rfl, ?_⟩
  | refine ⟨_, rfl, rfl, ?_⟩
  | refine ⟨_, _, rfl, ?_⟩
  | refine ⟨_, _, _, rfl, ?_⟩
  | refine ⟨_, _, .inl rfl, ?_⟩
  | refine ⟨_, .inl rfl, ?_⟩
  | refine ⟨_, .inr rfl, ?_⟩
  | refine ⟨rfl, ?_⟩
  | refine ⟨_, _, _, rfl, rfl, rfl, ?_⟩
  | refine if_t rfl ?_
  | refine if_f rfl ?_)
section
variable {P : Program} {w : World} {K : PySem.W.Frag} {mg : Str → Option Value} {base : Heap} {T : List (Addr × Str)}
def k (F : Fm) (h o : Pt) : Int := -nearest (both F h o) (2 * val F o)
theorem near_l (h o o' : Pt) (i : Int) : add h (smul i o) = add (add h (smul i o)) (smul 0 o') := by unfold add smul; simp
theorem near_r (h o o' : Pt) (j : Int) : add h (smul j o') = add (add h (smul 0 o)) (smul j o') := by unfold add smul; simp
theorem sign_of {i : Nat} {x : D} (hx : [D.int 1, D.int (-1)][i]? = some x) : ∃ sg : Int, x = .int sg ∧ Bn 2 sg ∧ i < 2 := by
  rcases i with _ | _ | i
  · cases hx; exact ⟨1, rfl, ⟨by decide⟩, by decide⟩
  · cases hx; exact ⟨-1, rfl, ⟨by decide⟩, by decide⟩
  · simp at hx
/-- what lessened may answer: h: the point at its place; o, o': the others -/
def LessRes (F : Fm) (h o o' : Pt) (d : D) : Prop := d = .non ∨ ∃ q : Pt, d = q.D ∧ val F q < val F h ∧ ∃ i j : Int, q = add (add h (smul i o)) (smul j o')
def NearP (h o o' q : Pt) : Prop := Bn3 500 q.x q.y q.z ∧ ∃ i j : Int, q = add (add h (smul i o)) (smul j o')
def valD (F : Fm) : D → Int
  | .tup [.int x, .int y, .int z] => val F ⟨x, y, z⟩
  | _ => 0
def Ph_lessened : PhiD := fun ds mu Q => ∃ (F : Fm) (p0 p1 p2 : Pt) (at_ : Int) (h o o' : Pt), mu = [] ∧ ds = [F.D, .lst [p0.D, p1.D, p2.D], .int at_] ∧ Sm F ∧ ((at_ = 0 ∧ h = p0 ∧ o = p1 ∧ o' = p2) ∨ (at_ = 1 ∧ h = p1 ∧ o = p0 ∧ o' = p2) ∨ (at_ = 2 ∧ h = p2 ∧ o = p0 ∧ o' = p1)) ∧
  0 < val F h ∧ 0 < val F o ∧ 0 < val F o' ∧ val F h ≤ 4374 ∧ val F o ≤ 4374 ∧ val F o' ≤ 4374 ∧ ∀ d, LessRes F h o o' d → Q d mu
theorem ok_lessened (A : Al K mg base T) : FnOk P w K mg base CX0 5 A.f_lessened A.fd_lessened ["form", "points", "at"] (spD K T Ph_lessened) := by
  refine fn_dc A.F_lessened sc_lessened A.e_lessened ?len (fun Ar outer s H E hr => (ssd_cons (sd_set (i := 3) sc_lessened.nd rfl (.inr rfl) (ed_ix (ed_var 1 (pv 1)) (ed_var 2 (pv 2)) (fun _ _ => rfl)))
    (ssd_cons (sd_set (i := 4) sc_lessened.nd rfl (.inr rfl) (ed_lc rfl sc_lessened.nd (id_enum rfl A.z_enumerate (ad_cons (ed_var 1 (pv 1)) ad_nil)) (blkOk_by (own := [("place", 8), ("point", 9)]) (N := N_lessened) (sc := defScope s_lessened) (by decide +kernel)) (cg_pair 8 9) (fun _ _ _ _ _ => (pg_tup rfl (pgs_cons (pg_name (i := 8) sc_lessened.nd rfl (.inl rfl)) (pgs_cons (pg_name (i := 9) sc_lessened.nd rfl (.inl rfl)) pgs_nil)))) (fun _ _ _ _ _ => (pts_one (td_cmp op_ne od_ne (ed_var 8 (pv 8)) (ed_var 2 (pv 2)) (nomark _)))) (fun _ _ _ _ _ => (ed_var 9 (pv 9)))))
    (ssd_cons (sd_boxLc (i := 5) rfl sc_lessened.nd rfl rfl (sw_true rfl rfl rfl (by decide +kernel)) (id_list (ed_var 4 (pv 4))) (blkOk_by (own := [("one", 10)]) (N := N_lessened) (sc := defScope s_lessened) (by decide +kernel)) (cg_name 10) (fun _ _ _ _ _ => (pg_name (i := 10) sc_lessened.nd rfl (.inl rfl))) (fun _ _ _ _ _ => pts_yes) (fun _ _ _ _ _ => (ed_call (ok_plus A) (hr.mono (by decide)) rfl A.g_plus A.F_plus.kp A.b_plus (ad_cons (ed_var 3 (pv 3)) (ad_cons (ed_call (ok_times A) (hr.mono (by decide)) rfl A.g_times A.F_times.kp A.b_times (ad_cons (ed_neg (ed_call (ok_nearest A) (hr.mono (by decide)) rfl A.g_nearest A.F_nearest.kp A.b_nearest (ad_cons (ed_call (ok_both_at A) (hr.mono (by decide)) rfl A.g_both_at A.F_both_at.kp A.b_both_at (ad_cons (ed_var 0 (pv 0)) (ad_cons (ed_var 3 (pv 3)) (ad_cons (ed_var 10 (pv 10)) ad_nil)))) (ad_cons (ed_op op_mulW od_I ed_int (ed_call (ok_value_at A) (hr.mono (by decide)) rfl A.g_value_at A.F_value_at.kp A.b_value_at (ad_cons (ed_var 0 (pv 0)) (ad_cons (ed_var 10 (pv 10)) ad_nil)))) ad_nil)))) (ad_cons (ed_var 10 (pv 10)) ad_nil))) ad_nil)))))
    (ssd_cons (sd_forT PassesOwn.never rfl sc_lessened.nd (j := 6) rfl (.inr rfl) (ed_tup (ad_cons ed_int (ad_cons (ed_neg ed_int) ad_nil))) (ssd_one (sd_expr (ed_ext (pe_bm PySem.F.plainAttrs_list PySem.F.slot_list_extend PySem.F.type_list_extend mt_extend (ed_var 5 (pv 5)) (pa_cons (ed_lc rfl sc_lessened.nd (id_tup (ed_tup (ad_cons ed_int (ad_cons (ed_neg ed_int) ad_nil)))) (blkOk_by (own := [("more", 11)]) (N := N_lessened) (sc := defScope s_lessened) (by decide +kernel)) (cg_name 11) (fun _ _ _ _ _ => (pg_name (i := 11) sc_lessened.nd rfl (.inl rfl))) (fun _ _ _ _ _ => pts_yes) (fun _ _ _ _ _ => (ed_call (ok_plus A) (hr.mono (by decide)) rfl A.g_plus A.F_plus.kp A.b_plus (ad_cons (ed_call (ok_plus A) (hr.mono (by decide)) rfl A.g_plus A.F_plus.kp A.b_plus (ad_cons (ed_var 3 (pv 3)) (ad_cons (ed_call (ok_times A) (hr.mono (by decide)) rfl A.g_times A.F_times.kp A.b_times (ad_cons (ed_var 6 (pv 6)) (ad_cons (ed_ix (ed_var 4 (pv 4)) ed_int (fun _ _ => rfl)) ad_nil))) ad_nil))) (ad_cons (ed_call (ok_times A) (hr.mono (by decide)) rfl A.g_times A.F_times.kp A.b_times (ad_cons (ed_var 11 (pv 11)) (ad_cons (ed_ix (ed_var 4 (pv 4)) ed_int (fun _ _ => rfl)) ad_nil))) ad_nil))))) pa_nil))))))
    (ssd_cons (sd_set (i := 7) sc_lessened.nd rfl (.inl rfl) (ed_minK rfl rfl A.z_min (ed_var 5 (pv 5)) (k := 1) (ip := 9) (p := "point") ⟨⟨_, _, A.t_lessened, rfl, A.i_lessened, A.u_lessened⟩, rfl, lamS1_by (sc := defScope s_lessened) (p := "point") (by decide +kernel), sc_lessened.nd, rfl, hr.mono (by decide), fun _ _ _ _ _ _ => rfl, fun Aq sq Hq fq cq hr2 => (ed_call (ok_value_at A) hr2 rfl A.g_value_at A.F_value_at.kp A.b_value_at (ad_cons (ed_var 0 (pv 0)) (ad_cons (ed_var 9 (pv 9)) ad_nil)))⟩))
    (ssd_one (sd_ret (ed_if (td_cmp op_lt od_B (ed_call (ok_value_at A) (hr.mono (by decide)) rfl A.g_value_at A.F_value_at.kp A.b_value_at (ad_cons (ed_var 0 (pv 0)) (ad_cons (ed_var 7 (pv 7)) ad_nil))) (ed_call (ok_value_at A) (hr.mono (by decide)) rfl A.g_value_at A.F_value_at.kp A.b_value_at (ad_cons (ed_var 0 (pv 0)) (ad_cons (ed_var 3 (pv 3)) ad_nil))) (nomark _)) (ed_var 7 (pv 7)) ed_non))))))))) ?rd
  · rintro ds mu Qd ⟨F, p0, p1, p2, at_, h, o, o', rfl, rfl, _⟩; rfl
  · rintro ds mu Qd ⟨F, p0, p1, p2, at_, h, o, o', rfl, rfl, S, hc, vh, vo, vo', vh1, vo1, vo1', hq⟩
    refine put_e ?_; intro δ1 e; rw [st_lessened] at e; subst e
    have bh := val_le_bn S (by decide) (Int.le_refl _) vh1
    have bo := val_le_bn S (by decide) (Int.le_refl _) vo1
    have bo' := val_le_bn S (by decide) (Int.le_refl _) vo1'
    have bk : ∀ {x : Pt}, Bn3 64 x.x x.y x.z → Bn 300 (k F h x) := fun {x} hx => Bn.neg (bn_ediv ((((Bn.of_le (n := 2) (k := 2) (by decide) (by decide)).mul (bn_both S.bn bh hx)).add ((Bn.of_le (n := 2) (k := 2) (by decide) (by decide)).mul (bn_val S.bn hx))).mono (by decide)))
    have bn1 : ∀ {x : Pt}, Bn3 64 x.x x.y x.z → Bn3 400 (add h (smul (k F h x) x)).x (add h (smul (k F h x) x)).y (add h (smul (k F h x) x)).z := fun {x} hx => (bn3_addP bh (bn3_smul (bk hx) hx)).mono (by decide)
    have hix : atI [p0.D, p1.D, p2.D] at_ = some h.D := by rcases hc with ⟨rfl, rfl, _⟩ | ⟨rfl, rfl, _⟩ | ⟨rfl, rfl, _⟩ <;> rfl
    have hfm : List.filterMap (fun (a : Int × Pt) => if a.1 = at_ then none else some a.2.D) [(0, p0), (1, p1), (2, p2)] = [o.D, o'.D] := by rcases hc with ⟨rfl, _, rfl, rfl⟩ | ⟨rfl, _, rfl, rfl⟩ | ⟨rfl, _, rfl, rfl⟩ <;> rfl
    repeat walk_at "st"
    refine ⟨_, _, _, rfl, rfl, hix, ?_⟩
    repeat walk_at "st"
    refine lc_fm (fun (a : Int × Pt) => pairD (.int a.1) a.2.D) [(0, p0), (1, p1), (2, p2)] (fun a => if a.1 = at_ then none else some a.2.D) (fun a ha R N hR hN => ?_) three (fun a ha y hy => ?_) ?_
    · repeat walk_at "st"
      by_cases h0 : a.1 = at_
      · refine if_f (by show (!decide (a.1 = at_)) = false; rw [decide_eq_true h0]; rfl) (hN (if_pos h0))
      · refine if_t (by show (!decide (a.1 = at_)) = true; rw [decide_eq_false h0]; rfl) ⟨_, rfl, hR _ (if_neg h0)⟩
    · split at hy
      · cases hy
      · cases hy; rfl
    rw [hfm]
    repeat walk_at "st"
    refine lc_fix [(add h (smul (k F h o) o)).D, (add h (smul (k F h o') o')).D] ?_ (by decide : 2 ≤ sizeLine) rfl ?_
    · refine ⟨?_, ?_, trivial⟩
      · intro R N hR; repeat walk_at "st"
        refine ⟨_, _, _, _, _, _, _, _, _, _, _, _, rfl, S.bn.mono (by decide), bh.mono (by decide), bo.mono (by decide), ?_⟩
        repeat walk_at "st"
        refine ⟨_, _, _, _, _, _, _, _, _, rfl, S.bn.mono (by decide), bo.mono (by decide), ?_⟩
        repeat walk_at "st"
        refine ⟨Bn.cmul (Bn.of_le (n := 2) (k := 2) (by decide) (by decide)) (bn_val S.bn bo) (by decide), ?_⟩
        repeat walk_at "st"
        refine ⟨(bn_both S.bn bh bo).mono (by decide), Bn.mono ((Bn.of_le (n := 2) (k := 2) (by decide) (by decide)).mul (bn_val S.bn bo)) (by decide), by rw [pt_eta, fm_eta]; omega, ?_⟩
        repeat walk_at "st"
        refine ⟨_, _, _, _, rfl, (bk bo).mono (by decide), bo.mono (by decide), ?_⟩
        repeat walk_at "st"
        exact ⟨_, _, _, _, _, _, rfl, hR⟩
      · intro R N hR; repeat walk_at "st"
        refine ⟨_, _, _, _, _, _, _, _, _, _, _, _, rfl, S.bn.mono (by decide), bh.mono (by decide), bo'.mono (by decide), ?_⟩
        repeat walk_at "st"
        refine ⟨_, _, _, _, _, _, _, _, _, rfl, S.bn.mono (by decide), bo'.mono (by decide), ?_⟩
        repeat walk_at "st"
        refine ⟨Bn.cmul (Bn.of_le (n := 2) (k := 2) (by decide) (by decide)) (bn_val S.bn bo') (by decide), ?_⟩
        repeat walk_at "st"
        refine ⟨(bn_both S.bn bh bo').mono (by decide), Bn.mono ((Bn.of_le (n := 2) (k := 2) (by decide) (by decide)).mul (bn_val S.bn bo')) (by decide), by rw [pt_eta, fm_eta]; omega, ?_⟩
        repeat walk_at "st"
        refine ⟨_, _, _, _, rfl, (bk bo').mono (by decide), bo'.mono (by decide), ?_⟩
        repeat walk_at "st"
        exact ⟨_, _, _, _, _, _, rfl, hR⟩
    repeat walk_at "st"
    refine ⟨(by decide : 2 ≤ sizeLine), _, rfl, fun i δ mu => (∃ o6, δ = [some F.D, some (D.lst [p0.D, p1.D, p2.D]), some (D.int at_), some h.D, some (D.lst [o.D, o'.D]), some (D.box 0), o6, none, none, none, none, none]) ∧ ∃ L : List Pt, mu = [L.map Pt.D] ∧ (∀ q ∈ L, NearP h o o' q) ∧ 0 < L.length ∧ L.length ≤ 2 + 2 * i, ⟨⟨_, rfl⟩, [add h (smul (k F h o) o), add h (smul (k F h o') o')], rfl, ?n0, Nat.succ_pos _, Nat.le_refl _⟩, fun i x δ mu hx hP => ?n1, fun δ mu hP => ?n2⟩
    case n0 =>
      intro q hq1
      rcases List.mem_cons.mp hq1 with e | e
      · rw [e]; exact ⟨(bn1 bo).mono (by decide), k F h o, 0, near_l _ _ _ _⟩
      · rw [List.mem_singleton.mp e]; exact ⟨(bn1 bo').mono (by decide), 0, k F h o', near_r _ _ _ _⟩
    case n1 =>
      obtain ⟨⟨o6, rfl⟩, L, rfl, hL, l0, l1⟩ := hP
      obtain ⟨sg, rfl, bsg, hi⟩ := sign_of hx
      repeat walk_at "st"
      refine ⟨⟨0, rfl, Nat.succ_pos _⟩, ?_⟩
      repeat walk_at "st"
      refine ⟨(by decide : 2 ≤ sizeLine), _, rfl, ?_⟩
      refine lc_fix [(add (add h (smul sg o)) (smul 1 o')).D, (add (add h (smul sg o)) (smul (-1) o')).D] ?_ (by decide : 2 ≤ sizeLine) rfl ?_
      · refine ⟨?_, ?_, trivial⟩ <;> (intro R N hR; repeat walk_at "st")
        · refine ⟨_, _, _, _, rfl, bsg.mono (by decide), bo.mono (by decide), ?_⟩
          repeat walk_at "st"
          refine ⟨_, _, _, _, _, _, rfl, ?_⟩
          repeat walk_at "st"
          refine ⟨_, _, _, _, rfl, (Bn.of_le (n := 2) (k := 1) (by decide) (by decide)).mono (by decide), bo'.mono (by decide), ?_⟩
          repeat walk_at "st"
          exact ⟨_, _, _, _, _, _, rfl, hR⟩
        · refine ⟨_, _, _, _, rfl, bsg.mono (by decide), bo.mono (by decide), ?_⟩
          repeat walk_at "st"
          refine ⟨_, _, _, _, _, _, rfl, ?_⟩
          repeat walk_at "st"
          refine ⟨_, _, _, _, rfl, (Bn.of_le (n := 2) (k := 1) (by decide) (by decide)).mono (by decide), bo'.mono (by decide), ?_⟩
          repeat walk_at "st"
          exact ⟨_, _, _, _, _, _, rfl, hR⟩
      refine ⟨0, L.map Pt.D, _, rfl, rfl, rfl, rfl, ?_, ?_⟩
      · have : L.length + 2 ≤ sizeLine := Nat.le_trans (by omega : _ ≤ 8) (by decide)
        rw [List.length_map]
        exact this
      refine ⟨⟨_, rfl⟩, L ++ [add (add h (smul sg o)) (smul 1 o'), add (add h (smul sg o)) (smul (-1) o')], by rw [List.map_append]; rfl, ?_, by rw [List.length_append]; omega, by rw [List.length_append]; simp only [List.length_cons, List.length_nil]; omega⟩
      intro q hq1
      have bb : Bn3 400 (add h (smul sg o)).x (add h (smul sg o)).y (add h (smul sg o)).z := (bn3_addP bh (bn3_smul bsg bo)).mono (by decide)
      have b1 : Bn 2 (1 : Int) := Bn.of_le (k := 1) (by decide) (by decide)
      have b2 : Bn 2 (-1 : Int) := Bn.of_le (k := 1) (by decide) (by decide)
      rcases List.mem_append.mp hq1 with e | e
      · exact hL q e
      · rcases List.mem_cons.mp e with e | e
        · rw [e]; exact ⟨(bn3_addP bb (bn3_smul b1 bo')).mono (by decide), sg, 1, rfl⟩
        · rw [List.mem_singleton.mp e]; exact ⟨(bn3_addP bb (bn3_smul b2 bo')).mono (by decide), sg, -1, rfl⟩
    case n2 =>
      obtain ⟨⟨o6, rfl⟩, L, rfl, hL, l0, l1⟩ := hP
      repeat walk_at "st"
      refine ⟨0, L.map Pt.D, valD F, rfl, rfl, by rw [List.length_map]; exact l0, ?_, ?_⟩
      · intro d hd
        obtain ⟨q, hq1, rfl⟩ := List.mem_map.mp hd
        refine ⟨rfl, ?_⟩
        refine put_e ?_
        intro δ1 e
        subst e
        intro Q2 hQ2
        repeat walk_at "st"
        exact ⟨_, _, _, _, _, _, _, _, _, rfl, S.bn.mono (by decide), (hL q hq1).1.mono (by decide), hQ2⟩
      · intro d hd hmin
        obtain ⟨q, hq1, rfl⟩ := List.mem_map.mp hd
        obtain ⟨bq, ij⟩ := hL q hq1
        repeat walk_at "st"
        refine ⟨_, _, _, _, _, _, _, _, _, rfl, S.bn.mono (by decide), bq.mono (by decide), ?_⟩
        repeat walk_at "st"
        refine ⟨_, _, _, _, _, _, _, _, _, rfl, S.bn.mono (by decide), bh.mono (by decide), ?_⟩
        repeat walk_at "st"
        by_cases hv : val F q < val F h
        · refine if_t (decide_eq_true hv) ?_
          repeat walk_at "st"
          exact ⟨.inl rfl, hq _ (.inr ⟨q, rfl, hv, ij⟩)⟩
        · refine if_f (decide_eq_false hv) ?_
          exact ⟨.inl rfl, hq _ (.inl rfl)⟩
end
end K77
end
section
/-! how many points have one value (no program in sight) -/
namespace K77
theorem isq_mono {m n : Int} (h0 : 0 ≤ m) (h : m ≤ n) : isq m ≤ isq n := by
  have h1 := isq_sq h0
  have h2 := isq_lt (n := n) (by omega)
  have h3 := isq_nonneg n
  rcases Int.lt_or_le (isq n) (isq m) with c | c
  · have := sq_le_sq (x := isq n + 1) (y := isq m) (by omega) (by omega)
    omega
  · exact c
/-- three values of x make one too many -/
theorem quad3 {a b c x y z : Int} (ha : 0 < a) (hx : a * x * x + b * x + c = 0) (hy : a * y * y + b * y + c = 0) (hz : a * z * z + b * z + c = 0) (xy : x ≠ y) (xz : x ≠ z) (yz : y ≠ z) : False := by
  have e1 : (x - y) * (a * (x + y) + b) = 0 := by grind
  have e2 : (x - z) * (a * (x + z) + b) = 0 := by grind
  have f1 : a * (x + y) + b = 0 := by
    rcases Int.mul_eq_zero.mp e1 with h | h
    · omega
    · exact h
  have f2 : a * (x + z) + b = 0 := by
    rcases Int.mul_eq_zero.mp e2 with h | h
    · omega
    · exact h
  have e3 : a * (y - z) = 0 := by grind
  rcases Int.mul_eq_zero.mp e3 with h | h <;> omega
theorem two_of {l : List Pt} {F : Fm} {n y z : Int} (a : 0 < F.a) (nd : l.Nodup) (h : ∀ p ∈ l, val F p = n ∧ p.y = y ∧ p.z = z) : l.length ≤ 2 := by
  rcases l with _ | ⟨p, _ | ⟨q, _ | ⟨r, l⟩⟩⟩
  · simp
  · simp
  · simp
  · exfalso
    have hp := h p (by simp)
    have hq := h q (by simp)
    have hr := h r (by simp)
    simp only [List.nodup_cons, List.mem_cons, not_or] at nd
    obtain ⟨⟨n1, n2, _⟩, ⟨n3, _⟩, _⟩ := nd
    obtain ⟨x1, y1, z1⟩ := p
    obtain ⟨x2, y2, z2⟩ := q
    obtain ⟨x3, y3, z3⟩ := r
    simp only [Pt.mk.injEq] at *
    obtain ⟨v1, rfl, rfl⟩ := hp
    obtain ⟨v2, rfl, rfl⟩ := hq
    obtain ⟨v3, rfl, rfl⟩ := hr
    unfold val at v1 v2 v3
    simp only at v1 v2 v3
    refine quad3 (a := F.a) (b := F.e * z3 + F.f * y3) (c := F.b * y3 * y3 + F.c * z3 * z3 + F.d * y3 * z3 - n) (x := x1) (y := x2) (z := x3) a ?_ ?_ ?_ ?_ ?_ ?_
    · grind
    · grind
    · grind
    · intro e; exact n1 ⟨e, rfl, rfl⟩
    · intro e; exact n2 ⟨e, rfl, rfl⟩
    · intro e; exact n3 ⟨e, rfl, rfl⟩
theorem range_nodup (lo : Int) (n : Nat) : ((List.range n).map fun (i : Nat) => lo + ((i : Nat) : Int)).Nodup := by
  rw [List.nodup_iff_pairwise_ne, List.pairwise_map]
  exact List.Pairwise.imp (fun {a b} h => by omega) (List.nodup_iff_pairwise_ne.mp List.nodup_range)
theorem ptsX_nodup (F : Fm) (M z y : Int) : (ptsX F M z y).Nodup := by
  unfold ptsX spanL
  have := range_nodup (spanLo (-isq (4 * F.a * M - (wid F * y * y + 2 * skw F * y * z + cee F * z * z)) - F.f * y - F.e * z) (2 * F.a)) (spanHi (isq (4 * F.a * M - (wid F * y * y + 2 * skw F * y * z + cee F * z * z)) - F.f * y - F.e * z) (2 * F.a) - spanLo (-isq (4 * F.a * M - (wid F * y * y + 2 * skw F * y * z + cee F * z * z)) - F.f * y - F.e * z) (2 * F.a)).toNat
  revert this
  generalize (List.map _ _ : List Int) = l
  intro nd
  rw [List.nodup_iff_pairwise_ne, List.pairwise_map]
  exact List.Pairwise.imp (fun {a b} h e => h (by injection e)) (List.nodup_iff_pairwise_ne.mp nd)
theorem ptsX_count {F : Fm} {M z y n : Int} (a : 0 < F.a) : ((ptsX F M z y).filter fun p => decide (val F p = n)).length ≤ 2 := by
  refine two_of (F := F) (n := n) (y := y) (z := z) a ((ptsX_nodup F M z y).sublist List.filter_sublist) fun p hp => ?_
  obtain ⟨h1, h2⟩ := List.mem_filter.mp hp
  refine ⟨of_decide_eq_true h2, ?_⟩
  unfold ptsX at h1
  obtain ⟨x, _, rfl⟩ := List.mem_map.mp h1
  exact ⟨rfl, rfl⟩
theorem flat_len {α β : Type} (f : α → List β) (B : Nat) : ∀ (l : List α), (∀ x ∈ l, (f x).length ≤ B) → (l.flatMap f).length ≤ l.length * B
  | [], _ => by simp
  | x :: l, h => by
    have h1 := h x (by simp)
    have h2 := flat_len f B l fun y hy => h y (by simp [hy])
    rw [List.flatMap_cons, List.length_append, List.length_cons, Nat.add_mul, Nat.one_mul]
    omega
theorem filter_flatMap {α β : Type} (p : β → Bool) (f : α → List β) : ∀ l : List α, (l.flatMap f).filter p = l.flatMap fun x => (f x).filter p
  | [] => rfl
  | x :: l => by rw [List.flatMap_cons, List.flatMap_cons, List.filter_append, filter_flatMap p f l]
theorem span_len {r t s : Int} (h : 0 < s) (h0 : 0 ≤ r) : (spanL (-r - t) (r - t) s).length ≤ (2 * r / s + 1).toNat := by
  unfold spanL
  rw [List.length_map, List.length_range]
  have : spanHi (r - t) s - spanLo (-r - t) s ≤ 2 * r / s + 1 := by
    unfold spanHi spanLo
    have h1 : (r - t) / s * s ≤ r - t := Int.ediv_mul_le _ (Int.ne_of_gt h)
    have h2 : -(-r - t) / s * s ≤ -(-r - t) := Int.ediv_mul_le _ (Int.ne_of_gt h)
    have h3 : ((r - t) / s + -(-r - t) / s) ≤ 2 * r / s := by
      rw [Int.le_ediv_iff_mul_le h, Int.add_mul]
      omega
    omega
  omega
theorem ptsY_count {F : Fm} {M z n : Int} (S : Sm F) (h0 : 0 ≤ M) (hz : disc F * z * z ≤ M * wid F) : ((ptsY F M z).filter fun p => decide (val F p = n)).length ≤ (2 * isq (4 * F.a * (M * wid F)) / wid F + 1).toNat * 2 := by
  unfold ptsY
  rw [filter_flatMap]
  refine Nat.le_trans (flat_len _ 2 _ fun y _ => ptsX_count S.a0) (Nat.mul_le_mul_right _ ?_)
  refine Nat.le_trans (span_len S.w0 (isq_nonneg _)) ?_
  have z0 := zin_nonneg S.a0 hz
  have hs : 0 ≤ disc F * z * z := by
    rw [Int.mul_assoc]; exact Int.mul_nonneg (Int.le_of_lt S.s0) (sq_nonneg z)
  have m : isq (4 * F.a * (M * wid F - disc F * z * z)) ≤ isq (4 * F.a * (M * wid F)) := isq_mono z0 (Int.mul_le_mul_of_nonneg_left (by omega) (by have := S.a0; omega))
  have d : 2 * isq (4 * F.a * (M * wid F - disc F * z * z)) / wid F ≤ 2 * isq (4 * F.a * (M * wid F)) / wid F := Int.ediv_le_ediv S.w0 (by omega)
  omega
theorem cz_le {F : Fm} {M : Int} (S : Sm F) (m0 : 0 ≤ M) (m1 : M ≤ 4374) : (2 * isq (4 * F.a * (M * wid F)) / wid F) * hiZ F M ≤ 1172232 := by
  have a0 := S.a0
  have w0 := S.w0
  have s0 := S.s0
  have mw : 0 ≤ M * wid F := Int.mul_nonneg m0 (Int.le_of_lt w0)
  have amw : 0 ≤ 4 * F.a * (M * wid F) := Int.mul_nonneg (by omega) mw
  have r0 := isq_nonneg (4 * F.a * (M * wid F))
  have r1 := isq_sq amw
  generalize isq (4 * F.a * (M * wid F)) = r at r0 r1 ⊢
  have c0 : 0 ≤ 2 * r / wid F := Int.ediv_nonneg (by omega) (Int.le_of_lt w0)
  have c1 : 2 * r / wid F * wid F ≤ 2 * r := Int.ediv_mul_le _ (Int.ne_of_gt w0)
  generalize 2 * r / wid F = C at c0 c1 ⊢
  have z0 : 0 ≤ hiZ F M := isq_nonneg _
  have z1 : disc F * hiZ F M * hiZ F M ≤ M * wid F := (z_ok s0 w0 m0).mp ⟨by omega, Int.le_refl _⟩
  generalize hiZ F M = Z at z0 z1 ⊢
  generalize disc F = d at *
  generalize wid F = w at *
  -- C*w ≤ 2r, r*r ≤ 4 a M w, d*Z*Z ≤ M*w
  have k1 : (C * w) * (C * w) ≤ (2 * r) * (2 * r) := sq_le_sq (Int.mul_nonneg c0 (Int.le_of_lt w0)) c1
  have k2 : w * (C * C * w) ≤ w * (16 * F.a * M) := by
    have e1 : w * (C * C * w) = (C * w) * (C * w) := by grind
    have e2 : w * (16 * F.a * M) = 4 * (4 * F.a * (M * w)) := by grind
    have e3 : (2 * r) * (2 * r) = 4 * (r * r) := by grind
    omega
  have k3 : C * C * w ≤ 16 * F.a * M := le_of_mul_le w0 k2
  have k4 : Z * Z ≤ M * w := by
    have : 1 * (Z * Z) ≤ d * (Z * Z) := Int.mul_le_mul_of_nonneg_right (by omega) (sq_nonneg Z)
    rw [Int.mul_assoc] at z1
    omega
  have k5 : (C * C * w) * (Z * Z) ≤ (16 * F.a * M) * (M * w) := Int.mul_le_mul k3 k4 (sq_nonneg Z) (Int.mul_nonneg (by omega) m0)
  have k6 : w * ((C * Z) * (C * Z)) ≤ w * (16 * F.a * (M * M)) := by
    have e1 : w * ((C * Z) * (C * Z)) = (C * C * w) * (Z * Z) := by grind
    have e2 : w * (16 * F.a * (M * M)) = (16 * F.a * M) * (M * w) := by grind
    omega
  have k7 := le_of_mul_le w0 k6
  have k8 : 16 * F.a * (M * M) ≤ (16 * 4374) * (4374 * 4374) := Int.mul_le_mul (by have := S.a1; omega) (mul_le m0 m0 m1 m1) (sq_nonneg M) (by decide)
  have := abs_of_sq (x := C * Z) (k := 1172232) (by decide) (by omega)
  exact this.2
theorem count_le {F : Fm} {n : Int} (S : Sm F) (m0 : 0 ≤ n) (m1 : n ≤ 4374) : ((ptsTo F n).filter fun p => decide (val F p = n)).length ≤ 2 ^ 24 := by
  unfold ptsTo
  rw [filter_flatMap]
  refine Nat.le_trans (flat_len _ ((2 * isq (4 * F.a * (n * wid F)) / wid F + 1).toNat * 2) _ fun z hz => ptsY_count S m0 ?_) ?_
  · have := mem_range.mp hz
    exact (z_ok S.s0 S.w0 m0).mp ⟨this.1, by omega⟩
  · rw [List.length_map, List.length_range]
    have h1 := cz_le S m0 m1
    have h2 := hiZ_le S m0 m1
    have w0 := S.w0
    have mw : 0 ≤ n * wid F := Int.mul_nonneg m0 (Int.le_of_lt w0)
    have amw : 0 ≤ 4 * F.a * (n * wid F) := Int.mul_nonneg (by have := S.a0; omega) mw
    have r0 := isq_nonneg (4 * F.a * (n * wid F))
    have r1 := isq_sq amw
    have c2 : 2 * isq (4 * F.a * (n * wid F)) / wid F ≤ 17496 := by
      have w1 : 1 ≤ wid F := by omega
      have : isq (4 * F.a * (n * wid F)) ≤ 8748 * wid F := by
        refine isq_le amw (by omega) ?_
        have a1 := S.a1
        have a0 := S.a0
        have : 4 * F.a * (n * wid F) ≤ 17496 * (4374 * wid F) := Int.mul_le_mul (by omega) (Int.mul_le_mul_of_nonneg_right m1 (Int.le_of_lt w0)) mw (by decide)
        have e : 8748 * wid F * (8748 * wid F) = 76527504 * (wid F * wid F) := by grind
        have : 1 * wid F ≤ wid F * wid F := Int.mul_le_mul_of_nonneg_right w1 (Int.le_of_lt w0)
        omega
      have : 2 * isq (4 * F.a * (n * wid F)) / wid F < 17497 := by
        rw [Int.ediv_lt_iff_lt_mul w0]
        omega
      omega
    have c0 : 0 ≤ 2 * isq (4 * F.a * (n * wid F)) / wid F := Int.ediv_nonneg (by omega) (Int.le_of_lt w0)
    generalize 2 * isq (4 * F.a * (n * wid F)) / wid F = C at *
    generalize hiZ F n = Z at *
    obtain ⟨z0, z1⟩ := h2
    have e1 : (Z + 1 - -Z).toNat * ((C + 1).toNat * 2) = ((2 * Z + 1) * ((C + 1) * 2)).toNat := by
      have : (((Z + 1 - -Z).toNat * ((C + 1).toNat * 2) : Nat) : Int) = (2 * Z + 1) * ((C + 1) * 2) := by
        rw [Int.natCast_mul, Int.natCast_mul, Int.toNat_of_nonneg (by omega), Int.toNat_of_nonneg (by omega)]
        grind
      omega
    rw [e1]
    have e2 : (2 * Z + 1) * ((C + 1) * 2) = 4 * (C * Z) + 4 * Z + 2 * C + 2 := by grind
    omega
end K77
end
section
/-! steps of the lessening; orders of three points; minors; leads there and back (no program in sight) -/
namespace K77
theorem det_0 (h o o' : Pt) (i j : Int) : det ⟨add (add h (smul i o)) (smul j o'), o, o'⟩ = det ⟨h, o, o'⟩ := by unfold det dot cross add smul; simp only; grind
theorem det_1 (h o o' : Pt) (i j : Int) : det ⟨o, add (add h (smul i o)) (smul j o'), o'⟩ = det ⟨o, h, o'⟩ := by unfold det dot cross add smul; simp only; grind
theorem det_2 (h o o' : Pt) (i j : Int) : det ⟨o, o', add (add h (smul i o)) (smul j o')⟩ = det ⟨o, o', h⟩ := by unfold det dot cross add smul; simp only; grind
theorem det_s1 (p q r : Pt) : det ⟨q, p, r⟩ = -det ⟨p, q, r⟩ := by unfold det dot cross; simp only; grind
theorem det_s2 (p q r : Pt) : det ⟨p, r, q⟩ = -det ⟨p, q, r⟩ := by unfold det dot cross; simp only; grind
theorem det_neg (p q r : Pt) : det ⟨smul (-1) p, smul (-1) q, smul (-1) r⟩ = -det ⟨p, q, r⟩ := by unfold det dot cross smul; simp only; grind
theorem val_neg (F : Fm) (p : Pt) : val F (smul (-1) p) = val F p := by unfold val smul; simp only; grind
theorem both_neg (F : Fm) (p q : Pt) : both F (smul (-1) p) (smul (-1) q) = both F p q := by unfold both val smul add; simp only; grind
/-- two points' minor -/
theorem minor_pos {F : Fm} {u v w : Pt} (a : 0 < F.a) (wd : 0 < wid F) (s : 0 < disc F) (h : det ⟨u, v, w⟩ ≠ 0) : 0 < 4 * val F u * val F v - both F u v * both F u v := by
  have hv : 0 < val F v := val_pos a wd s (rows_ne h).2.1
  have e : val F (add (smul (2 * val F v) u) (smul (-both F u v) v)) = val F v * (4 * val F u * val F v - both F u v * both F u v) := by
    have k : ∀ i j : Int, val F (add (smul i u) (smul j v)) = i * i * val F u + i * j * both F u v + j * j * val F v := by
      intro i j
      unfold both val add smul; simp only; grind
    rw [k]; grind
  have n : add (smul (2 * val F v) u) (smul (-both F u v) v) ≠ ⟨0, 0, 0⟩ := by
    intro z
    have d : det ⟨add (smul (2 * val F v) u) (smul (-both F u v) v), v, w⟩ = 2 * val F v * det ⟨u, v, w⟩ := by
      unfold det dot cross add smul; simp only; grind
    rw [z] at d
    have d0 : det ⟨⟨0, 0, 0⟩, v, w⟩ = 0 := by unfold det dot cross; simp
    rw [d0] at d
    rcases Int.mul_eq_zero.mp d.symm with q | q
    · omega
    · exact h q
  have p := val_pos a wd s n
  rw [e] at p
  exact pos_of_mul_pos p hv
/-- a small form by a table of small points -/
theorem sm_formBy {F : Fm} {t : Tb} (a : 0 < F.a) (wd : 0 < wid F) (s : 0 < disc F) (d : det t = 1) (h1 : val F t.u ≤ 4374) (h2 : val F t.v ≤ 4374) (h3 : val F t.w ≤ 4374) : Sm (formBy F t) := by
  obtain ⟨u, v, w⟩ := t
  have ne : det ⟨u, v, w⟩ ≠ 0 := by omega
  refine ⟨val_pos a wd s (rows_ne ne).1, minor_pos a wd s ne, ?_, h1, h2, h3⟩
  rw [disc_formBy, d]
  omega
/-! ### leads -/
def idT : Tb := ⟨⟨1, 0, 0⟩, ⟨0, 1, 0⟩, ⟨0, 0, 1⟩⟩
theorem tr_tr (t : Tb) : tr (tr t) = t := rfl
theorem tr_mul (s t : Tb) : tr (mulT s t) = mulT (tr t) (tr s) := by
  unfold mulT tr dot; simp only [Tb.mk.injEq, Pt.mk.injEq]
  refine ⟨⟨?_, ?_, ?_⟩, ⟨?_, ?_, ?_⟩, ⟨?_, ?_, ?_⟩⟩ <;> grind
theorem mul_assocT (r s t : Tb) : mulT (mulT r s) t = mulT r (mulT s t) := by
  unfold mulT tr dot; simp only [Tb.mk.injEq, Pt.mk.injEq]
  refine ⟨⟨?_, ?_, ?_⟩, ⟨?_, ?_, ?_⟩, ⟨?_, ?_, ?_⟩⟩ <;> grind
theorem tr_adj (t : Tb) : tr (adj t) = adj (tr t) := by
  unfold adj tr cross; simp only [Tb.mk.injEq, Pt.mk.injEq]
  refine ⟨⟨?_, ?_, ?_⟩, ⟨?_, ?_, ?_⟩, ⟨?_, ?_, ?_⟩⟩ <;> grind
theorem adj_mul {t : Tb} (h : det t = 1) : mulT (adj t) t = idT := by
  unfold det dot cross at h; simp only at h
  unfold mulT adj tr dot cross idT; simp only [Tb.mk.injEq, Pt.mk.injEq]
  refine ⟨⟨?_, ?_, ?_⟩, ⟨?_, ?_, ?_⟩, ⟨?_, ?_, ?_⟩⟩ <;> grind
theorem mul_adj {t : Tb} (h : det t = 1) : mulT t (adj t) = idT := by
  unfold det dot cross at h; simp only at h
  unfold mulT adj tr dot cross idT; simp only [Tb.mk.injEq, Pt.mk.injEq]
  refine ⟨⟨?_, ?_, ?_⟩, ⟨?_, ?_, ?_⟩, ⟨?_, ?_, ?_⟩⟩ <;> grind
theorem formBy_id (F : Fm) : formBy F idT = F := by
  obtain ⟨a, b, c, d, e, f⟩ := F
  unfold formBy idT both val add; simp only [Fm.mk.injEq]
  refine ⟨?_, ?_, ?_, ?_, ?_, ?_⟩ <;> grind
theorem Leads.id (F : Fm) : Leads F F idT := ⟨by decide, formBy_id F⟩
theorem det_adj1 {t : Tb} (h : det t = 1) : det (adj t) = 1 := by rw [det_adj, h]; rfl
theorem Leads.trans {F G H : Fm} {s t : Tb} (h : Leads F G s) (g : Leads G H t) : Leads F H (mulT t s) :=
  ⟨by rw [det_mul, h.1, g.1]; rfl, by rw [formBy_mul, h.2]; exact g.2⟩
theorem Leads.back {F G : Fm} {s : Tb} (h : Leads F G s) : Leads G F (adj s) :=
  ⟨det_adj1 h.1, by rw [← h.2, ← formBy_mul, adj_mul h.1, formBy_id]⟩
theorem Leads.of {F : Fm} {t : Tb} (h : det t = 1) : Leads F (formBy F t) t := ⟨h, rfl⟩
/-- what lead_of puts together -/
theorem leads_put {F G : Fm} {near far t : Tb} (hn : det near = 1) (hf : det far = 1) (h : Leads (formBy F near) (formBy G far) t) : Leads F G (tr (mulT (mulT (tr near) (tr t)) (adj (tr far)))) := by
  have e : tr (mulT (mulT (tr near) (tr t)) (adj (tr far))) = mulT (adj far) (mulT t near) := by
    rw [tr_mul, tr_mul, tr_adj]; rfl
  rw [e]
  exact ((Leads.of hn).trans h).trans (Leads.of hf).back
theorem leads_get {F G : Fm} {near far t : Tb} (hn : det near = 1) (hf : det far = 1) (h : Leads F G t) : ∃ s, Leads (formBy F near) (formBy G far) s :=
  ⟨_, ((Leads.of hn).back.trans h).trans (Leads.of hf)⟩
/-- both signs lead -/
theorem leads_sign {F G : Fm} {t : Tb} (hd : 0 < disc F) (e : disc F = disc G) (h : formBy F t = G) : ∃ s, Leads F G s := by
  have d := disc_formBy F t
  rw [h, ← e] at d
  have d1 : disc F * (det t * det t) = disc F * 1 := by omega
  have d2 : det t * det t = 1 := Int.eq_of_mul_eq_mul_left (Int.ne_of_gt hd) d1
  have d3 : (det t - 1) * (det t + 1) = 0 := by grind
  rcases Int.mul_eq_zero.mp d3 with q | q
  · exact ⟨t, by omega, h⟩
  · refine ⟨⟨smul (-1) t.u, smul (-1) t.v, smul (-1) t.w⟩, ?_, ?_⟩
    · rw [det_neg]
      have : det ⟨t.u, t.v, t.w⟩ = det t := rfl
      omega
    · rw [← h]
      unfold formBy
      simp only [val_neg, both_neg]
theorem disc_leads {F G : Fm} {t : Tb} (h : Leads F G t) : disc G = disc F := by rw [← h.2, disc_formBy, h.1]; omega
end K77
end
section
namespace K77
open PySem PySem.Spec PyProof.Rows L2 DL
local macro_rules | `(tactic| walk_at "bn") => `(tactic| first
  | assumption
  | (apply Bn.add <;> walk_at "bn")
  | (apply Bn.sub <;> walk_at "bn")
  | (apply Bn.mul <;> walk_at "bn")
  | (apply Bn.neg; walk_at "bn")
  | exact Bn.lit (by decide))
local macro_rules | `(tactic| walk_at "cm") => `(tactic| (apply Bn.cmul; (focus walk_at "bn"); (focus walk_at "bn"); (focus decide)))
local macro_rules | `(tactic| walk_at "st") => `(tactic| first
  | (refine put_e ?_; intro δ1 e; simp only [List.set_cons_zero, List.set_cons_succ, wipeD, List.map_cons, List.map_nil] at e; subst e)
  | refine ⟨_, rfl, ?_⟩
  | (refine ⟨_, _, rfl, rfl, ?cm, ?_⟩; (case cm => walk_at "cm"))
  | refine ⟨_, _, rfl, rfl, ?_⟩
  | refine ⟨_, rfl, rfl, ?_⟩
  | refine ⟨_, _, rfl, ?_⟩
  | refine ⟨_, _, _, rfl, ?_⟩
  | refine ⟨_, _, .inl rfl, ?_⟩
  | refine ⟨_, .inl rfl, ?_⟩
  | refine ⟨_, .inr rfl, ?_⟩
  | refine ⟨rfl, ?_⟩
  | refine ⟨_, _, _, rfl, rfl, rfl, ?_⟩
  | refine if_t rfl ?_
  | refine if_f rfl ?_)
section
variable {P : Program} {w : World} {K : PySem.W.Frag} {mg : Str → Option Value} {base : Heap} {T : List (Addr × Str)}
theorem perm2 {α : Type} {es : List α} {a b : α} (h : es.Perm [a, b]) : es = [a, b] ∨ es = [b, a] := by
  rcases es with _ | ⟨x, es⟩
  · exact absurd h.length_eq (by simp)
  · have hx : x ∈ [a, b] := h.subset (by simp)
    rcases List.mem_cons.mp hx with rfl | hx
    · have := List.perm_singleton.mp (List.Perm.cons_inv h)
      rw [this]; exact .inl rfl
    · have := List.mem_singleton.mp hx
      subst this
      have := List.perm_singleton.mp (List.Perm.cons_inv (h.trans (List.Perm.swap x a [])))
      rw [this]; exact .inr rfl
theorem perm3 {α : Type} {es : List α} {a b c : α} (h : es.Perm [a, b, c]) : es = [a, b, c] ∨ es = [a, c, b] ∨ es = [b, a, c] ∨ es = [b, c, a] ∨ es = [c, a, b] ∨ es = [c, b, a] := by
  rcases es with _ | ⟨x, es⟩
  · exact absurd h.length_eq (by simp)
  · have hx : x ∈ [a, b, c] := h.subset (by simp)
    rcases List.mem_cons.mp hx with rfl | hx
    · rcases perm2 (List.Perm.cons_inv h) with e | e <;> rw [e] <;> simp
    · rcases List.mem_cons.mp hx with rfl | hx
      · rcases perm2 (List.Perm.cons_inv (h.trans (List.Perm.swap x a [c]))) with e | e <;> rw [e] <;> simp
      · have := List.mem_singleton.mp hx
        subst this
        rcases perm2 (List.Perm.cons_inv (h.trans (((List.Perm.swap x b []).cons a).trans (List.Perm.swap x a [b])))) with e | e <;> rw [e] <;> simp
/-- where the loop of small_points stands -/
def SpW (F : Fm) (m : Nat) (δ : Dl) (mu : Mu) : Prop := ∃ (p0 p1 p2 : Pt) (at_ : Int) (o3 : Option D), δ = [some F.D, some (.box 0), some (.int at_), o3, none] ∧ mu = [[p0.D, p1.D, p2.D]] ∧ (det ⟨p0, p1, p2⟩ = 1 ∨ det ⟨p0, p1, p2⟩ = -1) ∧
  val F p0 ≤ 4374 ∧ val F p1 ≤ 4374 ∧ val F p2 ≤ 4374 ∧ 0 ≤ at_ ∧ at_ ≤ 3 ∧ m = (4 * (val F p0 + val F p1 + val F p2) + 3 - at_).toNat
def Ph_small_points : PhiD := fun ds mu Q => ∃ F : Fm, mu = [] ∧ ds = [F.D] ∧ Sm F ∧ ∀ t : Tb, det t = 1 → val F t.u ≤ 4374 → val F t.v ≤ 4374 → val F t.w ≤ 4374 → Q t.D mu
theorem ok_small_points (A : Al K mg base T) : FnOk P w K mg base CX0 6 A.f_small_points A.fd_small_points ["form"] (spD K T Ph_small_points) := by
  refine fn_dc A.F_small_points sc_small_points A.e_small_points ?len (fun Ar outer s H E hr => (ssd_cons (sd_parBox (i := 1) (j := 2) rfl sc_small_points.nd rfl rfl (by decide) rfl rfl (nd_list rfl A.z_list (by decide +kernel) (ad_cons (ed_c (v := .ref A.a_IDLE) (d := idleD) (pe_glob rfl A.m_IDLE rfl) A.r_IDLE) ad_nil)) (by rfl))
    (ssd_cons (sd_while PassesOwn.never (td_cmp op_lt od_B (ed_var 2 (pv 2)) ed_int (nomark _)) (ssd_cons (sd_set (i := 3) sc_small_points.nd rfl (.inl rfl) (ed_callU (ok_lessened A) hr rfl A.g_lessened A.F_lessened.kp A.b_lessened (ad_cons (ed_var 0 (pv 0)) (ad_cons (ed_var 1 (pv 1)) (ad_cons (ed_var 2 (pv 2)) ad_nil)))))
    (ssd_one (sd_if (td_isN (ed_var 3 (pv 3))) (ssd_one (sd_aug (i := 2) sc_small_points.nd rfl (.inl rfl) ed_int)) (ssd_one (sd_asg (ed_tup (ad_cons (ed_var 3 (pv 3)) (ad_cons ed_int ad_nil))) (gd_tup (n := 2) rfl (gsd_cons (gd_sub (pg_sub (ed_var 1 (pv 1)) (ed_var 2 (pv 2)) set_list)) (gsd_cons (gd_name (i := 2) sc_small_points.nd rfl (.inl rfl)) gsd_nil)))))))))
    (ssd_cons (sd_set (i := 1) sc_small_points.nd rfl (.inl rfl) (ed_sortK rfl rfl A.z_sorted (ed_var 1 (pv 1)) (k := 1) (ip := 4) (p := "point") ⟨⟨_, _, A.t_small_points, rfl, A.i_small_points, A.u_small_points⟩, rfl, lamS1_by (sc := defScope s_small_points) (p := "point") (by decide +kernel), sc_small_points.nd, rfl, hr.mono (by decide), fun _ _ _ _ _ _ => rfl, fun Aq sq Hq fq cq hr2 => (ed_call (ok_value_at A) hr2 rfl A.g_value_at A.F_value_at.kp A.b_value_at (ad_cons (ed_var 0 (pv 0)) (ad_cons (ed_var 4 (pv 4)) ad_nil)))⟩))
    (ssd_one (sd_ret (ed_if (td_cmp op_eq od_eq (ed_call (ok_determinant A) (hr.mono (by decide)) rfl A.g_determinant A.F_determinant.kp A.b_determinant (ad_cons (ed_var 1 (pv 1)) ad_nil)) ed_int (nomark _)) (ed_callTy rc_tuple call_tuple_of (by rfl) A.z_tuple (by decide +kernel) (ad_cons (ed_var 1 (pv 1)) ad_nil)) (ed_callTy rc_tuple call_tuple_of (by rfl) A.z_tuple (by decide +kernel) (ad_cons (ed_lc rfl sc_small_points.nd (id_list (ed_var 1 (pv 1))) (blkOk_by (own := [("point", 4)]) (N := N_small_points) (sc := defScope s_small_points) (by decide +kernel)) (cg_name 4) (fun _ _ _ _ _ => (pg_name (i := 4) sc_small_points.nd rfl (.inl rfl))) (fun _ _ _ _ _ => pts_yes) (fun _ _ _ _ _ => (ed_call (ok_times A) (hr.mono (by decide)) rfl A.g_times A.F_times.kp A.b_times (ad_cons (ed_neg ed_int) (ad_cons (ed_var 4 (pv 4)) ad_nil))))) ad_nil))))))))) ?rd
  · rintro ds mu Qd ⟨F, rfl, rfl, _⟩; rfl
  · rintro ds mu Qd ⟨F, rfl, rfl, S, hq⟩
    refine put_e ?_; intro δ1 e; rw [st_small_points] at e; subst e
    repeat walk_at "st"
    have va : val F ⟨1, 0, 0⟩ = F.a := by unfold val; simp only; grind
    have vb : val F ⟨0, 1, 0⟩ = F.b := by unfold val; simp only; grind
    have vc : val F ⟨0, 0, 1⟩ = F.c := by unfold val; simp only; grind
    have vp : ∀ {p : Pt}, p ≠ ⟨0, 0, 0⟩ → 0 < val F p := fun {p} h => val_pos S.a0 S.w0 S.s0 h
    refine ⟨SpW F, ⟨_, ⟨1, 0, 0⟩, ⟨0, 1, 0⟩, ⟨0, 0, 1⟩, 0, none, rfl, rfl, .inl (by decide), by rw [va]; exact S.a1, by rw [vb]; exact S.b1, by rw [vc]; exact S.c1, by decide, by decide, rfl⟩, ?_⟩
    rintro m δ mu ⟨p0, p1, p2, at_, o3, rfl, rfl, hd, v0, v1, v2, a0, a3, hm⟩
    have dn : det ⟨p0, p1, p2⟩ ≠ 0 := by rcases hd with e | e <;> omega
    have w0 := vp (rows_ne dn).1
    have w1 := vp (rows_ne dn).2.1
    have w2 := vp (rows_ne dn).2.2
    simp only at w0 w1 w2
    repeat walk_at "st"
    by_cases h3 : at_ < 3
    · refine if_t (decide_eq_true h3) ?_
      repeat walk_at "st"
      obtain ⟨h, o, o', hc, x1, x2, x3, y1, y2, y3⟩ : ∃ h o o' : Pt, ((at_ = 0 ∧ h = p0 ∧ o = p1 ∧ o' = p2) ∨ (at_ = 1 ∧ h = p1 ∧ o = p0 ∧ o' = p2) ∨ (at_ = 2 ∧ h = p2 ∧ o = p0 ∧ o' = p1)) ∧ 0 < val F h ∧ 0 < val F o ∧ 0 < val F o' ∧ val F h ≤ 4374 ∧ val F o ≤ 4374 ∧ val F o' ≤ 4374 := by
        rcases (show at_ = 0 ∨ at_ = 1 ∨ at_ = 2 by omega) with e | e | e
        · exact ⟨p0, p1, p2, .inl ⟨e, rfl, rfl, rfl⟩, w0, w1, w2, v0, v1, v2⟩
        · exact ⟨p1, p0, p2, .inr (.inl ⟨e, rfl, rfl, rfl⟩), w1, w0, w2, v1, v0, v2⟩
        · exact ⟨p2, p0, p1, .inr (.inr ⟨e, rfl, rfl, rfl⟩), w2, w0, w1, v2, v0, v1⟩
      refine ⟨F, p0, p1, p2, at_, h, o, o', rfl, rfl, S, hc, x1, x2, x3, y1, y2, y3, ?_⟩
      rintro d (rfl | ⟨q, rfl, hv, i, j, e⟩)
      · refine ⟨rfl, ?_⟩
        repeat walk_at "st"
        exact ⟨(4 * (val F p0 + val F p1 + val F p2) + 3 - (at_ + 1)).toNat, by omega, p0, p1, p2, at_ + 1, _, rfl, rfl, hd, v0, v1, v2, by omega, by omega, rfl⟩
      · refine ⟨rfl, ?_⟩
        rcases hc with ⟨rfl, rfl, rfl, rfl⟩ | ⟨rfl, rfl, rfl, rfl⟩ | ⟨rfl, rfl, rfl, rfl⟩
        · have dq : det ⟨q, o, o'⟩ = det ⟨h, o, o'⟩ := by rw [e]; exact det_0 _ _ _ _ _
          rw [← dq] at hd
          repeat walk_at "st"
          refine ⟨(by decide : 2 ≤ sizeLine), ?_⟩
          repeat walk_at "st"
          refine ⟨_, _, _, _, rfl, rfl, rfl, rfl, rfl, ?_⟩
          repeat walk_at "st"
          exact ⟨(4 * (val F q + val F o + val F o') + 3 - 0).toNat, by omega, q, o, o', 0, _, rfl, rfl, hd, by omega, v1, v2, by omega, by omega, rfl⟩
        · have dq : det ⟨o, q, o'⟩ = det ⟨o, h, o'⟩ := by rw [e]; exact det_1 _ _ _ _ _
          rw [← dq] at hd
          repeat walk_at "st"
          refine ⟨(by decide : 2 ≤ sizeLine), ?_⟩
          repeat walk_at "st"
          refine ⟨_, _, _, _, rfl, rfl, rfl, rfl, rfl, ?_⟩
          repeat walk_at "st"
          exact ⟨(4 * (val F o + val F q + val F o') + 3 - 0).toNat, by omega, o, q, o', 0, _, rfl, rfl, hd, v0, by omega, v2, by omega, by omega, rfl⟩
        · have dq : det ⟨o, o', q⟩ = det ⟨o, o', h⟩ := by rw [e]; exact det_2 _ _ _ _ _
          rw [← dq] at hd
          repeat walk_at "st"
          refine ⟨(by decide : 2 ≤ sizeLine), ?_⟩
          repeat walk_at "st"
          refine ⟨_, _, _, _, rfl, rfl, rfl, rfl, rfl, ?_⟩
          repeat walk_at "st"
          exact ⟨(4 * (val F o + val F o' + val F q) + 3 - 0).toNat, by omega, o, o', q, 0, _, rfl, rfl, hd, v0, v1, by omega, by omega, by omega, rfl⟩
    · refine if_f (decide_eq_false h3) ?_
      repeat walk_at "st"
      have b0 := val_le_bn S (by decide) (Int.le_refl _) v0
      have b1 := val_le_bn S (by decide) (Int.le_refl _) v1
      have b2 := val_le_bn S (by decide) (Int.le_refl _) v2
      refine ⟨0, [p0.D, p1.D, p2.D], valD F, rfl, rfl, ?_, ?_⟩
      · have one : ∀ p : Pt, Bn3 64 p.x p.y p.z → flat p.D = true ∧ Put ((mask [some F.D, some (.box 0), some (.int at_), o3, none]).set 4 (some p.D)) fun δ1 => ∀ Q2 : D → Mu → Prop, Q2 (.int (valD F p.D)) [] → dCall Ph_value_at (aCons (dVar 0) (aCons (dVar 4) aNil)) δ1 [] Q2 := fun p bp => by
          refine ⟨rfl, ?_⟩
          refine put_e ?_
          intro δ1 e
          subst e
          intro Q2 hQ2
          repeat walk_at "st"
          exact ⟨_, _, _, _, _, _, _, _, _, rfl, S.bn.mono (by decide), bp.mono (by decide), hQ2⟩
        intro d hd
        rcases List.mem_cons.mp hd with rfl | hd
        · exact one p0 b0
        rcases List.mem_cons.mp hd with rfl | hd
        · exact one p1 b1
        rw [List.mem_singleton.mp hd]
        exact one p2 b2
      · intro es hes
        obtain ⟨q0, q1, q2, rfl, d1, u0, u1, u2⟩ : ∃ q0 q1 q2 : Pt, es = [q0.D, q1.D, q2.D] ∧ (det ⟨q0, q1, q2⟩ = 1 ∨ det ⟨q0, q1, q2⟩ = -1) ∧ val F q0 ≤ 4374 ∧ val F q1 ≤ 4374 ∧ val F q2 ≤ 4374 := by
          have s1 := det_s1 p0 p1 p2
          have s2 := det_s2 p0 p1 p2
          have s3 := det_s1 p0 p2 p1
          have s4 := det_s2 p1 p0 p2
          have s5 := det_s1 p1 p2 p0
          rcases perm3 hes with e | e | e | e | e | e
          · exact ⟨p0, p1, p2, e, hd, v0, v1, v2⟩
          · exact ⟨p0, p2, p1, e, by omega, v0, v2, v1⟩
          · exact ⟨p1, p0, p2, e, by omega, v1, v0, v2⟩
          · exact ⟨p1, p2, p0, e, by omega, v1, v2, v0⟩
          · exact ⟨p2, p0, p1, e, by omega, v2, v0, v1⟩
          · exact ⟨p2, p1, p0, e, by omega, v2, v1, v0⟩
        have c0 := val_le_bn S (by decide) (Int.le_refl _) u0
        have c1 := val_le_bn S (by decide) (Int.le_refl _) u1
        have c2 := val_le_bn S (by decide) (Int.le_refl _) u2
        repeat walk_at "st"
        refine ⟨_, _, _, _, _, _, _, _, _, _, rfl, .inr rfl, ⟨c0.mono (by decide), c1.mono (by decide), c2.mono (by decide)⟩, ?_⟩
        repeat walk_at "st"
        simp only [pt_eta]
        by_cases h1 : det ⟨q0, q1, q2⟩ = 1
        · refine if_t (decide_eq_true h1) ?_
          repeat walk_at "st"
          exact ⟨.inl rfl, hq ⟨q0, q1, q2⟩ h1 u0 u1 u2⟩
        · refine if_f (decide_eq_false h1) ?_
          repeat walk_at "st"
          refine lc_fix [(smul (-1) q0).D, (smul (-1) q1).D, (smul (-1) q2).D] ?_ three rfl ?_
          · have bm : Bn 64000 (-1 : Int) := (Bn.of_le (n := 2) (k := 1) (by decide) (by decide)).mono (by decide)
            refine ⟨?_, ?_, ?_, trivial⟩ <;> (intro R N hR; repeat walk_at "st")
            · exact ⟨_, _, _, _, rfl, bm, c0.mono (by decide), hR⟩
            · exact ⟨_, _, _, _, rfl, bm, c1.mono (by decide), hR⟩
            · exact ⟨_, _, _, _, rfl, bm, c2.mono (by decide), hR⟩
          refine ⟨_, .inl rfl, ?_⟩
          exact ⟨.inl rfl, hq ⟨smul (-1) q0, smul (-1) q1, smul (-1) q2⟩ (by rw [det_neg]; omega) (by rw [val_neg]; exact u0) (by rw [val_neg]; exact u1) (by rw [val_neg]; exact u2)⟩
end
end K77
end
section
/-! sizes of led forms; the law's own search (no program in sight) -/
namespace K77
def l1 (p : Pt) : Nat := p.x.natAbs + p.y.natAbs + p.z.natAbs
theorem tri {k y z : Int} {K : Nat} (h : k.natAbs ≤ K) : (k * y * z).natAbs ≤ K * (y.natAbs * z.natAbs) := by
  rw [Int.mul_assoc, Int.natAbs_mul, Int.natAbs_mul]
  exact Nat.mul_le_mul_right _ h
/-- a form's entries are of sizes to A, 2 A -/
structure Sz (A : Nat) (F : Fm) : Prop where
  a : F.a.natAbs ≤ A
  b : F.b.natAbs ≤ A
  c : F.c.natAbs ≤ A
  d : F.d.natAbs ≤ 2 * A
  e : F.e.natAbs ≤ 2 * A
  f : F.f.natAbs ≤ 2 * A
theorem val_l1 {A : Nat} {F : Fm} {p : Pt} (h : Sz A F) : (val F p).natAbs ≤ A * (l1 p * l1 p) := by
  have h1 := tri (y := p.x) (z := p.x) h.a
  have h2 := tri (y := p.y) (z := p.y) h.b
  have h3 := tri (y := p.z) (z := p.z) h.c
  have h4 := tri (y := p.y) (z := p.z) h.d
  have h5 := tri (y := p.x) (z := p.z) h.e
  have h6 := tri (y := p.x) (z := p.y) h.f
  unfold val l1
  have k : ∀ {a b c d e f : Int}, (a + b + c + d + e + f).natAbs ≤ a.natAbs + b.natAbs + c.natAbs + d.natAbs + e.natAbs + f.natAbs := fun {a b c d e f} => by
    have h1 := Int.natAbs_add_le a b
    have h2 := Int.natAbs_add_le (a + b) c
    have h3 := Int.natAbs_add_le (a + b + c) d
    have h4 := Int.natAbs_add_le (a + b + c + d) e
    have h5 := Int.natAbs_add_le (a + b + c + d + e) f
    generalize (a + b + c + d + e + f).natAbs = s5 at *
    generalize (a + b + c + d + e).natAbs = s4 at *
    generalize (a + b + c + d).natAbs = s3 at *
    generalize (a + b + c).natAbs = s2 at *
    generalize (a + b).natAbs = s1 at *
    generalize a.natAbs = s at *
    generalize b.natAbs = s at *
    generalize c.natAbs = s at *
    generalize d.natAbs = s at *
    generalize e.natAbs = s at *
    generalize f.natAbs = s at *
    omega
  refine Nat.le_trans k ?_
  have e : A * ((p.x.natAbs + p.y.natAbs + p.z.natAbs) * (p.x.natAbs + p.y.natAbs + p.z.natAbs)) = A * (p.x.natAbs * p.x.natAbs) + A * (p.y.natAbs * p.y.natAbs) + A * (p.z.natAbs * p.z.natAbs) + 2 * A * (p.y.natAbs * p.z.natAbs) + 2 * A * (p.x.natAbs * p.z.natAbs) + 2 * A * (p.x.natAbs * p.y.natAbs) := by grind
  rw [e]
  exact Nat.add_le_add (Nat.add_le_add (Nat.add_le_add (Nat.add_le_add (Nat.add_le_add h1 h2) h3) h4) h5) h6
theorem both_l1 {A : Nat} {F : Fm} {p q : Pt} (h : Sz A F) : (both F p q).natAbs ≤ 2 * A * (l1 p * l1 q) := by
  have a2 : (2 * F.a).natAbs ≤ 2 * A := by have := h.a; omega
  have b2 : (2 * F.b).natAbs ≤ 2 * A := by have := h.b; omega
  have c2 : (2 * F.c).natAbs ≤ 2 * A := by have := h.c; omega
  have h1 := tri (y := p.x) (z := q.x) a2
  have h2 := tri (y := p.y) (z := q.y) b2
  have h3 := tri (y := p.z) (z := q.z) c2
  have h4 := tri (y := p.y) (z := q.z) h.d
  have h4' := tri (y := p.z) (z := q.y) h.d
  have h5 := tri (y := p.x) (z := q.z) h.e
  have h5' := tri (y := p.z) (z := q.x) h.e
  have h6 := tri (y := p.x) (z := q.y) h.f
  have h6' := tri (y := p.y) (z := q.x) h.f
  have e0 : both F p q = 2 * F.a * p.x * q.x + 2 * F.b * p.y * q.y + 2 * F.c * p.z * q.z + F.d * p.y * q.z + F.d * p.z * q.y + F.e * p.x * q.z + F.e * p.z * q.x + F.f * p.x * q.y + F.f * p.y * q.x := by
    unfold both val add; simp only; grind
  rw [e0]
  unfold l1
  have k : ∀ {a b : Int} {m n : Nat}, a.natAbs ≤ m → b.natAbs ≤ n → (a + b).natAbs ≤ m + n := fun {a b m n} x y => Nat.le_trans (Int.natAbs_add_le a b) (Nat.add_le_add x y)
  have e : 2 * A * ((p.x.natAbs + p.y.natAbs + p.z.natAbs) * (q.x.natAbs + q.y.natAbs + q.z.natAbs)) = 2 * A * (p.x.natAbs * q.x.natAbs) + 2 * A * (p.y.natAbs * q.y.natAbs) + 2 * A * (p.z.natAbs * q.z.natAbs) + 2 * A * (p.y.natAbs * q.z.natAbs) + 2 * A * (p.z.natAbs * q.y.natAbs) + 2 * A * (p.x.natAbs * q.z.natAbs) + 2 * A * (p.z.natAbs * q.x.natAbs) + 2 * A * (p.x.natAbs * q.y.natAbs) + 2 * A * (p.y.natAbs * q.x.natAbs) := by grind
  rw [e]
  exact k (k (k (k (k (k (k (k h1 h2) h3) h4) h4') h5) h5') h6) h6'
/-- a table whose columns are short -/
structure Tn (N : Nat) (t : Tb) : Prop where
  d : det t = 1
  x : l1 (tr t).u ≤ N
  y : l1 (tr t).v ≤ N
  z : l1 (tr t).w ≤ N
theorem Tn.mono {M N : Nat} {t : Tb} (h : Tn M t) (l : M ≤ N) : Tn N t := ⟨h.d, Nat.le_trans h.x l, Nat.le_trans h.y l, Nat.le_trans h.z l⟩
theorem sz_led {A N : Nat} {F : Fm} {t : Tb} (h : Sz A F) (T : Tn N t) : Sz (A * (N * N)) (formBy F (tr t)) := by
  have k : ∀ {x y : Nat}, x ≤ N → y ≤ N → A * (x * y) ≤ A * (N * N) := fun a b => Nat.mul_le_mul_left _ (Nat.mul_le_mul a b)
  have k2 : ∀ {x y : Nat}, x ≤ N → y ≤ N → 2 * A * (x * y) ≤ 2 * (A * (N * N)) := fun a b => by rw [Nat.mul_assoc]; exact Nat.mul_le_mul_left _ (k a b)
  exact ⟨Nat.le_trans (val_l1 h) (k T.x T.x), Nat.le_trans (val_l1 h) (k T.y T.y), Nat.le_trans (val_l1 h) (k T.z T.z), Nat.le_trans (both_l1 h) (k2 T.y T.z), Nat.le_trans (both_l1 h) (k2 T.x T.z), Nat.le_trans (both_l1 h) (k2 T.x T.y)⟩
/-- positive -/
structure Po (F : Fm) : Prop where
  a : 0 < F.a
  w : 0 < wid F
  s : 0 < disc F
theorem po_led {F : Fm} {t : Tb} (h : Po F) (d : det t = 1) : Po (formBy F t) := by
  obtain ⟨u, v, w⟩ := t
  have ne : det ⟨u, v, w⟩ ≠ 0 := by omega
  refine ⟨val_pos h.a h.w h.s (rows_ne ne).1, minor_pos h.a h.w h.s ne, ?_⟩
  rw [disc_formBy, d]
  have := h.s
  omega
theorem Po.b {F : Fm} (h : Po F) : 0 < F.b := b_pos h.a h.w
theorem Po.c {F : Fm} (h : Po F) : 0 < F.c := c_pos h.a h.w h.s
theorem Po.sm {F : Fm} (h : Po F) (s : Sz 4374 F) : Sm F := ⟨h.a, h.w, h.s, by have := s.a; omega, by have := s.b; omega, by have := s.c; omega⟩
/-! ### rows added to rows -/
theorem Tn.id : Tn 1 idT := ⟨by decide, by decide, by decide, by decide⟩
theorem na {x y m : Int} (hm : m.natAbs ≤ 2) : (x + m * y).natAbs ≤ x.natAbs + 2 * y.natAbs := by
  have h : (m * y).natAbs ≤ 2 * y.natAbs := by rw [Int.natAbs_mul]; exact Nat.mul_le_mul_right _ hm
  omega
def addR (p q : Pt) (m : Int) : Pt := ⟨p.x + m * q.x, p.y + m * q.y, p.z + m * q.z⟩
theorem st1 {X Y Z W N : Nat} (h : X + Y + Z ≤ N) (w : W ≤ X + 2 * Y) : W + Y + Z ≤ 3 * N := by omega
theorem st2 {X Y Z W N : Nat} (h : X + Y + Z ≤ N) (w : W ≤ X + 2 * Z) : W + Y + Z ≤ 3 * N := by omega
theorem st3 {X Y Z W N : Nat} (h : X + Y + Z ≤ N) (w : W ≤ Y + 2 * X) : X + W + Z ≤ 3 * N := by omega
theorem st4 {X Y Z W N : Nat} (h : X + Y + Z ≤ N) (w : W ≤ Y + 2 * Z) : X + W + Z ≤ 3 * N := by omega
theorem st5 {X Y Z W N : Nat} (h : X + Y + Z ≤ N) (w : W ≤ Z + 2 * X) : X + Y + W ≤ 3 * N := by omega
theorem st6 {X Y Z W N : Nat} (h : X + Y + Z ≤ N) (w : W ≤ Z + 2 * Y) : X + Y + W ≤ 3 * N := by omega
theorem Tn.step {N : Nat} {t s : Tb} {m : Int} (h : Tn N t) (hm : m.natAbs ≤ 2)
    (hs : s = ⟨t.u, addR t.v t.u m, t.w⟩ ∨ s = ⟨t.u, t.v, addR t.w t.u m⟩ ∨ s = ⟨addR t.u t.v m, t.v, t.w⟩ ∨ s = ⟨t.u, t.v, addR t.w t.v m⟩ ∨ s = ⟨addR t.u t.w m, t.v, t.w⟩ ∨ s = ⟨t.u, addR t.v t.w m, t.w⟩) : Tn (3 * N) s := by
  obtain ⟨⟨a, b, c⟩, ⟨d, e, f⟩, ⟨g, h', i⟩⟩ := t
  obtain ⟨hd, hx, hy, hz⟩ := h
  unfold tr l1 at hx hy hz
  simp only at hx hy hz
  have n := fun x y => na (x := x) (y := y) hm
  rcases hs with rfl | rfl | rfl | rfl | rfl | rfl
  · exact ⟨by rw [← hd]; unfold det dot cross addR; simp only; grind, st3 hx (n _ _), st3 hy (n _ _), st3 hz (n _ _)⟩
  · exact ⟨by rw [← hd]; unfold det dot cross addR; simp only; grind, st5 hx (n _ _), st5 hy (n _ _), st5 hz (n _ _)⟩
  · exact ⟨by rw [← hd]; unfold det dot cross addR; simp only; grind, st1 hx (n _ _), st1 hy (n _ _), st1 hz (n _ _)⟩
  · exact ⟨by rw [← hd]; unfold det dot cross addR; simp only; grind, st6 hx (n _ _), st6 hy (n _ _), st6 hz (n _ _)⟩
  · exact ⟨by rw [← hd]; unfold det dot cross addR; simp only; grind, st2 hx (n _ _), st2 hy (n _ _), st2 hz (n _ _)⟩
  · exact ⟨by rw [← hd]; unfold det dot cross addR; simp only; grind, st4 hx (n _ _), st4 hy (n _ _), st4 hz (n _ _)⟩
/-! ### the box of the law's search -/
theorem isq_of {n r : Int} (h0 : 0 ≤ r) (h1 : r * r ≤ n) (h2 : n < (r + 1) * (r + 1)) : r = isq n := by
  have n0 : 0 ≤ n := Int.le_trans (sq_nonneg r) h1
  have := (le_isq (x := r) n0).mp h1
  have g := isq_sq n0
  have g0 := isq_nonneg n
  rcases Int.lt_or_le r (isq n) with c | c
  · have := sq_le_sq (x := r + 1) (y := isq n) (by omega) (by omega)
    omega
  · omega
theorem z_in {F : Fm} {M : Int} {p : Pt} (h : Po F) (m0 : 0 ≤ M) (v : val F p ≤ M) : -isq (M * wid F / disc F) ≤ p.z ∧ p.z ≤ isq (M * wid F / disc F) :=
  (z_ok h.s h.w m0).mpr (z_of_left h.a h.w (left_of_val h.a v))
def dee' (F : Fm) : Int := 4 * F.b * F.c - F.d * F.d
theorem y_in {F : Fm} {M : Int} {p : Pt} (h : Po F) (m0 : 0 ≤ M) (v : val F p ≤ M) : -isq (M * cee F / disc F) ≤ p.y ∧ p.y ≤ isq (M * cee F / disc F) := by
  have e1 : disc (⟨F.a, F.c, F.b, F.d, F.f, F.e⟩ : Fm) = disc F := by unfold disc; simp only; grind
  have e2 : wid (⟨F.a, F.c, F.b, F.d, F.f, F.e⟩ : Fm) = cee F := rfl
  have e3 : val (⟨F.a, F.c, F.b, F.d, F.f, F.e⟩ : Fm) ⟨p.x, p.z, p.y⟩ = val F p := by unfold val; simp only; grind
  have g : Po ⟨F.a, F.c, F.b, F.d, F.f, F.e⟩ := ⟨h.a, by rw [e2]; exact cee_pos h.a h.w h.s, by rw [e1]; exact h.s⟩
  have := z_in (p := ⟨p.x, p.z, p.y⟩) g m0 (by rw [e3]; exact v)
  rw [e1, e2] at this
  exact this
theorem x_in {F : Fm} {M : Int} {p : Pt} (h : Po F) (m0 : 0 ≤ M) (v : val F p ≤ M) : -isq (M * dee F / disc F) ≤ p.x ∧ p.x ≤ isq (M * dee F / disc F) := by
  have e1 : disc (⟨F.c, F.b, F.a, F.f, F.e, F.d⟩ : Fm) = disc F := by unfold disc; simp only; grind
  have e2 : wid (⟨F.c, F.b, F.a, F.f, F.e, F.d⟩ : Fm) = dee F := by unfold wid dee; simp only; grind
  have e3 : val (⟨F.c, F.b, F.a, F.f, F.e, F.d⟩ : Fm) ⟨p.z, p.y, p.x⟩ = val F p := by unfold val; simp only; grind
  have g : Po ⟨F.c, F.b, F.a, F.f, F.e, F.d⟩ := ⟨h.c, by rw [e2]; exact dee_pos h.a h.w h.s, by rw [e1]; exact h.s⟩
  have := z_in (p := ⟨p.z, p.y, p.x⟩) g m0 (by rw [e3]; exact v)
  rw [e1, e2] at this
  exact this
end K77
end
section
namespace K77
open PySem PySem.Spec PyProof.Rows L2 DL
local macro_rules | `(tactic| walk_at "bn") => `(tactic| first
  | assumption
  | (apply Bn.add <;> walk_at "bn")
  | (apply Bn.sub <;> walk_at "bn")
  | (apply Bn.mul <;> walk_at "bn")
  | (apply Bn.neg; walk_at "bn")
  | exact Bn.lit (by decide))
local macro_rules | `(tactic| walk_at "cm") => `(tactic| (apply Bn.cmul; (focus walk_at "bn"); (focus walk_at "bn"); (focus decide)))
local macro_rules | `(tactic| walk_at "st") => `(tactic| first
  | (refine put_e ?_; intro δ1 e; simp only [List.set_cons_zero, List.set_cons_succ, wipeD, List.map_cons, List.map_nil] at e; subst e)
  | refine ⟨_, rfl, ?_⟩
  | (refine ⟨_, _, rfl, rfl, ?cm, ?_⟩; (case cm => walk_at "cm"))
  | refine ⟨_, _, rfl, rfl, ?_⟩
  | refine ⟨_, rfl, rfl, ?_⟩
  | refine ⟨_, _, rfl, ?_⟩
  | refine ⟨_, _, _, rfl, ?_⟩
  | refine ⟨_, _, .inl rfl, ?_⟩
  | refine ⟨_, .inl rfl, ?_⟩
  | refine ⟨_, .inr rfl, ?_⟩
  | refine ⟨rfl, ?_⟩
  | refine ⟨_, _, _, rfl, rfl, rfl, ?_⟩
  | refine if_t rfl ?_
  | refine if_f rfl ?_)
local macro_rules | `(tactic| walk_at "ph") => `(tactic| ((try unfold aNil); (try dsimp only)))
local macro_rules | `(tactic| walk_at "ph2") => `(tactic| (dsimp only [aNil, aCons, dC]))
section
variable {P : Program} {w : World} {K : PySem.W.Frag} {mg : Str → Option Value} {base : Heap} {T : List (Addr × Str)}
/-- a table's rows are of sizes to 2 ^ n -/
structure Bd (n : Nat) (t : Tb) : Prop where
  u : Bn3 n t.u.x t.u.y t.u.z
  v : Bn3 n t.v.x t.v.y t.v.z
  w : Bn3 n t.w.x t.w.y t.w.z
theorem Bd.mono {m n : Nat} {t : Tb} (h : Bd m t) (l : m ≤ n) : Bd n t := ⟨h.u.mono l, h.v.mono l, h.w.mono l⟩
theorem Bd.bt {n : Nat} {t : Tb} (h : Bd n t) : Bt n t.u.x t.u.y t.u.z t.v.x t.v.y t.v.z t.w.x t.w.y t.w.z := ⟨h.u, h.v, h.w⟩
theorem Bd.tr {n : Nat} {t : Tb} (h : Bd n t) : Bd n (tr t) := ⟨⟨h.u.x, h.v.x, h.w.x⟩, ⟨h.u.y, h.v.y, h.w.y⟩, ⟨h.u.z, h.v.z, h.w.z⟩⟩
theorem Bd.mul {m n : Nat} {s t : Tb} (h : Bd m s) (g : Bd n t) : Bd (m + n + 2) (mulT s t) := by
  have k := g.tr
  exact ⟨⟨bn_dot h.u k.u, bn_dot h.u k.v, bn_dot h.u k.w⟩, ⟨bn_dot h.v k.u, bn_dot h.v k.v, bn_dot h.v k.w⟩, ⟨bn_dot h.w k.u, bn_dot h.w k.v, bn_dot h.w k.w⟩⟩
theorem Bd.adj {n : Nat} {t : Tb} (h : Bd n t) : Bd (n + n + 1) (adj t) :=
  Bd.tr ⟨bn3_cross h.v h.w, bn3_cross h.w h.u, bn3_cross h.u h.v⟩
instance (F G : Fm) (t : Tb) : Decidable (Leads F G t) := inferInstanceAs (Decidable (_ ∧ _))
/-- what may be told of a lead -/
def LeadRes (F G : Fm) (d : D) : Prop := (d = .non ∧ ∀ t, ¬ Leads F G t) ∨ ∃ t : Tb, d = t.D ∧ Leads F G (tr t) ∧ Bd 400 t
theorem near_bd {F : Fm} {t : Tb} (S : Sm F) (h1 : val F t.u ≤ 4374) (h2 : val F t.v ≤ 4374) (h3 : val F t.w ≤ 4374) : Bd 64 t :=
  ⟨val_le_bn S (by decide) (Int.le_refl _) h1, val_le_bn S (by decide) (Int.le_refl _) h2, val_le_bn S (by decide) (Int.le_refl _) h3⟩
theorem in_form_by {F : Fm} {t : Tb} {n m : Nat} {mu : Mu} {Q : D → Mu → Prop} (bF : Bn6 n F.a F.b F.c F.d F.e F.f) (bt : Bd m t) (h : Q (formBy F t).D mu) (ln : n ≤ 60000 := by decide) (lm : m ≤ 60000 := by decide) : Ph_form_by [F.D, t.D] mu Q :=
  ⟨_, _, _, _, _, _, _, _, _, _, _, _, _, _, _, rfl, bF.mono ln, (bt.mono lm).bt, h⟩
theorem in_turned {t : Tb} {mu : Mu} {Q : D → Mu → Prop} (h : Q (tr t).D mu) : Ph_turned [t.D] mu Q := ⟨_, _, _, _, _, _, _, _, _, rfl, h⟩
theorem in_taken_back {t : Tb} {m : Nat} {mu : Mu} {Q : D → Mu → Prop} (bt : Bd m t) (h : Q (adj t).D mu) (lm : m ≤ 20000 := by decide) : Ph_taken_back [t.D] mu Q := ⟨_, _, _, _, _, _, _, _, _, rfl, (bt.mono lm).bt, h⟩
theorem in_determinant {t : Tb} {m : Nat} {mu : Mu} {Q : D → Mu → Prop} (bt : Bd m t) (h : Q (.int (det t)) mu) (lm : m ≤ 20000 := by decide) : Ph_determinant [t.D] mu Q := ⟨_, _, _, _, _, _, _, _, _, _, rfl, .inl rfl, (bt.mono lm).bt, h⟩
theorem in_product {s t : Tb} {n m : Nat} {mu : Mu} {Q : D → Mu → Prop} (bs : Bd n s) (bt : Bd m t) (h : Q (mulT s t).D mu) (ln : n ≤ 60000 := by decide) (lm : m ≤ 60000 := by decide) : Ph_product [s.D, t.D] mu Q :=
  ⟨_, _, _, _, _, _, _, _, _, _, _, _, _, _, _, _, _, _, rfl, (bs.mono ln).bt, (bt.mono lm).bt, h⟩
theorem in_disc {F : Fm} {n : Nat} {mu : Mu} {Q : D → Mu → Prop} (bF : Bn6 n F.a F.b F.c F.d F.e F.f) (h : Q (.int (disc F)) mu) (ln : n ≤ 64000 := by decide) : Ph_discriminant_of [F.D] mu Q := ⟨_, _, _, _, _, _, rfl, bF.mono ln, h⟩
def Ph_lead_of : PhiD := fun ds mu Q => ∃ F G : Fm, ds = [F.D, G.D] ∧ Sm F ∧ Sm G ∧ ∀ d, LeadRes F G d → Q d mu
theorem ok_lead_of (A : Al K mg base T) : FnOk P w K mg base CX0 8 A.f_lead_of A.fd_lead_of ["one", "other"] (spD K T Ph_lead_of) := by
  refine fn_d A.F_lead_of sc_lead_of ?len (fun cdv Ar outer s H E hr => (ssd_cons (sd_par (i := 2) (j := 3) rfl sc_lead_of.nd rfl rfl (by decide) rfl rfl (ad_cons (ed_callU (ok_small_points A) (hr.mono (by decide)) rfl A.g_small_points A.F_small_points.kp A.b_small_points (ad_cons (ed_var 0 (pv 0)) ad_nil)) (ad_cons (ed_callU (ok_small_points A) (hr.mono (by decide)) rfl A.g_small_points A.F_small_points.kp A.b_small_points (ad_cons (ed_var 1 (pv 1)) ad_nil)) ad_nil)) (by rfl))
    (ssd_cons (sd_set (i := 4) sc_lead_of.nd rfl (.inl rfl) (ed_call (ok_small_lead A) hr rfl A.g_small_lead A.F_small_lead.kp A.b_small_lead (ad_cons (ed_call (ok_form_by A) (hr.mono (by decide)) rfl A.g_form_by A.F_form_by.kp A.b_form_by (ad_cons (ed_var 0 (pv 0)) (ad_cons (ed_var 2 (pv 2)) ad_nil))) (ad_cons (ed_call (ok_form_by A) (hr.mono (by decide)) rfl A.g_form_by A.F_form_by.kp A.b_form_by (ad_cons (ed_var 1 (pv 1)) (ad_cons (ed_var 3 (pv 3)) ad_nil))) ad_nil))))
    (ssd_cons (sd_if (td_isN (ed_var 4 (pv 4))) (ssd_one (sd_ret ed_non)) ssd_nil)
    (ssd_one (sd_ret (ed_call (ok_product A) (hr.mono (by decide)) rfl A.g_product A.F_product.kp A.b_product (ad_cons (ed_call (ok_product A) (hr.mono (by decide)) rfl A.g_product A.F_product.kp A.b_product (ad_cons (ed_call (ok_turned A) (hr.mono (by decide)) rfl A.g_turned A.F_turned.kp A.b_turned (ad_cons (ed_var 2 (pv 2)) ad_nil)) (ad_cons (ed_call (ok_turned A) (hr.mono (by decide)) rfl A.g_turned A.F_turned.kp A.b_turned (ad_cons (ed_var 4 (pv 4)) ad_nil)) ad_nil))) (ad_cons (ed_call (ok_taken_back A) (hr.mono (by decide)) rfl A.g_taken_back A.F_taken_back.kp A.b_taken_back (ad_cons (ed_call (ok_turned A) (hr.mono (by decide)) rfl A.g_turned A.F_turned.kp A.b_turned (ad_cons (ed_var 3 (pv 3)) ad_nil)) ad_nil)) ad_nil))))))))) ?rd
  · rintro ds mu Qd ⟨F, G, rfl, _⟩; rfl
  · rintro ds mu Qd ⟨F, G, rfl, S, S2, hq⟩
    refine put_e ?_; intro δ1 e; rw [st_lead_of] at e; subst e
    repeat walk_at "st"
    refine ⟨S, fun near n1 n2 n3 n4 => ⟨rfl, ?_⟩⟩
    repeat walk_at "st"
    refine ⟨S2, fun far f1 f2 f3 f4 => ⟨rfl, ?_⟩⟩
    repeat walk_at "st"
    have dn := near_bd S n2 n3 n4
    have df := near_bd S2 f2 f3 f4
    have SN : Sm (formBy F near) := sm_formBy S.a0 S.w0 S.s0 n1 n2 n3 n4
    have SF : Sm (formBy G far) := sm_formBy S2.a0 S2.w0 S2.s0 f1 f2 f3 f4
    repeat walk_at "st"
    walk_at "ph"
    refine in_form_by S.bn dn ?_
    repeat walk_at "st"
    walk_at "ph"
    refine in_form_by S2.bn df ?_
    repeat walk_at "st"
    refine ⟨SN, SF, fun n h0 h1 => count_le SN h0 h1, ?_⟩
    rintro d (⟨rfl, no⟩ | ⟨t, rfl, L, b1, b2, b3⟩)
    · repeat walk_at "st"
      refine end_ok rfl (hq _ (.inl ⟨rfl, fun t L => ?_⟩))
      obtain ⟨s, hs⟩ := leads_get n1 f1 L
      exact no s hs
    · have bt : Bd 64 t := ⟨b1, b2, b3⟩
      repeat walk_at "st"
      walk_at "ph"
      refine in_turned ?_
      repeat walk_at "st"
      walk_at "ph"
      refine in_turned ?_
      repeat walk_at "st"
      walk_at "ph"
      refine in_product dn.tr bt.tr ?_
      repeat walk_at "st"
      walk_at "ph"
      refine in_turned ?_
      repeat walk_at "st"
      walk_at "ph"
      refine in_taken_back df.tr ?_
      repeat walk_at "st"
      walk_at "ph"
      refine in_product (dn.tr.mul bt.tr) df.tr.adj ?_
      refine end_ok rfl (hq _ (.inr ⟨_, rfl, leads_put n1 f1 L, ((dn.tr.mul bt.tr).mul df.tr.adj).mono (by decide)⟩))
theorem eqv_fm (F G : Fm) : PyData.eqv (toP F.D) (toP G.D) = decide (F = G) := by
  obtain ⟨a, b, c, d, e, f⟩ := F
  obtain ⟨a', b', c', d', e', f'⟩ := G
  simp only [toP, toPs, PyData.eqv, PyData.eqvAll, Fm.mk.injEq, Bool.decide_and, Bool.and_true]
  rfl
def Ph_is_lead_of : PhiD := fun ds mu Q => ∃ (F G : Fm) (t : Tb), ds = [F.D, G.D, t.D] ∧ IsFm F ∧ IsFm G ∧ Bd 10000 t ∧ Q (.bl (decide (Leads F G (tr t)))) mu
theorem ok_is_lead_of (A : Al K mg base T) : FnOk P w K mg base CX0 4 A.f_is_lead_of A.fd_is_lead_of ["one", "other", "table"] (spD K T Ph_is_lead_of) := by
  refine fn_d A.F_is_lead_of sc_is_lead_of ?len (fun cdv Ar outer s H E hr => (ssd_one (sd_ret (ed_and (ed_cmp op_eq od_eq (ed_call (ok_determinant A) (hr.mono (by decide)) rfl A.g_determinant A.F_determinant.kp A.b_determinant (ad_cons (ed_var 2 (pv 2)) ad_nil)) ed_int (nomark _)) (ed_one (ed_cmp (op_eqD hr.units) od_eqD (ed_call (ok_form_by A) hr rfl A.g_form_by A.F_form_by.kp A.b_form_by (ad_cons (ed_var 0 (pv 0)) (ad_cons (ed_call (ok_turned A) (hr.mono (by decide)) rfl A.g_turned A.F_turned.kp A.b_turned (ad_cons (ed_var 2 (pv 2)) ad_nil)) ad_nil))) (ed_var 1 (pv 1)) (nomark _))))))) ?rd
  · rintro ds mu Qd ⟨F, G, t, rfl, _⟩; rfl
  · rintro ds mu Qd ⟨F, G, t, rfl, hF, hG, bt, hq⟩
    refine put_e ?_; intro δ1 e; rw [st_is_lead_of] at e; subst e
    repeat walk_at "st"
    walk_at "ph"
    refine in_determinant bt ?_
    repeat walk_at "st"
    by_cases hd : det t = 1
    · refine if_t (decide_eq_true hd) ?_
      repeat walk_at "st"
      walk_at "ph"
      refine in_turned ?_
      repeat walk_at "st"
      walk_at "ph"
      refine in_form_by hF.bn bt.tr ?_
      repeat walk_at "st"
      rw [eqv_fm]
      refine end_ok rfl ?_
      rw [dec_congr (show Leads F G (tr t) ↔ formBy F (tr t) = G from ⟨fun h => h.2, fun h => ⟨by rw [det_tr]; exact hd, h⟩⟩)] at hq
      exact hq
    · refine if_f (decide_eq_false hd) ?_
      rw [decide_eq_false (fun h => hd (by rw [← det_tr]; exact h.1))] at hq
      exact end_ok rfl hq
/-- a form that is let everywhere -/
structure Gd (F : Fm) : Prop where
  fm : IsFm F
  sm : Sm F
  ds : disc F ≤ 1000000
def Ph_form_lead : PhiD := fun ds mu Q => ∃ F G : Fm, ds = [F.D, G.D] ∧ Gd F ∧ Gd G ∧ ∀ d, LeadRes F G d → Q d mu
theorem ok_form_lead (A : Al K mg base T) : FnOk P w K mg base CX0 9 A.f_form_lead A.fd_form_lead ["one", "other"] (spD K T Ph_form_lead) := by
  refine fn_d A.F_form_lead sc_form_lead ?len (fun cdv Ar outer s H E hr => (ssd_cons (sd_expr (ed_call (ok_require_small_forms A) (hr.mono (by decide)) rfl A.g_require_small_forms A.F_require_small_forms.kp A.b_require_small_forms (ad_cons (ed_var 0 (pv 0)) (ad_cons (ed_var 1 (pv 1)) ad_nil))))
    (ssd_one (sd_ret (ed_if (td_cmp op_eq od_eq (ed_call (ok_discriminant_of A) (hr.mono (by decide)) rfl A.g_discriminant_of A.F_discriminant_of.kp A.b_discriminant_of (ad_cons (ed_var 0 (pv 0)) ad_nil)) (ed_call (ok_discriminant_of A) (hr.mono (by decide)) rfl A.g_discriminant_of A.F_discriminant_of.kp A.b_discriminant_of (ad_cons (ed_var 1 (pv 1)) ad_nil)) (nomark _)) (ed_call (ok_lead_of A) hr rfl A.g_lead_of A.F_lead_of.kp A.b_lead_of (ad_cons (ed_var 0 (pv 0)) (ad_cons (ed_var 1 (pv 1)) ad_nil))) ed_non))))) ?rd
  · rintro ds mu Qd ⟨F, G, rfl, _⟩; rfl
  · rintro ds mu Qd ⟨F, G, rfl, g1, g2, hq⟩
    refine put_e ?_; intro δ1 e; rw [st_form_lead] at e; subst e
    repeat walk_at "st"
    refine ⟨g1.fm, g2.fm, g1.ds, g2.ds, ?_⟩
    repeat walk_at "st"
    walk_at "ph"
    refine in_disc g1.fm.bn ?_
    repeat walk_at "st"
    walk_at "ph"
    refine in_disc g2.fm.bn ?_
    repeat walk_at "st"
    by_cases hd : disc F = disc G
    · refine if_t (decide_eq_true hd) ?_
      repeat walk_at "st"
      refine ⟨g1.sm, g2.sm, fun d hd => ?_⟩
      refine end_ok ?_ (hq d hd)
      rcases hd with ⟨rfl, _⟩ | ⟨t, rfl, _⟩ <;> rfl
    · refine if_f (decide_eq_false hd) ?_
      exact end_ok rfl (hq _ (.inl ⟨rfl, fun t h => hd (disc_leads h).symm⟩))
def Ph_are_forms_alike : PhiD := fun ds mu Q => ∃ F G : Fm, ds = [F.D, G.D] ∧ Gd F ∧ Gd G ∧ ∀ b : Bool, (b = true ↔ ∃ t, Leads F G t) → Q (.bl b) mu
theorem ok_are_forms_alike (A : Al K mg base T) : FnOk P w K mg base CX0 10 A.f_are_forms_alike A.fd_are_forms_alike ["one", "other"] (spD K T Ph_are_forms_alike) := by
  refine fn_d A.F_are_forms_alike sc_are_forms_alike ?len (fun cdv Ar outer s H E hr => (ssd_one (sd_ret (ed_notN (ed_call (ok_form_lead A) hr rfl A.g_form_lead A.F_form_lead.kp A.b_form_lead (ad_cons (ed_var 0 (pv 0)) (ad_cons (ed_var 1 (pv 1)) ad_nil))))))) ?rd
  · rintro ds mu Qd ⟨F, G, rfl, _⟩; rfl
  · rintro ds mu Qd ⟨F, G, rfl, g1, g2, hq⟩
    refine put_e ?_; intro δ1 e; rw [st_are_forms_alike] at e; subst e
    repeat walk_at "st"
    refine ⟨g1, g2, fun d hd => ?_⟩
    rcases hd with ⟨rfl, no⟩ | ⟨t, rfl, L, _⟩
    · exact end_ok rfl (hq false ⟨(fun h => nomatch h), fun ⟨t, h⟩ => absurd h (no t)⟩)
    · exact end_ok rfl (hq true ⟨fun _ => ⟨_, L⟩, fun _ => rfl⟩)
theorem Pt.inj {p q : Pt} (h : p.D = q.D) : p = q := by
  obtain ⟨a, b, c⟩ := p
  obtain ⟨d, e, f⟩ := q
  simp only [D.tup.injEq, List.cons.injEq, D.int.injEq, and_true] at h
  obtain ⟨rfl, rfl, rfl⟩ := h
  rfl
theorem Tb.inj {s t : Tb} (h : s.D = t.D) : s = t := by
  obtain ⟨a, b, c⟩ := s
  obtain ⟨d, e, f⟩ := t
  unfold Tb.D at h
  rw [D.tup.injEq, List.cons.injEq, List.cons.injEq, List.cons.injEq] at h
  obtain ⟨h1, h2, h3, _⟩ := h
  cases Pt.inj h1
  cases Pt.inj h2
  cases Pt.inj h3
  rfl
theorem row_yes {d : D} (h : isRow d = true) : ∃ p : Pt, d = p.D := by
  rcases Classical.em (∃ x y z, d = .tup [x, y, z]) with ⟨x, y, z, rfl⟩ | n
  · simp only [isRow, Bool.and_eq_true] at h
    obtain ⟨h1, h2, h3⟩ := h
    have k : ∀ {x : D}, isW x = true → ∃ i, x = .int i := fun {x} h => by
      cases x <;> first | exact ⟨_, rfl⟩ | cases h
    obtain ⟨i, rfl⟩ := k h1
    obtain ⟨j, rfl⟩ := k h2
    obtain ⟨l, rfl⟩ := k h3
    exact ⟨⟨i, j, l⟩, rfl⟩
  · rw [row_no fun x y z e => n ⟨x, y, z, e⟩] at h
    cases h
theorem tb_yes {d : D} (h : isTb d = true) : ∃ t : Tb, d = t.D := by
  rcases Classical.em (∃ x y z, d = .tup [x, y, z]) with ⟨x, y, z, rfl⟩ | n
  · simp only [isTb, Bool.and_eq_true] at h
    obtain ⟨h1, h2, h3⟩ := h
    obtain ⟨i, rfl⟩ := row_yes h1
    obtain ⟨j, rfl⟩ := row_yes h2
    obtain ⟨l, rfl⟩ := row_yes h3
    exact ⟨⟨i, j, l⟩, rfl⟩
  · rw [tb_no fun x y z e => n ⟨x, y, z, e⟩] at h
    cases h
theorem tb_is (t : Tb) : isTb t.D = true := rfl
def Ph_is_form_lead : PhiD := fun ds mu Q => ∃ (F G : Fm) (d : D), ds = [F.D, G.D, d] ∧ IsFm F ∧ IsFm G ∧ toldT d = true ∧ (∀ t : Tb, d = t.D → Bd 10000 t) ∧ ∀ b : Bool, (b = true ↔ ∃ t : Tb, d = t.D ∧ Leads F G (tr t)) → Q (.bl b) mu
theorem ok_is_form_lead (A : Al K mg base T) : FnOk P w K mg base CX0 5 A.f_is_form_lead A.fd_is_form_lead ["one", "other", "value"] (spD K T Ph_is_form_lead) := by
  refine fn_d A.F_is_form_lead sc_is_form_lead ?len (fun cdv Ar outer s H E hr => (ssd_cons (sd_expr (ed_call (ok_require_form A) (hr.mono (by decide)) rfl A.g_require_form A.F_require_form.kp A.b_require_form (ad_cons (ed_var 0 (pv 0)) ad_nil)))
    (ssd_cons (sd_expr (ed_call (ok_require_form A) (hr.mono (by decide)) rfl A.g_require_form A.F_require_form.kp A.b_require_form (ad_cons (ed_var 1 (pv 1)) ad_nil)))
    (ssd_one (sd_ret (ed_and (ed_call (ok_is_table A) (hr.mono (by decide)) rfl A.g_is_table A.F_is_table.kp A.b_is_table (ad_cons (ed_var 2 (pv 2)) ad_nil)) (ed_one (ed_call (ok_is_lead_of A) hr rfl A.g_is_lead_of A.F_is_lead_of.kp A.b_is_lead_of (ad_cons (ed_var 0 (pv 0)) (ad_cons (ed_var 1 (pv 1)) (ad_cons (ed_var 2 (pv 2)) ad_nil))))))))))) ?rd
  · rintro ds mu Qd ⟨F, G, d, rfl, _⟩; rfl
  · rintro ds mu Qd ⟨F, G, d, rfl, hF, hG, ht, hb, hq⟩
    refine put_e ?_; intro δ1 e; rw [st_is_form_lead] at e; subst e
    repeat walk_at "st"
    refine ⟨hF, ?_⟩
    repeat walk_at "st"
    refine ⟨hG, ?_⟩
    repeat walk_at "st"
    refine ⟨ht, ?_⟩
    repeat walk_at "st"
    cases hd : isTb d with
    | true =>
      obtain ⟨t, rfl⟩ := tb_yes hd
      refine if_t rfl ?_
      repeat walk_at "st"
      refine ⟨hF, hG, hb t rfl, end_ok rfl (hq _ ?_)⟩
      rw [decide_eq_true_eq]
      constructor
      · intro h; exact ⟨t, rfl, h⟩
      · rintro ⟨s, e, L⟩
        rw [Tb.inj e]
        exact L
    | false =>
      refine if_f rfl ?_
      refine end_ok rfl (hq _ ⟨(fun h => nomatch h), ?_⟩)
      rintro ⟨t, rfl, _⟩
      cases hd
end
end K77
end
section
/-! DL: a def that makes a new list; a call that is handed it; a box that is only read from now on. -/
namespace DL
open PySem PySem.Spec PyProof.Rows L2
section
variable {X : Cx} {T : List (Addr × Str)} {pos : Pos}
/-- what a def makes of data, its answer a list that nobody else has -/
def spN (K : PySem.W.Frag) (T : List (Addr × Str)) (Φ : PhiD) : Sp := fun vs H Q _ => ∃ as ds mu Qd, RdAll K as H vs ds ∧ Sto K as H mu ∧ LamX.Tabs T H ∧ Φ ds mu Qd ∧
  ∀ es mu1 p H1 vs1, Qd (.lst es) mu1 → NewL K T as H p H1 vs1 es mu1 → Q (.ref p) H1
def sRetB (φ : DE) : DS := fun Dd δ mu => φ δ mu fun d mu1 => ∃ es, d = .lst es ∧ Dd.rt (.box mu1.length) (mu1 ++ [es])
theorem sd_retB {e : Expr} {φ : DE} (he : ND X T e φ) : SD X T (.Return (some e) pos) (sRetB φ) :=
  ps_conv (ps_ret he) fun σ H E ⟨as, δ, mu, Dd, o, h, en⟩ => ⟨as, δ, mu, _, o, h, fun es mu1 p H1 vs ⟨es', e, hd⟩ N => by
    cases e
    have b := N.box
    exact en.rt _ _ _ _ _ hd b.1 b.2⟩
def endsN (mu : Mu) (Qd : D → Mu → Prop) : DEnds := { nx := fun _ _ => False, rt := fun d mu1 => ∃ es, d = .box mu.length ∧ mu1[mu.length]? = some es ∧ Qd (.lst es) (mu1.take mu.length) }
theorem newL_back {K : PySem.W.Frag} {as as1 : Bx} {H H1 : Hp} {mu mu1 : Mu} {v : V} {es : List D} (S0 : Sto K as H mu) (p1 : Post K T as H as1 H1 mu1) (r1 : Rd K as1 H1 v (.box mu.length)) (he : mu1[mu.length]? = some es) :
    ∃ a vs, v = .ref a ∧ NewL K T as H a H1 vs es (mu1.take mu.length) := by
  cases r1 with
  | box h =>
    rename_i a
    obtain ⟨vs, q1, q2, q3⟩ := p1.sto.get _ _ _ h he
    have hmem : a ∈ as1.1 := List.mem_of_getElem? h
    have na : a ∉ as.1 := fun z => by
      obtain ⟨j, hj⟩ := List.getElem?_of_mem z
      have hj1 := pre_get p1.fwd.pre j a hj
      have : j = mu.length := nodup_at p1.sto.nd hj1 h
      have hl := (List.getElem?_eq_some_iff.mp hj).1
      rw [S0.len] at hl
      omega
    have nw : H a = none := (p1.fwd.new a hmem).resolve_left na
    have B := Post.back S0 p1
    have hid1 : ∀ b o, hid as1 H1 b = some o → (∀ ps, o ≠ HO.tbl ps) → hid (as.1, a :: as.2) H1 b = some o := fun b o q _ => by
      refine hid_some.mpr ⟨fun z => (hid_some.mp q).1 ?_, (hid_some.mp q).2⟩
      rcases z with z | z
      · exact .inl (p1.fwd.pre.mem z)
      · rcases List.mem_cons.mp z with z | z
        · rw [z]; exact .inl hmem
        · exact .inr (by rw [p1.fwd.ext]; exact z)
    refine ⟨a, vs, rfl, B, nw, q1, q2.mapP hid1 q3, ⟨B.sto.nd, B.sto.len, fun b hb => ?_, fun b hb z => ?_, fun k c ds h1 h2 => ?_⟩, q3⟩
    · rcases List.mem_cons.mp hb with z | z
      · exact ⟨vs, by rw [z]; exact q1⟩
      · exact B.sto.hs b z
    · rcases List.mem_cons.mp z with z | z
      · exact na (by rw [← z]; exact hb)
      · exact B.sto.dj b hb z
    · have hk : k < as.1.length := (List.getElem?_eq_some_iff.mp h1).1
      rw [List.getElem?_take_of_lt (by rw [← S0.len]; exact hk)] at h2
      obtain ⟨ws, w1, w2, w3⟩ := p1.sto.get k c ds (pre_get p1.fwd.pre k c h1) h2
      exact ⟨ws, w1, w2.mapP hid1 w3, w3⟩
/-- a def that makes a new list, by its body's data reading -/
theorem fn_dN {P : Program} {w : World} {K : PySem.W.Frag} {mg : Str → Option Value} {base : Heap} {x qual : Str} {st : Stmt} {f : Addr} {fd : FuncData} {N ps : List Str} {k : Nat} {Φ : PhiD} {φ : DS} (F : Fun K x qual st f fd) (S : FnScope N ps (defScope st))
    (len : ∀ ds mu Qd, Φ ds mu Qd → ds.length = ps.length)
    (hbody : ∀ (cdv : Value) (A : Around) (outer : List Env) (s : Shared) (H : Hp) (E : XK), Room k (A.deeper (envOfC qual (defScope st) s.heap.objs.size f cdv)) → SsD (cxOf CX0 P w K mg base N qual (defScope st) f cdv A outer s H E).nox T (defBody st) φ)
    (hread : ∀ ds mu Qd, Φ ds mu Qd → Put (startD N ds) fun δ => φ (endsN mu Qd) δ mu) : FnOk P w K mg base CX0 (k + 1) f fd ps (spN K T Φ) := by
  refine F.ok S (fun vs H Q E ⟨as, ds, mu, Qd, r, _, _, h, _⟩ => by rw [r.length]; exact len ds mu Qd h) fun cdv A outer s H vs Q E hr ⟨as, ds, mu, Qd, r, S0, TT, h, q⟩ => ⟨_, hbody cdv A outer s H E hr, as, startD N ds, mu, _, start_ok r S0 TT, (hread ds mu Qd h).go, ?_⟩
  refine ⟨fun as1 δ1 mu1 σ1 H1 hq f1 o1 => hq.elim, fun as1 d mu1 v H1 ⟨es, e, he, hq⟩ p1 r1 => ?_, fun _ _ _ _ _ z => z.elim, fun _ _ _ _ _ z => z.elim⟩
  subst e
  obtain ⟨a, vs, rfl, N⟩ := newL_back S0 p1 r1 he
  exact q _ _ _ _ _ hq N
/-- g(e, ..), a new list -/
theorem nd_call {k : Nat} {f : Addr} {fd : FuncData} {ps : List Str} {Φ : PhiD} {x : Str} {p : Pos} {e : Expr} {es : List Expr} {φ : DA} (F : FnOk X.prog X.w X.K X.mg X.base CX0 k f fd ps (spN X.K T Φ)) (hr : Room k X.A) (hg : Gl X x) (hm : X.mg x = some (.ref f)) (hk : PySem.W.keepIn X.K (.ref f) = true) (hb : Binds X.K fd ps [])
    (ha : AD X T (e :: es) φ) (hdb : (x == ("__debug__" : Str)) = false := by decide) (he : starEach (e :: es) X.env = (false, eval e X.env) :: starEach es X.env := by rfl) (hpl : (backTo pos (starEach es X.env)).any (·.1) = false := by rfl) : ND X T (.Call (.Name x p) (e :: es) [] pos) (dCall Φ φ) :=
  pe_conv (pe_call F hr hg hm hk hb .nil pass0 ha hdb he hpl) fun σ H Q ⟨as, δ, mu, Qd, o, h, q⟩ => tDA_mk o h fun ds mu1 vs H1 hd p1 r1 => by
    rw [List.append_nil]
    refine ⟨as, ds, mu1, Qd, r1, p1.sto, p1.tab, hd, fun es mu2 a H2 vs2 hq N => q es mu2 a H2 vs2 hq ?_⟩
    refine ⟨p1.trans N.post, ?_, N.at_, N.rd, N.sto, N.pu⟩
    cases z : H a with
    | none => rfl
    | some u => exact absurd N.new (p1.fwd.there a (by rw [z]; simp))
/-- f(g(..)): f has the new list alone -/
def dCallN (Φ : PhiD) (φ : DE) : DE := fun δ mu Q => φ δ mu fun d mu1 => ∃ es, d = .lst es ∧ Φ [.box mu1.length] (mu1 ++ [es]) fun d mu2 => pure d = true ∧ Q d (mu2.take mu1.length)
theorem ad_oneN {e : Expr} {φ : DE} (he : ND X T e φ) (hs : starEach [e] X.env = (false, eval e X.env) :: starEach [] X.env := by rfl) : PA X [e] (tCons (tDN X.K T φ) tNil) := pa_cons he pa_nil hs
theorem ed_callN {k : Nat} {f : Addr} {fd : FuncData} {ps : List Str} {Φ : PhiD} {x : Str} {p : Pos} {e : Expr} {φ : DE} (F : FnOk X.prog X.w X.K X.mg X.base CX0 k f fd ps (spD X.K T Φ)) (hr : Room k X.A) (hg : Gl X x) (hm : X.mg x = some (.ref f)) (hk : PySem.W.keepIn X.K (.ref f) = true) (hb : Binds X.K fd ps [])
    (ha : ND X T e φ) (hdb : (x == ("__debug__" : Str)) = false := by decide) (he : starEach [e] X.env = (false, eval e X.env) :: starEach [] X.env := by rfl) (hpl : (backTo pos (starEach [] X.env)).any (·.1) = false := by rfl) : ED X T (.Call (.Name x p) [e] [] pos) (dCallN Φ φ) :=
  pe_conv (pe_call F hr hg hm hk hb .nil pass0 (ad_oneN ha he) hdb he hpl) fun σ H Q ⟨as, δ, mu, Qd, o, h, q⟩ => ⟨as, δ, mu, _, o, h, fun es mu1 a H1 vs ⟨es', e, hd⟩ N => by
    cases e
    have b := N.box
    refine ⟨(as.1 ++ [a], as.2), [.box mu1.length], mu1 ++ [es], _, .cons b.2 .nil, b.1.sto, b.1.tab, hd, fun d mu2 v H2 ⟨hp, hq⟩ p2 r2 => ?_⟩
    have B := Post.back o.sto (b.1.trans p2)
    have hl : mu.length = mu1.length := by rw [← o.sto.len, ← N.post.sto.len]
    rw [hl] at B
    exact q d _ v H2 hq B (rd_back (as := as) (as1 := (as.1 ++ [a], as.2)) (List.prefix_append _ _) rfl r2 hp)⟩
/-! ### a, b, c = a tuple or a list -/
def gE (u : DGs) (n : Nat) : DG := fun d δ mu Q => ∃ ds, (d = .tup ds ∨ d = .lst ds) ∧ ds.length = n ∧ u ds δ mu Q
theorem gd_eith {es : List Expr} {k : Nat} {u : DGs} {n : Nat} (hc : X.calm = true) (h : GsD X T es u)
    (hn : (assignEach es X.env).length = n := by rfl) (hst : (assignEach es X.env).findIdx? (·.1) = none := by rfl) : GD X T (.Tuple es k pos) (gE u n) :=
  ⟨fun pins s σ H v x Q I r ⟨as, δ, mu, d, Qd, o, rd, ⟨ds, e1, hl, hu⟩, q⟩ => by
    rcases e1 with e1 | e1
    · exact (gd_tup hc h hn hst).run pins s σ H v x Q I r ⟨as, δ, mu, d, Qd, o, rd, ⟨ds, e1, hl, hu⟩, q⟩
    · exact (gd_unl hc h hn hst).run pins s σ H v x Q I r ⟨as, δ, mu, d, Qd, o, rd, ⟨ds, e1, hl, hu⟩, q⟩⟩
/-! ### a box that is only read from now on -/
def lowD (n : Nat) : D → Prop
  | .box k => k < n
  | d => pure d = true
theorem low_rd {K : PySem.W.Frag} {as : Bx} {a : Addr} {H : Hp} {v : V} {d : D} (h : lowD as.1.length d) (r : Rd K (as.1 ++ [a], as.2) H v d) : Rd K as H v d := by
  have go : pure d = true → Rd K as H v d := fun p => rd_back (as := as) (as1 := (as.1 ++ [a], as.2)) (List.prefix_append _ _) rfl r p
  cases d with
  | box k =>
    cases r with
    | box e =>
      rw [List.getElem?_append_left h] at e
      exact .box e
  | _ => exact go h
def dFrz (i : Nat) (φ : DE) : DE := fun δ mu Q => ∃ mu0 es, mu = mu0 ++ [es] ∧ δ[i]? = some (some (.box mu0.length)) ∧ (∀ j d, j ≠ i → δ[j]? = some (some d) → lowD mu0.length d) ∧
  φ (δ.set i (some (.lst es))) mu0 fun d mu1 => flat d = true ∧ (∀ ds ∈ mu1, flatAll ds = true) ∧ Q d (mu1 ++ [es])
theorem ed_frz {e : Expr} {φ : DE} (i : Nat) (he : ED X T e φ) : ED X T e (dFrz i φ) :=
  pe_conv he fun σ H Q ⟨as, δ, mu, Qd, o, ⟨mu0, es, e, hi, hl, h⟩, q⟩ => by
    subst e
    obtain ⟨v, hv, rv⟩ := o.rel i _ hi
    cases rv with
    | box ha =>
      rename_i a
      have hlen : as.1.length = mu0.length + 1 := by rw [o.sto.len, List.length_append]; rfl
      obtain ⟨l0, el⟩ : ∃ l0, as.1 = l0 ++ [a] := by
        have hne : as.1 ≠ [] := fun z => by rw [z] at hlen; simp at hlen
        refine ⟨as.1.dropLast, ?_⟩
        have := List.dropLast_concat_getLast hne
        have hg : as.1.getLast hne = a := by
          rw [List.getLast_eq_getElem]
          have := (List.getElem?_eq_some_iff.mp ha).2
          rw [← this]
          congr 1
          omega
        rw [hg] at this
        exact this.symm
      obtain ⟨as1, as2⟩ := as
      simp only at el
      subst el
      have hl0 : l0.length = mu0.length := by simp only [List.length_append, List.length_cons, List.length_nil] at hlen; omega
      have S := o.sto
      have na : a ∉ l0 := by
        have := S.nd
        rw [List.nodup_append] at this
        exact fun z => this.2.2 a z a (by simp) rfl
      have na2 : a ∉ as2 := S.dj a (by simp)
      obtain ⟨vs, q1, q2, q3⟩ := S.get mu0.length a es ha (by rw [List.getElem?_append_right (Nat.le_refl _), Nat.sub_self]; rfl)
      have less : ∀ b o, hid (l0 ++ [a], as2) H b = some o → (∀ ps, o ≠ HO.tbl ps) → hid (l0, as2) H b = some o := hid_less (K := X.K) (as := (l0, as2)) (as1 := (l0 ++ [a], as2)) (List.prefix_append _ _) rfl
      have hs : hid (l0, as2) H a = some (.lst vs) := hid_some.mpr ⟨fun z => z.elim na na2, q1⟩
      have S0 : Sto X.K (l0, as2) H mu0 := by
        refine ⟨(List.nodup_append.mp S.nd).1, hl0, S.hs, fun b hb => S.dj b (List.mem_append_left _ hb), fun k c ds h1 h2 => ?_⟩
        have hk : k < l0.length := (List.getElem?_eq_some_iff.mp h1).1
        obtain ⟨ws, w1, w2, w3⟩ := S.get k c ds (by rw [List.getElem?_append_left hk]; exact h1) (by rw [List.getElem?_append_left (by omega)]; exact h2)
        exact ⟨ws, w1, w2.mapP less w3, w3⟩
      have O : Ok X.K T (l0, as2) H σ (δ.set i (some (.lst es))) mu0 := by
        refine ⟨by rw [List.length_set]; exact o.len, fun j d hj => ?_, S0, o.tab⟩
        by_cases e : j = i
        · subst e
          rw [List.getElem?_set_self ((List.getElem?_eq_some_iff.mp hi).1)] at hj
          cases hj
          exact ⟨_, hv, .lst hs (q2.mapP less q3)⟩
        · rw [List.getElem?_set_ne (fun z => e z.symm)] at hj
          obtain ⟨u, hu, ru⟩ := o.rel j d hj
          exact ⟨u, hu, low_rd (as := (l0, as2)) (by rw [hl0]; exact hl j d e hj) ru⟩
      refine ⟨(l0, as2), _, mu0, _, O, h, fun d mu1 v1 H1 ⟨hp, hf, hq⟩ p1 r1 => ?_⟩
      have at1 : H1 a = some (.lst vs) := p1.fwd.stay a _ (fun z => z.elim na na2) q1 fun ps z => nomatch z
      have fr : ∀ b o, hid (l0, as2) H1 b = some o → b ≠ a → hid (l0 ++ [a], as2) H1 b = some o := fun b o w nb => by
        refine hid_some.mpr ⟨fun z => ?_, (hid_some.mp w).2⟩
        rcases z with z | z
        · rcases List.mem_append.mp z with z | z
          · exact (hid_some.mp w).1 (.inl z)
          · exact nb (List.mem_singleton.mp z)
        · exact (hid_some.mp w).1 (.inr z)
      have ht : ∀ b xs, SqT X.K (hid (l0, as2) H1) b xs → SqT X.K (hid (l0 ++ [a], as2) H1) b xs := fun b xs q => by
        rcases q with (q | ⟨o, q⟩) | q
        · refine .inl (.inl (fr _ _ q fun z => ?_))
          have := (hid_some.mp q).2
          rw [z, at1] at this
          cases this
        · refine .inl (.inr ⟨o, fr _ _ q fun z => ?_⟩)
          have := (hid_some.mp q).2
          rw [z, at1] at this
          cases this
        · exact .inr q
      have hl1 : l0.length = mu1.length := p1.sto.len
      refine q d _ v1 H1 hq ⟨⟨List.prefix_refl _, rfl, fun _ h => .inl h, fun b o hb => p1.fwd.stay b o fun z => hb (z.elim (fun z => .inl (List.mem_append_left _ z)) .inr), p1.fwd.there, p1.fwd.keep⟩, ⟨S.nd, by simp only [List.length_append, hl1, List.length_cons, List.length_nil], p1.sto.hs, S.dj, fun k c ds h1 h2 => ?_⟩, p1.tab⟩ (r1.mapF ht hp)
      by_cases hk : k < l0.length
      · rw [List.getElem?_append_left hk] at h1
        rw [List.getElem?_append_left (by omega)] at h2
        obtain ⟨ws, w1, w2, w3⟩ := p1.sto.get k c ds h1 h2
        exact ⟨ws, w1, w2.mapF ht (hf ds (List.mem_of_getElem? h2)), w3⟩
      · have hk2 : k = l0.length := by
          have := (List.getElem?_eq_some_iff.mp h1).1
          simp only [List.length_append, List.length_cons, List.length_nil] at this
          omega
        subst hk2
        rw [List.getElem?_append_right (Nat.le_refl _), Nat.sub_self] at h1
        rw [hl1, List.getElem?_append_right (Nat.le_refl _), Nat.sub_self] at h2
        simp only [List.getElem?_cons_zero, Option.some.injEq] at h1 h2
        subst h1 h2
        exact ⟨vs, at1, RdAll.mapP (as := (l0 ++ [a], as2)) (as1 := (l0 ++ [a], as2)) (H := H) (H1 := H1) (fun b o w n => hid_some.mpr ⟨(hid_some.mp w).1, p1.fwd.stay b o (fun z => (hid_some.mp w).1 (z.elim (fun z => .inl (List.mem_append_left _ z)) .inr)) (hid_some.mp w).2 n⟩) q2 q3, q3⟩
end
end DL
end
section
namespace K77
open PySem PySem.Spec PyProof.Rows L2 DL
local macro_rules | `(tactic| walk_at "bn") => `(tactic| first
  | assumption
  | (apply Bn.add <;> walk_at "bn")
  | (apply Bn.sub <;> walk_at "bn")
  | (apply Bn.mul <;> walk_at "bn")
  | (apply Bn.neg; walk_at "bn")
  | exact Bn.lit (by decide))
local macro_rules | `(tactic| walk_at "cm") => `(tactic| (apply Bn.cmul; (focus walk_at "bn"); (focus walk_at "bn"); (focus decide)))
local macro_rules | `(tactic| walk_at "st") => `(tactic| first
  | (refine put_e ?_; intro δ1 e; simp only [List.set_cons_zero, List.set_cons_succ, wipeD, List.map_cons, List.map_nil] at e; subst e)
  | refine ⟨_, rfl, ?_⟩
  | (refine ⟨_, _, rfl, rfl, ?cm, ?_⟩; (case cm => walk_at "cm"))
  | refine ⟨_, _, rfl, rfl, ?_⟩
  | refine ⟨_, rfl, rfl, ?_⟩
  | refine ⟨_, _, rfl, ?_⟩
  | refine ⟨_, _, _, rfl, ?_⟩
  | refine ⟨_, _, .inl rfl, ?_⟩
  | refine ⟨_, .inl rfl, ?_⟩
  | refine ⟨_, .inr rfl, ?_⟩
  | refine ⟨rfl, ?_⟩
  | refine ⟨_, _, _, rfl, rfl, rfl, ?_⟩
  | refine if_t rfl ?_
  | refine if_f rfl ?_)
local macro_rules | `(tactic| walk_at "ph") => `(tactic| ((try unfold aNil); (try dsimp only)))
local macro_rules | `(tactic| walk_at "ph2") => `(tactic| (dsimp only [aNil, aCons, dC]))
section
variable {P : Program} {w : World} {K : PySem.W.Frag} {mg : Str → Option Value} {base : Heap} {T : List (Addr × Str)}
def Ph__law_value : PhiD := fun ds mu Q => ∃ (F : Fm) (p : Pt) (d : D), ds = [F.D, d] ∧ (d = p.D ∨ d = .lst [.int p.x, .int p.y, .int p.z]) ∧ Bn6 20000 F.a F.b F.c F.d F.e F.f ∧ Bn3 20000 p.x p.y p.z ∧ Q (.int (val F p)) mu
theorem ok__law_value (A : Al K mg base T) : FnOk P w K mg base CX0 1 A.f__law_value A.fd__law_value ["_law_form_here", "_law_spot"] (spD K T Ph__law_value) := by
  refine fn_d A.F__law_value sc__law_value ?len (fun cdv Ar outer s H E hr => (ssd_cons (sd_asg (ed_var 0 (pv 0)) (gd_tup (n := 6) rfl (gsd_cons (gd_name (i := 2) sc__law_value.nd rfl (.inl rfl)) (gsd_cons (gd_name (i := 3) sc__law_value.nd rfl (.inl rfl)) (gsd_cons (gd_name (i := 4) sc__law_value.nd rfl (.inl rfl)) (gsd_cons (gd_name (i := 5) sc__law_value.nd rfl (.inl rfl)) (gsd_cons (gd_name (i := 6) sc__law_value.nd rfl (.inl rfl)) (gsd_cons (gd_name (i := 7) sc__law_value.nd rfl (.inl rfl)) gsd_nil))))))))
    (ssd_cons (sd_asg (ed_var 1 (pv 1)) (gd_eith (n := 3) rfl (gsd_cons (gd_name (i := 8) sc__law_value.nd rfl (.inl rfl)) (gsd_cons (gd_name (i := 9) sc__law_value.nd rfl (.inl rfl)) (gsd_cons (gd_name (i := 10) sc__law_value.nd rfl (.inl rfl)) gsd_nil)))))
    (ssd_one (sd_ret (ed_op op_add od_I0 (ed_op op_add od_I0 (ed_op op_add od_I0 (ed_op op_add od_I0 (ed_op op_add od_I0 (ed_op op_mulW od_I (ed_op op_mulW od_I (ed_var 2 (pv 2)) (ed_var 8 (pv 8))) (ed_var 8 (pv 8))) (ed_op op_mulW od_I (ed_op op_mulW od_I (ed_var 3 (pv 3)) (ed_var 9 (pv 9))) (ed_var 9 (pv 9)))) (ed_op op_mulW od_I (ed_op op_mulW od_I (ed_var 4 (pv 4)) (ed_var 10 (pv 10))) (ed_var 10 (pv 10)))) (ed_op op_mulW od_I (ed_op op_mulW od_I (ed_var 5 (pv 5)) (ed_var 9 (pv 9))) (ed_var 10 (pv 10)))) (ed_op op_mulW od_I (ed_op op_mulW od_I (ed_var 6 (pv 6)) (ed_var 8 (pv 8))) (ed_var 10 (pv 10)))) (ed_op op_mulW od_I (ed_op op_mulW od_I (ed_var 7 (pv 7)) (ed_var 8 (pv 8))) (ed_var 9 (pv 9))))))))) ?rd
  · rintro ds mu Qd ⟨F, p, d, rfl, _⟩; rfl
  · rintro ds mu Qd ⟨⟨a, b, c, d, e, f⟩, ⟨x, y, z⟩, dd, rfl, hd, ⟨ba, bb, bc, bd, be, bf⟩, ⟨bx, by_, bz⟩, hq⟩
    refine put_e ?_; intro δ1 e; rw [st__law_value] at e; subst e
    simp only at ba bb bc bd be bf bx by_ bz
    rcases hd with rfl | rfl
    · repeat walk_at "st"
      exact end_ok rfl hq
    · repeat walk_at "st"
      exact end_ok rfl hq
theorem in__law_value {F : Fm} {p : Pt} {n m : Nat} {mu : Mu} {Q : D → Mu → Prop} (bF : Bn6 n F.a F.b F.c F.d F.e F.f) (bp : Bn3 m p.x p.y p.z) (h : Q (.int (val F p)) mu) (ln : n ≤ 20000 := by decide) (lm : m ≤ 20000 := by decide) : Ph__law_value [F.D, p.D] mu Q :=
  ⟨F, p, _, rfl, .inl rfl, bF.mono ln, bp.mono lm, h⟩
theorem in__law_valueL {F : Fm} {p : Pt} {n m : Nat} {mu : Mu} {Q : D → Mu → Prop} (bF : Bn6 n F.a F.b F.c F.d F.e F.f) (bp : Bn3 m p.x p.y p.z) (h : Q (.int (val F p)) mu) (ln : n ≤ 20000 := by decide) (lm : m ≤ 20000 := by decide) : Ph__law_value [F.D, .lst [.int p.x, .int p.y, .int p.z]] mu Q :=
  ⟨F, p, _, rfl, .inr rfl, bF.mono ln, bp.mono lm, h⟩
def Ph__law_mixed_value : PhiD := fun ds mu Q => ∃ (F : Fm) (p q : Pt), ds = [F.D, p.D, q.D] ∧ Bn6 10000 F.a F.b F.c F.d F.e F.f ∧ Bn3 10000 p.x p.y p.z ∧ Bn3 10000 q.x q.y q.z ∧ Q (.int (both F p q)) mu
theorem ok__law_mixed_value (A : Al K mg base T) : FnOk P w K mg base CX0 2 A.f__law_mixed_value A.fd__law_mixed_value ["_law_form_here", "_law_one", "_law_other"] (spD K T Ph__law_mixed_value) := by
  refine fn_d A.F__law_mixed_value sc__law_mixed_value ?len (fun cdv Ar outer s H E hr => (ssd_cons (sd_setLc (i := 3) rfl sc__law_mixed_value.nd rfl rfl (sw_true rfl rfl rfl (by decide +kernel)) (id_zip rfl A.z_zip (ad_cons (ed_var 1 (pv 1)) (ad_cons (ed_var 2 (pv 2)) ad_nil))) (blkOk_by (own := [("_law_x", 4), ("_law_y", 5)]) (N := N__law_mixed_value) (sc := defScope s__law_mixed_value) (by decide +kernel)) (cg_pair 4 5) (fun _ _ _ _ _ => (pg_tup rfl (pgs_cons (pg_name (i := 4) sc__law_mixed_value.nd rfl (.inl rfl)) (pgs_cons (pg_name (i := 5) sc__law_mixed_value.nd rfl (.inl rfl)) pgs_nil)))) (fun _ _ _ _ _ => pts_yes) (fun _ _ _ _ _ => (ed_op op_add od_I0 (ed_var 4 (pv 4)) (ed_var 5 (pv 5)))))
    (ssd_one (sd_ret (ed_op op_sub od_I0 (ed_op op_sub od_I0 (ed_call (ok__law_value A) hr rfl A.g__law_value A.F__law_value.kp A.b__law_value (ad_cons (ed_var 0 (pv 0)) (ad_cons (ed_var 3 (pv 3)) ad_nil))) (ed_call (ok__law_value A) hr rfl A.g__law_value A.F__law_value.kp A.b__law_value (ad_cons (ed_var 0 (pv 0)) (ad_cons (ed_var 1 (pv 1)) ad_nil)))) (ed_call (ok__law_value A) hr rfl A.g__law_value A.F__law_value.kp A.b__law_value (ad_cons (ed_var 0 (pv 0)) (ad_cons (ed_var 2 (pv 2)) ad_nil)))))))) ?rd
  · rintro ds mu Qd ⟨F, p, q, rfl, _⟩; rfl
  · rintro ds mu Qd ⟨F, p, q, rfl, bF, bp, bq, hq⟩
    refine put_e ?_; intro δ1 e; rw [st__law_mixed_value] at e; subst e
    repeat walk_at "st"
    refine lc_fix [.int (add p q).x, .int (add p q).y, .int (add p q).z] ?_ three rfl ?_
    · refine ⟨?_, ?_, ?_, trivial⟩ <;> (intro R N hR; repeat walk_at "st") <;> exact hR
    repeat walk_at "st"
    walk_at "ph"
    refine in__law_valueL bF (bn3_addP bp bq) ?_
    repeat walk_at "st"
    walk_at "ph"
    refine in__law_value bF bp ?_
    repeat walk_at "st"
    walk_at "ph"
    refine in__law_value bF bq ?_
    repeat walk_at "st"
    exact end_ok rfl hq
theorem in__law_mixed {F : Fm} {p q : Pt} {n m l : Nat} {mu : Mu} {Q : D → Mu → Prop} (bF : Bn6 n F.a F.b F.c F.d F.e F.f) (bp : Bn3 m p.x p.y p.z) (bq : Bn3 l q.x q.y q.z) (h : Q (.int (both F p q)) mu) (ln : n ≤ 10000 := by decide) (lm : m ≤ 10000 := by decide) (ll : l ≤ 10000 := by decide) : Ph__law_mixed_value [F.D, p.D, q.D] mu Q :=
  ⟨F, p, q, rfl, bF.mono ln, bp.mono lm, bq.mono ll, h⟩
def Ph__law_size : PhiD := fun ds mu Q => ∃ F : Fm, ds = [F.D] ∧ Bn6 20000 F.a F.b F.c F.d F.e F.f ∧ Q (.int (disc F)) mu
theorem ok__law_size (A : Al K mg base T) : FnOk P w K mg base CX0 1 A.f__law_size A.fd__law_size ["_law_form_here"] (spD K T Ph__law_size) := by
  refine fn_d A.F__law_size sc__law_size ?len (fun cdv Ar outer s H E hr => (ssd_cons (sd_asg (ed_var 0 (pv 0)) (gd_tup (n := 6) rfl (gsd_cons (gd_name (i := 1) sc__law_size.nd rfl (.inl rfl)) (gsd_cons (gd_name (i := 2) sc__law_size.nd rfl (.inl rfl)) (gsd_cons (gd_name (i := 3) sc__law_size.nd rfl (.inl rfl)) (gsd_cons (gd_name (i := 4) sc__law_size.nd rfl (.inl rfl)) (gsd_cons (gd_name (i := 5) sc__law_size.nd rfl (.inl rfl)) (gsd_cons (gd_name (i := 6) sc__law_size.nd rfl (.inl rfl)) gsd_nil))))))))
    (ssd_one (sd_ret (ed_op op_sub od_I0 (ed_op op_sub od_I0 (ed_op op_sub od_I0 (ed_op op_add od_I0 (ed_op op_mulW od_I (ed_op op_mulW od_I (ed_op op_mulW od_I ed_int (ed_var 1 (pv 1))) (ed_var 2 (pv 2))) (ed_var 3 (pv 3))) (ed_op op_mulW od_I (ed_op op_mulW od_I (ed_var 4 (pv 4)) (ed_var 5 (pv 5))) (ed_var 6 (pv 6)))) (ed_op op_mulW od_I (ed_op op_mulW od_I (ed_var 1 (pv 1)) (ed_var 4 (pv 4))) (ed_var 4 (pv 4)))) (ed_op op_mulW od_I (ed_op op_mulW od_I (ed_var 2 (pv 2)) (ed_var 5 (pv 5))) (ed_var 5 (pv 5)))) (ed_op op_mulW od_I (ed_op op_mulW od_I (ed_var 3 (pv 3)) (ed_var 6 (pv 6))) (ed_var 6 (pv 6)))))))) ?rd
  · rintro ds mu Qd ⟨F, rfl, _⟩; rfl
  · rintro ds mu Qd ⟨⟨a, b, c, d, e, f⟩, rfl, ⟨ba, bb, bc, bd, be, bf⟩, hq⟩
    refine put_e ?_; intro δ1 e; rw [st__law_size] at e; subst e
    simp only at ba bb bc bd be bf
    repeat walk_at "st"
    exact end_ok rfl hq
theorem in__law_size {F : Fm} {n : Nat} {mu : Mu} {Q : D → Mu → Prop} (bF : Bn6 n F.a F.b F.c F.d F.e F.f) (h : Q (.int (disc F)) mu) (ln : n ≤ 20000 := by decide) : Ph__law_size [F.D] mu Q := ⟨F, rfl, bF.mono ln, h⟩
def Ph__law_is_whole : PhiD := fun ds mu Q => ∃ d, ds = [d] ∧ told d = true ∧ Q (.bl (isW d)) mu
theorem ok__law_is_whole (A : Al K mg base T) : FnOk P w K mg base CX0 1 A.f__law_is_whole A.fd__law_is_whole ["_law_value_here"] (spD K T Ph__law_is_whole) := by
  refine fn_d A.F__law_is_whole sc__law_is_whole ?len (fun cdv Ar outer s H E hr => (ssd_one (sd_ret (ed_and (ed_isi (.inl rfl) rfl A.z_isinstance (by decide +kernel) (ed_var 0 (pv 0)) (pe_bltn rfl A.z_int (by decide +kernel) rfl)) (ed_one (ed_not (ed_isi (.inr (.inl rfl)) rfl A.z_isinstance (by decide +kernel) (ed_var 0 (pv 0)) (pe_bltn rfl A.z_bool (by decide +kernel) rfl)))))))) ?rd
  · rintro ds mu Qd ⟨d, rfl, _⟩; rfl
  · rintro ds mu Qd ⟨d, rfl, hd, hq⟩
    refine put_e ?_; intro δ1 e; rw [st__law_is_whole] at e; subst e
    refine ⟨d, rfl, ?_⟩
    cases d with
    | scr _ => cases hd
    | box _ => cases hd
    | non => exact ⟨_, rfl, _, rfl, if_f rfl (end_ok rfl hq)⟩
    | str x => exact ⟨_, rfl, _, rfl, if_f rfl (end_ok rfl hq)⟩
    | tup x => exact ⟨_, rfl, _, rfl, if_f (by decide) (end_ok rfl hq)⟩
    | lst x => exact ⟨_, rfl, _, rfl, if_f rfl (end_ok rfl hq)⟩
    | bl x => exact ⟨_, rfl, _, rfl, if_t (by decide) ⟨_, rfl, _, rfl, _, rfl, end_ok rfl hq⟩⟩
    | int x => exact ⟨_, rfl, _, rfl, if_t (by decide) ⟨_, rfl, _, rfl, _, rfl, end_ok rfl hq⟩⟩
def Ph__law_columns : PhiD := fun ds mu Q => ∃ t : Tb, ds = [t.D] ∧ Q (.lst [(tr t).u.D, (tr t).v.D, (tr t).w.D]) mu
theorem ok__law_columns (A : Al K mg base T) : FnOk P w K mg base CX0 1 A.f__law_columns A.fd__law_columns ["_law_table_here"] (spD K T Ph__law_columns) := by
  refine fn_d A.F__law_columns sc__law_columns ?len (fun cdv Ar outer s H E hr => (ssd_one (sd_ret (ed_lc rfl sc__law_columns.nd (id_range1 rfl A.z_range (ad_cons ed_int ad_nil)) (blkOk_by (own := [("_law_at", 1)]) (N := N__law_columns) (sc := defScope s__law_columns) (by decide +kernel)) (cg_name 1) (fun _ _ _ _ _ => (pg_name (i := 1) sc__law_columns.nd rfl (.inr rfl))) (fun _ _ _ _ _ => pts_yes) (fun _ _ _ _ _ => (ed_callTy rc_tuple call_tuple_of (by rfl) A.z_tuple (by decide +kernel) (ad_cons (ed_lc rfl sc__law_columns.nd (id_tup (ed_var 0 (pv 0))) (blkOk_in (own := [("_law_row", 2)]) (N := N__law_columns) rfl (sc0 := defScope s__law_columns) rfl (by decide +kernel)) (cg_name 2) (fun _ _ _ _ _ => (pg_name (i := 2) sc__law_columns.nd rfl (.inl rfl))) (fun _ _ _ _ _ => pts_yes) (fun _ _ _ _ _ => (ed_ix (ed_var 2 (pv 2)) (ed_var 1 (pv 1)) (fun _ _ => rfl)))) ad_nil))))))) ?rd
  · rintro ds mu Qd ⟨t, rfl, _⟩; rfl
  · rintro ds mu Qd ⟨t, rfl, hq⟩
    refine put_e ?_; intro δ1 e; rw [st__law_columns] at e; subst e
    repeat walk_at "st"
    refine ⟨⟨by decide, by decide⟩, ?_⟩
    rw [show rangeD 0 (Int.toNat 3) = [.int 0, .int 1, .int 2] from rfl]
    refine lc_fix [(tr t).u.D, (tr t).v.D, (tr t).w.D] ?_ three rfl ?_
    · refine ⟨?_, ?_, ?_, trivial⟩
      · intro R N hR
        repeat walk_at "st"
        refine lc_fix [.int t.u.x, .int t.v.x, .int t.w.x] ?_ three rfl ?_
        · refine ⟨?_, ?_, ?_, trivial⟩ <;> (intro R N hR; repeat walk_at "st") <;> exact hR
        repeat walk_at "st"
        exact hR
      · intro R N hR
        repeat walk_at "st"
        refine lc_fix [.int t.u.y, .int t.v.y, .int t.w.y] ?_ three rfl ?_
        · refine ⟨?_, ?_, ?_, trivial⟩ <;> (intro R N hR; repeat walk_at "st") <;> exact hR
        repeat walk_at "st"
        exact hR
      · intro R N hR
        repeat walk_at "st"
        refine lc_fix [.int t.u.z, .int t.v.z, .int t.w.z] ?_ three rfl ?_
        · refine ⟨?_, ?_, ?_, trivial⟩ <;> (intro R N hR; repeat walk_at "st") <;> exact hR
        repeat walk_at "st"
        exact hR
    exact end_ok rfl hq
def Ph__law_deciding : PhiD := fun ds mu Q => ∃ t : Tb, ds = [t.D] ∧ Bd 10000 t ∧ Q (.int (det t)) mu
theorem ok__law_deciding (A : Al K mg base T) : FnOk P w K mg base CX0 1 A.f__law_deciding A.fd__law_deciding ["_law_table_here"] (spD K T Ph__law_deciding) := by
  refine fn_d A.F__law_deciding sc__law_deciding ?len (fun cdv Ar outer s H E hr => (ssd_cons (sd_asg (ed_var 0 (pv 0)) (gd_tup (n := 3) rfl (gsd_cons (gd_tup (n := 3) rfl (gsd_cons (gd_name (i := 1) sc__law_deciding.nd rfl (.inl rfl)) (gsd_cons (gd_name (i := 2) sc__law_deciding.nd rfl (.inl rfl)) (gsd_cons (gd_name (i := 3) sc__law_deciding.nd rfl (.inl rfl)) gsd_nil)))) (gsd_cons (gd_tup (n := 3) rfl (gsd_cons (gd_name (i := 4) sc__law_deciding.nd rfl (.inl rfl)) (gsd_cons (gd_name (i := 5) sc__law_deciding.nd rfl (.inl rfl)) (gsd_cons (gd_name (i := 6) sc__law_deciding.nd rfl (.inl rfl)) gsd_nil)))) (gsd_cons (gd_tup (n := 3) rfl (gsd_cons (gd_name (i := 7) sc__law_deciding.nd rfl (.inl rfl)) (gsd_cons (gd_name (i := 8) sc__law_deciding.nd rfl (.inl rfl)) (gsd_cons (gd_name (i := 9) sc__law_deciding.nd rfl (.inl rfl)) gsd_nil)))) gsd_nil)))))
    (ssd_one (sd_ret (ed_op op_add od_I0 (ed_op op_sub od_I0 (ed_op op_mulW od_I (ed_var 1 (pv 1)) (ed_op op_sub od_I0 (ed_op op_mulW od_I (ed_var 5 (pv 5)) (ed_var 9 (pv 9))) (ed_op op_mulW od_I (ed_var 6 (pv 6)) (ed_var 8 (pv 8))))) (ed_op op_mulW od_I (ed_var 2 (pv 2)) (ed_op op_sub od_I0 (ed_op op_mulW od_I (ed_var 4 (pv 4)) (ed_var 9 (pv 9))) (ed_op op_mulW od_I (ed_var 6 (pv 6)) (ed_var 7 (pv 7)))))) (ed_op op_mulW od_I (ed_var 3 (pv 3)) (ed_op op_sub od_I0 (ed_op op_mulW od_I (ed_var 4 (pv 4)) (ed_var 8 (pv 8))) (ed_op op_mulW od_I (ed_var 5 (pv 5)) (ed_var 7 (pv 7)))))))))) ?rd
  · rintro ds mu Qd ⟨t, rfl, _⟩; rfl
  · rintro ds mu Qd ⟨⟨⟨a, b, c⟩, ⟨d, e, f⟩, ⟨g, h, i⟩⟩, rfl, ⟨⟨ba, bb, bc⟩, ⟨bd, be, bf⟩, ⟨bg, bh, bi⟩⟩, hq⟩
    refine put_e ?_; intro δ1 e; rw [st__law_deciding] at e; subst e
    simp only at ba bb bc bd be bf bg bh bi
    repeat walk_at "st"
    have e1 : a * (e * i - f * h) - b * (d * i - f * g) + c * (d * h - e * g) = det ⟨⟨a, b, c⟩, ⟨d, e, f⟩, ⟨g, h, i⟩⟩ := by unfold det dot cross; simp only; grind
    rw [← e1] at hq
    exact end_ok rfl hq
theorem in__law_deciding {t : Tb} {m : Nat} {mu : Mu} {Q : D → Mu → Prop} (bt : Bd m t) (h : Q (.int (det t)) mu) (lm : m ≤ 10000 := by decide) : Ph__law_deciding [t.D] mu Q := ⟨t, rfl, bt.mono lm, h⟩
def Ph__law_led_form : PhiD := fun ds mu Q => ∃ (F : Fm) (t : Tb), ds = [F.D, t.D] ∧ Bn6 9000 F.a F.b F.c F.d F.e F.f ∧ Bd 9000 t ∧ Q (formBy F (tr t)).D mu
theorem ok__law_led_form (A : Al K mg base T) : FnOk P w K mg base CX0 3 A.f__law_led_form A.fd__law_led_form ["_law_form_here", "_law_table_here"] (spD K T Ph__law_led_form) := by
  refine fn_d A.F__law_led_form sc__law_led_form ?len (fun cdv Ar outer s H E hr => (ssd_cons (sd_asg (ed_call (ok__law_columns A) (hr.mono (by decide)) rfl A.g__law_columns A.F__law_columns.kp A.b__law_columns (ad_cons (ed_var 1 (pv 1)) ad_nil)) (gd_unl (n := 3) rfl (gsd_cons (gd_name (i := 2) sc__law_led_form.nd rfl (.inl rfl)) (gsd_cons (gd_name (i := 3) sc__law_led_form.nd rfl (.inl rfl)) (gsd_cons (gd_name (i := 4) sc__law_led_form.nd rfl (.inl rfl)) gsd_nil)))))
    (ssd_cons (sd_set (i := 5) sc__law_led_form.nd rfl (.inl rfl) (ed_tup (ad_cons (ed_call (ok__law_value A) (hr.mono (by decide)) rfl A.g__law_value A.F__law_value.kp A.b__law_value (ad_cons (ed_var 0 (pv 0)) (ad_cons (ed_var 2 (pv 2)) ad_nil))) (ad_cons (ed_call (ok__law_value A) (hr.mono (by decide)) rfl A.g__law_value A.F__law_value.kp A.b__law_value (ad_cons (ed_var 0 (pv 0)) (ad_cons (ed_var 3 (pv 3)) ad_nil))) (ad_cons (ed_call (ok__law_value A) (hr.mono (by decide)) rfl A.g__law_value A.F__law_value.kp A.b__law_value (ad_cons (ed_var 0 (pv 0)) (ad_cons (ed_var 4 (pv 4)) ad_nil))) ad_nil)))))
    (ssd_one (sd_ret (ed_op op_catA od_catT (ed_var 5 (pv 5)) (ed_tup (ad_cons (ed_call (ok__law_mixed_value A) hr rfl A.g__law_mixed_value A.F__law_mixed_value.kp A.b__law_mixed_value (ad_cons (ed_var 0 (pv 0)) (ad_cons (ed_var 3 (pv 3)) (ad_cons (ed_var 4 (pv 4)) ad_nil)))) (ad_cons (ed_call (ok__law_mixed_value A) hr rfl A.g__law_mixed_value A.F__law_mixed_value.kp A.b__law_mixed_value (ad_cons (ed_var 0 (pv 0)) (ad_cons (ed_var 2 (pv 2)) (ad_cons (ed_var 4 (pv 4)) ad_nil)))) (ad_cons (ed_call (ok__law_mixed_value A) hr rfl A.g__law_mixed_value A.F__law_mixed_value.kp A.b__law_mixed_value (ad_cons (ed_var 0 (pv 0)) (ad_cons (ed_var 2 (pv 2)) (ad_cons (ed_var 3 (pv 3)) ad_nil)))) ad_nil)))))))))) ?rd
  · rintro ds mu Qd ⟨F, t, rfl, _⟩; rfl
  · rintro ds mu Qd ⟨F, t, rfl, bF, bt, hq⟩
    refine put_e ?_; intro δ1 e; rw [st__law_led_form] at e; subst e
    have b1 := bt.tr
    repeat walk_at "st"
    walk_at "ph"
    refine in__law_value bF b1.u ?_
    repeat walk_at "st"
    walk_at "ph"
    refine in__law_value bF b1.v ?_
    repeat walk_at "st"
    walk_at "ph"
    refine in__law_value bF b1.w ?_
    repeat walk_at "st"
    refine ⟨three, ?_⟩
    repeat walk_at "st"
    refine ⟨bF.mono (by decide), b1.v.mono (by decide), b1.w.mono (by decide), ?_⟩
    repeat walk_at "st"
    refine ⟨bF.mono (by decide), b1.u.mono (by decide), b1.w.mono (by decide), ?_⟩
    repeat walk_at "st"
    refine ⟨bF.mono (by decide), b1.u.mono (by decide), b1.v.mono (by decide), ?_⟩
    repeat walk_at "st"
    refine ⟨three, ?_⟩
    refine ⟨_, _, rfl, rfl, (by decide : 6 ≤ sizeLine), ?_⟩
    exact end_ok rfl hq
theorem in__law_led {F : Fm} {t : Tb} {n m : Nat} {mu : Mu} {Q : D → Mu → Prop} (bF : Bn6 n F.a F.b F.c F.d F.e F.f) (bt : Bd m t) (h : Q (formBy F (tr t)).D mu) (ln : n ≤ 9000 := by decide) (lm : m ≤ 9000 := by decide) : Ph__law_led_form [F.D, t.D] mu Q := ⟨F, t, rfl, bF.mono ln, bt.mono lm, h⟩
end
end K77
end
section
namespace K77
open PySem PySem.Spec PyProof.Rows L2 DL
local macro_rules | `(tactic| walk_at "bn") => `(tactic| first
  | assumption
  | (apply Bn.add <;> walk_at "bn")
  | (apply Bn.sub <;> walk_at "bn")
  | (apply Bn.mul <;> walk_at "bn")
  | (apply Bn.neg; walk_at "bn")
  | exact Bn.lit (by decide))
local macro_rules | `(tactic| walk_at "cm") => `(tactic| (apply Bn.cmul; (focus walk_at "bn"); (focus walk_at "bn"); (focus decide)))
local macro_rules | `(tactic| walk_at "st") => `(tactic| first
  | (refine put_e ?_; intro δ1 e; simp only [List.set_cons_zero, List.set_cons_succ, wipeD, List.map_cons, List.map_nil] at e; subst e)
  | refine ⟨_, rfl, ?_⟩
  | (refine ⟨_, _, rfl, rfl, ?cm, ?_⟩; (case cm => walk_at "cm"))
  | refine ⟨_, _, rfl, rfl, ?_⟩
  | refine ⟨_, rfl, rfl, ?_⟩
  | refine ⟨_, _, rfl, ?_⟩
  | refine ⟨_, _, _, rfl, ?_⟩
  | refine ⟨_, _, .inl rfl, ?_⟩
  | refine ⟨_, .inl rfl, ?_⟩
  | refine ⟨_, .inr rfl, ?_⟩
  | refine ⟨rfl, ?_⟩
  | refine ⟨_, _, _, rfl, rfl, rfl, ?_⟩
  | refine if_t rfl ?_
  | refine if_f rfl ?_)
local macro_rules | `(tactic| walk_at "ph") => `(tactic| ((try unfold aNil); (try dsimp only)))
local macro_rules | `(tactic| walk_at "ph2") => `(tactic| (dsimp only [aNil, aCons, dC]))
section
variable {P : Program} {w : World} {K : PySem.W.Frag} {mg : Str → Option Value} {base : Heap} {T : List (Addr × Str)}
/-! ### lists compared with [] -/
theorem eqv_nil (L : List D) : PyData.eqv (toP (.lst L)) (toP (.lst [])) = L.isEmpty := by cases L <;> rfl
/-- shaped lists of shaped things -/
theorem lay_all : ∀ (L : List D), (∀ d ∈ L, PyData.canLay0 (toP d) = true ∧ (toP d).depth ≤ 60) → PyData.canLayAll0 (toPs L) = true ∧ PyData.depthAll (toPs L) ≤ 60
  | [], _ => ⟨rfl, by decide⟩
  | d :: L, h => by
    have h1 := h d (by simp)
    have h2 := lay_all L fun x hx => h x (by simp [hx])
    refine ⟨?_, ?_⟩
    · show (PyData.canLay0 (toP d) && PyData.canLayAll0 (toPs L)) = true
      rw [h1.1, h2.1]; rfl
    · show max (toP d).depth (PyData.depthAll (toPs L)) ≤ 60
      omega
theorem shaped_lst {L : List D} (h : ∀ d ∈ L, PyData.canLay0 (toP d) = true ∧ (toP d).depth ≤ 60) : SeqAt.shaped (toP (.lst L)) = true := by
  have h1 := lay_all L h
  show (PyData.canLayAll0 (toPs L) && decide (PyData.depthAll (toPs L) + 1 ≤ 64)) = true
  rw [h1.1, decide_eq_true (by omega)]; rfl
theorem shaped_nil : SeqAt.shaped (toP (.lst [])) = true := rfl
theorem lay_int (i : Int) : PyData.canLay0 (toP (.int i)) = true ∧ (toP (.int i)).depth ≤ 60 := ⟨rfl, Nat.zero_le _⟩
theorem lay_pt (p : Pt) : PyData.canLay0 (toP p.D) = true ∧ (toP p.D).depth ≤ 60 := ⟨rfl, (by decide : 1 ≤ 60)⟩
def absI (a : Int) : Int := if a < 0 then -a else a
theorem absI_le {a : Int} : ¬ 1000000 < absI a ↔ a.natAbs ≤ 1000000 := by unfold absI; split <;> omega
def Ph__law_is_form : PhiD := fun ds mu Q => ∃ F : Fm, ds = [F.D] ∧ Bn6 10000 F.a F.b F.c F.d F.e F.f ∧ ∀ b : Bool, (b = true ↔ IsFm F) → Q (.bl b) mu
theorem ok__law_is_form (A : Al K mg base T) : FnOk P w K mg base CX0 2 A.f__law_is_form A.fd__law_is_form ["_law_value_here"] (spD K T Ph__law_is_form) := by
  refine fn_d A.F__law_is_form sc__law_is_form ?len (fun cdv Ar outer s H E hr => (ssd_cons (sd_if (td_w (wd_or (td_not (td_val (ed_isi (.inr (.inr rfl)) rfl A.z_isinstance (by decide +kernel) (ed_var 0 (pv 0)) (pe_bltn rfl A.z_tuple (by decide +kernel) rfl)))) (wd_or (td_cmp op_ne od_ne (ed_callB rc_len call_len_seq (by rfl) A.z_len (by decide +kernel) (ad_cons (ed_var 0 (pv 0)) ad_nil)) ed_int (nomark _)) (wd_one (.inr rfl) (td_cmp (op_neD hr.units) od_neD (ed_lc rfl sc__law_is_form.nd (id_tup (ed_var 0 (pv 0))) (blkOk_by (own := [("_law_x", 1)]) (N := N__law_is_form) (sc := defScope s__law_is_form) (by decide +kernel)) (cg_name 1) (fun _ _ _ _ _ => (pg_name (i := 1) sc__law_is_form.nd rfl (.inl rfl))) (fun _ _ _ _ _ => (pts_one (td_not (td_val (ed_call (ok__law_is_whole A) hr rfl A.g__law_is_whole A.F__law_is_whole.kp A.b__law_is_whole (ad_cons (ed_var 1 (pv 1)) ad_nil)))))) (fun _ _ _ _ _ => (ed_var 1 (pv 1)))) (ed_lst ad_nil) (nomark _)))))) (ssd_one (sd_ret ed_bl)) ssd_nil)
    (ssd_cons (sd_if (td_cmp (op_neD hr.units) od_neD (ed_lc rfl sc__law_is_form.nd (id_tup (ed_var 0 (pv 0))) (blkOk_by (own := [("_law_x", 1)]) (N := N__law_is_form) (sc := defScope s__law_is_form) (by decide +kernel)) (cg_name 1) (fun _ _ _ _ _ => (pg_name (i := 1) sc__law_is_form.nd rfl (.inl rfl))) (fun _ _ _ _ _ => (pts_one (td_cmp op_gt od_B (ed_callB rc_abs call_abs (by rfl) A.z_abs (by decide +kernel) (ad_cons (ed_var 1 (pv 1)) ad_nil)) (ed_op op_powW od_I ed_int ed_int) (nomark _)))) (fun _ _ _ _ _ => (ed_var 1 (pv 1)))) (ed_lst ad_nil) (nomark _)) (ssd_one (sd_ret ed_bl)) ssd_nil)
    (ssd_one (sd_ret (ed_and (ed_cmp op_gt od_B (ed_ix (ed_var 0 (pv 0)) ed_int (fun _ _ => rfl)) ed_int (nomark _)) (ed_and (ed_cmp op_gt od_B (ed_op op_mulW od_I (ed_op op_mulW od_I ed_int (ed_ix (ed_var 0 (pv 0)) ed_int (fun _ _ => rfl))) (ed_ix (ed_var 0 (pv 0)) ed_int (fun _ _ => rfl))) (ed_op op_mulW od_I (ed_ix (ed_var 0 (pv 0)) ed_int (fun _ _ => rfl)) (ed_ix (ed_var 0 (pv 0)) ed_int (fun _ _ => rfl))) (nomark _)) (ed_one (ed_cmp op_gt od_B (ed_call (ok__law_size A) hr rfl A.g__law_size A.F__law_size.kp A.b__law_size (ad_cons (ed_var 0 (pv 0)) ad_nil)) ed_int (nomark _)))))))))) ?rd
  · rintro ds mu Qd ⟨F, rfl, _⟩; rfl
  · rintro ds mu Qd ⟨F, rfl, bF, hq⟩
    refine put_e ?_; intro δ1 e; rw [st__law_is_form] at e; subst e
    repeat walk_at "st"
    refine lc_fm D.int [F.a, F.b, F.c, F.d, F.e, F.f] (fun _ => none) (fun a ha R N hR hN => ?_) (by decide : 6 ≤ sizeLine) (fun a ha y hy => nomatch hy) ?_
    · repeat walk_at "st"
      exact hN rfl
    refine ⟨Nat.zero_le _, rfl, rfl, rfl, rfl, _, rfl, ?_⟩
    refine if_f rfl ?_
    repeat walk_at "st"
    refine lc_fm D.int [F.a, F.b, F.c, F.d, F.e, F.f] (fun a => if 1000000 < absI a then some (.int a) else none) (fun a ha R N hR hN => ?_) (by decide : 6 ≤ sizeLine) (fun a ha y hy => ?_) ?_
    · repeat walk_at "st"
      refine ⟨⟨by decide, by decide⟩, ?_⟩
      repeat walk_at "st"
      by_cases h : 1000000 < absI a
      · refine if_t (decide_eq_true h) ?_
        exact ⟨_, rfl, hR _ (if_pos h)⟩
      · refine if_f (decide_eq_false h) ?_
        exact hN (if_neg h)
    · split at hy
      · cases hy; rfl
      · cases hy
    generalize hL : List.filterMap (fun a => if 1000000 < absI a then some (D.int a) else none) [F.a, F.b, F.c, F.d, F.e, F.f] = L
    have hmem : ∀ d ∈ L, ∃ i, d = D.int i := fun d hd => by
      rw [← hL] at hd
      obtain ⟨a, _, ha⟩ := List.mem_filterMap.mp hd
      split at ha
      · cases ha; exact ⟨_, rfl⟩
      · cases ha
    have hE : L.isEmpty = true ↔ (F.a.natAbs ≤ 1000000 ∧ F.b.natAbs ≤ 1000000 ∧ F.c.natAbs ≤ 1000000 ∧ F.d.natAbs ≤ 1000000 ∧ F.e.natAbs ≤ 1000000 ∧ F.f.natAbs ≤ 1000000) := by
      rw [← hL, List.isEmpty_iff, List.filterMap_eq_nil_iff]
      have k : ∀ a : Int, (if 1000000 < absI a then some (D.int a) else none) = none ↔ a.natAbs ≤ 1000000 := fun a => by
        split
        · rename_i h
          constructor
          · intro z; cases z
          · intro z; exact absurd h (absI_le.mpr z)
        · rename_i h
          constructor
          · intro _; exact absI_le.mp h
          · intro _; rfl
      simp only [k, List.mem_cons, List.not_mem_nil, or_false, forall_eq_or_imp, forall_eq]
    have pL : DL.pureAll L = true := by
      clear hL hE
      induction L with
      | nil => rfl
      | cons d L ih =>
        obtain ⟨i, rfl⟩ := hmem d (by simp)
        exact ih fun x hx => hmem x (by simp [hx])
    have sL : SeqAt.shaped (toP (.lst L)) = true := shaped_lst fun d hd => by
      obtain ⟨i, rfl⟩ := hmem d hd
      exact lay_int i
    refine ⟨Nat.zero_le _, pL, rfl, sL, rfl, _, rfl, ?_⟩
    rw [eqv_nil]
    cases hB : L.isEmpty with
    | false =>
      refine if_t rfl ?_
      refine end_ok rfl (hq _ ⟨(fun h => nomatch h), fun h => ?_⟩)
      have := hE.mpr ⟨h.la, h.lb, h.lc, h.ld, h.le, h.lf⟩
      rw [hB] at this
      cases this
    | true =>
      obtain ⟨l1, l2, l3, l4, l5, l6⟩ := hE.mp hB
      refine if_f rfl ?_
      repeat walk_at "st"
      by_cases h1 : 0 < F.a
      · refine if_t (decide_eq_true h1) ?_
        have ba := bF.a
        have bb := bF.b
        have bf := bF.f
        repeat walk_at "st"
        by_cases h2 : F.f * F.f < 4 * F.a * F.b
        · refine if_t (decide_eq_true h2) ?_
          repeat walk_at "st"
          refine ⟨bF.mono (by decide), ?_⟩
          repeat walk_at "st"
          refine end_ok rfl (hq _ ?_)
          rw [decide_eq_true_eq]
          exact ⟨fun h => ⟨l1, l2, l3, l4, l5, l6, h1, h2, h⟩, fun h => h.pc⟩
        · refine if_f (decide_eq_false h2) ?_
          exact end_ok rfl (hq _ ⟨(fun h => nomatch h), fun h => absurd h.pb h2⟩)
      · refine if_f (decide_eq_false h1) ?_
        exact end_ok rfl (hq _ ⟨(fun h => nomatch h), fun h => absurd h.pa h1⟩)
def Ph__law_root : PhiD := fun ds mu Q => ∃ n : Int, ds = [.int n] ∧ 0 ≤ n ∧ n ≤ 1000000 ∧ Q (.int (isq n)) mu
theorem ok__law_root (A : Al K mg base T) : FnOk P w K mg base CX0 1 A.f__law_root A.fd__law_root ["_law_number"] (spD K T Ph__law_root) := by
  refine fn_d A.F__law_root sc__law_root ?len (fun cdv Ar outer s H E hr => (ssd_cons (sd_set (i := 1) sc__law_root.nd rfl (.inl rfl) ed_int)
    (ssd_cons (sd_while PassesOwn.never (td_cmp op_le od_B (ed_op op_mulW od_I (ed_op op_add od_I0 (ed_var 1 (pv 1)) ed_int) (ed_op op_add od_I0 (ed_var 1 (pv 1)) ed_int)) (ed_var 0 (pv 0)) (nomark _)) (ssd_one (sd_set (i := 1) sc__law_root.nd rfl (.inl rfl) (ed_op op_add od_I0 (ed_var 1 (pv 1)) ed_int))))
    (ssd_one (sd_ret (ed_var 1 (pv 1))))))) ?rd
  · rintro ds mu Qd ⟨n, rfl, _⟩; rfl
  · rintro ds mu Qd ⟨n, rfl, n0, n1, hq⟩
    refine put_e ?_; intro δ1 e; rw [st__law_root] at e; subst e
    repeat walk_at "st"
    refine ⟨fun m δ mu1 => ∃ r : Int, δ = [some (.int n), some (.int r)] ∧ mu1 = mu ∧ 0 ≤ r ∧ r * r ≤ n ∧ r ≤ 1000 ∧ m = (1000 - r).toNat, ⟨_, 0, rfl, rfl, by decide, n0, by decide, rfl⟩, ?_⟩
    rintro m δ mu1 ⟨r, rfl, rfl, r0, r1, r2, hm⟩
    have br : Bn 20 r := Bn.of_le (k := 1000) (by omega) (by decide)
    have b1 : Bn 20 (1 : Int) := Bn.of_le (k := 1) (by decide) (by decide)
    repeat walk_at "st"
    by_cases h : (r + 1) * (r + 1) ≤ n
    · refine if_t (decide_eq_true h) ?_
      repeat walk_at "st"
      have : r + 1 ≤ 1000 := by
        rcases Int.lt_or_le 1000 (r + 1) with c | c
        · have := sq_le_sq (x := 1001) (y := r + 1) (by decide) (by omega)
          omega
        · exact c
      exact ⟨(1000 - (r + 1)).toNat, by omega, r + 1, rfl, rfl, by omega, h, this, rfl⟩
    · refine if_f (decide_eq_false h) ?_
      repeat walk_at "st"
      rw [← isq_of r0 r1 (by omega)] at hq
      exact end_ok rfl hq
end
end K77
end
section
namespace K77
open PySem PySem.Spec PyProof.Rows L2 DL
local macro_rules | `(tactic| walk_at "bn") => `(tactic| first
  | assumption
  | (apply Bn.add <;> walk_at "bn")
  | (apply Bn.sub <;> walk_at "bn")
  | (apply Bn.mul <;> walk_at "bn")
  | (apply Bn.neg; walk_at "bn")
  | exact Bn.lit (by decide))
local macro_rules | `(tactic| walk_at "cm") => `(tactic| (apply Bn.cmul; (focus walk_at "bn"); (focus walk_at "bn"); (focus decide)))
local macro_rules | `(tactic| walk_at "st") => `(tactic| first
  | (refine put_e ?_; intro δ1 e; simp only [List.set_cons_zero, List.set_cons_succ, wipeD, List.map_cons, List.map_nil] at e; subst e)
  | refine ⟨_, rfl, ?_⟩
  | (refine ⟨_, _, rfl, rfl, ?cm, ?_⟩; (case cm => walk_at "cm"))
  | refine ⟨_, _, rfl, rfl, ?_⟩
  | refine ⟨_, rfl, rfl, ?_⟩
  | refine ⟨_, _, rfl, ?_⟩
  | refine ⟨_, _, _, rfl, ?_⟩
  | refine ⟨_, _, .inl rfl, ?_⟩
  | refine ⟨_, .inl rfl, ?_⟩
  | refine ⟨_, .inr rfl, ?_⟩
  | refine ⟨rfl, ?_⟩
  | refine ⟨_, _, _, rfl, rfl, rfl, ?_⟩
  | refine if_t rfl ?_
  | refine if_f rfl ?_)
local macro_rules | `(tactic| walk_at "ph") => `(tactic| ((try unfold aNil); (try dsimp only)))
local macro_rules | `(tactic| walk_at "ph2") => `(tactic| (dsimp only [aNil, aCons, dC]))
section
variable {P : Program} {w : World} {K : PySem.W.Frag} {mg : Str → Option Value} {base : Heap} {T : List (Addr × Str)}
/-- a form as the law draws it -/
structure Dr (F : Fm) : Prop where
  a : 1 ≤ F.a ∧ F.a ≤ 6
  b : 1 ≤ F.b ∧ F.b ≤ 6
  c : 1 ≤ F.c ∧ F.c ≤ 6
  d : -4 ≤ F.d ∧ F.d ≤ 4
  e : -4 ≤ F.e ∧ F.e ≤ 4
  f : -4 ≤ F.f ∧ F.f ≤ 4
  po : Po F
theorem Dr.bn {F : Fm} (h : Dr F) : Bn6 4 F.a F.b F.c F.d F.e F.f := by
  obtain ⟨ha, hb, hc, hd, he, hf, _⟩ := h
  exact ⟨.of_le (k := 6) (by omega) (by decide), .of_le (k := 6) (by omega) (by decide), .of_le (k := 6) (by omega) (by decide), .of_le (k := 6) (by omega) (by decide), .of_le (k := 6) (by omega) (by decide), .of_le (k := 6) (by omega) (by decide)⟩
theorem mm_le {x y : Int} (x0 : 0 ≤ x) (x1 : x ≤ 6) (y0 : 0 ≤ y) (y1 : y ≤ 6) : x * y ≤ 36 := mul_le x0 y0 x1 y1
theorem minor_le {x y z : Int} (x0 : 0 ≤ x) (x1 : x ≤ 6) (y0 : 0 ≤ y) (y1 : y ≤ 6) : 4 * x * y - z * z ≤ 144 := by
  have h := mm_le x0 x1 y0 y1
  have h2 := sq_nonneg z
  rw [Int.mul_assoc]; omega
theorem Dr.wid {F : Fm} (h : Dr F) : 0 < wid F ∧ wid F ≤ 144 := ⟨h.po.w, minor_le (by have := h.a; omega) h.a.2 (by have := h.b; omega) h.b.2⟩
theorem Dr.cee {F : Fm} (h : Dr F) : 0 < cee F ∧ cee F ≤ 144 := ⟨cee_pos h.po.a h.po.w h.po.s, minor_le (by have := h.a; omega) h.a.2 (by have := h.c; omega) h.c.2⟩
theorem Dr.dee {F : Fm} (h : Dr F) : 0 < dee F ∧ dee F ≤ 144 := ⟨dee_pos h.po.a h.po.w h.po.s, minor_le (by have := h.b; omega) h.b.2 (by have := h.c; omega) h.c.2⟩
theorem bn_disc {n : Nat} {F : Fm} (h : Bn6 n F.a F.b F.c F.d F.e F.f) : Bn (n + n + n + 8) (disc F) := by
  have k : ∀ {i j l : Int}, Bn n i → Bn n j → Bn n l → Bn (n + n + n) (i * j * l) := fun a b c => (a.mul b).mul c
  have k4 : Bn (n + n + n + 3) (4 * F.a * F.b * F.c) := ((((Bn.of_le (n := 3) (k := 4) (by decide) (by decide)).mul h.a).mul h.b).mul h.c).mono (by omega)
  exact ((((k4.add (k h.d h.e h.f)).sub (k h.a h.d h.d)).sub (k h.b h.e h.e)).sub (k h.c h.f h.f)).mono (by omega)
theorem quo_le {M w s : Int} (m0 : 0 ≤ M) (m1 : M ≤ 6) (w0 : 0 < w) (w1 : w ≤ 144) (s0 : 0 < s) : 0 ≤ M * w / s ∧ M * w / s ≤ 864 := by
  have h := mul_le m0 (Int.le_of_lt w0) m1 w1
  have h0 : 0 ≤ M * w := Int.mul_nonneg m0 (Int.le_of_lt w0)
  refine ⟨Int.ediv_nonneg h0 (Int.le_of_lt s0), ?_⟩
  have := Int.ediv_le_self s h0
  omega
theorem isq29 {n : Int} (h0 : 0 ≤ n) (h : n ≤ 864) : 0 ≤ isq n ∧ isq n ≤ 30 := ⟨isq_nonneg n, isq_le h0 (by decide) (by omega)⟩
theorem fm_some {α β : Type} (f : α → β) (l : List α) : l.filterMap (fun x => some (f x)) = l.map f := by rw [← List.filterMap_eq_map]; rfl
theorem fm_if {α β : Type} (c : α → Prop) [DecidablePred c] (f : α → β) : ∀ l : List α, l.filterMap (fun x => if c x then some (f x) else none) = (l.filter fun x => decide (c x)).map f
  | [] => rfl
  | x :: l => by
    rw [List.filterMap_cons, List.filter_cons, fm_if c f l]
    by_cases h : c x
    · rw [if_pos h, if_pos (decide_eq_true h)]; rfl
    · rw [if_neg h, if_neg (by rw [decide_eq_false h]; simp)]
theorem pureAll_pts (L : List Pt) : DL.pureAll (L.map Pt.D) = true := by
  induction L with
  | nil => rfl
  | cons p L ih => exact ih
def Ph__law_spots : PhiD := fun ds mu Q => ∃ (F : Fm) (M : Int), ds = [F.D, .int M] ∧ Dr F ∧ 0 ≤ M ∧ M ≤ 6 ∧ ∀ L : List Pt, (∀ p, p ∈ L ↔ val F p ≤ M) → L.length ≤ 300000 → Q (.lst (L.map Pt.D)) mu
theorem ok__law_spots (A : Al K mg base T) : FnOk P w K mg base CX0 2 A.f__law_spots A.fd__law_spots ["_law_form_here", "_law_most"] (spD K T Ph__law_spots) := by
  refine fn_d A.F__law_spots sc__law_spots ?len (fun cdv Ar outer s H E hr => (ssd_cons (sd_asg (ed_var 0 (pv 0)) (gd_tup (n := 6) rfl (gsd_cons (gd_name (i := 2) sc__law_spots.nd rfl (.inl rfl)) (gsd_cons (gd_name (i := 3) sc__law_spots.nd rfl (.inl rfl)) (gsd_cons (gd_name (i := 4) sc__law_spots.nd rfl (.inl rfl)) (gsd_cons (gd_name (i := 5) sc__law_spots.nd rfl (.inl rfl)) (gsd_cons (gd_name (i := 6) sc__law_spots.nd rfl (.inl rfl)) (gsd_cons (gd_name (i := 7) sc__law_spots.nd rfl (.inl rfl)) gsd_nil))))))))
    (ssd_cons (sd_set (i := 8) sc__law_spots.nd rfl (.inl rfl) (ed_call (ok__law_size A) hr rfl A.g__law_size A.F__law_size.kp A.b__law_size (ad_cons (ed_var 0 (pv 0)) ad_nil)))
    (ssd_cons (sd_set (i := 9) sc__law_spots.nd rfl (.inl rfl) (ed_call (ok__law_root A) hr rfl A.g__law_root A.F__law_root.kp A.b__law_root (ad_cons (ed_op op_fdivW od_I (ed_op op_mulW od_I (ed_var 1 (pv 1)) (ed_op op_sub od_I0 (ed_op op_mulW od_I (ed_op op_mulW od_I ed_int (ed_var 3 (pv 3))) (ed_var 4 (pv 4))) (ed_op op_mulW od_I (ed_var 5 (pv 5)) (ed_var 5 (pv 5))))) (ed_var 8 (pv 8))) ad_nil)))
    (ssd_cons (sd_set (i := 10) sc__law_spots.nd rfl (.inl rfl) (ed_call (ok__law_root A) hr rfl A.g__law_root A.F__law_root.kp A.b__law_root (ad_cons (ed_op op_fdivW od_I (ed_op op_mulW od_I (ed_var 1 (pv 1)) (ed_op op_sub od_I0 (ed_op op_mulW od_I (ed_op op_mulW od_I ed_int (ed_var 2 (pv 2))) (ed_var 4 (pv 4))) (ed_op op_mulW od_I (ed_var 6 (pv 6)) (ed_var 6 (pv 6))))) (ed_var 8 (pv 8))) ad_nil)))
    (ssd_cons (sd_set (i := 11) sc__law_spots.nd rfl (.inl rfl) (ed_call (ok__law_root A) hr rfl A.g__law_root A.F__law_root.kp A.b__law_root (ad_cons (ed_op op_fdivW od_I (ed_op op_mulW od_I (ed_var 1 (pv 1)) (ed_op op_sub od_I0 (ed_op op_mulW od_I (ed_op op_mulW od_I ed_int (ed_var 2 (pv 2))) (ed_var 3 (pv 3))) (ed_op op_mulW od_I (ed_var 7 (pv 7)) (ed_var 7 (pv 7))))) (ed_var 8 (pv 8))) ad_nil)))
    (ssd_cons (sd_set (i := 12) sc__law_spots.nd rfl (.inl rfl) (ed_lst ad_nil))
    (ssd_cons (sd_forR2 PassesOwn.never rfl sc__law_spots.nd (j := 13) rfl (.inr rfl) rfl A.z_range (ad_cons (ed_op op_sub od_I0 ed_int (ed_var 9 (pv 9))) (ad_cons (ed_op op_add od_I0 (ed_var 9 (pv 9)) ed_int) ad_nil)) (ssd_one (sd_forR2 PassesOwn.never rfl sc__law_spots.nd (j := 14) rfl (.inr rfl) rfl A.z_range (ad_cons (ed_op op_sub od_I0 ed_int (ed_var 10 (pv 10))) (ad_cons (ed_op op_add od_I0 (ed_var 10 (pv 10)) ed_int) ad_nil)) (ssd_cons (sd_setLc (i := 15) rfl sc__law_spots.nd rfl rfl (sw_true rfl rfl rfl (by decide +kernel)) (id_range2 rfl A.z_range (ad_cons (ed_op op_sub od_I0 ed_int (ed_var 11 (pv 11))) (ad_cons (ed_op op_add od_I0 (ed_var 11 (pv 11)) ed_int) ad_nil))) (blkOk_by (own := [("_law_three", 16)]) (N := N__law_spots) (sc := defScope s__law_spots) (by decide +kernel)) (cg_name 16) (fun _ _ _ _ _ => (pg_name (i := 16) sc__law_spots.nd rfl (.inl rfl))) (fun _ _ _ _ _ => pts_yes) (fun _ _ _ _ _ => (ed_tup (ad_cons (ed_var 13 (pv 13)) (ad_cons (ed_var 14 (pv 14)) (ad_cons (ed_var 16 (pv 16)) ad_nil))))))
    (ssd_one (sd_set (i := 12) sc__law_spots.nd rfl (.inl rfl) (ed_op op_cat od_catL (ed_var 12 (pv 12)) (ed_lc rfl sc__law_spots.nd (id_list (ed_var 15 (pv 15))) (blkOk_by (own := [("_law_spot", 17)]) (N := N__law_spots) (sc := defScope s__law_spots) (by decide +kernel)) (cg_name 17) (fun _ _ _ _ _ => (pg_name (i := 17) sc__law_spots.nd rfl (.inl rfl))) (fun _ _ _ _ _ => (pts_one (td_cmp op_le od_B (ed_call (ok__law_value A) hr rfl A.g__law_value A.F__law_value.kp A.b__law_value (ad_cons (ed_var 0 (pv 0)) (ad_cons (ed_var 17 (pv 17)) ad_nil))) (ed_var 1 (pv 1)) (nomark _)))) (fun _ _ _ _ _ => (ed_var 17 (pv 17)))))))))))
    (ssd_one (sd_ret (ed_var 12 (pv 12)))))))))))) ?rd
  · rintro ds mu Qd ⟨F, M, rfl, _⟩; rfl
  · rintro ds mu Qd ⟨F, M, rfl, h, m0, m1, hq⟩
    refine put_e ?_; intro δ1 e; rw [st__law_spots] at e; subst e
    have bM : Bn 4 M := Bn.of_le (k := 6) (by omega) (by decide)
    have ba := h.bn.a
    have bb := h.bn.b
    have bc := h.bn.c
    have bd := h.bn.d
    have be := h.bn.e
    have bf := h.bn.f
    have bs : Bn 100 (disc F) := (bn_disc h.bn).mono (by decide)
    repeat walk_at "st"
    refine ⟨h.bn.mono (by decide), ?_⟩
    have s0 := h.po.s
    repeat walk_at "st"
    refine ⟨Bn.cdiv s0 (n := 5000) (Bn.mono (n := 5000) (by walk_at "bn") (by decide)) (by decide), ?_⟩
    repeat walk_at "st"
    have qx := quo_le m0 m1 h.dee.1 h.dee.2 s0
    have qy := quo_le m0 m1 h.cee.1 h.cee.2 s0
    have qz := quo_le m0 m1 h.wid.1 h.wid.2 s0
    refine ⟨qx.1, by have := qx.2; unfold K77.dee at this; omega, ?_⟩
    repeat walk_at "st"
    refine ⟨Bn.cdiv s0 (n := 5000) (Bn.mono (n := 5000) (by walk_at "bn") (by decide)) (by decide), ?_⟩
    repeat walk_at "st"
    refine ⟨qy.1, by have := qy.2; unfold K77.cee at this; omega, ?_⟩
    repeat walk_at "st"
    refine ⟨Bn.cdiv s0 (n := 5000) (Bn.mono (n := 5000) (by walk_at "bn") (by decide)) (by decide), ?_⟩
    repeat walk_at "st"
    refine ⟨qz.1, by have := qz.2; unfold K77.wid at this; omega, ?_⟩
    repeat walk_at "st"
    have X1 := isq29 qx.1 qx.2
    have Y1 := isq29 qy.1 qy.2
    have Z1 := isq29 qz.1 qz.2
    have hin : ∀ p, val F p ≤ M → (-isq (M * dee F / disc F) ≤ p.x ∧ p.x ≤ isq (M * dee F / disc F)) ∧ (-isq (M * cee F / disc F) ≤ p.y ∧ p.y ≤ isq (M * cee F / disc F)) ∧ (-isq (M * wid F / disc F) ≤ p.z ∧ p.z ≤ isq (M * wid F / disc F)) := fun p v => ⟨x_in h.po m0 v, y_in h.po m0 v, z_in h.po m0 v⟩
    rw [show M * (4 * F.b * F.c - F.d * F.d) / disc F = M * dee F / disc F from rfl, show M * (4 * F.a * F.c - F.e * F.e) / disc F = M * cee F / disc F from rfl, show M * (4 * F.a * F.b - F.f * F.f) / disc F = M * wid F / disc F from rfl]
    generalize isq (M * dee F / disc F) = X at X1 hin ⊢
    generalize isq (M * cee F / disc F) = Y at Y1 hin ⊢
    generalize isq (M * wid F / disc F) = Z at Z1 hin ⊢
    obtain ⟨X0, X1⟩ := X1
    obtain ⟨Y0, Y1⟩ := Y1
    obtain ⟨Z0, Z1⟩ := Z1
    have iR : ∀ {i : Int}, -100 ≤ i → i ≤ 100 → inR i := fun {i} a b => ⟨by omega, by omega⟩
    repeat walk_at "st"
    refine ⟨Nat.zero_le _, ?_⟩
    repeat walk_at "st"
    refine ⟨iR (by omega) (by omega), iR (by omega) (by omega), ?_⟩
    rw [show (X + 1 - (0 - X)).toNat = (2 * X + 1).toNat by omega]
    refine ⟨fun i δ mu1 => mu1 = mu ∧ ∃ (L : List Pt) (o13 o14 o15 : Option D), δ = [some F.D, some (D.int M), some (D.int F.a), some (D.int F.b), some (D.int F.c), some (D.int F.d), some (D.int F.e), some (D.int F.f), some (D.int (disc F)), some (D.int X), some (D.int Y), some (D.int Z), some (D.lst (L.map Pt.D)), o13, o14, o15, none, none] ∧
      (∀ p, p ∈ L ↔ val F p ≤ M ∧ p.x < 0 - X + (i : Int)) ∧ L.length ≤ i * 3721, ⟨rfl, [], none, none, none, rfl, ?p0, Nat.zero_le _⟩, fun i δ mu1 hi hP => ?p1, fun δ mu1 hP => ?p2⟩
    case p0 =>
      intro p
      constructor
      · intro z; cases z
      · intro ⟨v, z⟩; have := (hin p v).1.1; omega
    case p2 =>
      obtain ⟨rfl, L, o13, o14, o15, rfl, hL, hl⟩ := hP
      repeat walk_at "st"
      refine end_ok (pureAll_pts L) (hq L (fun p => ?_) (by omega))
      rw [hL p]
      constructor
      · intro z; exact z.1
      · intro v; exact ⟨v, by have := (hin p v).1.2; omega⟩
    case p1 =>
      obtain ⟨rfl, L, o13, o14, o15, rfl, hL, hl⟩ := hP
      have hiX : (i : Int) < 2 * X + 1 := by omega
      repeat walk_at "st"
      refine ⟨iR (by omega) (by omega), iR (by omega) (by omega), ?_⟩
      rw [show (Y + 1 - (0 - Y)).toNat = (2 * Y + 1).toNat by omega]
      refine ⟨fun j δ mu2 => mu2 = mu1 ∧ ∃ (L : List Pt) (o14 o15 : Option D), δ = [some F.D, some (D.int M), some (D.int F.a), some (D.int F.b), some (D.int F.c), some (D.int F.d), some (D.int F.e), some (D.int F.f), some (D.int (disc F)), some (D.int X), some (D.int Y), some (D.int Z), some (D.lst (L.map Pt.D)), some (D.int (0 - X + (i : Int))), o14, o15, none, none] ∧
        (∀ p, p ∈ L ↔ val F p ≤ M ∧ (p.x < 0 - X + (i : Int) ∨ (p.x = 0 - X + (i : Int) ∧ p.y < 0 - Y + (j : Int)))) ∧ L.length ≤ i * 3721 + j * 61, ⟨rfl, L, _, _, rfl, ?r0, by omega⟩, fun j δ mu2 hj hP => ?r1, fun δ mu2 hP => ?r2⟩
      case r0 =>
        intro p
        rw [hL p]
        constructor
        · intro ⟨v, z⟩; exact ⟨v, .inl z⟩
        · intro ⟨v, z⟩; exact ⟨v, by have := (hin p v).2.1; omega⟩
      case r2 =>
        obtain ⟨rfl, L, o14, o15, rfl, hL, hl⟩ := hP
        refine ⟨rfl, L, _, _, _, rfl, fun p => ?_, ?_⟩
        · rw [hL p]
          constructor
          · intro ⟨v, z⟩; exact ⟨v, by omega⟩
          · intro ⟨v, z⟩; exact ⟨v, by have := (hin p v).2.1; omega⟩
        · rw [Nat.add_mul]
          have : (2 * Y + 1).toNat ≤ 61 := by omega
          have := Nat.mul_le_mul_right 61 this
          omega
      case r1 =>
        obtain ⟨rfl, L, o14, o15, rfl, hL, hl⟩ := hP
        repeat walk_at "st"
        refine ⟨iR (by omega) (by omega), iR (by omega) (by omega), ?_⟩
        rw [show (Z + 1 - (0 - Z)).toNat = (2 * Z + 1).toNat by omega]
        have hn : (2 * Z + 1).toNat ≤ 61 := by omega
        refine lc_fm (fun t : Nat => D.int (0 - Z + (t : Int))) (List.range (2 * Z + 1).toNat) (fun t => some (⟨0 - X + (i : Int), 0 - Y + (j : Int), 0 - Z + (t : Int)⟩ : Pt).D) (fun t ht R N hR hN => ?_) (by rw [List.length_range]; exact Nat.le_trans hn (by decide)) (fun t ht y hy => by cases hy; rfl) ?_
        · repeat walk_at "st"
          exact ⟨three, hR _ rfl⟩
        rw [fm_some (fun t : Nat => (⟨0 - X + (i : Int), 0 - Y + (j : Int), 0 - Z + (t : Int)⟩ : Pt).D), show List.map (fun t : Nat => (⟨0 - X + (i : Int), 0 - Y + (j : Int), 0 - Z + (t : Int)⟩ : Pt).D) (List.range (2 * Z + 1).toNat) = List.map Pt.D (List.map (fun t : Nat => (⟨0 - X + (i : Int), 0 - Y + (j : Int), 0 - Z + (t : Int)⟩ : Pt)) (List.range (2 * Z + 1).toNat)) by rw [List.map_map]; rfl]
        generalize hS : List.map (fun t : Nat => (⟨0 - X + (i : Int), 0 - Y + (j : Int), 0 - Z + (t : Int)⟩ : Pt)) (List.range (2 * Z + 1).toNat) = S
        have lS : S.length ≤ 61 := by rw [← hS, List.length_map, List.length_range]; exact hn
        have mS : ∀ p : Pt, p ∈ S ↔ p.x = 0 - X + (i : Int) ∧ p.y = 0 - Y + (j : Int) ∧ -Z ≤ p.z ∧ p.z ≤ Z := fun p => by
          rw [← hS, List.mem_map]
          constructor
          · rintro ⟨t, ht, rfl⟩
            rw [List.mem_range] at ht
            exact ⟨rfl, rfl, by simp only; omega, by simp only; omega⟩
          · intro ⟨h1, h2, h3, h4⟩
            refine ⟨(p.z + Z).toNat, by rw [List.mem_range]; omega, ?_⟩
            obtain ⟨x, y, z⟩ := p
            simp only [Pt.mk.injEq] at *
            exact ⟨h1.symm, h2.symm, by omega⟩
        repeat walk_at "st"
        refine lc_fm Pt.D S (fun p => if val F p ≤ M then some p.D else none) (fun p hp R N hR hN => ?_) (Nat.le_trans lS (by decide)) (fun p hp y hy => ?_) ?_
        · have bp : Bn3 20 p.x p.y p.z := by
            have := (mS p).mp hp
            exact ⟨.of_le (k := 100) (by omega) (by decide), .of_le (k := 100) (by omega) (by decide), .of_le (k := 100) (by omega) (by decide)⟩
          repeat walk_at "st"
          walk_at "ph"
          refine in__law_value h.bn bp ?_
          repeat walk_at "st"
          by_cases hv : val F p ≤ M
          · exact if_t (decide_eq_true hv) ⟨_, rfl, hR _ (if_pos hv)⟩
          · exact if_f (decide_eq_false hv) (hN (if_neg hv))
        · split at hy
          · cases hy; rfl
          · cases hy
        rw [fm_if (fun p => val F p ≤ M) Pt.D S]
        have lF : (List.filter (fun p => decide (val F p ≤ M)) S).length ≤ 61 := Nat.le_trans (List.length_filter_le _ _) lS
        refine ⟨_, _, rfl, rfl, ?_, ?_⟩
        · rw [List.length_map, List.length_map]
          exact Nat.le_trans (by omega : _ ≤ 16000000) (by decide)
        refine put_e ?_
        intro δ1 e
        simp only [List.set_cons_zero, List.set_cons_succ] at e
        subst e
        refine ⟨rfl, L ++ List.filter (fun p => decide (val F p ≤ M)) S, _, _, by rw [List.map_append], fun p => ?_, ?_⟩
        · rw [List.mem_append, List.mem_filter, hL p, mS p, decide_eq_true_eq]
          constructor
          · rintro (⟨v, z⟩ | ⟨⟨z1, z2, z3, z4⟩, v⟩)
            · exact ⟨v, by omega⟩
            · exact ⟨v, by omega⟩
          · intro ⟨v, z⟩
            have := (hin p v).2.2
            by_cases q : p.x < 0 - X + (i : Int) ∨ p.x = 0 - X + (i : Int) ∧ p.y < 0 - Y + (j : Int)
            · exact .inl ⟨v, q⟩
            · exact .inr ⟨⟨by omega, by omega, this.1, this.2⟩, v⟩
        · rw [List.length_append]
          omega
end
end K77
end
section
namespace K77
open PySem PySem.Spec PyProof.Rows L2 DL
local macro_rules | `(tactic| walk_at "bn") => `(tactic| first
  | assumption
  | (apply Bn.add <;> walk_at "bn")
  | (apply Bn.sub <;> walk_at "bn")
  | (apply Bn.mul <;> walk_at "bn")
  | (apply Bn.neg; walk_at "bn")
  | exact Bn.lit (by decide))
local macro_rules | `(tactic| walk_at "cm") => `(tactic| (apply Bn.cmul; (focus walk_at "bn"); (focus walk_at "bn"); (focus decide)))
local macro_rules | `(tactic| walk_at "st") => `(tactic| first
  | (refine put_e ?_; intro δ1 e; simp only [List.set_cons_zero, List.set_cons_succ, wipeD, List.map_cons, List.map_nil] at e; subst e)
  | refine ⟨_, rfl, ?_⟩
  | (refine ⟨_, _, rfl, rfl, ?cm, ?_⟩; (case cm => walk_at "cm"))
  | refine ⟨_, _, rfl, rfl, ?_⟩
  | refine ⟨_, rfl, rfl, ?_⟩
  | refine ⟨_, _, rfl, ?_⟩
  | refine ⟨_, _, _, rfl, ?_⟩
  | refine ⟨_, _, .inl rfl, ?_⟩
  | refine ⟨_, .inl rfl, ?_⟩
  | refine ⟨_, .inr rfl, ?_⟩
  | refine ⟨rfl, ?_⟩
  | refine ⟨_, _, _, rfl, rfl, rfl, ?_⟩
  | refine if_t rfl ?_
  | refine if_f rfl ?_)
local macro_rules | `(tactic| walk_at "ph") => `(tactic| ((try unfold aNil); (try dsimp only)))
local macro_rules | `(tactic| walk_at "ph2") => `(tactic| (dsimp only [aNil, aCons, dC]))
section
variable {P : Program} {w : World} {K : PySem.W.Frag} {mg : Str → Option Value} {base : Heap} {T : List (Addr × Str)}
def Ph__law_joined : PhiD := fun ds mu Q => ∃ s t : Tb, ds = [s.D, t.D] ∧ Bd 9000 s ∧ Bd 9000 t ∧ Q (mulT s t).D mu
theorem ok__law_joined (A : Al K mg base T) : FnOk P w K mg base CX0 2 A.f__law_joined A.fd__law_joined ["_law_one", "_law_other"] (spD K T Ph__law_joined) := by
  refine fn_d A.F__law_joined sc__law_joined ?len (fun cdv Ar outer s H E hr => (ssd_one (sd_ret (ed_callTy rc_tuple call_tuple_of (by rfl) A.z_tuple (by decide +kernel) (ad_cons (ed_lc rfl sc__law_joined.nd (id_tup (ed_var 0 (pv 0))) (blkOk_by (own := [("_law_row", 2)]) (N := N__law_joined) (sc := defScope s__law_joined) (by decide +kernel)) (cg_name 2) (fun _ _ _ _ _ => (pg_name (i := 2) sc__law_joined.nd rfl (.inr rfl))) (fun _ _ _ _ _ => pts_yes) (fun _ _ _ _ _ => (ed_callTy rc_tuple call_tuple_of (by rfl) A.z_tuple (by decide +kernel) (ad_cons (ed_lc rfl sc__law_joined.nd (id_list (ed_call (ok__law_columns A) hr rfl A.g__law_columns A.F__law_columns.kp A.b__law_columns (ad_cons (ed_var 1 (pv 1)) ad_nil))) (blkOk_in (own := [("_law_column", 3)]) (N := N__law_joined) rfl (sc0 := defScope s__law_joined) rfl (by decide +kernel)) (cg_name 3) (fun _ _ _ _ _ => (pg_name (i := 3) sc__law_joined.nd rfl (.inl rfl))) (fun _ _ _ _ _ => pts_yes) (fun _ _ _ _ _ => (ed_callB rc_sum (cr_sum rfl) (by rfl) A.z_sum (by decide +kernel) (ad_cons (ed_lc rfl sc__law_joined.nd (id_zip rfl A.z_zip (ad_cons (ed_var 2 (pv 2)) (ad_cons (ed_var 3 (pv 3)) ad_nil))) (blkOk_in (own := [("_law_x", 4), ("_law_y", 5)]) (N := N__law_joined) rfl (sc0 := relS _ (defScope s__law_joined)) rfl (by decide +kernel)) (cg_pair 4 5) (fun _ _ _ _ _ => (pg_tup rfl (pgs_cons (pg_name (i := 4) sc__law_joined.nd rfl (.inl rfl)) (pgs_cons (pg_name (i := 5) sc__law_joined.nd rfl (.inl rfl)) pgs_nil)))) (fun _ _ _ _ _ => pts_yes) (fun _ _ _ _ _ => (ed_op op_mulW od_I (ed_var 4 (pv 4)) (ed_var 5 (pv 5))))) ad_nil)))) ad_nil)))) ad_nil))))) ?rd
  · rintro ds mu Qd ⟨s, t, rfl, _⟩; rfl
  · rintro ds mu Qd ⟨s, t, rfl, bs, bt, hq⟩
    refine put_e ?_; intro δ1 e; rw [st__law_joined] at e; subst e
    have bt' := bt.tr
    repeat walk_at "st"
    refine lc_fix [(mulT s t).u.D, (mulT s t).v.D, (mulT s t).w.D] ?_ three rfl ?_
    · refine ⟨?_, ?_, ?_, trivial⟩
      · intro R N hR
        repeat walk_at "st"
        refine lc_fix [.int (mulT s t).u.x, .int (mulT s t).u.y, .int (mulT s t).u.z] ?_ three rfl ?_
        · refine ⟨?_, ?_, ?_, trivial⟩
          · intro R N hR
            have b1 := bs.u.x
            have b2 := bs.u.y
            have b3 := bs.u.z
            have b4 := bt'.u.x
            have b5 := bt'.u.y
            have b6 := bt'.u.z
            repeat walk_at "st"
            refine lc_fix [.int (s.u.x * (tr t).u.x), .int (s.u.y * (tr t).u.y), .int (s.u.z * (tr t).u.z)] ?_ three rfl ?_
            · refine ⟨?_, ?_, ?_, trivial⟩ <;> (intro R N hR; repeat walk_at "st") <;> exact hR
            refine ⟨[s.u.x * (tr t).u.x, s.u.y * (tr t).u.y, s.u.z * (tr t).u.z], rfl, ?_⟩
            rw [sum3]
            exact hR
          · intro R N hR
            have b1 := bs.u.x
            have b2 := bs.u.y
            have b3 := bs.u.z
            have b4 := bt'.v.x
            have b5 := bt'.v.y
            have b6 := bt'.v.z
            repeat walk_at "st"
            refine lc_fix [.int (s.u.x * (tr t).v.x), .int (s.u.y * (tr t).v.y), .int (s.u.z * (tr t).v.z)] ?_ three rfl ?_
            · refine ⟨?_, ?_, ?_, trivial⟩ <;> (intro R N hR; repeat walk_at "st") <;> exact hR
            refine ⟨[s.u.x * (tr t).v.x, s.u.y * (tr t).v.y, s.u.z * (tr t).v.z], rfl, ?_⟩
            rw [sum3]
            exact hR
          · intro R N hR
            have b1 := bs.u.x
            have b2 := bs.u.y
            have b3 := bs.u.z
            have b4 := bt'.w.x
            have b5 := bt'.w.y
            have b6 := bt'.w.z
            repeat walk_at "st"
            refine lc_fix [.int (s.u.x * (tr t).w.x), .int (s.u.y * (tr t).w.y), .int (s.u.z * (tr t).w.z)] ?_ three rfl ?_
            · refine ⟨?_, ?_, ?_, trivial⟩ <;> (intro R N hR; repeat walk_at "st") <;> exact hR
            refine ⟨[s.u.x * (tr t).w.x, s.u.y * (tr t).w.y, s.u.z * (tr t).w.z], rfl, ?_⟩
            rw [sum3]
            exact hR
        repeat walk_at "st"
        exact hR
      · intro R N hR
        repeat walk_at "st"
        refine lc_fix [.int (mulT s t).v.x, .int (mulT s t).v.y, .int (mulT s t).v.z] ?_ three rfl ?_
        · refine ⟨?_, ?_, ?_, trivial⟩
          · intro R N hR
            have b1 := bs.v.x
            have b2 := bs.v.y
            have b3 := bs.v.z
            have b4 := bt'.u.x
            have b5 := bt'.u.y
            have b6 := bt'.u.z
            repeat walk_at "st"
            refine lc_fix [.int (s.v.x * (tr t).u.x), .int (s.v.y * (tr t).u.y), .int (s.v.z * (tr t).u.z)] ?_ three rfl ?_
            · refine ⟨?_, ?_, ?_, trivial⟩ <;> (intro R N hR; repeat walk_at "st") <;> exact hR
            refine ⟨[s.v.x * (tr t).u.x, s.v.y * (tr t).u.y, s.v.z * (tr t).u.z], rfl, ?_⟩
            rw [sum3]
            exact hR
          · intro R N hR
            have b1 := bs.v.x
            have b2 := bs.v.y
            have b3 := bs.v.z
            have b4 := bt'.v.x
            have b5 := bt'.v.y
            have b6 := bt'.v.z
            repeat walk_at "st"
            refine lc_fix [.int (s.v.x * (tr t).v.x), .int (s.v.y * (tr t).v.y), .int (s.v.z * (tr t).v.z)] ?_ three rfl ?_
            · refine ⟨?_, ?_, ?_, trivial⟩ <;> (intro R N hR; repeat walk_at "st") <;> exact hR
            refine ⟨[s.v.x * (tr t).v.x, s.v.y * (tr t).v.y, s.v.z * (tr t).v.z], rfl, ?_⟩
            rw [sum3]
            exact hR
          · intro R N hR
            have b1 := bs.v.x
            have b2 := bs.v.y
            have b3 := bs.v.z
            have b4 := bt'.w.x
            have b5 := bt'.w.y
            have b6 := bt'.w.z
            repeat walk_at "st"
            refine lc_fix [.int (s.v.x * (tr t).w.x), .int (s.v.y * (tr t).w.y), .int (s.v.z * (tr t).w.z)] ?_ three rfl ?_
            · refine ⟨?_, ?_, ?_, trivial⟩ <;> (intro R N hR; repeat walk_at "st") <;> exact hR
            refine ⟨[s.v.x * (tr t).w.x, s.v.y * (tr t).w.y, s.v.z * (tr t).w.z], rfl, ?_⟩
            rw [sum3]
            exact hR
        repeat walk_at "st"
        exact hR
      · intro R N hR
        repeat walk_at "st"
        refine lc_fix [.int (mulT s t).w.x, .int (mulT s t).w.y, .int (mulT s t).w.z] ?_ three rfl ?_
        · refine ⟨?_, ?_, ?_, trivial⟩
          · intro R N hR
            have b1 := bs.w.x
            have b2 := bs.w.y
            have b3 := bs.w.z
            have b4 := bt'.u.x
            have b5 := bt'.u.y
            have b6 := bt'.u.z
            repeat walk_at "st"
            refine lc_fix [.int (s.w.x * (tr t).u.x), .int (s.w.y * (tr t).u.y), .int (s.w.z * (tr t).u.z)] ?_ three rfl ?_
            · refine ⟨?_, ?_, ?_, trivial⟩ <;> (intro R N hR; repeat walk_at "st") <;> exact hR
            refine ⟨[s.w.x * (tr t).u.x, s.w.y * (tr t).u.y, s.w.z * (tr t).u.z], rfl, ?_⟩
            rw [sum3]
            exact hR
          · intro R N hR
            have b1 := bs.w.x
            have b2 := bs.w.y
            have b3 := bs.w.z
            have b4 := bt'.v.x
            have b5 := bt'.v.y
            have b6 := bt'.v.z
            repeat walk_at "st"
            refine lc_fix [.int (s.w.x * (tr t).v.x), .int (s.w.y * (tr t).v.y), .int (s.w.z * (tr t).v.z)] ?_ three rfl ?_
            · refine ⟨?_, ?_, ?_, trivial⟩ <;> (intro R N hR; repeat walk_at "st") <;> exact hR
            refine ⟨[s.w.x * (tr t).v.x, s.w.y * (tr t).v.y, s.w.z * (tr t).v.z], rfl, ?_⟩
            rw [sum3]
            exact hR
          · intro R N hR
            have b1 := bs.w.x
            have b2 := bs.w.y
            have b3 := bs.w.z
            have b4 := bt'.w.x
            have b5 := bt'.w.y
            have b6 := bt'.w.z
            repeat walk_at "st"
            refine lc_fix [.int (s.w.x * (tr t).w.x), .int (s.w.y * (tr t).w.y), .int (s.w.z * (tr t).w.z)] ?_ three rfl ?_
            · refine ⟨?_, ?_, ?_, trivial⟩ <;> (intro R N hR; repeat walk_at "st") <;> exact hR
            refine ⟨[s.w.x * (tr t).w.x, s.w.y * (tr t).w.y, s.w.z * (tr t).w.z], rfl, ?_⟩
            rw [sum3]
            exact hR
        repeat walk_at "st"
        exact hR
    repeat walk_at "st"
    exact end_ok rfl hq
/-- what may be compared -/
def lay (d : D) : Prop := DL.pure d = true ∧ PyData.canLay0 (toP d) = true ∧ (toP d).depth ≤ 50
theorem lay_mem : ∀ {es : List D} {x : D}, lay (.tup es) → x ∈ es → lay x
  | [], x, _, h => nomatch h
  | y :: es, x, ⟨h1, h2, h3⟩, h => by
    have h1' : DL.pure y = true ∧ pureAll es = true := Bool.and_eq_true_iff.mp h1
    have h2' : PyData.canLay0 (toP y) = true ∧ PyData.canLayAll0 (toPs es) = true := Bool.and_eq_true_iff.mp h2
    have h3' : max (toP y).depth (PyData.depthAll (toPs es)) + 1 ≤ 50 := h3
    rcases List.mem_cons.mp h with rfl | h
    · exact ⟨h1'.1, h2'.1, by omega⟩
    · exact lay_mem (es := es) ⟨h1'.2, h2'.2, show PyData.depthAll (toPs es) + 1 ≤ 50 by omega⟩ h
theorem lay_all_pure : ∀ {L : List D}, (∀ d ∈ L, lay d) → pureAll L = true
  | [], _ => rfl
  | d :: L, h => by
    show (DL.pure d && pureAll L) = true
    rw [(h d (by simp)).1, lay_all_pure fun x hx => h x (by simp [hx])]; rfl
theorem lay_shaped {L : List D} (h : ∀ d ∈ L, lay d) : SeqAt.shaped (toP (.lst L)) = true := shaped_lst fun d hd => ⟨(h d hd).2.1, Nat.le_trans (h d hd).2.2 (by decide)⟩
def r3 : D → Bool
  | .tup [_, _, _] => true
  | _ => false
theorem r3_yes {d : D} (h : r3 d = true) : ∃ x y z, d = .tup [x, y, z] := by
  unfold r3 at h
  split at h
  · exact ⟨_, _, _, rfl⟩
  · cases h
theorem r3_no {d : D} (h : ∀ x y z, d ≠ .tup [x, y, z]) : r3 d = false := by
  cases e : r3 d with
  | false => rfl
  | true => obtain ⟨x, y, z, e⟩ := r3_yes e; exact absurd e (h x y z)
/-- those of a list that fail are none -/
theorem bad_none {c : D → Bool} {l : List D} : (l.filterMap fun r => if c r = true then none else some r).isEmpty = l.all c := by
  induction l with
  | nil => rfl
  | cons x l ih =>
    rw [List.filterMap_cons, List.all_cons]
    cases h : c x with
    | true => simpa using ih
    | false => simp
theorem bad_lay {c : D → Bool} {l : List D} (h : ∀ x ∈ l, lay x) : ∀ x ∈ l.filterMap (fun r => if c r = true then none else some r), lay x := fun x hx => by
  obtain ⟨a, ha, e⟩ := List.mem_filterMap.mp hx
  split at e
  · cases e
  · cases e; exact h _ ha
def Ph__law_is_lead : PhiD := fun ds mu Q => ∃ (F G : Fm) (d : D), ds = [F.D, G.D, d] ∧ Bn6 9000 F.a F.b F.c F.d F.e F.f ∧ lay d ∧ toldT d = true ∧ (∀ t : Tb, d = t.D → Bd 9000 t) ∧ ∀ b : Bool, (b = true ↔ ∃ t : Tb, d = t.D ∧ Leads F G (tr t)) → Q (.bl b) mu
theorem ok__law_is_lead (A : Al K mg base T) : FnOk P w K mg base CX0 4 A.f__law_is_lead A.fd__law_is_lead ["_law_one", "_law_other", "_law_value_here"] (spD K T Ph__law_is_lead) := by
  refine fn_d A.F__law_is_lead sc__law_is_lead ?len (fun cdv Ar outer s H E hr => (ssd_cons (sd_if (td_w (wd_or (td_not (td_val (ed_isi (.inr (.inr rfl)) rfl A.z_isinstance (by decide +kernel) (ed_var 2 (pv 2)) (pe_bltn rfl A.z_tuple (by decide +kernel) rfl)))) (wd_one (.inr rfl) (td_cmp op_ne od_ne (ed_callB rc_len call_len_seq (by rfl) A.z_len (by decide +kernel) (ad_cons (ed_var 2 (pv 2)) ad_nil)) ed_int (nomark _))))) (ssd_one (sd_ret ed_bl)) ssd_nil)
    (ssd_cons (sd_if (td_cmp (op_neD hr.units) od_neD (ed_lc rfl sc__law_is_lead.nd (id_tup (ed_var 2 (pv 2))) (blkOk_by (own := [("_law_row", 3)]) (N := N__law_is_lead) (sc := defScope s__law_is_lead) (by decide +kernel)) (cg_name 3) (fun _ _ _ _ _ => (pg_name (i := 3) sc__law_is_lead.nd rfl (.inl rfl))) (fun _ _ _ _ _ => (pts_one (td_w (wd_or (td_not (td_val (ed_isi (.inr (.inr rfl)) rfl A.z_isinstance (by decide +kernel) (ed_var 3 (pv 3)) (pe_bltn rfl A.z_tuple (by decide +kernel) rfl)))) (wd_one (.inr rfl) (td_cmp op_ne od_ne (ed_callB rc_len call_len_seq (by rfl) A.z_len (by decide +kernel) (ad_cons (ed_var 3 (pv 3)) ad_nil)) ed_int (nomark _))))))) (fun _ _ _ _ _ => (ed_var 3 (pv 3)))) (ed_lst ad_nil) (nomark _)) (ssd_one (sd_ret ed_bl)) ssd_nil)
    (ssd_cons (sd_forT PassesOwn.never rfl sc__law_is_lead.nd (j := 3) rfl (.inl rfl) (ed_var 2 (pv 2)) (ssd_one (sd_if (td_cmp (op_neD hr.units) od_neD (ed_lc rfl sc__law_is_lead.nd (id_tup (ed_var 3 (pv 3))) (blkOk_by (own := [("_law_x", 4)]) (N := N__law_is_lead) (sc := defScope s__law_is_lead) (by decide +kernel)) (cg_name 4) (fun _ _ _ _ _ => (pg_name (i := 4) sc__law_is_lead.nd rfl (.inl rfl))) (fun _ _ _ _ _ => (pts_one (td_not (td_val (ed_call (ok__law_is_whole A) (hr.mono (by decide)) rfl A.g__law_is_whole A.F__law_is_whole.kp A.b__law_is_whole (ad_cons (ed_var 4 (pv 4)) ad_nil)))))) (fun _ _ _ _ _ => (ed_var 4 (pv 4)))) (ed_lst ad_nil) (nomark _)) (ssd_one (sd_ret ed_bl)) ssd_nil)))
    (ssd_one (sd_ret (ed_and (ed_cmp op_eq od_eq (ed_call (ok__law_deciding A) (hr.mono (by decide)) rfl A.g__law_deciding A.F__law_deciding.kp A.b__law_deciding (ad_cons (ed_var 2 (pv 2)) ad_nil)) ed_int (nomark _)) (ed_one (ed_cmp (op_eqD hr.units) od_eqD (ed_call (ok__law_led_form A) hr rfl A.g__law_led_form A.F__law_led_form.kp A.b__law_led_form (ad_cons (ed_var 0 (pv 0)) (ad_cons (ed_var 2 (pv 2)) ad_nil))) (ed_var 1 (pv 1)) (nomark _)))))))))) ?rd
  · rintro ds mu Qd ⟨F, G, d, rfl, _⟩; rfl
  · rintro ds mu Qd ⟨F, G, d, rfl, bF, hy, ht, hb, hq⟩
    refine put_e ?_; intro δ1 e; rw [st__law_is_lead] at e; subst e
    have no : isTb d = false → (endsD mu Qd).rt (.bl false) mu := fun e => end_ok rfl (hq _ ⟨(fun h => nomatch h), fun ⟨t, h, _⟩ => by rw [h, tb_is] at e; cases e⟩)
    repeat walk_at "st"
    rcases is_tup d with ⟨es, rfl⟩ | hn
    · repeat walk_at "st"
      rcases len3 es with ⟨x, y, z, rfl⟩ | hl
      · repeat walk_at "st"
        refine lc_fm (fun x : D => x) [x, y, z] (fun r => if r3 r = true then none else some r) (fun r hr R N hR hN => ?_) three (fun r hr u hu => ?_) ?_
        · have tr : toldA r = true := List.all_eq_true.mp ht r hr
          repeat walk_at "st"
          rcases is_tup r with ⟨fs, rfl⟩ | hn
          · refine ⟨true, rfl, true, rfl, ?_⟩
            refine if_f rfl ?_
            repeat walk_at "st"
            rcases len3 fs with ⟨u, v, w', rfl⟩ | hl
            · exact if_f rfl (hN rfl)
            · refine if_t (by rw [ne3 hl]; rfl) ?_
              have e3 : r3 (.tup fs) = false := r3_no fun x y z e => hl (by cases e; rfl)
              exact ⟨_, rfl, hR _ (by rw [e3]; rfl)⟩
          · refine ⟨false, notup (told_of tr) hn, false, rfl, ?_⟩
            refine if_t rfl ?_
            refine if_t rfl ?_
            have e3 : r3 r = false := r3_no fun x y z => hn _
            exact ⟨_, rfl, hR _ (by rw [e3]; rfl)⟩
        · split at hu
          · cases hu
          · cases hu; exact (lay_mem hy hr).1
        have lB : ∀ r ∈ [x, y, z].filterMap (fun r => if r3 r = true then none else some r), lay r := bad_lay fun r hr => lay_mem hy hr
        have eB := bad_none (c := r3) (l := [x, y, z])
        generalize [x, y, z].filterMap (fun r => if r3 r = true then none else some r) = L at lB eB ⊢
        repeat walk_at "st"
        refine ⟨Nat.zero_le _, ?_⟩
        refine ⟨lay_all_pure lB, rfl, lay_shaped lB, rfl, _, rfl, ?_⟩
        rw [eqv_nil, eB]
        have er : ∀ r, isRow r = true → r3 r = true := fun r h => by obtain ⟨p, rfl⟩ := row_yes h; rfl
        have et : isTb (.tup [x, y, z]) = (isRow x && (isRow y && isRow z)) := rfl
        have ea : [x, y, z].all r3 = (r3 x && (r3 y && (r3 z && true))) := rfl
        cases hB : [x, y, z].all r3 with
        | false =>
          refine if_t rfl ?_
          refine no ?_
          cases q : isTb (.tup [x, y, z]) with
          | false => rfl
          | true =>
            rw [et, Bool.and_eq_true, Bool.and_eq_true] at q
            rw [ea, er x q.1, er y q.2.1, er z q.2.2] at hB
            cases hB
        | true =>
          refine if_f rfl ?_
          repeat walk_at "st"
          refine over_all (l := [x, y, z]) (emb := fun x => x) (fun δ => ∃ o3, δ = [some F.D, some G.D, some (D.tup [x, y, z]), o3, none]) (fun r => isRow r = true) ⟨_, rfl⟩ (fun r hr R hR δ hδ => ?_) fun δ hδ hno => ?_
          · obtain ⟨o3, rfl⟩ := hδ
            obtain ⟨u, v, w', rfl⟩ := r3_yes (List.all_eq_true.mp hB r hr)
            have tr : toldA (.tup [u, v, w']) = true := List.all_eq_true.mp ht _ hr
            have ly := lay_mem hy hr
            repeat walk_at "st"
            refine lc_fm (fun x : D => x) [u, v, w'] (fun r => if isW r = true then none else some r) (fun e he R N hR hN => ?_) three (fun e he q hq => ?_) ?_
            · have te : told e = true := List.all_eq_true.mp tr e he
              repeat walk_at "st"
              refine ⟨te, ?_⟩
              repeat walk_at "st"
              cases hw : isW e with
              | true => exact if_f rfl (hN (if_pos hw))
              | false => exact if_t rfl ⟨_, rfl, hR _ (if_neg (by rw [hw]; exact Bool.false_ne_true))⟩
            · split at hq
              · cases hq
              · cases hq; exact (lay_mem ly he).1
            have lC : ∀ r ∈ [u, v, w'].filterMap (fun r => if isW r = true then none else some r), lay r := bad_lay fun r hr => lay_mem ly hr
            have eC := bad_none (c := isW) (l := [u, v, w'])
            generalize [u, v, w'].filterMap (fun r => if isW r = true then none else some r) = L2 at lC eC ⊢
            repeat walk_at "st"
            refine ⟨Nat.zero_le _, ?_⟩
            refine ⟨lay_all_pure lC, rfl, lay_shaped lC, rfl, _, rfl, ?_⟩
            rw [eqv_nil, eC]
            have ew : isRow (.tup [u, v, w']) = [u, v, w'].all isW := by simp [isRow]
            cases hC : [u, v, w'].all isW with
            | false =>
              refine if_t rfl ?_
              refine no ?_
              rw [hC] at ew
              rw [et]
              rcases List.mem_cons.mp hr with rfl | hr
              · rw [ew]; rfl
              rcases List.mem_cons.mp hr with rfl | hr
              · rw [ew]; simp
              rw [← List.mem_singleton.mp hr, ew]; simp
            | true =>
              refine if_f rfl ?_
              exact ⟨rfl, ⟨_, rfl⟩, hR (by rw [ew, hC])⟩
          · obtain ⟨o3, rfl⟩ := hδ
            have hT : isTb (.tup [x, y, z]) = true := by
              rw [et, hno x (by simp), hno y (by simp), hno z (by simp)]; rfl
            obtain ⟨t, e⟩ := tb_yes hT
            have bt := hb t e
            rw [e] at hq ⊢
            clear no
            repeat walk_at "st"
            refine ⟨bt.mono (by decide), ?_⟩
            repeat walk_at "st"
            by_cases hd : det t = 1
            · refine if_t (decide_eq_true hd) ?_
              repeat walk_at "st"
              refine ⟨bF.mono (by decide), bt.mono (by decide), ?_⟩
              repeat walk_at "st"
              rw [eqv_fm]
              refine end_ok rfl (hq _ ?_)
              rw [decide_eq_true_eq]
              constructor
              · intro h; exact ⟨t, rfl, by rw [det_tr]; exact hd, h⟩
              · rintro ⟨s, es, L⟩
                rw [Tb.inj es]
                exact L.2
            · refine if_f (decide_eq_false hd) ?_
              refine end_ok rfl (hq _ ⟨(fun h => nomatch h), ?_⟩)
              rintro ⟨s, es, L⟩
              rw [← Tb.inj es, ] at L
              exact absurd (by rw [← det_tr]; exact L.1) hd
      · refine if_t (by rw [ne3 hl]; rfl) ?_
        refine no ?_
        exact tb_no fun x y z e => hl (by cases e; rfl)
    · refine ⟨false, notup ?_ hn, false, rfl, ?_⟩
      · cases d <;> first | rfl | exact ht | exact absurd rfl (hn _)
      refine if_t rfl ?_
      refine if_t rfl ?_
      exact no (tb_no fun x y z => hn _)
end
end K77
end
section
namespace K77
open PySem PySem.Spec PyProof.Rows L2 DL
local macro_rules | `(tactic| walk_at "bn") => `(tactic| first
  | assumption
  | (apply Bn.add <;> walk_at "bn")
  | (apply Bn.sub <;> walk_at "bn")
  | (apply Bn.mul <;> walk_at "bn")
  | (apply Bn.neg; walk_at "bn")
  | exact Bn.lit (by decide))
local macro_rules | `(tactic| walk_at "cm") => `(tactic| (apply Bn.cmul; (focus walk_at "bn"); (focus walk_at "bn"); (focus decide)))
local macro_rules | `(tactic| walk_at "st") => `(tactic| first
  | (refine put_e ?_; intro δ1 e; simp only [List.set_cons_zero, List.set_cons_succ, wipeD, List.map_cons, List.map_nil] at e; subst e)
  | refine ⟨_, rfl, ?_⟩
  | (refine ⟨_, _, rfl, rfl, ?cm, ?_⟩; (case cm => walk_at "cm"))
  | refine ⟨_, _, rfl, rfl, ?_⟩
  | refine ⟨_, rfl, rfl, ?_⟩
  | refine ⟨_, _, rfl, ?_⟩
  | refine ⟨_, _, _, rfl, ?_⟩
  | refine ⟨_, _, .inl rfl, ?_⟩
  | refine ⟨_, .inl rfl, ?_⟩
  | refine ⟨_, .inr rfl, ?_⟩
  | refine ⟨rfl, ?_⟩
  | refine ⟨_, _, _, rfl, rfl, rfl, ?_⟩
  | refine if_t rfl ?_
  | refine if_f rfl ?_)
local macro_rules | `(tactic| walk_at "ph") => `(tactic| ((try unfold aNil); (try dsimp only)))
local macro_rules | `(tactic| walk_at "ph2") => `(tactic| (dsimp only [aNil, aCons, dC]))
section
variable {P : Program} {w : World} {K : PySem.W.Frag} {mg : Str → Option Value} {base : Heap} {T : List (Addr × Str)}
theorem pt_bn {F : Fm} {p : Pt} {M : Int} (h : Dr F) (m0 : 0 ≤ M) (m1 : M ≤ 6) (v : val F p ≤ M) : Bn3 20 p.x p.y p.z := by
  have qx := quo_le m0 m1 h.dee.1 h.dee.2 h.po.s
  have qy := quo_le m0 m1 h.cee.1 h.cee.2 h.po.s
  have qz := quo_le m0 m1 h.wid.1 h.wid.2 h.po.s
  have X1 := isq29 qx.1 qx.2
  have Y1 := isq29 qy.1 qy.2
  have Z1 := isq29 qz.1 qz.2
  have x := x_in h.po m0 v
  have y := y_in h.po m0 v
  have z := z_in h.po m0 v
  exact ⟨.of_le (k := 100) (by omega) (by decide), .of_le (k := 100) (by omega) (by decide), .of_le (k := 100) (by omega) (by decide)⟩
theorem max_le {i j k : Int} (h1 : 1 ≤ i ∧ i ≤ 6) (h2 : 1 ≤ j ∧ j ≤ 6) (h3 : 1 ≤ k ∧ k ≤ 6) : 0 ≤ maxL3 i j k ∧ maxL3 i j k ≤ 6 ∧ i ≤ maxL3 i j k ∧ j ≤ maxL3 i j k ∧ k ≤ maxL3 i j k := by
  unfold maxL3; omega
def Ph__law_are_alike : PhiD := fun ds mu Q => ∃ (F G : Fm), ds = [F.D, G.D] ∧ Dr F ∧ Dr G ∧ ∀ b : Bool, (b = true ↔ ∃ t, Leads F G t) → Q (.bl b) mu
theorem ok__law_are_alike (A : Al K mg base T) : FnOk P w K mg base CX0 3 A.f__law_are_alike A.fd__law_are_alike ["_law_one", "_law_other"] (spD K T Ph__law_are_alike) := by
  refine fn_d A.F__law_are_alike sc__law_are_alike ?len (fun cdv Ar outer s H E hr => (ssd_cons (sd_if (td_cmp op_ne od_ne (ed_call (ok__law_size A) (hr.mono (by decide)) rfl A.g__law_size A.F__law_size.kp A.b__law_size (ad_cons (ed_var 0 (pv 0)) ad_nil)) (ed_call (ok__law_size A) (hr.mono (by decide)) rfl A.g__law_size A.F__law_size.kp A.b__law_size (ad_cons (ed_var 1 (pv 1)) ad_nil)) (nomark _)) (ssd_one (sd_ret ed_bl)) ssd_nil)
    (ssd_cons (sd_set (i := 2) sc__law_are_alike.nd rfl (.inl rfl) (ed_call (ok__law_spots A) hr rfl A.g__law_spots A.F__law_spots.kp A.b__law_spots (ad_cons (ed_var 0 (pv 0)) (ad_cons (ed_callB rc_max3 (cr_max3 rfl hr.units) (by rfl) A.z_max (by decide +kernel) (ad_cons (ed_sl (ed_var 1 (pv 1)) od_none (od_some ed_int)) ad_nil)) ad_nil))))
    (ssd_cons (sd_par (i := 4) (j := 5) rfl sc__law_are_alike.nd rfl rfl (by decide) rfl rfl (ad_cons (ed_lc rfl sc__law_are_alike.nd (id_list (ed_var 2 (pv 2))) (blkOk_by (own := [("_law_u", 3)]) (N := N__law_are_alike) (sc := defScope s__law_are_alike) (by decide +kernel)) (cg_name 3) (fun _ _ _ _ _ => (pg_name (i := 3) sc__law_are_alike.nd rfl (.inl rfl))) (fun _ _ _ _ _ => (pts_one (td_cmp op_eq od_eq (ed_call (ok__law_value A) (hr.mono (by decide)) rfl A.g__law_value A.F__law_value.kp A.b__law_value (ad_cons (ed_var 0 (pv 0)) (ad_cons (ed_var 3 (pv 3)) ad_nil))) (ed_ix (ed_var 1 (pv 1)) ed_int (fun _ _ => rfl)) (nomark _)))) (fun _ _ _ _ _ => (ed_var 3 (pv 3)))) (ad_cons (ed_lc rfl sc__law_are_alike.nd (id_list (ed_var 2 (pv 2))) (blkOk_by (own := [("_law_w", 8)]) (N := N__law_are_alike) (sc := defScope s__law_are_alike) (by decide +kernel)) (cg_name 8) (fun _ _ _ _ _ => (pg_name (i := 8) sc__law_are_alike.nd rfl (.inl rfl))) (fun _ _ _ _ _ => (pts_one (td_cmp op_eq od_eq (ed_call (ok__law_value A) (hr.mono (by decide)) rfl A.g__law_value A.F__law_value.kp A.b__law_value (ad_cons (ed_var 0 (pv 0)) (ad_cons (ed_var 8 (pv 8)) ad_nil))) (ed_ix (ed_var 1 (pv 1)) ed_int (fun _ _ => rfl)) (nomark _)))) (fun _ _ _ _ _ => (ed_var 8 (pv 8)))) ad_nil)) (by rfl))
    (ssd_cons (sd_forL PassesOwn.never rfl sc__law_are_alike.nd (j := 6) rfl (.inr rfl) (ed_lc rfl sc__law_are_alike.nd (id_list (ed_var 2 (pv 2))) (blkOk_by (own := [("_law_v", 6)]) (N := N__law_are_alike) (sc := defScope s__law_are_alike) (by decide +kernel)) (cg_name 6) (fun _ _ _ _ _ => (pg_name (i := 6) sc__law_are_alike.nd rfl (.inl rfl))) (fun _ _ _ _ _ => (pts_one (td_cmp op_eq od_eq (ed_call (ok__law_value A) (hr.mono (by decide)) rfl A.g__law_value A.F__law_value.kp A.b__law_value (ad_cons (ed_var 0 (pv 0)) (ad_cons (ed_var 6 (pv 6)) ad_nil))) (ed_ix (ed_var 1 (pv 1)) ed_int (fun _ _ => rfl)) (nomark _)))) (fun _ _ _ _ _ => (ed_var 6 (pv 6)))) (ssd_cons (sd_setLc (i := 7) rfl sc__law_are_alike.nd rfl rfl (sw_true rfl rfl rfl (by decide +kernel)) (id_list (ed_var 5 (pv 5))) (blkOk_by (own := [("_law_w", 8)]) (N := N__law_are_alike) (sc := defScope s__law_are_alike) (by decide +kernel)) (cg_name 8) (fun _ _ _ _ _ => (pg_name (i := 8) sc__law_are_alike.nd rfl (.inl rfl))) (fun _ _ _ _ _ => (pts_one (td_cmp op_eq od_eq (ed_call (ok__law_mixed_value A) hr rfl A.g__law_mixed_value A.F__law_mixed_value.kp A.b__law_mixed_value (ad_cons (ed_var 0 (pv 0)) (ad_cons (ed_var 6 (pv 6)) (ad_cons (ed_var 8 (pv 8)) ad_nil)))) (ed_ix (ed_var 1 (pv 1)) ed_int (fun _ _ => rfl)) (nomark _)))) (fun _ _ _ _ _ => (ed_var 8 (pv 8))))
    (ssd_one (sd_forL PassesOwn.never rfl sc__law_are_alike.nd (j := 3) rfl (.inr rfl) (ed_lc rfl sc__law_are_alike.nd (id_list (ed_var 4 (pv 4))) (blkOk_by (own := [("_law_u", 3)]) (N := N__law_are_alike) (sc := defScope s__law_are_alike) (by decide +kernel)) (cg_name 3) (fun _ _ _ _ _ => (pg_name (i := 3) sc__law_are_alike.nd rfl (.inl rfl))) (fun _ _ _ _ _ => (pts_one (td_cmp op_eq od_eq (ed_call (ok__law_mixed_value A) hr rfl A.g__law_mixed_value A.F__law_mixed_value.kp A.b__law_mixed_value (ad_cons (ed_var 0 (pv 0)) (ad_cons (ed_var 3 (pv 3)) (ad_cons (ed_var 6 (pv 6)) ad_nil)))) (ed_ix (ed_var 1 (pv 1)) ed_int (fun _ _ => rfl)) (nomark _)))) (fun _ _ _ _ _ => (ed_var 3 (pv 3)))) (ssd_one (sd_if (td_cmp (op_neD hr.units) od_neD (ed_lc rfl sc__law_are_alike.nd (id_list (ed_var 7 (pv 7))) (blkOk_by (own := [("_law_w", 8)]) (N := N__law_are_alike) (sc := defScope s__law_are_alike) (by decide +kernel)) (cg_name 8) (fun _ _ _ _ _ => (pg_name (i := 8) sc__law_are_alike.nd rfl (.inl rfl))) (fun _ _ _ _ _ => (pts_one (td_cmp op_eq od_eq (ed_call (ok__law_mixed_value A) hr rfl A.g__law_mixed_value A.F__law_mixed_value.kp A.b__law_mixed_value (ad_cons (ed_var 0 (pv 0)) (ad_cons (ed_var 3 (pv 3)) (ad_cons (ed_var 8 (pv 8)) ad_nil)))) (ed_ix (ed_var 1 (pv 1)) ed_int (fun _ _ => rfl)) (nomark _)))) (fun _ _ _ _ _ => (ed_var 8 (pv 8)))) (ed_lst ad_nil) (nomark _)) (ssd_one (sd_ret ed_bl)) ssd_nil))))))
    (ssd_one (sd_ret ed_bl))))))) ?rd
  · rintro ds mu Qd ⟨F, G, rfl, _⟩; rfl
  · rintro ds mu Qd ⟨F, G, rfl, hF, hG, hq⟩
    refine put_e ?_; intro δ1 e; rw [st__law_are_alike] at e; subst e
    repeat walk_at "st"
    refine ⟨hF.bn.mono (by decide), ?_⟩
    repeat walk_at "st"
    refine ⟨hG.bn.mono (by decide), ?_⟩
    repeat walk_at "st"
    by_cases hd : disc F = disc G
    · refine if_f (by show (!decide (disc F = disc G)) = false; rw [decide_eq_true hd]; rfl) ?_
      repeat walk_at "st"
      refine .inl ⟨_, rfl, ?_⟩
      repeat walk_at "st"
      obtain ⟨m0, m1, ma, mb, mc⟩ := max_le hG.a hG.b hG.c
      refine ⟨hF, m0, m1, fun S hS lS => ?_⟩
      have zl : 300000 ≤ sizeLine := by decide
      have bS : ∀ p ∈ S, Bn3 20 p.x p.y p.z := fun p hp => pt_bn hF m0 m1 ((hS p).mp hp)
      repeat walk_at "st"
      refine lc_fm Pt.D S (fun p => if val F p = G.a then some p.D else none) (fun p hp R N hR hN => ?_) (Nat.le_trans lS zl) (fun p hp y hy => by split at hy <;> cases hy; rfl) ?_
      · repeat walk_at "st"
        walk_at "ph"
        refine in__law_value hF.bn (bS p hp) ?_
        repeat walk_at "st"
        by_cases hv : val F p = G.a
        · exact if_t (decide_eq_true hv) ⟨_, rfl, hR _ (if_pos hv)⟩
        · exact if_f (decide_eq_false hv) (hN (if_neg hv))
      rw [fm_if (fun p => val F p = G.a) Pt.D S]
      repeat walk_at "st"
      refine lc_fm Pt.D S (fun p => if val F p = G.c then some p.D else none) (fun p hp R N hR hN => ?_) (Nat.le_trans lS zl) (fun p hp y hy => by split at hy <;> cases hy; rfl) ?_
      · repeat walk_at "st"
        walk_at "ph"
        refine in__law_value hF.bn (bS p hp) ?_
        repeat walk_at "st"
        by_cases hv : val F p = G.c
        · exact if_t (decide_eq_true hv) ⟨_, rfl, hR _ (if_pos hv)⟩
        · exact if_f (decide_eq_false hv) (hN (if_neg hv))
      rw [fm_if (fun p => val F p = G.c) Pt.D S]
      generalize hU : S.filter (fun p => decide (val F p = G.a)) = U
      generalize hW : S.filter (fun p => decide (val F p = G.c)) = W
      have mU : ∀ p, p ∈ U ↔ val F p = G.a := fun p => by
        rw [← hU, List.mem_filter, decide_eq_true_eq, hS p]
        exact ⟨fun h => h.2, fun h => ⟨by omega, h⟩⟩
      have mW : ∀ p, p ∈ W ↔ val F p = G.c := fun p => by
        rw [← hW, List.mem_filter, decide_eq_true_eq, hS p]
        exact ⟨fun h => h.2, fun h => ⟨by omega, h⟩⟩
      have lU : U.length ≤ 300000 := by rw [← hU]; exact Nat.le_trans (List.length_filter_le _ _) lS
      have lW : W.length ≤ 300000 := by rw [← hW]; exact Nat.le_trans (List.length_filter_le _ _) lS
      have bU : ∀ p ∈ U, Bn3 20 p.x p.y p.z := fun p hp => bS p (by rw [← hU] at hp; exact (List.mem_filter.mp hp).1)
      have bW : ∀ p ∈ W, Bn3 20 p.x p.y p.z := fun p hp => bS p (by rw [← hW] at hp; exact (List.mem_filter.mp hp).1)
      repeat walk_at "st"
      refine lc_fm Pt.D S (fun p => if val F p = G.b then some p.D else none) (fun p hp R N hR hN => ?_) (Nat.le_trans lS zl) (fun p hp y hy => by split at hy <;> cases hy; rfl) ?_
      · repeat walk_at "st"
        walk_at "ph"
        refine in__law_value hF.bn (bS p hp) ?_
        repeat walk_at "st"
        by_cases hv : val F p = G.b
        · exact if_t (decide_eq_true hv) ⟨_, rfl, hR _ (if_pos hv)⟩
        · exact if_f (decide_eq_false hv) (hN (if_neg hv))
      rw [fm_if (fun p => val F p = G.b) Pt.D S]
      generalize hV : S.filter (fun p => decide (val F p = G.b)) = V
      have mV : ∀ p, p ∈ V ↔ val F p = G.b := fun p => by
        rw [← hV, List.mem_filter, decide_eq_true_eq, hS p]
        exact ⟨fun h => h.2, fun h => ⟨by omega, h⟩⟩
      have bV : ∀ p ∈ V, Bn3 20 p.x p.y p.z := fun p hp => bS p (by rw [← hV] at hp; exact (List.mem_filter.mp hp).1)
      refine ⟨_, rfl, ?_⟩
      refine over_all (fun δ => ∃ o3 o6 o7, δ = [some F.D, some G.D, some (D.lst (S.map Pt.D)), o3, some (D.lst (U.map Pt.D)), some (D.lst (W.map Pt.D)), o6, o7, none]) (fun v => ∀ t, Leads F G t → t.v ≠ v) ⟨_, _, _, rfl⟩ (fun v hv R hR δ hδ => ?_) fun δ hδ hno => ?_
      · obtain ⟨o3, o6, o7, rfl⟩ := hδ
        have bv := bV v hv
        repeat walk_at "st"
        refine lc_fm Pt.D W (fun p => if both F v p = G.d then some p.D else none) (fun p hp R N hR hN => ?_) (Nat.le_trans lW zl) (fun p hp y hy => by split at hy <;> cases hy; rfl) ?_
        · repeat walk_at "st"
          refine ⟨hF.bn.mono (by decide), bv.mono (by decide), (bW p hp).mono (by decide), ?_⟩
          repeat walk_at "st"
          by_cases hv : both F v p = G.d
          · exact if_t (decide_eq_true hv) ⟨_, rfl, hR _ (if_pos hv)⟩
          · exact if_f (decide_eq_false hv) (hN (if_neg hv))
        rw [fm_if (fun p => both F v p = G.d) Pt.D W]
        generalize hB : W.filter (fun p => decide (both F v p = G.d)) = B
        have mB : ∀ p, p ∈ B ↔ val F p = G.c ∧ both F v p = G.d := fun p => by rw [← hB, List.mem_filter, decide_eq_true_eq, mW p]
        have lB : B.length ≤ 300000 := by rw [← hB]; exact Nat.le_trans (List.length_filter_le _ _) lW
        have bB : ∀ p ∈ B, Bn3 20 p.x p.y p.z := fun p hp => bW p (by rw [← hB] at hp; exact (List.mem_filter.mp hp).1)
        repeat walk_at "st"
        refine lc_fm Pt.D U (fun p => if both F p v = G.f then some p.D else none) (fun p hp R N hR hN => ?_) (Nat.le_trans lU zl) (fun p hp y hy => by split at hy <;> cases hy; rfl) ?_
        · repeat walk_at "st"
          refine ⟨hF.bn.mono (by decide), (bU p hp).mono (by decide), bv.mono (by decide), ?_⟩
          repeat walk_at "st"
          by_cases hv : both F p v = G.f
          · exact if_t (decide_eq_true hv) ⟨_, rfl, hR _ (if_pos hv)⟩
          · exact if_f (decide_eq_false hv) (hN (if_neg hv))
        rw [fm_if (fun p => both F p v = G.f) Pt.D U]
        generalize hE : U.filter (fun p => decide (both F p v = G.f)) = E
        have mE : ∀ p, p ∈ E ↔ val F p = G.a ∧ both F p v = G.f := fun p => by rw [← hE, List.mem_filter, decide_eq_true_eq, mU p]
        have bE : ∀ p ∈ E, Bn3 20 p.x p.y p.z := fun p hp => bU p (by rw [← hE] at hp; exact (List.mem_filter.mp hp).1)
        refine ⟨_, rfl, ?_⟩
        refine over_all (fun δ => ∃ o3, δ = [some F.D, some G.D, some (D.lst (S.map Pt.D)), o3, some (D.lst (U.map Pt.D)), some (D.lst (W.map Pt.D)), some v.D, some (D.lst (B.map Pt.D)), none]) (fun u => ∀ t, Leads F G t → t.v = v → t.u ≠ u) ⟨_, rfl⟩ (fun u hu R' hR' δ hδ => ?_) fun δ hδ hno => ?_
        · obtain ⟨o3, rfl⟩ := hδ
          have bu := bE u hu
          repeat walk_at "st"
          refine lc_fm Pt.D B (fun p => if both F u p = G.e then some p.D else none) (fun p hp R N hR hN => ?_) (Nat.le_trans lB zl) (fun p hp y hy => by split at hy <;> cases hy; rfl) ?_
          · repeat walk_at "st"
            refine ⟨hF.bn.mono (by decide), bu.mono (by decide), (bB p hp).mono (by decide), ?_⟩
            repeat walk_at "st"
            by_cases hv : both F u p = G.e
            · exact if_t (decide_eq_true hv) ⟨_, rfl, hR _ (if_pos hv)⟩
            · exact if_f (decide_eq_false hv) (hN (if_neg hv))
          rw [fm_if (fun p => both F u p = G.e) Pt.D B]
          generalize hC : B.filter (fun p => decide (both F u p = G.e)) = C
          have mC : ∀ p, p ∈ C ↔ (val F p = G.c ∧ both F v p = G.d) ∧ both F u p = G.e := fun p => by rw [← hC, List.mem_filter, decide_eq_true_eq, mB p]
          repeat walk_at "st"
          refine ⟨Nat.zero_le _, ?_⟩
          refine ⟨pureAll_pts C, rfl, shaped_lst (fun d hd => by obtain ⟨p, _, rfl⟩ := List.mem_map.mp hd; exact lay_pt p), rfl, _, rfl, ?_⟩
          rw [eqv_nil]
          rcases C with _ | ⟨w', C⟩
          · refine if_f rfl ?_
            refine ⟨rfl, ⟨_, rfl⟩, hR' fun t L e1 e2 => ?_⟩
            have f := formBy_eq.mp L.2
            rw [e1, e2] at f
            have := (mC t.w).mpr ⟨⟨f.2.2.1, f.2.2.2.1⟩, f.2.2.2.2.1⟩
            cases this
          · refine if_t rfl ?_
            have hw := (mC w').mp (by simp)
            have hu1 := (mE u).mp hu
            have hv1 := (mV v).mp hv
            exact end_ok rfl (hq true ⟨fun _ => leads_sign (t := ⟨u, v, w'⟩) hF.po.s hd (formBy_eq.mpr ⟨hu1.1, hv1, hw.1.1, hw.1.2, hw.2, hu1.2⟩), fun _ => rfl⟩)
        · obtain ⟨o3, rfl⟩ := hδ
          refine ⟨rfl, ⟨_, _, _, rfl⟩, hR fun t L e => ?_⟩
          have f := formBy_eq.mp L.2
          exact absurd rfl (hno t.u ((mE t.u).mpr ⟨f.1, by rw [← e]; exact f.2.2.2.2.2⟩) t L e)
      · obtain ⟨o3, o6, o7, rfl⟩ := hδ
        refine end_ok rfl (hq false ⟨(fun h => nomatch h), fun ⟨t, L⟩ => ?_⟩)
        exact absurd rfl (hno t.v ((mV t.v).mpr (formBy_eq.mp L.2).2.1) t L)
    · refine if_t (by show (!decide (disc F = disc G)) = true; rw [decide_eq_false hd]; rfl) ?_
      exact end_ok rfl (hq false ⟨(fun h => nomatch h), fun ⟨t, L⟩ => absurd (disc_leads L).symm hd⟩)
end
end K77
end
section
namespace K77
open PySem PySem.Spec PyProof.Rows L2 DL
local macro_rules | `(tactic| walk_at "bn") => `(tactic| first
  | assumption
  | (apply Bn.add <;> walk_at "bn")
  | (apply Bn.sub <;> walk_at "bn")
  | (apply Bn.mul <;> walk_at "bn")
  | (apply Bn.neg; walk_at "bn")
  | exact Bn.lit (by decide))
local macro_rules | `(tactic| walk_at "cm") => `(tactic| (apply Bn.cmul; (focus walk_at "bn"); (focus walk_at "bn"); (focus decide)))
local macro_rules | `(tactic| walk_at "st") => `(tactic| first
  | (refine put_e ?_; intro δ1 e; simp only [List.set_cons_zero, List.set_cons_succ, wipeD, List.map_cons, List.map_nil] at e; subst e)
  | refine ⟨_, rfl, ?_⟩
  | (refine ⟨_, _, rfl, rfl, ?cm, ?_⟩; (case cm => walk_at "cm"))
  | refine ⟨_, _, rfl, rfl, ?_⟩
  | refine ⟨_, rfl, rfl, ?_⟩
  | refine ⟨_, _, rfl, ?_⟩
  | refine ⟨_, _, _, rfl, ?_⟩
  | refine ⟨_, _, .inl rfl, ?_⟩
  | refine ⟨_, .inl rfl, ?_⟩
  | refine ⟨_, .inr rfl, ?_⟩
  | refine ⟨rfl, ?_⟩
  | refine ⟨_, _, _, rfl, rfl, rfl, ?_⟩
  | refine if_t rfl ?_
  | refine if_f rfl ?_)
local macro_rules | `(tactic| walk_at "ph") => `(tactic| ((try unfold aNil); (try dsimp only)))
local macro_rules | `(tactic| walk_at "ph2") => `(tactic| (dsimp only [aNil, aCons, dC]))
section
variable {P : Program} {w : World} {K : PySem.W.Frag} {mg : Str → Option Value} {base : Heap} {T : List (Addr × Str)}
/-- the jug, at most n numbers poured from its later part -/
structure JugB (n : Nat) (J : List D) : Prop where
  ex : ∃ g m c : Int, J = [.int g, .int m, .int c] ∧ 0 ≤ g ∧ Bn 1700 g ∧ Bn 100 m ∧ 0 ≤ c ∧ c ≤ n
theorem JugB.mono {m n : Nat} {J : List D} (h : JugB m J) (l : m ≤ n) : JugB n J := by
  obtain ⟨g, m, c, e, h1, h2, h3, h4, h5⟩ := h.ex
  exact ⟨g, m, c, e, h1, h2, h3, h4, by omega⟩
theorem JugB.flat {n : Nat} {J : List D} (h : JugB n J) : flatAll J = true := by
  obtain ⟨g, m, c, rfl, _⟩ := h.ex
  rfl
theorem end_set {J J' : List D} {mu' : Mu} {Qd : D → Mu → Prop} {d : D} (h : Qd d (J' :: mu')) : (endsD (J :: mu') Qd).rt d (J' :: mu') :=
  ⟨.inr rfl, by rw [List.length_cons, List.take_succ_cons, List.take_length]; exact h⟩
def Ph__law_pour : PhiD := fun ds mu Q => ∃ (n : Nat) (J : List D) (mu' : Mu) (many : Int), ds = [.box 0, .int many] ∧ mu = J :: mu' ∧ JugB n J ∧ n ≤ 10000 ∧ 0 < many ∧ many ≤ 1000 ∧ ∀ r J', 0 ≤ r → r < many → JugB (n + 1) J' → Q (.int r) (J' :: mu')
theorem ok__law_pour (A : Al K mg base T) : FnOk P w K mg base CX0 1 A.f__law_pour A.fd__law_pour ["_law_jug_here", "_law_many"] (spD K T Ph__law_pour) := by
  refine fn_d A.F__law_pour sc__law_pour ?len (fun cdv Ar outer s H E hr => (ssd_cons (sd_if (td_cmp op_gt od_B (ed_ix (ed_var 0 (pv 0)) ed_int (fun _ _ => rfl)) ed_int (nomark _)) (ssd_cons (sd_set (i := 2) sc__law_pour.nd rfl (.inl rfl) (ed_op op_mod od_I (ed_callTy rc_int call_int1 (by rfl) A.z_int (by decide +kernel) (ad_cons (ed_ix (ed_var 0 (pv 0)) ed_int (fun _ _ => rfl)) ad_nil)) (ed_var 1 (pv 1))))
    (ssd_cons (sd_asg (ed_op op_fdivW od_I (ed_ix (ed_var 0 (pv 0)) ed_int (fun _ _ => rfl)) (ed_var 1 (pv 1))) (gd_sub (pg_sub (ed_var 0 (pv 0)) ed_int set_list)))
    (ssd_one (sd_ret (ed_var 2 (pv 2)))))) ssd_nil)
    (ssd_cons (sd_asg (ed_op op_add od_I0 (ed_ix (ed_var 0 (pv 0)) ed_int (fun _ _ => rfl)) ed_int) (gd_sub (pg_sub (ed_var 0 (pv 0)) ed_int set_list)))
    (ssd_cons (sd_set (i := 3) sc__law_pour.nd rfl (.inl rfl) (ed_op op_mod od_I (ed_callTy rc_int call_int1 (by rfl) A.z_int (by decide +kernel) (ad_cons (ed_op op_add od_I0 (ed_ix (ed_var 0 (pv 0)) ed_int (fun _ _ => rfl)) (ed_op op_mulW od_I ed_int (ed_ix (ed_var 0 (pv 0)) ed_int (fun _ _ => rfl)))) ad_nil)) ed_int))
    (ssd_cons (sd_set (i := 4) sc__law_pour.nd rfl (.inl rfl) (ed_op op_add od_I0 (ed_op op_add od_I0 (ed_op op_mulW od_I (ed_op op_mod od_I (ed_callTy rc_int call_int1 (by rfl) A.z_int (by decide +kernel) (ad_cons (ed_op op_mulW od_I (ed_var 3 (pv 3)) (ed_var 3 (pv 3))) ad_nil)) ed_int) ed_int) (ed_var 3 (pv 3))) (ed_op op_mulW od_I ed_int (ed_ix (ed_var 0 (pv 0)) ed_int (fun _ _ => rfl)))))
    (ssd_one (sd_ret (ed_op op_mod od_I (ed_callTy rc_int call_int1 (by rfl) A.z_int (by decide +kernel) (ad_cons (ed_op op_fdivW od_I (ed_var 4 (pv 4)) ed_int) ad_nil)) (ed_var 1 (pv 1)))))))))) ?rd
  · rintro ds mu Qd ⟨n, J, mu', many, rfl, _⟩; rfl
  · rintro ds mu Qd ⟨n, J, mu', many, rfl, rfl, hJ, hn, h0, h1, hq⟩
    refine put_e ?_; intro δ1 e; rw [st__law_pour] at e; subst e
    obtain ⟨g, m, c, rfl, g0, bg, bm, c0, c1⟩ := hJ.ex
    have bk : Bn 10 many := Bn.of_le (k := 1000) (by omega) (by decide)
    have bc : Bn 20 c := Bn.of_le (k := 10000) (by omega) (by decide)
    have b1 : Bn 2 (1 : Int) := Bn.of_le (k := 1) (by decide) (by decide)
    repeat walk_at "st"
    by_cases hg : 0 < g
    · refine if_t (decide_eq_true hg) ?_
      repeat walk_at "st"
      refine .inl ⟨_, rfl, ?_⟩
      repeat walk_at "st"
      refine ⟨h0, ?_⟩
      repeat walk_at "st"
      refine ⟨Bn.cdiv h0 bk (by decide), ?_⟩
      repeat walk_at "st"
      refine ⟨_, _, _, _, rfl, rfl, rfl, rfl, rfl, ?_⟩
      repeat walk_at "st"
      refine end_set (hq _ _ (Int.emod_nonneg _ (Int.ne_of_gt h0)) (Int.emod_lt_of_pos _ h0) ⟨_, _, _, rfl, Int.ediv_nonneg g0 (Int.le_of_lt h0), bn_ediv bg, bm, c0, by omega⟩)
    · refine if_f (decide_eq_false hg) ?_
      repeat walk_at "st"
      refine ⟨_, _, _, _, rfl, rfl, rfl, rfl, rfl, ?_⟩
      have bc1 : Bn 20 (c + 1) := Bn.of_le (k := 10001) (by omega) (by decide)
      repeat walk_at "st"
      refine .inl ⟨_, rfl, ?_⟩
      repeat walk_at "st"
      refine ⟨(by decide : (0 : Int) < 2305843009213693967), ?_⟩
      have e0 := Int.emod_nonneg (m + 15485863 * (c + 1)) (by decide : (2305843009213693967 : Int) ≠ 0)
      have e1 := Int.emod_lt_of_pos (m + 15485863 * (c + 1)) (by decide : (0 : Int) < 2305843009213693967)
      generalize (m + 15485863 * (c + 1)) % 2305843009213693967 = one at e0 e1 ⊢
      have bo : Bn 70 one := Bn.of_le (k := 2305843009213693967) (by omega) (by decide)
      repeat walk_at "st"
      refine .inl ⟨_, rfl, ?_⟩
      repeat walk_at "st"
      refine ⟨(by decide : (0 : Int) < 2305843009213693951), ?_⟩
      have f0 := Int.emod_nonneg (one * one) (by decide : (2305843009213693951 : Int) ≠ 0)
      have f1 := Int.emod_lt_of_pos (one * one) (by decide : (0 : Int) < 2305843009213693951)
      generalize (one * one) % 2305843009213693951 = two at f0 f1 ⊢
      have bt : Bn 70 two := Bn.of_le (k := 2305843009213693967) (by omega) (by decide)
      repeat walk_at "st"
      refine ⟨Bn.cdiv (n := 256) (by decide) (Bn.lit (by decide)) (by decide), ?_⟩
      repeat walk_at "st"
      refine .inl ⟨_, rfl, ?_⟩
      repeat walk_at "st"
      refine ⟨h0, ?_⟩
      refine end_set (hq _ _ (Int.emod_nonneg _ (Int.ne_of_gt h0)) (Int.emod_lt_of_pos _ h0) ⟨_, _, _, rfl, g0, bg, bm, by omega, by omega⟩)
theorem in__law_pour {n : Nat} {J : List D} {mu' : Mu} {many : Int} {Q : D → Mu → Prop} (hJ : JugB n J) (h0 : 0 < many) (h1 : many ≤ 1000) (h : ∀ r J', 0 ≤ r → r < many → JugB (n + 1) J' → Q (.int r) (J' :: mu')) (hn : n ≤ 10000) : Ph__law_pour [.box 0, .int many] (J :: mu') Q :=
  ⟨n, J, mu', many, rfl, rfl, hJ, hn, h0, h1, h⟩
theorem atI_in {α : Type} {l : List α} {r : Int} (h0 : 0 ≤ r) (h1 : r < l.length) : ∃ x ∈ l, L2.atI l r = some x := by
  have hl : r.toNat < l.length := by omega
  refine ⟨l[r.toNat], List.getElem_mem hl, ?_⟩
  have := L2.atI_nat (List.getElem?_eq_getElem hl)
  rw [Int.toNat_of_nonneg h0] at this
  exact this
def Ph__law_of : PhiD := fun ds mu Q => ∃ (n : Nat) (J : List D) (mu' : Mu) (L : List D), ds = [.box 0, .lst L] ∧ mu = J :: mu' ∧ JugB n J ∧ n ≤ 10000 ∧ 0 < L.length ∧ L.length ≤ 1000 ∧ ∀ x J', x ∈ L → JugB (n + 1) J' → Q x (J' :: mu')
theorem ok__law_of (A : Al K mg base T) : FnOk P w K mg base CX0 2 A.f__law_of A.fd__law_of ["_law_jug_here", "_law_items"] (spD K T Ph__law_of) := by
  refine fn_d A.F__law_of sc__law_of ?len (fun cdv Ar outer s H E hr => (ssd_one (sd_ret (ed_ix (ed_var 1 (pv 1)) (ed_call (ok__law_pour A) hr rfl A.g__law_pour A.F__law_pour.kp A.b__law_pour (ad_cons (ed_var 0 (pv 0)) (ad_cons (ed_callB rc_len call_len_seq (by rfl) A.z_len (by decide +kernel) (ad_cons (ed_var 1 (pv 1)) ad_nil)) ad_nil))) (fun _ _ => rfl))))) ?rd
  · rintro ds mu Qd ⟨n, J, mu', L, rfl, _⟩; rfl
  · rintro ds mu Qd ⟨n, J, mu', L, rfl, rfl, hJ, hn, h0, h1, hq⟩
    refine put_e ?_; intro δ1 e; rw [st__law_of] at e; subst e
    repeat walk_at "st"
    walk_at "ph"
    refine in__law_pour hJ (by omega) (by omega) (fun r J' r0 r1 hJ' => ?_) hn
    obtain ⟨x, hx, e⟩ := atI_in r0 r1
    refine ⟨_, _, _, rfl, rfl, e, ?_⟩
    exact end_set (hq x J' hx hJ')
theorem in__law_of {n : Nat} {J : List D} {mu' : Mu} {L : List D} {Q : D → Mu → Prop} (hJ : JugB n J) (h0 : 0 < L.length) (h1 : L.length ≤ 1000) (h : ∀ x J', x ∈ L → JugB (n + 1) J' → Q x (J' :: mu')) (hn : n ≤ 10000) : Ph__law_of [.box 0, .lst L] (J :: mu') Q :=
  ⟨n, J, mu', L, rfl, rfl, hJ, hn, h0, h1, h⟩
end
end K77
end
section
namespace K77
open PySem PySem.Spec PyProof.Rows L2 DL
local macro_rules | `(tactic| walk_at "bn") => `(tactic| first
  | assumption
  | (apply Bn.add <;> walk_at "bn")
  | (apply Bn.sub <;> walk_at "bn")
  | (apply Bn.mul <;> walk_at "bn")
  | (apply Bn.neg; walk_at "bn")
  | exact Bn.lit (by decide))
local macro_rules | `(tactic| walk_at "cm") => `(tactic| (apply Bn.cmul; (focus walk_at "bn"); (focus walk_at "bn"); (focus decide)))
local macro_rules | `(tactic| walk_at "st") => `(tactic| first
  | (refine put_e ?_; intro δ1 e; simp only [List.set_cons_zero, List.set_cons_succ, wipeD, List.map_cons, List.map_nil] at e; subst e)
  | refine ⟨_, rfl, ?_⟩
  | (refine ⟨_, _, rfl, rfl, ?cm, ?_⟩; (case cm => walk_at "cm"))
  | refine ⟨_, _, rfl, rfl, ?_⟩
  | refine ⟨_, rfl, rfl, ?_⟩
  | refine ⟨_, _, rfl, ?_⟩
  | refine ⟨_, _, _, rfl, ?_⟩
  | refine ⟨_, _, .inl rfl, ?_⟩
  | refine ⟨_, .inl rfl, ?_⟩
  | refine ⟨_, .inr rfl, ?_⟩
  | refine ⟨rfl, ?_⟩
  | refine ⟨_, _, _, rfl, rfl, rfl, ?_⟩
  | refine if_t rfl ?_
  | refine if_f rfl ?_)
local macro_rules | `(tactic| walk_at "ph") => `(tactic| ((try unfold aNil); (try dsimp only)))
local macro_rules | `(tactic| walk_at "ph2") => `(tactic| (dsimp only [aNil, aCons, dC]))
section
variable {P : Program} {w : World} {K : PySem.W.Frag} {mg : Str → Option Value} {base : Heap} {T : List (Addr × Str)}
theorem Tn.bd {N : Nat} {t : Tb} (h : Tn N t) (l : N ≤ 1000) : Bd 10 t := by
  obtain ⟨_, hx, hy, hz⟩ := h
  unfold l1 tr at hx hy hz
  simp only at hx hy hz
  have k : ∀ {i : Int}, i.natAbs ≤ N → Bn 10 i := fun {i} q => Bn.of_le (k := 1000) (Nat.le_trans q l) (by decide)
  exact ⟨⟨k (by omega), k (by omega), k (by omega)⟩, ⟨k (by omega), k (by omega), k (by omega)⟩, ⟨k (by omega), k (by omega), k (by omega)⟩⟩
abbrev rowD (p : Pt) : D := .lst [.int p.x, .int p.y, .int p.z]
def Ph__law_table : PhiD := fun ds mu Q => ∃ (n : Nat) (J : List D) (k : Nat), ds = [.box 0, .int (k : Int)] ∧ mu = [J] ∧ JugB n J ∧ n ≤ 9000 ∧ k ≤ 3 ∧ ∀ t J', Tn (3 ^ k) t → JugB (n + 3 * k) J' → Q t.D [J']
theorem ok__law_table (A : Al K mg base T) : FnOk P w K mg base CX0 3 A.f__law_table A.fd__law_table ["_law_jug_here", "_law_turns"] (spD K T Ph__law_table) := by
  refine fn_d A.F__law_table sc__law_table ?len (fun cdv Ar outer s H E hr => (ssd_cons (sd_box (i := 2) sc__law_table.nd rfl (.inl rfl) (nd_lst (ad_cons (ed_lst (ad_cons ed_int (ad_cons ed_int (ad_cons ed_int ad_nil)))) (ad_cons (ed_lst (ad_cons ed_int (ad_cons ed_int (ad_cons ed_int ad_nil)))) (ad_cons (ed_lst (ad_cons ed_int (ad_cons ed_int (ad_cons ed_int ad_nil)))) ad_nil)))))
    (ssd_cons (sd_forR1 PassesOwn.never rfl sc__law_table.nd (j := 3) rfl (.inl rfl) rfl A.z_range (ad_cons (ed_var 1 (pv 1)) ad_nil) (ssd_cons (sd_set (i := 4) sc__law_table.nd rfl (.inl rfl) (ed_call (ok__law_pour A) (hr.mono (by decide)) rfl A.g__law_pour A.F__law_pour.kp A.b__law_pour (ad_cons (ed_var 0 (pv 0)) (ad_cons ed_int ad_nil))))
    (ssd_cons (sd_asg (ed_tup (ad_cons (ed_op op_mod od_I (ed_callTy rc_int call_int1 (by rfl) A.z_int (by decide +kernel) (ad_cons (ed_op op_add od_I0 (ed_op op_add od_I0 (ed_var 4 (pv 4)) ed_int) (ed_call (ok__law_pour A) (hr.mono (by decide)) rfl A.g__law_pour A.F__law_pour.kp A.b__law_pour (ad_cons (ed_var 0 (pv 0)) (ad_cons ed_int ad_nil)))) ad_nil)) ed_int) (ad_cons (ed_call (ok__law_of A) hr rfl A.g__law_of A.F__law_of.kp A.b__law_of (ad_cons (ed_var 0 (pv 0)) (ad_cons (ed_lst (ad_cons (ed_neg ed_int) (ad_cons (ed_neg ed_int) (ad_cons (ed_neg ed_int) (ad_cons ed_int (ad_cons ed_int (ad_cons ed_int ad_nil))))))) ad_nil))) ad_nil))) (gd_tup (n := 2) rfl (gsd_cons (gd_name (i := 5) sc__law_table.nd rfl (.inl rfl)) (gsd_cons (gd_name (i := 6) sc__law_table.nd rfl (.inr rfl)) gsd_nil))))
    (ssd_one (sd_asg (ed_lc rfl sc__law_table.nd (id_zip rfl A.z_zip (ad_cons (ed_ix (ed_var 2 (pv 2)) (ed_var 5 (pv 5)) (fun _ _ => rfl)) (ad_cons (ed_ix (ed_var 2 (pv 2)) (ed_var 4 (pv 4)) (fun _ _ => rfl)) ad_nil))) (blkOk_by (own := [("_law_x", 7), ("_law_y", 8)]) (N := N__law_table) (sc := defScope s__law_table) (by decide +kernel)) (cg_pair 7 8) (fun _ _ _ _ _ => (pg_tup rfl (pgs_cons (pg_name (i := 7) sc__law_table.nd rfl (.inl rfl)) (pgs_cons (pg_name (i := 8) sc__law_table.nd rfl (.inl rfl)) pgs_nil)))) (fun _ _ _ _ _ => pts_yes) (fun _ _ _ _ _ => (ed_op op_add od_I0 (ed_var 7 (pv 7)) (ed_op op_mulW od_I (ed_var 6 (pv 6)) (ed_var 8 (pv 8)))))) (gd_sub (pg_sub (ed_var 2 (pv 2)) (ed_var 5 (pv 5)) set_list)))))))
    (ssd_one (sd_ret (ed_frz 2 (ed_callTy rc_tuple call_tuple_of (by rfl) A.z_tuple (by decide +kernel) (ad_cons (ed_lc rfl sc__law_table.nd (id_list (ed_var 2 (pv 2))) (blkOk_by (own := [("_law_row", 9)]) (N := N__law_table) (sc := defScope s__law_table) (by decide +kernel)) (cg_name 9) (fun _ _ _ _ _ => (pg_name (i := 9) sc__law_table.nd rfl (.inl rfl))) (fun _ _ _ _ _ => pts_yes) (fun _ _ _ _ _ => (ed_callTy rc_tuple call_tuple_of (by rfl) A.z_tuple (by decide +kernel) (ad_cons (ed_var 9 (pv 9)) ad_nil)))) ad_nil)))))))) ?rd
  · rintro ds mu Qd ⟨n, J, k, rfl, _⟩; rfl
  · rintro ds mu Qd ⟨n, J, k, rfl, rfl, hJ, hn, hk, hq⟩
    refine put_e ?_; intro δ1 e; rw [st__law_table] at e; subst e
    repeat walk_at "st"
    refine ⟨three, ?_⟩
    repeat walk_at "st"
    refine ⟨three, ?_⟩
    repeat walk_at "st"
    refine ⟨three, ?_⟩
    repeat walk_at "st"
    refine ⟨three, rfl, ?_⟩
    repeat walk_at "st"
    refine ⟨⟨by omega, by omega⟩, fun i δ mu => ∃ (t : Tb) (J' : List D) (o3 o4 o5 o6 : Option Int), δ = [some (.box 0), some (.int (k : Int)), some (.box 1), o3.map D.int, o4.map D.int, o5.map D.int, o6.map D.int, none, none, none] ∧ mu = [J', [rowD t.u, rowD t.v, rowD t.w]] ∧ Tn (3 ^ i) t ∧ JugB (n + 3 * i) J', ⟨idT, J, none, none, none, none, rfl, rfl, Tn.id, hJ⟩, fun i δ mu hi hP => ?p1, fun δ mu hP => ?p2⟩
    case p1 =>
      obtain ⟨t, J1, o3, o4, o5, o6, rfl, rfl, hT, hJ1⟩ := hP
      have hi2 : i < 3 := by omega
      repeat walk_at "st"
      walk_at "ph2"
      refine in__law_pour (many := 3) hJ1 (by decide) (by decide) (fun a J2 a0 a1 hJ2 => ?_) (by omega)
      repeat walk_at "st"
      walk_at "ph2"
      refine in__law_pour (many := 2) hJ2 (by decide) (by decide) (fun r J3 r0 r1 hJ3 => ?_) (by omega)
      repeat walk_at "st"
      refine .inl ⟨_, rfl, ?_⟩
      repeat walk_at "st"
      refine ⟨(by decide : (0 : Int) < 3), ?_⟩
      repeat walk_at "st"
      refine ⟨(by decide : 6 ≤ sizeLine), ?_⟩
      repeat walk_at "st"
      walk_at "ph"
      refine in__law_of hJ3 (by decide) (by decide) (fun x J4 hx hJ4 => ?_) (by omega)
      obtain ⟨m, rfl, hm⟩ : ∃ m : Int, x = .int m ∧ m.natAbs ≤ 2 := by
        simp only [List.mem_cons, List.not_mem_nil, or_false] at hx
        rcases hx with rfl | rfl | rfl | rfl | rfl | rfl
        · exact ⟨_, rfl, by decide⟩
        · exact ⟨_, rfl, by decide⟩
        · exact ⟨_, rfl, by decide⟩
        · exact ⟨_, rfl, by decide⟩
        · exact ⟨_, rfl, by decide⟩
        · exact ⟨_, rfl, by decide⟩
      have hJ5 : JugB (n + 3 * (i + 1)) J4 := hJ4.mono (by omega)
      repeat walk_at "st"
      refine ⟨(by decide : 2 ≤ sizeLine), ?_⟩
      have pw : 3 ^ i ≤ 9 := by
        rcases (show i = 0 ∨ i = 1 ∨ i = 2 by omega) with rfl | rfl | rfl <;> decide
      have bt : Bd 10 t := hT.bd (by omega)
      obtain ⟨p, q, j, s, e1, e2, e3, e4, bq, hs⟩ : ∃ (p q : Pt) (j : Nat) (s : Tb), L2.atI [rowD t.u, rowD t.v, rowD t.w] ((a + 1 + r) % 3) = some (rowD p) ∧ L2.atI [rowD t.u, rowD t.v, rowD t.w] a = some (rowD q) ∧ L2.ixN 3 ((a + 1 + r) % 3) = some j ∧
          [rowD t.u, rowD t.v, rowD t.w].set j (rowD (addR p q m)) = [rowD s.u, rowD s.v, rowD s.w] ∧ Bn3 10 q.x q.y q.z ∧ Tn (3 * 3 ^ i) s := by
        rcases (show (a = 0 ∧ r = 0) ∨ (a = 0 ∧ r = 1) ∨ (a = 1 ∧ r = 0) ∨ (a = 1 ∧ r = 1) ∨ (a = 2 ∧ r = 0) ∨ (a = 2 ∧ r = 1) by omega) with ⟨rfl, rfl⟩ | ⟨rfl, rfl⟩ | ⟨rfl, rfl⟩ | ⟨rfl, rfl⟩ | ⟨rfl, rfl⟩ | ⟨rfl, rfl⟩
        · exact ⟨t.v, t.u, 1, ⟨t.u, addR t.v t.u m, t.w⟩, rfl, rfl, rfl, rfl, bt.u, hT.step hm (.inl rfl)⟩
        · exact ⟨t.w, t.u, 2, ⟨t.u, t.v, addR t.w t.u m⟩, rfl, rfl, rfl, rfl, bt.u, hT.step hm (.inr (.inl rfl))⟩
        · exact ⟨t.w, t.v, 2, ⟨t.u, t.v, addR t.w t.v m⟩, rfl, rfl, rfl, rfl, bt.v, hT.step hm (.inr (.inr (.inr (.inl rfl))))⟩
        · exact ⟨t.u, t.v, 0, ⟨addR t.u t.v m, t.v, t.w⟩, rfl, rfl, rfl, rfl, bt.v, hT.step hm (.inr (.inr (.inl rfl)))⟩
        · exact ⟨t.u, t.w, 0, ⟨addR t.u t.w m, t.v, t.w⟩, rfl, rfl, rfl, rfl, bt.w, hT.step hm (.inr (.inr (.inr (.inr (.inl rfl)))))⟩
        · exact ⟨t.v, t.w, 1, ⟨t.u, addR t.v t.w m, t.w⟩, rfl, rfl, rfl, rfl, bt.w, hT.step hm (.inr (.inr (.inr (.inr (.inr rfl)))))⟩
      have bm : Bn 10 m := Bn.of_le (k := 2) hm (by decide)
      have b1 := bq.x
      have b2 := bq.y
      have b3 := bq.z
      repeat walk_at "st"
      refine ⟨_, _, _, rfl, rfl, e1, ?_⟩
      repeat walk_at "st"
      refine ⟨_, _, _, rfl, rfl, e2, ?_⟩
      refine ⟨_, _, .inr rfl, ?_⟩
      refine lc_fix [.int (addR p q m).x, .int (addR p q m).y, .int (addR p q m).z] ?_ three rfl ?_
      · refine ⟨?_, ?_, ?_, trivial⟩ <;> (intro R N hR; repeat walk_at "st") <;> exact hR
      repeat walk_at "st"
      refine ⟨1, _, [rowD t.u, rowD t.v, rowD t.w], j, rfl, rfl, rfl, e3, rfl, ?_⟩
      rw [e4]
      exact ⟨s, J4, some _, some _, some _, some _, rfl, rfl, by rw [Nat.pow_succ, Nat.mul_comm]; exact hs, hJ5⟩
    case p2 =>
      obtain ⟨t, J', o3, o4, o5, o6, rfl, rfl, hT, hJ'⟩ := hP
      rw [Int.toNat_natCast] at hT hJ'
      refine ⟨[J'], [rowD t.u, rowD t.v, rowD t.w], rfl, rfl, fun j d hj hd => ?_, ?_⟩
      · have oi : ∀ {o : Option Int}, some (o.map D.int) = some (some d) → lowD 1 d := fun {o} h => by
          cases o with
          | none => cases h
          | some i => cases h; exact rfl
        rcases j with _ | _ | _ | _ | _ | _ | _ | _ | _ | _ | j
        · cases hd; exact (by decide : 0 < 1)
        · cases hd; exact rfl
        · exact absurd rfl hj
        · exact oi hd
        · exact oi hd
        · exact oi hd
        · exact oi hd
        · cases hd
        · cases hd
        · cases hd
        · cases hd
      repeat walk_at "st"
      refine lc_fix [t.u.D, t.v.D, t.w.D] ?_ three rfl ?_
      · refine ⟨?_, ?_, ?_, trivial⟩ <;> (intro R N hR; repeat walk_at "st") <;> exact hR
      refine ⟨_, .inl rfl, rfl, ?_, ?_⟩
      · intro ds hd
        rw [List.mem_singleton.mp hd]
        exact hJ'.flat
      · exact ⟨.inl rfl, hq t J' hT hJ'⟩
end
end K77
end
section
namespace K77
open PySem PySem.Spec PyProof.Rows L2 DL
local macro_rules | `(tactic| walk_at "bn") => `(tactic| first
  | assumption
  | (apply Bn.add <;> walk_at "bn")
  | (apply Bn.sub <;> walk_at "bn")
  | (apply Bn.mul <;> walk_at "bn")
  | (apply Bn.neg; walk_at "bn")
  | exact Bn.lit (by decide))
local macro_rules | `(tactic| walk_at "cm") => `(tactic| (apply Bn.cmul; (focus walk_at "bn"); (focus walk_at "bn"); (focus decide)))
local macro_rules | `(tactic| walk_at "st") => `(tactic| first
  | (refine put_e ?_; intro δ1 e; simp only [List.set_cons_zero, List.set_cons_succ, wipeD, List.map_cons, List.map_nil] at e; subst e)
  | refine ⟨_, rfl, ?_⟩
  | (refine ⟨_, _, rfl, rfl, ?cm, ?_⟩; (case cm => walk_at "cm"))
  | refine ⟨_, _, rfl, rfl, ?_⟩
  | refine ⟨_, rfl, rfl, ?_⟩
  | refine ⟨_, _, rfl, ?_⟩
  | refine ⟨_, _, _, rfl, ?_⟩
  | refine ⟨_, _, .inl rfl, ?_⟩
  | refine ⟨_, .inl rfl, ?_⟩
  | refine ⟨_, .inr rfl, ?_⟩
  | refine ⟨rfl, ?_⟩
  | refine ⟨_, _, _, rfl, rfl, rfl, ?_⟩
  | refine if_t rfl ?_
  | refine if_f rfl ?_)
local macro_rules | `(tactic| walk_at "ph") => `(tactic| ((try unfold aNil); (try dsimp only)))
local macro_rules | `(tactic| walk_at "ph2") => `(tactic| (dsimp only [aNil, aCons, dC]))
section
variable {P : Program} {w : World} {K : PySem.W.Frag} {mg : Str → Option Value} {base : Heap} {T : List (Addr × Str)}
/-- a comprehension that draws its numbers from the jug -/
theorem lc_draw {gd : DG} {φt : DT} {φe : DE} {δw : Dl} {ds : List D} {Q : D → Mu → Prop} {n : Nat} {J : List D} (C : Int → Prop) (hJ : JugB n J) (hl : ds.length ≤ 10)
    (step : ∀ i x J1, ds[i]? = some x → JugB (n + i) J1 → ∀ (R : D → Mu → Prop) (N : Mu → Prop), (∀ r J2, C r → JugB (n + i + 1) J2 → R (.int r) [J2]) → gd x δw [J1] fun δ2 mu2 => φt δ2 mu2 fun b mu3 => if b = true then φe δ2 mu3 R else N mu3)
    (fin : ∀ (es : List Int) J2, es.length = ds.length → (∀ e ∈ es, C e) → JugB (n + ds.length) J2 → Q (.lst (es.map D.int)) [J2]) : LcBody gd φt φe δw ds Q [J] := by
  refine ⟨fun i acc mu => ∃ (es : List Int) (J1 : List D), acc = es.map D.int ∧ es.length = i ∧ (∀ e ∈ es, C e) ∧ JugB (n + i) J1 ∧ mu = [J1], ⟨[], J, rfl, rfl, (fun e h => nomatch h), hJ, rfl⟩, ?_, ?_⟩
  · rintro i x acc mu hx ⟨es, J1, rfl, hlen, hC, hJ1, rfl⟩
    have hi : i < ds.length := (List.getElem?_eq_some_iff.mp hx).1
    refine step i x J1 hx hJ1 (fun y mu4 => (es.map D.int).length < sizeLine ∧ DL.pure y = true ∧ ∃ (es' : List Int) (J2 : List D), es.map D.int ++ [y] = es'.map D.int ∧ es'.length = i + 1 ∧ (∀ e ∈ es', C e) ∧ JugB (n + (i + 1)) J2 ∧ mu4 = [J2]) (fun mu3 => ∃ (es' : List Int) (J2 : List D), es.map D.int = es'.map D.int ∧ es'.length = i + 1 ∧ (∀ e ∈ es', C e) ∧ JugB (n + (i + 1)) J2 ∧ mu3 = [J2]) fun r J2 hr hJ2 => ?_
    refine ⟨?_, rfl, es ++ [r], J2, by rw [List.map_append]; rfl, by rw [List.length_append, hlen]; rfl, fun e he => ?_, hJ2, rfl⟩
    · rw [List.length_map, hlen]
      exact Nat.lt_of_lt_of_le hi (Nat.le_trans hl (by decide))
    · rcases List.mem_append.mp he with h | h
      · exact hC e h
      · rw [List.mem_singleton.mp h]; exact hr
  · rintro acc mu ⟨es, J1, rfl, hlen, hC, hJ1, rfl⟩
    exact fin es J1 hlen hC hJ1
theorem len3i {es : List Int} (h : es.length = 3) : ∃ x y z, es = [x, y, z] := by
  rcases es with _ | ⟨x, _ | ⟨y, _ | ⟨z, _ | ⟨w, es⟩⟩⟩⟩
  · cases h
  · cases h
  · cases h
  · exact ⟨x, y, z, rfl⟩
  · simp at h
def Ph__law_form : PhiD := fun ds mu Q => ∃ (n : Nat) (J : List D), ds = [.box 0] ∧ mu = [J] ∧ JugB n J ∧ n ≤ 9000 ∧ ∀ F J', Dr F → JugB (n + 72) J' → Q F.D [J']
theorem ok__law_form (A : Al K mg base T) : FnOk P w K mg base CX0 3 A.f__law_form A.fd__law_form ["_law_jug_here"] (spD K T Ph__law_form) := by
  refine fn_d A.F__law_form sc__law_form ?len (fun cdv Ar outer s H E hr => (ssd_cons (sd_forR1 PassesOwn.never rfl sc__law_form.nd (j := 1) rfl (.inl rfl) rfl A.z_range (ad_cons ed_int ad_nil) (ssd_cons (sd_setLc (i := 2) rfl sc__law_form.nd rfl rfl (sw_true rfl rfl rfl (by decide +kernel)) (id_range1 rfl A.z_range (ad_cons ed_int ad_nil)) (blkOk_by (own := [("_law_at", 4)]) (N := N__law_form) (sc := defScope s__law_form) (by decide +kernel)) (cg_name 4) (fun _ _ _ _ _ => (pg_name (i := 4) sc__law_form.nd rfl (.inl rfl))) (fun _ _ _ _ _ => pts_yes) (fun _ _ _ _ _ => (ed_op op_add od_I0 ed_int (ed_call (ok__law_pour A) (hr.mono (by decide)) rfl A.g__law_pour A.F__law_pour.kp A.b__law_pour (ad_cons (ed_var 0 (pv 0)) (ad_cons ed_int ad_nil))))))
    (ssd_cons (sd_set (i := 3) sc__law_form.nd rfl (.inl rfl) (ed_callTy rc_tuple call_tuple_of (by rfl) A.z_tuple (by decide +kernel) (ad_cons (ed_op op_cat od_catL (ed_var 2 (pv 2)) (ed_lc rfl sc__law_form.nd (id_range1 rfl A.z_range (ad_cons ed_int ad_nil)) (blkOk_by (own := [("_law_at", 4)]) (N := N__law_form) (sc := defScope s__law_form) (by decide +kernel)) (cg_name 4) (fun _ _ _ _ _ => (pg_name (i := 4) sc__law_form.nd rfl (.inl rfl))) (fun _ _ _ _ _ => pts_yes) (fun _ _ _ _ _ => (ed_op op_sub od_I0 (ed_call (ok__law_pour A) (hr.mono (by decide)) rfl A.g__law_pour A.F__law_pour.kp A.b__law_pour (ad_cons (ed_var 0 (pv 0)) (ad_cons ed_int ad_nil))) ed_int)))) ad_nil)))
    (ssd_one (sd_if (td_val (ed_call (ok__law_is_form A) hr rfl A.g__law_is_form A.F__law_is_form.kp A.b__law_is_form (ad_cons (ed_var 3 (pv 3)) ad_nil))) (ssd_one (sd_ret (ed_var 3 (pv 3)))) ssd_nil)))))
    (ssd_one (sd_ret (ed_tup (ad_cons ed_int (ad_cons ed_int (ad_cons ed_int (ad_cons ed_int (ad_cons ed_int (ad_cons ed_int ad_nil))))))))))) ?rd
  · rintro ds mu Qd ⟨n, J, rfl, _⟩; rfl
  · rintro ds mu Qd ⟨n, J, rfl, rfl, hJ, hn, hq⟩
    refine put_e ?_; intro δ1 e; rw [st__law_form] at e; subst e
    repeat walk_at "st"
    refine ⟨⟨by decide, by decide⟩, fun i δ mu => ∃ (J' : List D) (o1 o2 o3 : Option D), δ = [some (.box 0), o1, o2, o3, none] ∧ mu = [J'] ∧ JugB (n + 6 * i) J', ⟨J, _, _, _, rfl, rfl, hJ⟩, fun i δ mu hi hP => ?p1, fun δ mu hP => ?p2⟩
    case p2 =>
      obtain ⟨J', o1, o2, o3, rfl, rfl, hJ'⟩ := hP
      repeat walk_at "st"
      refine ⟨(by decide : 6 ≤ sizeLine), ?_⟩
      exact ⟨.inl rfl, hq ⟨1, 2, 3, 0, 0, 1⟩ J' ⟨by decide, by decide, by decide, by decide, by decide, by decide, ⟨by decide, by decide, by decide⟩⟩ hJ'⟩
    case p1 =>
      obtain ⟨J1, o1, o2, o3, rfl, rfl, hJ1⟩ := hP
      have hi : i < 12 := hi
      repeat walk_at "st"
      refine ⟨⟨by decide, by decide⟩, ?_⟩
      refine lc_draw (fun r => 1 ≤ r ∧ r ≤ 6) hJ1 (by decide) (fun j x J2 hx hJ2 R N hR => ?_) fun es J3 l3 c3 hJ3 => ?_
      · have hj : j < 3 := (List.getElem?_eq_some_iff.mp hx).1
        repeat walk_at "st"
        walk_at "ph2"
        refine in__law_pour (many := 6) hJ2 (by decide) (by decide) (fun r J3 r0 r1 hJ3 => ?_) (by omega)
        repeat walk_at "st"
        exact hR _ _ (by omega) hJ3
      obtain ⟨a, b, c, rfl⟩ := len3i l3
      have ca := c3 a (by simp)
      have cb := c3 b (by simp)
      have cc := c3 c (by simp)
      have hJ3 : JugB (n + 6 * i + 3) J3 := hJ3
      repeat walk_at "st"
      refine ⟨⟨by decide, by decide⟩, ?_⟩
      refine lc_draw (fun r => -4 ≤ r ∧ r ≤ 4) hJ3 (by decide) (fun j x J2 hx hJ2 R N hR => ?_) fun es J4 l4 c4 hJ4 => ?_
      · have hj : j < 3 := (List.getElem?_eq_some_iff.mp hx).1
        repeat walk_at "st"
        walk_at "ph2"
        refine in__law_pour (many := 9) hJ2 (by decide) (by decide) (fun r J3 r0 r1 hJ3 => ?_) (by omega)
        repeat walk_at "st"
        exact hR _ _ (by omega) hJ3
      obtain ⟨d, e, f, rfl⟩ := len3i l4
      have cd := c4 d (by simp)
      have ce := c4 e (by simp)
      have cf := c4 f (by simp)
      have hJ4 : JugB (n + 6 * i + 3 + 3) J4 := hJ4
      refine ⟨_, _, rfl, rfl, (by decide : 6 ≤ sizeLine), ?_⟩
      repeat walk_at "st"
      have bF : Bn6 10000 a b c d e f := ⟨(Bn.of_le (n := 4) (k := 6) (by omega) (by decide)).mono (by decide), (Bn.of_le (n := 4) (k := 6) (by omega) (by decide)).mono (by decide), (Bn.of_le (n := 4) (k := 6) (by omega) (by decide)).mono (by decide), (Bn.of_le (n := 4) (k := 6) (by omega) (by decide)).mono (by decide), (Bn.of_le (n := 4) (k := 6) (by omega) (by decide)).mono (by decide), (Bn.of_le (n := 4) (k := 6) (by omega) (by decide)).mono (by decide)⟩
      refine ⟨⟨a, b, c, d, e, f⟩, rfl, bF, fun bb hb => ?_⟩
      refine ⟨bb, rfl, ?_⟩
      cases bb with
      | true =>
        have F := hb.mp rfl
        have fb := F.pb
        simp only at fb
        refine if_t rfl ?_
        exact ⟨D.tup [.int a, .int b, .int c, .int d, .int e, .int f], rfl, .inl rfl, hq ⟨a, b, c, d, e, f⟩ J4 ⟨ca, cb, cc, cd, ce, cf, F.pa, by unfold wid; simp only; omega, F.pc⟩ (hJ4.mono (by omega))⟩
      | false =>
        refine if_f rfl ?_
        exact ⟨J4, _, _, _, rfl, rfl, hJ4.mono (by omega)⟩
end
end K77
end
section
namespace K77
open PySem PySem.Spec PyProof.Rows L2 DL
local macro_rules | `(tactic| walk_at "bn") => `(tactic| first
  | assumption
  | (apply Bn.add <;> walk_at "bn")
  | (apply Bn.sub <;> walk_at "bn")
  | (apply Bn.mul <;> walk_at "bn")
  | (apply Bn.neg; walk_at "bn")
  | exact Bn.lit (by decide))
local macro_rules | `(tactic| walk_at "cm") => `(tactic| (apply Bn.cmul; (focus walk_at "bn"); (focus walk_at "bn"); (focus decide)))
local macro_rules | `(tactic| walk_at "st") => `(tactic| first
  | (refine put_e ?_; intro δ1 e; simp only [List.set_cons_zero, List.set_cons_succ, wipeD, List.map_cons, List.map_nil] at e; subst e)
  | refine ⟨_, rfl, ?_⟩
  | (refine ⟨_, _, rfl, rfl, ?cm, ?_⟩; (case cm => walk_at "cm"))
  | refine ⟨_, _, rfl, rfl, ?_⟩
  | refine ⟨_, rfl, rfl, ?_⟩
  | refine ⟨_, _, rfl, ?_⟩
  | refine ⟨_, _, _, rfl, ?_⟩
  | refine ⟨_, _, .inl rfl, ?_⟩
  | refine ⟨_, .inl rfl, ?_⟩
  | refine ⟨_, .inr rfl, ?_⟩
  | refine ⟨rfl, ?_⟩
  | refine ⟨_, _, _, rfl, rfl, rfl, ?_⟩
  | refine if_t rfl ?_
  | refine if_f rfl ?_)
local macro_rules | `(tactic| walk_at "ph") => `(tactic| ((try unfold aNil); (try dsimp only)))
local macro_rules | `(tactic| walk_at "ph2") => `(tactic| (dsimp only [aNil, aCons, dC]))
section
variable {P : Program} {w : World} {K : PySem.W.Frag} {mg : Str → Option Value} {base : Heap} {T : List (Addr × Str)}
/-! ### values near a table -/
inductive En : D → Prop
  | int (i : Int) : Bn 3100 i → En (.int i)
  | non : En .non
  | bl (b : Bool) : En (.bl b)
  | str : En (.str "0")
inductive Ro : D → Prop
  | tup (es : List D) : (∀ e ∈ es, En e) → Ro (.tup es)
  | lst (es : List D) : (∀ e ∈ es, En e) → Ro (.lst es)
inductive Ta : D → Prop
  | en (d : D) : En d → Ta d
  | tup (es : List D) : (∀ e ∈ es, Ro e) → Ta (.tup es)
  | lst (es : List D) : (∀ e ∈ es, Ro e) → Ta (.lst es)
structure NearOk (d : D) : Prop where
  lay : lay d
  told : toldT d = true
  bd : ∀ t : Tb, d = t.D → Bd 3100 t
theorem lay_seq {es : List D} {n : Nat} (h : ∀ d ∈ es, DL.pure d = true ∧ PyData.canLay0 (toP d) = true ∧ (toP d).depth ≤ n) : pureAll es = true ∧ PyData.canLayAll0 (toPs es) = true ∧ PyData.depthAll (toPs es) ≤ n := by
  induction es with
  | nil => exact ⟨rfl, rfl, Nat.zero_le _⟩
  | cons d es ih =>
    obtain ⟨h1, h2, h3⟩ := ih fun x hx => h x (by simp [hx])
    obtain ⟨k1, k2, k3⟩ := h d (by simp)
    refine ⟨?_, ?_, ?_⟩
    · show (DL.pure d && pureAll es) = true
      rw [k1, h1]; rfl
    · show (PyData.canLay0 (toP d) && PyData.canLayAll0 (toPs es)) = true
      rw [k2, h2]; rfl
    · show max (toP d).depth (PyData.depthAll (toPs es)) ≤ n
      omega
theorem En.lay {d : D} (h : En d) : DL.pure d = true ∧ PyData.canLay0 (toP d) = true ∧ (toP d).depth ≤ 0 := by
  cases h with
  | int i _ => exact ⟨rfl, rfl, Nat.le_refl _⟩
  | non => exact ⟨rfl, rfl, Nat.le_refl _⟩
  | bl b => exact ⟨rfl, rfl, Nat.le_refl _⟩
  | str => exact ⟨rfl, by decide +kernel, Nat.le_refl _⟩
theorem En.told {d : D} (h : En d) : told d = true := by cases h <;> rfl
theorem Ro.lay {d : D} (h : Ro d) : DL.pure d = true ∧ PyData.canLay0 (toP d) = true ∧ (toP d).depth ≤ 1 := by
  cases h with
  | tup es h =>
    obtain ⟨h1, h2, h3⟩ := lay_seq fun d hd => (h d hd).lay
    exact ⟨h1, h2, Nat.succ_le_succ h3⟩
  | lst es h =>
    obtain ⟨h1, h2, h3⟩ := lay_seq fun d hd => (h d hd).lay
    exact ⟨h1, h2, Nat.succ_le_succ h3⟩
theorem Ro.told {d : D} (h : Ro d) : toldA d = true := by
  cases h with
  | tup es h => exact List.all_eq_true.mpr fun d hd => (h d hd).told
  | lst es h => rfl
theorem Ro.bd {p : Pt} (h : Ro p.D) : Bn3 3100 p.x p.y p.z := by
  have k : ∀ {i : Int}, En (.int i) → Bn 3100 i := fun {i} h => by cases h; assumption
  cases h with
  | tup es h => exact ⟨k (h _ (by simp)), k (h _ (by simp)), k (h _ (by simp))⟩
theorem Ta.ok {d : D} (h : Ta d) : NearOk d := by
  cases h with
  | en d h =>
    obtain ⟨h1, h2, h3⟩ := h.lay
    refine ⟨⟨h1, h2, Nat.le_trans h3 (by decide)⟩, ?_, ?_⟩
    · cases h <;> rfl
    · intro t e; subst e; cases h
  | tup es h =>
    obtain ⟨h1, h2, h3⟩ := lay_seq fun d hd => (h d hd).lay
    refine ⟨⟨h1, h2, Nat.le_trans (Nat.succ_le_succ h3) (by decide)⟩, List.all_eq_true.mpr fun d hd => (h d hd).told, ?_⟩
    intro t e
    rw [D.tup.injEq] at e
    subst e
    exact ⟨(h t.u.D (by simp)).bd, (h t.v.D (by simp)).bd, (h t.w.D (by simp)).bd⟩
  | lst es h =>
    obtain ⟨h1, h2, h3⟩ := lay_seq fun d hd => (h d hd).lay
    refine ⟨⟨h1, h2, Nat.le_trans (Nat.succ_le_succ h3) (by decide)⟩, rfl, ?_⟩
    intro t e; cases e
theorem cut_mem {α : Type} {l : List α} {lo hi : Option Int} {x : α} (h : x ∈ DL.cutD l lo hi) : x ∈ l := List.mem_of_mem_drop (List.mem_of_mem_take h)
theorem cut_len {α : Type} (l : List α) (lo hi : Option Int) : (DL.cutD l lo hi).length ≤ l.length := by
  unfold DL.cutD
  rw [List.length_take, List.length_drop]
  omega
theorem ro_pt {p : Pt} (h : Bn3 3000 p.x p.y p.z) : Ro p.D := .tup _ fun e he => by
  simp only [List.mem_cons, List.not_mem_nil, or_false] at he
  rcases he with rfl | rfl | rfl
  · exact .int _ (h.x.mono (by decide))
  · exact .int _ (h.y.mono (by decide))
  · exact .int _ (h.z.mono (by decide))
def Ph__law_near : PhiD := fun ds mu Q => ∃ (n : Nat) (J : List D) (t : Tb), ds = [.box 0, t.D] ∧ mu = [J] ∧ JugB n J ∧ n ≤ 9000 ∧ Bd 2900 t ∧ ∀ d J', NearOk d → JugB (n + 4) J' → Q d [J']
theorem ok__law_near (A : Al K mg base T) : FnOk P w K mg base CX0 3 A.f__law_near A.fd__law_near ["_law_jug_here", "_law_table_here"] (spD K T Ph__law_near) := by
  refine fn_d A.F__law_near sc__law_near ?len (fun cdv Ar outer s H E hr => (ssd_cons (sd_par (i := 2) (j := 3) rfl sc__law_near.nd rfl rfl (by decide) rfl rfl (ad_cons (ed_call (ok__law_pour A) (hr.mono (by decide)) rfl A.g__law_pour A.F__law_pour.kp A.b__law_pour (ad_cons (ed_var 0 (pv 0)) (ad_cons ed_int ad_nil))) (ad_cons (ed_call (ok__law_pour A) (hr.mono (by decide)) rfl A.g__law_pour A.F__law_pour.kp A.b__law_pour (ad_cons (ed_var 0 (pv 0)) (ad_cons ed_int ad_nil))) ad_nil)) (by rfl))
    (ssd_cons (sd_set (i := 4) sc__law_near.nd rfl (.inl rfl) (ed_call (ok__law_of A) hr rfl A.g__law_of A.F__law_of.kp A.b__law_of (ad_cons (ed_var 0 (pv 0)) (ad_cons (ed_lst (ad_cons (ed_op op_add od_I0 (ed_ix (ed_ix (ed_var 1 (pv 1)) (ed_var 2 (pv 2)) (fun _ _ => rfl)) (ed_var 3 (pv 3)) (fun _ _ => rfl)) ed_int) (ad_cons (ed_op op_sub od_I0 ed_int (ed_ix (ed_ix (ed_var 1 (pv 1)) (ed_var 2 (pv 2)) (fun _ _ => rfl)) (ed_var 3 (pv 3)) (fun _ _ => rfl))) (ad_cons ed_non (ad_cons ed_bl (ad_cons ed_str (ad_cons (ed_op op_powW od_I ed_int ed_int) (ad_cons ed_int ad_nil)))))))) ad_nil))))
    (ssd_cons (sd_set (i := 5) sc__law_near.nd rfl (.inl rfl) (ed_op op_catA od_catT (ed_op op_catA od_catT (ed_sl (ed_ix (ed_var 1 (pv 1)) (ed_var 2 (pv 2)) (fun _ _ => rfl)) od_none (od_some (ed_var 3 (pv 3)))) (ed_tup (ad_cons (ed_var 4 (pv 4)) ad_nil))) (ed_sl (ed_ix (ed_var 1 (pv 1)) (ed_var 2 (pv 2)) (fun _ _ => rfl)) (od_some (ed_op op_add od_I0 (ed_var 3 (pv 3)) ed_int)) od_none)))
    (ssd_cons (sd_set (i := 6) sc__law_near.nd rfl (.inl rfl) (ed_op op_cat od_catL (ed_op op_rep od_rep (ed_lst (ad_cons (ed_op op_catA od_catT (ed_op op_catA od_catT (ed_sl (ed_var 1 (pv 1)) od_none (od_some (ed_var 2 (pv 2)))) (ed_tup (ad_cons (ed_var 5 (pv 5)) ad_nil))) (ed_sl (ed_var 1 (pv 1)) (od_some (ed_op op_add od_I0 (ed_var 2 (pv 2)) ed_int)) od_none)) ad_nil)) ed_int) (ed_lst (ad_cons (ed_callTy rc_tuple call_tuple_of (by rfl) A.z_tuple (by decide +kernel) (ad_cons (ed_call (ok__law_columns A) (hr.mono (by decide)) rfl A.g__law_columns A.F__law_columns.kp A.b__law_columns (ad_cons (ed_var 1 (pv 1)) ad_nil)) ad_nil)) (ad_cons (ed_rev3 (ed_var 1 (pv 1))) (ad_cons (ed_sl (ed_var 1 (pv 1)) od_none (od_some ed_int)) (ad_cons (ed_callTy rc_list call_list_of (by rfl) A.z_list (by decide +kernel) (ad_cons (ed_var 1 (pv 1)) ad_nil)) (ad_cons ed_non (ad_cons (ed_tup ad_nil) (ad_cons ed_int ad_nil))))))))))
    (ssd_cons (sd_set (i := 6) sc__law_near.nd rfl (.inl rfl) (ed_op op_cat od_catL (ed_var 6 (pv 6)) (ed_lst (ad_cons (ed_callTy rc_tuple call_tuple_of (by rfl) A.z_tuple (by decide +kernel) (ad_cons (ed_lc rfl sc__law_near.nd (id_tup (ed_var 1 (pv 1))) (blkOk_by (own := [("_law_one", 7)]) (N := N__law_near) (sc := defScope s__law_near) (by decide +kernel)) (cg_name 7) (fun _ _ _ _ _ => (pg_name (i := 7) sc__law_near.nd rfl (.inl rfl))) (fun _ _ _ _ _ => pts_yes) (fun _ _ _ _ _ => (ed_callTy rc_tuple call_tuple_of (by rfl) A.z_tuple (by decide +kernel) (ad_cons (ed_lc rfl sc__law_near.nd (id_tup (ed_var 7 (pv 7))) (blkOk_in (own := [("_law_x", 8)]) (N := N__law_near) rfl (sc0 := defScope s__law_near) rfl (by decide +kernel)) (cg_name 8) (fun _ _ _ _ _ => (pg_name (i := 8) sc__law_near.nd rfl (.inl rfl))) (fun _ _ _ _ _ => pts_yes) (fun _ _ _ _ _ => (ed_op op_sub od_I0 ed_int (ed_var 8 (pv 8))))) ad_nil)))) ad_nil)) (ad_cons (ed_callTy rc_tuple call_tuple_of (by rfl) A.z_tuple (by decide +kernel) (ad_cons (ed_lc rfl sc__law_near.nd (id_tup (ed_var 1 (pv 1))) (blkOk_by (own := [("_law_one", 7)]) (N := N__law_near) (sc := defScope s__law_near) (by decide +kernel)) (cg_name 7) (fun _ _ _ _ _ => (pg_name (i := 7) sc__law_near.nd rfl (.inl rfl))) (fun _ _ _ _ _ => pts_yes) (fun _ _ _ _ _ => (ed_callTy rc_list call_list_of (by rfl) A.z_list (by decide +kernel) (ad_cons (ed_var 7 (pv 7)) ad_nil)))) ad_nil)) (ad_cons (ed_op op_catA od_catT (ed_var 1 (pv 1)) (ed_sl (ed_var 1 (pv 1)) od_none (od_some ed_int))) ad_nil))))))
    (ssd_one (sd_ret (ed_call (ok__law_of A) hr rfl A.g__law_of A.F__law_of.kp A.b__law_of (ad_cons (ed_var 0 (pv 0)) (ad_cons (ed_var 6 (pv 6)) ad_nil))))))))))) ?rd
  · rintro ds mu Qd ⟨n, J, t, rfl, _⟩; rfl
  · rintro ds mu Qd ⟨n, J, t, rfl, rfl, hJ, hn, bt, hq⟩
    refine put_e ?_; intro δ1 e; rw [st__law_near] at e; subst e
    repeat walk_at "st"
    walk_at "ph2"
    refine in__law_pour (many := 3) hJ (by decide) (by decide) (fun a J1 a0 a1 hJ1 => ?_) (by omega)
    repeat walk_at "st"
    walk_at "ph2"
    refine in__law_pour (many := 3) hJ1 (by decide) (by decide) (fun s J2 s0 s1 hJ2 => ?_) (by omega)
    repeat walk_at "st"
    obtain ⟨rd, hr, ar⟩ := atI_in (l := [t.u.D, t.v.D, t.w.D]) a0 a1
    obtain ⟨p, rfl, bp⟩ : ∃ p : Pt, rd = p.D ∧ Bn3 2900 p.x p.y p.z := by
      simp only [List.mem_cons, List.not_mem_nil, or_false] at hr
      rcases hr with rfl | rfl | rfl
      · exact ⟨_, rfl, bt.u⟩
      · exact ⟨_, rfl, bt.v⟩
      · exact ⟨_, rfl, bt.w⟩
    obtain ⟨ed, he, ae⟩ := atI_in (l := [D.int p.x, D.int p.y, D.int p.z]) s0 s1
    obtain ⟨e, rfl, be⟩ : ∃ e : Int, ed = .int e ∧ Bn 2900 e := by
      simp only [List.mem_cons, List.not_mem_nil, or_false] at he
      rcases he with rfl | rfl | rfl
      · exact ⟨_, rfl, bp.x⟩
      · exact ⟨_, rfl, bp.y⟩
      · exact ⟨_, rfl, bp.z⟩
    refine ⟨_, _, _, rfl, rfl, ar, ?_⟩
    repeat walk_at "st"
    refine ⟨_, _, _, rfl, rfl, ae, ?_⟩
    repeat walk_at "st"
    refine ⟨_, _, _, rfl, rfl, ar, ?_⟩
    repeat walk_at "st"
    refine ⟨_, _, _, rfl, rfl, ae, ?_⟩
    repeat walk_at "st"
    refine ⟨⟨by decide, by decide⟩, ?_⟩
    repeat walk_at "st"
    refine ⟨(by decide : 7 ≤ sizeLine), ?_⟩
    repeat walk_at "st"
    walk_at "ph2"
    refine in__law_of hJ2 (by decide : 0 < 7) (by decide : 7 ≤ 1000) (fun bad J3 hb hJ3 => ?_) (by omega)
    have eb : En bad := by
      simp only [List.mem_cons, List.not_mem_nil, or_false] at hb
      rcases hb with rfl | rfl | rfl | rfl | rfl | rfl | rfl
      · exact .int _ ((be.add (Bn.of_le (n := 2) (k := 1) (by decide) (by decide))).mono (by decide))
      · exact .int _ (((Bn.of_le (n := 2) (k := 0) (by decide) (by decide)).sub be).mono (by decide))
      · exact .non
      · exact .bl _
      · exact .str
      · exact .int _ ((Bn.lit (by decide +kernel)).mono (by decide))
      · exact .int _ ((Bn.of_le (n := 2) (k := 0) (by decide) (by decide)).mono (by decide))
    repeat walk_at "st"
    refine ⟨_, _, _, rfl, rfl, ar, ?_⟩
    repeat walk_at "st"
    refine .inl ⟨_, rfl, ?_⟩
    repeat walk_at "st"
    refine ⟨(by decide : 1 ≤ sizeLine), ?_⟩
    have c1 := cut_len [D.int p.x, D.int p.y, D.int p.z] none (some s)
    have c2 := cut_len [D.int p.x, D.int p.y, D.int p.z] (some (s + 1)) none
    have c3 := cut_len [t.u.D, t.v.D, t.w.D] none (some a)
    have c4 := cut_len [t.u.D, t.v.D, t.w.D] (some (a + 1)) none
    have big : ∀ {n : Nat}, n ≤ 100 → n ≤ sizeLine := fun h => Nat.le_trans h (by decide)
    refine ⟨_, _, rfl, rfl, ?_, ?_⟩
    · refine big ?_
      simp only [List.length_cons, List.length_nil] at c1 ⊢
      omega
    repeat walk_at "st"
    refine ⟨_, _, _, rfl, rfl, ar, ?_⟩
    repeat walk_at "st"
    refine .inl ⟨_, rfl, ?_⟩
    refine ⟨_, _, rfl, rfl, ?_, ?_⟩
    · refine big ?_
      simp only [List.length_append, List.length_cons, List.length_nil] at c1 c2 ⊢
      omega
    have oR : Ro (.tup (DL.cutD [D.int p.x, D.int p.y, D.int p.z] none (some s) ++ [bad] ++ DL.cutD [D.int p.x, D.int p.y, D.int p.z] (some (s + 1)) none)) := by
      have ei : ∀ x ∈ [D.int p.x, D.int p.y, D.int p.z], En x := fun x hx => by
        simp only [List.mem_cons, List.not_mem_nil, or_false] at hx
        rcases hx with rfl | rfl | rfl
        · exact .int _ (bp.x.mono (by decide))
        · exact .int _ (bp.y.mono (by decide))
        · exact .int _ (bp.z.mono (by decide))
      refine .tup _ fun x hx => ?_
      rcases List.mem_append.mp hx with hx | hx
      · rcases List.mem_append.mp hx with hx | hx
        · exact ei x (cut_mem hx)
        · rw [List.mem_singleton.mp hx]; exact eb
      · exact ei x (cut_mem hx)
    generalize D.tup (DL.cutD [D.int p.x, D.int p.y, D.int p.z] none (some s) ++ [bad] ++ DL.cutD [D.int p.x, D.int p.y, D.int p.z] (some (s + 1)) none) = R at oR ⊢
    repeat walk_at "st"
    refine .inl ⟨_, rfl, ?_⟩
    repeat walk_at "st"
    refine ⟨(by decide : 1 ≤ sizeLine), ?_⟩
    refine ⟨_, _, rfl, rfl, ?_, ?_⟩
    · refine big ?_
      simp only [List.length_cons, List.length_nil] at c3 ⊢
      omega
    repeat walk_at "st"
    refine .inl ⟨_, rfl, ?_⟩
    refine ⟨_, _, rfl, rfl, ?_, ?_⟩
    · refine big ?_
      simp only [List.length_append, List.length_cons, List.length_nil] at c3 c4 ⊢
      omega
    have rows : ∀ x ∈ [t.u.D, t.v.D, t.w.D], Ro x := fun x hx => by
      simp only [List.mem_cons, List.not_mem_nil, or_false] at hx
      rcases hx with rfl | rfl | rfl
      · exact ro_pt (bt.u.mono (by decide))
      · exact ro_pt (bt.v.mono (by decide))
      · exact ro_pt (bt.w.mono (by decide))
    have tX : Ta (.tup (DL.cutD [t.u.D, t.v.D, t.w.D] none (some a) ++ [R] ++ DL.cutD [t.u.D, t.v.D, t.w.D] (some (a + 1)) none)) := by
      refine .tup _ fun x hx => ?_
      rcases List.mem_append.mp hx with hx | hx
      · rcases List.mem_append.mp hx with hx | hx
        · exact rows x (cut_mem hx)
        · rw [List.mem_singleton.mp hx]; exact oR
      · exact rows x (cut_mem hx)
    generalize D.tup (DL.cutD [t.u.D, t.v.D, t.w.D] none (some a) ++ [R] ++ DL.cutD [t.u.D, t.v.D, t.w.D] (some (a + 1)) none) = X at tX ⊢
    repeat walk_at "st"
    refine ⟨(by decide : 1 ≤ sizeLine), ?_⟩
    refine ⟨_, _, rfl, rfl, by decide, by decide, (by decide : 1 * 3 ≤ sizeLine), ?_⟩
    repeat walk_at "st"
    refine .inl ⟨_, rfl, ?_⟩
    repeat walk_at "st"
    refine ⟨Nat.zero_le _, ?_⟩
    repeat walk_at "st"
    refine ⟨(by decide : 7 ≤ sizeLine), ?_⟩
    refine ⟨_, _, rfl, rfl, (by decide : 3 + 7 ≤ sizeLine), ?_⟩
    have c5 := cut_len [t.u.D, t.v.D, t.w.D] none (some 2)
    have tC : Ta (.tup (DL.cutD [t.u.D, t.v.D, t.w.D] none (some 2))) := .tup _ fun x hx => rows x (cut_mem hx)
    generalize D.tup (DL.cutD [t.u.D, t.v.D, t.w.D] none (some 2)) = Y at tC ⊢
    repeat walk_at "st"
    refine lc_fix [(⟨0 - t.u.x, 0 - t.u.y, 0 - t.u.z⟩ : Pt).D, (⟨0 - t.v.x, 0 - t.v.y, 0 - t.v.z⟩ : Pt).D, (⟨0 - t.w.x, 0 - t.w.y, 0 - t.w.z⟩ : Pt).D] ?_ three rfl ?_
    · refine ⟨?_, ?_, ?_, trivial⟩
      · intro R N hR
        repeat walk_at "st"
        refine lc_fix [.int (0 - t.u.x), .int (0 - t.u.y), .int (0 - t.u.z)] ?_ three rfl ?_
        · refine ⟨?_, ?_, ?_, trivial⟩ <;> (intro R N hR; repeat walk_at "st") <;> exact hR
        repeat walk_at "st"
        exact hR
      · intro R N hR
        repeat walk_at "st"
        refine lc_fix [.int (0 - t.v.x), .int (0 - t.v.y), .int (0 - t.v.z)] ?_ three rfl ?_
        · refine ⟨?_, ?_, ?_, trivial⟩ <;> (intro R N hR; repeat walk_at "st") <;> exact hR
        repeat walk_at "st"
        exact hR
      · intro R N hR
        repeat walk_at "st"
        refine lc_fix [.int (0 - t.w.x), .int (0 - t.w.y), .int (0 - t.w.z)] ?_ three rfl ?_
        · refine ⟨?_, ?_, ?_, trivial⟩ <;> (intro R N hR; repeat walk_at "st") <;> exact hR
        repeat walk_at "st"
        exact hR
    repeat walk_at "st"
    refine lc_fix [.lst [.int t.u.x, .int t.u.y, .int t.u.z], .lst [.int t.v.x, .int t.v.y, .int t.v.z], .lst [.int t.w.x, .int t.w.y, .int t.w.z]] ?_ three rfl ?_
    · refine ⟨?_, ?_, ?_, trivial⟩ <;> (intro R N hR; repeat walk_at "st") <;> exact hR
    repeat walk_at "st"
    refine .inl ⟨_, rfl, ?_⟩
    have c6 := cut_len [t.u.D, t.v.D, t.w.D] none (some 1)
    refine ⟨_, _, rfl, rfl, ?_, ?_⟩
    · refine big ?_
      simp only [List.length_cons, List.length_nil] at c6 ⊢
      omega
    have tZ : Ta (.tup ([t.u.D, t.v.D, t.w.D] ++ DL.cutD [t.u.D, t.v.D, t.w.D] none (some 1))) := .tup _ fun x hx => (List.mem_append.mp hx).elim (rows x) fun h => rows x (cut_mem h)
    generalize D.tup ([t.u.D, t.v.D, t.w.D] ++ DL.cutD [t.u.D, t.v.D, t.w.D] none (some 1)) = Z at tZ ⊢
    repeat walk_at "st"
    refine ⟨three, ?_⟩
    refine ⟨_, _, rfl, rfl, (by decide : 10 + 3 ≤ sizeLine), ?_⟩
    repeat walk_at "st"
    walk_at "ph2"
    refine in__law_of hJ3 (by decide : 0 < 13) (by decide : 13 ≤ 1000) (fun d J4 hd hJ4 => ⟨.inr rfl, hq d J4 ?_ hJ4⟩) (by omega)
    refine Ta.ok ?_
    rcases List.mem_append.mp hd with hd | hd
    · rcases List.mem_append.mp hd with hd | hd
      · have hd : d ∈ [X, X, X] := hd
        simp only [List.mem_cons, List.not_mem_nil, or_false] at hd
        rcases hd with rfl | rfl | rfl <;> exact tX
      · simp only [List.mem_cons, List.not_mem_nil, or_false] at hd
        rcases hd with rfl | rfl | rfl | rfl | rfl | rfl | rfl
        · have bc := bt.tr
          refine .tup _ fun x hx => ?_
          simp only [List.mem_cons, List.not_mem_nil, or_false] at hx
          rcases hx with rfl | rfl | rfl
          · exact ro_pt (bc.u.mono (by decide))
          · exact ro_pt (bc.v.mono (by decide))
          · exact ro_pt (bc.w.mono (by decide))
        · refine .tup _ fun x hx => rows x ?_
          simp only [List.mem_cons, List.not_mem_nil, or_false] at hx ⊢
          rcases hx with rfl | rfl | rfl <;> simp
        · exact tC
        · exact .lst _ rows
        · exact .en _ .non
        · exact .tup _ fun x hx => nomatch hx
        · exact .en _ (.int _ ((Bn.of_le (n := 2) (k := 1) (by decide) (by decide)).mono (by decide)))
    · have bz : Bn 2 (0 : Int) := Bn.of_le (k := 0) (by decide) (by decide)
      have ng : ∀ {q : Pt}, Bn3 2900 q.x q.y q.z → Ro (⟨0 - q.x, 0 - q.y, 0 - q.z⟩ : Pt).D := fun {q} h => ro_pt ⟨(bz.sub h.x).mono (by decide), (bz.sub h.y).mono (by decide), (bz.sub h.z).mono (by decide)⟩
      have ls : ∀ {q : Pt}, Bn3 2900 q.x q.y q.z → Ro (.lst [.int q.x, .int q.y, .int q.z]) := fun {q} h => .lst _ fun e he => by
        simp only [List.mem_cons, List.not_mem_nil, or_false] at he
        rcases he with rfl | rfl | rfl
        · exact .int _ (h.x.mono (by decide))
        · exact .int _ (h.y.mono (by decide))
        · exact .int _ (h.z.mono (by decide))
      simp only [List.mem_cons, List.not_mem_nil, or_false] at hd
      rcases hd with rfl | rfl | rfl
      · refine .tup _ fun x hx => ?_
        simp only [List.mem_cons, List.not_mem_nil, or_false] at hx
        rcases hx with rfl | rfl | rfl
        · exact ng bt.u
        · exact ng bt.v
        · exact ng bt.w
      · refine .tup _ fun x hx => ?_
        simp only [List.mem_cons, List.not_mem_nil, or_false] at hx
        rcases hx with rfl | rfl | rfl
        · exact ls bt.u
        · exact ls bt.v
        · exact ls bt.w
      · exact tZ
end
end K77
end
section
namespace K77
open PySem PySem.Spec PyProof.Rows L2 DL
local macro_rules | `(tactic| walk_at "bn") => `(tactic| first
  | assumption
  | (apply Bn.add <;> walk_at "bn")
  | (apply Bn.sub <;> walk_at "bn")
  | (apply Bn.mul <;> walk_at "bn")
  | (apply Bn.neg; walk_at "bn")
  | exact Bn.lit (by decide))
local macro_rules | `(tactic| walk_at "cm") => `(tactic| (apply Bn.cmul; (focus walk_at "bn"); (focus walk_at "bn"); (focus decide)))
local macro_rules | `(tactic| walk_at "st") => `(tactic| first
  | (refine put_e ?_; intro δ1 e; simp only [List.set_cons_zero, List.set_cons_succ, wipeD, List.map_cons, List.map_nil] at e; subst e)
  | refine ⟨_, rfl, ?_⟩
  | (refine ⟨_, _, rfl, rfl, ?cm, ?_⟩; (case cm => walk_at "cm"))
  | refine ⟨_, _, rfl, rfl, ?_⟩
  | refine ⟨_, rfl, rfl, ?_⟩
  | refine ⟨_, _, rfl, ?_⟩
  | refine ⟨_, _, _, rfl, ?_⟩
  | refine ⟨_, _, .inl rfl, ?_⟩
  | refine ⟨_, .inl rfl, ?_⟩
  | refine ⟨_, .inr rfl, ?_⟩
  | refine ⟨rfl, ?_⟩
  | refine ⟨_, _, _, rfl, rfl, rfl, ?_⟩
  | refine if_t rfl ?_
  | refine if_f rfl ?_)
local macro_rules | `(tactic| walk_at "ph") => `(tactic| ((try unfold aNil); (try dsimp only)))
local macro_rules | `(tactic| walk_at "ph2") => `(tactic| (dsimp only [aNil, aCons, dC]))
section
variable {P : Program} {w : World} {K : PySem.W.Frag} {mg : Str → Option Value} {base : Heap} {T : List (Addr × Str)}
theorem cut_map {α β : Type} (f : α → β) (l : List α) (lo hi : Option Int) : DL.cutD (l.map f) lo hi = (DL.cutD l lo hi).map f := by
  unfold DL.cutD
  rw [List.map_take, List.map_drop, List.length_map]
def Ph__law_jug : PhiD := fun ds mu Q => ∃ (ns : List Int) (k : Nat), ds = [.scr (ns.map D.int), .int (k : Int)] ∧ k ≤ 2 ∧ ∀ J, JugB 0 J → Q (.lst J) mu
theorem ok__law_jug (A : Al K mg base T) : FnOk P w K mg base CX0 1 A.f__law_jug A.fd__law_jug ["_law_script", "_law_spot"] (spN K T Ph__law_jug) := by
  refine fn_dN A.F__law_jug sc__law_jug ?len (fun cdv Ar outer s H E hr => (ssd_cons (sd_set (i := 2) sc__law_jug.nd rfl (.inl rfl) (ed_if (td_cmp op_lt od_B (ed_var 1 (pv 1)) (ed_callB rc_len call_len_seq (by rfl) A.z_len (by decide +kernel) (ad_cons (ed_var 0 (pv 0)) ad_nil)) (nomark _)) (ed_callTy rc_int call_int1 (by rfl) A.z_int (by decide +kernel) (ad_cons (ed_ix (ed_var 0 (pv 0)) (ed_var 1 (pv 1)) (fun _ _ => rfl)) ad_nil)) (ed_op op_add od_I0 (ed_op op_add od_I0 (ed_op op_mulW od_I ed_int (ed_var 1 (pv 1))) ed_int) (ed_op op_mod od_I (ed_callTy rc_int call_int1 (by rfl) A.z_int (by decide +kernel) (ad_cons (ed_callB rc_sum (cr_sum rfl) (by rfl) A.z_sum (by decide +kernel) (ad_cons (ed_sl (ed_var 0 (pv 0)) od_none (od_some ed_int)) ad_nil)) ad_nil)) ed_int))))
    (ssd_cons (sd_set (i := 3) sc__law_jug.nd rfl (.inl rfl) (ed_op op_mod od_I (ed_callTy rc_int call_int1 (by rfl) A.z_int (by decide +kernel) (ad_cons (ed_callB rc_abs call_abs (by rfl) A.z_abs (by decide +kernel) (ad_cons (ed_var 2 (pv 2)) ad_nil)) ad_nil)) (ed_op op_powW od_I (ed_op op_powW od_I ed_int ed_int) ed_int)))
    (ssd_cons (sd_set (i := 4) sc__law_jug.nd rfl (.inl rfl) (ed_op op_mod od_I (ed_callTy rc_int call_int1 (by rfl) A.z_int (by decide +kernel) (ad_cons (ed_op op_add od_I0 (ed_op op_add od_I0 (ed_op op_add od_I0 (ed_op op_mulW od_I (ed_op op_mod od_I (ed_var 3 (pv 3)) ed_int) ed_int) (ed_op op_mulW od_I ed_int (ed_var 1 (pv 1)))) (ed_op op_mulW od_I ed_int (ed_callTy rc_int call_int1 (by rfl) A.z_int (by decide +kernel) (ad_cons (ed_cmp op_lt od_B (ed_var 2 (pv 2)) ed_int (nomark _)) ad_nil)))) ed_int) ad_nil)) ed_int))
    (ssd_one (sd_retB (nd_lst (ad_cons (ed_callB rc_max2 (call_max2 rfl) (by rfl) A.z_max (by decide +kernel) (ad_cons ed_int (ad_cons (ed_op op_sub od_I0 (ed_var 3 (pv 3)) (ed_op op_powW od_I ed_int ed_int)) ad_nil))) (ad_cons (ed_var 4 (pv 4)) (ad_cons ed_int ad_nil)))))))))) ?rd
  · rintro ds mu Qd ⟨ns, k, rfl, _⟩; rfl
  · rintro ds mu Qd ⟨ns, k, rfl, hk, hq⟩
    refine put_e ?_; intro δ1 e; rw [st__law_jug] at e; subst e
    have bk : Bn 10 (k : Int) := Bn.of_le (k := 2) (by omega) (by decide)
    have pwp : (0 : Int) < (10 ^ Int.toNat 59) ^ Int.toNat 8 := by decide +kernel
    repeat walk_at "st"
    by_cases hl : (k : Int) < ((ns.map D.int).length : Nat)
    · refine if_t (decide_eq_true hl) ?_
      have hk2 : k < ns.length := by rw [List.length_map] at hl; omega
      have ix : L2.atI (ns.map D.int) (k : Int) = some (D.int ns[k]) := L2.atI_nat (by rw [List.getElem?_map, List.getElem?_eq_getElem hk2]; rfl)
      generalize ns[k] = cell at ix
      repeat walk_at "st"
      refine ⟨_, _, _, rfl, rfl, ix, ?_⟩
      refine .inl ⟨_, rfl, ?_⟩
      repeat walk_at "st"
      refine .inl ⟨_, rfl, ?_⟩
      repeat walk_at "st"
      refine ⟨⟨by decide, by decide +kernel⟩, ?_⟩
      refine ⟨_, _, rfl, rfl, ⟨by decide, by decide +kernel⟩, ?_⟩
      refine ⟨_, _, rfl, rfl, pwp, ?_⟩
      have g0 := Int.emod_nonneg (if cell < 0 then -cell else cell) (Int.ne_of_gt pwp)
      have g1 := Int.emod_lt_of_pos (if cell < 0 then -cell else cell) pwp
      have bg : Bn 1600 ((if cell < 0 then -cell else cell) % (10 ^ Int.toNat 59) ^ Int.toNat 8) := ⟨by
        have h : ((10 : Int) ^ Int.toNat 59) ^ Int.toNat 8 = (((10 ^ 59) ^ 8 : Nat) : Int) := by decide +kernel
        rw [h] at g0 g1 ⊢
        have : ((10 ^ 59) ^ 8 : Nat) < 2 ^ 1600 := by decide +kernel
        generalize ((10 ^ 59) ^ 8 : Nat) = a at *
        generalize (2 ^ 1600 : Nat) = b at *
        omega⟩
      generalize (if cell < 0 then -cell else cell) % (10 ^ Int.toNat 59) ^ Int.toNat 8 = great at g0 bg ⊢
      clear g1
      repeat walk_at "st"
      refine ⟨(by decide : (0 : Int) < 2305843009213693921), ?_⟩
      have e0 := Int.emod_nonneg great (by decide : (2305843009213693921 : Int) ≠ 0)
      have e1 := Int.emod_lt_of_pos great (by decide : (0 : Int) < 2305843009213693921)
      generalize great % 2305843009213693921 = gm at e0 e1 ⊢
      have bgm : Bn 70 gm := Bn.of_le (k := 2305843009213693967) (by omega) (by decide)
      repeat walk_at "st"
      refine .inr ⟨_, rfl, ?_⟩
      have bb : Bn 4 (if decide (cell < 0) = true then (1 : Int) else 0) := by
        split
        · exact Bn.of_le (k := 1) (by decide) (by decide)
        · exact Bn.of_le (k := 1) (by decide) (by decide)
      repeat walk_at "st"
      refine .inl ⟨_, rfl, ?_⟩
      repeat walk_at "st"
      refine ⟨(by decide : (0 : Int) < 2305843009213693951), ?_⟩
      have f0 := Int.emod_nonneg (gm * 50021 + 4003 * (k : Int) + 19 * (if decide (cell < 0) = true then (1 : Int) else 0) + 71) (by decide : (2305843009213693951 : Int) ≠ 0)
      have f1 := Int.emod_lt_of_pos (gm * 50021 + 4003 * (k : Int) + 19 * (if decide (cell < 0) = true then (1 : Int) else 0) + 71) (by decide : (0 : Int) < 2305843009213693951)
      generalize (gm * 50021 + 4003 * (k : Int) + 19 * (if decide (cell < 0) = true then (1 : Int) else 0) + 71) % 2305843009213693951 = m at f0 f1 ⊢
      have bm : Bn 70 m := Bn.of_le (k := 2305843009213693967) (by omega) (by decide)
      repeat walk_at "st"
      refine ⟨⟨by decide, by decide +kernel⟩, ?_⟩
      repeat walk_at "st"
      refine ⟨three, rfl, ?_⟩
      refine ⟨_, rfl, _, rfl, by rw [List.getElem?_append_right (Nat.le_refl _), Nat.sub_self]; rfl, ?_⟩
      rw [List.take_left]
      refine hq _ ⟨_, m, 0, rfl, ?_, ?_, bm.mono (by decide), Int.le_refl _, Int.le_refl _⟩
      · split <;> omega
      · split
        · exact ((bg.sub ((Bn.lit (i := (10 : Int) ^ Int.toNat 17) (by decide +kernel)))).mono (by decide))
        · exact (Bn.of_le (n := 2) (k := 0) (by decide) (by decide)).mono (by decide)
    · refine if_f (decide_eq_false hl) ?_
      repeat walk_at "st"
      refine .inr ⟨_, .inr rfl, ?_⟩
      repeat walk_at "st"
      refine ⟨DL.cutD ns none (some 1), by rw [cut_map], ?_⟩
      repeat walk_at "st"
      refine .inl ⟨_, rfl, ?_⟩
      repeat walk_at "st"
      refine ⟨(by decide : (0 : Int) < 1000033), ?_⟩
      repeat walk_at "st"
      generalize 907 * (k : Int) + 37 + (DL.cutD ns none (some 1)).sum % 1000033 = cell
      repeat walk_at "st"
      refine .inl ⟨_, rfl, ?_⟩
      repeat walk_at "st"
      refine ⟨⟨by decide, by decide +kernel⟩, ?_⟩
      refine ⟨_, _, rfl, rfl, ⟨by decide, by decide +kernel⟩, ?_⟩
      refine ⟨_, _, rfl, rfl, pwp, ?_⟩
      have g0 := Int.emod_nonneg (if cell < 0 then -cell else cell) (Int.ne_of_gt pwp)
      have g1 := Int.emod_lt_of_pos (if cell < 0 then -cell else cell) pwp
      have bg : Bn 1600 ((if cell < 0 then -cell else cell) % (10 ^ Int.toNat 59) ^ Int.toNat 8) := ⟨by
        have h : ((10 : Int) ^ Int.toNat 59) ^ Int.toNat 8 = (((10 ^ 59) ^ 8 : Nat) : Int) := by decide +kernel
        rw [h] at g0 g1 ⊢
        have : ((10 ^ 59) ^ 8 : Nat) < 2 ^ 1600 := by decide +kernel
        generalize ((10 ^ 59) ^ 8 : Nat) = a at *
        generalize (2 ^ 1600 : Nat) = b at *
        omega⟩
      generalize (if cell < 0 then -cell else cell) % (10 ^ Int.toNat 59) ^ Int.toNat 8 = great at g0 bg ⊢
      clear g1
      repeat walk_at "st"
      refine ⟨(by decide : (0 : Int) < 2305843009213693921), ?_⟩
      have e0 := Int.emod_nonneg great (by decide : (2305843009213693921 : Int) ≠ 0)
      have e1 := Int.emod_lt_of_pos great (by decide : (0 : Int) < 2305843009213693921)
      generalize great % 2305843009213693921 = gm at e0 e1 ⊢
      have bgm : Bn 70 gm := Bn.of_le (k := 2305843009213693967) (by omega) (by decide)
      repeat walk_at "st"
      refine .inr ⟨_, rfl, ?_⟩
      have bb : Bn 4 (if decide (cell < 0) = true then (1 : Int) else 0) := by
        split
        · exact Bn.of_le (k := 1) (by decide) (by decide)
        · exact Bn.of_le (k := 1) (by decide) (by decide)
      repeat walk_at "st"
      refine .inl ⟨_, rfl, ?_⟩
      repeat walk_at "st"
      refine ⟨(by decide : (0 : Int) < 2305843009213693951), ?_⟩
      have f0 := Int.emod_nonneg (gm * 50021 + 4003 * (k : Int) + 19 * (if decide (cell < 0) = true then (1 : Int) else 0) + 71) (by decide : (2305843009213693951 : Int) ≠ 0)
      have f1 := Int.emod_lt_of_pos (gm * 50021 + 4003 * (k : Int) + 19 * (if decide (cell < 0) = true then (1 : Int) else 0) + 71) (by decide : (0 : Int) < 2305843009213693951)
      generalize (gm * 50021 + 4003 * (k : Int) + 19 * (if decide (cell < 0) = true then (1 : Int) else 0) + 71) % 2305843009213693951 = m at f0 f1 ⊢
      have bm : Bn 70 m := Bn.of_le (k := 2305843009213693967) (by omega) (by decide)
      repeat walk_at "st"
      refine ⟨⟨by decide, by decide +kernel⟩, ?_⟩
      repeat walk_at "st"
      refine ⟨three, rfl, ?_⟩
      refine ⟨_, rfl, _, rfl, by rw [List.getElem?_append_right (Nat.le_refl _), Nat.sub_self]; rfl, ?_⟩
      rw [List.take_left]
      refine hq _ ⟨_, m, 0, rfl, ?_, ?_, bm.mono (by decide), Int.le_refl _, Int.le_refl _⟩
      · split <;> omega
      · split
        · exact ((bg.sub ((Bn.lit (i := (10 : Int) ^ Int.toNat 17) (by decide +kernel)))).mono (by decide))
        · exact (Bn.of_le (n := 2) (k := 0) (by decide) (by decide)).mono (by decide)
end
end K77
end
section
namespace K77
open PySem PySem.Spec PyProof.Rows L2 DL
local macro_rules | `(tactic| walk_at "bn") => `(tactic| first
  | assumption
  | (apply Bn.add <;> walk_at "bn")
  | (apply Bn.sub <;> walk_at "bn")
  | (apply Bn.mul <;> walk_at "bn")
  | (apply Bn.neg; walk_at "bn")
  | exact Bn.lit (by decide))
local macro_rules | `(tactic| walk_at "cm") => `(tactic| (apply Bn.cmul; (focus walk_at "bn"); (focus walk_at "bn"); (focus decide)))
local macro_rules | `(tactic| walk_at "st") => `(tactic| first
  | (refine put_e ?_; intro δ1 e; simp only [List.set_cons_zero, List.set_cons_succ, wipeD, List.map_cons, List.map_nil] at e; subst e)
  | refine ⟨_, rfl, ?_⟩
  | (refine ⟨_, _, rfl, rfl, ?cm, ?_⟩; (case cm => walk_at "cm"))
  | refine ⟨_, _, rfl, rfl, ?_⟩
  | refine ⟨_, rfl, rfl, ?_⟩
  | refine ⟨_, _, rfl, ?_⟩
  | refine ⟨_, _, _, rfl, ?_⟩
  | refine ⟨_, _, .inl rfl, ?_⟩
  | refine ⟨_, .inl rfl, ?_⟩
  | refine ⟨_, .inr rfl, ?_⟩
  | refine ⟨rfl, ?_⟩
  | refine ⟨_, _, _, rfl, rfl, rfl, ?_⟩
  | refine if_t rfl ?_
  | refine if_f rfl ?_)
local macro_rules | `(tactic| walk_at "ph") => `(tactic| ((try unfold aNil); (try dsimp only)))
local macro_rules | `(tactic| walk_at "ph2") => `(tactic| (dsimp only [aNil, aCons, dC]))
section
variable {P : Program} {w : World} {K : PySem.W.Frag} {mg : Str → Option Value} {base : Heap} {T : List (Addr × Str)}
theorem Dr.sz {F : Fm} (h : Dr F) : Sz 6 F := by
  obtain ⟨ha, hb, hc, hd, he, hf, _⟩ := h
  exact ⟨by omega, by omega, by omega, by omega, by omega, by omega⟩
theorem Dr.disc {F : Fm} (h : Dr F) : disc F ≤ 1000000 := by
  have h1 : (F.d * F.e * F.f).natAbs ≤ 4 * (4 * 4) := Nat.le_trans (tri (K := 4) (by have := h.d; omega)) (Nat.mul_le_mul_left 4 (Nat.mul_le_mul (by have := h.e; omega) (by have := h.f; omega)))
  have h2 : F.a * F.b ≤ 6 * 6 := mul_le (by have := h.a; omega) (by have := h.b; omega) h.a.2 h.b.2
  have h3 : F.a * F.b * F.c ≤ 36 * 6 := mul_le (Int.mul_nonneg (by have := h.a; omega) (by have := h.b; omega)) (by have := h.c; omega) h2 h.c.2
  have k : ∀ {x y : Int}, 0 ≤ x → 0 ≤ x * y * y := fun {x y} q => by rw [Int.mul_assoc]; exact Int.mul_nonneg q (sq_nonneg y)
  have k1 := k (x := F.a) (y := F.d) (by have := h.a; omega)
  have k2 := k (x := F.b) (y := F.e) (by have := h.b; omega)
  have k3 := k (x := F.c) (y := F.f) (by have := h.c; omega)
  unfold K77.disc
  have e : 4 * F.a * F.b * F.c = 4 * (F.a * F.b * F.c) := by grind
  omega
theorem isFm_of {A : Nat} {F : Fm} (h : Sz A F) (p : Po F) (l : A ≤ 500000) : IsFm F := by
  obtain ⟨ha, hb, hc, hd, he, hf⟩ := h
  have w := p.w
  unfold wid at w
  exact ⟨by omega, by omega, by omega, by omega, by omega, by omega, p.a, by omega, p.s⟩
theorem gd_of {F : Fm} (h : Sz 4374 F) (p : Po F) (d : disc F ≤ 1000000) : Gd F := ⟨isFm_of h p (by decide), p.sm h, d⟩
theorem Sz.mono {A B : Nat} {F : Fm} (h : Sz A F) (l : A ≤ B) : Sz B F := by
  obtain ⟨ha, hb, hc, hd, he, hf⟩ := h
  exact ⟨by omega, by omega, by omega, by omega, by omega, by omega⟩
theorem Dr.gd {F : Fm} (h : Dr F) : Gd F := gd_of (h.sz.mono (by decide)) h.po h.disc
theorem led_gd {F : Fm} {t : Tb} (h : Dr F) (T : Tn 27 t) : Gd (formBy F (tr t)) ∧ Sz 4374 (formBy F (tr t)) ∧ Po (formBy F (tr t)) := by
  have d1 : det (tr t) = 1 := by rw [det_tr]; exact T.d
  have s := sz_led h.sz T
  have p := po_led h.po d1
  refine ⟨gd_of s p ?_, s, p⟩
  rw [disc_formBy, d1]
  have := h.disc
  omega
theorem lay_tb (t : Tb) : lay t.D := ⟨rfl, rfl, (by decide : 2 ≤ 50)⟩
theorem toldT_tb (t : Tb) : toldT t.D = true := rfl
theorem iff_eq {a b : Bool} {P : Prop} (h : a = true ↔ P) (g : b = true ↔ P) : a = b := by
  cases a <;> cases b
  · rfl
  · exact h.mpr (g.mp rfl)
  · exact (g.mpr (h.mp rfl)).symm
  · rfl
theorem pow3_le {k : Nat} (h : k ≤ 3) : 3 ^ k ≤ 27 := by
  rcases (show k = 0 ∨ k = 1 ∨ k = 2 ∨ k = 3 by omega) with rfl | rfl | rfl | rfl <;> decide
def Ph__law_right : PhiD := fun ds mu Q => ∃ (J : List D), ds = [.box 0] ∧ mu = [J] ∧ JugB 0 J ∧ ∀ J', Q (.bl true) [J']
theorem ok__law_right (A : Al K mg base T) : FnOk P w K mg base CX0 11 A.f__law_right A.fd__law_right ["_law_jug_here"] (spD K T Ph__law_right) := by
  refine fn_d A.F__law_right sc__law_right ?len (fun cdv Ar outer s H E hr => (ssd_cons (sd_set (i := 1) sc__law_right.nd rfl (.inl rfl) (ed_call (ok__law_form A) (hr.mono (by decide)) rfl A.g__law_form A.F__law_form.kp A.b__law_form (ad_cons (ed_var 0 (pv 0)) ad_nil)))
    (ssd_cons (sd_par (i := 2) (j := 3) rfl sc__law_right.nd rfl rfl (by decide) rfl rfl (ad_cons (ed_call (ok__law_table A) (hr.mono (by decide)) rfl A.g__law_table A.F__law_table.kp A.b__law_table (ad_cons (ed_var 0 (pv 0)) (ad_cons (ed_op op_add od_I0 ed_int (ed_call (ok__law_pour A) (hr.mono (by decide)) rfl A.g__law_pour A.F__law_pour.kp A.b__law_pour (ad_cons (ed_var 0 (pv 0)) (ad_cons ed_int ad_nil)))) ad_nil))) (ad_cons (ed_call (ok__law_table A) (hr.mono (by decide)) rfl A.g__law_table A.F__law_table.kp A.b__law_table (ad_cons (ed_var 0 (pv 0)) (ad_cons ed_int ad_nil))) ad_nil)) (by rfl))
    (ssd_cons (sd_set (i := 4) sc__law_right.nd rfl (.inl rfl) (ed_call (ok__law_led_form A) (hr.mono (by decide)) rfl A.g__law_led_form A.F__law_led_form.kp A.b__law_led_form (ad_cons (ed_var 1 (pv 1)) (ad_cons (ed_var 2 (pv 2)) ad_nil))))
    (ssd_cons (sd_set (i := 5) sc__law_right.nd rfl (.inl rfl) (ed_call (ok__law_led_form A) (hr.mono (by decide)) rfl A.g__law_led_form A.F__law_led_form.kp A.b__law_led_form (ad_cons (ed_var 4 (pv 4)) (ad_cons (ed_var 3 (pv 3)) ad_nil))))
    (ssd_cons (sd_par (i := 6) (j := 7) rfl sc__law_right.nd rfl rfl (by decide) rfl rfl (ad_cons (ed_call (ok_form_lead A) (hr.mono (by decide)) rfl A.g_form_lead A.F_form_lead.kp A.b_form_lead (ad_cons (ed_var 1 (pv 1)) (ad_cons (ed_var 4 (pv 4)) ad_nil))) (ad_cons (ed_call (ok_form_lead A) (hr.mono (by decide)) rfl A.g_form_lead A.F_form_lead.kp A.b_form_lead (ad_cons (ed_var 4 (pv 4)) (ad_cons (ed_var 1 (pv 1)) ad_nil))) ad_nil)) (by rfl))
    (ssd_cons (sd_if (td_w (wd_or (td_not (td_val (ed_call (ok_are_forms_alike A) hr rfl A.g_are_forms_alike A.F_are_forms_alike.kp A.b_are_forms_alike (ad_cons (ed_var 1 (pv 1)) (ad_cons (ed_var 4 (pv 4)) ad_nil))))) (wd_or (td_not (td_val (ed_call (ok__law_is_lead A) (hr.mono (by decide)) rfl A.g__law_is_lead A.F__law_is_lead.kp A.b__law_is_lead (ad_cons (ed_var 1 (pv 1)) (ad_cons (ed_var 4 (pv 4)) (ad_cons (ed_var 6 (pv 6)) ad_nil)))))) (wd_one (.inr rfl) (td_not (td_val (ed_call (ok__law_is_lead A) (hr.mono (by decide)) rfl A.g__law_is_lead A.F__law_is_lead.kp A.b__law_is_lead (ad_cons (ed_var 4 (pv 4)) (ad_cons (ed_var 1 (pv 1)) (ad_cons (ed_var 7 (pv 7)) ad_nil)))))))))) (ssd_one (sd_ret ed_bl)) ssd_nil)
    (ssd_cons (sd_if (td_w (wd_or (td_not (td_val (ed_call (ok_is_form_lead A) (hr.mono (by decide)) rfl A.g_is_form_lead A.F_is_form_lead.kp A.b_is_form_lead (ad_cons (ed_var 1 (pv 1)) (ad_cons (ed_var 4 (pv 4)) (ad_cons (ed_var 2 (pv 2)) ad_nil)))))) (wd_or (td_not (td_val (ed_call (ok_is_form_lead A) (hr.mono (by decide)) rfl A.g_is_form_lead A.F_is_form_lead.kp A.b_is_form_lead (ad_cons (ed_var 1 (pv 1)) (ad_cons (ed_var 4 (pv 4)) (ad_cons (ed_var 6 (pv 6)) ad_nil)))))) (wd_one (.inr rfl) (td_not (td_val (ed_call (ok_is_form_lead A) (hr.mono (by decide)) rfl A.g_is_form_lead A.F_is_form_lead.kp A.b_is_form_lead (ad_cons (ed_var 1 (pv 1)) (ad_cons (ed_var 5 (pv 5)) (ad_cons (ed_call (ok__law_joined A) (hr.mono (by decide)) rfl A.g__law_joined A.F__law_joined.kp A.b__law_joined (ad_cons (ed_var 2 (pv 2)) (ad_cons (ed_var 3 (pv 3)) ad_nil))) ad_nil)))))))))) (ssd_one (sd_ret ed_bl)) ssd_nil)
    (ssd_cons (sd_if (td_not (td_val (ed_call (ok_is_form_lead A) (hr.mono (by decide)) rfl A.g_is_form_lead A.F_is_form_lead.kp A.b_is_form_lead (ad_cons (ed_var 1 (pv 1)) (ad_cons (ed_var 1 (pv 1)) (ad_cons (ed_call (ok__law_joined A) (hr.mono (by decide)) rfl A.g__law_joined A.F__law_joined.kp A.b__law_joined (ad_cons (ed_var 6 (pv 6)) (ad_cons (ed_var 7 (pv 7)) ad_nil))) ad_nil)))))) (ssd_one (sd_ret ed_bl)) ssd_nil)
    (ssd_cons (sd_forR1 PassesOwn.never rfl sc__law_right.nd (j := 8) rfl (.inl rfl) rfl A.z_range (ad_cons ed_int ad_nil) (ssd_cons (sd_set (i := 9) sc__law_right.nd rfl (.inl rfl) (ed_call (ok__law_near A) (hr.mono (by decide)) rfl A.g__law_near A.F__law_near.kp A.b__law_near (ad_cons (ed_var 0 (pv 0)) (ad_cons (ed_call (ok__law_of A) (hr.mono (by decide)) rfl A.g__law_of A.F__law_of.kp A.b__law_of (ad_cons (ed_var 0 (pv 0)) (ad_cons (ed_lst (ad_cons (ed_var 2 (pv 2)) (ad_cons (ed_var 6 (pv 6)) ad_nil))) ad_nil))) ad_nil))))
    (ssd_one (sd_if (td_cmp op_ne od_ne (ed_callB rc_repr cr_repr (by rfl) A.z_repr (by decide +kernel) (ad_cons (ed_call (ok_is_form_lead A) (hr.mono (by decide)) rfl A.g_is_form_lead A.F_is_form_lead.kp A.b_is_form_lead (ad_cons (ed_var 1 (pv 1)) (ad_cons (ed_var 4 (pv 4)) (ad_cons (ed_var 9 (pv 9)) ad_nil)))) ad_nil)) (ed_callB rc_repr cr_repr (by rfl) A.z_repr (by decide +kernel) (ad_cons (ed_call (ok__law_is_lead A) (hr.mono (by decide)) rfl A.g__law_is_lead A.F__law_is_lead.kp A.b__law_is_lead (ad_cons (ed_var 1 (pv 1)) (ad_cons (ed_var 4 (pv 4)) (ad_cons (ed_var 9 (pv 9)) ad_nil)))) ad_nil)) (nomark _)) (ssd_one (sd_ret ed_bl)) ssd_nil))))
    (ssd_cons (sd_set (i := 10) sc__law_right.nd rfl (.inl rfl) (ed_if (td_cmp op_eq od_eq (ed_call (ok__law_pour A) (hr.mono (by decide)) rfl A.g__law_pour A.F__law_pour.kp A.b__law_pour (ad_cons (ed_var 0 (pv 0)) (ad_cons ed_int ad_nil))) ed_int (nomark _)) (ed_call (ok__law_form A) (hr.mono (by decide)) rfl A.g__law_form A.F__law_form.kp A.b__law_form (ad_cons (ed_var 0 (pv 0)) ad_nil)) (ed_op op_catA od_catT (ed_sl (ed_var 1 (pv 1)) od_none (od_some ed_int)) (ed_tup (ad_cons (ed_ix (ed_var 1 (pv 1)) ed_int (fun _ _ => rfl)) (ad_cons (ed_op op_sub od_I0 ed_int (ed_ix (ed_var 1 (pv 1)) ed_int (fun _ _ => rfl))) (ad_cons (ed_ix (ed_var 1 (pv 1)) ed_int (fun _ _ => rfl)) ad_nil)))))))
    (ssd_cons (sd_if (td_not (td_val (ed_call (ok__law_is_form A) (hr.mono (by decide)) rfl A.g__law_is_form A.F__law_is_form.kp A.b__law_is_form (ad_cons (ed_var 10 (pv 10)) ad_nil)))) (ssd_one (sd_ret ed_bl)) ssd_nil)
    (ssd_cons (sd_set (i := 11) sc__law_right.nd rfl (.inl rfl) (ed_call (ok__law_are_alike A) (hr.mono (by decide)) rfl A.g__law_are_alike A.F__law_are_alike.kp A.b__law_are_alike (ad_cons (ed_var 1 (pv 1)) (ad_cons (ed_var 10 (pv 10)) ad_nil))))
    (ssd_cons (sd_if (td_w (wd_or (td_cmp op_ne od_ne (ed_call (ok_are_forms_alike A) hr rfl A.g_are_forms_alike A.F_are_forms_alike.kp A.b_are_forms_alike (ad_cons (ed_var 1 (pv 1)) (ad_cons (ed_var 10 (pv 10)) ad_nil))) (ed_var 11 (pv 11)) (nomark _)) (wd_one (.inr rfl) (td_cmp op_ne od_ne (ed_call (ok_are_forms_alike A) hr rfl A.g_are_forms_alike A.F_are_forms_alike.kp A.b_are_forms_alike (ad_cons (ed_var 10 (pv 10)) (ad_cons (ed_var 1 (pv 1)) ad_nil))) (ed_var 11 (pv 11)) (nomark _))))) (ssd_one (sd_ret ed_bl)) ssd_nil)
    (ssd_cons (sd_set (i := 12) sc__law_right.nd rfl (.inl rfl) (ed_call (ok_form_lead A) (hr.mono (by decide)) rfl A.g_form_lead A.F_form_lead.kp A.b_form_lead (ad_cons (ed_var 1 (pv 1)) (ad_cons (ed_var 10 (pv 10)) ad_nil))))
    (ssd_one (sd_ret (ed_if (td_val (ed_var 11 (pv 11))) (ed_call (ok__law_is_lead A) (hr.mono (by decide)) rfl A.g__law_is_lead A.F__law_is_lead.kp A.b__law_is_lead (ad_cons (ed_var 1 (pv 1)) (ad_cons (ed_var 10 (pv 10)) (ad_cons (ed_var 12 (pv 12)) ad_nil)))) (ed_isN (ed_var 12 (pv 12))))))))))))))))))))) ?rd
  · rintro ds mu Qd ⟨J, rfl, _⟩; rfl
  · rintro ds mu Qd ⟨J, rfl, rfl, hJ, hq⟩
    refine put_e ?_; intro δ1 e; rw [st__law_right] at e; subst e
    repeat walk_at "st"
    refine ⟨0, J, rfl, rfl, hJ, by decide, fun F J1 hF hJ1 => ?_⟩
    have gF := hF.gd
    repeat walk_at "st"
    walk_at "ph2"
    refine in__law_pour (many := 3) hJ1 (by decide) (by decide) (fun r J2 r0 r1 hJ2 => ?_) (by decide)
    repeat walk_at "st"
    obtain ⟨k, hk, ek⟩ : ∃ k : Nat, k ≤ 3 ∧ 1 + r = (k : Int) := ⟨(1 + r).toNat, by omega, by omega⟩
    rw [ek]
    repeat walk_at "st"
    refine ⟨_, J2, k, rfl, rfl, hJ2, by decide, hk, fun T J3 hT hJ3 => ?_⟩
    have hT := hT.mono (pow3_le hk)
    have hJ3 := hJ3.mono (show 0 + 72 + 1 + 3 * k ≤ 100 by omega)
    repeat walk_at "st"
    refine ⟨_, J3, 2, rfl, rfl, hJ3, by decide, by decide, fun M J4 hM hJ4 => ?_⟩
    have bT : Bd 10 T := hT.bd (by decide)
    have bM : Bd 10 M := hM.bd (by decide)
    repeat walk_at "st"
    refine ⟨hF.bn.mono (by decide), bT.mono (by decide), ?_⟩
    obtain ⟨gG, sG, pG⟩ := led_gd hF hT
    have LT : Leads F (formBy F (tr T)) (tr T) := Leads.of (by rw [det_tr]; exact hT.d)
    generalize formBy F (tr T) = G at gG sG pG LT ⊢
    repeat walk_at "st"
    refine ⟨gG.fm.bn.mono (by decide), bM.mono (by decide), ?_⟩
    have LM : Leads G (formBy G (tr M)) (tr M) := Leads.of (by rw [det_tr]; exact hM.d)
    have fH : IsFm (formBy G (tr M)) := isFm_of (sz_led sG hM) (po_led pG (by rw [det_tr]; exact hM.d)) (by decide)
    generalize formBy G (tr M) = H at LM fH ⊢
    repeat walk_at "st"
    refine ⟨gF, gG, fun told ht => ?_⟩
    rcases ht with ⟨_, no⟩ | ⟨t1, rfl, L1, b1⟩
    · exact absurd LT (no _)
    repeat walk_at "st"
    refine ⟨gG, gF, fun back ht => ?_⟩
    rcases ht with ⟨_, no⟩ | ⟨t2, rfl, L2, b2⟩
    · exact absurd LT.back (no _)
    repeat walk_at "st"
    refine ⟨gF, gG, fun b hb => ?_⟩
    obtain rfl := hb.mpr ⟨_, LT⟩
    repeat walk_at "st"
    refine ⟨hF.bn.mono (by decide), lay_tb t1, toldT_tb t1, fun t e => by rw [← Tb.inj e]; exact b1.mono (by decide), fun b hb => ?_⟩
    obtain rfl := hb.mpr ⟨t1, rfl, L1⟩
    repeat walk_at "st"
    refine ⟨gG.fm.bn.mono (by decide), lay_tb t2, toldT_tb t2, fun t e => by rw [← Tb.inj e]; exact b2.mono (by decide), fun b hb => ?_⟩
    obtain rfl := hb.mpr ⟨t2, rfl, L2⟩
    repeat walk_at "st"
    refine ⟨gF.fm, gG.fm, toldT_tb _, fun t e => by rw [← Tb.inj e]; exact bT.mono (by decide), fun b hb => ?_⟩
    obtain rfl := hb.mpr ⟨_, rfl, LT⟩
    repeat walk_at "st"
    refine ⟨gF.fm, gG.fm, toldT_tb _, fun t e => by rw [← Tb.inj e]; exact b1.mono (by decide), fun b hb => ?_⟩
    obtain rfl := hb.mpr ⟨_, rfl, L1⟩
    repeat walk_at "st"
    refine ⟨bT.mono (by decide), bM.mono (by decide), ?_⟩
    repeat walk_at "st"
    refine ⟨gF.fm, fH, toldT_tb _, fun t e => by rw [← Tb.inj e]; exact (bT.mul bM).mono (by decide), fun b hb => ?_⟩
    obtain rfl := hb.mpr ⟨_, rfl, (by rw [tr_mul]; exact LT.trans LM)⟩
    repeat walk_at "st"
    refine ⟨b1.mono (by decide), b2.mono (by decide), ?_⟩
    repeat walk_at "st"
    refine ⟨gF.fm, gF.fm, toldT_tb _, fun t e => by rw [← Tb.inj e]; exact (b1.mul b2).mono (by decide), fun b hb => ?_⟩
    obtain rfl := hb.mpr ⟨_, rfl, (by rw [tr_mul]; exact L1.trans L2)⟩
    repeat walk_at "st"
    refine ⟨⟨by decide, by decide⟩, fun i δ mu => ∃ (J' : List D) (o8 o9 : Option D), δ = [some (D.box 0), some F.D, some T.D, some M.D, some G.D, some H.D, some t1.D, some t2.D, o8, o9, none, none, none] ∧ mu = [J'] ∧ JugB (200 + 10 * i) J', ⟨J4, _, _, rfl, rfl, hJ4.mono (by decide)⟩, fun i δ mu hi hP => ?p1, fun δ mu hP => ?p2⟩
    case p1 =>
      obtain ⟨J5, o8, o9, rfl, rfl, hJ5⟩ := hP
      have hi : i < 8 := hi
      repeat walk_at "st"
      refine ⟨(by decide : 2 ≤ sizeLine), ?_⟩
      repeat walk_at "st"
      walk_at "ph2"
      refine in__law_of hJ5 (by decide : 0 < 2) (by decide : 2 ≤ 1000) (fun x J6 hx hJ6 => ?_) (by omega)
      obtain ⟨t, rfl, bt⟩ : ∃ t : Tb, x = t.D ∧ Bd 2900 t := by
        simp only [List.mem_cons, List.not_mem_nil, or_false] at hx
        rcases hx with rfl | rfl
        · exact ⟨_, rfl, bT.mono (by decide)⟩
        · exact ⟨_, rfl, b1.mono (by decide)⟩
      repeat walk_at "st"
      refine ⟨_, J6, t, rfl, rfl, hJ6, by omega, bt, fun d J7 hd hJ7 => ?_⟩
      have hJ8 : JugB (200 + 10 * (i + 1)) J7 := hJ7.mono (by omega)
      repeat walk_at "st"
      refine ⟨gF.fm, gG.fm, hd.told, fun t e => (hd.bd t e).mono (by decide), fun c1 hc1 => ?_⟩
      repeat walk_at "st"
      refine ⟨hF.bn.mono (by decide), hd.lay, hd.told, fun t e => (hd.bd t e).mono (by decide), fun c2 hc2 => ?_⟩
      obtain rfl := iff_eq hc1 hc2
      repeat walk_at "st"
      refine if_f (by show (!decide (_ = _)) = false; rw [decide_eq_true rfl]; rfl) ?_
      exact ⟨J7, _, _, rfl, rfl, hJ8⟩
    case p2 =>
      obtain ⟨J5, o8, o9, rfl, rfl, hJ5⟩ := hP
      have hJ5 : JugB 280 J5 := hJ5
      repeat walk_at "st"
      walk_at "ph2"
      refine in__law_pour (many := 2) hJ5 (by decide) (by decide) (fun r J6 r0 r1 hJ6 => ?_) (by decide)
      repeat walk_at "st"
      by_cases hr : r = 0
      · refine if_t (decide_eq_true hr) ?_
        repeat walk_at "st"
        refine ⟨_, J6, rfl, rfl, hJ6, by decide, fun O J7 dO' hJ7 => ?_⟩
        have hO : IsFm O → Dr O := fun _ => dO'
        have bO : Bn6 10000 O.a O.b O.c O.d O.e O.f := dO'.bn.mono (by decide)
        clear dO'
        repeat walk_at "st"
        refine ⟨bO, fun bb hb => ?_⟩
        repeat walk_at "st"
        cases bb with
        | false =>
          refine if_t rfl ?_
          exact ⟨.inl rfl, hq _⟩
        | true =>
          have dO := hO (hb.mp rfl)
          have gO := dO.gd
          refine if_f rfl ?_
          repeat walk_at "st"
          refine ⟨hF, dO, fun due hdue => ?_⟩
          repeat walk_at "st"
          refine ⟨gF, gO, fun c1 hc1 => ?_⟩
          obtain rfl := iff_eq hc1 hdue
          repeat walk_at "st"
          refine if_f (by show (!decide (c1 = c1)) = false; rw [decide_eq_true rfl]; rfl) ?_
          repeat walk_at "st"
          refine ⟨gO, gF, fun c2 hc2 => ?_⟩
          obtain rfl := iff_eq hdue (hc2.trans ⟨fun ⟨t, L⟩ => ⟨_, L.back⟩, fun ⟨t, L⟩ => ⟨_, L.back⟩⟩)
          repeat walk_at "st"
          refine if_f (by show (!decide (c1 = c1)) = false; rw [decide_eq_true rfl]; rfl) ?_
          repeat walk_at "st"
          refine ⟨gF, gO, fun found hf => ?_⟩
          rcases hf with ⟨rfl, no⟩ | ⟨t3, rfl, L3, b3⟩
          · have : c1 = false := by
              cases c1 with
              | false => rfl
              | true => obtain ⟨t, L⟩ := hdue.mp rfl; exact absurd L (no t)
            subst this
            repeat walk_at "st"
            exact ⟨.inl rfl, hq _⟩
          · obtain rfl := hdue.mpr ⟨_, L3⟩
            repeat walk_at "st"
            refine ⟨hF.bn.mono (by decide), lay_tb t3, toldT_tb t3, fun t e => by rw [← Tb.inj e]; exact b3.mono (by decide), fun b hb => ?_⟩
            obtain rfl := hb.mpr ⟨t3, rfl, L3⟩
            exact ⟨.inl rfl, hq _⟩
      · refine if_f (decide_eq_false hr) ?_
        repeat walk_at "st"
        refine .inl ⟨_, rfl, ?_⟩
        repeat walk_at "st"
        refine ⟨three, ?_⟩
        refine ⟨_, _, rfl, rfl, (by decide : 3 + 3 ≤ sizeLine), ?_⟩
        rw [show D.tup (DL.cutD [.int F.a, .int F.b, .int F.c, .int F.d, .int F.e, .int F.f] none (some 3) ++ [.int F.d, .int (0 - F.e), .int F.f]) = (⟨F.a, F.b, F.c, F.d, 0 - F.e, F.f⟩ : Fm).D from rfl]
        generalize hOe : (⟨F.a, F.b, F.c, F.d, 0 - F.e, F.f⟩ : Fm) = O
        have hO : IsFm O → Dr O := fun h => by
          subst hOe
          have w := h.pb
          simp only at w
          exact ⟨hF.a, hF.b, hF.c, hF.d, by have := hF.e; simp only; omega, hF.f, ⟨h.pa, by unfold wid; simp only; omega, h.pc⟩⟩
        have bO : Bn6 10000 O.a O.b O.c O.d O.e O.f := by
          subst hOe
          have b := hF.bn
          exact ⟨b.a.mono (by decide), b.b.mono (by decide), b.c.mono (by decide), b.d.mono (by decide), (((Bn.of_le (n := 2) (k := 0) (by decide) (by decide)).sub b.e).mono (by decide)), b.f.mono (by decide)⟩
        repeat walk_at "st"
        refine ⟨bO, fun bb hb => ?_⟩
        repeat walk_at "st"
        cases bb with
        | false =>
          refine if_t rfl ?_
          exact ⟨.inl rfl, hq _⟩
        | true =>
          have dO := hO (hb.mp rfl)
          have gO := dO.gd
          refine if_f rfl ?_
          repeat walk_at "st"
          refine ⟨hF, dO, fun due hdue => ?_⟩
          repeat walk_at "st"
          refine ⟨gF, gO, fun c1 hc1 => ?_⟩
          obtain rfl := iff_eq hc1 hdue
          repeat walk_at "st"
          refine if_f (by show (!decide (c1 = c1)) = false; rw [decide_eq_true rfl]; rfl) ?_
          repeat walk_at "st"
          refine ⟨gO, gF, fun c2 hc2 => ?_⟩
          obtain rfl := iff_eq hdue (hc2.trans ⟨fun ⟨t, L⟩ => ⟨_, L.back⟩, fun ⟨t, L⟩ => ⟨_, L.back⟩⟩)
          repeat walk_at "st"
          refine if_f (by show (!decide (c1 = c1)) = false; rw [decide_eq_true rfl]; rfl) ?_
          repeat walk_at "st"
          refine ⟨gF, gO, fun found hf => ?_⟩
          rcases hf with ⟨rfl, no⟩ | ⟨t3, rfl, L3, b3⟩
          · have : c1 = false := by
              cases c1 with
              | false => rfl
              | true => obtain ⟨t, L⟩ := hdue.mp rfl; exact absurd L (no t)
            subst this
            repeat walk_at "st"
            exact ⟨.inl rfl, hq _⟩
          · obtain rfl := hdue.mpr ⟨_, L3⟩
            repeat walk_at "st"
            refine ⟨hF.bn.mono (by decide), lay_tb t3, toldT_tb t3, fun t e => by rw [← Tb.inj e]; exact b3.mono (by decide), fun b hb => ?_⟩
            obtain rfl := hb.mpr ⟨t3, rfl, L3⟩
            exact ⟨.inl rfl, hq _⟩
end
end K77
end
section
namespace K77
open PySem PySem.Spec PyProof.Rows L2 DL
local macro_rules | `(tactic| walk_at "bn") => `(tactic| first
  | assumption
  | (apply Bn.add <;> walk_at "bn")
  | (apply Bn.sub <;> walk_at "bn")
  | (apply Bn.mul <;> walk_at "bn")
  | (apply Bn.neg; walk_at "bn")
  | exact Bn.lit (by decide))
local macro_rules | `(tactic| walk_at "cm") => `(tactic| (apply Bn.cmul; (focus walk_at "bn"); (focus walk_at "bn"); (focus decide)))
local macro_rules | `(tactic| walk_at "st") => `(tactic| first
  | (refine put_e ?_; intro δ1 e; simp only [List.set_cons_zero, List.set_cons_succ, wipeD, List.map_cons, List.map_nil] at e; subst e)
  | refine ⟨_, rfl, ?_⟩
  | (refine ⟨_, _, rfl, rfl, ?cm, ?_⟩; (case cm => walk_at "cm"))
  | refine ⟨_, _, rfl, rfl, ?_⟩
  | refine ⟨_, rfl, rfl, ?_⟩
  | refine ⟨_, _, rfl, ?_⟩
  | refine ⟨_, _, _, rfl, ?_⟩
  | refine ⟨_, _, .inl rfl, ?_⟩
  | refine ⟨_, .inl rfl, ?_⟩
  | refine ⟨_, .inr rfl, ?_⟩
  | refine ⟨rfl, ?_⟩
  | refine ⟨_, _, _, rfl, rfl, rfl, ?_⟩
  | refine if_t rfl ?_
  | refine if_f rfl ?_)
local macro_rules | `(tactic| walk_at "ph") => `(tactic| ((try unfold aNil); (try dsimp only)))
local macro_rules | `(tactic| walk_at "ph2") => `(tactic| (dsimp only [aNil, aCons, dC]))
section
variable {P : Program} {w : World} {K : PySem.W.Frag} {mg : Str → Option Value} {base : Heap} {T : List (Addr × Str)}
def F1 : Fm := ⟨1, 1, 16, 0, 0, 0⟩
def W1 : Fm := ⟨4, 4, 3, 4, 4, 0⟩
theorem gd_F1 : Gd F1 := ⟨⟨by decide, by decide, by decide, by decide, by decide, by decide, by decide, by decide, by decide⟩, ⟨by decide, by decide, by decide, by decide, by decide, by decide⟩, by decide⟩
theorem gd_W1 : Gd W1 := ⟨⟨by decide, by decide, by decide, by decide, by decide, by decide, by decide, by decide, by decide⟩, ⟨by decide, by decide, by decide, by decide, by decide, by decide⟩, by decide⟩
theorem no_three (p : Pt) : val F1 p ≠ 3 := by
  obtain ⟨x, y, z⟩ := p
  unfold val F1
  simp only [Int.zero_mul, Int.add_zero, Int.one_mul]
  intro h
  rw [Int.mul_assoc] at h
  have hx := sq_nonneg x
  have hy := sq_nonneg y
  have hz := sq_nonneg z
  have bx := abs_of_sq (x := x) (k := 2) (by decide) (by omega)
  have by_ := abs_of_sq (x := y) (k := 2) (by decide) (by omega)
  have kx : x = -2 ∨ x = -1 ∨ x = 0 ∨ x = 1 ∨ x = 2 := by omega
  have ky : y = -2 ∨ y = -1 ∨ y = 0 ∨ y = 1 ∨ y = 2 := by omega
  rcases kx with rfl | rfl | rfl | rfl | rfl <;> rcases ky with rfl | rfl | rfl | rfl | rfl <;> omega
theorem no_lead (t : Tb) : ¬ Leads F1 W1 t := fun L => no_three t.w (formBy_eq.mp L.2).2.2.1
def T1 : Tb := ⟨⟨0, -1, -1⟩, ⟨1, 0, 0⟩, ⟨0, 0, 1⟩⟩
theorem lead_T1 : Leads W1 W1 (tr T1) := ⟨by decide, by decide⟩
def Ph_law : PhiD := fun ds mu Q => ∃ (ns : List Int), ds = [.scr (ns.map D.int)] ∧ mu = [] ∧ ns.length ≤ 63 ∧ Q (.bl true) []
theorem ok_law (A : Al K mg base T) : FnOk P w K mg base CX0 12 A.f_law A.fd_law ["_law_script"] (spD K T Ph_law) := by
  refine fn_d A.F_law sc_law ?len (fun cdv Ar outer s H E hr => (ssd_cons (sd_forR1 PassesOwn.never rfl sc_law.nd (j := 1) rfl (.inl rfl) rfl A.z_range (ad_cons (ed_callB rc_max2 (call_max2 rfl) (by rfl) A.z_max (by decide +kernel) (ad_cons ed_int (ad_cons (ed_callB rc_min2 (call_min2 rfl) (by rfl) A.z_min (by decide +kernel) (ad_cons ed_int (ad_cons (ed_callB rc_len call_len_seq (by rfl) A.z_len (by decide +kernel) (ad_cons (ed_var 0 (pv 0)) ad_nil)) ad_nil))) ad_nil))) ad_nil) (ssd_one (sd_if (td_not (td_val (ed_callN (ok__law_right A) hr rfl A.g__law_right A.F__law_right.kp A.b__law_right (nd_call (ok__law_jug A) (hr.mono (by decide)) rfl A.g__law_jug A.F__law_jug.kp A.b__law_jug (ad_cons (ed_var 0 (pv 0)) (ad_cons (ed_var 1 (pv 1)) ad_nil)))))) (ssd_one (sd_ret ed_bl)) ssd_nil)))
    (ssd_cons (sd_set (i := 2) sc_law.nd rfl (.inl rfl) (ed_tup (ad_cons ed_int (ad_cons ed_int (ad_cons ed_int (ad_cons ed_int (ad_cons ed_int (ad_cons ed_int ad_nil))))))))
    (ssd_cons (sd_set (i := 3) sc_law.nd rfl (.inl rfl) (ed_lst (ad_cons (ed_call (ok_are_forms_alike A) (hr.mono (by decide)) rfl A.g_are_forms_alike A.F_are_forms_alike.kp A.b_are_forms_alike (ad_cons (ed_tup (ad_cons ed_int (ad_cons ed_int (ad_cons ed_int (ad_cons ed_int (ad_cons ed_int (ad_cons ed_int ad_nil))))))) (ad_cons (ed_var 2 (pv 2)) ad_nil))) (ad_cons (ed_call (ok_form_lead A) (hr.mono (by decide)) rfl A.g_form_lead A.F_form_lead.kp A.b_form_lead (ad_cons (ed_var 2 (pv 2)) (ad_cons (ed_tup (ad_cons ed_int (ad_cons ed_int (ad_cons ed_int (ad_cons ed_int (ad_cons ed_int (ad_cons ed_int ad_nil))))))) ad_nil))) (ad_cons (ed_call (ok_are_forms_alike A) (hr.mono (by decide)) rfl A.g_are_forms_alike A.F_are_forms_alike.kp A.b_are_forms_alike (ad_cons (ed_var 2 (pv 2)) (ad_cons (ed_var 2 (pv 2)) ad_nil))) ad_nil)))))
    (ssd_one (sd_ret (ed_and (ed_cmp (op_eqD hr.units) od_eqD (ed_var 3 (pv 3)) (ed_lst (ad_cons ed_bl (ad_cons ed_non (ad_cons ed_bl ad_nil)))) (nomark _)) (ed_one (ed_call (ok_is_form_lead A) (hr.mono (by decide)) rfl A.g_is_form_lead A.F_is_form_lead.kp A.b_is_form_lead (ad_cons (ed_var 2 (pv 2)) (ad_cons (ed_var 2 (pv 2)) (ad_cons (ed_tup (ad_cons (ed_tup (ad_cons ed_int (ad_cons (ed_neg ed_int) (ad_cons (ed_neg ed_int) ad_nil)))) (ad_cons (ed_tup (ad_cons ed_int (ad_cons ed_int (ad_cons ed_int ad_nil)))) (ad_cons (ed_tup (ad_cons ed_int (ad_cons ed_int (ad_cons ed_int ad_nil)))) ad_nil)))) ad_nil)))))))))))) ?rd
  · rintro ds mu Qd ⟨ns, rfl, _⟩; rfl
  · rintro ds mu Qd ⟨ns, rfl, rfl, hl, hq⟩
    refine put_e ?_; intro δ1 e; rw [st_law] at e; subst e
    repeat walk_at "st"
    rw [List.length_map]
    obtain ⟨n, hn, hn3⟩ : ∃ n : Nat, (if (if (ns.length : Int) < 3 then (ns.length : Int) else 3) > 1 then (if (ns.length : Int) < 3 then (ns.length : Int) else 3) else 1) = (n : Int) ∧ n ≤ 3 := by
      refine ⟨(if (if (ns.length : Int) < 3 then (ns.length : Int) else 3) > 1 then (if (ns.length : Int) < 3 then (ns.length : Int) else 3) else 1).toNat, ?_, ?_⟩ <;> (repeat split) <;> omega
    rw [hn]
    refine ⟨⟨by omega, by omega⟩, ?_⟩
    rw [Int.toNat_natCast]
    refine ⟨fun i δ mu => ∃ o1, δ = [some (.scr (ns.map D.int)), o1, none, none] ∧ mu = [], ⟨_, rfl, rfl⟩, fun i δ mu hi hP => ?p1, fun δ mu hP => ?p2⟩
    case p1 =>
      obtain ⟨o1, rfl, rfl⟩ := hP
      repeat walk_at "st"
      refine ⟨Nat.le_trans (Nat.le_of_eq (Nat.zero_add i)) (by omega), fun J hJ => ?_⟩
      refine ⟨J, rfl, J, rfl, rfl, hJ, fun J' => ⟨rfl, ?_⟩⟩
      repeat walk_at "st"
      rfl
    case p2 =>
      obtain ⟨o1, rfl, rfl⟩ := hP
      have six : 6 ≤ sizeLine := by decide
      repeat walk_at "st"
      refine ⟨six, ?_⟩
      repeat walk_at "st"
      refine ⟨six, ?_⟩
      repeat walk_at "st"
      refine ⟨F1, W1, rfl, gd_F1, gd_W1, fun b hb => ?_⟩
      have hbf : b = false := by
        cases b with
        | false => rfl
        | true => obtain ⟨t, L⟩ := hb.mp rfl; exact absurd L (no_lead t)
      subst hbf
      repeat walk_at "st"
      refine ⟨six, ?_⟩
      repeat walk_at "st"
      refine ⟨W1, F1, rfl, gd_W1, gd_F1, fun d hd => ?_⟩
      rcases hd with ⟨rfl, _⟩ | ⟨t, _, L, _⟩
      case inr => exact absurd L.back (no_lead _)
      repeat walk_at "st"
      refine ⟨W1, W1, rfl, gd_W1, gd_W1, fun b hb2 => ?_⟩
      obtain rfl := hb2.mpr ⟨_, Leads.id W1⟩
      repeat walk_at "st"
      refine ⟨three, ?_⟩
      repeat walk_at "st"
      refine ⟨three, ?_⟩
      refine ⟨rfl, rfl, by decide +kernel, by decide +kernel, _, rfl, ?_⟩
      refine if_t (by decide +kernel) ?_
      repeat walk_at "st"
      refine ⟨three, ?_⟩
      repeat walk_at "st"
      refine ⟨three, ?_⟩
      repeat walk_at "st"
      refine ⟨three, ?_⟩
      repeat walk_at "st"
      refine ⟨three, ?_⟩
      repeat walk_at "st"
      have bT1 : Bd 10 T1 := ⟨⟨Bn.of_le (k := 1) (by decide) (by decide), Bn.of_le (k := 1) (by decide) (by decide), Bn.of_le (k := 1) (by decide) (by decide)⟩, ⟨Bn.of_le (k := 1) (by decide) (by decide), Bn.of_le (k := 1) (by decide) (by decide), Bn.of_le (k := 1) (by decide) (by decide)⟩, ⟨Bn.of_le (k := 1) (by decide) (by decide), Bn.of_le (k := 1) (by decide) (by decide), Bn.of_le (k := 1) (by decide) (by decide)⟩⟩
      refine ⟨W1, W1, T1.D, rfl, gd_W1.fm, gd_W1.fm, rfl, fun t e => by rw [← Tb.inj e]; exact bT1.mono (by decide), fun b hb3 => ?_⟩
      obtain rfl := hb3.mpr ⟨T1, rfl, lead_T1⟩
      exact ⟨.inl rfl, hq⟩
end
end K77
end
section
set_option maxHeartbeats 0
namespace K77
open PySem PySem.Spec PyProof.Rows L2 DL

theorem funOf {K : PySem.W.Frag} {x : Str} {st : Stmt} {f : Addr} {fd : FuncData} (F : FunD K x x (defArgs st) (defBody st) (defScope st) [] [] f fd) : Fun K x x st f fd := by
  obtain ⟨oc, od, dV, kV, doc, pm, an, cdv, ct, osl, e, lk, hc, dfl, _⟩ := F.ex
  have z : dV = .none := by
    rcases dfl with ⟨h1, h2⟩ | ⟨h1, _⟩
    · first | exact h1 | exact h2
    · exact absurd rfl h1
  subst z
  exact ⟨⟨oc, od, kV, doc, pm, an, cdv, ct, osl, e, lk, hc⟩, F.kp⟩
/-- a def's code object -/
theorem codeFd {K : PySem.W.Frag} {x : Str} {st : Stmt} {fd : FuncData} (F : Fun K x x st (He.fAd K (x, none)) fd) : fd.code = .ref (He.cT K (x, none)).1 := by
  obtain ⟨oc, od, kV, doc, pm, an, cdv, ct, osl, e, lk, hc⟩ := F.ex
  obtain ⟨c, hcd⟩ := He.codeIn_ref hc
  have h : fd.code = .ref c := by rw [e]; exact hcd
  have h2 := He.codeOf_eq lk h
  rw [h]
  show Value.ref c = .ref (He.codeOf K (x, none))
  rw [h2]
def T77 (K : PySem.W.Frag) : List (Addr × Str) := [((He.cT K ("lessened", none)).2, (("lessened" : Str) ++ ".<locals>.") ++ "<lambda>"), ((He.cT K ("small_points", none)).2, (("small_points" : Str) ++ ".<locals>.") ++ "<lambda>")]
theorem idle_rd {K : PySem.W.Frag} (c : exL K = true) (as : Bx) (H : Hp) : Rd K as H (.ref (idleA K)) idleD := by
  obtain ⟨_, c⟩ := He.ba c
  obtain ⟨_, c⟩ := He.ba c
  obtain ⟨c0, c⟩ := He.ba c
  obtain ⟨c1, c⟩ := He.ba c
  obtain ⟨c2, c⟩ := He.ba c
  obtain ⟨c3, _⟩ := He.ba c
  exact .tup (tupA_ok c0 _) (.cons (.tup (tupA_ok c1 _) (.cons (.int _) (.cons (.int _) (.cons (.int _) .nil)))) (.cons (.tup (tupA_ok c2 _) (.cons (.int _) (.cons (.int _) (.cons (.int _) .nil)))) (.cons (.tup (tupA_ok c3 _) (.cons (.int _) (.cons (.int _) (.cons (.int _) .nil)))) .nil)))
theorem tabs_ne {K : PySem.W.Frag} (c : exL K = true) : (He.cT K ("lessened", none)).2 ≠ (He.cT K ("small_points", none)).2 := by
  obtain ⟨_, c⟩ := He.ba c
  obtain ⟨_, c⟩ := He.ba c
  obtain ⟨_, c⟩ := He.ba c
  obtain ⟨_, c⟩ := He.ba c
  obtain ⟨_, c⟩ := He.ba c
  obtain ⟨_, c⟩ := He.ba c
  intro e
  rw [decide_eq_true e] at c
  cases c
theorem facts77 {w : World} {K : PySem.W.Frag} {h : Heap} {mg : Str → Option Value} {fa : Addr} (X : K.In h) (G : h.Ns mainGlobals mg) (hfa : mg ("law" : Str) = some (.ref fa)) (c : He.SaysX faL fnL [] tfL exL w h K) :
    LamX.LawAtS PySem.Challenge.rw_signfours_k77_whole_forms_alike_or_not w K CX0 12 63 "_law_script" mg fa h := by
  obtain ⟨fd_is_whole, D_is_whole⟩ := c.t.d.def_ 0 (d := d_is_whole) rfl
  have F_is_whole : Fun K "is_whole" "is_whole" s_is_whole (He.ga K "is_whole") fd_is_whole := funOf D_is_whole
  obtain ⟨fd_value_at, D_value_at⟩ := c.t.d.def_ 1 (d := d_value_at) rfl
  have F_value_at : Fun K "value_at" "value_at" s_value_at (He.ga K "value_at") fd_value_at := funOf D_value_at
  obtain ⟨fd_discriminant_of, D_discriminant_of⟩ := c.t.d.def_ 2 (d := d_discriminant_of) rfl
  have F_discriminant_of : Fun K "discriminant_of" "discriminant_of" s_discriminant_of (He.ga K "discriminant_of") fd_discriminant_of := funOf D_discriminant_of
  obtain ⟨fd_plus, D_plus⟩ := c.t.d.def_ 3 (d := d_plus) rfl
  have F_plus : Fun K "plus" "plus" s_plus (He.ga K "plus") fd_plus := funOf D_plus
  obtain ⟨fd_times, D_times⟩ := c.t.d.def_ 4 (d := d_times) rfl
  have F_times : Fun K "times" "times" s_times (He.ga K "times") fd_times := funOf D_times
  obtain ⟨fd_both_at, D_both_at⟩ := c.t.d.def_ 5 (d := d_both_at) rfl
  have F_both_at : Fun K "both_at" "both_at" s_both_at (He.ga K "both_at") fd_both_at := funOf D_both_at
  obtain ⟨fd_across, D_across⟩ := c.t.d.def_ 6 (d := d_across) rfl
  have F_across : Fun K "across" "across" s_across (He.ga K "across") fd_across := funOf D_across
  obtain ⟨fd_summed, D_summed⟩ := c.t.d.def_ 7 (d := d_summed) rfl
  have F_summed : Fun K "summed" "summed" s_summed (He.ga K "summed") fd_summed := funOf D_summed
  obtain ⟨fd_doubled_rows, D_doubled_rows⟩ := c.t.d.def_ 8 (d := d_doubled_rows) rfl
  have F_doubled_rows : Fun K "doubled_rows" "doubled_rows" s_doubled_rows (He.ga K "doubled_rows") fd_doubled_rows := funOf D_doubled_rows
  obtain ⟨fd_led_by, D_led_by⟩ := c.t.d.def_ 9 (d := d_led_by) rfl
  have F_led_by : Fun K "led_by" "led_by" s_led_by (He.ga K "led_by") fd_led_by := funOf D_led_by
  obtain ⟨fd_spanned, D_spanned⟩ := c.t.d.def_ 10 (d := d_spanned) rfl
  have F_spanned : Fun K "spanned" "spanned" s_spanned (He.ga K "spanned") fd_spanned := funOf D_spanned
  obtain ⟨fd_points_to, D_points_to⟩ := c.t.d.def_ 11 (d := d_points_to) rfl
  have F_points_to : Fun K "points_to" "points_to" s_points_to (He.ga K "points_to") fd_points_to := funOf D_points_to
  obtain ⟨fd_points_with, D_points_with⟩ := c.t.d.def_ 12 (d := d_points_with) rfl
  have F_points_with : Fun K "points_with" "points_with" s_points_with (He.ga K "points_with") fd_points_with := funOf D_points_with
  obtain ⟨fd_turned, D_turned⟩ := c.t.d.def_ 13 (d := d_turned) rfl
  have F_turned : Fun K "turned" "turned" s_turned (He.ga K "turned") fd_turned := funOf D_turned
  obtain ⟨fd_determinant, D_determinant⟩ := c.t.d.def_ 14 (d := d_determinant) rfl
  have F_determinant : Fun K "determinant" "determinant" s_determinant (He.ga K "determinant") fd_determinant := funOf D_determinant
  obtain ⟨fd_product, D_product⟩ := c.t.d.def_ 15 (d := d_product) rfl
  have F_product : Fun K "product" "product" s_product (He.ga K "product") fd_product := funOf D_product
  obtain ⟨fd_taken_back, D_taken_back⟩ := c.t.d.def_ 16 (d := d_taken_back) rfl
  have F_taken_back : Fun K "taken_back" "taken_back" s_taken_back (He.ga K "taken_back") fd_taken_back := funOf D_taken_back
  obtain ⟨fd_form_by, D_form_by⟩ := c.t.d.def_ 17 (d := d_form_by) rfl
  have F_form_by : Fun K "form_by" "form_by" s_form_by (He.ga K "form_by") fd_form_by := funOf D_form_by
  obtain ⟨fd_nearest, D_nearest⟩ := c.t.d.def_ 18 (d := d_nearest) rfl
  have F_nearest : Fun K "nearest" "nearest" s_nearest (He.ga K "nearest") fd_nearest := funOf D_nearest
  obtain ⟨fd_lessened, D_lessened⟩ := c.t.d.def_ 19 (d := d_lessened) rfl
  have F_lessened : Fun K "lessened" "lessened" s_lessened (He.ga K "lessened") fd_lessened := funOf D_lessened
  obtain ⟨fd_small_points, D_small_points⟩ := c.t.d.def_ 20 (d := d_small_points) rfl
  have F_small_points : Fun K "small_points" "small_points" s_small_points (He.ga K "small_points") fd_small_points := funOf D_small_points
  obtain ⟨fd_third_point, D_third_point⟩ := c.t.d.def_ 21 (d := d_third_point) rfl
  have F_third_point : Fun K "third_point" "third_point" s_third_point (He.ga K "third_point") fd_third_point := funOf D_third_point
  obtain ⟨fd_small_lead, D_small_lead⟩ := c.t.d.def_ 22 (d := d_small_lead) rfl
  have F_small_lead : Fun K "small_lead" "small_lead" s_small_lead (He.ga K "small_lead") fd_small_lead := funOf D_small_lead
  obtain ⟨fd_lead_of, D_lead_of⟩ := c.t.d.def_ 23 (d := d_lead_of) rfl
  have F_lead_of : Fun K "lead_of" "lead_of" s_lead_of (He.ga K "lead_of") fd_lead_of := funOf D_lead_of
  obtain ⟨fd_is_lead_of, D_is_lead_of⟩ := c.t.d.def_ 24 (d := d_is_lead_of) rfl
  have F_is_lead_of : Fun K "is_lead_of" "is_lead_of" s_is_lead_of (He.ga K "is_lead_of") fd_is_lead_of := funOf D_is_lead_of
  obtain ⟨fd_is_form, D_is_form⟩ := c.t.d.def_ 25 (d := d_is_form) rfl
  have F_is_form : Fun K "is_form" "is_form" s_is_form (He.ga K "is_form") fd_is_form := funOf D_is_form
  obtain ⟨fd_require_form, D_require_form⟩ := c.t.d.def_ 26 (d := d_require_form) rfl
  have F_require_form : Fun K "require_form" "require_form" s_require_form (He.ga K "require_form") fd_require_form := funOf D_require_form
  obtain ⟨fd_require_small_forms, D_require_small_forms⟩ := c.t.d.def_ 27 (d := d_require_small_forms) rfl
  have F_require_small_forms : Fun K "require_small_forms" "require_small_forms" s_require_small_forms (He.ga K "require_small_forms") fd_require_small_forms := funOf D_require_small_forms
  obtain ⟨fd_form_lead, D_form_lead⟩ := c.t.d.def_ 28 (d := d_form_lead) rfl
  have F_form_lead : Fun K "form_lead" "form_lead" s_form_lead (He.ga K "form_lead") fd_form_lead := funOf D_form_lead
  obtain ⟨fd_are_forms_alike, D_are_forms_alike⟩ := c.t.d.def_ 29 (d := d_are_forms_alike) rfl
  have F_are_forms_alike : Fun K "are_forms_alike" "are_forms_alike" s_are_forms_alike (He.ga K "are_forms_alike") fd_are_forms_alike := funOf D_are_forms_alike
  obtain ⟨fd_is_table, D_is_table⟩ := c.t.d.def_ 30 (d := d_is_table) rfl
  have F_is_table : Fun K "is_table" "is_table" s_is_table (He.ga K "is_table") fd_is_table := funOf D_is_table
  obtain ⟨fd_is_form_lead, D_is_form_lead⟩ := c.t.d.def_ 31 (d := d_is_form_lead) rfl
  have F_is_form_lead : Fun K "is_form_lead" "is_form_lead" s_is_form_lead (He.ga K "is_form_lead") fd_is_form_lead := funOf D_is_form_lead
  obtain ⟨fd__law_jug, D__law_jug⟩ := c.t.d.def_ 32 (d := d__law_jug) rfl
  have F__law_jug : Fun K "_law_jug" "_law_jug" s__law_jug (He.ga K "_law_jug") fd__law_jug := funOf D__law_jug
  obtain ⟨fd__law_pour, D__law_pour⟩ := c.t.d.def_ 33 (d := d__law_pour) rfl
  have F__law_pour : Fun K "_law_pour" "_law_pour" s__law_pour (He.ga K "_law_pour") fd__law_pour := funOf D__law_pour
  obtain ⟨fd__law_of, D__law_of⟩ := c.t.d.def_ 34 (d := d__law_of) rfl
  have F__law_of : Fun K "_law_of" "_law_of" s__law_of (He.ga K "_law_of") fd__law_of := funOf D__law_of
  obtain ⟨fd__law_value, D__law_value⟩ := c.t.d.def_ 35 (d := d__law_value) rfl
  have F__law_value : Fun K "_law_value" "_law_value" s__law_value (He.ga K "_law_value") fd__law_value := funOf D__law_value
  obtain ⟨fd__law_mixed_value, D__law_mixed_value⟩ := c.t.d.def_ 36 (d := d__law_mixed_value) rfl
  have F__law_mixed_value : Fun K "_law_mixed_value" "_law_mixed_value" s__law_mixed_value (He.ga K "_law_mixed_value") fd__law_mixed_value := funOf D__law_mixed_value
  obtain ⟨fd__law_size, D__law_size⟩ := c.t.d.def_ 37 (d := d__law_size) rfl
  have F__law_size : Fun K "_law_size" "_law_size" s__law_size (He.ga K "_law_size") fd__law_size := funOf D__law_size
  obtain ⟨fd__law_is_whole, D__law_is_whole⟩ := c.t.d.def_ 38 (d := d__law_is_whole) rfl
  have F__law_is_whole : Fun K "_law_is_whole" "_law_is_whole" s__law_is_whole (He.ga K "_law_is_whole") fd__law_is_whole := funOf D__law_is_whole
  obtain ⟨fd__law_is_form, D__law_is_form⟩ := c.t.d.def_ 39 (d := d__law_is_form) rfl
  have F__law_is_form : Fun K "_law_is_form" "_law_is_form" s__law_is_form (He.ga K "_law_is_form") fd__law_is_form := funOf D__law_is_form
  obtain ⟨fd__law_columns, D__law_columns⟩ := c.t.d.def_ 40 (d := d__law_columns) rfl
  have F__law_columns : Fun K "_law_columns" "_law_columns" s__law_columns (He.ga K "_law_columns") fd__law_columns := funOf D__law_columns
  obtain ⟨fd__law_deciding, D__law_deciding⟩ := c.t.d.def_ 41 (d := d__law_deciding) rfl
  have F__law_deciding : Fun K "_law_deciding" "_law_deciding" s__law_deciding (He.ga K "_law_deciding") fd__law_deciding := funOf D__law_deciding
  obtain ⟨fd__law_led_form, D__law_led_form⟩ := c.t.d.def_ 42 (d := d__law_led_form) rfl
  have F__law_led_form : Fun K "_law_led_form" "_law_led_form" s__law_led_form (He.ga K "_law_led_form") fd__law_led_form := funOf D__law_led_form
  obtain ⟨fd__law_table, D__law_table⟩ := c.t.d.def_ 43 (d := d__law_table) rfl
  have F__law_table : Fun K "_law_table" "_law_table" s__law_table (He.ga K "_law_table") fd__law_table := funOf D__law_table
  obtain ⟨fd__law_form, D__law_form⟩ := c.t.d.def_ 44 (d := d__law_form) rfl
  have F__law_form : Fun K "_law_form" "_law_form" s__law_form (He.ga K "_law_form") fd__law_form := funOf D__law_form
  obtain ⟨fd__law_root, D__law_root⟩ := c.t.d.def_ 45 (d := d__law_root) rfl
  have F__law_root : Fun K "_law_root" "_law_root" s__law_root (He.ga K "_law_root") fd__law_root := funOf D__law_root
  obtain ⟨fd__law_spots, D__law_spots⟩ := c.t.d.def_ 46 (d := d__law_spots) rfl
  have F__law_spots : Fun K "_law_spots" "_law_spots" s__law_spots (He.ga K "_law_spots") fd__law_spots := funOf D__law_spots
  obtain ⟨fd__law_is_lead, D__law_is_lead⟩ := c.t.d.def_ 47 (d := d__law_is_lead) rfl
  have F__law_is_lead : Fun K "_law_is_lead" "_law_is_lead" s__law_is_lead (He.ga K "_law_is_lead") fd__law_is_lead := funOf D__law_is_lead
  obtain ⟨fd__law_are_alike, D__law_are_alike⟩ := c.t.d.def_ 48 (d := d__law_are_alike) rfl
  have F__law_are_alike : Fun K "_law_are_alike" "_law_are_alike" s__law_are_alike (He.ga K "_law_are_alike") fd__law_are_alike := funOf D__law_are_alike
  obtain ⟨fd__law_joined, D__law_joined⟩ := c.t.d.def_ 49 (d := d__law_joined) rfl
  have F__law_joined : Fun K "_law_joined" "_law_joined" s__law_joined (He.ga K "_law_joined") fd__law_joined := funOf D__law_joined
  obtain ⟨fd__law_near, D__law_near⟩ := c.t.d.def_ 50 (d := d__law_near) rfl
  have F__law_near : Fun K "_law_near" "_law_near" s__law_near (He.ga K "_law_near") fd__law_near := funOf D__law_near
  obtain ⟨fd__law_right, D__law_right⟩ := c.t.d.def_ 51 (d := d__law_right) rfl
  have F__law_right : Fun K "_law_right" "_law_right" s__law_right (He.ga K "_law_right") fd__law_right := funOf D__law_right
  obtain ⟨fd_law, D_law⟩ := c.t.d.def_ 52 (d := d_law) rfl
  have F_law : Fun K "law" "law" s_law (He.ga K "law") fd_law := funOf D_law
  have e := hfa.symm.trans (He.glo_ok X G (c.t.d.fact 52 (f := .glo "law") rfl))
  cases e
  have hd1 := c.hd ("lessened", none) (by simp [tfL])
  have hd2 := c.hd ("small_points", none) (by simp [tfL])
  have em1 := c.empty ("lessened", none) (by simp [tfL])
  have em2 := c.empty ("small_points", none) (by simp [tfL])
  have ou1 := c.out ("lessened", none) (by simp [tfL])
  have ou2 := c.out ("small_points", none) (by simp [tfL])
  refine ⟨fd_law, [He.cT K ("lessened", none), He.cT K ("small_points", none)], spD K (T77 K) Ph_law, fun p hp => ?_, fun p hp => ?_, fun p hp => ?_, ?_, fun H a ns hl _ hH hS => ?_, fun base KB NB TB => ?_⟩
  · rcases List.mem_cons.mp hp with rfl | hp
    · exact em1
    · rw [List.mem_singleton.mp hp]; exact em2
  · rcases List.mem_cons.mp hp with rfl | hp
    · exact ou1
    · rw [List.mem_singleton.mp hp]; exact ou2
  · rcases List.mem_cons.mp hp with rfl | hp
    · exact PySem.W.codeHd_of_K X hd1
    · rw [List.mem_singleton.mp hp]; exact PySem.W.codeHd_of_K X hd2
  · intro s u
    exact FunD.bindsA (ps := ["_law_script"]) D_law (fun _ _ _ _ _ _ us hl => match us, hl with | [_], _ => rfl) s [u] rfl
  · refine ⟨([], []), [.scr (ns.map D.int)], [], fun d _ => d = .bl true, .cons (.scr ?_ (RdAll.of_ints ns)) .nil, sto0, ?_, ⟨ns, rfl, rfl, hl, rfl⟩, ?_⟩
    · exact sqL_of (fun b o e _ => hid_some.mpr ⟨(fun z => by rcases z with z | z <;> exact absurd z (by simp)), e⟩) hS
    · intro p hp
      rcases List.mem_cons.mp hp with rfl | hp
      · exact LamX.TabS.nil (hH _ (by simp))
      · rw [List.mem_singleton.mp hp]; exact LamX.TabS.nil (hH _ (by simp))
    · rintro d mu1 v H1 rfl _ r
      cases r
      rfl
  · let A : Al K mg base (T77 K) := {
        f_is_whole := He.ga K "is_whole"
        fd_is_whole := fd_is_whole
        F_is_whole := F_is_whole
        g_is_whole := He.glo_ok X G (c.t.d.fact 0 (f := .glo "is_whole") rfl)
        b_is_whole := F_is_whole.binds (ps := ["value"]) fun _ _ _ _ _ _ us hl => match us, hl with | [_], _ => rfl
        f_value_at := He.ga K "value_at"
        fd_value_at := fd_value_at
        F_value_at := F_value_at
        g_value_at := He.glo_ok X G (c.t.d.fact 1 (f := .glo "value_at") rfl)
        b_value_at := F_value_at.binds (ps := ["form", "point"]) fun _ _ _ _ _ _ us hl => match us, hl with | [_, _], _ => rfl
        f_discriminant_of := He.ga K "discriminant_of"
        fd_discriminant_of := fd_discriminant_of
        F_discriminant_of := F_discriminant_of
        g_discriminant_of := He.glo_ok X G (c.t.d.fact 2 (f := .glo "discriminant_of") rfl)
        b_discriminant_of := F_discriminant_of.binds (ps := ["form"]) fun _ _ _ _ _ _ us hl => match us, hl with | [_], _ => rfl
        f_plus := He.ga K "plus"
        fd_plus := fd_plus
        F_plus := F_plus
        g_plus := He.glo_ok X G (c.t.d.fact 3 (f := .glo "plus") rfl)
        b_plus := F_plus.binds (ps := ["one", "other"]) fun _ _ _ _ _ _ us hl => match us, hl with | [_, _], _ => rfl
        f_times := He.ga K "times"
        fd_times := fd_times
        F_times := F_times
        g_times := He.glo_ok X G (c.t.d.fact 4 (f := .glo "times") rfl)
        b_times := F_times.binds (ps := ["factor", "point"]) fun _ _ _ _ _ _ us hl => match us, hl with | [_, _], _ => rfl
        f_both_at := He.ga K "both_at"
        fd_both_at := fd_both_at
        F_both_at := F_both_at
        g_both_at := He.glo_ok X G (c.t.d.fact 5 (f := .glo "both_at") rfl)
        b_both_at := F_both_at.binds (ps := ["form", "one", "other"]) fun _ _ _ _ _ _ us hl => match us, hl with | [_, _, _], _ => rfl
        f_across := He.ga K "across"
        fd_across := fd_across
        F_across := F_across
        g_across := He.glo_ok X G (c.t.d.fact 6 (f := .glo "across") rfl)
        b_across := F_across.binds (ps := ["one", "other"]) fun _ _ _ _ _ _ us hl => match us, hl with | [_, _], _ => rfl
        f_summed := He.ga K "summed"
        fd_summed := fd_summed
        F_summed := F_summed
        g_summed := He.glo_ok X G (c.t.d.fact 7 (f := .glo "summed") rfl)
        b_summed := F_summed.binds (ps := ["one", "other"]) fun _ _ _ _ _ _ us hl => match us, hl with | [_, _], _ => rfl
        f_doubled_rows := He.ga K "doubled_rows"
        fd_doubled_rows := fd_doubled_rows
        F_doubled_rows := F_doubled_rows
        g_doubled_rows := He.glo_ok X G (c.t.d.fact 8 (f := .glo "doubled_rows") rfl)
        b_doubled_rows := F_doubled_rows.binds (ps := ["form"]) fun _ _ _ _ _ _ us hl => match us, hl with | [_], _ => rfl
        f_led_by := He.ga K "led_by"
        fd_led_by := fd_led_by
        F_led_by := F_led_by
        g_led_by := He.glo_ok X G (c.t.d.fact 9 (f := .glo "led_by") rfl)
        b_led_by := F_led_by.binds (ps := ["rows", "point"]) fun _ _ _ _ _ _ us hl => match us, hl with | [_, _], _ => rfl
        f_spanned := He.ga K "spanned"
        fd_spanned := fd_spanned
        F_spanned := F_spanned
        g_spanned := He.glo_ok X G (c.t.d.fact 10 (f := .glo "spanned") rfl)
        b_spanned := F_spanned.binds (ps := ["least", "most", "step"]) fun _ _ _ _ _ _ us hl => match us, hl with | [_, _, _], _ => rfl
        f_points_to := He.ga K "points_to"
        fd_points_to := fd_points_to
        F_points_to := F_points_to
        g_points_to := He.glo_ok X G (c.t.d.fact 11 (f := .glo "points_to") rfl)
        b_points_to := F_points_to.binds (ps := ["form", "most"]) fun _ _ _ _ _ _ us hl => match us, hl with | [_, _], _ => rfl
        f_points_with := He.ga K "points_with"
        fd_points_with := fd_points_with
        F_points_with := F_points_with
        g_points_with := He.glo_ok X G (c.t.d.fact 12 (f := .glo "points_with") rfl)
        b_points_with := F_points_with.binds (ps := ["form", "value"]) fun _ _ _ _ _ _ us hl => match us, hl with | [_, _], _ => rfl
        f_turned := He.ga K "turned"
        fd_turned := fd_turned
        F_turned := F_turned
        g_turned := He.glo_ok X G (c.t.d.fact 13 (f := .glo "turned") rfl)
        b_turned := F_turned.binds (ps := ["table"]) fun _ _ _ _ _ _ us hl => match us, hl with | [_], _ => rfl
        f_determinant := He.ga K "determinant"
        fd_determinant := fd_determinant
        F_determinant := F_determinant
        g_determinant := He.glo_ok X G (c.t.d.fact 14 (f := .glo "determinant") rfl)
        b_determinant := F_determinant.binds (ps := ["table"]) fun _ _ _ _ _ _ us hl => match us, hl with | [_], _ => rfl
        f_product := He.ga K "product"
        fd_product := fd_product
        F_product := F_product
        g_product := He.glo_ok X G (c.t.d.fact 15 (f := .glo "product") rfl)
        b_product := F_product.binds (ps := ["one", "other"]) fun _ _ _ _ _ _ us hl => match us, hl with | [_, _], _ => rfl
        f_taken_back := He.ga K "taken_back"
        fd_taken_back := fd_taken_back
        F_taken_back := F_taken_back
        g_taken_back := He.glo_ok X G (c.t.d.fact 16 (f := .glo "taken_back") rfl)
        b_taken_back := F_taken_back.binds (ps := ["table"]) fun _ _ _ _ _ _ us hl => match us, hl with | [_], _ => rfl
        f_form_by := He.ga K "form_by"
        fd_form_by := fd_form_by
        F_form_by := F_form_by
        g_form_by := He.glo_ok X G (c.t.d.fact 17 (f := .glo "form_by") rfl)
        b_form_by := F_form_by.binds (ps := ["form", "points"]) fun _ _ _ _ _ _ us hl => match us, hl with | [_, _], _ => rfl
        f_nearest := He.ga K "nearest"
        fd_nearest := fd_nearest
        F_nearest := F_nearest
        g_nearest := He.glo_ok X G (c.t.d.fact 18 (f := .glo "nearest") rfl)
        b_nearest := F_nearest.binds (ps := ["top", "bottom"]) fun _ _ _ _ _ _ us hl => match us, hl with | [_, _], _ => rfl
        f_lessened := He.ga K "lessened"
        fd_lessened := fd_lessened
        F_lessened := F_lessened
        g_lessened := He.glo_ok X G (c.t.d.fact 19 (f := .glo "lessened") rfl)
        b_lessened := F_lessened.binds (ps := ["form", "points", "at"]) fun _ _ _ _ _ _ us hl => match us, hl with | [_, _, _], _ => rfl
        f_small_points := He.ga K "small_points"
        fd_small_points := fd_small_points
        F_small_points := F_small_points
        g_small_points := He.glo_ok X G (c.t.d.fact 20 (f := .glo "small_points") rfl)
        b_small_points := F_small_points.binds (ps := ["form"]) fun _ _ _ _ _ _ us hl => match us, hl with | [_], _ => rfl
        f_third_point := He.ga K "third_point"
        fd_third_point := fd_third_point
        F_third_point := F_third_point
        g_third_point := He.glo_ok X G (c.t.d.fact 21 (f := .glo "third_point") rfl)
        b_third_point := F_third_point.binds (ps := ["form", "goal", "first", "second"]) fun _ _ _ _ _ _ us hl => match us, hl with | [_, _, _, _], _ => rfl
        f_small_lead := He.ga K "small_lead"
        fd_small_lead := fd_small_lead
        F_small_lead := F_small_lead
        g_small_lead := He.glo_ok X G (c.t.d.fact 22 (f := .glo "small_lead") rfl)
        b_small_lead := F_small_lead.binds (ps := ["form", "goal"]) fun _ _ _ _ _ _ us hl => match us, hl with | [_, _], _ => rfl
        f_lead_of := He.ga K "lead_of"
        fd_lead_of := fd_lead_of
        F_lead_of := F_lead_of
        g_lead_of := He.glo_ok X G (c.t.d.fact 23 (f := .glo "lead_of") rfl)
        b_lead_of := F_lead_of.binds (ps := ["one", "other"]) fun _ _ _ _ _ _ us hl => match us, hl with | [_, _], _ => rfl
        f_is_lead_of := He.ga K "is_lead_of"
        fd_is_lead_of := fd_is_lead_of
        F_is_lead_of := F_is_lead_of
        g_is_lead_of := He.glo_ok X G (c.t.d.fact 24 (f := .glo "is_lead_of") rfl)
        b_is_lead_of := F_is_lead_of.binds (ps := ["one", "other", "table"]) fun _ _ _ _ _ _ us hl => match us, hl with | [_, _, _], _ => rfl
        f_is_form := He.ga K "is_form"
        fd_is_form := fd_is_form
        F_is_form := F_is_form
        g_is_form := He.glo_ok X G (c.t.d.fact 25 (f := .glo "is_form") rfl)
        b_is_form := F_is_form.binds (ps := ["value"]) fun _ _ _ _ _ _ us hl => match us, hl with | [_], _ => rfl
        f_require_form := He.ga K "require_form"
        fd_require_form := fd_require_form
        F_require_form := F_require_form
        g_require_form := He.glo_ok X G (c.t.d.fact 26 (f := .glo "require_form") rfl)
        b_require_form := F_require_form.binds (ps := ["value"]) fun _ _ _ _ _ _ us hl => match us, hl with | [_], _ => rfl
        f_require_small_forms := He.ga K "require_small_forms"
        fd_require_small_forms := fd_require_small_forms
        F_require_small_forms := F_require_small_forms
        g_require_small_forms := He.glo_ok X G (c.t.d.fact 27 (f := .glo "require_small_forms") rfl)
        b_require_small_forms := F_require_small_forms.binds (ps := ["one", "other"]) fun _ _ _ _ _ _ us hl => match us, hl with | [_, _], _ => rfl
        f_form_lead := He.ga K "form_lead"
        fd_form_lead := fd_form_lead
        F_form_lead := F_form_lead
        g_form_lead := He.glo_ok X G (c.t.d.fact 28 (f := .glo "form_lead") rfl)
        b_form_lead := F_form_lead.binds (ps := ["one", "other"]) fun _ _ _ _ _ _ us hl => match us, hl with | [_, _], _ => rfl
        f_are_forms_alike := He.ga K "are_forms_alike"
        fd_are_forms_alike := fd_are_forms_alike
        F_are_forms_alike := F_are_forms_alike
        g_are_forms_alike := He.glo_ok X G (c.t.d.fact 29 (f := .glo "are_forms_alike") rfl)
        b_are_forms_alike := F_are_forms_alike.binds (ps := ["one", "other"]) fun _ _ _ _ _ _ us hl => match us, hl with | [_, _], _ => rfl
        f_is_table := He.ga K "is_table"
        fd_is_table := fd_is_table
        F_is_table := F_is_table
        g_is_table := He.glo_ok X G (c.t.d.fact 30 (f := .glo "is_table") rfl)
        b_is_table := F_is_table.binds (ps := ["value"]) fun _ _ _ _ _ _ us hl => match us, hl with | [_], _ => rfl
        f_is_form_lead := He.ga K "is_form_lead"
        fd_is_form_lead := fd_is_form_lead
        F_is_form_lead := F_is_form_lead
        g_is_form_lead := He.glo_ok X G (c.t.d.fact 31 (f := .glo "is_form_lead") rfl)
        b_is_form_lead := F_is_form_lead.binds (ps := ["one", "other", "value"]) fun _ _ _ _ _ _ us hl => match us, hl with | [_, _, _], _ => rfl
        f__law_jug := He.ga K "_law_jug"
        fd__law_jug := fd__law_jug
        F__law_jug := F__law_jug
        g__law_jug := He.glo_ok X G (c.t.d.fact 32 (f := .glo "_law_jug") rfl)
        b__law_jug := F__law_jug.binds (ps := ["_law_script", "_law_spot"]) fun _ _ _ _ _ _ us hl => match us, hl with | [_, _], _ => rfl
        f__law_pour := He.ga K "_law_pour"
        fd__law_pour := fd__law_pour
        F__law_pour := F__law_pour
        g__law_pour := He.glo_ok X G (c.t.d.fact 33 (f := .glo "_law_pour") rfl)
        b__law_pour := F__law_pour.binds (ps := ["_law_jug_here", "_law_many"]) fun _ _ _ _ _ _ us hl => match us, hl with | [_, _], _ => rfl
        f__law_of := He.ga K "_law_of"
        fd__law_of := fd__law_of
        F__law_of := F__law_of
        g__law_of := He.glo_ok X G (c.t.d.fact 34 (f := .glo "_law_of") rfl)
        b__law_of := F__law_of.binds (ps := ["_law_jug_here", "_law_items"]) fun _ _ _ _ _ _ us hl => match us, hl with | [_, _], _ => rfl
        f__law_value := He.ga K "_law_value"
        fd__law_value := fd__law_value
        F__law_value := F__law_value
        g__law_value := He.glo_ok X G (c.t.d.fact 35 (f := .glo "_law_value") rfl)
        b__law_value := F__law_value.binds (ps := ["_law_form_here", "_law_spot"]) fun _ _ _ _ _ _ us hl => match us, hl with | [_, _], _ => rfl
        f__law_mixed_value := He.ga K "_law_mixed_value"
        fd__law_mixed_value := fd__law_mixed_value
        F__law_mixed_value := F__law_mixed_value
        g__law_mixed_value := He.glo_ok X G (c.t.d.fact 36 (f := .glo "_law_mixed_value") rfl)
        b__law_mixed_value := F__law_mixed_value.binds (ps := ["_law_form_here", "_law_one", "_law_other"]) fun _ _ _ _ _ _ us hl => match us, hl with | [_, _, _], _ => rfl
        f__law_size := He.ga K "_law_size"
        fd__law_size := fd__law_size
        F__law_size := F__law_size
        g__law_size := He.glo_ok X G (c.t.d.fact 37 (f := .glo "_law_size") rfl)
        b__law_size := F__law_size.binds (ps := ["_law_form_here"]) fun _ _ _ _ _ _ us hl => match us, hl with | [_], _ => rfl
        f__law_is_whole := He.ga K "_law_is_whole"
        fd__law_is_whole := fd__law_is_whole
        F__law_is_whole := F__law_is_whole
        g__law_is_whole := He.glo_ok X G (c.t.d.fact 38 (f := .glo "_law_is_whole") rfl)
        b__law_is_whole := F__law_is_whole.binds (ps := ["_law_value_here"]) fun _ _ _ _ _ _ us hl => match us, hl with | [_], _ => rfl
        f__law_is_form := He.ga K "_law_is_form"
        fd__law_is_form := fd__law_is_form
        F__law_is_form := F__law_is_form
        g__law_is_form := He.glo_ok X G (c.t.d.fact 39 (f := .glo "_law_is_form") rfl)
        b__law_is_form := F__law_is_form.binds (ps := ["_law_value_here"]) fun _ _ _ _ _ _ us hl => match us, hl with | [_], _ => rfl
        f__law_columns := He.ga K "_law_columns"
        fd__law_columns := fd__law_columns
        F__law_columns := F__law_columns
        g__law_columns := He.glo_ok X G (c.t.d.fact 40 (f := .glo "_law_columns") rfl)
        b__law_columns := F__law_columns.binds (ps := ["_law_table_here"]) fun _ _ _ _ _ _ us hl => match us, hl with | [_], _ => rfl
        f__law_deciding := He.ga K "_law_deciding"
        fd__law_deciding := fd__law_deciding
        F__law_deciding := F__law_deciding
        g__law_deciding := He.glo_ok X G (c.t.d.fact 41 (f := .glo "_law_deciding") rfl)
        b__law_deciding := F__law_deciding.binds (ps := ["_law_table_here"]) fun _ _ _ _ _ _ us hl => match us, hl with | [_], _ => rfl
        f__law_led_form := He.ga K "_law_led_form"
        fd__law_led_form := fd__law_led_form
        F__law_led_form := F__law_led_form
        g__law_led_form := He.glo_ok X G (c.t.d.fact 42 (f := .glo "_law_led_form") rfl)
        b__law_led_form := F__law_led_form.binds (ps := ["_law_form_here", "_law_table_here"]) fun _ _ _ _ _ _ us hl => match us, hl with | [_, _], _ => rfl
        f__law_table := He.ga K "_law_table"
        fd__law_table := fd__law_table
        F__law_table := F__law_table
        g__law_table := He.glo_ok X G (c.t.d.fact 43 (f := .glo "_law_table") rfl)
        b__law_table := F__law_table.binds (ps := ["_law_jug_here", "_law_turns"]) fun _ _ _ _ _ _ us hl => match us, hl with | [_, _], _ => rfl
        f__law_form := He.ga K "_law_form"
        fd__law_form := fd__law_form
        F__law_form := F__law_form
        g__law_form := He.glo_ok X G (c.t.d.fact 44 (f := .glo "_law_form") rfl)
        b__law_form := F__law_form.binds (ps := ["_law_jug_here"]) fun _ _ _ _ _ _ us hl => match us, hl with | [_], _ => rfl
        f__law_root := He.ga K "_law_root"
        fd__law_root := fd__law_root
        F__law_root := F__law_root
        g__law_root := He.glo_ok X G (c.t.d.fact 45 (f := .glo "_law_root") rfl)
        b__law_root := F__law_root.binds (ps := ["_law_number"]) fun _ _ _ _ _ _ us hl => match us, hl with | [_], _ => rfl
        f__law_spots := He.ga K "_law_spots"
        fd__law_spots := fd__law_spots
        F__law_spots := F__law_spots
        g__law_spots := He.glo_ok X G (c.t.d.fact 46 (f := .glo "_law_spots") rfl)
        b__law_spots := F__law_spots.binds (ps := ["_law_form_here", "_law_most"]) fun _ _ _ _ _ _ us hl => match us, hl with | [_, _], _ => rfl
        f__law_is_lead := He.ga K "_law_is_lead"
        fd__law_is_lead := fd__law_is_lead
        F__law_is_lead := F__law_is_lead
        g__law_is_lead := He.glo_ok X G (c.t.d.fact 47 (f := .glo "_law_is_lead") rfl)
        b__law_is_lead := F__law_is_lead.binds (ps := ["_law_one", "_law_other", "_law_value_here"]) fun _ _ _ _ _ _ us hl => match us, hl with | [_, _, _], _ => rfl
        f__law_are_alike := He.ga K "_law_are_alike"
        fd__law_are_alike := fd__law_are_alike
        F__law_are_alike := F__law_are_alike
        g__law_are_alike := He.glo_ok X G (c.t.d.fact 48 (f := .glo "_law_are_alike") rfl)
        b__law_are_alike := F__law_are_alike.binds (ps := ["_law_one", "_law_other"]) fun _ _ _ _ _ _ us hl => match us, hl with | [_, _], _ => rfl
        f__law_joined := He.ga K "_law_joined"
        fd__law_joined := fd__law_joined
        F__law_joined := F__law_joined
        g__law_joined := He.glo_ok X G (c.t.d.fact 49 (f := .glo "_law_joined") rfl)
        b__law_joined := F__law_joined.binds (ps := ["_law_one", "_law_other"]) fun _ _ _ _ _ _ us hl => match us, hl with | [_, _], _ => rfl
        f__law_near := He.ga K "_law_near"
        fd__law_near := fd__law_near
        F__law_near := F__law_near
        g__law_near := He.glo_ok X G (c.t.d.fact 50 (f := .glo "_law_near") rfl)
        b__law_near := F__law_near.binds (ps := ["_law_jug_here", "_law_table_here"]) fun _ _ _ _ _ _ us hl => match us, hl with | [_, _], _ => rfl
        f__law_right := He.ga K "_law_right"
        fd__law_right := fd__law_right
        F__law_right := F__law_right
        g__law_right := He.glo_ok X G (c.t.d.fact 51 (f := .glo "_law_right") rfl)
        b__law_right := F__law_right.binds (ps := ["_law_jug_here"]) fun _ _ _ _ _ _ us hl => match us, hl with | [_], _ => rfl
        f_law := He.ga K "law"
        fd_law := fd_law
        F_law := F_law
        g_law := He.glo_ok X G (c.t.d.fact 52 (f := .glo "law") rfl)
        b_law := F_law.binds (ps := ["_law_script"]) fun _ _ _ _ _ _ us hl => match us, hl with | [_], _ => rfl
        t_MAX_ENTRY := (He.int_ok X G (c.t.d.fact 70 (f := .int "MAX_ENTRY" 1000000) rfl)).choose
        m_MAX_ENTRY := (He.int_ok X G (c.t.d.fact 70 (f := .int "MAX_ENTRY" 1000000) rfl)).choose_spec
        t_ENTRIES := (He.int_ok X G (c.t.d.fact 71 (f := .int "ENTRIES" 6) rfl)).choose
        m_ENTRIES := (He.int_ok X G (c.t.d.fact 71 (f := .int "ENTRIES" 6) rfl)).choose_spec
        t_ROWS := (He.int_ok X G (c.t.d.fact 72 (f := .int "ROWS" 3) rfl)).choose
        m_ROWS := (He.int_ok X G (c.t.d.fact 72 (f := .int "ROWS" 3) rfl)).choose_spec
        c_lessened := (He.cT K ("lessened", none)).1
        p_lessened := (He.cT K ("lessened", none)).2
        e_lessened := codeFd F_lessened
        t_lessened := TB (He.cT K ("lessened", none)) (by simp)
        i_lessened := by simp [T77]
        u_lessened := fun q hq e => by
          rcases List.mem_cons.mp hq with rfl | hq
          · rfl
          · rw [List.mem_singleton.mp hq] at e
            exact absurd e.symm (tabs_ne c.more)
        c_small_points := (He.cT K ("small_points", none)).1
        p_small_points := (He.cT K ("small_points", none)).2
        e_small_points := codeFd F_small_points
        t_small_points := TB (He.cT K ("small_points", none)) (by simp)
        i_small_points := by simp [T77]
        u_small_points := fun q hq e => by
          rcases List.mem_cons.mp hq with rfl | hq
          · exact absurd e (tabs_ne c.more)
          · rw [List.mem_singleton.mp hq]
        a_IDLE := idleA K
        m_IDLE := PySem.W.mg_of X G (He.eqO_ok (He.ba (He.ba c.more).2).1)
        r_IDLE := idle_rd c.more
        m_isqrt := PySem.W.mg_of X G (He.eqO_ok (He.ba c.more).1)
        z_tuple := He.free_ok X G (c.t.d.fact 53 (f := .free "tuple") rfl)
        z_zip := He.free_ok X G (c.t.d.fact 54 (f := .free "zip") rfl)
        z_sum := He.free_ok X G (c.t.d.fact 55 (f := .free "sum") rfl)
        z_list := He.free_ok X G (c.t.d.fact 56 (f := .free "list") rfl)
        z_range := He.free_ok X G (c.t.d.fact 57 (f := .free "range") rfl)
        z_len := He.free_ok X G (c.t.d.fact 58 (f := .free "len") rfl)
        z_isinstance := He.free_ok X G (c.t.d.fact 59 (f := .free "isinstance") rfl)
        z_int := He.free_ok X G (c.t.d.fact 60 (f := .free "int") rfl)
        z_bool := He.free_ok X G (c.t.d.fact 61 (f := .free "bool") rfl)
        z_all := He.free_ok X G (c.t.d.fact 62 (f := .free "all") rfl)
        z_any := He.free_ok X G (c.t.d.fact 63 (f := .free "any") rfl)
        z_abs := He.free_ok X G (c.t.d.fact 64 (f := .free "abs") rfl)
        z_enumerate := He.free_ok X G (c.t.d.fact 65 (f := .free "enumerate") rfl)
        z_min := He.free_ok X G (c.t.d.fact 66 (f := .free "min") rfl)
        z_max := He.free_ok X G (c.t.d.fact 67 (f := .free "max") rfl)
        z_sorted := He.free_ok X G (c.t.d.fact 68 (f := .free "sorted") rfl)
        z_repr := He.free_ok X G (c.t.d.fact 69 (f := .free "repr") rfl)
      }
    exact ok_law A
end K77
end
set_option maxHeartbeats 0
open PySem PySem.W PySem.Calls PyProof.Rows
theorem PySem.Challenge.cw_signfours_k77_whole_forms_alike_or_not_holds : PySem.Challenge.rw_signfours_k77_whole_forms_alike_or_not.Holds := by
  w_on; o_law
  refine HeadRun.head_imp (r := OpenLaw.row PySem.Challenge.rw_signfours_k77_whole_forms_alike_or_not) (q := K77.qv77) (H := K77.hk77) (ob := K77.ob77) (M := 20000) (loose := K77.loose) (d := HeadRun.topDef (OpenLaw.row PySem.Challenge.rw_signfours_k77_whole_forms_alike_or_not).prog 66) (kwd := []) K77.ob77_eq K77.run77
    (by kernel_rfl) (by kernel_rfl) (by kernel_rfl) (by rfl) (by first | assumption | decide +kernel) (by decide +kernel) ⟨rfl, rfl, rfl, rfl, rfl, by decide +kernel⟩ ?hw ?hc
  case hw => w_witness2
  case hc =>
    refine LamX.walk_ofTsE (l := PySem.Challenge.rw_signfours_k77_whole_forms_alike_or_not) (n := 63) (k := 12) (x := "_law_script") (CX := fun _ => L2.CX0) rfl (by decide) (by kernel_rfl) ⟨rfl, by decide, by decide⟩ ?F (fun _ _ _ _ _ z => z)
    intro w mg fa h Y G hmg0
    obtain ⟨K, KX, c⟩ := Y
    have hmg : mg ("law" : PySem.Str) = some (.ref fa) := by
      have e : (HeadRun.topDef (OpenLaw.row PySem.Challenge.rw_signfours_k77_whole_forms_alike_or_not).prog 66).name = ("law" : PySem.Str) := by kernel_rfl
      rw [← e]
      exact hmg0
    exact ⟨K, KX, K77.facts77 KX G hmg c⟩
