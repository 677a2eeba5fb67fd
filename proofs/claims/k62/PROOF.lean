import PyProof.Rows.All
import Wide.All
import OpenK.AllK
import Wide.FinOn
import HandS.ForMost
import HandS.Exc
import HandS.HeadHook4
import HandS.Wide
import HandS.TupAny
import HandS.TupMul
import HandS.TupLe
import HandS.Deep
import HandS.SortInts
import HandS.IsInst
import HandS.Gcd
import HandS.RaiseMore
import HandS.Conv
import KE.SortData
import KE.DataMinMax
import PyProof.ReprRoads
import HandS.Walk
import HandS.Zip
import HandS.CallSlots
import HandS.Defaults
import HandS.ExcInit
import HandS.ExcField
import HandS.TryOnly
import HandS.WideBits
import KE.KTupSum
import KE.GoesEnum
import HandS.Words
import HandS.More
import HandS.SetFor
import HandS.Strs
import HandS.Dict
import HandS.List
import HandS.SortOrd
import HandS.Iter
import HandS.Style
import PyProof.Rows.TupMore
import HandS.Text
import HandS.EndBits
import HandS.HeadEnd
import KE.IntBitsLaws
import PyProof.ReprBulk
import PyProof.Rows.ReprShort
import HandS.Head0
import HandS.Head1
import HandS.Head2
import KE.KRevSl
import KE.KEqDeep
import KE.KEqSeq
import PySem.Challenge.RW_everypart_k62_texts_written_and_read
set_option Elab.async false
set_option linter.all false
set_option maxRecDepth 100000
set_option maxHeartbeats 4000000
namespace Ev
open PySem PySem.Spec PyProof.Rows L2

/-- plain data -/
inductive D where
  | non | bl (b : Bool) | int (i : Int) | str (s : Str)
  | tup (xs : List D) | lst (xs : List D)
  | dct (ks : List Key) (vs : List D)
  | obj (c : Str) (ns : List Str) (fs : List D)
  | fn (x : Str)
  | scr (ns : List Int)
  | ty (n : String)

abbrev St := L2.St
abbrev Fr := PySem.W.Frag
mutual
def Rep (K : Fr) (Z : Hp) : D → V → Prop
  | .non, v => v = .non
  | .bl b, v => v = .bl b
  | .int i, v => v = .int i
  | .str s, v => v = .str s
  | .tup xs, v => ∃ a vs, v = .ref a ∧ SqT K Z a vs ∧ RepL K Z xs vs
  | .lst xs, v => ∃ a vs, v = .ref a ∧ Z a = some (.lst vs) ∧ RepL K Z xs vs
  | .dct ks ds, v => ∃ (a : Addr) (kvs : List (Key × V)), v = .ref a ∧ Rd Z a (.dK kvs) ∧ kvs.map Prod.fst = ks ∧ RepL K Z ds (kvs.map Prod.snd)
  | .obj c ns ds, v => ∃ (a dx : Addr) (hf : List (Str × V)), v = .ref a ∧ Z a = some (.ins (He.ga K c) dx hf) ∧ hf.map Prod.fst = ns ∧ RepL K Z ds (hf.map Prod.snd)
  | .fn x, v => v = .ref (He.ga K x)
  | .scr ns, v => ∃ a, v = .ref a ∧ SqL K Z a (ns.map V.int)
  | .ty n, v => v = .ty n
def RepL (K : Fr) (Z : Hp) : List D → List V → Prop
  | [], vs => vs = []
  | d :: ds, vs => ∃ v r, vs = v :: r ∧ Rep K Z d v ∧ RepL K Z ds r
end

theorem same_sqT {K : Fr} {H H' : Hp} {a : Addr} {xs : List V} (e : Same H H') (h : SqT K H a xs) : SqT K H' a xs := by
  rcases h with (h | ⟨o, h⟩) | h
  · exact .inl (.inl (e _ _ h))
  · exact .inl (.inr ⟨o, e _ _ h⟩)
  · exact .inr h
theorem same_rd {H H' : Hp} {a : Addr} {u : HO} (e : Same H H') (h : Rd H a u) : Rd H' a u := by
  rcases h with h | ⟨o, h⟩
  · exact .inl (e _ _ h)
  · exact .inr ⟨o, e _ _ h⟩

mutual
theorem Rep.mono {K : Fr} {Z Z' : Hp} (e : Same Z Z') : ∀ (d : D) {v : V}, Rep K Z d v → Rep K Z' d v
  | .non, _, h => h
  | .bl _, _, h => h
  | .int _, _, h => h
  | .str _, _, h => h
  | .tup xs, v, h => by
    obtain ⟨a, vs, rfl, s, r⟩ := h
    exact ⟨a, vs, rfl, same_sqT e s, RepL.mono e xs r⟩
  | .lst xs, v, h => by
    obtain ⟨a, vs, rfl, s, r⟩ := h
    exact ⟨a, vs, rfl, e _ _ s, RepL.mono e xs r⟩
  | .dct ks ds, v, h => by
    obtain ⟨a, kvs, rfl, s, q, r⟩ := h
    exact ⟨a, kvs, rfl, same_rd e s, q, RepL.mono e ds r⟩
  | .obj c ns ds, v, h => by
    obtain ⟨a, dx, hf, rfl, s, q, r⟩ := h
    exact ⟨a, dx, hf, rfl, e _ _ s, q, RepL.mono e ds r⟩
  | .fn _, _, h => h
  | .scr ns, v, h => by
    obtain ⟨a, rfl, s⟩ := h
    exact ⟨a, rfl, e.seq s⟩
  | .ty _, _, h => h
theorem RepL.mono {K : Fr} {Z Z' : Hp} (e : Same Z Z') : ∀ (ds : List D) {vs : List V}, RepL K Z ds vs → RepL K Z' ds vs
  | [], _, h => h
  | d :: ds, vs, h => by
    obtain ⟨v, r, rfl, h1, h2⟩ := h
    exact ⟨v, r, rfl, Rep.mono e d h1, RepL.mono e ds h2⟩
end

theorem RepL.length {K : Fr} {Z : Hp} : ∀ {ds : List D} {vs : List V}, RepL K Z ds vs → vs.length = ds.length
  | [], _, h => by
    have h : _ = [] := h
    subst h
    rfl
  | d :: ds, vs, h => by
    obtain ⟨v, r, rfl, h1, h2⟩ := h
    simp [RepL.length h2]
theorem RepL.get {K : Fr} {Z : Hp} : ∀ {ds : List D} {vs : List V} {i : Nat} {d : D}, RepL K Z ds vs → ds[i]? = some d → ∃ v, vs[i]? = some v ∧ Rep K Z d v
  | [], _, _, _, _, e => by simp at e
  | d :: ds, vs, 0, d', h, e => by
    obtain ⟨v, r, rfl, h1, h2⟩ := h
    simp at e
    subst e
    exact ⟨v, rfl, h1⟩
  | d :: ds, vs, i + 1, d', h, e => by
    obtain ⟨v, r, rfl, h1, h2⟩ := h
    obtain ⟨u, h3, h4⟩ := RepL.get (i := i) h2 (by simpa using e)
    exact ⟨u, by simpa using h3, h4⟩
theorem RepL.append {K : Fr} {Z : Hp} : ∀ {ds es : List D} {vs us : List V}, RepL K Z ds vs → RepL K Z es us → RepL K Z (ds ++ es) (vs ++ us)
  | [], _, _, _, h, h' => by
    have h : _ = [] := h
    subst h
    exact h'
  | d :: ds, es, vs, us, h, h' => by
    obtain ⟨v, r, rfl, h1, h2⟩ := h
    exact ⟨v, r ++ us, rfl, h1, RepL.append h2 h'⟩
theorem RepL.one {K : Fr} {Z : Hp} {d : D} {v : V} (h : Rep K Z d v) : RepL K Z [d] [v] := ⟨v, [], rfl, h, rfl⟩
theorem RepL.cons {K : Fr} {Z : Hp} {d : D} {v : V} {ds : List D} {vs : List V} (h : Rep K Z d v) (t : RepL K Z ds vs) : RepL K Z (d :: ds) (v :: vs) := ⟨v, vs, rfl, h, t⟩
theorem RepL.nil {K : Fr} {Z : Hp} : RepL K Z [] [] := rfl
theorem RepL.set {K : Fr} {Z : Hp} {d : D} {v : V} (h : Rep K Z d v) : ∀ {ds : List D} {vs : List V} (i : Nat), RepL K Z ds vs → RepL K Z (ds.set i d) (vs.set i v)
  | [], _, _, h' => by
    have h' : _ = [] := h'
    subst h'
    exact rfl
  | e :: ds, vs, 0, h' => by
    obtain ⟨w, r, rfl, h1, h2⟩ := h'
    exact ⟨v, r, rfl, h, h2⟩
  | e :: ds, vs, i + 1, h' => by
    obtain ⟨w, r, rfl, h1, h2⟩ := h'
    exact ⟨w, _, rfl, h1, RepL.set h i h2⟩
theorem RepL.take {K : Fr} {Z : Hp} : ∀ {ds : List D} {vs : List V} (n : Nat), RepL K Z ds vs → RepL K Z (ds.take n) (vs.take n)
  | _, _, 0, _ => by simp [RepL]
  | [], _, n + 1, h => by
    have h : _ = [] := h
    subst h
    exact rfl
  | d :: ds, vs, n + 1, h => by
    obtain ⟨v, r, rfl, h1, h2⟩ := h
    exact ⟨v, _, rfl, h1, RepL.take n h2⟩
theorem RepL.drop {K : Fr} {Z : Hp} : ∀ {ds : List D} {vs : List V} (n : Nat), RepL K Z ds vs → RepL K Z (ds.drop n) (vs.drop n)
  | _, _, 0, h => by simpa using h
  | [], _, n + 1, h => by
    have h : _ = [] := h
    subst h
    exact rfl
  | d :: ds, vs, n + 1, h => by
    obtain ⟨v, r, rfl, h1, h2⟩ := h
    exact RepL.drop n h2
theorem RepL.reverse {K : Fr} {Z : Hp} : ∀ {ds : List D} {vs : List V}, RepL K Z ds vs → RepL K Z ds.reverse vs.reverse
  | [], _, h => by
    have h : _ = [] := h
    subst h
    exact rfl
  | d :: ds, vs, h => by
    obtain ⟨v, r, rfl, h1, h2⟩ := h
    rw [List.reverse_cons, List.reverse_cons]
    exact (RepL.reverse h2).append (RepL.one h1)
theorem RepL.ints {K : Fr} {Z : Hp} : ∀ (ns : List Int), RepL K Z (ns.map D.int) (ns.map V.int)
  | [] => rfl
  | n :: ns => ⟨_, _, rfl, rfl, RepL.ints ns⟩
theorem RepL.of_ints {K : Fr} {Z : Hp} : ∀ (ns : List Int) {vs : List V}, RepL K Z (ns.map D.int) vs → vs = ns.map V.int
  | [], _, h => h
  | n :: ns, _, h => by
    obtain ⟨v, r, rfl, h1, h2⟩ := h
    rw [RepL.of_ints ns h2]
    have h1 : v = .int n := h1
    rw [h1]
    rfl

structure Ex where
  cls : Str
  ns : List Str
  fs : List D
/-- a caught exception's dict -/
def XdOk (K : Fr) (Z : Hp) (dd : Addr) (e : Ex) : Prop :=
  ∃ hf : List (Str × V), Z dd = some (.xd hf) ∧ ∀ (i : Nat) (n : Str) (x : D), e.ns[i]? = some n → e.fs[i]? = some x → ∃ v, hf.lookup n = some v ∧ Rep K Z x v
theorem XdOk.mono {K : Fr} {Z Z' : Hp} {dd : Addr} {e : Ex} (h : XdOk K Z dd e) (k : Same Z Z') : XdOk K Z' dd e := by
  obtain ⟨hf, h1, h2⟩ := h
  refine ⟨hf, k _ _ h1, fun i n x e1 e2 => ?_⟩
  obtain ⟨v, h3, h4⟩ := h2 i n x e1 e2
  exact ⟨v, h3, h4.mono k⟩
/-! ### slots -/
inductive Slot where
  | un | val (d : D) | own (d : D) | ino (d : D) | err
abbrev Env := List Slot
def Slot.shape : Slot → Slot
  | .own _ => .own .non
  | .ino _ => .ino .non
  | s => s
/-- what stands at an address that is owned -/
def Root (K : Fr) (Z H : Hp) (a : Addr) : D → Prop
  | .lst xs => Z a = none ∧ ∃ vs, H a = some (.lst vs) ∧ RepL K Z xs vs
  | .dct ks ds => Z a = none ∧ ∃ kvs : List (Key × V), H a = some (.dK kvs) ∧ kvs.map Prod.fst = ks ∧ RepL K Z ds (kvs.map Prod.snd)
  | .obj c ns ds => Z a = none ∧ ∃ (dx : Addr) (hf : List (Str × V)), H a = some (.ins (He.ga K c) dx hf) ∧ hf.map Prod.fst = ns ∧ RepL K Z ds (hf.map Prod.snd)
  | _ => False
/-- the entry: its heap, what is fixed, what is handed in to be changed -/
structure An where
  H0 : Hp
  Z0 : Hp
  A : List Addr
  P : Nat → Addr
  E : Addr := 0
  dd : Addr := 0
  X : Ex := ⟨⟨#[]⟩, [], []⟩
def OwnAt (r : Env) (s : St) (i : Nat) (a : Addr) : Prop := ∃ d, (r[i]? = some (.own d) ∨ r[i]? = some (.ino d)) ∧ s[i]? = some (some (.ref a))
structure Sim (K : Fr) (T : An) (r : Env) (Z : Hp) (s : St) (H : Hp) : Prop where
  len : r.length = s.length
  sub : Same Z H
  val : ∀ (i : Nat) (d : D), r[i]? = some (.val d) → ∃ v, s[i]? = some (some v) ∧ Rep K Z d v
  own : ∀ (i : Nat) (d : D), r[i]? = some (.own d) → ∃ a, s[i]? = some (some (.ref a)) ∧ Root K Z H a d ∧ T.H0 a = none
  ino : ∀ (i : Nat) (d : D), r[i]? = some (.ino d) → ∃ a, s[i]? = some (some (.ref a)) ∧ Root K Z H a d ∧ a ∈ T.A ∧ T.P i = a
  inj : ∀ (i j : Nat) (a : Addr), OwnAt r s i a → OwnAt r s j a → i = j
  keep : ∀ a o, T.H0 a = some o → a ∉ T.A → H a = some o
  zed : ∀ a, T.H0 a ≠ none → Z a = T.Z0 a
  base : Same T.Z0 T.H0
  live : ∀ a, a ∈ T.A → H a ≠ none
  inA : ∀ a, a ∈ T.A → T.H0 a ≠ none ∧ T.Z0 a = none
  err : ∀ (i : Nat), r[i]? = some .err → s[i]? = some (some (.ref T.E)) ∧ XdOk K Z T.dd T.X

theorem Root.z {K : Fr} {Z H : Hp} {a : Addr} {d : D} (h : Root K Z H a d) : Z a = none := by
  cases d <;> first | exact h.1 | exact h.elim
theorem Root.there {K : Fr} {Z H : Hp} {a : Addr} {d : D} (h : Root K Z H a d) : ∃ o, H a = some o := by
  cases d with
  | lst xs => obtain ⟨_, vs, e, _⟩ := h; exact ⟨_, e⟩
  | dct ks ds => obtain ⟨_, vs, e, _⟩ := h; exact ⟨_, e⟩
  | obj c ns ds => obtain ⟨_, dx, hf, e, _⟩ := h; exact ⟨_, e⟩
  | _ => exact h.elim
theorem Root.mono {K : Fr} {Z Z' H H' : Hp} {a : Addr} {d : D} (h : Root K Z H a d) (e : Same Z Z') (z : Z' a = none) (k : ∀ o, H a = some o → H' a = some o) : Root K Z' H' a d := by
  cases d with
  | lst xs => obtain ⟨_, vs, q, r⟩ := h; exact ⟨z, vs, k _ q, r.mono e⟩
  | dct ks ds => obtain ⟨_, vs, q, q2, r⟩ := h; exact ⟨z, vs, k _ q, q2, r.mono e⟩
  | obj c ns ds => obtain ⟨_, dx, hf, q, q2, r⟩ := h; exact ⟨z, dx, hf, k _ q, q2, r.mono e⟩
  | _ => exact h.elim
/-- an owned thing of this kind -/
def isRoot : D → Bool
  | .lst _ => true
  | .dct _ _ => true
  | .obj _ _ _ => true
  | _ => false

section
variable {K : Fr} {T : An} {r r' : Env} {Z Z' : Hp} {s : St} {H H' : Hp}
theorem Sim.z0 (S : Sim K T r Z s H) : Same T.Z0 Z := fun a o e => by
  rw [S.zed a (by rw [S.base a o e]; simp)]
  exact e
theorem Sim.free (S : Sim K T r Z s H) {p : Addr} (h : H p = none) : T.H0 p = none ∧ Z p = none ∧ p ∉ T.A := by
  have hA : p ∉ T.A := fun m => S.live p m h
  refine ⟨?_, ?_, hA⟩
  · cases q : T.H0 p with
    | none => rfl
    | some o => rw [S.keep p o q hA] at h; cases h
  · cases q : Z p with
    | none => rfl
    | some o => rw [S.sub p o q] at h; cases h
theorem Sim.at (S : Sim K T r Z s H) {i : Nat} {a : Addr} (h : OwnAt r s i a) : ∃ d, (r[i]? = some (.own d) ∨ r[i]? = some (.ino d)) ∧ Root K Z H a d := by
  obtain ⟨d, hd, e⟩ := h
  refine ⟨d, hd, ?_⟩
  rcases hd with hd | hd
  · obtain ⟨b, e', q, _⟩ := S.own i d hd
    rw [e] at e'; cases e'
    exact q
  · obtain ⟨b, e', q, _⟩ := S.ino i d hd
    rw [e] at e'; cases e'
    exact q
/-- a new thing, not fixed -/
theorem Sim.laid (S : Sim K T r Z s H) {p : Addr} (o : HO) (h : H p = none) : Sim K T r Z s (upd H p o) := by
  obtain ⟨h1, h2, h3⟩ := S.free h
  have k : ∀ a u, H a = some u → upd H p o a = some u := fun a u e => by rw [upd_ne (ne_of_none e h)]; exact e
  refine ⟨S.len, fun a u e => k a u (S.sub a u e), S.val, fun i d e => ?_, fun i d e => ?_, S.inj, fun a u e m => k a u (S.keep a u e m), S.zed, S.base, fun a m => ?_, S.inA, S.err⟩
  · obtain ⟨a, e1, q, z⟩ := S.own i d e
    exact ⟨a, e1, q.mono (Same.refl _) q.z fun u w => k a u w, z⟩
  · obtain ⟨a, e1, q, z⟩ := S.ino i d e
    exact ⟨a, e1, q.mono (Same.refl _) q.z fun u w => k a u w, z⟩
  · cases q : H a with
    | none => exact (S.live a m q).elim
    | some u => rw [k a u q]; simp
/-- .. fixed -/
theorem Sim.fixed (S : Sim K T r Z s H) {p : Addr} (o : HO) (h : H p = none) : Sim K T r (upd Z p o) s (upd H p o) := by
  obtain ⟨h1, h2, h3⟩ := S.free h
  have k : ∀ a u, H a = some u → upd H p o a = some u := fun a u e => by rw [upd_ne (ne_of_none e h)]; exact e
  have kz : Same Z (upd Z p o) := fun a u e => by rw [upd_ne (ne_of_none e h2)]; exact e
  have nz : ∀ {a d}, Root K Z H a d → upd Z p o a = none := fun {a d} q => by
    obtain ⟨u, e⟩ := q.there
    rw [upd_ne (ne_of_none e h)]
    exact q.z
  refine ⟨S.len, fun a u e => ?_, fun i d e => ?_, fun i d e => ?_, fun i d e => ?_, S.inj, fun a u e m => k a u (S.keep a u e m), fun a e => ?_, S.base, fun a m => ?_, S.inA, fun i e => let ⟨x, y⟩ := S.err i e; ⟨x, y.mono kz⟩⟩
  · by_cases ha : a = p
    · subst ha; rw [upd_same] at e ⊢; exact e
    · rw [upd_ne ha] at e ⊢; exact S.sub a u e
  · obtain ⟨v, e1, q⟩ := S.val i d e
    exact ⟨v, e1, q.mono kz⟩
  · obtain ⟨a, e1, q, z⟩ := S.own i d e
    exact ⟨a, e1, q.mono kz (nz q) fun u w => k a u w, z⟩
  · obtain ⟨a, e1, q, z⟩ := S.ino i d e
    exact ⟨a, e1, q.mono kz (nz q) fun u w => k a u w, z⟩
  · rw [upd_ne (show a ≠ p from fun w => e (by rw [w]; exact h1))]
    exact S.zed a e
  · cases q : H a with
    | none => exact (S.live a m q).elim
    | some u => rw [k a u q]; simp
/-- a thing that no slot owns becomes fixed -/
theorem Sim.freeze (S : Sim K T r Z s H) {a : Addr} {o : HO} (h : H a = some o) (z : Z a = none) (h0 : T.H0 a = none) (n : ∀ i, ¬ OwnAt r s i a) : Sim K T r (upd Z a o) s H := by
  have kz : Same Z (upd Z a o) := fun b u e => by rw [upd_ne (ne_of_none e z)]; exact e
  have nz : ∀ {i b d}, OwnAt r s i b → Root K Z H b d → upd Z a o b = none := fun {i b d} w q => by
    rw [upd_ne (show b ≠ a from fun e => n i (by rw [← e]; exact w))]
    exact q.z
  refine ⟨S.len, fun b u e => ?_, fun i d e => ?_, fun i d e => ?_, fun i d e => ?_, S.inj, S.keep, fun b e => ?_, S.base, S.live, S.inA, fun i e => let ⟨x, y⟩ := S.err i e; ⟨x, y.mono kz⟩⟩
  · by_cases hb : b = a
    · subst hb; rw [upd_same] at e; cases e; exact h
    · rw [upd_ne hb] at e; exact S.sub b u e
  · obtain ⟨v, e1, q⟩ := S.val i d e
    exact ⟨v, e1, q.mono kz⟩
  · obtain ⟨b, e1, q, w⟩ := S.own i d e
    exact ⟨b, e1, q.mono kz (nz ⟨d, .inl e, e1⟩ q) fun u x => x, w⟩
  · obtain ⟨b, e1, q, w⟩ := S.ino i d e
    exact ⟨b, e1, q.mono kz (nz ⟨d, .inr e, e1⟩ q) fun u x => x, w⟩
  · rw [upd_ne (show b ≠ a from fun w => e (by rw [w]; exact h0))]
    exact S.zed b e
end

/-! ### what an expression does to the state -/
structure Frm (r : Env) (s : St) (H Z H' Z' : Hp) : Prop where
  h : ∀ a o, H a = some o → (∀ i, ¬ OwnAt r s i a) → H' a = some o
  z : ∀ a, H a ≠ none → Z' a = Z a
  l : ∀ a, H a ≠ none → H' a ≠ none
def Kin (r r' : Env) : Prop := r.map Slot.shape = r'.map Slot.shape
theorem Kin.refl (r : Env) : Kin r r := rfl
theorem Kin.trans {a b c : Env} (x : Kin a b) (y : Kin b c) : Kin a c := Eq.trans x y
theorem Kin.symm {a b : Env} (x : Kin a b) : Kin b a := Eq.symm x
theorem Kin.get {r r' : Env} (x : Kin r r') (i : Nat) : (r[i]?).map Slot.shape = (r'[i]?).map Slot.shape := by
  rw [← List.getElem?_map, ← List.getElem?_map, x]
theorem Kin.own {r r' : Env} (x : Kin r r') {i : Nat} {d : D} (h : r[i]? = some (.own d)) : ∃ d', r'[i]? = some (.own d') := by
  have e := x.get i
  rw [h] at e
  cases q : r'[i]? with
  | none => rw [q] at e; cases e
  | some sl =>
    rw [q] at e
    have e' : Slot.own .non = sl.shape := Option.some.inj e
    cases sl <;> first | exact ⟨_, rfl⟩ | cases e'
theorem Kin.ino {r r' : Env} (x : Kin r r') {i : Nat} {d : D} (h : r[i]? = some (.ino d)) : ∃ d', r'[i]? = some (.ino d') := by
  have e := x.get i
  rw [h] at e
  cases q : r'[i]? with
  | none => rw [q] at e; cases e
  | some sl =>
    rw [q] at e
    have e' : Slot.ino .non = sl.shape := Option.some.inj e
    cases sl <;> first | exact ⟨_, rfl⟩ | cases e'
theorem Kin.ownAt {r r' : Env} {s : St} (x : Kin r r') {i : Nat} {a : Addr} (h : OwnAt r s i a) : OwnAt r' s i a := by
  obtain ⟨d, h | h, e⟩ := h
  · obtain ⟨d', q⟩ := x.own h
    exact ⟨d', .inl q, e⟩
  · obtain ⟨d', q⟩ := x.ino h
    exact ⟨d', .inr q, e⟩
section
variable {r r' : Env} {s : St} {H Z H1 Z1 H2 Z2 : Hp}
theorem Frm.refl : Frm r s H Z H Z := ⟨fun _ _ e _ => e, fun _ _ => rfl, fun _ e => e⟩
theorem Frm.trans (x : Frm r s H Z H1 Z1) (k : Kin r r') (y : Frm r' s H1 Z1 H2 Z2) : Frm r s H Z H2 Z2 :=
  ⟨fun a o e n => y.h a o (x.h a o e n) fun i w => n i (k.symm.ownAt w), fun a e => (y.z a (x.l a e)).trans (x.z a e), fun a e => y.l a (x.l a e)⟩
theorem Frm.same {K : Fr} {T : An} (x : Frm r s H Z H1 Z1) (S : Sim K T r Z s H) : Same Z Z1 := fun a o e => by
  rw [x.z a (by rw [S.sub a o e]; simp)]
  exact e
end

/-- a value: fixed data; a new thing; what a slot owns -/
inductive RV where
  | val (d : D) | own (d : D) | bor (i : Nat)
/-- B: the heap at the start, in which a new thing was not -/
def RvOk (K : Fr) (T : An) (B : Hp) (r : Env) (Z : Hp) (s : St) (H : Hp) (v : V) : RV → Prop
  | .val d => Rep K Z d v
  | .own d => ∃ a, v = .ref a ∧ Root K Z H a d ∧ T.H0 a = none ∧ (∀ i, ¬ OwnAt r s i a) ∧ B a = none
  | .bor i => ∃ a, v = .ref a ∧ OwnAt r s i a
def peek (r : Env) : RV → Option D
  | .val d => some d
  | .own d => some d
  | .bor i => match r[i]? with
    | some (.own d) => some d
    | some (.ino d) => some d
    | _ => none
def Con (K : Fr) (Z H : Hp) (v : V) : D → Prop
  | .lst xs => ∃ a vs, v = .ref a ∧ H a = some (.lst vs) ∧ RepL K Z xs vs
  | .tup xs => ∃ a vs, v = .ref a ∧ SqT K Z a vs ∧ RepL K Z xs vs
  | .dct ks ds => ∃ (a : Addr) (kvs : List (Key × V)), v = .ref a ∧ Rd H a (.dK kvs) ∧ kvs.map Prod.fst = ks ∧ RepL K Z ds (kvs.map Prod.snd)
  | .obj c ns ds => ∃ (a dx : Addr) (hf : List (Str × V)), v = .ref a ∧ H a = some (.ins (He.ga K c) dx hf) ∧ hf.map Prod.fst = ns ∧ RepL K Z ds (hf.map Prod.snd)
  | .non => v = .non
  | .bl b => v = .bl b
  | .int i => v = .int i
  | .str x => v = .str x
  | .fn x => v = .ref (He.ga K x)
  | .scr ns => ∃ a, v = .ref a ∧ SqL K Z a (ns.map V.int)
  | .ty n => v = .ty n
theorem Rep.con {K : Fr} {Z H : Hp} {v : V} (e : Same Z H) : ∀ {d : D}, Rep K Z d v → Con K Z H v d
  | .lst xs, ⟨a, vs, h1, h2, h3⟩ => ⟨a, vs, h1, e _ _ h2, h3⟩
  | .tup xs, h => h
  | .dct ks ds, ⟨a, kvs, h1, h2, h3⟩ => ⟨a, kvs, h1, same_rd e h2, h3⟩
  | .obj c ns ds, ⟨a, dx, hf, h1, h2, h3⟩ => ⟨a, dx, hf, h1, e _ _ h2, h3⟩
  | .non, h => h
  | .bl _, h => h
  | .int _, h => h
  | .str _, h => h
  | .fn _, h => h
  | .scr _, h => h
  | .ty _, h => h
theorem Root.con {K : Fr} {Z H : Hp} {a : Addr} : ∀ {d : D}, Root K Z H a d → Con K Z H (.ref a) d
  | .lst xs, ⟨_, vs, h2, h3⟩ => ⟨a, vs, rfl, h2, h3⟩
  | .dct ks ds, ⟨_, kvs, h2, h3⟩ => ⟨a, kvs, rfl, .inl h2, h3⟩
  | .obj c ns ds, ⟨_, dx, hf, h2, h3⟩ => ⟨a, dx, hf, rfl, h2, h3⟩
  | .tup _, h => h.elim
  | .non, h => h.elim
  | .bl _, h => h.elim
  | .int _, h => h.elim
  | .str _, h => h.elim
  | .fn _, h => h.elim
  | .scr _, h => h.elim
  | .ty _, h => h.elim
section
variable {K : Fr} {T : An} {B : Hp} {r r' : Env} {Z Z' : Hp} {s : St} {H H' : Hp} {v : V} {x : RV} {d : D}
theorem RvOk.con (h : RvOk K T B r Z s H v x) (S : Sim K T r Z s H) (e : peek r x = some d) : Con K Z H v d := by
  cases x with
  | val d' =>
    cases e
    exact Rep.con S.sub h
  | own d' =>
    cases e
    obtain ⟨a, rfl, q, _⟩ := h
    exact q.con
  | bor i =>
    obtain ⟨a, rfl, w⟩ := h
    obtain ⟨d', hd, q⟩ := S.at w
    have e' : d' = d := by
      rcases hd with hd | hd
      · simp only [peek, hd] at e
        exact Option.some.inj e
      · simp only [peek, hd] at e
        exact Option.some.inj e
    subst e'
    exact q.con
end
end Ev
namespace Ev
open PySem PySem.Spec PyProof.Rows L2

inductive Res (α : Type) where
  | ok (a : α) (r : Env) | exc (e : Ex) (r : Env) | stuck
def Res.bind {α β : Type} (x : Res α) (k : α → Env → Res β) : Res β := match x with
  | .ok a r => k a r
  | .exc e r => .exc e r
  | .stuck => .stuck
abbrev Den := Env → Res RV
abbrev DenB := Env → Res Bool
abbrev DenL := Env → Res (List RV)
/-- as an operand: a new thing becomes fixed -/
def fz : Res RV → Res RV
  | .ok (.own d) r => .ok (.val d) r
  | x => x
def ofO {α : Type} (o : Option α) (r : Env) : Res α := match o with
  | some a => .ok a r
  | none => .stuck
/-- what a raised exception is known to be -/
def ExOk (K : Fr) (Z : Hp) (cls : Value) (d : Option Addr) (e : Ex) : Prop :=
  ∃ dd : Addr, cls = .ref (He.ga K e.cls) ∧ d = some dd ∧ XdOk K Z dd e
abbrev WX := Value → Option Addr → St → Hp → Prop
section
variable (K : Fr) (T : An) (W : WX)
/-- the result x of what began at (r, Z, H) brings Q -/
def tG {α β : Type} (Rel : Hp → Env → Hp → Hp → β → α → Prop) (s : St) (x : Res α) (r : Env) (Z H : Hp) (Q : β → Hp → Prop) : Prop := match x with
  | .ok a r' => ∀ b H' Z', Sim K T r' Z' s H' → Kin r r' → Frm r s H Z H' Z' → Rel H r' Z' H' b a → Q b H'
  | .exc e r' => ∀ cls d H' Z', Sim K T r' Z' s H' → Kin r r' → Frm r s H Z H' Z' → ExOk K Z' cls d e → W cls d s H'
  | .stuck => False
def RelE (s : St) : Hp → Env → Hp → Hp → V → RV → Prop := fun B r Z H v x => RvOk K T B r Z s H v x
def isFix : RV → Bool
  | .own _ => false
  | _ => true
def RelF (s : St) : Hp → Env → Hp → Hp → V → RV → Prop := fun _ r Z H v x => RvOk K T (fun _ => none) r Z s H v x ∧ isFix x = true
def RelB : Hp → Env → Hp → Hp → Bool → Bool → Prop := fun _ _ _ _ b a => b = a
inductive RvsOk (s : St) (r : Env) (Z H : Hp) : List V → List RV → Prop
  | nil : RvsOk s r Z H [] []
  | cons {v : V} {x : RV} {vs : List V} {xs : List RV} : RelF K T s (fun _ => none) r Z H v x → RvsOk s r Z H vs xs → RvsOk s r Z H (v :: vs) (x :: xs)
def RelL (s : St) : Hp → Env → Hp → Hp → List V → List RV → Prop := fun _ r Z H vs xs => RvsOk K T s r Z H vs xs
def tE (f : Den) : TE := fun s H Q => ∃ r Z, Sim K T r Z s H ∧ tG K T W (RelE K T s) s (f r) r Z H Q
def tO (f : Den) : TE := fun s H Q => ∃ r Z, Sim K T r Z s H ∧ tG K T W (RelF K T s) s (fz (f r)) r Z H Q
def tT (f : DenB) : TT := fun s H Q => ∃ r Z, Sim K T r Z s H ∧ tG K T W RelB s (f r) r Z H Q
def tL (f : DenL) : TA := fun s H Q => ∃ r Z, Sim K T r Z s H ∧ tG K T W (RelL K T s) s (f r) r Z H Q
end
section
variable {K : Fr} {T : An} {W : WX} {s : St} {r r1 : Env} {Z Z1 H H1 : Hp}
/-- a relation that asks less of an earlier start -/
def Fwd {α β : Type} (Rel : Hp → Env → Hp → Hp → β → α → Prop) : Prop := ∀ (B B1 : Hp) (r : Env) (Z H : Hp) (b : β) (a : α), (∀ x, B x ≠ none → B1 x ≠ none) → Rel B1 r Z H b a → Rel B r Z H b a
theorem fwdE : Fwd (RelE K T s) := fun B B1 r Z H v x h q => by
  cases x with
  | own d =>
    obtain ⟨a, e, q1, q2, q3, q4⟩ := q
    refine ⟨a, e, q1, q2, q3, ?_⟩
    cases w : B a with
    | none => rfl
    | some o => exact absurd q4 (h a (by rw [w]; simp))
  | _ => exact q
theorem fwdF : Fwd (RelF K T s) := fun _ _ _ _ _ _ _ _ q => q
theorem fwdB : Fwd RelB := fun _ _ _ _ _ _ _ _ q => q
theorem fwdL : Fwd (RelL K T s) := fun _ _ _ _ _ _ _ _ q => q
theorem tG.from {α β : Type} {Rel : Hp → Env → Hp → Hp → β → α → Prop} (hR : Fwd Rel) {x : Res α} {Q : β → Hp → Prop} (k : Kin r r1) (f : Frm r s H Z H1 Z1) (h : tG K T W Rel s x r Z H Q) : tG K T W Rel s x r1 Z1 H1 Q := by
  cases x with
  | ok a r' => exact fun b H' Z' S' k' f' q => h b H' Z' S' (k.trans k') (f.trans k f') (hR _ _ _ _ _ _ _ f.l q)
  | exc e r' => exact fun c d H' Z' S' k' f' q => h c d H' Z' S' (k.trans k') (f.trans k f') q
  | stuck => exact h
theorem tG.mono {α β : Type} {Rel : Hp → Env → Hp → Hp → β → α → Prop} {x : Res α} {Q Q' : β → Hp → Prop} (h : tG K T W Rel s x r Z H Q) (hQ : ∀ b H', Q b H' → Q' b H') : tG K T W Rel s x r Z H Q' := by
  cases x with
  | ok a r' => exact fun b H' Z' S' k' f' q => hQ _ _ (h b H' Z' S' k' f' q)
  | exc e r' => exact h
  | stuck => exact h
theorem tG.bind {α β α' β' : Type} {Rel : Hp → Env → Hp → Hp → β → α → Prop} {Rel' : Hp → Env → Hp → Hp → β' → α' → Prop} (hR : Fwd Rel') {x : Res α} {k : α → Env → Res α'} {Q : β' → Hp → Prop} (h : tG K T W Rel' s (x.bind k) r Z H Q) :
    tG K T W Rel s x r Z H fun b H1 => ∃ a r1 Z1, Sim K T r1 Z1 s H1 ∧ Kin r r1 ∧ Frm r s H Z H1 Z1 ∧ Rel H r1 Z1 H1 b a ∧ tG K T W Rel' s (k a r1) r1 Z1 H1 Q := by
  cases x with
  | ok a r1 => exact fun b H1 Z1 S1 k1 f1 o1 => ⟨a, r1, Z1, S1, k1, f1, o1, h.from hR k1 f1⟩
  | exc e r' => exact h
  | stuck => exact h
theorem RelF.stay {B B' : Hp} {v : V} {x : RV} (h : RelF K T s B r Z H v x) (S : Sim K T r Z s H) (k : Kin r r1) (f : Frm r s H Z H1 Z1) : RelF K T s B' r1 Z1 H1 v x := by
  obtain ⟨h, e⟩ := h
  cases x with
  | val d => exact ⟨Rep.mono (f.same S) d h, e⟩
  | own d => cases e
  | bor i =>
    obtain ⟨a, w1, w2⟩ := h
    exact ⟨⟨a, w1, k.ownAt w2⟩, e⟩
theorem RvsOk.stay {vs : List V} {xs : List RV} (h : RvsOk K T s r Z H vs xs) (S : Sim K T r Z s H) (k : Kin r r1) (f : Frm r s H Z H1 Z1) : RvsOk K T s r1 Z1 H1 vs xs := by
  induction h with
  | nil => exact .nil
  | cons a _ ih => exact .cons (a.stay S k f) ih
theorem RelF.con {B : Hp} {v : V} {x : RV} {d : D} (h : RelF K T s B r Z H v x) (S : Sim K T r Z s H) (e : peek r x = some d) : Con K Z H v d := h.1.con S e
/-- fixed data out of a value -/
def take : RV → Option D
  | .val d => some d
  | .own d => some d
  | .bor _ => none
theorem RelF.rep {B : Hp} {v : V} {x : RV} {d : D} (h : RelF K T s B r Z H v x) (e : take x = some d) : Rep K Z d v := by
  cases x with
  | val d' => cases e; exact h.1
  | own d' => exact absurd h.2 (by simp [isFix])
  | bor i => cases e
theorem rep_root {K : Fr} {T : An} {s : St} {r : Env} {Z H : Hp} {a : Addr} {d : D} (S : Sim K T r Z s H) (q : Root K Z H a d) (h0 : T.H0 a = none) (n : ∀ i, ¬ OwnAt r s i a) : ∃ o, H a = some o ∧ Sim K T r (upd Z a o) s H ∧ Rep K (upd Z a o) d (.ref a) := by
  obtain ⟨o, ho⟩ := q.there
  have kz : Same Z (upd Z a o) := fun b u e => by rw [upd_ne (ne_of_none e q.z)]; exact e
  refine ⟨o, ho, S.freeze ho q.z h0 n, ?_⟩
  cases d with
  | lst xs =>
    obtain ⟨_, vs, q1, q2⟩ := q
    rw [ho] at q1; cases q1
    exact ⟨a, vs, rfl, upd_same, q2.mono kz⟩
  | dct ks ds =>
    obtain ⟨_, vs, q1, q3, q2⟩ := q
    rw [ho] at q1; cases q1
    exact ⟨a, vs, rfl, .inl upd_same, q3, q2.mono kz⟩
  | obj c ns ds =>
    obtain ⟨_, dx, hf, q1, q3, q2⟩ := q
    rw [ho] at q1; cases q1
    exact ⟨a, dx, hf, rfl, upd_same, q3, q2.mono kz⟩
  | _ => exact q.elim
theorem tO_E {f : Den} {Q : VK} (h : tO K T W f s H Q) : tE K T W f s H Q := by
  obtain ⟨r, Z, S, h⟩ := h
  refine ⟨r, Z, S, ?_⟩
  cases q : f r with
  | stuck => rw [q] at h; exact h
  | exc e r' => rw [q] at h; exact h
  | ok x r' =>
    rw [q] at h
    cases x with
    | val d => exact fun v H' Z' S' k f o => h v H' Z' S' k f ⟨o, rfl⟩
    | bor i => exact fun v H' Z' S' k f o => h v H' Z' S' k f ⟨o, rfl⟩
    | own d =>
      intro v H' Z' S' k f o
      obtain ⟨a, rfl, q1, q2, q3, q4⟩ := o
      obtain ⟨u, hu, S2, rep⟩ := rep_root S' q1 q2 q3
      refine h _ H' _ S2 k ⟨f.h, fun b e => ?_, f.l⟩ ⟨rep, rfl⟩
      rw [upd_ne (show b ≠ a from fun w => e (by rw [w]; exact q4))]
      exact f.z b e
/-! ### ends -/
theorem tG.end {Q : VK} {v : V} {x : RV} (S : Sim K T r Z s H) (h : tG K T W (RelE K T s) s (.ok x r) r Z H Q) (o : RvOk K T H r Z s H v x) : Q v H :=
  h v H Z S (Kin.refl _) Frm.refl o
theorem tG.new {Q : VK} {p : Addr} {o : HO} {d : D} (S : Sim K T r Z s H) (h : tG K T W (RelE K T s) s (.ok (.own d) r) r Z H Q) (hp : H p = none) (q : Root K Z (upd H p o) p d) : Q (.ref p) (upd H p o) := by
  obtain ⟨h1, h2, h3⟩ := S.free hp
  refine h _ _ Z (S.laid o hp) (Kin.refl _) ⟨fun a u e _ => by rw [upd_ne (ne_of_none e hp)]; exact e, fun _ _ => rfl, fun a e => ?_⟩ ⟨p, rfl, q, h1, fun i w => ?_, hp⟩
  · cases u : H a with
    | none => exact (e u).elim
    | some z => rw [upd_ne (ne_of_none u hp), u]; simp
  · obtain ⟨d', _, q'⟩ := S.at w
    obtain ⟨u, e⟩ := q'.there
    rw [hp] at e; cases e
theorem tG.newF {Q : VK} {p : Addr} {o : HO} {d : D} (S : Sim K T r Z s H) (h : tG K T W (RelE K T s) s (.ok (.val d) r) r Z H Q) (hp : H p = none) (q : Rep K (upd Z p o) d (.ref p)) : Q (.ref p) (upd H p o) := by
  refine h _ _ (upd Z p o) (S.fixed o hp) (Kin.refl _) ⟨fun a u e _ => by rw [upd_ne (ne_of_none e hp)]; exact e, fun a e => upd_ne fun w => e (by rw [w]; exact hp), fun a e => ?_⟩ q
  cases u : H a with
  | none => exact (e u).elim
  | some z => rw [upd_ne (ne_of_none u hp), u]; simp
theorem same_updZ {Z : Hp} {p : Addr} {o : HO} (h : Z p = none) : Same Z (upd Z p o) := fun b u e => by rw [upd_ne (ne_of_none e h)]; exact e
end

/-! ### expressions -/
theorem _root_.L2.PE.less {X : Cx} {e : Expr} {t t' : TE} (h : PE X e t) (k : ∀ s H Q, t' s H Q → t s H Q) : PE X e t' := ⟨fun pins s σ H Q I q => h.run pins s σ H Q I (k _ _ _ q)⟩
theorem _root_.L2.PT.less {X : Cx} {e : Expr} {t t' : TT} (h : PT X e t) (k : ∀ s H Q, t' s H Q → t s H Q) : PT X e t' := ⟨fun pins s σ H Q I q => h.run pins s σ H Q I (k _ _ _ q)⟩
theorem _root_.L2.PA.less {X : Cx} {e : List Expr} {t t' : TA} (h : PA X e t) (k : ∀ s H Q, t' s H Q → t s H Q) : PA X e t' := ⟨fun pos pins s σ H Q I q => h.run pos pins s σ H Q I (k _ _ _ q)⟩
theorem _root_.L2.PS.less {X : Cx} {e : Stmt} {t t' : TS} (h : PS X e t) (k : ∀ D s H, t' D s H → t D s H) : PS X e t' := ⟨fun pins s σ H D I q => h.run pins s σ H D I (k _ _ _ q)⟩
theorem _root_.L2.PSs.less {X : Cx} {e : List Stmt} {t t' : TS} (h : PSs X e t) (k : ∀ D s H, t' D s H → t D s H) : PSs X e t' := ⟨fun pins s σ H D I q => h.run pins s σ H D I (k _ _ _ q)⟩

def eVar (i : Nat) : Den := fun r => match r[i]? with
  | some (.val d) => .ok (.val d) r
  | some (.own _) => .ok (.bor i) r
  | some (.ino _) => .ok (.bor i) r
  | _ => .stuck
def eC (d : D) : Den := fun r => .ok (.val d) r
def eBin (op : D → D → Option RV) (f g : Den) : Den := fun r => (fz (f r)).bind fun x r1 => (fz (g r1)).bind fun y r2 =>
  match peek r2 x, peek r2 y with
  | some d, some e => ofO (op d e) r2
  | _, _ => .stuck
def eUn (op : D → Option RV) (f : Den) : Den := fun r => (fz (f r)).bind fun x r1 =>
  match peek r1 x with
  | some d => ofO (op d) r1
  | _ => .stuck
section
variable {X : Cx} {T : An} {W : WX} {a b : Expr} {f g : Den} {pos : Pos}
theorem pe_fz {K : Fr} (h : PE X a (tE K T W f)) : PE X a (tO K T W f) := h.less fun _ _ _ q => tO_E q
theorem de_var {K : Fr} {i : Nat} (h : PE X a (tVar i)) : PE X a (tE K T W (eVar i)) := h.less fun s H Q q => by
  obtain ⟨r, Z, S, q⟩ := q
  unfold eVar at q
  cases e : r[i]? with
  | none => rw [e] at q; exact q.elim
  | some sl =>
    rw [e] at q
    cases sl with
    | un => exact q.elim
    | err => exact q.elim
    | val d =>
      obtain ⟨v, h1, h2⟩ := S.val i d e
      exact ⟨v, h1, q.end S h2⟩
    | own d =>
      obtain ⟨v, h1, h2, h3⟩ := S.own i d e
      exact ⟨.ref v, h1, q.end S ⟨v, rfl, d, .inl e, h1⟩⟩
    | ino d =>
      obtain ⟨v, h1, h2, h3⟩ := S.ino i d e
      exact ⟨.ref v, h1, q.end S ⟨v, rfl, d, .inr e, h1⟩⟩
theorem de_c {K : Fr} {d : D} {v : V} (h : PE X a (tC v)) (hr : ∀ Z, Rep K Z d v) : PE X a (tE K T W (eC d)) := h.less fun s H Q q => by
  obtain ⟨r, Z, S, q⟩ := q
  exact q.end S (hr Z)
/-- two operands, by an operation on contents -/
theorem tE_bin {K : Fr} {op : D → D → Option RV} {R : R2} (ho : ∀ (s : St) (r : Env) (Z H : Hp) (v w : V) (d e : D) (x : RV) (Q : VK), Sim K T r Z s H → Con K Z H v d → Con K Z H w e → op d e = some x →
      tG K T W (RelE K T s) s (.ok x r) r Z H Q → R v w H Q) {s : St} {H : Hp} {Q : VK} (h : tE K T W (eBin op f g) s H Q) : tO K T W f s H fun v H1 => tO K T W g s H1 fun w H2 => R v w H2 Q := by
  obtain ⟨r, Z, S, h⟩ := h
  refine ⟨r, Z, S, (tG.bind fwdE h).mono fun v H1 h1 => ?_⟩
  obtain ⟨x, r1, Z1, S1, k1, f1, o1, h1⟩ := h1
  refine ⟨r1, Z1, S1, (tG.bind fwdE h1).mono fun w H2 h2 => ?_⟩
  obtain ⟨y, r2, Z2, S2, k2, f2, o2, h2⟩ := h2
  have o1' : RelF K T s H r2 Z2 H2 v x := RelF.stay o1 S1 k2 f2
  cases p1 : peek r2 x with
  | none => rw [p1] at h2; exact h2.elim
  | some d =>
    cases p2 : peek r2 y with
    | none => rw [p1, p2] at h2; exact h2.elim
    | some e =>
      rw [p1, p2] at h2
      have h2 : tG K T W (RelE K T s) s (ofO (op d e) r2) r2 Z2 H2 Q := h2
      cases q : op d e with
      | none => rw [q] at h2; exact h2.elim
      | some z =>
        rw [q] at h2
        exact ho s r2 Z2 H2 v w d e z Q S2 (o1'.con S2 p1) (o2.con S2 p2) q h2
theorem tE_un {K : Fr} {op : D → Option RV} {R : V → Hp → VK → Prop} (ho : ∀ (s : St) (r : Env) (Z H : Hp) (v : V) (d : D) (x : RV) (Q : VK), Sim K T r Z s H → Con K Z H v d → op d = some x →
      tG K T W (RelE K T s) s (.ok x r) r Z H Q → R v H Q) {s : St} {H : Hp} {Q : VK} (h : tE K T W (eUn op f) s H Q) : tO K T W f s H fun v H1 => R v H1 Q := by
  obtain ⟨r, Z, S, h⟩ := h
  refine ⟨r, Z, S, (tG.bind fwdE h).mono fun v H1 h1 => ?_⟩
  obtain ⟨x, r1, Z1, S1, k1, f1, o1, h1⟩ := h1
  cases p1 : peek r1 x with
  | none => rw [p1] at h1; exact h1.elim
  | some d =>
    rw [p1] at h1
    have h1 : tG K T W (RelE K T s) s (ofO (op d) r1) r1 Z1 H1 Q := h1
    cases q : op d with
    | none => rw [q] at h1; exact h1.elim
    | some z =>
      rw [q] at h1
      exact ho s r1 Z1 H1 v d z Q S1 (o1.con S1 p1) q h1
end
end Ev
namespace Ev
open PySem PySem.Spec PyProof.Rows L2

/-! ### operations on contents -/
def most : Nat := 4000000
theorem most_le {n : Nat} (h : n ≤ most) : n ≤ sizeLine := Nat.le_trans h (by rw [sizeLine_eq]; decide)
theorem most_lt {n : Nat} (h : n ≤ most) : n < sizeLine := Nat.lt_of_le_of_lt h (by rw [sizeLine_eq]; decide)
def addD : D → D → Option RV
  | .int i, .int j => some (.val (.int (i + j)))
  | .str x, .str y => if x.length + y.length ≤ most then some (.val (.str (x ++ y))) else none
  | .tup xs, .tup ys => if xs.length + ys.length ≤ most then some (.val (.tup (xs ++ ys))) else none
  | .lst xs, .lst ys => if xs.length + ys.length ≤ most then some (.own (.lst (xs ++ ys))) else none
  | _, _ => none
def intD (g : Int → Int → Int) : D → D → Option RV
  | .int i, .int j => some (.val (.int (g i j)))
  | _, _ => none
def mulOk (i j : Int) : Bool := decide (i.natAbs < 2 ^ 64) || (decide (j.natAbs < 2 ^ 64) || decide (i.natAbs.log2 + j.natAbs.log2 < 1000000))
def mulD : D → D → Option RV
  | .int i, .int j => if mulOk i j = true then some (.val (.int (i * j))) else none
  | .lst xs, .int k => if 0 ≤ k ∧ k ≤ 1000 ∧ xs.length ≤ 1000 then some (.own (.lst (List.replicate k.toNat xs).flatten)) else none
  | .tup xs, .int k => if 2 ≤ k ∧ k ≤ 1000 ∧ xs.length ≤ 1000 ∧ xs.length ≠ 0 then some (.val (.tup (List.replicate k.toNat xs).flatten)) else none
  | _, _ => none
def fdivD : D → D → Option RV
  | .int i, .int j => if j ≠ 0 ∧ j.natAbs.log2 < 9000 then some (.val (.int (i.fdiv j))) else none
  | _, _ => none
def modD : D → D → Option RV
  | .int i, .int j => if j ≠ 0 then some (.val (.int (i.fmod j))) else none
  | _, _ => none
def powD : D → D → Option RV
  | .int i, .int j => if 0 ≤ j ∧ j ≤ 1000000 ∧ i.natAbs < 2 ^ 64 then some (.val (.int (i ^ j.toNat))) else none
  | _, _ => none
def shlD : D → D → Option RV
  | .int i, .int j => if 0 ≤ j ∧ j ≤ 1000000 ∧ i.natAbs < 2 ^ 64 then some (.val (.int (i * 2 ^ j.toNat))) else none
  | _, _ => none
def shrD : D → D → Option RV
  | .int i, .int j => if 0 ≤ j then some (.val (.int (i / 2 ^ j.toNat))) else none
  | _, _ => none
def negD : D → Option RV
  | .int i => some (.val (.int (-i)))
  | _ => none
def invD : D → Option RV
  | .int i => some (.val (.int (Builtin.bitNot i)))
  | _ => none
mutual
def toP : D → Option PyData
  | .non => some .none
  | .bl b => some (.bool b)
  | .int i => some (.int i)
  | .str s => some (.str s)
  | .tup xs => (toPs xs).map .tuple
  | .lst xs => (toPs xs).map .list
  | _ => none
def toPs : List D → Option (List PyData)
  | [] => some []
  | d :: ds => (toP d).bind fun p => (toPs ds).map fun ps => p :: ps
end
def eqP (p q : PyData) : Option Bool := if SeqAt.shaped p = true ∧ SeqAt.shaped q = true then some (PyData.eqv p q) else none
def eqD : D → D → Option Bool
  | .int i, .int j => some (decide (i = j))
  | .str x, .str y => some (decide (x = y))
  | d, e => match toP d, toP e with
    | some p, some q => eqP p q
    | _, _ => none
def bv (o : Option Bool) : Option RV := o.map fun b => .val (.bl b)
def ceqD (d e : D) : Option RV := bv (eqD d e)
def cneD (d e : D) : Option RV := bv ((eqD d e).map not)
def intsOf : List D → Option (List Int)
  | [] => some []
  | .int i :: r => (intsOf r).map fun ns => i :: ns
  | _ => none
def ltD : D → D → Option Bool
  | .int i, .int j => some (decide (i < j))
  | .tup xs, .tup ys => match intsOf xs, intsOf ys with
    | some ns, some ms => some (HT.lexLt ns ms)
    | _, _ => none
  | _, _ => none
def cltD (d e : D) : Option RV := bv (ltD d e)
def cleD : D → D → Option RV
  | .int i, .int j => some (.val (.bl (decide (i ≤ j))))
  | .tup xs, .tup ys => match intsOf xs, intsOf ys with
    | some ns, some ms => some (.val (.bl (!HT.lexLt ms ns)))
    | _, _ => none
  | _, _ => none
def cgtD : D → D → Option RV
  | .int i, .int j => some (.val (.bl (decide (j < i))))
  | _, _ => none
def cgeD : D → D → Option RV
  | .int i, .int j => some (.val (.bl (decide (j ≤ i))))
  | _, _ => none

theorem intsOf_eq : ∀ {xs : List D} {ns : List Int}, intsOf xs = some ns → xs = ns.map D.int
  | [], ns, h => by
    have h : some [] = some ns := h
    cases h
    rfl
  | d :: r, ns, h => by
    cases d with
    | int i =>
      have h : (intsOf r).map (fun ns => i :: ns) = some ns := h
      cases q : intsOf r with
      | none => rw [q] at h; cases h
      | some ms =>
        rw [q] at h
        cases h
        rw [intsOf_eq q]
        rfl
    | _ => cases h
theorem intsOf_map : ∀ ns : List Int, intsOf (ns.map D.int) = some ns
  | [] => rfl
  | n :: ns => by
    show (intsOf (ns.map D.int)).map (fun ms => n :: ms) = _
    rw [intsOf_map ns]
    rfl

mutual
theorem Con.dp {K : Fr} {Z H : Hp} (e : Same Z H) : ∀ (d : D) {v : V} {p : PyData}, Con K Z H v d → toP d = some p → Dp K H v p
  | .non, v, p, h, q => by
    have h : v = .non := h
    have q : some PyData.none = some p := q
    cases q; subst h
    exact .non
  | .bl b, v, p, h, q => by
    have h : v = .bl b := h
    have q : some (PyData.bool b) = some p := q
    cases q; subst h
    exact .bl b
  | .int i, v, p, h, q => by
    have h : v = .int i := h
    have q : some (PyData.int i) = some p := q
    cases q; subst h
    exact .int i
  | .str i, v, p, h, q => by
    have h : v = .str i := h
    have q : some (PyData.str i) = some p := q
    cases q; subst h
    exact .str i
  | .tup xs, v, p, h, q => by
    obtain ⟨a, vs, rfl, s, r⟩ := h
    have q : (toPs xs).map PyData.tuple = some p := q
    cases w : toPs xs with
    | none => rw [w] at q; cases q
    | some ps =>
      rw [w] at q
      cases q
      exact .tup (same_sqT e s) (RepL.dp e xs r w)
  | .lst xs, v, p, h, q => by
    obtain ⟨a, vs, rfl, s, r⟩ := h
    have q : (toPs xs).map PyData.list = some p := q
    cases w : toPs xs with
    | none => rw [w] at q; cases q
    | some ps =>
      rw [w] at q
      cases q
      exact .lst (.inl (.inl s)) (RepL.dp e xs r w)
  | .dct _ _, _, _, _, q => by cases q
  | .obj _ _ _, _, _, _, q => by cases q
  | .fn _, _, _, _, q => by cases q
  | .scr _, _, _, _, q => by cases q
  | .ty _, _, _, _, q => by cases q
theorem RepL.dp {K : Fr} {Z H : Hp} (e : Same Z H) : ∀ (ds : List D) {vs : List V} {ps : List PyData}, RepL K Z ds vs → toPs ds = some ps → DpAll K H vs ps
  | [], vs, ps, h, q => by
    have h : vs = [] := h
    have q : some [] = some ps := q
    cases q; subst h
    exact .nil
  | d :: ds, vs, ps, h, q => by
    obtain ⟨v, r, rfl, h1, h2⟩ := h
    have q : (toP d).bind (fun p => (toPs ds).map fun ps => p :: ps) = some ps := q
    cases w : toP d with
    | none => rw [w] at q; cases q
    | some p =>
      rw [w] at q
      have q : (toPs ds).map (fun ps => p :: ps) = some ps := q
      cases w2 : toPs ds with
      | none => rw [w2] at q; cases q
      | some ps' =>
        rw [w2] at q
        cases q
        exact .cons (Con.dp e d (Rep.con e h1) w) (RepL.dp e ds h2 w2)
end

/-! ### rules -/
section
variable {X : Cx}
theorem opr_or {f : Value → Value → Sem Value} {r r' : R2} (h : OpR X f r) (h' : OpR X f r') : OpR X f (fun x y H Q => r x y H Q ∨ r' x y H Q) := by
  intro pins s σ H x y v u Q I rx ry q
  rcases q with q | q
  · exact h pins s σ H x y v u Q I rx ry q
  · exact h' pins s σ H x y v u Q I rx ry q
def CMulE (i j : Int) : Prop := mulOk i j = true
theorem op_mulE : OpR X (binaryOp .Mult) (rI CMulE fun i j => .int (i * j)) := opI fun i j _ _ _ _ _ hc q => by
  have hc : mulOk i j = true := hc
  unfold mulOk at hc
  rw [Bool.or_eq_true, Bool.or_eq_true] at hc
  rcases hc with hc | hc | hc
  · have h := of_decide_eq_true hc
    exact mul_int q (CMul.ok (.inl (by omega)))
  · have h := of_decide_eq_true hc
    exact mul_int q (CMul.ok (.inr (by omega)))
  · exact mul_int q (CMulW.ok (show i.natAbs.log2 + j.natAbs.log2 < 1000000 from of_decide_eq_true hc))
theorem op_fdivE : OpR X (binaryOp .FloorDiv) (rI (fun _ j => j ≠ 0 ∧ j.natAbs.log2 < 9000) fun i j => .int (i.fdiv j)) := opI fun _ _ _ _ _ _ _ hc q => floordiv_int hc.1 q (.inl (PyProof.noPylong_of_log2 hc.2))
end
section
variable {X : Cx} {T : An} {W : WX} {a b : Expr} {f g : Den} {pos : Pos}
theorem ends {K : Fr} {s : St} {r : Env} {Z H : Hp} {Q : VK} {v : V} {d : D} (S : Sim K T r Z s H) (h : tG K T W (RelE K T s) s (.ok (.val d) r) r Z H Q) (o : Rep K Z d v) : Q v H := h.end S o
theorem de_op {op : Operator} {dop : D → D → Option RV} {R : R2} (hr : OpR X (binaryOp op) R)
    (ho : ∀ (s : St) (r : Env) (Z H : Hp) (v w : V) (d e : D) (x : RV) (Q : VK), Sim X.K T r Z s H → Con X.K Z H v d → Con X.K Z H w e → dop d e = some x → tG X.K T W (RelE X.K T s) s (.ok x r) r Z H Q → R v w H Q)
    (ha : PE X a (tE X.K T W f)) (hb : PE X b (tE X.K T W g)) : PE X (.BinOp a op b pos) (tE X.K T W (eBin dop f g)) :=
  (pe_op hr (pe_fz ha) (pe_fz hb)).less fun _ _ _ h => tE_bin ho h
theorem de_add (ha : PE X a (tE X.K T W f)) (hb : PE X b (tE X.K T W g)) : PE X (.BinOp a .Add b pos) (tE X.K T W (eBin addD f g)) := by
  refine de_op (opr_or op_add (opr_or op_add_str (opr_or op_catA op_cat))) (fun s r Z H v w d e x Q S c1 c2 q h => ?_) ha hb
  cases d with
  | int i =>
    cases e with
    | int j =>
      cases q
      obtain rfl : v = .int i := c1
      obtain rfl : w = .int j := c2
      exact .inl ⟨i, j, rfl, rfl, ends S h rfl⟩
    | _ => cases q
  | str i =>
    cases e with
    | str j =>
      have q : (if i.length + j.length ≤ most then some (RV.val (.str (i ++ j))) else none) = some x := q
      by_cases hl : i.length + j.length ≤ most
      · rw [if_pos hl] at q
        cases q
        obtain rfl : v = .str i := c1
        obtain rfl : w = .str j := c2
        exact .inr (.inl ⟨i, j, rfl, rfl, most_le hl, ends S h rfl⟩)
      · rw [if_neg hl] at q; cases q
    | _ => cases q
  | tup xs =>
    cases e with
    | tup ys =>
      have q : (if xs.length + ys.length ≤ most then some (RV.val (.tup (xs ++ ys))) else none) = some x := q
      by_cases hl : xs.length + ys.length ≤ most
      · rw [if_pos hl] at q
        cases q
        obtain ⟨p, vs, rfl, c1, r1⟩ := c1
        obtain ⟨p', ws, rfl, c2, r2⟩ := c2
        have l1 := r1.length
        have l2 := r2.length
        refine .inr (.inr (.inl ⟨p, p', vs, ws, rfl, rfl, same_sqT S.sub c1, same_sqT S.sub c2, most_le (by omega), fun e1 => ?_, fun e1 e2 => ?_, fun e1 e2 n hn => ?_⟩))
        · subst e1
          obtain rfl : xs = [] := List.eq_nil_of_length_eq_zero l1.symm
          exact h.end S ⟨p', ws, rfl, c2, r2⟩
        · subst e2
          obtain rfl : ys = [] := List.eq_nil_of_length_eq_zero l2.symm
          rw [List.append_nil] at h
          exact h.end S ⟨p, vs, rfl, c1, r1⟩
        · exact h.newF S hn ⟨n, _, rfl, .inl (.inl upd_same), (r1.append r2).mono (same_updZ (S.free hn).2.1)⟩
      · rw [if_neg hl] at q; cases q
    | _ => cases q
  | lst xs =>
    cases e with
    | lst ys =>
      have q : (if xs.length + ys.length ≤ most then some (RV.own (.lst (xs ++ ys))) else none) = some x := q
      by_cases hl : xs.length + ys.length ≤ most
      · rw [if_pos hl] at q
        cases q
        obtain ⟨p, vs, rfl, c1, r1⟩ := c1
        obtain ⟨p', ws, rfl, c2, r2⟩ := c2
        have l1 := r1.length
        have l2 := r2.length
        exact .inr (.inr (.inr ⟨p, p', vs, ws, rfl, rfl, c1, c2, most_le (by omega), fun n hn => h.new S hn ⟨(S.free hn).2.1, _, upd_same, r1.append r2⟩⟩))
      · rw [if_neg hl] at q; cases q
    | _ => cases q
  | _ => cases e <;> cases q
theorem de_int {op : Operator} {gg : Int → Int → Int} (hr : OpR X (binaryOp op) (rI0 fun i j => .int (gg i j))) (ha : PE X a (tE X.K T W f)) (hb : PE X b (tE X.K T W g)) : PE X (.BinOp a op b pos) (tE X.K T W (eBin (intD gg) f g)) := by
  refine de_op hr (fun s r Z H v w d e x Q S c1 c2 q h => ?_) ha hb
  cases d with
  | int i =>
    cases e with
    | int j =>
      cases q
      exact ⟨i, j, c1, c2, ends S h rfl⟩
    | _ => cases q
  | _ => cases e <;> cases q
theorem de_sub (ha : PE X a (tE X.K T W f)) (hb : PE X b (tE X.K T W g)) : PE X (.BinOp a .Sub b pos) (tE X.K T W (eBin (intD fun i j => i - j) f g)) := de_int op_sub ha hb
theorem de_and (ha : PE X a (tE X.K T W f)) (hb : PE X b (tE X.K T W g)) : PE X (.BinOp a .BitAnd b pos) (tE X.K T W (eBin (intD Builtin.bitAnd) f g)) := de_int op_and ha hb
theorem de_or (ha : PE X a (tE X.K T W f)) (hb : PE X b (tE X.K T W g)) : PE X (.BinOp a .BitOr b pos) (tE X.K T W (eBin (intD Builtin.bitOr) f g)) := de_int op_or ha hb
theorem de_xor (ha : PE X a (tE X.K T W f)) (hb : PE X b (tE X.K T W g)) : PE X (.BinOp a .BitXor b pos) (tE X.K T W (eBin (intD Builtin.bitXor) f g)) := de_int op_xor ha hb
theorem de_intC {op : Operator} {C : Int → Int → Prop} {dC : Int → Int → Prop} [∀ i j, Decidable (dC i j)] {gg : Int → Int → Int} {dop : D → D → Option RV} (hr : OpR X (binaryOp op) (rI C fun i j => .int (gg i j)))
    (hd : ∀ i j, dop (.int i) (.int j) = if dC i j then some (.val (.int (gg i j))) else none) (hn : ∀ d e x, dop d e = some x → ∃ i j, d = .int i ∧ e = .int j) (hC : ∀ i j, dC i j → C i j)
    (ha : PE X a (tE X.K T W f)) (hb : PE X b (tE X.K T W g)) : PE X (.BinOp a op b pos) (tE X.K T W (eBin dop f g)) := by
  refine de_op hr (fun s r Z H v w d e x Q S c1 c2 q h => ?_) ha hb
  obtain ⟨i, j, rfl, rfl⟩ := hn _ _ _ q
  rw [hd] at q
  by_cases c : dC i j
  · rw [if_pos c] at q
    cases q
    exact ⟨i, j, c1, c2, hC i j c, ends S h rfl⟩
  · rw [if_neg c] at q; cases q
theorem de_fdiv (ha : PE X a (tE X.K T W f)) (hb : PE X b (tE X.K T W g)) : PE X (.BinOp a .FloorDiv b pos) (tE X.K T W (eBin fdivD f g)) :=
  de_intC (dC := fun _ j => j ≠ 0 ∧ j.natAbs.log2 < 9000) op_fdivE (fun _ _ => rfl) (fun d e x q => by cases d <;> cases e <;> first | exact ⟨_, _, rfl, rfl⟩ | cases q) (fun _ _ h => h) ha hb
theorem de_mod (ha : PE X a (tE X.K T W f)) (hb : PE X b (tE X.K T W g)) : PE X (.BinOp a .Mod b pos) (tE X.K T W (eBin modD f g)) :=
  de_intC (dC := fun _ j => j ≠ 0) op_modN (fun _ _ => rfl) (fun d e x q => by cases d <;> cases e <;> first | exact ⟨_, _, rfl, rfl⟩ | cases q) (fun _ _ h => h) ha hb
theorem de_pow (ha : PE X a (tE X.K T W f)) (hb : PE X b (tE X.K T W g)) : PE X (.BinOp a .Pow b pos) (tE X.K T W (eBin powD f g)) :=
  de_intC (dC := fun i j => 0 ≤ j ∧ j ≤ 1000000 ∧ i.natAbs < 2 ^ 64) op_pow (fun _ _ => rfl) (fun d e x q => by cases d <;> cases e <;> first | exact ⟨_, _, rfl, rfl⟩ | cases q) (fun _ _ h => h) ha hb
theorem de_shl (ha : PE X a (tE X.K T W f)) (hb : PE X b (tE X.K T W g)) : PE X (.BinOp a .LShift b pos) (tE X.K T W (eBin shlD f g)) :=
  de_intC (dC := fun i j => 0 ≤ j ∧ j ≤ 1000000 ∧ i.natAbs < 2 ^ 64) op_shl (fun _ _ => rfl) (fun d e x q => by cases d <;> cases e <;> first | exact ⟨_, _, rfl, rfl⟩ | cases q) (fun _ _ h => h) ha hb
theorem de_shr (ha : PE X a (tE X.K T W f)) (hb : PE X b (tE X.K T W g)) : PE X (.BinOp a .RShift b pos) (tE X.K T W (eBin shrD f g)) :=
  de_intC (dC := fun _ j => 0 ≤ j) op_shr (fun _ _ => rfl) (fun d e x q => by cases d <;> cases e <;> first | exact ⟨_, _, rfl, rfl⟩ | cases q) (fun _ _ h => h) ha hb
theorem RepL.reps {K : Fr} {Z : Hp} {ds : List D} {vs : List V} (h : RepL K Z ds vs) : ∀ n : Nat, RepL K Z (List.replicate n ds).flatten (List.replicate n vs).flatten
  | 0 => rfl
  | n + 1 => by
    rw [List.replicate_succ, List.replicate_succ, List.flatten_cons, List.flatten_cons]
    exact h.append (RepL.reps h n)
theorem de_mul (ha : PE X a (tE X.K T W f)) (hb : PE X b (tE X.K T W g)) : PE X (.BinOp a .Mult b pos) (tE X.K T W (eBin mulD f g)) := by
  refine de_op (opr_or op_mulE (opr_or op_rep op_repT)) (fun s r Z H v w d e x Q S c1 c2 q h => ?_) ha hb
  cases d with
  | int i =>
    cases e with
    | int j =>
      have q : (if mulOk i j = true then some (RV.val (.int (i * j))) else none) = some x := q
      by_cases hm : mulOk i j = true
      · rw [if_pos hm] at q
        cases q
        exact .inl ⟨i, j, c1, c2, hm, ends S h rfl⟩
      · rw [if_neg hm] at q; cases q
    | _ => cases q
  | lst xs =>
    cases e with
    | int k =>
      have q : (if 0 ≤ k ∧ k ≤ 1000 ∧ xs.length ≤ 1000 then some (RV.own (.lst (List.replicate k.toNat xs).flatten)) else none) = some x := q
      by_cases hm : 0 ≤ k ∧ k ≤ 1000 ∧ xs.length ≤ 1000
      · rw [if_pos hm] at q
        cases q
        obtain ⟨p, vs, rfl, c1, r1⟩ := c1
        have l1 := r1.length
        have hz : vs.length * k.toNat ≤ 1000 * 1000 := Nat.mul_le_mul (by omega) (by omega)
        refine .inr (.inl ⟨p, k, vs, rfl, c2, c1, by omega, by omega, Nat.le_trans hz (by rw [sizeLine_eq]; decide), fun n hn => h.new S hn ⟨(S.free hn).2.1, _, upd_same, r1.reps _⟩⟩)
      · rw [if_neg hm] at q; cases q
    | _ => cases q
  | tup xs =>
    cases e with
    | int k =>
      have q : (if 2 ≤ k ∧ k ≤ 1000 ∧ xs.length ≤ 1000 ∧ xs.length ≠ 0 then some (RV.val (.tup (List.replicate k.toNat xs).flatten)) else none) = some x := q
      by_cases hm : 2 ≤ k ∧ k ≤ 1000 ∧ xs.length ≤ 1000 ∧ xs.length ≠ 0
      · rw [if_pos hm] at q
        cases q
        obtain ⟨p, vs, rfl, c1, r1⟩ := c1
        have l1 := r1.length
        refine .inr (.inr ⟨p, k, vs, rfl, c2, same_sqT S.sub c1, fun e => hm.2.2.2 ?_, hm.1, hm.2.1, by omega, fun n hn => h.newF S hn ⟨n, _, rfl, .inl (.inl upd_same), (r1.reps _).mono (same_updZ (S.free hn).2.1)⟩⟩)
        rw [e] at l1
        exact l1.symm
      · rw [if_neg hm] at q; cases q
    | _ => cases q
  | _ => cases e <;> cases q
/-! one operand -/
theorem de_neg (ha : PE X a (tE X.K T W f)) : PE X (.UnaryOp .USub a pos) (tE X.K T W (eUn negD f)) :=
  (pe_un un_neg (pe_fz ha)).less fun _ _ _ h => tE_un (fun s r Z H v d x Q S c q h => by
    cases d with
    | int i =>
      cases q
      exact ⟨i, c, ends S h rfl⟩
    | _ => cases q) h
theorem de_inv (ha : PE X a (tE X.K T W f)) : PE X (.UnaryOp .Invert a pos) (tE X.K T W (eUn invD f)) :=
  (pe_un un_inv (pe_fz ha)).less fun _ _ _ h => tE_un (fun s r Z H v d x Q S c q h => by
    cases d with
    | int i =>
      cases q
      exact ⟨i, c, ends S h rfl⟩
    | _ => cases q) h
/-! comparisons -/
theorem de_cmp {op : CmpOp} {dop : D → D → Option RV} {R : R2} (hr : OpR X (compareOp op) R) (hm : behindInMarks op b = false)
    (ho : ∀ (s : St) (r : Env) (Z H : Hp) (v w : V) (d e : D) (x : RV) (Q : VK), Sim X.K T r Z s H → Con X.K Z H v d → Con X.K Z H w e → dop d e = some x → tG X.K T W (RelE X.K T s) s (.ok x r) r Z H Q → R v w H Q)
    (ha : PE X a (tE X.K T W f)) (hb : PE X b (tE X.K T W g)) : PE X (.Compare a [op] [b] pos) (tE X.K T W (eBin dop f g)) :=
  (pe_cmpR hr (pe_fz ha) (pe_fz hb) hm).less fun _ _ _ h => tE_bin ho h
/-- a comparison, for the value and for the test -/
def CmpOk (X : Cx) (T : An) (W : WX) (op : CmpOp) (dop : D → D → Option RV) : Prop := ∃ R : R2, OpR X (compareOp op) R ∧
  ∀ (s : St) (r : Env) (Z H : Hp) (v w : V) (d e : D) (x : RV) (Q : VK), Sim X.K T r Z s H → Con X.K Z H v d → Con X.K Z H w e → dop d e = some x → tG X.K T W (RelE X.K T s) s (.ok x r) r Z H Q → R v w H Q
theorem CmpOk.pe {op : CmpOp} {dop : D → D → Option RV} (h : CmpOk X T W op dop) (hm : behindInMarks op b = false) (ha : PE X a (tE X.K T W f)) (hb : PE X b (tE X.K T W g)) : PE X (.Compare a [op] [b] pos) (tE X.K T W (eBin dop f g)) := by
  obtain ⟨R, hr, ho⟩ := h
  exact de_cmp hr hm ho ha hb
theorem bv_some {o : Option Bool} {x : RV} (h : bv o = some x) : ∃ b, o = some b ∧ x = .val (.bl b) := by
  cases o with
  | none => cases h
  | some b =>
    cases h
    exact ⟨b, rfl, rfl⟩
theorem op_eqA (hu : X.A.units + 64 < cLine) : OpR X (compareOp .Eq) (fun x y H Q => rEq x y H Q ∨ rEqD X.K x y H Q) := opr_or op_eq (op_eqD hu)
theorem eqP_some {p q : PyData} {c : Bool} (h : eqP p q = some c) : SeqAt.shaped p = true ∧ SeqAt.shaped q = true ∧ c = PyData.eqv p q := by
  unfold eqP at h
  by_cases e : SeqAt.shaped p = true ∧ SeqAt.shaped q = true
  · rw [if_pos e] at h
    cases h
    exact ⟨e.1, e.2, rfl⟩
  · rw [if_neg e] at h; cases h
/-- == of data, by what is known of both -/
theorem eqD_rule {K : Fr} {Z H : Hp} {v w : V} {d e : D} {c : Bool} (hs : Same Z H) (c1 : Con K Z H v d) (c2 : Con K Z H w e) (h : eqD d e = some c) :
    (scal v w = true ∧ c = decide (v = w)) ∨ ∃ p q, Dp K H v p ∧ Dp K H w q ∧ SeqAt.shaped p = true ∧ SeqAt.shaped q = true ∧ c = PyData.eqv p q := by
  have gen : ∀ {d e : D}, Con K Z H v d → Con K Z H w e → (match toP d, toP e with | some p, some q => eqP p q | _, _ => none) = some c → ∃ p q, Dp K H v p ∧ Dp K H w q ∧ SeqAt.shaped p = true ∧ SeqAt.shaped q = true ∧ c = PyData.eqv p q := by
    intro d e c1 c2 h
    cases hp : toP d with
    | none => rw [hp] at h; cases h
    | some p =>
      cases hq : toP e with
      | none => rw [hp, hq] at h; cases h
      | some q =>
        rw [hp, hq] at h
        obtain ⟨h1, h2, h3⟩ := eqP_some h
        exact ⟨p, q, Con.dp hs d c1 hp, Con.dp hs e c2 hq, h1, h2, h3⟩
  cases d with
  | int i =>
    cases e with
    | int j =>
      cases h
      obtain rfl : v = .int i := c1
      obtain rfl : w = .int j := c2
      refine .inl ⟨rfl, ?_⟩
      rw [decide_eq_decide]
      exact ⟨fun q => by rw [q], fun q => V.int.inj q⟩
    | _ => exact .inr (gen c1 c2 h)
  | str i =>
    cases e with
    | str j =>
      cases h
      obtain rfl : v = .str i := c1
      obtain rfl : w = .str j := c2
      refine .inl ⟨rfl, ?_⟩
      rw [decide_eq_decide]
      exact ⟨fun q => by rw [q], fun q => V.str.inj q⟩
    | _ => exact .inr (gen c1 c2 h)
  | _ => exact .inr (gen c1 c2 (by cases e <;> exact h))
theorem ck_eq (hu : X.A.units + 64 < cLine) : CmpOk X T W .Eq ceqD := by
  refine ⟨_, (opr_or op_eq (op_eqD hu)), fun s r Z H v w d e x Q S c1 c2 q h => ?_⟩
  obtain ⟨c, h1, rfl⟩ := bv_some q
  rcases eqD_rule S.sub c1 c2 h1 with ⟨h2, rfl⟩ | ⟨p, p2, h2, h3, h4, h5, rfl⟩
  · exact .inl ⟨h2, ends S h rfl⟩
  · exact .inr ⟨p, p2, h2, h3, h4, h5, ends S h rfl⟩
theorem ck_ne (hu : X.A.units + 64 < cLine) : CmpOk X T W .NotEq cneD := by
  refine ⟨_, (opr_or op_ne (op_neD hu)), fun s r Z H v w d e x Q S c1 c2 q h => ?_⟩
  obtain ⟨c, h1, rfl⟩ := bv_some q
  cases h2 : eqD d e with
  | none => rw [h2] at h1; cases h1
  | some c' =>
    rw [h2] at h1
    cases h1
    rcases eqD_rule S.sub c1 c2 h2 with ⟨h3, rfl⟩ | ⟨p, p2, h3, h4, h5, h6, rfl⟩
    · exact .inl ⟨h3, ends S h rfl⟩
    · exact .inr ⟨p, p2, h3, h4, h5, h6, ends S h rfl⟩
theorem ck_I {op : CmpOp} {gg : Int → Int → Bool} {dop : D → D → Option RV} (hr : OpR X (compareOp op) (rI0 fun i j => .bl (gg i j)))
    (hd : ∀ i j, dop (.int i) (.int j) = some (.val (.bl (gg i j)))) (hn : ∀ d e x, dop d e = some x → ∃ i j, d = .int i ∧ e = .int j) : CmpOk X T W op dop := by
  refine ⟨_, hr, fun s r Z H v w d e x Q S c1 c2 q h => ?_⟩
  obtain ⟨i, j, rfl, rfl⟩ := hn _ _ _ q
  rw [hd] at q
  cases q
  exact ⟨i, j, c1, c2, ends S h rfl⟩
theorem ck_gt : CmpOk X T W .Gt cgtD :=
  ck_I op_gt (fun _ _ => rfl) (fun d e x q => by cases d <;> cases e <;> first | exact ⟨_, _, rfl, rfl⟩ | cases q)
theorem ck_ge : CmpOk X T W .GtE cgeD :=
  ck_I op_ge (fun _ _ => rfl) (fun d e x q => by cases d <;> cases e <;> first | exact ⟨_, _, rfl, rfl⟩ | cases q)
theorem rep_ints {K : Fr} {Z : Hp} {xs : List D} {ns : List Int} {vs : List V} (h : RepL K Z xs vs) (e : intsOf xs = some ns) : vs = ns.map V.int := by
  rw [intsOf_eq e] at h
  exact RepL.of_ints ns h
theorem ck_lt (hu : X.A.units < cLine) : CmpOk X T W .Lt cltD := by
  refine ⟨_, (opr_or op_lt (op_ltT hu)), fun s r Z H v w d e x Q S c1 c2 q h => ?_⟩
  obtain ⟨c, h1, rfl⟩ := bv_some q
  cases d with
  | int i =>
    cases e with
    | int j =>
      cases h1
      exact .inl ⟨i, j, c1, c2, ends S h rfl⟩
    | _ => cases h1
  | tup xs =>
    cases e with
    | tup ys =>
      have h1 : (match intsOf xs, intsOf ys with | some ns, some ms => some (HT.lexLt ns ms) | _, _ => none) = some c := h1
      cases e1 : intsOf xs with
      | none => rw [e1] at h1; cases h1
      | some ns =>
        cases e2 : intsOf ys with
        | none => rw [e1, e2] at h1; cases h1
        | some ms =>
          rw [e1, e2] at h1
          cases h1
          obtain ⟨p, vs, rfl, c1, r1⟩ := c1
          obtain ⟨p', ws, rfl, c2, r2⟩ := c2
          have z1 := rep_ints r1 e1
          have z2 := rep_ints r2 e2
          subst z1; subst z2
          exact .inr ⟨p, p', ns, ms, rfl, rfl, same_sqT S.sub c1, same_sqT S.sub c2, ends S h rfl⟩
    | _ => cases h1
  | _ => cases e <;> cases h1
theorem lexAt_shift {e r : Nat → Bool} {z : Bool} : ∀ (k i : Nat), Ob.lexAt e r z (i + 1) k = Ob.lexAt (fun j => e (j + 1)) (fun j => r (j + 1)) z i k
  | 0, _ => rfl
  | k + 1, i => by
    rw [Ob.lexAt_succ, Ob.lexAt_succ, lexAt_shift k (i + 1)]
theorem lexAt_ext {e r e' r' : Nat → Bool} {z : Bool} (h1 : ∀ j, e j = e' j) (h2 : ∀ j, r j = r' j) (i k : Nat) : Ob.lexAt e r z i k = Ob.lexAt e' r' z i k := by
  rw [show e = e' from funext h1, show r = r' from funext h2]
theorem lexLe_eq : ∀ (ns ms : List Int), Ob.lexAt (fun j => decide (ns.getD j 0 = ms.getD j 0)) (fun j => decide (ns.getD j 0 ≤ ms.getD j 0)) (decide (ns.length ≤ ms.length)) 0 (min ns.length ms.length) = !HT.lexLt ms ns
  | [], [] => rfl
  | [], m :: ms => by
    show decide _ = !false
    simp
  | n :: ns, [] => by
    show decide _ = !true
    simp
  | n :: ns, m :: ms => by
    have ih := lexLe_eq ns ms
    rw [show min (n :: ns).length (m :: ms).length = min ns.length ms.length + 1 by simp only [List.length_cons]; omega, Ob.lexAt_succ, lexAt_shift]
    rw [HT.lexLt_cons]
    simp only [List.getD_cons_zero, List.getD_cons_succ, List.length_cons]
    by_cases h : n = m
    · subst h
      rw [if_pos (by simp), if_pos rfl, ← ih]
      simp
    · rw [if_neg (by simpa using h), if_neg (fun e => h e.symm)]
      by_cases h2 : n ≤ m
      · rw [decide_eq_true h2, decide_eq_false (by omega)]; rfl
      · rw [decide_eq_false h2, decide_eq_true (by omega)]; rfl
theorem ck_le (hu : X.A.units < cLine) : CmpOk X T W .LtE cleD := by
  refine ⟨_, (opr_or op_le (op_leT hu)), fun s r Z H v w d e x Q S c1 c2 q h => ?_⟩
  cases d with
  | int i =>
    cases e with
    | int j =>
      cases q
      exact .inl ⟨i, j, c1, c2, ends S h rfl⟩
    | _ => cases q
  | tup xs =>
    cases e with
    | tup ys =>
      have h1 : (match intsOf xs, intsOf ys with | some ns, some ms => some (RV.val (.bl (!HT.lexLt ms ns))) | _, _ => none) = some x := q
      cases e1 : intsOf xs with
      | none => rw [e1] at h1; cases h1
      | some ns =>
        cases e2 : intsOf ys with
        | none => rw [e1, e2] at h1; cases h1
        | some ms =>
          rw [e1, e2] at h1
          cases h1
          obtain ⟨p, vs, rfl, c1, r1⟩ := c1
          obtain ⟨p', ws, rfl, c2, r2⟩ := c2
          have z1 := rep_ints r1 e1
          have z2 := rep_ints r2 e2
          subst z1; subst z2
          refine .inr ⟨p, p', ns, ms, rfl, rfl, same_sqT S.sub c1, same_sqT S.sub c2, ?_⟩
          rw [lexLe_eq]
          exact ends S h rfl
    | _ => cases q
  | _ => cases e <;> cases q
end
end Ev
namespace Ev
open PySem PySem.Spec PyProof.Rows L2

/-! ### truth, tests -/
def truthD : D → Option Bool
  | .non => some false
  | .bl b => some b
  | .int i => some (i != 0)
  | .str x => if x.length ≤ most then some (decide (x.length ≠ 0)) else none
  | .lst xs => some (!xs.isEmpty)
  | .tup xs => some (!xs.isEmpty)
  | _ => none
def tOf (f : Den) : DenB := fun r => (fz (f r)).bind fun x r1 => match peek r1 x with
  | some d => ofO (truthD d) r1
  | none => .stuck
def tBl (f : Den) : DenB := fun r => (f r).bind fun x r1 => match x with
  | .val (.bl b) => .ok b r1
  | _ => .stuck
def tNot' (f : DenB) : DenB := fun r => (f r).bind fun b r1 => .ok (!b) r1
def tAnd' (f g : DenB) : DenB := fun r => (f r).bind fun b r1 => if b = true then g r1 else .ok false r1
def tOr' (f g : DenB) : DenB := fun r => (f r).bind fun b r1 => if b = true then .ok true r1 else g r1
/-- a test's answer as a value -/
def eOfB (f : DenB) : Den := fun r => (f r).bind fun b r1 => .ok (.val (.bl b)) r1
def eAnd (f g : Den) : Den := fun r => (fz (f r)).bind fun x r1 => match x with
  | .val (.bl b) => if b = true then g r1 else .ok (.val (.bl false)) r1
  | _ => .stuck
def eOr (f g : Den) : Den := fun r => (fz (f r)).bind fun x r1 => match x with
  | .val (.bl b) => if b = true then .ok (.val (.bl true)) r1 else g r1
  | _ => .stuck
def eNot (f : Den) : Den := fun r => (fz (f r)).bind fun x r1 => match x with
  | .val (.bl b) => .ok (.val (.bl (!b))) r1
  | _ => .stuck
def eIf (c : DenB) (f g : Den) : Den := fun r => (c r).bind fun b r1 => if b = true then f r1 else g r1

section
variable {K : Fr} {T : An} {W : WX} {s : St} {r r1 : Env} {Z Z1 H H1 : Hp}
theorem RepL.isEmpty {ds : List D} {vs : List V} (h : RepL K Z ds vs) : vs.isEmpty = ds.isEmpty := by
  have := h.length
  cases vs <;> cases ds <;> simp_all
theorem truV_of {K : Fr} {Z H : Hp} {v : V} {d : D} {k : Bool} (S : Same Z H) (c : Con K Z H v d) (h : truthD d = some k) : TruV K v H k := by
  cases d with
  | non =>
    cases h
    obtain rfl : v = .non := c
    rfl
  | bl b' =>
    cases h
    obtain rfl : v = .bl _ := c
    rfl
  | int i =>
    cases h
    obtain rfl : v = .int i := c
    rfl
  | str x =>
    obtain rfl : v = .str x := c
    have h : (if x.length ≤ most then some (decide (x.length ≠ 0)) else none) = some k := h
    by_cases e : x.length ≤ most
    · rw [if_pos e] at h
      cases h
      refine ⟨most_le e, ?_⟩
      rw [Bool.eq_iff_iff]
      simp
    · rw [if_neg e] at h; cases h
  | tup xs =>
    cases h
    obtain ⟨a, vs, rfl, q, rr⟩ := c
    exact .inr (.inl ⟨vs, same_sqT S q, by rw [rr.isEmpty]⟩)
  | lst xs =>
    cases h
    obtain ⟨a, vs, rfl, q, rr⟩ := c
    exact .inl ⟨vs, .inl (.inl q), by rw [rr.isEmpty]⟩
  | _ => cases h
theorem tT_of {f : Den} {Q : Bool → Hp → Prop} (h : tT K T W (tOf f) s H Q) : tO K T W f s H fun v H1 => ∃ k, TruV K v H1 k ∧ Q k H1 := by
  obtain ⟨r, Z, S, h⟩ := h
  refine ⟨r, Z, S, (tG.bind fwdB h).mono fun v H1 h1 => ?_⟩
  obtain ⟨x, r1, Z1, S1, k1, f1, o1, h1⟩ := h1
  cases p1 : peek r1 x with
  | none => rw [p1] at h1; exact h1.elim
  | some d =>
    rw [p1] at h1
    have h1 : tG K T W RelB s (ofO (truthD d) r1) r1 Z1 H1 Q := h1
    cases q : truthD d with
    | none => rw [q] at h1; exact h1.elim
    | some b =>
      rw [q] at h1
      exact ⟨b, truV_of S1.sub (o1.con S1 p1) q, h1 b H1 Z1 S1 (Kin.refl _) Frm.refl rfl⟩
theorem tT_bl {f : Den} {Q : Bool → Hp → Prop} (h : tT K T W (tBl f) s H Q) : tE K T W f s H fun v H1 => ∃ k, v = .bl k ∧ Q k H1 := by
  obtain ⟨r, Z, S, h⟩ := h
  refine ⟨r, Z, S, (tG.bind fwdB h).mono fun v H1 h1 => ?_⟩
  obtain ⟨x, r1, Z1, S1, k1, f1, o1, h1⟩ := h1
  cases x with
  | val d =>
    cases d with
    | bl b => exact ⟨b, o1, h1 b H1 Z1 S1 (Kin.refl _) Frm.refl rfl⟩
    | _ => exact h1.elim
  | _ => exact h1.elim
end
section
variable {X : Cx} {T : An} {W : WX} {a b c : Expr} {f g : Den} {p q : DenB} {pos : Pos} {rest : List Expr}
theorem dt_of (ha : PE X a (tE X.K T W f)) (he : ∀ whole, isTrue a X.env whole = (do let v ← whole; standAt a.pos; holding [v] (truthy v))) : PT X a (tT X.K T W (tOf f)) :=
  (pt_truth (pe_fz ha) he).less fun _ _ _ h => tT_of h
theorem CmpOk.pt {op : CmpOp} {dop : D → D → Option RV} (h : CmpOk X T W op dop) (hm : behindInMarks op b = false) (ha : PE X a (tE X.K T W f)) (hb : PE X b (tE X.K T W g)) : PT X (.Compare a [op] [b] pos) (tT X.K T W (tBl (eBin dop f g))) := by
  obtain ⟨R, hr, ho⟩ := h
  exact (pt_cmpR hr (pe_fz ha) (pe_fz hb) hm).less fun _ _ _ h => tE_bin ho (tT_bl h)
theorem dt_not (ha : PT X a (tT X.K T W p)) : PT X (.UnaryOp .Not a pos) (tT X.K T W (tNot' p)) := (pt_not ha).less fun s H Q h => by
  obtain ⟨r, Z, S, h⟩ := h
  refine ⟨r, Z, S, (tG.bind fwdB h).mono fun b H1 h1 => ?_⟩
  obtain ⟨x, r1, Z1, S1, k1, f1, o1, h1⟩ := h1
  have o1 : b = x := o1
  subst o1
  exact h1 _ H1 Z1 S1 (Kin.refl _) Frm.refl rfl
theorem dw_and1 (ha : PT X a (tT X.K T W p)) : PW X (.BoolOp .And [a] pos) (tT X.K T W p) := pw_and1 ha
theorem dw_or1 (ha : PT X a (tT X.K T W p)) : PW X (.BoolOp .Or [a] pos) (tT X.K T W p) := pw_or1 ha
theorem PW.less {e : Expr} {t t' : TT} (h : PW X e t) (k : ∀ s H Q, t' s H Q → t s H Q) : PW X e t' := ⟨fun wh pins s σ H Q I q => h.run wh pins s σ H Q I (k _ _ _ q)⟩
theorem dw_and (ha : PT X a (tT X.K T W p)) (hb : PW X (.BoolOp .And (b :: rest) pos) (tT X.K T W q)) : PW X (.BoolOp .And (a :: b :: rest) pos) (tT X.K T W (tAnd' p q)) := PW.less (pw_and ha hb) fun s H Q h => by
  obtain ⟨r, Z, S, h⟩ := h
  refine ⟨r, Z, S, (tG.bind fwdB h).mono fun b H1 h1 => ?_⟩
  obtain ⟨x, r1, Z1, S1, k1, f1, o1, h1⟩ := h1
  have o1 : b = x := o1
  subst o1
  cases b with
  | true => exact ⟨r1, Z1, S1, h1⟩
  | false => exact h1 _ H1 Z1 S1 (Kin.refl _) Frm.refl rfl
theorem dw_or (ha : PT X a (tT X.K T W p)) (hb : PW X (.BoolOp .Or (b :: rest) pos) (tT X.K T W q)) : PW X (.BoolOp .Or (a :: b :: rest) pos) (tT X.K T W (tOr' p q)) := PW.less (pw_or ha hb) fun s H Q h => by
  obtain ⟨r, Z, S, h⟩ := h
  refine ⟨r, Z, S, (tG.bind fwdB h).mono fun b H1 h1 => ?_⟩
  obtain ⟨x, r1, Z1, S1, k1, f1, o1, h1⟩ := h1
  have o1 : b = x := o1
  subst o1
  cases b with
  | true => exact h1 _ H1 Z1 S1 (Kin.refl _) Frm.refl rfl
  | false => exact ⟨r1, Z1, S1, h1⟩
theorem de_one {op : BoolOp} (h : PE X a (tE X.K T W f)) : PE X (.BoolOp op [a] pos) (tE X.K T W f) := pe_one h
theorem de_and' (ha : PE X a (tE X.K T W f)) (hb : PE X (.BoolOp .And (b :: rest) pos) (tE X.K T W g)) : PE X (.BoolOp .And (a :: b :: rest) pos) (tE X.K T W (eAnd f g)) := (pe_and (pe_fz ha) hb).less fun s H Q h => by
  obtain ⟨r, Z, S, h⟩ := h
  refine ⟨r, Z, S, (tG.bind fwdE h).mono fun v H1 h1 => ?_⟩
  obtain ⟨x, r1, Z1, S1, k1, f1, o1, h1⟩ := h1
  cases x with
  | val d =>
    cases d with
    | bl b =>
      refine ⟨b, o1.1, ?_⟩
      cases b with
      | true => exact ⟨r1, Z1, S1, h1⟩
      | false => exact tG.end S1 h1 rfl
    | _ => exact h1.elim
  | _ => exact h1.elim
theorem de_or' (ha : PE X a (tE X.K T W f)) (hb : PE X (.BoolOp .Or (b :: rest) pos) (tE X.K T W g)) : PE X (.BoolOp .Or (a :: b :: rest) pos) (tE X.K T W (eOr f g)) := (pe_or (pe_fz ha) hb).less fun s H Q h => by
  obtain ⟨r, Z, S, h⟩ := h
  refine ⟨r, Z, S, (tG.bind fwdE h).mono fun v H1 h1 => ?_⟩
  obtain ⟨x, r1, Z1, S1, k1, f1, o1, h1⟩ := h1
  cases x with
  | val d =>
    cases d with
    | bl b =>
      refine ⟨b, o1.1, ?_⟩
      cases b with
      | true => exact tG.end S1 h1 rfl
      | false => exact ⟨r1, Z1, S1, h1⟩
    | _ => exact h1.elim
  | _ => exact h1.elim
theorem de_not (ha : PE X a (tE X.K T W f)) : PE X (.UnaryOp .Not a pos) (tE X.K T W (eNot f)) := (pe_not (pe_fz ha)).less fun s H Q h => by
  obtain ⟨r, Z, S, h⟩ := h
  refine ⟨r, Z, S, (tG.bind fwdE h).mono fun v H1 h1 => ?_⟩
  obtain ⟨x, r1, Z1, S1, k1, f1, o1, h1⟩ := h1
  cases x with
  | val d =>
    cases d with
    | bl b => exact ⟨b, o1.1, tG.end S1 h1 rfl⟩
    | _ => exact h1.elim
  | _ => exact h1.elim
theorem de_if (hc : PT X c (tT X.K T W p)) (ha : PE X a (tE X.K T W f)) (hb : PE X b (tE X.K T W g)) : PE X (.IfExp c a b pos) (tE X.K T W (eIf p f g)) := (pe_ifExp hc ha hb).less fun s H Q h => by
  obtain ⟨r, Z, S, h⟩ := h
  refine ⟨r, Z, S, (tG.bind fwdE h).mono fun v H1 h1 => ?_⟩
  obtain ⟨x, r1, Z1, S1, k1, f1, o1, h1⟩ := h1
  have o1 : v = x := o1
  subst o1
  cases v with
  | true => exact ⟨r1, Z1, S1, h1⟩
  | false => exact ⟨r1, Z1, S1, h1⟩
/-! is None -/
def cisN : D → Option RV
  | .non => some (.val (.bl true))
  | .bl _ => some (.val (.bl false)) | .int _ => some (.val (.bl false)) | .str _ => some (.val (.bl false)) | .tup _ => some (.val (.bl false)) | .lst _ => some (.val (.bl false))
  | .dct _ _ => some (.val (.bl false)) | .obj _ _ _ => some (.val (.bl false)) | .fn _ => some (.val (.bl false)) | .scr _ => some (.val (.bl false)) | .ty _ => some (.val (.bl false))
def cnoN (d : D) : Option RV := match d with
  | .non => some (.val (.bl false))
  | _ => some (.val (.bl true))
theorem con_non {K : Fr} {Z H : Hp} {v : V} {d : D} (c : Con K Z H v d) : decide (v = .non) = (match d with | .non => true | _ => false) := by
  cases d with
  | non =>
    obtain rfl : v = .non := c
    rfl
  | bl _ => obtain rfl : v = _ := c; rfl
  | int _ => obtain rfl : v = _ := c; rfl
  | str _ => obtain rfl : v = _ := c; rfl
  | tup _ => obtain ⟨a, vs, rfl, _⟩ := c; rfl
  | lst _ => obtain ⟨a, vs, rfl, _⟩ := c; rfl
  | dct _ _ => obtain ⟨a, vs, rfl, _⟩ := c; rfl
  | obj _ _ _ => obtain ⟨a, dx, hf, rfl, _⟩ := c; rfl
  | fn _ => obtain rfl : v = _ := c; rfl
  | scr _ => obtain ⟨a, rfl, _⟩ := c; rfl
  | ty _ => obtain rfl : v = _ := c; rfl
theorem tIsN_of {K : Fr} {s : St} {H : Hp} {Q : VK} (h : tE K T W (eUn cisN f) s H Q) : tIsN (tO K T W f) s H Q := tE_un (R := fun x H1 Q => Q (.bl (decide (x = .non))) H1) (fun s r Z H v d x Q S c q h => by
  rw [con_non c]
  cases d <;> (cases q; exact ends S h rfl)) h
theorem tNotN_of {K : Fr} {s : St} {H : Hp} {Q : VK} (h : tE K T W (eUn cnoN f) s H Q) : tNotN (tO K T W f) s H Q := tE_un (R := fun x H1 Q => Q (.bl (!decide (x = .non))) H1) (fun s r Z H v d x Q S c q h => by
  rw [con_non c]
  cases d <;> (cases q; exact ends S h rfl)) h
theorem de_isN {j pos'} (ha : PE X a (tE X.K T W f)) : PE X (.Compare a [.Is] [.Constant .none j pos'] pos) (tE X.K T W (eUn cisN f)) := (pe_cmp (pc_isN (pe_fz ha))).less fun _ _ _ h => tIsN_of h
theorem de_noN {j pos'} (ha : PE X a (tE X.K T W f)) : PE X (.Compare a [.IsNot] [.Constant .none j pos'] pos) (tE X.K T W (eUn cnoN f)) := (pe_cmp (pc_notN (pe_fz ha))).less fun _ _ _ h => tNotN_of h
theorem dt_isN {j pos'} (ha : PE X a (tE X.K T W f)) : PT X (.Compare a [.Is] [.Constant .none j pos'] pos) (tT X.K T W (tBl (eUn cisN f))) := (pt_cmp (pc_isN (pe_fz ha))).less fun _ _ _ h => tIsN_of (tT_bl h)
theorem dt_noN {j pos'} (ha : PE X a (tE X.K T W f)) : PT X (.Compare a [.IsNot] [.Constant .none j pos'] pos) (tT X.K T W (tBl (eUn cnoN f))) := (pt_cmp (pc_notN (pe_fz ha))).less fun _ _ _ h => tNotN_of (tT_bl h)
end

/-! ### lists of operands, displays -/
def dNil : DenL := fun r => .ok [] r
def dCons (f : Den) (l : DenL) : DenL := fun r => (fz (f r)).bind fun x r1 => (l r1).bind fun xs r2 => .ok (x :: xs) r2
def takes : List RV → Option (List D)
  | [] => some []
  | x :: xs => (take x).bind fun d => (takes xs).map fun ds => d :: ds
def eTup (l : DenL) : Den := fun r => (l r).bind fun xs r1 => match takes xs with
  | some ds => if ds.length ≤ most then .ok (.val (.tup ds)) r1 else .stuck
  | none => .stuck
def eLst (l : DenL) : Den := fun r => (l r).bind fun xs r1 => match takes xs with
  | some ds => if ds.length ≤ most then .ok (.own (.lst ds)) r1 else .stuck
  | none => .stuck
section
variable {K : Fr} {T : An} {W : WX} {s : St} {r r1 : Env} {Z Z1 H H1 : Hp}
theorem RvsOk.takes {vs : List V} {xs : List RV} {ds : List D} (h : RvsOk K T s r Z H vs xs) (e : takes xs = some ds) : RepL K Z ds vs := by
  induction h generalizing ds with
  | nil =>
    cases e
    exact RepL.nil
  | @cons v x vs xs a _ ih =>
    have e : (take x).bind (fun d => (Ev.takes xs).map fun ds => d :: ds) = some ds := e
    cases q : take x with
    | none => rw [q] at e; cases e
    | some d =>
      rw [q] at e
      have e : (Ev.takes xs).map (fun ds => d :: ds) = some ds := e
      cases w : Ev.takes xs with
      | none => rw [w] at e; cases e
      | some ds' =>
        rw [w] at e
        cases e
        exact .cons (a.rep q) (ih w)
theorem tL_nil {Q : List V → Hp → Prop} (h : tL K T W dNil s H Q) : L2.tNil s H Q := by
  obtain ⟨r, Z, S, h⟩ := h
  exact h [] H Z S (Kin.refl _) Frm.refl .nil
theorem tL_cons {f : Den} {l : DenL} {Q : List V → Hp → Prop} (h : tL K T W (dCons f l) s H Q) : tCons (tO K T W f) (tL K T W l) s H Q := by
  obtain ⟨r, Z, S, h⟩ := h
  refine ⟨r, Z, S, (tG.bind fwdL h).mono fun v H1 h1 => ?_⟩
  obtain ⟨x, r1, Z1, S1, k1, f1, o1, h1⟩ := h1
  refine ⟨r1, Z1, S1, (tG.bind fwdL h1).mono fun vs H2 h2 => ?_⟩
  obtain ⟨xs, r2, Z2, S2, k2, f2, o2, h2⟩ := h2
  exact h2 (v :: vs) H2 Z2 S2 (Kin.refl _) Frm.refl (.cons (RelF.stay o1 S1 k2 f2) o2)
end
section
variable {X : Cx} {T : An} {W : WX} {a : Expr} {es : List Expr} {f : Den} {l : DenL} {pos : Pos}
theorem da_nil : PA X [] (tL X.K T W dNil) := pa_nil.less fun _ _ _ h => tL_nil h
theorem da_cons (ha : PE X a (tE X.K T W f)) (hl : PA X es (tL X.K T W l)) (hs : starEach (a :: es) X.env = (false, eval a X.env) :: starEach es X.env) : PA X (a :: es) (tL X.K T W (dCons f l)) :=
  (pa_cons (pe_fz ha) hl hs).less fun _ _ _ h => tL_cons h
theorem de_tup {x1} (h : PA X es (tL X.K T W l)) : PE X (.Tuple es x1 pos) (tE X.K T W (eTup l)) := (pe_tup h).less fun s H Q q => by
  obtain ⟨r, Z, S, q⟩ := q
  refine ⟨r, Z, S, (tG.bind fwdE q).mono fun vs H1 h1 => ?_⟩
  obtain ⟨xs, r1, Z1, S1, k1, f1, o1, h1⟩ := h1
  cases e : takes xs with
  | none => rw [e] at h1; exact h1.elim
  | some ds =>
    rw [e] at h1
    have rr := RvsOk.takes o1 e
    by_cases hl : ds.length ≤ most
    · have h1 : tG X.K T W (RelE X.K T s) s (if ds.length ≤ most then Res.ok (RV.val (.tup ds)) r1 else .stuck) r1 Z1 H1 Q := h1
      rw [if_pos hl] at h1
      refine ⟨by rw [rr.length]; exact most_le hl, fun p hp => h1.newF S1 hp ⟨p, vs, rfl, .inl (.inl upd_same), rr.mono (same_updZ (S1.free hp).2.1)⟩⟩
    · have h1 : tG X.K T W (RelE X.K T s) s (if ds.length ≤ most then Res.ok (RV.val (.tup ds)) r1 else .stuck) r1 Z1 H1 Q := h1
      rw [if_neg hl] at h1
      exact h1.elim
theorem de_lst (h : PA X es (tL X.K T W l)) : PE X (.List es pos) (tE X.K T W (eLst l)) := (pe_lst h).less fun s H Q q => by
  obtain ⟨r, Z, S, q⟩ := q
  refine ⟨r, Z, S, (tG.bind fwdE q).mono fun vs H1 h1 => ?_⟩
  obtain ⟨xs, r1, Z1, S1, k1, f1, o1, h1⟩ := h1
  cases e : takes xs with
  | none => rw [e] at h1; exact h1.elim
  | some ds =>
    rw [e] at h1
    have rr := RvsOk.takes o1 e
    have h1 : tG X.K T W (RelE X.K T s) s (if ds.length ≤ most then Res.ok (RV.own (.lst ds)) r1 else .stuck) r1 Z1 H1 Q := h1
    by_cases hl : ds.length ≤ most
    · rw [if_pos hl] at h1
      exact ⟨by rw [rr.length]; exact most_le hl, fun p hp => h1.new S1 hp ⟨(S1.free hp).2.1, vs, upd_same, rr⟩⟩
    · rw [if_neg hl] at h1
      exact h1.elim
end

/-! ### items -/
def keyD : D → Option Key
  | .int i => some (.inl i)
  | .str x => some (.inr x)
  | _ => none
def dget (ks : List Key) (vs : List D) (k : Key) : Option D := ((ks.zip vs).find? fun p => decide (p.1 = k)).map (·.2)
def idxD : D → D → Option RV
  | .lst xs, .int i => (atI xs i).map .val
  | .tup xs, .int i => (atI xs i).map .val
  | .str z, .int i => if z.length ≤ most then (atI z.cps.toList i).map fun c => .val (.str ⟨#[c]⟩) else none
  | .dct ks vs, k => (keyD k).bind fun k => (dget ks vs k).map .val
  | _, _ => none
theorem atI_rep {K : Fr} {Z : Hp} {ds : List D} {vs : List V} {i : Int} {d : D} (h : RepL K Z ds vs) (e : atI ds i = some d) : ∃ v, atI vs i = some v ∧ Rep K Z d v := by
  unfold atI at e ⊢
  rw [h.length]
  cases q : ixN ds.length i with
  | none => rw [q] at e; cases e
  | some j =>
    rw [q] at e
    exact h.get (i := j) e
theorem dget_rep {K : Fr} {Z : Hp} {k : Key} : ∀ {kvs : List (Key × V)} {ds : List D} {d : D}, RepL K Z ds (kvs.map Prod.snd) → dget (kvs.map Prod.fst) ds k = some d → ∃ v, valV kvs k = some v ∧ Rep K Z d v
  | [], ds, d, h, e => by simp [dget] at e
  | (k', v') :: kvs, [], d, h, e => by simp [dget] at e
  | (k', v') :: kvs, d' :: ds, d, h, e => by
    obtain ⟨v, r, q, h1, h2⟩ := h
    have q : v' :: kvs.map Prod.snd = v :: r := q
    injection q with q1 q2
    subst q1; subst q2
    by_cases c : k' = k
    · rw [valV_pos (p := (k', v')) c]
      simp [dget, c] at e
      subst e
      exact ⟨v', rfl, h1⟩
    · rw [valV_neg (p := (k', v')) c]
      exact dget_rep h2 (by simpa [dget, c] using e)
theorem dget_none {k : Key} : ∀ {kvs : List (Key × V)} {ds : List D}, ds.length = kvs.length → dget (kvs.map Prod.fst) ds k = none → valV kvs k = none
  | [], _, _, _ => rfl
  | (k', v') :: kvs, [], h, _ => by simp at h
  | (k', v') :: kvs, d' :: ds, h, e => by
    by_cases c : k' = k
    · simp [dget, c] at e
    · rw [valV_neg (p := (k', v')) c]
      exact dget_none (by simpa using h) (by simpa [dget, c] using e)
theorem keyD_con {K : Fr} {Z H : Hp} {v : V} {d : D} {k : Key} (c : Con K Z H v d) (e : keyD d = some k) : v = kV k := by
  cases d with
  | int i => cases e; exact c
  | str x => cases e; exact c
  | _ => cases e
def rIxDct : R2 := fun x y H Q => ∃ p kvs k v, x = .ref p ∧ y = kV k ∧ Rd H p (.dK kvs) ∧ valV kvs k = some v ∧ Q v H
section
variable {X : Cx} {T : An} {W : WX} {a b : Expr} {f g : Den} {pos : Pos}
theorem ix_dct (hu : X.A.units + 1 < cLine) : IxR X rIxDct := by
  intro value slice pins s σ H x y v u Q I rx ry h hs
  obtain ⟨p, kvs, k, w, rfl, rfl, hp, hv, q⟩ := h
  obtain rfl : v = Value.ref p := rx
  have g : DGet H p (kV k) (some w) := by rw [← hv]; exact .inl ⟨kvs, k, hp, rfl, rfl⟩
  exact tail_any (dict_typeIs I g) PySem.F.slot_dict_getitem.lookup (d_getItem hu I g ry fun w' s3 I3 rw' => ⟨w, H, I3, rw', q⟩) hs
theorem ixr_or {r r' : R2} (h : IxR X r) (h' : IxR X r') : IxR X (fun x y H Q => r x y H Q ∨ r' x y H Q) := IxR.or h h'
theorem de_idx (hu : X.A.units + 1 < cLine) (hs : PlainIx b) (ha : PE X a (tE X.K T W f)) (hb : PE X b (tE X.K T W g)) : PE X (.Subscript a b pos) (tE X.K T W (eBin idxD f g)) := by
  refine (pe_ix (ixr_or ix_seq (ix_dct hu)) (pe_fz ha) (pe_fz hb) hs).less fun _ _ _ h => tE_bin (R := fun x y H Q => rIx X.K x y H Q ∨ rIxDct x y H Q) (fun s r Z H v w d e x Q S c1 c2 q h => ?_) h
  cases d with
  | lst xs =>
    cases e with
    | int i =>
      have q : (atI xs i).map RV.val = some x := q
      cases w1 : atI xs i with
      | none => rw [w1] at q; cases q
      | some d =>
        rw [w1] at q; cases q
        obtain ⟨p, vs, rfl, c1, rr⟩ := c1
        obtain ⟨u, hu1, hu2⟩ := atI_rep rr w1
        exact .inl (.inl ⟨p, vs, i, u, rfl, c2, .inl (.inl c1), hu1, ends S h hu2⟩)
    | _ => cases q
  | tup xs =>
    cases e with
    | int i =>
      have q : (atI xs i).map RV.val = some x := q
      cases w1 : atI xs i with
      | none => rw [w1] at q; cases q
      | some d =>
        rw [w1] at q; cases q
        obtain ⟨p, vs, rfl, c1, rr⟩ := c1
        obtain ⟨u, hu1, hu2⟩ := atI_rep rr w1
        exact .inl (.inr (.inl ⟨p, vs, i, u, rfl, c2, same_sqT S.sub c1, hu1, ends S h hu2⟩))
    | _ => cases q
  | str z =>
    cases e with
    | int i =>
      have q : (if z.length ≤ most then (atI z.cps.toList i).map fun c => RV.val (.str ⟨#[c]⟩) else none) = some x := q
      by_cases hl : z.length ≤ most
      · rw [if_pos hl] at q
        cases w1 : atI z.cps.toList i with
        | none => rw [w1] at q; cases q
        | some c =>
          rw [w1] at q; cases q
          exact .inl (.inr (.inr ⟨z, i, c, c1, c2, most_le hl, w1, ends S h rfl⟩))
      · rw [if_neg hl] at q; cases q
    | _ => cases q
  | dct ks vs =>
    have q : ((keyD e).bind fun k => (dget ks vs k).map RV.val) = some x := q
    cases w1 : keyD e with
    | none => rw [w1] at q; cases q
    | some k =>
      rw [w1] at q
      have q : (dget ks vs k).map RV.val = some x := q
      cases w2 : dget ks vs k with
      | none => rw [w2] at q; cases q
      | some d =>
        rw [w2] at q; cases q
        obtain ⟨p, kvs, rfl, c1, e1, rr⟩ := c1
        subst e1
        obtain ⟨u, hu1, hu2⟩ := dget_rep rr w2
        exact .inr ⟨p, kvs, k, u, rfl, keyD_con c2 w1, c1, hu1, ends S h hu2⟩
  | _ => cases e <;> cases q
end
end Ev
namespace Ev
open PySem PySem.Spec PyProof.Rows L2

inductive ConL (K : Fr) (Z H : Hp) : List V → List D → Prop
  | nil : ConL K Z H [] []
  | cons {v : V} {d : D} {vs : List V} {ds : List D} : Con K Z H v d → ConL K Z H vs ds → ConL K Z H (v :: vs) (d :: ds)
def peeks (r : Env) : List RV → Option (List D)
  | [] => some []
  | x :: xs => (peek r x).bind fun d => (peeks r xs).map fun ds => d :: ds
/-- a function of contents -/
def eFn (op : List D → Option RV) (l : DenL) : Den := fun r => (l r).bind fun xs r1 => match peeks r1 xs with
  | some ds => ofO (op ds) r1
  | none => .stuck
section
variable {K : Fr} {T : An} {W : WX} {s : St} {r r1 : Env} {Z Z1 H H1 : Hp}
theorem RvsOk.con {vs : List V} {xs : List RV} {ds : List D} (h : RvsOk K T s r Z H vs xs) (S : Sim K T r Z s H) (e : peeks r xs = some ds) : ConL K Z H vs ds := by
  induction h generalizing ds with
  | nil =>
    cases e
    exact .nil
  | @cons v x vs xs a _ ih =>
    have e : (peek r x).bind (fun d => (peeks r xs).map fun ds => d :: ds) = some ds := e
    cases q : peek r x with
    | none => rw [q] at e; cases e
    | some d =>
      rw [q] at e
      have e : (peeks r xs).map (fun ds => d :: ds) = some ds := e
      cases w : peeks r xs with
      | none => rw [w] at e; cases e
      | some ds' =>
        rw [w] at e
        cases e
        exact .cons (a.con S q) (ih w)
/-- a rule by values does what the operation on contents says -/
def FnOkD (K : Fr) (T : An) (W : WX) (op : List D → Option RV) (R : List V → Hp → VK → Prop) : Prop :=
  ∀ (s : St) (r : Env) (Z H : Hp) (vs : List V) (ds : List D) (x : RV) (Q : VK), Sim K T r Z s H → ConL K Z H vs ds → op ds = some x → tG K T W (RelE K T s) s (.ok x r) r Z H Q → R vs H Q
theorem tE_fn {op : List D → Option RV} {l : DenL} {R : List V → Hp → VK → Prop} (ho : FnOkD K T W op R) {Q : VK} (h : tE K T W (eFn op l) s H Q) : tCB R (tL K T W l) s H Q := by
  obtain ⟨r, Z, S, h⟩ := h
  refine ⟨r, Z, S, (tG.bind fwdE h).mono fun vs H1 h1 => ?_⟩
  obtain ⟨xs, r1, Z1, S1, k1, f1, o1, h1⟩ := h1
  cases e : peeks r1 xs with
  | none => rw [e] at h1; exact h1.elim
  | some ds =>
    rw [e] at h1
    have h1 : tG K T W (RelE K T s) s (ofO (op ds) r1) r1 Z1 H1 Q := h1
    cases q : op ds with
    | none => rw [q] at h1; exact h1.elim
    | some x =>
      rw [q] at h1
      exact ho s r1 Z1 H1 vs ds x Q S1 (RvsOk.con o1 S1 e) q h1
theorem ConL.one {v : List V} {d : D} (h : ConL K Z H v [d]) : ∃ x, v = [x] ∧ Con K Z H x d := by
  cases h with
  | cons a b =>
    cases b
    exact ⟨_, rfl, a⟩
theorem ConL.two {v : List V} {d e : D} (h : ConL K Z H v [d, e]) : ∃ x y, v = [x, y] ∧ Con K Z H x d ∧ Con K Z H y e := by
  cases h with
  | cons a b =>
    obtain ⟨y, rfl, c⟩ := ConL.one b
    exact ⟨_, y, rfl, a, c⟩
end
section
variable {X : Cx} {T : An} {W : WX}
theorem cr_or {f : Value} {r r' : List V → Hp → VK → Prop} (h : CallR X f r) (h' : CallR X f r') : CallR X f (fun xs H Q => r xs H Q ∨ r' xs H Q) := by
  intro pins s σ H xs us Q I rx q
  rcases q with q | q
  · exact h pins s σ H xs us Q I rx q
  · exact h' pins s σ H xs us Q I rx q
theorem one_of {op : List D → Option RV} (hn : ∀ ds x, op ds = some x → ∃ d, ds = [d]) {R : List V → Hp → VK → Prop}
    (ho : ∀ (s : St) (r : Env) (Z H : Hp) (v : V) (d : D) (x : RV) (Q : VK), Sim X.K T r Z s H → Con X.K Z H v d → op [d] = some x → tG X.K T W (RelE X.K T s) s (.ok x r) r Z H Q → R [v] H Q) : FnOkD X.K T W op R := by
  intro s r Z H vs ds x Q S c q h
  obtain ⟨d, rfl⟩ := hn ds x q
  obtain ⟨v, e1, c1⟩ := c.one
  subst e1
  exact ho s r Z H v d x Q S c1 q h
theorem two_of {op : List D → Option RV} (hn : ∀ ds x, op ds = some x → ∃ d e, ds = [d, e]) {R : List V → Hp → VK → Prop}
    (ho : ∀ (s : St) (r : Env) (Z H : Hp) (v w : V) (d e : D) (x : RV) (Q : VK), Sim X.K T r Z s H → Con X.K Z H v d → Con X.K Z H w e → op [d, e] = some x → tG X.K T W (RelE X.K T s) s (.ok x r) r Z H Q → R [v, w] H Q) : FnOkD X.K T W op R := by
  intro s r Z H vs ds x Q S c q h
  obtain ⟨d, e, rfl⟩ := hn ds x q
  obtain ⟨v, w, e1, c1, c2⟩ := c.two
  subst e1
  exact ho s r Z H v w d e x Q S c1 c2 q h
/-! len -/
def lenD : List D → Option RV
  | [.lst xs] => some (.val (.int xs.length))
  | [.tup xs] => some (.val (.int xs.length))
  | [.dct ks _] => some (.val (.int ks.length))
  | [.str x] => if x.length ≤ most then some (.val (.int x.length)) else none
  | _ => none
def rLenDct : List V → Hp → VK → Prop := fun vs H Q => ∃ p kvs, vs = [.ref p] ∧ Rd H p (.dK kvs) ∧ Q (.int kvs.length) H
theorem cr_lenDct : CallR X (.builtin "len") rLenDct := by
  intro pins s σ H xs us Q I r h
  obtain ⟨p, kvs, rfl, hp, q⟩ := h
  rw [Vals.ref1 r]
  exact d_len I hp fun t s' I' => ⟨.int kvs.length, H, I', ⟨t, rfl⟩, q⟩
abbrev rLenA (X : Cx) : List V → Hp → VK → Prop := fun xs H Q => (∃ x n, xs = [x] ∧ LenV X.K x H n ∧ Q (.int n) H) ∨ rLenDct xs H Q
theorem cr_lenA : CallR X (.builtin "len") (rLenA X) := cr_or call_len cr_lenDct
theorem fn_len : FnOkD X.K T W lenD (rLenA X) := by
  refine one_of (fun ds x q => by match ds, q with | [d], _ => exact ⟨d, rfl⟩ | [], q => cases q | _ :: _ :: _, q => simp [lenD] at q) fun s r Z H v d x Q S c1 q h => ?_
  cases d with
  | lst xs =>
    cases q
    obtain ⟨p, vs, rfl, c2, rr⟩ := c1
    refine .inl ⟨_, vs.length, rfl, .inl ⟨vs, .inl (.inl c2), rfl⟩, ?_⟩
    rw [rr.length]
    exact ends S h rfl
  | tup xs =>
    cases q
    obtain ⟨p, vs, rfl, c2, rr⟩ := c1
    refine .inl ⟨_, vs.length, rfl, .inr ⟨vs, same_sqT S.sub c2, rfl⟩, ?_⟩
    rw [rr.length]
    exact ends S h rfl
  | dct ks vs =>
    cases q
    obtain ⟨p, kvs, rfl, c2, e, rr⟩ := c1
    refine .inr ⟨p, kvs, rfl, c2, ?_⟩
    have e2 : kvs.length = ks.length := by rw [← e, List.length_map]
    rw [e2]
    exact ends S h rfl
  | str z =>
    have q : (if z.length ≤ most then some (RV.val (.int z.length)) else none) = some x := q
    by_cases hl : z.length ≤ most
    · rw [if_pos hl] at q
      cases q
      obtain rfl : v = .str z := c1
      exact .inl ⟨_, z.length, rfl, ⟨most_le hl, rfl⟩, ends S h rfl⟩
    · rw [if_neg hl] at q; cases q
  | _ => cases q
/-! abs, int, max, min of two, gcd, str of an int -/
def absD : List D → Option RV
  | [.int i] => some (.val (.int (if i < 0 then -i else i)))
  | _ => none
def intD1 : List D → Option RV
  | [.int i] => some (.val (.int i))
  | [.bl b] => some (.val (.int (if b then 1 else 0)))
  | _ => none
def strD : List D → Option RV
  | [.int i] => if i.natAbs.log2 < 1920 then some (.val (.str (toString i))) else none
  | _ => none
def gcdD : List D → Option RV
  | [.int i, .int j] => some (.val (.int (Nat.gcd i.natAbs j.natAbs : Nat)))
  | _ => none
theorem fn_abs : FnOkD X.K T W absD (fun xs H Q => ∃ i, xs = [.int i] ∧ Q (.int (if i < 0 then -i else i)) H) :=
  one_of (fun ds x q => by match ds, q with | [d], _ => exact ⟨d, rfl⟩ | [], q => cases q | _ :: _ :: _, q => simp [absD] at q) fun s r Z H v d x Q S c q h => by
    cases d with
    | int i =>
      cases q
      obtain rfl : v = .int i := c
      exact ⟨i, rfl, ends S h rfl⟩
    | _ => cases q
theorem fn_int1 : FnOkD X.K T W intD1 (fun xs H Q => (∃ i, xs = [.int i] ∧ Q (.int i) H) ∨ ∃ k, xs = [.bl k] ∧ Q (.int (if k then 1 else 0)) H) :=
  one_of (fun ds x q => by match ds, q with | [d], _ => exact ⟨d, rfl⟩ | [], q => cases q | _ :: _ :: _, q => simp [intD1] at q) fun s r Z H v d x Q S c q h => by
    cases d with
    | int i =>
      cases q
      obtain rfl : v = .int i := c
      exact .inl ⟨i, rfl, ends S h rfl⟩
    | bl i =>
      cases q
      obtain rfl : v = .bl i := c
      exact .inr ⟨i, rfl, ends S h rfl⟩
    | _ => cases q
theorem fn_str : FnOkD X.K T W strD (fun xs H Q => ∃ i, xs = [.int i] ∧ i.natAbs.log2 < 1920 ∧ Q (.str (toString i)) H) :=
  one_of (fun ds x q => by match ds, q with | [d], _ => exact ⟨d, rfl⟩ | [], q => cases q | _ :: _ :: _, q => simp [strD] at q) fun s r Z H v d x Q S c q h => by
    cases d with
    | int i =>
      have q : (if i.natAbs.log2 < 1920 then some (RV.val (.str (toString i))) else none) = some x := q
      by_cases hl : i.natAbs.log2 < 1920
      · rw [if_pos hl] at q
        cases q
        obtain rfl : v = .int i := c
        exact ⟨i, rfl, hl, ends S h rfl⟩
      · rw [if_neg hl] at q; cases q
    | _ => cases q
theorem fn_gcd : FnOkD X.K T W gcdD rGcd :=
  two_of (fun ds x q => by match ds, q with | [d, e], _ => exact ⟨d, e, rfl⟩ | [], q => cases q | [_], q => simp [gcdD] at q | _ :: _ :: _ :: _, q => simp [gcdD] at q) fun s r Z H v w d e x Q S c c' q h => by
    cases d with
    | int i =>
      cases e with
      | int j =>
        cases q
        obtain rfl : v = .int i := c
        obtain rfl : w = .int j := c'
        exact ⟨i, j, rfl, ends S h rfl⟩
      | _ => cases q
    | _ => cases q
/-! max, min -/
theorem alikeAll_ints (ns : List Int) : PySem.W.AlikeAll (ns.map PyData.int) := by
  refine ⟨fun x hx y hy => ?_, fun x hx => ?_⟩
  · obtain ⟨a, _, rfl⟩ := List.mem_map.mp hx
    obtain ⟨b, _, rfl⟩ := List.mem_map.mp hy
    simp [PySem.W.alike]
  · obtain ⟨a, _, rfl⟩ := List.mem_map.mp hx
    intro e; cases e
theorem ints_reads {h : Heap} : ∀ {ns : List Int} {us : List Value}, Vals (ns.map V.int) us → ∃ as, ReadsAll h us (ns.map PyData.int) as
  | [], us, r => by
    cases r
    exact ⟨_, ReadsAll.nil⟩
  | n :: ns, us, r => by
    cases r with
    | cons a b =>
      obtain ⟨t, rfl⟩ := a
      obtain ⟨as, q⟩ := ints_reads (h := h) b
      exact ⟨_, ReadsAll.cons (Reads.int n t) q⟩
theorem depth_ints' (ns : List Int) : PyData.depthAll (ns.map PyData.int) = 0 := PySem.W.depth_ints ns
def rMaxI (K : Fr) (g : Int → Int → Int) : List V → Hp → VK → Prop := fun vs H Q => ∃ (a : Addr) (n : Int) (ns : List Int), vs = [.ref a] ∧ (SqL K H a ((n :: ns).map V.int) ∨ SqT K H a ((n :: ns).map V.int)) ∧ Q (.int (ns.foldl g n)) H
theorem cr_maxI (hc : X.calm = true) (hu : X.A.units + 64 < cLine) : CallR X (.builtin "max") (rMaxI X.K max) := by
  intro pins s σ H xs us Q I r h
  obtain ⟨a, n, ns, rfl, hs, q⟩ := h
  rw [Vals.ref1 r]
  rcases hs with hs | hs
  · obtain ⟨its, rv, hl, _⟩ := I.list hs
    obtain ⟨as, hr⟩ := ints_reads (h := s.heap) rv
    refine PySem.W.max_list_data (I.ok.hd hc) hl.isList (x := .int n) (xs := ns.map PyData.int) (by simpa using hr) (alikeAll_ints (n :: ns)) (by have := depth_ints' (n :: ns); rw [List.map_cons] at this; rw [this]; omega) fun i v h' tk bs hv rd hk => ?_
    rw [PySem.W.maxD_ints] at rd
    cases rd with
    | int _ t => exact ⟨.int _, H, I.kept hk, ⟨t, rfl⟩, q⟩
  · obtain ⟨its, rv, hl, _⟩ := I.tuple hs
    obtain ⟨as, hr⟩ := ints_reads (h := s.heap) rv
    refine PySem.W.max_tuple_data (I.ok.hd hc) hl (x := .int n) (xs := ns.map PyData.int) (by simpa using hr) (alikeAll_ints (n :: ns)) (by have := depth_ints' (n :: ns); rw [List.map_cons] at this; rw [this]; omega) fun i v h' tk bs hv rd hk => ?_
    rw [PySem.W.maxD_ints] at rd
    cases rd with
    | int _ t => exact ⟨.int _, H, I.kept hk, ⟨t, rfl⟩, q⟩
theorem cr_minI (hc : X.calm = true) (hu : X.A.units + 64 < cLine) : CallR X (.builtin "min") (rMaxI X.K min) := by
  intro pins s σ H xs us Q I r h
  obtain ⟨a, n, ns, rfl, hs, q⟩ := h
  rw [Vals.ref1 r]
  rcases hs with hs | hs
  · obtain ⟨its, rv, hl, _⟩ := I.list hs
    obtain ⟨as, hr⟩ := ints_reads (h := s.heap) rv
    refine PySem.W.min_list_data (I.ok.hd hc) hl.isList (x := .int n) (xs := ns.map PyData.int) (by simpa using hr) (alikeAll_ints (n :: ns)) (by have := depth_ints' (n :: ns); rw [List.map_cons] at this; rw [this]; omega) fun i v h' tk bs hv rd hk => ?_
    rw [PySem.W.minD_ints] at rd
    cases rd with
    | int _ t => exact ⟨.int _, H, I.kept hk, ⟨t, rfl⟩, q⟩
  · obtain ⟨its, rv, hl, _⟩ := I.tuple hs
    obtain ⟨as, hr⟩ := ints_reads (h := s.heap) rv
    refine PySem.W.min_tuple_data (I.ok.hd hc) hl (x := .int n) (xs := ns.map PyData.int) (by simpa using hr) (alikeAll_ints (n :: ns)) (by have := depth_ints' (n :: ns); rw [List.map_cons] at this; rw [this]; omega) fun i v h' tk bs hv rd hk => ?_
    rw [PySem.W.minD_ints] at rd
    cases rd with
    | int _ t => exact ⟨.int _, H, I.kept hk, ⟨t, rfl⟩, q⟩
theorem rMax_ok {K : Fr} {g : Int → Int → Int} {xs : List D} {ns : List Int} {n : Int} {r : Env} {s : St} {Z H : Hp} {Q : VK} {v : V} {L : Bool} (S : Sim K T r Z s H) (e : intsOf xs = some (n :: ns)) (c : Con K Z H v (if L = true then .lst xs else .tup xs))
    (h : Q (.int (ns.foldl g n)) H) : rMaxI K g [v] H Q := by
  cases L with
  | true =>
    obtain ⟨a, vs, rfl, q, rr⟩ := c
    have w := rep_ints rr e
    subst w
    exact ⟨a, n, ns, rfl, .inl (.inl (.inl q)), h⟩
  | false =>
    obtain ⟨a, vs, rfl, q, rr⟩ := c
    have w := rep_ints rr e
    subst w
    exact ⟨a, n, ns, rfl, .inr (same_sqT S.sub q), h⟩
def mmD (g2 : Int → Int → Int) (g : Int → Int → Int) : List D → Option RV
  | [.int i, .int j] => some (.val (.int (g2 i j)))
  | [.lst xs] => match intsOf xs with
    | some (n :: ns) => some (.val (.int (ns.foldl g n)))
    | _ => none
  | [.tup xs] => match intsOf xs with
    | some (n :: ns) => some (.val (.int (ns.foldl g n)))
    | _ => none
  | _ => none
def rMM (K : Fr) (g2 g : Int → Int → Int) : List V → Hp → VK → Prop := fun xs H Q => (∃ i j, xs = [.int i, .int j] ∧ Q (.int (g2 i j)) H) ∨ rMaxI K g xs H Q
theorem fn_mm {g2 g : Int → Int → Int} : FnOkD X.K T W (mmD g2 g) (rMM X.K g2 g) := by
  intro s r Z H vs ds x Q S c q h
  match ds, c, q with
  | [.int i, .int j], c, q =>
    cases q
    obtain ⟨v, w, e1, c1, c2⟩ := c.two
    obtain rfl : v = .int i := c1
    obtain rfl : w = .int j := c2
    exact .inl ⟨i, j, e1, ends S h rfl⟩
  | [.lst xs], c, q =>
    obtain ⟨v, e1, c1⟩ := c.one
    subst e1
    have q : (match intsOf xs with | some (n :: ns) => some (RV.val (.int (ns.foldl g n))) | _ => none) = some x := q
    split at q
    · rename_i n ns e
      cases q
      exact .inr (rMax_ok (L := true) S e c1 (ends S h rfl))
    · cases q
  | [.tup xs], c, q =>
    obtain ⟨v, e1, c1⟩ := c.one
    subst e1
    have q : (match intsOf xs with | some (n :: ns) => some (RV.val (.int (ns.foldl g n))) | _ => none) = some x := q
    split at q
    · rename_i n ns e
      cases q
      exact .inr (rMax_ok (L := false) S e c1 (ends S h rfl))
    · cases q
def maxD : List D → Option RV := mmD (fun i j => if j > i then j else i) max
def minD : List D → Option RV := mmD (fun i j => if j < i then j else i) min
end
end Ev
namespace Ev
open PySem PySem.Spec PyProof.Rows L2

/-! ### statements -/
inductive SRes where
  | nx (r : Env) | rt (x : RV) (r : Env) | bk (r : Env) | ct (r : Env) | exc (e : Ex) (r : Env) | stuck
abbrev DenS := Env → SRes
def RtOk (K : Fr) (T : An) (Z H : Hp) (v : V) : RV → Prop
  | .val d => Rep K Z d v
  | .own d => ∃ a, v = .ref a ∧ Root K Z H a d ∧ T.H0 a = none
  | .bor _ => False
section
variable (K : Fr) (T : An) (W : WX)
def tGS (x : SRes) (Z : Hp) (D : Ends) : Prop := match x with
  | .nx r' => ∀ s' H' Z', Sim K T r' Z' s' H' → Same Z Z' → D.nx s' H'
  | .bk r' => ∀ s' H' Z', Sim K T r' Z' s' H' → Same Z Z' → D.bk s' H'
  | .ct r' => ∀ s' H' Z', Sim K T r' Z' s' H' → Same Z Z' → D.ct s' H'
  | .rt x r' => ∀ v s' H' Z', Sim K T r' Z' s' H' → Same Z Z' → RtOk K T Z' H' v x → D.rt v H'
  | .exc e r' => ∀ cls d s' H' Z', Sim K T r' Z' s' H' → Same Z Z' → ExOk K Z' cls d e → W cls d s' H'
  | .stuck => False
def tS (f : DenS) : TS := fun D s H => ∃ r Z, Sim K T r Z s H ∧ tGS K T W (f r) Z D
end
/-- what an expression leaves, as a statement's end -/
def Res.then {α : Type} (x : Res α) (k : α → Env → SRes) : SRes := match x with
  | .ok a r => k a r
  | .exc e r => .exc e r
  | .stuck => .stuck
def sNx : DenS := fun r => .nx r
def sSeq (f g : DenS) : DenS := fun r => match f r with
  | .nx r1 => g r1
  | x => x
def sBk : DenS := fun r => .bk r
def sCt : DenS := fun r => .ct r
def sDrop (f : Den) : DenS := fun r => (f r).then fun _ r1 => .nx r1
def sRet (f : Den) : DenS := fun r => (f r).then fun x r1 => match x with
  | .bor i => (match r1[i]? with
    | some (.own d) => .rt (.own d) (r1.set i .un)
    | _ => .stuck)
  | y => .rt y r1
def sRetN : DenS := fun r => .rt (.val .non) r
def sIf (c : DenB) (f g : DenS) : DenS := fun r => (c r).then fun b r1 => if b = true then f r1 else g r1
def noIno (r : Env) (i : Nat) : Bool := match r[i]? with
  | some (.ino _) => false
  | _ => true
/-- x = e: a new thing is the name's own -/
def setRes (i : Nat) (r1 : Env) : RV → SRes
  | .val d => .nx (r1.set i (.val d))
  | .own d => .nx (r1.set i (.own d))
  | .bor _ => .stuck
def sSet (i : Nat) (f : Den) : DenS := fun r => (f r).then fun x r1 => if noIno r1 i = true then setRes i r1 x else .stuck
/-- x = e: a new thing becomes fixed -/
def sFix (i : Nat) (f : Den) : DenS := sSet i fun r => fz (f r)
/-- what name i owns becomes fixed -/
def sFrz (i : Nat) : DenS := fun r => match r[i]? with
  | some (.own d) => .nx (r.set i (.val d))
  | _ => .nx r

section
variable {K : Fr} {T : An} {W : WX} {s : St} {r r1 : Env} {Z Z1 H H1 : Hp} {En : Ends}
theorem Same.tr {a b c : Hp} (x : Same a b) (y : Same b c) : Same a c := fun p o e => y p o (x p o e)
theorem tGS.from {x : SRes} (k : Same Z Z1) (h : tGS K T W x Z En) : tGS K T W x Z1 En := by
  cases x with
  | nx r' => exact fun s' H' Z' S q => h s' H' Z' S (Same.tr k q)
  | bk r' => exact fun s' H' Z' S q => h s' H' Z' S (Same.tr k q)
  | ct r' => exact fun s' H' Z' S q => h s' H' Z' S (Same.tr k q)
  | rt x r' => exact fun v s' H' Z' S q => h v s' H' Z' S (Same.tr k q)
  | exc e r' => exact fun c d s' H' Z' S q => h c d s' H' Z' S (Same.tr k q)
  | stuck => exact h
theorem tG.stm {α β : Type} {Rel : Hp → Env → Hp → Hp → β → α → Prop} {x : Res α} {k : α → Env → SRes} (S : Sim K T r Z s H) (h : tGS K T W (x.then k) Z En) :
    tG K T W Rel s x r Z H fun b H1 => ∃ a r1 Z1, Sim K T r1 Z1 s H1 ∧ Kin r r1 ∧ Frm r s H Z H1 Z1 ∧ Rel H r1 Z1 H1 b a ∧ tGS K T W (k a r1) Z1 En := by
  cases x with
  | ok a r1 => exact fun b H1 Z1 S1 k1 f1 o1 => ⟨a, r1, Z1, S1, k1, f1, o1, h.from (f1.same S)⟩
  | exc e r' => exact fun c d H' Z' S' k' f' q => h c d s H' Z' S' (f'.same S) q
  | stuck => exact h
theorem tS_nx (h : tS K T W sNx En s H) : tNext En s H := by
  obtain ⟨r, Z, S, h⟩ := h
  exact h s H Z S (Same.refl _)
theorem tS_seq {f g : DenS} (h : tS K T W (sSeq f g) En s H) : tSeq (tS K T W f) (tS K T W g) En s H := by
  obtain ⟨r, Z, S, h⟩ := h
  refine ⟨r, Z, S, ?_⟩
  unfold sSeq at h
  cases q : f r with
  | nx r1 =>
    rw [q] at h
    exact fun s' H' Z' S' k => ⟨r1, Z', S', h.from k⟩
  | bk r1 => rw [q] at h; exact h
  | ct r1 => rw [q] at h; exact h
  | rt x r1 => rw [q] at h; exact h
  | exc e r1 => rw [q] at h; exact h
  | stuck => rw [q] at h; exact h
/-! slots set -/
theorem get_set {α : Type} {l : List α} {i j : Nat} {x y : α} (h : (l.set i x)[j]? = some y) : (j = i ∧ y = x ∧ i < l.length) ∨ (j ≠ i ∧ l[j]? = some y) := by
  rw [List.getElem?_set] at h
  by_cases e : i = j
  · rw [if_pos e] at h
    subst e
    by_cases l : i < l.length
    · rw [if_pos l] at h
      cases h
      exact .inl ⟨rfl, rfl, l⟩
    · rw [if_neg l] at h
      cases h
  · rw [if_neg e] at h
    exact .inr ⟨fun z => e z.symm, h⟩
theorem set_here {α : Type} {l : List α} {i : Nat} {x : α} (h : i < l.length) : (l.set i x)[i]? = some x := by
  rw [List.getElem?_set, if_pos rfl, if_pos h]
theorem set_there {α : Type} {l : List α} {i j : Nat} {x : α} (h : j ≠ i) : (l.set i x)[j]? = l[j]? := by
  rw [List.getElem?_set, if_neg (fun z => h z.symm)]
theorem own_back {sl : Slot} {i j : Nat} {u : Option V} {a : Addr} (h : OwnAt (r.set i sl) (s.set i u) j a) : (j = i ∧ i < r.length ∧ ∃ d, sl = .own d ∨ sl = .ino d) ∨ (j ≠ i ∧ OwnAt r s j a) := by
  obtain ⟨d, hd, e⟩ := h
  rcases hd with hd | hd
  · rcases get_set hd with ⟨e1, e2, e3⟩ | ⟨e1, e2⟩
    · exact .inl ⟨e1, e3, d, .inl e2.symm⟩
    · rw [set_there e1] at e
      exact .inr ⟨e1, d, .inl e2, e⟩
  · rcases get_set hd with ⟨e1, e2, e3⟩ | ⟨e1, e2⟩
    · exact .inl ⟨e1, e3, d, .inr e2.symm⟩
    · rw [set_there e1] at e
      exact .inr ⟨e1, d, .inr e2, e⟩
/-- a slot set to what owns nothing -/
theorem Sim.setVal {i : Nat} {d : D} {v : V} (S : Sim K T r Z s H) (h : Rep K Z d v) : Sim K T (r.set i (.val d)) Z (s.set i (some v)) H := by
  have ow : ∀ {j : Nat} {a : Addr}, OwnAt (r.set i (.val d)) (s.set i (some v)) j a → OwnAt r s j a := fun {j a} w => by
    rcases own_back w with ⟨_, _, d', e | e⟩ | ⟨_, w⟩
    · cases e
    · cases e
    · exact w
  refine ⟨by rw [List.length_set, List.length_set]; exact S.len, S.sub, fun j e q => ?_, fun j e q => ?_, fun j e q => ?_, fun j l a x y => S.inj j l a (ow x) (ow y), S.keep, S.zed, S.base, S.live, S.inA, fun j q => ?_⟩
  rotate_right
  · rcases get_set q with ⟨e1, e2, e3⟩ | ⟨e1, e2⟩
    · cases e2
    · rw [set_there e1]
      exact S.err j e2
  · rcases get_set q with ⟨e1, e2, e3⟩ | ⟨e1, e2⟩
    · cases e2
      subst e1
      exact ⟨v, set_here (by rw [← S.len]; exact e3), h⟩
    · rw [set_there e1]
      exact S.val j e e2
  · rcases get_set q with ⟨e1, e2, e3⟩ | ⟨e1, e2⟩
    · cases e2
    · rw [set_there e1]
      exact S.own j e e2
  · rcases get_set q with ⟨e1, e2, e3⟩ | ⟨e1, e2⟩
    · cases e2
    · rw [set_there e1]
      exact S.ino j e e2
theorem Sim.setOwn {i : Nat} {d : D} {a : Addr} (S : Sim K T r Z s H) (q : Root K Z H a d) (h0 : T.H0 a = none) (n : ∀ i, ¬ OwnAt r s i a) : Sim K T (r.set i (.own d)) Z (s.set i (some (.ref a))) H := by
  have ow : ∀ {j : Nat} {b : Addr}, OwnAt (r.set i (.own d)) (s.set i (some (.ref a))) j b → (j = i ∧ b = a) ∨ (j ≠ i ∧ OwnAt r s j b) := fun {j b} w => by
    rcases own_back w with ⟨e1, e2, _⟩ | w
    · subst e1
      obtain ⟨_, _, e⟩ := w
      rw [set_here (by rw [← S.len]; exact e2)] at e
      cases e
      exact .inl ⟨rfl, rfl⟩
    · exact .inr w
  refine ⟨by rw [List.length_set, List.length_set]; exact S.len, S.sub, fun j e q => ?_, fun j e q => ?_, fun j e q => ?_, fun j l b x y => ?_, S.keep, S.zed, S.base, S.live, S.inA, fun j q => ?_⟩
  rotate_right
  · rcases get_set q with ⟨e1, e2, e3⟩ | ⟨e1, e2⟩
    · cases e2
    · rw [set_there e1]
      exact S.err j e2
  · rcases get_set q with ⟨e1, e2, e3⟩ | ⟨e1, e2⟩
    · cases e2
    · rw [set_there e1]
      exact S.val j e e2
  · rcases get_set q with ⟨e1, e2, e3⟩ | ⟨e1, e2⟩
    · cases e2
      subst e1
      exact ⟨a, set_here (by rw [← S.len]; exact e3), by assumption, h0⟩
    · rw [set_there e1]
      exact S.own j e e2
  · rcases get_set q with ⟨e1, e2, e3⟩ | ⟨e1, e2⟩
    · cases e2
    · rw [set_there e1]
      exact S.ino j e e2
  · rcases ow x with ⟨e1, e2⟩ | ⟨e1, e2⟩
    · rcases ow y with ⟨e3, e4⟩ | ⟨e3, e4⟩
      · rw [e1, e3]
      · exact absurd (by rw [← e2]; exact e4) (n l)
    · rcases ow y with ⟨e3, e4⟩ | ⟨e3, e4⟩
      · exact absurd (by rw [← e4]; exact e2) (n j)
      · exact S.inj j l b e2 e4
theorem Sim.unset {i : Nat} (S : Sim K T r Z s H) : Sim K T (r.set i .un) Z s H := by
  have ow : ∀ {j : Nat} {a : Addr}, OwnAt (r.set i .un) s j a → OwnAt r s j a := fun {j a} w => by
    obtain ⟨d, hd, e⟩ := w
    rcases hd with hd | hd
    · rcases get_set hd with ⟨_, e2, _⟩ | ⟨_, e2⟩
      · cases e2
      · exact ⟨d, .inl e2, e⟩
    · rcases get_set hd with ⟨_, e2, _⟩ | ⟨_, e2⟩
      · cases e2
      · exact ⟨d, .inr e2, e⟩
  refine ⟨by rw [List.length_set]; exact S.len, S.sub, fun j e q => ?_, fun j e q => ?_, fun j e q => ?_, fun j l a x y => S.inj j l a (ow x) (ow y), S.keep, S.zed, S.base, S.live, S.inA, fun j q => ?_⟩
  rotate_right
  · rcases get_set q with ⟨e1, e2, e3⟩ | ⟨e1, e2⟩
    · cases e2
    · exact S.err j e2
  · rcases get_set q with ⟨e1, e2, e3⟩ | ⟨e1, e2⟩
    · cases e2
    · exact S.val j e e2
  · rcases get_set q with ⟨e1, e2, e3⟩ | ⟨e1, e2⟩
    · cases e2
    · exact S.own j e e2
  · rcases get_set q with ⟨e1, e2, e3⟩ | ⟨e1, e2⟩
    · cases e2
    · exact S.ino j e e2
theorem list_set_same {α : Type} {l : List α} {i : Nat} {x : α} (h : l[i]? = some x) : l.set i x = l := by
  apply List.ext_getElem?
  intro j
  by_cases e : j = i
  · subst e
    have hl : j < l.length := by
      rcases Nat.lt_or_ge j l.length with z | z
      · exact z
      · rw [List.getElem?_eq_none z] at h; cases h
    rw [set_here hl, h]
  · rw [set_there e]
theorem Sim.frz {i : Nat} {d : D} (S : Sim K T r Z s H) (e : r[i]? = some (.own d)) : ∃ a o, s[i]? = some (some (.ref a)) ∧ Z a = none ∧ Sim K T (r.set i (.val d)) (upd Z a o) s H ∧ Rep K (upd Z a o) d (.ref a) := by
  obtain ⟨a, e1, q, h0⟩ := S.own i d e
  have S1 : Sim K T (r.set i .un) Z s H := S.unset
  have ow : ∀ j, ¬ OwnAt (r.set i .un) s j a := fun j w => by
    obtain ⟨d', hd, e'⟩ := w
    have w2 : j ≠ i ∧ OwnAt r s j a := by
      rcases hd with hd | hd
      · rcases get_set hd with ⟨_, e2, _⟩ | ⟨e3, e2⟩
        · cases e2
        · exact ⟨e3, d', .inl e2, e'⟩
      · rcases get_set hd with ⟨_, e2, _⟩ | ⟨e3, e2⟩
        · cases e2
        · exact ⟨e3, d', .inr e2, e'⟩
    exact w2.1 (S.inj j i a w2.2 ⟨d, .inl e, e1⟩)
  obtain ⟨o, ho, S2, rep⟩ := rep_root S1 q h0 ow
  refine ⟨a, o, e1, q.z, ?_, rep⟩
  have S3 := S2.setVal (i := i) rep
  rw [List.set_set] at S3
  rw [list_set_same e1] at S3
  exact S3
end

/-! ### rules of statements -/
section
variable {X : Cx} {T : An} {W : WX} {a : Expr} {f : Den} {c : DenB} {g h : DenS} {st : Stmt} {sts us : List Stmt} {pos : Pos} {e : Expr}
theorem ds_nil : PSs X [] (tS X.K T W sNx) := pss_nil.less fun _ _ _ h => tS_nx h
theorem ds_cons (h1 : PS X st (tS X.K T W g)) (h2 : PSs X sts (tS X.K T W h)) : PSs X (st :: sts) (tS X.K T W (sSeq g h)) := (pss_cons h1 h2).less fun _ _ _ h => tS_seq h
theorem ds_one (h1 : PS X st (tS X.K T W g)) : PSs X [st] (tS X.K T W g) := pss_one h1
theorem ds_pass : PS X (.Pass pos) (tS X.K T W sNx) := ps_pass.less fun _ _ _ h => tS_nx h
theorem ds_doc {x j pos pos'} : PS X (.Expr (.Constant (.str x) j pos) pos') (tS X.K T W sNx) := ps_doc.less fun _ _ _ h => tS_nx h
theorem ds_break : PS X (.Break pos) (tS X.K T W sBk) := ps_break.less fun _ s H h => by
  obtain ⟨r, Z, S, h⟩ := h
  exact h s H Z S (Same.refl _)
theorem ds_cont : PS X (.Continue pos) (tS X.K T W sCt) := ps_continue.less fun _ s H h => by
  obtain ⟨r, Z, S, h⟩ := h
  exact h s H Z S (Same.refl _)
theorem ds_expr (he : PE X e (tE X.K T W f)) (hs : swapsWith e none pos.line X.env = pure false) : PS X (.Expr e pos) (tS X.K T W (sDrop f)) := (ps_expr he hs).less fun D s H h => by
  obtain ⟨r, Z, S, h⟩ := h
  refine ⟨r, Z, S, (tG.stm S h).mono fun v H1 h1 => ?_⟩
  obtain ⟨x, r1, Z1, S1, k1, f1, o1, h1⟩ := h1
  exact h1 s H1 Z1 S1 (Same.refl _)
theorem ds_ret (he : PE X e (tE X.K T W f)) : PS X (.Return (some e) pos) (tS X.K T W (sRet f)) := (ps_ret he).less fun D s H h => by
  obtain ⟨r, Z, S, h⟩ := h
  refine ⟨r, Z, S, (tG.stm S h).mono fun v H1 h1 => ?_⟩
  obtain ⟨x, r1, Z1, S1, k1, f1, o1, h1⟩ := h1
  cases x with
  | val d => exact h1 v s H1 Z1 S1 (Same.refl _) o1
  | own d =>
    obtain ⟨p, e1, q1, q2, q3, q4⟩ := o1
    exact h1 v s H1 Z1 S1 (Same.refl _) ⟨p, e1, q1, q2⟩
  | bor i =>
    obtain ⟨p, e1, d', hd, e2⟩ := o1
    subst e1
    have h1 : tGS X.K T W (match r1[i]? with | some (.own d) => .rt (.own d) (r1.set i .un) | _ => .stuck) Z1 D := h1
    rcases hd with hd | hd
    · rw [hd] at h1
      obtain ⟨p', e3, q, h0⟩ := S1.own i d' hd
      rw [e2] at e3; cases e3
      exact h1 _ s H1 Z1 S1.unset (Same.refl _) ⟨p, rfl, q, h0⟩
    · rw [hd] at h1
      exact h1.elim
theorem ds_retN : PS X (.Return none pos) (tS X.K T W sRetN) := ps_retN.less fun D s H h => by
  obtain ⟨r, Z, S, h⟩ := h
  exact h .non s H Z S (Same.refl _) rfl
theorem ds_if {t : Expr} {A B : List Stmt} (hc : PT X t (tT X.K T W c)) (ha : PSs X A (tS X.K T W g)) (hb : PSs X B (tS X.K T W h)) : PS X (.If t A B pos) (tS X.K T W (sIf c g h)) := (ps_if hc ha hb).less fun D s H h => by
  obtain ⟨r, Z, S, h⟩ := h
  refine ⟨r, Z, S, (tG.stm S h).mono fun b H1 h1 => ?_⟩
  obtain ⟨x, r1, Z1, S1, k1, f1, o1, h1⟩ := h1
  have o1 : b = x := o1
  subst o1
  cases b with
  | true => exact ⟨r1, Z1, S1, h1⟩
  | false => exact ⟨r1, Z1, S1, h1⟩
theorem tS_set {K : Fr} {i : Nat} {D : Ends} {s : St} {H : Hp} (q : tS K T W (sSet i f) D s H) : tAsg (tE K T W f) (gName i) D s H := by
  obtain ⟨r, Z, S, q⟩ := q
  refine ⟨r, Z, S, (tG.stm S q).mono fun v H1 h1 => ?_⟩
  obtain ⟨x, r1, Z1, S1, k1, f1, o1, h1⟩ := h1
  have h1 : tGS K T W (if noIno r1 i = true then setRes i r1 x else .stuck) Z1 D := h1
  by_cases hn : noIno r1 i = true
  · rw [if_pos hn] at h1
    cases x with
    | val d => exact h1 _ H1 Z1 (S1.setVal o1) (Same.refl _)
    | own d =>
      obtain ⟨p, e1, q1, q2, q3, q4⟩ := o1
      subst e1
      exact h1 _ H1 Z1 (S1.setOwn q1 q2 q3) (Same.refl _)
    | bor i => exact h1.elim
  · rw [if_neg hn] at h1
    exact h1.elim
theorem ds_set {i : Nat} {x : Str} {pos' : Pos} (hN : X.N.Nodup) (hi : X.N[i]? = some x) (hx : Loc X.env.scope x) (he : PE X e (tE X.K T W f)) (hs : swapsWith e (some (.Name x pos')) pos.line X.env = pure false) (hf : X.fn x = true ∨ X.env.scope.names.lookup x = some .local) :
    PS X (.Assign [.Name x pos'] e pos) (tS X.K T W (sSet i f)) := (ps_set hN hi hx he hs hf).less fun _ _ _ q => tS_set q
theorem tE_fz {K : Fr} {s : St} {H : Hp} {Q : VK} (h : tE K T W (fun r => fz (f r)) s H Q) : tE K T W f s H Q := by
  refine tO_E ?_
  obtain ⟨r, Z, S, h⟩ := h
  refine ⟨r, Z, S, ?_⟩
  have h : tG K T W (RelE K T s) s (fz (f r)) r Z H Q := h
  cases e : fz (f r) with
  | ok x r' =>
    rw [e] at h
    exact fun v H' Z' S' k f' o => h v H' Z' S' k f' (by
      cases x with
      | val d => exact o.1
      | own d => exact absurd o.2 (by simp [isFix])
      | bor i => exact o.1)
  | exc e' r' => rw [e] at h; exact h
  | stuck => rw [e] at h; exact h
theorem de_fz {K : Fr} (he : PE X e (tE K T W f)) : PE X e (tE K T W fun r => fz (f r)) := he.less fun _ _ _ q => tE_fz q
theorem ds_fix {i : Nat} {x : Str} {pos' : Pos} (hN : X.N.Nodup) (hi : X.N[i]? = some x) (hx : Loc X.env.scope x) (he : PE X e (tE X.K T W f)) (hs : swapsWith e (some (.Name x pos')) pos.line X.env = pure false) (hf : X.fn x = true ∨ X.env.scope.names.lookup x = some .local) :
    PS X (.Assign [.Name x pos'] e pos) (tS X.K T W (sFix i f)) := ds_set hN hi hx (de_fz he) hs hf
theorem tS_frz {K : Fr} {i : Nat} {D : Ends} {s : St} {H : Hp} (q : tS K T W (sSeq (sFrz i) g) D s H) : tS K T W g D s H := by
  obtain ⟨r, Z, S, q⟩ := q
  unfold sSeq sFrz at q
  cases e : r[i]? with
  | none => rw [e] at q; exact ⟨r, Z, S, q⟩
  | some sl =>
    rw [e] at q
    cases sl with
    | own d =>
      obtain ⟨p, o, _, hz, S2, _⟩ := S.frz e
      exact ⟨_, _, S2, q.from (same_updZ hz)⟩
    | un => exact ⟨r, Z, S, q⟩
    | err => exact ⟨r, Z, S, q⟩
    | val d => exact ⟨r, Z, S, q⟩
    | ino d => exact ⟨r, Z, S, q⟩
theorem ds_frz {i : Nat} (hs : PS X st (tS X.K T W g)) : PS X st (tS X.K T W (sSeq (sFrz i) g)) := hs.less fun _ _ _ q => tS_frz q
end
end Ev
namespace Ev
open PySem PySem.Spec PyProof.Rows L2

/-! ### targets -/
abbrev DenG := D → Env → Option Env
abbrev DenGs := List D → Env → Option Env
def gNm (i : Nat) : DenG := fun d r => if noIno r i = true then some (r.set i (.val d)) else none
def gsNil : DenGs := fun ds r => match ds with
  | [] => some r
  | _ :: _ => none
def gsCons (g : DenG) (u : DenGs) : DenGs := fun ds r => match ds with
  | [] => none
  | d :: t => (g d r).bind fun r1 => u t r1
def gTp (u : DenGs) : DenG := fun d r => match d with
  | .tup xs => u xs r
  | _ => none
section
variable (K : Fr) (T : An)
/-- but for the slots fp nothing is set -/
def Foot (fp : List Nat) (s s' : L2.St) : Prop := ∀ i, i ∉ fp → s'[i]? = s[i]?
theorem Foot.refl (fp : List Nat) (s : L2.St) : Foot fp s s := fun _ _ => rfl
theorem Foot.trans {fp : List Nat} {a b c : L2.St} (x : Foot fp a b) (y : Foot fp b c) : Foot fp a c := fun i h => (y i h).trans (x i h)
theorem Foot.set {fp : List Nat} {i : Nat} (h : i ∈ fp) (s : L2.St) (u : Option V) : Foot fp s (s.set i u) := fun j n => set_there fun e => n (by rw [e]; exact h)
def tGt (fp : List Nat) (g : DenG) : TG := fun v s H Q => ∃ r Z d, Sim K T r Z s H ∧ Rep K Z d v ∧ ∃ r', g d r = some r' ∧ ∀ s', Sim K T r' Z s' H → Foot fp s s' → Q s' H
def tGts (fp : List Nat) (g : DenGs) : TGs := fun vs s H Q => ∃ r Z ds, Sim K T r Z s H ∧ RepL K Z ds vs ∧ ∃ r', g ds r = some r' ∧ ∀ s', Sim K T r' Z s' H → Foot fp s s' → Q s' H
/-- a target sets those slots, to fixed data -/
def GFoot (fp : List Nat) (g : DenG) : Prop := ∀ d r r1, g d r = some r1 → r1.length = r.length ∧ (∀ i, i ∉ fp → r1[i]? = r[i]?) ∧ ∀ (i : Nat) (sl : Slot), r1[i]? = some sl → (∃ x, sl = .val x) ∨ r[i]? = some sl
def GsFoot (fp : List Nat) (g : DenGs) : Prop := ∀ d r r1, g d r = some r1 → r1.length = r.length ∧ (∀ i, i ∉ fp → r1[i]? = r[i]?) ∧ ∀ (i : Nat) (sl : Slot), r1[i]? = some sl → (∃ x, sl = .val x) ∨ r[i]? = some sl
end
theorem _root_.L2.PG.less {X : Cx} {e : Expr} {t t' : TG} (h : PG X e t) (k : ∀ v s H Q, t' v s H Q → t v s H Q) : PG X e t' := ⟨fun pins s σ H v u Q I r q => h.run pins s σ H v u Q I r (k _ _ _ _ q)⟩
theorem _root_.L2.PGs.less {X : Cx} {e : List Expr} {t t' : TGs} (h : PGs X e t) (k : ∀ v s H Q, t' v s H Q → t v s H Q) : PGs X e t' := ⟨fun pins s σ H v u Q I r q => h.run pins s σ H v u Q I r (k _ _ _ _ q)⟩
theorem _root_.L2.PI.less {X : Cx} {tg e : Expr} {t t' : TI} (h : PI X tg e t) (k : ∀ s H Q, t' s H Q → t s H Q) : PI X tg e t' := ⟨fun pins s σ H Q I q => h.run pins s σ H Q I (k _ _ _ q)⟩
section
variable {X : Cx} {T : An} {W : WX} {pos : Pos} {e : Expr} {es : List Expr} {g : DenG} {u : DenGs} {fp : List Nat}
theorem dg_nm {K : Fr} {i : Nat} {x : Str} (hm : i ∈ fp) (hN : X.N.Nodup) (hi : X.N[i]? = some x) (hx : Loc X.env.scope x) (hf : X.fn x = true ∨ X.env.scope.names.lookup x = some .local) : PG X (.Name x pos) (tGt K T fp (gNm i)) := (pg_name hN hi hx hf).less fun v s H Q h => by
  obtain ⟨r, Z, d, S, rep, r', e, q⟩ := h
  have e : (if noIno r i = true then some (r.set i (Slot.val d)) else none) = some r' := e
  by_cases hn : noIno r i = true
  · rw [if_pos hn] at e
    cases e
    exact q _ (S.setVal rep) (Foot.set hm _ _)
  · rw [if_neg hn] at e; cases e
theorem dgs_nil {K : Fr} : PGs X [] (tGts K T fp gsNil) := pgs_nil.less fun vs s H Q h => by
  obtain ⟨r, Z, ds, S, rep, r', e, q⟩ := h
  cases ds with
  | nil =>
    cases e
    exact ⟨rep, q _ S (Foot.refl _ _)⟩
  | cons d t => cases e
theorem dgs_cons {K : Fr} (h1 : PG X e (tGt K T fp g)) (h2 : PGs X es (tGts K T fp u)) (hs : (assignEach (e :: es) X.env).map (·.2) = assign e X.env :: (assignEach es X.env).map (·.2)) : PGs X (e :: es) (tGts K T fp (gsCons g u)) := (pgs_cons h1 h2 hs).less fun vs s H Q h => by
  obtain ⟨r, Z, ds, S, rep, r', e, q⟩ := h
  cases ds with
  | nil => cases e
  | cons d t =>
    obtain ⟨v, vr, rfl, p1, p2⟩ := rep
    have e : (g d r).bind (fun r1 => u t r1) = some r' := e
    cases w : g d r with
    | none => rw [w] at e; cases e
    | some r1 =>
      rw [w] at e
      exact ⟨v, vr, rfl, r, Z, d, S, p1, r1, w, fun s' S' f1 => ⟨r1, Z, t, S', p2, r', e, fun s2 S2 f2 => q s2 S2 (f1.trans f2)⟩⟩
/-- how many names a target list has -/
def gsLen (n : Nat) (u : DenGs) : DenGs := fun ds r => if ds.length = n then u ds r else none
theorem dg_tup {k n : Nat} (hc : X.calm = true) (h : PGs X es (tGts X.K T fp u)) (hn : (assignEach es X.env).length = n) (hst : (assignEach es X.env).findIdx? (·.1) = none) : PG X (.Tuple es k pos) (tGt X.K T fp (gTp (gsLen n u))) :=
  (pg_tup hc h hn hst).less fun v s H Q h => by
    obtain ⟨r, Z, d, S, rep, r', e, q⟩ := h
    cases d with
    | tup xs =>
      obtain ⟨a, vs, rfl, c, rr⟩ := rep
      have e : (if xs.length = n then u xs r else none) = some r' := e
      by_cases hl : xs.length = n
      · rw [if_pos hl] at e
        exact ⟨a, vs, rfl, same_sqT S.sub c, by rw [rr.length]; exact hl, r, Z, xs, S, rr, r', e, q⟩
      · rw [if_neg hl] at e; cases e
    | _ => cases e
theorem foot_nm {i : Nat} (h : i ∈ fp) : GFoot fp (gNm i) := fun d r r1 e => by
  have e : (if noIno r i = true then some (r.set i (Slot.val d)) else none) = some r1 := e
  by_cases hn : noIno r i = true
  · rw [if_pos hn] at e
    cases e
    refine ⟨List.length_set, fun j n => set_there fun z => n (by rw [z]; exact h), fun j sl q => ?_⟩
    rcases get_set q with ⟨_, e2, _⟩ | ⟨_, e2⟩
    · exact .inl ⟨d, e2⟩
    · exact .inr e2
  · rw [if_neg hn] at e; cases e
theorem foot_nil : GsFoot fp gsNil := fun d r r1 e => by
  cases d with
  | nil => cases e; exact ⟨rfl, fun _ _ => rfl, fun _ _ q => .inr q⟩
  | cons _ _ => cases e
theorem foot_cons (h1 : GFoot fp g) (h2 : GsFoot fp u) : GsFoot fp (gsCons g u) := fun ds r r1 e => by
  cases ds with
  | nil => cases e
  | cons d t =>
    have e : (g d r).bind (fun r1 => u t r1) = some r1 := e
    cases w : g d r with
    | none => rw [w] at e; cases e
    | some r2 =>
      rw [w] at e
      obtain ⟨a1, a2, a3⟩ := h1 d r r2 w
      obtain ⟨b1, b2, b3⟩ := h2 t r2 r1 e
      refine ⟨b1.trans a1, fun i n => (b2 i n).trans (a2 i n), fun i sl q => ?_⟩
      rcases b3 i sl q with z | z
      · exact .inl z
      · exact a3 i sl z
theorem foot_tup {n : Nat} (h : GsFoot fp u) : GFoot fp (gTp (gsLen n u)) := fun d r r1 e => by
  cases d with
  | tup xs =>
    have e : (if xs.length = n then u xs r else none) = some r1 := e
    by_cases hl : xs.length = n
    · rw [if_pos hl] at e
      exact h xs r r1 e
    · rw [if_neg hl] at e; cases e
  | _ => cases e
/-! t1, t2, .. = e -/
def sAsg (g : DenG) (f : Den) : DenS := fun r => (fz (f r)).then fun x r1 => match take x with
  | some d => (match g d r1 with
    | some r2 => .nx r2
    | none => .stuck)
  | none => .stuck
theorem ds_asg {tg : Expr} {f : Den} (he : PE X e (tE X.K T W f)) (hg : PG X tg (tGt X.K T fp g)) (hs : swapsWithSole [tg] e pos.line X.env = pure false) (hw : swappedStores [tg] e X.env = pure none)
    (h1 : (assignEach [tg] X.env).map (·.2) = [assign tg X.env]) : PS X (.Assign [tg] e pos) (tS X.K T W (sAsg g f)) := (ps_asg (pe_fz he) hg hs hw h1).less fun D s H h => by
  obtain ⟨r, Z, S, h⟩ := h
  refine ⟨r, Z, S, (tG.stm S h).mono fun v H1 h1 => ?_⟩
  obtain ⟨x, r1, Z1, S1, k1, f1, o1, h1⟩ := h1
  cases p : take x with
  | none => rw [p] at h1; exact h1.elim
  | some d =>
    rw [p] at h1
    cases q : g d r1 with
    | none =>
      have h1 : tGS X.K T W (match g d r1 with | some r2 => .nx r2 | none => .stuck) Z1 D := h1
      rw [q] at h1; exact h1.elim
    | some r2 =>
      have h1 : tGS X.K T W (match g d r1 with | some r2 => .nx r2 | none => .stuck) Z1 D := h1
      rw [q] at h1
      exact ⟨r1, Z1, d, S1, o1.rep p, r2, q, fun s' S' _ => h1 s' H1 Z1 S' (Same.refl _)⟩
end

/-! ### what a loop walks -/
abbrev DenI := Env → Res (List D)
structure SrcOk (K : Fr) (T : An) (J : It) (items : List D) (Z0 : Hp) : Prop where
  goes : ∀ i r Z s H, i < items.length → Sim K T r Z s H → Same Z0 Z → J.go i H
  stops : ∀ r Z s H, Sim K T r Z s H → Same Z0 Z → J.stop items.length H
  yields : ∀ i r Z s H d x H', items[i]? = some d → Sim K T r Z s H → Same Z0 Z → J.yld i H x H' → ∃ Z', Sim K T r Z' s H' ∧ Frm r s H Z H' Z' ∧ Rep K Z' d x
def RelI (K : Fr) (T : An) : Hp → Env → Hp → Hp → It → List D → Prop := fun _ _ Z _ J items => SrcOk K T J items Z
theorem fwdI {K : Fr} {T : An} : Fwd (RelI K T) := fun _ _ _ _ _ _ _ _ q => q
def tI (K : Fr) (T : An) (W : WX) (f : DenI) : TI := fun s H R => ∃ r Z, Sim K T r Z s H ∧ tG K T W (RelI K T) s (f r) r Z H R
def sFor1 (g : DenG) (b : DenS) : List D → DenS
  | [], r => .nx r
  | d :: t, r => match g d r with
    | none => .stuck
    | some r1 => match b r1 with
      | .nx r2 => sFor1 g b t r2
      | .ct r2 => sFor1 g b t r2
      | .bk r2 => .nx r2
      | x => x
def sFor (f : DenI) (g : DenG) (b : DenS) : DenS := fun r => (f r).then fun items r1 => sFor1 g b items r1
def sWh (c : DenB) (b : DenS) : Nat → DenS
  | 0, _ => .stuck
  | n + 1, r => (c r).then fun t r1 => if t = true then (match b r1 with
      | .nx r2 => sWh c b n r2
      | .ct r2 => sWh c b n r2
      | .bk r2 => .nx r2
      | x => x) else .nx r1
section
variable {K : Fr} {T : An} {W : WX} {s : St} {H : Hp} {En : Ends} {f : DenI} {g : DenG} {b : DenS} {c : DenB} {fp : List Nat}
theorem tS_for (h : tS K T W (sFor f g b) En s H) : tFor (tI K T W f) (tGt K T fp g) (tS K T W b) En s H := by
  obtain ⟨r, Z, S, h⟩ := h
  refine ⟨r, Z, S, (tG.stm S h).mono fun J H1 h1 => ?_⟩
  obtain ⟨items, r1, Z1, S1, k1, f1, o1, h1⟩ := h1
  have o1 : SrcOk K T J items Z1 := o1
  refine ⟨fun i m s H => m = items.length - i ∧ i ≤ items.length ∧ ∃ r Z, Sim K T r Z s H ∧ Same Z1 Z ∧ tGS K T W (sFor1 g b (items.drop i) r) Z En, ⟨items.length, rfl, Nat.zero_le _, r1, Z1, S1, Same.refl _, h1⟩, ?_⟩
  rintro i m s H ⟨rfl, hi, r, Z, S, k, h⟩
  by_cases hlt : i < items.length
  · refine .inr ⟨o1.goes i r Z s H hlt S k, fun s' H' => i + 1 ≤ items.length ∧ ∃ r Z, Sim K T r Z s' H' ∧ Same Z1 Z ∧ tGS K T W (sFor1 g b (items.drop (i + 1)) r) Z En, fun s' H' p => ⟨items.length - (i + 1), by omega, rfl, p.1, p.2⟩, fun x H' y => ?_⟩
    have hd : items.drop i = items[i] :: items.drop (i + 1) := List.drop_eq_getElem_cons hlt
    rw [hd] at h
    obtain ⟨Z', S', fr, rep⟩ := o1.yields i r Z s H items[i] x H' (by simp [hlt]) S k y
    have k' := fr.same S
    have h := h.from k'
    cases w : g items[i] r with
    | none =>
      unfold sFor1 at h
      rw [w] at h
      exact h.elim
    | some r2 =>
      unfold sFor1 at h
      rw [w] at h
      refine ⟨r, Z', items[i], S', rep, r2, w, fun s2 S2 _ => ⟨r2, Z', S2, ?_⟩⟩
      have h : tGS K T W (match b r2 with | .nx r2 => sFor1 g b (items.drop (i + 1)) r2 | .ct r2 => sFor1 g b (items.drop (i + 1)) r2 | .bk r2 => .nx r2 | x => x) Z' En := h
      cases q : b r2 with
      | nx r3 =>
        rw [q] at h
        exact fun s3 H3 Z3 S3 k3 => ⟨hlt, r3, Z3, S3, Same.tr (Same.tr k k') k3, h.from k3⟩
      | ct r3 =>
        rw [q] at h
        exact fun s3 H3 Z3 S3 k3 => ⟨hlt, r3, Z3, S3, Same.tr (Same.tr k k') k3, h.from k3⟩
      | bk r3 => rw [q] at h; exact h
      | rt x r3 => rw [q] at h; exact h
      | exc e r3 => rw [q] at h; exact h
      | stuck => rw [q] at h; exact h
  · have e : i = items.length := by omega
    subst e
    refine .inl ⟨o1.stops r Z s H S k, ?_⟩
    rw [List.drop_length] at h
    exact h s H Z S (Same.refl _)
theorem tS_wh {n : Nat} (h : tS K T W (sWh c b n) En s H) : tWhile (tT K T W c) (tS K T W b) En s H := by
  refine ⟨fun m s H => tS K T W (sWh c b m) En s H, ⟨n, h⟩, fun m s H h => ?_⟩
  obtain ⟨r, Z, S, h⟩ := h
  cases m with
  | zero => exact h.elim
  | succ m =>
    have h : tGS K T W ((c r).then fun t r1 => if t = true then (match b r1 with | .nx r2 => sWh c b m r2 | .ct r2 => sWh c b m r2 | .bk r2 => .nx r2 | x => x) else .nx r1) Z En := h
    refine ⟨r, Z, S, (tG.stm S h).mono fun t H1 h1 => ?_⟩
    obtain ⟨x, r1, Z1, S1, k1, f1, o1, h1⟩ := h1
    have o1 : t = x := o1
    subst o1
    cases t with
    | false => exact h1 s H1 Z1 S1 (Same.refl _)
    | true =>
      have h1 : tGS K T W (match b r1 with | .nx r2 => sWh c b m r2 | .ct r2 => sWh c b m r2 | .bk r2 => .nx r2 | x => x) Z1 En := h1
      refine ⟨fun s' H' => tS K T W (sWh c b m) En s' H', fun s' H' p => ⟨m, Nat.lt_succ_self _, p⟩, r1, Z1, S1, ?_⟩
      cases q : b r1 with
      | nx r3 =>
        rw [q] at h1
        exact fun s3 H3 Z3 S3 k3 => ⟨r3, Z3, S3, h1.from k3⟩
      | ct r3 =>
        rw [q] at h1
        exact fun s3 H3 Z3 S3 k3 => ⟨r3, Z3, S3, h1.from k3⟩
      | bk r3 => rw [q] at h1; exact h1
      | rt x r3 => rw [q] at h1; exact h1
      | exc e r3 => rw [q] at h1; exact h1
      | stuck => rw [q] at h1; exact h1
end
section
variable {X : Cx} {T : An} {W : WX} {pos : Pos} {tg iter e : Expr} {body : List Stmt} {f : DenI} {g : DenG} {b : DenS} {c : DenB} {fp : List Nat}
theorem ds_for (hp : PassesOwn (model X.prog X.w) X.A X.env X.xe) (hc : X.calm = true) (hi : PI X tg iter (tI X.K T W f)) (hg : PG X tg (tGt X.K T fp g)) (hb : PSs X body (tS X.K T W b)) (hs : ∀ x, foldedSetIterable iter X.env x = pure x) :
    PS X (.For tg iter body [] pos) (tS X.K T W (sFor f g b)) := (ps_for hp hc hi hg hb hs).less fun _ _ _ h => tS_for h
theorem ds_while {n : Nat} (hp : PassesOwn (model X.prog X.w) X.A X.env X.xe) (hc : PT X e (tT X.K T W c)) (hb : PSs X body (tS X.K T W b)) : PS X (.While e body [] pos) (tS X.K T W (sWh c b n)) := (ps_while hp hc hb).less fun _ _ _ h => tS_wh h
/-! sources -/
theorem src_val {K : Fr} {a : Addr} {vs : List V} {xs : List D} {Z : Hp} (h : Z a = some (.lst vs)) (rr : RepL K Z xs vs) : SrcOk K T (Itl K a) xs Z where
  goes := fun i r Z' s H hi S k => walk_list.goes i H (by rw [rr.length]; exact hi) (SqL.of (S.sub a _ (k a _ h)))
  stops := fun r Z' s H S k => by
    have := (walk_list (K := K) (a := a) (xs := vs)).stops H (SqL.of (S.sub a _ (k a _ h)))
    rw [rr.length] at this
    exact this
  yields := fun i r Z' s H d x H' hd S k y => by
    obtain ⟨v, hv, rv⟩ := rr.get hd
    have hl : i < vs.length := by
      rcases Nat.lt_or_ge i vs.length with z | z
      · exact z
      · rw [List.getElem?_eq_none z] at hv; cases hv
    obtain ⟨e1, e2⟩ := walk_list.yields i H x H' hl (SqL.of (S.sub a _ (k a _ h))) y
    rw [hv] at e2; cases e2
    subst e1
    exact ⟨Z', S, Frm.refl, rv.mono k⟩
theorem src_tup {K : Fr} {a : Addr} {vs : List V} {xs : List D} {Z : Hp} (h : SqT K Z a vs) (rr : RepL K Z xs vs) : SrcOk K T (Itt K a) xs Z where
  goes := fun i r Z' s H hi S k => walk_tup.goes i H (by rw [rr.length]; exact hi) (same_sqT S.sub (same_sqT k h))
  stops := fun r Z' s H S k => by
    have := (walk_tup (K := K) (a := a) (xs := vs)).stops H (same_sqT S.sub (same_sqT k h))
    rw [rr.length] at this
    exact this
  yields := fun i r Z' s H d x H' hd S k y => by
    obtain ⟨v, hv, rv⟩ := rr.get hd
    have hl : i < vs.length := by
      rcases Nat.lt_or_ge i vs.length with z | z
      · exact z
      · rw [List.getElem?_eq_none z] at hv; cases hv
    obtain ⟨e1, e2⟩ := walk_tup.yields i H x H' hl (same_sqT S.sub (same_sqT k h)) y
    rw [hv] at e2; cases e2
    subst e1
    exact ⟨Z', S, Frm.refl, rv.mono k⟩
theorem src_scr {K : Fr} {a : Addr} {ns : List Int} {Z : Hp} (h : SqL K Z a (ns.map V.int)) : SrcOk K T (Itl K a) (ns.map D.int) Z where
  goes := fun i r Z' s H hi S k => walk_list.goes i H (by rw [List.length_map] at hi ⊢; exact hi) (S.sub.seq (k.seq h))
  stops := fun r Z' s H S k => by
    have := (walk_list (K := K) (a := a) (xs := ns.map V.int)).stops H (S.sub.seq (k.seq h))
    rw [List.length_map] at this ⊢
    exact this
  yields := fun i r Z' s H d x H' hd S k y => by
    obtain ⟨v, hv, rv⟩ := (RepL.ints (K := K) (Z := Z') ns).get hd
    have hl : i < (ns.map V.int).length := by
      rcases Nat.lt_or_ge i (ns.map V.int).length with z | z
      · exact z
      · rw [List.getElem?_eq_none z] at hv; cases hv
    obtain ⟨e1, e2⟩ := walk_list.yields i H x H' hl (S.sub.seq (k.seq h)) y
    rw [hv] at e2; cases e2
    subst e1
    exact ⟨Z', S, Frm.refl, rv⟩
/-- a list or a tuple, whichever comes -/
def iSeq (K : Fr) (tl : TE) : TI := fun σ H R => tl σ H fun x H1 => ∃ a, x = .ref a ∧ (((∃ xs, SqL K H1 a xs) ∧ R (Itl K a) H1) ∨ ((∃ xs, SqT K H1 a xs) ∧ R (Itt K a) H1))
theorem pi_seq {l : Expr} {tl : TE} (hl : PE X l tl) : PI X tg l (iSeq X.K tl) := ⟨fun pins s σ H R I h => by
  refine thn (hl.run pins s σ H _ I h) fun v s1 q0 => ?_
  obtain ⟨x, H1, I1, r1, a, e, q1⟩ := q0
  subst e
  obtain rfl : v = Value.ref a := r1
  have new : ∀ o : Obj, Inv X pins σ H1 { s1 with heap := s1.heap.push o } := fun o => I1.kept (t' := s1.toks) fun b u z => Heap.get?_push_of_some _ z
  have fp : ∀ b ∈ [s1.heap.objs.size], FpOk X pins H1 b := fun b hb => by
    rw [List.mem_singleton] at hb
    rw [hb]
    exact I1.fpOk (Nat.le_refl _) (I1.hok.fresh (Nat.le_refl _))
  rcases q1 with ⟨⟨xs, hq⟩, q⟩ | ⟨⟨xs, hq⟩, q⟩
  · obtain ⟨its, rv, p, _⟩ := I1.list hq
    exact wpAny_pyIter_list p.isList ⟨_, [s1.heap.objs.size], _, _, H1, rfl, new _, turn_list a s1.heap.objs.size, ⟨_, Heap.get?_push_size _ rfl, rfl, rfl⟩, fp, q⟩
  · obtain ⟨its, rv, p, _⟩ := I1.tuple hq
    exact wpAny_pyIter_tuple (show s1.heap.IsTuple a its.toArray from p) ⟨_, [s1.heap.objs.size], _, _, H1, rfl, new _, turn_tuple a s1.heap.objs.size, ⟨_, Heap.get?_push_size _ rfl, rfl, rfl⟩, fp, q⟩⟩
def itemsD : D → Option (List D)
  | .lst xs => some xs
  | .tup xs => some xs
  | .scr ns => some (ns.map D.int)
  | _ => none
def iOf (f : Den) : DenI := fun r => (fz (f r)).bind fun x r1 => match take x with
  | some d => ofO (itemsD d) r1
  | none => .stuck
theorem di_of {f : Den} (he : PE X e (tE X.K T W f)) : PI X tg e (tI X.K T W (iOf f)) := (pi_seq (pe_fz he)).less fun s H R h => by
  obtain ⟨r, Z, S, h⟩ := h
  refine ⟨r, Z, S, (tG.bind fwdI h).mono fun v H1 h1 => ?_⟩
  obtain ⟨x, r1, Z1, S1, k1, f1, o1, h1⟩ := h1
  cases p : take x with
  | none => rw [p] at h1; exact h1.elim
  | some d =>
    rw [p] at h1
    have rep := o1.rep p
    have h1 : tG X.K T W (RelI X.K T) s (ofO (itemsD d) r1) r1 Z1 H1 R := h1
    cases d with
    | lst xs =>
      obtain ⟨a, vs, rfl, c, rr⟩ := rep
      exact ⟨a, rfl, .inl ⟨⟨vs, SqL.of (S1.sub _ _ c)⟩, h1 _ H1 Z1 S1 (Kin.refl _) Frm.refl (src_val c rr)⟩⟩
    | tup xs =>
      obtain ⟨a, vs, rfl, c, rr⟩ := rep
      exact ⟨a, rfl, .inr ⟨⟨vs, same_sqT S1.sub c⟩, h1 _ H1 Z1 S1 (Kin.refl _) Frm.refl (src_tup c rr)⟩⟩
    | scr ns =>
      obtain ⟨a, rfl, c⟩ := rep
      exact ⟨a, rfl, .inl ⟨⟨_, S1.sub.seq c⟩, h1 _ H1 Z1 S1 (Kin.refl _) Frm.refl (src_scr c)⟩⟩
    | _ => exact h1.elim
/-- lo, lo + 1, .. -/
def rangeD (lo hi : Int) : List D := (List.range (hi - lo).toNat).map fun k => D.int (lo + (k : Nat))
def big62 (i : Int) : Bool := decide (-(2 ^ 62) ≤ i) && decide (i < 2 ^ 62)
def range1D : List D → Option (List D)
  | [.int j] => if big62 j = true then some (rangeD 0 j) else none
  | _ => none
def range2D : List D → Option (List D)
  | [.int i, .int j] => if big62 i = true then (if big62 j = true then some (rangeD i j) else none) else none
  | _ => none
theorem big62_ok {i : Int} (h : big62 i = true) : -(2 ^ 62) ≤ i ∧ i < 2 ^ 62 := by
  unfold big62 at h
  rw [Bool.and_eq_true] at h
  exact ⟨of_decide_eq_true h.1, of_decide_eq_true h.2⟩
theorem src_range {K : Fr} {lo hi : Int} {Z : Hp} : SrcOk K T (Itr lo (hi - lo).toNat) (rangeD lo hi) Z where
  goes := fun i r Z' s H hl S k => by
    unfold rangeD at hl
    rw [List.length_map, List.length_range] at hl
    exact hl
  stops := fun r Z' s H S k => by
    unfold rangeD
    rw [List.length_map, List.length_range]
    exact Nat.le_refl _
  yields := fun i r Z' s H d x H' hd S k y => by
    obtain ⟨e1, e2⟩ := y
    subst e1
    subst e2
    refine ⟨Z', S, Frm.refl, ?_⟩
    unfold rangeD at hd
    rw [List.getElem?_map] at hd
    cases q : (List.range (hi - lo).toNat)[i]? with
    | none => rw [q] at hd; cases hd
    | some n =>
      rw [q] at hd
      cases hd
      have e : n = i := by
        have := List.getElem?_eq_some_iff.mp q
        obtain ⟨z, e⟩ := this
        rw [List.getElem_range] at e
        exact e.symm
      subst e
      rfl
def iFn (op : List D → Option (List D)) (l : DenL) : DenI := fun r => (l r).bind fun xs r1 => match peeks r1 xs with
  | some ds => ofO (op ds) r1
  | none => .stuck
theorem di_range1 {a : Expr} {l : DenL} {p : Pos} (hg : Gl X "range") (hm : X.mg "range" = none) (ha : PA X [a] (tL X.K T W l)) (hs : starEach [a] X.env = [(false, eval a X.env)]) :
    PI X tg (.Call (.Name "range" p) [a] [] pos) (tI X.K T W (iFn range1D l)) := (pi_range1 hg hm ha hs).less fun s H R h => by
  obtain ⟨r, Z, S, h⟩ := h
  refine ⟨r, Z, S, (tG.bind fwdI h).mono fun vs H1 h1 => ?_⟩
  obtain ⟨xs, r1, Z1, S1, k1, f1, o1, h1⟩ := h1
  cases e : peeks r1 xs with
  | none => rw [e] at h1; exact h1.elim
  | some ds =>
    rw [e] at h1
    have h1 : tG X.K T W (RelI X.K T) s (ofO (range1D ds) r1) r1 Z1 H1 R := h1
    have c := RvsOk.con o1 S1 e
    match ds, c, h1 with
    | [.int j], c, h1 =>
      obtain ⟨v, e1, c1⟩ := c.one
      obtain rfl : v = .int j := c1
      have h1 : tG X.K T W (RelI X.K T) s (ofO (if big62 j = true then some (rangeD 0 j) else none) r1) r1 Z1 H1 R := h1
      by_cases hb : big62 j = true
      · rw [if_pos hb] at h1
        obtain ⟨b1, b2⟩ := big62_ok hb
        refine ⟨j, e1, b1, b2, ?_⟩
        have := h1 (Itr 0 (j - 0).toNat) H1 Z1 S1 (Kin.refl _) Frm.refl src_range
        rw [Int.sub_zero] at this
        exact this
      · rw [if_neg hb] at h1; exact h1.elim
theorem di_range2 {a b : Expr} {l : DenL} {p : Pos} (hg : Gl X "range") (hm : X.mg "range" = none) (ha : PA X [a, b] (tL X.K T W l)) (hs : starEach [a, b] X.env = [(false, eval a X.env), (false, eval b X.env)]) (hs2 : starEach [b] X.env = [(false, eval b X.env)]) :
    PI X tg (.Call (.Name "range" p) [a, b] [] pos) (tI X.K T W (iFn range2D l)) := (pi_range2 hg hm ha hs hs2).less fun s H R h => by
  obtain ⟨r, Z, S, h⟩ := h
  refine ⟨r, Z, S, (tG.bind fwdI h).mono fun vs H1 h1 => ?_⟩
  obtain ⟨xs, r1, Z1, S1, k1, f1, o1, h1⟩ := h1
  cases e : peeks r1 xs with
  | none => rw [e] at h1; exact h1.elim
  | some ds =>
    rw [e] at h1
    have h1 : tG X.K T W (RelI X.K T) s (ofO (range2D ds) r1) r1 Z1 H1 R := h1
    have c := RvsOk.con o1 S1 e
    match ds, c, h1 with
    | [.int i, .int j], c, h1 =>
      obtain ⟨v, w, e1, c1, c2⟩ := c.two
      obtain rfl : v = .int i := c1
      obtain rfl : w = .int j := c2
      have h1 : tG X.K T W (RelI X.K T) s (ofO (if big62 i = true then (if big62 j = true then some (rangeD i j) else none) else none) r1) r1 Z1 H1 R := h1
      by_cases hb : big62 i = true
      · rw [if_pos hb] at h1
        by_cases hb2 : big62 j = true
        · rw [if_pos hb2] at h1
          obtain ⟨b1, b2⟩ := big62_ok hb
          obtain ⟨b3, b4⟩ := big62_ok hb2
          exact ⟨i, j, e1, ⟨b1, b2, b3, b4⟩, h1 (Itr i (j - i).toNat) H1 Z1 S1 (Kin.refl _) Frm.refl src_range⟩
        · rw [if_neg hb2] at h1; exact h1.elim
      · rw [if_neg hb] at h1; exact h1.elim
end
end Ev
namespace Ev
open PySem PySem.Spec PyProof.Rows L2

/-! ### a promise where no repr is under way -/
def Calm (A : Around) : Prop := A.guards = some []
theorem Calm.deeper {A : Around} (h : Calm A) (env : PySem.Env) : Calm (A.deeper env) := h
theorem Calm.make {A : Around} (h : Calm A) (C : Addr) (us : List Value) (kw : List (Str × Value)) : Calm (A.under (.builtin "type.__call__" ⟨.ref C :: us, kw⟩)) := by
  unfold Calm at h ⊢
  unfold Around.under
  rw [h]
  first | rfl | decide +kernel | simp [Code.guards, Code.isGuard, guardIds, pushGuards]
structure FnG (P : Program) (w : World) (K : Fr) (mg : Str → Option Value) (base : Heap) (CX : CXT) (k : Nat) (f : Addr) (fd : FuncData) (ps : List Str) (sp : Sp) : Prop where
  len : ∀ vs H Q E, sp vs H Q E → vs.length = ps.length
  go : ∀ (A : Around) (outer : List PySem.Env) (s : Shared) (H : Hp) (args : Args) (us : List Value) (vs : List V) (Q : VK) (E : XK), Room k A → Calm A → Env0 P w K mg base A outer s H →
    BindsTo s fd args (ps.zip us) → Vals vs us → sp vs H Q E → codeAny (model P w) A (.call (.ref f) args) (CR CX outer P w H s Q E) s
theorem FnG.mono {P : Program} {w : World} {K : Fr} {mg : Str → Option Value} {base : Heap} {CX : CXT} {j k : Nat} {f : Addr} {fd : FuncData} {ps : List Str} {sp : Sp} (F : FnG P w K mg base CX j f fd ps sp) (h : j ≤ k) : FnG P w K mg base CX k f fd ps sp :=
  ⟨F.len, fun A o s H a us vs Q E hr => F.go A o s H a us vs Q E (hr.mono h)⟩
/-- .. by the body -/
theorem fnG_of {P : Program} {w : World} {K : Fr} {mg : Str → Option Value} {base : Heap} {x qual : Str} {params : Arguments} {body : List Stmt} {scope : Scope} {dvs : List V} {kws : List (Str × V)} {f : Addr} {fd : FuncData}
    {CX : CXT} {N ps : List Str} {k : Nat} {sp : Sp} (F : FunD K x qual params body scope dvs kws f fd) (S : FnScope N ps scope) (hl : ∀ vs H Q E, sp vs H Q E → vs.length = ps.length)
    (hb : ∀ (cdv : Value) (A : Around) (outer : List PySem.Env) (s : Shared) (H : Hp) (vs : List V) (Q : VK) (E : XK), Room k (A.deeper (envOfC qual scope s.heap.objs.size f cdv)) → Calm A → sp vs H Q E →
      ∃ t, PSs (cxOf CX P w K mg base N qual scope f cdv A outer s H E) body t ∧ t { nx := fun _ H' => Q .non H', rt := Q } (L2.start N vs) H) : FnG P w K mg base CX (k + 1) f fd ps sp := by
  obtain ⟨oc, od, dV, kV, doc, pm, an, cdv, ct, osl, rfl, lk, hcd, _, _⟩ := F.ex
  refine ⟨hl, fun A outer s H args us vs Q E room calm e0 bt rel q => ?_⟩
  have n := hl _ _ _ _ q
  have hold : ∀ b o, base.get? b = some o → s.heap.get? b = some o := fun b o e => (e0.bs b o e).1
  have kin : K.In s.heap := e0.mod.kin.keeps hold
  have lim : s.heap.NoLimit := e0.mod.nolimit.keeps hold
  have hk : ∀ y ∈ ps.zip us, scope.names.lookup y.1 = some .local ∨ (scope.names.lookup y.1 = some .cell ∧ ((cellsFrom (s.heap.objs.size + 1) scope.names []).lookup y.1).isSome = true) := fun y hy =>
    (S.par y.1 (List.of_mem_zip hy).1).elim .inl fun q => .inr ⟨q, PySem.W.cellsFrom_some _ _ _ (.inl q)⟩
  refine codeAny_call_function room.depth (kin _ _ lk) rfl S.co S.gen rfl (PySem.W.codeRec_of kin hcd) (bt _ _ _ _ (wpAny_newFunctionEnv_cells S.kind hk fun env he s1 x => ?_))
  subst he
  refine ⟨lim.keeps x.toInCall.keep, codeAny_func ?_⟩
  obtain ⟨t, ht, ht2⟩ := hb cdv A outer s H vs Q E (room.deeper _) calm q
  have I := inv_start (CX := CX) (E := E) S room.hd e0 n rel x
  refine wpAny_mono (ht.run [] s1 (L2.start N vs) H _ I ht2) (fun fl s' hs => ?_) fun _ _ hs => hs
  cases fl with
  | ret u => exact let ⟨v, _, H', J, rv, q⟩ := hs; ⟨v, H', J.os, J.bare, J.base, J.hok, rv, q⟩
  | next => exact let ⟨_, H', J, q⟩ := hs; ⟨V.non, H', J.os, J.bare, J.base, J.hok, rfl, q⟩
  | brk => exact hs.elim fun _ h => h.elim fun _ h => h.2.elim
  | cont => exact hs.elim fun _ h => h.elim fun _ h => h.2.elim
/-- the call, however the arguments came -/
theorem fnG_run {X : Cx} {CX : CXT} {k : Nat} {f : Addr} {fd : FuncData} {ps : List Str} {sp : Sp} {pins : List (Addr × Obj)} {σ : L2.St} {H : Hp} {s : Shared} {Q : VK} {E : XK} {us ws : List Value} {kw : List (Str × Value)} {vs : List V}
    (F : FnG X.prog X.w X.K X.mg X.base CX k f fd ps sp) (hr : Room k X.A) (hc : Calm X.A) (bt : BindsTo s fd ⟨us, kw⟩ (ps.zip ws)) (hx : PassesAt CX X σ E) (I : Inv X pins σ H s) (r : Vals vs ws) (h : sp vs H Q E) :
    wpAny (model X.prog X.w) X.A (call (.ref f) us kw) (EP X pins σ Q) X.xe s := by
  refine wpAny_call (codeAny_mono (F.go X.A X.stack s H ⟨us, kw⟩ ws vs Q E hr hc I.env0 bt r h) fun z s' hq => ?_)
  cases z with
  | error e => exact hx pins H s e s' I hq
  | ok fl => cases fl <;> first | exact I.after hq | exact hq.elim

/-! ### functions of data -/
inductive FRes where
  | ret (x : RV) (out : D) | exc (e : Ex) (out : D) | stuck
abbrev Fun := List D → FRes
/-- what the arguments stand for; at io a thing that may be changed, at ad -/
structure ArgsOk (K : Fr) (Z H : Hp) (io : Option Nat) (vs : List V) (ds : List D) (ad : Option Addr) : Prop where
  len : vs.length = ds.length
  val : ∀ i v d, io ≠ some i → vs[i]? = some v → ds[i]? = some d → Rep K Z d v
  ino : ∀ i v d, io = some i → vs[i]? = some v → ds[i]? = some d → ∃ a, ad = some a ∧ v = .ref a ∧ Root K Z H a d
  off : io = none → ad = none
  up : ∀ a, ad = some a → H a ≠ none ∧ Z a = none
structure Aft (K : Fr) (Z H : Hp) (ad : Option Addr) (Z' H' : Hp) (out : D) : Prop where
  keep : ∀ a o, H a = some o → ad ≠ some a → H' a = some o
  zed : ∀ a, H a ≠ none → Z' a = Z a
  sub : Same Z' H'
  root : ∀ a, ad = some a → Root K Z' H' a out
def RetOk (K : Fr) (H Z' H' : Hp) (v : V) : RV → Prop
  | .val d => Rep K Z' d v
  | .own d => ∃ a, v = .ref a ∧ Root K Z' H' a d ∧ H a = none
  | .bor _ => False
def Post (K : Fr) (Z H : Hp) (ad : Option Addr) (Q : VK) (E : XK) : FRes → Prop
  | .ret x out => ∀ v Z' H', Aft K Z H ad Z' H' out → RetOk K H Z' H' v x → Q v H'
  | .exc e out => ∀ cls d Z' H', Aft K Z H ad Z' H' out → ExOk K Z' cls d e → E cls d H'
  | .stuck => False
def spF (K : Fr) (io : Option Nat) (n : Nat) (F : Fun) : Sp := fun vs H Q E => vs.length = n ∧ ∃ Z ds ad, Same Z H ∧ ArgsOk K Z H io vs ds ad ∧ Post K Z H ad Q E (F ds)
/-- the slots at the entry -/
def slotsOf : Option Nat → List D → List Slot
  | _, [] => []
  | some 0, d :: ds => .ino d :: slotsOf none ds
  | some (n + 1), d :: ds => .val d :: slotsOf (some n) ds
  | none, d :: ds => .val d :: slotsOf none ds
def outOf (io : Option Nat) (r : Env) : Option D := match io with
  | none => some .non
  | some i => match r[i]? with
    | some (.ino d) => some d
    | _ => none
def finish (io : Option Nat) : SRes → FRes
  | .nx r => match outOf io r with
    | some d => .ret (.val .non) d
    | none => .stuck
  | .rt x r => match outOf io r with
    | some d => .ret x d
    | none => .stuck
  | .exc e r => match outOf io r with
    | some d => .exc e d
    | none => .stuck
  | _ => .stuck
/-- n: how many names the def has -/
def runF (io : Option Nat) (n : Nat) (f : DenS) : Fun := fun ds => finish io (f (slotsOf io ds ++ List.replicate (n - ds.length) .un))
theorem slotsOf_get : ∀ (io : Option Nat) (ds : List D) (i : Nat), (slotsOf io ds)[i]? = (ds[i]?).map fun d => if io = some i then Slot.ino d else .val d
  | io, [], i => by cases io <;> simp [slotsOf]
  | some 0, d :: ds, 0 => by simp [slotsOf]
  | some 0, d :: ds, i + 1 => by
    simp only [slotsOf, List.getElem?_cons_succ, slotsOf_get none ds i]
    simp
  | some (n + 1), d :: ds, 0 => by simp [slotsOf]
  | some (n + 1), d :: ds, i + 1 => by
    simp only [slotsOf, List.getElem?_cons_succ, slotsOf_get (some n) ds i]
    simp
  | none, d :: ds, 0 => by simp [slotsOf]
  | none, d :: ds, i + 1 => by
    simp only [slotsOf, List.getElem?_cons_succ, slotsOf_get none ds i]
    simp
theorem slotsOf_length : ∀ (io : Option Nat) (ds : List D), (slotsOf io ds).length = ds.length
  | io, [] => by cases io <;> rfl
  | some 0, d :: ds => by simp [slotsOf, slotsOf_length none ds]
  | some (n + 1), d :: ds => by simp [slotsOf, slotsOf_length (some n) ds]
  | none, d :: ds => by simp [slotsOf, slotsOf_length none ds]
def anOf (Z H : Hp) (ad : Option Addr) : An := { H0 := H, Z0 := Z, A := ad.toList, P := fun _ => ad.getD 0 }
theorem sim_start {K : Fr} {Z H : Hp} {io : Option Nat} {vs : List V} {ds : List D} {ad : Option Addr} {N : List Str} (sb : Same Z H) (h : ArgsOk K Z H io vs ds ad) (hn : vs.length ≤ N.length) :
    Sim K (anOf Z H ad) (slotsOf io ds ++ List.replicate (N.length - ds.length) .un) Z (L2.start N vs) H := by
  have lv := h.len
  have at1 : ∀ i sl, (slotsOf io ds ++ List.replicate (N.length - ds.length) Slot.un)[i]? = some sl → sl = .un ∨ ∃ d v, ds[i]? = some d ∧ vs[i]? = some v ∧ (L2.start N vs)[i]? = some (some v) ∧ sl = if io = some i then .ino d else .val d := fun i sl e => by
    by_cases hi : i < ds.length
    · rw [List.getElem?_append_left (by rw [slotsOf_length]; exact hi), slotsOf_get] at e
      have e1 : ds[i]? = some ds[i] := by simp [hi]
      have e2 : vs[i]? = some (vs[i]'(by omega)) := by simp [show i < vs.length by omega]
      rw [e1] at e
      refine .inr ⟨_, _, e1, e2, ?_, (Option.some.inj e).symm⟩
      unfold L2.start
      rw [List.getElem?_append_left (by rw [List.length_map]; omega), List.getElem?_map, e2]
      rfl
    · rw [List.getElem?_append_right (by rw [slotsOf_length]; omega), List.getElem?_replicate] at e
      split at e
      · exact .inl (Option.some.inj e).symm
      · cases e
  have inoAt : ∀ i d, (slotsOf io ds ++ List.replicate (N.length - ds.length) Slot.un)[i]? = some (.ino d) → io = some i ∧ ∃ a, ad = some a ∧ (L2.start N vs)[i]? = some (some (.ref a)) ∧ Root K Z H a d := fun i d e => by
    rcases at1 i _ e with q | ⟨d', v, e1, e2, e3, e4⟩
    · cases q
    · by_cases hio : io = some i
      · rw [if_pos hio] at e4
        cases e4
        obtain ⟨a, q1, q2, q3⟩ := h.ino i v d hio e2 e1
        subst q2
        exact ⟨hio, a, q1, e3, q3⟩
      · rw [if_neg hio] at e4; cases e4
  have ownAt : ∀ i d, (slotsOf io ds ++ List.replicate (N.length - ds.length) Slot.un)[i]? = some (Slot.own d) → False := fun i d e => by
    rcases at1 i _ e with q | ⟨d', v, e1, e2, e3, e4⟩
    · cases q
    · by_cases hio : io = some i
      · rw [if_pos hio] at e4; cases e4
      · rw [if_neg hio] at e4; cases e4
  refine ⟨?_, sb, fun i d e => ?_, fun i d e => (ownAt i d e).elim, fun i d e => ?_, fun i j a x y => ?_, fun a o e _ => e, fun a _ => rfl, sb, fun a m => ?_, fun a m => ?_, fun i e => ?_⟩
  rotate_right
  · rcases at1 i _ e with q | ⟨d', v, e1, e2, e3, e4⟩
    · cases q
    · by_cases hio : io = some i
      · rw [if_pos hio] at e4; cases e4
      · rw [if_neg hio] at e4; cases e4
  · unfold L2.start
    simp only [List.length_append, List.length_map, List.length_replicate, slotsOf_length]
    omega
  · rcases at1 i _ e with q | ⟨d', v, e1, e2, e3, e4⟩
    · cases q
    · by_cases hio : io = some i
      · rw [if_pos hio] at e4; cases e4
      · rw [if_neg hio] at e4
        cases e4
        exact ⟨v, e3, h.val i v d hio e2 e1⟩
  · obtain ⟨_, a, q1, q2, q3⟩ := inoAt i d e
    exact ⟨a, q2, q3, by show a ∈ ad.toList; rw [q1]; simp, by show ad.getD 0 = a; rw [q1]; rfl⟩
  · obtain ⟨d, hd, e⟩ := x
    obtain ⟨d', hd', e'⟩ := y
    rcases hd with hd | hd
    · exact (ownAt i d hd).elim
    · rcases hd' with hd' | hd'
      · exact (ownAt j d' hd').elim
      · have z1 := (inoAt i d hd).1
        have z2 := (inoAt j d' hd').1
        rw [z1] at z2
        exact Option.some.inj z2
  · have q : ad = some a := by
      have m : a ∈ ad.toList := m
      simpa [Option.mem_toList] using m
    exact (h.up a q).1
  · have q : ad = some a := by
      have m : a ∈ ad.toList := m
      simpa [Option.mem_toList] using m
    exact h.up a q
theorem aft_of {K : Fr} {Z H Z' H' : Hp} {io : Option Nat} {ad : Option Addr} {r : Env} {s : L2.St} {out : D} (hio : io = none → ad = none) (S : Sim K (anOf Z H ad) r Z' s H') (e : outOf io r = some out) : Aft K Z H ad Z' H' out := by
  refine ⟨fun a o q n => S.keep a o q fun m => n ?_, fun a q => S.zed a q, S.sub, fun a q => ?_⟩
  · have m : a ∈ ad.toList := m
    simpa [Option.mem_toList] using m
  · cases io with
    | none => rw [hio rfl] at q; cases q
    | some i =>
      have e : (match r[i]? with | some (.ino d) => some d | _ => none) = some out := e
      split at e
      · rename_i d hd
        cases e
        obtain ⟨b, e1, q1, m, _⟩ := S.ino i _ hd
        have m : b ∈ ad.toList := m
        rw [q] at m
        simp at m
        rw [← m]
        exact q1
      · cases e
/-- THE RULE of a def: its body's reading, at these anchors -/
theorem fun_ok {P : Program} {w : World} {K : Fr} {mg : Str → Option Value} {base : Heap} {x qual : Str} {params : Arguments} {body : List Stmt} {scope : Scope} {dvs : List V} {kws : List (Str × V)} {f : Addr} {fd : FuncData}
    {CX : CXT} {N ps : List Str} {k n m : Nat} {io : Option Nat} {g : DenS} (F : FunD K x qual params body scope dvs kws f fd) (S : FnScope N ps scope) (hn : ps.length = n) (hm : N.length = m)
    (hb : ∀ (cdv : Value) (A : Around) (outer : List PySem.Env) (s : Shared) (H : Hp) (T : An) (E : XK), Room k (A.deeper (envOfC qual scope s.heap.objs.size f cdv)) → Calm A →
      PSs (cxOf CX P w K mg base N qual scope f cdv A outer s H E) body (tS K T (fun cls d _ H' => E cls d H') g)) : FnG P w K mg base CX (k + 1) f fd ps (spF K io n (runF io m g)) := by
  refine fnG_of F S (fun vs H Q E q => by rw [hn]; exact q.1) fun cdv A outer s H vs Q E room calm q => ?_
  obtain ⟨hl, Z, ds, ad, sb, ha, post⟩ := q
  refine ⟨_, hb cdv A outer s H (anOf Z H ad) E room calm, ?_⟩
  have hle : vs.length ≤ N.length := by
    have := congrArg List.length S.pre
    rw [List.length_take] at this
    omega
  have S0 := sim_start (N := N) sb ha hle
  refine ⟨_, Z, S0, ?_⟩
  unfold runF at post
  rw [← hm] at post
  generalize hg : g (slotsOf io ds ++ List.replicate (N.length - ds.length) .un) = res at post ⊢
  have hz : io = none → ad = none := ha.off
  cases res with
  | nx r =>
    have post : Post K Z H ad Q E (match outOf io r with | some d => .ret (.val .non) d | none => .stuck) := post
    intro s' H' Z' S' _
    cases e : outOf io r with
    | none => rw [e] at post; exact post.elim
    | some d =>
      rw [e] at post
      exact post .non Z' H' (aft_of hz S' e) rfl
  | rt y r =>
    have post : Post K Z H ad Q E (match outOf io r with | some d => .ret y d | none => .stuck) := post
    intro v s' H' Z' S' _ o
    cases e : outOf io r with
    | none => rw [e] at post; exact post.elim
    | some d =>
      rw [e] at post
      refine post v Z' H' (aft_of hz S' e) ?_
      cases y with
      | val d' => exact o
      | own d' => exact o
      | bor i => exact o
  | exc ex r =>
    have post : Post K Z H ad Q E (match outOf io r with | some d => .exc ex d | none => .stuck) := post
    intro cls d s' H' Z' S' _ o
    cases e : outOf io r with
    | none => rw [e] at post; exact post.elim
    | some d' =>
      rw [e] at post
      exact post cls d Z' H' (aft_of hz S' e) o
  | bk r => exact post.elim
  | ct r => exact post.elim
  | stuck => exact post.elim
end Ev
namespace Ev
open PySem PySem.Spec PyProof.Rows L2

/-- new contents of what slot i owns -/
def putS (i : Nat) (d : D) (r : Env) : Env := match r[i]? with
  | some (.own _) => r.set i (.own d)
  | some (.ino _) => r.set i (.ino d)
  | _ => r
def putO (j : Option Nat) (d : D) (r : Env) : Env := match j with
  | none => r
  | some i => putS i d r
theorem map_set_same {l : List Slot} {i : Nat} {x y : Slot} (h : l[i]? = some x) (e : x.shape = y.shape) : (l.set i y).map Slot.shape = l.map Slot.shape := by
  rw [List.map_set, ← e]
  exact list_set_same (by rw [List.getElem?_map, h]; rfl)
theorem kin_putS (i : Nat) (d : D) (r : Env) : Kin r (putS i d r) := by
  unfold Kin putS
  split
  · rename_i d' h
    exact (map_set_same (y := .own d) h rfl).symm
  · rename_i d' h
    exact (map_set_same (y := .ino d) h rfl).symm
  · rfl
theorem kin_putO (j : Option Nat) (d : D) (r : Env) : Kin r (putO j d r) := by
  cases j with
  | none => exact Kin.refl r
  | some i => exact kin_putS i d r
theorem putS_get {i j : Nat} {d : D} {r : Env} {sl : Slot} (h : (putS i d r)[j]? = some sl) : (j = i ∧ ((sl = .own d ∧ ∃ d', r[i]? = some (.own d')) ∨ (sl = .ino d ∧ ∃ d', r[i]? = some (.ino d')))) ∨ (r[j]? = some sl ∧ (j = i → ¬ (∃ d', r[i]? = some (.own d') ∨ r[i]? = some (.ino d')))) := by
  unfold putS at h
  split at h
  · rename_i d' q
    rcases get_set h with ⟨e1, e2, _⟩ | ⟨e1, e2⟩
    · exact .inl ⟨e1, .inl ⟨e2, d', q⟩⟩
    · exact .inr ⟨e2, fun z => absurd z e1⟩
  · rename_i d' q
    rcases get_set h with ⟨e1, e2, _⟩ | ⟨e1, e2⟩
    · exact .inl ⟨e1, .inr ⟨e2, d', q⟩⟩
    · exact .inr ⟨e2, fun z => absurd z e1⟩
  · rename_i n1 n2
    exact .inr ⟨h, fun _ ⟨d', q⟩ => by
      rcases q with q | q
      · exact n1 d' q
      · exact n2 d' q⟩
section
variable {K : Fr} {T : An} {r : Env} {Z H Z' H' : Hp} {s : L2.St} {ad : Option Addr} {j : Option Nat} {out : D}
theorem Sim.back (S : Sim K T r Z s H) (A : Aft K Z H ad Z' H' out) (hn : ∀ i a, ad = some a → OwnAt r s i a → j = some i) (hj : ∀ i, j = some i → ∃ a, ad = some a ∧ OwnAt r s i a) (h0 : ∀ a, ad = some a → T.H0 a = none ∨ a ∈ T.A) (hl : ∀ a, ad = some a → H' a ≠ none) :
    Sim K T (putO j out r) Z' s H' := by
  have kz : Same Z Z' := fun a o e => by rw [A.zed a (by rw [S.sub a o e]; simp)]; exact e
  have kin := kin_putO j out r
  have ow : ∀ {i a}, OwnAt (putO j out r) s i a → OwnAt r s i a := fun {i a} w => kin.symm.ownAt w
  have liv : ∀ a, H a ≠ none → H' a ≠ none := fun a e => by
    by_cases q : ad = some a
    · exact hl a q
    · cases w : H a with
      | none => exact (e w).elim
      | some o => rw [A.keep a o w q]; simp
  -- what stands at a slot
  have one : ∀ i sl, (putO j out r)[i]? = some sl → (j = some i ∧ ((sl = .own out ∧ ∃ d', r[i]? = some (.own d')) ∨ (sl = .ino out ∧ ∃ d', r[i]? = some (.ino d')))) ∨ (r[i]? = some sl ∧ (j = some i → ¬ ∃ d', sl = .own d' ∨ sl = .ino d')) := fun i sl e => by
    cases j with
    | none => exact .inr ⟨e, fun z => by cases z⟩
    | some jj =>
      rcases putS_get (show (putS jj out r)[i]? = some sl from e) with ⟨e1, q⟩ | ⟨e1, q⟩
      · subst e1
        exact .inl ⟨rfl, q⟩
      · refine .inr ⟨e1, fun z => ?_⟩
        have z : jj = i := Option.some.inj z
        subst z
        intro ⟨d', w⟩
        refine q rfl ⟨d', ?_⟩
        rcases w with w | w
        · exact .inl (by rw [e1, w])
        · exact .inr (by rw [e1, w])
  refine ⟨by rw [← S.len]; have := congrArg List.length kin; rw [List.length_map, List.length_map] at this; exact this.symm, A.sub, fun i d e => ?_, fun i d e => ?_, fun i d e => ?_, fun i l a x y => S.inj i l a (ow x) (ow y), fun a o e m => ?_, fun a e => ?_, S.base, fun a m => liv a (S.live a m), S.inA, fun i e => ?_⟩
  rotate_right
  · rcases one i _ e with ⟨_, ⟨q, _⟩ | ⟨q, _⟩⟩ | ⟨q, _⟩
    · cases q
    · cases q
    · obtain ⟨x, y⟩ := S.err i q
      exact ⟨x, y.mono kz⟩
  · rcases one i _ e with ⟨_, ⟨q, _⟩ | ⟨q, _⟩⟩ | ⟨q, _⟩
    · cases q
    · cases q
    · obtain ⟨v, e1, e2⟩ := S.val i d q
      exact ⟨v, e1, e2.mono kz⟩
  · rcases one i _ e with ⟨e0, ⟨q, d', e'⟩ | ⟨q, _⟩⟩ | ⟨q, nq⟩
    · cases q
      obtain ⟨a, e1, q1, z⟩ := S.own i d' e'
      obtain ⟨b, e2, w⟩ := hj i e0
      obtain ⟨_, _, e3⟩ := w
      rw [e1] at e3; cases e3
      exact ⟨a, e1, A.root a e2, z⟩
    · cases q
    · obtain ⟨a, e1, q1, z⟩ := S.own i d q
      have na : ad ≠ some a := fun w => nq (hn i a w ⟨d, .inl q, e1⟩) ⟨d, .inl rfl⟩
      obtain ⟨o, ho⟩ := q1.there
      exact ⟨a, e1, q1.mono kz (by rw [A.zed a (by rw [ho]; simp)]; exact q1.z) fun u w => A.keep a u w na, z⟩
  · rcases one i _ e with ⟨e0, ⟨q, _⟩ | ⟨q, d', e'⟩⟩ | ⟨q, nq⟩
    · cases q
    · cases q
      obtain ⟨a, e1, q1, z⟩ := S.ino i d' e'
      obtain ⟨b, e2, w⟩ := hj i e0
      obtain ⟨_, _, e3⟩ := w
      rw [e1] at e3; cases e3
      exact ⟨a, e1, A.root a e2, z⟩
    · obtain ⟨a, e1, q1, z⟩ := S.ino i d q
      have na : ad ≠ some a := fun w => nq (hn i a w ⟨d, .inr q, e1⟩) ⟨d, .inr rfl⟩
      obtain ⟨o, ho⟩ := q1.there
      exact ⟨a, e1, q1.mono kz (by rw [A.zed a (by rw [ho]; simp)]; exact q1.z) fun u w => A.keep a u w na, z⟩
  · refine A.keep a o (S.keep a o e m) fun w => ?_
    rcases h0 a w with z | z
    · rw [z] at e; cases e
    · exact m z
  · have w : H a ≠ none := by
      by_cases m : a ∈ T.A
      · exact S.live a m
      · cases q : T.H0 a with
        | none => exact (e q).elim
        | some o => rw [S.keep a o q m]; simp
    rw [A.zed a w]
    exact S.zed a e
theorem Frm.back (A : Aft K Z H ad Z' H' out) (hj : ∀ a, ad = some a → ∃ i, OwnAt r s i a) (hl : ∀ a, ad = some a → H' a ≠ none) : Frm r s H Z H' Z' :=
  ⟨fun a o e n => A.keep a o e fun w => let ⟨i, q⟩ := hj a w; n i q, fun a e => A.zed a e, fun a e => by
    by_cases q : ad = some a
    · exact hl a q
    · cases w : H a with
      | none => exact (e w).elim
      | some o => rw [A.keep a o w q]; simp⟩
end

/-! ### a call of a function of data -/
def pick {α : Type} (p : List Nat) (l : List α) : List α := p.filterMap fun i => l[i]?
/-- the arguments' data; the slot that is lent -/
def argD (r : Env) : Option Nat → List RV → Option (List D × Option Nat)
  | _, [] => some ([], none)
  | some 0, x :: xs => match x with
    | .bor i => (peek r (.bor i)).bind fun d => (argD r none xs).map fun p => (d :: p.1, some i)
    | _ => none
  | some (n + 1), x :: xs => (take x).bind fun d => (argD r (some n) xs).map fun p => (d :: p.1, p.2)
  | none, x :: xs => (take x).bind fun d => (argD r none xs).map fun p => (d :: p.1, p.2)
def doneR (j : Option Nat) (r : Env) : FRes → Res RV
  | .ret x out => .ok x (putO j out r)
  | .exc e out => .exc e (putO j out r)
  | .stuck => .stuck
def callR (io : Option Nat) (F : Fun) (xs : List RV) (r : Env) : Res RV := match argD r io xs with
  | some p => doneR p.2 r (F p.1)
  | none => .stuck
section
variable {K : Fr} {T : An} {W : WX} {r : Env} {Z H : Hp} {s : L2.St}
theorem argD_ok (S : Sim K T r Z s H) : ∀ {vs : List V} {xs : List RV}, RvsOk K T s r Z H vs xs → ∀ {io : Option Nat} {ds : List D} {j : Option Nat}, argD r io xs = some (ds, j) →
    ∃ ad, ArgsOk K Z H io vs ds ad ∧ (∀ i, j = some i → ∃ a, ad = some a ∧ OwnAt r s i a) ∧ (∀ a, ad = some a → ∃ i, j = some i ∧ OwnAt r s i a)
  | _, _, .nil, io, ds, j, e => by
    have e : some (([] : List D), (none : Option Nat)) = some (ds, j) := by cases io <;> exact e
    cases e
    exact ⟨none, ⟨rfl, fun i v d _ q => by simp at q, fun i v d _ q => by simp at q, fun _ => rfl, fun a q => (nomatch q)⟩, fun i q => (nomatch q), fun a q => (nomatch q)⟩
  | _, _, .cons (v := v) (x := x) (vs := vs) (xs := xs) a b, io, ds, j, e => by
    have go : ∀ {io0 io' : Option Nat} (hio : ∀ i, io0 = some i → ∃ i', i = i' + 1 ∧ io' = some i') (hio2 : ∀ i, io' = some i → io0 = some (i + 1)) (hio3 : io0 = none → io' = none),
        ((take x).bind fun d => (argD r io' xs).map fun p => (d :: p.1, p.2)) = some (ds, j) → ∃ ad, ArgsOk K Z H io0 (v :: vs) ds ad ∧ (∀ i, j = some i → ∃ a, ad = some a ∧ OwnAt r s i a) ∧ (∀ a, ad = some a → ∃ i, j = some i ∧ OwnAt r s i a) := by
      intro io0 io' hio hio2 hio3 e
      cases q : take x with
      | none => rw [q] at e; cases e
      | some d =>
        rw [q] at e
        have e : (argD r io' xs).map (fun p => (d :: p.1, p.2)) = some (ds, j) := e
        cases w : argD r io' xs with
        | none => rw [w] at e; cases e
        | some p =>
          obtain ⟨ds', j'⟩ := p
          rw [w] at e
          cases e
          obtain ⟨ad, A, h1, h2⟩ := argD_ok S b w
          refine ⟨ad, ⟨by rw [List.length_cons, List.length_cons, A.len], fun i v' d' hn hv hd => ?_, fun i v' d' hn hv hd => ?_, fun z => A.off (hio3 z), A.up⟩, h1, h2⟩
          · cases i with
            | zero =>
              simp at hv hd
              subst hv hd
              exact a.rep q
            | succ i => exact A.val i v' d' (fun z => hn (hio2 i z)) (by simpa using hv) (by simpa using hd)
          · obtain ⟨i', e1, e2⟩ := hio i hn
            subst e1
            exact A.ino i' v' d' e2 (by simpa using hv) (by simpa using hd)
    match io, e with
    | some 0, e =>
      cases x with
      | bor i =>
        have e : ((peek r (.bor i)).bind fun d => (argD r none xs).map fun p => (d :: p.1, some i)) = some (ds, j) := e
        cases q : peek r (.bor i) with
        | none => rw [q] at e; cases e
        | some d =>
          rw [q] at e
          have e : (argD r none xs).map (fun p => (d :: p.1, some i)) = some (ds, j) := e
          cases w : argD r none xs with
          | none => rw [w] at e; cases e
          | some p =>
            obtain ⟨ds', j'⟩ := p
            rw [w] at e
            cases e
            obtain ⟨ad, A, h1, h2⟩ := argD_ok S b w
            obtain ⟨c, e1, ow⟩ := a.1
            subst e1
            obtain ⟨d', hd, rt⟩ := S.at ow
            have ed : d' = d := by
              rcases hd with hd | hd
              · simp only [peek, hd] at q; exact Option.some.inj q
              · simp only [peek, hd] at q; exact Option.some.inj q
            subst ed
            have hnone : ad = none := A.off rfl
            refine ⟨some c, ⟨by rw [List.length_cons, List.length_cons, A.len], fun i' v' d2 hn hv hd2 => ?_, fun i' v' d2 hn hv hd2 => ?_, fun z => (nomatch z), fun b' z => ?_⟩, fun i' z => ?_, fun b' z => ?_⟩
            · cases i' with
              | zero => exact (hn rfl).elim
              | succ i' => exact A.val i' v' d2 (fun z => by cases z) (by simpa using hv) (by simpa using hd2)
            · cases hn
              simp at hv hd2
              subst hv hd2
              exact ⟨c, rfl, rfl, rt⟩
            · cases z
              obtain ⟨o, ho⟩ := rt.there
              exact ⟨by rw [ho]; simp, rt.z⟩
            · cases z
              exact ⟨c, rfl, ow⟩
            · cases z
              exact ⟨i, rfl, ow⟩
      | val d => cases e
      | own d => cases e
    | some (n + 1), e => exact go (io' := some n) (fun i z => ⟨n, by cases z; rfl, rfl⟩) (fun i z => by cases z; rfl) (fun z => by cases z) e
    | none, e => exact go (io' := none) (fun i z => by cases z) (fun i z => by cases z) (fun _ => rfl) e
theorem call_core {io : Option Nat} {F : Fun} {n : Nat} {vs : List V} {xs : List RV} {Q : VK} (S : Sim K T r Z s H) (o : RvsOk K T s r Z H vs xs) (hn : vs.length = n) (h : tG K T W (RelE K T s) s (callR io F xs r) r Z H Q) :
    spF K io n F vs H Q (fun cls d H' => W cls d s H') := by
  refine ⟨hn, ?_⟩
  unfold callR at h
  cases e : argD r io xs with
  | none => rw [e] at h; exact h.elim
  | some p =>
    obtain ⟨ds, j⟩ := p
    rw [e] at h
    obtain ⟨ad, A, h1, h2⟩ := argD_ok S o e
    refine ⟨Z, ds, ad, S.sub, A, ?_⟩
    have bk : ∀ {Z' H' out}, Aft K Z H ad Z' H' out → Sim K T (putO j out r) Z' s H' ∧ Frm r s H Z H' Z' := fun {Z' H' out} B => by
      have hl : ∀ a, ad = some a → H' a ≠ none := fun a q => by
        obtain ⟨o, ho⟩ := (B.root a q).there
        rw [ho]; simp
      refine ⟨S.back B (fun i a q w => ?_) h1 (fun a q => ?_) hl, Frm.back B (fun a q => let ⟨i, _, w⟩ := h2 a q; ⟨i, w⟩) hl⟩
      · obtain ⟨i', e1, w'⟩ := h2 a q
        rw [e1, S.inj i' i a w' w]
      · obtain ⟨i, _, w⟩ := h2 a q
        obtain ⟨d, hd, e3⟩ := w
        rcases hd with hd | hd
        · obtain ⟨b, e4, _, z⟩ := S.own i d hd
          rw [e3] at e4; cases e4
          exact .inl z
        · obtain ⟨b, e4, _, z, _⟩ := S.ino i d hd
          rw [e3] at e4; cases e4
          exact .inr z
    have h : tG K T W (RelE K T s) s (doneR j r (F ds)) r Z H Q := h
    cases q : F ds with
    | stuck => rw [q] at h; exact h.elim
    | exc ex out =>
      rw [q] at h
      intro cls d Z' H' B x
      obtain ⟨S', F'⟩ := bk B
      exact h cls d H' Z' S' (kin_putO j out r) F' x
    | ret x out =>
      rw [q] at h
      intro v Z' H' B ret
      obtain ⟨S', F'⟩ := bk B
      refine h v H' Z' S' (kin_putO j out r) F' ?_
      cases x with
      | val d => exact ret
      | own d =>
        obtain ⟨a, e1, q1, q2⟩ := ret
        refine ⟨a, e1, q1, (S.free q2).1, fun i w => ?_, q2⟩
        have w' : OwnAt r s i a := (kin_putO j out r).symm.ownAt w
        obtain ⟨d', _, rt⟩ := S.at w'
        obtain ⟨o, ho⟩ := rt.there
        rw [ho] at q2; cases q2
      | bor i => exact ret.elim
theorem RvsOk.length {vs : List V} {xs : List RV} (h : RvsOk K T s r Z H vs xs) : vs.length = xs.length := by
  induction h with
  | nil => rfl
  | cons _ _ ih => rw [List.length_cons, List.length_cons, ih]
theorem RvsOk.append {vs ws : List V} {xs ys : List RV} (h : RvsOk K T s r Z H vs xs) (h' : RvsOk K T s r Z H ws ys) : RvsOk K T s r Z H (vs ++ ws) (xs ++ ys) := by
  induction h with
  | nil => exact h'
  | cons a _ ih => exact .cons a ih
theorem RvsOk.get {vs : List V} {xs : List RV} (h : RvsOk K T s r Z H vs xs) (i : Nat) : (vs[i]? = none ∧ xs[i]? = none) ∨ ∃ v x, vs[i]? = some v ∧ xs[i]? = some x ∧ RelF K T s (fun _ => none) r Z H v x := by
  induction h generalizing i with
  | nil => exact .inl ⟨by simp, by simp⟩
  | cons a _ ih =>
    cases i with
    | zero => exact .inr ⟨_, _, rfl, rfl, a⟩
    | succ i => simpa using ih i
theorem RvsOk.pick {vs : List V} {xs : List RV} (h : RvsOk K T s r Z H vs xs) : ∀ p : List Nat, RvsOk K T s r Z H (Ev.pick p vs) (Ev.pick p xs)
  | [] => .nil
  | i :: p => by
    have ih := RvsOk.pick h p
    unfold Ev.pick at ih ⊢
    rw [List.filterMap_cons, List.filterMap_cons]
    rcases h.get i with ⟨e1, e2⟩ | ⟨v, x, e1, e2, o⟩
    · rw [e1, e2]; exact ih
    · rw [e1, e2]; exact .cons o ih
theorem rvs_vals {ds : List D} {vs : List V} (h : RepL K Z ds vs) : RvsOk K T s r Z H vs (ds.map .val) := by
  induction ds generalizing vs with
  | nil =>
    have h : vs = [] := h
    subst h
    exact .nil
  | cons d ds ih =>
    obtain ⟨v, t, rfl, h1, h2⟩ := h
    exact .cons ⟨h1, rfl⟩ (ih h2)
end
theorem vals_pick {vs : List V} {us : List Value} (r : Vals vs us) : ∀ p : List Nat, Vals (pick p vs) (pick p us)
  | [] => .nil
  | i :: p => by
    have ih := vals_pick r p
    unfold pick at ih ⊢
    rw [List.filterMap_cons, List.filterMap_cons]
    cases e : vs[i]? with
    | none => rw [r.none_of e]; exact ih
    | some v =>
      obtain ⟨u, hu, rv⟩ := r.get e
      rw [hu]
      exact .cons rv ih
/-- how a call binds: n values, m keywords ks, the defaults dd; all in the order p -/
def BindG (K : Fr) (fd : FuncData) (ps : List Str) (n : Nat) (ks : List Str) (p : List Nat) (dd : List D) : Prop := ∃ (dvs : List V) (dus : List Value), Vals dvs dus ∧ (∀ Z, RepL K Z dd dvs) ∧
  ∀ (s : Shared) (us ws : List Value), K.In s.heap → us.length = n → ws.length = ks.length → BindsTo s fd ⟨us, ks.zip ws⟩ (ps.zip (pick p (us ++ (ws ++ dus))))
/-- f(..) -/
def eCall (io : Option Nat) (F : Fun) (n m : Nat) (p : List Nat) (dd : List D) (l lk : DenL) : Den := fun r => (l r).bind fun xs r1 => (lk r1).bind fun ys r2 =>
  if xs.length = n ∧ ys.length = m then callR io F (pick p (xs ++ (ys ++ dd.map .val))) r2 else .stuck
section
variable {X : Cx} {T : An} {W : WX} {k n : Nat} {f : Addr} {fd : FuncData} {ps ks : List Str} {io : Option Nat} {F : Fun} {p : List Nat} {dd : List D} {x : Str} {q pos : Pos} {e : Expr} {es : List Expr} {kws : List Keyword} {l lk : DenL}
abbrev CXW (X : Cx) : CXT := L2.CX X.prog X.w
theorem passesW (tk : Takes X W) (σ : L2.St) : PassesAt (CXW X) X σ (fun cls d H' => W cls d σ H') := fun pins H s e s' I h => tk e s' (XE.of_call I (fun cls d H' hw => hw) h)
/-- the two lists have come -/
theorem call_two {s : L2.St} {H : Hp} {Q : VK} {N : Nat} (hN : ∀ xs ys : List RV, xs.length = n → ys.length = ks.length → (pick p (xs ++ (ys ++ dd.map .val))).length = N) (h : tE X.K T W (eCall io F n ks.length p dd l lk) s H Q) :
    tL X.K T W l s H fun vs H1 => tL X.K T W lk s H1 fun zs H2 => vs.length = n ∧ zs.length = ks.length ∧ ∀ dvs, (∀ Z, RepL X.K Z dd dvs) → spF X.K io N F (pick p (vs ++ (zs ++ dvs))) H2 Q fun cls d H' => W cls d s H' := by
  obtain ⟨r, Z, S, h⟩ := h
  refine ⟨r, Z, S, (tG.bind fwdE h).mono fun vs H1 h1 => ?_⟩
  obtain ⟨xs, r1, Z1, S1, k1, f1, o1, h1⟩ := h1
  refine ⟨r1, Z1, S1, (tG.bind fwdE h1).mono fun zs H2 h2 => ?_⟩
  obtain ⟨ys, r2, Z2, S2, k2, f2, o2, h2⟩ := h2
  have o1 : RvsOk X.K T s r1 Z1 H1 vs xs := o1
  have o2 : RvsOk X.K T s r2 Z2 H2 zs ys := o2
  by_cases hc : xs.length = n ∧ ys.length = ks.length
  · have h2 : tG X.K T W (RelE X.K T s) s (if xs.length = n ∧ ys.length = ks.length then callR io F (pick p (xs ++ (ys ++ dd.map .val))) r2 else .stuck) r2 Z2 H2 Q := h2
    rw [if_pos hc] at h2
    refine ⟨o1.length.trans hc.1, o2.length.trans hc.2, fun dvs hd => ?_⟩
    have o3 := ((o1.stay S1 k2 f2).append (o2.append (rvs_vals (K := X.K) (T := T) (s := s) (r := r2) (H := H2) (hd Z2)))).pick p
    exact call_core S2 o3 (o3.length.trans (hN xs ys hc.1 hc.2)) h2
  · have h2 : tG X.K T W (RelE X.K T s) s (if xs.length = n ∧ ys.length = ks.length then callR io F (pick p (xs ++ (ys ++ dd.map .val))) r2 else .stuck) r2 Z2 H2 Q := h2
    rw [if_neg hc] at h2
    exact h2.elim
theorem fn_at {pins : List (Addr × Obj)} {σ : L2.St} {H : Hp} {s : Shared} {Q : VK} {N : Nat} {us ws : List Value} {vs zs : List V} (Fg : FnG X.prog X.w X.K X.mg X.base (CXW X) k f fd ps (spF X.K io N F)) (hr : Room k X.A) (hc : Calm X.A) (hb : BindG X.K fd ps n ks p dd) (tk : Takes X W)
    (I : Inv X pins σ H s) (r : Vals vs us) (rz : Vals zs ws) (l1 : vs.length = n) (l2 : zs.length = ks.length) (h : ∀ dvs, (∀ Z, RepL X.K Z dd dvs) → spF X.K io N F (pick p (vs ++ (zs ++ dvs))) H Q fun cls d H' => W cls d σ H') :
    wpAny (model X.prog X.w) X.A (call (.ref f) us (ks.zip ws)) (EP X pins σ Q) X.xe s := by
  obtain ⟨dvs, dus, rd, rep, bt⟩ := hb
  exact fnG_run Fg hr hc (bt s us ws I.kIn (r.length.symm.trans l1) (rz.length.symm.trans l2)) (passesW tk σ) I (vals_pick (r.append (rz.append rd)) p) (h dvs rep)
/-- f(e, ..) -/
theorem de_call {N : Nat} (Fg : FnG X.prog X.w X.K X.mg X.base (CXW X) k f fd ps (spF X.K io N F)) (hr : Room k X.A) (hc : Calm X.A) (hg : Gl X x) (hm : X.mg x = some (.ref f)) (hk : PySem.W.keepIn X.K (.ref f) = true) (hb : BindG X.K fd ps n [] p dd) (tk : Takes X W)
    (hN : ∀ xs ys : List RV, xs.length = n → ys.length = 0 → (pick p (xs ++ (ys ++ dd.map .val))).length = N)
    (ha : PA X (e :: es) (tL X.K T W l)) (hdb : (x == ("__debug__" : Str)) = false) (he : starEach (e :: es) X.env = (false, eval e X.env) :: starEach es X.env) (hpl : (backTo pos (starEach es X.env)).any (·.1) = false) :
    PE X (.Call (.Name x q) (e :: es) [] pos) (tE X.K T W (eCall io F n 0 p dd l dNil)) := ⟨fun pins s σ H Q I h => by
  refine wpAny_Call_Name_kw (ld_glob I hg hm ?_ hdb)
  refine PySem.W.callWith_K (h₀ := X.base) I.ok.mod.kin hk (thn (ha.run pos pins s σ H _ I (call_two (ks := []) hN h)) fun us s1 z => ?_) he hpl
  obtain ⟨vs, H1, I1, r, q1⟩ := z
  obtain ⟨l1, _, q2⟩ := tL_nil q1
  exact ⟨I1.kIn, fn_at (zs := []) (ws := []) Fg hr hc hb tk I1 r .nil l1 rfl q2⟩⟩
/-- f() -/
theorem de_call0 {N : Nat} (Fg : FnG X.prog X.w X.K X.mg X.base (CXW X) k f fd ps (spF X.K io N F)) (hr : Room k X.A) (hc : Calm X.A) (hg : Gl X x) (hm : X.mg x = some (.ref f)) (hk : PySem.W.keepIn X.K (.ref f) = true) (hb : BindG X.K fd ps 0 [] p dd) (tk : Takes X W)
    (hN : ∀ xs ys : List RV, xs.length = 0 → ys.length = 0 → (pick p (xs ++ (ys ++ dd.map .val))).length = N) (hdb : (x == ("__debug__" : Str)) = false) :
    PE X (.Call (.Name x q) [] [] pos) (tE X.K T W (eCall io F 0 0 p dd dNil dNil)) := ⟨fun pins s σ H Q I h => by
  refine wpAny_Call_Name_kw (ld_glob I hg hm ?_ hdb)
  have z := tL_nil (call_two (ks := []) hN h)
  obtain ⟨l1, _, q2⟩ := tL_nil z
  exact PySem.W.callWith_K0 I.kIn hk (fn_at (vs := []) (zs := []) (us := []) (ws := []) Fg hr hc hb tk I .nil .nil rfl rfl q2)⟩
/-- f(e, .., k = v, ..) -/
theorem de_callK {N : Nat} (Fg : FnG X.prog X.w X.K X.mg X.base (CXW X) k f fd ps (spF X.K io N F)) (hr : Room k X.A) (hc : Calm X.A) (hg : Gl X x) (hm : X.mg x = some (.ref f)) (hk : PySem.W.keepIn X.K (.ref f) = true) (hb : BindG X.K fd ps n ks p dd) (tk : Takes X W)
    (hN : ∀ xs ys : List RV, xs.length = n → ys.length = ks.length → (pick p (xs ++ (ys ++ dd.map .val))).length = N)
    (ha : PA X (e :: es) (tL X.K T W l)) (hkw : PK X kws (tL X.K T W lk)) (hall : (backToKw pos (keywordEach kws X.env)).all (·.1.isSome) = true) (hks : (backToKw pos (keywordEach kws X.env)).filterMap (·.1) = ks)
    (hdb : (x == ("__debug__" : Str)) = false) (he : starEach (e :: es) X.env = (false, eval e X.env) :: starEach es X.env)
    (hpl : ((backTo pos (starEach (e :: es) X.env)).any (·.1) || (backToKw pos (keywordEach kws X.env)).any (·.1.isNone)) = false) :
    PE X (.Call (.Name x q) (e :: es) kws pos) (tE X.K T W (eCall io F n ks.length p dd l lk)) := ⟨fun pins s σ H Q I h => by
  refine wpAny_Call_Name_kw (ld_glob I hg hm ?_ hdb)
  refine PySem.W.callWith_KW (h₀ := X.base) I.ok.mod.kin hk hall (thn (ha.run pos pins s σ H _ I (call_two hN h)) fun us s1 z => ?_) hpl he
  obtain ⟨vs, H1, I1, r, q1⟩ := z
  refine thn (hkw.run pos pins s1 σ H1 _ I1 q1) fun ws s2 z => ?_
  obtain ⟨zs, H2, I2, rz, l1, l2, q2⟩ := z
  refine ⟨I2.kIn, ?_⟩
  rw [hks]
  exact fn_at Fg hr hc hb tk I2 r rz l1 l2 q2⟩
end
end Ev
namespace Ev
open PySem PySem.Spec PyProof.Rows L2

/-! ### changes of what a slot owns -/
section
variable {K : Fr} {T : An} {r : Env} {Z H : Hp} {s : L2.St}
theorem putS_of {i : Nat} {a : Addr} {d : D} {o : HO} (S : Sim K T r Z s H) (w : OwnAt r s i a) (q : Root K Z (upd H a o) a d) : Sim K T (putS i d r) Z s (upd H a o) ∧ Kin r (putS i d r) ∧ Frm r s H Z (upd H a o) Z := by
  obtain ⟨d0, hd, rt⟩ := S.at w
  obtain ⟨o0, h0⟩ := rt.there
  have A : Aft K Z H (some a) Z (upd H a o) d := by
    refine ⟨fun b u e n => by rw [upd_ne fun z => n (by rw [z])]; exact e, fun _ _ => rfl, fun b u e => ?_, fun b e => by cases e; exact q⟩
    by_cases z : b = a
    · rw [z, rt.z] at e; cases e
    · rw [upd_ne z]; exact S.sub b u e
  have hl : ∀ b, some a = some b → upd H a o b ≠ none := fun b e => by cases e; rw [upd_same]; simp
  refine ⟨S.back (j := some i) A (fun j b e w' => by cases e; rw [S.inj i j a w w']) (fun j e => by cases e; exact ⟨a, rfl, w⟩) (fun b e => ?_) hl, kin_putS i d r, Frm.back A (fun b e => by cases e; exact ⟨i, w⟩) hl⟩
  cases e
  obtain ⟨d', hd', e3⟩ := w
  rcases hd' with hd' | hd'
  · obtain ⟨c, e4, _, z⟩ := S.own i d' hd'
    rw [e3] at e4; cases e4
    exact .inl z
  · obtain ⟨c, e4, _, z, _⟩ := S.ino i d' hd'
    rw [e3] at e4; cases e4
    exact .inr z
/-- what slot i owns -/
def contD (r : Env) (i : Nat) : Option D := peek r (.bor i)
theorem cont_root {i : Nat} {a : Addr} {d : D} (S : Sim K T r Z s H) (w : OwnAt r s i a) (e : contD r i = some d) : Root K Z H a d := by
  obtain ⟨d', hd, rt⟩ := S.at w
  have z : d' = d := by
    rcases hd with hd | hd
    · simp only [contD, peek, hd] at e; exact Option.some.inj e
    · simp only [contD, peek, hd] at e; exact Option.some.inj e
  rw [← z]
  exact rt
theorem cont_at {i : Nat} {d : D} (S : Sim K T r Z s H) (e : contD r i = some d) : ∃ a, OwnAt r s i a ∧ s[i]? = some (some (.ref a)) := by
  have e : (match r[i]? with
    | some (.own d) => some d
    | some (.ino d) => some d
    | _ => none) = some d := e
  cases q : r[i]? with
  | none => rw [q] at e; cases e
  | some sl =>
    rw [q] at e
    cases sl with
    | own d' =>
      obtain ⟨a, e1, _⟩ := S.own i d' q
      exact ⟨a, ⟨d', .inl q, e1⟩, e1⟩
    | ino d' =>
      obtain ⟨a, e1, _⟩ := S.ino i d' q
      exact ⟨a, ⟨d', .inr q, e1⟩, e1⟩
    | _ => cases e
end
/-! ### o[i] = e -/
def dputK (ks : List Key) (k : Key) : List Key := if ks.any (fun x => decide (x = k)) = true then ks else ks ++ [k]
def dputV : List Key → List D → Key → D → List D
  | [], _, _, d => [d]
  | k' :: ks, v :: vs, k, d => if k' = k then d :: (if ks.any (fun x => decide (x = k)) = true then dputV ks vs k d else vs) else v :: dputV ks vs k d
  | _ :: _, [], _, _ => []
def setD : D → D → D → Option D
  | .lst xs, .int k, d => (L2.ixN xs.length k).map fun j => .lst (xs.set j d)
  | .dct ks vs, k, d => (keyD k).bind fun k => if ks.length < most then some (.dct (dputK ks k) (dputV ks vs k d)) else none
  | _, _, _ => none
theorem putK_keys (k : Key) (v : V) (kvs : List (Key × V)) : (putK kvs k v).map Prod.fst = dputK (kvs.map Prod.fst) k := by
  unfold putK dputK
  have e : (kvs.map Prod.fst).any (fun x => decide (x = k)) = kvs.any fun kv => decide (kv.1 = k) := by rw [List.any_map]; rfl
  rw [e]
  by_cases h : (kvs.any fun kv => decide (kv.1 = k)) = true
  · rw [if_pos h, if_pos h, List.map_map]
    apply List.map_congr_left
    intro p _
    show (if p.1 = k then (p.1, v) else p).1 = p.1
    split <;> rfl
  · rw [if_neg h, if_neg h, List.map_append]
    rfl
theorem putK_vals {K : Fr} {Z : Hp} {k : Key} {v : V} {d : D} (hv : Rep K Z d v) : ∀ {kvs : List (Key × V)} {ds : List D}, RepL K Z ds (kvs.map Prod.snd) → RepL K Z (dputV (kvs.map Prod.fst) ds k d) ((putK kvs k v).map Prod.snd)
  | [], ds, h => RepL.one hv
  | (k', v') :: r, ds, h => by
    cases ds with
    | nil =>
      have h : (k', v').2 :: r.map Prod.snd = [] := h
      cases h
    | cons d' ds =>
      obtain ⟨w, t, e, h1, h2⟩ := h
      injection e with e1 e2
      subst e1 e2
      have rec0 := putK_vals (k := k) hv h2
      have mapd : ∀ {l : List (Key × V)} {es : List D}, RepL K Z es (l.map Prod.snd) → (l.any fun kv => decide (kv.1 = k)) = false → RepL K Z es ((l.map fun kv => if kv.1 = k then (kv.1, v) else kv).map Prod.snd) := fun {l es} hl hn => by
        have : l.map (fun kv => if kv.1 = k then (kv.1, v) else kv) = l := by
          conv => rhs; rw [← List.map_id l]
          apply List.map_congr_left
          intro p hp
          have hk : ¬ p.1 = k := fun z => by
            have : (l.any fun kv => decide (kv.1 = k)) = true := List.any_eq_true.mpr ⟨p, hp, decide_eq_true z⟩
            rw [hn] at this; cases this
          rw [if_neg hk]; rfl
        rw [this]; exact hl
      have ea : (r.map Prod.fst).any (fun x => decide (x = k)) = r.any fun kv => decide (kv.1 = k) := by rw [List.any_map]; rfl
      unfold putK at rec0 ⊢
      show RepL K Z (if k' = k then d :: (if (r.map Prod.fst).any (fun x => decide (x = k)) = true then dputV (r.map Prod.fst) ds k d else ds) else d' :: dputV (r.map Prod.fst) ds k d) _
      rw [ea]
      have e0 : ((k', v') :: r).any (fun kv => decide (kv.1 = k)) = (decide (k' = k) || r.any fun kv => decide (kv.1 = k)) := rfl
      rw [e0]
      by_cases hk : k' = k
      · rw [if_pos hk, decide_eq_true hk, Bool.true_or, if_pos rfl, List.map_cons, List.map_cons]
        show RepL K Z _ ((if k' = k then (k', v) else (k', v')).2 :: _)
        rw [if_pos hk]
        refine .cons hv ?_
        by_cases hr : (r.any fun kv => decide (kv.1 = k)) = true
        · rw [if_pos hr]
          rw [if_pos hr] at rec0
          exact rec0
        · rw [if_neg hr]
          exact mapd h2 ((Bool.not_eq_true _).mp hr)
      · rw [if_neg hk, decide_eq_false hk, Bool.false_or]
        by_cases hr : (r.any fun kv => decide (kv.1 = k)) = true
        · rw [if_pos hr] at rec0 ⊢
          rw [List.map_cons, List.map_cons]
          show RepL K Z _ ((if k' = k then (k', v) else (k', v')).2 :: _)
          rw [if_neg hk]
          exact .cons h1 rec0
        · rw [if_neg hr] at rec0 ⊢
          exact .cons h1 rec0
/-- a list or a dict -/
def rSetA : TSet := fun o i v H Q => rSetL o i v H Q ∨ ∃ a kvs k, o = .ref a ∧ i = kV k ∧ H a = some (.dK kvs) ∧ kvs.length < sizeLine ∧ Q (upd H a (.dK (putK kvs k v)))
theorem set_any {X : Cx} (hu : X.A.units + 1 < cLine) : PSet X rSetA := by
  intro pins s σ H o i v ov iv u Q I ro ri rv h
  rcases h with h | h
  · exact set_list pins s σ H o i v ov iv u Q I ro ri rv h
  · obtain ⟨a, kvs, k, rfl, rfl, e, hl, q⟩ := h
    obtain rfl : ov = Value.ref a := ro
    exact d_setItem hu I (DPut.k e hl) ri rv fun s' I' => ⟨_, I', q⟩
def sPut (i : Nat) (fi fv : Den) : DenS := fun r => (fz (fv r)).then fun x r1 => match contD r1 i with
  | none => .stuck
  | some _ => (fz (fi r1)).then fun y r2 => match take x, peek r2 y, contD r2 i with
    | some d, some k, some c => (match setD c k d with
      | some c' => .nx (putS i c' r2)
      | none => .stuck)
    | _, _, _ => .stuck
theorem ev_slot {K : Fr} {T : An} {W : WX} {s : L2.St} {r : Env} {Z H : Hp} {i : Nat} {d : D} {Q : VK} (S : Sim K T r Z s H) (e : contD r i = some d) (h : ∀ a, OwnAt r s i a → Q (.ref a) H) : tVar i s H Q := by
  obtain ⟨a, w, e1⟩ := cont_at S e
  exact ⟨.ref a, e1, h a w⟩
theorem set_ok {K : Fr} {Z H : Hp} {a : Addr} {c k d c' : D} {vk v : V} {Q : Hp → Prop} (sb : Same Z H) (q : Root K Z H a c) (ck : Con K Z H vk k) (rv : Rep K Z d v) (e : setD c k d = some c') (h : ∀ o, Root K Z (upd H a o) a c' → Q (upd H a o)) : rSetA (.ref a) vk v H Q := by
  cases c with
  | lst xs =>
    obtain ⟨z, vs, e1, rr⟩ := q
    cases k with
    | int n =>
      obtain rfl : vk = .int n := ck
      have e : (L2.ixN xs.length n).map (fun j => D.lst (xs.set j d)) = some c' := e
      cases w : L2.ixN xs.length n with
      | none => rw [w] at e; cases e
      | some j =>
        rw [w] at e
        cases e
        exact .inl ⟨a, vs, n, j, rfl, rfl, e1, by rw [rr.length]; exact w, h _ ⟨z, _, upd_same, RepL.set rv j rr⟩⟩
    | _ => cases e
  | dct ks ds =>
    obtain ⟨z, kvs, e1, e2, rr⟩ := q
    have e : (keyD k).bind (fun k => if ks.length < most then some (D.dct (dputK ks k) (dputV ks ds k d)) else none) = some c' := by cases k <;> exact e
    cases w : keyD k with
    | none => rw [w] at e; cases e
    | some kk =>
      rw [w] at e
      have e : (if ks.length < most then some (D.dct (dputK ks kk) (dputV ks ds kk d)) else none) = some c' := e
      by_cases hl : ks.length < most
      · rw [if_pos hl] at e
        cases e
        have hl2 : kvs.length < sizeLine := by
          have : kvs.length = ks.length := by rw [← e2, List.length_map]
          rw [this]
          exact Nat.lt_of_lt_of_le hl (most_le (Nat.le_refl _))
        refine .inr ⟨a, kvs, kk, rfl, keyD_con ck w, e1, hl2, h _ ⟨z, _, upd_same, ?_, ?_⟩⟩
        · rw [← e2]; exact putK_keys kk v kvs
        · rw [← e2]; exact putK_vals rv rr
      · rw [if_neg hl] at e; cases e
  | _ => cases k <;> cases e
section
variable {X : Cx} {T : An} {W : WX} {pos : Pos} {e ie : Expr} {fi fv : Den}
theorem ds_put {i : Nat} {x : Str} {p1 p2 : Pos} (hu : X.A.units + 1 < cLine) (hv : PE X (.Name x p1) (tVar i)) (hi : PE X ie (tE X.K T W fi)) (he : PE X e (tE X.K T W fv))
    (ha : ∀ v, assign (.Subscript (.Name x p1) ie p2) X.env v = (do
      let ov ← holding [v] (eval (.Name x p1) X.env)
      let iv ← holding [v, ov] (eval ie X.env)
      standAt p2
      holding [v, ov, iv] (setItem ov iv v)
      release [v, ov, iv] [])) (hs : swapsWithSole [.Subscript (.Name x p1) ie p2] e pos.line X.env = pure false) (hw : swappedStores [.Subscript (.Name x p1) ie p2] e X.env = pure none)
    (h1 : (assignEach [.Subscript (.Name x p1) ie p2] X.env).map (·.2) = [assign (.Subscript (.Name x p1) ie p2) X.env]) :
    PS X (.Assign [.Subscript (.Name x p1) ie p2] e pos) (tS X.K T W (sPut i fi fv)) := (ps_asg (pe_fz he) (pg_sub hv (pe_fz hi) (set_any hu) ha) hs hw h1).less fun En s H h => by
  obtain ⟨r, Z, S, h⟩ := h
  refine ⟨r, Z, S, (tG.stm S h).mono fun v H1 h1 => ?_⟩
  obtain ⟨x, r1, Z1, S1, k1, f1, o1, h1⟩ := h1
  cases ec : contD r1 i with
  | none => rw [ec] at h1; exact h1.elim
  | some c0 =>
    rw [ec] at h1
    refine ev_slot (W := W) S1 ec fun a w => ?_
    refine ⟨r1, Z1, S1, (tG.stm S1 h1).mono fun vk H2 h2 => ?_⟩
    obtain ⟨y, r2, Z2, S2, k2, f2, o2, h2⟩ := h2
    have o1' : RelF X.K T s H r2 Z2 H2 v x := RelF.stay o1 S1 k2 f2
    cases p1 : take x with
    | none => rw [p1] at h2; exact h2.elim
    | some d =>
      cases p2 : peek r2 y with
      | none => rw [p1, p2] at h2; exact h2.elim
      | some k =>
        cases p3 : contD r2 i with
        | none => rw [p1, p2, p3] at h2; exact h2.elim
        | some c =>
          rw [p1, p2, p3] at h2
          have h2 : tGS X.K T W (match setD c k d with | some c' => .nx (putS i c' r2) | none => .stuck) Z2 En := h2
          cases p4 : setD c k d with
          | none => rw [p4] at h2; exact h2.elim
          | some c' =>
            rw [p4] at h2
            have w2 : OwnAt r2 s i a := k2.ownAt w
            refine set_ok S2.sub (cont_root S2 w2 p3) (o2.con S2 p2) (o1'.rep p1) p4 fun o q => ?_
            obtain ⟨S3, _, _⟩ := putS_of S2 w2 q
            exact h2 s _ Z2 S3 (Same.refl _)
end

/-! ### methods that change a list -/
/-- new contents, the answer -/
abbrev MutD := D → List D → Option (D × D)
def appendD : MutD
  | .lst xs, [d] => if xs.length < most then some (.lst (xs ++ [d]), .non) else none
  | _, _ => none
def popD : MutD
  | .lst xs, [] => (xs[xs.length - 1]?).map fun d => (.lst xs.dropLast, d)
  | _, _ => none
def extendD : MutD
  | .lst xs, [.lst ys] => if xs.length + ys.length ≤ most then some (.lst (xs ++ ys), .non) else none
  | _, _ => none
def reverseD : MutD
  | .lst xs, [] => some (.lst xs.reverse, .non)
  | _, _ => none
def eMut (op : MutD) (i : Nat) (l : DenL) : Den := fun r => match contD r i with
  | none => .stuck
  | some (.lst _) => (l r).bind fun xs r1 => (match contD r1 i, takes xs with
    | some c, some ds => (match op c ds with
      | some p => .ok (.val p.2) (putS i p.1 r1)
      | none => .stuck)
    | _, _ => .stuck)
  | some _ => .stuck
def MutOk (K : Fr) (op : MutD) (R : V → List V → Hp → VK → Prop) : Prop := ∀ (Z H : Hp) (a : Addr) (c : D) (ds : List D) (vs : List V) (c' x : D) (Q : VK), Same Z H → Root K Z H a c → RepL K Z ds vs → op c ds = some (c', x) →
  (∀ o v, Root K Z (upd H a o) a c' → Rep K Z x v → Q v (upd H a o)) → R (.ref a) vs H Q
theorem RepL.dropLast {K : Fr} {Z : Hp} : ∀ {ds : List D} {vs : List V}, RepL K Z ds vs → RepL K Z ds.dropLast vs.dropLast
  | [], vs, h => by
    have h : vs = [] := h
    subst h
    exact RepL.nil
  | [d], vs, h => by
    obtain ⟨v, t, rfl, h1, h2⟩ := h
    have h2 : t = [] := h2
    subst h2
    exact RepL.nil
  | d :: e :: ds, vs, h => by
    obtain ⟨v, t, rfl, h1, h2⟩ := h
    obtain ⟨w, t2, rfl, h3, h4⟩ := id h2
    exact .cons h1 (RepL.dropLast h2)
theorem mut_append {K : Fr} : MutOk K appendD rAppend := fun Z H a c ds vs c' x Q sb q rr e h => by
  match c, ds, e with
  | .lst xs, [d], e =>
    obtain ⟨z, ws, e1, r1⟩ := q
    obtain ⟨v, t, rfl, h1, h2⟩ := rr
    have h2 : t = [] := h2
    subst h2
    have e : (if xs.length < most then some (D.lst (xs ++ [d]), D.non) else none) = some (c', x) := e
    by_cases hl : xs.length < most
    · rw [if_pos hl] at e
      cases e
      exact ⟨a, ws, v, rfl, rfl, e1, by rw [r1.length]; exact Nat.lt_of_lt_of_le hl (most_le (Nat.le_refl _)), h _ .non ⟨z, _, upd_same, r1.append (RepL.one h1)⟩ rfl⟩
    · rw [if_neg hl] at e; cases e
theorem mut_pop {K : Fr} : MutOk K popD rPop := fun Z H a c ds vs c' x Q sb q rr e h => by
  match c, ds, e with
  | .lst xs, [], e =>
    obtain ⟨z, ws, e1, r1⟩ := q
    have rr : vs = [] := rr
    subst rr
    have e : (xs[xs.length - 1]?).map (fun d => (D.lst xs.dropLast, d)) = some (c', x) := e
    cases w : xs[xs.length - 1]? with
    | none => rw [w] at e; cases e
    | some d =>
      rw [w] at e
      cases e
      obtain ⟨v, hv, rv⟩ := r1.get w
      exact ⟨a, ws, v, rfl, rfl, e1, by rw [r1.length]; exact hv, h _ v ⟨z, _, upd_same, r1.dropLast⟩ rv⟩
theorem mut_extend {K : Fr} : MutOk K extendD rExtend := fun Z H a c ds vs c' x Q sb q rr e h => by
  match c, ds, e with
  | .lst xs, [.lst ys], e =>
    obtain ⟨z, ws, e1, r1⟩ := q
    obtain ⟨v, t, rfl, h1, h2⟩ := rr
    have h2 : t = [] := h2
    subst h2
    obtain ⟨b, us, rfl, e2, r2⟩ := h1
    have e : (if xs.length + ys.length ≤ most then some (D.lst (xs ++ ys), D.non) else none) = some (c', x) := e
    by_cases hl : xs.length + ys.length ≤ most
    · rw [if_pos hl] at e
      cases e
      exact ⟨a, b, ws, us, rfl, rfl, e1, sb _ _ e2, by rw [r1.length, r2.length]; exact most_le hl, h _ .non ⟨z, _, upd_same, r1.append r2⟩ rfl⟩
    · rw [if_neg hl] at e; cases e
theorem mut_reverse {K : Fr} : MutOk K reverseD rReverse := fun Z H a c ds vs c' x Q sb q rr e h => by
  match c, ds, e with
  | .lst xs, [], e =>
    obtain ⟨z, ws, e1, r1⟩ := q
    have rr : vs = [] := rr
    subst rr
    cases e
    exact ⟨a, ws, rfl, rfl, e1, h _ .non ⟨z, _, upd_same, r1.reverse⟩ rfl⟩
section
variable {X : Cx} {T : An} {W : WX} {op : MutD} {R : V → List V → Hp → VK → Prop} {i : Nat} {l : DenL}
theorem mut_core (ho : MutOk X.K op R) {s : L2.St} {H : Hp} {Q : VK} (h : tE X.K T W (eMut op i l) s H Q) : tVar i s H fun x H1 => tyV X.K "list" x H1 ∧ tL X.K T W l s H1 fun vs H2 => R x vs H2 Q := by
  obtain ⟨r, Z, S, h⟩ := h
  unfold eMut at h
  cases ec : contD r i with
  | none => rw [ec] at h; exact h.elim
  | some c0 =>
    rw [ec] at h
    cases c0 with
    | lst xs0 =>
      refine ev_slot (W := W) S ec fun a w => ?_
      obtain ⟨_, vs0, e0, _⟩ := cont_root S w ec
      refine ⟨.inl ⟨rfl, vs0, SqL.of e0⟩, r, Z, S, (tG.bind fwdE h).mono fun vs H1 h1 => ?_⟩
      obtain ⟨xs, r1, Z1, S1, k1, f1, o1, h1⟩ := h1
      have w1 : OwnAt r1 s i a := k1.ownAt w
      cases p1 : contD r1 i with
      | none => rw [p1] at h1; exact h1.elim
      | some c =>
        cases p2 : takes xs with
        | none => rw [p1, p2] at h1; exact h1.elim
        | some ds =>
          rw [p1, p2] at h1
          have h1 : tG X.K T W (RelE X.K T s) s (match op c ds with | some p => .ok (.val p.2) (putS i p.1 r1) | none => .stuck) r1 Z1 H1 Q := h1
          cases p3 : op c ds with
          | none => rw [p3] at h1; exact h1.elim
          | some p =>
            rw [p3] at h1
            obtain ⟨c', x⟩ := p
            refine ho Z1 H1 a c ds vs c' x Q S1.sub (cont_root S1 w1 p1) (RvsOk.takes o1 p2) p3 fun o v q rv => ?_
            obtain ⟨S3, k3, f3⟩ := putS_of S1 w1 q
            exact h1 v _ Z1 S3 k3 f3 rv
    | _ => exact h.elim
variable {x : Str} {p1 : Pos} {name : Str} {apos cpos : Pos} {id : String} {e : Expr} {es : List Expr}
theorem de_mut (ho : MutOk X.K op R) (pa : PlainAttrs "list") (slot : PySem.Slot "list" name id) (hty : typeOf (.builtin id) = pure (.type "method_descriptor")) (hm : MtR X id R) (hv : PE X (.Name x p1) (tVar i)) (ha : PA X (e :: es) (tL X.K T W l))
    (hbase : attributeBase (.Name x p1) name X.env (eval (.Name x p1) X.env) = eval (.Name x p1) X.env)
    (hfew : ((backTo cpos (starEach (e :: es) X.env)).all (fun x => !x.1) && (backToKw cpos (keywordEach [] X.env)).all (fun x => x.1.isSome)
      && decide ((e :: es).length + ([] : List Keyword).length + (if ([] : List Keyword).isEmpty then 0 else 1) < 30)) = true)
    (hline : (apos.endLine == cpos.line) = true) (hs : starEach (e :: es) X.env = (false, eval e X.env) :: starEach es X.env) (hplain : (backTo cpos (starEach es X.env)).any (·.1) = false) :
    PE X (.Call (.Attribute (.Name x p1) name apos) (e :: es) [] cpos) (tE X.K T W (eMut op i l)) := (pe_bm pa slot hty hm hv ha hbase hfew hline hs hplain).less fun s H Q h => mut_core ho h
theorem de_mut0 (ho : MutOk X.K op R) (pa : PlainAttrs "list") (slot : PySem.Slot "list" name id) (hty : typeOf (.builtin id) = pure (.type "method_descriptor")) (hm : MtR X id R) (hv : PE X (.Name x p1) (tVar i))
    (hbase : attributeBase (.Name x p1) name X.env (eval (.Name x p1) X.env) = eval (.Name x p1) X.env) (hline : (apos.endLine == cpos.line) = true) :
    PE X (.Call (.Attribute (.Name x p1) name apos) [] [] cpos) (tE X.K T W (eMut op i dNil)) := (pe_bm0 pa slot hty hm hv hbase hline).less fun s H Q h => by
  obtain ⟨v, e1, ty, q⟩ := mut_core ho h
  exact ⟨v, e1, ty, tL_nil q⟩
end
end Ev
namespace Ev
open PySem PySem.Spec PyProof.Rows L2

/-! ### fields -/
def fldD : List Str → List D → Str → Option D
  | n :: ns, d :: ds, f => if n = f then some d else fldD ns ds f
  | _, _, _ => none
def fldO (cn f : Str) : D → Option RV
  | .obj c ns ds => if c = cn then (fldD ns ds f).map .val else none
  | _ => none
def putN (f : Str) : List Str → List Str
  | [] => [f]
  | n :: ns => if n = f then n :: ns else n :: putN f ns
def putV (f : Str) (d : D) : List Str → List D → List D
  | [], _ => [d]
  | n :: ns, x :: xs => if n = f then d :: xs else x :: putV f d ns xs
  | _ :: _, [] => []
section
variable {K : Fr} {Z : Hp}
theorem look_cons {f n : Str} {v : V} {r : List (Str × V)} : ((n, v) :: r).lookup f = if n = f then some v else r.lookup f := by
  by_cases h : n = f
  · subst h
    rw [if_pos rfl]
    simp [List.lookup]
  · have e : (f == n) = false := by simpa using fun z : f = n => h z.symm
    rw [if_neg h]
    simp [List.lookup, e]
theorem fldD_ok {f : Str} {d : D} : ∀ {hf : List (Str × V)} {ds : List D}, RepL K Z ds (hf.map Prod.snd) → fldD (hf.map Prod.fst) ds f = some d → ∃ v, hf.lookup f = some v ∧ Rep K Z d v
  | [], ds, _, e => by cases ds <;> cases e
  | (n, v) :: r, [], h, _ => by
    have h : v :: r.map Prod.snd = [] := h
    cases h
  | (n, v) :: r, d' :: ds, h, e => by
    obtain ⟨w, t, e1, h1, h2⟩ := h
    injection e1 with e2 e3
    subst e2 e3
    have e : (if n = f then some d' else fldD (r.map Prod.fst) ds f) = some d := e
    rw [look_cons]
    by_cases hn : n = f
    · rw [if_pos hn] at e ⊢
      cases e
      exact ⟨_, rfl, h1⟩
    · rw [if_neg hn] at e ⊢
      exact fldD_ok h2 e
theorem putF_names {f : Str} {v : V} : ∀ hf : List (Str × V), (putF f v hf).map Prod.fst = putN f (hf.map Prod.fst)
  | [] => rfl
  | (n, x) :: r => by
    show ((if n = f then (n, v) :: r else (n, x) :: putF f v r).map Prod.fst) = if n = f then n :: r.map Prod.fst else n :: putN f (r.map Prod.fst)
    by_cases h : n = f
    · rw [if_pos h, if_pos h]; rfl
    · rw [if_neg h, if_neg h, List.map_cons, putF_names r]
theorem putF_vals {f : Str} {v : V} {d : D} (hv : Rep K Z d v) : ∀ {hf : List (Str × V)} {ds : List D}, RepL K Z ds (hf.map Prod.snd) → RepL K Z (putV f d (hf.map Prod.fst) ds) ((putF f v hf).map Prod.snd)
  | [], ds, _ => RepL.one hv
  | (n, x) :: r, [], h => by
    have h : x :: r.map Prod.snd = [] := h
    cases h
  | (n, x) :: r, d' :: ds, h => by
    obtain ⟨w, t, e1, h1, h2⟩ := h
    injection e1 with e2 e3
    subst e2 e3
    show RepL K Z (if n = f then d :: ds else d' :: putV f d (r.map Prod.fst) ds) ((if n = f then (n, v) :: r else (n, x) :: putF f v r).map Prod.snd)
    by_cases hn : n = f
    · rw [if_pos hn, if_pos hn]; exact .cons hv h2
    · rw [if_neg hn, if_neg hn]; exact .cons h1 (putF_vals hv h2)
end
/-- e.f, e of the class cn -/
abbrev eFld (cn f : Str) (e : Den) : Den := eUn (fldO cn f) e
/-- name.f = e -/
def sFldPut (i : Nat) (cn f : Str) (fv : Den) : DenS := fun r => (fz (fv r)).then fun x r1 => match take x, contD r1 i with
  | some d, some (.obj c ns ds) => if c = cn ∧ ns.length < 1000 then .nx (putS i (.obj c (putN f ns) (putV f d ns ds)) r1) else .stuck
  | _, _ => .stuck
section
variable {X : Cx} {T : An} {W : WX} {pos p1 p2 : Pos} {e : Expr} {fe fv : Den} {cn f x : Str} {i : Nat}
theorem de_fld (c : Cls X.K (He.ga X.K cn)) (n : NoAttr X.K (He.ga X.K cn) f) (he : PE X e (tE X.K T W fe)) (hb : attributeBase e f X.env (eval e X.env) = eval e X.env) : PE X (.Attribute e f pos) (tE X.K T W (eFld cn f fe)) :=
  (pe_fld (pe_fz he) hb).less fun s H Q h => tE_un (R := fun x H1 Q => ∃ a C dx fs v, x = .ref a ∧ H1 a = some (.ins C dx fs) ∧ Cls X.K C ∧ NoAttr X.K C f ∧ fs.lookup f = some v ∧ Q v H1) (fun s r Z H v d x Q S co q h => by
    cases d with
    | obj cc ns ds =>
      obtain ⟨a, dx, hf, rfl, e1, e2, rr⟩ := co
      have q1 : (if cc = cn then (fldD ns ds f).map RV.val else none) = some x := q
      clear q
      by_cases hcc : cc = cn
      · rw [if_pos hcc] at q1
        subst hcc
        cases w : fldD ns ds f with
        | none => rw [w] at q1; cases q1
        | some d =>
          rw [w] at q1
          cases q1
          rw [← e2] at w
          obtain ⟨u, hu, ru⟩ := fldD_ok rr w
          exact ⟨a, _, dx, hf, u, rfl, e1, c, n, hu, ends S h ru⟩
      · rw [if_neg hcc] at q1; cases q1
    | _ => cases q) h
theorem ds_fld (c : Cls X.K (He.ga X.K cn)) (n : NoAttr X.K (He.ga X.K cn) f) (hv : PE X (.Name x p1) (tVar i)) (he : PE X e (tE X.K T W fv)) (hs : swapsWith e (some (.Attribute (.Name x p1) f p2)) pos.line X.env = pure false) :
    PS X (.Assign [.Attribute (.Name x p1) f p2] e pos) (tS X.K T W (sFldPut i cn f fv)) := (ps_fld hv (pe_fz he) hs).less fun En s H h => by
  obtain ⟨r, Z, S, h⟩ := h
  refine ⟨r, Z, S, (tG.stm S h).mono fun v H1 h1 => ?_⟩
  obtain ⟨x, r1, Z1, S1, k1, f1, o1, h1⟩ := h1
  cases q1 : take x with
  | none => rw [q1] at h1; exact h1.elim
  | some d =>
    cases q2 : contD r1 i with
    | none => rw [q1, q2] at h1; exact h1.elim
    | some c0 =>
      rw [q1, q2] at h1
      cases c0 with
      | obj cc ns ds =>
        have h9 : tGS X.K T W (if cc = cn ∧ ns.length < 1000 then .nx (putS i (.obj cc (putN f ns) (putV f d ns ds)) r1) else .stuck) Z1 En := h1
        clear h1
        by_cases hcc : cc = cn ∧ ns.length < 1000
        · rw [if_pos hcc] at h9
          obtain ⟨rfl, hl⟩ := hcc
          refine ev_slot (W := W) S1 q2 fun a w => ?_
          obtain ⟨z, dx, hf, e1, e2, rr⟩ := cont_root S1 w q2
          refine ⟨a, _, dx, hf, rfl, e1, c, n, by have : hf.length = ns.length := by rw [← e2, List.length_map]
                                                  omega, ?_⟩
          have q : Root X.K Z1 (upd H1 a (.ins (He.ga X.K cc) dx (putF f v hf))) a (.obj cc (putN f ns) (putV f d ns ds)) := ⟨z, dx, _, upd_same, by rw [putF_names, e2], by rw [← e2]; exact putF_vals (o1.rep q1) rr⟩
          obtain ⟨S3, _, _⟩ := putS_of S1 w q
          exact h9 s _ Z1 S3 (Same.refl _)
        · rw [if_neg hcc] at h9; exact h9.elim
      | _ => exact h1.elim
end

/-! ### a new instance -/
def madeR (r : Env) : FRes → Res RV
  | .ret (.val .non) out => .ok (.own out) r
  | .exc e _ => .exc e r
  | _ => .stuck
/-- C(..): q puts the values behind self in the parameters' order (self counts as the first) -/
def eMake (cn : Str) (F : Fun) (n m : Nat) (q : List Nat) (dd : List D) (l lk : DenL) : Den := fun r => (l r).bind fun xs r1 => (lk r1).bind fun ys r2 =>
  if xs.length = n ∧ ys.length = m then (match takes (pick q (.val .non :: (xs ++ (ys ++ dd.map .val)))) with
    | some ds => madeR r2 (F (.obj cn [] [] :: ds))
    | none => .stuck) else .stuck
section
variable {K : Fr} {T : An} {W : WX} {r : Env} {Z H : Hp} {s : L2.St}
theorem make_core {cn : Str} {F : Fun} {N : Nat} {vs : List V} {ds : List D} {Q : VK} {x dx : Addr} (S : Sim K T r Z s H) (rr : RepL K Z ds vs) (hx : H x = none) (hd : H dx = none) (hne : dx ≠ x) (hn : vs.length + 1 = N)
    (h : tG K T W (RelE K T s) s (madeR r (F (.obj cn [] [] :: ds))) r Z H Q) :
    spF K (some 0) N F (.ref x :: vs) (upd (upd H dx (.own x)) x (.ins (He.ga K cn) dx [])) (fun v H2 => v = .non ∧ Q (.ref x) H2) fun cls d H' => W cls d s H' := by
  have S1 : Sim K T r Z s (upd H dx (.own x)) := S.laid _ hd
  have hx1 : upd H dx (.own x) x = none := by rw [upd_ne (Ne.symm hne)]; exact hx
  have S2 : Sim K T r Z s (upd (upd H dx (.own x)) x (.ins (He.ga K cn) dx [])) := S1.laid _ hx1
  have up : ∀ a o, H a = some o → upd (upd H dx (.own x)) x (.ins (He.ga K cn) dx []) a = some o := fun a o e => by
    rw [upd_ne (ne_of_none e hx), upd_ne (ne_of_none e hd)]; exact e
  have zx : Z x = none := (S.free hx).2.1
  refine ⟨hn, Z, .obj cn [] [] :: ds, some x, S2.sub, ⟨by rw [List.length_cons, List.length_cons, rr.length], fun i v d hi hv hd' => ?_, fun i v d hi hv hd' => ?_, fun e => (nomatch e), fun a e => ?_⟩, ?_⟩
  · cases i with
    | zero => exact (hi rfl).elim
    | succ i =>
      obtain ⟨u, hu, ru⟩ := rr.get (show ds[i]? = some d by simpa using hd')
      have : vs[i]? = some v := by simpa using hv
      rw [this] at hu; cases hu
      exact ru
  · cases hi
    have hv : some (V.ref x) = some v := by simpa using hv
    have hd' : some (D.obj cn [] []) = some d := by simpa using hd'
    cases hv
    cases hd'
    exact ⟨x, rfl, rfl, zx, dx, [], upd_same, rfl, rfl⟩
  · cases e
    rw [upd_same]
    exact ⟨by simp, zx⟩
  · have bk : ∀ {Z' H' out}, Aft K Z (upd (upd H dx (.own x)) x (.ins (He.ga K cn) dx [])) (some x) Z' H' out → Sim K T r Z' s H' ∧ Frm r s H Z H' Z' ∧ Root K Z' H' x out := fun {Z' H' out} A => by
      have rt := A.root x rfl
      obtain ⟨o, ho⟩ := rt.there
      have hl : ∀ a, some x = some a → H' a ≠ none := fun a e => by cases e; rw [ho]; simp
      have no : ∀ i, ¬ OwnAt r s i x := fun i w => by
        obtain ⟨d', _, q⟩ := S.at w
        obtain ⟨u, e⟩ := q.there
        rw [hx] at e; cases e
      refine ⟨S2.back (j := none) A (fun i a e w => by cases e; exact (no i w).elim) (fun i e => by cases e) (fun a e => by cases e; exact .inl (S.free hx).1) hl, ⟨fun a u e _ => A.keep a u (up a u e) fun z => ?_, fun a e => A.zed a ?_, fun a e => ?_⟩, rt⟩
      · cases z; rw [hx] at e; cases e
      · cases w : H a with
        | none => exact (e w).elim
        | some u => rw [up a u w]; simp
      · cases w : H a with
        | none => exact (e w).elim
        | some u => rw [A.keep a u (up a u w) fun z => by cases z; rw [hx] at w; cases w]; simp
    cases q : F (.obj cn [] [] :: ds) with
    | stuck => rw [q] at h; exact h.elim
    | exc ex out =>
      rw [q] at h
      intro cls d Z' H' A o
      obtain ⟨S', f', _⟩ := bk A
      exact h cls d H' Z' S' (Kin.refl _) f' o
    | ret y out =>
      rw [q] at h
      cases y with
      | val d =>
        cases d with
        | non =>
          intro v Z' H' A o
          obtain ⟨S', f', rt⟩ := bk A
          refine ⟨o, h (.ref x) H' Z' S' (Kin.refl _) f' ⟨x, rfl, rt, (S.free hx).1, fun i w => ?_, hx⟩⟩
          obtain ⟨d', _, q⟩ := S.at w
          obtain ⟨u, e⟩ := q.there
          rw [hx] at e; cases e
        | _ => exact h.elim
      | _ => exact h.elim
end
section
variable {X : Cx} {T : An} {W : WX} {k n : Nat} {C f : Addr} {fd : FuncData} {ps ks : List Str} {F : Fun} {q : List Nat} {dd : List D} {cn : Str} {e : Expr} {es : List Expr} {kws : List Keyword} {l lk : DenL} {p pos : Pos}
theorem pick_tail {α : Type} {a b : α} {l : List α} : ∀ q : List Nat, (∀ i ∈ q, i ≠ 0) → pick q (a :: l) = pick q (b :: l)
  | [], _ => rfl
  | 0 :: q, h => (h 0 List.mem_cons_self rfl).elim
  | (i + 1) :: q, h => by
    have ih := pick_tail (a := a) (b := b) (l := l) q fun j hj => h j (List.mem_cons_of_mem _ hj)
    unfold pick at ih ⊢
    rw [List.filterMap_cons, List.filterMap_cons, ih]
    rfl
theorem make_two {s : L2.St} {H : Hp} {Q : VK} {N : Nat} (hN : ∀ xs ys : List RV, xs.length = n → ys.length = ks.length → (pick q (.val .non :: (xs ++ (ys ++ dd.map .val)))).length + 1 = N) (h0 : ∀ i ∈ q, i ≠ 0) (h : tE X.K T W (eMake cn F n ks.length q dd l lk) s H Q) :
    tL X.K T W l s H fun vs H1 => tL X.K T W lk s H1 fun zs H2 => vs.length = n ∧ zs.length = ks.length ∧ ∀ dvs, (∀ Z, RepL X.K Z dd dvs) → ∀ x dx, H2 x = none → H2 dx = none → dx ≠ x →
      spF X.K (some 0) N F (pick (0 :: q) ((.ref x :: vs) ++ (zs ++ dvs))) (upd (upd H2 dx (.own x)) x (.ins (He.ga X.K cn) dx [])) (fun v H3 => v = .non ∧ Q (.ref x) H3) fun cls d H' => W cls d s H' := by
  obtain ⟨r, Z, S, h⟩ := h
  refine ⟨r, Z, S, (tG.bind fwdE h).mono fun vs H1 h1 => ?_⟩
  obtain ⟨xs, r1, Z1, S1, k1, f1, o1, h1⟩ := h1
  refine ⟨r1, Z1, S1, (tG.bind fwdE h1).mono fun zs H2 h2 => ?_⟩
  obtain ⟨ys, r2, Z2, S2, k2, f2, o2, h2⟩ := h2
  have o1 : RvsOk X.K T s r1 Z1 H1 vs xs := o1
  have o2 : RvsOk X.K T s r2 Z2 H2 zs ys := o2
  have h2 : tG X.K T W (RelE X.K T s) s (if xs.length = n ∧ ys.length = ks.length then (match takes (pick q (.val .non :: (xs ++ (ys ++ dd.map .val)))) with
    | some ds => madeR r2 (F (.obj cn [] [] :: ds))
    | none => .stuck) else .stuck) r2 Z2 H2 Q := h2
  by_cases hc : xs.length = n ∧ ys.length = ks.length
  · rw [if_pos hc] at h2
    refine ⟨o1.length.trans hc.1, o2.length.trans hc.2, fun dvs hd x dx hx hdx hne => ?_⟩
    have o3 := RvsOk.cons (v := V.non) (x := .val .non) (K := X.K) (T := T) (s := s) (r := r2) (Z := Z2) (H := H2) ⟨rfl, rfl⟩ ((o1.stay S1 k2 f2).append (o2.append (rvs_vals (K := X.K) (T := T) (s := s) (r := r2) (H := H2) (hd Z2))))
    have o4 := o3.pick q
    cases w : takes (pick q (.val .non :: (xs ++ (ys ++ dd.map .val)))) with
    | none => rw [w] at h2; exact h2.elim
    | some ds =>
      rw [w] at h2
      have rr := RvsOk.takes o4 w
      have eq : pick (0 :: q) ((V.ref x :: vs) ++ (zs ++ dvs)) = .ref x :: pick q (V.non :: (vs ++ (zs ++ dvs))) := by
        have e2 : pick q (V.ref x :: (vs ++ (zs ++ dvs))) = pick q (V.non :: (vs ++ (zs ++ dvs))) := by
          exact pick_tail q h0
        rw [← e2]
        rfl
      rw [eq]
      have hlen : (pick q (V.non :: (vs ++ (zs ++ dvs)))).length + 1 = N := by
        rw [o4.length]
        exact hN xs ys hc.1 hc.2
      exact make_core S2 rr hx hdx hne hlen h2
  · rw [if_neg hc] at h2
    exact h2.elim
theorem make_run {pins : List (Addr × Obj)} {σ : L2.St} {H : Hp} {s : Shared} {Q : VK} {N : Nat} {us ws : List Value} {vs zs : List V} (M : Mk X.K C f) (Fg : FnG X.prog X.w X.K X.mg X.base (CXW X) k f fd ps (spF X.K (some 0) N F)) (hr : Room (k + 1) X.A) (hc : Calm X.A)
    (hb : BindG X.K fd ps (n + 1) ks (0 :: q) dd) (tk : Takes X W) (I : Inv X pins σ H s) (r : Vals vs us) (rz : Vals zs ws) (l1 : vs.length = n) (l2 : zs.length = ks.length)
    (h : ∀ dvs, (∀ Z, RepL X.K Z dd dvs) → ∀ x dx, H x = none → H dx = none → dx ≠ x → spF X.K (some 0) N F (pick (0 :: q) ((.ref x :: vs) ++ (zs ++ dvs))) (upd (upd H dx (.own x)) x (.ins C dx [])) (fun v H3 => v = .non ∧ Q (.ref x) H3) fun cls d H' => W cls d σ H') :
    wpAny (model X.prog X.w) X.A (call (.ref C) us (ks.zip ws)) (EP X pins σ Q) X.xe s := by
  obtain ⟨dvs, dus, rd, rep, bt⟩ := hb
  have I2 := Inv.made (C := C) I
  have sp := h dvs rep (s.heap.objs.size + 1) s.heap.objs.size (I.hok.fresh (Nat.le_succ _)) (I.hok.fresh (Nat.le_refl _)) (Nat.ne_of_lt (Nat.lt_succ_self _))
  have rs : Vals (V.ref (s.heap.objs.size + 1) :: vs) (Value.ref (s.heap.objs.size + 1) :: us) := .cons rfl r
  have b := bt _ (Value.ref (s.heap.objs.size + 1) :: us) ws I2.kIn (by rw [List.length_cons, ← r.length, l1]) (rz.length.symm.trans l2)
  refine wpAny_call (make_map (f := f) I.kIn M.makes M.init (beq_iff_eq.mp M.fn) (codeAny_mono (Fg.go _ X.stack _ _ ⟨Value.ref (s.heap.objs.size + 1) :: us, ks.zip ws⟩ _ _ _ _ (hr.make C us (ks.zip ws)) (hc.make C us (ks.zip ws)) (I2.env0.make C us (ks.zip ws)) b (vals_pick (rs.append (rz.append rd)) (0 :: q)) sp) fun z s' hq => ?_))
  cases z with
  | error e => exact passesW tk σ pins _ _ e s' I2 hq
  | ok fl =>
    cases fl with
    | ret u => exact let ⟨v, H', I3, rv, ev, q3⟩ := I2.after hq; by subst ev; exact ⟨rv, V.ref (s.heap.objs.size + 1), H', I3, rfl, q3⟩
    | next => exact hq.elim
    | brk => exact hq.elim
    | cont => exact hq.elim
/-- C(e, ..) -/
theorem de_make {N : Nat} (M : Mk X.K (He.ga X.K cn) f) (Fg : FnG X.prog X.w X.K X.mg X.base (CXW X) k f fd ps (spF X.K (some 0) N F)) (hr : Room (k + 1) X.A) (hc : Calm X.A) (hg : Gl X cn) (hm : X.mg cn = some (.ref (He.ga X.K cn))) (hb : BindG X.K fd ps (n + 1) [] (0 :: q) dd) (tk : Takes X W)
    (hN : ∀ xs ys : List RV, xs.length = n → ys.length = 0 → (pick q (.val .non :: (xs ++ (ys ++ dd.map .val)))).length + 1 = N) (h0 : ∀ i ∈ q, i ≠ 0)
    (ha : PA X (e :: es) (tL X.K T W l)) (hdb : (cn == ("__debug__" : Str)) = false) (he : starEach (e :: es) X.env = (false, eval e X.env) :: starEach es X.env) (hpl : (backTo pos (starEach es X.env)).any (·.1) = false) :
    PE X (.Call (.Name cn p) (e :: es) [] pos) (tE X.K T W (eMake cn F n 0 q dd l dNil)) := ⟨fun pins s σ H Q I h => by
  refine wpAny_Call_Name_kw (ld_glob I hg hm ?_ hdb)
  refine PySem.W.callWith_K (h₀ := X.base) I.ok.mod.kin M.kp (thn (ha.run pos pins s σ H _ I (make_two (ks := []) hN h0 h)) fun us s1 z => ?_) he hpl
  obtain ⟨vs, H1, I1, r, q1⟩ := z
  obtain ⟨l1, _, q2⟩ := tL_nil q1
  exact ⟨I1.kIn, make_run (zs := []) (ws := []) M Fg hr hc hb tk I1 r .nil l1 rfl q2⟩⟩
/-- C(e, .., k = v, ..) -/
theorem de_makeK {N : Nat} (M : Mk X.K (He.ga X.K cn) f) (Fg : FnG X.prog X.w X.K X.mg X.base (CXW X) k f fd ps (spF X.K (some 0) N F)) (hr : Room (k + 1) X.A) (hc : Calm X.A) (hg : Gl X cn) (hm : X.mg cn = some (.ref (He.ga X.K cn))) (hb : BindG X.K fd ps (n + 1) ks (0 :: q) dd) (tk : Takes X W)
    (hN : ∀ xs ys : List RV, xs.length = n → ys.length = ks.length → (pick q (.val .non :: (xs ++ (ys ++ dd.map .val)))).length + 1 = N) (h0 : ∀ i ∈ q, i ≠ 0)
    (ha : PA X (e :: es) (tL X.K T W l)) (hkw : PK X kws (tL X.K T W lk)) (hall : (backToKw pos (keywordEach kws X.env)).all (·.1.isSome) = true) (hks : (backToKw pos (keywordEach kws X.env)).filterMap (·.1) = ks)
    (hdb : (cn == ("__debug__" : Str)) = false) (he : starEach (e :: es) X.env = (false, eval e X.env) :: starEach es X.env)
    (hpl : ((backTo pos (starEach (e :: es) X.env)).any (·.1) || (backToKw pos (keywordEach kws X.env)).any (·.1.isNone)) = false) :
    PE X (.Call (.Name cn p) (e :: es) kws pos) (tE X.K T W (eMake cn F n ks.length q dd l lk)) := ⟨fun pins s σ H Q I h => by
  refine wpAny_Call_Name_kw (ld_glob I hg hm ?_ hdb)
  refine PySem.W.callWith_KW (h₀ := X.base) I.ok.mod.kin M.kp hall (thn (ha.run pos pins s σ H _ I (make_two hN h0 h)) fun us s1 z => ?_) hpl he
  obtain ⟨vs, H1, I1, r, q1⟩ := z
  refine thn (hkw.run pos pins s1 σ H1 _ I1 q1) fun ws s2 z => ?_
  obtain ⟨zs, H2, I2, rz, l1, l2, q2⟩ := z
  refine ⟨I2.kIn, ?_⟩
  rw [hks]
  exact make_run M Fg hr hc hb tk I2 r rz l1 l2 q2⟩
end

/-! ### methods -/
def eMeth (cn m : Str) (io : Option Nat) (F : Fun) (n : Nat) (p : List Nat) (dd : List D) (fo : Den) (l : DenL) : Den := fun r => (fz (fo r)).bind fun x r1 => match peek r1 x with
  | some (.obj c ns _) => if c = cn ∧ m ∉ ns then ((l r1).bind fun xs r2 => if xs.length = n then callR io F (pick p (x :: (xs ++ dd.map .val))) r2 else .stuck) else .stuck
  | _ => .stuck
section
variable {X : Cx} {T : An} {W : WX} {k n : Nat} {f : Addr} {fd : FuncData} {ps : List Str} {io : Option Nat} {F : Fun} {p : List Nat} {dd : List D} {cn m : Str} {o e : Expr} {es : List Expr} {fo : Den} {l : DenL} {apos pos : Pos}
theorem look_none {m : Str} : ∀ {hf : List (Str × V)}, m ∉ hf.map Prod.fst → hf.lookup m = none
  | [], _ => rfl
  | (n, v) :: r, h => by
    rw [look_cons, if_neg fun e => h (by rw [List.map_cons, ← e]; exact List.mem_cons_self), look_none fun q => h (List.mem_cons_of_mem _ q)]
theorem meth_two {s : L2.St} {H : Hp} {Q : VK} {N : Nat} (hN : ∀ (x : RV) (xs : List RV), xs.length = n → (pick p (x :: (xs ++ dd.map .val))).length = N) (h : tE X.K T W (eMeth cn m io F n p dd fo l) s H Q) :
    tO X.K T W fo s H fun x H1 => ∃ a dx fs, x = .ref a ∧ H1 a = some (.ins (He.ga X.K cn) dx fs) ∧ fs.lookup m = none ∧
      tL X.K T W l s H1 fun vs H2 => vs.length = n ∧ ∀ dvs, (∀ Z, RepL X.K Z dd dvs) → spF X.K io N F (pick p ((x :: vs) ++ ([] ++ dvs))) H2 Q fun cls d H' => W cls d s H' := by
  obtain ⟨r, Z, S, h⟩ := h
  refine ⟨r, Z, S, (tG.bind fwdE h).mono fun v H1 h1 => ?_⟩
  obtain ⟨x, r1, Z1, S1, k1, f1, o1, h1⟩ := h1
  cases q1 : peek r1 x with
  | none => rw [q1] at h1; exact h1.elim
  | some d =>
    rw [q1] at h1
    cases d with
    | obj c ns ds =>
      have h9 : tG X.K T W (RelE X.K T s) s (if c = cn ∧ m ∉ ns then ((l r1).bind fun xs r2 => if xs.length = n then callR io F (pick p (x :: (xs ++ dd.map .val))) r2 else .stuck) else .stuck) r1 Z1 H1 Q := h1
      clear h1
      by_cases hc : c = cn ∧ m ∉ ns
      · rw [if_pos hc] at h9
        obtain ⟨rfl, hm⟩ := hc
        obtain ⟨a, dx, hf, rfl, e1, e2, rr⟩ := o1.con S1 q1
        refine ⟨a, dx, hf, rfl, e1, look_none (by rw [e2]; exact hm), r1, Z1, S1, (tG.bind fwdE h9).mono fun vs H2 h2 => ?_⟩
        obtain ⟨xs, r2, Z2, S2, k2, f2, o2, h2⟩ := h2
        have o2 : RvsOk X.K T s r2 Z2 H2 vs xs := o2
        have h2 : tG X.K T W (RelE X.K T s) s (if xs.length = n then callR io F (pick p (x :: (xs ++ dd.map .val))) r2 else .stuck) r2 Z2 H2 Q := h2
        by_cases hl : xs.length = n
        · rw [if_pos hl] at h2
          refine ⟨o2.length.trans hl, fun dvs hd => ?_⟩
          have o3 := (RvsOk.cons (RelF.stay o1 S1 k2 f2 (B' := fun _ => none)) (o2.append (rvs_vals (K := X.K) (T := T) (s := s) (r := r2) (H := H2) (hd Z2)))).pick p
          exact call_core S2 o3 (o3.length.trans (hN x xs hl)) h2
        · rw [if_neg hl] at h2; exact h2.elim
      · rw [if_neg hc] at h9; exact h9.elim
    | _ => exact h1.elim
theorem de_meth {N : Nat} {pl : Sem Bool} (he : PE X o (tE X.K T W fo)) (c : Cls X.K (He.ga X.K cn)) (hm : Meth X.K (He.ga X.K cn) m f) (Fg : FnG X.prog X.w X.K X.mg X.base (CXW X) k f fd ps (spF X.K io N F)) (hr : Room k X.A) (hc : Calm X.A) (hb : BindG X.K fd ps (n + 1) [] p dd) (tk : Takes X W)
    (hN : ∀ (x : RV) (xs : List RV), xs.length = n → (pick p (x :: (xs ++ dd.map .val))).length = N) (ha : PA X (e :: es) (tL X.K T W l))
    (hst : starEach (e :: es) X.env = (false, eval e X.env) :: starEach es X.env) (hpl : (backTo pos (starEach es X.env)).any (·.1) = false)
    (ht : eval (.Call (.Attribute o m apos) (e :: es) [] pos) X.env = (do
      let ov ← eval o X.env
      standAt apos.atName
      let (f, first) ← holding [ov] (getMethod ov m pl)
      callWith pos f first (backTo pos (starEach (e :: es) X.env)) (backToKw pos (keywordEach [] X.env)))) :
    PE X (.Call (.Attribute o m apos) (e :: es) [] pos) (tE X.K T W (eMeth cn m io F n p dd fo l)) := ⟨fun pins s σ H Q I h => by
  refine PySem.W.methodCall_KW (pl := pl) (thn ((pe_fz he).run pins s σ H _ I (meth_two hN h)) fun u s1 z => ?_) ht
  obtain ⟨x, H1, I1, rx, a, dx, fs, ex, ea, lk, q⟩ := z
  subst ex
  obtain rfl : u = Value.ref a := rx
  refine getmeth_ok I1 ea c hm lk ?_
  refine PySem.W.callWith_K (first := [.ref a]) (h₀ := X.base) I.ok.mod.kin hm.kp (thn (ha.run pos pins s1 σ H1 _ I1 q) fun us s2 z => ?_) hst hpl
  obtain ⟨vs, H2, I2, r, l1, q2⟩ := z
  exact ⟨I2.kIn, fn_at (us := .ref a :: us) (vs := .ref a :: vs) (zs := []) (ws := []) (ks := []) Fg hr hc hb tk I2 (.cons rfl r) .nil (by rw [List.length_cons, l1]) rfl q2⟩⟩
theorem de_meth0 {N : Nat} {pl : Sem Bool} (he : PE X o (tE X.K T W fo)) (c : Cls X.K (He.ga X.K cn)) (hm : Meth X.K (He.ga X.K cn) m f) (Fg : FnG X.prog X.w X.K X.mg X.base (CXW X) k f fd ps (spF X.K io N F)) (hr : Room k X.A) (hc : Calm X.A) (hb : BindG X.K fd ps (0 + 1) [] p dd) (tk : Takes X W)
    (hN : ∀ (x : RV) (xs : List RV), xs.length = 0 → (pick p (x :: (xs ++ dd.map .val))).length = N)
    (ht : eval (.Call (.Attribute o m apos) [] [] pos) X.env = (do
      let ov ← eval o X.env
      standAt apos.atName
      let (f, first) ← holding [ov] (getMethod ov m pl)
      callWith pos f first (backTo pos (starEach [] X.env)) (backToKw pos (keywordEach [] X.env)))) :
    PE X (.Call (.Attribute o m apos) [] [] pos) (tE X.K T W (eMeth cn m io F 0 p dd fo dNil)) := ⟨fun pins s σ H Q I h => by
  refine PySem.W.methodCall_KW (pl := pl) (thn ((pe_fz he).run pins s σ H _ I (meth_two hN h)) fun u s1 z => ?_) ht
  obtain ⟨x, H1, I1, rx, a, dx, fs, ex, ea, lk, q⟩ := z
  subst ex
  obtain rfl : u = Value.ref a := rx
  refine getmeth_ok I1 ea c hm lk ?_
  obtain ⟨l1, q2⟩ := tL_nil q
  exact PySem.W.callWith_K0 (first := [.ref a]) I1.kIn hm.kp (fn_at (us := [.ref a]) (vs := [.ref a]) (zs := []) (ws := []) (ks := []) Fg hr hc hb tk I1 (.cons rfl .nil) .nil rfl rfl q2)⟩
end
end Ev
namespace Ev
open PySem PySem.Spec PyProof.Rows L2

/-! ### raise -/
/-- what __init__ of an own error with one field, with two fields does -/
def spE1 (C : Addr) (fl : Str) : Sp := fun vs H Q _ => ∃ a y, vs = [.ref a, y] ∧ H a = some (exo a C none) ∧ ∀ dx, H dx = none → dx ≠ a → Q .non (upd (upd H dx (exd dx [(fl, y)])) a (exo a C (some dx)))
def spE2 (C : Addr) (f g : Str) : Sp := fun vs H Q _ => ∃ a y z, vs = [.ref a, y, z] ∧ H a = some (exo a C none) ∧ ∀ dx, H dx = none → dx ≠ a →
  Q .non (upd (upd (upd H dx (exd dx [(f, y)])) a (exo a C (some dx))) dx (exd dx [(g, z), (f, y)]))
section
variable {P : Program} {w : World} {K : Fr} {mg : Str → Option Value} {base : Heap} {CX : CXT} {qual : Str} {params : Arguments} {body : List Stmt} {scope : Scope} {f C : Addr} {fd : FuncData} {x y fl gl : Str} {p1 p2 p3 p4 p5 p6 p7 p8 : Pos}
theorem vis_par {N ps : List Str} {sc : Scope} (S : FnScope N ps sc) {z : Str} (h : z ∈ ps) : Vis sc z := (S.par z h).elim .inl fun q => .inr (.inl q)
theorem err1 (F : FunD K "__init__" qual params body scope [] [] f fd) (S : FnScope ["self", x] ["self", x] scope) (hb : body = [.Assign [.Attribute (.Name "self" p1) fl p2] (.Name x p3) p4]) (T : OexC K C) (hno : PySem.W.findIn K (.ref C) fl = some none)
    (hd : (x == ("__debug__" : Str)) = false) (hcd : (x == ("__classdict__" : Str)) = false) : FnOk P w K mg base CX 1 f fd ["self", x] (spE1 C fl) := by
  subst hb
  refine F.ok S (fun vs H Q E q => by obtain ⟨a, y, rfl, _⟩ := q; rfl) fun cdv A outer s H vs Q E hr q => ⟨_, pss_one (ps_ost (pe_var (i := 0) rfl (vis_par S (by simp))) (pe_var (i := 1) rfl (vis_par S (by simp)) hd hcd) rfl), ?_⟩
  obtain ⟨a, y, rfl, ea, q⟩ := q
  exact ⟨y, rfl, .ref a, rfl, a, C, rfl, T, hno, .inl ⟨ea, fun dx h1 h2 => q dx h1 h2⟩⟩
theorem err2 (F : FunD K "__init__" qual params body scope [] [] f fd) (S : FnScope ["self", x, y] ["self", x, y] scope)
    (hb : body = [.Assign [.Attribute (.Name "self" p1) fl p2] (.Name x p3) p4, .Assign [.Attribute (.Name "self" p5) gl p6] (.Name y p7) p8]) (T : OexC K C) (hno : PySem.W.findIn K (.ref C) fl = some none) (hno2 : PySem.W.findIn K (.ref C) gl = some none)
    (hd : (x == ("__debug__" : Str)) = false) (hcd : (x == ("__classdict__" : Str)) = false) (hd2 : (y == ("__debug__" : Str)) = false) (hcd2 : (y == ("__classdict__" : Str)) = false) : FnOk P w K mg base CX 1 f fd ["self", x, y] (spE2 C fl gl) := by
  subst hb
  refine F.ok S (fun vs H Q E q => by obtain ⟨a, y, z, rfl, _⟩ := q; rfl) fun cdv A outer s H vs Q E hr q => ⟨_, pss_cons (ps_ost (pe_var (i := 0) rfl (vis_par S (by simp))) (pe_var (i := 1) rfl (vis_par S (by simp)) hd hcd) rfl)
    (pss_one (ps_ost (pe_var (i := 0) rfl (vis_par S (by simp))) (pe_var (i := 2) rfl (vis_par S (by simp)) hd2 hcd2) rfl)), ?_⟩
  obtain ⟨a, y, z, rfl, ea, q⟩ := q
  refine ⟨y, rfl, .ref a, rfl, a, C, rfl, T, hno, .inl ⟨ea, fun dx h1 h2 => ?_⟩⟩
  exact ⟨z, rfl, .ref a, rfl, a, C, rfl, T, hno2, .inr ⟨dx, [(fl, y)], upd_same, by rw [upd_ne h2, upd_same], by simp, q dx h1 h2⟩⟩
end
def sRaise (cn : Str) (ns : List Str) (l : DenL) : DenS := fun r => (l r).then fun xs r1 => match takes xs with
  | some ds => if ds.length = ns.length then .exc ⟨cn, ns, ds⟩ r1 else .stuck
  | none => .stuck
theorem repl_get {K : Fr} {Z : Hp} {ds : List D} {vs : List V} (h : RepL K Z ds vs) (i : Nat) (d : D) (e : ds[i]? = some d) : ∃ v, vs[i]? = some v ∧ Rep K Z d v := h.get e
theorem exo_shift {H H2 : Hp} {a dx : Addr} {o : HO} (ha : H a = none) (hne : dx ≠ a) (h : ∀ b, b ≠ a → b ≠ dx → H2 b = H b) : upd (del H2 a) dx o = upd H dx o := by
  funext b
  by_cases e : b = dx
  · rw [e, upd_same, upd_same]
  · rw [upd_ne e, upd_ne e]
    by_cases e2 : b = a
    · rw [e2, del_same, ha]
    · rw [del_ne e2, h b e2 e]
section
variable {X : Cx} {T : An} {W : WX} {k : Nat} {cn fl gl : Str} {fI : Addr} {fd : FuncData} {ps : List Str} {l : DenL} {e : Expr} {es : List Expr} {p pos pos' : Pos}
theorem no_pass (X : Cx) : Passes (CXW X) X (fun _ _ _ => False) := fun pins σ H s e s' I h => by
  obtain ⟨_, _, _, _, _, _, _, _, _, _, _, _, z⟩ := h
  exact z.elim
theorem raise_at {r1 : Env} {Z1 H1 : Hp} {s : L2.St} {cn : Str} {ns : List Str} {ds : List D} {En : Ends} {dx : Addr} {hf : List (Str × V)} (S1 : Sim X.K T r1 Z1 s H1) (h : tGS X.K T W (.exc ⟨cn, ns, ds⟩ r1) Z1 En) (hn : H1 dx = none)
    (hh : ∀ (i : Nat) (n : Str) (x : D), ns[i]? = some n → ds[i]? = some x → ∃ v, hf.lookup n = some v ∧ Rep X.K Z1 x v) : W (.ref (He.ga X.K cn)) (some dx) s (upd H1 dx (.xd hf)) := by
  have zx := (S1.free hn).2.1
  refine h _ _ s _ _ (S1.fixed (.xd hf) hn) (same_updZ zx) ⟨dx, rfl, rfl, hf, upd_same, fun i n x e1 e2 => ?_⟩
  obtain ⟨v, h1, h2⟩ := hh i n x e1 e2
  exact ⟨v, h1, h2.mono (same_updZ zx)⟩
theorem ds_raise1 (hc : X.calm = true) (tk : Takes X W) (C : OexC X.K (He.ga X.K cn)) (iC : PySem.W.findIn X.K (.ref (He.ga X.K cn)) "__init__" = some (some (.ref fI))) (tI : PySem.W.typeIn X.K (.ref fI) = some (.type "function"))
    (F1 : FnOk X.prog X.w X.K X.mg X.base (CXW X) k fI fd ps (spE1 (He.ga X.K cn) fl)) (hr : Room (k + 1) X.A) (hb : Binds X.K fd ps []) (hg : Gl X cn) (hm : X.mg cn = some (.ref (He.ga X.K cn))) (ha : PA X (e :: es) (tL X.K T W l))
    (hdb : (cn == ("__debug__" : Str)) = false) (he : starEach (e :: es) X.env = (false, eval e X.env) :: starEach es X.env) (hpl : (backTo pos (starEach es X.env)).any (·.1) = false) :
    PS X (.Raise (some (.Call (.Name cn p) (e :: es) [] pos)) none pos') (tS X.K T W (sRaise cn [fl] l)) := (ps_raise hc tk (pmk_oex C iC tI F1 hr hb .nil (no_pass X) hg hm ha hdb he hpl)).less fun En s H h => by
  obtain ⟨r, Z, S, h⟩ := h
  refine ⟨r, Z, S, (tG.stm S h).mono fun vs H1 h1 => ?_⟩
  obtain ⟨xs, r1, Z1, S1, k1, f1, o1, h1⟩ := h1
  cases q : takes xs with
  | none => rw [q] at h1; exact h1.elim
  | some ds =>
    rw [q] at h1
    have rr := RvsOk.takes o1 q
    have h9 : tGS X.K T W (if ds.length = [fl].length then .exc ⟨cn, [fl], ds⟩ r1 else .stuck) Z1 En := h1
    clear h1
    by_cases hl : ds.length = [fl].length
    · rw [if_pos hl] at h9
      match ds, hl, rr, h9 with
      | [d], _, rr, h9 =>
        obtain ⟨y, t, rfl, ry, rt⟩ := rr
        have rt : t = [] := rt
        subst rt
        refine ⟨by simp, fun a na => ⟨a, y, rfl, upd_same, fun dx h1 h2 => ?_⟩⟩
        rw [upd_ne h2] at h1
        refine ⟨rfl, dx, [(fl, y)], upd_same, by rw [upd_ne h2, upd_same], h1, ?_⟩
        rw [exo_shift na h2 fun b hb1 hb2 => by rw [upd_ne hb1, upd_ne hb2, upd_ne hb1]]
        refine raise_at S1 h9 h1 fun i n x e1 e2 => ?_
        cases i with
        | zero =>
          simp at e1 e2
          subst e1 e2
          exact ⟨y, by rw [look_cons, if_pos rfl], ry⟩
        | succ i => simp at e1
    · rw [if_neg hl] at h9; exact h9.elim
theorem ds_raise2 (hfg : fl ≠ gl) (hc : X.calm = true) (tk : Takes X W) (C : OexC X.K (He.ga X.K cn)) (iC : PySem.W.findIn X.K (.ref (He.ga X.K cn)) "__init__" = some (some (.ref fI))) (tI : PySem.W.typeIn X.K (.ref fI) = some (.type "function"))
    (F1 : FnOk X.prog X.w X.K X.mg X.base (CXW X) k fI fd ps (spE2 (He.ga X.K cn) fl gl)) (hr : Room (k + 1) X.A) (hb : Binds X.K fd ps []) (hg : Gl X cn) (hm : X.mg cn = some (.ref (He.ga X.K cn))) (ha : PA X (e :: es) (tL X.K T W l))
    (hdb : (cn == ("__debug__" : Str)) = false) (he : starEach (e :: es) X.env = (false, eval e X.env) :: starEach es X.env) (hpl : (backTo pos (starEach es X.env)).any (·.1) = false) :
    PS X (.Raise (some (.Call (.Name cn p) (e :: es) [] pos)) none pos') (tS X.K T W (sRaise cn [fl, gl] l)) := (ps_raise hc tk (pmk_oex C iC tI F1 hr hb .nil (no_pass X) hg hm ha hdb he hpl)).less fun En s H h => by
  obtain ⟨r, Z, S, h⟩ := h
  refine ⟨r, Z, S, (tG.stm S h).mono fun vs H1 h1 => ?_⟩
  obtain ⟨xs, r1, Z1, S1, k1, f1, o1, h1⟩ := h1
  cases q : takes xs with
  | none => rw [q] at h1; exact h1.elim
  | some ds =>
    rw [q] at h1
    have rr := RvsOk.takes o1 q
    have h9 : tGS X.K T W (if ds.length = [fl, gl].length then .exc ⟨cn, [fl, gl], ds⟩ r1 else .stuck) Z1 En := h1
    clear h1
    by_cases hl : ds.length = [fl, gl].length
    · rw [if_pos hl] at h9
      match ds, hl, rr, h9 with
      | [d, d'], _, rr, h9 =>
        obtain ⟨y, t, rfl, ry, z, t', rfl, rz, rt⟩ := rr
        have rt : t' = [] := rt
        subst rt
        refine ⟨by simp, fun a na => ⟨a, y, z, rfl, upd_same, fun dx h1 h2 => ?_⟩⟩
        rw [upd_ne h2] at h1
        refine ⟨rfl, dx, [(gl, z), (fl, y)], by rw [upd_ne (Ne.symm h2), upd_same], upd_same, h1, ?_⟩
        rw [exo_shift na h2 fun b hb1 hb2 => by rw [upd_ne hb2, upd_ne hb1, upd_ne hb2, upd_ne hb1]]
        refine raise_at S1 h9 h1 fun i n x e1 e2 => ?_
        match i, e1, e2 with
        | 0, e1, e2 =>
          simp at e1 e2
          subst e1 e2
          exact ⟨y, by rw [look_cons, if_neg (Ne.symm hfg), look_cons, if_pos rfl], ry⟩
        | 1, e1, e2 =>
          simp at e1 e2
          subst e1 e2
          exact ⟨z, by rw [look_cons, if_pos rfl], rz⟩
        | i + 2, e1, e2 => simp at e1
    · rw [if_neg hl] at h9; exact h9.elim
end

/-! ### try .. except C as n -/
def noErr (r : Env) : Bool := r.all fun sl => match sl with
  | .err => false
  | _ => true
def unE (i : Nat) : SRes → SRes
  | .nx r => if noErr (r.set i .un) = true then .nx (r.set i .un) else .stuck
  | .bk r => if noErr (r.set i .un) = true then .bk (r.set i .un) else .stuck
  | .ct r => if noErr (r.set i .un) = true then .ct (r.set i .un) else .stuck
  | .rt x r => if noErr (r.set i .un) = true then .rt x (r.set i .un) else .stuck
  | _ => .stuck
def sTry (b : DenS) (m : Str → Option Bool) (i : Nat) (h : Ex → DenS) : DenS := fun r => match b r with
  | .exc e r1 => (match m e.cls with
    | some true => if noErr r1 = true then unE i (h e (r1.set i .err)) else .stuck
    | some false => .exc e r1
    | none => .stuck)
  | x => x
/-- which classes a clause takes, which it does not -/
def tabM (yes no : List Str) (x : Str) : Option Bool := if x ∈ yes then some true else if x ∈ no then some false else none
def exF (ex : Ex) (cn : Str) (i : Nat) (f : Str) : Den := fun r => match r[i]? with
  | some .err => if ex.cls = cn then ofO ((fldD ex.ns ex.fs f).map .val) r else .stuck
  | _ => .stuck
theorem noErr_at {r : Env} (h : noErr r = true) {i : Nat} (e : r[i]? = some .err) : False := by
  have := List.all_eq_true.mp h _ (List.mem_of_getElem? e)
  cases this
section
variable {K : Fr} {T T' : An} {r : Env} {Z H : Hp} {s : L2.St}
theorem Sim.retake (S : Sim K T r Z s H) (h : noErr r = true) (h0 : T'.H0 = T.H0) (hz : T'.Z0 = T.Z0) (hA : T'.A = T.A) (hP : T'.P = T.P) : Sim K T' r Z s H := by
  obtain ⟨a1, a2, a3, a4, a5, a6, a7, a8, a9, a10, a11, a12⟩ := S
  refine ⟨a1, a2, a3, ?_, ?_, a6, ?_, ?_, ?_, ?_, ?_, fun i e => (noErr_at h e).elim⟩
  · rw [h0]; exact a4
  · rw [hA, hP]; exact a5
  · rw [h0, hA]; exact a7
  · rw [h0, hz]; exact a8
  · rw [hz, h0]; exact a9
  · rw [hA]; exact a10
  · rw [hA, h0, hz]; exact a11
theorem Sim.unsetS {i : Nat} {u : Option V} (S : Sim K T r Z s H) : Sim K T (r.set i .un) Z (s.set i u) H := by
  have ow : ∀ {j : Nat} {a : Addr}, OwnAt (r.set i .un) (s.set i u) j a → OwnAt r s j a := fun {j a} w => by
    rcases own_back w with ⟨_, _, d', e | e⟩ | ⟨_, w⟩
    · cases e
    · cases e
    · exact w
  refine ⟨by rw [List.length_set, List.length_set]; exact S.len, S.sub, fun j e q => ?_, fun j e q => ?_, fun j e q => ?_, fun j l a x y => S.inj j l a (ow x) (ow y), S.keep, S.zed, S.base, S.live, S.inA, fun j q => ?_⟩
  · rcases get_set q with ⟨e1, e2, e3⟩ | ⟨e1, e2⟩
    · cases e2
    · rw [set_there e1]; exact S.val j e e2
  · rcases get_set q with ⟨e1, e2, e3⟩ | ⟨e1, e2⟩
    · cases e2
    · rw [set_there e1]; exact S.own j e e2
  · rcases get_set q with ⟨e1, e2, e3⟩ | ⟨e1, e2⟩
    · cases e2
    · rw [set_there e1]; exact S.ino j e e2
  · rcases get_set q with ⟨e1, e2, e3⟩ | ⟨e1, e2⟩
    · cases e2
    · rw [set_there e1]; exact S.err j e2
/-- the anchor in a suite -/
def inE (T : An) (a dd : Addr) (e : Ex) : An := { T with E := a, dd := dd, X := e }
theorem Sim.setErr {i : Nat} {a dd : Addr} {e : Ex} (S : Sim K T r Z s H) (h : noErr r = true) (x : XdOk K Z dd e) : Sim K (inE T a dd e) (r.set i .err) Z (s.set i (some (.ref a))) H := by
  have S1 : Sim K (inE T a dd e) r Z s H := S.retake h rfl rfl rfl rfl
  have ow : ∀ {j : Nat} {b : Addr}, OwnAt (r.set i .err) (s.set i (some (.ref a))) j b → OwnAt r s j b := fun {j b} w => by
    rcases own_back w with ⟨_, _, d', e | e⟩ | ⟨_, w⟩
    · cases e
    · cases e
    · exact w
  refine ⟨by rw [List.length_set, List.length_set]; exact S1.len, S1.sub, fun j e q => ?_, fun j e q => ?_, fun j e q => ?_, fun j l a x y => S1.inj j l a (ow x) (ow y), S1.keep, S1.zed, S1.base, S1.live, S1.inA, fun j q => ?_⟩
  · rcases get_set q with ⟨e1, e2, e3⟩ | ⟨e1, e2⟩
    · cases e2
    · rw [set_there e1]; exact S1.val j e e2
  · rcases get_set q with ⟨e1, e2, e3⟩ | ⟨e1, e2⟩
    · cases e2
    · rw [set_there e1]; exact S1.own j e e2
  · rcases get_set q with ⟨e1, e2, e3⟩ | ⟨e1, e2⟩
    · cases e2
    · rw [set_there e1]; exact S1.ino j e e2
  · rcases get_set q with ⟨e1, e2, e3⟩ | ⟨e1, e2⟩
    · subst e1
      exact ⟨set_here (by rw [← S1.len]; exact e3), x⟩
    · exact (noErr_at h e2).elim
end
/-- nothing may be raised -/
def WF : WX := fun _ _ _ _ => False
section
variable {K : Fr} {T : An} {W : WX} {s : L2.St} {H : Hp} {En : Ends} {b : DenS} {m : Str → Option Bool} {i : Nat} {h : Ex → DenS} {c : Value}
def tSuite (K : Fr) (T : An) (h : Ex → DenS) (a : Addr) (cls : Value) (d : Option Addr) : TS := fun D s H => ∃ e dd, cls = .ref (He.ga K e.cls) ∧ d = some dd ∧ tS K (inE T a dd e) WF (h e) D s H
theorem tS_try (hm : ∀ x t, m x = some t → PySem.W.exmOne K (.ref (He.ga K x)) c = some t) (q : tS K T W (sTry b m i h) En s H) : tS K T (wAs K c i (tSuite K T h) W En) b En s H := by
  obtain ⟨r, Z, S, q⟩ := q
  refine ⟨r, Z, S, ?_⟩
  unfold sTry at q
  cases e : b r with
  | nx r1 => rw [e] at q; exact q
  | bk r1 => rw [e] at q; exact q
  | ct r1 => rw [e] at q; exact q
  | rt x r1 => rw [e] at q; exact q
  | stuck => rw [e] at q; exact q
  | exc ex r1 =>
    rw [e] at q
    intro cls d s' H' Z' S' k o
    obtain ⟨dd, rfl, rfl, xd⟩ := o
    have q : tGS K T W (match m ex.cls with
      | some true => if noErr r1 = true then unE i (h ex (r1.set i .err)) else .stuck
      | some false => .exc ex r1
      | none => .stuck) Z En := q
    cases w : m ex.cls with
    | none => rw [w] at q; exact q.elim
    | some t =>
      rw [w] at q
      refine ⟨t, hm _ _ w, fun ht a na => ?_, fun ht => ?_⟩
      · subst ht
        have q : tGS K T W (if noErr r1 = true then unE i (h ex (r1.set i .err)) else .stuck) Z En := q
        by_cases hn : noErr r1 = true
        · rw [if_pos hn] at q
          refine ⟨ex, dd, rfl, rfl, r1.set i .err, Z', S'.setErr hn xd, ?_⟩
          have q := q.from k
          have back : ∀ {r2 : Env} {s2 : L2.St} {H2 Z2 : Hp} {u : Option V}, Sim K (inE T a dd ex) r2 Z2 s2 H2 → noErr (r2.set i .un) = true → Sim K T (r2.set i .un) Z2 (s2.set i u) H2 := fun S2 hn2 => S2.unsetS.retake hn2 rfl rfl rfl rfl
          cases z : h ex (r1.set i .err) with
          | nx r2 =>
            rw [z] at q
            have q : tGS K T W (if noErr (r2.set i .un) = true then .nx (r2.set i .un) else .stuck) Z' En := q
            by_cases hn2 : noErr (r2.set i .un) = true
            · rw [if_pos hn2] at q
              exact fun s2 H2 Z2 S2 k2 => q _ H2 Z2 (back S2 hn2) k2
            · rw [if_neg hn2] at q; exact q.elim
          | bk r2 =>
            rw [z] at q
            have q : tGS K T W (if noErr (r2.set i .un) = true then .bk (r2.set i .un) else .stuck) Z' En := q
            by_cases hn2 : noErr (r2.set i .un) = true
            · rw [if_pos hn2] at q
              exact fun s2 H2 Z2 S2 k2 => q _ H2 Z2 (back S2 hn2) k2
            · rw [if_neg hn2] at q; exact q.elim
          | ct r2 =>
            rw [z] at q
            have q : tGS K T W (if noErr (r2.set i .un) = true then .ct (r2.set i .un) else .stuck) Z' En := q
            by_cases hn2 : noErr (r2.set i .un) = true
            · rw [if_pos hn2] at q
              exact fun s2 H2 Z2 S2 k2 => q _ H2 Z2 (back S2 hn2) k2
            · rw [if_neg hn2] at q; exact q.elim
          | rt x r2 =>
            rw [z] at q
            have q : tGS K T W (if noErr (r2.set i .un) = true then .rt x (r2.set i .un) else .stuck) Z' En := q
            by_cases hn2 : noErr (r2.set i .un) = true
            · rw [if_pos hn2] at q
              exact fun v s2 H2 Z2 S2 k2 o => q v _ H2 Z2 (back (u := none) S2 hn2) k2 (by cases x <;> exact o)
            · rw [if_neg hn2] at q; exact q.elim
          | exc e2 r2 => rw [z] at q; exact q.elim
          | stuck => rw [z] at q; exact q.elim
        · rw [if_neg hn] at q; exact q.elim
      · subst ht
        exact q _ _ s' H' Z' S' k ⟨dd, rfl, rfl, xd⟩
end
theorem fldD_ix {f : Str} {d : D} : ∀ {ns : List Str} {ds : List D}, fldD ns ds f = some d → ∃ i : Nat, ns[i]? = some f ∧ ds[i]? = some d
  | n :: ns, x :: ds, e => by
    have e : (if n = f then some x else fldD ns ds f) = some d := e
    by_cases h : n = f
    · rw [if_pos h] at e
      cases e
      exact ⟨0, by simp [h], rfl⟩
    · rw [if_neg h] at e
      obtain ⟨i, h1, h2⟩ := fldD_ix e
      exact ⟨i + 1, by simpa using h1, by simpa using h2⟩
  | [], _, e => by cases e
  | _ :: _, [], e => by cases e
section
variable {X : Cx} {T : An} {W : WX} {cn x n f : Str} {c : Value} {i : Nat} {body suite : List Stmt} {b₀ : Stmt} {np pos pos' p : Pos} {b : DenS} {m : Str → Option Bool} {h : Ex → DenS}
theorem ds_try (hs : X.stack = X.env :: X.outer) (hf : X.env.frame = some X.env.locals) (hN : X.N.Nodup) (hi : X.N[i]? = some n) (hln : X.env.kindOf n = some .local) (hc : Names X x c) (tk : Takes X W)
    (hm : ∀ y t, m y = some t → PySem.W.exmOne X.K (.ref (He.ga X.K y)) c = some t)
    (hb : ∀ (W' : WX) (pn : List (Addr × Obj)) (xe : Value → Shared → Prop), Takes (X.tr pn xe) W' → PassesOwn (model X.prog X.w) X.A X.env xe → PSs (X.tr pn xe) body (tS X.K T W' b))
    (hsu : ∀ (a dd : Addr) (oe : Obj) (ex : Ex) (pn : List (Addr × Obj)), Zc (.ref (He.ga X.K ex.cls)) (some dd) oe → (∃ vs, oe.data = .fields vs) → PSs (X.suite a ((a, oe) :: pn)) (b₀ :: suite) (tS X.K (inE T a dd ex) WF (h ex))) :
    PS X (.Try body [.ExceptHandler (some (.Name x np)) (some n) (b₀ :: suite) pos'] [] [] pos) (tS X.K T W (sTry b m i h)) :=
  (ps_try_as (tb := fun W' => tS X.K T W' b) (ts := tSuite X.K T h) hs hf hN hi hln hc tk hb fun a oe cls d pn hz hd => ⟨fun pins s σ H D I q => by
    obtain ⟨ex, dd, rfl, rfl, q⟩ := q
    exact (hsu a dd oe ex pn hz hd).run pins s σ H D I q⟩).less fun En s H q => tS_try hm q
/-- n.f in the suite -/
theorem de_exf {a dd : Addr} {oe : Obj} {ex : Ex} {pn : List (Addr × Obj)} (C : XfC X.K (He.ga X.K cn)) (hno : PySem.W.findIn X.K (.ref (He.ga X.K cn)) f = some none) (hz : Zc (.ref (He.ga X.K ex.cls)) (some dd) oe) (hf : ∃ vs, oe.data = .fields vs)
    (he : PE (X.suite a ((a, oe) :: pn)) (.Name n p) (tVar i)) (hb : attributeBase (.Name n p) f X.env (eval (.Name n p) X.env) = eval (.Name n p) X.env) :
    PE (X.suite a ((a, oe) :: pn)) (.Attribute (.Name n p) f pos) (tE X.K (inE T a dd ex) W (exF ex cn i f)) := (pe_xf C hno hz hf he hb).less fun s H Q q => by
  obtain ⟨r, Z, S, q⟩ := q
  unfold exF at q
  cases e : r[i]? with
  | none => rw [e] at q; exact q.elim
  | some sl =>
    rw [e] at q
    cases sl with
    | err =>
      have q : tG X.K (inE T a dd ex) W (RelE X.K (inE T a dd ex) s) s (if ex.cls = cn then ofO ((fldD ex.ns ex.fs f).map .val) r else .stuck) r Z H Q := q
      by_cases hc : ex.cls = cn
      · rw [if_pos hc] at q
        obtain ⟨e1, hf, xz, xr⟩ := S.err i e
        cases w : fldD ex.ns ex.fs f with
        | none => rw [w] at q; exact q.elim
        | some d =>
          rw [w] at q
          obtain ⟨j, j1, j2⟩ := fldD_ix w
          obtain ⟨v, l1, rv⟩ := xr j f d j1 j2
          exact ⟨.ref a, e1, rfl, by rw [hc], dd, hf, v, rfl, S.sub _ _ xz, l1, ends S q rv⟩
      · rw [if_neg hc] at q; exact q.elim
    | _ => exact q.elim
end
/-! ### try .. except C without a name -/
def keepE : SRes → SRes
  | .exc _ _ => .stuck
  | x => x
def sTryN (b : DenS) (m : Str → Option Bool) (h : DenS) : DenS := fun r => match b r with
  | .exc e r1 => (match m e.cls with
    | some true => keepE (h r1)
    | some false => .exc e r1
    | none => .stuck)
  | x => x
section
variable {X : Cx} {T : An} {W : WX} {x : Str} {c : Value} {body suite : List Stmt} {b₀ : Stmt} {np pos pos' : Pos} {b h : DenS} {m : Str → Option Bool}
theorem ds_tryN (hs : X.stack = X.env :: X.outer) (hf : X.env.frame = some X.env.locals) (hc : Names X x c) (tk : Takes X W)
    (hm : ∀ y t, m y = some t → PySem.W.exmOne X.K (.ref (He.ga X.K y)) c = some t)
    (hb : ∀ (W' : WX) (pn : List (Addr × Obj)) (xe : Value → Shared → Prop), Takes (X.tr pn xe) W' → PassesOwn (model X.prog X.w) X.A X.env xe → PSs (X.tr pn xe) body (tS X.K T W' b))
    (hsu : ∀ (a : Addr) (oe : Obj) (pn : List (Addr × Obj)), PSs (X.suite a ((a, oe) :: pn)) (b₀ :: suite) (tS X.K T WF h)) :
    PS X (.Try body [.ExceptHandler (some (.Name x np)) none (b₀ :: suite) pos'] [] [] pos) (tS X.K T W (sTryN b m h)) :=
  (ps_try_only (tb := fun W' => tS X.K T W' b) (ts := fun _ _ _ => tS X.K T WF h) hs hf hc tk hb fun a oe cls d pn hz hd => hsu a oe pn).less fun En s H q => by
    obtain ⟨r, Z, S, q⟩ := q
    refine ⟨r, Z, S, ?_⟩
    unfold sTryN at q
    cases e : b r with
    | nx r1 => rw [e] at q; exact q
    | bk r1 => rw [e] at q; exact q
    | ct r1 => rw [e] at q; exact q
    | rt x r1 => rw [e] at q; exact q
    | stuck => rw [e] at q; exact q
    | exc ex r1 =>
      rw [e] at q
      intro cls d s' H' Z' S' k o
      obtain ⟨dd, rfl, rfl, xd⟩ := o
      have q : tGS X.K T W (match m ex.cls with
        | some true => keepE (h r1)
        | some false => .exc ex r1
        | none => .stuck) Z En := q
      cases w : m ex.cls with
      | none => rw [w] at q; exact q.elim
      | some t =>
        rw [w] at q
        refine ⟨t, hm _ _ w, fun ht a na => ?_, fun ht => ?_⟩
        · subst ht
          have q : tGS X.K T W (keepE (h r1)) Z En := q
          refine ⟨r1, Z', S', ?_⟩
          have q := q.from k
          cases z : h r1 with
          | exc e2 r2 => rw [z] at q; exact q.elim
          | nx r2 => rw [z] at q; exact q
          | bk r2 => rw [z] at q; exact q
          | ct r2 => rw [z] at q; exact q
          | rt x r2 => rw [z] at q; exact q
          | stuck => rw [z] at q; exact q
        · subst ht
          exact q _ _ s' H' Z' S' k ⟨dd, rfl, rfl, xd⟩
end
end Ev
namespace Ev
open PySem PySem.Spec PyProof.Rows L2

/-! ### comprehensions -/
def wipeE (r : Env) : List Nat → Env
  | [] => r
  | v :: vs => (wipeE r vs).set v .un
def backE (r r2 : Env) : List Nat → Env
  | [] => r2
  | v :: vs => match r[v]? with
    | some sl => (backE r r2 vs).set v sl
    | none => backE r r2 vs
def plainSl : Option Slot → Bool
  | some .un => true
  | some (.val _) => true
  | _ => false
def vsOk (r : Env) (vs : List Nat) : Bool := vs.all fun i => plainSl r[i]?
abbrev Stp := List D → Env → Res (List D)
def cLoop (vs : List Nat) (g : DenG) (st : Stp) : List D → Stp
  | [], acc, r => .ok acc r
  | d :: t, acc, r => if vsOk r vs = true then (match g d (wipeE r vs) with
    | none => .stuck
    | some r1 => (match st acc r1 with
      | .ok acc2 r2 => cLoop vs g st t acc2 (backE r r2 vs)
      | _ => .stuck)) else .stuck
def cElt (te : Den) : Stp := fun acc r => match fz (te r) with
  | .ok x r1 => (match take x with
    | some y => if acc.length < most then .ok (acc ++ [y]) r1 else .stuck
    | none => .stuck)
  | _ => .stuck
def cTest (tt : DenB) (st : Stp) : Stp := fun acc r => match tt r with
  | .ok b r1 => if b = true then st acc r1 else .ok acc r1
  | _ => .stuck
def cFrom (f : DenI) (vs : List Nat) (g : DenG) (st : Stp) : Stp := fun acc r => match f r with
  | .ok items r1 => cLoop vs g st items acc r1
  | _ => .stuck
def bYes : DenB := fun r => .ok true r
def eComp (f : DenI) (vs : List Nat) (g : DenG) (st : Stp) : Den := fun r => (f r).bind fun items r1 => (cLoop vs g st items [] r1).bind fun acc r2 => .ok (.own (.lst acc)) r2

theorem wipeE_length (r : Env) : ∀ vs, (wipeE r vs).length = r.length
  | [] => rfl
  | v :: vs => by unfold wipeE; rw [List.length_set, wipeE_length r vs]
theorem wipeE_out {r : Env} {i : Nat} : ∀ {vs : List Nat}, i ∉ vs → (wipeE r vs)[i]? = r[i]?
  | [], _ => rfl
  | v :: vs, h => by
    unfold wipeE
    rw [set_there fun e => h (by rw [e]; exact List.mem_cons_self)]
    exact wipeE_out fun m => h (List.mem_cons_of_mem _ m)
theorem wipeE_in {r : Env} {i : Nat} {sl : Slot} : ∀ {vs : List Nat}, i ∈ vs → (wipeE r vs)[i]? = some sl → sl = .un
  | v :: vs, h, e => by
    unfold wipeE at e
    rcases get_set e with ⟨_, e2, _⟩ | ⟨e1, e2⟩
    · exact e2
    · rcases List.mem_cons.mp h with z | z
      · exact (e1 z).elim
      · exact wipeE_in z e2
theorem wipe_get {s : L2.St} {i : Nat} : ∀ {vs : List Nat}, i ∉ vs → (wipe s vs)[i]? = s[i]?
  | _, h => wipe_out h
theorem wipe_none {s : L2.St} {i : Nat} {u : Option V} : ∀ {vs : List Nat}, i ∈ vs → (wipe s vs)[i]? = some u → u = none
  | v :: vs, h, e => by
    unfold wipe at e
    rcases get_set e with ⟨_, e2, _⟩ | ⟨e1, e2⟩
    · exact e2
    · rcases List.mem_cons.mp h with z | z
      · exact (e1 z).elim
      · exact wipe_none z e2
theorem backE_length (r r2 : Env) : ∀ vs, (backE r r2 vs).length = r2.length
  | [] => rfl
  | v :: vs => by
    unfold backE
    split
    · rw [List.length_set, backE_length r r2 vs]
    · exact backE_length r r2 vs
theorem backE_out {r r2 : Env} {i : Nat} : ∀ {vs : List Nat}, i ∉ vs → (backE r r2 vs)[i]? = r2[i]?
  | [], _ => rfl
  | v :: vs, h => by
    unfold backE
    have h2 := backE_out (r := r) (r2 := r2) (i := i) (vs := vs) fun m => h (List.mem_cons_of_mem _ m)
    split
    · rw [set_there fun e => h (by rw [e]; exact List.mem_cons_self)]; exact h2
    · exact h2
theorem backE_in {r r2 : Env} (hl : r.length = r2.length) {i : Nat} : ∀ {vs : List Nat}, i ∈ vs → (backE r r2 vs)[i]? = r[i]?
  | v :: vs, h => by
    unfold backE
    by_cases e : i = v
    · subst e
      split
      · rename_i sl q
        have lt : i < r.length := by
          rcases Nat.lt_or_ge i r.length with z | z
          · exact z
          · rw [List.getElem?_eq_none z] at q; cases q
        rw [set_here (by rw [backE_length]; omega), q]
      · rename_i q
        have ge : r.length ≤ i := by
          rcases Nat.lt_or_ge i r.length with z | z
          · rw [List.getElem?_eq_getElem z] at q; cases q
          · exact z
        rw [q, List.getElem?_eq_none (by rw [backE_length]; omega)]
    · have m : i ∈ vs := (List.mem_cons.mp h).resolve_left e
      split
      · rw [set_there e]; exact backE_in hl m
      · exact backE_in hl m
theorem vsOk_at {r : Env} {vs : List Nat} (h : vsOk r vs = true) {i : Nat} (m : i ∈ vs) : plainSl r[i]? = true := List.all_eq_true.mp h i m
theorem wipe_eq {s s' : L2.St} {vs fp : List Nat} (hs : ∀ i ∈ fp, i ∈ vs) (hl : s'.length = s.length) (f : Foot fp s s') : wipe s' vs = wipe s vs := by
  apply List.ext_getElem?
  intro i
  by_cases m : i ∈ vs
  · cases e : (wipe s' vs)[i]? with
    | none =>
      have : (wipe s vs)[i]? = none := by
        rw [List.getElem?_eq_none_iff, wipe_length] at e ⊢
        omega
      rw [this]
    | some u =>
      have hu := wipe_none m e
      subst hu
      have lt : i < (wipe s vs).length := by
        have := List.getElem?_eq_some_iff.mp e
        obtain ⟨z, _⟩ := this
        rw [wipe_length] at z ⊢
        omega
      have e2 : (wipe s vs)[i]? = some (wipe s vs)[i] := List.getElem?_eq_getElem lt
      rw [e2, wipe_none m e2]
  · rw [wipe_out m, wipe_out m]
    exact f i fun z => m (hs i z)
theorem wipe_wipe {s : L2.St} {vs : List Nat} : wipe (wipe s vs) vs = wipe s vs := wipe_eq (fp := vs) (fun _ m => m) (wipe_length s vs) fun i n => wipe_out n
theorem wipe_back {s s2 : L2.St} {vs : List Nat} (h : wipe s2 vs = wipe s vs) {i : Nat} (n : i ∉ vs) : s2[i]? = s[i]? := by
  rw [← wipe_out (σ := s2) n, h, wipe_out n]

section
variable {K : Fr} {T : An} {r r2 : Env} {Z Z2 H H2 : Hp} {s s2 : L2.St} {vs : List Nat}
theorem sim_in (S : Sim K T r Z s H) : ∀ vs, Sim K T (wipeE r vs) Z (wipe s vs) H
  | [] => S
  | v :: vs => by
    unfold wipeE wipe
    exact (sim_in S vs).unsetS
theorem sim_out (S : Sim K T r Z s H) (k : Same Z Z2) (hv : vsOk r vs = true) (S2 : Sim K T r2 Z2 s2 H2) (hw : wipe s2 vs = wipe s vs) : Sim K T (backE r r2 vs) Z2 s H2 := by
  have hl2 : s2.length = s.length := by have := congrArg List.length hw; rwa [wipe_length, wipe_length] at this
  have hl : r.length = r2.length := by rw [S.len, S2.len]; exact hl2.symm
  have one : ∀ i sl, (backE r r2 vs)[i]? = some sl → (i ∈ vs ∧ r[i]? = some sl ∧ plainSl (some sl) = true) ∨ (i ∉ vs ∧ r2[i]? = some sl ∧ s2[i]? = s[i]?) := fun i sl e => by
    by_cases m : i ∈ vs
    · rw [backE_in hl m] at e
      have p := vsOk_at hv m
      rw [e] at p
      exact .inl ⟨m, e, p⟩
    · rw [backE_out m] at e
      exact .inr ⟨m, e, wipe_back hw m⟩
  have ow : ∀ {i a}, OwnAt (backE r r2 vs) s i a → OwnAt r2 s2 i a := fun {i a} w => by
    obtain ⟨d, hd, e⟩ := w
    rcases hd with hd | hd
    · rcases one i _ hd with ⟨_, _, p⟩ | ⟨_, q, z⟩
      · cases p
      · exact ⟨d, .inl q, by rw [z]; exact e⟩
    · rcases one i _ hd with ⟨_, _, p⟩ | ⟨_, q, z⟩
      · cases p
      · exact ⟨d, .inr q, by rw [z]; exact e⟩
  refine ⟨by rw [backE_length, ← hl]; exact S.len, S2.sub, fun i d e => ?_, fun i d e => ?_, fun i d e => ?_, fun i j a x y => S2.inj i j a (ow x) (ow y), S2.keep, S2.zed, S2.base, S2.live, S2.inA, fun i e => ?_⟩
  · rcases one i _ e with ⟨_, q, _⟩ | ⟨_, q, z⟩
    · obtain ⟨v, e1, rv⟩ := S.val i d q
      exact ⟨v, e1, rv.mono k⟩
    · obtain ⟨v, e1, rv⟩ := S2.val i d q
      exact ⟨v, by rw [← z]; exact e1, rv⟩
  · rcases one i _ e with ⟨_, q, p⟩ | ⟨_, q, z⟩
    · cases p
    · obtain ⟨a, e1, q1⟩ := S2.own i d q
      exact ⟨a, by rw [← z]; exact e1, q1⟩
  · rcases one i _ e with ⟨_, q, p⟩ | ⟨_, q, z⟩
    · cases p
    · obtain ⟨a, e1, q1⟩ := S2.ino i d q
      exact ⟨a, by rw [← z]; exact e1, q1⟩
  · rcases one i _ e with ⟨_, q, p⟩ | ⟨_, q, z⟩
    · cases p
    · obtain ⟨e1, q1⟩ := S2.err i q
      exact ⟨by rw [← z]; exact e1, q1⟩
theorem Sim.loose (S : Sim K T r Z s H) {p : Addr} {o : HO} (z : Z p = none) (h0 : T.H0 p = none) (n : ∀ i, ¬ OwnAt r s i p) : Sim K T r Z s (upd H p o) := by
  have nA : p ∉ T.A := fun m => (S.inA p m).1 h0
  have k : ∀ a u, a ≠ p → H a = some u → upd H p o a = some u := fun a u ne e => by rw [upd_ne ne]; exact e
  refine ⟨S.len, fun a u e => ?_, S.val, fun i d e => ?_, fun i d e => ?_, S.inj, fun a u e m => ?_, S.zed, S.base, fun a m => ?_, S.inA, S.err⟩
  · by_cases h : a = p
    · rw [h, z] at e; cases e
    · exact k a u h (S.sub a u e)
  · obtain ⟨a, e1, q, w⟩ := S.own i d e
    have ne : a ≠ p := fun h => n i ⟨d, .inl e, by rw [← h]; exact e1⟩
    exact ⟨a, e1, q.mono (Same.refl _) q.z fun u w => k a u ne w, w⟩
  · obtain ⟨a, e1, q, w⟩ := S.ino i d e
    have ne : a ≠ p := fun h => n i ⟨d, .inr e, by rw [← h]; exact e1⟩
    exact ⟨a, e1, q.mono (Same.refl _) q.z fun u w => k a u ne w, w⟩
  · by_cases h : a = p
    · rw [h, h0] at e; cases e
    · exact k a u h (S.keep a u e m)
  · have ne : a ≠ p := fun h => nA (by rw [← h]; exact m)
    rw [upd_ne ne]
    exact S.live a m
/-- the new list at D as far as it has come -/
structure Acc (K : Fr) (T : An) (D0 : Addr) (acc : List D) (r : Env) (Z : Hp) (s : L2.St) (H : Hp) : Prop where
  sim : Sim K T r Z s H
  lst : ∃ us, H D0 = some (.lst us) ∧ RepL K Z acc us
  z : Z D0 = none
  h0 : T.H0 D0 = none
  no : ∀ i, ¬ OwnAt r s i D0
/-- what came to pass in between, the new list aside -/
structure Lk (D0 : Addr) (r : Env) (s : L2.St) (H Z : Hp) (r' : Env) (H' Z' : Hp) : Prop where
  k : Kin r r'
  h : ∀ a o, a ≠ D0 → H a = some o → (∀ i, ¬ OwnAt r s i a) → H' a = some o
  z : ∀ a, H a ≠ none → Z' a = Z a
  l : ∀ a, H a ≠ none → H' a ≠ none
theorem Lk.of {D0 : Addr} (k : Kin r r2) (f : Frm r s H Z H2 Z2) : Lk D0 r s H Z r2 H2 Z2 := ⟨k, fun a o _ => f.h a o, f.z, f.l⟩
theorem Lk.trans {D0 : Addr} {r1 : Env} {H1 Z1 : Hp} (x : Lk D0 r s H Z r1 H1 Z1) (y : Lk D0 r1 s H1 Z1 r2 H2 Z2) : Lk D0 r s H Z r2 H2 Z2 :=
  ⟨x.k.trans y.k, fun a o ne e n => y.h a o ne (x.h a o ne e n) fun i w => n i (x.k.symm.ownAt w), fun a e => (y.z a (x.l a e)).trans (x.z a e), fun a e => y.l a (x.l a e)⟩
theorem Lk.refl {D0 : Addr} : Lk D0 r s H Z r H Z := Lk.of (Kin.refl _) Frm.refl
theorem Lk.frm {D0 : Addr} (l : Lk D0 r s H Z r2 H2 Z2) (h : H D0 = none) : Frm r s H Z H2 Z2 := ⟨fun a o e n => l.h a o (ne_of_none e h) e n, l.z, l.l⟩
theorem Acc.step {D0 : Addr} {acc : List D} (A : Acc K T D0 acc r Z s H) (S2 : Sim K T r2 Z2 s H2) (k : Kin r r2) (f : Frm r s H Z H2 Z2) : Acc K T D0 acc r2 Z2 s H2 := by
  obtain ⟨us, e, rr⟩ := A.lst
  exact ⟨S2, ⟨us, f.h _ _ e A.no, rr.mono (f.same A.sim)⟩, (f.z _ (by rw [e]; simp)).trans A.z, A.h0, fun i w => A.no i (k.symm.ownAt w)⟩
/-- an item put at its end -/
theorem Acc.push {D0 : Addr} {acc : List D} {y : V} {d : D} {us : List V} (A : Acc K T D0 acc r Z s H) (e : H D0 = some (.lst us)) (rr : RepL K Z acc us) (rv : Rep K Z d y) : Acc K T D0 (acc ++ [d]) r Z s (upd H D0 (.lst (us ++ [y]))) :=
  ⟨A.sim.loose A.z A.h0 A.no, ⟨_, upd_same, rr.append (RepL.one rv)⟩, A.z, A.h0, A.no⟩
/-- into a turn: the targets are set -/
theorem turn_in {fp : List Nat} {g : DenG} {D0 : Addr} {acc : List D} {d : D} {v : V} {r1 : Env} {Q : L2.St → Hp → Prop} (hs : ∀ i ∈ fp, i ∈ vs) (hg : GFoot fp g) (A : Acc K T D0 acc r Z s H) (rv : Rep K Z d v) (e : g d (wipeE r vs) = some r1)
    (h : ∀ s2, wipe s2 vs = wipe s vs → Acc K T D0 acc r1 Z s2 H → Q s2 H) : tGt K T fp g v (wipe s vs) H Q := by
  have Sw := sim_in A.sim vs
  refine ⟨wipeE r vs, Z, d, Sw, rv, r1, e, fun s2 S2 f2 => ?_⟩
  obtain ⟨l1, l2, l3⟩ := hg d _ _ e
  have hl : s2.length = (wipe s vs).length := by rw [← S2.len, l1]; exact Sw.len
  have hw : wipe s2 vs = wipe s vs := (wipe_eq hs hl f2).trans wipe_wipe
  refine h s2 hw ⟨S2, A.lst, A.z, A.h0, fun i w => ?_⟩
  obtain ⟨d', hd, e3⟩ := w
  have nv : ∀ {sl : Slot}, r1[i]? = some sl → (∀ x, sl ≠ .val x) → sl ≠ .un → i ∉ vs ∧ r[i]? = some sl := fun {sl} q n1 n2 => by
    rcases l3 i sl q with ⟨x, z⟩ | z
    · exact (n1 x z).elim
    · by_cases m : i ∈ vs
      · exact (n2 (wipeE_in m z)).elim
      · exact ⟨m, by rw [← wipeE_out m]; exact z⟩
  rcases hd with hd | hd
  · obtain ⟨m, q⟩ := nv hd (fun _ z => by cases z) (fun z => by cases z)
    exact A.no i ⟨d', .inl q, by rw [← wipe_back hw m]; exact e3⟩
  · obtain ⟨m, q⟩ := nv hd (fun _ z => by cases z) (fun z => by cases z)
    exact A.no i ⟨d', .inr q, by rw [← wipe_back hw m]; exact e3⟩
/-- out of it -/
theorem turn_out {fp : List Nat} {g : DenG} {D0 : Addr} {acc2 : List D} {d : D} {r1 : Env} (hg : GFoot fp g) (hs : ∀ i ∈ fp, i ∈ vs) (S : Sim K T r Z s H) (hv : vsOk r vs = true) (e : g d (wipeE r vs) = some r1) (hw : wipe s2 vs = wipe s vs)
    (A : Acc K T D0 acc2 r2 Z2 s2 H2) (l : Lk D0 r1 s2 H Z r2 H2 Z2) : Acc K T D0 acc2 (backE r r2 vs) Z2 s H2 ∧ Lk D0 r s H Z (backE r r2 vs) H2 Z2 := by
  obtain ⟨l1, l2, l3⟩ := hg d _ _ e
  have hlr : r1.length = r.length := by rw [l1, wipeE_length]
  have hl2 : r2.length = r1.length := by have := congrArg List.length l.k; rw [List.length_map, List.length_map] at this; exact this.symm
  have hl : r.length = r2.length := by omega
  have kz : Same Z Z2 := fun a o q => by rw [l.z a (by rw [S.sub a o q]; simp)]; exact q
  have kin : Kin r (backE r r2 vs) := by
    unfold Kin
    apply List.ext_getElem?
    intro i
    rw [List.getElem?_map, List.getElem?_map]
    by_cases m : i ∈ vs
    · rw [backE_in hl m]
    · rw [backE_out m]
      have q := l.k.get i
      rw [← q, l2 i fun z => m (hs i z), wipeE_out m]
  have own : ∀ {i a}, OwnAt r1 s2 i a → OwnAt r s i a := fun {i a} w => by
    obtain ⟨d', hd, e3⟩ := w
    have nv : ∀ {sl : Slot}, r1[i]? = some sl → (∀ x, sl ≠ .val x) → sl ≠ .un → i ∉ vs ∧ r[i]? = some sl := fun {sl} q n1 n2 => by
      rcases l3 i sl q with ⟨x, z⟩ | z
      · exact (n1 x z).elim
      · by_cases m : i ∈ vs
        · exact (n2 (wipeE_in m z)).elim
        · exact ⟨m, by rw [← wipeE_out m]; exact z⟩
    rcases hd with hd | hd
    · obtain ⟨m, q⟩ := nv hd (fun _ z => by cases z) (fun z => by cases z)
      exact ⟨d', .inl q, by rw [← wipe_back hw m]; exact e3⟩
    · obtain ⟨m, q⟩ := nv hd (fun _ z => by cases z) (fun z => by cases z)
      exact ⟨d', .inr q, by rw [← wipe_back hw m]; exact e3⟩
  have S3 := sim_out S kz hv A.sim hw
  refine ⟨⟨S3, A.lst, A.z, A.h0, fun i w => ?_⟩, kin, fun a o ne q n => l.h a o ne q fun i w => n i (own w), l.z, l.l⟩
  obtain ⟨d', hd, e3⟩ := w
  have nv : ∀ {sl : Slot}, (backE r r2 vs)[i]? = some sl → (∀ x, sl ≠ .val x) → sl ≠ .un → i ∉ vs ∧ r2[i]? = some sl := fun {sl} q n1 n2 => by
    by_cases m : i ∈ vs
    · rw [backE_in hl m] at q
      have p := vsOk_at hv m
      rw [q] at p
      cases sl with
      | un => exact (n2 rfl).elim
      | val x => exact (n1 x rfl).elim
      | _ => cases p
    · exact ⟨m, by rw [← backE_out (r := r) m]; exact q⟩
  rcases hd with hd | hd
  · obtain ⟨m, q⟩ := nv hd (fun _ z => by cases z) (fun z => by cases z)
    exact A.no i ⟨d', .inl q, by rw [wipe_back hw m]; exact e3⟩
  · obtain ⟨m, q⟩ := nv hd (fun _ z => by cases z) (fun z => by cases z)
    exact A.no i ⟨d', .inr q, by rw [wipe_back hw m]; exact e3⟩
/-- a result of a step; what is wanted behind it -/
def tSt (K : Fr) (T : An) (D0 : Addr) (s : L2.St) (x : Res (List D)) (r : Env) (Z H : Hp) (N : Hp → Prop) : Prop := match x with
  | .ok acc r' => ∀ H' Z', Acc K T D0 acc r' Z' s H' → Lk D0 r s H Z r' H' Z' → N H'
  | _ => False
theorem tSt.from {D0 : Addr} {x : Res (List D)} {N : Hp → Prop} {r1 : Env} {Z1 H1 : Hp} (l : Lk D0 r s H Z r1 H1 Z1) (h : tSt K T D0 s x r Z H N) : tSt K T D0 s x r1 Z1 H1 N := by
  cases x with
  | ok acc r' => exact fun H' Z' A l2 => h H' Z' A (l.trans l2)
  | exc _ _ => exact h
  | stuck => exact h
/-- an item -/
def eltRes (acc : List D) (x : RV) (r1 : Env) : Res (List D) := match take x with
  | some y => if acc.length < most then .ok (acc ++ [y]) r1 else .stuck
  | none => .stuck
theorem st_elt {te : Den} {D0 : Addr} {acc : List D} {N : Hp → Prop} (A : Acc K T D0 acc r Z s H) (h : tSt K T D0 s (cElt te acc r) r Z H N) : tO K T WF te s H fun y H4 => ∃ us, H4 D0 = some (.lst us) ∧ us.length < sizeLine ∧ N (upd H4 D0 (.lst (us ++ [y]))) := by
  refine ⟨r, Z, A.sim, ?_⟩
  unfold cElt at h
  cases e : fz (te r) with
  | exc _ _ => rw [e] at h; exact h.elim
  | stuck => rw [e] at h; exact h.elim
  | ok x r1 =>
    rw [e] at h
    have h : tSt K T D0 s (eltRes acc x r1) r Z H N := h
    unfold eltRes at h
    intro y H4 Z4 S4 k4 f4 o4
    have A4 := A.step S4 k4 f4
    obtain ⟨us, eu, rr⟩ := A4.lst
    cases p : take x with
    | none => rw [p] at h; exact h.elim
    | some d =>
      rw [p] at h
      have h : tSt K T D0 s (if acc.length < most then .ok (acc ++ [d]) r1 else .stuck) r Z H N := h
      by_cases hl : acc.length < most
      · rw [if_pos hl] at h
        refine ⟨us, eu, by rw [rr.length]; exact Nat.lt_of_lt_of_le hl (most_le (Nat.le_refl _)), h _ Z4 (A4.push eu rr (o4.rep p)) ⟨k4, fun a o ne q n => ?_, f4.z, fun a q => ?_⟩⟩
        · rw [upd_ne ne]; exact f4.h a o q n
        · by_cases ha : a = D0
          · rw [ha, upd_same]; simp
          · rw [upd_ne ha]; exact f4.l a q
      · rw [if_neg hl] at h; exact h.elim
theorem st_test {tt : DenB} {st : Stp} {D0 : Addr} {acc : List D} {N : Hp → Prop} (A : Acc K T D0 acc r Z s H) (h : tSt K T D0 s (cTest tt st acc r) r Z H N) : tT K T WF tt s H fun b H3 => ∃ r3 Z3, Acc K T D0 acc r3 Z3 s H3 ∧ Lk D0 r s H Z r3 H3 Z3 ∧
    (if b = true then tSt K T D0 s (st acc r3) r3 Z3 H3 N else N H3) := by
  refine ⟨r, Z, A.sim, ?_⟩
  unfold cTest at h
  cases e : tt r with
  | exc _ _ => rw [e] at h; exact h.elim
  | stuck => rw [e] at h; exact h.elim
  | ok b r1 =>
    rw [e] at h
    intro b' H3 Z3 S3 k3 f3 o3
    have o3 : b' = b := o3
    subst o3
    have A3 := A.step S3 k3 f3
    have l3 : Lk D0 r s H Z r1 H3 Z3 := .of k3 f3
    refine ⟨r1, Z3, A3, l3, ?_⟩
    cases b' with
    | true => exact tSt.from l3 h
    | false => exact h H3 Z3 A3 l3
/-- the turns of a loop -/
theorem st_loop {J : It} {items : List D} {g : DenG} {st : Stp} {D0 : Addr} {fp : List Nat} {acc : List D} {N : Hp → Prop} {Z0 : Hp} {bd : L2.St → Hp → (Hp → Prop) → Prop} (src : SrcOk K T J items Z0) (kz : Same Z0 Z) (hs : ∀ i ∈ fp, i ∈ vs) (hg : GFoot fp g)
    (hb : ∀ (s2 : L2.St) (r2 : Env) (Z2 H2 : Hp) (acc2 : List D) (N2 : Hp → Prop), Acc K T D0 acc2 r2 Z2 s2 H2 → tSt K T D0 s2 (st acc2 r2) r2 Z2 H2 N2 → bd s2 H2 N2)
    (A : Acc K T D0 acc r Z s H) (h : tSt K T D0 s (cLoop vs g st items acc r) r Z H N) :
    ∃ W : Nat → Nat → Hp → Prop, (∃ m, W 0 m H) ∧ ∀ i m H, W i m H → (J.stop i H ∧ N H) ∨ (J.go i H ∧ ∃ Nx : Hp → Prop, (∀ H', Nx H' → ∃ m', m' < m ∧ W (i + 1) m' H') ∧
      ∀ x H', J.yld i H x H' → tGt K T fp g x (wipe s vs) H' fun σ2 H2 => wipe σ2 vs = wipe s vs ∧ bd σ2 H2 Nx) := by
  refine ⟨fun i m H => m = items.length - i ∧ i ≤ items.length ∧ ∃ r Z acc, Same Z0 Z ∧ Acc K T D0 acc r Z s H ∧ tSt K T D0 s (cLoop vs g st (items.drop i) acc r) r Z H N, ⟨items.length, rfl, Nat.zero_le _, r, Z, acc, kz, A, h⟩, ?_⟩
  clear A h kz
  rintro i m H ⟨rfl, hi, r, Z, acc, kz, A, h⟩
  by_cases hlt : i < items.length
  · refine .inr ⟨src.goes i r Z s H hlt A.sim kz, fun H' => i + 1 ≤ items.length ∧ ∃ r Z acc, Same Z0 Z ∧ Acc K T D0 acc r Z s H' ∧ tSt K T D0 s (cLoop vs g st (items.drop (i + 1)) acc r) r Z H' N, fun H' p => ⟨items.length - (i + 1), by omega, rfl, p.1, p.2⟩, fun x H' y => ?_⟩
    have hd : items.drop i = items[i] :: items.drop (i + 1) := List.drop_eq_getElem_cons hlt
    rw [hd] at h
    obtain ⟨Z', S', fr, rep⟩ := src.yields i r Z s H items[i] x H' (by simp [hlt]) A.sim kz y
    have A' := A.step S' (Kin.refl _) fr
    have l' : Lk D0 r s H Z r H' Z' := .of (Kin.refl _) fr
    have kz' : Same Z0 Z' := Same.tr kz (fr.same A.sim)
    unfold cLoop at h
    by_cases hv : vsOk r vs = true
    · rw [if_pos hv] at h
      cases w : g items[i] (wipeE r vs) with
      | none => rw [w] at h; exact h.elim
      | some r1 =>
        rw [w] at h
        have h : tSt K T D0 s (match st acc r1 with | .ok acc2 r2 => cLoop vs g st (items.drop (i + 1)) acc2 (backE r r2 vs) | _ => .stuck) r Z H N := h
        refine turn_in hs hg A' rep w fun s2 hw A2 => ⟨hw, hb s2 r1 Z' H' acc _ A2 ?_⟩
        cases q : st acc r1 with
        | exc _ _ => rw [q] at h; exact h.elim
        | stuck => rw [q] at h; exact h.elim
        | ok acc2 r2 =>
          rw [q] at h
          intro H2 Z2 A3 l3
          obtain ⟨A4, l4⟩ := turn_out hg hs A'.sim hv w hw A3 l3
          have k2 : Same Z' Z2 := fun a o e => by rw [l3.z a (by rw [A'.sim.sub a o e]; simp)]; exact e
          exact ⟨hlt, _, Z2, acc2, Same.tr kz' k2, A4, tSt.from (l'.trans l4) h⟩
    · rw [if_neg hv] at h; exact h.elim
  · have e : i = items.length := by omega
    subst e
    refine .inl ⟨src.stops r Z s H A.sim kz, ?_⟩
    rw [List.drop_length] at h
    exact h H Z A .refl
end
section
variable {K : Fr} {T : An} {W : WX} {s : L2.St} {H : Hp} {f f1 : DenI} {g g1 : DenG} {tt tt1 : DenB} {te : Den} {vs vs1 fp fp1 : List Nat} {Q : VK}
theorem acc_start {r : Env} {Z : Hp} {D0 : Addr} (S : Sim K T r Z s H) (hD : H D0 = none) : Acc K T D0 [] r Z s (upd H D0 (.lst [])) := by
  obtain ⟨h1, h2, h3⟩ := S.free hD
  refine ⟨S.laid _ hD, ⟨[], upd_same, RepL.nil⟩, h2, h1, fun i w => ?_⟩
  obtain ⟨d, _, q⟩ := S.at w
  obtain ⟨o, e⟩ := q.there
  rw [hD] at e; cases e
/-- what a comprehension wants, by its loop -/
theorem comp_core {st : Stp} (h : tE K T W (eComp f vs g st) s H Q) : tI K T W f s H fun J H1 => ∃ items r1 Z1, SrcOk K T J items Z1 ∧ Sim K T r1 Z1 s H1 ∧ ∀ D0, H1 D0 = none → Acc K T D0 [] r1 Z1 s (upd H1 D0 (.lst [])) ∧
    tSt K T D0 s (cLoop vs g st items [] r1) r1 Z1 (upd H1 D0 (.lst [])) fun H' => Q (.ref D0) H' := by
  obtain ⟨r, Z, S, h⟩ := h
  refine ⟨r, Z, S, (tG.bind fwdE h).mono fun J H1 h1 => ?_⟩
  obtain ⟨items, r1, Z1, S1, k1, f1, o1, h1⟩ := h1
  refine ⟨items, r1, Z1, o1, S1, fun D0 hD => ?_⟩
  have A := acc_start S1 hD
  refine ⟨A, ?_⟩
  cases e : cLoop vs g st items [] r1 with
  | exc _ _ =>
    exfalso
    have no : ∀ (items acc : List D) (r : Env) (x : Ex) (r' : Env), cLoop vs g st items acc r ≠ .exc x r' := by
      intro items
      induction items with
      | nil => intro acc r x r' z; cases z
      | cons d t ih =>
        intro acc r x r' z
        unfold cLoop at z
        split at z
        · split at z
          · cases z
          · split at z
            · exact ih _ _ _ _ z
            · cases z
        · cases z
    exact no _ _ _ _ _ e
  | stuck => rw [e] at h1; exact h1.elim
  | ok acc r2 =>
    rw [e] at h1
    intro H2 Z2 A2 l2
    have l0 : Lk D0 r1 s H1 Z1 r1 (upd H1 D0 (.lst [])) Z1 := ⟨Kin.refl _, fun a o ne e _ => by rw [upd_ne ne]; exact e, fun _ _ => rfl, fun a e => by
      by_cases h : a = D0
      · rw [h] at e; exact (e hD).elim
      · rw [upd_ne h]; exact e⟩
    have l := l0.trans l2
    obtain ⟨us, eu, rr⟩ := A2.lst
    exact h1 (.ref D0) H2 Z2 A2.sim l.k (l.frm hD) ⟨D0, rfl, ⟨A2.z, us, eu, rr⟩, A2.h0, A2.no, hD⟩
theorem tT_yes {s : L2.St} {H : Hp} {Q : Bool → Hp → Prop} (h : tT K T W bYes s H Q) : tYes s H Q := by
  obtain ⟨r, Z, S, h⟩ := h
  exact h true H Z S (Kin.refl _) Frm.refl rfl
theorem comp_one (hs : ∀ i ∈ fp, i ∈ vs) (hg : GFoot fp g) (h : tE K T W (eComp f vs g (cTest tt (cElt te))) s H Q) : tLc (tI K T W f) (tGt K T fp g) (tT K T WF tt) (tO K T WF te) vs s H Q := by
  obtain ⟨r, Z, S, h⟩ := comp_core h
  refine ⟨r, Z, S, h.mono fun J H1 h1 D0 hD => ?_⟩
  obtain ⟨items, r1, Z1, src, S1, h1⟩ := h1
  obtain ⟨A, h1⟩ := h1 D0 hD
  exact st_loop (bd := fun σ2 H2 Nx => tT K T WF tt σ2 H2 fun b H3 => if b = true then tO K T WF te σ2 H3 fun y H4 => ∃ acc, H4 D0 = some (.lst acc) ∧ acc.length < sizeLine ∧ Nx (upd H4 D0 (.lst (acc ++ [y]))) else Nx H3) src (Same.refl _) hs hg
    (fun s2 r2 Z2 H2 acc2 N2 A2 q => by
      obtain ⟨r0, Z0, S0, q0⟩ := st_test A2 q
      refine ⟨r0, Z0, S0, q0.mono fun b H3 h3 => ?_⟩
      obtain ⟨r3, Z3, A3, l3, h3⟩ := h3
      cases b with
      | true => exact st_elt A3 h3
      | false => exact h3) A h1
theorem comp_two (hs : ∀ i ∈ fp, i ∈ vs) (hg : GFoot fp g) (hs1 : ∀ i ∈ fp1, i ∈ vs1) (hg1 : GFoot fp1 g1) (h : tE K T W (eComp f vs g (cTest tt (cFrom f1 vs1 g1 (cTest tt1 (cElt te))))) s H Q) :
    tLc2 (tI K T W f) (tGt K T fp g) (tT K T WF tt) (tI K T WF f1) (tGt K T fp1 g1) (tT K T WF tt1) (tO K T WF te) vs vs1 s H Q := by
  obtain ⟨r, Z, S, h⟩ := comp_core h
  refine ⟨r, Z, S, h.mono fun J H1 h1 D0 hD => ?_⟩
  obtain ⟨items, r1, Z1, src, S1, h1⟩ := h1
  obtain ⟨A, h1⟩ := h1 D0 hD
  refine st_loop (bd := fun σ2 H2 Nx => tT K T WF tt σ2 H2 fun b H3 => if b = true then tI K T WF f1 σ2 H3 fun J1 H4 => ∃ W1 : Nat → Nat → Hp → Prop, (∃ m, W1 0 m H4) ∧ ∀ j k H, W1 j k H →
      (J1.stop j H ∧ Nx H) ∨ (J1.go j H ∧ ∃ Nx1 : Hp → Prop, (∀ H', Nx1 H' → ∃ k', k' < k ∧ W1 (j + 1) k' H') ∧ ∀ x H', J1.yld j H x H' → tGt K T fp1 g1 x (wipe σ2 vs1) H' fun σ3 H5 => wipe σ3 vs1 = wipe σ2 vs1 ∧ tT K T WF tt1 σ3 H5 fun b H6 =>
        if b = true then tO K T WF te σ3 H6 fun y H7 => ∃ acc, H7 D0 = some (.lst acc) ∧ acc.length < sizeLine ∧ Nx1 (upd H7 D0 (.lst (acc ++ [y]))) else Nx1 H6)
    else Nx H3) src (Same.refl _) hs hg (fun s2 r2 Z2 H2 acc2 N2 A2 q => ?_) A h1
  obtain ⟨r0, Z0, S0, q0⟩ := st_test A2 q
  refine ⟨r0, Z0, S0, q0.mono fun b H3 h3 => ?_⟩
  obtain ⟨r3, Z3, A3, l3, h3⟩ := h3
  cases b with
  | false => exact h3
  | true =>
    have h3 : tSt K T D0 s2 (cFrom f1 vs1 g1 (cTest tt1 (cElt te)) acc2 r3) r3 Z3 H3 N2 := h3
    refine ⟨r3, Z3, A3.sim, ?_⟩
    unfold cFrom at h3
    cases e : f1 r3 with
    | exc _ _ => rw [e] at h3; exact h3.elim
    | stuck => rw [e] at h3; exact h3.elim
    | ok items1 r4 =>
      rw [e] at h3
      intro J1 H4 Z4 S4 k4 f4 src1
      have A4 := A3.step S4 k4 f4
      have l4 : Lk D0 r3 s2 H3 Z3 r4 H4 Z4 := .of k4 f4
      exact st_loop (bd := fun σ3 H5 Nx1 => tT K T WF tt1 σ3 H5 fun b H6 => if b = true then tO K T WF te σ3 H6 fun y H7 => ∃ acc, H7 D0 = some (.lst acc) ∧ acc.length < sizeLine ∧ Nx1 (upd H7 D0 (.lst (acc ++ [y]))) else Nx1 H6) src1 (Same.refl _) hs1 hg1
        (fun s5 r5 Z5 H5 acc5 N5 A5 q5 => by
          obtain ⟨r6, Z6, S6, q6⟩ := st_test A5 q5
          refine ⟨r6, Z6, S6, q6.mono fun b H7 h7 => ?_⟩
          obtain ⟨r7, Z7, A7, l7, h7⟩ := h7
          cases b with
          | true => exact st_elt A7 h7
          | false => exact h7) A4 (tSt.from l4 h3)
end
/-! ### rules -/
abbrev InBlk (X : Cx) (scope : Scope) (P : Cx → Prop) : Prop := ∀ (s : Shared) (H : Hp) (C : Addr) (cl : List (Str × Addr)) (fp : List Addr), P (X.blk s H scope (compEnvC scope cl C X.env) fp)
theorem takesF (X : Cx) : Takes X WF := fun u s' h => by
  obtain ⟨_, _, _, _, _, _, _, _, _, _, _, _, _, _, _, _, z⟩ := h
  exact z.elim
theorem _root_.L2.PTs.less {X : Cx} {e : List Expr} {t t' : TT} (h : PTs X e t) (k : ∀ s H Q, t' s H Q → t s H Q) : PTs X e t' := ⟨fun pins s σ H Q I q => h.run pins s σ H Q I (k _ _ _ q)⟩
theorem dts_nil {X : Cx} {T : An} {W : WX} : PTs X [] (tT X.K T W bYes) := pts_nil.less fun _ _ _ h => tT_yes h
theorem dts_one {X : Cx} {T : An} {W : WX} {c : Expr} {p : DenB} (h : PT X c (tT X.K T W p)) : PTs X [c] (tT X.K T W p) := pts_one h
section
variable {X : Cx} {T : An} {W : WX} {elt tg iter tg1 iter1 : Expr} {ifs ifs1 : List Expr} {scope : Scope} {own : List (Str × Nat)} {pos : Pos} {f f1 : DenI} {g g1 : DenG} {tt tt1 : DenB} {te : Den} {fp fp1 vs1 : List Nat}
theorem de_comp (hc : X.calm = true) (hN : X.N.Nodup) (ok : BlkOk X.N X.env.scope scope own) (hs : ∀ i ∈ fp, i ∈ own.map (·.2)) (hf : GFoot fp g) (hi : PI X tg iter (tI X.K T W f))
    (hg : InBlk X scope fun Y => PG Y tg (tGt X.K T fp g)) (ht : InBlk X scope fun Y => PTs Y ifs (tT X.K T WF tt)) (he : InBlk X scope fun Y => PE Y elt (tE X.K T WF te)) (hz : ∀ x, foldedSetIterable iter X.env x = pure x) :
    PE X (.ListComp elt [⟨tg, iter, ifs, 0⟩] scope pos) (tE X.K T W (eComp f (own.map (·.2)) g (cTest tt (cElt te)))) :=
  (pe_lc hc hN hi ok hg ht (fun s H C cl fp => pe_fz (he s H C cl fp)) hz).less fun s H Q h => comp_one hs hf h
theorem de_comp2 (hc : X.calm = true) (hN : X.N.Nodup) (ok : BlkOk X.N X.env.scope scope own) (hs : ∀ i ∈ fp, i ∈ own.map (·.2)) (hf : GFoot fp g) (hs1 : ∀ i ∈ fp1, i ∈ vs1) (hf1 : GFoot fp1 g1) (hv : ∀ i ∈ vs1, i ∈ own.map (·.2)) (hi : PI X tg iter (tI X.K T W f))
    (hg : InBlk X scope fun Y => PG Y tg (tGt X.K T fp g)) (ht : InBlk X scope fun Y => PTs Y ifs (tT X.K T WF tt)) (hi1 : InBlk X scope fun Y => PI Y tg1 iter1 (tI X.K T WF f1)) (hg1 : InBlk X scope fun Y => PG Y tg1 (tGt X.K T fp1 g1))
    (ht1 : InBlk X scope fun Y => PTs Y ifs1 (tT X.K T WF tt1)) (he : InBlk X scope fun Y => PE Y elt (tE X.K T WF te)) (hz : ∀ x, foldedSetIterable iter X.env x = pure x) (hz1 : ∀ env x, foldedSetIterable iter1 env x = pure x) :
    PE X (.ListComp elt [⟨tg, iter, ifs, 0⟩, ⟨tg1, iter1, ifs1, 0⟩] scope pos) (tE X.K T W (eComp f (own.map (·.2)) g (cTest tt (cFrom f1 vs1 g1 (cTest tt1 (cElt te)))))) :=
  (pe_lc2 hc hN hi ok hv hg ht hi1 hg1 ht1 (fun s H C cl fp => pe_fz (he s H C cl fp)) hz hz1).less fun s H Q h => comp_two hs hf hs1 hf1 h
/-- name = [..] on one line -/
theorem ds_setComp {i : Nat} {y : Str} {py spos : Pos} (hc : X.calm = true) (hN : X.N.Nodup) (hy : X.N[i]? = some y) (hyl : X.env.scope.names.lookup y = some .local)
    (hsw : swapsWith (.ListComp elt [⟨tg, iter, ifs, 0⟩] scope pos) (some (.Name y py)) spos.line X.env = pure true) (ok : BlkOk X.N X.env.scope scope own) (hs : ∀ i ∈ fp, i ∈ own.map (·.2)) (hf : GFoot fp g) (hi : PI X tg iter (tI X.K T W f))
    (hg : InBlk X scope fun Y => PG Y tg (tGt X.K T fp g)) (ht : InBlk X scope fun Y => PTs Y ifs (tT X.K T WF tt)) (he : InBlk X scope fun Y => PE Y elt (tE X.K T WF te)) (hz : ∀ x, foldedSetIterable iter X.env x = pure x) :
    PS X (.Assign [.Name y py] (.ListComp elt [⟨tg, iter, ifs, 0⟩] scope pos) spos) (tS X.K T W (sSet i (eComp f (own.map (·.2)) g (cTest tt (cElt te))))) :=
  (ps_setLc hc hN hy hyl hsw hi ok hg ht (fun s H C cl fp => pe_fz (he s H C cl fp)) hz).less fun En s H h => comp_one hs hf (tS_set h)
theorem ds_setComp2 {i : Nat} {y : Str} {py spos : Pos} (hc : X.calm = true) (hN : X.N.Nodup) (hy : X.N[i]? = some y) (hyl : X.env.scope.names.lookup y = some .local)
    (hsw : swapsWith (.ListComp elt [⟨tg, iter, ifs, 0⟩, ⟨tg1, iter1, ifs1, 0⟩] scope pos) (some (.Name y py)) spos.line X.env = pure true) (ok : BlkOk X.N X.env.scope scope own) (hs : ∀ i ∈ fp, i ∈ own.map (·.2)) (hf : GFoot fp g) (hs1 : ∀ i ∈ fp1, i ∈ vs1) (hf1 : GFoot fp1 g1) (hv : ∀ i ∈ vs1, i ∈ own.map (·.2)) (hi : PI X tg iter (tI X.K T W f))
    (hg : InBlk X scope fun Y => PG Y tg (tGt X.K T fp g)) (ht : InBlk X scope fun Y => PTs Y ifs (tT X.K T WF tt)) (hi1 : InBlk X scope fun Y => PI Y tg1 iter1 (tI X.K T WF f1)) (hg1 : InBlk X scope fun Y => PG Y tg1 (tGt X.K T fp1 g1))
    (ht1 : InBlk X scope fun Y => PTs Y ifs1 (tT X.K T WF tt1)) (he : InBlk X scope fun Y => PE Y elt (tE X.K T WF te)) (hz : ∀ x, foldedSetIterable iter X.env x = pure x) (hz1 : ∀ env x, foldedSetIterable iter1 env x = pure x) :
    PS X (.Assign [.Name y py] (.ListComp elt [⟨tg, iter, ifs, 0⟩, ⟨tg1, iter1, ifs1, 0⟩] scope pos) spos) (tS X.K T W (sSet i (eComp f (own.map (·.2)) g (cTest tt (cFrom f1 vs1 g1 (cTest tt1 (cElt te))))))) :=
  (ps_setLc2 hc hN hy hyl hsw hi ok hv hg ht hi1 hg1 ht1 (fun s H C cl fp => pe_fz (he s H C cl fp)) hz hz1).less fun En s H h => comp_two hs hf hs1 hf1 (tS_set h)
end
end Ev
namespace Ev
open PySem PySem.Spec PyProof.Rows L2

/-! ### post: what a slot owns becomes fixed behind a statement -/
theorem ds_post {X : Cx} {T : An} {W : WX} {st : Stmt} {g : DenS} {i : Nat} (h : PS X st (tS X.K T W g)) : PS X st (tS X.K T W (sSeq g (sFrz i))) := h.less fun En s H q => by
  obtain ⟨r, Z, S, q⟩ := q
  refine ⟨r, Z, S, ?_⟩
  unfold sSeq at q
  cases e : g r with
  | bk r1 => rw [e] at q; exact q
  | ct r1 => rw [e] at q; exact q
  | rt x r1 => rw [e] at q; exact q
  | exc x r1 => rw [e] at q; exact q
  | stuck => rw [e] at q; exact q
  | nx r1 =>
    rw [e] at q
    intro s' H' Z' S' k
    have q : tGS X.K T W (sFrz i r1) Z En := q
    unfold sFrz at q
    cases w : r1[i]? with
    | none => rw [w] at q; exact q s' H' Z' S' k
    | some sl =>
      rw [w] at q
      cases sl with
      | own d =>
        obtain ⟨p, o, _, hz, S2, _⟩ := S'.frz w
        exact q s' H' _ S2 (Same.tr k (same_updZ hz))
      | un => exact q s' H' Z' S' k
      | val d => exact q s' H' Z' S' k
      | ino d => exact q s' H' Z' S' k
      | err => exact q s' H' Z' S' k

/-! ### isinstance -/
def tyN : D → Option String
  | .non => some "NoneType"
  | .bl _ => some "bool"
  | .int _ => some "int"
  | .str _ => some "str"
  | .tup _ => some "tuple"
  | .lst _ => some "list"
  | .scr _ => some "list"
  | .dct _ _ => some "dict"
  | _ => none
/-- the classes a law asks for -/
inductive Cn where
  | ty (n : String) | own (c : Str)
def cnOf : D → Option Cn
  | .ty n => some (.ty n)
  | .fn c => some (.own c)
  | _ => none
/-- whether a value is of a class; own classes: of these names, none of them of another -/
def isa (cs : List Str) : D → Cn → Option Bool
  | .obj c _ _, .ty n => if c ∈ cs ∧ n ∈ ["int", "bool", "str", "tuple", "list", "dict"] then some false else none
  | .obj c _ _, .own c' => if c ∈ cs ∧ c' ∈ cs then some (decide (c = c')) else none
  | d, .ty n => (tyN d).bind fun t => if n ∈ ["int", "bool", "str", "tuple", "list", "dict"] then some (decide (t = n) || (decide (t = "bool") && decide (n = "int"))) else none
  | d, .own c' => (tyN d).bind fun _ => if c' ∈ cs then some false else none
def isas (cs : List Str) (d : D) : List Cn → Option Bool
  | [] => some false
  | c :: r => (isa cs d c).bind fun b => if b = true then some true else isas cs d r
def cnsOf : List D → Option (List Cn)
  | [] => some []
  | d :: r => (cnOf d).bind fun c => (cnsOf r).map fun cs => c :: cs
def isiD (cs : List Str) : List D → Option RV
  | [d, .tup (t :: ts)] => bv ((cnsOf (t :: ts)).bind fun l => isas cs d l)
  | [_, .tup []] => none
  | [d, c] => bv ((cnOf c).bind fun c => isa cs d c)
  | _ => none
/-- what K must hold for it -/
structure IsiK (K : Fr) (cs : List Str) : Prop where
  cl : ∀ c ∈ cs, Cls K (He.ga K c) ∧ PySem.W.findIn K (.ref (He.ga K c)) "__class__" = some (some (.builtin "object.__class__")) ∧ PySem.W.mroIn K (He.ga K c) (.type "object") = some true
  gt : cs ≠ [] → PySem.W.specialIn K (.builtin "object.__class__") "__get__" = some (some (.builtin "getset_descriptor.__get__")) ∧ PySem.W.takesIn K (.builtin "object.__class__") = some true
  bo : ∀ c ∈ cs, ∀ n ∈ ["NoneType", "int", "bool", "str", "tuple", "list", "dict"], PySem.W.kitOne K (.type n) (.ref (He.ga K c)) = some false ∧ (n ≠ "NoneType" → PySem.W.kitOne K (.ref (He.ga K c)) (.type n) = some false)
  oo : ∀ c ∈ cs, ∀ c' ∈ cs, PySem.W.kitOne K (.ref (He.ga K c)) (.ref (He.ga K c')) = some (decide (c = c'))
def clsVal (K : Fr) : Cn → Value
  | .ty n => .type n
  | .own c => .ref (He.ga K c)
theorem isa_nil (K : Fr) : IsiK K [] := ⟨fun _ h => (nomatch h), fun h => (h rfl).elim, fun _ h => (nomatch h), fun _ h => (nomatch h)⟩
theorem kit_builtin {K : Fr} {t n : String} (ht : t ∈ ["NoneType", "bool", "int", "str", "tuple", "list", "dict"]) (hn : n ∈ ["int", "bool", "str", "tuple", "list", "dict"]) : PySem.W.kitOne K (.type t) (.type n) = some (decide (t = n) || (decide (t = "bool") && decide (n = "int"))) := by
  simp only [List.mem_cons, List.not_mem_nil, or_false] at ht hn
  rcases ht with rfl | rfl | rfl | rfl | rfl | rfl | rfl <;> rcases hn with rfl | rfl | rfl | rfl | rfl | rfl <;> exact kit_ty (by decide +kernel)
theorem tyN_in {d : D} {t : String} (h : tyN d = some t) : t ∈ ["NoneType", "bool", "int", "str", "tuple", "list", "dict"] := by
  cases d <;> first | (cases h; simp) | cases h
theorem tyx_of {K : Fr} {Z H : Hp} {v : V} {d : D} {t : String} (S : Same Z H) (c : Con K Z H v d) (h : tyN d = some t) : TyX K H v (.type t) := by
  cases d with
  | non => cases h; obtain rfl : v = _ := c; exact .base .non
  | bl b => cases h; obtain rfl : v = _ := c; exact .base (.bl b)
  | int i => cases h; obtain rfl : v = _ := c; exact .base (.int i)
  | str x => cases h; obtain rfl : v = _ := c; exact .base (.str x)
  | tup xs =>
    cases h
    obtain ⟨a, vs, rfl, q, _⟩ := c
    rcases same_sqT S q with (q | ⟨o, q⟩) | ⟨o, its, n, e, hc, _⟩
    · exact .base (.tup q)
    · exact .fTuple q
    · exact .kTuple e hc
  | lst xs => cases h; obtain ⟨a, vs, rfl, q, _⟩ := c; exact .base (.lst q)
  | scr ns =>
    cases h
    obtain ⟨a, rfl, q⟩ := c
    rcases S.seq q with (q | ⟨o, q⟩) | ⟨o, its, n, e, hc, _⟩
    · exact .base (.lst q)
    · exact .base (.frz q)
    · exact .kList e hc
  | dct ks vs => cases h; obtain ⟨a, kvs, rfl, q, _⟩ := c; exact q.elim (fun q => .base (.dK q)) fun ⟨o, q⟩ => .fDict q
  | _ => cases h
theorem isa_ok {K : Fr} {cs : List Str} (I : IsiK K cs) {Z H : Hp} {v : V} {d : D} {c : Cn} {b : Bool} (S : Same Z H) (co : Con K Z H v d) (h : isa cs d c = some b) : ∃ t, TyX K H v t ∧ PySem.W.kitOne K t (clsVal K c) = some b := by
  have gen : ∀ t, tyN d = some t → (match c with
      | .ty n => if n ∈ ["int", "bool", "str", "tuple", "list", "dict"] then some (decide (t = n) || (decide (t = "bool") && decide (n = "int"))) else none
      | .own c' => if c' ∈ cs then some false else none) = some b → ∃ t, TyX K H v t ∧ PySem.W.kitOne K t (clsVal K c) = some b := fun t ht h => by
    refine ⟨.type t, tyx_of S co ht, ?_⟩
    cases c with
    | ty n =>
      have h : (if n ∈ ["int", "bool", "str", "tuple", "list", "dict"] then some (decide (t = n) || (decide (t = "bool") && decide (n = "int"))) else none) = some b := h
      by_cases hn : n ∈ ["int", "bool", "str", "tuple", "list", "dict"]
      · rw [if_pos hn] at h
        rw [← h]
        exact kit_builtin (tyN_in ht) hn
      · rw [if_neg hn] at h; cases h
    | own c' =>
      have h : (if c' ∈ cs then some false else none) = some b := h
      by_cases hn : c' ∈ cs
      · rw [if_pos hn] at h
        rw [← h]
        have m := tyN_in ht
        exact (I.bo c' hn t (by simp only [List.mem_cons, List.not_mem_nil, or_false] at m ⊢; rcases m with h | h | h | h | h | h | h <;> simp [h])).1
      · rw [if_neg hn] at h; cases h
  cases d with
  | obj cc ns fs =>
    obtain ⟨a, dx, hf, rfl, q, _⟩ := co
    cases c with
    | ty n =>
      have h : (if cc ∈ cs ∧ n ∈ ["int", "bool", "str", "tuple", "list", "dict"] then some false else none) = some b := h
      by_cases hn : cc ∈ cs ∧ n ∈ ["int", "bool", "str", "tuple", "list", "dict"]
      · rw [if_pos hn] at h
        obtain ⟨k1, k2, k3⟩ := I.cl cc hn.1
        obtain ⟨g1, g2⟩ := I.gt (fun e => by rw [e] at hn; cases hn.1)
        refine ⟨_, .base (.ins q k1 k2 g1 g2 k3), ?_⟩
        rw [← h]
        refine (I.bo cc hn.1 n ?_).2 ?_
        · have m := hn.2
          simp only [List.mem_cons, List.not_mem_nil, or_false] at m ⊢
          exact .inr m
        · intro e
          rw [e] at hn
          exact absurd hn.2 (by decide)
      · rw [if_neg hn] at h; cases h
    | own c' =>
      have h : (if cc ∈ cs ∧ c' ∈ cs then some (decide (cc = c')) else none) = some b := h
      by_cases hn : cc ∈ cs ∧ c' ∈ cs
      · rw [if_pos hn] at h
        obtain ⟨k1, k2, k3⟩ := I.cl cc hn.1
        obtain ⟨g1, g2⟩ := I.gt (fun e => by rw [e] at hn; cases hn.1)
        refine ⟨_, .base (.ins q k1 k2 g1 g2 k3), ?_⟩
        rw [← h]
        exact I.oo cc hn.1 c' hn.2
      · rw [if_neg hn] at h; cases h
  | fn x => cases c <;> cases h
  | ty n => cases c <;> cases h
  | non => exact gen _ rfl (by cases c <;> exact h)
  | bl _ => exact gen _ rfl (by cases c <;> exact h)
  | int _ => exact gen _ rfl (by cases c <;> exact h)
  | str _ => exact gen _ rfl (by cases c <;> exact h)
  | tup _ => exact gen _ rfl (by cases c <;> exact h)
  | lst _ => exact gen _ rfl (by cases c <;> exact h)
  | scr _ => exact gen _ rfl (by cases c <;> exact h)
  | dct _ _ => exact gen _ rfl (by cases c <;> exact h)
theorem cn_con {K : Fr} {Z H : Hp} {v : V} {d : D} {c : Cn} (co : Con K Z H v d) (h : cnOf d = some c) : ClsV v (clsVal K c) := by
  cases d with
  | ty n => cases h; obtain rfl : v = _ := co; exact .ty n
  | fn x => cases h; obtain rfl : v = _ := co; exact .own _
  | _ => cases h
theorem cns_con {K : Fr} {Z H : Hp} (S : Same Z H) : ∀ {ds : List D} {vs : List V} {l : List Cn}, RepL K Z ds vs → cnsOf ds = some l → Paired ClsV vs (l.map (clsVal K))
  | [], vs, l, h, e => by
    have h : vs = [] := h
    subst h
    cases e
    exact .nil
  | d :: ds, vs, l, h, e => by
    obtain ⟨v, t, rfl, h1, h2⟩ := h
    have e : (cnOf d).bind (fun c => (cnsOf ds).map fun cs => c :: cs) = some l := e
    cases q : cnOf d with
    | none => rw [q] at e; cases e
    | some c =>
      rw [q] at e
      have e : (cnsOf ds).map (fun cs => c :: cs) = some l := e
      cases q2 : cnsOf ds with
      | none => rw [q2] at e; cases e
      | some cs =>
        rw [q2] at e
        cases e
        exact .cons (cn_con (Rep.con S h1) q) (cns_con S h2 q2)
theorem isas_ok {K : Fr} {cs : List Str} (I : IsiK K cs) {Z H : Hp} {v : V} {d : D} (S : Same Z H) (co : Con K Z H v d) {t : Value} (ty : TyX K H v t) (ht : ∀ (c : Cn) b, isa cs d c = some b → PySem.W.kitOne K t (clsVal K c) = some b) : ∀ {l : List Cn} {b : Bool}, isas cs d l = some b → PySem.W.kitAny K t (l.map (clsVal K)) = some b
  | [], b, h => by cases h; exact kitAny_nil
  | c :: l, b, h => by
    have h : (isa cs d c).bind (fun b => if b = true then some true else isas cs d l) = some b := h
    cases q : isa cs d c with
    | none => rw [q] at h; cases h
    | some b1 =>
      rw [q] at h
      have h : (if b1 = true then some true else isas cs d l) = some b := h
      refine kitAny_cons (ht c b1 q) (fun e => ?_) (fun e => ?_)
      · subst e
        exact isas_ok I S co ty ht h
      · subst e
        cases h
        rfl
/-- an answer has one type -/
theorem isa_ty {K : Fr} {cs : List Str} (I : IsiK K cs) {Z H : Hp} {v : V} {d : D} (S : Same Z H) (co : Con K Z H v d) {c : Cn} {b : Bool} (h : isa cs d c = some b) : ∃ t, TyX K H v t ∧ ∀ (c : Cn) b, isa cs d c = some b → PySem.W.kitOne K t (clsVal K c) = some b := by
  cases d with
  | obj cc ns fs =>
    have hc : cc ∈ cs := by
      cases c with
      | ty n =>
        have h : (if cc ∈ cs ∧ n ∈ ["int", "bool", "str", "tuple", "list", "dict"] then some false else none) = some b := h
        by_cases hn : cc ∈ cs ∧ n ∈ ["int", "bool", "str", "tuple", "list", "dict"]
        · exact hn.1
        · rw [if_neg hn] at h; cases h
      | own c' =>
        have h : (if cc ∈ cs ∧ c' ∈ cs then some (decide (cc = c')) else none) = some b := h
        by_cases hn : cc ∈ cs ∧ c' ∈ cs
        · exact hn.1
        · rw [if_neg hn] at h; cases h
    obtain ⟨a, dx, hf, rfl, q, _⟩ := id co
    obtain ⟨k1, k2, k3⟩ := I.cl cc hc
    obtain ⟨g1, g2⟩ := I.gt (fun e => by rw [e] at hc; cases hc)
    refine ⟨_, .base (.ins q k1 k2 g1 g2 k3), fun c b h => ?_⟩
    cases c with
    | ty n =>
      have h : (if cc ∈ cs ∧ n ∈ ["int", "bool", "str", "tuple", "list", "dict"] then some false else none) = some b := h
      by_cases hn : cc ∈ cs ∧ n ∈ ["int", "bool", "str", "tuple", "list", "dict"]
      · rw [if_pos hn] at h
        rw [← h]
        refine (I.bo cc hn.1 n ?_).2 ?_
        · have m := hn.2
          simp only [List.mem_cons, List.not_mem_nil, or_false] at m ⊢
          exact .inr m
        · intro e
          rw [e] at hn
          exact absurd hn.2 (by decide)
      · rw [if_neg hn] at h; cases h
    | own c' =>
      have h : (if cc ∈ cs ∧ c' ∈ cs then some (decide (cc = c')) else none) = some b := h
      by_cases hn : cc ∈ cs ∧ c' ∈ cs
      · rw [if_pos hn] at h
        rw [← h]
        exact I.oo cc hn.1 c' hn.2
      · rw [if_neg hn] at h; cases h
  | fn x => cases c <;> cases h
  | ty n => cases c <;> cases h
  | _ =>
    refine ⟨_, tyx_of S co rfl, fun c b h => ?_⟩
    cases c with
    | ty n =>
      have h : (if n ∈ ["int", "bool", "str", "tuple", "list", "dict"] then some _ else none) = some b := h
      by_cases hn : n ∈ ["int", "bool", "str", "tuple", "list", "dict"]
      · rw [if_pos hn] at h
        rw [← h]
        exact kit_builtin (by simp) hn
      · rw [if_neg hn] at h; cases h
    | own c' =>
      have h : (if c' ∈ cs then some false else none) = some b := h
      by_cases hn : c' ∈ cs
      · rw [if_pos hn] at h
        rw [← h]
        exact (I.bo c' hn _ (by simp)).1
      · rw [if_neg hn] at h; cases h
def rIsiS (K : Fr) : List V → Hp → VK → Prop := fun xs H Q => ∃ (x : V) (tp : Addr) (cs : List V) (t : Value) (us : List Value) (b : Bool), xs = [x, .ref tp] ∧ SqT K H tp cs ∧ Paired ClsV cs us ∧ TyX K H x t ∧ PySem.W.kitAny K t us = some b ∧ Q (.bl b) H
theorem cr_isiS {X : Cx} : CallR X (.builtin "isinstance") (rIsiS X.K) := by
  intro pins s σ H xs us Q I r h
  obtain ⟨x, tp, cs, t, ws, b, rfl, hq, k, ty, e, q⟩ := h
  obtain ⟨u1, u2, rfl, r1, r2⟩ := vals2 r
  obtain rfl : u2 = Value.ref tp := r2
  obtain ⟨P, z, p, hx⟩ := kit_of I r1 ty
  obtain ⟨its, rv, ht, _⟩ := I.tuple hq
  obtain ⟨o, ho, hc, n, hd⟩ := ht
  have e3 := ClsV.all k rv
  subst e3
  obtain ⟨oc, od, dt, sl⟩ := o
  simp only at hc hd
  subst hc hd
  exact PySem.W.kia_tup z I.kIn p ho e hx fun tk => ⟨.bl b, H, I.tok tk, rfl, q⟩
def rIsiA (K : Fr) : List V → Hp → VK → Prop := fun xs H Q => rIsi K xs H Q ∨ rIsiS K xs H Q
theorem cr_isi {X : Cx} : CallR X (.builtin "isinstance") (rIsiA X.K) := cr_or call_isi cr_isiS
theorem fn_isi {X : Cx} {T : An} {W : WX} {cs : List Str} (I : IsiK X.K cs) : FnOkD X.K T W (isiD cs) (rIsiA X.K) := by
  refine two_of (fun ds x q => ?_) fun s r Z H v w d e x Q S c1 c2 q h => ?_
  · match ds, q with
    | [d, e], _ => exact ⟨d, e, rfl⟩
    | [], q => cases q
    | [_], q => cases q
    | _ :: _ :: _ :: _, q => simp [isiD] at q
  · have one : bv ((cnOf e).bind fun c => isa cs d c) = some x → rIsiA X.K [v, w] H Q := fun q => by
      obtain ⟨b, q1, rfl⟩ := bv_some q
      cases hc : cnOf e with
      | none => rw [hc] at q1; cases q1
      | some c =>
        rw [hc] at q1
        obtain ⟨t, ty, k⟩ := isa_ok I S.sub c1 q1
        exact .inl ⟨v, w, t, _, b, rfl, cn_con c2 hc, ty, k, ends S h rfl⟩
    cases e with
    | tup ts =>
      cases ts with
      | nil => cases q
      | cons t0 ts =>
      have q : bv ((cnsOf (t0 :: ts)).bind fun l => isas cs d l) = some x := q
      obtain ⟨b, q1, rfl⟩ := bv_some q
      cases hc : cnsOf (t0 :: ts) with
      | none => rw [hc] at q1; cases q1
      | some l =>
        rw [hc] at q1
        have q1 : isas cs d l = some b := q1
        obtain ⟨tp, us, rfl, sq, rr⟩ := c2
        cases l with
        | nil =>
          exfalso
          have hc : (cnOf t0).bind (fun c => (cnsOf ts).map fun cs => c :: cs) = some [] := hc
          cases h1 : cnOf t0 with
          | none => rw [h1] at hc; cases hc
          | some c =>
            rw [h1] at hc
            cases h2 : cnsOf ts with
            | none => rw [h2] at hc; cases hc
            | some l => rw [h2] at hc; cases hc
        | cons c l =>
          have hb : ∃ b1, isa cs d c = some b1 := by
            cases z : isa cs d c with
            | none =>
              have q1 : (isa cs d c).bind (fun b => if b = true then some true else isas cs d l) = some b := q1
              rw [z] at q1; cases q1
            | some b1 => exact ⟨b1, rfl⟩
          obtain ⟨b1, hb1⟩ := hb
          obtain ⟨t, ty, k⟩ := isa_ty I S.sub c1 hb1
          exact .inr ⟨v, tp, us, t, _, b, rfl, same_sqT S.sub sq, cns_con S.sub rr hc, ty, isas_ok I S.sub c1 ty k q1, ends S h rfl⟩
    | ty n => exact one (by cases d <;> exact q)
    | fn n => exact one (by cases d <;> exact q)
    | _ =>
      exfalso
      have q : bv ((cnOf _).bind fun c => isa cs d c) = some x := q
      cases q
end Ev
namespace Ev
open PySem PySem.Spec PyProof.Rows L2

/-! ### bit_length -/
def bitsD : D → Option RV
  | .int i => some (.val (.int (Builtin.Int.intBits i : Nat)))
  | _ => none
/-! ### a < b < c -/
def eChain (dop dop' : D → D → Option RV) (f g h : Den) : Den := fun r => (fz (f r)).bind fun x r1 => (fz (g r1)).bind fun y r2 => match peek r2 x, peek r2 y with
  | some d, some e => (match dop d e with
    | some (.val (.bl true)) => (fz (h r2)).bind fun z r3 => (match peek r3 y, peek r3 z with
      | some e', some c => ofO (dop' e' c) r3
      | _, _ => .stuck)
    | some (.val (.bl false)) => .ok (.val (.bl false)) r2
    | _ => .stuck)
  | _, _ => .stuck
section
variable {X : Cx} {T : An} {W : WX} {a b c : Expr} {f g h : Den} {pos apos : Pos}
theorem de_bits (ha : PE X a (tE X.K T W f)) (hbase : attributeBase a "bit_length" X.env (eval a X.env) = eval a X.env) (hline : (apos.endLine == pos.line) = true) : PE X (.Call (.Attribute a "bit_length" apos) [] [] pos) (tE X.K T W (eUn bitsD f)) :=
  (pe_bits (pe_fz ha) hbase hline).less fun s H Q q => tE_un (R := fun x H1 Q => ∃ i, x = .int i ∧ Q (.int (Builtin.Int.intBits i : Nat)) H1) (fun s r Z H v d x Q S co q h => by
    cases d with
    | int i =>
      cases q
      obtain rfl : v = .int i := co
      exact ⟨i, rfl, ends S h rfl⟩
    | _ => cases q) q
theorem chain_core {K : Fr} {R R' : R2} {dop dop' : D → D → Option RV}
    (ho : ∀ (s : L2.St) (r : Env) (Z H : Hp) (v w : V) (d e : D) (x : RV) (Q : VK), Sim K T r Z s H → Con K Z H v d → Con K Z H w e → dop d e = some x → tG K T W (RelE K T s) s (.ok x r) r Z H Q → R v w H Q)
    (ho' : ∀ (s : L2.St) (r : Env) (Z H : Hp) (v w : V) (d e : D) (x : RV) (Q : VK), Sim K T r Z s H → Con K Z H v d → Con K Z H w e → dop' d e = some x → tG K T W (RelE K T s) s (.ok x r) r Z H Q → R' v w H Q)
    {s : L2.St} {H : Hp} {Q : VK} (q : tE K T W (eChain dop dop' f g h) s H Q) : tChain R R' (tO K T W f) (tO K T W g) (tO K T W h) s H Q := by
  obtain ⟨r, Z, S, q⟩ := q
  refine ⟨r, Z, S, (tG.bind fwdE q).mono fun v H1 h1 => ?_⟩
  obtain ⟨x, r1, Z1, S1, k1, f1, o1, h1⟩ := h1
  refine ⟨r1, Z1, S1, (tG.bind fwdE h1).mono fun w H2 h2 => ?_⟩
  obtain ⟨y, r2, Z2, S2, k2, f2, o2, h2⟩ := h2
  have o1' : RelF K T s H r2 Z2 H2 v x := RelF.stay o1 S1 k2 f2
  cases p1 : peek r2 x with
  | none => rw [p1] at h2; exact h2.elim
  | some d =>
    cases p2 : peek r2 y with
    | none => rw [p1, p2] at h2; exact h2.elim
    | some e =>
      rw [p1, p2] at h2
      have h9 : tG K T W (RelE K T s) s (match dop d e with
        | some (.val (.bl true)) => (fz (h r2)).bind fun z r3 => (match peek r3 y, peek r3 z with
          | some e', some c => ofO (dop' e' c) r3
          | _, _ => .stuck)
        | some (.val (.bl false)) => .ok (.val (.bl false)) r2
        | _ => .stuck) r2 Z2 H2 Q := h2
      clear h2
      have key : ∀ b, dop d e = some (.val (.bl b)) → tG K T W (RelE K T s) s (if b = true then ((fz (h r2)).bind fun z r3 => (match peek r3 y, peek r3 z with
          | some e', some c => ofO (dop' e' c) r3
          | _, _ => .stuck)) else .ok (.val (.bl false)) r2) r2 Z2 H2 Q → R v w H2 fun z H3 => ∃ k, z = .bl k ∧ (if k = true then tO K T W h s H3 fun w' H4 => R' w w' H4 Q else Q (.bl false) H3) := fun b hb q => by
        refine ho s r2 Z2 H2 v w d e _ _ S2 (o1'.con S2 p1) (o2.con S2 p2) hb fun z H3 Z3 S3 k3 f3 o3 => ?_
        obtain rfl : z = .bl b := o3
        refine ⟨b, rfl, ?_⟩
        have q := q.from fwdE k3 f3
        cases b with
        | false => exact ends S3 q rfl
        | true =>
          refine ⟨r2, Z3, S3, (tG.bind fwdE q).mono fun u H4 h4 => ?_⟩
          obtain ⟨z, r4, Z4, S4, k4, f4, o4, h4⟩ := h4
          have o2' : RelF K T s H r4 Z4 H4 w y := RelF.stay (B' := H) (RelF.stay (B' := H) o2 S2 k3 f3) S3 k4 f4
          cases p3 : peek r4 y with
          | none => rw [p3] at h4; exact h4.elim
          | some e' =>
            cases p4 : peek r4 z with
            | none => rw [p3, p4] at h4; exact h4.elim
            | some c =>
              rw [p3, p4] at h4
              have h4 : tG K T W (RelE K T s) s (ofO (dop' e' c) r4) r4 Z4 H4 Q := h4
              cases p5 : dop' e' c with
              | none => rw [p5] at h4; exact h4.elim
              | some x5 =>
                rw [p5] at h4
                exact ho' s r4 Z4 H4 w u e' c x5 Q S4 (o2'.con S4 p3) (o4.con S4 p4) p5 h4
      cases p6 : dop d e with
      | none => rw [p6] at h9; exact h9.elim
      | some z =>
        rw [p6] at h9
        cases z with
        | val d' =>
          cases d' with
          | bl b => exact key b p6 (by cases b <;> exact h9)
          | _ => exact h9.elim
        | _ => exact h9.elim
theorem de_chain {op op' : CmpOp} {dop dop' : D → D → Option RV} (k : CmpOk X T W op dop) (k' : CmpOk X T W op' dop') (hm : lastMarks [op, op'] [b, c] = false) (ha : PE X a (tE X.K T W f)) (hb : PE X b (tE X.K T W g)) (hc : PE X c (tE X.K T W h)) :
    PE X (.Compare a [op, op'] [b, c] pos) (tE X.K T W (eChain dop dop' f g h)) := by
  obtain ⟨R, hr, ho⟩ := k
  obtain ⟨R', hr', ho'⟩ := k'
  exact (pe_chain hr hr' (pe_fz ha) (pe_fz hb) (pe_fz hc) hm).less fun _ _ _ q => chain_core ho ho' q
theorem dt_chain {op op' : CmpOp} {dop dop' : D → D → Option RV} (k : CmpOk X T W op dop) (k' : CmpOk X T W op' dop') (hm : lastMarks [op, op'] [b, c] = false) (ha : PE X a (tE X.K T W f)) (hb : PE X b (tE X.K T W g)) (hc : PE X c (tE X.K T W h)) :
    PT X (.Compare a [op, op'] [b, c] pos) (tT X.K T W (tBl (eChain dop dop' f g h))) := by
  obtain ⟨R, hr, ho⟩ := k
  obtain ⟨R', hr', ho'⟩ := k'
  exact (pt_chain hr hr' (pe_fz ha) (pe_fz hb) (pe_fz hc) hm).less fun _ _ _ q => chain_core ho ho' (tT_bl q)
end

/-! ### in -/
def flatD : D → Bool
  | .non => true
  | .bl _ => true
  | .int _ => true
  | .str _ => true
  | _ => false
def eqF : D → D → Bool
  | .non, .non => true
  | .bl a, .bl b => a == b
  | .bl a, .int b => (if a then 1 else 0) == b
  | .int a, .bl b => a == (if b then 1 else 0)
  | .int a, .int b => a == b
  | .str a, .str b => a == b
  | _, _ => false
def inD (x : D) : D → Option Bool
  | .lst xs => if flatD x = true ∧ xs.all flatD = true then some (xs.any fun y => eqF y x) else (toP x).bind fun p => (toPs xs).bind fun ps => if SeqAt.shaped p = true ∧ SeqAt.shaped (.list ps) = true then some (ps.any fun z => PyData.eqv z p) else none
  | .tup xs => if flatD x = true ∧ xs.all flatD = true then some (xs.any fun y => eqF y x) else (toP x).bind fun p => (toPs xs).bind fun ps => if SeqAt.shaped p = true ∧ SeqAt.shaped (.list ps) = true then some (ps.any fun z => PyData.eqv z p) else none
  | .dct ks _ => (keyD x).map fun k => ks.any fun y => decide (y = k)
  | _ => none
def cinD (d e : D) : Option RV := bv (inD d e)
def cniD (d e : D) : Option RV := bv ((inD d e).map not)
theorem flat_con {K : Fr} {Z H : Hp} {v : V} {d : D} (c : Con K Z H v d) (h : flatD d = true) : flatV v = true := by
  cases d <;> first | (obtain rfl : v = _ := c; rfl) | cases h
theorem eqF_con {K : Fr} {Z H : Hp} {v w : V} {d e : D} (c : Con K Z H v d) (c' : Con K Z H w e) (h : flatD d = true) (h' : flatD e = true) : eqV v w = eqF d e := by
  cases d <;> first
    | (obtain rfl : v = _ := c
       cases e <;> first | (obtain rfl : w = _ := c'; rfl) | cases h')
    | cases h
theorem flats_rep {K : Fr} {Z H : Hp} (sb : Same Z H) {w : V} {e : D} (c : Con K Z H w e) (he : flatD e = true) : ∀ {ds : List D} {vs : List V}, RepL K Z ds vs → ds.all flatD = true → vs.all flatV = true ∧ (vs.any fun y => eqV y w) = ds.any fun y => eqF y e
  | [], vs, h, _ => by
    have h : vs = [] := h
    subst h
    exact ⟨rfl, rfl⟩
  | d :: ds, vs, h, hf => by
    obtain ⟨v, t, rfl, h1, h2⟩ := h
    rw [List.all_cons, Bool.and_eq_true] at hf
    have c1 := Rep.con (H := H) sb h1
    obtain ⟨a1, a2⟩ := flats_rep sb c he h2 hf.2
    refine ⟨by rw [List.all_cons, flat_con c1 hf.1, a1]; rfl, ?_⟩
    rw [List.any_cons, List.any_cons, eqF_con c1 c hf.1 he, a2]
def rInK (neg : Bool) : R2 := fun x y H Q => ∃ a kvs k, y = .ref a ∧ x = kV k ∧ Rd H a (.dK kvs) ∧ Q (.bl (if neg then !(valV kvs k).isSome else (valV kvs k).isSome)) H
def rInL (K : Fr) (neg : Bool) : R2 := fun x y H Q => ∃ d ds, Dp K H x d ∧ (Dp K H y (.list ds) ∨ Dp K H y (.tuple ds)) ∧ SeqAt.shaped d = true ∧ SeqAt.shaped (.list ds) = true ∧ Q (.bl (if neg then !ds.any fun z => PyData.eqv z d else ds.any fun z => PyData.eqv z d)) H
section
variable {X : Cx} {T : An} {W : WX}
theorem op_inK (hu : X.A.units + 1 < cLine) : OpR X (compareOp .In) (rInK false) := by
  intro pins s σ H x y v u Q I rx ry h
  obtain ⟨a, kvs, k, rfl, rfl, e, q⟩ := h
  obtain rfl : u = Value.ref a := ry
  exact d_in hu I (.inl ⟨kvs, k, e, rfl, rfl⟩) rx fun s' I' => ⟨.bl _, H, I', rfl, q⟩
theorem op_niK (hu : X.A.units + 1 < cLine) : OpR X (compareOp .NotIn) (rInK true) := by
  intro pins s σ H x y v u Q I rx ry h
  obtain ⟨a, kvs, k, rfl, rfl, e, q⟩ := h
  obtain rfl : u = Value.ref a := ry
  exact d_notIn hu I (.inl ⟨kvs, k, e, rfl, rfl⟩) rx fun s' I' => ⟨.bl _, H, I', rfl, q⟩
theorem dct_any {kvs : List (Key × V)} {k : Key} : (valV kvs k).isSome = (kvs.map Prod.fst).any fun y => decide (y = k) := by
  rw [← valV_any, List.any_map]
  rfl
theorem in_flat {K : Fr} {Z H : Hp} {v w : V} {d e : D} {b : Bool} {neg : Bool} {Q : VK} (sb : Same Z H) (c1 : Con K Z H v d) (c2 : Con K Z H w e) (h : inD d e = some b) (q : Q (.bl (if neg then !b else b)) H) : rIn K neg v w H Q ∨ rInK neg v w H Q ∨ rInL K neg v w H Q := by
  cases e with
  | lst xs =>
    have h : (if flatD d = true ∧ xs.all flatD = true then some (xs.any fun y => eqF y d) else (toP d).bind fun p => (toPs xs).bind fun ps => if SeqAt.shaped p = true ∧ SeqAt.shaped (.list ps) = true then some (ps.any fun z => PyData.eqv z p) else none) = some b := h
    obtain ⟨a, vs, rfl, e1, rr⟩ := id c2
    by_cases hf : flatD d = true ∧ xs.all flatD = true
    · rw [if_pos hf] at h
      cases h
      obtain ⟨a1, a2⟩ := flats_rep sb c1 hf.1 rr hf.2
      refine .inl ⟨a, vs, rfl, .inl (SqL.of e1), flat_con c1 hf.1, a1, ?_⟩
      unfold inV
      rw [a2]
      exact q
    · rw [if_neg hf] at h
      cases hp : toP d with
      | none => rw [hp] at h; cases h
      | some p =>
        rw [hp] at h
        cases hps : toPs xs with
        | none =>
          have h : (toPs xs).bind (fun ps => if SeqAt.shaped p = true ∧ SeqAt.shaped (.list ps) = true then some (ps.any fun z => PyData.eqv z p) else none) = some b := h
          rw [hps] at h; cases h
        | some ps =>
          have h : (toPs xs).bind (fun ps => if SeqAt.shaped p = true ∧ SeqAt.shaped (.list ps) = true then some (ps.any fun z => PyData.eqv z p) else none) = some b := h
          rw [hps] at h
          have h : (if SeqAt.shaped p = true ∧ SeqAt.shaped (.list ps) = true then some (ps.any fun z => PyData.eqv z p) else none) = some b := h
          by_cases hsh : SeqAt.shaped p = true ∧ SeqAt.shaped (.list ps) = true
          · rw [if_pos hsh] at h
            cases h
            exact .inr (.inr ⟨p, ps, Con.dp sb d c1 hp, .inl (.lst (SqL.of e1) (RepL.dp sb xs rr hps)), hsh.1, hsh.2, q⟩)
          · rw [if_neg hsh] at h; cases h
  | tup xs =>
    have h : (if flatD d = true ∧ xs.all flatD = true then some (xs.any fun y => eqF y d) else (toP d).bind fun p => (toPs xs).bind fun ps => if SeqAt.shaped p = true ∧ SeqAt.shaped (.list ps) = true then some (ps.any fun z => PyData.eqv z p) else none) = some b := h
    obtain ⟨a, vs, rfl, e1, rr⟩ := id c2
    by_cases hf : flatD d = true ∧ xs.all flatD = true
    · rw [if_pos hf] at h
      cases h
      obtain ⟨a1, a2⟩ := flats_rep sb c1 hf.1 rr hf.2
      refine .inl ⟨a, vs, rfl, .inr (same_sqT sb e1), flat_con c1 hf.1, a1, ?_⟩
      unfold inV
      rw [a2]
      exact q
    · rw [if_neg hf] at h
      cases hp : toP d with
      | none => rw [hp] at h; cases h
      | some p =>
        rw [hp] at h
        cases hps : toPs xs with
        | none =>
          have h : (toPs xs).bind (fun ps => if SeqAt.shaped p = true ∧ SeqAt.shaped (.list ps) = true then some (ps.any fun z => PyData.eqv z p) else none) = some b := h
          rw [hps] at h; cases h
        | some ps =>
          have h : (toPs xs).bind (fun ps => if SeqAt.shaped p = true ∧ SeqAt.shaped (.list ps) = true then some (ps.any fun z => PyData.eqv z p) else none) = some b := h
          rw [hps] at h
          have h : (if SeqAt.shaped p = true ∧ SeqAt.shaped (.list ps) = true then some (ps.any fun z => PyData.eqv z p) else none) = some b := h
          by_cases hsh : SeqAt.shaped p = true ∧ SeqAt.shaped (.list ps) = true
          · rw [if_pos hsh] at h
            cases h
            exact .inr (.inr ⟨p, ps, Con.dp sb d c1 hp, .inr (.tup (same_sqT sb e1) (RepL.dp sb xs rr hps)), hsh.1, hsh.2, q⟩)
          · rw [if_neg hsh] at h; cases h
  | dct ks vs =>
    have h : (keyD d).map (fun k => ks.any fun y => decide (y = k)) = some b := h
    obtain ⟨a, kvs, rfl, e1, e2, rr⟩ := id c2
    cases hk : keyD d with
    | none => rw [hk] at h; cases h
    | some k =>
      rw [hk] at h
      cases h
      refine .inr (.inl ⟨a, kvs, k, rfl, keyD_con c1 hk, e1, ?_⟩)
      rw [dct_any, e2]
      exact q
  | _ => cases h
theorem ck_in (hu : X.A.units + 65 < cLine) : CmpOk X T W .In cinD := by
  refine ⟨fun x y H Q => rIn X.K false x y H Q ∨ rInK false x y H Q ∨ rInL X.K false x y H Q, opr_or op_in_seq (opr_or (op_inK (by omega)) ?_), fun s r Z H v w d e x Q S c1 c2 q h => ?_⟩
  · intro pins s σ H x y v u Q I rx ry h
    obtain ⟨d, ds, hd, he, sd, se, q⟩ := h
    obtain ⟨as, r1⟩ := Dp.reads I d x v hd rx
    rcases he with he | he
    · obtain ⟨bs, r2⟩ := Dp.reads I (.list ds) y u he ry
      exact SeqAt.in_list_reads r2 r1 (SeqAt.canLay_of_shaped se) (SeqAt.canLay_of_shaped sd) (room_in_shaped sd hu) ⟨.bl _, H, I, rfl, q⟩
    · obtain ⟨bs, r2⟩ := Dp.reads I (.tuple ds) y u he ry
      exact SeqAt.in_tuple_reads r2 r1 (SeqAt.canLay_of_shaped se) (SeqAt.canLay_of_shaped sd) (room_in_shaped sd hu) ⟨.bl _, H, I, rfl, q⟩
  · obtain ⟨b, q1, rfl⟩ := bv_some q
    exact in_flat (neg := false) S.sub c1 c2 q1 (ends S h rfl)
theorem ck_ni (hu : X.A.units + 65 < cLine) : CmpOk X T W .NotIn cniD := by
  refine ⟨fun x y H Q => rIn X.K true x y H Q ∨ rInK true x y H Q ∨ rInL X.K true x y H Q, opr_or op_notIn_seq (opr_or (op_niK (by omega)) ?_), fun s r Z H v w d e x Q S c1 c2 q h => ?_⟩
  · intro pins s σ H x y v u Q I rx ry h
    obtain ⟨d, ds, hd, he, sd, se, q⟩ := h
    obtain ⟨as, r1⟩ := Dp.reads I d x v hd rx
    rcases he with he | he
    · obtain ⟨bs, r2⟩ := Dp.reads I (.list ds) y u he ry
      exact SeqAt.notIn_list_reads r2 r1 (SeqAt.canLay_of_shaped se) (SeqAt.canLay_of_shaped sd) (room_in_shaped sd hu) ⟨.bl _, H, I, rfl, q⟩
    · obtain ⟨bs, r2⟩ := Dp.reads I (.tuple ds) y u he ry
      exact SeqAt.notIn_tuple_reads r2 r1 (SeqAt.canLay_of_shaped se) (SeqAt.canLay_of_shaped sd) (room_in_shaped sd hu) ⟨.bl _, H, I, rfl, q⟩
  · obtain ⟨b, q1, rfl⟩ := bv_some q
    cases hi : inD d e with
    | none => rw [hi] at q1; cases q1
    | some b' =>
      rw [hi] at q1
      cases q1
      exact in_flat (neg := true) S.sub c1 c2 hi (ends S h rfl)
end
/-! ### any, all, sum, tuple, list -/
def boolsOf : List D → Option (List Bool)
  | [] => some []
  | .bl b :: r => (boolsOf r).map fun bs => b :: bs
  | _ => none
theorem rep_bools {K : Fr} {Z : Hp} : ∀ {ds : List D} {vs : List V} {bs : List Bool}, RepL K Z ds vs → boolsOf ds = some bs → vs = bs.map V.bl
  | [], vs, bs, h, e => by
    cases e
    exact h
  | d :: r, vs, bs, h, e => by
    obtain ⟨v, t, rfl, h1, h2⟩ := h
    cases d with
    | bl b =>
      have e : (boolsOf r).map (fun bs => b :: bs) = some bs := e
      cases q : boolsOf r with
      | none => rw [q] at e; cases e
      | some bs' =>
        rw [q] at e
        cases e
        obtain rfl : v = .bl b := h1
        rw [rep_bools h2 q]
        rfl
    | _ => cases e
def anyD : List D → Option RV
  | [.lst xs] => (boolsOf xs).map fun bs => .val (.bl (bs.any id))
  | _ => none
def allD : List D → Option RV
  | [.lst xs] => (boolsOf xs).map fun bs => .val (.bl (bs.all id))
  | _ => none
def sumD : List D → Option RV
  | [.lst xs] => (intsOf xs).map fun ns => .val (.int ns.sum)
  | [.tup xs] => (intsOf xs).map fun ns => .val (.int ns.sum)
  | _ => none
def tupleD : List D → Option RV
  | [.lst xs] => some (.val (.tup xs))
  | [.tup xs] => some (.val (.tup xs))
  | _ => none
def listD : List D → Option RV
  | [.lst xs] => some (.own (.lst xs))
  | [.tup xs] => some (.own (.lst xs))
  | _ => none
section
variable {X : Cx} {T : An} {W : WX}
theorem fn_any : FnOkD X.K T W anyD (rAny X.K) := fun s r Z H vs ds x Q S c q h => by
  match ds, c, q with
  | [.lst xs], c, q =>
    obtain ⟨v, rfl, c1⟩ := c.one
    have q : (boolsOf xs).map (fun bs => RV.val (.bl (bs.any id))) = some x := q
    cases w : boolsOf xs with
    | none => rw [w] at q; cases q
    | some bs =>
      rw [w] at q
      cases q
      obtain ⟨a, us, rfl, e, rr⟩ := c1
      rw [rep_bools rr w] at e
      exact ⟨a, bs, rfl, SqL.of e, ends S h rfl⟩
theorem fn_all : FnOkD X.K T W allD (rAll X.K) := fun s r Z H vs ds x Q S c q h => by
  match ds, c, q with
  | [.lst xs], c, q =>
    obtain ⟨v, rfl, c1⟩ := c.one
    have q : (boolsOf xs).map (fun bs => RV.val (.bl (bs.all id))) = some x := q
    cases w : boolsOf xs with
    | none => rw [w] at q; cases q
    | some bs =>
      rw [w] at q
      cases q
      obtain ⟨a, us, rfl, e, rr⟩ := c1
      rw [rep_bools rr w] at e
      exact ⟨a, bs, rfl, SqL.of e, ends S h rfl⟩
def rSumA (K : Fr) : List V → Hp → VK → Prop := fun vs H Q => rSum K vs H Q ∨ ∃ (a : Addr) (ns : List Int), vs = [V.ref a] ∧ SqT K H a (ns.map V.int) ∧ Q (.int ns.sum) H
theorem cr_sumA (hc : X.calm = true) : CallR X (.builtin "sum") (rSumA X.K) := cr_or (cr_sum hc) fun pins s σ H xs us Q I r h => by
  obtain ⟨a, ns, rfl, hq, q⟩ := h
  rw [Vals.ref1 r]
  obtain ⟨its, rv, ht, _⟩ := I.tuple hq
  have hi := rv.ints
  obtain ⟨ps, hx⟩ := hi.allInts.items
  have hn : numsOf its.toArray.toList = ns := by rw [show its.toArray.toList = its from rfl, hi.numsOf]
  have ht2 : s.heap.IsTuple a its.toArray := ht
  rw [hx] at ht2 hn
  rw [nums_intItems] at hn
  refine PySem.W.ktm_sumG (I.ok.hd hc) ht2 fun h' tk t' hk => ⟨.int ns.sum, H, I.kept hk, ⟨t', ?_⟩, q⟩
  rw [preSum_eq, List.take_of_length_le (by simp), hn]
theorem fn_sum : FnOkD X.K T W sumD (rSumA X.K) := fun s r Z H vs ds x Q S c q h => by
  match ds, c, q with
  | [.lst xs], c, q =>
    obtain ⟨v, rfl, c1⟩ := c.one
    have q : (intsOf xs).map (fun ns => RV.val (.int ns.sum)) = some x := q
    cases w : intsOf xs with
    | none => rw [w] at q; cases q
    | some ns =>
      rw [w] at q
      cases q
      obtain ⟨a, us, rfl, e, rr⟩ := c1
      rw [rep_ints rr w] at e
      exact .inl ⟨a, ns, rfl, SqL.of e, ends S h rfl⟩
  | [.tup xs], c, q =>
    obtain ⟨v, rfl, c1⟩ := c.one
    have q : (intsOf xs).map (fun ns => RV.val (.int ns.sum)) = some x := q
    cases w : intsOf xs with
    | none => rw [w] at q; cases q
    | some ns =>
      rw [w] at q
      cases q
      obtain ⟨a, us, rfl, e, rr⟩ := c1
      rw [rep_ints rr w] at e
      exact .inr ⟨a, ns, rfl, same_sqT S.sub e, ends S h rfl⟩
abbrev rTupOf (K : Fr) : List V → Hp → VK → Prop := fun xs H Q => ∃ p ys, xs = [.ref p] ∧ ((SqL K H p ys ∧ ∀ l, H l = none → Q (.ref l) (upd H l (.tup ys))) ∨ (SqT K H p ys ∧ Q (.ref p) H))
abbrev rLstOf (K : Fr) : List V → Hp → VK → Prop := fun xs H Q => ∃ p ys, xs = [.ref p] ∧ (SqL K H p ys ∨ SqT K H p ys) ∧ ∀ l, H l = none → Q (.ref l) (upd H l (.lst ys))
theorem fn_tuple : FnOkD X.K T W tupleD (rTupOf X.K) := fun s r Z H vs ds x Q S c q h => by
  match ds, c, q with
  | [.lst xs], c, q =>
    obtain ⟨v, rfl, c1⟩ := c.one
    cases q
    obtain ⟨a, us, rfl, e, rr⟩ := c1
    exact ⟨a, us, rfl, .inl ⟨SqL.of e, fun p hp => h.newF S hp ⟨p, us, rfl, .inl (.inl upd_same), rr.mono (same_updZ (S.free hp).2.1)⟩⟩⟩
  | [.tup xs], c, q =>
    obtain ⟨v, rfl, c1⟩ := c.one
    cases q
    obtain ⟨a, us, rfl, e, rr⟩ := c1
    exact ⟨a, us, rfl, .inr ⟨same_sqT S.sub e, ends S h ⟨a, us, rfl, e, rr⟩⟩⟩
theorem fn_list : FnOkD X.K T W listD (rLstOf X.K) := fun s r Z H vs ds x Q S c q h => by
  match ds, c, q with
  | [.lst xs], c, q =>
    obtain ⟨v, rfl, c1⟩ := c.one
    cases q
    obtain ⟨a, us, rfl, e, rr⟩ := c1
    exact ⟨a, us, rfl, .inl (SqL.of e), fun p hp => h.new S hp ⟨(S.free hp).2.1, us, upd_same, rr⟩⟩
  | [.tup xs], c, q =>
    obtain ⟨v, rfl, c1⟩ := c.one
    cases q
    obtain ⟨a, us, rfl, e, rr⟩ := c1
    exact ⟨a, us, rfl, .inr (same_sqT S.sub e), fun p hp => h.new S hp ⟨(S.free hp).2.1, us, upd_same, rr⟩⟩
end
end Ev
namespace Ev
open PySem PySem.Spec PyProof.Rows L2

/-! ### xs[lo:hi] -/
def cutD (xs : List D) (lo hi : Option Int) : List D := (xs.drop (HT.sIx xs.length 0 lo)).take (HT.sIx xs.length xs.length hi - HT.sIx xs.length 0 lo)
def sliceD (lo hi : Option Int) : D → Option RV
  | .lst xs => some (.own (.lst (cutD xs lo hi)))
  | .tup xs => some (.val (.tup (cutD xs lo hi)))
  | .str z => if z.length ≤ most then some (.val (.str (cutS z lo hi))) else none
  | _ => none
/-- a part of a slice -/
abbrev DenP := Env → Res (Option Int)
def pNone : DenP := fun r => .ok none r
def pSome (f : Den) : DenP := fun r => (fz (f r)).bind fun x r1 => match peek r1 x with
  | some (.int i) => .ok (some i) r1
  | _ => .stuck
def eSl (f : Den) (lo hi : DenP) : Den := fun r => (fz (f r)).bind fun x r1 => (lo r1).bind fun l r2 => (hi r2).bind fun u r3 => match peek r3 x with
  | some d => ofO (sliceD l u d) r3
  | none => .stuck
def RelO (K : Fr) : Hp → Env → Hp → Hp → Option Int → Option Int → Prop := fun _ _ _ _ b a => b = a
theorem fwdO {K : Fr} : Fwd (RelO K) := fun _ _ _ _ _ _ _ _ q => q
def tP (K : Fr) (T : An) (W : WX) (f : DenP) : TO := fun s H Q => ∃ r Z, Sim K T r Z s H ∧ tG K T W (RelO K) s (f r) r Z H Q
theorem _root_.L2.PO.less {X : Cx} {e : Option Expr} {t t' : TO} (h : PO X e t) (k : ∀ s H Q, t' s H Q → t s H Q) : PO X e t' := ⟨fun pins s σ H Q I q => h.run pins s σ H Q I (k _ _ _ q)⟩
theorem RepL.cut {K : Fr} {Z : Hp} {xs : List D} {vs : List V} (h : RepL K Z xs vs) (lo hi : Option Int) : RepL K Z (cutD xs lo hi) (cutV vs lo hi) := by
  unfold cutD cutV
  rw [h.length]
  exact (h.drop _).take _
theorem cut_whole {xs : List D} {lo hi : Option Int} (h : HT.sIx xs.length 0 lo = 0 ∧ HT.sIx xs.length xs.length hi = xs.length) : cutD xs lo hi = xs := by
  unfold cutD
  rw [h.1, h.2]
  simp
section
variable {X : Cx} {T : An} {W : WX} {e le he : Expr} {lo hi : Option Expr} {f : Den} {pl ph : DenP} {pos p2 : Pos}
theorem dp_none : PO X none (tP X.K T W pNone) := po_none.less fun s H Q q => by
  obtain ⟨r, Z, S, q⟩ := q
  exact q none H Z S (Kin.refl _) Frm.refl rfl
theorem dp_some (h : PE X e (tE X.K T W f)) : PO X (some e) (tP X.K T W (pSome f)) := (po_some (pe_fz h)).less fun s H Q q => by
  obtain ⟨r, Z, S, q⟩ := q
  refine ⟨r, Z, S, (tG.bind fwdO q).mono fun v H1 h1 => ?_⟩
  obtain ⟨x, r1, Z1, S1, k1, f1, o1, h1⟩ := h1
  cases p : peek r1 x with
  | none => rw [p] at h1; exact h1.elim
  | some d =>
    rw [p] at h1
    cases d with
    | int i =>
      obtain rfl : v = .int i := o1.con S1 p
      exact ⟨i, rfl, h1 (some i) H1 Z1 S1 (Kin.refl _) Frm.refl rfl⟩
    | _ => exact h1.elim
def rSlAny (K : Fr) : V → Option Int → Option Int → Hp → VK → Prop := fun x lo hi H Q => rSlL K x lo hi H Q ∨ rSlA K x lo hi H Q ∨ rSlS x lo hi H Q
theorem de_slice (ha : PE X e (tE X.K T W f)) (hl : PO X lo (tP X.K T W pl)) (hu : PO X hi (tP X.K T W ph)) : PE X (.Subscript e (.Slice lo hi none p2) pos) (tE X.K T W (eSl f pl ph)) :=
  (pe_slice (r := rSlAny X.K) (sl_list.or (sl_tupA.or sl_str)) (pe_fz ha) hl hu).less fun s H Q q => by
    obtain ⟨r, Z, S, q⟩ := q
    refine ⟨r, Z, S, (tG.bind fwdE q).mono fun v H1 h1 => ?_⟩
    obtain ⟨x, r1, Z1, S1, k1, f1, o1, h1⟩ := h1
    refine ⟨r1, Z1, S1, (tG.bind fwdE h1).mono fun l H2 h2 => ?_⟩
    obtain ⟨l', r2, Z2, S2, k2, f2, o2, h2⟩ := h2
    obtain rfl : l = l' := o2
    refine ⟨r2, Z2, S2, (tG.bind fwdE h2).mono fun u H3 h3 => ?_⟩
    obtain ⟨u', r3, Z3, S3, k3, f3, o3, h3⟩ := h3
    obtain rfl : u = u' := o3
    have o1' : RelF X.K T s H r3 Z3 H3 v x := RelF.stay (B' := H) (RelF.stay (B' := H) o1 S1 k2 f2) S2 k3 f3
    cases p : peek r3 x with
    | none => rw [p] at h3; exact h3.elim
    | some d =>
      rw [p] at h3
      have h3 : tG X.K T W (RelE X.K T s) s (ofO (sliceD l u d) r3) r3 Z3 H3 Q := h3
      have c := o1'.con S3 p
      cases d with
      | lst xs =>
        obtain ⟨a, vs, rfl, e1, rr⟩ := c
        exact .inl ⟨a, vs, rfl, SqL.of e1, fun p hp => h3.new S3 hp ⟨(S3.free hp).2.1, _, upd_same, rr.cut l u⟩⟩
      | tup xs =>
        obtain ⟨a, vs, rfl, e1, rr⟩ := c
        have h3 : tG X.K T W (RelE X.K T s) s (.ok (.val (.tup (cutD xs l u))) r3) r3 Z3 H3 Q := h3
        refine .inr (.inl ⟨a, vs, rfl, same_sqT S3.sub e1, fun hw => ?_, fun hw p hp => h3.newF S3 hp ⟨p, _, rfl, .inl (.inl upd_same), (rr.cut l u).mono (same_updZ (S3.free hp).2.1)⟩⟩)
        rw [rr.length] at hw
        rw [cut_whole hw] at h3
        exact ends S3 h3 ⟨a, vs, rfl, e1, rr⟩
      | str z =>
        obtain rfl : v = .str z := c
        have h3 : tG X.K T W (RelE X.K T s) s (ofO (if z.length ≤ most then some (.val (.str (cutS z l u))) else none) r3) r3 Z3 H3 Q := h3
        by_cases hz : z.length ≤ most
        · rw [if_pos hz] at h3
          exact .inr (.inr ⟨z, rfl, most_le hz, ends S3 h3 rfl⟩)
        · rw [if_neg hz] at h3; exact h3.elim
      | _ => exact h3.elim
end
/-! ### xs[lo:hi:c] of a list -/
def pickD (xs : List D) (lo hi st : Option Int) : List D := (sliceRange (sliceBounds lo hi st xs.length).1 (sliceBounds lo hi st xs.length).2.1 (sliceBounds lo hi st xs.length).2.2).filterMap (xs[·]?)
def eSl3 (f : Den) (lo hi st : DenP) : Den := fun r => (fz (f r)).bind fun x r1 => (lo r1).bind fun l r2 => (hi r2).bind fun u r3 => (st r3).bind fun c r4 => match peek r4 x with
  | some (.lst xs) => if c ≠ some 0 ∧ (pickD xs l u c).length ≤ most then .ok (.own (.lst (pickD xs l u c))) r4 else .stuck
  | _ => .stuck
theorem rep_pick {K : Fr} {Z : Hp} {xs : List D} {vs : List V} (h : RepL K Z xs vs) : ∀ js : List Nat, RepL K Z (js.filterMap (xs[·]?)) (js.filterMap (vs[·]?))
  | [] => RepL.nil
  | j :: js => by
    rw [List.filterMap_cons, List.filterMap_cons]
    cases e : xs[j]? with
    | none =>
      have : vs[j]? = none := by
        rw [List.getElem?_eq_none_iff] at e ⊢
        rw [h.length]; exact e
      rw [this]
      exact rep_pick h js
    | some d =>
      obtain ⟨v, hv, rv⟩ := h.get e
      rw [hv]
      exact .cons rv (rep_pick h js)
theorem vals_filter {xs : List V} {us : List Value} (r : Vals xs us) : ∀ js : List Nat, Vals (js.filterMap (xs[·]?)) (js.filterMap (us[·]?))
  | [] => .nil
  | j :: js => by
    rw [List.filterMap_cons, List.filterMap_cons]
    cases e : xs[j]? with
    | none => rw [r.none_of e]; exact vals_filter r js
    | some v =>
      obtain ⟨u, hu, rv⟩ := r.get e
      rw [hu]
      exact .cons rv (vals_filter r js)
section
variable {X : Cx} {T : An} {W : WX} {e : Expr} {lo hi st : Option Expr} {f : Den} {pl ph ps : DenP} {pos p2 : Pos}
theorem de_slice3 (hx : ∀ v w : Value, subscripted (.Slice lo hi st p2) false v w = operate [v, w] (getItem v w)) (ha : PE X e (tE X.K T W f)) (hl : PO X lo (tP X.K T W pl)) (hu : PO X hi (tP X.K T W ph)) (hst : PO X st (tP X.K T W ps)) : PE X (.Subscript e (.Slice lo hi st p2) pos) (tE X.K T W (eSl3 f pl ph ps)) := ⟨fun pins s σ H Q I q => by
  obtain ⟨r, Z, S, q⟩ := q
  refine Subscript_ (thn ((pe_fz (T := T) (W := W) ha).run pins s σ H _ I ⟨r, Z, S, tG.bind fwdE q⟩) fun w s1 z1 => ?_)
  obtain ⟨v, H1, I1, rw1, x, r1, Z1, S1, k1, f1, o1, h1⟩ := z1
  refine wpAny_Slice (thn (hl.run pins s1 σ H1 _ I1 ⟨r1, Z1, S1, tG.bind fwdE h1⟩) fun vl s2 z2 => ?_)
  obtain ⟨l, H2, I2, pl2, l', r2, Z2, S2, k2, f2, o2, h2⟩ := z2
  obtain rfl : l = l' := o2
  refine thn (hu.run pins s2 σ H2 _ I2 ⟨r2, Z2, S2, tG.bind fwdE h2⟩) fun vu s3 z3 => ?_
  obtain ⟨u, H3, I3, pu3, u', r3, Z3, S3, k3, f3, o3, h3⟩ := z3
  obtain rfl : u = u' := o3
  refine thn (hst.run pins s3 σ H3 _ I3 ⟨r3, Z3, S3, tG.bind fwdE h3⟩) fun vs s4 z4 => ?_
  obtain ⟨c, H4, I4, ps4, c', r4, Z4, S4, k4, f4, o4, h4⟩ := z4
  obtain rfl : c = c' := o4
  have o1' : RelF X.K T σ H r4 Z4 H4 v x := RelF.stay (B' := H) (RelF.stay (B' := H) (RelF.stay (B' := H) o1 S1 k2 f2) S2 k3 f3) S3 k4 f4
  cases p : peek r4 x with
  | none => rw [p] at h4; exact h4.elim
  | some d =>
    rw [p] at h4
    cases d with
    | lst xs =>
      have h4 : tG X.K T W (RelE X.K T σ) σ (if c ≠ some 0 ∧ (pickD xs l u c).length ≤ most then .ok (.own (.lst (pickD xs l u c))) r4 else .stuck) r4 Z4 H4 Q := h4
      by_cases hc : c ≠ some 0 ∧ (pickD xs l u c).length ≤ most
      · rw [if_pos hc] at h4
        obtain ⟨a, us, rfl, e1, rr⟩ := o1'.con S4 p
        obtain rfl : w = Value.ref a := rw1
        have I5 : Inv X pins σ H4 { s4 with heap := s4.heap.push { cls := .type "slice", data := .fields #[vl, vu, vs] } } := I4.kept (t' := s4.toks) fun b ob q => Heap.get?_push_of_some _ q
        obtain ⟨its, rv, ht, hz⟩ := I5.list (SqL.of e1)
        show wpAny (model X.prog X.w) X.A (subscriptTail e (.Slice lo hi st p2) (.ref a) (.ref s4.heap.objs.size)) (EP X pins σ Q) X.xe { s4 with heap := s4.heap.push { cls := .type "slice", data := .fields #[vl, vu, vs] } }
        refine tail_any (ops := [.ref a, .ref s4.heap.objs.size]) ht.isList.typeIs PySem.slot_list_getitem.lookup ?_ (hx _ _)
        refine wpAny_getItem_list_slice ht.isList (Heap.IsSliceOf.new _ vl vu vs) pl2 pu3 ps4 hc.1 ?_ (by rw [List.size_toArray, ← rv.length]; exact hz)
        have hs : its.length = xs.length := by rw [← rv.length, rr.length]
        have eq : slicePick its.toArray l u c = ((sliceRange (sliceBounds l u c xs.length).1 (sliceBounds l u c xs.length).2.1 (sliceBounds l u c xs.length).2.2).filterMap (its[·]?)).toArray := by
          unfold slicePick
          rw [List.size_toArray, hs]
          congr 1
          apply congrArg (fun g => List.filterMap g _)
          funext j
          simp
        rw [eq]
        have fr : H4 { s4 with heap := s4.heap.push { cls := .type "slice", data := .fields #[vl, vu, vs] } }.heap.objs.size = none := I5.hok.fresh (Nat.le_refl _)
        have rp := rep_pick rr (sliceRange (sliceBounds l u c xs.length).1 (sliceBounds l u c xs.length).2.1 (sliceBounds l u c xs.length).2.2)
        have rq := vals_filter rv (sliceRange (sliceBounds l u c xs.length).1 (sliceBounds l u c xs.length).2.1 (sliceBounds l u c xs.length).2.2)
        refine ⟨.ref _, _, I5.laid (t' := s4.toks) (o := .lst ((sliceRange (sliceBounds l u c xs.length).1 (sliceBounds l u c xs.length).2.1 (sliceBounds l u c xs.length).2.2).filterMap (us[·]?))) (fun b ob q => Heap.get?_push_of_some _ q) (Nat.le_refl _) ?_, rfl,
          h4.new S4 fr ⟨(S4.free fr).2.1, _, upd_same, rp⟩⟩
        exact ⟨by rw [rp.length]; exact most_le hc.2, _, 0, rq, Heap.get?_push_size _ rfl⟩
      · rw [if_neg hc] at h4; exact h4.elim
    | _ => exact h4.elim⟩
end

/-! ### repr -/
def reprD : List D → Option RV
  | [d] => (toP d).bind fun p => if p.showable = true ∧ p.depth ≤ 64 ∧ p.shown.length ≤ most then some (.val (.str p.shown)) else none
  | _ => none
def rRepr (K : Fr) : List V → Hp → VK → Prop := fun vs H Q => ∃ v p, vs = [v] ∧ Dp K H v p ∧ p.hasDict = false ∧ p.showable = true ∧ p.depth ≤ 64 ∧ p.shown.length ≤ sizeLine ∧ Q (.str p.shown) H
mutual
theorem toP_nodict : ∀ (d : D) {p : PyData}, toP d = some p → p.hasDict = false
  | .non, p, h => by cases h; rfl
  | .bl _, p, h => by cases h; rfl
  | .int _, p, h => by cases h; rfl
  | .str _, p, h => by cases h; rfl
  | .tup xs, p, h => by
    have h : (toPs xs).map PyData.tuple = some p := h
    cases q : toPs xs with
    | none => rw [q] at h; cases h
    | some ps =>
      rw [q] at h
      cases h
      exact toPs_nodict xs q
  | .lst xs, p, h => by
    have h : (toPs xs).map PyData.list = some p := h
    cases q : toPs xs with
    | none => rw [q] at h; cases h
    | some ps =>
      rw [q] at h
      cases h
      exact toPs_nodict xs q
  | .dct _ _, _, h => by cases h
  | .obj _ _ _, _, h => by cases h
  | .fn _, _, h => by cases h
  | .scr _, _, h => by cases h
  | .ty _, _, h => by cases h
theorem toPs_nodict : ∀ (ds : List D) {ps : List PyData}, toPs ds = some ps → PyData.hasDictAll ps = false
  | [], ps, h => by
    have h : some [] = some ps := h
    cases h
    rfl
  | d :: ds, ps, h => by
    have h : (toP d).bind (fun p => (toPs ds).map fun ps => p :: ps) = some ps := h
    cases q : toP d with
    | none => rw [q] at h; cases h
    | some p =>
      rw [q] at h
      have h : (toPs ds).map (fun ps => p :: ps) = some ps := h
      cases q2 : toPs ds with
      | none => rw [q2] at h; cases h
      | some ps' =>
        rw [q2] at h
        cases h
        show (p.hasDict || PyData.hasDictAll ps') = false
        rw [toP_nodict d q, toPs_nodict ds q2]
        rfl
end
section
variable {X : Cx} {T : An} {W : WX}
theorem cr_repr (hc : Calm X.A) (hu : X.A.units + 66 < cLine) : CallR X (.builtin "repr") (rRepr X.K) := by
  intro pins s σ H xs us Q I r h
  obtain ⟨v, p, rfl, dp, hd, hs, hdp, hz, q⟩ := h
  obtain ⟨u, rfl, rv⟩ := vals1 r
  have atom : EP X pins σ Q (.str p.shown s.toks) { s with toks := s.toks + 1 } := ⟨.str _, H, I.tok _, ⟨_, rfl⟩, q⟩
  obtain ⟨as, rd⟩ := Dp.reads I p v u dp rv
  cases dp with
  | non => cases rv; exact PySem.P.repr_of_none atom
  | bl b => cases rv; exact PySem.P.repr_of_bool atom
  | int i =>
    obtain ⟨t, rfl⟩ := rv
    exact PySem.P.repr_of_int (of_decide_eq_true hs) atom
  | str z =>
    obtain ⟨t, rfl⟩ := rv
    exact PySem.P.repr_of_str atom hz
  | lst a b =>
    cases rv
    exact repr_of_reads' rd hs (fun z => by rw [hd] at z; cases z) hc (by omega) (fun _ _ e => e) (fun h' u tk k => ⟨.str _, H, I.kept k, ⟨_, rfl⟩, q⟩) hz
  | tup a b =>
    cases rv
    exact repr_of_reads' rd hs (fun z => by rw [hd] at z; cases z) hc (by omega) (fun _ _ e => e) (fun h' u tk k => ⟨.str _, H, I.kept k, ⟨_, rfl⟩, q⟩) hz
theorem fn_repr : FnOkD X.K T W reprD (rRepr X.K) :=
  one_of (fun ds x q => by match ds, q with | [d], _ => exact ⟨d, rfl⟩ | [], q => cases q | _ :: _ :: _, q => simp [reprD] at q) fun s r Z H v d x Q S c q h => by
    have q : (toP d).bind (fun p => if p.showable = true ∧ p.depth ≤ 64 ∧ p.shown.length ≤ most then some (RV.val (.str p.shown)) else none) = some x := q
    cases w : toP d with
    | none => rw [w] at q; cases q
    | some p =>
      rw [w] at q
      have q : (if p.showable = true ∧ p.depth ≤ 64 ∧ p.shown.length ≤ most then some (RV.val (.str p.shown)) else none) = some x := q
      by_cases hp : p.showable = true ∧ p.depth ≤ 64 ∧ p.shown.length ≤ most
      · rw [if_pos hp] at q
        cases q
        exact ⟨v, p, rfl, Con.dp S.sub d c w, toP_nodict d w, hp.1, hp.2.1, most_le hp.2.2, ends S h rfl⟩
      · rw [if_neg hp] at q; cases q
end

/-! ### a name that holds a def -/
abbrev FnTab := Str → Option (Nat × List Nat × Fun)
def eCallV (i : Nat) (tab : FnTab) (l : DenL) : Den := fun r => match r[i]? with
  | some (.val (.fn g)) => (match tab g with
    | some (n, p, F) => eCall none F n 0 p [] l dNil r
    | none => .stuck)
  | _ => .stuck
section
variable {X : Cx} {T : An} {W : WX} {k i : Nat} {tab : FnTab} {x : Str} {q pos : Pos} {e : Expr} {es : List Expr} {l : DenL}
theorem de_callV (ht : ∀ g n p F, tab g = some (n, p, F) → ∃ (fd : FuncData) (ps : List Str), FnG X.prog X.w X.K X.mg X.base (CXW X) k (He.ga X.K g) fd ps (spF X.K none n F) ∧ PySem.W.keepIn X.K (.ref (He.ga X.K g)) = true ∧ BindG X.K fd ps n [] p [] ∧
      ∀ xs ys : List RV, xs.length = n → ys.length = 0 → (pick p (xs ++ (ys ++ []))).length = n) (hr : Room k X.A) (hc : Calm X.A) (tk : Takes X W) (hv : PE X (.Name x q) (tVar i))
    (ha : PA X (e :: es) (tL X.K T W l)) (he : starEach (e :: es) X.env = (false, eval e X.env) :: starEach es X.env) (hpl : (backTo pos (starEach es X.env)).any (·.1) = false) :
    PE X (.Call (.Name x q) (e :: es) [] pos) (tE X.K T W (eCallV i tab l)) := ⟨fun pins s σ H Q I h => by
  obtain ⟨r, Z, S, h⟩ := h
  unfold eCallV at h
  cases er : r[i]? with
  | none => rw [er] at h; exact h.elim
  | some sl =>
    rw [er] at h
    cases sl with
    | val d =>
      cases d with
      | fn g =>
        have h : tG X.K T W (RelE X.K T σ) σ (match tab g with | some (n, p, F) => eCall none F n 0 p [] l dNil r | none => .stuck) r Z H Q := h
        cases et : tab g with
        | none => rw [et] at h; exact h.elim
        | some tr =>
          obtain ⟨n, p, F⟩ := tr
          rw [et] at h
          obtain ⟨fd, ps, Fg, hk, hb, hN⟩ := ht g n p F et
          obtain ⟨v, e1, e2⟩ := S.val i _ er
          obtain rfl : v = .ref (He.ga X.K g) := e2
          refine wpAny_Call_Name_kw (thn (hv.run pins s σ H (fun v H1 => v = .ref (He.ga X.K g) ∧ H1 = H) I ⟨_, e1, rfl, rfl⟩) fun u s1 z => ?_)
          obtain ⟨v, H1, I1, r1, rfl, rfl⟩ := z
          obtain rfl : u = Value.ref (He.ga X.K g) := r1
          refine PySem.W.callWith_K (h₀ := X.base) I1.ok.mod.kin hk (thn (ha.run pos pins s1 σ _ _ I1 (call_two (ks := []) (N := n) hN ⟨r, Z, S, h⟩)) fun us s2 z => ?_) he hpl
          obtain ⟨vs, H2, I2, r2, q1⟩ := z
          obtain ⟨l1, _, q2⟩ := tL_nil q1
          exact ⟨I2.kIn, fn_at (zs := []) (ws := []) Fg hr hc hb tk I2 r2 .nil l1 rfl q2⟩
      | _ => exact h.elim
    | _ => exact h.elim⟩
end
end Ev
namespace PySem
namespace EvX
open PySem PyProof.Rows
/-- enumerate(v), v told by what its iterator is -/
theorem meets_enum1 {v : Value} {o : Obj} {G : Heap → Prop} (B : Begins v o G) : Meets (Builtin.«enumerate.__new__» ⟨[.type "enumerate", v], []⟩) (fun _ R s => G s.heap ∧
      R (.ok (.ret (.ref (s.heap.push o).objs.size))) { s with heap := (s.heap.push o).push { cls := .type "enumerate", data := .fields #[.none, .bool false, .ref s.heap.objs.size, rawInt 0, .none, .none] } }) :=
  .of_wp fun prog w A R s q0 => by
    obtain ⟨hp, g, d, tk, os⟩ := s
    obtain ⟨g1, q0⟩ := q0
    have sub := sub_enumerate
    have it1 : ∀ {A' : Around} {E Q : Value → Shared → Prop}, Q (.ref hp.objs.size) ⟨hp.push o, g, d, tk, os⟩ → wpAny (model prog w) A' (pyIter v) Q E ⟨hp, g, d, tk, os⟩ := fun q => B.iter prog w _ _ ⟨hp, g, d, tk, os⟩ _ g1 q
    wp_walk using it1
    refine wpAny_stack_any fun st => wpAny_pure ?_
    split
    · rename_i c _ _ _ _ _
      cases (c == Value.type "enumerate") <;> (wp_walk using it1; exact ⟨_, rfl, q0⟩)
    · wp_walk using it1
      exact ⟨_, rfl, q0⟩
section
variable {prog : Program} {w : World} {A : Around} {E : Value → Shared → Prop} {s : Shared}
theorem enum_call1 {v : Value} {o : Obj} {G : Heap → Prop} {Q : Value → Shared → Prop} (B : Begins v o G) (h1 : G s.heap)
    (h : ∀ h', IsEnum h' (s.heap.objs.size + 1) s.heap.objs.size 0 .none → h'.get? s.heap.objs.size = some o → (∀ b u, s.heap.get? b = some u → h'.get? b = some u) → Q (.ref (s.heap.objs.size + 1)) { s with heap := h' }) :
    wpAny (model prog w) A (call (.type "enumerate") [v]) Q E s := by
  refine callType_new F.called_enumerate (by decide) (F.typeCall_enumerate_1 _) (F.newCall_enumerate_1 _) (fun obj => F.args_object_init_2 obj _) F.entry_enumerate_new (meets_enum1 B) ⟨h1, ?_⟩
  have hz : (s.heap.push o).objs.size = s.heap.objs.size + 1 := Heap.size_push ..
  have en := Heap.get?_push_size (s.heap.push o) (o := { cls := .type "enumerate", data := .fields #[.none, .bool false, .ref s.heap.objs.size, rawInt 0, .none, .none] }) rfl
  rw [hz] at en
  show _ ∧ _
  rw [hz]
  exact ⟨⟨_, en, rfl⟩, h _ en (Heap.get?_push_of_some _ (Heap.get?_push_size _ B.free)) fun b u x => Heap.get?_push_of_some _ (Heap.get?_push_of_some _ x)⟩
theorem enum_endT {e it t : Addr} {i : Nat} {items : Array Value} {c : Int} {old : Value} {Q : Option Value → Shared → Prop} (hh : A.handled = none) (he : IsEnum s.heap e it c old) (hit : s.heap.IsTupleIter it t i) (ht : s.heap.IsTuple t items) (hx : items[i]? = none)
    (hQ : ∀ h', Heap.ExtBut it s.heap h' → Q none { s with heap := h' }) : wpAny (model prog w) A (pyNext (.ref e)) Q E s := by
  have ty : s.TypeIs (.ref e) "enumerate" := ⟨_, he, rfl⟩
  unfold pyNext
  refine wpAny_bind (wpAny_attempt (wpAny_callSpecial?_slot (name := Str.ofString "__next__") ty F.slot_enumerate_next (wpAny_call_entry F.slot_enumerate_next ty F.entry_enumerate_next ?_ (F.args_enumerate_next_1 _))))
  show wpAny _ _ (field (.ref e) 2 >>= _) _ _ s
  refine wpAny_bind (wpAny_field he rfl (x := .ref it) rfl (wpAny_bind (wpAny_nextOf_tuple_end hh hit ht hx fun h' x ext st => ?_)))
  obtain ⟨o, ho, hc⟩ := st
  exact wpAny_bind (wpAny_isInstance (T := "StopIteration") (b := true) ⟨o, ho, hc⟩ isSubtype_stop (wpAny_pure (hQ _ ext)))
end
end EvX
end PySem
namespace Ev
open PySem PySem.Spec PyProof.Rows L2
/-- the tuple at a, each item in a new pair -/
def ItEt (K : Fr) (a : Addr) : It :=
  ⟨fun i H => ∃ (xs : List V) (x : V), SqT K H a xs ∧ xs[i]? = some x, fun i H v H' => ∃ p x, v = .ref p ∧ H p = none ∧ H' = upd H p (.tup [.int (i : Nat), x]) ∧ ∀ xs, SqT K H a xs → xs[i]? = some x, fun i H => ∃ xs : List V, SqT K H a xs ∧ xs.length ≤ i⟩
theorem turn_enT {P : Program} {w : World} {K : Fr} {elts : List Expr} {kk : Nat} {tpos : Pos} {a e it : Addr} (hae : a ≠ e) (hai : a ≠ it) (hei : e ≠ it) :
    Turn P w K (.Tuple elts kk tpos) (ItEt K a) [e, it] e (fun i h => (∃ old, IsEnum h e it ((i : Nat) : Int) old) ∧ h.IsTupleIter it a i) where
  mem := by simp
  obj := fun i h st b hb => by
    obtain ⟨⟨old, he⟩, o, ho, hc, hd⟩ := st
    simp only [List.mem_cons, List.not_mem_nil, or_false] at hb
    rcases hb with rfl | rfl
    · exact ⟨_, he, fun v q => nomatch q⟩
    · exact ⟨o, ho, fun v q => by rw [hd] at q; cases q⟩
  keep := fun i h h' st k => ⟨let ⟨old, he⟩ := st.1; ⟨old, k e (by simp) _ he⟩, st.2.at fun o q => k it (by simp) o q⟩
  item := by
    intro X hP hw hK hc i pins s σ H E I hf st hg
    subst hP hw hK
    obtain ⟨⟨old, he⟩, hit⟩ := st
    obtain ⟨xs, x, hq, hx⟩ := hg
    obtain ⟨its, rv, p, hz⟩ := I.tuple hq
    obtain ⟨u, hu, ru⟩ := rv.get hx
    have hel : e < s.heap.objs.size := Heap.lt_size he
    have hil : it < s.heap.objs.size := let ⟨_, q, _⟩ := hit; Heap.lt_size q
    have D := Draws.tuple (prog := X.prog) (w := X.w) (A := X.A.in1) (I.ok.hd hc) it a hai its.toArray
    have hlt : i < its.toArray.size := by
      rw [List.size_toArray]
      rcases Nat.lt_or_ge i its.length with z | z
      · exact z
      · rw [List.getElem?_eq_none z] at hu; cases hu
    refine wpAny_pyNext_enum_itemC D he ⟨hit, p⟩ hlt hei (by simp [hei, Ne.symm hae]) fun y h' tk hP ho hs' hT hsz hk => ?_
    have ey : y = u := by
      have hP : its.toArray[i]? = some y := hP
      rw [List.getElem?_toArray, hu] at hP
      exact (Option.some.inj hP).symm
    subst ey
    refine ⟨_, rfl, wpAny_letOwnedTupleGo_enum (s := { s with heap := h', toks := tk + 1 }) ho fun h2 he' sb => ?_⟩
    have hT2 : h2.get? s.heap.objs.size = some { cls := .type "tuple", data := .seq #[.int i tk, y] } := (sb.2 _ (Nat.ne_of_gt hel)).trans hT
    have new : ObjOk X.prog X.w (upd H s.heap.objs.size (.tup [.int (i : Nat), x])) h2 s.heap.objs.size (.tup [.int (i : Nat), x]) :=
      ⟨by show 2 ≤ sizeLine; decide, [.int i tk, y], .cons ⟨_, rfl⟩ (.cons ru .nil), ⟨_, hT2, rfl, _, rfl⟩⟩
    have I1 : Inv X pins σ (upd H s.heap.objs.size (.tup [.int (i : Nat), x])) { s with heap := h2, toks := tk + 1 } :=
      I.turnedNew (ch := [e, it]) (fun b ob hb q => (sb.2 b (fun z => hb (by simp [z]))).trans (hk b ob (fun z => hb (by simp [z])) (fun z => hb (by simp [z])) q)) hf (Nat.le_refl _) new
    refine ⟨.ref s.heap.objs.size, _, I1, rfl, ⟨_, x, rfl, I.hok.fresh (Nat.le_refl _), rfl, fun ys hy => by rw [I.tuple_inj hy hq]; exact hx⟩, ⟨⟨y, ?_⟩, hs'.1.at fun o q => (sb.2 it (Ne.symm hei)).trans q⟩, fun b hb => ?_⟩
    · rw [show ((i + 1 : Nat) : Int) = (i : Int) + 1 by omega]
      exact he'
    · have hb' : b < s.heap.objs.size := by
        simp only [List.mem_cons, List.not_mem_nil, or_false] at hb
        rcases hb with rfl | rfl
        · exact hel
        · exact hil
      rw [upd_ne (Nat.ne_of_lt hb')]
      exact (hf b hb).1
  done := by
    intro X hP hw hK hc i pins s σ H E I hf st hg
    subst hP hw hK
    obtain ⟨⟨old, he⟩, hit⟩ := st
    obtain ⟨xs, hq, hx⟩ := hg
    obtain ⟨its, rv, p, hz⟩ := I.tuple hq
    obtain ⟨f0, f1, f2, f3, f4, f5⟩ := hf it (by simp)
    have hl := rv.length
    exact PySem.EvX.enum_endT (I.ok.hd hc) he hit p (by simp; omega) fun h' eb => ⟨rfl, I.turned (t' := s.toks) (fun b o hb q => eb b o hb q) f0 f1 f3 f4 f5⟩
  self := fun A i s Q E st h => let ⟨⟨_, he⟩, _⟩ := st; wpAny_pyIter_enum he h
def iEnumA (K : Fr) (te : TE) : TI := fun σ H R => te σ H fun v H1 => ∃ a, v = .ref a ∧ (((∃ xs, SqL K H1 a xs) ∧ R (Ite K a) H1) ∨ ((∃ xs, SqT K H1 a xs) ∧ R (ItEt K a) H1))
theorem pi_enumA {X : Cx} {e : Expr} {te : TE} {p pos tpos : Pos} {elts : List Expr} {kk : Nat} (hg : Gl X "enumerate") (hm : X.mg "enumerate" = none) (he : PE X e te) (hs : starEach [e] X.env = [(false, eval e X.env)]) :
    PI X (.Tuple elts kk tpos) (.Call (.Name "enumerate" p) [e] [] pos) (iEnumA X.K te) := ⟨fun pins s σ H R I h => by
  refine Call_ (ld_blt I hg hm boot_enumerate (PyProof.Rows.callWith_type1 (args_cons (thn (he.run pins s σ H _ I h) fun u s1 z => args_nil ?_) hs) hs rfl))
  obtain ⟨v, H1, I1, rv, a, rfl, q⟩ := z
  obtain rfl : u = Value.ref a := rv
  have fp : ∀ b ∈ [s1.heap.objs.size + 1, s1.heap.objs.size], FpOk X pins H1 b := fun b hb => by
    have hle : s1.heap.objs.size ≤ b := by
      simp only [List.mem_cons, List.not_mem_nil, or_false] at hb
      rcases hb with rfl | rfl <;> omega
    exact I1.fpOk hle (I1.hok.fresh hle)
  rcases q with ⟨⟨xs, hq⟩, q⟩ | ⟨⟨xs, hq⟩, q⟩
  · obtain ⟨its, rr, pl, _⟩ := I1.list hq
    exact PySem.EvX.enum_call1 (begins_list a its.toArray) pl.isList fun h' en hit hk => wpAny_pyIter_enum en ⟨s1.heap.objs.size + 1, [s1.heap.objs.size + 1, s1.heap.objs.size], _, _, H1, rfl, I1.kept (t' := s1.toks) hk, turn_enum a (s1.heap.objs.size + 1) s1.heap.objs.size, ⟨⟨.none, en⟩, ⟨_, hit, rfl, rfl⟩, Nat.succ_ne_self _⟩, fp, q⟩
  · obtain ⟨its, rr, pl, _⟩ := I1.tuple hq
    have la : a < s1.heap.objs.size := let ⟨o, ho, _⟩ := pl; Heap.lt_size ho
    exact PySem.EvX.enum_call1 (begins_tuple a its.toArray) (show s1.heap.IsTuple a its.toArray from pl) fun h' en hit hk => wpAny_pyIter_enum en ⟨s1.heap.objs.size + 1, [s1.heap.objs.size + 1, s1.heap.objs.size], _, _, H1, rfl, I1.kept (t' := s1.toks) hk, turn_enT (Nat.ne_of_lt (Nat.lt_succ_of_lt la)) (Nat.ne_of_lt la) (Nat.succ_ne_self _), ⟨⟨.none, en⟩, ⟨_, hit, rfl, rfl⟩⟩, fp, q⟩⟩
/-! enumerate of fixed data -/
def enumD (xs : List D) : List D := xs.mapIdx fun i d => .tup [.int (i : Nat), d]
def iEn (f : Den) : DenI := fun r => (fz (f r)).bind fun x r1 => match take x with
  | some (.lst xs) => .ok (enumD xs) r1
  | some (.tup xs) => .ok (enumD xs) r1
  | _ => .stuck
theorem pair_new {K : Fr} {T : An} {r : Env} {Z H : Hp} {s : L2.St} {p : Addr} {d e : D} {v w : V} (S : Sim K T r Z s H) (hp : H p = none) (hv : Rep K Z d v) (hw : Rep K Z e w) : ∃ Z', Sim K T r Z' s (upd H p (.tup [v, w])) ∧ Frm r s H Z (upd H p (.tup [v, w])) Z' ∧ Rep K Z' (.tup [d, e]) (.ref p) := by
  have zp := (S.free hp).2.1
  refine ⟨upd Z p (.tup [v, w]), S.fixed _ hp, ⟨fun a o q _ => by rw [upd_ne (ne_of_none q hp)]; exact q, fun a q => upd_ne fun z => q (by rw [z]; exact hp), fun a q => ?_⟩, p, _, rfl, .inl (.inl upd_same), .cons (hv.mono (same_updZ zp)) (.cons (hw.mono (same_updZ zp)) .nil)⟩
  cases u : H a with
  | none => exact (q u).elim
  | some o => rw [upd_ne (ne_of_none u hp), u]; simp
theorem enumD_get {xs : List D} {i : Nat} {d : D} (h : (enumD xs)[i]? = some d) : ∃ x, xs[i]? = some x ∧ d = .tup [.int (i : Nat), x] := by
  unfold enumD at h
  rw [List.getElem?_mapIdx] at h
  cases e : xs[i]? with
  | none => rw [e] at h; cases h
  | some x =>
    rw [e] at h
    exact ⟨x, rfl, (Option.some.inj h).symm⟩
section
variable {T : An}
theorem src_enL {K : Fr} {a : Addr} {vs : List V} {xs : List D} {Z : Hp} (h : Z a = some (.lst vs)) (rr : RepL K Z xs vs) : SrcOk K T (Ite K a) (enumD xs) Z where
  goes := fun i r Z' s H hi S k => by
    have hl : i < vs.length := by unfold enumD at hi; rw [List.length_mapIdx] at hi; rw [rr.length]; exact hi
    exact walk_enum.goes i H hl (SqL.of (S.sub a _ (k a _ h)))
  stops := fun r Z' s H S k => by
    have := (walk_enum (K := K) (a := a) (xs := vs)).stops H (SqL.of (S.sub a _ (k a _ h)))
    unfold enumD
    rw [List.length_mapIdx, ← rr.length]
    exact this
  yields := fun i r Z' s H d x H' hd S k y => by
    obtain ⟨d0, h0, rfl⟩ := enumD_get hd
    obtain ⟨v, hv, rv⟩ := rr.get h0
    have hl : i < vs.length := by
      rcases Nat.lt_or_ge i vs.length with z | z
      · exact z
      · rw [List.getElem?_eq_none z] at hv; cases hv
    obtain ⟨p, u, w, rfl, hp, rfl, e1, e2⟩ := walk_enum.yields i H x H' hl (SqL.of (S.sub a _ (k a _ h))) y
    cases e1
    have e2 : vs[i]? = some w := e2
    rw [hv] at e2
    cases e2
    exact pair_new S hp rfl (rv.mono k)
theorem src_enT {K : Fr} {a : Addr} {vs : List V} {xs : List D} {Z : Hp} (h : SqT K Z a vs) (rr : RepL K Z xs vs) : SrcOk K T (ItEt K a) (enumD xs) Z where
  goes := fun i r Z' s H hi S k => by
    have hl : i < vs.length := by unfold enumD at hi; rw [List.length_mapIdx] at hi; rw [rr.length]; exact hi
    exact ⟨vs, vs[i], same_sqT S.sub (same_sqT k h), by simp [hl]⟩
  stops := fun r Z' s H S k => ⟨vs, same_sqT S.sub (same_sqT k h), by unfold enumD; rw [List.length_mapIdx, ← rr.length]; exact Nat.le_refl _⟩
  yields := fun i r Z' s H d x H' hd S k y => by
    obtain ⟨d0, h0, rfl⟩ := enumD_get hd
    obtain ⟨v, hv, rv⟩ := rr.get h0
    obtain ⟨p, u, rfl, hp, rfl, e2⟩ := y
    have e2 := e2 vs (same_sqT S.sub (same_sqT k h))
    rw [hv] at e2
    cases e2
    exact pair_new S hp rfl (rv.mono k)
end
theorem di_enum {X : Cx} {T : An} {W : WX} {e : Expr} {f : Den} {p pos tpos : Pos} {elts : List Expr} {kk : Nat} (hg : Gl X "enumerate") (hm : X.mg "enumerate" = none) (he : PE X e (tE X.K T W f)) (hs : starEach [e] X.env = [(false, eval e X.env)]) :
    PI X (.Tuple elts kk tpos) (.Call (.Name "enumerate" p) [e] [] pos) (tI X.K T W (iEn f)) := (pi_enumA hg hm (pe_fz he) hs).less fun s H R h => by
  obtain ⟨r, Z, S, h⟩ := h
  refine ⟨r, Z, S, (tG.bind fwdI h).mono fun v H1 h1 => ?_⟩
  obtain ⟨x, r1, Z1, S1, k1, f1, o1, h1⟩ := h1
  cases p : take x with
  | none => rw [p] at h1; exact h1.elim
  | some d =>
    rw [p] at h1
    have rep := o1.rep p
    cases d with
    | lst xs =>
      obtain ⟨a, vs, rfl, c, rr⟩ := rep
      exact ⟨a, rfl, .inl ⟨⟨vs, SqL.of (S1.sub _ _ c)⟩, h1 _ H1 Z1 S1 (Kin.refl _) Frm.refl (src_enL c rr)⟩⟩
    | tup xs =>
      obtain ⟨a, vs, rfl, c, rr⟩ := rep
      exact ⟨a, rfl, .inr ⟨⟨vs, same_sqT S1.sub c⟩, h1 _ H1 Z1 S1 (Kin.refl _) Frm.refl (src_enT c rr)⟩⟩
    | _ => exact h1.elim
end Ev
namespace Ev
open PySem PySem.Spec PyProof.Rows L2

/-! ### built-ins by name -/
section
variable {X : Cx} {T : An} {W : WX} {x : Str} {p pos : Pos} {e : Expr} {es : List Expr} {l : DenL} {id TT : String} {R : List V → Hp → VK → Prop} {op : List D → Option RV}
theorem de_bf (hc : CallR X (.builtin id) R) (ho : FnOkD X.K T W op R) (hg : Gl X x) (hm : X.mg x = none) (hv : bootBuiltins x = some (.builtin id)) (ha : PA X (e :: es) (tL X.K T W l)) (hn : x ≠ "__name__") (hdb : (x == ("__debug__" : Str)) = false)
    (he : starEach (e :: es) X.env = (false, eval e X.env) :: starEach es X.env) (hpl : (backTo pos (starEach es X.env)).any (·.1) = false) : PE X (.Call (.Name x p) (e :: es) [] pos) (tE X.K T W (eFn op l)) :=
  (pe_callB hc hg hm hv ha hn hdb he hpl).less fun _ _ _ q => tE_fn ho q
theorem de_bt (hc : CallR X (.type TT) R) (ho : FnOkD X.K T W op R) (hg : Gl X x) (hm : X.mg x = none) (hv : bootBuiltins x = some (.type TT)) (ha : PA X (e :: es) (tL X.K T W l)) (hn : x ≠ "__name__") (hdb : (x == ("__debug__" : Str)) = false)
    (he : starEach (e :: es) X.env = (false, eval e X.env) :: starEach es X.env) (hpl : (backTo pos (starEach es X.env)).any (·.1) = false) : PE X (.Call (.Name x p) (e :: es) [] pos) (tE X.K T W (eFn op l)) :=
  (pe_callTy hc hg hm hv ha hn hdb he hpl).less fun _ _ _ q => tE_fn ho q
theorem cr_max (hc : X.calm = true) (hu : X.A.units + 64 < cLine) : CallR X (.builtin "max") (rMM X.K (fun i j => if j > i then j else i) max) := cr_or (call_max2 hc) (cr_maxI hc hu)
theorem cr_min (hc : X.calm = true) (hu : X.A.units + 64 < cLine) : CallR X (.builtin "min") (rMM X.K (fun i j => if j < i then j else i) min) := cr_or (call_min2 hc) (cr_minI hc hu)
end
theorem bt_len : bootBuiltins "len" = some (.builtin "len") := by decide +kernel
theorem bt_abs : bootBuiltins "abs" = some (.builtin "abs") := by decide +kernel
theorem bt_max : bootBuiltins "max" = some (.builtin "max") := by decide +kernel
theorem bt_min : bootBuiltins "min" = some (.builtin "min") := by decide +kernel
theorem bt_sum : bootBuiltins "sum" = some (.builtin "sum") := by decide +kernel
theorem bt_any : bootBuiltins "any" = some (.builtin "any") := by decide +kernel
theorem bt_all : bootBuiltins "all" = some (.builtin "all") := by decide +kernel
theorem bt_repr : bootBuiltins "repr" = some (.builtin "repr") := by decide +kernel
theorem bt_sorted : bootBuiltins "sorted" = some (.builtin "sorted") := by decide +kernel
theorem bt_isinstance : bootBuiltins "isinstance" = some (.builtin "isinstance") := by decide +kernel
theorem bt_int : bootBuiltins "int" = some (.type "int") := by decide +kernel
theorem bt_bool : bootBuiltins "bool" = some (.type "bool") := by decide +kernel
theorem bt_str : bootBuiltins "str" = some (.type "str") := by decide +kernel
theorem bt_list : bootBuiltins "list" = some (.type "list") := by decide +kernel
theorem bt_tuple : bootBuiltins "tuple" = some (.type "tuple") := by decide +kernel
theorem bt_dict : bootBuiltins "dict" = some (.type "dict") := by decide +kernel
theorem ru {k n : Nat} {A : Around} (r : Room k A) (h : n ≤ 200) : A.units + n < cLine := by have := r.un; omega
theorem ru0 {k : Nat} {A : Around} (r : Room k A) : A.units < cLine := by have := r.un; omega

/-! ### how a call without defaults binds -/
theorem bindG0 {K : Fr} {x qual : Str} {params : Arguments} {body : List Stmt} {scope : Scope} {kws : List (Str × V)} {f : Addr} {fd : FuncData} {ps ks : List Str} {n : Nat} {p : List Nat} (F : FunD K x qual params body scope [] kws f fd)
    (h : ∀ (kV doc pm : Value) (an : Option Addr) (cdv ct : Value) (us ws : List Value), us.length = n → ws.length = ks.length → bindArgs (PySem.W.fnOf x qual params body scope .none kV doc pm an cdv ct) ⟨us, ks.zip ws⟩ = pure (ps.zip (pick p (us ++ (ws ++ []))))) :
    BindG K fd ps n ks p [] := by
  obtain ⟨oc, od, dV, kV, doc, pm, an, cdv, ct, osl, rfl, lk, hcd, hD, hK⟩ := F.ex
  refine ⟨[], [], .nil, fun Z => rfl, fun s us ws _ h1 h2 => .of_eq ?_⟩
  rcases hD with ⟨_, rfl⟩ | ⟨e, _⟩
  · exact h kV doc pm an cdv ct us ws h1 h2
  · exact absurd rfl e

/-! ### own error classes -/
def veOk : List Value → Bool := PySem.HandSPX.refsVE
def oexB (K : Fr) (C : Addr) : Bool := (match K.lookup C with
  | some ⟨.type "type", _, .cls cd, sl⟩ => (match cd.mro, sl.toList with
    | .ref C' :: bm, [_, _, _, _, some (.builtin n), _] => decide (C' = C) && (decide (n = "ValueError.__new__") && (!cd.hasDel && (cd.hasDict && veOk bm)))
    | _, _ => false)
  | _ => false) && (decide (PySem.W.findIn K (.ref C) "__setattr__" = some (some (.builtin "object.__setattr__"))) && (decide (PySem.W.subIn K (.ref C) (.type "BaseException") = some true) && (decide (PySem.W.typeIn K (.ref C) = some (.type "type")) && PySem.W.keepIn K (.ref C))))
theorem oexB_ok {K : Fr} {C : Addr} (h : oexB K C = true) : OexC K C := by
  unfold oexB at h
  simp only [Bool.and_eq_true, decide_eq_true_eq] at h
  obtain ⟨h1, h2, h3, h4, h5⟩ := h
  refine ⟨?_, h2, h3, h4, h5⟩
  split at h1
  · rename_i dd cd sl ho
    split at h1
    · rename_i C' bm k0 k1 k2 k3 n k5 hm hs
      simp only [Bool.and_eq_true, decide_eq_true_eq, Bool.not_eq_true'] at h1
      obtain ⟨rfl, rfl, hdel, hd, ht⟩ := h1
      obtain ⟨nm, bs, mro, ns, qn, hdct, sn, sub, ab, col, del⟩ := cd
      dsimp only at hm hdel hd
      subst hm hdel hd
      have hsl : sl = #[k0, k1, k2, k3, some (.builtin "ValueError.__new__"), k5] := by
        obtain ⟨l⟩ := sl
        simp only at hs
        rw [hs]
      subst hsl
      exact ⟨nm, qn, ns, bs, bm, sn, sub, ab, col, dd, k0, k1, k2, k3, k5, ho, ht⟩
    · cases h1
  · cases h1
/-- all that is asked of an error class x: its fields; the other classes that a clause for it does not take -/
def errB (K : Fr) (x : Str) (fs : List Str) : Bool := oexB K (He.ga K x) && (xfB K (He.ga K x) && (fs.all (fun f => decide (PySem.W.findIn K (.ref (He.ga K x)) f = some none)) &&
  (decide (PySem.W.findIn K (.ref (He.ga K x)) "__init__" = some (some (.ref (He.ma K (He.ga K x) "__init__")))) && decide (PySem.W.typeIn K (.ref (He.ma K (He.ga K x) "__init__")) = some (.type "function")))))
structure ErrK (K : Fr) (x : Str) (fs : List Str) : Prop where
  oex : OexC K (He.ga K x)
  xf : XfC K (He.ga K x)
  no : ∀ f ∈ fs, PySem.W.findIn K (.ref (He.ga K x)) f = some none
  ini : PySem.W.findIn K (.ref (He.ga K x)) "__init__" = some (some (.ref (He.ma K (He.ga K x) "__init__")))
  fn : PySem.W.typeIn K (.ref (He.ma K (He.ga K x) "__init__")) = some (.type "function")
theorem errB_ok {K : Fr} {x : Str} {fs : List Str} (h : errB K x fs = true) : ErrK K x fs := by
  unfold errB at h
  simp only [Bool.and_eq_true, decide_eq_true_eq, List.all_eq_true] at h
  obtain ⟨h1, h2, h3, h4, h5⟩ := h
  exact ⟨oexB_ok h1, xfB_ok h2, h3, h4, h5⟩
/-- isinstance among own classes -/
def isiB (K : Fr) (cs : List Str) : Bool := cs.all (fun c => PySem.W.plainGet K (He.ga K c) Str.empty && (PySem.W.hasDictIn K (He.ga K c) && (PySem.W.plainOver K (He.ga K c) && (decide (PySem.W.findIn K (.ref (He.ga K c)) "__setattr__" = some (some (.builtin "object.__setattr__"))) &&
    (decide (PySem.W.findIn K (.ref (He.ga K c)) "__class__" = some (some (.builtin "object.__class__"))) && (decide (PySem.W.mroIn K (He.ga K c) (.type "object") = some true) &&
    (["NoneType", "int", "bool", "str", "tuple", "list", "dict"].all (fun n => decide (PySem.W.kitOne K (.type n) (.ref (He.ga K c)) = some false) && (decide (n = "NoneType") || decide (PySem.W.kitOne K (.ref (He.ga K c)) (.type n) = some false))) &&
    cs.all (fun c' => decide (PySem.W.kitOne K (.ref (He.ga K c)) (.ref (He.ga K c')) = some (decide (c = c'))))))))))) &&
  (cs.isEmpty || (decide (PySem.W.specialIn K (.builtin "object.__class__") "__get__" = some (some (.builtin "getset_descriptor.__get__"))) && decide (PySem.W.takesIn K (.builtin "object.__class__") = some true)))
theorem isiB_ok {K : Fr} {cs : List Str} (h : isiB K cs = true) : IsiK K cs := by
  unfold isiB at h
  rw [Bool.and_eq_true, List.all_eq_true] at h
  obtain ⟨h1, h2⟩ := h
  have one := fun c hc => by
    have q := h1 c hc
    simp only [Bool.and_eq_true, decide_eq_true_eq] at q
    exact q
  refine ⟨fun c hc => ?_, fun hn => ?_, fun c hc n hn => ?_, fun c hc c' hc' => ?_⟩
  · obtain ⟨a1, a2, a3, a4, a5, a6, _, _⟩ := one c hc
    exact ⟨⟨a1, a2, a3, a4⟩, a5, a6⟩
  · rw [Bool.or_eq_true] at h2
    rcases h2 with h2 | h2
    · exact absurd (List.isEmpty_iff.mp h2) hn
    · simp only [Bool.and_eq_true, decide_eq_true_eq] at h2
      exact h2
  · obtain ⟨_, _, _, _, _, _, a7, _⟩ := one c hc
    have q := List.all_eq_true.mp a7 n hn
    simp only [Bool.and_eq_true, Bool.or_eq_true, decide_eq_true_eq] at q
    exact ⟨q.1, fun e => q.2.resolve_left e⟩
  · obtain ⟨_, _, _, _, _, _, _, a8⟩ := one c hc
    have q := List.all_eq_true.mp a8 c' hc'
    exact of_decide_eq_true q

/-! ### the written part, as told to every def -/
structure Wd (fas : List He.Fa) (dfs : List He.DefD) (ex : Fr → Bool) (K : Fr) (mg : Str → Option Value) : Prop where
  fa : ∀ (i : Nat) f, fas[i]? = some f → He.Fa.ok K f = true
  df : ∀ (i : Nat) d, dfs[i]? = some d → ∃ fd, FunD K d.name d.qual d.params d.body d.scope (d.dvs K) (d.kws K) (He.fAd K d.at_) fd
  gl : ∀ (i : Nat) x, fas[i]? = some (.glo x) → mg x = some (.ref (He.ga K x))
  fr : ∀ (i : Nat) x, fas[i]? = some (.free x) → mg x = none
  it : ∀ (i : Nat) x n, fas[i]? = some (.int x n) → ∃ t, mg x = some (.int n t)
  ex : ex K = true
section
variable {fas : List He.Fa} {dfs : List He.DefD} {ex : Fr → Bool} {K : Fr} {mg : Str → Option Value}
theorem Wd.cls (D : Wd fas dfs ex K mg) (i : Nat) (x : Str) (h : fas[i]? = some (.cls x)) : Cls K (He.ga K x) := He.cls_ok (D.fa i _ h)
theorem Wd.noat (D : Wd fas dfs ex K mg) (i : Nat) (x f : Str) (h : fas[i]? = some (.noat x f)) : NoAttr K (He.ga K x) f := He.noat_ok (D.fa i _ h)
theorem Wd.meth (D : Wd fas dfs ex K mg) (i : Nat) (x m : Str) (h : fas[i]? = some (.meth x m)) : Meth K (He.ga K x) m (He.ma K (He.ga K x) m) := He.meth_ok (D.fa i _ h)
theorem Wd.mkr (D : Wd fas dfs ex K mg) (i : Nat) (x : Str) (h : fas[i]? = some (.mkr x)) : Mk K (He.ga K x) (He.ma K (He.ga K x) "__init__") := He.mkr_ok (D.fa i _ h)
theorem Wd.exm (D : Wd fas dfs ex K mg) (i : Nat) (x y : Str) (b : Bool) (h : fas[i]? = some (.exm x y b)) : PySem.W.exmOne K (.ref (He.ga K x)) (.ref (He.ga K y)) = some b := He.exm_ok (D.fa i _ h)
theorem Wd.keep (D : Wd fas dfs ex K mg) (i : Nat) (x : Str) (h : fas[i]? = some (.keep x)) : PySem.W.keepIn K (.ref (He.ga K x)) = true := He.keep_ok (D.fa i _ h)
end
/-- a clause's table, by the facts of each class -/
theorem tabM_ok {K : Fr} {c : Value} {yes no : List Str} (hy : ∀ x ∈ yes, PySem.W.exmOne K (.ref (He.ga K x)) c = some true) (hn : ∀ x ∈ no, PySem.W.exmOne K (.ref (He.ga K x)) c = some false) (x : Str) (t : Bool) (h : tabM yes no x = some t) : PySem.W.exmOne K (.ref (He.ga K x)) c = some t := by
  unfold tabM at h
  by_cases h1 : x ∈ yes
  · rw [if_pos h1] at h
    cases h
    exact hy x h1
  · rw [if_neg h1] at h
    by_cases h2 : x ∈ no
    · rw [if_pos h2] at h
      cases h
      exact hn x h2
    · rw [if_neg h2] at h; cases h
end Ev
namespace Ev
open PySem PySem.Spec PyProof.Rows L2

/-! ### keywords -/
theorem _root_.L2.PK.less {X : Cx} {e : List Keyword} {t t' : TA} (h : PK X e t) (k : ∀ s H Q, t' s H Q → t s H Q) : PK X e t' := ⟨fun pos pins s σ H Q I q => h.run pos pins s σ H Q I (k _ _ _ q)⟩
section
variable {X : Cx} {T : An} {W : WX} {a : Expr} {kws : List Keyword} {f : Den} {l : DenL} {nm : Option Str} {kpos : Pos}
theorem dk_nil : PK X [] (tL X.K T W dNil) := pk_nil.less fun _ _ _ h => tL_nil h
theorem dk_cons (ha : PE X a (tE X.K T W f)) (hl : PK X kws (tL X.K T W l)) : PK X (⟨nm, a, kpos⟩ :: kws) (tL X.K T W (dCons f l)) := (pk_cons (pe_fz ha) hl).less fun _ _ _ h => tL_cons h
end
/-! ### x op= e of ints -/
def sAug (i : Nat) (op : D → D → Option RV) (f : Den) : DenS := fun r => match r[i]? with
  | some (.val d) => (fz (f r)).then fun y r1 => (match peek r1 y with
    | some e => (match op d e with
      | some (.val z) => .nx (r1.set i (.val z))
      | _ => .stuck)
    | none => .stuck)
  | _ => .stuck
section
variable {X : Cx} {T : An} {W : WX} {e : Expr} {f : Den} {pos pos' : Pos}
theorem ds_aug {op : Operator} {gg : Int → Int → Int} {i : Nat} {x : Str} (ho : OpR X (inplaceOp op) (rI0 fun i j => .int (gg i j))) (hN : X.N.Nodup) (hi : X.N[i]? = some x) (hx : Loc X.env.scope x) (he : PE X e (tE X.K T W f)) (hf : X.fn x = true ∨ X.env.scope.names.lookup x = some .local) :
    PS X (.AugAssign (.Name x pos') op e pos) (tS X.K T W (sAug i (intD gg) f)) := (ps_aug hN hi hx (pe_fz he) (ti := rI0 fun i j => .int (gg i j)) ho hf).less fun En s H h => by
  obtain ⟨r, Z, S, h⟩ := h
  unfold sAug at h
  cases er : r[i]? with
  | none => rw [er] at h; exact h.elim
  | some sl =>
    rw [er] at h
    cases sl with
    | val d =>
      obtain ⟨v, e1, rv⟩ := S.val i d er
      have h : tGS X.K T W ((fz (f r)).then fun y r1 => (match peek r1 y with
        | some e => (match intD gg d e with
          | some (.val z) => .nx (r1.set i (.val z))
          | _ => .stuck)
        | none => .stuck)) Z En := h
      refine ⟨v, e1, r, Z, S, (tG.stm S h).mono fun w H1 h1 => ?_⟩
      obtain ⟨y, r1, Z1, S1, k1, f1, o1, h1⟩ := h1
      cases p : peek r1 y with
      | none => rw [p] at h1; exact h1.elim
      | some e' =>
        rw [p] at h1
        have c := o1.con S1 p
        cases d with
        | int a =>
          cases e' with
          | int b =>
            obtain rfl : v = .int a := rv
            obtain rfl : w = .int b := c
            exact ⟨a, b, rfl, rfl, h1 _ H1 Z1 (S1.setVal (d := .int (gg a b)) rfl) (Same.refl _)⟩
          | _ => exact h1.elim
        | _ => exact h1.elim
    | _ => exact h.elim
end
/-! ### tuple(range(n)), list(range(n)) -/
def rg1D : D → Option (List D)
  | .int n => if n ≤ 1000000 ∧ -1000000 ≤ n then some (rangeD 0 n) else none
  | _ => none
def tupRgD (d : D) : Option RV := (rg1D d).map fun xs => .val (.tup xs)
def lstRgD (d : D) : Option RV := (rg1D d).map fun xs => .own (.lst xs)
end Ev
namespace Ev
open PySem PySem.Spec PyProof.Rows L2

section
variable {X : Cx} {T : An} {W : WX} {k n : Nat} {f : Addr} {fd : FuncData} {ps ks : List Str} {io : Option Nat} {F : Fun} {p : List Nat} {dd : List D} {x : Str} {q pos : Pos} {kws : List Keyword} {lk : DenL}
/-- f(k = v, ..): all by keyword -/
theorem de_callK0 {N : Nat} (Fg : FnG X.prog X.w X.K X.mg X.base (CXW X) k f fd ps (spF X.K io N F)) (hr : Room k X.A) (hc : Calm X.A) (hg : Gl X x) (hm : X.mg x = some (.ref f)) (hk : PySem.W.keepIn X.K (.ref f) = true) (hb : BindG X.K fd ps 0 ks p dd) (tk : Takes X W)
    (hN : ∀ xs ys : List RV, xs.length = 0 → ys.length = ks.length → (pick p (xs ++ (ys ++ dd.map .val))).length = N)
    (hkw : PK X kws (tL X.K T W lk)) (hall : (backToKw pos (keywordEach kws X.env)).all (·.1.isSome) = true) (hks : (backToKw pos (keywordEach kws X.env)).filterMap (·.1) = ks)
    (hdb : (x == ("__debug__" : Str)) = false) (hpl : ((backTo pos (starEach [] X.env)).any (·.1) || (backToKw pos (keywordEach kws X.env)).any (·.1.isNone)) = false) :
    PE X (.Call (.Name x q) [] kws pos) (tE X.K T W (eCall io F 0 ks.length p dd dNil lk)) := ⟨fun pins s σ H Q I h => by
  refine wpAny_Call_Name_kw (ld_glob I hg hm ?_ hdb)
  have z := tL_nil (call_two hN h)
  refine PySem.W.callWith_KW0 (h₀ := X.base) I.ok.mod.kin hk hall (thn (hkw.run pos pins s σ H _ I z) fun ws s2 z => ?_) hpl
  obtain ⟨zs, H2, I2, rz, l1, l2, q2⟩ := z
  refine ⟨I2.kIn, ?_⟩
  rw [hks]
  exact fn_at (vs := []) (us := []) Fg hr hc hb tk I2 .nil rz rfl l2 q2⟩
end

section
variable {P : Program} {w : World} {K : Fr} {mg : Str → Option Value} {base : Heap} {N : List Str} {qual : Str} {scope : Scope} {f : Addr} {cdv : Value} {A : Around} {outer : List PySem.Env} {s : Shared} {H : Hp} {E : XK}
theorem tk_of : Takes (cxOf (L2.CX P w) P w K mg base N qual scope f cdv A outer s H E) (fun cls d _ H' => E cls d H') := L2.takes_of rfl rfl rfl rfl
theorem hp_of {CX : CXT} : PassesOwn (model (cxOf CX P w K mg base N qual scope f cdv A outer s H E).prog (cxOf CX P w K mg base N qual scope f cdv A outer s H E).w) (cxOf CX P w K mg base N qual scope f cdv A outer s H E).A
    (cxOf CX P w K mg base N qual scope f cdv A outer s H E).env (cxOf CX P w K mg base N qual scope f cdv A outer s H E).xe := L2.passes_of rfl
theorem ru1 {k n : Nat} {A B : Around} (r : Room k A) (h : n ≤ 200) (e : B.units = A.units) : B.units + n < cLine := by rw [e]; exact ru r h
end

section
variable {X : Cx} {T : An} {W : WX} {a : Expr} {f : Den} {p p' pos pos' : Pos}
theorem rgV_rep {K : Fr} {Z : Hp} (a b : Int) : RepL K Z (rangeD a b) (rgV a b) := by
  unfold rangeD rgV
  generalize List.range (b - a).toNat = l
  induction l with
  | nil => exact RepL.nil
  | cons i t ih => exact RepL.cons rfl ih
theorem rg1_ok {d : D} {xs : List D} (h : rg1D d = some xs) : ∃ n : Int, d = .int n ∧ xs = rangeD 0 n ∧ RgOk 0 n := by
  cases d with
  | int n =>
    have h : (if n ≤ 1000000 ∧ -1000000 ≤ n then some (rangeD 0 n) else none) = some xs := h
    by_cases c : n ≤ 1000000 ∧ -1000000 ≤ n
    · rw [if_pos c] at h
      cases h
      refine ⟨n, rfl, rfl, ?_⟩
      unfold RgOk
      omega
    · rw [if_neg c] at h
      cases h
  | _ => cases h
theorem de_tupRg (hc : X.calm = true) (hg : Gl X "tuple") (hm : X.mg "tuple" = none) (hg' : Gl X "range") (hm' : X.mg "range" = none) (ha : PE X a (tE X.K T W f)) (hs : starEach [a] X.env = (false, eval a X.env) :: starEach [] X.env)
    (hs' : starEach [.Call (.Name "range" p') [a] [] pos'] X.env = (false, eval (.Call (.Name "range" p') [a] [] pos') X.env) :: starEach [] X.env) :
    PE X (.Call (.Name "tuple" p) [.Call (.Name "range" p') [a] [] pos'] [] pos) (tE X.K T W (eUn tupRgD f)) := (pe_tupRg hc hg hm (prg_1 hg' hm' (pe_fz ha) hs) hs').less fun s H Q h =>
  tE_un (R := fun x H1 Q => ∃ n, x = .int n ∧ RgOk 0 n ∧ ∀ q, H1 q = none → Q (.ref q) (upd H1 q (.tup (rgV 0 n)))) (fun s r Z H v d x Q S co e h => by
    unfold tupRgD at e
    cases e1 : rg1D d with
    | none => rw [e1] at e; cases e
    | some xs =>
      rw [e1] at e
      cases e
      obtain ⟨n, rfl, rfl, ok⟩ := rg1_ok e1
      refine ⟨n, co, ok, fun q hq => tG.newF S h hq ⟨q, rgV 0 n, rfl, ?_, rgV_rep 0 n⟩⟩
      exact .inl (.inl upd_same)) h
theorem de_lstRg (hc : X.calm = true) (hg : Gl X "list") (hm : X.mg "list" = none) (hg' : Gl X "range") (hm' : X.mg "range" = none) (ha : PE X a (tE X.K T W f)) (hs : starEach [a] X.env = (false, eval a X.env) :: starEach [] X.env)
    (hs' : starEach [.Call (.Name "range" p') [a] [] pos'] X.env = (false, eval (.Call (.Name "range" p') [a] [] pos') X.env) :: starEach [] X.env) :
    PE X (.Call (.Name "list" p) [.Call (.Name "range" p') [a] [] pos'] [] pos) (tE X.K T W (eUn lstRgD f)) := (pe_listRg hc hg hm (prg_1 hg' hm' (pe_fz ha) hs) hs').less fun s H Q h =>
  tE_un (R := fun x H1 Q => ∃ n, x = .int n ∧ RgOk 0 n ∧ ∀ q, H1 q = none → Q (.ref q) (upd H1 q (.lst (rgV 0 n)))) (fun s r Z H v d x Q S co e h => by
    unfold lstRgD at e
    cases e1 : rg1D d with
    | none => rw [e1] at e; cases e
    | some xs =>
      rw [e1] at e
      cases e
      obtain ⟨n, rfl, rfl, ok⟩ := rg1_ok e1
      refine ⟨n, co, ok, fun q hq => tG.new S h hq ⟨?_, rgV 0 n, upd_same, rgV_rep 0 n⟩⟩
      exact (S.free hq).2.1) h
end
end Ev
namespace Ev
open PySem PySem.Spec PyProof.Rows L2

/-! ### a comprehension over a list that a slot owns: read as it stands at each turn -/
def cLoopB (i0 : Nat) (vs : List Nat) (g : DenG) (st : Stp) : Nat → Nat → Stp
  | 0, _, _, _ => .stuck
  | n + 1, j, acc, r => match contD r i0 with
    | some (.lst xs) => (match xs[j]? with
      | none => .ok acc r
      | some d => if vsOk r vs = true then (match g d (wipeE r vs) with
        | none => .stuck
        | some r1 => (match st acc r1 with
          | .ok acc2 r2 => cLoopB i0 vs g st n (j + 1) acc2 (backE r r2 vs)
          | _ => .stuck)) else .stuck)
    | _ => .stuck
def eCompB (i0 : Nat) (vs : List Nat) (g : DenG) (st : Stp) : Den := fun r => match contD r i0 with
  | some (.lst xs) => (cLoopB i0 vs g st (xs.length + 1) 0 [] r).bind fun acc r2 => .ok (.own (.lst acc)) r2
  | _ => .stuck
section
variable {K : Fr} {T : An} {r r2 : Env} {Z Z2 H H2 : Hp} {s s2 : L2.St} {vs : List Nat}
theorem cLoopB_exc {i0 : Nat} {g : DenG} {st : Stp} : ∀ (n j : Nat) (acc : List D) (r : Env) (x : Ex) (r' : Env), cLoopB i0 vs g st n j acc r ≠ .exc x r'
  | 0, _, _, _, _, _ => fun z => by cases z
  | n + 1, j, acc, r, x, r' => fun z => by
    unfold cLoopB at z
    split at z
    · split at z
      · cases z
      · split at z
        · split at z
          · cases z
          · split at z
            · exact cLoopB_exc n _ _ _ _ _ z
            · cases z
        · cases z
    · cases z
theorem st_loopB {i0 : Nat} {a : Addr} {n0 : Nat} {g : DenG} {st : Stp} {D0 : Addr} {fp : List Nat} {acc : List D} {N : Hp → Prop} {bd : L2.St → Hp → (Hp → Prop) → Prop} (hs : ∀ i ∈ fp, i ∈ vs) (hg : GFoot fp g) (ha : s[i0]? = some (some (.ref a)))
    (hb : ∀ (s2 : L2.St) (r2 : Env) (Z2 H2 : Hp) (acc2 : List D) (N2 : Hp → Prop), Acc K T D0 acc2 r2 Z2 s2 H2 → tSt K T D0 s2 (st acc2 r2) r2 Z2 H2 N2 → bd s2 H2 N2)
    (A : Acc K T D0 acc r Z s H) (h : tSt K T D0 s (cLoopB i0 vs g st n0 0 acc r) r Z H N) :
    ∃ W : Nat → Nat → Hp → Prop, (∃ m, W 0 m H) ∧ ∀ i m H, W i m H → ((Itl K a).stop i H ∧ N H) ∨ ((Itl K a).go i H ∧ ∃ Nx : Hp → Prop, (∀ H', Nx H' → ∃ m', m' < m ∧ W (i + 1) m' H') ∧
      ∀ x H', (Itl K a).yld i H x H' → tGt K T fp g x (wipe s vs) H' fun σ2 H2 => wipe σ2 vs = wipe s vs ∧ bd σ2 H2 Nx) := by
  refine ⟨fun i m H => ∃ r Z acc, Acc K T D0 acc r Z s H ∧ tSt K T D0 s (cLoopB i0 vs g st m i acc r) r Z H N, ⟨n0, r, Z, acc, A, h⟩, ?_⟩
  clear A h
  rintro i m H ⟨r, Z, acc, A, h⟩
  cases m with
  | zero => exact h.elim
  | succ m =>
    unfold cLoopB at h
    cases ec : contD r i0 with
    | none => rw [ec] at h; exact h.elim
    | some c =>
      cases c with
      | lst xs =>
        rw [ec] at h
        obtain ⟨a', w, e'⟩ := cont_at A.sim ec
        rw [ha] at e'
        cases e'
        obtain ⟨z0, us, eu, rr⟩ := cont_root A.sim w ec
        have sq : SqL K H a us := SqL.of eu
        have h : tSt K T D0 s (match xs[i]? with
          | none => .ok acc r
          | some d => if vsOk r vs = true then (match g d (wipeE r vs) with
            | none => .stuck
            | some r1 => (match st acc r1 with
              | .ok acc2 r2 => cLoopB i0 vs g st m (i + 1) acc2 (backE r r2 vs)
              | _ => .stuck)) else .stuck) r Z H N := h
        cases ex : xs[i]? with
        | none =>
          rw [ex] at h
          refine .inl ⟨⟨us, sq, ?_⟩, h H Z A .refl⟩
          rw [rr.length]
          exact List.getElem?_eq_none_iff.mp ex
        | some d =>
          rw [ex] at h
          obtain ⟨v, ev, rv⟩ := rr.get ex
          refine .inr ⟨⟨us, v, sq, ev⟩, fun H' => ∃ r Z acc, Acc K T D0 acc r Z s H' ∧ tSt K T D0 s (cLoopB i0 vs g st m (i + 1) acc r) r Z H' N, fun H' p => ⟨m, Nat.lt_succ_self m, p⟩, fun x H' y => ?_⟩
          obtain ⟨rfl, y⟩ := y
          have ey := y us sq
          rw [ev] at ey
          cases ey
          have h : tSt K T D0 s (if vsOk r vs = true then (match g d (wipeE r vs) with
            | none => .stuck
            | some r1 => (match st acc r1 with
              | .ok acc2 r2 => cLoopB i0 vs g st m (i + 1) acc2 (backE r r2 vs)
              | _ => .stuck)) else .stuck) r Z H' N := h
          by_cases hv : vsOk r vs = true
          · rw [if_pos hv] at h
            cases q : g d (wipeE r vs) with
            | none => rw [q] at h; exact h.elim
            | some r1 =>
              rw [q] at h
              have h : tSt K T D0 s (match st acc r1 with | .ok acc2 r2 => cLoopB i0 vs g st m (i + 1) acc2 (backE r r2 vs) | _ => .stuck) r Z H' N := h
              refine turn_in hs hg A rv q fun s2 hw A2 => ⟨hw, hb s2 r1 Z H' acc _ A2 ?_⟩
              cases p : st acc r1 with
              | exc _ _ => rw [p] at h; exact h.elim
              | stuck => rw [p] at h; exact h.elim
              | ok acc2 r2 =>
                rw [p] at h
                intro H2 Z2 A3 l3
                obtain ⟨A4, l4⟩ := turn_out hg hs A.sim hv q hw A3 l3
                exact ⟨_, Z2, acc2, A4, tSt.from l4 h⟩
          · rw [if_neg hv] at h; exact h.elim
      | _ => rw [ec] at h; exact h.elim
end
section
variable {K : Fr} {T : An} {W : WX} {s : L2.St} {H : Hp} {i0 : Nat} {g : DenG} {tt : DenB} {te : Den} {vs fp : List Nat} {Q : VK}
theorem compB_one (hs : ∀ i ∈ fp, i ∈ vs) (hg : GFoot fp g) (h : tE K T W (eCompB i0 vs g (cTest tt (cElt te))) s H Q) : tLc (iSeq K (tVar i0)) (tGt K T fp g) (tT K T WF tt) (tO K T WF te) vs s H Q := by
  obtain ⟨r, Z, S, h⟩ := h
  unfold eCompB at h
  cases ec : contD r i0 with
  | none => rw [ec] at h; exact h.elim
  | some c =>
    cases c with
    | lst xs =>
      rw [ec] at h
      have h : tG K T W (RelE K T s) s ((cLoopB i0 vs g (cTest tt (cElt te)) (xs.length + 1) 0 [] r).bind fun acc r2 => .ok (.own (.lst acc)) r2) r Z H Q := h
      obtain ⟨a, w, ea⟩ := cont_at S ec
      obtain ⟨z0, us, eu, rr⟩ := cont_root S w ec
      refine ⟨_, ea, a, rfl, .inl ⟨⟨us, SqL.of eu⟩, fun D0 hD => ?_⟩⟩
      have A := acc_start S hD
      have h1 : tSt K T D0 s (cLoopB i0 vs g (cTest tt (cElt te)) (xs.length + 1) 0 [] r) r Z (upd H D0 (.lst [])) fun H' => Q (.ref D0) H' := by
        cases e : cLoopB i0 vs g (cTest tt (cElt te)) (xs.length + 1) 0 [] r with
        | exc _ _ => exact (cLoopB_exc _ _ _ _ _ _ e).elim
        | stuck => rw [e] at h; exact h.elim
        | ok acc r2 =>
          rw [e] at h
          intro H2 Z2 A2 l2
          have l0 : Lk D0 r s H Z r (upd H D0 (.lst [])) Z := ⟨Kin.refl _, fun a o ne e _ => by rw [upd_ne ne]; exact e, fun _ _ => rfl, fun a e => by
            by_cases h : a = D0
            · rw [h] at e; exact (e hD).elim
            · rw [upd_ne h]; exact e⟩
          have l := l0.trans l2
          obtain ⟨us, eu, rr⟩ := A2.lst
          exact h (.ref D0) H2 Z2 A2.sim l.k (l.frm hD) ⟨D0, rfl, ⟨A2.z, us, eu, rr⟩, A2.h0, A2.no, hD⟩
      exact st_loopB (bd := fun σ2 H2 Nx => tT K T WF tt σ2 H2 fun b H3 => if b = true then tO K T WF te σ2 H3 fun y H4 => ∃ acc, H4 D0 = some (.lst acc) ∧ acc.length < sizeLine ∧ Nx (upd H4 D0 (.lst (acc ++ [y]))) else Nx H3) hs hg ea
        (fun s2 r2 Z2 H2 acc2 N2 A2 q => by
          obtain ⟨r0, Z0, S0, q0⟩ := st_test A2 q
          refine ⟨r0, Z0, S0, q0.mono fun b H3 h3 => ?_⟩
          obtain ⟨r3, Z3, A3, l3, h3⟩ := h3
          cases b with
          | true => exact st_elt A3 h3
          | false => exact h3) A h1
    | _ => rw [ec] at h; exact h.elim
end
section
variable {X : Cx} {T : An} {W : WX} {elt tg : Expr} {ifs : List Expr} {scope : Scope} {own : List (Str × Nat)} {pos p1 : Pos} {g : DenG} {tt : DenB} {te : Den} {fp : List Nat} {i0 : Nat} {z : Str}
theorem de_compB (hc : X.calm = true) (hN : X.N.Nodup) (ok : BlkOk X.N X.env.scope scope own) (hs : ∀ i ∈ fp, i ∈ own.map (·.2)) (hf : GFoot fp g) (hi : PE X (.Name z p1) (tVar i0))
    (hg : InBlk X scope fun Y => PG Y tg (tGt X.K T fp g)) (ht : InBlk X scope fun Y => PTs Y ifs (tT X.K T WF tt)) (he : InBlk X scope fun Y => PE Y elt (tE X.K T WF te)) (hz : ∀ x, foldedSetIterable (.Name z p1) X.env x = pure x) :
    PE X (.ListComp elt [⟨tg, .Name z p1, ifs, 0⟩] scope pos) (tE X.K T W (eCompB i0 (own.map (·.2)) g (cTest tt (cElt te)))) :=
  (pe_lc hc hN (pi_seq hi) ok hg ht (fun s H C cl fp => pe_fz (he s H C cl fp)) hz).less fun s H Q h => compB_one hs hf h
theorem ds_setCompB {i : Nat} {y : Str} {py spos : Pos} (hc : X.calm = true) (hN : X.N.Nodup) (hy : X.N[i]? = some y) (hyl : X.env.scope.names.lookup y = some .local)
    (hsw : swapsWith (.ListComp elt [⟨tg, .Name z p1, ifs, 0⟩] scope pos) (some (.Name y py)) spos.line X.env = pure true) (ok : BlkOk X.N X.env.scope scope own) (hs : ∀ i ∈ fp, i ∈ own.map (·.2)) (hf : GFoot fp g) (hi : PE X (.Name z p1) (tVar i0))
    (hg : InBlk X scope fun Y => PG Y tg (tGt X.K T fp g)) (ht : InBlk X scope fun Y => PTs Y ifs (tT X.K T WF tt)) (he : InBlk X scope fun Y => PE Y elt (tE X.K T WF te)) (hz : ∀ x, foldedSetIterable (.Name z p1) X.env x = pure x) :
    PS X (.Assign [.Name y py] (.ListComp elt [⟨tg, .Name z p1, ifs, 0⟩] scope pos) spos) (tS X.K T W (sSet i (eCompB i0 (own.map (·.2)) g (cTest tt (cElt te))))) :=
  (ps_setLc hc hN hy hyl hsw (pi_seq hi) ok hg ht (fun s H C cl fp => pe_fz (he s H C cl fp)) hz).less fun En s H h => compB_one hs hf (tS_set h)
end
/-! ### by what a slot holds -/
def eAlt (i : Nat) (f g : Den) : Den := fun r => match r[i]? with
  | some (.val _) => f r
  | _ => g r
section
variable {X : Cx} {T : An} {W : WX} {e : Expr} {st : Stmt} {f g : Den} {i j : Nat}
theorem eAlt_or (i : Nat) (f g : Den) (r : Env) : eAlt i f g r = f r ∨ eAlt i f g r = g r := by
  unfold eAlt
  split
  · exact .inl rfl
  · exact .inr rfl
theorem de_alt {K : Fr} (h1 : PE X e (tE K T W f)) (h2 : PE X e (tE K T W g)) : PE X e (tE K T W (eAlt i f g)) := ⟨fun pins s σ H Q I q => by
  obtain ⟨r, Z, S, q⟩ := q
  rcases eAlt_or i f g r with z | z
  · rw [z] at q; exact h1.run pins s σ H Q I ⟨r, Z, S, q⟩
  · rw [z] at q; exact h2.run pins s σ H Q I ⟨r, Z, S, q⟩⟩
theorem ds_altSet {K : Fr} (h1 : PS X st (tS K T W (sSet j f))) (h2 : PS X st (tS K T W (sSet j g))) : PS X st (tS K T W (sSet j (eAlt i f g))) := ⟨fun pins s σ H D I q => by
  obtain ⟨r, Z, S, q⟩ := q
  have e : sSet j (eAlt i f g) r = sSet j f r ∨ sSet j (eAlt i f g) r = sSet j g r := by
    unfold sSet
    rcases eAlt_or i f g r with z | z
    · exact .inl (by rw [z])
    · exact .inr (by rw [z])
  rcases e with z | z
  · rw [z] at q; exact h1.run pins s σ H D I ⟨r, Z, S, q⟩
  · rw [z] at q; exact h2.run pins s σ H D I ⟨r, Z, S, q⟩⟩
end
end Ev
namespace Ev
open PySem PySem.Spec PyProof.Rows L2

/-! ### sorted: a list of data -/
def tupNe : PyData → Bool
  | .tuple (_ :: _) => true
  | _ => false
def notTup : PyData → Bool
  | .none => false
  | .tuple _ => false
  | _ => true
def sortOk (ps : List PyData) : Bool := ps.all (fun p => decide (p.depth ≤ 60)) && (ps.all (fun p => ps.all fun q => PySem.W.alike p q) && (ps.all tupNe || ps.all notTup))
def leP (p q : PyData) : Bool := !PySem.W.dataLt q p
def pOf (d : D) : PyData := (toP d).getD .none
def leD (a b : D) : Bool := leP (pOf a) (pOf b)
def sortedD : List D → Option RV
  | [.lst xs] => (toPs xs).bind fun ps => if sortOk ps = true then some (.own (.lst (xs.mergeSort leD))) else none
  | _ => none
def rSortedD (K : Fr) : List V → Hp → VK → Prop := fun vs H Q => ∃ (a : Addr) (xs : List V) (ps : List PyData), vs = [.ref a] ∧ SqL K H a xs ∧ DpAll K H xs ps ∧ sortOk ps = true ∧
  ∀ p : Addr, H p = none → Q (.ref p) (upd H p (.lst (((xs.zip ps).mergeSort fun a b => leP a.2 b.2).map Prod.fst)))
theorem each_of {X : Cx} {pins : List (Addr × Obj)} {σ : L2.St} {H : Hp} {s : Shared} (I : Inv X pins σ H s) : ∀ {ps : List PyData} {xs : List V} {us : List Value}, DpAll X.K H xs ps → Vals xs us →
    PySem.W.EachIs (fun u (b : V × PyData) => RelV b.1 u ∧ ∃ as, Reads s.heap u b.2 as) us (xs.zip ps)
  | [], _, _, .nil, .nil => .nil
  | p :: ps, _, _, .cons h t, .cons r rs => .cons ⟨r, Dp.reads I p _ _ h r⟩ (each_of I t rs)
theorem vals_of_each : ∀ {us : List Value} {bs : List (V × PyData)}, PySem.W.EachIs (fun u (b : V × PyData) => RelV b.1 u) us bs → Vals (bs.map Prod.fst) us
  | _, _, .nil => .nil
  | _, _, .cons r t => .cons r (vals_of_each t)
theorem dp_len {K : Fr} {H : Hp} : ∀ {xs : List V} {ps : List PyData}, DpAll K H xs ps → xs.length = ps.length
  | _, _, .nil => rfl
  | _, _, .cons _ t => by rw [List.length_cons, List.length_cons, dp_len t]
theorem zip_snd : ∀ {xs : List V} {ps : List PyData}, xs.length = ps.length → (xs.zip ps).map Prod.snd = ps
  | [], [], _ => rfl
  | x :: xs, p :: ps, h => by
    rw [List.zip_cons_cons, List.map_cons, zip_snd (by simpa using h)]
theorem cr_sortedD {X : Cx} (hu : X.A.units + 66 < cLine) : CallR X (.builtin "sorted") (rSortedD X.K) := by
  intro pins s σ H vs us Q I r h
  obtain ⟨a, xs, ps, rfl, hs, dp, ok, q⟩ := h
  obtain ⟨its, rv, hl, hz⟩ := I.list hs
  rw [Vals.ref1 r]
  have hlen := dp_len dp
  have zs := zip_snd hlen
  have ea := each_of I dp rv
  unfold sortOk at ok
  rw [Bool.and_eq_true, Bool.and_eq_true] at ok
  obtain ⟨o1, o2, o3⟩ := ok
  have zl : (xs.zip ps).length = xs.length := by rw [List.length_zip]; omega
  refine PySem.W.sorted_data (β := V × PyData) (bs := xs.zip ps) (enc := Prod.snd) (R := fun u b => RelV b.1 u) hl.isList (ea.mono fun _ _ h => h.1) (ea.mono fun _ _ h => h.2) ?_ ?_ (by rw [zl]; exact hz) (fun b hb => ?_) fun out ho he => ?_
  · rw [zs]
    intro d hd d' hd'
    exact List.all_eq_true.mp (List.all_eq_true.mp o2 d hd) d' hd'
  · rw [zs]
    rcases Bool.or_eq_true_iff.mp o3 with o | o
    · refine .inl fun d hd => ?_
      have := List.all_eq_true.mp o d hd
      match d, this with
      | .tuple (x :: r), _ => exact ⟨x, r, rfl⟩
    · refine .inr fun d hd => ?_
      have := List.all_eq_true.mp o d hd
      constructor
      · intro z; rw [z] at this; cases this
      · intro l z; rw [z] at this; cases this
  · have m : b.2 ∈ ps := by rw [← zs]; exact List.mem_map.mpr ⟨b, hb, rfl⟩
    have := of_decide_eq_true (List.all_eq_true.mp o1 b.2 m)
    omega
  · obtain ⟨ep, he'⟩ := PyProof.Rows.sortedAll_at s.heap its out.toArray
    have el : PySem.W.dataLe false (Prod.snd : V × PyData → PyData) = fun a b => leP a.2 b.2 := by rw [PySem.W.dataLe_eq]; rfl
    rw [el] at he
    have hl2 : (((xs.zip ps).mergeSort fun a b => leP a.2 b.2).map Prod.fst).length ≤ sizeLine := by
      rw [List.length_map, List.length_mergeSort, zl]; exact hz
    exact ⟨.ref _, upd H (s.heap.objs.size + 1) (.lst (((xs.zip ps).mergeSort fun a b => leP a.2 b.2).map Prod.fst)), I.laid (t' := s.toks) (fun _ _ => PyProof.Rows.sortedAll_old) (Nat.le_succ _) ⟨hl2, out, ep, vals_of_each he, he'⟩, rfl, q _ (I.hok.fresh (Nat.le_succ _))⟩
theorem toPs_mem : ∀ {ds : List D} {ps : List PyData}, toPs ds = some ps → ps = ds.map pOf
  | [], ps, h => by
    have h : some [] = some ps := h
    cases h; rfl
  | d :: ds, ps, h => by
    have h : (toP d).bind (fun p => (toPs ds).map fun ps => p :: ps) = some ps := h
    cases q : toP d with
    | none => rw [q] at h; cases h
    | some p =>
      rw [q] at h
      have h : (toPs ds).map (fun ps => p :: ps) = some ps := h
      cases q2 : toPs ds with
      | none => rw [q2] at h; cases h
      | some ps' =>
        rw [q2] at h
        cases h
        rw [List.map_cons, ← toPs_mem q2]
        unfold pOf
        rw [q]; rfl
theorem repL_zip {K : Fr} {Z : Hp} : ∀ {ds : List D} {vs : List V}, RepL K Z ds vs → ∃ cs : List (D × V), ds = cs.map Prod.fst ∧ vs = cs.map Prod.snd ∧ ∀ c ∈ cs, Rep K Z c.1 c.2
  | [], _, h => by
    have h : _ = [] := h
    subst h
    exact ⟨[], rfl, rfl, fun c h => nomatch h⟩
  | d :: ds, _, h => by
    obtain ⟨v, r, rfl, h1, h2⟩ := h
    obtain ⟨cs, rfl, rfl, h3⟩ := repL_zip h2
    exact ⟨(d, v) :: cs, rfl, rfl, fun c hc => by
      rcases List.mem_cons.mp hc with rfl | hc
      · exact h1
      · exact h3 c hc⟩
theorem repL_of {K : Fr} {Z : Hp} : ∀ {cs : List (D × V)}, (∀ c ∈ cs, Rep K Z c.1 c.2) → RepL K Z (cs.map Prod.fst) (cs.map Prod.snd)
  | [], _ => rfl
  | c :: cs, h => ⟨c.2, cs.map Prod.snd, rfl, h c List.mem_cons_self, repL_of fun d hd => h d (List.mem_cons_of_mem _ hd)⟩
theorem repL_sort {K : Fr} {Z : Hp} {ds : List D} {vs : List V} (h : RepL K Z ds vs) : RepL K Z (ds.mergeSort leD) (((vs.zip (ds.map pOf)).mergeSort fun a b => leP a.2 b.2).map Prod.fst) := by
  obtain ⟨cs, rfl, rfl, h3⟩ := repL_zip h
  have e1 : (cs.map Prod.fst).mergeSort leD = (cs.mergeSort fun a b => leD a.1 b.1).map Prod.fst := (List.map_mergeSort (f := Prod.fst) (r := fun a b => leD a.1 b.1) (s := leD) fun a _ b _ => rfl).symm
  have e2 : (cs.map Prod.snd).zip ((cs.map Prod.fst).map pOf) = cs.map fun c => (c.2, pOf c.1) := by
    clear h h3 e1
    induction cs with
    | nil => rfl
    | cons c t ih => rw [List.map_cons, List.map_cons, List.map_cons, List.zip_cons_cons, ih]; rfl
  have e3 : (cs.map fun c => (c.2, pOf c.1)).mergeSort (fun a b => leP a.2 b.2) = (cs.mergeSort fun a b => leD a.1 b.1).map fun c => (c.2, pOf c.1) := (List.map_mergeSort (f := fun c : D × V => (c.2, pOf c.1)) (r := fun a b => leD a.1 b.1) (s := fun a b => leP a.2 b.2) fun a _ b _ => rfl).symm
  rw [e1, e2, e3, List.map_map]
  exact repL_of fun c hc => h3 c (List.mem_mergeSort.mp hc)
section
variable {X : Cx} {T : An} {W : WX}
theorem fn_sorted : FnOkD X.K T W sortedD (rSortedD X.K) := fun s r Z H vs ds x Q S c q h => by
  match ds, c, q with
  | [.lst xs], c, q =>
    obtain ⟨v, rfl, c1⟩ := c.one
    have q : (toPs xs).bind (fun ps => if sortOk ps = true then some (RV.own (.lst (xs.mergeSort leD))) else none) = some x := q
    cases w : toPs xs with
    | none => rw [w] at q; cases q
    | some ps =>
      rw [w] at q
      have q : (if sortOk ps = true then some (RV.own (.lst (xs.mergeSort leD))) else none) = some x := q
      by_cases ok : sortOk ps = true
      · rw [if_pos ok] at q
        cases q
        obtain ⟨a, us, rfl, e, rr⟩ := c1
        have dp := RepL.dp S.sub xs rr w
        refine ⟨a, us, ps, rfl, SqL.of e, dp, ok, fun p hp => h.new S hp ⟨(S.free hp).2.1, _, upd_same, ?_⟩⟩
        rw [toPs_mem w]
        exact repL_sort rr
      · rw [if_neg ok] at q; cases q
end

/-! ### xs.insert(0, y) -/
def insertD : MutD
  | .lst xs, [.int 0, d] => if xs.length < most then some (.lst (d :: xs), .non) else none
  | _, _ => none
abbrev rInsert : V → List V → Hp → VK → Prop := fun x vs H Q => ∃ (l : Addr) (xs : List V) (i : Int) (y : V), x = .ref l ∧ vs = [.int i, y] ∧ H l = some (.lst xs) ∧ xs.length < sizeLine ∧ 0 ≤ i ∧ i < 2 ^ 63 ∧
    Q .non (upd H l (.lst (xs.take i.toNat ++ [y] ++ xs.drop i.toNat)))
theorem mut_insert {K : Fr} : MutOk K insertD rInsert := fun Z H a c ds vs c' x Q sb q rr e h => by
  match c, ds, e with
  | .lst xs, [.int 0, d], e =>
    obtain ⟨z, ws, e1, r1⟩ := q
    obtain ⟨v, t, rfl, h1, h2⟩ := rr
    obtain ⟨w, t2, rfl, h3, h4⟩ := id h2
    have h4 : t2 = [] := h4
    subst h4
    obtain rfl : v = .int 0 := h1
    have e : (if xs.length < most then some (D.lst (d :: xs), D.non) else none) = some (c', x) := e
    by_cases hl : xs.length < most
    · rw [if_pos hl] at e
      cases e
      refine ⟨a, ws, 0, w, rfl, rfl, e1, by rw [r1.length]; exact Nat.lt_of_lt_of_le hl (most_le (Nat.le_refl _)), Int.le_refl _, by decide, h _ .non ⟨z, _, upd_same, ?_⟩ rfl⟩
      show RepL K Z (d :: xs) (w :: ws)
      exact RepL.cons h3 r1
    · rw [if_neg hl] at e; cases e

/-! ### a module's tuple of ints -/
def intsV : List Value → List Int → Bool
  | [], [] => true
  | .int i _ :: us, n :: ns => decide (i = n) && intsV us ns
  | _, _ => false
def tupB (K : Fr) (x : Str) (ns : List Int) : Bool := match K.lookup (He.ga K x) with
  | some ⟨.type t, _, .seq its _, _⟩ => decide (t = "tuple") && (decide (its.size ≤ 1000) && intsV its.toList ns)
  | _ => false
theorem intsV_vals : ∀ {us : List Value} {ns : List Int}, intsV us ns = true → Vals (ns.map V.int) us
  | [], [], _ => .nil
  | .int i t :: us, n :: ns, h => by
    have h : (decide (i = n) && intsV us ns) = true := h
    rw [Bool.and_eq_true] at h
    obtain rfl := of_decide_eq_true h.1
    exact .cons ⟨t, rfl⟩ (intsV_vals h.2)
theorem tupB_rep {K : Fr} {x : Str} {ns : List Int} (h : tupB K x ns = true) (Z : Hp) : Rep K Z (.tup (ns.map D.int)) (.ref (He.ga K x)) := by
  unfold tupB at h
  generalize e : K.lookup (He.ga K x) = lo at h
  have key : ∃ (o : Obj) (its : Array Value) (n : Nat), lo = some o ∧ o.cls = .type "tuple" ∧ o.data = .seq its n ∧ its.size ≤ 1000 ∧ intsV its.toList ns = true := by
    clear e
    revert h
    split
    · rename_i t dc its n sl
      intro h
      rw [Bool.and_eq_true, Bool.and_eq_true] at h
      have h1 := of_decide_eq_true h.1
      subst h1
      exact ⟨_, its, n, rfl, rfl, rfl, of_decide_eq_true h.2.1, h.2.2⟩
    · intro h; cases h
  obtain ⟨o, its, n, e1, e2, e3, e4, e5⟩ := key
  rw [e1] at e
  have sz : its.size ≤ sizeLine := Nat.le_trans e4 (by decide)
  have sq : SqT K Z (He.ga K x) (ns.map V.int) := Or.inr ⟨o, its, n, e, e2, e3, sz, intsV_vals e5⟩
  exact ⟨He.ga K x, ns.map V.int, rfl, sq, RepL.ints ns⟩

/-! ### len(set(t)), t a tuple of ints -/
def ddI : List Int → List Int
  | [] => []
  | a :: t => if a ∈ t then ddI t else a :: ddI t
theorem ddI_mem : ∀ {l : List Int} {k : Int}, k ∈ ddI l ↔ k ∈ l
  | [], _ => Iff.rfl
  | a :: t, k => by
    unfold ddI
    by_cases c : a ∈ t
    · rw [if_pos c, ddI_mem, List.mem_cons]
      exact ⟨.inr, fun h => h.elim (fun e => by rw [e]; exact c) id⟩
    · rw [if_neg c, List.mem_cons, List.mem_cons, ddI_mem]
theorem ddI_nodup : ∀ (l : List Int), (ddI l).Nodup
  | [] => List.nodup_nil
  | a :: t => by
    unfold ddI
    by_cases c : a ∈ t
    · rw [if_pos c]; exact ddI_nodup t
    · rw [if_neg c]; exact List.nodup_cons.mpr ⟨fun h => c (ddI_mem.mp h), ddI_nodup t⟩
theorem ddI_len {l m : List Int} (h : m.Nodup) (e : ∀ k, k ∈ m ↔ k ∈ l) : m.length = (ddI l).length := by
  have h1 := h.length_le_of_subset (l₂ := ddI l) fun x hx => ddI_mem.mpr ((e x).mp hx)
  have h2 := (ddI_nodup l).length_le_of_subset (l₂ := m) fun x hx => (e x).mpr (ddI_mem.mp hx)
  omega
def lenSetD : D → Option RV
  | .tup xs => (intsOf xs).bind fun ns => if ns.length ≤ 1000 then some (.val (.int ((ddI ns).length : Nat))) else none
  | _ => none
def tLenSetT (K : Fr) (ta : TE) : TE := fun σ H Q => ta σ H fun x H1 => ∃ (l : Addr) (ns : List Int), x = .ref l ∧ SqT K H1 l (ns.map V.int) ∧ ns.length ≤ 1000 ∧ Q (.int ((ddI ns).length : Nat)) H1
theorem pe_lenSetT {X : Cx} {a : Expr} {ta : TE} {p p2 q pos : Pos} (hc : X.calm = true) (hg : Gl X "len") (hm : X.mg "len" = none) (hg2 : Gl X "set") (hm2 : X.mg "set" = none) (ha : PE X a ta)
    (na : starEach [a] X.env = (false, eval a X.env) :: starEach [] X.env) : PE X (.Call (.Name "len" p) [.Call (.Name "set" p2) [a] [] q] [] pos) (tLenSetT X.K ta) := by
  refine ⟨fun pins s σ H Q I h => ?_⟩
  refine Call_ (ld_blt I hg hm PySem.boot_len ?_)
  refine PyProof.Rows.callWith_builtin1 (PyProof.Rows.args_cons ?_ rfl) rfl rfl
  refine Call_ (ld_blt I hg2 hm2 PyProof.Rows.boot_set ?_)
  refine PyProof.Rows.callWith_type1 (PyProof.Rows.args_cons (thn (ha.run pins s σ H _ I h) fun v s1 ⟨x, H1, I1, r1, q1⟩ => PyProof.Rows.args_nil ?_) na) na rfl
  obtain ⟨l, ns, rfl, hq, hl, q1⟩ := q1
  cases r1
  obtain ⟨its, r, pl, hz⟩ := I1.tuple hq
  have hlen : its.toArray.size = ns.length := by rw [List.size_toArray, ← r.length, List.length_map]
  refine call_set_tupI ns (I1.ok.hd hc) pl (by simpa using r.ints) (by unfold scanBound; omega) fun h' tk c R hcl hk => ?_
  refine PyProof.Rows.args_nil ?_
  obtain ⟨o, es, ep, t, ho, hex, hd, _, hnd, hmem, hsb, hf, hn, _⟩ := R
  have I2 : Inv X pins σ H1 { s1 with heap := h', toks := tk } := I1.kept fun b o e => hk b o e
  have e : es.size = (ddI ns).length := by
    rw [← ddI_len hnd fun k => by rw [← hmem k, decide_eq_true_eq], List.length_map, Array.length_toList]
  refine call_len_set ho hex hd hf (by rw [hn]; omega) ⟨.int ((ddI ns).length : Nat), H1, I2.tok _, ⟨_, by rw [e]⟩, q1⟩
theorem intsOf_inv : ∀ {xs : List D} {ns : List Int}, intsOf xs = some ns → xs = ns.map D.int
  | [], ns, w => by
    have w : some [] = some ns := w
    cases w; rfl
  | d :: t, ns, w => by
    cases d with
    | int i =>
      have w : (intsOf t).map (fun ns => i :: ns) = some ns := w
      cases w2 : intsOf t with
      | none => rw [w2] at w; cases w
      | some ms =>
        rw [w2] at w
        cases w
        rw [intsOf_inv w2]; rfl
    | _ => cases w
section
variable {X : Cx} {T : An} {W : WX} {a : Expr} {f : Den} {p p2 q pos : Pos}
theorem de_lenSet (hc : X.calm = true) (hg : Gl X "len") (hm : X.mg "len" = none) (hg2 : Gl X "set") (hm2 : X.mg "set" = none) (ha : PE X a (tE X.K T W f)) (na : starEach [a] X.env = (false, eval a X.env) :: starEach [] X.env) :
    PE X (.Call (.Name "len" p) [.Call (.Name "set" p2) [a] [] q] [] pos) (tE X.K T W (eUn lenSetD f)) := (pe_lenSetT hc hg hm hg2 hm2 (pe_fz ha) na).less fun s H Q h =>
  tE_un (R := fun x H1 Q => ∃ (l : Addr) (ns : List Int), x = .ref l ∧ SqT X.K H1 l (ns.map V.int) ∧ ns.length ≤ 1000 ∧ Q (.int ((ddI ns).length : Nat)) H1) (fun s r Z H v d x Q S co e h => by
    cases d with
    | tup xs =>
      have e : (intsOf xs).bind (fun ns => if ns.length ≤ 1000 then some (RV.val (.int ((ddI ns).length : Nat))) else none) = some x := e
      cases w : intsOf xs with
      | none => rw [w] at e; cases e
      | some ns =>
        rw [w] at e
        have e : (if ns.length ≤ 1000 then some (RV.val (.int ((ddI ns).length : Nat))) else none) = some x := e
        by_cases hl : ns.length ≤ 1000
        · rw [if_pos hl] at e
          cases e
          obtain ⟨a, vs, rfl, e1, rr⟩ := co
          have ev : vs = ns.map V.int := by
            have : xs = ns.map D.int := intsOf_inv w
            rw [this] at rr
            exact RepL.of_ints ns rr
          rw [ev] at e1
          exact ⟨a, ns, rfl, same_sqT S.sub e1, hl, ends S h rfl⟩
        · rw [if_neg hl] at e; cases e
    | _ => cases e) h
end
end Ev
namespace Ev
open PySem PySem.Spec PyProof.Rows L2

/-! ### displays of dicts -/
def eDct0 : Den := fun r => .ok (.own (.dct [] [])) r
def eDct1 (i j : Nat) : Den := fun r => match r[i]?, r[j]? with
  | some (.val d), some (.val e) => (match keyD d with | some k => .ok (.own (.dct [k] [e])) r | none => .stuck)
  | _, _ => .stuck
section
variable {X : Cx} {T : An} {W : WX} {a b : Expr} {f g : Den} {l : DenL} {pos apos : Pos} {i j : Nat}
theorem de_dct0 : PE X (.Dict [] [] pos) (tE X.K T W eDct0) := pe_dnewK.less fun s H Q q p hp => by
  obtain ⟨r, Z, S, h⟩ := q
  have h : tG X.K T W (RelE X.K T s) s (.ok (.own (.dct [] [])) r) r Z H Q := h
  exact h.new S hp ⟨(S.free hp).2.1, [], upd_same, rfl, .nil⟩
theorem de_dct1 (ha : PE X a (tVar i)) (hb : PE X b (tVar j)) : PE X (.Dict [some a] [b] pos) (tE X.K T W (eDct1 i j)) := (pe_disp (pps_cons ha hb pps_nil) rfl rfl (by simp) (by show 1 ≤ 15; decide)).less fun s H Q q p hp => by
  obtain ⟨r, Z, S, h⟩ := q
  unfold eDct1 at h
  cases e1 : r[i]? with
  | none => rw [e1] at h; exact h.elim
  | some s1 =>
    cases e2 : r[j]? with
    | none => rw [e1, e2] at h; cases s1 <;> exact h.elim
    | some s2 =>
      rw [e1, e2] at h
      cases s1 with
      | val d =>
        cases s2 with
        | val e =>
          have h : tG X.K T W (RelE X.K T s) s (match keyD d with | some k => .ok (.own (.dct [k] [e])) r | none => .stuck) r Z H Q := h
          cases hk : keyD d with
          | none => rw [hk] at h; exact h.elim
          | some k =>
            rw [hk] at h
            have h : tG X.K T W (RelE X.K T s) s (.ok (.own (.dct [k] [e])) r) r Z H Q := h
            obtain ⟨v, v1, v2⟩ := S.val i d e1
            obtain ⟨w, w1, w2⟩ := S.val j e e2
            have ev : v = kV k := by
              cases d with
              | int n => cases hk; exact v2
              | str x => cases hk; exact v2
              | _ => cases hk
            subst ev
            refine ⟨_, v1, w, w1, upd_same, [(k, w)], rfl, (by show 1 ≤ 15; decide), ?_⟩
            rw [upd_upd]
            exact h.new S hp ⟨(S.free hp).2.1, [(k, w)], upd_same, rfl, .cons w2 .nil⟩
        | _ => exact h.elim
      | _ => exact h.elim
/-! ### list.index, ints -/
def indexD : D → D → Option RV
  | .lst xs, .int i => match intsOf xs with
    | some ns => if i ∈ ns then some (.val (.int (ns.idxOf i : Nat))) else none
    | none => none
  | _, _ => none
def eIndex (f : Den) (l : DenL) : Den := fun r => (fz (f r)).bind fun x r1 => match peek r1 x with
  | some (.lst _) => (l r1).bind fun ys r2 => (match peek r2 x, takes ys with
    | some d, some [e] => ofO (indexD d e) r2
    | _, _ => .stuck)
  | _ => .stuck
theorem de_index (hv : PE X a (tE X.K T W f)) (ha : PA X [b] (tL X.K T W l))
    (hbase : attributeBase a "index" X.env (eval a X.env) = eval a X.env)
    (hfew : ((backTo pos (starEach [b] X.env)).all (fun x => !x.1) && (backToKw pos (keywordEach [] X.env)).all (fun x => x.1.isSome)
      && decide (([b] : List Expr).length + ([] : List Keyword).length + (if ([] : List Keyword).isEmpty then 0 else 1) < 30)) = true)
    (hline : (apos.endLine == pos.line) = true) (hs : starEach [b] X.env = (false, eval b X.env) :: starEach [] X.env) :
    PE X (.Call (.Attribute a "index" apos) [b] [] pos) (tE X.K T W (eIndex f l)) :=
  (pe_bm PySem.F.plainAttrs_list PySem.F.slot_list_index PySem.F.type_list_index mt_index (pe_fz hv) ha hbase hfew hline hs rfl).less fun s H Q q => by
  obtain ⟨r, Z, S, q⟩ := q
  unfold eIndex at q
  refine ⟨r, Z, S, (tG.bind fwdE q).mono fun v H1 h1 => ?_⟩
  obtain ⟨x, r1, Z1, S1, k1, f1, o1, h1⟩ := h1
  cases p0 : peek r1 x with
  | none => rw [p0] at h1; exact h1.elim
  | some d0 =>
    rw [p0] at h1
    cases d0 with
    | lst xs0 =>
      have c0 : Con X.K Z1 H1 v (.lst xs0) := o1.con S1 p0
      obtain ⟨a0, vs0, rfl, e0, rr0⟩ := c0
      refine ⟨.inl ⟨rfl, vs0, SqL.of e0⟩, r1, Z1, S1, (tG.bind fwdE h1).mono fun us H2 h2 => ?_⟩
      obtain ⟨ys, r2, Z2, S2, k2, f2, o2, h2⟩ := h2
      have o1' : RelF X.K T s H r2 Z2 H2 (.ref a0) x := RelF.stay o1 S1 k2 f2
      cases p1 : peek r2 x with
      | none => rw [p1] at h2; exact h2.elim
      | some d =>
        cases p2 : takes ys with
        | none => rw [p1, p2] at h2; exact h2.elim
        | some es =>
          rw [p1, p2] at h2
          have ru := RvsOk.takes o2 p2
          match es, ru, h2 with
          | [], _, h2 => exact h2.elim
          | _ :: _ :: _, _, h2 => exact h2.elim
          | [e], ru, h2 =>
            have h2 : tG X.K T W (RelE X.K T s) s (ofO (indexD d e) r2) r2 Z2 H2 Q := h2
            match ru with
            | ⟨u0, rr0, er, ru1, rt⟩ =>
              have rt : rr0 = [] := rt
              subst rt er
              cases q3 : indexD d e with
              | none => rw [q3] at h2; exact h2.elim
              | some z =>
                rw [q3] at h2
                cases d with
                | lst xs =>
                  cases e with
                  | int i =>
                    have q3 : (match intsOf xs with | some ns => if i ∈ ns then some (RV.val (.int (ns.idxOf i : Nat))) else none | none => none) = some z := q3
                    cases hi : intsOf xs with
                    | none => rw [hi] at q3; cases q3
                    | some ns =>
                      rw [hi] at q3
                      have q3 : (if i ∈ ns then some (RV.val (.int (ns.idxOf i : Nat))) else none) = some z := q3
                      by_cases hm : i ∈ ns
                      · rw [if_pos hm] at q3
                        cases q3
                        have c1 : Con X.K Z2 H2 (.ref a0) (.lst xs) := o1'.con S2 p1
                        obtain ⟨a1, vs1, ea, e1, rr1⟩ := c1
                        cases ea
                        have ev := rep_ints rr1 hi
                        subst ev
                        have ru1 : u0 = V.int i := ru1
                        subst ru1
                        have lt : ns.idxOf i < ns.length := List.idxOf_lt_length_iff.mpr hm
                        refine ⟨a0, ns.map V.int, _, ns.idxOf i, .int i, rfl, rfl, SqL.of e1, ?_, ?_, ?_, ?_, fun m z' hm2 hz => ?_, ends S2 h2 rfl⟩
                        · rfl
                        · rw [List.all_eq_true]
                          intro y hy
                          obtain ⟨n, _, rfl⟩ := List.mem_map.mp hy
                          rfl
                        · rw [List.getElem?_map, List.getElem?_eq_getElem lt, List.getElem_idxOf]; rfl
                        · show (i == i) = true; simp
                        · rw [List.getElem?_map] at hz
                          have lm : m < ns.length := by omega
                          rw [List.getElem?_eq_getElem lm] at hz
                          cases hz
                          show (ns[m] == i) = false
                          have hm2 : m < ns.findIdx (· == i) := hm2
                          have := List.not_of_lt_findIdx hm2
                          simpa using this
                      · rw [if_neg hm] at q3; cases q3
                  | _ => cases q3
                | _ => cases e <;> cases q3
    | _ => exact h1.elim
end
end Ev
namespace Ev
open PySem PySem.Spec PySem.W PyProof.Rows L2
/-! ### sorted of a tuple of ints -/
section
variable {prog : Program} {w : World} {A : Around} {E : Value → Shared → Prop} {s : Shared}
theorem collect_tup {l : Addr} {vs : List Value} {Q : List Value → Shared → Prop} (hl : IsTup s.heap l vs.toArray)
    (h : Q vs { s with heap := (s.heap.push (seqObj "list" #[] 0)).update s.heap.objs.size (Obj.mapSeq (· ++ vs.toArray)) }) (hsz : vs.length ≤ sizeLine) :
    wpAny (model prog w) A (collect (.ref l)) Q E s := by
  obtain ⟨o, ho, hc, n, hd⟩ := id hl
  have ho' : (s.heap.push (seqObj "list" #[] 0)).get? l = some o := Heap.get?_push_of_some _ ho
  have hn : (s.heap.push (seqObj "list" #[] 0)).get? s.heap.objs.size = some (seqObj "list" #[] 0) := Heap.get?_push_size _ rfl
  unfold collect
  refine wpAny_bind (wpAny_runValue (codeAny_builtin entry_proto_collect' ?_))
  show wpAny _ _ (do again (.builtin "list.__iadd__" ⟨[← newList [], .ref l], []⟩)) _ _ s
  refine wpAny_bind (wpAny_newList (wpAny_pure ⟨Code.quiet_builtin _ (by decide +kernel), codeAny_builtin entry_list_iadd' ?_⟩))
  show wpAny _ _ (Builtin.List.listExtendWith (.ref s.heap.objs.size) (.ref l) (.ref s.heap.objs.size)) _ _ { s with heap := s.heap.push (seqObj "list" #[] 0) }
  unfold Builtin.List.listExtendWith
  refine wpAny_bind (wpAny_typeOf (T := "tuple") ⟨o, ho', hc⟩ ?_)
  have ht : (Value.type "tuple" == Value.type "tuple") = true := by rfl
  rw [if_pos (by rw [ht]; simp)]
  refine wpAny_bind (listItems_at ho' hd ?_)
  refine wpAny_bind (listItems_at (xs := #[]) (n := 0) hn rfl ?_)
  rw [if_neg (by simp)]
  refine wpAny_bind (listUpdate_at (xs := #[]) (n := 0) hn rfl ?_ (Nat.zero_le _) (by show (#[] ++ vs.toArray).size ≤ sizeLine + 1; simp only [Array.size_append, List.size_toArray, List.length_nil]; omega))
  refine wpAny_pure ?_
  show wpAny (model prog w) A (do
      let o ← load s.heap.objs.size
      match o.data with
      | .seq xs _ => pure xs.toList
      | _ => unsupported "internal:collect") Q E { s with heap := (s.heap.push (seqObj "list" #[] 0)).update s.heap.objs.size (Obj.mapSeq (· ++ vs.toArray)) }
  refine wpAny_bind (wpAny_load (get?_update_seq hn _) ?_)
  show wpAny _ _ (pure ((#[] : Array Value) ++ vs.toArray).toList) Q E _
  rw [show ((#[] : Array Value) ++ vs.toArray).toList = vs by simp]
  exact wpAny_pure h
theorem sorted_tup {l : Addr} {vs : List Value} {ltv : Value → Value → Bool} {Q : Value → Shared → Prop} (O : SrtO.Swo ltv) (hl : IsTup s.heap l vs.toArray) (hz : vs.length ≤ sizeLine)
    (hS : 2 ≤ vs.length → ∀ (h₁ : Heap) (a : Addr), SrtO.SortableO prog w A.in1.in1 { s with heap := h₁ } a vs ltv)
    (h : ∀ out : List Value, SrtO.Srtd ltv out → SrtO.Stb ltv out vs → Q (.ref (s.heap.objs.size + 1)) { s with heap := sortedAll s.heap vs out.toArray }) :
    wpAny (model prog w) A (call (.builtin "sorted") [.ref l]) Q E s := by
  refine Calls.call_function_entry kind_sorted plain_sorted entry_sorted (args_sorted1 _) ?_
  unfold Builtin.«sorted»
  refine wpAny_bind (m := checkCount "sorted" 1 1 _) (wpAny_pure ?_)
  refine wpAny_bind (collect_tup hl ?_ hz)
  refine wpAny_bind (wpAny_newList ?_ hz)
  have hsz : ((s.heap.push (seqObj "list" #[] 0)).update s.heap.objs.size (Obj.mapSeq (· ++ vs.toArray))).objs.size = s.heap.objs.size + 1 := by
    rw [Heap.size_update, size_push']
  have hoL : (((s.heap.push (seqObj "list" #[] 0)).update s.heap.objs.size (Obj.mapSeq (· ++ vs.toArray))).push (seqObj "list" vs.toArray 0)).get? (s.heap.objs.size + 1) = some (seqObj "list" vs.toArray 0) := by
    rw [← hsz]; exact Heap.get?_push_size _ rfl
  show wpAny _ _ _ _ _ { s with heap := ((s.heap.push (seqObj "list" #[] 0)).update s.heap.objs.size (Obj.mapSeq (· ++ vs.toArray))).push (seqObj "list" vs.toArray 0) }
  rw [hsz]
  refine wpAny_bind (wpAny_holding (wpAny_call_entry slot_list_sort ⟨_, hoL, rfl⟩ entry_list_sort (SrtO.list_sort_ord O hoL hz (fun h2 => hS h2 _ _) fun out hs hb => ⟨_, rfl, ?_⟩) (args_list_sort _)))
  exact wpAny_pure ⟨_, rfl, h out hs hb⟩
end
/-- sorted(xs), a tuple of ints -/
def rSortedT (K : PySem.W.Frag) : List V → Hp → VK → Prop := fun vs H Q => ∃ (a : Addr) (ns : List Int), vs = [V.ref a] ∧ SqT K H a (ns.map V.int) ∧
  ∀ (ns' : List Int) (p : Addr), ns'.Perm ns → ns'.Pairwise (· ≤ ·) → H p = none → Q (.ref p) (upd H p (.lst (ns'.map V.int)))
theorem cr_sortedT {X : Cx} : CallR X (.builtin "sorted") (rSortedT X.K) := by
  intro pins s σ H vs us Q I r h
  obtain ⟨a, ns, rfl, hs, q⟩ := h
  obtain ⟨its, rv, hl, hz⟩ := I.tuple hs
  rw [Vals.ref1 r]
  have hi := rv.ints
  refine sorted_tup SrtO.swo_int hl (by rw [← rv.length]; exact hz) (fun h2 h₁ a' => SrtO.ints_sortable hi h2) fun out h1 h2 => ?_
  obtain ⟨k1, k2, k3⟩ := SrtO.ints_out hi h1 h2
  obtain ⟨ep, he'⟩ := PyProof.Rows.sortedAll_at s.heap its out.toArray
  have hlen : ((out.map SrtO.iv).map V.int).length ≤ sizeLine := by
    rw [List.length_map, k2.length_eq]
    rw [List.length_map] at hz
    exact hz
  exact ⟨.ref _, upd H (s.heap.objs.size + 1) (.lst ((out.map SrtO.iv).map V.int)), I.laid (t' := s.toks) (fun _ _ => PyProof.Rows.sortedAll_old) (Nat.le_succ _) ⟨hlen, out, ep, vals_of_ints k1, he'⟩, rfl, q _ _ k2 k3 (I.hok.fresh (Nat.le_succ _))⟩
/-- sorted: a list of data, or a tuple of ints -/
def sortedE : List D → Option RV
  | [.tup xs] => (intsOf xs).map fun ns => .own (.lst ((ns.mergeSort fun i j => decide (i ≤ j)).map D.int))
  | ds => sortedD ds
theorem repL_ints {K : Fr} {Z : Hp} : ∀ ns : List Int, RepL K Z (ns.map D.int) (ns.map V.int)
  | [] => rfl
  | n :: ns => ⟨.int n, ns.map V.int, rfl, rfl, repL_ints ns⟩
theorem sort_only {ns ns' : List Int} (h1 : ns'.Perm ns) (h2 : ns'.Pairwise (· ≤ ·)) : ns' = ns.mergeSort fun i j => decide (i ≤ j) := by
  have h3 := List.pairwise_mergeSort (le := fun i j : Int => decide (i ≤ j)) (fun a b c h1 h2 => by simp only [decide_eq_true_eq] at *; omega) (fun a b => by simp only [Bool.or_eq_true, decide_eq_true_eq]; omega) ns
  have h3 : (ns.mergeSort fun i j => decide (i ≤ j)).Pairwise (· ≤ ·) := h3.imp fun h => by simpa using h
  exact (h1.trans (List.mergeSort_perm _ _).symm).eq_of_pairwise (le := (· ≤ ·)) (fun a b _ _ h1 h2 => Int.le_antisymm h1 h2) h2 h3
abbrev rSortedE (X : Cx) : List V → Hp → VK → Prop := fun xs H Q => rSortedD X.K xs H Q ∨ rSortedT X.K xs H Q
theorem cr_sortedE {X : Cx} (hu : X.A.units + 66 < cLine) : CallR X (.builtin "sorted") (rSortedE X) := cr_or (cr_sortedD hu) cr_sortedT
section
variable {X : Cx} {T : An} {W : WX}
theorem fn_sortedE : FnOkD X.K T W sortedE (rSortedE X) := fun s r Z H vs ds x Q S c q h => by
  match ds, c, q with
  | [.tup xs], c, q =>
    right
    obtain ⟨v, rfl, c1⟩ := c.one
    have q : (intsOf xs).map (fun ns => RV.own (.lst ((ns.mergeSort fun i j => decide (i ≤ j)).map D.int))) = some x := q
    cases w : intsOf xs with
    | none => rw [w] at q; cases q
    | some ns =>
      rw [w] at q
      cases q
      obtain ⟨a, us, rfl, e, rr⟩ := c1
      have ev := rep_ints rr w
      subst ev
      refine ⟨a, ns, rfl, same_sqT S.sub e, fun ns' p h1 h2 hp => ?_⟩
      have es := sort_only h1 h2
      subst es
      exact h.new S hp ⟨(S.free hp).2.1, _, upd_same, repL_ints _⟩
  | [.lst xs], c, q => exact .inl (fn_sorted s r Z H vs _ x Q S c q h)
  | [], c, q => cases q
  | a :: b :: t, c, q => cases a <;> cases q
  | [.non], c, q => cases q
  | [.bl _], c, q => cases q
  | [.int _], c, q => cases q
  | [.str _], c, q => cases q
  | [.dct _ _], c, q => cases q
  | [.obj _ _ _], c, q => cases q
  | [.fn _], c, q => cases q
  | [.scr _], c, q => cases q
  | [.ty _], c, q => cases q
end
end Ev
namespace Ev
open PySem PySem.Spec PyProof.Rows L2

/-! ### walks of dicts, under a lock -/
def keyV : Key → D
  | .inl i => .int i
  | .inr x => .str x
theorem keyV_rep {K : Fr} {Z : Hp} (k : Key) : Rep K Z (keyV k) (kV k) := by cases k <;> rfl
theorem keys_rep {K : Fr} {Z : Hp} : ∀ kvs : List (Key × V), RepL K Z ((kvs.map Prod.fst).map keyV) (kvs.map fun p => kV p.1)
  | [] => rfl
  | (k, _) :: t => ⟨_, _, rfl, keyV_rep k, keys_rep t⟩
section
variable {K : Fr} {T : An} {r : Env} {Z Z1 : Hp} {s : L2.St} {H H1 : Hp}
theorem src_keys {d : Addr} {od : Obj} {kvs : List (Key × V)} (h : Z d = some (.frz od (.dK kvs))) : SrcOk K T (Itk d od kvs) ((kvs.map Prod.fst).map keyV) Z where
  goes := fun i r Z' s H hi S k => ⟨S.sub d _ (k d _ h), by rw [List.length_map, List.length_map] at hi; exact hi⟩
  stops := fun r Z' s H S k => ⟨S.sub d _ (k d _ h), by rw [List.length_map, List.length_map]; exact Nat.le_refl _⟩
  yields := fun i r Z' s H x v H' hd S k y => by
    obtain ⟨rfl, k1, v1, e1, rfl⟩ := y
    rw [List.getElem?_map, List.getElem?_map, e1] at hd
    cases hd
    exact ⟨Z', S, Frm.refl, keyV_rep k1⟩
/-- more stands there -/
theorem Sim.grow (S : Sim K T r Z s H) (k : Same H H1) : Sim K T r Z s H1 := by
  refine ⟨S.len, Same.tr S.sub k, S.val, fun i d e => ?_, fun i d e => ?_, S.inj, fun a o e m => k a o (S.keep a o e m), S.zed, S.base, fun a m => ?_, S.inA, S.err⟩
  · obtain ⟨a, e1, q, z⟩ := S.own i d e
    exact ⟨a, e1, q.mono (Same.refl _) q.z fun u w => k a u w, z⟩
  · obtain ⟨a, e1, q, z⟩ := S.ino i d e
    exact ⟨a, e1, q.mono (Same.refl _) q.z fun u w => k a u w, z⟩
  · cases q : H a with
    | none => exact (S.live a m q).elim
    | some o => rw [k a o q]; simp
/-- all slots as fixed data -/
def allV : Env → Env := List.map fun sl => match sl with
  | .own d => .val d
  | .ino d => .val d
  | .err => .un
  | x => x
theorem allV_at {i : Nat} {sl : Slot} (h : (allV r)[i]? = some sl) : sl = .un ∨ ∃ d, sl = .val d ∧ (r[i]? = some (.val d) ∨ r[i]? = some (.own d) ∨ r[i]? = some (.ino d)) := by
  unfold allV at h
  rw [List.getElem?_map] at h
  cases e : r[i]? with
  | none => rw [e] at h; cases h
  | some x =>
    rw [e] at h
    cases x with
    | un => cases h; exact .inl rfl
    | err => cases h; exact .inl rfl
    | val d => cases h; exact .inr ⟨d, rfl, .inl rfl⟩
    | own d => cases h; exact .inr ⟨d, rfl, .inr (.inl rfl)⟩
    | ino d => cases h; exact .inr ⟨d, rfl, .inr (.inr rfl)⟩
/-- within the lock: all that stands is fixed -/
def inT (H : Hp) : An := ⟨H, H, [], fun _ => 0, 0, 0, ⟨⟨#[]⟩, [], []⟩⟩
theorem root_rep {a : Addr} {d : D} (e : Same Z H) (q : Root K Z H a d) : Rep K H d (.ref a) := by
  cases d with
  | lst xs => obtain ⟨_, vs, h1, h2⟩ := q; exact ⟨a, vs, rfl, h1, h2.mono e⟩
  | dct ks ds => obtain ⟨_, kvs, h1, h2, h3⟩ := q; exact ⟨a, kvs, rfl, .inl h1, h2, h3.mono e⟩
  | obj c ns ds => obtain ⟨_, dx, hf, h1, h2, h3⟩ := q; exact ⟨a, dx, hf, rfl, h1, h2, h3.mono e⟩
  | _ => exact q.elim
end
section
variable {K : Fr} {a : Addr} {od : Obj} {kvs : List (Key × V)}
theorem rd_lock {Z : Hp} {b : Addr} {l : List (Key × V)} (h : Rd Z b (.dK l)) (e : Z a = some (.dK kvs)) : Rd (upd Z a (.frz od (.dK kvs))) b (.dK l) := by
  by_cases c : b = a
  · subst c
    rcases h with h | ⟨o, h⟩
    · rw [e] at h; cases h
      exact .inr ⟨od, upd_same⟩
    · rw [e] at h; cases h
  · rcases h with h | ⟨o, h⟩
    · exact .inl (by rw [upd_ne c]; exact h)
    · exact .inr ⟨o, by rw [upd_ne c]; exact h⟩
theorem rd_unlock {Z : Hp} {b : Addr} {l : List (Key × V)} (h : Rd Z b (.dK l)) (e : Z a = some (.frz od (.dK kvs))) : Rd (upd Z a (.dK kvs)) b (.dK l) := by
  by_cases c : b = a
  · subst c
    rcases h with h | ⟨o, h⟩
    · rw [e] at h; cases h
    · rw [e] at h; cases h
      exact .inl upd_same
  · rcases h with h | ⟨o, h⟩
    · exact .inl (by rw [upd_ne c]; exact h)
    · exact .inr ⟨o, by rw [upd_ne c]; exact h⟩
/-- a place that holds a dict, exchanged -/
structure Swp (Z Z1 : Hp) : Prop where
  rd : ∀ b l, Rd Z b (.dK l) → Rd Z1 b (.dK l)
  lst : ∀ b vs, Z b = some (.lst vs) → Z1 b = some (.lst vs)
  ins : ∀ b c dx hf, Z b = some (.ins c dx hf) → Z1 b = some (.ins c dx hf)
  sqt : ∀ b vs, SqT K Z b vs → SqT K Z1 b vs
  sql : ∀ b vs, SqL K Z b vs → SqL K Z1 b vs
  xd : ∀ b hf, Z b = some (.xd hf) → Z1 b = some (.xd hf)
mutual
theorem Swp.rep {Z Z1 : Hp} (w : Swp (K := K) Z Z1) : ∀ (d : D) {v : V}, Rep K Z d v → Rep K Z1 d v
  | .non, _, h => h
  | .bl _, _, h => h
  | .int _, _, h => h
  | .str _, _, h => h
  | .tup xs, v, h => by
    obtain ⟨a, vs, rfl, s, r⟩ := h
    exact ⟨a, vs, rfl, w.sqt _ _ s, Swp.repL w xs r⟩
  | .lst xs, v, h => by
    obtain ⟨a, vs, rfl, s, r⟩ := h
    exact ⟨a, vs, rfl, w.lst _ _ s, Swp.repL w xs r⟩
  | .dct ks ds, v, h => by
    obtain ⟨a, kvs, rfl, s, q, r⟩ := h
    exact ⟨a, kvs, rfl, w.rd _ _ s, q, Swp.repL w ds r⟩
  | .obj c ns ds, v, h => by
    obtain ⟨a, dx, hf, rfl, s, q, r⟩ := h
    exact ⟨a, dx, hf, rfl, w.ins _ _ _ _ s, q, Swp.repL w ds r⟩
  | .fn _, _, h => h
  | .scr ns, v, h => by
    obtain ⟨a, rfl, s⟩ := h
    exact ⟨a, rfl, w.sql _ _ s⟩
  | .ty _, _, h => h
theorem Swp.repL {Z Z1 : Hp} (w : Swp (K := K) Z Z1) : ∀ (ds : List D) {vs : List V}, RepL K Z ds vs → RepL K Z1 ds vs
  | [], _, h => h
  | d :: ds, vs, h => by
    obtain ⟨v, r, rfl, h1, h2⟩ := h
    exact ⟨v, r, rfl, Swp.rep w d h1, Swp.repL w ds h2⟩
end
theorem swp_un {Z : Hp} (e : Z a = some (.frz od (.dK kvs))) : Swp (K := K) Z (upd Z a (.dK kvs)) where
  rd := fun b l h => rd_unlock h e
  lst := fun b vs h => by
    rw [upd_ne (fun c : b = a => by rw [c, e] at h; cases h)]; exact h
  ins := fun b c dx hf h => by
    rw [upd_ne (fun c : b = a => by rw [c, e] at h; cases h)]; exact h
  sqt := fun b vs h => by
    rcases h with (h | ⟨o, h⟩) | h
    · exact .inl (.inl (by rw [upd_ne (fun c : b = a => by rw [c, e] at h; cases h)]; exact h))
    · exact .inl (.inr ⟨o, by rw [upd_ne (fun c : b = a => by rw [c, e] at h; cases h)]; exact h⟩)
    · exact .inr h
  sql := fun b vs h => by
    rcases h with (h | ⟨o, h⟩) | h
    · exact .inl (.inl (by rw [upd_ne (fun c : b = a => by rw [c, e] at h; cases h)]; exact h))
    · exact .inl (.inr ⟨o, by rw [upd_ne (fun c : b = a => by rw [c, e] at h; cases h)]; exact h⟩)
    · exact .inr h
  xd := fun b hf h => by
    rw [upd_ne (fun c : b = a => by rw [c, e] at h; cases h)]; exact h
end
section
variable {K : Fr} {T : An} {W : WX} {r : Env} {Z Z1 : Hp} {s : L2.St} {H H1 : Hp} {od : Obj} {kvs : List (Key × V)} {d : Addr}
theorem Sim.locked (S : Sim K T r Z s H) (e : H d = some (.dK kvs)) (z : Z d = none) : Sim K (inT (upd H d (.frz od (.dK kvs)))) (allV r) (upd H d (.frz od (.dK kvs))) s (upd H d (.frz od (.dK kvs))) := by
  have kz : Same Z (upd H d (.frz od (.dK kvs))) := fun a o q => by
    rw [upd_ne (ne_of_none q z)]; exact S.sub a o q
  have rr : ∀ {a x}, Root K Z H a x → Rep K (upd H d (.frz od (.dK kvs))) x (.ref a) := fun {a x} q => by
    cases x with
    | lst xs => obtain ⟨_, vs, h1, h2⟩ := q; exact ⟨a, vs, rfl, by rw [upd_ne (fun c : a = d => by rw [c, e] at h1; cases h1)]; exact h1, h2.mono kz⟩
    | dct ks ds => obtain ⟨_, l, h1, h2, h3⟩ := q; exact ⟨a, l, rfl, rd_lock (.inl h1) e, h2, h3.mono kz⟩
    | obj c ns ds => obtain ⟨_, dx, hf, h1, h2, h3⟩ := q; exact ⟨a, dx, hf, rfl, by rw [upd_ne (fun c : a = d => by rw [c, e] at h1; cases h1)]; exact h1, h2, h3.mono kz⟩
    | _ => exact q.elim
  have no : ∀ {i a}, ¬ OwnAt (allV r) s i a := fun {i a} w => by
    obtain ⟨x, hx, _⟩ := w
    rcases hx with hx | hx
    · rcases allV_at hx with q | ⟨_, q, _⟩ <;> cases q
    · rcases allV_at hx with q | ⟨_, q, _⟩ <;> cases q
  refine ⟨by unfold allV; rw [List.length_map]; exact S.len, Same.refl _, fun i x q => ?_, fun i x q => ?_, fun i x q => ?_, fun i j a w _ => (no w).elim, fun a o q _ => q, fun a _ => rfl, Same.refl _, fun a m => (nomatch m), fun a m => (nomatch m), fun i q => ?_⟩
  · rcases allV_at q with q | ⟨y, q, h⟩
    · cases q
    · cases q
      rcases h with h | h | h
      · obtain ⟨v, e1, rv⟩ := S.val i x h
        exact ⟨v, e1, rv.mono kz⟩
      · obtain ⟨a, e1, q, _⟩ := S.own i x h
        exact ⟨_, e1, rr q⟩
      · obtain ⟨a, e1, q, _⟩ := S.ino i x h
        exact ⟨_, e1, rr q⟩
  · rcases allV_at q with q | ⟨_, q, _⟩ <;> cases q
  · rcases allV_at q with q | ⟨_, q, _⟩ <;> cases q
  · rcases allV_at q with q | ⟨_, q, _⟩ <;> cases q
theorem flat_rep {x : D} {v : V} (h : flatD x = true) (q : Rep K Z x v) : Rep K Z1 x v := by
  cases x <;> first | exact q | cases h
theorem flat_repL : ∀ {xs : List D} {vs : List V}, xs.all flatD = true → RepL K Z xs vs → RepL K Z1 xs vs
  | [], _, _, q => q
  | x :: xs, vs, h, q => by
    rw [List.all_cons, Bool.and_eq_true] at h
    obtain ⟨v, t, rfl, q1, q2⟩ := q
    exact ⟨v, t, rfl, flat_rep h.1 q1, flat_repL h.2 q2⟩
/-- [.. for k in d ..]: d is read only, what comes is flat -/
def eCompK (i : Nat) (vs : List Nat) (g : DenG) (st : Stp) : Den := fun r => match contD r i with
  | some (.dct ks _) => (match cLoop vs g st (ks.map keyV) [] (allV r) with
    | .ok acc _ => if acc.all flatD = true then .ok (.own (.lst acc)) r else .stuck
    | _ => .stuck)
  | _ => .stuck
theorem compK_core {i : Nat} {vs fp : List Nat} {g : DenG} {tt : DenB} {te : Den} {Q : VK} (hs : ∀ i ∈ fp, i ∈ vs) (hg : GFoot fp g) (h : tE K T W (eCompK i vs g (cTest tt (cElt te))) s H Q) :
    ∃ d u, H d = some u ∧ Mut (some u) ∧ ∀ od, tLc (iKeys (tVar i)) (fun x s H Q => ∃ T, tGt K T fp g x s H Q) (fun s H Q => ∃ T, tT K T WF tt s H Q) (fun s H Q => ∃ T, tO K T WF te s H Q) vs s (upd H d (.frz od u)) fun v H' => H' d = some (.frz od u) ∧ Q v (upd H' d u) := by
  obtain ⟨r, Z, S, h⟩ := h
  unfold eCompK at h
  cases ec : contD r i with
  | none => rw [ec] at h; exact h.elim
  | some c =>
    cases c with
    | dct ks ds =>
      rw [ec] at h
      obtain ⟨a, w, ea⟩ := cont_at S ec
      obtain ⟨z0, kvs, eu, ek, rr⟩ := cont_root S w ec
      subst ek
      refine ⟨a, .dK kvs, eu, trivial, fun od => ?_⟩
      have S1 : Sim K (inT (upd H a (.frz od (.dK kvs)))) (allV r) (upd H a (.frz od (.dK kvs))) s (upd H a (.frz od (.dK kvs))) := S.locked eu z0
      refine ⟨_, ea, a, od, rfl, .inl ⟨kvs, upd_same, fun D0 hD => ?_⟩⟩
      have A := acc_start S1 hD
      have h : tG K T W (RelE K T s) s (match cLoop vs g (cTest tt (cElt te)) ((kvs.map Prod.fst).map keyV) [] (allV r) with
        | .ok acc _ => if acc.all flatD = true then .ok (.own (.lst acc)) r else .stuck
        | _ => .stuck) r Z H Q := h
      have Da : D0 ≠ a := fun c => by rw [c, upd_same] at hD; cases hD
      have hD0 : H D0 = none := by rw [upd_ne Da] at hD; exact hD
      have h1 : tSt K (inT (upd H a (.frz od (.dK kvs)))) D0 s (cLoop vs g (cTest tt (cElt te)) ((kvs.map Prod.fst).map keyV) [] (allV r)) (allV r) (upd H a (.frz od (.dK kvs))) (upd (upd H a (.frz od (.dK kvs))) D0 (.lst [])) fun H' => H' a = some (.frz od (.dK kvs)) ∧ Q (.ref D0) (upd H' a (.dK kvs)) := by
        cases e : cLoop vs g (cTest tt (cElt te)) ((kvs.map Prod.fst).map keyV) [] (allV r) with
        | exc _ _ => rw [e] at h; exact h.elim
        | stuck => rw [e] at h; exact h.elim
        | ok acc r2 =>
          rw [e] at h
          have h : tG K T W (RelE K T s) s (if acc.all flatD = true then .ok (.own (.lst acc)) r else .stuck) r Z H Q := h
          by_cases hf : acc.all flatD = true
          · rw [if_pos hf] at h
            intro H2 Z2 A2 l2
            have kp : ∀ b o, (upd H a (.frz od (.dK kvs))) b = some o → H2 b = some o := fun b o q => A2.sim.keep b o q (fun m => nomatch m)
            have ha : H2 a = some (.frz od (.dK kvs)) := kp a _ upd_same
            have gr : Same H (upd H2 a (.dK kvs)) := fun b o q => by
              by_cases c : b = a
              · subst c; rw [eu] at q; cases q; exact upd_same
              · rw [upd_ne c]; exact kp b o (by rw [upd_ne c]; exact q)
            refine ⟨ha, ?_⟩
            obtain ⟨us, eu2, r2⟩ := A2.lst
            obtain ⟨f1, f2, f3⟩ := S.free hD0
            refine h (.ref D0) _ Z (S.grow gr) (Kin.refl _) ⟨fun b o q _ => gr b o q, fun _ _ => rfl, fun b q => ?_⟩ ⟨D0, rfl, ⟨f2, us, by rw [upd_ne Da]; exact eu2, flat_repL hf r2⟩, f1, fun j w => ?_, hD0⟩
            · cases p : H b with
              | none => exact (q p).elim
              | some o => rw [gr b o p]; simp
            · obtain ⟨x, _, q⟩ := S.at w
              obtain ⟨o, p⟩ := q.there
              rw [hD0] at p; cases p
          · rw [if_neg hf] at h; exact h.elim
      have L := st_loop (bd := fun σ2 H2 Nx => ∃ T, tT K T WF tt σ2 H2 fun b H3 => if b = true then ∃ T, tO K T WF te σ2 H3 fun y H4 => ∃ acc, H4 D0 = some (.lst acc) ∧ acc.length < sizeLine ∧ Nx (upd H4 D0 (.lst (acc ++ [y]))) else Nx H3)
        (src_keys (K := K) (T := inT (upd H a (.frz od (.dK kvs)))) (Z := upd H a (.frz od (.dK kvs))) (d := a) (od := od) (kvs := kvs) upd_same) (Same.refl _) hs hg
        (fun s2 r2 Z2 H2 acc2 N2 A2 q => by
          obtain ⟨r0, Z0, S0, q0⟩ := st_test A2 q
          refine ⟨_, r0, Z0, S0, q0.mono fun b H3 h3 => ?_⟩
          obtain ⟨r3, Z3, A3, l3, h3⟩ := h3
          cases b with
          | true => exact ⟨_, st_elt A3 h3⟩
          | false => exact h3) A h1
      obtain ⟨W0, w0, wt⟩ := L
      refine ⟨W0, w0, fun j m H4 w4 => ?_⟩
      rcases wt j m H4 w4 with q | ⟨go, Nx, n1, n2⟩
      · exact .inl q
      · exact .inr ⟨go, Nx, n1, fun x H' y => ⟨_, n2 x H' y⟩⟩
    | _ => rw [ec] at h; exact h.elim
end
/-! rules whose entry is told later -/
theorem pt_ex {X : Cx} {α : Type} {e : List Expr} {t : α → TT} (h : ∀ a, PTs X e (t a)) : PTs X e (fun s H Q => ∃ a, t a s H Q) := ⟨fun pins s σ H Q I q => let ⟨a, q⟩ := q; (h a).run pins s σ H Q I q⟩
theorem pe_ex {X : Cx} {α : Type} {e : Expr} {t : α → TE} (h : ∀ a, PE X e (t a)) : PE X e (fun s H Q => ∃ a, t a s H Q) := ⟨fun pins s σ H Q I q => let ⟨a, q⟩ := q; (h a).run pins s σ H Q I q⟩
theorem pg_ex {X : Cx} {α : Type} {e : Expr} {t : α → TG} (h : ∀ a, PG X e (t a)) : PG X e (fun x s H Q => ∃ a, t a x s H Q) := ⟨fun pins s σ H v u Q I rv q => let ⟨a, q⟩ := q; (h a).run pins s σ H v u Q I rv q⟩
section
variable {X : Cx} {T : An} {W : WX} {elt tg : Expr} {ifs : List Expr} {scope : Scope} {own : List (Str × Nat)} {pos p1 : Pos} {g : DenG} {tt : DenB} {te : Den} {fp : List Nat} {i0 : Nat} {z : Str}
theorem de_compK (hc : X.calm = true) (hN : X.N.Nodup) (ok : BlkOk X.N X.env.scope scope own) (hs : ∀ i ∈ fp, i ∈ own.map (·.2)) (hf : GFoot fp g) (hi : PE X (.Name z p1) (tVar i0))
    (hg : ∀ T, InBlk X scope fun Y => PG Y tg (tGt X.K T fp g)) (ht : ∀ T, InBlk X scope fun Y => PTs Y ifs (tT X.K T WF tt)) (he : ∀ T, InBlk X scope fun Y => PE Y elt (tE X.K T WF te)) (hz : ∀ x, foldedSetIterable (.Name z p1) X.env x = pure x) :
    PE X (.ListComp elt [⟨tg, .Name z p1, ifs, 0⟩] scope pos) (tE X.K T W (eCompK i0 (own.map (·.2)) g (cTest tt (cElt te)))) :=
  (pe_lock (pe_lc hc hN (pi_keys hi) ok (fun s H C cl fp => pg_ex fun T => hg T s H C cl fp) (fun s H C cl fp => pt_ex fun T => ht T s H C cl fp) (fun s H C cl fp => pe_ex fun T => pe_fz (he T s H C cl fp)) hz)).less fun s H Q h => compK_core hs hf h
theorem ds_setCompK {i : Nat} {y : Str} {py spos : Pos} (hc : X.calm = true) (hN : X.N.Nodup) (hy : X.N[i]? = some y) (hyl : X.env.scope.names.lookup y = some .local)
    (hsw : swapsWith (.ListComp elt [⟨tg, .Name z p1, ifs, 0⟩] scope pos) (some (.Name y py)) spos.line X.env = pure true) (ok : BlkOk X.N X.env.scope scope own) (hs : ∀ i ∈ fp, i ∈ own.map (·.2)) (hf : GFoot fp g) (hi : PE X (.Name z p1) (tVar i0))
    (hg : ∀ T, InBlk X scope fun Y => PG Y tg (tGt X.K T fp g)) (ht : ∀ T, InBlk X scope fun Y => PTs Y ifs (tT X.K T WF tt)) (he : ∀ T, InBlk X scope fun Y => PE Y elt (tE X.K T WF te)) (hz : ∀ x, foldedSetIterable (.Name z p1) X.env x = pure x) :
    PS X (.Assign [.Name y py] (.ListComp elt [⟨tg, .Name z p1, ifs, 0⟩] scope pos) spos) (tS X.K T W (sSet i (eCompK i0 (own.map (·.2)) g (cTest tt (cElt te))))) :=
  (ps_lock (ps_setLc hc hN hy hyl hsw (pi_keys hi) ok (fun s H C cl fp => pg_ex fun T => hg T s H C cl fp) (fun s H C cl fp => pt_ex fun T => ht T s H C cl fp) (fun s H C cl fp => pe_ex fun T => pe_fz (he T s H C cl fp)) hz)).less fun En s H h => compK_core hs hf (tS_set h)
end
/-! ### for k in d: d is fixed from here on -/
section
variable {K : Fr} {T : An} {W : WX} {r : Env} {Z Z1 : Hp} {s : L2.St} {H H1 : Hp} {od : Obj} {kvs : List (Key × V)} {a : Addr}
theorem swp_lk (e : Z a = some (.dK kvs)) : Swp (K := K) Z (upd Z a (.frz od (.dK kvs))) where
  rd := fun b l h => rd_lock h e
  lst := fun b vs h => by
    rw [upd_ne (fun c : b = a => by rw [c, e] at h; cases h)]; exact h
  ins := fun b c dx hf h => by
    rw [upd_ne (fun c : b = a => by rw [c, e] at h; cases h)]; exact h
  sqt := fun b vs h => by
    rcases h with (h | ⟨o, h⟩) | h
    · exact .inl (.inl (by rw [upd_ne (fun c : b = a => by rw [c, e] at h; cases h)]; exact h))
    · exact .inl (.inr ⟨o, by rw [upd_ne (fun c : b = a => by rw [c, e] at h; cases h)]; exact h⟩)
    · exact .inr h
  sql := fun b vs h => by
    rcases h with (h | ⟨o, h⟩) | h
    · exact .inl (.inl (by rw [upd_ne (fun c : b = a => by rw [c, e] at h; cases h)]; exact h))
    · exact .inl (.inr ⟨o, by rw [upd_ne (fun c : b = a => by rw [c, e] at h; cases h)]; exact h⟩)
    · exact .inr h
  xd := fun b hf h => by
    rw [upd_ne (fun c : b = a => by rw [c, e] at h; cases h)]; exact h
theorem Swp.root {o : HO} {b : Addr} {d : D} (w : Swp (K := K) Z (upd Z a o)) (ez : Z a ≠ none) (q : Root K Z H b d) : Root K (upd Z a o) (upd H a o) b d := by
  have ne : b ≠ a := fun c => ez (by rw [← c]; exact q.z)
  cases d with
  | lst xs => obtain ⟨z, vs, h1, h2⟩ := q; exact ⟨by rw [upd_ne ne]; exact z, vs, by rw [upd_ne ne]; exact h1, w.repL _ h2⟩
  | dct ks ds => obtain ⟨z, l, h1, h2, h3⟩ := q; exact ⟨by rw [upd_ne ne]; exact z, l, by rw [upd_ne ne]; exact h1, h2, w.repL _ h3⟩
  | obj c ns ds => obtain ⟨z, dx, hf, h1, h2, h3⟩ := q; exact ⟨by rw [upd_ne ne]; exact z, dx, hf, by rw [upd_ne ne]; exact h1, h2, w.repL _ h3⟩
  | _ => exact q.elim
theorem Sim.swap {o : HO} (S : Sim K T r Z s H) (w : Swp (K := K) Z (upd Z a o)) (ez : Z a ≠ none) (h0 : T.H0 a = none) : Sim K T r (upd Z a o) s (upd H a o) := by
  refine ⟨S.len, fun b u e => ?_, fun i d e => ?_, fun i d e => ?_, fun i d e => ?_, S.inj, fun b u e m => ?_, fun b e => ?_, S.base, fun b m => ?_, S.inA, fun i e => ?_⟩
  · by_cases c : b = a
    · rw [c, upd_same] at e ⊢; exact e
    · rw [upd_ne c] at e ⊢; exact S.sub b u e
  · obtain ⟨v, e1, q⟩ := S.val i d e
    exact ⟨v, e1, w.rep d q⟩
  · obtain ⟨b, e1, q, z⟩ := S.own i d e
    exact ⟨b, e1, w.root ez q, z⟩
  · obtain ⟨b, e1, q, z⟩ := S.ino i d e
    exact ⟨b, e1, w.root ez q, z⟩
  · have c : b ≠ a := fun c => by rw [c, h0] at e; cases e
    rw [upd_ne c]; exact S.keep b u e m
  · have c : b ≠ a := fun c => e (by rw [c]; exact h0)
    rw [upd_ne c]; exact S.zed b e
  · by_cases c : b = a
    · rw [c, upd_same]; simp
    · rw [upd_ne c]; exact S.live b m
  · obtain ⟨e1, hf, e2, e3⟩ := S.err i e
    exact ⟨e1, hf, w.xd _ _ e2, fun i n x a1 a2 => let ⟨v, b1, b2⟩ := e3 i n x a1 a2; ⟨v, b1, w.rep _ b2⟩⟩
def noX : SRes → SRes
  | .exc _ _ => .stuck
  | x => x
def sForK (i : Nat) (g : DenG) (b : DenS) : DenS := fun r => match r[i]? with
  | some (.own (.dct ks ds)) => noX (sFor1 g b (ks.map keyV) (r.set i (.val (.dct ks ds))))
  | _ => .stuck
theorem for_core {J : It} {items : List D} {g : DenG} {b : DenS} {fp : List Nat} {En : Ends} (S1 : Sim K T r Z1 s H1) (o1 : SrcOk K T J items Z1) (h1 : tGS K T W (sFor1 g b items r) Z1 En) :
    ∃ W0 : Nat → Nat → L2.St → Hp → Prop, (∃ m, W0 0 m s H1) ∧ ∀ i m σ H, W0 i m σ H → (J.stop i H ∧ En.nx σ H) ∨ (J.go i H ∧ ∃ N : L2.St → Hp → Prop, (∀ σ' H', N σ' H' → ∃ m', m' < m ∧ W0 (i + 1) m' σ' H') ∧ ∀ x H', J.yld i H x H' → tGt K T fp g x σ H' fun σ2 H2 => tS K T W b { En with nx := N, ct := N, bk := En.nx } σ2 H2) := by
  refine ⟨fun i m s H => m = items.length - i ∧ i ≤ items.length ∧ ∃ r Z, Sim K T r Z s H ∧ Same Z1 Z ∧ tGS K T W (sFor1 g b (items.drop i) r) Z En, ⟨items.length, rfl, Nat.zero_le _, r, Z1, S1, Same.refl _, h1⟩, ?_⟩
  rintro i m s H ⟨rfl, hi, r, Z, S, k, h⟩
  by_cases hlt : i < items.length
  · refine .inr ⟨o1.goes i r Z s H hlt S k, fun s' H' => i + 1 ≤ items.length ∧ ∃ r Z, Sim K T r Z s' H' ∧ Same Z1 Z ∧ tGS K T W (sFor1 g b (items.drop (i + 1)) r) Z En, fun s' H' p => ⟨items.length - (i + 1), by omega, rfl, p.1, p.2⟩, fun x H' y => ?_⟩
    have hd : items.drop i = items[i] :: items.drop (i + 1) := List.drop_eq_getElem_cons hlt
    rw [hd] at h
    obtain ⟨Z', S', fr, rep⟩ := o1.yields i r Z s H items[i] x H' (by simp [hlt]) S k y
    have k' := fr.same S
    have h := h.from k'
    cases w : g items[i] r with
    | none =>
      unfold sFor1 at h
      rw [w] at h
      exact h.elim
    | some r2 =>
      unfold sFor1 at h
      rw [w] at h
      refine ⟨r, Z', items[i], S', rep, r2, w, fun s2 S2 _ => ⟨r2, Z', S2, ?_⟩⟩
      have h : tGS K T W (match b r2 with | .nx r2 => sFor1 g b (items.drop (i + 1)) r2 | .ct r2 => sFor1 g b (items.drop (i + 1)) r2 | .bk r2 => .nx r2 | x => x) Z' En := h
      cases q : b r2 with
      | nx r3 =>
        rw [q] at h
        exact fun s3 H3 Z3 S3 k3 => ⟨hlt, r3, Z3, S3, Same.tr (Same.tr k k') k3, h.from k3⟩
      | ct r3 =>
        rw [q] at h
        exact fun s3 H3 Z3 S3 k3 => ⟨hlt, r3, Z3, S3, Same.tr (Same.tr k k') k3, h.from k3⟩
      | bk r3 => rw [q] at h; exact h
      | rt x r3 => rw [q] at h; exact h
      | exc e r3 => rw [q] at h; exact h
      | stuck => rw [q] at h; exact h
  · have e : i = items.length := by omega
    subst e
    refine .inl ⟨o1.stops r Z s H S k, ?_⟩
    rw [List.drop_length] at h
    exact h s H Z S (Same.refl _)
theorem tS_forK {i : Nat} {g : DenG} {b : DenS} {fp : List Nat} {En : Ends} (h : tS K T W (sForK i g b) En s H) : tLock (tFor (iKeys (tVar i)) (tGt K T fp g) (tS K T WF b)) En s H := by
  obtain ⟨r, Z, S, h⟩ := h
  unfold sForK at h
  cases e : r[i]? with
  | none => rw [e] at h; exact h.elim
  | some sl =>
    rw [e] at h
    cases sl with
    | own c =>
      cases c with
      | dct ks ds =>
        have h : tGS K T W (noX (sFor1 g b (ks.map keyV) (r.set i (.val (.dct ks ds))))) Z En := h
        obtain ⟨a, e1, q, h0⟩ := S.own i _ e
        obtain ⟨z0, kvs, eu, ek, rr⟩ := id q
        subst ek
        refine ⟨a, .dK kvs, eu, trivial, fun od => ?_⟩
        have S0 : tS K T W (sSeq (sFrz i) fun r => noX (sFor1 g b ((kvs.map Prod.fst).map keyV) r)) En s H := by
          refine ⟨r, Z, S, ?_⟩
          unfold sSeq sFrz
          rw [e]
          exact h
        obtain ⟨o, ho, S1, rep⟩ : ∃ o, H a = some o ∧ Sim K T (r.set i (.val (.dct (kvs.map Prod.fst) ds))) (upd Z a o) s H ∧ True := by
          have n : ∀ j, ¬ OwnAt (r.set i .un) s j a := fun j w => by
            obtain ⟨x, hx, e2⟩ := w
            have : OwnAt r s j a := by
              rcases hx with hx | hx
              · rcases get_set hx with ⟨_, q, _⟩ | ⟨_, q⟩
                · cases q
                · exact ⟨x, .inl q, e2⟩
              · rcases get_set hx with ⟨_, q, _⟩ | ⟨_, q⟩
                · cases q
                · exact ⟨x, .inr q, e2⟩
            have ij := S.inj j i a this ⟨_, .inl e, e1⟩
            subst ij
            have lt : j < r.length := by
              rcases Nat.lt_or_ge j r.length with z | z
              · exact z
              · rw [List.getElem?_eq_none z] at e; cases e
            rcases hx with hx | hx
            · rw [List.getElem?_set_self lt] at hx; cases hx
            · rw [List.getElem?_set_self lt] at hx; cases hx
          have Su : Sim K T (r.set i .un) Z s H := by
            have := S.unsetS (i := i) (u := some (.ref a))
            have es : s.set i (some (V.ref a)) = s := by
              apply List.ext_getElem?
              intro j
              by_cases c : i = j
              · subst c
                rw [List.getElem?_set]
                split
                · split
                  · exact e1.symm
                  · rename_i hh; rw [List.getElem?_eq_none (by omega)] at e1; cases e1
                · rename_i hh; exact (hh rfl).elim
              · rw [List.getElem?_set_ne c]
            rw [es] at this
            exact this
          obtain ⟨o, ho, Sf, rp⟩ := rep_root Su q h0 n
          refine ⟨o, ho, ?_, trivial⟩
          have := Sf.setVal (i := i) rp
          have es : s.set i (some (V.ref a)) = s := by
            apply List.ext_getElem?
            intro j
            by_cases c : i = j
            · subst c
              rw [List.getElem?_set]
              split
              · split
                · exact e1.symm
                · rename_i hh; rw [List.getElem?_eq_none (by omega)] at e1; cases e1
              · rename_i hh; exact (hh rfl).elim
            · rw [List.getElem?_set_ne c]
          rw [es, List.set_set] at this
          exact this
        rw [eu] at ho
        cases ho
        have S2 := S1.swap (swp_lk (K := K) (a := a) (od := od) (kvs := kvs) upd_same) (by rw [upd_same]; simp) h0
        rw [upd_upd] at S2
        have un : ∀ {Z2 : Hp}, Same (upd Z a (.frz od (.dK kvs))) Z2 → Z2 a = some (.frz od (.dK kvs)) ∧ Same Z (upd Z2 a (.dK kvs)) := fun {Z2} k => ⟨k a _ upd_same, fun b o q => by
          rw [upd_ne (ne_of_none q z0)]
          exact k b o (by rw [upd_ne (ne_of_none q z0)]; exact q)⟩
        refine ⟨_, e1, a, od, rfl, .inl ⟨kvs, upd_same, ?_⟩⟩
        refine for_core (W := WF) S2 (src_keys upd_same) ?_
        cases w : sFor1 g b ((kvs.map Prod.fst).map keyV) (r.set i (.val (.dct (kvs.map Prod.fst) ds))) with
        | exc _ _ => rw [w] at h; exact h.elim
        | stuck => rw [w] at h; exact h.elim
        | nx r2 =>
          rw [w] at h
          exact fun s' H' Z' Sz kz => let ⟨u1, u2⟩ := un kz; ⟨Sz.sub a _ u1, h s' _ _ (Sz.swap (swp_un u1) (by rw [u1]; simp) h0) u2⟩
        | bk r2 =>
          rw [w] at h
          exact fun s' H' Z' Sz kz => let ⟨u1, u2⟩ := un kz; ⟨Sz.sub a _ u1, h s' _ _ (Sz.swap (swp_un u1) (by rw [u1]; simp) h0) u2⟩
        | ct r2 =>
          rw [w] at h
          exact fun s' H' Z' Sz kz => let ⟨u1, u2⟩ := un kz; ⟨Sz.sub a _ u1, h s' _ _ (Sz.swap (swp_un u1) (by rw [u1]; simp) h0) u2⟩
        | rt x r2 =>
          rw [w] at h
          refine fun v s' H' Z' Sz kz rt => let ⟨u1, u2⟩ := un kz; ⟨Sz.sub a _ u1, h v s' _ _ (Sz.swap (swp_un u1) (by rw [u1]; simp) h0) u2 ?_⟩
          cases x with
          | val y => exact (swp_un u1).rep _ rt
          | own y =>
            obtain ⟨b2, eb, q2, hb⟩ := rt
            exact ⟨b2, eb, (swp_un u1).root (by rw [u1]; simp) q2, hb⟩
          | bor _ => exact rt.elim
      | _ => exact h.elim
    | _ => exact h.elim
end
section
variable {X : Cx} {T : An} {W : WX} {tg : Expr} {body : List Stmt} {pos p1 apos cpos : Pos} {g : DenG} {b : DenS} {fp : List Nat} {i : Nat} {z : Str}
theorem ds_forK (hp : PassesOwn (model X.prog X.w) X.A X.env X.xe) (hc : X.calm = true) (hi : PE X (.Name z p1) (tVar i)) (hg : PG X tg (tGt X.K T fp g)) (hb : PSs X body (tS X.K T WF b)) (hs : ∀ x, foldedSetIterable (.Name z p1) X.env x = pure x) :
    PS X (.For tg (.Name z p1) body [] pos) (tS X.K T W (sForK i g b)) := (ps_lock (ps_for hp hc (pi_keys hi) hg hb hs)).less fun _ _ _ h => tS_forK h
/-! ### d.pop(k) -/
def dropP (k : Key) (l : List (Key × D)) : List (Key × D) := l.filter fun p => decide (p.1 ≠ k)
def dropD (ks : List Key) (ds : List D) (k : Key) : D := .dct ((dropP k (ks.zip ds)).map Prod.fst) ((dropP k (ks.zip ds)).map Prod.snd)
def eDPop (i : Nat) (f : Den) : Den := fun r => match contD r i with
  | some (.dct _ _) => (fz (f r)).bind fun y r1 => (match peek r1 y, contD r1 i with
    | some k, some (.dct ks ds) => (match keyD k with
      | some kk => (match dget ks ds kk with
        | some d => .ok (.val d) (putS i (dropD ks ds kk) r1)
        | none => .stuck)
      | none => .stuck)
    | _, _ => .stuck)
  | _ => .stuck
theorem drop_rep {K : Fr} {Z : Hp} (k : Key) : ∀ {kvs : List (Key × V)} {ds : List D}, RepL K Z ds (kvs.map Prod.snd) →
    (dropK kvs k).map Prod.fst = (dropP k ((kvs.map Prod.fst).zip ds)).map Prod.fst ∧ RepL K Z ((dropP k ((kvs.map Prod.fst).zip ds)).map Prod.snd) ((dropK kvs k).map Prod.snd)
  | [], ds, _ => by cases ds <;> exact ⟨rfl, rfl⟩
  | (k', v') :: kvs, [], h => by cases h
  | (k', v') :: kvs, d :: ds, h => by
    obtain ⟨v, t, e, h1, h2⟩ := h
    cases e
    obtain ⟨i1, i2⟩ := drop_rep k h2
    by_cases c : k' = k
    · have e1 : dropK ((k', v') :: kvs) k = dropK kvs k := by unfold dropK; rw [List.filter_cons_of_neg (by simp [c])]
      have e2 : dropP k ((((k', v') :: kvs).map Prod.fst).zip (d :: ds)) = dropP k ((kvs.map Prod.fst).zip ds) := by unfold dropP; rw [List.map_cons, List.zip_cons_cons, List.filter_cons_of_neg (by simp [c])]
      rw [e1, e2]; exact ⟨i1, i2⟩
    · have e1 : dropK ((k', v') :: kvs) k = (k', v') :: dropK kvs k := by unfold dropK; rw [List.filter_cons_of_pos (by simp [c])]
      have e2 : dropP k ((((k', v') :: kvs).map Prod.fst).zip (d :: ds)) = (k', d) :: dropP k ((kvs.map Prod.fst).zip ds) := by unfold dropP; rw [List.map_cons, List.zip_cons_cons, List.filter_cons_of_pos (by simp [c])]
      rw [e1, e2, List.map_cons, List.map_cons, List.map_cons, List.map_cons, i1]
      exact ⟨rfl, v', _, rfl, h1, i2⟩
theorem de_dpop {o e : Expr} {f : Den} (ho : PE X o (tVar i)) (he : PE X e (tE X.K T W f)) (m : M1 X o "pop" apos e cpos) : PE X (.Call (.Attribute o "pop" apos) [e] [] cpos) (tE X.K T W (eDPop i f)) := (pe_dpop1 ho (pe_fz he) m).less fun s H Q h => by
  obtain ⟨r, Z, S, h⟩ := h
  unfold eDPop at h
  cases ec : contD r i with
  | none => rw [ec] at h; exact h.elim
  | some c =>
    rw [ec] at h
    cases c with
    | dct ks0 ds0 =>
      refine ev_slot (W := W) S ec fun a w => ⟨a, rfl, ?_, ?_⟩
      · obtain ⟨_, kvs, q, _⟩ := cont_root S w ec
        exact .inl ⟨kvs, .inl q⟩
      · refine ⟨r, Z, S, (tG.bind fwdE h).mono fun y H1 h1 => ?_⟩
        obtain ⟨x, r1, Z1, S1, k1, f1, o1, h1⟩ := h1
        cases p1 : peek r1 x with
        | none => rw [p1] at h1; exact h1.elim
        | some k =>
          cases p2 : contD r1 i with
          | none => rw [p1, p2] at h1; exact h1.elim
          | some c =>
            rw [p1, p2] at h1
            cases c with
            | dct ks ds =>
              have h1 : tG X.K T W (RelE X.K T s) s (match keyD k with
                | some kk => (match dget ks ds kk with
                  | some d => .ok (.val d) (putS i (dropD ks ds kk) r1)
                  | none => .stuck)
                | none => .stuck) r1 Z1 H1 Q := h1
              cases p3 : keyD k with
              | none => rw [p3] at h1; exact h1.elim
              | some kk =>
                rw [p3] at h1
                have h1 : tG X.K T W (RelE X.K T s) s (match dget ks ds kk with
                  | some d => .ok (.val d) (putS i (dropD ks ds kk) r1)
                  | none => .stuck) r1 Z1 H1 Q := h1
                cases p4 : dget ks ds kk with
                | none => rw [p4] at h1; exact h1.elim
                | some d =>
                  rw [p4] at h1
                  have w1 : OwnAt r1 s i a := k1.ownAt w
                  obtain ⟨z, kvs, q1, q2, rr⟩ := cont_root S1 w1 p2
                  subst q2
                  obtain ⟨v, v1, v2⟩ := dget_rep rr p4
                  obtain ⟨i1, i2⟩ := drop_rep (K := X.K) (Z := Z1) kk rr
                  refine ⟨kvs, kk, v, q1, keyD_con (o1.con S1 p1) p3, v1, ?_⟩
                  obtain ⟨S3, k3, f3⟩ := putS_of (d := dropD (kvs.map Prod.fst) ds kk) S1 w1 (o := .dK (dropK kvs kk)) ⟨z, _, upd_same, i1, i2⟩
                  exact h1 v _ Z1 S3 k3 f3 v2
            | _ => exact h1.elim
    | _ => exact h.elim
end
end Ev
namespace Ev
open PySem PySem.Spec PyProof.Rows L2

/-! ### a tuple turned round: t[::-1] -/
section
variable {prog : Program} {w : World} {A : Around} {E : Value → Shared → Prop} {s : Shared}
theorem adjust_rev (n : Nat) : Builtin.Slice.sliceAdjust none none (-1) (n : Int) = ((n : Int) - 1, -1) := by
  unfold Builtin.Slice.sliceAdjust
  simp
theorem places_rev (n : Nat) : Builtin.Slice.slicePlaces ((n : Int) - 1) (-1) (-1) = n := by
  unfold Builtin.Slice.slicePlaces
  simp
  try omega
theorem sliceApplied_rev {sl : Addr} {n : Nat} {u : Tok} {Q : Int × Int × Nat → Shared → Prop} (hs : s.heap.IsSliceOf sl .none .none (.int (-1) u)) (h : Q ((n : Int) - 1, -1, n) s) :
    wpAny (model prog w) A (Builtin.Slice.sliceApplied (.ref sl) (pure (n : Int))) Q E s := by
  obtain ⟨os, hos, hcs, hds⟩ := id hs
  unfold Builtin.Slice.sliceApplied Builtin.Slice.sliceFields
  refine wpAny_bind (wpAny_bind (wpAny_field hos hds (x := .none) rfl (wpAny_bind (wpAny_field hos hds (x := .none) rfl (wpAny_bind (wpAny_field hos hds (x := .int (-1) u) rfl (wpAny_pure ?_)))))))
  refine wpAny_bind (slicePart_int ?_)
  show wpAny _ _ (if ((-1 : Int) == 0) = true then _ else _) _ _ s
  rw [if_neg (by decide)]
  refine wpAny_bind (slicePart_none (wpAny_bind (slicePart_none (wpAny_bind (wpAny_pure ?_)))))
  show wpAny _ _ (match Builtin.Slice.sliceAdjust none none (-1) (n : Int) with | (lo, hi) => pure (lo, (-1 : Int), Builtin.Slice.slicePlaces lo hi (-1))) _ _ s
  rw [adjust_rev n]
  show wpAny _ _ (pure ((n : Int) - 1, (-1 : Int), Builtin.Slice.slicePlaces ((n : Int) - 1) (-1) (-1))) _ _ s
  rw [places_rev n]
  exact wpAny_pure h
theorem pick_rev (xs : Array Value) : ((List.range xs.size).filterMap fun (k : Nat) => xs[((xs.size : Int) - 1 + (k : Int) * (-1)).toNat]?).toArray = xs.toList.reverse.toArray := by
  congr 1
  apply List.ext_getElem?
  intro i
  have hfm : ∀ (l : List Nat), (∀ k ∈ l, k < xs.size) → l.filterMap (fun (k : Nat) => xs[((xs.size : Int) - 1 + (k : Int) * (-1)).toNat]?) = l.map fun k => xs.toList.getD (xs.size - 1 - k) .none := by
    intro l
    induction l with
    | nil => intro _; rfl
    | cons a t ih =>
      intro h
      have ha := h a List.mem_cons_self
      have e : ((xs.size : Int) - 1 + (a : Int) * (-1)).toNat = xs.size - 1 - a := by omega
      have e2 : xs[((xs.size : Int) - 1 + (a : Int) * (-1)).toNat]? = some (xs.toList.getD (xs.size - 1 - a) .none) := by
        rw [e, List.getD_eq_getElem?_getD, ← Array.getElem?_toList, List.getElem?_eq_getElem (by rw [Array.length_toList]; omega)]; rfl
      rw [List.filterMap_cons, e2, List.map_cons, ih fun k hk => h k (List.mem_cons_of_mem _ hk)]
  rw [hfm _ (fun k hk => List.mem_range.mp hk)]
  by_cases c : i < xs.size
  · rw [List.getElem?_map, List.getElem?_range c, List.getElem?_reverse (by rw [Array.length_toList]; exact c), Array.length_toList, List.getElem?_eq_getElem (by rw [Array.length_toList]; omega)]
    show some (xs.toList.getD (xs.size - 1 - i) .none) = _
    rw [List.getD_eq_getElem?_getD, List.getElem?_eq_getElem (by rw [Array.length_toList]; omega)]; rfl
  · rw [List.getElem?_eq_none (by rw [List.length_map, List.length_range]; omega), List.getElem?_eq_none (by rw [List.length_reverse, Array.length_toList]; omega)]
theorem getItem_tuple_rev {t sl : Addr} {items : Array Value} {u : Tok} {Q : Value → Shared → Prop} (ht : IsTup s.heap t items) (hs : s.heap.IsSliceOf sl .none .none (.int (-1) u))
    (h : Q (.ref s.heap.objs.size) { s with heap := s.heap.push { cls := .type "tuple", data := .seq items.toList.reverse.toArray } }) (hsz : items.size ≤ sizeLine) : wpAny (model prog w) A (getItem (.ref t) (.ref sl)) Q E s := by
  have hdrop : sizeOk (.seq items.toList.reverse.toArray) := by
    show items.toList.reverse.toArray.size ≤ sizeLine
    rw [List.size_toArray, List.length_reverse, Array.length_toList]
    exact hsz
  obtain ⟨os, hos, hcs, hds⟩ := id hs
  have hTs : s.TypeIs (.ref sl) "slice" := ⟨os, hos, hcs⟩
  unfold getItem
  try with_reducible refine wpAny_holding ?_
  first | refine wpAny_bind (wpAny_pure ?_) | skip
  refine wpAny_bind (wpAny_sequenceKey ht.typeIs (by decide) ?_)
  refine wpAny_bind (wpAny_callSpecial?_slot (name := Str.ofString "__getitem__") ht.typeIs slot_tuple_getitem
    (wpAny_call_entry slot_tuple_getitem ht.typeIs entry_tuple_getitem ?_ (args_tuple_getitem _ _)))
  show wpAny _ _ (Builtin.Tuple.tupleItemsOf (.ref t) >>= _) _ _ s
  refine wpAny_bind (tupleItemsOf_ ht ?_)
  refine wpAny_bind (wpAny_typeOf hTs ?_)
  rw [if_pos (by decide)]
  refine wpAny_bind (sliceApplied_rev hs ?_)
  have hno : ¬ ((((items.size : Int) - 1) == 0 && (-1 : Int) == 1 && items.size == items.size) = true) := by
    have : ((-1 : Int) == 1) = false := by decide
    rw [this]; simp
  show wpAny _ _ (if (((items.size : Int) - 1) == 0 && (-1 : Int) == 1 && items.size == items.size) = true then _ else _) _ _ s
  rw [if_neg hno, pick_rev items]
  first
    | exact wpAny_bind (m := Builtin.Tuple.tupleExact _) (wpAny_newObj_type (wpAny_pure ⟨_, rfl, wpAny_pure h⟩) hdrop)
    | exact wpAny_bind (m := Builtin.Tuple.tupleExact _) (wpAny_newObj_type (wpAny_bind (wpAny_pure (wpAny_pure ⟨_, rfl, wpAny_pure h⟩))) hdrop)
    | exact wpAny_bind (wpAny_bind (m := Builtin.Tuple.tupleExact _) (wpAny_newObj_type (wpAny_pure (wpAny_pure ⟨_, rfl, wpAny_pure h⟩)) hdrop))
    | exact wpAny_bind (wpAny_bind (m := Builtin.Tuple.tupleExact _) (wpAny_newObj_type (wpAny_pure ⟨_, rfl, wpAny_pure h⟩) hdrop))
end
def eRevT (f : Den) : Den := eUn (fun d => match d with
  | .tup xs => some (.val (.tup xs.reverse))
  | _ => none) f
section
variable {X : Cx} {T : An} {W : WX}
def tRevT (K : Fr) (te : TE) : TE := fun σ H Q => te σ H fun x H1 => ∃ (a : Addr) (xs : List V), x = .ref a ∧ SqT K H1 a xs ∧ ∀ p, H1 p = none → Q (.ref p) (upd H1 p (.tup xs.reverse))
theorem pe_revT {e : Expr} {te : TE} {k : Nat} {p1 p2 p3 pos : Pos} (he : PE X e te) : PE X (.Subscript e (.Slice none none (some (.UnaryOp .USub (.Constant (.int 1) k p1) p2)) p3) pos) (tRevT X.K te) := by
  refine ⟨fun pins s σ H Q I h => ?_⟩
  refine Subscript_ (thn (he.run pins s σ H _ I h) fun v s1 ⟨x, H1, I1, r1, q1⟩ => ?_)
  obtain ⟨a, xs, ex, hx, q⟩ := q1
  subst ex
  cases r1
  have hst : PO X (some (.UnaryOp .USub (.Constant (.int 1) k p1) p2)) (tPart (tUn (rU fun i => .int (-i)) (tC (.int 1)))) := po_some (pe_un un_neg pe_int)
  refine wpAny_Slice (thn (po_none.run pins s1 σ H1 (fun o H2 => o = none ∧ H2 = H1) I1 ⟨rfl, rfl⟩) fun vl s2 ⟨l, H2, I2, pl, el, e2⟩ => ?_)
  subst el e2
  refine thn (po_none.run pins s2 σ H2 (fun o H3 => o = none ∧ H3 = H2) I2 ⟨rfl, rfl⟩) fun vu s3 ⟨u, H3, I3, pu, eu, e3⟩ => ?_
  subst eu e3
  refine thn (hst.run pins s3 σ H3 (fun o H4 => o = some (-1) ∧ H4 = H3) I3 ⟨1, rfl, -1, rfl, rfl, rfl⟩) fun vs s4 ⟨o, H4, I4, ps, eo, e4⟩ => ?_
  subst eo e4
  have I5 : Inv X pins σ H4 { s4 with heap := s4.heap.push { cls := .type "slice", data := .fields #[vl, vu, vs] } } := I4.kept (t' := s4.toks) fun b ob q => Heap.get?_push_of_some _ q
  obtain ⟨its, r, ht, hz⟩ := I5.tuple hx
  have ht : IsTup _ a its.toArray := ht
  have hlen := r.length
  show wpAny (model X.prog X.w) X.A (subscriptTail e (.Slice none none (some (.UnaryOp .USub (.Constant (.int 1) k p1) p2)) p3) (.ref a) (.ref s4.heap.objs.size)) (EP X pins σ Q) X.xe { s4 with heap := s4.heap.push { cls := .type "slice", data := .fields #[vl, vu, vs] } }
  refine tail_any (ops := [.ref a, .ref s4.heap.objs.size]) ht.typeIs (PyProof.Rows.slot_tuple_getitem.lookup) ?_ (by with_unfolding_all rfl)
  cases pl
  cases pu
  cases ps
  refine getItem_tuple_rev ht (Heap.IsSliceOf.new _ _ _ _) ?_ (by rw [List.size_toArray]; omega)
  refine ⟨.ref _, _, I5.laid (t' := s4.toks) (o := .tup xs.reverse) (fun b ob q => Heap.get?_push_of_some _ q) (Nat.le_refl _) ?_, rfl, q _ (I5.hok.fresh (Nat.le_refl _))⟩
  exact ⟨by rw [List.length_reverse]; exact hz, _, r.reverse, ⟨_, Heap.get?_push_size _ rfl, rfl, 0, rfl⟩⟩
theorem de_revT {e : Expr} {f : Den} {k : Nat} {p1 p2 p3 pos : Pos} (he : PE X e (tE X.K T W f)) : PE X (.Subscript e (.Slice none none (some (.UnaryOp .USub (.Constant (.int 1) k p1) p2)) p3) pos) (tE X.K T W (eRevT f)) := (pe_revT (pe_fz he)).less fun s H Q h =>
  tE_un (R := fun x H1 Q => ∃ (a : Addr) (xs : List V), x = .ref a ∧ SqT X.K H1 a xs ∧ ∀ p, H1 p = none → Q (.ref p) (upd H1 p (.tup xs.reverse))) (fun s r Z H v d x Q S co e h => by
    cases d with
    | tup xs =>
      cases e
      obtain ⟨a, vs, rfl, c, rr⟩ := co
      refine ⟨a, vs, rfl, same_sqT S.sub c, fun p hp => tG.newF S h hp ⟨p, vs.reverse, rfl, .inl (.inl upd_same), ?_⟩⟩
      exact RepL.mono (same_updZ (S.free hp).2.1) _ rr.reverse
    | _ => cases e) h
end
end Ev
namespace Ev
open PySem PySem.Spec PyProof.Rows L2

/-! ### o.m(k = e), C(k = e): keywords alone -/
section
variable {X : Cx} {T : An} {W : WX} {k n : Nat} {f : Addr} {fd : FuncData} {ps ks : List Str} {io : Option Nat} {F : Fun} {p q : List Nat} {dd : List D} {cn m : Str} {o e : Expr} {kws : List Keyword} {fo : Den} {lk : DenL} {apos pos p1 : Pos}
theorem de_methK0 {N : Nat} {pl : Sem Bool} (he : PE X o (tE X.K T W fo)) (c : Cls X.K (He.ga X.K cn)) (hm : Meth X.K (He.ga X.K cn) m f) (Fg : FnG X.prog X.w X.K X.mg X.base (CXW X) k f fd ps (spF X.K io N F)) (hr : Room k X.A) (hc : Calm X.A) (hb : BindG X.K fd ps 1 ks p dd) (tk : Takes X W)
    (hN : ∀ (x : RV) (xs : List RV), xs.length = ks.length → (pick p (x :: (xs ++ dd.map .val))).length = N)
    (hkw : PK X kws (tL X.K T W lk)) (hall : (backToKw pos (keywordEach kws X.env)).all (·.1.isSome) = true) (hks : (backToKw pos (keywordEach kws X.env)).filterMap (·.1) = ks)
    (hpl : ((backTo pos (starEach [] X.env)).any (·.1) || (backToKw pos (keywordEach kws X.env)).any (·.1.isNone)) = false)
    (ht : eval (.Call (.Attribute o m apos) [] kws pos) X.env = (do
      let ov ← eval o X.env
      standAt apos.atName
      let (f, first) ← holding [ov] (getMethod ov m pl)
      callWith pos f first (backTo pos (starEach [] X.env)) (backToKw pos (keywordEach kws X.env)))) :
    PE X (.Call (.Attribute o m apos) [] kws pos) (tE X.K T W (eMeth cn m io F ks.length p dd fo lk)) := ⟨fun pins s σ H Q I h => by
  refine PySem.W.methodCall_KW (pl := pl) (thn ((pe_fz he).run pins s σ H _ I (meth_two hN h)) fun u s1 z => ?_) ht
  obtain ⟨x, H1, I1, rx, a, dx, fs, ex, ea, lk, q⟩ := z
  subst ex
  obtain rfl : u = Value.ref a := rx
  refine getmeth_ok I1 ea c hm lk ?_
  refine PySem.W.callWith_KW0 (first := [.ref a]) (h₀ := X.base) I.ok.mod.kin hm.kp hall (thn (hkw.run pos pins s1 σ H1 _ I1 q) fun ws s2 z => ?_) hpl
  obtain ⟨zs, H2, I2, rz, l2, q2⟩ := z
  refine ⟨I2.kIn, ?_⟩
  rw [hks]
  exact fn_at (us := [.ref a]) (vs := [.ref a]) Fg hr hc hb tk I2 (.cons rfl .nil) rz rfl l2 fun dvs hd => by
    have := q2 dvs hd
    rw [List.nil_append] at this
    exact this⟩
theorem de_makeK0 {N : Nat} (M : Mk X.K (He.ga X.K cn) f) (Fg : FnG X.prog X.w X.K X.mg X.base (CXW X) k f fd ps (spF X.K (some 0) N F)) (hr : Room (k + 1) X.A) (hc : Calm X.A) (hg : Gl X cn) (hm : X.mg cn = some (.ref (He.ga X.K cn))) (hb : BindG X.K fd ps (0 + 1) ks (0 :: q) dd) (tk : Takes X W)
    (hN : ∀ xs ys : List RV, xs.length = 0 → ys.length = ks.length → (pick q (.val .non :: (xs ++ (ys ++ dd.map .val)))).length + 1 = N) (h0 : ∀ i ∈ q, i ≠ 0)
    (hkw : PK X kws (tL X.K T W lk)) (hall : (backToKw pos (keywordEach kws X.env)).all (·.1.isSome) = true) (hks : (backToKw pos (keywordEach kws X.env)).filterMap (·.1) = ks)
    (hdb : (cn == ("__debug__" : Str)) = false)
    (hpl : ((backTo pos (starEach [] X.env)).any (·.1) || (backToKw pos (keywordEach kws X.env)).any (·.1.isNone)) = false) :
    PE X (.Call (.Name cn p1) [] kws pos) (tE X.K T W (eMake cn F 0 ks.length q dd dNil lk)) := ⟨fun pins s σ H Q I h => by
  refine wpAny_Call_Name_kw (ld_glob I hg hm ?_ hdb)
  have z := tL_nil (make_two hN h0 h)
  refine PySem.W.callWith_KW0 (h₀ := X.base) I.ok.mod.kin M.kp hall (thn (hkw.run pos pins s σ H _ I z) fun ws s2 z => ?_) hpl
  obtain ⟨zs, H2, I2, rz, l1, l2, q2⟩ := z
  refine ⟨I2.kIn, ?_⟩
  rw [hks]
  exact make_run (vs := []) (us := []) M Fg hr hc hb tk I2 .nil rz rfl l2 q2⟩
end
/-! ### a call that only reads what slots own, and tells tuples and numbers -/
mutual
def tupO : D → Bool
  | .non => true
  | .bl _ => true
  | .int _ => true
  | .str _ => true
  | .fn _ => true
  | .ty _ => true
  | .tup xs => tupOs xs
  | _ => false
def tupOs : List D → Bool
  | [] => true
  | d :: ds => tupO d && tupOs ds
end
mutual
theorem tupO_rep {K : Fr} {Z Z' : Hp} (w : ∀ b vs, SqT K Z b vs → SqT K Z' b vs) : ∀ (d : D) {v : V}, tupO d = true → Rep K Z d v → Rep K Z' d v
  | .non, _, _, h => h
  | .bl _, _, _, h => h
  | .int _, _, _, h => h
  | .str _, _, _, h => h
  | .fn _, _, _, h => h
  | .ty _, _, _, h => h
  | .tup xs, v, t, h => by
    obtain ⟨a, vs, rfl, s, r⟩ := h
    have t : tupOs xs = true := t
    exact ⟨a, vs, rfl, w _ _ s, tupO_repL w xs t r⟩
  | .lst _, _, t, _ => by cases t
  | .dct _ _, _, t, _ => by cases t
  | .obj _ _ _, _, t, _ => by cases t
  | .scr _, _, t, _ => by cases t
theorem tupO_repL {K : Fr} {Z Z' : Hp} (w : ∀ b vs, SqT K Z b vs → SqT K Z' b vs) : ∀ (ds : List D) {vs : List V}, tupOs ds = true → RepL K Z ds vs → RepL K Z' ds vs
  | [], _, _, h => h
  | d :: ds, vs, t, h => by
    have t : (tupO d && tupOs ds) = true := t
    rw [Bool.and_eq_true] at t
    obtain ⟨v, r, rfl, h1, h2⟩ := h
    exact ⟨v, r, rfl, tupO_rep w d t.1 h1, tupO_repL w ds t.2 h2⟩
end
theorem tupOs_mem : ∀ {ds : List D} {i : Nat} {x : D}, tupOs ds = true → ds[i]? = some x → tupO x = true
  | [], i, x, _, e => by simp at e
  | d :: ds, 0, x, t, e => by
    have t : (tupO d && tupOs ds) = true := t
    rw [Bool.and_eq_true] at t
    simp at e
    rw [← e]; exact t.1
  | d :: ds, i + 1, x, t, e => by
    have t : (tupO d && tupOs ds) = true := t
    rw [Bool.and_eq_true] at t
    exact tupOs_mem t.2 (by simpa using e)
def eSnap (f : Den) : Den := fun r => match f (allV r) with
  | .ok (.own (.obj c ns ds)) _ => if tupOs ds = true then .ok (.own (.obj c ns ds)) r else .stuck
  | .ok (.val d) _ => if tupO d = true then .ok (.val d) r else .stuck
  | .exc e _ => if tupOs e.fs = true then .exc e r else .stuck
  | _ => .stuck
section
variable {K : Fr} {T : An} {W : WX} {r : Env} {Z Z2 : Hp} {s : L2.St} {H H2 : Hp}
noncomputable def ownZ (r : Env) (s : L2.St) (Z H : Hp) : Hp := fun b => @ite _ (∃ i, OwnAt r s i b) (Classical.propDecidable _) (H b) (Z b)
noncomputable def newZ (H Z Z2 : Hp) : Hp := fun b => match H b with
  | none => Z2 b
  | some _ => Z b
theorem ownZ_y {b : Addr} (h : ∃ i, OwnAt r s i b) : ownZ r s Z H b = H b := by unfold ownZ; exact if_pos h
theorem ownZ_n {b : Addr} (h : ¬ ∃ i, OwnAt r s i b) : ownZ r s Z H b = Z b := by unfold ownZ; exact if_neg h
theorem newZ_old {b : Addr} (h : H b ≠ none) : newZ H Z Z2 b = Z b := by
  unfold newZ
  cases q : H b with
  | none => exact (h q).elim
  | some o => rfl
theorem newZ_new {b : Addr} (h : H b = none) : newZ H Z Z2 b = Z2 b := by unfold newZ; rw [h]
def snT (r : Env) (s : L2.St) (Z H Zw : Hp) : An := ⟨H, Zw, [], fun _ => 0, 0, 0, ⟨⟨#[]⟩, [], []⟩⟩
theorem Sim.snap (S : Sim K T r Z s H) : Sim K (snT r s Z H (ownZ r s Z H)) (allV r) (ownZ r s Z H) s H := by
  have own : ∀ {i b}, OwnAt r s i b → Z b = none := fun {i b} w => by
    obtain ⟨d, _, q⟩ := S.at w
    exact q.z
  have kz : Same Z (ownZ r s Z H) := fun b o e => by
    rw [ownZ_n]
    · exact e
    · rintro ⟨i, w⟩
      rw [own w] at e; cases e
  have sub : Same (ownZ r s Z H) H := fun b o e => by
    by_cases c : ∃ i, OwnAt r s i b
    · rw [ownZ_y c] at e; exact e
    · rw [ownZ_n c] at e; exact S.sub b o e
  have rr : ∀ {i a x}, OwnAt r s i a → Root K Z H a x → Rep K (ownZ r s Z H) x (.ref a) := fun {i a x} w q => by
    have ea := ownZ_y (Z := Z) (H := H) ⟨i, w⟩
    cases x with
    | lst xs => obtain ⟨_, vs, h1, h2⟩ := q; exact ⟨a, vs, rfl, by rw [ea]; exact h1, h2.mono kz⟩
    | dct ks ds => obtain ⟨_, l, h1, h2, h3⟩ := q; exact ⟨a, l, rfl, .inl (by rw [ea]; exact h1), h2, h3.mono kz⟩
    | obj c ns ds => obtain ⟨_, dx, hf, h1, h2, h3⟩ := q; exact ⟨a, dx, hf, rfl, by rw [ea]; exact h1, h2, h3.mono kz⟩
    | _ => exact q.elim
  have no : ∀ {i a}, ¬ OwnAt (allV r) s i a := fun {i a} w => by
    obtain ⟨x, hx, _⟩ := w
    rcases hx with hx | hx
    · rcases allV_at hx with q | ⟨_, q, _⟩ <;> cases q
    · rcases allV_at hx with q | ⟨_, q, _⟩ <;> cases q
  refine ⟨by unfold allV; rw [List.length_map]; exact S.len, sub, fun i x q => ?_, fun i x q => ?_, fun i x q => ?_, fun i j a w _ => (no w).elim, fun a o q _ => q, fun a _ => rfl, sub, fun a m => (nomatch m), fun a m => (nomatch m), fun i q => ?_⟩
  · rcases allV_at q with q | ⟨y, q, h⟩
    · cases q
    · cases q
      rcases h with h | h | h
      · obtain ⟨v, e1, rv⟩ := S.val i x h
        exact ⟨v, e1, rv.mono kz⟩
      · obtain ⟨a, e1, q, _⟩ := S.own i x h
        exact ⟨_, e1, rr ⟨x, .inl h, e1⟩ q⟩
      · obtain ⟨a, e1, q, _⟩ := S.ino i x h
        exact ⟨_, e1, rr ⟨x, .inr h, e1⟩ q⟩
  · rcases allV_at q with q | ⟨_, q, _⟩ <;> cases q
  · rcases allV_at q with q | ⟨_, q, _⟩ <;> cases q
  · rcases allV_at q with q | ⟨_, q, _⟩ <;> cases q
theorem Sim.back2 {r2 : Env} (S : Sim K T r Z s H) (S2 : Sim K (snT r s Z H (ownZ r s Z H)) r2 Z2 s H2) : Sim K T r (newZ H Z Z2) s H2 ∧ Frm r s H Z H2 (newZ H Z Z2) ∧ (∀ b vs, SqT K Z2 b vs → SqT K (newZ H Z Z2) b vs) ∧ ∀ b hf, Z2 b = some (.xd hf) → newZ H Z Z2 b = some (.xd hf) := by
  have gr : Same H H2 := fun b o e => S2.keep b o e (fun m => nomatch m)
  have S3 := S.grow gr
  have zz : Same Z (newZ H Z Z2) := fun b o e => by
    rw [newZ_old (by rw [S.sub b o e]; simp)]; exact e
  have old : ∀ b, H b ≠ none → newZ H Z Z2 b = Z b := fun b h => newZ_old h
  have rt : ∀ {a d}, Root K Z H2 a d → H a ≠ none → Root K (newZ H Z Z2) H2 a d := fun {a d} q h => q.mono zz (by rw [old a h]; exact q.z) fun _ e => e
  have hown : ∀ {i a}, OwnAt r s i a → H a ≠ none := fun {i a} w => by
    obtain ⟨d, _, q⟩ := S.at w
    obtain ⟨o, e⟩ := q.there
    rw [e]; simp
  have h0 : ∀ b, T.H0 b ≠ none → H b ≠ none := fun b h => by
    cases q : T.H0 b with
    | none => exact (h q).elim
    | some o =>
      by_cases m : b ∈ T.A
      · exact S.live b m
      · rw [S.keep b o q m]; simp
  have oldc : ∀ b, H b ≠ none → ∀ o, Z2 b = some o → Z b = some o ∨ (H b = some o ∧ ∃ i, OwnAt r s i b) := fun b h o e => by
    have e2 : Z2 b = ownZ r s Z H b := S2.zed b h
    rw [e2] at e
    by_cases c : ∃ i, OwnAt r s i b
    · rw [ownZ_y c] at e; exact .inr ⟨e, c⟩
    · rw [ownZ_n c] at e; exact .inl e
  have cell : ∀ b o, Z2 b = some o → (∀ i d, OwnAt r s i b → Root K Z H b d → H b ≠ some o) → newZ H Z Z2 b = some o := fun b o e n => by
    by_cases c : H b = none
    · rw [newZ_new c]; exact e
    · rw [newZ_old c]
      rcases oldc b c o e with q | ⟨q, i, w⟩
      · exact q
      · obtain ⟨d, _, rt⟩ := S.at w
        exact (n i d w rt q).elim
  refine ⟨⟨S3.len, fun b o e => ?_, fun i d e => ?_, fun i d e => ?_, fun i d e => ?_, S3.inj, S3.keep, fun b h => ?_, S3.base, S3.live, S3.inA, fun i e => ?_⟩, ⟨fun b o e _ => gr b o e, fun b h => old b h, fun b h => ?_⟩, fun b vs h => ?_, fun b hf h => ?_⟩
  · by_cases c : H b = none
    · rw [newZ_new c] at e; exact S2.sub b o e
    · rw [newZ_old c] at e; exact S3.sub b o e
  · obtain ⟨v, e1, q⟩ := S3.val i d e
    exact ⟨v, e1, q.mono zz⟩
  · obtain ⟨a, e1, q, z⟩ := S3.own i d e
    exact ⟨a, e1, rt q (hown ⟨d, .inl e, e1⟩), z⟩
  · obtain ⟨a, e1, q, z⟩ := S3.ino i d e
    exact ⟨a, e1, rt q (hown ⟨d, .inr e, e1⟩), z⟩
  · rw [old b (h0 b h)]; exact S.zed b h
  · obtain ⟨e1, e2⟩ := S3.err i e
    exact ⟨e1, e2.mono zz⟩
  · cases q : H b with
    | none => exact (h q).elim
    | some o => rw [gr b o q]; simp
  · have nt : ∀ (o : HO), (∀ us, o ≠ .lst us) → (∀ l, o ≠ .dK l) → (∀ c dx hf, o ≠ .ins c dx hf) → ∀ i d, OwnAt r s i b → Root K Z H b d → H b ≠ some o := fun o n1 n2 n3 i d _ q e => by
      cases d with
      | lst xs => obtain ⟨_, us, h1, _⟩ := q; rw [e] at h1; cases h1; exact n1 us rfl
      | dct ks ds => obtain ⟨_, l, h1, _⟩ := q; rw [e] at h1; cases h1; exact n2 l rfl
      | obj c ns ds => obtain ⟨_, dx, hf, h1, _⟩ := q; rw [e] at h1; cases h1; exact n3 _ dx hf rfl
      | _ => exact q.elim
    rcases h with (h | ⟨o, h⟩) | h
    · exact .inl (.inl (cell b _ h (nt _ (fun _ z => nomatch z) (fun _ z => nomatch z) fun _ _ _ z => nomatch z)))
    · exact .inl (.inr ⟨o, cell b _ h (nt _ (fun _ z => nomatch z) (fun _ z => nomatch z) fun _ _ _ z => nomatch z)⟩)
    · exact .inr h
  · refine cell b _ h fun i d w q e => ?_
    cases d with
    | lst xs => obtain ⟨_, us, h1, _⟩ := q; rw [e] at h1; cases h1
    | dct ks ds => obtain ⟨_, l, h1, _⟩ := q; rw [e] at h1; cases h1
    | obj c ns ds => obtain ⟨_, dx, hf, h1, _⟩ := q; rw [e] at h1; cases h1
    | _ => exact q.elim
theorem tE_snap {f : Den} {Q : VK} (h : tE K T W (eSnap f) s H Q) : ∃ T', tE K T' W f s H Q := by
  obtain ⟨r, Z, S, h⟩ := h
  refine ⟨snT r s Z H (ownZ r s Z H), allV r, ownZ r s Z H, S.snap, ?_⟩
  unfold eSnap at h
  cases e : f (allV r) with
  | stuck => rw [e] at h; exact h.elim
  | exc x r2 =>
    rw [e] at h
    have h : tG K T W (RelE K T s) s (if tupOs x.fs = true then .exc x r else .stuck) r Z H Q := h
    by_cases c : tupOs x.fs = true
    · rw [if_pos c] at h
      intro cls d H2 Z2 S2 k2 f2 o2
      obtain ⟨S3, f3, sq, xd⟩ := S.back2 S2
      obtain ⟨dd, e1, e2, hf, e3, e4⟩ := o2
      exact h cls d H2 _ S3 (Kin.refl _) f3 ⟨dd, e1, e2, hf, xd _ _ e3, fun i n x a1 a2 => let ⟨v, b1, b2⟩ := e4 i n x a1 a2; ⟨v, b1, tupO_rep sq x (tupOs_mem c a2) b2⟩⟩
    · rw [if_neg c] at h; exact h.elim
  | ok x r2 =>
    rw [e] at h
    cases x with
    | bor i => exact h.elim
    | val d =>
      have h : tG K T W (RelE K T s) s (if tupO d = true then .ok (.val d) r else .stuck) r Z H Q := h
      by_cases c : tupO d = true
      · rw [if_pos c] at h
        intro v H2 Z2 S2 k2 f2 o2
        obtain ⟨S3, f3, sq, xd⟩ := S.back2 S2
        exact h v H2 _ S3 (Kin.refl _) f3 (tupO_rep sq d c o2)
      · rw [if_neg c] at h; exact h.elim
    | own d =>
      cases d with
      | obj cn ns ds =>
        have h : tG K T W (RelE K T s) s (if tupOs ds = true then .ok (.own (.obj cn ns ds)) r else .stuck) r Z H Q := h
        by_cases c : tupOs ds = true
        · rw [if_pos c] at h
          intro v H2 Z2 S2 k2 f2 o2
          obtain ⟨S3, f3, sq, xd⟩ := S.back2 S2
          obtain ⟨a, ea, ⟨z2, dx, hf, q1, q2, q3⟩, h0, no, hn⟩ := o2
          refine h v H2 _ S3 (Kin.refl _) f3 ⟨a, ea, ⟨by rw [newZ_new hn]; exact z2, dx, hf, q1, q2, tupO_repL sq ds c q3⟩, (S.free hn).1, fun i w => ?_, hn⟩
          obtain ⟨y, _, q⟩ := S.at w
          obtain ⟨o, e3⟩ := q.there
          rw [hn] at e3; cases e3
        · rw [if_neg c] at h; exact h.elim
      | _ => exact h.elim
end
theorem de_snap {X : Cx} {T : An} {W : WX} {e : Expr} {f : Den} (h : ∀ T, PE X e (tE X.K T W f)) : PE X e (tE X.K T W (eSnap f)) := (pe_ex h).less fun s H Q q => tE_snap q
end Ev
namespace Ev
open PySem PySem.Spec PyProof.Rows L2

/-! ### a == b, where the class's own __eq__ is asked -/
def eOEq (cn : Str) (F : Fun) (f g : Den) : Den := fun r => (fz (f r)).bind fun x r1 => (fz (g r1)).bind fun y r2 => match peek r2 x, peek r2 y with
  | some (.obj c _ _), some (.obj c2 _ _) => if c = cn ∧ c2 = cn then callR none F [x, y] r2 else .stuck
  | _, _ => .stuck
theorem backCmp {P : Value → Shared → Prop} {z : V} {v : Value} {s' : Shared} (r : RelV z v) (h : P v s') : PySem.W.CmpBack P v s' := by
  cases z with
  | non => obtain rfl : v = Value.none := r; exact h
  | bl b => obtain rfl : v = Value.bool b := r; exact h
  | int i => obtain ⟨t, rfl⟩ := (show ∃ t, v = Value.int i t from r); exact h
  | str x => obtain ⟨t, rfl⟩ := (show ∃ t, v = Value.str x t from r); exact h
  | byt b => obtain ⟨t, rfl⟩ := (show ∃ t, v = Value.bytes b t from r); exact h
  | flt b => obtain ⟨t, rfl⟩ := (show ∃ t, v = Value.float b t from r); exact h
  | ref a => obtain rfl : v = Value.ref a := r; exact h
  | ty n => obtain rfl : v = Value.type n := r; exact h
section
variable {X : Cx} {T : An} {W : WX} {k : Nat} {f' : Addr} {fd : FuncData} {ps : List Str} {F : Fun} {cn : Str} {a b : Expr} {f g : Den} {pos : Pos}
theorem oeq_two {s : L2.St} {H : Hp} {Q : VK} (h : tE X.K T W (eOEq cn F f g) s H Q) :
    tO X.K T W f s H fun x H1 => tO X.K T W g s H1 fun y H2 => ∃ a b dx dy fs gs, x = .ref a ∧ y = .ref b ∧ H2 a = some (.ins (He.ga X.K cn) dx fs) ∧ H2 b = some (.ins (He.ga X.K cn) dy gs) ∧ spF X.K none 2 F [x, y] H2 Q fun cls d H' => W cls d s H' := by
  obtain ⟨r, Z, S, h⟩ := h
  refine ⟨r, Z, S, (tG.bind fwdE h).mono fun v H1 h1 => ?_⟩
  obtain ⟨x, r1, Z1, S1, k1, f1, o1, h1⟩ := h1
  refine ⟨r1, Z1, S1, (tG.bind fwdE h1).mono fun w H2 h2 => ?_⟩
  obtain ⟨y, r2, Z2, S2, k2, f2, o2, h2⟩ := h2
  have o1' : RelF X.K T s (fun _ => none) r2 Z2 H2 v x := RelF.stay o1 S1 k2 f2
  have o2' : RelF X.K T s (fun _ => none) r2 Z2 H2 w y := RelF.stay o2 S2 (Kin.refl _) Frm.refl
  cases q1 : peek r2 x with
  | none => rw [q1] at h2; exact h2.elim
  | some d =>
    cases q2 : peek r2 y with
    | none => rw [q1, q2] at h2; cases d <;> exact h2.elim
    | some e =>
      rw [q1, q2] at h2
      cases d with
      | obj c ns ds => cases e with
        | obj c2 ns2 ds2 =>
          have h9 : tG X.K T W (RelE X.K T s) s (if c = cn ∧ c2 = cn then callR none F [x, y] r2 else .stuck) r2 Z2 H2 Q := h2
          clear h2
          by_cases hc : c = cn ∧ c2 = cn
          · rw [if_pos hc] at h9
            obtain ⟨rfl, rfl⟩ := hc
            obtain ⟨a, dx, hf, rfl, e1, e2, rr⟩ := o1'.con S2 q1
            obtain ⟨b, dy, hg, rfl, e3, e4, rs⟩ := o2'.con S2 q2
            exact ⟨a, b, dx, dy, hf, hg, rfl, rfl, e1, e3, call_core S2 (.cons o1' (.cons o2' .nil)) rfl h9⟩
          · rw [if_neg hc] at h9; exact h9.elim
        | _ => exact h2.elim
      | _ => exact h2.elim
theorem de_ownEq (ha : PE X a (tE X.K T W f)) (hb : PE X b (tE X.K T W g)) (hm : behindInMarks .Eq b = false) (hM : Meth X.K (He.ga X.K cn) "__eq__" f')
    (Fg : FnG X.prog X.w X.K X.mg X.base (CXW X) k f' fd ps (spF X.K none 2 F)) (hr : Room k X.A) (hc : Calm X.A) (hbd : BindG X.K fd ps 2 [] [0, 1] []) (tk : Takes X W) :
    PE X (.Compare a [.Eq] [b] pos) (tE X.K T W (eOEq cn F f g)) := ⟨fun pins s σ H Q I h => by
  refine wpAny_Compare1 (thn ((pe_fz ha).run pins s σ H _ I (oeq_two h)) fun v s1 z => ?_) hm
  obtain ⟨x, H1, I1, rx, q1⟩ := z
  refine thn ((pe_fz hb).run pins s1 σ H1 _ I1 q1) fun u s2 z => ?_
  obtain ⟨y, H2, I2, ry, a, b, dx, dy, fs, gs, ex, ey, e1, e2, q⟩ := z
  subst ex
  subst ey
  obtain rfl : v = Value.ref a := rx
  obtain rfl : u = Value.ref b := ry
  obtain ⟨mA, J, _⟩ := ins_get I2.hok e1
  obtain ⟨mB, J', _⟩ := ins_get I2.hok e2
  obtain ⟨od, J, _⟩ := J.look
  obtain ⟨od', J', _⟩ := J'.look
  obtain ⟨m, hF⟩ := I2.fr
  refine PySem.W.cmp_ofEq (PySem.W.cmp_K (op := .Eq) (tb := .ref (He.ga X.K cn)) hr.units0 hF I2.ok.mod.kin J J'.type (by simp [PySem.W.notFirst]) hM.at_ hM.fn ?_)
  have run := fn_at (n := 2) (ks := []) (p := [0, 1]) (dd := []) (us := [.ref a, .ref b]) (vs := [.ref a, .ref b]) (zs := []) (ws := []) Fg hr hc hbd tk I2 (.cons rfl (.cons rfl .nil)) .nil rfl rfl fun dvs hd => by
    have : dvs = [] := hd (fun _ => none)
    subst this
    exact q
  refine wpAny_mono run (fun w s' z => ?_) fun _ _ x => x
  obtain ⟨z', H', I', rz, qz⟩ := z
  exact backCmp rz ⟨z', H', I', rz, qz⟩⟩
end
end Ev
namespace Ev
open PySem PySem.Spec PyProof.Rows L2

/-! ### methods of a text: join, split, startswith -/
def strsOf : List D → Option (List Str)
  | [] => some []
  | .str s :: r => (strsOf r).map fun ys => s :: ys
  | _ => none
def joinD (a : Str) : D → Option RV
  | .lst ds => (strsOf ds).bind fun ys => if (ys.map (·.length)).sum + ys.length * a.length ≤ 16777216 then some (.val (.str (Txt.join a ys))) else none
  | .tup ds => (strsOf ds).bind fun ys => if (ys.map (·.length)).sum + ys.length * a.length ≤ 16777216 then some (.val (.str (Txt.join a ys))) else none
  | _ => none
def splitD (a : Str) : D → Option RV
  | .str b => if (b.length == 0) = false ∧ a.length + 2 ≤ most then some (.own (.lst ((Txt.split a b).map D.str))) else none
  | _ => none
def startsD (a : Str) : D → Option RV
  | .str b => some (.val (.bl (Txt.startswith a b)))
  | _ => none
def eSM (op : Str → D → Option RV) (f g : Den) : Den := fun r => (fz (f r)).bind fun x r1 => match peek r1 x with
  | some (.str a) => (fz (g r1)).bind fun y r2 => match peek r2 y with
    | some e => ofO (op a e) r2
    | none => .stuck
  | _ => .stuck
section
variable {K : Fr} {T : An} {W : WX} {op : Str → D → Option RV} {f g : Den}
theorem sm_two {R : Str → V → Hp → VK → Prop} (ho : ∀ (s : L2.St) (r : Env) (Z H : Hp) (a : Str) (w : V) (e : D) (x : RV) (Q : VK), Sim K T r Z s H → Con K Z H w e → op a e = some x → tG K T W (RelE K T s) s (.ok x r) r Z H Q → R a w H Q)
    {s : L2.St} {H : Hp} {Q : VK} (h : tE K T W (eSM op f g) s H Q) : tO K T W f s H fun v H1 => (∃ a, v = .str a) ∧ tO K T W g s H1 fun w H2 => ∃ a, v = .str a ∧ R a w H2 Q := by
  obtain ⟨r, Z, S, h⟩ := h
  refine ⟨r, Z, S, (tG.bind fwdE h).mono fun v H1 h1 => ?_⟩
  obtain ⟨x, r1, Z1, S1, k1, f1, o1, h1⟩ := h1
  cases q1 : peek r1 x with
  | none => rw [q1] at h1; exact h1.elim
  | some d =>
    rw [q1] at h1
    cases d with
    | str a =>
      have c1 : Con K Z1 H1 v (.str a) := o1.con S1 q1
      obtain rfl : v = V.str a := c1
      refine ⟨⟨a, rfl⟩, r1, Z1, S1, (tG.bind fwdE h1).mono fun w H2 h2 => ?_⟩
      obtain ⟨y, r2, Z2, S2, k2, f2, o2, h2⟩ := h2
      cases q2 : peek r2 y with
      | none => rw [q2] at h2; exact h2.elim
      | some e =>
        rw [q2] at h2
        have h2 : tG K T W (RelE K T s) s (ofO (op a e) r2) r2 Z2 H2 Q := h2
        cases q3 : op a e with
        | none => rw [q3] at h2; exact h2.elim
        | some z =>
          rw [q3] at h2
          exact ⟨a, rfl, ho s r2 Z2 H2 a w e z Q S2 (o2.con S2 q2) q3 h2⟩
    | _ => exact h1.elim
theorem repL_strs {Z : Hp} : ∀ (ys : List Str), RepL K Z (ys.map D.str) (ys.map V.str)
  | [] => rfl
  | y :: ys => ⟨V.str y, ys.map V.str, rfl, rfl, repL_strs ys⟩
theorem strs_rep {Z : Hp} : ∀ {ds : List D} {vs : List V} {ys : List Str}, strsOf ds = some ys → RepL K Z ds vs → vs = ys.map V.str
  | [], vs, ys, h, r => by
    have h : some ([] : List Str) = some ys := h
    cases h
    exact r
  | d :: ds, vs, ys, h, r => by
    obtain ⟨v, r', rfl, h1, h2⟩ := r
    cases d with
    | str s =>
      have h : (strsOf ds).map (fun ys => s :: ys) = some ys := h
      cases q : strsOf ds with
      | none => rw [q] at h; cases h
      | some zs =>
        rw [q] at h
        cases h
        obtain rfl : v = V.str s := h1
        rw [strs_rep q h2]; rfl
    | _ => cases h
end
section
variable {X : Cx} {T : An} {W : WX} {f g : Den} {o e : Expr} {apos pos : Pos}
theorem de_join (ho : PE X o (tE X.K T W f)) (he : PE X e (tE X.K T W g)) (hs : starEach [e] X.env = [(false, eval e X.env)]) (hbase : attributeBase o "join" X.env (eval o X.env) = eval o X.env) (hline : (apos.endLine == pos.line) = true) :
    PE X (.Call (.Attribute o "join" apos) [e] [] pos) (tE X.K T W (eSM joinD f g)) :=
  (L2.pe_join (pe_fz ho) (pe_fz he) hs hbase hline).less fun s H Q h => by
    obtain ⟨r, Z, S, h⟩ := sm_two (R := fun a w H Q => ∃ p, ∃ ys : List Str, w = .ref p ∧ (SqL X.K H p (ys.map V.str) ∨ SqT X.K H p (ys.map V.str)) ∧ (ys.map (·.length)).sum + ys.length * a.length ≤ 16777216 ∧ Q (.str (Txt.join a ys)) H) (fun s r Z H a w e x Q S c q h => by
      cases e with
      | lst ds =>
        have q : ((strsOf ds).bind fun ys => if (ys.map (·.length)).sum + ys.length * a.length ≤ 16777216 then some (RV.val (.str (Txt.join a ys))) else none) = some x := q
        cases q1 : strsOf ds with
        | none => rw [q1] at q; cases q
        | some ys =>
          rw [q1] at q
          have q : (if (ys.map (·.length)).sum + ys.length * a.length ≤ 16777216 then some (RV.val (.str (Txt.join a ys))) else none) = some x := q
          by_cases hz : (ys.map (·.length)).sum + ys.length * a.length ≤ 16777216
          · rw [if_pos hz] at q
            cases q
            obtain ⟨p, vs, rfl, e1, rr⟩ := c
            have := strs_rep q1 rr
            subst this
            exact ⟨p, ys, rfl, .inl (SqL.of e1), hz, tG.end S h rfl⟩
          · rw [if_neg hz] at q; cases q
      | tup ds =>
        have q : ((strsOf ds).bind fun ys => if (ys.map (·.length)).sum + ys.length * a.length ≤ 16777216 then some (RV.val (.str (Txt.join a ys))) else none) = some x := q
        cases q1 : strsOf ds with
        | none => rw [q1] at q; cases q
        | some ys =>
          rw [q1] at q
          have q : (if (ys.map (·.length)).sum + ys.length * a.length ≤ 16777216 then some (RV.val (.str (Txt.join a ys))) else none) = some x := q
          by_cases hz : (ys.map (·.length)).sum + ys.length * a.length ≤ 16777216
          · rw [if_pos hz] at q
            cases q
            obtain ⟨p, vs, rfl, e1, rr⟩ := c
            have := strs_rep q1 rr
            subst this
            exact ⟨p, ys, rfl, .inr (same_sqT S.sub e1), hz, tG.end S h rfl⟩
          · rw [if_neg hz] at q; cases q
      | _ => cases q) h
    refine ⟨r, Z, S, h.mono fun v H1 h1 => ?_⟩
    obtain ⟨ha, h1⟩ := h1
    refine ⟨ha, ?_⟩
    obtain ⟨r1, Z1, S1, h1⟩ := h1
    refine ⟨r1, Z1, S1, h1.mono fun w H2 h2 => ?_⟩
    obtain ⟨a, rfl, p, ys, rfl, h3, h4, h5⟩ := h2
    exact ⟨a, p, ys, rfl, rfl, h3, h4, h5⟩
theorem de_split (ho : PE X o (tE X.K T W f)) (he : PE X e (tE X.K T W g)) (hs : starEach [e] X.env = [(false, eval e X.env)]) (hbase : attributeBase o "split" X.env (eval o X.env) = eval o X.env) (hline : (apos.endLine == pos.line) = true) :
    PE X (.Call (.Attribute o "split" apos) [e] [] pos) (tE X.K T W (eSM splitD f g)) :=
  (L2.pe_split (pe_fz ho) (pe_fz he) hs hbase hline).less fun s H Q h => by
    obtain ⟨r, Z, S, h⟩ := sm_two (R := fun a w H Q => ∃ b, w = .str b ∧ (b.length == 0) = false ∧ a.length + 2 ≤ sizeLine ∧ rNewStrs (Txt.split a b) H Q) (fun s r Z H a w e x Q S c q h => by
      cases e with
      | str b =>
        have q : (if (b.length == 0) = false ∧ a.length + 2 ≤ most then some (RV.own (.lst ((Txt.split a b).map D.str))) else none) = some x := q
        by_cases hz : (b.length == 0) = false ∧ a.length + 2 ≤ most
        · rw [if_pos hz] at q
          cases q
          obtain rfl : w = V.str b := c
          exact ⟨b, rfl, hz.1, most_le hz.2, fun p hp => h.new S hp ⟨(S.free hp).2.1, _, upd_same, repL_strs _⟩⟩
        · rw [if_neg hz] at q; cases q
      | _ => cases q) h
    refine ⟨r, Z, S, h.mono fun v H1 h1 => ?_⟩
    obtain ⟨ha, h1⟩ := h1
    refine ⟨ha, ?_⟩
    obtain ⟨r1, Z1, S1, h1⟩ := h1
    refine ⟨r1, Z1, S1, h1.mono fun w H2 h2 => ?_⟩
    obtain ⟨a, rfl, b, rfl, h3, h4, h5⟩ := h2
    exact ⟨a, b, rfl, rfl, h3, h4, h5⟩
theorem de_starts (ho : PE X o (tE X.K T W f)) (he : PE X e (tE X.K T W g)) (hs : starEach [e] X.env = [(false, eval e X.env)]) (hbase : attributeBase o "startswith" X.env (eval o X.env) = eval o X.env) (hline : (apos.endLine == pos.line) = true) :
    PE X (.Call (.Attribute o "startswith" apos) [e] [] pos) (tE X.K T W (eSM startsD f g)) :=
  (L2.pe_m1 F.slot_str_startswith F.type_str_startswith mt_startswith (pe_fz ho) (pe_fz he) hs hbase hline).less fun s H Q h => by
    obtain ⟨r, Z, S, h⟩ := sm_two (R := fun a w H Q => ∃ b, w = .str b ∧ Q (.bl (Txt.startswith a b)) H) (fun s r Z H a w e x Q S c q h => by
      cases e with
      | str b =>
        have q : some (RV.val (.bl (Txt.startswith a b))) = some x := q
        cases q
        obtain rfl : w = V.str b := c
        exact ⟨b, rfl, tG.end S h rfl⟩
      | _ => cases q) h
    refine ⟨r, Z, S, h.mono fun v H1 h1 => ?_⟩
    obtain ⟨ha, h1⟩ := h1
    refine ⟨ha, ?_⟩
    obtain ⟨r1, Z1, S1, h1⟩ := h1
    refine ⟨r1, Z1, S1, h1.mono fun w H2 h2 => ?_⟩
    obtain ⟨a, rfl, b, rfl, h3⟩ := h2
    exact ⟨a, b, rfl, rfl, h3⟩
end
end Ev
namespace Ev
open PySem PySem.Spec PyProof.Rows L2

/-! ### a, b = x, y of two local names: stored from the back -/
section
variable {X : Cx} {i j k : Nat} {a b : Str} {e : Expr} {te : TE} {pa pb tp pos : Pos}
theorem ps_asgS (hc : X.calm = true) (he : PE X e te) (hN : X.N.Nodup) (hi : X.N[i]? = some a) (ha : Loc X.env.scope a) (hfa : X.fn a = true ∨ X.env.scope.names.lookup a = some .local)
    (hj : X.N[j]? = some b) (hb : Loc X.env.scope b) (hfb : X.fn b = true ∨ X.env.scope.names.lookup b = some .local) (hne : i ≠ j)
    (hs : swapsWithSole [.Tuple [.Name a pa, .Name b pb] k tp] e pos.line X.env = pure false) (hw : swappedStores [.Tuple [.Name a pa, .Name b pb] k tp] e X.env = pure (some [a, b])) :
    PS X (.Assign [.Tuple [.Name a pa, .Name b pb] k tp] e pos) (tAsg te (gTup X.K 2 (gCons (gName i) (gCons (gName j) gNil)))) := by
  refine ⟨fun pins s σ H D I h => ?_⟩
  refine Assign_Tuple_swapped (names := [a, b]) (thn (he.run pins s σ H _ I h) fun v s1 z => ?_) hs hw
  obtain ⟨x, H1, I1, r1, ad, xs, e1, hq, hl, v1, r2, e2, z⟩ := z
  obtain ⟨v2, r3, e3, z⟩ := (show ∃ v r, r2 = v :: r ∧ gName j v (σ.set i (some v1)) H1 (fun σ' H' => gNil r σ' H' D.nx) from z)
  obtain ⟨e4, q⟩ := (show r3 = [] ∧ D.nx ((σ.set i (some v1)).set j (some v2)) H1 from z)
  subst e4 e3 e2 e1
  obtain rfl : v = Value.ref ad := r1
  obtain ⟨its, rv, ht, hz⟩ := I1.tuple hq
  cases rv with
  | cons p1 rv2 => cases rv2 with
    | cons p2 rv3 =>
      cases rv3
      rename_i u1 u2
      have un : ∀ {Q' : List Value → Shared → Prop}, (∀ h', Heap.ExtBut s1.heap.objs.size s1.heap h' → Q' [u1, u2] { s1 with heap := h' }) → wpAny (model X.prog X.w) X.A (unpackItems (.ref ad) 2 none) Q' X.xe s1 := fun {Q'} h => by
        have hd := I1.ok.hd hc
        have z := @unpackItems_tuple X.prog X.w X.A X.xe s1 ad [u1, u2].toArray Q' hd ht
        have sz : ([u1, u2].toArray).size = 2 := rfl
        rw [sz] at z
        exact z h
      refine un (fun h' hx => ?_)
      have I2 : Inv X pins σ H1 { s1 with heap := h' } := I1.kept (t' := s1.toks) fun b o e => hx b o (Nat.ne_of_lt (Heap.lt_size e)) e
      have ea : assignInOrder (([a, b] : List Str).reverse.map fun n => bindName X.env n) ([u1, u2] : List Value).reverse = assignInOrder [bindName X.env b, bindName X.env a] [u2, u1] := rfl
      rw [ea]
      refine assignInOrder_cons (wpAny_bindName (store_ok I2 hN hj hb p2 (fun s3 I3 => ?_) hfb))
      refine assignInOrder_cons (wpAny_bindName (store_ok I3 hN hi ha p1 (fun s4 I4 => assignInOrder_nil ?_) hfa))
      rw [List.set_comm _ _ (fun z => hne z.symm)] at I4
      exact ⟨_, _, I4, q⟩
variable {T : An} {W : WX} {f : Den}
theorem ds_asgS (hc : X.calm = true) (he : PE X e (tE X.K T W f)) (hN : X.N.Nodup) (hi : X.N[i]? = some a) (ha : Loc X.env.scope a) (hfa : X.fn a = true ∨ X.env.scope.names.lookup a = some .local)
    (hj : X.N[j]? = some b) (hb : Loc X.env.scope b) (hfb : X.fn b = true ∨ X.env.scope.names.lookup b = some .local) (hne : i ≠ j)
    (hs : swapsWithSole [.Tuple [.Name a pa, .Name b pb] k tp] e pos.line X.env = pure false) (hw : swappedStores [.Tuple [.Name a pa, .Name b pb] k tp] e X.env = pure (some [a, b])) :
    PS X (.Assign [.Tuple [.Name a pa, .Name b pb] k tp] e pos) (tS X.K T W (sAsg (gTp (gsLen 2 (gsCons (gNm i) (gsCons (gNm j) gsNil)))) f)) :=
  (ps_asgS hc (pe_fz he) hN hi ha hfa hj hb hfb hne hs hw).less fun D s H h => by
  obtain ⟨r, Z, S, h⟩ := h
  refine ⟨r, Z, S, (tG.stm S h).mono fun v H1 h1 => ?_⟩
  obtain ⟨x, r1, Z1, S1, k1, f1, o1, h1⟩ := h1
  cases p : take x with
  | none => rw [p] at h1; exact h1.elim
  | some d =>
    rw [p] at h1
    have h1 : tGS X.K T W (match gTp (gsLen 2 (gsCons (gNm i) (gsCons (gNm j) gsNil))) d r1 with | some r2 => .nx r2 | none => .stuck) Z1 D := h1
    cases q : gTp (gsLen 2 (gsCons (gNm i) (gsCons (gNm j) gsNil))) d r1 with
    | none => rw [q] at h1; exact h1.elim
    | some r2 =>
      rw [q] at h1
      have rp := o1.rep p
      cases d with
      | tup xs =>
        obtain ⟨ad, vs, rfl, c, rr⟩ := rp
        have q : (if xs.length = 2 then gsCons (gNm i) (gsCons (gNm j) gsNil) xs r1 else none) = some r2 := q
        by_cases hl : xs.length = 2
        · rw [if_pos hl] at q
          match xs, hl, rr, q with
          | [d1, d2], _, rr, q =>
            obtain ⟨w1, vr, rfl, g1, rr⟩ := rr
            obtain ⟨w2, vr2, rfl, g2, rr⟩ := rr
            obtain rfl : vr2 = [] := rr
            have q : (gNm i d1 r1).bind (fun r => (gNm j d2 r).bind fun r => some r) = some r2 := q
            cases q1 : gNm i d1 r1 with
            | none => rw [q1] at q; cases q
            | some ra =>
              rw [q1] at q
              have q : (gNm j d2 ra).bind (fun r => some r) = some r2 := q
              cases q2 : gNm j d2 ra with
              | none => rw [q2] at q; cases q
              | some rb =>
                rw [q2] at q
                cases q
                have q1 : (if noIno r1 i = true then some (r1.set i (Slot.val d1)) else none) = some ra := q1
                have q2 : (if noIno ra j = true then some (ra.set j (Slot.val d2)) else none) = some r2 := q2
                by_cases n1 : noIno r1 i = true
                · rw [if_pos n1] at q1
                  cases q1
                  by_cases n2 : noIno (r1.set i (Slot.val d1)) j = true
                  · rw [if_pos n2] at q2
                    cases q2
                    exact ⟨ad, [w1, w2], rfl, same_sqT S1.sub c, rfl, w1, [w2], rfl, w2, [], rfl, rfl, h1 _ H1 Z1 ((S1.setVal g1).setVal g2) (Same.refl _)⟩
                  · rw [if_neg n2] at q2; cases q2
                · rw [if_neg n1] at q1; cases q1
        · rw [if_neg hl] at q; cases q
      | _ => cases q
end
end Ev
namespace Ev
open PySem PySem.Spec PyProof.Rows L2
def top (i : Nat) : Stmt := PySem.Challenge.pw_everypart_k62_texts_written_and_read.main.body.getD i (.Pass ⟨0, 0, 0, 0⟩)
abbrev fuel : Nat := 1000000
def D__law_box : He.DefD := ⟨("_law_box", none), "_law_box", "_law_box", defArgs (top 29), defBody (top 29), defScope (top 29), [], []⟩
def D__law_draw : He.DefD := ⟨("_law_draw", none), "_law_draw", "_law_draw", defArgs (top 30), defBody (top 30), defScope (top 30), [], []⟩
def D_is_integer : He.DefD := ⟨("is_integer", none), "is_integer", "is_integer", defArgs (top 8), defBody (top 8), defScope (top 8), [], []⟩
def D_is_between : He.DefD := ⟨("is_between", none), "is_between", "is_between", defArgs (top 9), defBody (top 9), defScope (top 9), [], []⟩
def D_is_edge : He.DefD := ⟨("is_edge", none), "is_edge", "is_edge", defArgs (top 13), defBody (top 13), defScope (top 13), [], []⟩
def D_wrong_edge : He.DefD := ⟨("wrong_edge", none), "wrong_edge", "wrong_edge", defArgs (top 14), defBody (top 14), defScope (top 14), [], []⟩
def D_mask_of : He.DefD := ⟨("mask_of", none), "mask_of", "mask_of", defArgs (top 10), defBody (top 10), defScope (top 10), [], []⟩
def D_masks_of : He.DefD := ⟨("masks_of", none), "masks_of", "masks_of", defArgs (top 15), defBody (top 15), defScope (top 15), [], []⟩
def D_Graph___init__ : He.DefD := ⟨("Graph", some "__init__"), "__init__", "Graph.__init__", defArgs (inClass (top 20) 0), defBody (inClass (top 20) 0), defScope (inClass (top 20) 0), [], []⟩
def D_InvalidGraph___init__ : He.DefD := ⟨("InvalidGraph", some "__init__"), "__init__", "InvalidGraph.__init__", defArgs (inClass (top 4) 0), defBody (inClass (top 4) 0), defScope (inClass (top 4) 0), [], []⟩
def D__law_edges : He.DefD := ⟨("_law_edges", none), "_law_edges", "_law_edges", defArgs (top 31), defBody (top 31), defScope (top 31), [], []⟩
def D__law_written : He.DefD := ⟨("_law_written", none), "_law_written", "_law_written", defArgs (top 39), defBody (top 39), defScope (top 39), [], []⟩
def D_write_graph : He.DefD := ⟨("write_graph", none), "write_graph", "write_graph", defArgs (top 23), defBody (top 23), defScope (top 23), [], []⟩
def D_read_number : He.DefD := ⟨("read_number", none), "read_number", "read_number", defArgs (top 24), defBody (top 24), defScope (top 24), [], []⟩
def D_read_size : He.DefD := ⟨("read_size", none), "read_size", "read_size", defArgs (top 26), defBody (top 26), defScope (top 26), [], []⟩
def D_read_edge : He.DefD := ⟨("read_edge", none), "read_edge", "read_edge", defArgs (top 25), defBody (top 25), defScope (top 25), [], []⟩
def D_read_graph : He.DefD := ⟨("read_graph", none), "read_graph", "read_graph", defArgs (top 27), defBody (top 27), defScope (top 27), [], []⟩
def D_InvalidText___init__ : He.DefD := ⟨("InvalidText", some "__init__"), "__init__", "InvalidText.__init__", defArgs (inClass (top 5) 0), defBody (inClass (top 5) 0), defScope (inClass (top 5) 0), [], []⟩
def D_Graph___eq__ : He.DefD := ⟨("Graph", some "__eq__"), "__eq__", "Graph.__eq__", defArgs (inClass (top 20) 6), defBody (inClass (top 20) 6), defScope (inClass (top 20) 6), [], []⟩
def D__law_right : He.DefD := ⟨("_law_right", none), "_law_right", "_law_right", defArgs (top 40), defBody (top 40), defScope (top 40), [], []⟩
def D__law_near : He.DefD := ⟨("_law_near", none), "_law_near", "_law_near", defArgs (top 32), defBody (top 32), defScope (top 32), [], []⟩
def D__law_order : He.DefD := ⟨("_law_order", none), "_law_order", "_law_order", defArgs (top 33), defBody (top 33), defScope (top 33), [], []⟩
def D__law_joined : He.DefD := ⟨("_law_joined", none), "_law_joined", "_law_joined", defArgs (top 34), defBody (top 34), defScope (top 34), [], []⟩
def D__law_graph : He.DefD := ⟨("_law_graph", none), "_law_graph", "_law_graph", defArgs (top 35), defBody (top 35), defScope (top 35), [], []⟩
def D__law_all : He.DefD := ⟨("_law_all", none), "_law_all", "_law_all", defArgs (top 41), defBody (top 41), defScope (top 41), [], []⟩
def D_law : He.DefD := ⟨("law", none), "law", "law", defArgs (top 42), defBody (top 42), defScope (top 42), [], []⟩
def dfs : List He.DefD := [D__law_box, D__law_draw, D_is_integer, D_is_between, D_is_edge, D_wrong_edge, D_mask_of, D_masks_of, D_Graph___init__, D_InvalidGraph___init__, D__law_edges, D__law_written, D_write_graph, D_read_number, D_read_size, D_read_edge, D_read_graph, D_InvalidText___init__, D_Graph___eq__, D__law_right, D__law_near, D__law_order, D__law_joined, D__law_graph, D__law_all, D_law]
def fas : List He.Fa := [.free "int", .free "len", .free "range", .free "abs", .free "isinstance", .free "bool", .glo "is_integer", .free "tuple", .glo "is_between", .free "list", .free "enumerate", .glo "is_edge", .free "sum", .glo "mask_of", .int "MOST_VERTICES_graphs" 24, .glo "InvalidGraph", .glo "wrong_edge", .cls "Graph", .noat "Graph" "size", .noat "Graph" "edges", .noat "Graph" "vertices", .glo "masks_of", .noat "Graph" "masks", .free "str", .glo "_law_edges", .int "MOST_VERTICES_graphtexts" 24, .glo "read_number", .glo "InvalidText", .glo "read_size", .glo "read_edge", .mkr "Graph", .glo "Graph", .glo "_law_written", .glo "write_graph", .glo "read_graph", .free "repr", .meth "Graph" "__eq__", .glo "_law_draw", .free "max", .glo "_law_order", .glo "_law_joined", .glo "_law_near", .glo "_law_box", .glo "_law_graph", .glo "_law_right", .glo "_law_all", .glo "GraphError", .exm "InvalidGraph" "GraphError" true, .exm "InvalidText" "GraphError" true, .glo "law"]
def errs : List (Str × List Str) := [("InvalidGraph", ["part", "place"]), ("InvalidText", ["text", "at"])]
def ISI : List Str := ["Graph"]
def gtups : List (Str × List Int) := []
def exB (K : Fr) : Bool := errs.all (fun p => errB K p.1 p.2) && (isiB K ISI && gtups.all (fun p => tupB K p.1 p.2))
abbrev Wd1 (K : Fr) (mg : Str → Option Value) : Prop := Wd fas dfs exB K mg
abbrev FnP (K : Fr) (d : He.DefD) (fd : FuncData) : Prop := FunD K d.name d.qual d.params d.body d.scope (d.dvs K) (d.kws K) (He.fAd K d.at_) fd
section
variable {P : Program} {w : World} {K : Fr} {mg : Str → Option Value} {base : Heap}
theorem ers (D : Wd1 K mg) (i : Nat) (p : Str × List Str) (h : errs[i]? = some p) : ErrK K p.1 p.2 := errB_ok (List.all_eq_true.mp (Bool.and_eq_true_iff.mp D.ex).1 p (List.mem_of_getElem? h))
theorem isk (D : Wd1 K mg) : IsiK K ISI := isiB_ok (Bool.and_eq_true_iff.mp (Bool.and_eq_true_iff.mp D.ex).2).1
theorem er_InvalidGraph (D : Wd1 K mg) : ErrK K "InvalidGraph" ["part", "place"] := ers D 0 (_, _) rfl
theorem er_InvalidText (D : Wd1 K mg) : ErrK K "InvalidText" ["text", "at"] := ers D 1 (_, _) rfl
theorem sc_InvalidGraph___init__ : FnScope ["self", "part", "place"] ["self", "part", "place"] (defScope (inClass (top 4) 0)) := ⟨rfl, rfl, rfl, by decide +kernel, rfl, by decide +kernel, by decide +kernel⟩
theorem sc_InvalidText___init__ : FnScope ["self", "text", "at"] ["self", "text", "at"] (defScope (inClass (top 5) 0)) := ⟨rfl, rfl, rfl, by decide +kernel, rfl, by decide +kernel, by decide +kernel⟩
theorem sc__law_box : FnScope ["script", "cell"] ["script"] (defScope (top 29)) := ⟨rfl, rfl, rfl, by decide +kernel, rfl, by decide +kernel, by decide +kernel⟩
@[irreducible] def d__law_box : DenS := sRet (eLst (dCons (eComp (iOf (eVar 0)) [1] (gNm 1) (cTest (bYes) (cElt (eFn intD1 (dCons (eVar 1) (dNil)))))) (dCons (eC (.int 0)) (dCons (eC (.int 0)) (dCons (eC (.int 0)) (dNil))))))
def F__law_box : Fun := runF none 2 d__law_box
theorem ok__law_box (D : Wd1 K mg) {fd : FuncData} (Fd : FnP K D__law_box fd) : FnG P w K mg base (L2.CX P w) 1 (He.fAd K D__law_box.at_) fd ["script"] (spF K none 1 F__law_box) := by
  unfold F__law_box d__law_box
  exact fun_ok Fd sc__law_box rfl rfl fun cdv A outer s H T E hr hc =>
    have nd := sc__law_box.nd
    ds_one (ds_ret (de_lst (da_cons (de_comp (own := [("cell", 1)]) (fp := [1]) rfl nd (show BlkOk ["script", "cell"] (defScope (top 29)) _ _ from ⟨rfl, by decide +kernel, by decide +kernel, by decide +kernel, by decide +kernel⟩) (by decide) (foot_nm (by decide)) (di_of (de_var (pv 0))) (fun s H C cl fp => dg_nm (by decide) nd rfl (by first | exact Or.inl rfl | exact Or.inr rfl) (by first | exact Or.inl rfl | exact Or.inr rfl)) (fun s H C cl fp => dts_nil) (fun s H C cl fp => de_bt call_int1 fn_int1 rfl (D.fr 0 _ rfl) bt_int (da_cons (de_var (pv 1)) (da_nil) rfl) (by decide) (by decide) rfl rfl) (fun _ => rfl)) (da_cons (de_c pe_int (fun _ => rfl)) (da_cons (de_c pe_int (fun _ => rfl)) (da_cons (de_c pe_int (fun _ => rfl)) (da_nil) rfl) rfl) rfl) rfl)))
theorem sc__law_draw : FnScope ["box", "limit", "cells", "k", "cell", "mixed", "digit"] ["box", "limit"] (defScope (top 30)) := ⟨rfl, rfl, rfl, by decide +kernel, rfl, by decide +kernel, by decide +kernel⟩
@[irreducible] def d__law_draw : DenS := sSeq (sFix 2 (eBin idxD (eVar 0) (eC (.int 0)))) (sSeq (sPut 0 (eC (.int 1)) (eBin addD (eBin idxD (eVar 0) (eC (.int 1))) (eC (.int 1)))) (sSeq (sFor (iFn range1D (dCons (eFn lenD (dCons (eVar 2) (dNil))) (dNil))) (gNm 3) (sIf (tAnd' (tBl (eBin ceqD (eBin idxD (eVar 0) (eC (.int 2))) (eC (.int 0)))) (tBl (eBin cltD (eBin idxD (eVar 0) (eC (.int 3))) (eFn lenD (dCons (eVar 2) (dNil)))))) (sSeq (sIf (tBl (eBin cgeD (eFn absD (dCons (eBin idxD (eVar 2) (eBin idxD (eVar 0) (eC (.int 3)))) (dNil))) (eBin powD (eC (.int 10)) (eC (.int 18))))) (sPut 0 (eC (.int 2)) (eFn absD (dCons (eBin idxD (eVar 2) (eBin idxD (eVar 0) (eC (.int 3)))) (dNil)))) (sNx)) (sPut 0 (eC (.int 3)) (eBin addD (eBin idxD (eVar 0) (eC (.int 3))) (eC (.int 1))))) (sBk))) (sSeq (sIf (tBl (eBin cgtD (eBin idxD (eVar 0) (eC (.int 2))) (eC (.int 0)))) (sSeq (sFix 6 (eBin modD (eFn intD1 (dCons (eBin idxD (eVar 0) (eC (.int 2))) (dNil))) (eVar 1))) (sSeq (sPut 0 (eC (.int 2)) (eBin fdivD (eBin idxD (eVar 0) (eC (.int 2))) (eVar 1))) (sRet (eVar 6)))) (sNx)) (sSeq (sFix 4 (eC (.int 0))) (sSeq (sIf (tBl (eBin cgtD (eFn lenD (dCons (eVar 2) (dNil))) (eC (.int 0)))) (sFix 4 (eFn absD (dCons (eBin idxD (eVar 2) (eBin modD (eFn intD1 (dCons (eBin idxD (eVar 0) (eC (.int 1))) (dNil))) (eFn lenD (dCons (eVar 2) (dNil))))) (dNil)))) (sNx)) (sSeq (sFix 5 (eBin modD (eFn intD1 (dCons (eBin addD (eBin addD (eBin mulD (eVar 4) (eC (.int 48271))) (eBin mulD (eBin idxD (eVar 0) (eC (.int 1))) (eC (.int 69621)))) (eC (.int 7))) (dNil))) (eC (.int 2147483647)))) (sSeq (sFix 5 (eBin modD (eFn intD1 (dCons (eBin addD (eBin addD (eBin mulD (eVar 5) (eVar 5)) (eBin mulD (eBin idxD (eVar 0) (eC (.int 1))) (eC (.int 7919)))) (eVar 4)) (dNil))) (eC (.int 1000003)))) (sSeq (sFix 5 (eBin modD (eFn intD1 (dCons (eBin addD (eBin addD (eBin mulD (eBin mulD (eVar 5) (eVar 5)) (eC (.int 16807))) (eBin fdivD (eVar 4) (eC (.int 5)))) (eC (.int 11))) (dNil))) (eC (.int 998244353)))) (sRet (eBin modD (eFn intD1 (dCons (eBin fdivD (eVar 5) (eC (.int 3))) (dNil))) (eVar 1)))))))))))
def F__law_draw : Fun := runF (some 0) 7 d__law_draw
theorem ok__law_draw (D : Wd1 K mg) {fd : FuncData} (Fd : FnP K D__law_draw fd) : FnG P w K mg base (L2.CX P w) 1 (He.fAd K D__law_draw.at_) fd ["box", "limit"] (spF K (some 0) 2 F__law_draw) := by
  unfold F__law_draw d__law_draw
  exact fun_ok Fd sc__law_draw rfl rfl fun cdv A outer s H T E hr hc =>
    have nd := sc__law_draw.nd
    ds_cons (ds_fix nd rfl (Or.inl rfl) (de_idx (ru hr (by decide)) (fun _ _ => rfl) (de_var (pv 0)) (de_c pe_int (fun _ => rfl))) rfl (Or.inl rfl)) (ds_cons (ds_put (ru hr (by decide)) (pv 0) (de_c pe_int (fun _ => rfl)) (de_add (de_idx (ru hr (by decide)) (fun _ _ => rfl) (de_var (pv 0)) (de_c pe_int (fun _ => rfl))) (de_c pe_int (fun _ => rfl))) (fun _ => rfl) rfl rfl rfl) (ds_cons (ds_for (fp := [3]) hp_of rfl (di_range1 rfl (D.fr 2 _ rfl) (da_cons (de_bf cr_lenA fn_len rfl (D.fr 1 _ rfl) bt_len (da_cons (de_var (pv 2)) (da_nil) rfl) (by decide) (by decide) rfl rfl) (da_nil) rfl) rfl) (dg_nm (by decide) nd rfl (Or.inl rfl) (by first | exact Or.inl rfl | exact Or.inr rfl)) (ds_one (ds_if (L2.PW.pt (dw_and (CmpOk.pt (ck_eq (ru hr (by decide))) (nomark _) (de_idx (ru hr (by decide)) (fun _ _ => rfl) (de_var (pv 0)) (de_c pe_int (fun _ => rfl))) (de_c pe_int (fun _ => rfl))) (dw_and1 (CmpOk.pt (ck_lt (ru0 hr)) (nomark _) (de_idx (ru hr (by decide)) (fun _ _ => rfl) (de_var (pv 0)) (de_c pe_int (fun _ => rfl))) (de_bf cr_lenA fn_len rfl (D.fr 1 _ rfl) bt_len (da_cons (de_var (pv 2)) (da_nil) rfl) (by decide) (by decide) rfl rfl))))) (ds_cons (ds_if (CmpOk.pt ck_ge (nomark _) (de_bf call_abs fn_abs rfl (D.fr 3 _ rfl) bt_abs (da_cons (de_idx (ru hr (by decide)) (fun _ _ => rfl) (de_var (pv 2)) (de_idx (ru hr (by decide)) (fun _ _ => rfl) (de_var (pv 0)) (de_c pe_int (fun _ => rfl)))) (da_nil) rfl) (by decide) (by decide) rfl rfl) (de_pow (de_c pe_int (fun _ => rfl)) (de_c pe_int (fun _ => rfl)))) (ds_one (ds_put (ru hr (by decide)) (pv 0) (de_c pe_int (fun _ => rfl)) (de_bf call_abs fn_abs rfl (D.fr 3 _ rfl) bt_abs (da_cons (de_idx (ru hr (by decide)) (fun _ _ => rfl) (de_var (pv 2)) (de_idx (ru hr (by decide)) (fun _ _ => rfl) (de_var (pv 0)) (de_c pe_int (fun _ => rfl)))) (da_nil) rfl) (by decide) (by decide) rfl rfl) (fun _ => rfl) rfl rfl rfl)) (ds_nil)) (ds_one (ds_put (ru hr (by decide)) (pv 0) (de_c pe_int (fun _ => rfl)) (de_add (de_idx (ru hr (by decide)) (fun _ _ => rfl) (de_var (pv 0)) (de_c pe_int (fun _ => rfl))) (de_c pe_int (fun _ => rfl))) (fun _ => rfl) rfl rfl rfl))) (ds_one (ds_break)))) (fun _ => rfl)) (ds_cons (ds_if (CmpOk.pt ck_gt (nomark _) (de_idx (ru hr (by decide)) (fun _ _ => rfl) (de_var (pv 0)) (de_c pe_int (fun _ => rfl))) (de_c pe_int (fun _ => rfl))) (ds_cons (ds_fix nd rfl (Or.inl rfl) (de_mod (de_bt call_int1 fn_int1 rfl (D.fr 0 _ rfl) bt_int (da_cons (de_idx (ru hr (by decide)) (fun _ _ => rfl) (de_var (pv 0)) (de_c pe_int (fun _ => rfl))) (da_nil) rfl) (by decide) (by decide) rfl rfl) (de_var (pv 1))) rfl (Or.inl rfl)) (ds_cons (ds_put (ru hr (by decide)) (pv 0) (de_c pe_int (fun _ => rfl)) (de_fdiv (de_idx (ru hr (by decide)) (fun _ _ => rfl) (de_var (pv 0)) (de_c pe_int (fun _ => rfl))) (de_var (pv 1))) (fun _ => rfl) rfl rfl rfl) (ds_one (ds_ret (de_var (pv 6)))))) (ds_nil)) (ds_cons (ds_fix nd rfl (Or.inl rfl) (de_c pe_int (fun _ => rfl)) rfl (Or.inl rfl)) (ds_cons (ds_if (CmpOk.pt ck_gt (nomark _) (de_bf cr_lenA fn_len rfl (D.fr 1 _ rfl) bt_len (da_cons (de_var (pv 2)) (da_nil) rfl) (by decide) (by decide) rfl rfl) (de_c pe_int (fun _ => rfl))) (ds_one (ds_fix nd rfl (Or.inl rfl) (de_bf call_abs fn_abs rfl (D.fr 3 _ rfl) bt_abs (da_cons (de_idx (ru hr (by decide)) (fun _ _ => rfl) (de_var (pv 2)) (de_mod (de_bt call_int1 fn_int1 rfl (D.fr 0 _ rfl) bt_int (da_cons (de_idx (ru hr (by decide)) (fun _ _ => rfl) (de_var (pv 0)) (de_c pe_int (fun _ => rfl))) (da_nil) rfl) (by decide) (by decide) rfl rfl) (de_bf cr_lenA fn_len rfl (D.fr 1 _ rfl) bt_len (da_cons (de_var (pv 2)) (da_nil) rfl) (by decide) (by decide) rfl rfl))) (da_nil) rfl) (by decide) (by decide) rfl rfl) rfl (Or.inl rfl))) (ds_nil)) (ds_cons (ds_fix nd rfl (Or.inl rfl) (de_mod (de_bt call_int1 fn_int1 rfl (D.fr 0 _ rfl) bt_int (da_cons (de_add (de_add (de_mul (de_var (pv 4)) (de_c pe_int (fun _ => rfl))) (de_mul (de_idx (ru hr (by decide)) (fun _ _ => rfl) (de_var (pv 0)) (de_c pe_int (fun _ => rfl))) (de_c pe_int (fun _ => rfl)))) (de_c pe_int (fun _ => rfl))) (da_nil) rfl) (by decide) (by decide) rfl rfl) (de_c pe_int (fun _ => rfl))) rfl (Or.inl rfl)) (ds_cons (ds_fix nd rfl (Or.inl rfl) (de_mod (de_bt call_int1 fn_int1 rfl (D.fr 0 _ rfl) bt_int (da_cons (de_add (de_add (de_mul (de_var (pv 5)) (de_var (pv 5))) (de_mul (de_idx (ru hr (by decide)) (fun _ _ => rfl) (de_var (pv 0)) (de_c pe_int (fun _ => rfl))) (de_c pe_int (fun _ => rfl)))) (de_var (pv 4))) (da_nil) rfl) (by decide) (by decide) rfl rfl) (de_c pe_int (fun _ => rfl))) rfl (Or.inl rfl)) (ds_cons (ds_fix nd rfl (Or.inl rfl) (de_mod (de_bt call_int1 fn_int1 rfl (D.fr 0 _ rfl) bt_int (da_cons (de_add (de_add (de_mul (de_mul (de_var (pv 5)) (de_var (pv 5))) (de_c pe_int (fun _ => rfl))) (de_fdiv (de_var (pv 4)) (de_c pe_int (fun _ => rfl)))) (de_c pe_int (fun _ => rfl))) (da_nil) rfl) (by decide) (by decide) rfl rfl) (de_c pe_int (fun _ => rfl))) rfl (Or.inl rfl)) (ds_one (ds_ret (de_mod (de_bt call_int1 fn_int1 rfl (D.fr 0 _ rfl) bt_int (da_cons (de_fdiv (de_var (pv 5)) (de_c pe_int (fun _ => rfl))) (da_nil) rfl) (by decide) (by decide) rfl rfl) (de_var (pv 1)))))))))))))
theorem sc_is_integer : FnScope ["value"] ["value"] (defScope (top 8)) := ⟨rfl, rfl, rfl, by decide +kernel, rfl, by decide +kernel, by decide +kernel⟩
@[irreducible] def d_is_integer : DenS := sRet (eAnd (eFn (isiD ISI) (dCons (eVar 0) (dCons (eC (.ty "int")) (dNil)))) (eNot (eFn (isiD ISI) (dCons (eVar 0) (dCons (eC (.ty "bool")) (dNil))))))
def F_is_integer : Fun := runF none 1 d_is_integer
theorem ok_is_integer (D : Wd1 K mg) {fd : FuncData} (Fd : FnP K D_is_integer fd) : FnG P w K mg base (L2.CX P w) 1 (He.fAd K D_is_integer.at_) fd ["value"] (spF K none 1 F_is_integer) := by
  unfold F_is_integer d_is_integer
  exact fun_ok Fd sc_is_integer rfl rfl fun cdv A outer s H T E hr hc =>
    have nd := sc_is_integer.nd
    ds_one (ds_ret (de_and' (de_bf cr_isi (fn_isi (isk D)) rfl (D.fr 4 _ rfl) bt_isinstance (da_cons (de_var (pv 0)) (da_cons (de_c (v := .ty "int") (pe_bltn rfl (D.fr 0 _ rfl) bt_int rfl) (fun _ => rfl)) (da_nil) rfl) rfl) (by decide) (by decide) rfl rfl) (de_one (de_not (de_bf cr_isi (fn_isi (isk D)) rfl (D.fr 4 _ rfl) bt_isinstance (da_cons (de_var (pv 0)) (da_cons (de_c (v := .ty "bool") (pe_bltn rfl (D.fr 5 _ rfl) bt_bool rfl) (fun _ => rfl)) (da_nil) rfl) rfl) (by decide) (by decide) rfl rfl)))))
theorem sc_is_between : FnScope ["value", "low", "high"] ["value", "low", "high"] (defScope (top 9)) := ⟨rfl, rfl, rfl, by decide +kernel, rfl, by decide +kernel, by decide +kernel⟩
@[irreducible] def d_is_between : DenS := sRet (eAnd (eCall none F_is_integer 1 0 [0] [] (dCons (eVar 0) (dNil)) dNil) (eChain cleD cleD (eVar 1) (eVar 0) (eVar 2)))
def F_is_between : Fun := runF none 3 d_is_between
theorem ok_is_between (D : Wd1 K mg) {fd : FuncData} (Fd : FnP K D_is_between fd) : FnG P w K mg base (L2.CX P w) 2 (He.fAd K D_is_between.at_) fd ["value", "low", "high"] (spF K none 3 F_is_between) := by
  obtain ⟨_, fd_is_integer⟩ := D.df 2 D_is_integer rfl
  unfold F_is_between d_is_between
  exact fun_ok Fd sc_is_between rfl rfl fun cdv A outer s H T E hr hc =>
    have nd := sc_is_between.nd
    ds_one (ds_ret (de_and' (de_call (k := 1) ((ok_is_integer D fd_is_integer).mono (by decide)) (hr.mono (by decide)) hc rfl (D.gl 6 _ rfl) fd_is_integer.kp (bindG0 (ks := []) (p := [0]) fd_is_integer (fun _ _ _ _ _ _ us ws h1 h2 => match us, ws, h1, h2 with | [_], [], _, _ => rfl)) tk_of (fun xs ys h1 h2 => match xs, ys, h1, h2 with | [_], [], _, _ => rfl) (da_cons (de_var (pv 0)) (da_nil) rfl) (by decide) rfl rfl) (de_one (de_chain (ck_le (ru0 hr)) (ck_le (ru0 hr)) (by with_unfolding_all rfl) (de_var (pv 1)) (de_var (pv 0)) (de_var (pv 2))))))
theorem sc_is_edge : FnScope ["value", "size"] ["value", "size"] (defScope (top 13)) := ⟨rfl, rfl, rfl, by decide +kernel, rfl, by decide +kernel, by decide +kernel⟩
@[irreducible] def d_is_edge : DenS := sSeq (sIf (tOr' (tNot' (tOf (eFn (isiD ISI) (dCons (eVar 0) (dCons (eC (.ty "tuple")) (dNil)))))) (tBl (eBin cneD (eFn lenD (dCons (eVar 0) (dNil))) (eC (.int 2))))) (sRet (eC (.bl false))) (sNx)) (sRet (eAnd (eCall none F_is_between 3 0 [0, 1, 2] [] (dCons (eBin idxD (eVar 0) (eC (.int 0))) (dCons (eC (.int 0)) (dCons (eBin (intD fun i j => i - j) (eVar 1) (eC (.int 1))) (dNil)))) dNil) (eCall none F_is_between 3 0 [0, 1, 2] [] (dCons (eBin idxD (eVar 0) (eC (.int 1))) (dCons (eBin addD (eBin idxD (eVar 0) (eC (.int 0))) (eC (.int 1))) (dCons (eBin (intD fun i j => i - j) (eVar 1) (eC (.int 1))) (dNil)))) dNil)))
def F_is_edge : Fun := runF none 2 d_is_edge
theorem ok_is_edge (D : Wd1 K mg) {fd : FuncData} (Fd : FnP K D_is_edge fd) : FnG P w K mg base (L2.CX P w) 3 (He.fAd K D_is_edge.at_) fd ["value", "size"] (spF K none 2 F_is_edge) := by
  obtain ⟨_, fd_is_between⟩ := D.df 3 D_is_between rfl
  unfold F_is_edge d_is_edge
  exact fun_ok Fd sc_is_edge rfl rfl fun cdv A outer s H T E hr hc =>
    have nd := sc_is_edge.nd
    ds_cons (ds_if (L2.PW.pt (dw_or (dt_not (dt_of (de_bf cr_isi (fn_isi (isk D)) rfl (D.fr 4 _ rfl) bt_isinstance (da_cons (de_var (pv 0)) (da_cons (de_c (v := .ty "tuple") (pe_bltn rfl (D.fr 7 _ rfl) bt_tuple rfl) (fun _ => rfl)) (da_nil) rfl) rfl) (by decide) (by decide) rfl rfl) (fun _ => rfl))) (dw_or1 (CmpOk.pt (ck_ne (ru hr (by decide))) (nomark _) (de_bf cr_lenA fn_len rfl (D.fr 1 _ rfl) bt_len (da_cons (de_var (pv 0)) (da_nil) rfl) (by decide) (by decide) rfl rfl) (de_c pe_int (fun _ => rfl)))))) (ds_one (ds_ret (de_c pe_bl (fun _ => rfl)))) (ds_nil)) (ds_one (ds_ret (de_and' (de_call (k := 2) ((ok_is_between D fd_is_between).mono (by decide)) (hr.mono (by decide)) hc rfl (D.gl 8 _ rfl) fd_is_between.kp (bindG0 (ks := []) (p := [0, 1, 2]) fd_is_between (fun _ _ _ _ _ _ us ws h1 h2 => match us, ws, h1, h2 with | [_, _, _], [], _, _ => rfl)) tk_of (fun xs ys h1 h2 => match xs, ys, h1, h2 with | [_, _, _], [], _, _ => rfl) (da_cons (de_idx (ru hr (by decide)) (fun _ _ => rfl) (de_var (pv 0)) (de_c pe_int (fun _ => rfl))) (da_cons (de_c pe_int (fun _ => rfl)) (da_cons (de_sub (de_var (pv 1)) (de_c pe_int (fun _ => rfl))) (da_nil) rfl) rfl) rfl) (by decide) rfl rfl) (de_one (de_call (k := 2) ((ok_is_between D fd_is_between).mono (by decide)) (hr.mono (by decide)) hc rfl (D.gl 8 _ rfl) fd_is_between.kp (bindG0 (ks := []) (p := [0, 1, 2]) fd_is_between (fun _ _ _ _ _ _ us ws h1 h2 => match us, ws, h1, h2 with | [_, _, _], [], _, _ => rfl)) tk_of (fun xs ys h1 h2 => match xs, ys, h1, h2 with | [_, _, _], [], _, _ => rfl) (da_cons (de_idx (ru hr (by decide)) (fun _ _ => rfl) (de_var (pv 0)) (de_c pe_int (fun _ => rfl))) (da_cons (de_add (de_idx (ru hr (by decide)) (fun _ _ => rfl) (de_var (pv 0)) (de_c pe_int (fun _ => rfl))) (de_c pe_int (fun _ => rfl))) (da_cons (de_sub (de_var (pv 1)) (de_c pe_int (fun _ => rfl))) (da_nil) rfl) rfl) rfl) (by decide) rfl rfl)))))
theorem sc_wrong_edge : FnScope ["edges", "size", "ahead", "at", "edge"] ["edges", "size"] (defScope (top 14)) := ⟨rfl, rfl, rfl, by decide +kernel, rfl, by decide +kernel, by decide +kernel⟩
@[irreducible] def d_wrong_edge : DenS := sSeq (sIf (tNot' (tOf (eFn (isiD ISI) (dCons (eVar 0) (dCons (eTup (dCons (eC (.ty "tuple")) (dCons (eC (.ty "list")) (dNil)))) (dNil)))))) (sRet (eC (.int 0))) (sNx)) (sSeq (sFix 2 (eTup (dNil))) (sSeq (sFor (iEn (eVar 0)) (gTp (gsLen 2 (gsCons (gNm 3) (gsCons (gNm 4) (gsNil))))) (sSeq (sIf (tOr' (tNot' (tOf (eCall none F_is_edge 2 0 [0, 1] [] (dCons (eVar 4) (dCons (eVar 1) (dNil))) dNil))) (tBl (eBin cleD (eVar 4) (eVar 2)))) (sRet (eVar 3)) (sNx)) (sFix 2 (eVar 4)))) (sRet (eC .non))))
def F_wrong_edge : Fun := runF none 5 d_wrong_edge
theorem ok_wrong_edge (D : Wd1 K mg) {fd : FuncData} (Fd : FnP K D_wrong_edge fd) : FnG P w K mg base (L2.CX P w) 4 (He.fAd K D_wrong_edge.at_) fd ["edges", "size"] (spF K none 2 F_wrong_edge) := by
  obtain ⟨_, fd_is_edge⟩ := D.df 4 D_is_edge rfl
  unfold F_wrong_edge d_wrong_edge
  exact fun_ok Fd sc_wrong_edge rfl rfl fun cdv A outer s H T E hr hc =>
    have nd := sc_wrong_edge.nd
    ds_cons (ds_if (dt_not (dt_of (de_bf cr_isi (fn_isi (isk D)) rfl (D.fr 4 _ rfl) bt_isinstance (da_cons (de_var (pv 0)) (da_cons (de_tup (da_cons (de_c (v := .ty "tuple") (pe_bltn rfl (D.fr 7 _ rfl) bt_tuple rfl) (fun _ => rfl)) (da_cons (de_c (v := .ty "list") (pe_bltn rfl (D.fr 9 _ rfl) bt_list rfl) (fun _ => rfl)) (da_nil) rfl) rfl)) (da_nil) rfl) rfl) (by decide) (by decide) rfl rfl) (fun _ => rfl))) (ds_one (ds_ret (de_c pe_int (fun _ => rfl)))) (ds_nil)) (ds_cons (ds_fix nd rfl (Or.inl rfl) (de_tup (da_nil)) rfl (Or.inl rfl)) (ds_cons (ds_for (fp := [3, 4]) hp_of rfl (di_enum rfl (D.fr 10 _ rfl) (de_var (pv 0)) rfl) (dg_tup rfl (dgs_cons (dg_nm (by decide) nd rfl (Or.inl rfl) (by first | exact Or.inl rfl | exact Or.inr rfl)) (dgs_cons (dg_nm (by decide) nd rfl (Or.inl rfl) (by first | exact Or.inl rfl | exact Or.inr rfl)) (dgs_nil) rfl) rfl) rfl rfl) (ds_cons (ds_if (L2.PW.pt (dw_or (dt_not (dt_of (de_call (k := 3) ((ok_is_edge D fd_is_edge).mono (by decide)) (hr.mono (by decide)) hc rfl (D.gl 11 _ rfl) fd_is_edge.kp (bindG0 (ks := []) (p := [0, 1]) fd_is_edge (fun _ _ _ _ _ _ us ws h1 h2 => match us, ws, h1, h2 with | [_, _], [], _, _ => rfl)) tk_of (fun xs ys h1 h2 => match xs, ys, h1, h2 with | [_, _], [], _, _ => rfl) (da_cons (de_var (pv 4)) (da_cons (de_var (pv 1)) (da_nil) rfl) rfl) (by decide) rfl rfl) (fun _ => rfl))) (dw_or1 (CmpOk.pt (ck_le (ru0 hr)) (nomark _) (de_var (pv 4)) (de_var (pv 2)))))) (ds_one (ds_ret (de_var (pv 3)))) (ds_nil)) (ds_one (ds_fix nd rfl (Or.inl rfl) (de_var (pv 4)) rfl (Or.inl rfl)))) (fun _ => rfl)) (ds_one (ds_ret (de_c pe_non (fun _ => rfl))))))
theorem sc_mask_of : FnScope ["subset", "vertex"] ["subset"] (defScope (top 10)) := ⟨rfl, rfl, rfl, by decide +kernel, rfl, by decide +kernel, by decide +kernel⟩
@[irreducible] def d_mask_of : DenS := sRet (eFn sumD (dCons (eComp (iOf (eVar 0)) [1] (gNm 1) (cTest (bYes) (cElt (eBin shlD (eC (.int 1)) (eVar 1))))) (dNil)))
def F_mask_of : Fun := runF none 2 d_mask_of
theorem ok_mask_of (D : Wd1 K mg) {fd : FuncData} (Fd : FnP K D_mask_of fd) : FnG P w K mg base (L2.CX P w) 1 (He.fAd K D_mask_of.at_) fd ["subset"] (spF K none 1 F_mask_of) := by
  unfold F_mask_of d_mask_of
  exact fun_ok Fd sc_mask_of rfl rfl fun cdv A outer s H T E hr hc =>
    have nd := sc_mask_of.nd
    ds_one (ds_ret (de_bf (cr_sumA rfl) fn_sum rfl (D.fr 12 _ rfl) bt_sum (da_cons (de_comp (own := [("vertex", 1)]) (fp := [1]) rfl nd (show BlkOk ["subset", "vertex"] (defScope (top 10)) _ _ from ⟨rfl, by decide +kernel, by decide +kernel, by decide +kernel, by decide +kernel⟩) (by decide) (foot_nm (by decide)) (di_of (de_var (pv 0))) (fun s H C cl fp => dg_nm (by decide) nd rfl (by first | exact Or.inl rfl | exact Or.inr rfl) (by first | exact Or.inl rfl | exact Or.inr rfl)) (fun s H C cl fp => dts_nil) (fun s H C cl fp => de_shl (de_c pe_int (fun _ => rfl)) (de_var (pv 1))) (fun _ => rfl)) (da_nil) rfl) (by decide) (by decide) rfl rfl))
theorem sc_masks_of : FnScope ["size", "edges", "masks", "vertex", "a", "b"] ["size", "edges"] (defScope (top 15)) := ⟨rfl, rfl, rfl, by decide +kernel, rfl, by decide +kernel, by decide +kernel⟩
@[irreducible] def d_masks_of : DenS := sSeq (sSet 2 (eLst (dNil))) (sSeq (sFor (iFn range1D (dCons (eVar 0) (dNil))) (gNm 3) (sDrop (eMut appendD 2 (dCons (eCall none F_mask_of 1 0 [0] [] (dCons (eBin addD (eComp (iOf (eVar 1)) [4, 5] (gTp (gsLen 2 (gsCons (gNm 4) (gsCons (gNm 5) (gsNil))))) (cTest (tBl (eBin ceqD (eVar 4) (eVar 3))) (cElt (eVar 5)))) (eComp (iOf (eVar 1)) [4, 5] (gTp (gsLen 2 (gsCons (gNm 4) (gsCons (gNm 5) (gsNil))))) (cTest (tBl (eBin ceqD (eVar 5) (eVar 3))) (cElt (eVar 4))))) (dNil)) dNil) (dNil))))) (sRet (eFn tupleD (dCons (eVar 2) (dNil)))))
def F_masks_of : Fun := runF none 6 d_masks_of
theorem ok_masks_of (D : Wd1 K mg) {fd : FuncData} (Fd : FnP K D_masks_of fd) : FnG P w K mg base (L2.CX P w) 2 (He.fAd K D_masks_of.at_) fd ["size", "edges"] (spF K none 2 F_masks_of) := by
  obtain ⟨_, fd_mask_of⟩ := D.df 6 D_mask_of rfl
  unfold F_masks_of d_masks_of
  exact fun_ok Fd sc_masks_of rfl rfl fun cdv A outer s H T E hr hc =>
    have nd := sc_masks_of.nd
    ds_cons (ds_set nd rfl (Or.inl rfl) (de_lst (da_nil)) rfl (Or.inl rfl)) (ds_cons (ds_for (fp := [3]) hp_of rfl (di_range1 rfl (D.fr 2 _ rfl) (da_cons (de_var (pv 0)) (da_nil) rfl) rfl) (dg_nm (by decide) nd rfl (Or.inr rfl) (by first | exact Or.inl rfl | exact Or.inr rfl)) (ds_one (ds_expr (de_mut mut_append PySem.F.plainAttrs_list PySem.F.slot_list_append PySem.F.type_list_append mt_append (pv 2) (da_cons (de_call (k := 1) ((ok_mask_of D fd_mask_of).mono (by decide)) (hr.mono (by decide)) hc rfl (D.gl 13 _ rfl) fd_mask_of.kp (bindG0 (ks := []) (p := [0]) fd_mask_of (fun _ _ _ _ _ _ us ws h1 h2 => match us, ws, h1, h2 with | [_], [], _, _ => rfl)) tk_of (fun xs ys h1 h2 => match xs, ys, h1, h2 with | [_], [], _, _ => rfl) (da_cons (de_add (de_comp (own := [("a", 4), ("b", 5)]) (fp := [4, 5]) rfl nd (show BlkOk ["size", "edges", "masks", "vertex", "a", "b"] (defScope (top 15)) _ _ from ⟨rfl, by decide +kernel, by decide +kernel, by decide +kernel, by decide +kernel⟩) (by decide) (foot_tup (foot_cons (foot_nm (by decide)) (foot_cons (foot_nm (by decide)) (foot_nil)))) (di_of (de_var (pv 1))) (fun s H C cl fp => dg_tup rfl (dgs_cons (dg_nm (by decide) nd rfl (by first | exact Or.inl rfl | exact Or.inr rfl) (by first | exact Or.inl rfl | exact Or.inr rfl)) (dgs_cons (dg_nm (by decide) nd rfl (by first | exact Or.inl rfl | exact Or.inr rfl) (by first | exact Or.inl rfl | exact Or.inr rfl)) (dgs_nil) rfl) rfl) rfl rfl) (fun s H C cl fp => dts_one (CmpOk.pt (ck_eq (ru hr (by decide))) (nomark _) (de_var (pv 4)) (de_var (pv 3)))) (fun s H C cl fp => de_var (pv 5)) (fun _ => rfl)) (de_comp (own := [("a", 4), ("b", 5)]) (fp := [4, 5]) rfl nd (show BlkOk ["size", "edges", "masks", "vertex", "a", "b"] (defScope (top 15)) _ _ from ⟨rfl, by decide +kernel, by decide +kernel, by decide +kernel, by decide +kernel⟩) (by decide) (foot_tup (foot_cons (foot_nm (by decide)) (foot_cons (foot_nm (by decide)) (foot_nil)))) (di_of (de_var (pv 1))) (fun s H C cl fp => dg_tup rfl (dgs_cons (dg_nm (by decide) nd rfl (by first | exact Or.inl rfl | exact Or.inr rfl) (by first | exact Or.inl rfl | exact Or.inr rfl)) (dgs_cons (dg_nm (by decide) nd rfl (by first | exact Or.inl rfl | exact Or.inr rfl) (by first | exact Or.inl rfl | exact Or.inr rfl)) (dgs_nil) rfl) rfl) rfl rfl) (fun s H C cl fp => dts_one (CmpOk.pt (ck_eq (ru hr (by decide))) (nomark _) (de_var (pv 5)) (de_var (pv 3)))) (fun s H C cl fp => de_var (pv 4)) (fun _ => rfl))) (da_nil) rfl) (by decide) rfl rfl) (da_nil) rfl) rfl rfl rfl rfl rfl) rfl)) (fun _ => rfl)) (ds_one (ds_ret (de_bt call_tuple_of fn_tuple rfl (D.fr 7 _ rfl) bt_tuple (da_cons (de_var (pv 2)) (da_nil) rfl) (by decide) (by decide) rfl rfl))))
theorem sc_Graph___init__ : FnScope ["self", "size", "edges", "place"] ["self", "size", "edges"] (defScope (inClass (top 20) 0)) := ⟨rfl, rfl, rfl, by decide +kernel, rfl, by decide +kernel, by decide +kernel⟩
@[irreducible] def d_Graph___init__ : DenS := sSeq (sIf (tNot' (tOf (eCall none F_is_between 3 0 [0, 1, 2] [] (dCons (eVar 1) (dCons (eC (.int 1)) (dCons (eC (.int 24)) (dNil)))) dNil))) (sRaise "InvalidGraph" ["part", "place"] (dCons (eC (.str "size")) (dCons (eC (.int 0)) (dNil)))) (sNx)) (sSeq (sFix 3 (eCall none F_wrong_edge 2 0 [0, 1] [] (dCons (eVar 2) (dCons (eVar 1) (dNil))) dNil)) (sSeq (sIf (tBl (eUn cnoN (eVar 3))) (sRaise "InvalidGraph" ["part", "place"] (dCons (eC (.str "edges")) (dCons (eVar 3) (dNil)))) (sNx)) (sSeq (sFldPut 0 "Graph" "size" (eVar 1)) (sSeq (sFldPut 0 "Graph" "edges" (eFn tupleD (dCons (eVar 2) (dNil)))) (sSeq (sFldPut 0 "Graph" "vertices" (eUn tupRgD (eVar 1))) (sFldPut 0 "Graph" "masks" (eCall none F_masks_of 2 0 [0, 1] [] (dCons (eVar 1) (dCons (eVar 2) (dNil))) dNil)))))))
def F_Graph___init__ : Fun := runF (some 0) 4 d_Graph___init__
theorem ok_Graph___init__ (D : Wd1 K mg) {fd : FuncData} (Fd : FnP K D_Graph___init__ fd) : FnG P w K mg base (L2.CX P w) 5 (He.fAd K D_Graph___init__.at_) fd ["self", "size", "edges"] (spF K (some 0) 3 F_Graph___init__) := by
  obtain ⟨_, fd_is_between⟩ := D.df 3 D_is_between rfl
  obtain ⟨_, fd_wrong_edge⟩ := D.df 5 D_wrong_edge rfl
  obtain ⟨_, fd_masks_of⟩ := D.df 7 D_masks_of rfl
  obtain ⟨_, fd_InvalidGraph___init__⟩ := D.df 9 D_InvalidGraph___init__ rfl
  obtain ⟨_, g_MOST_VERTICES_graphs⟩ := D.it 14 _ _ rfl
  unfold F_Graph___init__ d_Graph___init__
  exact fun_ok Fd sc_Graph___init__ rfl rfl fun cdv A outer s H T E hr hc =>
    have nd := sc_Graph___init__.nd
    ds_cons (ds_if (dt_not (dt_of (de_call (k := 2) ((ok_is_between D fd_is_between).mono (by decide)) (hr.mono (by decide)) hc rfl (D.gl 8 _ rfl) fd_is_between.kp (bindG0 (ks := []) (p := [0, 1, 2]) fd_is_between (fun _ _ _ _ _ _ us ws h1 h2 => match us, ws, h1, h2 with | [_, _, _], [], _, _ => rfl)) tk_of (fun xs ys h1 h2 => match xs, ys, h1, h2 with | [_, _, _], [], _, _ => rfl) (da_cons (de_var (pv 1)) (da_cons (de_c pe_int (fun _ => rfl)) (da_cons (de_c (v := .int 24) (pe_glob rfl g_MOST_VERTICES_graphs ⟨_, rfl⟩) (fun _ => rfl)) (da_nil) rfl) rfl) rfl) (by decide) rfl rfl) (fun _ => rfl))) (ds_one (ds_raise2 (by decide) rfl tk_of (er_InvalidGraph D).oex (er_InvalidGraph D).ini (er_InvalidGraph D).fn (err2 fd_InvalidGraph___init__ sc_InvalidGraph___init__ rfl (er_InvalidGraph D).oex ((er_InvalidGraph D).no _ (List.mem_of_getElem? (i := 0) rfl)) ((er_InvalidGraph D).no _ (List.mem_of_getElem? (i := 1) rfl)) rfl rfl rfl rfl) (hr.mono (by decide)) (fd_InvalidGraph___init__.bindsN fun _ _ _ _ _ _ us hl => match us, hl with | [_, _, _], _ => rfl) rfl (D.gl 15 _ rfl) (da_cons (de_c pe_str (fun _ => rfl)) (da_cons (de_c pe_int (fun _ => rfl)) (da_nil) rfl) rfl) (by decide) rfl rfl)) (ds_nil)) (ds_cons (ds_fix nd rfl (Or.inl rfl) (de_call (k := 4) ((ok_wrong_edge D fd_wrong_edge).mono (by decide)) (hr.mono (by decide)) hc rfl (D.gl 16 _ rfl) fd_wrong_edge.kp (bindG0 (ks := []) (p := [0, 1]) fd_wrong_edge (fun _ _ _ _ _ _ us ws h1 h2 => match us, ws, h1, h2 with | [_, _], [], _, _ => rfl)) tk_of (fun xs ys h1 h2 => match xs, ys, h1, h2 with | [_, _], [], _, _ => rfl) (da_cons (de_var (pv 2)) (da_cons (de_var (pv 1)) (da_nil) rfl) rfl) (by decide) rfl rfl) rfl (Or.inl rfl)) (ds_cons (ds_if (dt_noN (de_var (pv 3))) (ds_one (ds_raise2 (by decide) rfl tk_of (er_InvalidGraph D).oex (er_InvalidGraph D).ini (er_InvalidGraph D).fn (err2 fd_InvalidGraph___init__ sc_InvalidGraph___init__ rfl (er_InvalidGraph D).oex ((er_InvalidGraph D).no _ (List.mem_of_getElem? (i := 0) rfl)) ((er_InvalidGraph D).no _ (List.mem_of_getElem? (i := 1) rfl)) rfl rfl rfl rfl) (hr.mono (by decide)) (fd_InvalidGraph___init__.bindsN fun _ _ _ _ _ _ us hl => match us, hl with | [_, _, _], _ => rfl) rfl (D.gl 15 _ rfl) (da_cons (de_c pe_str (fun _ => rfl)) (da_cons (de_var (pv 3)) (da_nil) rfl) rfl) (by decide) rfl rfl)) (ds_nil)) (ds_cons (ds_fld (D.cls 17 "Graph" rfl) (D.noat 18 "Graph" "size" rfl) (pv 0) (de_var (pv 1)) rfl) (ds_cons (ds_fld (D.cls 17 "Graph" rfl) (D.noat 19 "Graph" "edges" rfl) (pv 0) (de_bt call_tuple_of fn_tuple rfl (D.fr 7 _ rfl) bt_tuple (da_cons (de_var (pv 2)) (da_nil) rfl) (by decide) (by decide) rfl rfl) rfl) (ds_cons (ds_fld (D.cls 17 "Graph" rfl) (D.noat 20 "Graph" "vertices" rfl) (pv 0) (de_tupRg rfl rfl (D.fr 7 _ rfl) rfl (D.fr 2 _ rfl) (de_var (pv 1)) rfl rfl) rfl) (ds_one (ds_fld (D.cls 17 "Graph" rfl) (D.noat 22 "Graph" "masks" rfl) (pv 0) (de_call (k := 2) ((ok_masks_of D fd_masks_of).mono (by decide)) (hr.mono (by decide)) hc rfl (D.gl 21 _ rfl) fd_masks_of.kp (bindG0 (ks := []) (p := [0, 1]) fd_masks_of (fun _ _ _ _ _ _ us ws h1 h2 => match us, ws, h1, h2 with | [_, _], [], _, _ => rfl)) tk_of (fun xs ys h1 h2 => match xs, ys, h1, h2 with | [_, _], [], _, _ => rfl) (da_cons (de_var (pv 1)) (da_cons (de_var (pv 2)) (da_nil) rfl) rfl) (by decide) rfl rfl) rfl)))))))
theorem sc__law_edges : FnScope ["near", "edges", "a", "b"] ["near"] (defScope (top 31)) := ⟨rfl, rfl, rfl, by decide +kernel, rfl, by decide +kernel, by decide +kernel⟩
@[irreducible] def d__law_edges : DenS := sSeq (sFix 1 (eLst (dNil))) (sSeq (sFor (iFn range1D (dCons (eFn lenD (dCons (eVar 0) (dNil))) (dNil))) (gNm 2) (sFix 1 (eBin addD (eVar 1) (eComp (iFn range2D (dCons (eBin addD (eVar 2) (eC (.int 1))) (dCons (eFn lenD (dCons (eVar 0) (dNil))) (dNil)))) [3] (gNm 3) (cTest (tBl (eBin ceqD (eBin (intD Builtin.bitAnd) (eBin shrD (eBin idxD (eVar 0) (eVar 2)) (eVar 3)) (eC (.int 1))) (eC (.int 1)))) (cElt (eTup (dCons (eVar 2) (dCons (eVar 3) (dNil)))))))))) (sRet (eFn tupleD (dCons (eVar 1) (dNil)))))
def F__law_edges : Fun := runF none 4 d__law_edges
theorem ok__law_edges (D : Wd1 K mg) {fd : FuncData} (Fd : FnP K D__law_edges fd) : FnG P w K mg base (L2.CX P w) 1 (He.fAd K D__law_edges.at_) fd ["near"] (spF K none 1 F__law_edges) := by
  unfold F__law_edges d__law_edges
  exact fun_ok Fd sc__law_edges rfl rfl fun cdv A outer s H T E hr hc =>
    have nd := sc__law_edges.nd
    ds_cons (ds_fix nd rfl (Or.inl rfl) (de_lst (da_nil)) rfl (Or.inl rfl)) (ds_cons (ds_for (fp := [2]) hp_of rfl (di_range1 rfl (D.fr 2 _ rfl) (da_cons (de_bf cr_lenA fn_len rfl (D.fr 1 _ rfl) bt_len (da_cons (de_var (pv 0)) (da_nil) rfl) (by decide) (by decide) rfl rfl) (da_nil) rfl) rfl) (dg_nm (by decide) nd rfl (Or.inr rfl) (by first | exact Or.inl rfl | exact Or.inr rfl)) (ds_one (ds_fix nd rfl (Or.inl rfl) (de_add (de_var (pv 1)) (de_comp (own := [("b", 3)]) (fp := [3]) rfl nd (show BlkOk ["near", "edges", "a", "b"] (defScope (top 31)) _ _ from ⟨rfl, by decide +kernel, by decide +kernel, by decide +kernel, by decide +kernel⟩) (by decide) (foot_nm (by decide)) (di_range2 rfl (D.fr 2 _ rfl) (da_cons (de_add (de_var (pv 2)) (de_c pe_int (fun _ => rfl))) (da_cons (de_bf cr_lenA fn_len rfl (D.fr 1 _ rfl) bt_len (da_cons (de_var (pv 0)) (da_nil) rfl) (by decide) (by decide) rfl rfl) (da_nil) rfl) rfl) rfl rfl) (fun s H C cl fp => dg_nm (by decide) nd rfl (by first | exact Or.inl rfl | exact Or.inr rfl) (by first | exact Or.inl rfl | exact Or.inr rfl)) (fun s H C cl fp => dts_one (CmpOk.pt (ck_eq (ru hr (by decide))) (nomark _) (de_and (de_shr (de_idx (ru hr (by decide)) (fun _ _ => rfl) (de_var (pv 0)) (de_var (pv 2))) (de_var (pv 3))) (de_c pe_int (fun _ => rfl))) (de_c pe_int (fun _ => rfl)))) (fun s H C cl fp => de_tup (da_cons (de_var (pv 2)) (da_cons (de_var (pv 3)) (da_nil) rfl) rfl)) (fun _ => rfl))) rfl (Or.inl rfl))) (fun _ => rfl)) (ds_one (ds_ret (de_bt call_tuple_of fn_tuple rfl (D.fr 7 _ rfl) bt_tuple (da_cons (de_var (pv 1)) (da_nil) rfl) (by decide) (by decide) rfl rfl))))
theorem sc__law_written : FnScope ["near", "lines", "a", "b"] ["near"] (defScope (top 39)) := ⟨rfl, rfl, rfl, by decide +kernel, rfl, by decide +kernel, by decide +kernel⟩
@[irreducible] def d__law_written : DenS := sSeq (sSet 1 (eLst (dCons (eBin addD (eC (.str "graph ")) (eFn strD (dCons (eFn lenD (dCons (eVar 0) (dNil))) (dNil)))) (dNil)))) (sSeq (sFor (iOf (eCall none F__law_edges 1 0 [0] [] (dCons (eVar 0) (dNil)) dNil)) (gTp (gsLen 2 (gsCons (gNm 2) (gsCons (gNm 3) (gsNil))))) (sDrop (eMut appendD 1 (dCons (eBin addD (eBin addD (eFn strD (dCons (eVar 2) (dNil))) (eC (.str "-"))) (eFn strD (dCons (eVar 3) (dNil)))) (dNil))))) (sRet (eSM joinD (eC (.str "\n")) (eVar 1))))
def F__law_written : Fun := runF none 4 d__law_written
theorem ok__law_written (D : Wd1 K mg) {fd : FuncData} (Fd : FnP K D__law_written fd) : FnG P w K mg base (L2.CX P w) 2 (He.fAd K D__law_written.at_) fd ["near"] (spF K none 1 F__law_written) := by
  obtain ⟨_, fd__law_edges⟩ := D.df 10 D__law_edges rfl
  unfold F__law_written d__law_written
  exact fun_ok Fd sc__law_written rfl rfl fun cdv A outer s H T E hr hc =>
    have nd := sc__law_written.nd
    ds_cons (ds_set nd rfl (Or.inl rfl) (de_lst (da_cons (de_add (de_c pe_str (fun _ => rfl)) (de_bt call_str_int fn_str rfl (D.fr 23 _ rfl) bt_str (da_cons (de_bf cr_lenA fn_len rfl (D.fr 1 _ rfl) bt_len (da_cons (de_var (pv 0)) (da_nil) rfl) (by decide) (by decide) rfl rfl) (da_nil) rfl) (by decide) (by decide) rfl rfl)) (da_nil) rfl)) rfl (Or.inl rfl)) (ds_cons (ds_for (fp := [2, 3]) hp_of rfl (di_of (de_call (k := 1) ((ok__law_edges D fd__law_edges).mono (by decide)) (hr.mono (by decide)) hc rfl (D.gl 24 _ rfl) fd__law_edges.kp (bindG0 (ks := []) (p := [0]) fd__law_edges (fun _ _ _ _ _ _ us ws h1 h2 => match us, ws, h1, h2 with | [_], [], _, _ => rfl)) tk_of (fun xs ys h1 h2 => match xs, ys, h1, h2 with | [_], [], _, _ => rfl) (da_cons (de_var (pv 0)) (da_nil) rfl) (by decide) rfl rfl)) (dg_tup rfl (dgs_cons (dg_nm (by decide) nd rfl (Or.inl rfl) (by first | exact Or.inl rfl | exact Or.inr rfl)) (dgs_cons (dg_nm (by decide) nd rfl (Or.inl rfl) (by first | exact Or.inl rfl | exact Or.inr rfl)) (dgs_nil) rfl) rfl) rfl rfl) (ds_one (ds_expr (de_mut mut_append PySem.F.plainAttrs_list PySem.F.slot_list_append PySem.F.type_list_append mt_append (pv 1) (da_cons (de_add (de_add (de_bt call_str_int fn_str rfl (D.fr 23 _ rfl) bt_str (da_cons (de_var (pv 2)) (da_nil) rfl) (by decide) (by decide) rfl rfl) (de_c pe_str (fun _ => rfl))) (de_bt call_str_int fn_str rfl (D.fr 23 _ rfl) bt_str (da_cons (de_var (pv 3)) (da_nil) rfl) (by decide) (by decide) rfl rfl)) (da_nil) rfl) rfl rfl rfl rfl rfl) rfl)) (fun _ => rfl)) (ds_one (ds_ret (de_join (de_c pe_str (fun _ => rfl)) (de_var (pv 1)) rfl rfl rfl))))
theorem sc_write_graph : FnScope ["graph", "a", "b"] ["graph"] (defScope (top 23)) := ⟨rfl, rfl, rfl, by decide +kernel, rfl, by decide +kernel, by decide +kernel⟩
@[irreducible] def d_write_graph : DenS := sRet (eSM joinD (eC (.str "\n")) (eBin addD (eLst (dCons (eBin addD (eC (.str "graph ")) (eFn strD (dCons (eFld "Graph" "size" (eVar 0)) (dNil)))) (dNil))) (eComp (iOf (eFld "Graph" "edges" (eVar 0))) [1, 2] (gTp (gsLen 2 (gsCons (gNm 1) (gsCons (gNm 2) (gsNil))))) (cTest (bYes) (cElt (eBin addD (eBin addD (eFn strD (dCons (eVar 1) (dNil))) (eC (.str "-"))) (eFn strD (dCons (eVar 2) (dNil)))))))))
def F_write_graph : Fun := runF none 3 d_write_graph
theorem ok_write_graph (D : Wd1 K mg) {fd : FuncData} (Fd : FnP K D_write_graph fd) : FnG P w K mg base (L2.CX P w) 1 (He.fAd K D_write_graph.at_) fd ["graph"] (spF K none 1 F_write_graph) := by
  unfold F_write_graph d_write_graph
  exact fun_ok Fd sc_write_graph rfl rfl fun cdv A outer s H T E hr hc =>
    have nd := sc_write_graph.nd
    ds_one (ds_ret (de_join (de_c pe_str (fun _ => rfl)) (de_add (de_lst (da_cons (de_add (de_c pe_str (fun _ => rfl)) (de_bt call_str_int fn_str rfl (D.fr 23 _ rfl) bt_str (da_cons (de_fld (D.cls 17 "Graph" rfl) (D.noat 18 "Graph" "size" rfl) (de_var (pv 0)) rfl) (da_nil) rfl) (by decide) (by decide) rfl rfl)) (da_nil) rfl)) (de_comp (own := [("a", 1), ("b", 2)]) (fp := [1, 2]) rfl nd (show BlkOk ["graph", "a", "b"] (defScope (top 23)) _ _ from ⟨rfl, by decide +kernel, by decide +kernel, by decide +kernel, by decide +kernel⟩) (by decide) (foot_tup (foot_cons (foot_nm (by decide)) (foot_cons (foot_nm (by decide)) (foot_nil)))) (di_of (de_fld (D.cls 17 "Graph" rfl) (D.noat 19 "Graph" "edges" rfl) (de_var (pv 0)) rfl)) (fun s H C cl fp => dg_tup rfl (dgs_cons (dg_nm (by decide) nd rfl (by first | exact Or.inl rfl | exact Or.inr rfl) (by first | exact Or.inl rfl | exact Or.inr rfl)) (dgs_cons (dg_nm (by decide) nd rfl (by first | exact Or.inl rfl | exact Or.inr rfl) (by first | exact Or.inl rfl | exact Or.inr rfl)) (dgs_nil) rfl) rfl) rfl rfl) (fun s H C cl fp => dts_nil) (fun s H C cl fp => de_add (de_add (de_bt call_str_int fn_str rfl (D.fr 23 _ rfl) bt_str (da_cons (de_var (pv 1)) (da_nil) rfl) (by decide) (by decide) rfl rfl) (de_c pe_str (fun _ => rfl))) (de_bt call_str_int fn_str rfl (D.fr 23 _ rfl) bt_str (da_cons (de_var (pv 2)) (da_nil) rfl) (by decide) (by decide) rfl rfl)) (fun _ => rfl))) rfl rfl rfl))
theorem sc_read_number : FnScope ["word", "below", "number"] ["word", "below"] (defScope (top 24)) := ⟨rfl, rfl, rfl, by decide +kernel, rfl, by decide +kernel, by decide +kernel⟩
@[irreducible] def d_read_number : DenS := sSeq (sFor (iFn range1D (dCons (eVar 1) (dNil))) (gNm 2) (sIf (tBl (eBin ceqD (eVar 0) (eFn strD (dCons (eVar 2) (dNil))))) (sRet (eVar 2)) (sNx))) (sRet (eC .non))
def F_read_number : Fun := runF none 3 d_read_number
theorem ok_read_number (D : Wd1 K mg) {fd : FuncData} (Fd : FnP K D_read_number fd) : FnG P w K mg base (L2.CX P w) 1 (He.fAd K D_read_number.at_) fd ["word", "below"] (spF K none 2 F_read_number) := by
  unfold F_read_number d_read_number
  exact fun_ok Fd sc_read_number rfl rfl fun cdv A outer s H T E hr hc =>
    have nd := sc_read_number.nd
    ds_cons (ds_for (fp := [2]) hp_of rfl (di_range1 rfl (D.fr 2 _ rfl) (da_cons (de_var (pv 1)) (da_nil) rfl) rfl) (dg_nm (by decide) nd rfl (Or.inl rfl) (by first | exact Or.inl rfl | exact Or.inr rfl)) (ds_one (ds_if (CmpOk.pt (ck_eq (ru hr (by decide))) (nomark _) (de_var (pv 0)) (de_bt call_str_int fn_str rfl (D.fr 23 _ rfl) bt_str (da_cons (de_var (pv 2)) (da_nil) rfl) (by decide) (by decide) rfl rfl)) (ds_one (ds_ret (de_var (pv 2)))) (ds_nil))) (fun _ => rfl)) (ds_one (ds_ret (de_c pe_non (fun _ => rfl))))
theorem sc_read_size : FnScope ["line", "size"] ["line"] (defScope (top 26)) := ⟨rfl, rfl, rfl, by decide +kernel, rfl, by decide +kernel, by decide +kernel⟩
@[irreducible] def d_read_size : DenS := sSeq (sIf (tNot' (tOf (eSM startsD (eVar 0) (eC (.str "graph "))))) (sRet (eC .non)) (sNx)) (sSeq (sFix 1 (eCall none F_read_number 2 0 [0, 1] [] (dCons (eSl (eVar 0) (pSome (eC (.int 6))) (pNone)) (dCons (eBin addD (eC (.int 24)) (eC (.int 1))) (dNil))) dNil)) (sRet (eIf (tBl (eBin ceqD (eVar 1) (eC (.int 0)))) (eC .non) (eVar 1))))
def F_read_size : Fun := runF none 2 d_read_size
theorem ok_read_size (D : Wd1 K mg) {fd : FuncData} (Fd : FnP K D_read_size fd) : FnG P w K mg base (L2.CX P w) 2 (He.fAd K D_read_size.at_) fd ["line"] (spF K none 1 F_read_size) := by
  obtain ⟨_, fd_read_number⟩ := D.df 13 D_read_number rfl
  obtain ⟨_, g_MOST_VERTICES_graphtexts⟩ := D.it 25 _ _ rfl
  unfold F_read_size d_read_size
  exact fun_ok Fd sc_read_size rfl rfl fun cdv A outer s H T E hr hc =>
    have nd := sc_read_size.nd
    ds_cons (ds_if (dt_not (dt_of (de_starts (de_var (pv 0)) (de_c pe_str (fun _ => rfl)) rfl rfl rfl) (fun _ => rfl))) (ds_one (ds_ret (de_c pe_non (fun _ => rfl)))) (ds_nil)) (ds_cons (ds_fix nd rfl (Or.inl rfl) (de_call (k := 1) ((ok_read_number D fd_read_number).mono (by decide)) (hr.mono (by decide)) hc rfl (D.gl 26 _ rfl) fd_read_number.kp (bindG0 (ks := []) (p := [0, 1]) fd_read_number (fun _ _ _ _ _ _ us ws h1 h2 => match us, ws, h1, h2 with | [_, _], [], _, _ => rfl)) tk_of (fun xs ys h1 h2 => match xs, ys, h1, h2 with | [_, _], [], _, _ => rfl) (da_cons (de_slice (de_var (pv 0)) (dp_some (de_c pe_int (fun _ => rfl))) (dp_none)) (da_cons (de_add (de_c (v := .int 24) (pe_glob rfl g_MOST_VERTICES_graphtexts ⟨_, rfl⟩) (fun _ => rfl)) (de_c pe_int (fun _ => rfl))) (da_nil) rfl) rfl) (by decide) rfl rfl) rfl (Or.inl rfl)) (ds_one (ds_ret (de_if (CmpOk.pt (ck_eq (ru hr (by decide))) (nomark _) (de_var (pv 1)) (de_c pe_int (fun _ => rfl))) (de_c pe_non (fun _ => rfl)) (de_var (pv 1))))))
theorem sc_read_edge : FnScope ["line", "size", "words", "a", "b"] ["line", "size"] (defScope (top 25)) := ⟨rfl, rfl, rfl, by decide +kernel, rfl, by decide +kernel, by decide +kernel⟩
@[irreducible] def d_read_edge : DenS := sSeq (sFix 2 (eSM splitD (eVar 0) (eC (.str "-")))) (sSeq (sIf (tBl (eBin cneD (eFn lenD (dCons (eVar 2) (dNil))) (eC (.int 2)))) (sRet (eC .non)) (sNx)) (sSeq (sAsg (gTp (gsLen 2 (gsCons (gNm 3) (gsCons (gNm 4) gsNil)))) (eTup (dCons (eCall none F_read_number 2 0 [0, 1] [] (dCons (eBin idxD (eVar 2) (eC (.int 0))) (dCons (eVar 1) (dNil))) dNil) (dCons (eCall none F_read_number 2 0 [0, 1] [] (dCons (eBin idxD (eVar 2) (eC (.int 1))) (dCons (eVar 1) (dNil))) dNil) (dNil))))) (sRet (eIf (tOr' (tBl (eUn cisN (eVar 3))) (tOr' (tBl (eUn cisN (eVar 4))) (tBl (eBin cgeD (eVar 3) (eVar 4))))) (eC .non) (eTup (dCons (eVar 3) (dCons (eVar 4) (dNil))))))))
def F_read_edge : Fun := runF none 5 d_read_edge
theorem ok_read_edge (D : Wd1 K mg) {fd : FuncData} (Fd : FnP K D_read_edge fd) : FnG P w K mg base (L2.CX P w) 2 (He.fAd K D_read_edge.at_) fd ["line", "size"] (spF K none 2 F_read_edge) := by
  obtain ⟨_, fd_read_number⟩ := D.df 13 D_read_number rfl
  unfold F_read_edge d_read_edge
  exact fun_ok Fd sc_read_edge rfl rfl fun cdv A outer s H T E hr hc =>
    have nd := sc_read_edge.nd
    ds_cons (ds_fix nd rfl (Or.inl rfl) (de_split (de_var (pv 0)) (de_c pe_str (fun _ => rfl)) rfl rfl rfl) rfl (Or.inl rfl)) (ds_cons (ds_if (CmpOk.pt (ck_ne (ru hr (by decide))) (nomark _) (de_bf cr_lenA fn_len rfl (D.fr 1 _ rfl) bt_len (da_cons (de_var (pv 2)) (da_nil) rfl) (by decide) (by decide) rfl rfl) (de_c pe_int (fun _ => rfl))) (ds_one (ds_ret (de_c pe_non (fun _ => rfl)))) (ds_nil)) (ds_cons (ds_asgS rfl (de_tup (da_cons (de_call (k := 1) ((ok_read_number D fd_read_number).mono (by decide)) (hr.mono (by decide)) hc rfl (D.gl 26 _ rfl) fd_read_number.kp (bindG0 (ks := []) (p := [0, 1]) fd_read_number (fun _ _ _ _ _ _ us ws h1 h2 => match us, ws, h1, h2 with | [_, _], [], _, _ => rfl)) tk_of (fun xs ys h1 h2 => match xs, ys, h1, h2 with | [_, _], [], _, _ => rfl) (da_cons (de_idx (ru hr (by decide)) (fun _ _ => rfl) (de_var (pv 2)) (de_c pe_int (fun _ => rfl))) (da_cons (de_var (pv 1)) (da_nil) rfl) rfl) (by decide) rfl rfl) (da_cons (de_call (k := 1) ((ok_read_number D fd_read_number).mono (by decide)) (hr.mono (by decide)) hc rfl (D.gl 26 _ rfl) fd_read_number.kp (bindG0 (ks := []) (p := [0, 1]) fd_read_number (fun _ _ _ _ _ _ us ws h1 h2 => match us, ws, h1, h2 with | [_, _], [], _, _ => rfl)) tk_of (fun xs ys h1 h2 => match xs, ys, h1, h2 with | [_, _], [], _, _ => rfl) (da_cons (de_idx (ru hr (by decide)) (fun _ _ => rfl) (de_var (pv 2)) (de_c pe_int (fun _ => rfl))) (da_cons (de_var (pv 1)) (da_nil) rfl) rfl) (by decide) rfl rfl) (da_nil) rfl) rfl)) nd rfl (Or.inl rfl) (by first | exact Or.inl rfl | exact Or.inr rfl) rfl (Or.inl rfl) (by first | exact Or.inl rfl | exact Or.inr rfl) (by decide) rfl rfl) (ds_one (ds_ret (de_if (L2.PW.pt (dw_or (dt_isN (de_var (pv 3))) (dw_or (dt_isN (de_var (pv 4))) (dw_or1 (CmpOk.pt ck_ge (nomark _) (de_var (pv 3)) (de_var (pv 4))))))) (de_c pe_non (fun _ => rfl)) (de_tup (da_cons (de_var (pv 3)) (da_cons (de_var (pv 4)) (da_nil) rfl) rfl)))))))
theorem sc_read_graph : FnScope ["text", "lines", "size", "at", "edges", "line", "edge"] ["text"] (defScope (top 27)) := ⟨rfl, rfl, rfl, by decide +kernel, rfl, by decide +kernel, by decide +kernel⟩
@[irreducible] def d_read_graph : DenS := sSeq (sIf (tNot' (tOf (eFn (isiD ISI) (dCons (eVar 0) (dCons (eC (.ty "str")) (dNil)))))) (sRaise "InvalidText" ["text", "at"] (dCons (eVar 0) (dCons (eC (.int 0)) (dNil)))) (sNx)) (sSeq (sFix 1 (eSM splitD (eVar 0) (eC (.str "\n")))) (sSeq (sFix 2 (eCall none F_read_size 1 0 [0] [] (dCons (eBin idxD (eVar 1) (eC (.int 0))) (dNil)) dNil)) (sSeq (sIf (tBl (eUn cisN (eVar 2))) (sRaise "InvalidText" ["text", "at"] (dCons (eVar 0) (dCons (eC (.int 0)) (dNil)))) (sNx)) (sSeq (sFix 3 (eBin addD (eFn lenD (dCons (eBin idxD (eVar 1) (eC (.int 0))) (dNil))) (eC (.int 1)))) (sSeq (sSet 4 (eLst (dNil))) (sSeq (sFor (iOf (eSl (eVar 1) (pSome (eC (.int 1))) (pNone))) (gNm 5) (sSeq (sFix 6 (eCall none F_read_edge 2 0 [0, 1] [] (dCons (eVar 5) (dCons (eVar 2) (dNil))) dNil)) (sSeq (sIf (tOr' (tBl (eUn cisN (eVar 6))) (tAnd' (tBl (eBin cgtD (eFn lenD (dCons (eVar 4) (dNil))) (eC (.int 0)))) (tBl (eBin cleD (eVar 6) (eBin idxD (eVar 4) (eUn negD (eC (.int 1)))))))) (sRaise "InvalidText" ["text", "at"] (dCons (eVar 0) (dCons (eVar 3) (dNil)))) (sNx)) (sSeq (sDrop (eMut appendD 4 (dCons (eVar 6) (dNil)))) (sAug 3 (intD (fun i j => i + j)) (eBin addD (eFn lenD (dCons (eVar 5) (dNil))) (eC (.int 1)))))))) (sRet (eMake "Graph" F_Graph___init__ 2 0 [1, 2] [] (dCons (eVar 2) (dCons (eFn tupleD (dCons (eVar 4) (dNil))) (dNil))) dNil))))))))
def F_read_graph : Fun := runF none 7 d_read_graph
theorem ok_read_graph (D : Wd1 K mg) {fd : FuncData} (Fd : FnP K D_read_graph fd) : FnG P w K mg base (L2.CX P w) 7 (He.fAd K D_read_graph.at_) fd ["text"] (spF K none 1 F_read_graph) := by
  obtain ⟨_, fd_read_size⟩ := D.df 14 D_read_size rfl
  obtain ⟨_, fd_read_edge⟩ := D.df 15 D_read_edge rfl
  obtain ⟨_, fd_Graph___init__⟩ := D.df 8 D_Graph___init__ rfl
  obtain ⟨_, fd_InvalidText___init__⟩ := D.df 17 D_InvalidText___init__ rfl
  unfold F_read_graph d_read_graph
  exact fun_ok Fd sc_read_graph rfl rfl fun cdv A outer s H T E hr hc =>
    have nd := sc_read_graph.nd
    ds_cons (ds_if (dt_not (dt_of (de_bf cr_isi (fn_isi (isk D)) rfl (D.fr 4 _ rfl) bt_isinstance (da_cons (de_var (pv 0)) (da_cons (de_c (v := .ty "str") (pe_bltn rfl (D.fr 23 _ rfl) bt_str rfl) (fun _ => rfl)) (da_nil) rfl) rfl) (by decide) (by decide) rfl rfl) (fun _ => rfl))) (ds_one (ds_raise2 (by decide) rfl tk_of (er_InvalidText D).oex (er_InvalidText D).ini (er_InvalidText D).fn (err2 fd_InvalidText___init__ sc_InvalidText___init__ rfl (er_InvalidText D).oex ((er_InvalidText D).no _ (List.mem_of_getElem? (i := 0) rfl)) ((er_InvalidText D).no _ (List.mem_of_getElem? (i := 1) rfl)) rfl rfl rfl rfl) (hr.mono (by decide)) (fd_InvalidText___init__.bindsN fun _ _ _ _ _ _ us hl => match us, hl with | [_, _, _], _ => rfl) rfl (D.gl 27 _ rfl) (da_cons (de_var (pv 0)) (da_cons (de_c pe_int (fun _ => rfl)) (da_nil) rfl) rfl) (by decide) rfl rfl)) (ds_nil)) (ds_cons (ds_fix nd rfl (Or.inl rfl) (de_split (de_var (pv 0)) (de_c pe_str (fun _ => rfl)) rfl rfl rfl) rfl (Or.inl rfl)) (ds_cons (ds_fix nd rfl (Or.inl rfl) (de_call (k := 2) ((ok_read_size D fd_read_size).mono (by decide)) (hr.mono (by decide)) hc rfl (D.gl 28 _ rfl) fd_read_size.kp (bindG0 (ks := []) (p := [0]) fd_read_size (fun _ _ _ _ _ _ us ws h1 h2 => match us, ws, h1, h2 with | [_], [], _, _ => rfl)) tk_of (fun xs ys h1 h2 => match xs, ys, h1, h2 with | [_], [], _, _ => rfl) (da_cons (de_idx (ru hr (by decide)) (fun _ _ => rfl) (de_var (pv 1)) (de_c pe_int (fun _ => rfl))) (da_nil) rfl) (by decide) rfl rfl) rfl (Or.inl rfl)) (ds_cons (ds_if (dt_isN (de_var (pv 2))) (ds_one (ds_raise2 (by decide) rfl tk_of (er_InvalidText D).oex (er_InvalidText D).ini (er_InvalidText D).fn (err2 fd_InvalidText___init__ sc_InvalidText___init__ rfl (er_InvalidText D).oex ((er_InvalidText D).no _ (List.mem_of_getElem? (i := 0) rfl)) ((er_InvalidText D).no _ (List.mem_of_getElem? (i := 1) rfl)) rfl rfl rfl rfl) (hr.mono (by decide)) (fd_InvalidText___init__.bindsN fun _ _ _ _ _ _ us hl => match us, hl with | [_, _, _], _ => rfl) rfl (D.gl 27 _ rfl) (da_cons (de_var (pv 0)) (da_cons (de_c pe_int (fun _ => rfl)) (da_nil) rfl) rfl) (by decide) rfl rfl)) (ds_nil)) (ds_cons (ds_fix nd rfl (Or.inl rfl) (de_add (de_bf cr_lenA fn_len rfl (D.fr 1 _ rfl) bt_len (da_cons (de_idx (ru hr (by decide)) (fun _ _ => rfl) (de_var (pv 1)) (de_c pe_int (fun _ => rfl))) (da_nil) rfl) (by decide) (by decide) rfl rfl) (de_c pe_int (fun _ => rfl))) rfl (Or.inl rfl)) (ds_cons (ds_set nd rfl (Or.inl rfl) (de_lst (da_nil)) rfl (Or.inl rfl)) (ds_cons (ds_for (fp := [5]) hp_of rfl (di_of (de_slice (de_var (pv 1)) (dp_some (de_c pe_int (fun _ => rfl))) (dp_none))) (dg_nm (by decide) nd rfl (Or.inl rfl) (by first | exact Or.inl rfl | exact Or.inr rfl)) (ds_cons (ds_fix nd rfl (Or.inl rfl) (de_call (k := 2) ((ok_read_edge D fd_read_edge).mono (by decide)) (hr.mono (by decide)) hc rfl (D.gl 29 _ rfl) fd_read_edge.kp (bindG0 (ks := []) (p := [0, 1]) fd_read_edge (fun _ _ _ _ _ _ us ws h1 h2 => match us, ws, h1, h2 with | [_, _], [], _, _ => rfl)) tk_of (fun xs ys h1 h2 => match xs, ys, h1, h2 with | [_, _], [], _, _ => rfl) (da_cons (de_var (pv 5)) (da_cons (de_var (pv 2)) (da_nil) rfl) rfl) (by decide) rfl rfl) rfl (Or.inl rfl)) (ds_cons (ds_if (L2.PW.pt (dw_or (dt_isN (de_var (pv 6))) (dw_or1 (L2.PW.pt (dw_and (CmpOk.pt ck_gt (nomark _) (de_bf cr_lenA fn_len rfl (D.fr 1 _ rfl) bt_len (da_cons (de_var (pv 4)) (da_nil) rfl) (by decide) (by decide) rfl rfl) (de_c pe_int (fun _ => rfl))) (dw_and1 (CmpOk.pt (ck_le (ru0 hr)) (nomark _) (de_var (pv 6)) (de_idx (ru hr (by decide)) (fun _ _ => rfl) (de_var (pv 4)) (de_neg (de_c pe_int (fun _ => rfl))))))))))) (ds_one (ds_raise2 (by decide) rfl tk_of (er_InvalidText D).oex (er_InvalidText D).ini (er_InvalidText D).fn (err2 fd_InvalidText___init__ sc_InvalidText___init__ rfl (er_InvalidText D).oex ((er_InvalidText D).no _ (List.mem_of_getElem? (i := 0) rfl)) ((er_InvalidText D).no _ (List.mem_of_getElem? (i := 1) rfl)) rfl rfl rfl rfl) (hr.mono (by decide)) (fd_InvalidText___init__.bindsN fun _ _ _ _ _ _ us hl => match us, hl with | [_, _, _], _ => rfl) rfl (D.gl 27 _ rfl) (da_cons (de_var (pv 0)) (da_cons (de_var (pv 3)) (da_nil) rfl) rfl) (by decide) rfl rfl)) (ds_nil)) (ds_cons (ds_expr (de_mut mut_append PySem.F.plainAttrs_list PySem.F.slot_list_append PySem.F.type_list_append mt_append (pv 4) (da_cons (de_var (pv 6)) (da_nil) rfl) rfl rfl rfl rfl rfl) rfl) (ds_one (ds_aug (gg := fun i j => i + j) iop_add nd rfl (Or.inl rfl) (de_add (de_bf cr_lenA fn_len rfl (D.fr 1 _ rfl) bt_len (da_cons (de_var (pv 5)) (da_nil) rfl) (by decide) (by decide) rfl rfl) (de_c pe_int (fun _ => rfl))) (Or.inl rfl)))))) (fun _ => rfl)) (ds_one (ds_ret (de_make (D.mkr 30 "Graph" rfl) (k := 5) (N := 3) ((ok_Graph___init__ D fd_Graph___init__)) (hr.mono (by decide)) hc rfl (D.gl 31 _ rfl) (bindG0 (n := 3) (ks := []) (p := [0, 1, 2]) fd_Graph___init__ (fun _ _ _ _ _ _ us ws h1 h2 => match us, ws, h1, h2 with | [_, _, _], [], _, _ => rfl)) tk_of (fun xs ys h1 h2 => match xs, ys, h1, h2 with | [_, _], [], _, _ => rfl) (by decide) (da_cons (de_var (pv 2)) (da_cons (de_bt call_tuple_of fn_tuple rfl (D.fr 7 _ rfl) bt_tuple (da_cons (de_var (pv 4)) (da_nil) rfl) (by decide) (by decide) rfl rfl) (da_nil) rfl) rfl) (by decide) rfl rfl)))))))))
theorem sc_Graph___eq__ : FnScope ["self", "other"] ["self", "other"] (defScope (inClass (top 20) 6)) := ⟨rfl, rfl, rfl, by decide +kernel, rfl, by decide +kernel, by decide +kernel⟩
@[irreducible] def d_Graph___eq__ : DenS := sRet (eAnd (eFn (isiD ISI) (dCons (eVar 1) (dCons (eC (.fn "Graph")) (dNil)))) (eAnd (eBin ceqD (eFld "Graph" "size" (eVar 0)) (eFld "Graph" "size" (eVar 1))) (eBin ceqD (eFld "Graph" "edges" (eVar 0)) (eFld "Graph" "edges" (eVar 1)))))
def F_Graph___eq__ : Fun := runF none 2 d_Graph___eq__
theorem ok_Graph___eq__ (D : Wd1 K mg) {fd : FuncData} (Fd : FnP K D_Graph___eq__ fd) : FnG P w K mg base (L2.CX P w) 1 (He.fAd K D_Graph___eq__.at_) fd ["self", "other"] (spF K none 2 F_Graph___eq__) := by
  unfold F_Graph___eq__ d_Graph___eq__
  exact fun_ok Fd sc_Graph___eq__ rfl rfl fun cdv A outer s H T E hr hc =>
    have nd := sc_Graph___eq__.nd
    ds_one (ds_ret (de_and' (de_bf cr_isi (fn_isi (isk D)) rfl (D.fr 4 _ rfl) bt_isinstance (da_cons (de_var (pv 1)) (da_cons (de_c (v := .ref (He.ga K "Graph")) (pe_glob rfl (D.gl 31 _ rfl) rfl) (fun _ => rfl)) (da_nil) rfl) rfl) (by decide) (by decide) rfl rfl) (de_and' (CmpOk.pe (ck_eq (ru hr (by decide))) (nomark _) (de_fld (D.cls 17 "Graph" rfl) (D.noat 18 "Graph" "size" rfl) (de_var (pv 0)) rfl) (de_fld (D.cls 17 "Graph" rfl) (D.noat 18 "Graph" "size" rfl) (de_var (pv 1)) rfl)) (de_one (CmpOk.pe (ck_eq (ru hr (by decide))) (nomark _) (de_fld (D.cls 17 "Graph" rfl) (D.noat 19 "Graph" "edges" rfl) (de_var (pv 0)) rfl) (de_fld (D.cls 17 "Graph" rfl) (D.noat 19 "Graph" "edges" rfl) (de_var (pv 1)) rfl))))))
theorem sc__law_right : FnScope ["near", "graph", "due", "told", "back"] ["near"] (defScope (top 40)) := ⟨rfl, rfl, rfl, by decide +kernel, rfl, by decide +kernel, by decide +kernel⟩
@[irreducible] def d__law_right : DenS := sSeq (sFix 1 (eMake "Graph" F_Graph___init__ 2 0 [1, 2] [] (dCons (eFn lenD (dCons (eVar 0) (dNil))) (dCons (eCall none F__law_edges 1 0 [0] [] (dCons (eVar 0) (dNil)) dNil) (dNil))) dNil)) (sSeq (sFix 2 (eCall none F__law_written 1 0 [0] [] (dCons (eVar 0) (dNil)) dNil)) (sSeq (sFix 3 (eCall none F_write_graph 1 0 [0] [] (dCons (eVar 1) (dNil)) dNil)) (sSeq (sIf (tOr' (tNot' (tOf (eFn (isiD ISI) (dCons (eVar 3) (dCons (eC (.ty "str")) (dNil)))))) (tOr' (tBl (eBin cneD (eVar 3) (eVar 2))) (tBl (eBin cneD (eCall none F_write_graph 0 1 [0] [] dNil (dCons (eVar 1) (dNil))) (eVar 2))))) (sRet (eC (.bl false))) (sNx)) (sSeq (sFix 4 (eCall none F_read_graph 1 0 [0] [] (dCons (eVar 3) (dNil)) dNil)) (sSeq (sIf (tOr' (tNot' (tOf (eFn (isiD ISI) (dCons (eVar 4) (dCons (eC (.fn "Graph")) (dNil)))))) (tOr' (tBl (eBin cneD (eFn reprD (dCons (eFld "Graph" "size" (eVar 4)) (dNil))) (eFn reprD (dCons (eFn lenD (dCons (eVar 0) (dNil))) (dNil))))) (tBl (eBin cneD (eFn reprD (dCons (eFld "Graph" "edges" (eVar 4)) (dNil))) (eFn reprD (dCons (eCall none F__law_edges 1 0 [0] [] (dCons (eVar 0) (dNil)) dNil) (dNil))))))) (sRet (eC (.bl false))) (sNx)) (sRet (eAnd (eOEq "Graph" F_Graph___eq__ (eVar 4) (eVar 1)) (eAnd (eBin ceqD (eCall none F_write_graph 1 0 [0] [] (dCons (eVar 4) (dNil)) dNil) (eVar 2)) (eOEq "Graph" F_Graph___eq__ (eCall none F_read_graph 0 1 [0] [] dNil (dCons (eVar 2) (dNil))) (eVar 1))))))))))
def F__law_right : Fun := runF none 5 d__law_right
theorem ok__law_right (D : Wd1 K mg) {fd : FuncData} (Fd : FnP K D__law_right fd) : FnG P w K mg base (L2.CX P w) 8 (He.fAd K D__law_right.at_) fd ["near"] (spF K none 1 F__law_right) := by
  obtain ⟨_, fd_Graph___init__⟩ := D.df 8 D_Graph___init__ rfl
  obtain ⟨_, fd__law_edges⟩ := D.df 10 D__law_edges rfl
  obtain ⟨_, fd__law_written⟩ := D.df 11 D__law_written rfl
  obtain ⟨_, fd_write_graph⟩ := D.df 12 D_write_graph rfl
  obtain ⟨_, fd_read_graph⟩ := D.df 16 D_read_graph rfl
  obtain ⟨_, fd_Graph___eq__⟩ := D.df 18 D_Graph___eq__ rfl
  unfold F__law_right d__law_right
  exact fun_ok Fd sc__law_right rfl rfl fun cdv A outer s H T E hr hc =>
    have nd := sc__law_right.nd
    ds_cons (ds_fix nd rfl (Or.inl rfl) (de_make (D.mkr 30 "Graph" rfl) (k := 5) (N := 3) ((ok_Graph___init__ D fd_Graph___init__)) (hr.mono (by decide)) hc rfl (D.gl 31 _ rfl) (bindG0 (n := 3) (ks := []) (p := [0, 1, 2]) fd_Graph___init__ (fun _ _ _ _ _ _ us ws h1 h2 => match us, ws, h1, h2 with | [_, _, _], [], _, _ => rfl)) tk_of (fun xs ys h1 h2 => match xs, ys, h1, h2 with | [_, _], [], _, _ => rfl) (by decide) (da_cons (de_bf cr_lenA fn_len rfl (D.fr 1 _ rfl) bt_len (da_cons (de_var (pv 0)) (da_nil) rfl) (by decide) (by decide) rfl rfl) (da_cons (de_call (k := 1) ((ok__law_edges D fd__law_edges).mono (by decide)) (hr.mono (by decide)) hc rfl (D.gl 24 _ rfl) fd__law_edges.kp (bindG0 (ks := []) (p := [0]) fd__law_edges (fun _ _ _ _ _ _ us ws h1 h2 => match us, ws, h1, h2 with | [_], [], _, _ => rfl)) tk_of (fun xs ys h1 h2 => match xs, ys, h1, h2 with | [_], [], _, _ => rfl) (da_cons (de_var (pv 0)) (da_nil) rfl) (by decide) rfl rfl) (da_nil) rfl) rfl) (by decide) rfl rfl) rfl (Or.inl rfl)) (ds_cons (ds_fix nd rfl (Or.inl rfl) (de_call (k := 2) ((ok__law_written D fd__law_written).mono (by decide)) (hr.mono (by decide)) hc rfl (D.gl 32 _ rfl) fd__law_written.kp (bindG0 (ks := []) (p := [0]) fd__law_written (fun _ _ _ _ _ _ us ws h1 h2 => match us, ws, h1, h2 with | [_], [], _, _ => rfl)) tk_of (fun xs ys h1 h2 => match xs, ys, h1, h2 with | [_], [], _, _ => rfl) (da_cons (de_var (pv 0)) (da_nil) rfl) (by decide) rfl rfl) rfl (Or.inl rfl)) (ds_cons (ds_fix nd rfl (Or.inl rfl) (de_call (k := 1) ((ok_write_graph D fd_write_graph).mono (by decide)) (hr.mono (by decide)) hc rfl (D.gl 33 _ rfl) fd_write_graph.kp (bindG0 (ks := []) (p := [0]) fd_write_graph (fun _ _ _ _ _ _ us ws h1 h2 => match us, ws, h1, h2 with | [_], [], _, _ => rfl)) tk_of (fun xs ys h1 h2 => match xs, ys, h1, h2 with | [_], [], _, _ => rfl) (da_cons (de_var (pv 1)) (da_nil) rfl) (by decide) rfl rfl) rfl (Or.inl rfl)) (ds_cons (ds_if (L2.PW.pt (dw_or (dt_not (dt_of (de_bf cr_isi (fn_isi (isk D)) rfl (D.fr 4 _ rfl) bt_isinstance (da_cons (de_var (pv 3)) (da_cons (de_c (v := .ty "str") (pe_bltn rfl (D.fr 23 _ rfl) bt_str rfl) (fun _ => rfl)) (da_nil) rfl) rfl) (by decide) (by decide) rfl rfl) (fun _ => rfl))) (dw_or (CmpOk.pt (ck_ne (ru hr (by decide))) (nomark _) (de_var (pv 3)) (de_var (pv 2))) (dw_or1 (CmpOk.pt (ck_ne (ru hr (by decide))) (nomark _) (de_callK0 (ks := ["graph"]) (k := 1) ((ok_write_graph D fd_write_graph).mono (by decide)) (hr.mono (by decide)) hc rfl (D.gl 33 _ rfl) fd_write_graph.kp (bindG0 (ks := ["graph"]) (p := [0]) fd_write_graph (fun _ _ _ _ _ _ us ws h1 h2 => match us, ws, h1, h2 with | [], [_], _, _ => rfl)) tk_of (fun xs ys h1 h2 => match xs, ys, h1, h2 with | [], [_], _, _ => rfl) (dk_cons (de_var (pv 1)) (dk_nil)) rfl rfl (by decide) rfl) (de_var (pv 2))))))) (ds_one (ds_ret (de_c pe_bl (fun _ => rfl)))) (ds_nil)) (ds_cons (ds_fix nd rfl (Or.inl rfl) (de_call (k := 7) ((ok_read_graph D fd_read_graph).mono (by decide)) (hr.mono (by decide)) hc rfl (D.gl 34 _ rfl) fd_read_graph.kp (bindG0 (ks := []) (p := [0]) fd_read_graph (fun _ _ _ _ _ _ us ws h1 h2 => match us, ws, h1, h2 with | [_], [], _, _ => rfl)) tk_of (fun xs ys h1 h2 => match xs, ys, h1, h2 with | [_], [], _, _ => rfl) (da_cons (de_var (pv 3)) (da_nil) rfl) (by decide) rfl rfl) rfl (Or.inl rfl)) (ds_cons (ds_if (L2.PW.pt (dw_or (dt_not (dt_of (de_bf cr_isi (fn_isi (isk D)) rfl (D.fr 4 _ rfl) bt_isinstance (da_cons (de_var (pv 4)) (da_cons (de_c (v := .ref (He.ga K "Graph")) (pe_glob rfl (D.gl 31 _ rfl) rfl) (fun _ => rfl)) (da_nil) rfl) rfl) (by decide) (by decide) rfl rfl) (fun _ => rfl))) (dw_or (CmpOk.pt (ck_ne (ru hr (by decide))) (nomark _) (de_bf (cr_repr hc (ru hr (by decide))) fn_repr rfl (D.fr 35 _ rfl) bt_repr (da_cons (de_fld (D.cls 17 "Graph" rfl) (D.noat 18 "Graph" "size" rfl) (de_var (pv 4)) rfl) (da_nil) rfl) (by decide) (by decide) rfl rfl) (de_bf (cr_repr hc (ru hr (by decide))) fn_repr rfl (D.fr 35 _ rfl) bt_repr (da_cons (de_bf cr_lenA fn_len rfl (D.fr 1 _ rfl) bt_len (da_cons (de_var (pv 0)) (da_nil) rfl) (by decide) (by decide) rfl rfl) (da_nil) rfl) (by decide) (by decide) rfl rfl)) (dw_or1 (CmpOk.pt (ck_ne (ru hr (by decide))) (nomark _) (de_bf (cr_repr hc (ru hr (by decide))) fn_repr rfl (D.fr 35 _ rfl) bt_repr (da_cons (de_fld (D.cls 17 "Graph" rfl) (D.noat 19 "Graph" "edges" rfl) (de_var (pv 4)) rfl) (da_nil) rfl) (by decide) (by decide) rfl rfl) (de_bf (cr_repr hc (ru hr (by decide))) fn_repr rfl (D.fr 35 _ rfl) bt_repr (da_cons (de_call (k := 1) ((ok__law_edges D fd__law_edges).mono (by decide)) (hr.mono (by decide)) hc rfl (D.gl 24 _ rfl) fd__law_edges.kp (bindG0 (ks := []) (p := [0]) fd__law_edges (fun _ _ _ _ _ _ us ws h1 h2 => match us, ws, h1, h2 with | [_], [], _, _ => rfl)) tk_of (fun xs ys h1 h2 => match xs, ys, h1, h2 with | [_], [], _, _ => rfl) (da_cons (de_var (pv 0)) (da_nil) rfl) (by decide) rfl rfl) (da_nil) rfl) (by decide) (by decide) rfl rfl)))))) (ds_one (ds_ret (de_c pe_bl (fun _ => rfl)))) (ds_nil)) (ds_one (ds_ret (de_and' (de_ownEq (k := 1) (de_var (pv 4)) (de_var (pv 1)) (nomark _) (D.meth 36 "Graph" "__eq__" rfl) (ok_Graph___eq__ D fd_Graph___eq__) (hr.mono (by decide)) hc (bindG0 (n := 2) (ks := []) (p := [0, 1]) fd_Graph___eq__ (fun _ _ _ _ _ _ us ws h1 h2 => match us, ws, h1, h2 with | [_, _], [], _, _ => rfl)) tk_of) (de_and' (CmpOk.pe (ck_eq (ru hr (by decide))) (nomark _) (de_call (k := 1) ((ok_write_graph D fd_write_graph).mono (by decide)) (hr.mono (by decide)) hc rfl (D.gl 33 _ rfl) fd_write_graph.kp (bindG0 (ks := []) (p := [0]) fd_write_graph (fun _ _ _ _ _ _ us ws h1 h2 => match us, ws, h1, h2 with | [_], [], _, _ => rfl)) tk_of (fun xs ys h1 h2 => match xs, ys, h1, h2 with | [_], [], _, _ => rfl) (da_cons (de_var (pv 4)) (da_nil) rfl) (by decide) rfl rfl) (de_var (pv 2))) (de_one (de_ownEq (k := 1) (de_callK0 (ks := ["text"]) (k := 7) ((ok_read_graph D fd_read_graph).mono (by decide)) (hr.mono (by decide)) hc rfl (D.gl 34 _ rfl) fd_read_graph.kp (bindG0 (ks := ["text"]) (p := [0]) fd_read_graph (fun _ _ _ _ _ _ us ws h1 h2 => match us, ws, h1, h2 with | [], [_], _, _ => rfl)) tk_of (fun xs ys h1 h2 => match xs, ys, h1, h2 with | [], [_], _, _ => rfl) (dk_cons (de_var (pv 2)) (dk_nil)) rfl rfl (by decide) rfl) (de_var (pv 1)) (nomark _) (D.meth 36 "Graph" "__eq__" rfl) (ok_Graph___eq__ D fd_Graph___eq__) (hr.mono (by decide)) hc (bindG0 (n := 2) (ks := []) (p := [0, 1]) fd_Graph___eq__ (fun _ _ _ _ _ _ us ws h1 h2 => match us, ws, h1, h2 with | [_, _], [], _, _ => rfl)) tk_of)))))))))))
theorem sc__law_near : FnScope ["size", "edges", "near", "pair", "vertex"] ["size", "edges"] (defScope (top 32)) := ⟨rfl, rfl, rfl, by decide +kernel, rfl, by decide +kernel, by decide +kernel⟩
@[irreducible] def d__law_near : DenS := sSeq (sSet 2 (eComp (iFn range1D (dCons (eVar 0) (dNil))) [4] (gNm 4) (cTest (bYes) (cElt (eC (.int 0)))))) (sSeq (sFor (iOf (eVar 1)) (gNm 3) (sSeq (sPut 2 (eBin idxD (eVar 3) (eC (.int 0))) (eBin (intD Builtin.bitOr) (eBin idxD (eVar 2) (eBin idxD (eVar 3) (eC (.int 0)))) (eBin shlD (eC (.int 1)) (eBin idxD (eVar 3) (eC (.int 1)))))) (sPut 2 (eBin idxD (eVar 3) (eC (.int 1))) (eBin (intD Builtin.bitOr) (eBin idxD (eVar 2) (eBin idxD (eVar 3) (eC (.int 1)))) (eBin shlD (eC (.int 1)) (eBin idxD (eVar 3) (eC (.int 0)))))))) (sRet (eVar 2)))
def F__law_near : Fun := runF none 5 d__law_near
theorem ok__law_near (D : Wd1 K mg) {fd : FuncData} (Fd : FnP K D__law_near fd) : FnG P w K mg base (L2.CX P w) 1 (He.fAd K D__law_near.at_) fd ["size", "edges"] (spF K none 2 F__law_near) := by
  unfold F__law_near d__law_near
  exact fun_ok Fd sc__law_near rfl rfl fun cdv A outer s H T E hr hc =>
    have nd := sc__law_near.nd
    ds_cons (ds_setComp (own := [("vertex", 4)]) (fp := [4]) rfl nd rfl rfl rfl (show BlkOk ["size", "edges", "near", "pair", "vertex"] (defScope (top 32)) _ _ from ⟨rfl, by decide +kernel, by decide +kernel, by decide +kernel, by decide +kernel⟩) (by decide) (foot_nm (by decide)) (di_range1 rfl (D.fr 2 _ rfl) (da_cons (de_var (pv 0)) (da_nil) rfl) rfl) (fun s H C cl fp => dg_nm (by decide) nd rfl (by first | exact Or.inl rfl | exact Or.inr rfl) (by first | exact Or.inl rfl | exact Or.inr rfl)) (fun s H C cl fp => dts_nil) (fun s H C cl fp => de_c pe_int (fun _ => rfl)) (fun _ => rfl)) (ds_cons (ds_for (fp := [3]) hp_of rfl (di_of (de_var (pv 1))) (dg_nm (by decide) nd rfl (Or.inl rfl) (by first | exact Or.inl rfl | exact Or.inr rfl)) (ds_cons (ds_put (ru hr (by decide)) (pv 2) (de_idx (ru hr (by decide)) (fun _ _ => rfl) (de_var (pv 3)) (de_c pe_int (fun _ => rfl))) (de_or (de_idx (ru hr (by decide)) (fun _ _ => rfl) (de_var (pv 2)) (de_idx (ru hr (by decide)) (fun _ _ => rfl) (de_var (pv 3)) (de_c pe_int (fun _ => rfl)))) (de_shl (de_c pe_int (fun _ => rfl)) (de_idx (ru hr (by decide)) (fun _ _ => rfl) (de_var (pv 3)) (de_c pe_int (fun _ => rfl))))) (fun _ => rfl) rfl rfl rfl) (ds_one (ds_put (ru hr (by decide)) (pv 2) (de_idx (ru hr (by decide)) (fun _ _ => rfl) (de_var (pv 3)) (de_c pe_int (fun _ => rfl))) (de_or (de_idx (ru hr (by decide)) (fun _ _ => rfl) (de_var (pv 2)) (de_idx (ru hr (by decide)) (fun _ _ => rfl) (de_var (pv 3)) (de_c pe_int (fun _ => rfl)))) (de_shl (de_c pe_int (fun _ => rfl)) (de_idx (ru hr (by decide)) (fun _ _ => rfl) (de_var (pv 3)) (de_c pe_int (fun _ => rfl))))) (fun _ => rfl) rfl rfl rfl))) (fun _ => rfl)) (ds_one (ds_ret (de_var (pv 2)))))
theorem sc__law_order : FnScope ["box", "many", "order", "k", "at", "kept"] ["box", "many"] (defScope (top 33)) := ⟨rfl, rfl, rfl, by decide +kernel, rfl, by decide +kernel, by decide +kernel⟩
@[irreducible] def d__law_order : DenS := sSeq (sSet 2 (eComp (iFn range1D (dCons (eVar 1) (dNil))) [3] (gNm 3) (cTest (bYes) (cElt (eVar 3))))) (sSeq (sFor (iFn range1D (dCons (eVar 1) (dNil))) (gNm 3) (sSeq (sFix 4 (eCall (some 0) F__law_draw 2 0 [0, 1] [] (dCons (eVar 0) (dCons (eVar 1) (dNil))) dNil)) (sSeq (sFix 5 (eBin idxD (eVar 2) (eVar 3))) (sSeq (sPut 2 (eVar 3) (eBin idxD (eVar 2) (eVar 4))) (sPut 2 (eVar 4) (eVar 5)))))) (sRet (eVar 2)))
def F__law_order : Fun := runF (some 0) 6 d__law_order
theorem ok__law_order (D : Wd1 K mg) {fd : FuncData} (Fd : FnP K D__law_order fd) : FnG P w K mg base (L2.CX P w) 2 (He.fAd K D__law_order.at_) fd ["box", "many"] (spF K (some 0) 2 F__law_order) := by
  obtain ⟨_, fd__law_draw⟩ := D.df 1 D__law_draw rfl
  unfold F__law_order d__law_order
  exact fun_ok Fd sc__law_order rfl rfl fun cdv A outer s H T E hr hc =>
    have nd := sc__law_order.nd
    ds_cons (ds_setComp (own := [("k", 3)]) (fp := [3]) rfl nd rfl rfl rfl (show BlkOk ["box", "many", "order", "k", "at", "kept"] (defScope (top 33)) _ _ from ⟨rfl, by decide +kernel, by decide +kernel, by decide +kernel, by decide +kernel⟩) (by decide) (foot_nm (by decide)) (di_range1 rfl (D.fr 2 _ rfl) (da_cons (de_var (pv 1)) (da_nil) rfl) rfl) (fun s H C cl fp => dg_nm (by decide) nd rfl (by first | exact Or.inl rfl | exact Or.inr rfl) (by first | exact Or.inl rfl | exact Or.inr rfl)) (fun s H C cl fp => dts_nil) (fun s H C cl fp => de_var (pv 3)) (fun _ => rfl)) (ds_cons (ds_for (fp := [3]) hp_of rfl (di_range1 rfl (D.fr 2 _ rfl) (da_cons (de_var (pv 1)) (da_nil) rfl) rfl) (dg_nm (by decide) nd rfl (Or.inl rfl) (by first | exact Or.inl rfl | exact Or.inr rfl)) (ds_cons (ds_fix nd rfl (Or.inl rfl) (de_call (k := 1) ((ok__law_draw D fd__law_draw).mono (by decide)) (hr.mono (by decide)) hc rfl (D.gl 37 _ rfl) fd__law_draw.kp (bindG0 (ks := []) (p := [0, 1]) fd__law_draw (fun _ _ _ _ _ _ us ws h1 h2 => match us, ws, h1, h2 with | [_, _], [], _, _ => rfl)) tk_of (fun xs ys h1 h2 => match xs, ys, h1, h2 with | [_, _], [], _, _ => rfl) (da_cons (de_var (pv 0)) (da_cons (de_var (pv 1)) (da_nil) rfl) rfl) (by decide) rfl rfl) rfl (Or.inl rfl)) (ds_cons (ds_fix nd rfl (Or.inl rfl) (de_idx (ru hr (by decide)) (fun _ _ => rfl) (de_var (pv 2)) (de_var (pv 3))) rfl (Or.inl rfl)) (ds_cons (ds_put (ru hr (by decide)) (pv 2) (de_var (pv 3)) (de_idx (ru hr (by decide)) (fun _ _ => rfl) (de_var (pv 2)) (de_var (pv 4))) (fun _ => rfl) rfl rfl rfl) (ds_one (ds_put (ru hr (by decide)) (pv 2) (de_var (pv 4)) (de_var (pv 5)) (fun _ => rfl) rfl rfl rfl))))) (fun _ => rfl)) (ds_one (ds_ret (de_var (pv 2)))))
theorem sc__law_joined : FnScope ["box", "kind", "ring", "share", "a", "b"] ["box", "kind", "ring", "share", "a", "b"] (defScope (top 34)) := ⟨rfl, rfl, rfl, by decide +kernel, rfl, by decide +kernel, by decide +kernel⟩
@[irreducible] def d__law_joined : DenS := sSeq (sIf (tAnd' (tBl (eBin ceqD (eVar 1) (eC (.int 0)))) (tBl (eBin cltD (eVar 5) (eVar 2)))) (sRet (eOr (eBin ceqD (eBin (intD fun i j => i - j) (eVar 5) (eVar 4)) (eC (.int 1))) (eBin ceqD (eBin (intD fun i j => i - j) (eVar 5) (eVar 4)) (eBin (intD fun i j => i - j) (eVar 2) (eC (.int 1)))))) (sNx)) (sSeq (sIf (tAnd' (tBl (eBin ceqD (eVar 1) (eC (.int 1)))) (tBl (eBin ceqD (eBin modD (eFn intD1 (dCons (eBin addD (eVar 4) (eVar 5)) (dNil))) (eC (.int 2))) (eC (.int 0))))) (sRet (eC (.bl false))) (sNx)) (sSeq (sIf (tBl (eBin ceqD (eVar 1) (eC (.int 2)))) (sRet (eBin ceqD (eBin (intD Builtin.bitAnd) (eBin fdivD (eBin addD (eBin mulD (eVar 2) (eVar 5)) (eVar 3)) (eC (.int 2))) (eC (.int 1))) (eC (.int 1)))) (sNx)) (sRet (eBin cltD (eCall (some 0) F__law_draw 2 0 [0, 1] [] (dCons (eVar 0) (dCons (eC (.int 4)) (dNil))) dNil) (eVar 3)))))
def F__law_joined : Fun := runF (some 0) 6 d__law_joined
theorem ok__law_joined (D : Wd1 K mg) {fd : FuncData} (Fd : FnP K D__law_joined fd) : FnG P w K mg base (L2.CX P w) 2 (He.fAd K D__law_joined.at_) fd ["box", "kind", "ring", "share", "a", "b"] (spF K (some 0) 6 F__law_joined) := by
  obtain ⟨_, fd__law_draw⟩ := D.df 1 D__law_draw rfl
  unfold F__law_joined d__law_joined
  exact fun_ok Fd sc__law_joined rfl rfl fun cdv A outer s H T E hr hc =>
    have nd := sc__law_joined.nd
    ds_cons (ds_if (L2.PW.pt (dw_and (CmpOk.pt (ck_eq (ru hr (by decide))) (nomark _) (de_var (pv 1)) (de_c pe_int (fun _ => rfl))) (dw_and1 (CmpOk.pt (ck_lt (ru0 hr)) (nomark _) (de_var (pv 5)) (de_var (pv 2)))))) (ds_one (ds_ret (de_or' (CmpOk.pe (ck_eq (ru hr (by decide))) (nomark _) (de_sub (de_var (pv 5)) (de_var (pv 4))) (de_c pe_int (fun _ => rfl))) (de_one (CmpOk.pe (ck_eq (ru hr (by decide))) (nomark _) (de_sub (de_var (pv 5)) (de_var (pv 4))) (de_sub (de_var (pv 2)) (de_c pe_int (fun _ => rfl)))))))) (ds_nil)) (ds_cons (ds_if (L2.PW.pt (dw_and (CmpOk.pt (ck_eq (ru hr (by decide))) (nomark _) (de_var (pv 1)) (de_c pe_int (fun _ => rfl))) (dw_and1 (CmpOk.pt (ck_eq (ru hr (by decide))) (nomark _) (de_mod (de_bt call_int1 fn_int1 rfl (D.fr 0 _ rfl) bt_int (da_cons (de_add (de_var (pv 4)) (de_var (pv 5))) (da_nil) rfl) (by decide) (by decide) rfl rfl) (de_c pe_int (fun _ => rfl))) (de_c pe_int (fun _ => rfl)))))) (ds_one (ds_ret (de_c pe_bl (fun _ => rfl)))) (ds_nil)) (ds_cons (ds_if (CmpOk.pt (ck_eq (ru hr (by decide))) (nomark _) (de_var (pv 1)) (de_c pe_int (fun _ => rfl))) (ds_one (ds_ret (CmpOk.pe (ck_eq (ru hr (by decide))) (nomark _) (de_and (de_fdiv (de_add (de_mul (de_var (pv 2)) (de_var (pv 5))) (de_var (pv 3))) (de_c pe_int (fun _ => rfl))) (de_c pe_int (fun _ => rfl))) (de_c pe_int (fun _ => rfl))))) (ds_nil)) (ds_one (ds_ret (CmpOk.pe (ck_lt (ru0 hr)) (nomark _) (de_call (k := 1) ((ok__law_draw D fd__law_draw).mono (by decide)) (hr.mono (by decide)) hc rfl (D.gl 37 _ rfl) fd__law_draw.kp (bindG0 (ks := []) (p := [0, 1]) fd__law_draw (fun _ _ _ _ _ _ us ws h1 h2 => match us, ws, h1, h2 with | [_, _], [], _, _ => rfl)) tk_of (fun xs ys h1 h2 => match xs, ys, h1, h2 with | [_, _], [], _, _ => rfl) (da_cons (de_var (pv 0)) (da_cons (de_c pe_int (fun _ => rfl)) (da_nil) rfl) rfl) (by decide) rfl rfl) (de_var (pv 3)))))))
theorem sc__law_graph : FnScope ["box", "size", "kind", "ring", "share", "order", "turned", "edges", "b", "a"] ["box", "size"] (defScope (top 35)) := ⟨rfl, rfl, rfl, by decide +kernel, rfl, by decide +kernel, by decide +kernel⟩
@[irreducible] def d__law_graph : DenS := sSeq (sFix 2 (eCall (some 0) F__law_draw 2 0 [0, 1] [] (dCons (eVar 0) (dCons (eC (.int 5)) (dNil))) dNil)) (sSeq (sFix 3 (eBin addD (eC (.int 4)) (eCall (some 0) F__law_draw 2 0 [0, 1] [] (dCons (eVar 0) (dCons (eFn maxD (dCons (eC (.int 1)) (dCons (eBin (intD fun i j => i - j) (eVar 1) (eC (.int 3))) (dNil)))) (dNil))) dNil))) (sSeq (sFix 4 (eBin addD (eC (.int 1)) (eCall (some 0) F__law_draw 2 0 [0, 1] [] (dCons (eVar 0) (dCons (eC (.int 3)) (dNil))) dNil))) (sSeq (sFix 5 (eCall (some 0) F__law_order 2 0 [0, 1] [] (dCons (eVar 0) (dCons (eVar 1) (dNil))) dNil)) (sSeq (sFix 6 (eBin ceqD (eCall (some 0) F__law_draw 2 0 [0, 1] [] (dCons (eVar 0) (dCons (eC (.int 3)) (dNil))) dNil) (eC (.int 0)))) (sSeq (sSet 7 (eLst (dNil))) (sSeq (sFor (iFn range1D (dCons (eVar 1) (dNil))) (gNm 8) (sFor (iFn range1D (dCons (eVar 8) (dNil))) (gNm 9) (sIf (tBl (eBin cneD (eCall (some 0) F__law_joined 6 0 [0, 1, 2, 3, 4, 5] [] (dCons (eVar 0) (dCons (eVar 2) (dCons (eVar 3) (dCons (eVar 4) (dCons (eVar 9) (dCons (eVar 8) (dNil))))))) dNil) (eVar 6))) (sDrop (eMut appendD 7 (dCons (eTup (dCons (eBin idxD (eVar 5) (eVar 9)) (dCons (eBin idxD (eVar 5) (eVar 8)) (dNil)))) (dNil)))) (sNx)))) (sSeq (sFrz 7) (sRet (eCall none F__law_near 2 0 [0, 1] [] (dCons (eVar 1) (dCons (eVar 7) (dNil))) dNil)))))))))
def F__law_graph : Fun := runF (some 0) 10 d__law_graph
theorem ok__law_graph (D : Wd1 K mg) {fd : FuncData} (Fd : FnP K D__law_graph fd) : FnG P w K mg base (L2.CX P w) 3 (He.fAd K D__law_graph.at_) fd ["box", "size"] (spF K (some 0) 2 F__law_graph) := by
  obtain ⟨_, fd__law_draw⟩ := D.df 1 D__law_draw rfl
  obtain ⟨_, fd__law_order⟩ := D.df 21 D__law_order rfl
  obtain ⟨_, fd__law_joined⟩ := D.df 22 D__law_joined rfl
  obtain ⟨_, fd__law_near⟩ := D.df 20 D__law_near rfl
  unfold F__law_graph d__law_graph
  exact fun_ok Fd sc__law_graph rfl rfl fun cdv A outer s H T E hr hc =>
    have nd := sc__law_graph.nd
    ds_cons (ds_fix nd rfl (Or.inl rfl) (de_call (k := 1) ((ok__law_draw D fd__law_draw).mono (by decide)) (hr.mono (by decide)) hc rfl (D.gl 37 _ rfl) fd__law_draw.kp (bindG0 (ks := []) (p := [0, 1]) fd__law_draw (fun _ _ _ _ _ _ us ws h1 h2 => match us, ws, h1, h2 with | [_, _], [], _, _ => rfl)) tk_of (fun xs ys h1 h2 => match xs, ys, h1, h2 with | [_, _], [], _, _ => rfl) (da_cons (de_var (pv 0)) (da_cons (de_c pe_int (fun _ => rfl)) (da_nil) rfl) rfl) (by decide) rfl rfl) rfl (Or.inl rfl)) (ds_cons (ds_fix nd rfl (Or.inl rfl) (de_add (de_c pe_int (fun _ => rfl)) (de_call (k := 1) ((ok__law_draw D fd__law_draw).mono (by decide)) (hr.mono (by decide)) hc rfl (D.gl 37 _ rfl) fd__law_draw.kp (bindG0 (ks := []) (p := [0, 1]) fd__law_draw (fun _ _ _ _ _ _ us ws h1 h2 => match us, ws, h1, h2 with | [_, _], [], _, _ => rfl)) tk_of (fun xs ys h1 h2 => match xs, ys, h1, h2 with | [_, _], [], _, _ => rfl) (da_cons (de_var (pv 0)) (da_cons (de_bf (cr_max rfl (ru hr (by decide))) fn_mm rfl (D.fr 38 _ rfl) bt_max (da_cons (de_c pe_int (fun _ => rfl)) (da_cons (de_sub (de_var (pv 1)) (de_c pe_int (fun _ => rfl))) (da_nil) rfl) rfl) (by decide) (by decide) rfl rfl) (da_nil) rfl) rfl) (by decide) rfl rfl)) rfl (Or.inl rfl)) (ds_cons (ds_fix nd rfl (Or.inl rfl) (de_add (de_c pe_int (fun _ => rfl)) (de_call (k := 1) ((ok__law_draw D fd__law_draw).mono (by decide)) (hr.mono (by decide)) hc rfl (D.gl 37 _ rfl) fd__law_draw.kp (bindG0 (ks := []) (p := [0, 1]) fd__law_draw (fun _ _ _ _ _ _ us ws h1 h2 => match us, ws, h1, h2 with | [_, _], [], _, _ => rfl)) tk_of (fun xs ys h1 h2 => match xs, ys, h1, h2 with | [_, _], [], _, _ => rfl) (da_cons (de_var (pv 0)) (da_cons (de_c pe_int (fun _ => rfl)) (da_nil) rfl) rfl) (by decide) rfl rfl)) rfl (Or.inl rfl)) (ds_cons (ds_fix nd rfl (Or.inl rfl) (de_call (k := 2) ((ok__law_order D fd__law_order).mono (by decide)) (hr.mono (by decide)) hc rfl (D.gl 39 _ rfl) fd__law_order.kp (bindG0 (ks := []) (p := [0, 1]) fd__law_order (fun _ _ _ _ _ _ us ws h1 h2 => match us, ws, h1, h2 with | [_, _], [], _, _ => rfl)) tk_of (fun xs ys h1 h2 => match xs, ys, h1, h2 with | [_, _], [], _, _ => rfl) (da_cons (de_var (pv 0)) (da_cons (de_var (pv 1)) (da_nil) rfl) rfl) (by decide) rfl rfl) rfl (Or.inl rfl)) (ds_cons (ds_fix nd rfl (Or.inl rfl) (CmpOk.pe (ck_eq (ru hr (by decide))) (nomark _) (de_call (k := 1) ((ok__law_draw D fd__law_draw).mono (by decide)) (hr.mono (by decide)) hc rfl (D.gl 37 _ rfl) fd__law_draw.kp (bindG0 (ks := []) (p := [0, 1]) fd__law_draw (fun _ _ _ _ _ _ us ws h1 h2 => match us, ws, h1, h2 with | [_, _], [], _, _ => rfl)) tk_of (fun xs ys h1 h2 => match xs, ys, h1, h2 with | [_, _], [], _, _ => rfl) (da_cons (de_var (pv 0)) (da_cons (de_c pe_int (fun _ => rfl)) (da_nil) rfl) rfl) (by decide) rfl rfl) (de_c pe_int (fun _ => rfl))) rfl (Or.inl rfl)) (ds_cons (ds_set nd rfl (Or.inl rfl) (de_lst (da_nil)) rfl (Or.inl rfl)) (ds_cons (ds_for (fp := [8]) hp_of rfl (di_range1 rfl (D.fr 2 _ rfl) (da_cons (de_var (pv 1)) (da_nil) rfl) rfl) (dg_nm (by decide) nd rfl (Or.inl rfl) (by first | exact Or.inl rfl | exact Or.inr rfl)) (ds_one (ds_for (fp := [9]) hp_of rfl (di_range1 rfl (D.fr 2 _ rfl) (da_cons (de_var (pv 8)) (da_nil) rfl) rfl) (dg_nm (by decide) nd rfl (Or.inl rfl) (by first | exact Or.inl rfl | exact Or.inr rfl)) (ds_one (ds_if (CmpOk.pt (ck_ne (ru hr (by decide))) (nomark _) (de_call (k := 2) ((ok__law_joined D fd__law_joined).mono (by decide)) (hr.mono (by decide)) hc rfl (D.gl 40 _ rfl) fd__law_joined.kp (bindG0 (ks := []) (p := [0, 1, 2, 3, 4, 5]) fd__law_joined (fun _ _ _ _ _ _ us ws h1 h2 => match us, ws, h1, h2 with | [_, _, _, _, _, _], [], _, _ => rfl)) tk_of (fun xs ys h1 h2 => match xs, ys, h1, h2 with | [_, _, _, _, _, _], [], _, _ => rfl) (da_cons (de_var (pv 0)) (da_cons (de_var (pv 2)) (da_cons (de_var (pv 3)) (da_cons (de_var (pv 4)) (da_cons (de_var (pv 9)) (da_cons (de_var (pv 8)) (da_nil) rfl) rfl) rfl) rfl) rfl) rfl) (by decide) rfl rfl) (de_var (pv 6))) (ds_one (ds_expr (de_mut mut_append PySem.F.plainAttrs_list PySem.F.slot_list_append PySem.F.type_list_append mt_append (pv 7) (da_cons (de_tup (da_cons (de_idx (ru hr (by decide)) (fun _ _ => rfl) (de_var (pv 5)) (de_var (pv 9))) (da_cons (de_idx (ru hr (by decide)) (fun _ _ => rfl) (de_var (pv 5)) (de_var (pv 8))) (da_nil) rfl) rfl)) (da_nil) rfl) rfl rfl rfl rfl rfl) rfl)) (ds_nil))) (fun _ => rfl))) (fun _ => rfl)) (ds_one (ds_frz (i := 7) (ds_ret (de_call (k := 1) ((ok__law_near D fd__law_near).mono (by decide)) (hr.mono (by decide)) hc rfl (D.gl 41 _ rfl) fd__law_near.kp (bindG0 (ks := []) (p := [0, 1]) fd__law_near (fun _ _ _ _ _ _ us ws h1 h2 => match us, ws, h1, h2 with | [_, _], [], _, _ => rfl)) tk_of (fun xs ys h1 h2 => match xs, ys, h1, h2 with | [_, _], [], _, _ => rfl) (da_cons (de_var (pv 1)) (da_cons (de_var (pv 7)) (da_nil) rfl) rfl) (by decide) rfl rfl))))))))))
theorem sc__law_all : FnScope ["script", "box", "most", "size", "some", "full", "k"] ["script"] (defScope (top 41)) := ⟨rfl, rfl, rfl, by decide +kernel, rfl, by decide +kernel, by decide +kernel⟩
@[irreducible] def d__law_all : DenS := sSeq (sSet 1 (eCall none F__law_box 1 0 [0] [] (dCons (eVar 0) (dNil)) dNil)) (sSeq (sFor (iOf (eLst (dCons (eC (.int 3)) (dCons (eC (.int 8)) (dCons (eC (.int 16)) (dNil)))))) (gNm 2) (sIf (tNot' (tOf (eCall none F__law_right 1 0 [0] [] (dCons (eCall (some 0) F__law_graph 2 0 [0, 1] [] (dCons (eVar 1) (dCons (eBin addD (eC (.int 1)) (eCall (some 0) F__law_draw 2 0 [0, 1] [] (dCons (eVar 1) (dCons (eVar 2) (dNil))) dNil)) (dNil))) dNil) (dNil)) dNil))) (sRet (eC (.bl false))) (sNx))) (sSeq (sFix 3 (eBin addD (eC (.int 1)) (eCall (some 0) F__law_draw 2 0 [0, 1] [] (dCons (eVar 1) (dCons (eC (.int 24)) (dNil))) dNil))) (sSeq (sSeq (sSet 4 (eComp (iFn range1D (dCons (eBin (intD fun i j => i - j) (eVar 3) (eC (.int 1))) (dNil))) [6] (gNm 6) (cTest (bYes) (cElt (eTup (dCons (eCall (some 0) F__law_draw 2 0 [0, 1] [] (dCons (eVar 1) (dCons (eBin addD (eC (.int 1)) (eBin fdivD (eVar 6) (eC (.int 2)))) (dNil))) dNil) (dCons (eBin addD (eC (.int 1)) (eVar 6)) (dNil)))))))) (sFrz 4)) (sSeq (sSeq (sSet 5 (eComp (iFn range1D (dCons (eVar 3) (dNil))) [6] (gNm 6) (cTest (bYes) (cElt (eBin (intD fun i j => i - j) (eBin (intD fun i j => i - j) (eBin shlD (eC (.int 1)) (eVar 3)) (eC (.int 1))) (eBin shlD (eC (.int 1)) (eVar 6))))))) (sFrz 5)) (sRet (eAnd (eCall none F__law_right 1 0 [0] [] (dCons (eCall none F__law_near 2 0 [0, 1] [] (dCons (eVar 3) (dCons (eVar 4) (dNil))) dNil) (dNil)) dNil) (eAnd (eCall none F__law_right 1 0 [0] [] (dCons (eBin mulD (eLst (dCons (eC (.int 0)) (dNil))) (eVar 3)) (dNil)) dNil) (eCall none F__law_right 1 0 [0] [] (dCons (eVar 5) (dNil)) dNil))))))))
def F__law_all : Fun := runF none 7 d__law_all
theorem ok__law_all (D : Wd1 K mg) {fd : FuncData} (Fd : FnP K D__law_all fd) : FnG P w K mg base (L2.CX P w) 9 (He.fAd K D__law_all.at_) fd ["script"] (spF K none 1 F__law_all) := by
  obtain ⟨_, fd__law_box⟩ := D.df 0 D__law_box rfl
  obtain ⟨_, fd__law_right⟩ := D.df 19 D__law_right rfl
  obtain ⟨_, fd__law_graph⟩ := D.df 23 D__law_graph rfl
  obtain ⟨_, fd__law_draw⟩ := D.df 1 D__law_draw rfl
  obtain ⟨_, fd__law_near⟩ := D.df 20 D__law_near rfl
  unfold F__law_all d__law_all
  exact fun_ok Fd sc__law_all rfl rfl fun cdv A outer s H T E hr hc =>
    have nd := sc__law_all.nd
    ds_cons (ds_set nd rfl (Or.inr rfl) (de_call (k := 1) ((ok__law_box D fd__law_box).mono (by decide)) (hr.mono (by decide)) hc rfl (D.gl 42 _ rfl) fd__law_box.kp (bindG0 (ks := []) (p := [0]) fd__law_box (fun _ _ _ _ _ _ us ws h1 h2 => match us, ws, h1, h2 with | [_], [], _, _ => rfl)) tk_of (fun xs ys h1 h2 => match xs, ys, h1, h2 with | [_], [], _, _ => rfl) (da_cons (de_var (pv 0)) (da_nil) rfl) (by decide) rfl rfl) rfl (Or.inl rfl)) (ds_cons (ds_for (fp := [2]) hp_of rfl (di_of (de_lst (da_cons (de_c pe_int (fun _ => rfl)) (da_cons (de_c pe_int (fun _ => rfl)) (da_cons (de_c pe_int (fun _ => rfl)) (da_nil) rfl) rfl) rfl))) (dg_nm (by decide) nd rfl (Or.inl rfl) (by first | exact Or.inl rfl | exact Or.inr rfl)) (ds_one (ds_if (dt_not (dt_of (de_call (k := 8) ((ok__law_right D fd__law_right).mono (by decide)) (hr.mono (by decide)) hc rfl (D.gl 44 _ rfl) fd__law_right.kp (bindG0 (ks := []) (p := [0]) fd__law_right (fun _ _ _ _ _ _ us ws h1 h2 => match us, ws, h1, h2 with | [_], [], _, _ => rfl)) tk_of (fun xs ys h1 h2 => match xs, ys, h1, h2 with | [_], [], _, _ => rfl) (da_cons (de_call (k := 3) ((ok__law_graph D fd__law_graph).mono (by decide)) (hr.mono (by decide)) hc rfl (D.gl 43 _ rfl) fd__law_graph.kp (bindG0 (ks := []) (p := [0, 1]) fd__law_graph (fun _ _ _ _ _ _ us ws h1 h2 => match us, ws, h1, h2 with | [_, _], [], _, _ => rfl)) tk_of (fun xs ys h1 h2 => match xs, ys, h1, h2 with | [_, _], [], _, _ => rfl) (da_cons (de_var (pv 1)) (da_cons (de_add (de_c pe_int (fun _ => rfl)) (de_call (k := 1) ((ok__law_draw D fd__law_draw).mono (by decide)) (hr.mono (by decide)) hc rfl (D.gl 37 _ rfl) fd__law_draw.kp (bindG0 (ks := []) (p := [0, 1]) fd__law_draw (fun _ _ _ _ _ _ us ws h1 h2 => match us, ws, h1, h2 with | [_, _], [], _, _ => rfl)) tk_of (fun xs ys h1 h2 => match xs, ys, h1, h2 with | [_, _], [], _, _ => rfl) (da_cons (de_var (pv 1)) (da_cons (de_var (pv 2)) (da_nil) rfl) rfl) (by decide) rfl rfl)) (da_nil) rfl) rfl) (by decide) rfl rfl) (da_nil) rfl) (by decide) rfl rfl) (fun _ => rfl))) (ds_one (ds_ret (de_c pe_bl (fun _ => rfl)))) (ds_nil))) (fun _ => rfl)) (ds_cons (ds_fix nd rfl (Or.inr rfl) (de_add (de_c pe_int (fun _ => rfl)) (de_call (k := 1) ((ok__law_draw D fd__law_draw).mono (by decide)) (hr.mono (by decide)) hc rfl (D.gl 37 _ rfl) fd__law_draw.kp (bindG0 (ks := []) (p := [0, 1]) fd__law_draw (fun _ _ _ _ _ _ us ws h1 h2 => match us, ws, h1, h2 with | [_, _], [], _, _ => rfl)) tk_of (fun xs ys h1 h2 => match xs, ys, h1, h2 with | [_, _], [], _, _ => rfl) (da_cons (de_var (pv 1)) (da_cons (de_c pe_int (fun _ => rfl)) (da_nil) rfl) rfl) (by decide) rfl rfl)) rfl (Or.inl rfl)) (ds_cons (ds_post (ds_setComp (own := [("k", 6)]) (fp := [6]) rfl nd rfl rfl rfl (show BlkOk ["script", "box", "most", "size", "some", "full", "k"] (defScope (top 41)) _ _ from ⟨rfl, by decide +kernel, by decide +kernel, by decide +kernel, by decide +kernel⟩) (by decide) (foot_nm (by decide)) (di_range1 rfl (D.fr 2 _ rfl) (da_cons (de_sub (de_var (pv 3)) (de_c pe_int (fun _ => rfl))) (da_nil) rfl) rfl) (fun s H C cl fp => dg_nm (by decide) nd rfl (by first | exact Or.inl rfl | exact Or.inr rfl) (by first | exact Or.inl rfl | exact Or.inr rfl)) (fun s H C cl fp => dts_nil) (fun s H C cl fp => de_tup (da_cons (de_call (k := 1) ((ok__law_draw D fd__law_draw).mono (by decide)) (hr.mono (by decide)) hc rfl (D.gl 37 _ rfl) fd__law_draw.kp (bindG0 (ks := []) (p := [0, 1]) fd__law_draw (fun _ _ _ _ _ _ us ws h1 h2 => match us, ws, h1, h2 with | [_, _], [], _, _ => rfl)) (takesF _) (fun xs ys h1 h2 => match xs, ys, h1, h2 with | [_, _], [], _, _ => rfl) (da_cons (de_var (pv 1)) (da_cons (de_add (de_c pe_int (fun _ => rfl)) (de_fdiv (de_var (pv 6)) (de_c pe_int (fun _ => rfl)))) (da_nil) rfl) rfl) (by decide) rfl rfl) (da_cons (de_add (de_c pe_int (fun _ => rfl)) (de_var (pv 6))) (da_nil) rfl) rfl)) (fun _ => rfl))) (ds_cons (ds_post (ds_setComp (own := [("k", 6)]) (fp := [6]) rfl nd rfl rfl rfl (show BlkOk ["script", "box", "most", "size", "some", "full", "k"] (defScope (top 41)) _ _ from ⟨rfl, by decide +kernel, by decide +kernel, by decide +kernel, by decide +kernel⟩) (by decide) (foot_nm (by decide)) (di_range1 rfl (D.fr 2 _ rfl) (da_cons (de_var (pv 3)) (da_nil) rfl) rfl) (fun s H C cl fp => dg_nm (by decide) nd rfl (by first | exact Or.inl rfl | exact Or.inr rfl) (by first | exact Or.inl rfl | exact Or.inr rfl)) (fun s H C cl fp => dts_nil) (fun s H C cl fp => de_sub (de_sub (de_shl (de_c pe_int (fun _ => rfl)) (de_var (pv 3))) (de_c pe_int (fun _ => rfl))) (de_shl (de_c pe_int (fun _ => rfl)) (de_var (pv 6)))) (fun _ => rfl))) (ds_one (ds_ret (de_and' (de_call (k := 8) ((ok__law_right D fd__law_right).mono (by decide)) (hr.mono (by decide)) hc rfl (D.gl 44 _ rfl) fd__law_right.kp (bindG0 (ks := []) (p := [0]) fd__law_right (fun _ _ _ _ _ _ us ws h1 h2 => match us, ws, h1, h2 with | [_], [], _, _ => rfl)) tk_of (fun xs ys h1 h2 => match xs, ys, h1, h2 with | [_], [], _, _ => rfl) (da_cons (de_call (k := 1) ((ok__law_near D fd__law_near).mono (by decide)) (hr.mono (by decide)) hc rfl (D.gl 41 _ rfl) fd__law_near.kp (bindG0 (ks := []) (p := [0, 1]) fd__law_near (fun _ _ _ _ _ _ us ws h1 h2 => match us, ws, h1, h2 with | [_, _], [], _, _ => rfl)) tk_of (fun xs ys h1 h2 => match xs, ys, h1, h2 with | [_, _], [], _, _ => rfl) (da_cons (de_var (pv 3)) (da_cons (de_var (pv 4)) (da_nil) rfl) rfl) (by decide) rfl rfl) (da_nil) rfl) (by decide) rfl rfl) (de_and' (de_call (k := 8) ((ok__law_right D fd__law_right).mono (by decide)) (hr.mono (by decide)) hc rfl (D.gl 44 _ rfl) fd__law_right.kp (bindG0 (ks := []) (p := [0]) fd__law_right (fun _ _ _ _ _ _ us ws h1 h2 => match us, ws, h1, h2 with | [_], [], _, _ => rfl)) tk_of (fun xs ys h1 h2 => match xs, ys, h1, h2 with | [_], [], _, _ => rfl) (da_cons (de_mul (de_lst (da_cons (de_c pe_int (fun _ => rfl)) (da_nil) rfl)) (de_var (pv 3))) (da_nil) rfl) (by decide) rfl rfl) (de_one (de_call (k := 8) ((ok__law_right D fd__law_right).mono (by decide)) (hr.mono (by decide)) hc rfl (D.gl 44 _ rfl) fd__law_right.kp (bindG0 (ks := []) (p := [0]) fd__law_right (fun _ _ _ _ _ _ us ws h1 h2 => match us, ws, h1, h2 with | [_], [], _, _ => rfl)) tk_of (fun xs ys h1 h2 => match xs, ys, h1, h2 with | [_], [], _, _ => rfl) (da_cons (de_var (pv 5)) (da_nil) rfl) (by decide) rfl rfl))))))))))
theorem sc_law : FnScope ["script"] ["script"] (defScope (top 42)) := ⟨rfl, rfl, rfl, by decide +kernel, rfl, by decide +kernel, by decide +kernel⟩
@[irreducible] def d_law : DenS := sTryN (sRet (eCall none F__law_all 1 0 [0] [] (dCons (eVar 0) (dNil)) dNil)) (tabM ["InvalidGraph", "InvalidText"] []) (sRet (eC (.bl false)))
def F_law : Fun := runF none 1 d_law
theorem ok_law (D : Wd1 K mg) {fd : FuncData} (Fd : FnP K D_law fd) : FnG P w K mg base (L2.CX P w) 10 (He.fAd K D_law.at_) fd ["script"] (spF K none 1 F_law) := by
  obtain ⟨_, fd__law_all⟩ := D.df 24 D__law_all rfl
  unfold F_law d_law
  exact fun_ok Fd sc_law rfl rfl fun cdv A outer s H T E hr hc =>
    have nd := sc_law.nd
    ds_one (ds_tryN rfl rfl ⟨rfl, by decide, Or.inl (D.gl 46 _ rfl)⟩ tk_of (tabM_ok (fun x h => by simp only [List.mem_cons, List.not_mem_nil, or_false] at h; rcases h with rfl | rfl <;> first | exact D.exm 47 _ _ _ rfl | exact D.exm 48 _ _ _ rfl) (fun x h => absurd h (List.not_mem_nil))) (fun W1 pn xe tk1 hp1 => ds_one (ds_ret (de_call (k := 9) ((ok__law_all D fd__law_all).mono (by decide)) (hr.mono (by decide)) hc rfl (D.gl 45 _ rfl) fd__law_all.kp (bindG0 (ks := []) (p := [0]) fd__law_all (fun _ _ _ _ _ _ us ws h1 h2 => match us, ws, h1, h2 with | [_], [], _, _ => rfl)) tk1 (fun xs ys h1 h2 => match xs, ys, h1, h2 with | [_], [], _, _ => rfl) (da_cons (de_var (pv 0)) (da_nil) rfl) (by decide) rfl rfl))) (fun a oe pn => ds_one (ds_ret (de_c pe_bl (fun _ => rfl)))))
end
end Ev
namespace Ev
open PySem PySem.Spec PyProof.Rows L2

/-! ### the law's own call, for a guarded promise -/
abbrev EndR (s1 : Shared) : Result → Shared → Prop := fun r z => r = .ok (.ret (.bool true)) ∧ OldK s1.heap z.heap ∧ z.os = s1.os ∧ AllBare z.gens
abbrev TruePost : VK := fun v _ => v = .bl true
abbrev NoEx : XK := fun _ _ _ => False
abbrev scrO (us : List Value) : Obj := { cls := .type "list", data := .seq us.toArray }

section
variable {P : Program} {w : World} {K : Fr} {mg mb : Str → Option Value} {CX : CXT} {k : Nat} {f a : Addr} {fd : FuncData} {x : Str} {sp : Sp} {s1 : Shared} {us : List Value} {ns : List Int}

/-- an object of the heap that is no list of items is not the script -/
theorem only_at {H : Hp} (hA : ∀ b, H b ≠ none → b = a) (b : Addr) (n : b ≠ a) : H b = none := by
  cases q : H b with
  | none => rfl
  | some u => exact absurd (hA b (by rw [q]; exact fun z => nomatch z)) n

theorem dict_off {H : Hp} (ea : s1.heap.get? a = some (scrO us)) (hA : ∀ b, H b ≠ none → b = a) {b : Addr} {o : Obj} {es : Array DictEntry} {n : Nat} (eb : s1.heap.get? b = some o) (ed : o.data = .dict es n) : H b = none :=
  only_at hA b fun z => by
    rw [z, ea] at eb
    rw [← Option.some.inj eb] at ed
    exact nomatch (show Data.seq us.toArray _ = Data.dict es n from ed)

theorem hid_ns {H : Hp} (ea : s1.heap.get? a = some (scrO us)) (hA : ∀ b, H b ≠ none → b = a) {b : Addr} {m : Str → Option Value} (q : s1.heap.Ns b m) : (hidT s1.heap H).Ns b m := by
  obtain ⟨o, es, n, eb, ed, rest⟩ := q
  exact ⟨o, es, n, hidT_get eb (dict_off ea hA eb ed), ed, rest⟩

theorem call_at {H : Hp} (KX : K.In s1.heap) (gm : s1.heap.Ns mainGlobals mg) (gb : s1.heap.Ns builtinsNs mb) (bo : ∀ x : Str, x ≠ "__name__" → mb x = bootBuiltins x) (nl : s1.heap.NoLimit) (ng : s1.gens = #[])
    (ea : s1.heap.get? a = some (scrO us)) (room : Room k callerA) (F : ∀ b : Heap, K.In b → b.Ns mainGlobals mg → FnG P w K mg b CX k f fd [x] sp) (bi : ∀ (s : Shared) (u : Value), BindsTo s fd ⟨[u], []⟩ [(x, u)])
    (hX : ∀ H e z, CX [] H s1 NoEx e z → False) (ho : Only H) (ok : HOk P w H s1.heap) (hA : ∀ b, H b ≠ none → b = a) (hK : H a ≠ none → K.lookup a = none) (go : sp [.ref a] H TruePost NoEx) :
    codeAny (model P w) callerA (.call (.ref f) ⟨[.ref a], []⟩) (EndR s1) s1 := by
  have kin : K.In (hidT s1.heap H) := fun b o e => hidT_get (KX b o e) (by
    by_cases c : b = a
    · cases q : H a with
      | none => rw [c]; exact q
      | some u => rw [c, hK (by rw [q]; exact fun z => nomatch z)] at e; exact nomatch e
    · exact only_at hA b c)
  have md : Mod K mg (hidT s1.heap H) := ⟨kin, hid_ns ea hA gm, ⟨mb, hid_ns ea hA gb, bo⟩, by
    obtain ⟨m, q1, q2⟩ := nl
    exact ⟨m, hid_ns ea hA q1, q2⟩⟩
  have env : Env0 P w K mg (hidT s1.heap H) callerA [] s1 H := ⟨rfl, md, fun b o e => of_hidT e, Nat.le_of_eq (hidT_size _ _), trivial, fun b m => absurd m List.not_mem_nil, ok, .of_eq ng⟩
  have run := (F _ kin (hid_ns ea hA gm)).go callerA [] s1 H ⟨[.ref a], []⟩ [.ref a] [.ref a] _ _ room rfl env (bi s1 (.ref a)) (.cons rfl .nil) go
  refine codeAny_mono run fun r z q => ?_
  match r, q with
  | .error e, q => exact (hX H e z q).elim
  | .ok .next, q => exact q.elim
  | .ok .brk, q => exact q.elim
  | .ok .cont, q => exact q.elim
  | .ok (.ret u), q =>
    obtain ⟨v, H2, os, bare, un, ok2, rv, tv⟩ := q
    cases (show v = .bl true from tv)
    cases (show u = Value.bool true from rv)
    refine ⟨rfl, OldK.of_keep fun b o e => ?_, os, bare⟩
    cases hb : H b with
    | none => exact un.keep b o e hb (fun m => absurd m List.not_mem_nil) (by simp)
    | some t =>
      rcases ho b with n | ⟨p, xs, n⟩
      · rw [hb] at n; exact nomatch n
      · have n1 := (ok b _ n).1
        rw [e] at n1
        rw [Option.some.inj n1]
        exact (ok2 b _ (un.frzs b p _ n)).1

theorem callG (KX : K.In s1.heap) (gm : s1.heap.Ns mainGlobals mg) (gb : s1.heap.Ns builtinsNs mb) (bo : ∀ x : Str, x ≠ "__name__" → mb x = bootBuiltins x) (nl : s1.heap.NoLimit) (ng : s1.gens = #[])
    (ea : s1.heap.get? a = some (scrO us)) (ia : IntsAre us ns) (le : ns.length ≤ sizeLine) (room : Room k callerA) (F : ∀ b : Heap, K.In b → b.Ns mainGlobals mg → FnG P w K mg b CX k f fd [x] sp)
    (bi : ∀ (s : Shared) (u : Value), BindsTo s fd ⟨[u], []⟩ [(x, u)]) (hX : ∀ H e z, CX [] H s1 NoEx e z → False)
    (go : ∀ H : Hp, Only H → SqL K H a (ns.map V.int) → sp [.ref a] H TruePost NoEx) : codeAny (model P w) callerA (.call (.ref f) ⟨[.ref a], []⟩) (EndR s1) s1 := by
  have vi := vals_ints ia
  have ln := ia.length
  cases lk : K.lookup a with
  | some o =>
    have e := KX a o lk
    rw [ea] at e
    rw [← Option.some.inj e] at lk
    refine call_at (H := fun _ => none) KX gm gb bo nl ng ea room F bi hX (fun _ => .inl rfl) (fun b u z => nomatch (show (none : Option HO) = some u from z)) (fun b z => absurd rfl z) (fun z => absurd rfl z) (go _ (fun _ => .inl rfl) ?_)
    refine .inr ⟨_, us.toArray, _, lk, rfl, rfl, rfl, ?_, ?_⟩
    · rw [List.size_toArray, ln]; exact le
    · exact vi
  | none =>
    have key : ∀ b u, (upd (fun _ => none) a (.frz (scrO us) (.lst (ns.map V.int)))) b = some u → b = a ∧ u = .frz (scrO us) (.lst (ns.map V.int)) := fun b u z => by
      by_cases c : b = a
      · rw [c, upd_same] at z; exact ⟨c, (Option.some.inj z).symm⟩
      · rw [upd_ne c] at z; exact nomatch z
    have on : Only (upd (fun _ => none) a (.frz (scrO us) (.lst (ns.map V.int)))) := fun b => by
      by_cases c : b = a
      · exact .inr ⟨_, _, by rw [c, upd_same]⟩
      · exact .inl (by rw [upd_ne c])
    refine call_at KX gm gb bo nl ng ea room F bi hX on (fun b u z => ?_) (fun b z => ?_) (fun _ => lk) (go _ on (.inl (.inr ⟨_, upd_same⟩)))
    · obtain ⟨rfl, rfl⟩ := key b u z
      exact ⟨ea, by rw [List.length_map]; exact le, us, _, vi, ea⟩
    · cases q : (upd (fun _ => none) a (.frz (scrO us) (.lst (ns.map V.int)))) b with
      | none => exact absurd q z
      | some u => exact (key b u q).1
end

theorem walkG {l : PySem.W.OpenLaw} {n k : Nat} {q : Program} {loose : List Str} {XP : (Str → Option Value) → Heap → Prop} {YP : World → Heap → Prop} {d : DefRec} {x : Str}
    (e1 : l.most = some n) (e2 : n ≤ sizeLine) (e3 : d.params.defaults = []) (room : Room k callerA)
    (F : ∀ (w : World) (mg : Str → Option Value) (f : Addr) (h : Heap), YP w h → h.Ns mainGlobals mg → mg d.name = some (.ref f) → ∃ (K : Fr) (fd : FuncData) (G : Fun), K.In h ∧ (∀ (s : Shared) (u : Value), BindsTo s fd ⟨[u], []⟩ [(x, u)]) ∧
      (∀ ns : List Int, ns.length ≤ n → (∀ z ∈ ns, Builtin.Int.intBits z ≤ 1048576) → ∃ o, G [.scr ns] = .ret (.val (.bl true)) o) ∧
      ∀ b : Heap, K.In b → b.Ns mainGlobals mg → FnG l.prog w K mg b (L2.CX l.prog w) k f fd [x] (spF K none 1 G)) :
    PySem.W.WalkO q loose XP YP l.row.toRowW d [] (fun f vs => PySem.call f vs) := by
  refine Att.attach_callB e1 e3 fun w s0 s1 mg mb f o pm cd doc a us ns G0 Y _ _ _ hm ea ia le bits ng => ?_
  obtain ⟨K, fd, G, KX, bi, val, FF⟩ := F w mg f _ Y G0.T.g hm
  refine callG KX G0.T.g G0.T.b G0.T.builtins G0.T.nolimit ng ea ia (Nat.le_trans le e2) room FF bi (fun H e z c => ?_) fun H on sq => ?_
  · obtain ⟨_, _, _, _, _, _, _, _, _, _, _, _, no⟩ := c
    exact no
  · obtain ⟨out, ev⟩ := val ns le bits
    refine ⟨rfl, H, [.scr ns], none, Same.refl _, ⟨rfl, fun i v dd _ h1 h2 => ?_, (fun i v dd h => nomatch h), (fun _ => rfl), (fun b h => nomatch h)⟩, ?_⟩
    · match i, h1, h2 with
      | 0, h1, h2 =>
        cases h1; cases h2
        exact ⟨a, rfl, sq⟩
    · rw [ev]
      exact fun v Z' H' _ rv => rv
end Ev
namespace Ev
open PySem PySem.Spec PyProof.Rows L2

/-! ### values of the evaluators, rule by rule -/
def fzv : RV → RV
  | .own d => .val d
  | x => x
section
variable {f g h : Den} {l lk : DenL} {p q : DenB} {r r1 r2 r3 : Env} {x y z : RV} {d e : D} {ds es : List D} {xs ys : List RV} {i j n m : Nat} {a b : Bool} {F : Fun} {out : D}
theorem z_of (e : f r = .ok x r1) : fz (f r) = .ok (fzv x) r1 := by rw [e]; cases x <;> rfl
theorem v_val (e : r[i]? = some (.val d)) : eVar i r = .ok (.val d) r := by unfold eVar; rw [e]
theorem v_own (e : r[i]? = some (.own d)) : eVar i r = .ok (.bor i) r := by unfold eVar; rw [e]
theorem v_ino (e : r[i]? = some (.ino d)) : eVar i r = .ok (.bor i) r := by unfold eVar; rw [e]
theorem v_c : eC d r = .ok (.val d) r := rfl
theorem v_bin {op : D → D → Option RV} (hf : f r = .ok x r1) (hg : g r1 = .ok y r2) (hx : peek r2 (fzv x) = some d) (hy : peek r2 (fzv y) = some e) (ho : op d e = some z) : eBin op f g r = .ok z r2 := by
  unfold eBin
  rw [z_of hf]
  show ((fz (g r1)).bind fun y r2 => _) = _
  rw [z_of hg]
  show (match peek r2 (fzv x), peek r2 (fzv y) with | some d, some e => ofO (op d e) r2 | _, _ => .stuck) = _
  rw [hx, hy]
  show ofO (op d e) r2 = _
  rw [ho]; rfl
theorem v_un {op : D → Option RV} (hf : f r = .ok x r1) (hx : peek r1 (fzv x) = some d) (ho : op d = some z) : eUn op f r = .ok z r1 := by
  unfold eUn
  rw [z_of hf]
  show (match peek r1 (fzv x) with | some d => ofO (op d) r1 | _ => .stuck) = _
  rw [hx]
  show ofO (op d) r1 = _
  rw [ho]; rfl
theorem v_nil : dNil r = .ok [] r := rfl
theorem v_cons (hf : f r = .ok x r1) (hl : l r1 = .ok xs r2) : dCons f l r = .ok (fzv x :: xs) r2 := by
  unfold dCons
  rw [z_of hf]
  show ((l r1).bind fun xs r2 => .ok (fzv x :: xs) r2) = _
  rw [hl]; rfl
theorem v_fn {op : List D → Option RV} (hl : l r = .ok xs r1) (hp : peeks r1 xs = some ds) (ho : op ds = some z) : eFn op l r = .ok z r1 := by
  unfold eFn
  rw [hl]
  show (match peeks r1 xs with | some ds => ofO (op ds) r1 | none => .stuck) = _
  rw [hp]
  show ofO (op ds) r1 = _
  rw [ho]; rfl
theorem v_tup (hl : l r = .ok xs r1) (ht : takes xs = some ds) (hn : ds.length ≤ most) : eTup l r = .ok (.val (.tup ds)) r1 := by
  unfold eTup
  rw [hl]
  show (match takes xs with | some ds => if ds.length ≤ most then Res.ok (RV.val (.tup ds)) r1 else Res.stuck | none => Res.stuck) = _
  rw [ht]
  exact if_pos hn
theorem v_lst (hl : l r = .ok xs r1) (ht : takes xs = some ds) (hn : ds.length ≤ most) : eLst l r = .ok (.own (.lst ds)) r1 := by
  unfold eLst
  rw [hl]
  show (match takes xs with | some ds => if ds.length ≤ most then Res.ok (RV.own (.lst ds)) r1 else Res.stuck | none => Res.stuck) = _
  rw [ht]
  exact if_pos hn
theorem vt_bl (hf : f r = .ok (.val (.bl b)) r1) : tBl f r = .ok b r1 := by unfold tBl; rw [hf]; rfl
theorem vt_of (hf : f r = .ok x r1) (hx : peek r1 (fzv x) = some d) (ht : truthD d = some b) : tOf f r = .ok b r1 := by
  unfold tOf
  rw [z_of hf]
  show (match peek r1 (fzv x) with | some d => ofO (truthD d) r1 | none => .stuck) = _
  rw [hx]
  show ofO (truthD d) r1 = _
  rw [ht]; rfl
theorem vt_not (hp : p r = .ok b r1) : tNot' p r = .ok (!b) r1 := by unfold tNot'; rw [hp]; rfl
theorem vt_andT (hp : p r = .ok true r1) (hq : q r1 = .ok b r2) : tAnd' p q r = .ok b r2 := by unfold tAnd'; rw [hp]; exact hq
theorem vt_andF (hp : p r = .ok false r1) : tAnd' p q r = .ok false r1 := by unfold tAnd'; rw [hp]; rfl
theorem vt_and (hp : p r = .ok a r) (hq : q r = .ok b r) : tAnd' p q r = .ok (a && b) r := by cases a; exact vt_andF hp; exact vt_andT hp hq
theorem vt_orT (hp : p r = .ok true r1) : tOr' p q r = .ok true r1 := by unfold tOr'; rw [hp]; rfl
theorem vt_orF (hp : p r = .ok false r1) (hq : q r1 = .ok b r2) : tOr' p q r = .ok b r2 := by unfold tOr'; rw [hp]; exact hq
theorem vt_or (hp : p r = .ok a r) (hq : q r = .ok b r) : tOr' p q r = .ok (a || b) r := by cases a; exact vt_orF hp hq; exact vt_orT hp
theorem v_not (hf : f r = .ok (.val (.bl b)) r1) : eNot f r = .ok (.val (.bl (!b))) r1 := by unfold eNot; rw [hf]; rfl
theorem v_andT (hf : f r = .ok (.val (.bl true)) r1) (hg : g r1 = .ok x r2) : eAnd f g r = .ok x r2 := by unfold eAnd; rw [hf]; exact hg
theorem v_andF (hf : f r = .ok (.val (.bl false)) r1) : eAnd f g r = .ok (.val (.bl false)) r1 := by unfold eAnd; rw [hf]; rfl
theorem v_orF (hf : f r = .ok (.val (.bl false)) r1) (hg : g r1 = .ok x r2) : eOr f g r = .ok x r2 := by unfold eOr; rw [hf]; exact hg
theorem v_orT (hf : f r = .ok (.val (.bl true)) r1) : eOr f g r = .ok (.val (.bl true)) r1 := by unfold eOr; rw [hf]; rfl
theorem v_ifT (hp : p r = .ok true r1) (hf : f r1 = .ok x r2) : eIf p f g r = .ok x r2 := by unfold eIf; rw [hp]; exact hf
theorem v_ifF (hp : p r = .ok false r1) (hg : g r1 = .ok x r2) : eIf p f g r = .ok x r2 := by unfold eIf; rw [hp]; exact hg
theorem v_call {c : List Nat} (hl : l r = .ok xs r1) (hn : xs.length = n) (ha : argD r1 none (pick c (xs ++ [])) = some (ds, none)) (hF : F ds = .ret x out) : eCall none F n 0 c [] l dNil r = .ok x r1 := by
  unfold eCall
  rw [hl]
  show (if xs.length = n ∧ ([] : List RV).length = 0 then callR none F (pick c (xs ++ [])) r1 else .stuck) = _
  rw [if_pos ⟨hn, rfl⟩]
  unfold callR
  rw [ha]
  show doneR none r1 (F ds) = _
  rw [hF]; rfl
theorem v_callIo {c : List Nat} {io : Nat} (hl : l r = .ok xs r1) (hn : xs.length = n) (ha : argD r1 (some io) (pick c (xs ++ [])) = some (ds, some j)) (hF : F ds = .ret x out) : eCall (some io) F n 0 c [] l dNil r = .ok x (putS j out r1) := by
  unfold eCall
  rw [hl]
  show (if xs.length = n ∧ ([] : List RV).length = 0 then callR (some io) F (pick c (xs ++ [])) r1 else .stuck) = _
  rw [if_pos ⟨hn, rfl⟩]
  unfold callR
  rw [ha]
  show doneR (some j) r1 (F ds) = _
  rw [hF]; rfl
theorem v_mut {op : MutD} {c c' xd : D} {us : List D} (hc : contD r i = some (.lst us)) (hl : l r = .ok xs r1) (h1 : contD r1 i = some c) (ht : takes xs = some ds) (ho : op c ds = some (c', xd)) : eMut op i l r = .ok (.val xd) (putS i c' r1) := by
  unfold eMut
  rw [hc]
  show ((l r).bind fun xs r1 => _) = _
  rw [hl]
  show (match contD r1 i, takes xs with | some c, some ds => (match op c ds with | some p => Res.ok (RV.val p.2) (putS i p.1 r1) | none => Res.stuck) | _, _ => Res.stuck) = _
  rw [h1, ht]
  show (match op c ds with | some p => Res.ok (RV.val p.2) (putS i p.1 r1) | none => .stuck) = _
  rw [ho]
theorem v_comp {fi : DenI} {vs : List Nat} {gt : DenG} {st : Stp} {items : List D} (hf : fi r = .ok items r1) (hl : cLoop vs gt st items [] r1 = .ok ds r2) : eComp fi vs gt st r = .ok (.own (.lst ds)) r2 := by
  unfold eComp
  rw [hf]
  show ((cLoop vs gt st items [] r1).bind fun acc r2 => Res.ok (RV.own (D.lst acc)) r2) = _
  rw [hl]; rfl
theorem vi_of {items : List D} (hf : f r = .ok x r1) (ht : take (fzv x) = some d) (hi : itemsD d = some items) : iOf f r = .ok items r1 := by
  unfold iOf
  rw [z_of hf]
  show (match take (fzv x) with | some d => ofO (itemsD d) r1 | none => .stuck) = _
  rw [ht]
  show ofO (itemsD d) r1 = _
  rw [hi]; rfl
theorem vi_fn {op : List D → Option (List D)} {items : List D} (hl : l r = .ok xs r1) (hp : peeks r1 xs = some ds) (ho : op ds = some items) : iFn op l r = .ok items r1 := by
  unfold iFn
  rw [hl]
  show (match peeks r1 xs with | some ds => ofO (op ds) r1 | none => .stuck) = _
  rw [hp]
  show ofO (op ds) r1 = _
  rw [ho]; rfl
end
section
variable {f g : DenS} {fe : Den} {p : DenB} {r r1 r2 : Env} {x : RV} {d c c' k : D} {i n : Nat} {io : Option Nat} {s : SRes} {ds : List D} {out : D}
theorem s_seq (hf : f r = .nx r1) (hg : g r1 = s) : sSeq f g r = s := by unfold sSeq; rw [hf]; exact hg
theorem s_set (hf : fe r = .ok x r1) (hn : noIno r1 i = true) (hs : setRes i r1 x = s) : sSet i fe r = s := by
  unfold sSet
  rw [hf]
  show (if noIno r1 i = true then setRes i r1 x else .stuck) = _
  rw [if_pos hn]; exact hs
theorem s_fix (hf : fe r = .ok x r1) (hn : noIno r1 i = true) (hs : setRes i r1 (fzv x) = s) : sFix i fe r = s := s_set (fe := fun r => fz (fe r)) (z_of hf) hn hs
theorem s_drop (hf : fe r = .ok x r1) : sDrop fe r = .nx r1 := by unfold sDrop; rw [hf]; rfl
theorem s_ret (hf : fe r = .ok (.val d) r1) : sRet fe r = .rt (.val d) r1 := by unfold sRet; rw [hf]; rfl
theorem s_retO (hf : fe r = .ok (.own d) r1) : sRet fe r = .rt (.own d) r1 := by unfold sRet; rw [hf]; rfl
theorem s_retB (hf : fe r = .ok (.bor i) r1) (hi : r1[i]? = some (.own d)) : sRet fe r = .rt (.own d) (r1.set i .un) := by
  unfold sRet
  rw [hf]
  show (match r1[i]? with | some (.own d) => SRes.rt (.own d) (r1.set i .un) | _ => .stuck) = _
  rw [hi]
theorem s_ifT (hp : p r = .ok true r1) (hf : f r1 = s) : sIf p f g r = s := by unfold sIf; rw [hp]; exact hf
theorem s_ifF (hp : p r = .ok false r1) (hg : g r1 = s) : sIf p f g r = s := by unfold sIf; rw [hp]; exact hg
theorem s_frzV (h : r[i]? = some (.val d)) : sFrz i r = .nx r := by unfold sFrz; rw [h]
theorem s_frzO (h : r[i]? = some (.own d)) : sFrz i r = .nx (r.set i (.val d)) := by unfold sFrz; rw [h]
theorem s_put {fi fv : Den} {y : RV} (hv : fv r = .ok x r1) (h1 : ∃ c, contD r1 i = some c) (hi : fi r1 = .ok y r2) (ht : take (fzv x) = some d) (hk : peek r2 (fzv y) = some k) (hc : contD r2 i = some c) (ho : setD c k d = some c') : sPut i fi fv r = .nx (putS i c' r2) := by
  obtain ⟨c0, h1⟩ := h1
  unfold sPut
  rw [z_of hv]
  show (match contD r1 i with | none => SRes.stuck | some _ => (fz (fi r1)).then fun y r2 => match take (fzv x), peek r2 y, contD r2 i with | some d, some k, some c => (match setD c k d with | some c' => .nx (putS i c' r2) | none => .stuck) | _, _, _ => .stuck) = _
  rw [h1]
  show ((fz (fi r1)).then fun y r2 => match take (fzv x), peek r2 y, contD r2 i with | some d, some k, some c => (match setD c k d with | some c' => .nx (putS i c' r2) | none => .stuck) | _, _, _ => .stuck) = _
  rw [z_of hi]
  show (match take (fzv x), peek r2 (fzv y), contD r2 i with | some d, some k, some c => (match setD c k d with | some c' => SRes.nx (putS i c' r2) | none => .stuck) | _, _, _ => .stuck) = _
  rw [ht, hk, hc]
  show (match setD c k d with | some c' => SRes.nx (putS i c' r2) | none => .stuck) = _
  rw [ho]
theorem s_for {fi : DenI} {gt : DenG} {items : List D} (hf : fi r = .ok items r1) (hl : sFor1 gt f items r1 = s) : sFor fi gt f r = s := by unfold sFor; rw [hf]; exact hl
theorem run_rt (h : f (slotsOf io ds ++ List.replicate (n - ds.length) .un) = .rt x r) (ho : outOf io r = some out) : runF io n f ds = .ret x out := by
  unfold runF
  rw [h]
  show (match outOf io r with | some d => FRes.ret x d | none => .stuck) = _
  rw [ho]
theorem run_nx (h : f (slotsOf io ds ++ List.replicate (n - ds.length) .un) = .nx r) (ho : outOf io r = some out) : runF io n f ds = .ret (.val .non) out := by
  unfold runF
  rw [h]
  show (match outOf io r with | some d => FRes.ret (.val .non) d | none => .stuck) = _
  rw [ho]
end

/-! ### loops -/
theorem backE_self {r : Env} {vs : List Nat} (r2 : Env) (hl : r2.length = r.length) (h : ∀ i, i ∉ vs → r2[i]? = r[i]?) : backE r r2 vs = r := by
  apply List.ext_getElem?
  intro i
  by_cases hi : i ∈ vs
  · exact backE_in hl.symm hi
  · rw [backE_out hi, h i hi]
/-- one turn of a comprehension that leaves the state: the items that d brings -/
def Turn1 (vs : List Nat) (g : DenG) (st : Stp) (r : Env) (d : D) (out : List D) : Prop :=
  ∃ r1, g d (wipeE r vs) = some r1 ∧ ∀ acc : List D, acc.length < most → ∃ r2, st acc r1 = .ok (acc ++ out) r2 ∧ backE r r2 vs = r
theorem cLoop_flat {vs : List Nat} {g : DenG} {st : Stp} {r : Env} {φ : D → List D} (hv : vsOk r vs = true) : ∀ (items : List D) (acc : List D), acc.length + items.length ≤ most → (∀ d ∈ items, (φ d).length ≤ 1 ∧ Turn1 vs g st r d (φ d)) →
    cLoop vs g st items acc r = .ok (acc ++ items.flatMap φ) r
  | [], acc, _, _ => by simp [cLoop]
  | d :: t, acc, hl, h => by
    obtain ⟨h1, r1, e1, h2⟩ := h d List.mem_cons_self
    rw [List.length_cons] at hl
    obtain ⟨r2, e2, e3⟩ := h2 acc (by omega)
    unfold cLoop
    rw [if_pos hv, e1]
    show (match st acc r1 with | .ok acc2 r2 => cLoop vs g st t acc2 (backE r r2 vs) | _ => .stuck) = _
    rw [e2]
    show cLoop vs g st t (acc ++ φ d) (backE r r2 vs) = _
    rw [e3, cLoop_flat hv t (acc ++ φ d) (by rw [List.length_append]; omega) fun d' m => h d' (List.mem_cons_of_mem _ m)]
    simp [List.flatMap_cons]
theorem c_elt {te : Den} {r r1 : Env} {x : RV} {d : D} {acc : List D} (hf : te r = .ok x r1) (ht : take (fzv x) = some d) (hl : acc.length < most) : cElt te acc r = .ok (acc ++ [d]) r1 := by
  unfold cElt
  rw [z_of hf]
  show (match take (fzv x) with | some y => if acc.length < most then Res.ok (acc ++ [y]) r1 else Res.stuck | none => Res.stuck) = _
  rw [ht]
  exact if_pos hl
theorem c_testT {tt : DenB} {st : Stp} {r r1 : Env} {acc : List D} {z : Res (List D)} (ht : tt r = .ok true r1) (hs : st acc r1 = z) : cTest tt st acc r = z := by unfold cTest; rw [ht]; exact hs
theorem c_testF {tt : DenB} {st : Stp} {r r1 : Env} {acc : List D} (ht : tt r = .ok false r1) : cTest tt st acc r = .ok acc r1 := by unfold cTest; rw [ht]; rfl
/-- a for loop by an invariant: what the items behind do -/
theorem sFor1_inv {gt : DenG} {f : DenS} {σ : Type} (step : σ → D → σ) (R : σ → Env → Prop) : ∀ (items : List D) (a : σ) (r : Env), R a r →
    (∀ d ∈ items, ∀ a r, R a r → ∃ r1 r2, gt d r = some r1 ∧ (f r1 = .nx r2 ∨ f r1 = .ct r2) ∧ R (step a d) r2) → ∃ r', sFor1 gt f items r = .nx r' ∧ R (items.foldl step a) r'
  | [], a, r, h, _ => ⟨r, rfl, h⟩
  | d :: t, a, r, h, hs => by
    obtain ⟨r1, r2, e1, e2, h2⟩ := hs d List.mem_cons_self a r h
    obtain ⟨r', e3, h3⟩ := sFor1_inv step R t (step a d) r2 h2 fun d' m => hs d' (List.mem_cons_of_mem _ m)
    refine ⟨r', ?_, h3⟩
    unfold sFor1
    rw [e1]
    rcases e2 with e2 | e2
    · show (match f r1 with | .nx r2 => sFor1 gt f t r2 | .ct r2 => sFor1 gt f t r2 | .bk r2 => .nx r2 | x => x) = _
      rw [e2]; exact e3
    · show (match f r1 with | .nx r2 => sFor1 gt f t r2 | .ct r2 => sFor1 gt f t r2 | .bk r2 => .nx r2 | x => x) = _
      rw [e2]; exact e3
theorem rangeD_mem {a b : Int} {d : D} (h : d ∈ rangeD a b) : ∃ i : Int, d = .int i ∧ a ≤ i ∧ i < b := by
  unfold rangeD at h
  obtain ⟨k, hk, rfl⟩ := List.mem_map.mp h
  have := List.mem_range.mp hk
  exact ⟨_, rfl, by omega, by omega⟩
theorem rangeD_len (a b : Int) : (rangeD a b).length = (b - a).toNat := by simp [rangeD]
end Ev
namespace Ev
open PySem PySem.Spec PyProof.Rows L2

/-! ### running an evaluator forward: what is wanted behind it -/
structure Tg {A B : Type} (a : A) (b : B) : Type where
  mk ::
def wE {α : Type} (x : Res α) (K : α → Env → Prop) (X : Ex → Env → Prop) (_u : Tg K X := ⟨⟩) : Prop := match x with
  | .ok a r => K a r
  | .exc e r => X e r
  | .stuck => False
def wO {α : Type} (x : Option α) (K : α → Prop) (_u : Tg K 0 := ⟨⟩) : Prop := match x with
  | some a => K a
  | none => False
def wS (x : SRes) (N : Env → Prop) (O : SRes → Prop) (_u : Tg N O := ⟨⟩) : Prop := match x with
  | .nx r => N r
  | .stuck => False
  | y => O y
def wF (x : FRes) (K : RV → D → Prop) (X : Ex → D → Prop) (_u : Tg K X := ⟨⟩) : Prop := match x with
  | .ret v o => K v o
  | .exc e o => X e o
  | .stuck => False
def wV {α : Type} (a : α) (K : α → Prop) (_u : Tg K 0 := ⟨⟩) : Prop := K a
def wIf (b : Bool) (p q : Unit → Prop) (_u : Tg p q := ⟨⟩) : Prop := if b = true then p () else q ()
def wC (b : Bool) (p : Prop) : Prop := b = true ∧ p
def wTk (x : RV) (K : D → Prop) (_u : Tg K 0 := ⟨⟩) : Prop := wO (take x) K
def wP (r : Env) (x : RV) (K : D → Prop) (_u : Tg K 0 := ⟨⟩) : Prop := wO (peek r x) K
def wPs (s : Option Slot) (K : D → Prop) (_u : Tg K 0 := ⟨⟩) : Prop := match s with
  | some (.own d) => K d
  | some (.ino d) => K d
  | _ => False
def wSl (s : Option Slot) (i : Nat) (r : Env) (K : RV → Env → Prop) (_u : Tg K 0 := ⟨⟩) : Prop := match s with
  | some (.val d) => K (.val d) r
  | some (.own _) => K (.bor i) r
  | some (.ino _) => K (.bor i) r
  | _ => False
def wBl (x : RV) (K : Bool → Prop) (_u : Tg K 0 := ⟨⟩) : Prop := match x with
  | .val (.bl b) => K b
  | _ => False
def wVal (x : RV) (K : D → Prop) (_u : Tg K 0 := ⟨⟩) : Prop := match x with
  | .val d => K d
  | _ => False
def wBor (x : RV) (K : Nat → Prop) (_u : Tg K 0 := ⟨⟩) : Prop := match x with
  | .bor i => K i
  | _ => False
def wT (xs : List RV) (K : List D → Prop) (_u : Tg K 0 := ⟨⟩) : Prop := wO (takes xs) K
def wPL (r : Env) (xs : List RV) (K : List D → Prop) (_u : Tg K 0 := ⟨⟩) : Prop := wO (peeks r xs) K
def wA (io : Option Nat) (r : Env) (xs : List RV) (K : List D → Option Nat → Prop) (_u : Tg K 0 := ⟨⟩) : Prop := wO (argD r io xs) fun p => K p.1 p.2
def wSetR (x : RV) (K : Slot → Prop) (_u : Tg K 0 := ⟨⟩) : Prop := match x with
  | .val d => K (.val d)
  | .own d => K (.own d)
  | .bor _ => False
def wRet (x : RV) (r : Env) (O : SRes → Prop) (_u : Tg O 0 := ⟨⟩) : Prop := match x with
  | .val d => O (.rt (.val d) r)
  | .own d => O (.rt (.own d) r)
  | .bor i => match r[i]? with
    | some (.own d) => O (.rt (.own d) (r.set i .un))
    | _ => False
def wRetS (s : Option Slot) (i : Nat) (r : Env) (O : SRes → Prop) (_u : Tg O 0 := ⟨⟩) : Prop := match s with
  | some (.own d) => O (.rt (.own d) (r.set i .un))
  | _ => False
def nIno (s : Option Slot) : Bool := match s with
  | some (.ino _) => false
  | _ => true
/-- a slot that holds nothing, or fixed data -/
def oS : Option D → Slot
  | none => .un
  | some d => .val d
def wOutS (s : Option Slot) (K : D → Prop) (_u : Tg K 0 := ⟨⟩) : Prop := match s with
  | some (.ino d) => K d
  | _ => False
def wOut (io : Option Nat) (r : Env) (K : D → Prop) (_u : Tg K 0 := ⟨⟩) : Prop := match io with
  | none => K .non
  | some i => wOutS r[i]? K
def finK (io : Option Nat) (K : RV → D → Prop) (X : Ex → D → Prop) : SRes → Prop
  | .rt x r => wOut io r (K x)
  | .exc e r => wOut io r (X e)
  | .nx r => wOut io r (K (.val .non))
  | _ => False
def forO (C B : Env → Prop) (O : SRes → Prop) : SRes → Prop
  | .ct r => C r
  | .bk r => B r
  | y => O y
def wAlt (s : Option Slot) (p q : Unit → Prop) (_u : Tg p q := ⟨⟩) : Prop := match s with
  | some (.val _) => p ()
  | _ => q ()
def wLs (c : D) (K : Unit → Prop) (_u : Tg K 0 := ⟨⟩) : Prop := match c with
  | .lst _ => K ()
  | _ => False
def putSl (s : Option Slot) (i : Nat) (d : D) (r : Env) : Env := match s with
  | some (.own _) => r.set i (.own d)
  | some (.ino _) => r.set i (.ino d)
  | _ => r
def pickC {α : Type} (o : Option α) (l : List α) : List α := match o with
  | some a => a :: l
  | none => l
def backC (o : Option Slot) (v : Nat) (r : Env) : Env := match o with
  | some sl => r.set v sl
  | none => r
def plainB (s : Option Slot) (b : Bool) : Bool := match s with
  | some .un => b
  | some (.val _) => b
  | _ => false

section
variable {α β : Type} {K : α → Env → Prop} {X : Ex → Env → Prop}

theorem wV_eq (a : α) (K : α → Prop) : wV a K = K a := rfl
theorem wO_some (a : α) (K : α → Prop) : wO (some a) K = K a := rfl
theorem wF_ret (v : RV) (o : D) (K : RV → D → Prop) (X : Ex → D → Prop) : wF (.ret v o) K X = K v o := rfl
theorem wF_exc (e : Ex) (o : D) (K : RV → D → Prop) (X : Ex → D → Prop) : wF (.exc e o) K X = X e o := rfl
theorem wIf_T (p q : Unit → Prop) : wIf true p q = p () := by unfold wIf; simp
theorem wIf_F (p q : Unit → Prop) : wIf false p q = q () := by unfold wIf; simp
theorem wIf_not (b : Bool) (p q : Unit → Prop) : wIf (!b) p q = wIf b q p := by cases b <;> simp [wIf]
theorem wC_T (p : Prop) : wC true p = p := by unfold wC; simp
theorem wTk_val (d : D) (K : D → Prop) : wTk (.val d) K = K d := rfl
theorem wTk_own (d : D) (K : D → Prop) : wTk (.own d) K = K d := rfl
theorem wP_val (r : Env) (d : D) (K : D → Prop) : wP r (.val d) K = K d := rfl
theorem wP_own (r : Env) (d : D) (K : D → Prop) : wP r (.own d) K = K d := rfl
theorem wP_bor (r : Env) (i : Nat) (K : D → Prop) : wP r (.bor i) K = wPs r[i]? K := by
  show wO (match r[i]? with | some (.own d) => some d | some (.ino d) => some d | _ => none) K = wPs r[i]? K
  cases r[i]? with
  | none => rfl
  | some s => cases s <;> rfl
theorem wPs_own (d : D) (K : D → Prop) : wPs (some (.own d)) K = K d := rfl
theorem wPs_ino (d : D) (K : D → Prop) : wPs (some (.ino d)) K = K d := rfl
theorem wSl_val (d : D) (i : Nat) (r : Env) (K : RV → Env → Prop) : wSl (some (.val d)) i r K = K (.val d) r := rfl
theorem wSl_own (d : D) (i : Nat) (r : Env) (K : RV → Env → Prop) : wSl (some (.own d)) i r K = K (.bor i) r := rfl
theorem wSl_ino (d : D) (i : Nat) (r : Env) (K : RV → Env → Prop) : wSl (some (.ino d)) i r K = K (.bor i) r := rfl
theorem wBl_bl (b : Bool) (K : Bool → Prop) : wBl (.val (.bl b)) K = K b := rfl
theorem wVal_val (d : D) (K : D → Prop) : wVal (.val d) K = K d := rfl
theorem wBor_bor (i : Nat) (K : Nat → Prop) : wBor (.bor i) K = K i := rfl
theorem wT_nil (K : List D → Prop) : wT [] K = K [] := rfl
theorem wT_cons (x : RV) (xs : List RV) (K : List D → Prop) : wT (x :: xs) K = wTk x fun d => wT xs fun ds => K (d :: ds) := by
  unfold wT wTk
  show wO ((take x).bind fun d => (takes xs).map fun ds => d :: ds) K = wO (take x) fun d => wO (takes xs) fun ds => K (d :: ds)
  cases take x with
  | none => rfl
  | some d => cases takes xs <;> rfl
theorem wPL_nil (r : Env) (K : List D → Prop) : wPL r [] K = K [] := rfl
theorem wPL_cons (r : Env) (x : RV) (xs : List RV) (K : List D → Prop) : wPL r (x :: xs) K = wP r x fun d => wPL r xs fun ds => K (d :: ds) := by
  unfold wPL wP
  show wO ((peek r x).bind fun d => (peeks r xs).map fun ds => d :: ds) K = wO (peek r x) fun d => wO (peeks r xs) fun ds => K (d :: ds)
  cases peek r x with
  | none => rfl
  | some d => cases peeks r xs <;> rfl
theorem wA_nil (io : Option Nat) (r : Env) (K : List D → Option Nat → Prop) : wA io r [] K = K [] none := by
  unfold wA
  cases io with
  | none => rfl
  | some n => cases n <;> rfl
theorem wA_none (r : Env) (x : RV) (xs : List RV) (K : List D → Option Nat → Prop) : wA none r (x :: xs) K = wTk x fun d => wA none r xs fun ds j => K (d :: ds) j := by
  unfold wA wTk
  show wO ((take x).bind fun d => (argD r none xs).map fun p => (d :: p.1, p.2)) _ = _
  cases take x with
  | none => rfl
  | some d => cases argD r none xs <;> rfl
theorem wA_zero (r : Env) (x : RV) (xs : List RV) (K : List D → Option Nat → Prop) : wA (some 0) r (x :: xs) K = wBor x fun i => wP r (.bor i) fun d => wA none r xs fun ds _ => K (d :: ds) (some i) := by
  unfold wA wP
  cases x with
  | val d => rfl
  | own d => rfl
  | bor i =>
    show wO ((peek r (.bor i)).bind fun d => (argD r none xs).map fun p => (d :: p.1, some i)) _ = wO (peek r (.bor i)) _
    cases peek r (.bor i) with
    | none => rfl
    | some d => cases argD r none xs <;> rfl
theorem wA_succ (n : Nat) (r : Env) (x : RV) (xs : List RV) (K : List D → Option Nat → Prop) : wA (some (n + 1)) r (x :: xs) K = wTk x fun d => wA (some n) r xs fun ds j => K (d :: ds) j := by
  unfold wA wTk
  show wO ((take x).bind fun d => (argD r (some n) xs).map fun p => (d :: p.1, p.2)) _ = _
  cases take x with
  | none => rfl
  | some d => cases argD r (some n) xs <;> rfl
theorem wSetR_val (d : D) (K : Slot → Prop) : wSetR (.val d) K = K (.val d) := rfl
theorem wSetR_own (d : D) (K : Slot → Prop) : wSetR (.own d) K = K (.own d) := rfl
theorem wRet_val (d : D) (r : Env) (O : SRes → Prop) : wRet (.val d) r O = O (.rt (.val d) r) := rfl
theorem wRet_own (d : D) (r : Env) (O : SRes → Prop) : wRet (.own d) r O = O (.rt (.own d) r) := rfl
theorem wRet_bor (i : Nat) (r : Env) (O : SRes → Prop) : wRet (.bor i) r O = wRetS r[i]? i r O := rfl
theorem wRetS_own (d : D) (i : Nat) (r : Env) (O : SRes → Prop) : wRetS (some (.own d)) i r O = wV (r.set i .un) fun r => O (.rt (.own d) r) := rfl
theorem nIno_un : nIno (some .un) = true := rfl
theorem nIno_val (d : D) : nIno (some (.val d)) = true := rfl
theorem nIno_own (d : D) : nIno (some (.own d)) = true := rfl
theorem nIno_oS (o : Option D) : nIno (some (oS o)) = true := by cases o <;> rfl
theorem wOut_none (r : Env) (K : D → Prop) : wOut none r K = K .non := rfl
theorem wOut_some (i : Nat) (r : Env) (K : D → Prop) : wOut (some i) r K = wOutS r[i]? K := rfl
theorem wOutS_ino (d : D) (K : D → Prop) : wOutS (some (.ino d)) K = K d := rfl
theorem finK_rt (io : Option Nat) (K : RV → D → Prop) (X : Ex → D → Prop) (x : RV) (r : Env) : finK io K X (.rt x r) = wOut io r (K x) := rfl
theorem finK_exc (io : Option Nat) (K : RV → D → Prop) (X : Ex → D → Prop) (e : Ex) (r : Env) : finK io K X (.exc e r) = wOut io r (X e) := rfl
theorem forO_ct (C B : Env → Prop) (O : SRes → Prop) (r : Env) : forO C B O (.ct r) = C r := rfl
theorem forO_bk (C B : Env → Prop) (O : SRes → Prop) (r : Env) : forO C B O (.bk r) = B r := rfl
theorem forO_rt (C B : Env → Prop) (O : SRes → Prop) (x : RV) (r : Env) : forO C B O (.rt x r) = O (.rt x r) := rfl
theorem forO_exc (C B : Env → Prop) (O : SRes → Prop) (e : Ex) (r : Env) : forO C B O (.exc e r) = O (.exc e r) := rfl
theorem wAlt_val (d : D) (p q : Unit → Prop) : wAlt (some (.val d)) p q = p () := rfl
theorem wAlt_own (d : D) (p q : Unit → Prop) : wAlt (some (.own d)) p q = q () := rfl
theorem wAlt_ino (d : D) (p q : Unit → Prop) : wAlt (some (.ino d)) p q = q () := rfl
theorem wLs_lst (xs : List D) (p : Unit → Prop) : wLs (.lst xs) p = p () := rfl
theorem fzv_val (d : D) : fzv (.val d) = .val d := rfl
theorem fzv_own (d : D) : fzv (.own d) = .val d := rfl
theorem fzv_bor (i : Nat) : fzv (.bor i) = .bor i := rfl
theorem putS_eq (i : Nat) (d : D) (r : Env) : putS i d r = putSl r[i]? i d r := rfl
theorem putSl_own (i : Nat) (d e : D) (r : Env) : putSl (some (.own e)) i d r = r.set i (.own d) := rfl
theorem putSl_ino (i : Nat) (d e : D) (r : Env) : putSl (some (.ino e)) i d r = r.set i (.ino d) := rfl
theorem putO_none (d : D) (r : Env) : putO none d r = r := rfl
theorem putO_some (i : Nat) (d : D) (r : Env) : putO (some i) d r = putS i d r := rfl
theorem pick_nil (l : List α) : pick [] l = [] := rfl
theorem pick_cons (i : Nat) (p : List Nat) (l : List α) : pick (i :: p) l = pickC l[i]? (pick p l) := by
  unfold pick pickC
  rw [List.filterMap_cons]
  cases l[i]? <;> rfl
theorem pickC_some (a : α) (l : List α) : pickC (some a) l = a :: l := rfl
theorem slots_nil (io : Option Nat) : slotsOf io [] = [] := by cases io with
  | none => rfl
  | some n => cases n <;> rfl
theorem slots_none (d : D) (ds : List D) : slotsOf none (d :: ds) = .val d :: slotsOf none ds := rfl
theorem slots_zero (d : D) (ds : List D) : slotsOf (some 0) (d :: ds) = .ino d :: slotsOf none ds := rfl
theorem slots_succ (n : Nat) (d : D) (ds : List D) : slotsOf (some (n + 1)) (d :: ds) = .val d :: slotsOf (some n) ds := rfl
theorem wipe_nil (r : Env) : wipeE r [] = r := rfl
theorem wipe_cons (r : Env) (v : Nat) (vs : List Nat) : wipeE r (v :: vs) = (wipeE r vs).set v .un := rfl
theorem back_nil (r r2 : Env) : backE r r2 [] = r2 := rfl
theorem back_cons (r r2 : Env) (v : Nat) (vs : List Nat) : backE r r2 (v :: vs) = backC r[v]? v (backE r r2 vs) := by
  show (match r[v]? with | some sl => (backE r r2 vs).set v sl | none => backE r r2 vs) = _
  cases r[v]? <;> rfl
theorem backC_some (sl : Slot) (v : Nat) (r : Env) : backC (some sl) v r = r.set v sl := rfl
theorem vs_nil (r : Env) : vsOk r [] = true := rfl
theorem vs_cons (r : Env) (v : Nat) (vs : List Nat) : vsOk r (v :: vs) = plainB r[v]? (vsOk r vs) := by
  show (plainSl r[v]? && vsOk r vs) = _
  cases r[v]? with
  | none => rfl
  | some s => cases s <;> simp [plainSl, plainB]
theorem plainB_un (b : Bool) : plainB (some .un) b = b := rfl
theorem plainB_val (d : D) (b : Bool) : plainB (some (.val d)) b = b := rfl
theorem plainB_oS (o : Option D) (b : Bool) : plainB (some (oS o)) b = b := by cases o <;> rfl

theorem wE_ext {x : Res α} {K K' : α → Env → Prop} (h : ∀ a r, K a r = K' a r) : wE x K X = wE x K' X := by
  cases x with
  | ok a r => exact h a r
  | exc e r => rfl
  | stuck => rfl
theorem wE_fz {x : Res RV} {K : RV → Env → Prop} : wE (fz x) K X = wE x (fun a r => K (fzv a) r) X := by
  cases x with
  | ok a r => cases a <;> rfl
  | exc e r => rfl
  | stuck => rfl
theorem wE_bind {x : Res β} {k : β → Env → Res α} : wE (x.bind k) K X = wE x (fun a r => wE (k a r) K X) X := by cases x <;> rfl
theorem wE_ofO {o : Option α} {r : Env} : wE (ofO o r) K X = wO o fun a => K a r := by cases o <;> rfl
theorem wE_ok (a : α) (r : Env) : wE (.ok a r) K X = K a r := rfl
end

section
variable {K : RV → Env → Prop} {KB : Bool → Env → Prop} {KL : List RV → Env → Prop} {KI : List D → Env → Prop} {X : Ex → Env → Prop} {r : Env} {f g h : Den} {l lk : DenL} {p q : DenB} {i n m : Nat} {d : D}
theorem w_var : wE (eVar i r) K X = wSl r[i]? i r K := by
  unfold eVar wSl
  cases r[i]? with
  | none => rfl
  | some s => cases s <;> rfl
theorem w_c : wE (eC d r) K X = K (.val d) r := rfl
theorem w_bin {op : D → D → Option RV} : wE (eBin op f g r) K X = wE (f r) (fun x r1 => wE (g r1) (fun y r2 => wP r2 (fzv x) fun d => wP r2 (fzv y) fun e => wO (op d e) fun z => K z r2) X) X := by
  unfold eBin
  rw [wE_bind, wE_fz]
  refine wE_ext fun x r1 => ?_
  rw [wE_bind, wE_fz]
  refine wE_ext fun y r2 => ?_
  unfold wP
  cases peek r2 (fzv x) with
  | none => rfl
  | some d => cases peek r2 (fzv y) with
    | none => rfl
    | some e => exact wE_ofO
theorem w_un {op : D → Option RV} : wE (eUn op f r) K X = wE (f r) (fun x r1 => wP r1 (fzv x) fun d => wO (op d) fun z => K z r1) X := by
  unfold eUn
  rw [wE_bind, wE_fz]
  refine wE_ext fun x r1 => ?_
  unfold wP
  cases peek r1 (fzv x) with
  | none => rfl
  | some d => exact wE_ofO
theorem w_nil : wE (dNil r) KL X = KL [] r := rfl
theorem w_cons : wE (dCons f l r) KL X = wE (f r) (fun x r1 => wE (l r1) (fun xs r2 => wV (fzv x) fun y => KL (y :: xs) r2) X) X := by
  unfold dCons
  rw [wE_bind, wE_fz]
  refine wE_ext fun x r1 => ?_
  rw [wE_bind]
  rfl
theorem w_fn {op : List D → Option RV} : wE (eFn op l r) K X = wE (l r) (fun xs r1 => wPL r1 xs fun ds => wO (op ds) fun z => K z r1) X := by
  unfold eFn
  rw [wE_bind]
  refine wE_ext fun xs r1 => ?_
  unfold wPL
  cases peeks r1 xs with
  | none => rfl
  | some d => exact wE_ofO
theorem w_tup : wE (eTup l r) K X = wE (l r) (fun xs r1 => wT xs fun ds => wC (decide (ds.length ≤ most)) (K (.val (.tup ds)) r1)) X := by
  unfold eTup
  rw [wE_bind]
  refine wE_ext fun xs r1 => ?_
  unfold wT wC
  cases takes xs with
  | none => rfl
  | some ds =>
    show wE (if ds.length ≤ most then Res.ok (RV.val (.tup ds)) r1 else Res.stuck) K X = (_ ∧ _)
    by_cases c : ds.length ≤ most
    · rw [if_pos c, decide_eq_true c]; simp [wE]
    · rw [if_neg c, decide_eq_false c]; simp [wE]
theorem w_lst : wE (eLst l r) K X = wE (l r) (fun xs r1 => wT xs fun ds => wC (decide (ds.length ≤ most)) (K (.own (.lst ds)) r1)) X := by
  unfold eLst
  rw [wE_bind]
  refine wE_ext fun xs r1 => ?_
  unfold wT wC
  cases takes xs with
  | none => rfl
  | some ds =>
    show wE (if ds.length ≤ most then Res.ok (RV.own (.lst ds)) r1 else Res.stuck) K X = (_ ∧ _)
    by_cases c : ds.length ≤ most
    · rw [if_pos c, decide_eq_true c]; simp [wE]
    · rw [if_neg c, decide_eq_false c]; simp [wE]
theorem w_tbl : wE (tBl f r) KB X = wE (f r) (fun x r1 => wBl x fun b => KB b r1) X := by
  unfold tBl
  rw [wE_bind]
  refine wE_ext fun x r1 => ?_
  cases x with
  | val d => cases d <;> rfl
  | own d => rfl
  | bor i => rfl
theorem w_tof : wE (tOf f r) KB X = wE (f r) (fun x r1 => wP r1 (fzv x) fun d => wO (truthD d) fun b => KB b r1) X := by
  unfold tOf
  rw [wE_bind, wE_fz]
  refine wE_ext fun x r1 => ?_
  unfold wP
  cases peek r1 (fzv x) with
  | none => rfl
  | some d => exact wE_ofO
theorem w_tnot : wE (tNot' p r) KB X = wE (p r) (fun b r1 => wV (!b) fun b => KB b r1) X := by
  unfold tNot'
  rw [wE_bind]; rfl
theorem w_tand : wE (tAnd' p q r) KB X = wE (p r) (fun b r1 => wIf b (fun _ => wE (q r1) KB X) (fun _ => KB false r1)) X := by
  unfold tAnd'
  rw [wE_bind]
  refine wE_ext fun b r1 => ?_
  cases b <;> simp [wIf, wE]
theorem w_tor : wE (tOr' p q r) KB X = wE (p r) (fun b r1 => wIf b (fun _ => KB true r1) (fun _ => wE (q r1) KB X)) X := by
  unfold tOr'
  rw [wE_bind]
  refine wE_ext fun b r1 => ?_
  cases b <;> simp [wIf, wE]
theorem w_ofb : wE (eOfB p r) K X = wE (p r) (fun b r1 => K (.val (.bl b)) r1) X := by
  unfold eOfB
  rw [wE_bind]; rfl
theorem w_and : wE (eAnd f g r) K X = wE (f r) (fun x r1 => wBl (fzv x) fun b => wIf b (fun _ => wE (g r1) K X) (fun _ => K (.val (.bl false)) r1)) X := by
  unfold eAnd
  rw [wE_bind, wE_fz]
  refine wE_ext fun x r1 => ?_
  cases fzv x with
  | val d => cases d with
    | bl b => cases b <;> simp [wIf, wE, wBl]
    | _ => rfl
  | own d => rfl
  | bor i => rfl
theorem w_or : wE (eOr f g r) K X = wE (f r) (fun x r1 => wBl (fzv x) fun b => wIf b (fun _ => K (.val (.bl true)) r1) (fun _ => wE (g r1) K X)) X := by
  unfold eOr
  rw [wE_bind, wE_fz]
  refine wE_ext fun x r1 => ?_
  cases fzv x with
  | val d => cases d with
    | bl b => cases b <;> simp [wIf, wE, wBl]
    | _ => rfl
  | own d => rfl
  | bor i => rfl
theorem w_not : wE (eNot f r) K X = wE (f r) (fun x r1 => wBl (fzv x) fun b => wV (!b) fun b => K (.val (.bl b)) r1) X := by
  unfold eNot
  rw [wE_bind, wE_fz]
  refine wE_ext fun x r1 => ?_
  cases fzv x with
  | val d => cases d <;> rfl
  | own d => rfl
  | bor i => rfl
theorem w_if : wE (eIf p f g r) K X = wE (p r) (fun b r1 => wIf b (fun _ => wE (f r1) K X) (fun _ => wE (g r1) K X)) X := by
  unfold eIf
  rw [wE_bind]
  refine wE_ext fun b r1 => ?_
  cases b <;> simp [wIf]
theorem w_chain {op op' : D → D → Option RV} : wE (eChain op op' f g h r) K X = wE (f r) (fun x r1 => wE (g r1) (fun y r2 => wP r2 (fzv x) fun d => wP r2 (fzv y) fun e => wO (op d e) fun z => wBl z fun b =>
    wIf b (fun _ => wE (h r2) (fun z r3 => wP r3 (fzv y) fun e' => wP r3 (fzv z) fun c => wO (op' e' c) fun w => K w r3) X) (fun _ => K (.val (.bl false)) r2)) X) X := by
  unfold eChain
  rw [wE_bind, wE_fz]
  refine wE_ext fun x r1 => ?_
  rw [wE_bind, wE_fz]
  refine wE_ext fun y r2 => ?_
  unfold wP
  cases peek r2 (fzv x) with
  | none => rfl
  | some d => cases peek r2 (fzv y) with
    | none => rfl
    | some e =>
      show wE (match op d e with
        | some (.val (.bl true)) => (fz (h r2)).bind fun z r3 => (match peek r3 (fzv y), peek r3 z with
          | some e', some c => ofO (op' e' c) r3
          | _, _ => .stuck)
        | some (.val (.bl false)) => .ok (.val (.bl false)) r2
        | _ => .stuck) K X = wO (op d e) _
      cases op d e with
      | none => rfl
      | some z => cases z with
        | own d => rfl
        | bor i => rfl
        | val d => cases d with
          | bl b => cases b with
            | false => simp [wO, wBl, wIf, wE]
            | true =>
              simp only [wO_some, wBl_bl, wIf_T]
              rw [wE_bind, wE_fz]
              refine wE_ext fun z r3 => ?_
              cases peek r3 (fzv y) with
              | none => rfl
              | some e' => cases peek r3 (fzv z) with
                | none => rfl
                | some c => exact wE_ofO
          | _ => rfl
theorem w_doneR {j : Option Nat} {x : FRes} : wE (doneR j r x) K X = wF x (fun v o => wV (putO j o r) fun r => K v r) (fun e o => X e (putO j o r)) := by cases x <;> rfl
theorem w_callR {io : Option Nat} {F : Fun} {xs : List RV} : wE (callR io F xs r) K X = wA io r xs fun ds j => wF (F ds) (fun v o => wV (putO j o r) fun r => K v r) (fun e o => X e (putO j o r)) := by
  unfold callR wA
  cases argD r io xs with
  | none => rfl
  | some p => exact w_doneR
theorem w_call {io : Option Nat} {F : Fun} {c : List Nat} {dd : List D} : wE (eCall io F n m c dd l lk r) K X = wE (l r) (fun xs r1 => wE (lk r1) (fun ys r2 => wC (decide (xs.length = n ∧ ys.length = m)) (wA io r2 (pick c (xs ++ (ys ++ dd.map .val))) fun ds j => wF (F ds) (fun v o => wV (putO j o r2) fun r => K v r) (fun e o => X e (putO j o r2)))) X) X := by
  unfold eCall
  rw [wE_bind]
  refine wE_ext fun xs r1 => ?_
  rw [wE_bind]
  refine wE_ext fun ys r2 => ?_
  unfold wC
  by_cases c : xs.length = n ∧ ys.length = m
  · rw [if_pos c, decide_eq_true c, w_callR]; simp
  · rw [if_neg c, decide_eq_false c]; simp [wE]
theorem w_mut {op : MutD} : wE (eMut op i l r) K X = wP r (.bor i) fun c => wLs c fun _ => wE (l r) (fun xs r1 => wP r1 (.bor i) fun c => wT xs fun ds => wO (op c ds) fun p => wV (putS i p.1 r1) fun r2 => K (.val p.2) r2) X := by
  unfold eMut contD wP
  cases peek r (.bor i) with
  | none => rfl
  | some c =>
    cases c with
    | lst us =>
      show wE ((l r).bind _) K X = wE _ _ _
      rw [wE_bind]
      refine wE_ext fun xs r1 => ?_
      unfold wT
      cases peek r1 (.bor i) with
      | none => rfl
      | some c =>
        cases takes xs with
        | none => rfl
        | some ds =>
          show wE (match op c ds with | some p => Res.ok (RV.val p.2) (putS i p.1 r1) | none => Res.stuck) K X = wO (op c ds) _
          cases op c ds <;> rfl
    | _ => rfl
theorem w_alt : wE (eAlt i f g r) K X = wAlt r[i]? (fun _ => wE (f r) K X) (fun _ => wE (g r) K X) := by
  unfold eAlt wAlt
  cases r[i]? with
  | none => rfl
  | some s => cases s <;> rfl
theorem w_iof : wE (iOf f r) KI X = wE (f r) (fun x r1 => wTk (fzv x) fun d => wO (itemsD d) fun xs => KI xs r1) X := by
  unfold iOf
  rw [wE_bind, wE_fz]
  refine wE_ext fun x r1 => ?_
  unfold wTk
  cases take (fzv x) with
  | none => rfl
  | some d => exact wE_ofO
theorem w_ifn {op : List D → Option (List D)} : wE (iFn op l r) KI X = wE (l r) (fun xs r1 => wPL r1 xs fun ds => wO (op ds) fun z => KI z r1) X := by
  unfold iFn
  rw [wE_bind]
  refine wE_ext fun xs r1 => ?_
  unfold wPL
  cases peeks r1 xs with
  | none => rfl
  | some d => exact wE_ofO
theorem w_ien : wE (iEn f r) KI X = wE (f r) (fun x r1 => wTk (fzv x) fun d => wO (match d with | .lst xs => some (enumD xs) | .tup xs => some (enumD xs) | _ => none) fun xs => KI xs r1) X := by
  unfold iEn
  rw [wE_bind, wE_fz]
  refine wE_ext fun x r1 => ?_
  unfold wTk
  cases take (fzv x) with
  | none => rfl
  | some d => cases d <;> rfl
theorem w_comp {fi : DenI} {vs : List Nat} {gt : DenG} {st : Stp} : wE (eComp fi vs gt st r) K X = wE (fi r) (fun items r1 => wE (cLoop vs gt st items [] r1) (fun acc r2 => K (.own (.lst acc)) r2) X) X := by
  unfold eComp
  rw [wE_bind]
  refine wE_ext fun x r1 => ?_
  rw [wE_bind]; rfl
theorem w_compB {vs : List Nat} {gt : DenG} {st : Stp} : wE (eCompB i vs gt st r) K X = wP r (.bor i) fun c => wO (match c with | .lst xs => some xs | _ => none) fun xs => wE (cLoopB i vs gt st (xs.length + 1) 0 [] r) (fun acc r2 => K (.own (.lst acc)) r2) X := by
  unfold eCompB contD wP
  cases peek r (.bor i) with
  | none => rfl
  | some c =>
    cases c with
    | lst us =>
      show wE ((cLoopB i vs gt st (us.length + 1) 0 [] r).bind _) K X = wE _ _ _
      rw [wE_bind]; rfl
    | _ => rfl
theorem w_elt {acc : List D} : wE (cElt f acc r) KI X = wE (f r) (fun x r1 => wTk (fzv x) fun d => wC (decide (acc.length < most)) (KI (acc ++ [d]) r1)) (fun _ _ => False) := by
  unfold cElt
  rw [show wE (f r) (fun x r1 => wTk (fzv x) fun d => wC (decide (acc.length < most)) (KI (acc ++ [d]) r1)) (fun _ _ => False) = wE (fz (f r)) (fun x r1 => wTk x fun d => wC (decide (acc.length < most)) (KI (acc ++ [d]) r1)) (fun _ _ => False) from (wE_fz (K := fun x r1 => wTk x fun d => wC (decide (acc.length < most)) (KI (acc ++ [d]) r1))).symm]
  cases fz (f r) with
  | exc e r => rfl
  | stuck => rfl
  | ok x r1 =>
    show wE (match take x with | some y => if acc.length < most then Res.ok (acc ++ [y]) r1 else Res.stuck | none => Res.stuck) KI X = wTk x _
    unfold wTk wC
    cases take x with
    | none => rfl
    | some y =>
      show wE (if acc.length < most then Res.ok (acc ++ [y]) r1 else Res.stuck) KI X = (_ ∧ _)
      by_cases c : acc.length < most
      · rw [if_pos c, decide_eq_true c]; simp [wE]
      · rw [if_neg c, decide_eq_false c]; simp [wE]
theorem w_ctest {acc : List D} {st : Stp} : wE (cTest p st acc r) KI X = wE (p r) (fun b r1 => wIf b (fun _ => wE (st acc r1) KI X) (fun _ => KI acc r1)) (fun _ _ => False) := by
  unfold cTest
  cases p r with
  | exc e r => rfl
  | stuck => rfl
  | ok b r1 => cases b <;> simp [wIf, wE]
theorem w_cfrom {acc : List D} {fi : DenI} {vs : List Nat} {gt : DenG} {st : Stp} : wE (cFrom fi vs gt st acc r) KI X = wE (fi r) (fun items r1 => wE (cLoop vs gt st items acc r1) KI X) (fun _ _ => False) := by
  unfold cFrom
  cases fi r <;> rfl
theorem w_yes : wE (bYes r) KB X = KB true r := rfl
theorem w_gnm {K : Env → Prop} : wO (gNm i d r) K = wC (nIno r[i]?) (wV (r.set i (.val d)) K) := by
  show wO (if noIno r i = true then some (r.set i (.val d)) else none) K = _
  have e : noIno r i = nIno r[i]? := by
    unfold noIno nIno
    cases r[i]? with
    | none => rfl
    | some s => cases s <;> rfl
  rw [e]
  unfold wC
  by_cases c : nIno r[i]? = true
  · rw [if_pos c, c]; simp [wO, wV]
  · rw [if_neg c, eq_false c]; simp [wO]
theorem w_gtp {u : DenGs} {ds : List D} {K : Env → Prop} : wO (gTp u (.tup ds) r) K = wO (u ds r) K := rfl
theorem w_gsnil {K : Env → Prop} : wO (gsNil [] r) K = K r := rfl
theorem w_gscons {gg : DenG} {u : DenGs} {ds : List D} {K : Env → Prop} : wO (gsCons gg u (d :: ds) r) K = wO (gg d r) fun r1 => wO (u ds r1) K := by
  show wO ((gg d r).bind fun r1 => u ds r1) K = _
  cases gg d r <;> rfl
theorem w_gslen {u : DenGs} {ds : List D} {K : Env → Prop} : wO (gsLen n u ds r) K = wC (decide (ds.length = n)) (wO (u ds r) K) := by
  unfold gsLen wC
  by_cases c : ds.length = n
  · rw [if_pos c, decide_eq_true c]; simp
  · rw [if_neg c, decide_eq_false c]; simp [wO]
theorem w_sl {lo hi : DenP} : wE (eSl f lo hi r) K X = wE (f r) (fun x r1 => wE (lo r1) (fun l r2 => wE (hi r2) (fun u r3 => wP r3 (fzv x) fun d => wO (sliceD l u d) fun z => K z r3) X) X) X := by
  unfold eSl
  rw [wE_bind, wE_fz]
  refine wE_ext fun x r1 => ?_
  rw [wE_bind]
  refine wE_ext fun l r2 => ?_
  rw [wE_bind]
  refine wE_ext fun u r3 => ?_
  unfold wP
  cases peek r3 (fzv x) with
  | none => rfl
  | some d => exact wE_ofO
theorem w_pnone {K : Option Int → Env → Prop} : wE (pNone r) K X = K none r := rfl
def wInt (d : D) (K : Int → Prop) (_u : Tg K 0 := ⟨⟩) : Prop := match d with
  | .int i => K i
  | _ => False
theorem wInt_int (i : Int) (K : Int → Prop) : wInt (.int i) K = K i := rfl
theorem w_psome {K : Option Int → Env → Prop} : wE (pSome f r) K X = wE (f r) (fun x r1 => wP r1 (fzv x) fun d => wInt d fun i => K (some i) r1) X := by
  unfold pSome
  rw [wE_bind, wE_fz]
  refine wE_ext fun x r1 => ?_
  unfold wP
  cases peek r1 (fzv x) with
  | none => rfl
  | some d => cases d <;> rfl
theorem w_sl3 {lo hi st : DenP} : wE (eSl3 f lo hi st r) K X = wE (f r) (fun x r1 => wE (lo r1) (fun l r2 => wE (hi r2) (fun u r3 => wE (st r3) (fun c r4 => wP r4 (fzv x) fun d =>
    wO (match d with | .lst xs => some xs | _ => none) fun xs => wC (decide (c ≠ some 0 ∧ (pickD xs l u c).length ≤ most)) (K (.own (.lst (pickD xs l u c))) r4)) X) X) X) X := by
  unfold eSl3
  rw [wE_bind, wE_fz]
  refine wE_ext fun x r1 => ?_
  rw [wE_bind]
  refine wE_ext fun l r2 => ?_
  rw [wE_bind]
  refine wE_ext fun u r3 => ?_
  rw [wE_bind]
  refine wE_ext fun c r4 => ?_
  unfold wP
  cases peek r4 (fzv x) with
  | none => rfl
  | some d =>
    cases d with
    | lst xs =>
      show wE (if c ≠ some 0 ∧ (pickD xs l u c).length ≤ most then Res.ok (RV.own (.lst (pickD xs l u c))) r4 else Res.stuck) K X = wC _ _
      unfold wC
      by_cases cc : c ≠ some 0 ∧ (pickD xs l u c).length ≤ most
      · rw [if_pos cc, decide_eq_true cc]; simp [wE]
      · rw [if_neg cc, decide_eq_false cc]; simp [wE]
    | _ => rfl
theorem w_callV {tab : FnTab} : wE (eCallV i tab l r) K X = wO (match r[i]? with | some (.val (.fn g)) => tab g | _ => none) fun t => wE (eCall none t.2.2 t.1 0 t.2.1 [] l dNil r) K X := by
  unfold eCallV
  cases r[i]? with
  | none => rfl
  | some s => cases s with
    | val d => cases d with
      | fn g =>
        show wE (match tab g with | some (n, p, F) => eCall none F n 0 p [] l dNil r | none => .stuck) K X = wO (tab g) _
        cases tab g <;> rfl
      | _ => rfl
    | _ => rfl
end

section
variable {N : Env → Prop} {O : SRes → Prop} {r : Env} {f g : DenS} {fe : Den} {l : DenL} {p : DenB} {i n : Nat} {d : D}
theorem wS_then {α : Type} {x : Res α} {k : α → Env → SRes} (hO : O .stuck → False) : wS (x.then k) N O = wE x (fun a r => wS (k a r) N O) (fun e r => O (.exc e r)) := by cases x <;> rfl
theorem wS_then' {α : Type} {x : Res α} {k : α → Env → SRes} : wS (x.then k) N O = wE x (fun a r => wS (k a r) N O) (fun e r => O (.exc e r)) := by cases x <;> rfl
theorem s_nx : wS (sNx r) N O = N r := rfl
theorem s_bk : wS (sBk r) N O = O (.bk r) := rfl
theorem s_ct : wS (sCt r) N O = O (.ct r) := rfl
theorem s_retN : wS (sRetN r) N O = O (.rt (.val .non) r) := rfl
theorem s_sq : wS (sSeq f g r) N O = wS (f r) (fun r1 => wS (g r1) N O) O := by
  unfold sSeq
  cases f r <;> rfl
theorem s_dr : wS (sDrop fe r) N O = wE (fe r) (fun _ r1 => N r1) (fun e r => O (.exc e r)) := wS_then'
theorem s_rt : wS (sRet fe r) N O = wE (fe r) (fun x r1 => wRet x r1 O) (fun e r => O (.exc e r)) := by
  unfold sRet
  rw [wS_then']
  refine wE_ext fun x r1 => ?_
  cases x with
  | val d => rfl
  | own d => rfl
  | bor i =>
    show wS (match r1[i]? with | some (.own d) => SRes.rt (.own d) (r1.set i .un) | _ => .stuck) N O = (match r1[i]? with | some (.own d) => O (.rt (.own d) (r1.set i .un)) | _ => False)
    cases r1[i]? with
    | none => rfl
    | some s => cases s <;> rfl
theorem s_if : wS (sIf p f g r) N O = wE (p r) (fun b r1 => wIf b (fun _ => wS (f r1) N O) (fun _ => wS (g r1) N O)) (fun e r => O (.exc e r)) := by
  unfold sIf
  rw [wS_then']
  refine wE_ext fun b r1 => ?_
  cases b <;> simp [wIf]
theorem noIno_eq (r : Env) (i : Nat) : noIno r i = nIno r[i]? := by
  unfold noIno nIno
  cases r[i]? with
  | none => rfl
  | some s => cases s <;> rfl
theorem s_st : wS (sSet i fe r) N O = wE (fe r) (fun x r1 => wC (nIno r1[i]?) (wSetR x fun s => wV (r1.set i s) N)) (fun e r => O (.exc e r)) := by
  unfold sSet
  rw [wS_then']
  refine wE_ext fun x r1 => ?_
  rw [noIno_eq]
  unfold wC
  by_cases c : nIno r1[i]? = true
  · rw [if_pos c, c]
    cases x <;> simp [setRes, wSetR, wV, wS]
  · rw [if_neg c, eq_false c]; simp [wS]
theorem s_fx : wS (sFix i fe r) N O = wE (fe r) (fun x r1 => wC (nIno r1[i]?) (wSetR (fzv x) fun s => wV (r1.set i s) N)) (fun e r => O (.exc e r)) := by
  unfold sFix
  rw [s_st, wE_fz]
def wFrz (s : Option Slot) (i : Nat) (r : Env) (N : Env → Prop) (_u : Tg N 0 := ⟨⟩) : Prop := match s with
  | some (.own d) => N (r.set i (.val d))
  | _ => N r
theorem wFrz_own (d : D) (i : Nat) (r : Env) (N : Env → Prop) : wFrz (some (.own d)) i r N = wV (r.set i (.val d)) N := rfl
theorem wFrz_val (d : D) (i : Nat) (r : Env) (N : Env → Prop) : wFrz (some (.val d)) i r N = N r := rfl
theorem wFrz_un (i : Nat) (r : Env) (N : Env → Prop) : wFrz (some .un) i r N = N r := rfl
theorem s_fz : wS (sFrz i r) N O = wFrz r[i]? i r N := by
  unfold sFrz wFrz
  cases r[i]? with
  | none => rfl
  | some s => cases s <;> rfl
theorem s_asg {gt : DenG} : wS (sAsg gt fe r) N O = wE (fe r) (fun x r1 => wTk (fzv x) fun d => wO (gt d r1) N) (fun e r => O (.exc e r)) := by
  unfold sAsg
  rw [wS_then', wE_fz]
  refine wE_ext fun x r1 => ?_
  unfold wTk
  cases take (fzv x) with
  | none => rfl
  | some d =>
    show wS (match gt d r1 with | some r2 => .nx r2 | none => .stuck) N O = wO (gt d r1) N
    cases gt d r1 <;> rfl
theorem s_fo {fi : DenI} {gt : DenG} : wS (sFor fi gt f r) N O = wE (fi r) (fun items r1 => wS (sFor1 gt f items r1) N O) (fun e r => O (.exc e r)) := wS_then'
theorem s_for0 {gt : DenG} : wS (sFor1 gt f [] r) N O = N r := rfl
theorem s_for1 {gt : DenG} {t : List D} : wS (sFor1 gt f (d :: t) r) N O = wO (gt d r) fun r1 => wS (f r1) (fun r2 => wS (sFor1 gt f t r2) N O) (forO (fun r2 => wS (sFor1 gt f t r2) N O) N O) := by
  show wS (match gt d r with | none => SRes.stuck | some r1 => match f r1 with | .nx r2 => sFor1 gt f t r2 | .ct r2 => sFor1 gt f t r2 | .bk r2 => .nx r2 | x => x) N O = _
  cases gt d r with
  | none => rfl
  | some r1 =>
    show wS (match f r1 with | .nx r2 => sFor1 gt f t r2 | .ct r2 => sFor1 gt f t r2 | .bk r2 => .nx r2 | x => x) N O = wS (f r1) _ _
    cases f r1 <;> rfl
theorem s_putw {fi fv : Den} : wS (sPut i fi fv r) N O = wE (fv r) (fun x r1 => wP r1 (.bor i) fun _ => wE (fi r1) (fun y r2 => wTk (fzv x) fun d => wP r2 (fzv y) fun k => wP r2 (.bor i) fun c => wO (setD c k d) fun c' => wV (putS i c' r2) N) (fun e r => O (.exc e r))) (fun e r => O (.exc e r)) := by
  unfold sPut
  rw [wS_then', wE_fz]
  refine wE_ext fun x r1 => ?_
  unfold contD wP
  cases peek r1 (.bor i) with
  | none => rfl
  | some c =>
    show wS ((fz (fi r1)).then _) N O = wE (fi r1) _ _
    rw [wS_then', wE_fz]
    refine wE_ext fun y r2 => ?_
    unfold wTk
    cases take (fzv x) with
    | none => rfl
    | some d => cases peek r2 (fzv y) with
      | none => rfl
      | some k => cases peek r2 (.bor i) with
        | none => rfl
        | some c =>
          show wS (match setD c k d with | some c' => .nx (putS i c' r2) | none => .stuck) N O = wO (setD c k d) _
          cases setD c k d <;> rfl
def wAug (s : Option Slot) (K : D → Prop) (_u : Tg K 0 := ⟨⟩) : Prop := match s with
  | some (.val d) => K d
  | _ => False
theorem wAug_val (d : D) (K : D → Prop) : wAug (some (.val d)) K = K d := rfl
theorem s_aug {op : D → D → Option RV} : wS (sAug i op fe r) N O = wAug r[i]? fun d => wE (fe r) (fun y r1 => wP r1 (fzv y) fun e => wO (op d e) fun z => wVal z fun z => wV (r1.set i (.val z)) N) (fun e r => O (.exc e r)) := by
  unfold sAug wAug
  cases r[i]? with
  | none => rfl
  | some s => cases s with
    | val d =>
      show wS ((fz (fe r)).then _) N O = wE (fe r) _ _
      rw [wS_then', wE_fz]
      refine wE_ext fun y r1 => ?_
      unfold wP
      cases peek r1 (fzv y) with
      | none => rfl
      | some e =>
        show wS (match op d e with | some (.val z) => .nx (r1.set i (.val z)) | _ => .stuck) N O = wO (op d e) _
        cases op d e with
        | none => rfl
        | some z => cases z <;> rfl
    | _ => rfl
theorem s_raise {cn : Str} {ns : List Str} : wS (sRaise cn ns l r) N O = wE (l r) (fun xs r1 => wT xs fun ds => wC (decide (ds.length = ns.length)) (O (.exc ⟨cn, ns, ds⟩ r1))) (fun e r => O (.exc e r)) := by
  unfold sRaise
  rw [wS_then']
  refine wE_ext fun xs r1 => ?_
  unfold wT wC
  cases takes xs with
  | none => rfl
  | some ds =>
    show wS (if ds.length = ns.length then SRes.exc ⟨cn, ns, ds⟩ r1 else .stuck) N O = (_ ∧ _)
    by_cases c : ds.length = ns.length
    · rw [if_pos c, decide_eq_true c]; simp [wS]
    · rw [if_neg c, decide_eq_false c]; simp [wS]
theorem w_out {io : Option Nat} {y : D → FRes} {K : D → Prop} {K1 : RV → D → Prop} {X1 : Ex → D → Prop} (h : ∀ d, wF (y d) K1 X1 = K d) : wF (match outOf io r with | some d => y d | none => .stuck) K1 X1 = wOut io r K := by
  unfold outOf wOut
  cases io with
  | none => exact h .non
  | some i =>
    show wF (match (match r[i]? with | some (.ino d) => some d | _ => none) with | some d => y d | none => .stuck) K1 X1 = wOutS r[i]? K
    cases r[i]? with
    | none => rfl
    | some s => cases s <;> first | exact h _ | rfl
theorem w_fin {io : Option Nat} {x : SRes} {K : RV → D → Prop} {X : Ex → D → Prop} : wF (finish io x) K X = wS x (fun r => wOut io r (K (.val .non))) (finK io K X) := by
  cases x with
  | nx r => exact w_out (y := fun d => .ret (.val .non) d) fun _ => rfl
  | rt x r => exact w_out (y := fun d => .ret x d) fun _ => rfl
  | exc e r => exact w_out (y := fun d => .exc e d) fun _ => rfl
  | bk r => rfl
  | ct r => rfl
  | stuck => rfl
theorem w_run {io : Option Nat} {ds : List D} {K : RV → D → Prop} {X : Ex → D → Prop} : wF (runF io n f ds) K X = wV (slotsOf io ds ++ List.replicate (n - ds.length) .un) fun r => wS (f r) (fun r => wOut io r (K (.val .non))) (finK io K X) := w_fin
end
end Ev
namespace Ev
open PySem PySem.Spec PyProof.Rows L2

theorem mostE {n : Nat} : (n ≤ most) = (n ≤ 4000000) := rfl
theorem wC_of {b : Bool} {p : Prop} (h : b = true) (hp : p) : wC b p := ⟨h, hp⟩
theorem wC_dec {c : Prop} [Decidable c] {p : Prop} (h : c) (hp : p) : wC (decide c) p := ⟨decide_eq_true h, hp⟩
theorem wIf_dec {c : Prop} [Decidable c] {p q : Unit → Prop} (h1 : c → p ()) (h2 : ¬ c → q ()) : wIf (decide c) p q := by
  unfold wIf
  by_cases h : c
  · rw [decide_eq_true h]; simpa using h1 h
  · rw [decide_eq_false h]; simpa using h2 h
theorem wIf_b {c : Bool} {p q : Unit → Prop} (h1 : c = true → p ()) (h2 : c = false → q ()) : wIf c p q := by
  cases c with
  | true => rw [wIf_T]; exact h1 rfl
  | false => rw [wIf_F]; exact h2 rfl
theorem wF_mono {x : FRes} {K K' : RV → D → Prop} {X X' : Ex → D → Prop} (h : wF x K X) (hk : ∀ v o, K v o → K' v o) (hx : ∀ e o, X e o → X' e o) : wF x K' X' := by
  cases x with
  | ret v o => exact hk v o h
  | exc e o => exact hx e o h
  | stuck => exact h
theorem wF_eq {x : FRes} {v : RV} {o : D} (h : wF x (fun y p => y = v ∧ p = o) fun _ _ => False) : x = .ret v o := by
  cases x with
  | ret y p => obtain ⟨rfl, rfl⟩ := h; rfl
  | exc e o => exact h.elim
  | stuck => exact h.elim
theorem wF_eqx {x : FRes} {e : Ex} {o : D} (h : wF x (fun _ _ => False) fun y p => y = e ∧ p = o) : x = .exc e o := by
  cases x with
  | ret y p => exact h.elim
  | exc y p => obtain ⟨rfl, rfl⟩ := h; rfl
  | stuck => exact h.elim
theorem wS_mono {x : SRes} {N N' : Env → Prop} {O O' : SRes → Prop} (h : wS x N O) (hn : ∀ r, N r → N' r) (ho : ∀ y, O y → O' y) : wS x N' O' := by
  cases x with
  | nx r => exact hn r h
  | stuck => exact h
  | _ => exact ho _ h
theorem wE_mono {α : Type} {x : Res α} {K K' : α → Env → Prop} {X X' : Ex → Env → Prop} (h : wE x K X) (hk : ∀ v o, K v o → K' v o) (hx : ∀ e o, X e o → X' e o) : wE x K' X' := by
  cases x with
  | ok v o => exact hk v o h
  | exc e o => exact hx e o h
  | stuck => exact h
/-- a waist: what holds between two parts -/
theorem w_mid {f g : DenS} {r : Env} {N : Env → Prop} {O : SRes → Prop} (M : Env → Prop) (h1 : wS (f r) M O) (h2 : ∀ r1, M r1 → wS (g r1) N O) : wS (sSeq f g r) N O := by
  rw [s_sq]
  exact wS_mono h1 h2 fun _ h => h
theorem w_cut {x : SRes} {N : Env → Prop} {O : SRes → Prop} (M : Env → Prop) (h1 : wS x M O) (h2 : ∀ r1, M r1 → N r1) : wS x N O := wS_mono h1 h2 fun _ h => h
theorem we_cut {α : Type} {x : Res α} {K : α → Env → Prop} {X : Ex → Env → Prop} (M : α → Env → Prop) (h1 : wE x M X) (h2 : ∀ a r1, M a r1 → K a r1) : wE x K X := wE_mono h1 h2 fun _ _ h => h

/-! ### operations -/
section
variable {K : RV → Prop} {i j : Int} {xs ys : List D} {ns : List D}
theorem o_add (i j : Int) : addD (.int i) (.int j) = some (.val (.int (i + j))) := rfl
theorem o_addl : wO (addD (.lst xs) (.lst ys)) K = wC (decide (xs.length + ys.length ≤ most)) (K (.own (.lst (xs ++ ys)))) := by
  show wO (if xs.length + ys.length ≤ most then some (RV.own (.lst (xs ++ ys))) else none) K = (_ ∧ _)
  by_cases c : xs.length + ys.length ≤ most
  · rw [if_pos c, decide_eq_true c]; simp [wO]
  · rw [if_neg c, decide_eq_false c]; simp [wO]
theorem o_addt : wO (addD (.tup xs) (.tup ys)) K = wC (decide (xs.length + ys.length ≤ most)) (K (.val (.tup (xs ++ ys)))) := by
  show wO (if xs.length + ys.length ≤ most then some (RV.val (.tup (xs ++ ys))) else none) K = (_ ∧ _)
  by_cases c : xs.length + ys.length ≤ most
  · rw [if_pos c, decide_eq_true c]; simp [wO]
  · rw [if_neg c, decide_eq_false c]; simp [wO]
theorem o_int (g : Int → Int → Int) (i j : Int) : intD g (.int i) (.int j) = some (.val (.int (g i j))) := rfl
theorem o_mul : wO (mulD (.int i) (.int j)) K = wC (mulOk i j) (K (.val (.int (i * j)))) := by
  show wO (if mulOk i j = true then some (RV.val (.int (i * j))) else none) K = (_ ∧ _)
  by_cases c : mulOk i j = true
  · rw [if_pos c, c]; simp [wO]
  · rw [if_neg c, eq_false c]; simp [wO]
theorem o_fdiv : wO (fdivD (.int i) (.int j)) K = wC (decide (j ≠ 0 ∧ j.natAbs.log2 < 9000)) (K (.val (.int (i.fdiv j)))) := by
  show wO (if j ≠ 0 ∧ j.natAbs.log2 < 9000 then some (RV.val (.int (i.fdiv j))) else none) K = (_ ∧ _)
  by_cases c : j ≠ 0 ∧ j.natAbs.log2 < 9000
  · rw [if_pos c, decide_eq_true c]; simp [wO]
  · rw [if_neg c, decide_eq_false c]; simp [wO]
theorem o_mod : wO (modD (.int i) (.int j)) K = wC (decide (j ≠ 0)) (K (.val (.int (i.fmod j)))) := by
  show wO (if j ≠ 0 then some (RV.val (.int (i.fmod j))) else none) K = (_ ∧ _)
  by_cases c : j ≠ 0
  · rw [if_pos c, decide_eq_true c]; simp [wO]
  · rw [if_neg c, decide_eq_false c]; simp [wO]
theorem o_shr : wO (shrD (.int i) (.int j)) K = wC (decide (0 ≤ j)) (K (.val (.int (i / 2 ^ j.toNat)))) := by
  show wO (if 0 ≤ j then some (RV.val (.int (i / 2 ^ j.toNat))) else none) K = (_ ∧ _)
  by_cases c : 0 ≤ j
  · rw [if_pos c, decide_eq_true c]; simp [wO]
  · rw [if_neg c, decide_eq_false c]; simp [wO]
theorem o_shl : wO (shlD (.int i) (.int j)) K = wC (decide (0 ≤ j ∧ j ≤ 1000000 ∧ i.natAbs < 2 ^ 64)) (K (.val (.int (i * 2 ^ j.toNat)))) := by
  show wO (if 0 ≤ j ∧ j ≤ 1000000 ∧ i.natAbs < 2 ^ 64 then some (RV.val (.int (i * 2 ^ j.toNat))) else none) K = (_ ∧ _)
  by_cases c : 0 ≤ j ∧ j ≤ 1000000 ∧ i.natAbs < 2 ^ 64
  · rw [if_pos c, decide_eq_true c]; simp [wO]
  · rw [if_neg c, decide_eq_false c]; simp [wO]
theorem o_shrN (a k : Nat) : shrD (.int (a : Nat)) (.int (k : Nat)) = some (.val (.int ((a >>> k : Nat) : Int))) := by
  have e : shrD (.int (a : Nat)) (.int (k : Nat)) = some (.val (.int ((a : Int) / 2 ^ (k : Int).toNat))) := by
    show (if 0 ≤ (k : Int) then some (RV.val (.int ((a : Int) / 2 ^ (k : Int).toNat))) else none) = _
    exact if_pos (Int.natCast_nonneg k)
  rw [e, Int.toNat_natCast, Nat.shiftRight_eq_div_pow]
  norm_cast
theorem o_shl1 (k : Nat) : wO (shlD (.int 1) (.int (k : Nat))) K = wC (decide (k ≤ 1000000)) (K (.val (.int ((2 ^ k : Nat) : Int)))) := by
  have e : (1 * 2 ^ (k : Int).toNat : Int) = ((2 ^ k : Nat) : Int) := by rw [Int.one_mul, Int.toNat_natCast]; norm_cast
  have c : ((0 : Int) ≤ (k : Int) ∧ (k : Int) ≤ 1000000 ∧ (1 : Int).natAbs < 2 ^ 64) ↔ k ≤ 1000000 := ⟨fun h => by omega, fun h => ⟨by omega, by omega, by decide⟩⟩
  rw [o_shl, e, decide_eq_decide.mpr c]
theorem bnN (a b : Nat) : Builtin.bitAnd (a : Int) (b : Int) = ((a &&& b : Nat) : Int) := by
  unfold Builtin.bitAnd
  rw [decide_eq_true (Int.natCast_nonneg a), decide_eq_true (Int.natCast_nonneg b)]
  rfl
theorem bn1 (a : Nat) : Builtin.bitAnd (a : Int) 1 = ((a &&& 1 : Nat) : Int) := bnN a 1
theorem bnotnot (a : Nat) : Builtin.bitNot (Builtin.bitNot (a : Int)) = (a : Int) := by unfold Builtin.bitNot; omega
theorem boN (a b : Nat) : Builtin.bitOr (a : Int) (b : Int) = ((a ||| b : Nat) : Int) := by
  unfold Builtin.bitOr Builtin.bitAnd
  have h (c : Nat) : ¬ 0 ≤ Builtin.bitNot (c : Int) := by unfold Builtin.bitNot; omega
  rw [decide_eq_false (h a), decide_eq_false (h b)]
  show Builtin.bitNot (Builtin.bitNot (((Builtin.bitNot (Builtin.bitNot (a : Int))).toNat ||| (Builtin.bitNot (Builtin.bitNot (b : Int))).toNat : Nat) : Int)) = _
  rw [bnotnot, bnotnot, bnotnot, Int.toNat_natCast, Int.toNat_natCast]
theorem bo0 (a : Nat) : Builtin.bitOr (0 : Int) (a : Int) = (a : Int) := by
  have := boN 0 a
  rw [Nat.zero_or] at this
  exact this
theorem o_neg (i : Int) : negD (.int i) = some (.val (.int (-i))) := rfl
theorem o_inv (i : Int) : invD (.int i) = some (.val (.int (Builtin.bitNot i))) := rfl
theorem o_eq (i j : Int) : ceqD (.int i) (.int j) = some (.val (.bl (decide (i = j)))) := rfl
theorem o_ne (i j : Int) : cneD (.int i) (.int j) = some (.val (.bl (!decide (i = j)))) := rfl
theorem o_eqs (x y : Str) : ceqD (.str x) (.str y) = some (.val (.bl (decide (x = y)))) := rfl
theorem o_nes (x y : Str) : cneD (.str x) (.str y) = some (.val (.bl (!decide (x = y)))) := rfl
theorem o_eqb (a b : Bool) : ceqD (.bl a) (.bl b) = some (.val (.bl (a == b))) := by cases a <;> cases b <;> rfl
theorem o_neb (a b : Bool) : cneD (.bl a) (.bl b) = some (.val (.bl (a != b))) := by cases a <;> cases b <;> rfl
theorem o_lt (i j : Int) : cltD (.int i) (.int j) = some (.val (.bl (decide (i < j)))) := rfl
theorem o_le (i j : Int) : cleD (.int i) (.int j) = some (.val (.bl (decide (i ≤ j)))) := rfl
theorem o_gt (i j : Int) : cgtD (.int i) (.int j) = some (.val (.bl (decide (j < i)))) := rfl
theorem o_ge (i j : Int) : cgeD (.int i) (.int j) = some (.val (.bl (decide (j ≤ i)))) := rfl
theorem o_isN : cisN .non = some (.val (.bl true)) := rfl
theorem o_isI (i : Int) : cisN (.int i) = some (.val (.bl false)) := rfl
theorem o_isT (l : List D) : cisN (.tup l) = some (.val (.bl false)) := rfl
theorem o_isL (l : List D) : cisN (.lst l) = some (.val (.bl false)) := rfl
theorem o_noN : cnoN .non = some (.val (.bl false)) := rfl
theorem o_noI (i : Int) : cnoN (.int i) = some (.val (.bl true)) := rfl
theorem o_noT (l : List D) : cnoN (.tup l) = some (.val (.bl true)) := rfl
theorem o_noL (l : List D) : cnoN (.lst l) = some (.val (.bl true)) := rfl
theorem o_trb (b : Bool) : truthD (.bl b) = some b := rfl
theorem o_tri (i : Int) : truthD (.int i) = some (i != 0) := rfl
theorem o_idl : idxD (.lst xs) (.int i) = (atI xs i).map .val := rfl
theorem o_idt : idxD (.tup xs) (.int i) = (atI xs i).map .val := rfl
theorem o_lenl : lenD [.lst xs] = some (.val (.int xs.length)) := rfl
theorem o_lent : lenD [.tup xs] = some (.val (.int xs.length)) := rfl
theorem o_abs : absD [.int i] = some (.val (.int (if i < 0 then -i else i))) := rfl
theorem o_int1 : intD1 [.int i] = some (.val (.int i)) := rfl
theorem o_max2 : maxD [.int i, .int j] = some (.val (.int (if j > i then j else i))) := rfl
theorem o_min2 : minD [.int i, .int j] = some (.val (.int (if j < i then j else i))) := rfl
theorem o_bits (i : Int) : bitsD (.int i) = some (.val (.int (Builtin.Int.intBits i : Nat))) := rfl
theorem o_tupl : tupleD [.lst xs] = some (.val (.tup xs)) := rfl
theorem o_tupt : tupleD [.tup xs] = some (.val (.tup xs)) := rfl
theorem o_lstl : listD [.lst xs] = some (.own (.lst xs)) := rfl
theorem o_lstt : listD [.tup xs] = some (.own (.lst xs)) := rfl
theorem o_itl : itemsD (.lst xs) = some xs := rfl
theorem o_itt : itemsD (.tup xs) = some xs := rfl
theorem o_app {d : D} {K : D × D → Prop} : wO (appendD (.lst xs) [d]) K = wC (decide (xs.length < most)) (K (.lst (xs ++ [d]), .non)) := by
  show wO (if xs.length < most then some (D.lst (xs ++ [d]), D.non) else none) K = (_ ∧ _)
  by_cases c : xs.length < most
  · rw [if_pos c, decide_eq_true c]; simp [wO]
  · rw [if_neg c, decide_eq_false c]; simp [wO]
theorem o_rng {j : Int} {K : List D → Prop} : wO (range1D [.int j]) K = wC (big62 j) (K (rangeD 0 j)) := by
  show wO (if big62 j = true then some (rangeD 0 j) else none) K = (_ ∧ _)
  by_cases c : big62 j = true
  · rw [if_pos c, c]; simp [wO]
  · rw [if_neg c, eq_false c]; simp [wO]
theorem o_rng2 {i j : Int} {K : List D → Prop} : wO (range2D [.int i, .int j]) K = wC (big62 i) (wC (big62 j) (K (rangeD i j))) := by
  show wO (if big62 i = true then (if big62 j = true then some (rangeD i j) else none) else none) K = (_ ∧ _ ∧ _)
  by_cases c : big62 i = true
  · rw [if_pos c, c]
    by_cases c : big62 j = true
    · rw [if_pos c, c]; simp [wO]
    · rw [if_neg c, eq_false c]; simp [wO]
  · rw [if_neg c, eq_false c]; simp [wO]
theorem o_tupr {i : Int} : wO (tupRgD (.int i)) K = wC (decide (i ≤ 1000000 ∧ -1000000 ≤ i)) (K (.val (.tup (rangeD 0 i)))) := by
  show wO ((if i ≤ 1000000 ∧ -1000000 ≤ i then some (rangeD 0 i) else none).map fun xs => RV.val (.tup xs)) K = (_ ∧ _)
  by_cases c : i ≤ 1000000 ∧ -1000000 ≤ i
  · rw [if_pos c, decide_eq_true c]; simp [wO]
  · rw [if_neg c, decide_eq_false c]; simp [wO]
end

/-! ### lists of data of one kind -/
def wIx (n : Nat) (i : Int) (K : Nat → Prop) : Prop := wO (L2.ixN n i) K
theorem wIx_nat {n k : Nat} {K : Nat → Prop} : wIx n (k : Int) K = wC (decide (k < n)) (K k) := by
  unfold wIx L2.ixN wC
  rw [if_pos (Int.natCast_nonneg k)]
  by_cases c : k < n
  · rw [if_pos (by omega), decide_eq_true c]; simp [wO]
  · rw [if_neg (by omega), decide_eq_false c]; simp [wO]
theorem wIx_0 {n : Nat} {K : Nat → Prop} : wIx n 0 K = wC (decide (0 < n)) (K 0) := wIx_nat
theorem wIx_1 {n : Nat} {K : Nat → Prop} : wIx n 1 K = wC (decide (1 < n)) (K 1) := wIx_nat
theorem wIx_2 {n : Nat} {K : Nat → Prop} : wIx n 2 K = wC (decide (2 < n)) (K 2) := wIx_nat
theorem wIx_3 {n : Nat} {K : Nat → Prop} : wIx n 3 K = wC (decide (3 < n)) (K 3) := wIx_nat
theorem wIx_m1 {n : Nat} {K : Nat → Prop} : wIx n (-1) K = wC (decide (0 < n)) (K (n - 1)) := by
  unfold wIx L2.ixN wC
  rw [if_neg (by omega)]
  by_cases c : 0 < n
  · rw [if_pos (by omega), decide_eq_true c]
    have : ((-1 : Int) + n).toNat = n - 1 := by omega
    rw [this]; simp [wO]
  · rw [if_neg (by omega), decide_eq_false c]; simp [wO]
theorem wIx_m2 {n : Nat} {K : Nat → Prop} : wIx n (-2) K = wC (decide (1 < n)) (K (n - 2)) := by
  unfold wIx L2.ixN wC
  rw [if_neg (by omega)]
  by_cases c : 1 < n
  · rw [if_pos (by omega), decide_eq_true c]
    have : ((-2 : Int) + n).toNat = n - 2 := by omega
    rw [this]; simp [wO]
  · rw [if_neg (by omega), decide_eq_false c]; simp [wO]
theorem ixN_lt {n : Nat} {i : Int} {k : Nat} (h : L2.ixN n i = some k) : k < n := (L2.ixN_seq h).2.1
section
variable {α : Type} [Inhabited α] {e : α → D} {l : List α} {K : RV → Prop}
theorem o_atm {i : Int} {K : D → Prop} : wO (L2.atI (l.map e) i) K = wIx l.length i fun k => K (e l[k]!) := by
  unfold wIx L2.atI
  rw [List.length_map]
  cases h : L2.ixN l.length i with
  | none => rfl
  | some k =>
    have c := ixN_lt h
    show wO ((l.map e)[k]?) K = K (e l[k]!)
    rw [List.getElem?_map, List.getElem?_eq_getElem c, getElem!_pos l k c]; rfl
theorem wO_map {α β : Type} {o : Option α} {f : α → β} {K : β → Prop} : wO (o.map f) K = wO o fun a => K (f a) := by cases o <;> rfl
theorem o_idlm {i : Int} : wO (idxD (.lst (l.map e)) (.int i)) K = wIx l.length i fun k => K (.val (e l[k]!)) := by rw [o_idl, wO_map, o_atm]
theorem o_idtm {i : Int} : wO (idxD (.tup (l.map e)) (.int i)) K = wIx l.length i fun k => K (.val (e l[k]!)) := by rw [o_idt, wO_map, o_atm]
theorem o_idlc {i : Int} {a : D} {t : List D} : wO (idxD (.lst (a :: t)) (.int i)) K = wIx (t.length + 1) i fun k => wO (a :: t)[k]? fun d => K (.val d) := by
  rw [o_idl, wO_map]
  unfold wIx L2.atI
  rw [List.length_cons]
  cases L2.ixN (t.length + 1) i <;> rfl
theorem o_idtc {i : Int} {a : D} {t : List D} : wO (idxD (.tup (a :: t)) (.int i)) K = wIx (t.length + 1) i fun k => wO (a :: t)[k]? fun d => K (.val d) := o_idlc
theorem o_setm {i : Int} {v : α} {K : D → Prop} : wO (setD (.lst (l.map e)) (.int i) (e v)) K = wIx l.length i fun k => K (.lst ((l.set k v).map e)) := by
  show wO ((L2.ixN (l.map e).length i).map fun j => D.lst ((l.map e).set j (e v))) K = _
  rw [List.length_map]
  unfold wIx
  cases L2.ixN l.length i with
  | none => rfl
  | some j =>
    show K (D.lst ((l.map e).set j (e v))) = K (D.lst ((l.set j v).map e))
    rw [List.map_set]
theorem o_setc {i : Int} {a v : D} {t : List D} {K : D → Prop} : wO (setD (.lst (a :: t)) (.int i) v) K = wIx (t.length + 1) i fun k => wV ((a :: t).set k v) fun xs => K (.lst xs) := by
  show wO ((L2.ixN (a :: t).length i).map fun j => D.lst ((a :: t).set j v)) K = _
  unfold wIx
  rw [List.length_cons]
  cases L2.ixN (t.length + 1) i <;> rfl
theorem o_appm {v : α} {K : D × D → Prop} : wO (appendD (.lst (l.map e)) [e v]) K = wC (decide (l.length < most)) (K (.lst ((l ++ [v]).map e), .non)) := by
  rw [o_app, List.length_map, List.map_append]; rfl
theorem o_popm {K : D × D → Prop} : wO (popD (.lst (l.map e)) []) K = wC (decide (0 < l.length)) (K (.lst (l.dropLast.map e), e l[l.length - 1]!)) := by
  show wO (((l.map e)[(l.map e).length - 1]?).map fun d => (D.lst (l.map e).dropLast, d)) K = (_ ∧ _)
  rw [List.length_map, List.getElem?_map, wO_map, wO_map]
  by_cases c : 0 < l.length
  · rw [List.getElem?_eq_getElem (show l.length - 1 < l.length by omega), decide_eq_true c, getElem!_pos l _ (show l.length - 1 < l.length by omega), ← List.map_dropLast]; simp [wO]
  · rw [List.getElem?_eq_none (by omega), decide_eq_false c]; simp [wO]
theorem o_addlm {l2 : List α} : wO (addD (.lst (l.map e)) (.lst (l2.map e))) K = wC (decide (l.length + l2.length ≤ most)) (K (.own (.lst ((l ++ l2).map e)))) := by
  rw [o_addl, List.length_map, List.length_map, List.map_append]
theorem o_lenlm : lenD [.lst (l.map e)] = some (.val (.int (l.length : Nat))) := by rw [o_lenl, List.length_map]
theorem o_lentm : lenD [.tup (l.map e)] = some (.val (.int (l.length : Nat))) := by rw [o_lent, List.length_map]
theorem intsOf_nat (l : List Nat) : intsOf (l.map fun k : Nat => D.int (k : Nat)) = some (l.map fun k : Nat => (k : Int)) := by
  induction l with
  | nil => rfl
  | cons a t ih =>
    show (intsOf (t.map fun k : Nat => D.int (k : Nat))).map (fun ns => ((a : Nat) : Int) :: ns) = _
    rw [ih]; rfl
theorem sum_nat (l : List Nat) : (l.map fun k : Nat => (k : Int)).sum = ((l.sum : Nat) : Int) := by
  induction l with
  | nil => rfl
  | cons a t ih => rw [List.map_cons, List.sum_cons, ih, List.sum_cons]; omega
theorem o_sumN (l : List Nat) : sumD [.lst (l.map fun k : Nat => D.int (k : Nat))] = some (.val (.int (l.sum : Nat))) := by
  show (intsOf _).map _ = _
  rw [intsOf_nat]
  show some (RV.val (.int (l.map fun k : Nat => (k : Int)).sum)) = _
  rw [sum_nat]
theorem boolsOf_map {β : Type} (p : β → Bool) (l : List β) : boolsOf (l.map fun k => D.bl (p k)) = some (l.map p) := by
  induction l with
  | nil => rfl
  | cons a t ih =>
    show (boolsOf (t.map fun k => D.bl (p k))).map (fun ns => p a :: ns) = _
    rw [ih]; rfl
theorem o_any {β : Type} (p : β → Bool) (l : List β) : anyD [.lst (l.map fun k => D.bl (p k))] = some (.val (.bl (l.any p))) := by
  show (boolsOf _).map _ = _
  rw [boolsOf_map]
  show some (RV.val (.bl ((l.map p).any id))) = _
  rw [List.any_map]; rfl
theorem o_all {β : Type} (p : β → Bool) (l : List β) : allD [.lst (l.map fun k => D.bl (p k))] = some (.val (.bl (l.all p))) := by
  show (boolsOf _).map _ = _
  rw [boolsOf_map]
  show some (RV.val (.bl ((l.map p).all id))) = _
  rw [List.all_map]; rfl
end

/-! ### loops -/
section
variable {α : Type} {gt : DenG} {f : DenS} {r : Env} {N : Env → Prop} {O : SRes → Prop}
/-- a for loop: what holds when the items done are taken -/
theorem w_for (enc : α → D) (I : List α → Env → Prop) (xs : List α) (h0 : I [] r)
    (hs : ∀ done x rest r, xs = done ++ x :: rest → I done r → wO (gt (enc x) r) fun r1 => wS (f r1) (I (done ++ [x])) (forO (I (done ++ [x])) N O))
    (h1 : ∀ r, I xs r → N r) : wS (sFor1 gt f (xs.map enc) r) N O := by
  suffices H : ∀ (t done : List α) (r : Env), xs = done ++ t → I done r → wS (sFor1 gt f (t.map enc) r) N O from H xs [] r rfl h0
  intro t
  induction t with
  | nil =>
    intro done r e hi
    rw [List.append_nil] at e
    subst e
    exact h1 r hi
  | cons x t ih =>
    intro done r e hi
    rw [List.map_cons, s_for1]
    have step := hs done x t r e hi
    have next : ∀ r2, I (done ++ [x]) r2 → wS (sFor1 gt f (t.map enc) r2) N O := fun r2 h => ih (done ++ [x]) r2 (by rw [e, List.append_assoc]; rfl) h
    cases q : gt (enc x) r with
    | none => rw [q] at step; exact step
    | some r1 =>
      rw [q] at step
      show wS (f r1) _ _
      refine wS_mono step next fun y hy => ?_
      cases y with
      | ct r => exact next r hy
      | _ => exact hy
/-- over a range of numbers -/
theorem w_rng (lo hi : Int) (I : Nat → Env → Prop) (h0 : I 0 r)
    (hs : ∀ k r, k < (hi - lo).toNat → I k r → wO (gt (.int (lo + (k : Nat))) r) fun r1 => wS (f r1) (I (k + 1)) (forO (I (k + 1)) N O))
    (h1 : ∀ r, I (hi - lo).toNat r → N r) : wS (sFor1 gt f (rangeD lo hi) r) N O := by
  unfold rangeD
  refine w_for (fun k : Nat => D.int (lo + (k : Nat))) (fun done r => I done.length r) (List.range (hi - lo).toNat) h0 (fun done x rest r e h => ?_) fun r h => h1 r (by rw [List.length_range] at h; exact h)
  have l := congrArg List.length e
  rw [List.length_range, List.length_append, List.length_cons] at l
  have e2 : (List.range (hi - lo).toNat)[done.length]? = some x := by rw [e, List.getElem?_append_right (Nat.le_refl _), Nat.sub_self]; rfl
  rw [List.getElem?_range (by omega)] at e2
  have e3 := Option.some.inj e2
  subst e3
  have := hs done.length r (by omega) h
  rw [List.length_append]
  exact this
/-- from nought -/
theorem w_rn (n : Nat) (I : Nat → Env → Prop) (h0 : I 0 r)
    (hs : ∀ k r, k < n → I k r → wO (gt (.int (k : Nat)) r) fun r1 => wS (f r1) (I (k + 1)) (forO (I (k + 1)) N O))
    (h1 : ∀ r, I n r → N r) : wS (sFor1 gt f (rangeD 0 (n : Int)) r) N O := by
  refine w_rng 0 n I h0 (fun k r hk h => ?_) fun r h => h1 r (by
    have e : ((n : Int) - 0).toNat = n := by omega
    rw [e] at h; exact h)
  have := hs k r (by omega) h
  rw [Int.zero_add]; exact this
theorem s_wh0 {c : DenB} {n : Nat} : wS (sWh c f (n + 1) r) N O = wE (c r) (fun t r1 => wIf t (fun _ => wS (f r1) (fun r2 => wS (sWh c f n r2) N O) (forO (fun r2 => wS (sWh c f n r2) N O) N O)) (fun _ => N r1)) (fun e r => O (.exc e r)) := by
  show wS ((c r).then fun t r1 => if t = true then (match f r1 with | .nx r2 => sWh c f n r2 | .ct r2 => sWh c f n r2 | .bk r2 => .nx r2 | x => x) else .nx r1) N O = _
  rw [wS_then']
  refine wE_ext fun t r1 => ?_
  cases t with
  | false => rw [wIf_F]; rfl
  | true =>
    rw [wIf_T, if_pos rfl]
    cases f r1 <;> rfl
/-- a while loop: m falls -/
theorem w_wh {c : DenB} (I : Nat → Env → Prop) (m : Nat) (hm : m < 1000000) (h0 : I m r)
    (hs : ∀ m r, I m r → wE (c r) (fun t r1 => wIf t (fun _ => 0 < m ∧ wS (f r1) (fun r2 => ∃ m', m' < m ∧ I m' r2) (forO (fun r2 => ∃ m', m' < m ∧ I m' r2) N O)) (fun _ => N r1)) (fun e r => O (.exc e r))) :
    wS (sWh c f 1000000 r) N O := by
  suffices H : ∀ (n m : Nat) (r : Env), m < n → I m r → wS (sWh c f n r) N O from H _ m r hm h0
  intro n
  induction n with
  | zero => intro m r h; omega
  | succ n ih =>
    intro m r h hi
    rw [s_wh0]
    refine wE_mono (hs m r hi) (fun t r1 q => ?_) fun _ _ h => h
    cases t with
    | false => rw [wIf_F] at q ⊢; exact q
    | true =>
      rw [wIf_T] at q ⊢
      have next : ∀ r2, (∃ m', m' < m ∧ I m' r2) → wS (sWh c f n r2) N O := fun r2 ⟨m', h1, h2⟩ => ih m' r2 (by omega) h2
      refine wS_mono q.2 next fun y hy => ?_
      cases y with
      | ct r => exact next r hy
      | _ => exact hy
end
section
variable {α : Type} {gt : DenG} {st : Stp} {vs : List Nat} {r : Env} {acc : List D} {K : List D → Env → Prop} {X : Ex → Env → Prop}
/-- a comprehension -/
theorem w_cl (enc : α → D) (I : List α → List D → Env → Prop) (xs : List α) (h0 : I [] acc r)
    (hs : ∀ done x rest acc r, xs = done ++ x :: rest → I done acc r → wC (vsOk r vs) (wO (gt (enc x) (wipeE r vs)) fun r1 => wE (st acc r1) (fun acc2 r2 => wV (backE r r2 vs) fun r3 => I (done ++ [x]) acc2 r3) fun _ _ => False))
    (h1 : ∀ acc r, I xs acc r → K acc r) : wE (cLoop vs gt st (xs.map enc) acc r) K X := by
  suffices H : ∀ (t done : List α) (acc : List D) (r : Env), xs = done ++ t → I done acc r → wE (cLoop vs gt st (t.map enc) acc r) K X from H xs [] acc r rfl h0
  intro t
  induction t with
  | nil =>
    intro done acc r e hi
    rw [List.append_nil] at e
    subst e
    exact h1 acc r hi
  | cons x t ih =>
    intro done acc r e hi
    obtain ⟨hv, step⟩ := hs done x t acc r e hi
    rw [List.map_cons]
    show wE (if vsOk r vs = true then (match gt (enc x) (wipeE r vs) with | none => Res.stuck | some r1 => (match st acc r1 with | .ok acc2 r2 => cLoop vs gt st (t.map enc) acc2 (backE r r2 vs) | _ => .stuck)) else .stuck) K X
    rw [if_pos hv]
    cases q : gt (enc x) (wipeE r vs) with
    | none => rw [q] at step; exact step.elim
    | some r1 =>
      rw [q] at step
      have step : wE (st acc r1) (fun acc2 r2 => I (done ++ [x]) acc2 (backE r r2 vs)) (fun _ _ => False) := step
      show wE (match st acc r1 with | .ok acc2 r2 => cLoop vs gt st (t.map enc) acc2 (backE r r2 vs) | _ => .stuck) K X
      cases q2 : st acc r1 with
      | ok acc2 r2 =>
        rw [q2] at step
        exact ih (done ++ [x]) acc2 (backE r r2 vs) (by rw [e, List.append_assoc]; rfl) step
      | exc e r => rw [q2] at step; exact step.elim
      | stuck => rw [q2] at step; exact step.elim
/-- a comprehension that leaves the state: what each item brings -/
theorem w_cf (enc : α → D) (φ : α → List D) (xs : List α) (hl : acc.length + (xs.flatMap φ).length ≤ most)
    (hs : ∀ x acc, x ∈ xs → acc.length + (φ x).length ≤ most → wC (vsOk r vs) (wO (gt (enc x) (wipeE r vs)) fun r1 => wE (st acc r1) (fun acc2 r2 => wV (backE r r2 vs) fun r3 => acc2 = acc ++ φ x ∧ r3 = r) fun _ _ => False))
    (h1 : K (acc ++ xs.flatMap φ) r) : wE (cLoop vs gt st (xs.map enc) acc r) K X := by
  refine w_cl enc (fun done acc2 r2 => acc2 = acc ++ done.flatMap φ ∧ r2 = r) xs ⟨by simp, rfl⟩ (fun done x rest acc2 r2 e h => ?_) fun acc2 r2 h => by rw [h.1, h.2]; exact h1
  obtain ⟨rfl, rfl⟩ := h
  have l : (done.flatMap φ).length + (φ x).length ≤ (xs.flatMap φ).length := by
    rw [e, List.flatMap_append, List.flatMap_cons, List.length_append, List.length_append]; omega
  obtain ⟨a, b⟩ := hs x (acc ++ done.flatMap φ) (by rw [e]; simp) (by rw [List.length_append]; omega)
  refine ⟨a, ?_⟩
  cases q : gt (enc x) (wipeE r2 vs) with
  | none => rw [q] at b; exact b
  | some r1 =>
    rw [q] at b
    refine wE_mono b (fun acc3 r3 h => ?_) fun _ _ h => h
    obtain ⟨h1, h2⟩ := h
    refine ⟨?_, h2⟩
    rw [h1, List.flatMap_append, List.append_assoc]; simp
/-- .. one item each -/
theorem w_cm (enc : α → D) (φ : α → D) (xs : List α) (hl : xs.length ≤ most)
    (hs : ∀ x acc, x ∈ xs → acc.length < most → wC (vsOk r vs) (wO (gt (enc x) (wipeE r vs)) fun r1 => wE (st acc r1) (fun acc2 r2 => wV (backE r r2 vs) fun r3 => acc2 = acc ++ [φ x] ∧ r3 = r) fun _ _ => False))
    (h1 : K (xs.map φ) r) : wE (cLoop vs gt st (xs.map enc) [] r) K X := by
  have e : xs.flatMap (fun x => [φ x]) = xs.map φ := by
    clear hl hs h1
    induction xs with
    | nil => rfl
    | cons a t ih => rw [List.flatMap_cons, ih]; rfl
  refine w_cf enc (fun x => [φ x]) xs (by rw [e, List.length_map]; simpa using hl) (fun x acc hx hl => hs x acc hx (by simp only [List.length_cons, List.length_nil] at hl; omega)) ?_
  rw [e]; exact h1
/-- .. those that pass a test -/
theorem w_cp (enc : α → D) (p : α → Bool) (φ : α → D) (xs : List α) (hl : xs.length ≤ most)
    (hs : ∀ x acc, x ∈ xs → acc.length < most → wC (vsOk r vs) (wO (gt (enc x) (wipeE r vs)) fun r1 => wE (st acc r1) (fun acc2 r2 => wV (backE r r2 vs) fun r3 => acc2 = (if p x = true then acc ++ [φ x] else acc) ∧ r3 = r) fun _ _ => False))
    (h1 : K ((xs.filter p).map φ) r) : wE (cLoop vs gt st (xs.map enc) [] r) K X := by
  have e : xs.flatMap (fun x => if p x = true then [φ x] else []) = (xs.filter p).map φ := by
    clear hl hs h1
    induction xs with
    | nil => rfl
    | cons a t ih =>
      rw [List.flatMap_cons, ih]
      by_cases c : p a = true
      · rw [if_pos c, List.filter_cons_of_pos c]; rfl
      · rw [if_neg c, List.filter_cons_of_neg c]; rfl
  have le : ((xs.filter p).map φ).length ≤ xs.length := by rw [List.length_map]; exact List.length_filter_le _ _
  refine w_cl enc (fun done acc2 r2 => acc2 = done.flatMap (fun x => if p x = true then [φ x] else []) ∧ r2 = r) xs ⟨rfl, rfl⟩ (fun done x rest acc2 r2 e2 h => ?_) fun acc2 r2 h => by rw [h.1, h.2, e]; exact h1
  obtain ⟨rfl, rfl⟩ := h
  have l : (done.flatMap fun x => if p x = true then [φ x] else []).length ≤ done.length := by
    clear e2 hs h1 e le
    induction done with
    | nil => exact Nat.le_refl _
    | cons a t ih =>
      rw [List.flatMap_cons, List.length_append, List.length_cons]
      split <;> simp only [List.length_cons, List.length_nil] <;> omega
  have ll := congrArg List.length e2
  rw [List.length_append, List.length_cons] at ll
  obtain ⟨a, b⟩ := hs x (done.flatMap fun x => if p x = true then [φ x] else []) (by rw [e2]; simp) (by omega)
  refine ⟨a, ?_⟩
  cases q : gt (enc x) (wipeE r2 vs) with
  | none => rw [q] at b; exact b
  | some r1 =>
    rw [q] at b
    refine wE_mono b (fun acc3 r3 h => ?_) fun _ _ h => h
    obtain ⟨h1, h2⟩ := h
    refine ⟨?_, h2⟩
    rw [h1, List.flatMap_append]
    by_cases c : p x = true
    · simp [c]
    · simp [c]
end
end Ev
namespace Ev
open PySem PySem.Spec PyProof.Rows L2

/-! ### objects, exceptions -/
def wNon (x : RV) (K : Unit → Prop) (_u : Tg K 0 := ⟨⟩) : Prop := match x with
  | .val .non => K ()
  | _ => False
def wObj (c : D) (K : Str → List Str → List D → Prop) (_u : Tg K 0 := ⟨⟩) : Prop := match c with
  | .obj c ns ds => K c ns ds
  | _ => False
def wOb (o : Option Bool) (p q : Unit → Prop) (_u : Tg p q := ⟨⟩) : Prop := match o with
  | some true => p ()
  | some false => q ()
  | none => False
def noErrS : Slot → Bool
  | .err => false
  | _ => true
def unO (i : Nat) (O : SRes → Prop) : SRes → Prop
  | .rt x r => wC (noErr (r.set i .un)) (wV (r.set i .un) fun r => O (.rt x r))
  | .bk r => wC (noErr (r.set i .un)) (wV (r.set i .un) fun r => O (.bk r))
  | .ct r => wC (noErr (r.set i .un)) (wV (r.set i .un) fun r => O (.ct r))
  | _ => False
def tryO (m : Str → Option Bool) (i : Nat) (h : Ex → DenS) (N : Env → Prop) (O : SRes → Prop) : SRes → Prop
  | .exc e r => wOb (m e.cls) (fun _ => wC (noErr r) (wV (r.set i .err) fun r2 => wS (h e r2) (fun r => wC (noErr (r.set i .un)) (wV (r.set i .un) N)) (unO i O))) (fun _ => O (.exc e r))
  | y => O y
def keepO (O : SRes → Prop) : SRes → Prop
  | .exc _ _ => False
  | y => O y
def tryNO (m : Str → Option Bool) (h : DenS) (N : Env → Prop) (O : SRes → Prop) : SRes → Prop
  | .exc e r => wOb (m e.cls) (fun _ => wS (h r) N (keepO O)) (fun _ => O (.exc e r))
  | y => O y
def wErr (s : Option Slot) (K : Unit → Prop) (_u : Tg K 0 := ⟨⟩) : Prop := match s with
  | some .err => K ()
  | _ => False
theorem wNon_non (K : Unit → Prop) : wNon (.val .non) K = K () := rfl
theorem wObj_obj (c : Str) (ns : List Str) (ds : List D) (K : Str → List Str → List D → Prop) : wObj (.obj c ns ds) K = K c ns ds := rfl
theorem wOb_T (p q : Unit → Prop) : wOb (some true) p q = p () := rfl
theorem wOb_F (p q : Unit → Prop) : wOb (some false) p q = q () := rfl
theorem wErr_err (K : Unit → Prop) : wErr (some .err) K = K () := rfl
theorem noErr_nil : noErr [] = true := rfl
theorem noErr_cons (s : Slot) (r : Env) : noErr (s :: r) = (noErrS s && noErr r) := by cases s <;> rfl
theorem noErrS_un : noErrS .un = true := rfl
theorem noErrS_val (d : D) : noErrS (.val d) = true := rfl
theorem noErrS_own (d : D) : noErrS (.own d) = true := rfl
theorem noErrS_ino (d : D) : noErrS (.ino d) = true := rfl
theorem noErrS_oS (d : Option D) : noErrS (oS d) = true := by cases d <;> rfl
theorem tryO_rt (m : Str → Option Bool) (i : Nat) (h : Ex → DenS) (N : Env → Prop) (O : SRes → Prop) (x : RV) (r : Env) : tryO m i h N O (.rt x r) = O (.rt x r) := rfl
theorem tryO_exc (m : Str → Option Bool) (i : Nat) (h : Ex → DenS) (N : Env → Prop) (O : SRes → Prop) (e : Ex) (r : Env) : tryO m i h N O (.exc e r) = wOb (m e.cls) (fun _ => wC (noErr r) (wV (r.set i .err) fun r2 => wS (h e r2) (fun r => wC (noErr (r.set i .un)) (wV (r.set i .un) N)) (unO i O))) (fun _ => O (.exc e r)) := rfl
theorem tryO_bk (m : Str → Option Bool) (i : Nat) (h : Ex → DenS) (N : Env → Prop) (O : SRes → Prop) (r : Env) : tryO m i h N O (.bk r) = O (.bk r) := rfl
theorem tryO_ct (m : Str → Option Bool) (i : Nat) (h : Ex → DenS) (N : Env → Prop) (O : SRes → Prop) (r : Env) : tryO m i h N O (.ct r) = O (.ct r) := rfl
theorem tryNO_rt (m : Str → Option Bool) (h : DenS) (N : Env → Prop) (O : SRes → Prop) (x : RV) (r : Env) : tryNO m h N O (.rt x r) = O (.rt x r) := rfl
theorem tryNO_exc (m : Str → Option Bool) (h : DenS) (N : Env → Prop) (O : SRes → Prop) (e : Ex) (r : Env) : tryNO m h N O (.exc e r) = wOb (m e.cls) (fun _ => wS (h r) N (keepO O)) (fun _ => O (.exc e r)) := rfl
theorem tryNO_bk (m : Str → Option Bool) (h : DenS) (N : Env → Prop) (O : SRes → Prop) (r : Env) : tryNO m h N O (.bk r) = O (.bk r) := rfl
theorem tryNO_ct (m : Str → Option Bool) (h : DenS) (N : Env → Prop) (O : SRes → Prop) (r : Env) : tryNO m h N O (.ct r) = O (.ct r) := rfl
theorem keepO_rt (O : SRes → Prop) (x : RV) (r : Env) : keepO O (.rt x r) = O (.rt x r) := rfl
theorem keepO_bk (O : SRes → Prop) (r : Env) : keepO O (.bk r) = O (.bk r) := rfl
theorem keepO_ct (O : SRes → Prop) (r : Env) : keepO O (.ct r) = O (.ct r) := rfl
theorem unO_rt (i : Nat) (O : SRes → Prop) (x : RV) (r : Env) : unO i O (.rt x r) = wC (noErr (r.set i .un)) (wV (r.set i .un) fun r => O (.rt x r)) := rfl
theorem unO_bk (i : Nat) (O : SRes → Prop) (r : Env) : unO i O (.bk r) = wC (noErr (r.set i .un)) (wV (r.set i .un) fun r => O (.bk r)) := rfl
theorem unO_ct (i : Nat) (O : SRes → Prop) (r : Env) : unO i O (.ct r) = wC (noErr (r.set i .un)) (wV (r.set i .un) fun r => O (.ct r)) := rfl
theorem tabM_hd (x : Str) (ys no : List Str) : tabM (x :: ys) no x = some true := if_pos List.mem_cons_self
theorem fldD_hd (f : Str) (ns : List Str) (d : D) (ds : List D) : fldD (f :: ns) (d :: ds) f = some d := if_pos rfl
section
variable {K : RV → Env → Prop} {X : Ex → Env → Prop} {r : Env} {f fo : Den} {l lk : DenL} {i n m : Nat} {cn : Str} {N : Env → Prop} {O : SRes → Prop}
theorem w_make {F : Fun} {q : List Nat} {dd : List D} : wE (eMake cn F n m q dd l lk r) K X = wE (l r) (fun xs r1 => wE (lk r1) (fun ys r2 => wC (decide (xs.length = n ∧ ys.length = m)) (wT (pick q (.val .non :: (xs ++ (ys ++ dd.map .val)))) fun ds => wF (F (.obj cn [] [] :: ds)) (fun v o => wNon v fun _ => K (.own o) r2) (fun e _ => X e r2))) X) X := by
  unfold eMake
  rw [wE_bind]
  refine wE_ext fun xs r1 => ?_
  rw [wE_bind]
  refine wE_ext fun ys r2 => ?_
  unfold wC wT
  by_cases c : xs.length = n ∧ ys.length = m
  · rw [if_pos c, decide_eq_true c]
    cases takes (pick q (.val .non :: (xs ++ (ys ++ dd.map .val)))) with
    | none => simp [wE, wO]
    | some ds =>
      show wE (madeR r2 (F (.obj cn [] [] :: ds))) K X = (_ ∧ wF (F (.obj cn [] [] :: ds)) (fun v o => wNon v fun _ => K (.own o) r2) (fun e _ => X e r2))
      cases F (.obj cn [] [] :: ds) with
      | exc e o => simp [madeR, wE, wF]
      | stuck => simp [madeR, wE, wF]
      | ret v o =>
        cases v with
        | val d => cases d <;> simp [madeR, wE, wF, wNon]
        | own d => simp [madeR, wE, wF, wNon]
        | bor i => simp [madeR, wE, wF, wNon]
  · rw [if_neg c, decide_eq_false c]; simp [wE]
theorem w_meth {mt : Str} {io : Option Nat} {F : Fun} {p : List Nat} {dd : List D} : wE (eMeth cn mt io F n p dd fo l r) K X = wE (fo r) (fun x r1 => wP r1 (fzv x) fun d => wObj d fun c ns _ => wC (decide (c = cn ∧ mt ∉ ns)) (wE (l r1) (fun xs r2 => wC (decide (xs.length = n)) (wA io r2 (pick p (fzv x :: (xs ++ dd.map .val))) fun ds j => wF (F ds) (fun v o => wV (putO j o r2) fun r => K v r) (fun e o => X e (putO j o r2)))) X)) X := by
  unfold eMeth
  rw [wE_bind, wE_fz]
  refine wE_ext fun x r1 => ?_
  unfold wP
  cases peek r1 (fzv x) with
  | none => rfl
  | some d =>
    cases d with
    | obj c ns ds =>
      show wE (if c = cn ∧ mt ∉ ns then ((l r1).bind fun xs r2 => if xs.length = n then callR io F (pick p (fzv x :: (xs ++ dd.map .val))) r2 else .stuck) else .stuck) K X = wC _ _
      unfold wC
      by_cases c1 : c = cn ∧ mt ∉ ns
      · rw [if_pos c1, decide_eq_true c1, wE_bind]
        simp only [true_and]
        refine wE_ext fun xs r2 => ?_
        by_cases c2 : xs.length = n
        · rw [if_pos c2, decide_eq_true c2, w_callR]; simp
        · rw [if_neg c2, decide_eq_false c2]; simp [wE]
      · rw [if_neg c1, decide_eq_false c1]; simp [wE]
    | _ => rfl
theorem s_fput {ff : Str} : wS (sFldPut i cn ff f r) N O = wE (f r) (fun x r1 => wTk (fzv x) fun d => wP r1 (.bor i) fun c => wObj c fun c ns ds => wC (decide (c = cn ∧ ns.length < 1000)) (wV (putS i (.obj c (putN ff ns) (putV ff d ns ds)) r1) N)) (fun e r => O (.exc e r)) := by
  unfold sFldPut
  rw [wS_then', wE_fz]
  refine wE_ext fun x r1 => ?_
  unfold wTk wP contD
  cases take (fzv x) with
  | none => rfl
  | some d => cases peek r1 (.bor i) with
    | none => rfl
    | some c => cases c with
      | obj c ns ds =>
        show wS (if c = cn ∧ ns.length < 1000 then .nx (putS i (.obj c (putN ff ns) (putV ff d ns ds)) r1) else .stuck) N O = wC _ _
        unfold wC
        by_cases c1 : c = cn ∧ ns.length < 1000
        · rw [if_pos c1, decide_eq_true c1]; simp [wS, wV]
        · rw [if_neg c1, decide_eq_false c1]; simp [wS]
      | _ => rfl
theorem wS_unE {x : SRes} : wS (unE i x) N O = wS x (fun r => wC (noErr (r.set i .un)) (wV (r.set i .un) N)) (unO i O) := by
  have key : ∀ (r : Env) (y : SRes) (P : Prop), wS y N O = P → wS (if noErr (r.set i .un) = true then y else .stuck) N O = wC (noErr (r.set i .un)) P := by
    intro r y P h
    unfold wC
    by_cases c : noErr (r.set i .un) = true
    · rw [if_pos c, c, h]; simp
    · rw [if_neg c, eq_false c]; simp [wS]
  cases x with
  | nx r => exact key r _ _ rfl
  | rt y r => exact key r _ _ rfl
  | bk r => exact key r _ _ rfl
  | ct r => exact key r _ _ rfl
  | exc e r => rfl
  | stuck => rfl
theorem s_try {b : DenS} {mm : Str → Option Bool} {h : Ex → DenS} : wS (sTry b mm i h r) N O = wS (b r) N (tryO mm i h N O) := by
  unfold sTry
  cases b r with
  | exc e r1 =>
    show wS (match mm e.cls with | some true => if noErr r1 = true then unE i (h e (r1.set i .err)) else .stuck | some false => .exc e r1 | none => .stuck) N O = tryO mm i h N O (.exc e r1)
    rw [tryO_exc]
    cases mm e.cls with
    | none => rfl
    | some t => cases t with
      | false => rfl
      | true =>
        show wS (if noErr r1 = true then unE i (h e (r1.set i .err)) else .stuck) N O = wC _ _
        unfold wC
        by_cases c : noErr r1 = true
        · rw [if_pos c, c, wS_unE, eq_self, true_and]; rfl
        · rw [if_neg c, eq_false c]; simp [wS]
  | nx r => rfl
  | rt x r => rfl
  | bk r => rfl
  | ct r => rfl
  | stuck => rfl
theorem s_tryn {b h : DenS} {mm : Str → Option Bool} : wS (sTryN b mm h r) N O = wS (b r) N (tryNO mm h N O) := by
  unfold sTryN
  cases b r with
  | exc e r1 =>
    show wS (match mm e.cls with | some true => keepE (h r1) | some false => .exc e r1 | none => .stuck) N O = tryNO mm h N O (.exc e r1)
    rw [tryNO_exc]
    cases mm e.cls with
    | none => rfl
    | some t => cases t with
      | false => rfl
      | true =>
        show wS (keepE (h r1)) N O = wS (h r1) N (keepO O)
        cases h r1 <;> rfl
  | nx r => rfl
  | rt x r => rfl
  | bk r => rfl
  | ct r => rfl
  | stuck => rfl
theorem w_exf {ex : Ex} {ff : Str} : wE (exF ex cn i ff r) K X = wErr r[i]? fun _ => wC (decide (ex.cls = cn)) (wO (fldD ex.ns ex.fs ff) fun d => K (.val d) r) := by
  unfold exF wErr
  cases r[i]? with
  | none => rfl
  | some s => cases s with
    | err =>
      show wE (if ex.cls = cn then ofO ((fldD ex.ns ex.fs ff).map .val) r else .stuck) K X = wC _ _
      unfold wC
      by_cases c : ex.cls = cn
      · rw [if_pos c, decide_eq_true c, wE_ofO, wO_map]; simp
      · rw [if_neg c, decide_eq_false c]; simp [wE]
    | _ => rfl
end

/-! ### repr -/
structure Rp (b k : Nat) (d : D) : Prop where
  r : ∃ p, toP d = some p ∧ p.leavesShort 13 = true ∧ p.showable = true ∧ p.depth ≤ k ∧ p.bulk ≤ b
theorem Rp.non : Rp 0 0 .non := ⟨⟨.none, rfl, rfl, rfl, Nat.le_refl _, Nat.le_refl _⟩⟩
theorem Rp.bl (b : Bool) : Rp 0 0 (.bl b) := ⟨⟨.bool b, rfl, rfl, rfl, Nat.le_refl _, Nat.le_refl _⟩⟩
theorem Rp.int {i : Int} (h1 : -999999999999 ≤ i) (h2 : i ≤ 999999999999) : Rp 0 0 (.int i) := by
  refine ⟨⟨.int i, rfl, ?_, ?_, Nat.le_refl _, Nat.le_refl _⟩⟩
  · simp only [PyData.leavesShort, decide_eq_true_eq]
    exact PyData.shown_int_le2 h1 h2
  · simp only [PyData.showable, decide_eq_true_eq]
    by_cases z : i.natAbs = 0
    · rw [z]; decide
    · have := (Nat.log2_lt z (k := 40)).mpr (by omega)
      omega
theorem Rp.nat {n : Nat} (h : n ≤ 999999999999) : Rp 0 0 (.int (n : Nat)) := Rp.int (by omega) (by omega)
theorem Rp.mono {b k b' k' : Nat} {d : D} (h : Rp b k d) (h1 : b ≤ b') (h2 : k ≤ k') : Rp b' k' d := by
  obtain ⟨p, q1, q2, q3, q4, q5⟩ := h
  exact ⟨⟨p, q1, q2, q3, by omega, by omega⟩⟩
theorem Rp.all {b k : Nat} : ∀ {ds : List D}, (∀ d ∈ ds, Rp b k d) → ∃ ps, toPs ds = some ps ∧ PyData.leavesShortAll 13 ps = true ∧ PyData.showableAll ps = true ∧ PyData.depthAll ps ≤ k ∧ PyData.bulkAll ps ≤ ds.length * (b + 1)
  | [], _ => ⟨[], rfl, rfl, rfl, Nat.zero_le _, Nat.zero_le _⟩
  | d :: ds, h => by
    obtain ⟨p, q1, q2, q3, q4, q5⟩ := h d List.mem_cons_self
    obtain ⟨ps, p1, p2, p3, p4, p5⟩ := Rp.all (ds := ds) fun x m => h x (List.mem_cons_of_mem _ m)
    refine ⟨p :: ps, ?_, ?_, ?_, ?_, ?_⟩
    · show (toP d).bind (fun p => (toPs ds).map fun ps => p :: ps) = _
      rw [q1, p1]; rfl
    · simp only [PyData.leavesShortAll, q2, p2, Bool.and_self]
    · simp only [PyData.showableAll, q3, p3, Bool.and_self]
    · simp only [PyData.depthAll]; omega
    · simp only [PyData.bulkAll, List.length_cons]
      rw [Nat.add_mul]; omega
theorem Rp.tup {b k : Nat} {ds : List D} (h : ∀ d ∈ ds, Rp b k d) : Rp (ds.length * (b + 1)) (k + 1) (.tup ds) := by
  obtain ⟨ps, p1, p2, p3, p4, p5⟩ := Rp.all h
  refine ⟨⟨.tuple ps, ?_, ?_, ?_, ?_, ?_⟩⟩
  · show (toPs ds).map PyData.tuple = _
    rw [p1]; rfl
  · simpa only [PyData.leavesShort] using p2
  · simpa only [PyData.showable] using p3
  · simp only [PyData.depth]; omega
  · simpa only [PyData.bulk] using p5
theorem Rp.lst {b k : Nat} {ds : List D} (h : ∀ d ∈ ds, Rp b k d) : Rp (ds.length * (b + 1)) (k + 1) (.lst ds) := by
  obtain ⟨ps, p1, p2, p3, p4, p5⟩ := Rp.all h
  refine ⟨⟨.list ps, ?_, ?_, ?_, ?_, ?_⟩⟩
  · show (toPs ds).map PyData.list = _
    rw [p1]; rfl
  · simpa only [PyData.leavesShort] using p2
  · simpa only [PyData.showable] using p3
  · simp only [PyData.depth]; omega
  · simpa only [PyData.bulk] using p5
theorem Rp.ok {b k : Nat} {d : D} (h : Rp b k d) (hb : b ≤ 200000) (hk : k ≤ 64) : ∃ s, reprD [d] = some (.val (.str s)) := by
  obtain ⟨p, q1, q2, q3, q4, q5⟩ := h
  refine ⟨p.shown, ?_⟩
  show (toP d).bind (fun p => if p.showable = true ∧ p.depth ≤ 64 ∧ p.shown.length ≤ most then some (RV.val (.str p.shown)) else none) = _
  rw [q1]
  have l := PyData.shown_le_bulk 13 (by decide) p q2
  have m : most = 4000000 := rfl
  exact if_pos ⟨q3, by omega, by omega⟩
theorem o_eqS (s : Str) : ceqD (.str s) (.str s) = some (.val (.bl true)) := by rw [o_eqs, decide_eq_true rfl]
theorem o_neS (s : Str) : cneD (.str s) (.str s) = some (.val (.bl false)) := by rw [o_nes, decide_eq_true rfl]; rfl
theorem cast_lit1 : ((1 : Nat) : Int) = 1 := rfl
theorem cast_lit0 : ((0 : Nat) : Int) = 0 := rfl
theorem cast_lit2 : ((2 : Nat) : Int) = 2 := rfl
theorem cast_lit3 : ((3 : Nat) : Int) = 3 := rfl
theorem cast_lit4 : ((4 : Nat) : Int) = 4 := rfl
theorem o_enm {α : Type} (e : α → D) (l : List α) : enumD (l.map e) = l.zipIdx.map fun p => D.tup [.int (p.2 : Nat), e p.1] := by
  unfold enumD
  rw [List.mapIdx_eq_zipIdx_map, List.zipIdx_map, List.map_map]
  rfl
end Ev
set_option maxHeartbeats 0
namespace Ev
open PySem PySem.Spec PyProof.Rows L2
def loose0 : List PySem.Str := ["_wall", "__name__", "GraphError", "InvalidNumber", "InvalidGraph", "InvalidText", "TooLarge", "is_integer", "is_between", "mask_of", "MOST_VERTICES_graphs", "is_edge", "wrong_edge", "masks_of", "turned_masks", "edges_of", "graph_of", "look_at_both", "Graph", "MOST_VERTICES_graphtexts", "write_graph", "read_number", "read_edge", "read_size", "read_graph", "_law_box", "_law_draw", "_law_edges", "_law_near", "_law_order"]
def loose1 : List PySem.Str := ["_law_joined", "_law_graph", "_law_mask", "_law_things", "_law_number", "_law_written", "_law_right", "_law_all"]
def loose : List PySem.Str := loose0 ++ loose1
abbrev RowO : PySem.W.OpenRow := PySem.W.OpenLaw.row PySem.Challenge.rw_everypart_k62_texts_written_and_read
abbrev hk : PySem.W.Hook := He.hookX 4 fas dfs [] [] exB
def ob (s : PySem.W.SharedT) : He.AlX := He.obsX 4 fas dfs [] [] exB (HandSHeadRun.getT s)
theorem ob_eq (s : PySem.W.SharedT) : ob s = hk.obs s.abs := He.obsX_eq (HandSHeadRun.getT_eq s)
theorem run (w : World) : HandSHeadRun.RunEq RowO (PySem.W.view RowO.prog [42]) hk ob 6000 loose w := by
  intro os
  kernel_rfl
theorem wd_of {K : Fr} {h : Heap} {mg : Str → Option Value} {w : World} (X : K.In h) (G : h.Ns mainGlobals mg) (c : He.SaysX fas dfs [] [] exB w h K) : Wd1 K mg := by
  have cd : He.SaysD fas dfs K := congrArg (fun z : He.AlT => z.1) c.t
  exact ⟨fun i f e => cd.fact i e, fun i d e => cd.def_ i e, fun i x e => He.glo_ok X G (cd.fact i e), fun i x e => He.free_ok X G (cd.fact i e), fun i x n e => He.int_ok X G (cd.fact i e), c.more⟩
open PySem.W in
theorem holds_of (val : ∀ ns : List Int, ns.length ≤ 63 → (∀ z ∈ ns, Builtin.Int.intBits z ≤ 1048576) → ∃ o, F_law [.scr ns] = .ret (.val (.bl true)) o) : PySem.Challenge.rw_everypart_k62_texts_written_and_read.Holds := by
  w_on; o_law
  refine HandSHeadRun.head_any (r := RowO) (q := view RowO.prog [42]) (H := hk) (ob := ob) (M := 6000) (loose := loose) (d := HandSHeadRun.topDef RowO.prog 42) (kwd := []) ob_eq
    (by kernel_rfl) (fun s => by kernel_rfl) run (by kernel_rfl) (by kernel_rfl) (by kernel_rfl) (by rfl) (by first | assumption | decide +kernel) (by decide +kernel) ⟨rfl, rfl, rfl, rfl, rfl, by decide +kernel⟩ ?hw ?hc
  case hw => w_witness2
  case hc =>
    refine walkG (l := PySem.Challenge.rw_everypart_k62_texts_written_and_read) (n := 63) (k := 10) (x := "script") rfl (by decide) (by kernel_rfl) ⟨rfl, by decide, by decide⟩ fun w mg f h Y G m0 => ?_
    obtain ⟨K, X, c⟩ := Y
    have D := wd_of X G c
    have en : (HandSHeadRun.topDef RowO.prog 42).name = ("law" : PySem.Str) := by kernel_rfl
    rw [en, D.gl 49 "law" rfl] at m0
    cases m0
    obtain ⟨fd, Fd⟩ := D.df 25 D_law rfl
    exact ⟨K, fd, F_law, X, fun s v => FunD.bindsA (ps := ["script"]) Fd (fun _ _ _ _ _ _ us hl => match us, hl with | [_], _ => rfl) s [v] rfl, val, fun b _ _ => ok_law D Fd⟩
end Ev
set_option maxHeartbeats 4000000
namespace Ev
open PySem PySem.Spec PyProof.Rows L2
local macro_rules | `(tactic| simp! only [$as,*]) => `(tactic| simp -dsimp -implicitDefEqProofs only [↓w_var, ↓w_c, ↓w_bin, ↓w_un, ↓w_nil, ↓w_cons, ↓w_fn, ↓w_tup, ↓w_lst, ↓w_tbl, ↓w_tof, ↓w_tnot, ↓w_tand, ↓w_tor, ↓w_ofb, ↓w_and, ↓w_or, ↓w_not, ↓w_if, ↓w_chain, ↓w_call, ↓w_mut, ↓w_alt, ↓w_iof, ↓w_ifn, ↓w_ien, ↓w_comp, ↓w_elt, ↓w_ctest, ↓w_cfrom, ↓w_yes, ↓w_gnm, ↓w_gtp, ↓w_gsnil, ↓w_gscons, ↓w_gslen, ↓w_sl, ↓w_pnone, ↓w_psome, ↓wInt_int, ↓w_sl3, ↓s_nx, ↓s_bk, ↓s_ct, ↓s_retN, ↓s_sq, ↓s_dr, ↓s_rt, ↓s_if, ↓s_st, ↓s_fx, ↓s_fz, ↓s_asg, ↓s_fo, ↓s_for0, ↓s_for1, ↓s_putw, ↓s_aug, ↓s_raise, wV_eq, ↓wO_some, ↓wF_ret, ↓wF_exc, ↓wIf_T, ↓wIf_F, ↓wIf_not, ↓wC_T, ↓wTk_val, ↓wTk_own, ↓wP_val, ↓wP_own, ↓wP_bor, wPs_own, wPs_ino, wSl_val, wSl_own, wSl_ino, ↓wBl_bl, ↓wVal_val, ↓wBor_bor, ↓wT_nil, ↓wT_cons, ↓wPL_nil, ↓wPL_cons, ↓wA_nil, ↓wA_none, ↓wA_zero, ↓wA_succ, ↓wSetR_val, ↓wSetR_own, ↓wRet_val, ↓wRet_own, ↓wRet_bor, wRetS_own, nIno_un, nIno_val, nIno_own, nIno_oS, ↓wOut_none, ↓wOut_some, wOutS_ino, ↓finK_rt, ↓finK_exc, ↓forO_ct, ↓forO_bk, ↓forO_rt, ↓forO_exc, wAlt_val, wAlt_own, wAlt_ino, ↓wLs_lst, fzv_val, fzv_own, fzv_bor, putS_eq, putSl_own, putSl_ino, putO_none, putO_some, pick_nil, pick_cons, pickC_some, slots_nil, slots_none, slots_zero, slots_succ, wipe_nil, wipe_cons, back_nil, back_cons, backC_some, vs_nil, vs_cons, plainB_un, plainB_val, plainB_oS, wFrz_own, wFrz_val, wFrz_un, wAug_val, o_add, ↓o_addlm, ↓o_addl, ↓o_addt, o_int, ↓o_mul, ↓o_fdiv, ↓o_mod, o_shrN, ↓o_shl1, bnN, bn1, boN, o_neg, o_inv, o_eq, o_ne, o_eqs, o_nes, o_eqb, o_neb, o_lt, o_le, o_gt, o_ge, o_isN, o_isI, o_isT, o_isL, o_noN, o_noI, o_noT, o_noL, o_trb, o_tri, ↓o_idlm, ↓o_idtm, ↓o_idlc, ↓o_idtc, ↓o_setm, ↓o_setc, ↓o_appm, ↓o_app, ↓o_popm, o_lenlm, o_lentm, o_lenl, o_lent, o_abs, o_int1, o_max2, o_min2, o_bits, o_tupl, o_tupt, o_lstl, o_lstt, o_itl, o_itt, ↓o_rng, ↓o_rng2, ↓o_tupr, ↓wIx_nat, ↓wIx_0, ↓wIx_1, ↓wIx_2, ↓wIx_3, ↓wIx_m1, ↓wIx_m2, o_sumN, o_any, o_all, List.getElem?_cons_zero, List.getElem?_cons_succ, List.set_cons_zero, List.set_cons_succ, List.length_cons, List.length_nil, List.cons_append, List.nil_append, List.append_nil, List.map_nil, List.replicate_succ, List.replicate_zero, Nat.reduceAdd, Nat.reduceSub, Nat.reduceLeDiff, Nat.reduceLT, Int.reduceLT, Int.reduceLE, Int.reduceEq, Int.reduceAdd, Int.reduceSub, Int.reduceNeg, Nat.reduceEqDiff, decide_true, and_self, and_true, true_and, Nat.zero_add, mostE, List.length_map, List.length_range, ↓w_make, ↓w_meth, ↓s_fput, ↓s_try, ↓s_tryn, ↓w_exf, ↓wNon_non, ↓wObj_obj, wOb_T, wOb_F, wErr_err, noErr_nil, noErr_cons, noErrS_un, noErrS_val, noErrS_own, noErrS_ino, noErrS_oS, ↓tryO_rt, ↓tryO_exc, ↓tryO_bk, ↓tryO_ct, ↓tryNO_rt, ↓tryNO_exc, ↓tryNO_bk, ↓tryNO_ct, ↓keepO_rt, ↓keepO_bk, ↓keepO_ct, ↓unO_rt, ↓unO_bk, ↓unO_ct, tabM_hd, fldD_hd, cast_lit0, cast_lit1, cast_lit2, cast_lit3, cast_lit4, Bool.not_true, Bool.not_false, Bool.and_self, Bool.and_true, Bool.true_and, decide_false, reduceCtorEq, o_enm, $as,*])
local macro_rules | `(tactic| simp! only [$as,*] at $h:ident) => `(tactic| simp -dsimp -implicitDefEqProofs only [↓w_var, ↓w_c, ↓w_bin, ↓w_un, ↓w_nil, ↓w_cons, ↓w_fn, ↓w_tup, ↓w_lst, ↓w_tbl, ↓w_tof, ↓w_tnot, ↓w_tand, ↓w_tor, ↓w_ofb, ↓w_and, ↓w_or, ↓w_not, ↓w_if, ↓w_chain, ↓w_call, ↓w_mut, ↓w_alt, ↓w_iof, ↓w_ifn, ↓w_ien, ↓w_comp, ↓w_elt, ↓w_ctest, ↓w_cfrom, ↓w_yes, ↓w_gnm, ↓w_gtp, ↓w_gsnil, ↓w_gscons, ↓w_gslen, ↓w_sl, ↓w_pnone, ↓w_psome, ↓wInt_int, ↓w_sl3, ↓s_nx, ↓s_bk, ↓s_ct, ↓s_retN, ↓s_sq, ↓s_dr, ↓s_rt, ↓s_if, ↓s_st, ↓s_fx, ↓s_fz, ↓s_asg, ↓s_fo, ↓s_for0, ↓s_for1, ↓s_putw, ↓s_aug, ↓s_raise, wV_eq, ↓wO_some, ↓wF_ret, ↓wF_exc, ↓wIf_T, ↓wIf_F, ↓wIf_not, ↓wC_T, ↓wTk_val, ↓wTk_own, ↓wP_val, ↓wP_own, ↓wP_bor, wPs_own, wPs_ino, wSl_val, wSl_own, wSl_ino, ↓wBl_bl, ↓wVal_val, ↓wBor_bor, ↓wT_nil, ↓wT_cons, ↓wPL_nil, ↓wPL_cons, ↓wA_nil, ↓wA_none, ↓wA_zero, ↓wA_succ, ↓wSetR_val, ↓wSetR_own, ↓wRet_val, ↓wRet_own, ↓wRet_bor, wRetS_own, nIno_un, nIno_val, nIno_own, nIno_oS, ↓wOut_none, ↓wOut_some, wOutS_ino, ↓finK_rt, ↓finK_exc, ↓forO_ct, ↓forO_bk, ↓forO_rt, ↓forO_exc, wAlt_val, wAlt_own, wAlt_ino, ↓wLs_lst, fzv_val, fzv_own, fzv_bor, putS_eq, putSl_own, putSl_ino, putO_none, putO_some, pick_nil, pick_cons, pickC_some, slots_nil, slots_none, slots_zero, slots_succ, wipe_nil, wipe_cons, back_nil, back_cons, backC_some, vs_nil, vs_cons, plainB_un, plainB_val, plainB_oS, wFrz_own, wFrz_val, wFrz_un, wAug_val, o_add, ↓o_addlm, ↓o_addl, ↓o_addt, o_int, ↓o_mul, ↓o_fdiv, ↓o_mod, o_shrN, ↓o_shl1, bnN, bn1, boN, o_neg, o_inv, o_eq, o_ne, o_eqs, o_nes, o_eqb, o_neb, o_lt, o_le, o_gt, o_ge, o_isN, o_isI, o_isT, o_isL, o_noN, o_noI, o_noT, o_noL, o_trb, o_tri, ↓o_idlm, ↓o_idtm, ↓o_idlc, ↓o_idtc, ↓o_setm, ↓o_setc, ↓o_appm, ↓o_app, ↓o_popm, o_lenlm, o_lentm, o_lenl, o_lent, o_abs, o_int1, o_max2, o_min2, o_bits, o_tupl, o_tupt, o_lstl, o_lstt, o_itl, o_itt, ↓o_rng, ↓o_rng2, ↓o_tupr, ↓wIx_nat, ↓wIx_0, ↓wIx_1, ↓wIx_2, ↓wIx_3, ↓wIx_m1, ↓wIx_m2, o_sumN, o_any, o_all, List.getElem?_cons_zero, List.getElem?_cons_succ, List.set_cons_zero, List.set_cons_succ, List.length_cons, List.length_nil, List.cons_append, List.nil_append, List.append_nil, List.map_nil, List.replicate_succ, List.replicate_zero, Nat.reduceAdd, Nat.reduceSub, Nat.reduceLeDiff, Nat.reduceLT, Int.reduceLT, Int.reduceLE, Int.reduceEq, Int.reduceAdd, Int.reduceSub, Int.reduceNeg, Nat.reduceEqDiff, decide_true, and_self, and_true, true_and, Nat.zero_add, mostE, List.length_map, List.length_range, ↓w_make, ↓w_meth, ↓s_fput, ↓s_try, ↓s_tryn, ↓w_exf, ↓wNon_non, ↓wObj_obj, wOb_T, wOb_F, wErr_err, noErr_nil, noErr_cons, noErrS_un, noErrS_val, noErrS_own, noErrS_ino, noErrS_oS, ↓tryO_rt, ↓tryO_exc, ↓tryO_bk, ↓tryO_ct, ↓tryNO_rt, ↓tryNO_exc, ↓tryNO_bk, ↓tryNO_ct, ↓keepO_rt, ↓keepO_bk, ↓keepO_ct, ↓unO_rt, ↓unO_bk, ↓unO_ct, tabM_hd, fldD_hd, cast_lit0, cast_lit1, cast_lit2, cast_lit3, cast_lit4, Bool.not_true, Bool.not_false, Bool.and_self, Bool.and_true, Bool.true_and, decide_false, reduceCtorEq, o_enm, $as,*] at $h:ident)
/-! ### _law_things -/
theorem ceq_int (i j : Int) : ceqD (.int i) (.int j) = some (.val (.bl (decide (i = j)))) := rfl
theorem shr_int (i j : Int) (h : 0 ≤ j) : shrD (.int i) (.int j) = some (.val (.int (i / 2 ^ j.toNat))) := if_pos h
def bitD (m : Int) : D → List D
  | .int k => if Builtin.bitAnd (m / 2 ^ k.toNat) 1 = 1 then [.int k] else []
  | _ => []
theorem big_ok {i : Int} (h1 : -(2 ^ 62) ≤ i) (h2 : i < 2 ^ 62) : big62 i = true := by unfold big62; rw [decide_eq_true h1, decide_eq_true h2]; rfl
theorem range1_ok {j : Int} (h1 : -(2 ^ 62) ≤ j) (h2 : j < 2 ^ 62) : range1D [.int j] = some (rangeD 0 j) := if_pos (big_ok h1 h2)
theorem sFor1_R {gt : DenG} {f : DenS} (R : Env → Prop) : ∀ (items : List D) (r : Env), R r → (∀ d ∈ items, ∀ r, R r → ∃ r1 r2, gt d r = some r1 ∧ (f r1 = .nx r2 ∨ f r1 = .ct r2 ∨ f r1 = .bk r2) ∧ R r2) → ∃ r', sFor1 gt f items r = .nx r' ∧ R r'
  | [], r, h, _ => ⟨r, rfl, h⟩
  | d :: t, r, h, hs => by
    obtain ⟨r1, r2, e1, e2, h2⟩ := hs d List.mem_cons_self r h
    have u : sFor1 gt f (d :: t) r = (match f r1 with | .nx r2 => sFor1 gt f t r2 | .ct r2 => sFor1 gt f t r2 | .bk r2 => .nx r2 | x => x) := by
      show (match gt d r with | none => SRes.stuck | some r1 => match f r1 with | .nx r2 => sFor1 gt f t r2 | .ct r2 => sFor1 gt f t r2 | .bk r2 => .nx r2 | x => x) = _
      rw [e1]
    rw [u]
    rcases e2 with e2 | e2 | e2
    · rw [e2]; exact sFor1_R R t r2 h2 fun d' m => hs d' (List.mem_cons_of_mem _ m)
    · rw [e2]; exact sFor1_R R t r2 h2 fun d' m => hs d' (List.mem_cons_of_mem _ m)
    · rw [e2]; exact ⟨r2, rfl, h2⟩

theorem idx_int {cs : List Int} {k : Int} (h0 : 0 ≤ k) (h1 : k < cs.length) : ∃ c : Int, idxD (.lst (cs.map D.int)) (.int k) = some (.val (.int c)) := by
  obtain ⟨n, rfl⟩ := Int.eq_ofNat_of_zero_le h0
  have hn : n < cs.length := by omega
  refine ⟨cs[n], ?_⟩
  have e : atI (cs.map D.int) ((n : Nat) : Int) = some (D.int cs[n]) := atI_nat (by rw [List.getElem?_map, List.getElem?_eq_getElem hn]; rfl)
  show (atI (cs.map D.int) ((n : Nat) : Int)).map RV.val = _
  rw [e]; rfl
theorem mod_int {i j : Int} (h : j ≠ 0) : modD (.int i) (.int j) = some (.val (.int (i.fmod j))) := if_pos h
theorem fdiv_int {i j : Int} (h : j ≠ 0) (h2 : j.natAbs.log2 < 9000) : fdivD (.int i) (.int j) = some (.val (.int (i.fdiv j))) := if_pos ⟨h, h2⟩
theorem mul_int {i j : Int} (h : i.natAbs < 2 ^ 64 ∨ j.natAbs < 2 ^ 64) : mulD (.int i) (.int j) = some (.val (.int (i * j))) := by
  refine if_pos ?_
  unfold mulOk
  rcases h with h | h
  · rw [decide_eq_true h]; rfl
  · rw [decide_eq_true h, Bool.true_or, Bool.or_true]

abbrev bx (cs : List Int) (i j k : Int) : D := .lst [.lst (cs.map D.int), .int i, .int j, .int k]
def IsBox (b : D) : Prop := ∃ (cs : List Int) (i j k : Int), b = bx cs i j k ∧ 0 ≤ i ∧ 0 ≤ j ∧ 0 ≤ k ∧ cs.length ≤ 63
abbrev E0 (cs : List Int) (n i j k : Int) (s3 s4 s5 s6 : Slot) : Env := [.ino (bx cs i j k), .val (.int n), .val (.lst (cs.map D.int)), s3, s4, s5, s6]
def Plain (s : Slot) : Prop := s = .un ∨ ∃ d, s = .val d
theorem log_small {j : Int} (h : 0 ≤ j) (h2 : j < 2 ^ 60) : j.natAbs.log2 < 9000 := by
  have e : j.natAbs < 2 ^ 60 := by
    have : (2 : Int) ^ 60 = ((2 ^ 60 : Nat) : Int) := by decide
    omega
  by_cases z : j.natAbs = 0
  · rw [z]; decide
  · have := (Nat.log2_lt z).mpr e
    omega

def drawBody : DenS := sIf (tAnd' (tBl (eBin ceqD (eBin idxD (eVar 0) (eC (.int 2))) (eC (.int 0)))) (tBl (eBin cltD (eBin idxD (eVar 0) (eC (.int 3))) (eFn lenD (dCons (eVar 2) (dNil)))))) (sSeq (sIf (tBl (eBin cgeD (eFn absD (dCons (eBin idxD (eVar 2) (eBin idxD (eVar 0) (eC (.int 3)))) (dNil))) (eBin powD (eC (.int 10)) (eC (.int 18))))) (sPut 0 (eC (.int 2)) (eFn absD (dCons (eBin idxD (eVar 2) (eBin idxD (eVar 0) (eC (.int 3)))) (dNil)))) (sNx)) (sPut 0 (eC (.int 3)) (eBin addD (eBin idxD (eVar 0) (eC (.int 3))) (eC (.int 1))))) (sBk)
def DrawR (cs : List Int) (n i : Int) (r : Env) : Prop := ∃ j k s3, r = E0 cs n i j k s3 .un .un .un ∧ 0 ≤ j ∧ 0 ≤ k ∧ Plain s3
theorem draw_turn (cs : List Int) (n i : Int) (d : D) (r : Env) (h : DrawR cs n i r) : ∃ r1 r2, gNm 3 d r = some r1 ∧ (drawBody r1 = .nx r2 ∨ drawBody r1 = .ct r2 ∨ drawBody r1 = .bk r2) ∧ DrawR cs n i r2 := by
  obtain ⟨j, k, s3, rfl, hj, hk, hs⟩ := h
  unfold drawBody
  have g : gNm 3 d (E0 cs n i j k s3 .un .un .un) = some (E0 cs n i j k (.val d) .un .un .un) := by
    rcases hs with rfl | ⟨d', rfl⟩ <;> rfl
  have t : tAnd' (tBl (eBin ceqD (eBin idxD (eVar 0) (eC (.int 2))) (eC (.int 0)))) (tBl (eBin cltD (eBin idxD (eVar 0) (eC (.int 3))) (eFn lenD (dCons (eVar 2) (dNil))))) (E0 cs n i j k (.val d) .un .un .un)
      = .ok (decide (j = 0) && decide (k < ((cs.map D.int).length : Nat))) (E0 cs n i j k (.val d) .un .un .un) := by
    repeat' (first | exact v_val rfl | exact v_own rfl | exact v_ino rfl | exact v_c | exact v_nil | apply v_bin | apply v_un | apply v_cons | apply v_fn | apply v_tup | apply v_lst | apply vt_bl | apply vt_not | apply vt_and | apply vt_or | apply vi_of | apply vi_fn | apply v_comp | apply s_seq | apply s_fix | apply s_set | apply s_drop | apply c_elt | with_reducible assumption | rfl)
  by_cases c : (decide (j = 0) && decide (k < ((cs.map D.int).length : Nat))) = true
  · have c2 := c
    rw [Bool.and_eq_true, decide_eq_true_eq, decide_eq_true_eq] at c2
    obtain ⟨rfl, hkl⟩ := c2
    rw [c] at t
    rw [List.length_map] at hkl
    obtain ⟨x, hx⟩ := idx_int hk hkl
    have ab : eFn absD (dCons (eBin idxD (eVar 2) (eBin idxD (eVar 0) (eC (.int 3)))) (dNil)) (E0 cs n i 0 k (.val d) .un .un .un) = .ok (.val (.int (if x < 0 then -x else x))) (E0 cs n i 0 k (.val d) .un .un .un) := by
      repeat' (first | exact v_val rfl | exact v_own rfl | exact v_ino rfl | exact v_c | exact v_nil | apply v_bin | apply v_un | apply v_cons | apply v_fn | apply v_tup | apply v_lst | apply vt_bl | apply vt_not | apply vt_and | apply vt_or | apply vi_of | apply vi_fn | apply v_comp | apply s_seq | apply s_fix | apply s_set | apply s_drop | apply c_elt | with_reducible assumption | rfl)
    have tt : tBl (eBin cgeD (eFn absD (dCons (eBin idxD (eVar 2) (eBin idxD (eVar 0) (eC (.int 3)))) (dNil))) (eBin powD (eC (.int 10)) (eC (.int 18)))) (E0 cs n i 0 k (.val d) .un .un .un) = .ok (decide ((10 : Int) ^ 18 ≤ (if x < 0 then -x else x))) (E0 cs n i 0 k (.val d) .un .un .un) := by
      refine vt_bl (v_bin ab (r2 := E0 cs n i 0 k (.val d) .un .un .un) (y := .val (.int (10 ^ 18))) ?_ rfl rfl rfl)
      repeat' (first | exact v_val rfl | exact v_own rfl | exact v_ino rfl | exact v_c | exact v_nil | apply v_bin | apply v_un | apply v_cons | apply v_fn | apply v_tup | apply v_lst | apply vt_bl | apply vt_not | apply vt_and | apply vt_or | apply vi_of | apply vi_fn | apply v_comp | apply s_seq | apply s_fix | apply s_set | apply s_drop | apply c_elt | with_reducible assumption | rfl)
    by_cases cc : (10 : Int) ^ 18 ≤ (if x < 0 then -x else x)
    · rw [decide_eq_true cc] at tt
      refine ⟨_, E0 cs n i (if x < 0 then -x else x) (k + 1) (.val d) .un .un .un, g, .inl (s_ifT t (s_seq (r1 := E0 cs n i (if x < 0 then -x else x) k (.val d) .un .un .un) (s_ifT tt ?_) ?_)), _, _, _, rfl, ?_, by omega, .inr ⟨_, rfl⟩⟩
      · exact s_put ab ⟨_, rfl⟩ v_c rfl rfl rfl rfl
      · refine s_put (x := .val (.int (k + 1))) (r1 := E0 cs n i (if x < 0 then -x else x) k (.val d) .un .un .un) ?_ ⟨_, rfl⟩ v_c rfl rfl rfl rfl
        repeat' (first | exact v_val rfl | exact v_own rfl | exact v_ino rfl | exact v_c | exact v_nil | apply v_bin | apply v_un | apply v_cons | apply v_fn | apply v_tup | apply v_lst | apply vt_bl | apply vt_not | apply vt_and | apply vt_or | apply vi_of | apply vi_fn | apply v_comp | apply s_seq | apply s_fix | apply s_set | apply s_drop | apply c_elt | with_reducible assumption | rfl)
      · split <;> omega
    · rw [decide_eq_false cc] at tt
      refine ⟨_, E0 cs n i 0 (k + 1) (.val d) .un .un .un, g, .inl (s_ifT t (s_seq (r1 := E0 cs n i 0 k (.val d) .un .un .un) (s_ifF tt rfl) ?_)), _, _, _, rfl, by omega, by omega, .inr ⟨_, rfl⟩⟩
      refine s_put (x := .val (.int (k + 1))) (r1 := E0 cs n i 0 k (.val d) .un .un .un) ?_ ⟨_, rfl⟩ v_c rfl rfl rfl rfl
      repeat' (first | exact v_val rfl | exact v_own rfl | exact v_ino rfl | exact v_c | exact v_nil | apply v_bin | apply v_un | apply v_cons | apply v_fn | apply v_tup | apply v_lst | apply vt_bl | apply vt_not | apply vt_and | apply vt_or | apply vi_of | apply vi_fn | apply v_comp | apply s_seq | apply s_fix | apply s_set | apply s_drop | apply c_elt | with_reducible assumption | rfl)
  · have c' : (decide (j = 0) && decide (k < ((cs.map D.int).length : Nat))) = false := by revert c; cases (decide (j = 0) && decide (k < ((cs.map D.int).length : Nat))) <;> simp
    rw [c'] at t
    exact ⟨_, _, g, .inr (.inr (s_ifF t rfl)), _, _, _, rfl, hj, hk, .inr ⟨_, rfl⟩⟩
theorem draw_loop (cs : List Int) (n i j k : Int) (hj : 0 ≤ j) (hk : 0 ≤ k) (m : Int) : ∃ r', sFor1 (gNm 3) drawBody (rangeD 0 m) (E0 cs n i j k .un .un .un .un) = .nx r' ∧ DrawR cs n i r' :=
  sFor1_R (DrawR cs n i) _ _ ⟨j, k, .un, rfl, hj, hk, .inl rfl⟩ fun d _ r h => draw_turn cs n i d r h
theorem fdiv_nonneg {a b : Int} (h : 0 ≤ a) (h2 : 0 < b) : 0 ≤ a.fdiv b := by rw [Int.fdiv_eq_ediv_of_nonneg _ (by omega)]; exact Int.ediv_nonneg h (by omega)
theorem fmod_lt {a b : Int} (h2 : 0 < b) : 0 ≤ a.fmod b ∧ a.fmod b < b := by rw [Int.fmod_eq_emod_of_nonneg _ (by omega)]; exact ⟨Int.emod_nonneg _ (by omega), Int.emod_lt_of_pos _ h2⟩
theorem small_abs {a : Int} (h : 0 ≤ a) (h2 : a < 2 ^ 60) : a.natAbs < 2 ^ 64 := by
  have : (2 : Int) ^ 60 = 1152921504606846976 := by decide
  have : (2 : Nat) ^ 64 = 18446744073709551616 := by decide
  omega

theorem small31 {a : Int} (h : 0 ≤ a) (h2 : a < 2147483648) : a.natAbs < 2 ^ 64 := by
  have : (2 : Nat) ^ 64 = 18446744073709551616 := by decide
  omega
theorem range_len (xs : List D) (h : xs.length ≤ 1000) : range1D [.int (xs.length : Nat)] = some (rangeD 0 (xs.length : Nat)) := by
  have h62 : (2 : Int) ^ 62 = 4611686018427387904 := by decide
  exact range1_ok (by omega) (by omega)
theorem F_draw (b : D) (hb : IsBox b) (n : Int) (h : 1 ≤ n) (hn : n < 2 ^ 60) : ∃ z b', IsBox b' ∧ 0 ≤ z ∧ z < n ∧ F__law_draw [b, .int n] = .ret (.val (.int z)) b' := by
  obtain ⟨cs, i, j, k, rfl, hi, hj, hk, hl⟩ := hb
  have n0 : n ≠ 0 := by omega
  have nl := log_small (by omega) hn
  have l2 : (cs.map D.int).length = cs.length := List.length_map ..
  obtain ⟨r', e, j', k', s3, rfl, hj', hk', hs3⟩ := draw_loop cs n (i + 1) j k hj hk ((cs.map D.int).length : Nat)
  have hd := mod_int (i := j') n0
  have hq := fdiv_int (i := j') n0 nl
  have fm := fmod_lt (a := j') (b := n) (by omega)
  have rg := range_len (cs.map D.int) (by omega)
  -- the tail of the def
  by_cases c : 0 < j'
  · refine ⟨j'.fmod n, bx cs (i + 1) (j'.fdiv n) k', ⟨cs, _, _, _, rfl, by omega, fdiv_nonneg hj' (by omega), hk', hl⟩, fm.1, fm.2, run_rt (r := E0 cs n (i + 1) (j'.fdiv n) k' s3 .un .un (.val (.int (j'.fmod n)))) ?_ rfl⟩
    unfold d__law_draw
    refine s_seq (r1 := E0 cs n i j k .un .un .un .un) (by repeat' (first | exact v_val rfl | exact v_own rfl | exact v_ino rfl | exact v_c | exact v_nil | apply v_bin | apply v_un | apply v_cons | apply v_fn | apply v_tup | apply v_lst | apply vt_bl | apply vt_not | apply vt_and | apply vt_or | apply vi_of | apply vi_fn | apply v_comp | apply s_seq | apply s_fix | apply s_set | apply s_drop | apply c_elt | with_reducible assumption | rfl)) ?_
    refine s_seq (r1 := E0 cs n (i + 1) j k .un .un .un .un) (s_put (x := .val (.int (i + 1))) (r1 := E0 cs n i j k .un .un .un .un) (by repeat' (first | exact v_val rfl | exact v_own rfl | exact v_ino rfl | exact v_c | exact v_nil | apply v_bin | apply v_un | apply v_cons | apply v_fn | apply v_tup | apply v_lst | apply vt_bl | apply vt_not | apply vt_and | apply vt_or | apply vi_of | apply vi_fn | apply v_comp | apply s_seq | apply s_fix | apply s_set | apply s_drop | apply c_elt | with_reducible assumption | rfl)) ⟨_, rfl⟩ v_c rfl rfl rfl rfl) ?_
    refine s_seq (s_for (r1 := E0 cs n (i + 1) j k .un .un .un .un) (vi_fn (v_cons (v_fn (v_cons (v_val rfl) v_nil) rfl rfl) v_nil) rfl rg) e) ?_
    have t : tBl (eBin cgtD (eBin idxD (eVar 0) (eC (.int 2))) (eC (.int 0))) (E0 cs n (i + 1) j' k' s3 .un .un .un) = .ok true (E0 cs n (i + 1) j' k' s3 .un .un .un) := by
      rw [← decide_eq_true c]
      repeat' (first | exact v_val rfl | exact v_own rfl | exact v_ino rfl | exact v_c | exact v_nil | apply v_bin | apply v_un | apply v_cons | apply v_fn | apply v_tup | apply v_lst | apply vt_bl | apply vt_not | apply vt_and | apply vt_or | apply vi_of | apply vi_fn | apply v_comp | apply s_seq | apply s_fix | apply s_set | apply s_drop | apply c_elt | with_reducible assumption | rfl)
    unfold sSeq
    rw [s_ifT (s := .rt (.val (.int (j'.fmod n))) (E0 cs n (i + 1) (j'.fdiv n) k' s3 .un .un (.val (.int (j'.fmod n))))) t ?_]
    refine s_seq (r1 := E0 cs n (i + 1) j' k' s3 .un .un (.val (.int (j'.fmod n)))) (by repeat' (first | exact v_val rfl | exact v_own rfl | exact v_ino rfl | exact v_c | exact v_nil | apply v_bin | apply v_un | apply v_cons | apply v_fn | apply v_tup | apply v_lst | apply vt_bl | apply vt_not | apply vt_and | apply vt_or | apply vi_of | apply vi_fn | apply v_comp | apply s_seq | apply s_fix | apply s_set | apply s_drop | apply c_elt | with_reducible assumption | rfl)) ?_
    refine s_seq (r1 := E0 cs n (i + 1) (j'.fdiv n) k' s3 .un .un (.val (.int (j'.fmod n)))) (s_put (x := .val (.int (j'.fdiv n))) (r1 := E0 cs n (i + 1) j' k' s3 .un .un (.val (.int (j'.fmod n)))) (by repeat' (first | exact v_val rfl | exact v_own rfl | exact v_ino rfl | exact v_c | exact v_nil | apply v_bin | apply v_un | apply v_cons | apply v_fn | apply v_tup | apply v_lst | apply vt_bl | apply vt_not | apply vt_and | apply vt_or | apply vi_of | apply vi_fn | apply v_comp | apply s_seq | apply s_fix | apply s_set | apply s_drop | apply c_elt | with_reducible assumption | rfl)) ⟨_, rfl⟩ v_c rfl rfl rfl rfl) ?_
    exact s_ret (v_val rfl)
  · have t : tBl (eBin cgtD (eBin idxD (eVar 0) (eC (.int 2))) (eC (.int 0))) (E0 cs n (i + 1) j' k' s3 .un .un .un) = .ok false (E0 cs n (i + 1) j' k' s3 .un .un .un) := by
      rw [← decide_eq_false c]
      repeat' (first | exact v_val rfl | exact v_own rfl | exact v_ino rfl | exact v_c | exact v_nil | apply v_bin | apply v_un | apply v_cons | apply v_fn | apply v_tup | apply v_lst | apply vt_bl | apply vt_not | apply vt_and | apply vt_or | apply vi_of | apply vi_fn | apply v_comp | apply s_seq | apply s_fix | apply s_set | apply s_drop | apply c_elt | with_reducible assumption | rfl)
    obtain ⟨x, hx⟩ : ∃ x : Int, sIf (tBl (eBin cgtD (eFn lenD (dCons (eVar 2) (dNil))) (eC (.int 0)))) (sFix 4 (eFn absD (dCons (eBin idxD (eVar 2) (eBin modD (eFn intD1 (dCons (eBin idxD (eVar 0) (eC (.int 1))) (dNil))) (eFn lenD (dCons (eVar 2) (dNil))))) (dNil)))) (sNx)
        (E0 cs n (i + 1) j' k' s3 (.val (.int 0)) .un .un) = .nx (E0 cs n (i + 1) j' k' s3 (.val (.int x)) .un .un) ∧ 0 ≤ x := by
      by_cases z : (0 : Int) < ((cs.map D.int).length : Nat)
      · have t1 : tBl (eBin cgtD (eFn lenD (dCons (eVar 2) (dNil))) (eC (.int 0))) (E0 cs n (i + 1) j' k' s3 (.val (.int 0)) .un .un) = .ok true (E0 cs n (i + 1) j' k' s3 (.val (.int 0)) .un .un) := by
          rw [← decide_eq_true z]
          repeat' (first | exact v_val rfl | exact v_own rfl | exact v_ino rfl | exact v_c | exact v_nil | apply v_bin | apply v_un | apply v_cons | apply v_fn | apply v_tup | apply v_lst | apply vt_bl | apply vt_not | apply vt_and | apply vt_or | apply vi_of | apply vi_fn | apply v_comp | apply s_seq | apply s_fix | apply s_set | apply s_drop | apply c_elt | with_reducible assumption | rfl)
        have md := mod_int (i := i + 1) (j := ((cs.map D.int).length : Nat)) (by omega)
        have fl := fmod_lt (a := i + 1) z
        obtain ⟨y, hy⟩ := idx_int (cs := cs) fl.1 (by rw [l2] at fl ⊢; exact fl.2)
        refine ⟨if y < 0 then -y else y, s_ifT t1 (s_fix (x := .val (.int (if y < 0 then -y else y))) (r1 := E0 cs n (i + 1) j' k' s3 (.val (.int 0)) .un .un) ?_ rfl rfl), by split <;> omega⟩
        refine v_fn (ds := [.int y]) (v_cons (v_bin (z := .val (.int y)) (r2 := E0 cs n (i + 1) j' k' s3 (.val (.int 0)) .un .un) (v_val rfl) (v_bin (x := .val (.int (i + 1))) (z := .val (.int ((i + 1).fmod ((cs.map D.int).length : Nat)))) ?_ (v_fn (v_cons (v_val rfl) v_nil) rfl rfl) rfl rfl md) rfl rfl hy) v_nil) rfl rfl
        repeat' (first | exact v_val rfl | exact v_own rfl | exact v_ino rfl | exact v_c | exact v_nil | apply v_bin | apply v_un | apply v_cons | apply v_fn | apply v_tup | apply v_lst | apply vt_bl | apply vt_not | apply vt_and | apply vt_or | apply vi_of | apply vi_fn | apply v_comp | apply s_seq | apply s_fix | apply s_set | apply s_drop | apply c_elt | with_reducible assumption | rfl)
      · have t1 : tBl (eBin cgtD (eFn lenD (dCons (eVar 2) (dNil))) (eC (.int 0))) (E0 cs n (i + 1) j' k' s3 (.val (.int 0)) .un .un) = .ok false (E0 cs n (i + 1) j' k' s3 (.val (.int 0)) .un .un) := by
          rw [← decide_eq_false z]
          repeat' (first | exact v_val rfl | exact v_own rfl | exact v_ino rfl | exact v_c | exact v_nil | apply v_bin | apply v_un | apply v_cons | apply v_fn | apply v_tup | apply v_lst | apply vt_bl | apply vt_not | apply vt_and | apply vt_or | apply vi_of | apply vi_fn | apply v_comp | apply s_seq | apply s_fix | apply s_set | apply s_drop | apply c_elt | with_reducible assumption | rfl)
        exact ⟨0, s_ifF t1 rfl, by omega⟩
    obtain ⟨hx, x0⟩ := hx
    have f5 : fdivD (.int x) (.int 5) = some (.val (.int (x.fdiv 5))) := fdiv_int (by decide) (by decide)
    have m1 : ∀ a : Int, modD (.int a) (.int 2147483647) = some (.val (.int (a.fmod 2147483647))) := fun a => mod_int (by decide)
    have m2 : ∀ a : Int, modD (.int a) (.int 1000003) = some (.val (.int (a.fmod 1000003))) := fun a => mod_int (by decide)
    have m3 : ∀ a : Int, modD (.int a) (.int 998244353) = some (.val (.int (a.fmod 998244353))) := fun a => mod_int (by decide)
    have u1 : ∀ a : Int, mulD (.int a) (.int 48271) = some (.val (.int (a * 48271))) := fun a => mul_int (.inr (by decide))
    have u2 : ∀ a : Int, mulD (.int a) (.int 69621) = some (.val (.int (a * 69621))) := fun a => mul_int (.inr (by decide))
    have u3 : ∀ a : Int, mulD (.int a) (.int 7919) = some (.val (.int (a * 7919))) := fun a => mul_int (.inr (by decide))
    have u4 : ∀ a : Int, mulD (.int a) (.int 16807) = some (.val (.int (a * 16807))) := fun a => mul_int (.inr (by decide))
    obtain ⟨y1, hy1⟩ : ∃ y : Int, y = (x * 48271 + (i + 1) * 69621 + 7).fmod 2147483647 := ⟨_, rfl⟩
    obtain ⟨y2, hy2⟩ : ∃ y : Int, y = (y1 * y1 + (i + 1) * 7919 + x).fmod 1000003 := ⟨_, rfl⟩
    obtain ⟨y3, hy3⟩ : ∃ y : Int, y = (y2 * y2 * 16807 + x.fdiv 5 + 11).fmod 998244353 := ⟨_, rfl⟩
    have b1 : 0 ≤ y1 ∧ y1 < 2147483647 := by rw [hy1]; exact fmod_lt (by decide)
    have b2 : 0 ≤ y2 ∧ y2 < 1000003 := by rw [hy2]; exact fmod_lt (by decide)
    have b3 : 0 ≤ y3 ∧ y3 < 998244353 := by rw [hy3]; exact fmod_lt (by decide)
    have q1 : mulD (.int y1) (.int y1) = some (.val (.int (y1 * y1))) := mul_int (.inl (small31 b1.1 (by omega)))
    have q2 : mulD (.int y2) (.int y2) = some (.val (.int (y2 * y2))) := mul_int (.inl (small31 b2.1 (by omega)))
    have m1' := m1 (x * 48271 + (i + 1) * 69621 + 7)
    have m2' := m2 (y1 * y1 + (i + 1) * 7919 + x)
    have m3' := m3 (y2 * y2 * 16807 + x.fdiv 5 + 11)
    rw [← hy1] at m1'
    rw [← hy2] at m2'
    rw [← hy3] at m3'
    have f3 : fdivD (.int y3) (.int 3) = some (.val (.int (y3.fdiv 3))) := fdiv_int (by decide) (by decide)
    have me := mod_int (i := y3.fdiv 3) n0
    have fe := fmod_lt (a := y3.fdiv 3) (b := n) (by omega)
    refine ⟨(y3.fdiv 3).fmod n, bx cs (i + 1) j' k', ⟨cs, _, _, _, rfl, by omega, hj', hk', hl⟩, fe.1, fe.2, run_rt (r := E0 cs n (i + 1) j' k' s3 (.val (.int x)) (.val (.int y3)) .un) ?_ rfl⟩
    unfold d__law_draw
    refine s_seq (r1 := E0 cs n i j k .un .un .un .un) (by repeat' (first | exact v_val rfl | exact v_own rfl | exact v_ino rfl | exact v_c | exact v_nil | apply v_bin | apply v_un | apply v_cons | apply v_fn | apply v_tup | apply v_lst | apply vt_bl | apply vt_not | apply vt_and | apply vt_or | apply vi_of | apply vi_fn | apply v_comp | apply s_seq | apply s_fix | apply s_set | apply s_drop | apply c_elt | with_reducible assumption | rfl)) ?_
    refine s_seq (r1 := E0 cs n (i + 1) j k .un .un .un .un) (s_put (x := .val (.int (i + 1))) (r1 := E0 cs n i j k .un .un .un .un) (by repeat' (first | exact v_val rfl | exact v_own rfl | exact v_ino rfl | exact v_c | exact v_nil | apply v_bin | apply v_un | apply v_cons | apply v_fn | apply v_tup | apply v_lst | apply vt_bl | apply vt_not | apply vt_and | apply vt_or | apply vi_of | apply vi_fn | apply v_comp | apply s_seq | apply s_fix | apply s_set | apply s_drop | apply c_elt | with_reducible assumption | rfl)) ⟨_, rfl⟩ v_c rfl rfl rfl rfl) ?_
    refine s_seq (s_for (r1 := E0 cs n (i + 1) j k .un .un .un .un) (vi_fn (v_cons (v_fn (v_cons (v_val rfl) v_nil) rfl rfl) v_nil) rfl rg) e) ?_
    refine s_seq (r1 := E0 cs n (i + 1) j' k' s3 .un .un .un) (s_ifF t rfl) ?_
    refine s_seq (r1 := E0 cs n (i + 1) j' k' s3 (.val (.int 0)) .un .un) (by repeat' (first | exact v_val rfl | exact v_own rfl | exact v_ino rfl | exact v_c | exact v_nil | apply v_bin | apply v_un | apply v_cons | apply v_fn | apply v_tup | apply v_lst | apply vt_bl | apply vt_not | apply vt_and | apply vt_or | apply vi_of | apply vi_fn | apply v_comp | apply s_seq | apply s_fix | apply s_set | apply s_drop | apply c_elt | with_reducible assumption | rfl)) ?_
    refine s_seq hx ?_
    refine s_seq (r1 := E0 cs n (i + 1) j' k' s3 (.val (.int x)) (.val (.int y1)) .un) (s_fix (x := .val (.int y1)) (r1 := E0 cs n (i + 1) j' k' s3 (.val (.int x)) .un .un) (v_bin (v_fn (z := .val (.int (x * 48271 + (i + 1) * 69621 + 7))) (v_cons (v_bin (v_bin (v_bin (v_val rfl) v_c rfl rfl (u1 x)) (v_bin (v_bin (v_ino rfl) v_c rfl rfl rfl) v_c rfl rfl (u2 (i + 1))) rfl rfl rfl) v_c rfl rfl rfl) v_nil) rfl rfl) v_c rfl rfl m1') rfl rfl) ?_
    refine s_seq (r1 := E0 cs n (i + 1) j' k' s3 (.val (.int x)) (.val (.int y2)) .un) (s_fix (x := .val (.int y2)) (r1 := E0 cs n (i + 1) j' k' s3 (.val (.int x)) (.val (.int y1)) .un) (v_bin (v_fn (z := .val (.int (y1 * y1 + (i + 1) * 7919 + x))) (v_cons (v_bin (v_bin (v_bin (v_val rfl) (v_val rfl) rfl rfl q1) (v_bin (v_bin (v_ino rfl) v_c rfl rfl rfl) v_c rfl rfl (u3 (i + 1))) rfl rfl rfl) (v_val rfl) rfl rfl rfl) v_nil) rfl rfl) v_c rfl rfl m2') rfl rfl) ?_
    refine s_seq (r1 := E0 cs n (i + 1) j' k' s3 (.val (.int x)) (.val (.int y3)) .un) (s_fix (x := .val (.int y3)) (r1 := E0 cs n (i + 1) j' k' s3 (.val (.int x)) (.val (.int y2)) .un) (v_bin (v_fn (z := .val (.int (y2 * y2 * 16807 + x.fdiv 5 + 11))) (v_cons (v_bin (v_bin (v_bin (v_bin (v_val rfl) (v_val rfl) rfl rfl q2) v_c rfl rfl (u4 (y2 * y2))) (v_bin (v_val rfl) v_c rfl rfl f5) rfl rfl rfl) v_c rfl rfl rfl) v_nil) rfl rfl) v_c rfl rfl m3') rfl rfl) ?_
    exact s_ret (v_bin (v_fn (z := .val (.int (y3.fdiv 3))) (v_cons (v_bin (v_val rfl) v_c rfl rfl f3) v_nil) rfl rfl) (v_val rfl) rfl rfl me)
/-! ### _law_order -/
abbrev natsD (l : List Nat) : List D := l.map fun k : Nat => D.int k
structure Ord (n : Nat) (l : List Nat) : Prop where
  len : l.length = n
  lt : ∀ (i : Nat) (h : i < l.length), l[i] < n
  inj : ∀ (i j : Nat) (hi : i < l.length) (hj : j < l.length), l[i] = l[j] → i = j
theorem Ord.range (n : Nat) : Ord n (List.range n) := ⟨List.length_range, fun i h => by
  rw [List.getElem_range]; rw [List.length_range] at h; exact h, fun i j hi hj e => by
  rw [List.getElem_range, List.getElem_range] at e; exact e⟩
theorem Ord.swap {n : Nat} {l : List Nat} (o : Ord n l) (a b : Nat) (ha : a < l.length) (hb : b < l.length) : Ord n ((l.set a l[b]).set b l[a]) := by
  refine ⟨by rw [List.length_set, List.length_set]; exact o.len, fun i h => ?_, fun i j hi hj e => ?_⟩
  · rw [List.getElem_set]
    split
    · exact o.lt a ha
    · rw [List.getElem_set]
      split
      · exact o.lt b hb
      · exact o.lt i _
  · rw [List.length_set, List.length_set] at hi hj
    have key : ∀ i (hi : i < l.length), ((l.set a l[b]).set b l[a])[i]'(by rw [List.length_set, List.length_set]; exact hi) = l[if i = b then a else if i = a then b else i]'(by split; exact ha; split; exact hb; exact hi) := by
      intro i hi
      rw [List.getElem_set]
      by_cases c : b = i
      · simp only [c, if_true]
      · rw [if_neg c, List.getElem_set]
        by_cases c2 : a = i
        · simp only [c2, if_true, if_neg (fun z : i = b => c z.symm)]
        · simp only [if_neg c2, if_neg (fun z : i = b => c z.symm), if_neg (fun z : i = a => c2 z.symm)]
    rw [key i hi, key j hj] at e
    have e2 := o.inj _ _ _ _ e
    split at e2 <;> split at e2 <;> (try split at e2) <;> (try split at e2) <;> omega
theorem natsD_set (l : List Nat) (i v : Nat) : (natsD l).set i (.int (v : Nat)) = natsD (l.set i v) := by
  unfold natsD
  rw [List.map_set]
theorem idx_nat {l : List Nat} {i : Nat} (h : i < l.length) : idxD (.lst (natsD l)) (.int (i : Nat)) = some (.val (.int (l[i] : Nat))) := by
  have e : atI (natsD l) ((i : Nat) : Int) = some (D.int (l[i] : Nat)) := atI_nat (by unfold natsD; rw [List.getElem?_map, List.getElem?_eq_getElem h]; rfl)
  show (atI (natsD l) ((i : Nat) : Int)).map RV.val = _
  rw [e]; rfl
theorem ix_nat {n i : Nat} (h : i < n) : L2.ixN n ((i : Nat) : Int) = some i := by
  unfold L2.ixN
  rw [if_pos (Int.natCast_nonneg i), if_pos (by omega)]
  rfl
theorem set_nat {l : List Nat} {i v : Nat} (h : i < l.length) : setD (.lst (natsD l)) (.int (i : Nat)) (.int (v : Nat)) = some (.lst (natsD (l.set i v))) := by
  show (L2.ixN (natsD l).length ((i : Nat) : Int)).map (fun j => D.lst ((natsD l).set j (.int (v : Nat)))) = _
  rw [ix_nat (by unfold natsD; rw [List.length_map]; exact h)]
  show some (D.lst ((natsD l).set i (.int (v : Nat)))) = _
  rw [natsD_set]
theorem rangeD_nat (n : Nat) : rangeD 0 (n : Nat) = natsD (List.range n) := by
  unfold rangeD natsD
  have e : ((n : Int) - 0).toNat = n := by omega
  rw [e]
  refine List.map_congr_left fun k _ => ?_
  rw [Int.zero_add]

abbrev EO (b : D) (n : Nat) (l : List Nat) (s3 s4 s5 : Slot) : Env := [.ino b, .val (.int (n : Nat)), .own (.lst (natsD l)), s3, s4, s5]
def OrdR (n : Nat) (r : Env) : Prop := ∃ b l s3 s4 s5, r = EO b n l s3 s4 s5 ∧ IsBox b ∧ Ord n l ∧ Plain s3 ∧ Plain s4 ∧ Plain s5
theorem range1_nat (n : Nat) (h : n ≤ 1000) : range1D [.int (n : Nat)] = some (natsD (List.range n)) := by
  rw [← rangeD_nat]
  have h62 : (2 : Int) ^ 62 = 4611686018427387904 := by decide
  exact range1_ok (by omega) (by omega)
theorem draw_nat (b : D) (hb : IsBox b) (n : Nat) (h : 1 ≤ n) (hn : n ≤ 1000000) : ∃ (z : Nat) (b' : D), IsBox b' ∧ z < n ∧ F__law_draw [b, .int (n : Nat)] = .ret (.val (.int (z : Nat))) b' := by
  have h60 : (2 : Int) ^ 60 = 1152921504606846976 := by decide
  obtain ⟨z, b', h1, h2, h3, h4⟩ := F_draw b hb n (by omega) (by omega)
  obtain ⟨m, rfl⟩ := Int.eq_ofNat_of_zero_le h2
  exact ⟨m, b', h1, by omega, h4⟩
theorem F_order (b : D) (hb : IsBox b) (n : Nat) (hn : n ≤ 1000) : ∃ (l : List Nat) (b' : D), IsBox b' ∧ Ord n l ∧ F__law_order [b, .int (n : Nat)] = .ret (.own (.lst (natsD l))) b' := by
  have rg := range1_nat n hn
  have loop : ∃ r', sFor1 (gNm 3) (sSeq (sFix 4 (eCall (some 0) F__law_draw 2 0 [0, 1] [] (dCons (eVar 0) (dCons (eVar 1) (dNil))) dNil)) (sSeq (sFix 5 (eBin idxD (eVar 2) (eVar 3))) (sSeq (sPut 2 (eVar 3) (eBin idxD (eVar 2) (eVar 4))) (sPut 2 (eVar 4) (eVar 5)))))
      (natsD (List.range n)) (EO b n (List.range n) .un .un .un) = .nx r' ∧ OrdR n r' := by
    refine sFor1_R (OrdR n) _ _ ⟨b, _, _, _, _, rfl, hb, Ord.range n, .inl rfl, .inl rfl, .inl rfl⟩ fun d hd r h => ?_
    obtain ⟨k, hk, rfl⟩ := List.mem_map.mp hd
    have hk := List.mem_range.mp hk
    obtain ⟨b, l, s3, s4, s5, rfl, hb, o, p3, p4, p5⟩ := h
    obtain ⟨z, b2, hb2, hz, ez⟩ := draw_nat b hb n (by omega) (by omega)
    have k1 : k < l.length := by rw [o.len]; exact hk
    have z1 : z < l.length := by rw [o.len]; exact hz
    have g : gNm 3 (.int (k : Nat)) (EO b n l s3 s4 s5) = some (EO b n l (.val (.int (k : Nat))) s4 s5) := by rcases p3 with rfl | ⟨d', rfl⟩ <;> rfl
    refine ⟨_, EO b2 n ((l.set k l[z]).set z l[k]) (.val (.int (k : Nat))) (.val (.int (z : Nat))) (.val (.int (l[k] : Nat))), g, .inl ?_, b2, _, _, _, _, rfl, hb2, o.swap k z k1 z1, .inr ⟨_, rfl⟩, .inr ⟨_, rfl⟩, .inr ⟨_, rfl⟩⟩
    have i1 := idx_nat k1
    have i2 := idx_nat z1
    refine s_seq (r1 := EO b2 n l (.val (.int (k : Nat))) (.val (.int (z : Nat))) s5) (s_fix (x := .val (.int (z : Nat))) (r1 := EO b2 n l (.val (.int (k : Nat))) s4 s5) (v_callIo (r1 := EO b n l (.val (.int (k : Nat))) s4 s5) (j := 0) (ds := [b, .int (n : Nat)]) (v_cons (v_ino rfl) (v_cons (v_val rfl) v_nil)) rfl rfl ez) ?_ ?_) ?_
    · rcases p4 with rfl | ⟨d', rfl⟩ <;> rfl
    · rfl
    refine s_seq (r1 := EO b2 n l (.val (.int (k : Nat))) (.val (.int (z : Nat))) (.val (.int (l[k] : Nat)))) (s_fix (r1 := EO b2 n l (.val (.int (k : Nat))) (.val (.int (z : Nat))) s5) (v_bin (v_own rfl) (v_val rfl) rfl rfl i1) ?_ ?_) ?_
    · rcases p5 with rfl | ⟨d', rfl⟩ <;> rfl
    · rfl
    refine s_seq (r1 := EO b2 n (l.set k l[z]) (.val (.int (k : Nat))) (.val (.int (z : Nat))) (.val (.int (l[k] : Nat)))) (s_put (v_bin (v_own rfl) (v_val rfl) rfl rfl i2) ⟨_, rfl⟩ (v_val rfl) rfl rfl rfl (set_nat k1)) ?_
    exact s_put (v_val rfl) ⟨_, rfl⟩ (v_val rfl) rfl rfl rfl (set_nat (by rw [List.length_set]; exact z1))
  obtain ⟨r', e, b', l, s3, s4, s5, rfl, hb', o, _⟩ := loop
  refine ⟨l, b', hb', o, run_rt (r := [.ino b', .val (.int (n : Nat)), .un, s3, s4, s5]) ?_ rfl⟩
  unfold d__law_order
  have cl : cLoop [3] (gNm 3) (cTest bYes (cElt (eVar 3))) (natsD (List.range n)) [] (slotsOf (some 0) [b, .int (n : Nat)] ++ List.replicate (6 - [b, D.int (n : Nat)].length) .un) = .ok ([] ++ (natsD (List.range n)).flatMap fun d => [d]) (slotsOf (some 0) [b, .int (n : Nat)] ++ List.replicate (6 - [b, D.int (n : Nat)].length) .un) := by
    refine cLoop_flat rfl _ _ ?_ fun d hd => ⟨Nat.le_refl 1, [.ino b, .val (.int (n : Nat)), .un, .val d, .un, .un], rfl, fun acc ha => ⟨[.ino b, .val (.int (n : Nat)), .un, .val d, .un, .un], c_testT (r1 := [.ino b, .val (.int (n : Nat)), .un, .val d, .un, .un]) rfl (c_elt (v_val rfl) rfl ha), rfl⟩⟩
    have : most = 4000000 := rfl
    unfold natsD
    rw [List.length_map, List.length_range]
    show 0 + n ≤ most
    omega
  have fm : (natsD (List.range n)).flatMap (fun d => [d]) = natsD (List.range n) := by
    generalize natsD (List.range n) = xs
    induction xs with
    | nil => rfl
    | cons x t ih => rw [List.flatMap_cons, ih]; rfl
  rw [fm, List.nil_append] at cl
  refine s_seq (r1 := EO b n (List.range n) .un .un .un) (s_set (v_comp (vi_fn (v_cons (v_val rfl) v_nil) rfl rg) cl) rfl rfl) ?_
  refine s_seq (s_for (vi_fn (v_cons (v_val rfl) v_nil) rfl rg) e) ?_
  exact s_retB (v_own rfl) rfl
/-! ### bits of numbers from nought -/
theorem band_nat (a b : Nat) : Builtin.bitAnd (a : Int) (b : Int) = ((a &&& b : Nat) : Int) := by
  unfold Builtin.bitAnd
  rw [decide_eq_true (Int.natCast_nonneg a), decide_eq_true (Int.natCast_nonneg b)]
  rfl
theorem bnot_nat (a : Nat) : Builtin.bitNot (Builtin.bitNot (a : Int)) = (a : Int) := by unfold Builtin.bitNot; omega
theorem bor_nat (a b : Nat) : Builtin.bitOr (a : Int) (b : Int) = ((a ||| b : Nat) : Int) := by
  unfold Builtin.bitOr Builtin.bitAnd
  have h (c : Nat) : ¬ 0 ≤ Builtin.bitNot (c : Int) := by unfold Builtin.bitNot; omega
  rw [decide_eq_false (h a), decide_eq_false (h b)]
  show Builtin.bitNot (Builtin.bitNot (((Builtin.bitNot (Builtin.bitNot (a : Int))).toNat ||| (Builtin.bitNot (Builtin.bitNot (b : Int))).toNat : Nat) : Int)) = _
  rw [bnot_nat, bnot_nat, bnot_nat, Int.toNat_natCast, Int.toNat_natCast]
theorem shl_nat (k : Nat) (h : k ≤ 1000) : shlD (.int 1) (.int (k : Nat)) = some (.val (.int ((2 ^ k : Nat) : Int))) := by
  have e : shlD (.int 1) (.int (k : Nat)) = some (.val (.int (1 * 2 ^ (k : Int).toNat))) := if_pos ⟨by omega, by omega, by decide⟩
  rw [e, Int.toNat_natCast, Int.one_mul]
  norm_cast
theorem shr_nat (a k : Nat) : shrD (.int (a : Nat)) (.int (k : Nat)) = some (.val (.int ((a >>> k : Nat) : Int))) := by
  rw [shr_int _ _ (Int.natCast_nonneg k), Int.toNat_natCast, Nat.shiftRight_eq_div_pow]
  norm_cast
theorem bit_test (a k : Nat) : (Builtin.bitAnd ((a >>> k : Nat) : Int) 1 = 1) ↔ a.testBit k = true := by
  have e : Builtin.bitAnd ((a >>> k : Nat) : Int) 1 = (((a >>> k) &&& 1 : Nat) : Int) := band_nat (a >>> k) 1
  rw [e, Nat.testBit, Nat.and_comm, bne_iff_ne]
  have : (1 &&& (a >>> k)) ≤ 1 := Nat.and_le_left
  constructor
  · intro h; omega
  · intro h; omega
theorem bits_nat (a : Nat) (n : Nat) (h : a < 2 ^ n) : Builtin.Int.intBits (a : Nat) ≤ n := PySem.intBits_le_iff.mpr (by rw [Int.natAbs_natCast]; exact h)
/-- the masks of a graph -/
structure Near (n : Nat) (E : Nat → Nat → Prop) (ms : List Nat) : Prop where
  len : ms.length = n
  bit : ∀ (a : Nat) (h : a < ms.length) (b : Nat), ms[a].testBit b = true ↔ E a b
structure Gr (n : Nat) (E : Nat → Nat → Prop) : Prop where
  sym : ∀ a b, E a b → E b a
  irr : ∀ a, ¬ E a a
  lt : ∀ a b, E a b → a < n
/-- a for loop without break, by what the items so far made -/
theorem sFor1_pre {α : Type} {gt : DenG} {f : DenS} (enc : α → D) (R : List α → Env → Prop) : ∀ (xs done : List α) (r : Env), R done r →
    (∀ (done : List α) (x : α) (r : Env), x ∈ xs → R done r → ∃ r1 r2, gt (enc x) r = some r1 ∧ (f r1 = .nx r2 ∨ f r1 = .ct r2) ∧ R (done ++ [x]) r2) → ∃ r', sFor1 gt f (xs.map enc) r = .nx r' ∧ R (done ++ xs) r'
  | [], done, r, h, _ => ⟨r, rfl, by rw [List.append_nil]; exact h⟩
  | x :: t, done, r, h, hs => by
    obtain ⟨r1, r2, e1, e2, h2⟩ := hs done x r List.mem_cons_self h
    obtain ⟨r', e3, h3⟩ := sFor1_pre enc R t (done ++ [x]) r2 h2 fun d y r m => hs d y r (List.mem_cons_of_mem _ m)
    rw [List.append_assoc] at h3
    refine ⟨r', ?_, h3⟩
    show (match gt (enc x) r with | none => SRes.stuck | some r1 => match f r1 with | .nx r2 => sFor1 gt f (t.map enc) r2 | .ct r2 => sFor1 gt f (t.map enc) r2 | .bk r2 => .nx r2 | x => x) = _
    rw [e1]
    show (match f r1 with | .nx r2 => sFor1 gt f (t.map enc) r2 | .ct r2 => sFor1 gt f (t.map enc) r2 | .bk r2 => .nx r2 | x => x) = _
    rcases e2 with e2 | e2
    · rw [e2]; exact e3
    · rw [e2]; exact e3

/-- the same, the place in the list told -/
theorem sFor1_at {α : Type} {gt : DenG} {f : DenS} (enc : α → D) (R : List α → Env → Prop) (all : List α) : ∀ (xs done : List α) (r : Env), all = done ++ xs → R done r →
    (∀ (done : List α) (x : α) (rest : List α) (r : Env), all = done ++ x :: rest → R done r → ∃ r1 r2, gt (enc x) r = some r1 ∧ (f r1 = .nx r2 ∨ f r1 = .ct r2) ∧ R (done ++ [x]) r2) → ∃ r', sFor1 gt f (xs.map enc) r = .nx r' ∧ R all r'
  | [], done, r, ha, h, _ => ⟨r, rfl, by rw [ha, List.append_nil]; exact h⟩
  | x :: t, done, r, ha, h, hs => by
    obtain ⟨r1, r2, e1, e2, h2⟩ := hs done x t r ha h
    obtain ⟨r', e3, h3⟩ := sFor1_at enc R all t (done ++ [x]) r2 (by rw [ha, List.append_assoc]; rfl) h2 hs
    refine ⟨r', ?_, h3⟩
    show (match gt (enc x) r with | none => SRes.stuck | some r1 => match f r1 with | .nx r2 => sFor1 gt f (t.map enc) r2 | .ct r2 => sFor1 gt f (t.map enc) r2 | .bk r2 => .nx r2 | x => x) = _
    rw [e1]
    show (match f r1 with | .nx r2 => sFor1 gt f (t.map enc) r2 | .ct r2 => sFor1 gt f (t.map enc) r2 | .bk r2 => .nx r2 | x => x) = _
    rcases e2 with e2 | e2
    · rw [e2]; exact e3
    · rw [e2]; exact e3
theorem range_at {n x : Nat} {done rest : List Nat} (h : List.range n = done ++ x :: rest) : x = done.length ∧ done.length < n := by
  have l := congrArg List.length h
  rw [List.length_range, List.length_append, List.length_cons] at l
  have hd : done.length < n := by omega
  have e : (List.range n)[done.length]? = some x := by rw [h, List.getElem?_append_right (Nat.le_refl _), Nat.sub_self]; rfl
  rw [List.getElem?_range hd] at e
  exact ⟨(Option.some.inj e).symm, hd⟩
theorem lt_most {n : Nat} (h : n ≤ 1000000) : n < most := by
  have : most = 4000000 := rfl
  omega

abbrev pairD (p : Nat × Nat) : D := .tup [.int (p.1 : Nat), .int (p.2 : Nat)]
def pairE (ps : List (Nat × Nat)) (a b : Nat) : Prop := (a, b) ∈ ps ∨ (b, a) ∈ ps
theorem bit_or (a b : Nat) (k : Nat) : (a ||| 2 ^ b).testBit k = true ↔ a.testBit k = true ∨ b = k := by
  rw [Nat.testBit_or, Nat.testBit_two_pow, Bool.or_eq_true, decide_eq_true_eq]
theorem near_step {n : Nat} {ps : List (Nat × Nat)} {ms : List Nat} (h : Near n (pairE ps) ms) (a b : Nat) (ha : a < ms.length) (hb : b < (ms.set a (ms[a] ||| 2 ^ b)).length) (hne : a ≠ b) :
    Near n (pairE (ps ++ [(a, b)])) ((ms.set a (ms[a] ||| 2 ^ b)).set b ((ms.set a (ms[a] ||| 2 ^ b))[b] ||| 2 ^ a)) := by
  refine ⟨by rw [List.length_set, List.length_set]; exact h.len, fun x hx y => ?_⟩
  have hx' : x < ms.length := by rw [List.length_set, List.length_set] at hx; exact hx
  have hb' : b < ms.length := by rw [List.length_set] at hb; exact hb
  have old := h.bit x hx' y
  have e : pairE (ps ++ [(a, b)]) x y ↔ pairE ps x y ∨ (x = a ∧ y = b) ∨ (x = b ∧ y = a) := by
    unfold pairE
    simp only [List.mem_append, List.mem_singleton, Prod.mk.injEq]
    constructor
    · rintro ((h | h) | (h | h))
      · exact .inl (.inl h)
      · exact .inr (.inl h)
      · exact .inl (.inr h)
      · exact .inr (.inr ⟨h.2, h.1⟩)
    · rintro ((h | h) | h | h)
      · exact .inl (.inl h)
      · exact .inr (.inl h)
      · exact .inl (.inr h)
      · exact .inr (.inr ⟨h.2, h.1⟩)
  rw [e, List.getElem_set]
  by_cases c : b = x
  · subst c
    rw [if_pos rfl, bit_or, List.getElem_set, if_neg hne]
    rw [old]
    constructor
    · rintro (h | h)
      · exact .inl h
      · exact .inr (.inr ⟨rfl, h.symm⟩)
    · rintro (h | h | h)
      · exact .inl h
      · exact (hne h.1.symm).elim
      · exact .inr h.2.symm
  · rw [if_neg c, List.getElem_set]
    by_cases c2 : a = x
    · subst c2
      rw [if_pos rfl, bit_or, old]
      constructor
      · rintro (h | h)
        · exact .inl h
        · exact .inr (.inl ⟨rfl, h.symm⟩)
      · rintro (h | h | h)
        · exact .inl h
        · exact .inr h.2.symm
        · exact (c h.1.symm).elim
    · rw [if_neg c2, old]
      constructor
      · exact .inl
      · rintro (h | h | h)
        · exact h
        · exact (c2 h.1.symm).elim
        · exact (c h.1.symm).elim

theorem flat_const (x : D) : ∀ xs : List D, xs.flatMap (fun _ => [x]) = List.replicate xs.length x
  | [] => rfl
  | _ :: t => by rw [List.flatMap_cons, flat_const x t]; rfl
abbrev EN (n : Nat) (c : D) (ms : List Nat) (s3 : Slot) : Env := [.val (.int (n : Nat)), .val c, .own (.lst (natsD ms)), s3, .un]
theorem or_nat (a b : Nat) : intD Builtin.bitOr (.int (a : Nat)) (.int (b : Nat)) = some (.val (.int ((a ||| b : Nat) : Int))) := by
  show some (RV.val (.int (Builtin.bitOr (a : Int) (b : Int)))) = _
  rw [bor_nat]
theorem F_near (n : Nat) (hn : n ≤ 1000) (ps : List (Nat × Nat)) (hp : ∀ p ∈ ps, p.1 < n ∧ p.2 < n ∧ p.1 ≠ p.2) (c : D) (hc : itemsD c = some (ps.map pairD)) :
    ∃ ms out, Near n (pairE ps) ms ∧ F__law_near [.int (n : Nat), c] = .ret (.own (.lst (natsD ms))) out := by
  have rg := range1_nat n hn
  have loop : ∃ r', sFor1 (gNm 3) (sSeq (sPut 2 (eBin idxD (eVar 3) (eC (.int 0))) (eBin (intD Builtin.bitOr) (eBin idxD (eVar 2) (eBin idxD (eVar 3) (eC (.int 0)))) (eBin shlD (eC (.int 1)) (eBin idxD (eVar 3) (eC (.int 1)))))) (sPut 2 (eBin idxD (eVar 3) (eC (.int 1))) (eBin (intD Builtin.bitOr) (eBin idxD (eVar 2) (eBin idxD (eVar 3) (eC (.int 1)))) (eBin shlD (eC (.int 1)) (eBin idxD (eVar 3) (eC (.int 0)))))))
      (ps.map pairD) (EN n c (List.replicate n 0) .un) = .nx r' ∧ (∃ ms s3, r' = EN n c ms s3 ∧ Near n (pairE ([] ++ ps)) ms ∧ Plain s3) := by
    refine sFor1_pre pairD (fun done r => ∃ ms s3, r = EN n c ms s3 ∧ Near n (pairE done) ms ∧ Plain s3) ps [] _ ⟨_, _, rfl, ⟨List.length_replicate, fun a h b => ?_⟩, .inl rfl⟩ fun done x r hx h => ?_
    · rw [List.getElem_replicate, Nat.zero_testBit]
      constructor
      · intro h; cases h
      · rintro (h | h) <;> cases h
    obtain ⟨ms, s3, rfl, nr, p3⟩ := h
    obtain ⟨a, b⟩ := x
    obtain ⟨h1, h2, h3⟩ := hp _ hx
    have ha : a < ms.length := by rw [nr.len]; exact h1
    have hb : b < (ms.set a (ms[a] ||| 2 ^ b)).length := by rw [List.length_set, nr.len]; exact h2
    have hb0 : b < ms.length := by rw [nr.len]; exact h2
    have sa := shl_nat a (by omega)
    have sb := shl_nat b (by omega)
    have i1 := idx_nat ha
    have i2 := idx_nat hb
    have p1 : idxD (pairD (a, b)) (.int 0) = some (.val (.int (a : Nat))) := rfl
    have p2 : idxD (pairD (a, b)) (.int 1) = some (.val (.int (b : Nat))) := rfl
    have g : gNm 3 (pairD (a, b)) (EN n c ms s3) = some (EN n c ms (.val (pairD (a, b)))) := by rcases p3 with rfl | ⟨d', rfl⟩ <;> rfl
    refine ⟨_, EN n c _ (.val (pairD (a, b))), g, .inl ?_, _, _, rfl, near_step nr a b ha hb h3, .inr ⟨_, rfl⟩⟩
    refine s_seq (r1 := EN n c (ms.set a (ms[a] ||| 2 ^ b)) (.val (pairD (a, b)))) (s_put (r1 := EN n c ms (.val (pairD (a, b)))) (v_bin (v_bin (v_own rfl) (v_bin (v_val rfl) v_c rfl rfl p1) rfl rfl i1) (v_bin v_c (v_bin (v_val rfl) v_c rfl rfl p2) rfl rfl sb) rfl rfl (or_nat _ _)) ⟨_, rfl⟩ (v_bin (v_val rfl) v_c rfl rfl p1) rfl rfl rfl (set_nat ha)) ?_
    exact s_put (r1 := EN n c (ms.set a (ms[a] ||| 2 ^ b)) (.val (pairD (a, b)))) (v_bin (v_bin (v_own rfl) (v_bin (v_val rfl) v_c rfl rfl p2) rfl rfl i2) (v_bin v_c (v_bin (v_val rfl) v_c rfl rfl p1) rfl rfl sa) rfl rfl (or_nat _ _)) ⟨_, rfl⟩ (v_bin (v_val rfl) v_c rfl rfl p2) rfl rfl rfl (set_nat hb)
  obtain ⟨r', e, ms, s3, rfl, nr, _⟩ := loop
  rw [List.nil_append] at nr
  refine ⟨ms, .non, nr, run_rt (r := [.val (.int (n : Nat)), .val c, .un, s3, .un]) ?_ rfl⟩
  unfold d__law_near
  have cl : cLoop [4] (gNm 4) (cTest bYes (cElt (eC (.int 0)))) (natsD (List.range n)) [] [.val (.int (n : Nat)), .val c, .un, .un, .un] = .ok ([] ++ (natsD (List.range n)).flatMap fun d => [.int 0]) [.val (.int (n : Nat)), .val c, .un, .un, .un] := by
    refine cLoop_flat rfl _ _ ?_ fun d hd => ⟨Nat.le_refl 1, [.val (.int (n : Nat)), .val c, .un, .un, .val d], rfl, fun acc ha => ⟨[.val (.int (n : Nat)), .val c, .un, .un, .val d], c_testT (r1 := [.val (.int (n : Nat)), .val c, .un, .un, .val d]) rfl (c_elt v_c rfl ha), rfl⟩⟩
    have : most = 4000000 := rfl
    unfold natsD
    rw [List.length_map, List.length_range]
    show 0 + n ≤ most
    omega
  have fm : (natsD (List.range n)).flatMap (fun d => [D.int 0]) = natsD (List.replicate n 0) := by
    rw [flat_const]
    unfold natsD
    rw [List.length_map, List.length_range, List.map_replicate]
    rfl
  rw [fm, List.nil_append] at cl
  refine s_seq (r1 := EN n c (List.replicate n 0) .un) (s_set (v_comp (vi_fn (v_cons (v_val rfl) v_nil) rfl rg) cl) rfl rfl) ?_
  refine s_seq (s_for (vi_of (v_val rfl) rfl hc) e) ?_
  exact s_retB (v_own rfl) rfl
theorem s_stop {f g : DenS} {r r1 : Env} {x : RV} (hf : f r = .rt x r1) : sSeq f g r = .rt x r1 := by unfold sSeq; rw [hf]
theorem v_or2 {f g : Den} {r : Env} {a b : Bool} (hf : f r = .ok (.val (.bl a)) r) (hg : g r = .ok (.val (.bl b)) r) : eOr f g r = .ok (.val (.bl (a || b))) r := by
  cases a
  · exact v_orF hf hg
  · exact v_orT hf

/-! ### _law_joined -/
abbrev EJ (box : D) (kind ring share a b : Nat) : Env := [.ino box, .val (.int (kind : Nat)), .val (.int (ring : Nat)), .val (.int (share : Nat)), .val (.int (a : Nat)), .val (.int (b : Nat))]
theorem F_joined (box : D) (hb : IsBox box) (kind ring share a b : Nat) (hr : ring ≤ 1000000) (hb2 : b ≤ 1000000) :
    ∃ (t : Bool) (box' : D), IsBox box' ∧ F__law_joined [box, .int (kind : Nat), .int (ring : Nat), .int (share : Nat), .int (a : Nat), .int (b : Nat)] = .ret (.val (.bl t)) box' := by
  have t1 : tAnd' (tBl (eBin ceqD (eVar 1) (eC (.int 0)))) (tBl (eBin cltD (eVar 5) (eVar 2))) (EJ box kind ring share a b) = .ok (decide ((kind : Int) = 0) && decide ((b : Int) < ring)) (EJ box kind ring share a b) := by repeat' (first | exact v_val rfl | exact v_own rfl | exact v_ino rfl | exact v_c | exact v_nil | apply v_bin | apply v_un | apply v_cons | apply v_fn | apply v_tup | apply v_lst | apply vt_bl | apply vt_not | apply vt_and | apply vt_or | apply vi_of | apply vi_fn | apply v_comp | apply s_seq | apply s_fix | apply s_set | apply s_drop | apply c_elt | with_reducible assumption | rfl)
  have md := mod_int (i := (a : Int) + b) (j := 2) (by decide)
  have t2 : tAnd' (tBl (eBin ceqD (eVar 1) (eC (.int 1)))) (tBl (eBin ceqD (eBin modD (eFn intD1 (dCons (eBin addD (eVar 4) (eVar 5)) (dNil))) (eC (.int 2))) (eC (.int 0)))) (EJ box kind ring share a b) = .ok (decide ((kind : Int) = 1) && decide (((a : Int) + b).fmod 2 = 0)) (EJ box kind ring share a b) := by
    refine vt_and ?_ (vt_bl (v_bin (v_bin (v_fn (v_cons (v_bin (v_val rfl) (v_val rfl) rfl rfl rfl) v_nil) rfl rfl) v_c rfl rfl md) v_c rfl rfl rfl))
    repeat' (first | exact v_val rfl | exact v_own rfl | exact v_ino rfl | exact v_c | exact v_nil | apply v_bin | apply v_un | apply v_cons | apply v_fn | apply v_tup | apply v_lst | apply vt_bl | apply vt_not | apply vt_and | apply vt_or | apply vi_of | apply vi_fn | apply v_comp | apply s_seq | apply s_fix | apply s_set | apply s_drop | apply c_elt | with_reducible assumption | rfl)
  have t3 : tBl (eBin ceqD (eVar 1) (eC (.int 2))) (EJ box kind ring share a b) = .ok (decide ((kind : Int) = 2)) (EJ box kind ring share a b) := by repeat' (first | exact v_val rfl | exact v_own rfl | exact v_ino rfl | exact v_c | exact v_nil | apply v_bin | apply v_un | apply v_cons | apply v_fn | apply v_tup | apply v_lst | apply vt_bl | apply vt_not | apply vt_and | apply vt_or | apply vi_of | apply vi_fn | apply v_comp | apply s_seq | apply s_fix | apply s_set | apply s_drop | apply c_elt | with_reducible assumption | rfl)
  by_cases c1 : (decide ((kind : Int) = 0) && decide ((b : Int) < ring)) = true
  · rw [c1] at t1
    refine ⟨decide ((b : Int) - a = 1) || decide ((b : Int) - a = ring - 1), box, hb, run_rt (r := EJ box kind ring share a b) ?_ rfl⟩
    unfold d__law_joined
    exact s_stop (s_ifT t1 (s_ret (v_or2 (v_bin (v_bin (v_val rfl) (v_val rfl) rfl rfl rfl) v_c rfl rfl rfl) (v_bin (v_bin (v_val rfl) (v_val rfl) rfl rfl rfl) (v_bin (v_val rfl) v_c rfl rfl rfl) rfl rfl rfl))))
  rw [Bool.eq_false_iff.mpr c1] at t1
  by_cases c2 : (decide ((kind : Int) = 1) && decide (((a : Int) + b).fmod 2 = 0)) = true
  · rw [c2] at t2
    refine ⟨false, box, hb, run_rt (r := EJ box kind ring share a b) ?_ rfl⟩
    unfold d__law_joined
    exact s_seq (s_ifF t1 rfl) (s_stop (s_ifT t2 (s_ret v_c)))
  rw [Bool.eq_false_iff.mpr c2] at t2
  by_cases c3 : (kind : Int) = 2
  · rw [decide_eq_true c3] at t3
    have mu : mulD (.int (ring : Nat)) (.int (b : Nat)) = some (.val (.int ((ring : Int) * b))) := mul_int (.inl (small31 (by omega) (by omega)))
    have fd : fdivD (.int ((ring : Int) * b + share)) (.int 2) = some (.val (.int (((ring : Int) * b + share).fdiv 2))) := fdiv_int (by decide) (by decide)
    refine ⟨decide (Builtin.bitAnd (((ring : Int) * b + share).fdiv 2) 1 = 1), box, hb, run_rt (r := EJ box kind ring share a b) ?_ rfl⟩
    unfold d__law_joined
    exact s_seq (s_ifF t1 rfl) (s_seq (s_ifF t2 rfl) (s_stop (s_ifT t3 (s_ret (v_bin (v_bin (v_bin (v_bin (v_bin (v_val rfl) (v_val rfl) rfl rfl mu) (v_val rfl) rfl rfl rfl) v_c rfl rfl fd) v_c rfl rfl rfl) v_c rfl rfl rfl)))))
  · rw [decide_eq_false c3] at t3
    obtain ⟨z, b2, hb2, hz, ez⟩ := draw_nat box hb 4 (by decide) (by decide)
    refine ⟨decide ((z : Int) < share), b2, hb2, run_rt (r := EJ b2 kind ring share a b) ?_ rfl⟩
    unfold d__law_joined
    exact s_seq (s_ifF t1 rfl) (s_seq (s_ifF t2 rfl) (s_seq (s_ifF t3 rfl) (s_ret (v_bin (v_callIo (r1 := EJ box kind ring share a b) (j := 0) (ds := [box, .int (4 : Nat)]) (v_cons (v_ino rfl) (v_cons v_c v_nil)) rfl rfl ez) (v_val rfl) rfl rfl rfl))))
theorem cne_bool (a b : Bool) : cneD (.bl a) (.bl b) = some (.val (.bl (a != b))) := by cases a <;> cases b <;> rfl
def Good (n : Nat) (ps : List (Nat × Nat)) : Prop := ∀ p ∈ ps, p.1 < n ∧ p.2 < n ∧ p.1 ≠ p.2
theorem Good.add {n : Nat} {ps : List (Nat × Nat)} (h : Good n ps) {a b : Nat} (ha : a < n) (hb : b < n) (hne : a ≠ b) : Good n (ps ++ [(a, b)]) := fun p hp => by
  rcases List.mem_append.mp hp with q | q
  · exact h p q
  · rw [List.mem_singleton.mp q]; exact ⟨ha, hb, hne⟩
theorem Good.gr {n : Nat} {ps : List (Nat × Nat)} (h : Good n ps) : Gr n (pairE ps) := ⟨fun a b q => q.elim .inr .inl, fun a q => by
  rcases q with q | q
  · exact (h _ q).2.2 rfl
  · exact (h _ q).2.2 rfl, fun a b q => by
  rcases q with q | q
  · exact (h _ q).1
  · exact (h _ q).2.1⟩
theorem max1_ok (n : Nat) : ∃ m : Nat, 1 ≤ m ∧ m ≤ n + 1 ∧ maxD [.int 1, .int ((n : Int) - 3)] = some (.val (.int (m : Nat))) := by
  have e : maxD [.int 1, .int ((n : Int) - 3)] = some (.val (.int (if (n : Int) - 3 > 1 then (n : Int) - 3 else 1))) := rfl
  rw [e]
  by_cases c : (n : Int) - 3 > 1
  · rw [if_pos c]
    refine ⟨n - 3, by omega, by omega, ?_⟩
    have : ((n - 3 : Nat) : Int) = (n : Int) - 3 := by omega
    rw [this]
  · rw [if_neg c]
    exact ⟨1, by omega, by omega, rfl⟩
theorem append_ok (xs : List D) (d : D) (h : xs.length < most) : appendD (.lst xs) [d] = some (.lst (xs ++ [d]), .non) := if_pos h

abbrev EG (box : D) (n kind ring share : Nat) (l : List Nat) (t : Bool) (ps : List (Nat × Nat)) (s8 s9 : Slot) : Env :=
  [.ino box, .val (.int (n : Nat)), .val (.int (kind : Nat)), .val (.int (ring : Nat)), .val (.int (share : Nat)), .val (.lst (natsD l)), .val (.bl t), .own (.lst (ps.map pairD)), s8, s9]
def gBody : DenS := sIf (tBl (eBin cneD (eCall (some 0) F__law_joined 6 0 [0, 1, 2, 3, 4, 5] [] (dCons (eVar 0) (dCons (eVar 2) (dCons (eVar 3) (dCons (eVar 4) (dCons (eVar 9) (dCons (eVar 8) (dNil))))))) dNil) (eVar 6))) (sDrop (eMut appendD 7 (dCons (eTup (dCons (eBin idxD (eVar 5) (eVar 9)) (dCons (eBin idxD (eVar 5) (eVar 8)) (dNil)))) (dNil)))) (sNx)
def InR (n kind ring share : Nat) (l : List Nat) (t : Bool) (s8 : Slot) (k : Nat) (r : Env) : Prop := ∃ box ps s9, r = EG box n kind ring share l t ps s8 s9 ∧ IsBox box ∧ Good n ps ∧ ps.length ≤ k ∧ Plain s9
theorem g_inner (n kind ring share : Nat) (l : List Nat) (t : Bool) (o : Ord n l) (hr : ring ≤ 1000000) (hn : n ≤ 100) (b : Nat) (hb : b < n) (k : Nat) (hk : k ≤ 10000) (r : Env) (h : InR n kind ring share l t (.val (.int (b : Nat))) k r) :
    ∃ r', sFor1 (gNm 9) gBody (natsD (List.range b)) r = .nx r' ∧ InR n kind ring share l t (.val (.int (b : Nat))) (k + b) r' := by
  have key := sFor1_at (gt := gNm 9) (f := gBody) (fun a : Nat => D.int (a : Nat)) (fun done r => InR n kind ring share l t (.val (.int (b : Nat))) (k + done.length) r) (List.range b) (List.range b) [] r rfl h
  have key2 := key fun done a rest r hall q => by
    obtain ⟨box, ps, s9, rfl, hb1, gp, hl, p9⟩ := q
    obtain ⟨ea, hd⟩ := range_at hall
    have ha : a < b := by omega
    obtain ⟨u, b2, hb2, eu⟩ := F_joined box hb1 kind ring share a b hr (by omega)
    have g : gNm 9 (.int (a : Nat)) (EG box n kind ring share l t ps (.val (.int (b : Nat))) s9) = some (EG box n kind ring share l t ps (.val (.int (b : Nat))) (.val (.int (a : Nat)))) := by rcases p9 with rfl | ⟨d', rfl⟩ <;> rfl
    have tt : tBl (eBin cneD (eCall (some 0) F__law_joined 6 0 [0, 1, 2, 3, 4, 5] [] (dCons (eVar 0) (dCons (eVar 2) (dCons (eVar 3) (dCons (eVar 4) (dCons (eVar 9) (dCons (eVar 8) (dNil))))))) dNil) (eVar 6)) (EG box n kind ring share l t ps (.val (.int (b : Nat))) (.val (.int (a : Nat))))
        = .ok (u != t) (EG b2 n kind ring share l t ps (.val (.int (b : Nat))) (.val (.int (a : Nat)))) :=
      vt_bl (v_bin (v_callIo (r1 := EG box n kind ring share l t ps (.val (.int (b : Nat))) (.val (.int (a : Nat)))) (j := 0) (ds := [box, .int (kind : Nat), .int (ring : Nat), .int (share : Nat), .int (a : Nat), .int (b : Nat)])
        (v_cons (v_ino rfl) (v_cons (v_val rfl) (v_cons (v_val rfl) (v_cons (v_val rfl) (v_cons (v_val rfl) (v_cons (v_val rfl) v_nil)))))) rfl rfl eu) (v_val rfl) rfl rfl (cne_bool u t))
    cases hu : (u != t) with
    | false =>
      rw [hu] at tt
      exact ⟨_, EG b2 n kind ring share l t ps (.val (.int (b : Nat))) (.val (.int (a : Nat))), g, .inl (s_ifF tt rfl), b2, ps, _, rfl, hb2, gp, by rw [List.length_append]; omega, .inr ⟨_, rfl⟩⟩
    | true =>
      rw [hu] at tt
      have i1 := idx_nat (l := l) (i := a) (by rw [o.len]; omega)
      have i2 := idx_nat (l := l) (i := b) (by rw [o.len]; omega)
      have ap := append_ok (ps.map pairD) (pairD (l[a]'(by rw [o.len]; omega), l[b]'(by rw [o.len]; omega))) (by rw [List.length_map]; exact lt_most (by omega))
      have em : (ps.map pairD) ++ [pairD (l[a]'(by rw [o.len]; omega), l[b]'(by rw [o.len]; omega))] = (ps ++ [(l[a]'(by rw [o.len]; omega), l[b]'(by rw [o.len]; omega))]).map pairD := by rw [List.map_append]; rfl
      rw [em] at ap
      refine ⟨_, EG b2 n kind ring share l t (ps ++ [(l[a]'(by rw [o.len]; omega), l[b]'(by rw [o.len]; omega))]) (.val (.int (b : Nat))) (.val (.int (a : Nat))), g, .inl (s_ifT tt (s_drop (v_mut (c := .lst (ps.map pairD)) (r1 := EG b2 n kind ring share l t ps (.val (.int (b : Nat))) (.val (.int (a : Nat)))) rfl (v_cons (v_tup (v_cons (v_bin (v_val rfl) (v_val rfl) rfl rfl i1) (v_cons (v_bin (v_val rfl) (v_val rfl) rfl rfl i2) v_nil)) rfl ?_) v_nil) rfl rfl ap))), b2, _, _, rfl, hb2, gp.add (o.lt a _) (o.lt b _) (fun z => ?_), ?_, .inr ⟨_, rfl⟩⟩
      · exact Nat.le_of_lt (lt_most (n := 2) (by decide))
      · have := o.inj _ _ _ _ z; omega
      · rw [List.length_append, List.length_append]; simp only [List.length_cons, List.length_nil]; omega
  obtain ⟨r', e, q⟩ := key2
  rw [List.length_range] at q
  exact ⟨r', e, q⟩

theorem g_outer (n kind ring share : Nat) (l : List Nat) (t : Bool) (o : Ord n l) (hr : ring ≤ 1000000) (hn : n ≤ 100) (box : D) (hb : IsBox box) :
    ∃ r' s8, sFor1 (gNm 8) (sFor (iFn range1D (dCons (eVar 8) (dNil))) (gNm 9) gBody) (natsD (List.range n)) (EG box n kind ring share l t [] .un .un) = .nx r' ∧ InR n kind ring share l t s8 10000 r' := by
  obtain ⟨r', e, s8, q⟩ := sFor1_at (gt := gNm 8) (f := sFor (iFn range1D (dCons (eVar 8) (dNil))) (gNm 9) gBody) (fun a : Nat => D.int (a : Nat)) (fun done r => ∃ s8, InR n kind ring share l t s8 (done.length * 100) r ∧ Plain s8) (List.range n) (List.range n) [] (EG box n kind ring share l t [] .un .un) rfl
    ⟨.un, ⟨box, [], .un, rfl, hb, (fun p hp => nomatch hp), Nat.le_refl _, .inl rfl⟩, .inl rfl⟩ fun done b rest r hall q => by
      obtain ⟨s8, ⟨box, ps, s9, rfl, hb1, gp, hl, p9⟩, p8⟩ := q
      obtain ⟨eb, hd⟩ := range_at hall
      have g : gNm 8 (.int (b : Nat)) (EG box n kind ring share l t ps s8 s9) = some (EG box n kind ring share l t ps (.val (.int (b : Nat))) s9) := by rcases p8 with rfl | ⟨d', rfl⟩ <;> rfl
      obtain ⟨r2, e2, q2⟩ := g_inner n kind ring share l t o hr hn b (by omega) (done.length * 100) (by omega) _ ⟨box, ps, s9, rfl, hb1, gp, hl, p9⟩
      obtain ⟨box2, ps2, s92, h1, h2, h3, h4, h5⟩ := q2
      exact ⟨_, r2, g, .inl (s_for (vi_fn (v_cons (v_val rfl) v_nil) rfl (range1_nat b (by omega))) e2), _, ⟨box2, ps2, s92, h1, h2, h3, by rw [List.length_append]; simp only [List.length_cons, List.length_nil]; omega, h5⟩, .inr ⟨_, rfl⟩⟩
  obtain ⟨⟨box2, ps2, s92, h1, h2, h3, h4, h5⟩, _⟩ := q
  exact ⟨r', s8, e, box2, ps2, s92, h1, h2, h3, by rw [List.length_range] at h4; omega, h5⟩

/-- a maker of graphs: its masks are those of a graph, the box stays one -/
def Makes (n : Nat) (box : D) (x : FRes) : Prop := ∃ E ms box', Gr n E ∧ Near n E ms ∧ IsBox box' ∧ x = .ret (.own (.lst (natsD ms))) box'
theorem F_graph (box : D) (hb : IsBox box) (n : Nat) (hn : n ≤ 100) : Makes n box (F__law_graph [box, .int (n : Nat)]) := by
  obtain ⟨kind, b1, hb1, _, e1⟩ := draw_nat box hb 5 (by decide) (by decide)
  obtain ⟨m, m1, m2, em⟩ := max1_ok n
  obtain ⟨z, b2, hb2, hz, e2⟩ := draw_nat b1 hb1 m m1 (by omega)
  obtain ⟨sh, b3, hb3, hs, e3⟩ := draw_nat b2 hb2 3 (by decide) (by decide)
  obtain ⟨l, b4, hb4, o, e4⟩ := F_order b3 hb3 n (by omega)
  obtain ⟨w, b5, hb5, hw, e5⟩ := draw_nat b4 hb4 3 (by decide) (by decide)
  obtain ⟨r', s8, e6, b6, ps, s9, rfl, hb6, gp, hl, p9⟩ := g_outer n kind (4 + z) (1 + sh) l (decide ((w : Int) = 0)) o (by omega) hn b5 hb5
  obtain ⟨ms, out, nr, e7⟩ := F_near n (by omega) ps gp (.lst (ps.map pairD)) rfl
  refine ⟨pairE ps, ms, b6, gp.gr, nr, hb6, run_rt (r := [.ino b6, .val (.int (n : Nat)), .val (.int (kind : Nat)), .val (.int ((4 + z : Nat) : Int)), .val (.int ((1 + sh : Nat) : Int)), .val (.lst (natsD l)), .val (.bl (decide ((w : Int) = 0))), .val (.lst (ps.map pairD)), s8, s9]) ?_ rfl⟩
  unfold d__law_graph
  have a4 : addD (.int 4) (.int (z : Nat)) = some (.val (.int ((4 + z : Nat) : Int))) := by
    rw [Int.natCast_add]; rfl
  have a1 : addD (.int 1) (.int (sh : Nat)) = some (.val (.int ((1 + sh : Nat) : Int))) := by
    rw [Int.natCast_add]; rfl
  refine s_seq (r1 := [.ino b1, .val (.int (n : Nat)), .val (.int (kind : Nat)), .un, .un, .un, .un, .un, .un, .un]) (s_fix (v_callIo (j := 0) (ds := [box, .int (5 : Nat)]) (v_cons (v_ino rfl) (v_cons v_c v_nil)) rfl rfl e1) rfl rfl) ?_
  refine s_seq (r1 := [.ino b2, .val (.int (n : Nat)), .val (.int (kind : Nat)), .val (.int ((4 + z : Nat) : Int)), .un, .un, .un, .un, .un, .un]) (s_fix (v_bin v_c (v_callIo (j := 0) (ds := [b1, .int (m : Nat)]) (v_cons (v_ino rfl) (v_cons (v_fn (v_cons v_c (v_cons (v_bin (v_val rfl) v_c rfl rfl rfl) v_nil)) rfl em) v_nil)) rfl rfl e2) rfl rfl a4) rfl rfl) ?_
  refine s_seq (r1 := [.ino b3, .val (.int (n : Nat)), .val (.int (kind : Nat)), .val (.int ((4 + z : Nat) : Int)), .val (.int ((1 + sh : Nat) : Int)), .un, .un, .un, .un, .un]) (s_fix (v_bin v_c (v_callIo (j := 0) (ds := [b2, .int (3 : Nat)]) (v_cons (v_ino rfl) (v_cons v_c v_nil)) rfl rfl e3) rfl rfl a1) rfl rfl) ?_
  refine s_seq (r1 := [.ino b4, .val (.int (n : Nat)), .val (.int (kind : Nat)), .val (.int ((4 + z : Nat) : Int)), .val (.int ((1 + sh : Nat) : Int)), .val (.lst (natsD l)), .un, .un, .un, .un]) (s_fix (v_callIo (j := 0) (ds := [b3, .int (n : Nat)]) (v_cons (v_ino rfl) (v_cons (v_val rfl) v_nil)) rfl rfl e4) rfl rfl) ?_
  refine s_seq (r1 := [.ino b5, .val (.int (n : Nat)), .val (.int (kind : Nat)), .val (.int ((4 + z : Nat) : Int)), .val (.int ((1 + sh : Nat) : Int)), .val (.lst (natsD l)), .val (.bl (decide ((w : Int) = 0))), .un, .un, .un]) (s_fix (v_bin (v_callIo (j := 0) (ds := [b4, .int (3 : Nat)]) (v_cons (v_ino rfl) (v_cons v_c v_nil)) rfl rfl e5) v_c rfl rfl rfl) rfl rfl) ?_
  refine s_seq (r1 := EG b5 n kind (4 + z) (1 + sh) l (decide ((w : Int) = 0)) [] .un .un) (s_set (v_lst v_nil rfl (Nat.zero_le _)) rfl rfl) ?_
  refine s_seq (s_for (vi_fn (v_cons (v_val rfl) v_nil) rfl (range1_nat n (by omega))) e6) ?_
  refine s_seq (s_frzO rfl) ?_
  exact s_retO (v_call (v_cons (v_val rfl) (v_cons (v_val rfl) v_nil)) rfl rfl e7)
theorem range2_nat (a n : Nat) (h : n ≤ 1000) (ha : a ≤ 1000) : range2D [.int (a : Nat), .int (n : Nat)] = some ((List.range (n - a)).map fun k : Nat => D.int ((a + k : Nat) : Int)) := by
  have h62 : (2 : Int) ^ 62 = 4611686018427387904 := by decide
  have e : range2D [.int (a : Nat), .int (n : Nat)] = some (rangeD (a : Nat) (n : Nat)) := by
    show (if big62 (a : Int) = true then (if big62 (n : Int) = true then some (rangeD (a : Nat) (n : Nat)) else none) else none) = _
    rw [if_pos (big_ok (by omega) (by omega)), if_pos (big_ok (by omega) (by omega))]
  rw [e]
  unfold rangeD
  have e2 : ((n : Int) - (a : Int)).toNat = n - a := by omega
  rw [e2]
  congr 1
def cloneE (l : List Nat) (p : Nat × Nat) : Nat × Nat := (l.getD p.1 0, l.getD p.2 0)
theorem getD_nat {l : List Nat} {i : Nat} (h : i < l.length) : l.getD i 0 = l[i] := by rw [List.getD_eq_getElem?_getD, List.getElem?_eq_getElem h]; rfl
theorem cLoop_filt {α : Type} {vs : List Nat} {g : DenG} {st : Stp} {r : Env} (enc : α → D) (e : α → D) (p : α → Bool) (hv : vsOk r vs = true) : ∀ (xs : List α) (acc : List D), acc.length + xs.length ≤ most → (∀ x ∈ xs, Turn1 vs g st r (enc x) (if p x = true then [e x] else [])) →
    cLoop vs g st (xs.map enc) acc r = .ok (acc ++ (xs.filter p).map e) r
  | [], acc, _, _ => by simp [cLoop]
  | d :: t, acc, hl, h => by
    obtain ⟨r1, e1, h2⟩ := h d List.mem_cons_self
    rw [List.length_cons] at hl
    obtain ⟨r2, e2, e3⟩ := h2 acc (by omega)
    show cLoop vs g st (enc d :: t.map enc) acc r = _
    unfold cLoop
    rw [if_pos hv, e1]
    show (match st acc r1 with | .ok acc2 r2 => cLoop vs g st (t.map enc) acc2 (backE r r2 vs) | _ => .stuck) = _
    rw [e2]
    show cLoop vs g st (t.map enc) (acc ++ _) (backE r r2 vs) = _
    rw [e3, cLoop_filt enc e p hv t _ (by rw [List.length_append]; split <;> simp only [List.length_cons, List.length_nil] <;> omega) fun d' m => h d' (List.mem_cons_of_mem _ m)]
    by_cases c : p d = true
    · rw [if_pos c, List.filter_cons_of_pos c]; simp
    · rw [if_neg c, List.filter_cons_of_neg c]; simp

/-- the edges of the masks, from the least on -/
def row (ms : List Nat) (a : Nat) : List Nat := ((List.range (ms.length - (a + 1))).map fun k => a + 1 + k).filter fun b => (ms.getD a 0).testBit b
def edg (ms : List Nat) : List (Nat × Nat) := (List.range ms.length).flatMap fun a => (row ms a).map fun b => (a, b)
theorem row_len (ms : List Nat) (a : Nat) : (row ms a).length ≤ ms.length := by
  unfold row
  refine Nat.le_trans (List.length_filter_le _ _) ?_
  rw [List.length_map, List.length_range]; omega
abbrev EE (ms : List Nat) (ps : List (Nat × Nat)) (s2 : Slot) : Env := [.val (.lst (natsD ms)), .val (.lst (ps.map pairD)), s2, .un]
theorem and1_nat (x : Nat) : intD Builtin.bitAnd (.int (x : Nat)) (.int 1) = some (.val (.int (Builtin.bitAnd (x : Nat) 1))) := rfl
theorem F_edges (ms : List Nat) (hn : ms.length ≤ 100) : ∃ out, F__law_edges [.lst (natsD ms)] = .ret (.val (.tup ((edg ms).map pairD))) out := by
  have lm : (natsD ms).length = ms.length := by unfold natsD; rw [List.length_map]
  obtain ⟨r', e, s2, rfl, p2, hl⟩ := sFor1_at (gt := gNm 2) (f := sFix 1 (eBin addD (eVar 1) (eComp (iFn range2D (dCons (eBin addD (eVar 2) (eC (.int 1))) (dCons (eFn lenD (dCons (eVar 0) (dNil))) (dNil)))) [3] (gNm 3) (cTest (tBl (eBin ceqD (eBin (intD Builtin.bitAnd) (eBin shrD (eBin idxD (eVar 0) (eVar 2)) (eVar 3)) (eC (.int 1))) (eC (.int 1)))) (cElt (eTup (dCons (eVar 2) (dCons (eVar 3) (dNil)))))))))
    (fun a : Nat => D.int (a : Nat)) (fun done r => ∃ s2, r = EE ms (done.flatMap fun a => (row ms a).map fun b => (a, b)) s2 ∧ Plain s2 ∧ (done.flatMap fun a => (row ms a).map fun b => (a, b)).length ≤ done.length * 100) (List.range ms.length) (List.range ms.length) [] (EE ms [] .un) rfl ⟨.un, rfl, .inl rfl, Nat.le_refl _⟩ fun done a rest r hall q => by
      obtain ⟨s2, rfl, p2, hl⟩ := q
      obtain ⟨ea, hd⟩ := range_at hall
      have ha : a < ms.length := by omega
      generalize hps : (done.flatMap fun a => (row ms a).map fun b => (a, b)) = ps at hl ⊢
      have g : gNm 2 (.int (a : Nat)) (EE ms ps s2) = some (EE ms ps (.val (.int (a : Nat)))) := by rcases p2 with rfl | ⟨d', rfl⟩ <;> rfl
      have ia := idx_nat ha
      have a1 : addD (.int (a : Nat)) (.int 1) = some (.val (.int ((a + 1 : Nat) : Int))) := by rw [Int.natCast_add a 1]; rfl
      have rl : range2D [.int ((a + 1 : Nat) : Int), .int (((natsD ms).length : Nat) : Int)] = some ((List.range (ms.length - (a + 1))).map fun k : Nat => D.int ((a + 1 + k : Nat) : Int)) := by
        rw [lm]; exact range2_nat (a + 1) ms.length (by omega) (by omega)
      have cl := cLoop_filt (vs := [3]) (g := gNm 3) (st := cTest (tBl (eBin ceqD (eBin (intD Builtin.bitAnd) (eBin shrD (eBin idxD (eVar 0) (eVar 2)) (eVar 3)) (eC (.int 1))) (eC (.int 1)))) (cElt (eTup (dCons (eVar 2) (dCons (eVar 3) (dNil)))))) (r := EE ms ps (.val (.int (a : Nat))))
        (fun k : Nat => D.int ((a + 1 + k : Nat) : Int)) (fun k => pairD (a, a + 1 + k)) (fun k => (ms.getD a 0).testBit (a + 1 + k)) rfl (List.range (ms.length - (a + 1))) [] (by rw [List.length_range]; simp only [List.length_nil]; exact Nat.le_of_lt (lt_most (by omega))) fun k hk => by
          refine ⟨[.val (.lst (natsD ms)), .val (.lst (ps.map pairD)), .val (.int (a : Nat)), .val (.int ((a + 1 + k : Nat) : Int))], rfl, fun acc hacc => ?_⟩
          have t : tBl (eBin ceqD (eBin (intD Builtin.bitAnd) (eBin shrD (eBin idxD (eVar 0) (eVar 2)) (eVar 3)) (eC (.int 1))) (eC (.int 1))) [.val (.lst (natsD ms)), .val (.lst (ps.map pairD)), .val (.int (a : Nat)), .val (.int ((a + 1 + k : Nat) : Int))]
              = .ok (decide (Builtin.bitAnd ((ms[a] >>> (a + 1 + k) : Nat) : Int) 1 = 1)) [.val (.lst (natsD ms)), .val (.lst (ps.map pairD)), .val (.int (a : Nat)), .val (.int ((a + 1 + k : Nat) : Int))] :=
            vt_bl (v_bin (v_bin (v_bin (v_bin (v_val rfl) (v_val rfl) rfl rfl ia) (v_val rfl) rfl rfl (shr_nat _ _)) v_c rfl rfl rfl) v_c rfl rfl rfl)
          rw [getD_nat ha]
          by_cases c : ms[a].testBit (a + 1 + k) = true
          · rw [decide_eq_true ((bit_test _ _).mpr c)] at t
            rw [if_pos c]
            exact ⟨_, c_testT t (c_elt (v_tup (v_cons (v_val rfl) (v_cons (v_val rfl) v_nil)) rfl (Nat.le_of_lt (lt_most (n := 2) (by decide)))) rfl hacc), rfl⟩
          · rw [decide_eq_false (fun z => c ((bit_test _ _).mp z))] at t
            rw [if_neg c, List.append_nil]
            exact ⟨_, c_testF t, rfl⟩
      have rw1 : ((List.range (ms.length - (a + 1))).filter fun k => (ms.getD a 0).testBit (a + 1 + k)).map (fun k => pairD (a, a + 1 + k)) = ((row ms a).map fun b => (a, b)).map pairD := by
        unfold row
        rw [List.filter_map, List.map_map, List.map_map]
        rfl
      rw [List.nil_append, rw1] at cl
      have rlen := row_len ms a
      have ad : addD (.lst (ps.map pairD)) (.lst (((row ms a).map fun b => (a, b)).map pairD)) = some (.own (.lst ((ps ++ (row ms a).map fun b => (a, b)).map pairD))) := by
        have e0 : addD (.lst (ps.map pairD)) (.lst (((row ms a).map fun b => (a, b)).map pairD)) = some (.own (.lst (ps.map pairD ++ ((row ms a).map fun b => (a, b)).map pairD))) :=
          if_pos (by rw [List.length_map, List.length_map, List.length_map]; exact Nat.le_of_lt (lt_most (by omega)))
        rw [e0, List.map_append]
      have ef : (done ++ [a]).flatMap (fun a => (row ms a).map fun b => (a, b)) = ps ++ (row ms a).map fun b => (a, b) := by rw [List.flatMap_append, hps]; simp
      rw [ef]
      exact ⟨_, EE ms (ps ++ (row ms a).map fun b => (a, b)) (.val (.int (a : Nat))), g, .inl (s_fix (r1 := EE ms ps (.val (.int (a : Nat)))) (v_bin (v_val rfl) (v_comp (vi_fn (v_cons (v_bin (v_val rfl) v_c rfl rfl a1) (v_cons (v_fn (v_cons (v_val rfl) v_nil) rfl rfl) v_nil)) rfl rl) cl) rfl rfl ad) rfl rfl), _, rfl, .inr ⟨_, rfl⟩, by rw [List.length_append, List.length_append, List.length_map]; simp only [List.length_cons, List.length_nil]; omega⟩
  refine ⟨.non, run_rt (r := EE ms (edg ms) s2) ?_ rfl⟩
  unfold d__law_edges
  have rg := range1_nat (natsD ms).length (by omega)
  rw [lm] at rg
  refine s_seq (r1 := EE ms [] .un) (s_fix (v_lst v_nil rfl (Nat.zero_le _)) rfl rfl) ?_
  refine s_seq (s_for (vi_fn (ds := [.int (((natsD ms).length : Nat) : Int)]) (v_cons (v_fn (v_cons (v_val rfl) v_nil) rfl rfl) v_nil) rfl (by rw [lm]; exact rg)) e) ?_
  exact s_ret (v_fn (v_cons (v_val rfl) v_nil) rfl rfl)
theorem isi_int (i : Int) : isiD ISI [.int i, .ty "int"] = some (.val (.bl true)) := rfl
theorem isi_bool (i : Int) : isiD ISI [.int i, .ty "bool"] = some (.val (.bl false)) := rfl
theorem isi_tup (xs : List D) : isiD ISI [.tup xs, .ty "tuple"] = some (.val (.bl true)) := rfl
theorem isi_seq (xs : List D) : isiD ISI [.tup xs, .tup [.ty "tuple", .ty "list"]] = some (.val (.bl true)) := rfl
theorem F_isint (i : Int) : F_is_integer [.int i] = .ret (.val (.bl true)) .non := by
  refine run_rt (r := [.val (.int i)]) ?_ rfl
  unfold d_is_integer
  exact s_ret (v_andT (v_fn (v_cons (v_val rfl) (v_cons v_c v_nil)) rfl (isi_int i)) (v_not (v_fn (v_cons (v_val rfl) (v_cons v_c v_nil)) rfl (isi_bool i))))
theorem v_chainT {dop dop' : D → D → Option RV} {f g h : Den} {r r1 r2 r3 : Env} {x y z w : RV} {d e e' c : D} (hf : f r = .ok x r1) (hg : g r1 = .ok y r2) (hx : peek r2 (fzv x) = some d) (hy : peek r2 (fzv y) = some e) (h1 : dop d e = some (.val (.bl true)))
    (hh : h r2 = .ok z r3) (hy2 : peek r3 (fzv y) = some e') (hz : peek r3 (fzv z) = some c) (h2 : dop' e' c = some w) : eChain dop dop' f g h r = .ok w r3 := by
  unfold eChain
  rw [z_of hf]
  show ((fz (g r1)).bind fun y r2 => _) = _
  rw [z_of hg]
  show (match peek r2 (fzv x), peek r2 (fzv y) with
  | some d, some e => (match dop d e with
    | some (.val (.bl true)) => (fz (h r2)).bind fun z r3 => (match peek r3 (fzv y), peek r3 z with
      | some e', some c => ofO (dop' e' c) r3
      | _, _ => .stuck)
    | some (.val (.bl false)) => .ok (.val (.bl false)) r2
    | _ => .stuck)
  | _, _ => Res.stuck) = _
  rw [hx, hy]
  show (match dop d e with
    | some (.val (.bl true)) => (fz (h r2)).bind fun z r3 => (match peek r3 (fzv y), peek r3 z with
      | some e', some c => ofO (dop' e' c) r3
      | _, _ => .stuck)
    | some (.val (.bl false)) => .ok (.val (.bl false)) r2
    | _ => Res.stuck) = _
  rw [h1]
  show ((fz (h r2)).bind fun z r3 => (match peek r3 (fzv y), peek r3 z with
      | some e', some c => ofO (dop' e' c) r3
      | _, _ => .stuck)) = _
  rw [z_of hh]
  show (match peek r3 (fzv y), peek r3 (fzv z) with
      | some e', some c => ofO (dop' e' c) r3
      | _, _ => Res.stuck) = _
  rw [hy2, hz]
  show ofO (dop' e' c) r3 = _
  rw [h2]; rfl
theorem v_chainF {dop dop' : D → D → Option RV} {f g h : Den} {r r1 r2 : Env} {x y : RV} {d e : D} (hf : f r = .ok x r1) (hg : g r1 = .ok y r2) (hx : peek r2 (fzv x) = some d) (hy : peek r2 (fzv y) = some e) (h1 : dop d e = some (.val (.bl false))) : eChain dop dop' f g h r = .ok (.val (.bl false)) r2 := by
  unfold eChain
  rw [z_of hf]
  show ((fz (g r1)).bind fun y r2 => _) = _
  rw [z_of hg]
  show (match peek r2 (fzv x), peek r2 (fzv y) with
  | some d, some e => (match dop d e with
    | some (.val (.bl true)) => (fz (h r2)).bind fun z r3 => (match peek r3 (fzv y), peek r3 z with
      | some e', some c => ofO (dop' e' c) r3
      | _, _ => .stuck)
    | some (.val (.bl false)) => .ok (.val (.bl false)) r2
    | _ => .stuck)
  | _, _ => Res.stuck) = _
  rw [hx, hy]
  show (match dop d e with
    | some (.val (.bl true)) => (fz (h r2)).bind fun z r3 => (match peek r3 (fzv y), peek r3 z with
      | some e', some c => ofO (dop' e' c) r3
      | _, _ => .stuck)
    | some (.val (.bl false)) => .ok (.val (.bl false)) r2
    | _ => Res.stuck) = _
  rw [h1]
theorem cle_int (i j : Int) : cleD (.int i) (.int j) = some (.val (.bl (decide (i ≤ j)))) := rfl
theorem F_between (i lo hi : Int) : F_is_between [.int i, .int lo, .int hi] = .ret (.val (.bl (decide (lo ≤ i) && decide (i ≤ hi)))) .non := by
  refine run_rt (r := [.val (.int i), .val (.int lo), .val (.int hi)]) ?_ rfl
  unfold d_is_between
  refine s_ret (v_andT (v_call (v_cons (v_val rfl) v_nil) rfl rfl (F_isint i)) ?_)
  by_cases c : lo ≤ i
  · rw [decide_eq_true c, Bool.true_and]
    exact v_chainT (v_val rfl) (v_val rfl) rfl rfl (by rw [cle_int, decide_eq_true c]) (v_val rfl) rfl rfl rfl
  · rw [decide_eq_false c, Bool.false_and]
    exact v_chainF (v_val rfl) (v_val rfl) rfl rfl (by rw [cle_int, decide_eq_false c])
theorem F_isedge (a b n : Nat) (h : a < b) (hb : b < n) : F_is_edge [pairD (a, b), .int (n : Nat)] = .ret (.val (.bl true)) .non := by
  refine run_rt (r := [.val (pairD (a, b)), .val (.int (n : Nat))]) ?_ rfl
  unfold d_is_edge
  have t : tOr' (tNot' (tOf (eFn (isiD ISI) (dCons (eVar 0) (dCons (eC (.ty "tuple")) (dNil)))))) (tBl (eBin cneD (eFn lenD (dCons (eVar 0) (dNil))) (eC (.int 2)))) [.val (pairD (a, b)), .val (.int (n : Nat))] = .ok false [.val (pairD (a, b)), .val (.int (n : Nat))] :=
    vt_orF (b := false) (vt_not (b := true) (vt_of (v_fn (v_cons (v_val rfl) (v_cons v_c v_nil)) rfl (isi_tup _)) rfl rfl)) (vt_bl (v_bin (v_fn (z := .val (.int 2)) (v_cons (v_val rfl) v_nil) rfl rfl) v_c rfl rfl rfl))
  refine s_seq (s_ifF t rfl) (s_ret ?_)
  have f1 := F_between (a : Int) 0 ((n : Int) - 1)
  have f2 := F_between (b : Int) ((a : Int) + 1) ((n : Int) - 1)
  rw [decide_eq_true (show (0 : Int) ≤ a by omega), decide_eq_true (show (a : Int) ≤ n - 1 by omega)] at f1
  rw [decide_eq_true (show (a : Int) + 1 ≤ b by omega), decide_eq_true (show (b : Int) ≤ n - 1 by omega)] at f2
  exact v_andT (v_call (v_cons (v_bin (v_val rfl) v_c rfl rfl rfl) (v_cons v_c (v_cons (v_bin (v_val rfl) v_c rfl rfl rfl) v_nil))) rfl rfl f1)
    (v_call (v_cons (v_bin (v_val rfl) v_c rfl rfl rfl) (v_cons (v_bin (v_bin (v_val rfl) v_c rfl rfl rfl) v_c rfl rfl rfl) (v_cons (v_bin (v_val rfl) v_c rfl rfl rfl) v_nil))) rfl rfl f2)
def PLt (p q : Nat × Nat) : Prop := p.1 < q.1 ∨ (p.1 = q.1 ∧ p.2 < q.2)
theorem row_mem {ms : List Nat} {a b : Nat} : b ∈ row ms a ↔ a < b ∧ b < ms.length ∧ (ms.getD a 0).testBit b = true := by
  unfold row
  rw [List.mem_filter, List.mem_map]
  constructor
  · rintro ⟨⟨k, hk, rfl⟩, h⟩
    have := List.mem_range.mp hk
    exact ⟨by omega, by omega, h⟩
  · rintro ⟨h1, h2, h3⟩
    exact ⟨⟨b - (a + 1), List.mem_range.mpr (by omega), by omega⟩, h3⟩
theorem edg_mem {ms : List Nat} {a b : Nat} : (a, b) ∈ edg ms ↔ a < b ∧ b < ms.length ∧ (ms.getD a 0).testBit b = true := by
  unfold edg
  rw [List.mem_flatMap]
  constructor
  · rintro ⟨x, hx, h⟩
    obtain ⟨y, hy, e⟩ := List.mem_map.mp h
    cases e
    exact row_mem.mp hy
  · intro h
    exact ⟨a, List.mem_range.mpr (by omega), List.mem_map.mpr ⟨b, row_mem.mpr h, rfl⟩⟩
theorem row_sorted (ms : List Nat) (a : Nat) : (row ms a).Pairwise (· < ·) := by
  unfold row
  refine List.Pairwise.filter _ ?_
  rw [List.pairwise_map]
  exact List.pairwise_lt_range.imp fun h => by omega
theorem edg_sorted (ms : List Nat) : (edg ms).Pairwise PLt := by
  unfold edg
  rw [List.pairwise_flatMap]
  refine ⟨fun a _ => ?_, List.pairwise_lt_range.imp fun {a a'} h p hp q hq => ?_⟩
  · rw [List.pairwise_map]
    exact (row_sorted ms a).imp fun h => .inr ⟨rfl, h⟩
  · obtain ⟨x, _, rfl⟩ := List.mem_map.mp hp
    obtain ⟨y, _, rfl⟩ := List.mem_map.mp hq
    exact .inl h
/-! ### sums of bits -/
theorem add_bit : ∀ (k x : Nat), x.testBit k = false → 2 ^ k + x = 2 ^ k ||| x
  | 0, x, h => by
    rw [Nat.testBit_zero, decide_eq_false_iff_not] at h
    apply Nat.eq_of_testBit_eq
    intro j
    rw [Nat.testBit_or]
    cases j with
    | zero => rw [Nat.testBit_zero, Nat.testBit_zero, Nat.testBit_zero]; simp; omega
    | succ j =>
      rw [Nat.testBit_succ, Nat.testBit_succ, Nat.testBit_succ]
      have : (2 ^ 0 + x) / 2 = x / 2 := by omega
      rw [this]; simp
  | k + 1, x, h => by
    rw [Nat.testBit_succ] at h
    have ih := add_bit k (x / 2) h
    apply Nat.eq_of_testBit_eq
    intro j
    rw [Nat.testBit_or]
    cases j with
    | zero =>
      rw [Nat.testBit_zero, Nat.testBit_zero, Nat.testBit_zero]
      have : 2 ^ (k + 1) = 2 * 2 ^ k := by rw [Nat.pow_succ, Nat.mul_comm]
      rw [this]
      have e1 : (2 * 2 ^ k + x) % 2 = x % 2 := by omega
      have e2 : (2 * 2 ^ k) % 2 = 0 := by omega
      rw [e1, e2]; simp
    | succ j =>
      rw [Nat.testBit_succ, Nat.testBit_succ, Nat.testBit_succ]
      have e : 2 ^ (k + 1) = 2 * 2 ^ k := by rw [Nat.pow_succ, Nat.mul_comm]
      have e1 : (2 ^ (k + 1) + x) / 2 = 2 ^ k + x / 2 := by omega
      have e2 : 2 ^ (k + 1) / 2 = 2 ^ k := by omega
      rw [e1, e2, ih, Nat.testBit_or]
def msum (l : List Nat) : Nat := (l.map fun k => 2 ^ k).sum
theorem msum_bit : ∀ {l : List Nat}, l.Nodup → ∀ k, (msum l).testBit k = decide (k ∈ l)
  | [], _, k => by simp [msum]
  | a :: t, h, k => by
    obtain ⟨h1, h2⟩ := List.nodup_cons.mp h
    have ih := msum_bit h2
    have e : msum (a :: t) = 2 ^ a + msum t := by simp [msum]
    rw [e, add_bit a (msum t) (by rw [ih a]; simpa using h1), Nat.testBit_or, ih k, Nat.testBit_two_pow]
    by_cases c : a = k
    · simp [c]
    · simp [c, Ne.symm c]
theorem msum_lt {n : Nat} {l : List Nat} (h : l.Nodup) (hl : ∀ x ∈ l, x < n) : msum l < 2 ^ n := by
  apply Nat.lt_pow_two_of_testBit
  intro i hi
  rw [msum_bit h]
  simp only [decide_eq_false_iff_not]
  intro m
  have := hl i m
  omega

/-! ### graphs told by masks -/
abbrev adj (ms : List Nat) (a b : Nat) : Bool := ms[a]!.testBit b
structure GM (ms : List Nat) : Prop where
  sym : ∀ a b, adj ms a b = adj ms b a
  irr : ∀ a, adj ms a a = false
theorem adj_out {ms : List Nat} {a b : Nat} (h : ms.length ≤ a) : adj ms a b = false := by
  unfold adj
  rw [getElem!_neg ms a (by omega)]
  exact Nat.zero_testBit b
theorem adj_lt {ms : List Nat} {a b : Nat} (h : adj ms a b = true) : a < ms.length := by
  by_cases c : a < ms.length
  · exact c
  · rw [adj_out (by omega)] at h; cases h
theorem GM.lt2 {ms : List Nat} (g : GM ms) {a b : Nat} (h : adj ms a b = true) : b < ms.length := adj_lt (by rw [g.sym]; exact h)
theorem GM.ne {ms : List Nat} (g : GM ms) {a b : Nat} (h : adj ms a b = true) : a ≠ b := fun e => by
  rw [e, g.irr] at h; cases h
theorem gm_of {n : Nat} {E : Nat → Nat → Prop} {ms : List Nat} (g : Gr n E) (nr : Near n E ms) : GM ms := by
  have key : ∀ a b, adj ms a b = true ↔ E a b := by
    intro a b
    by_cases c : a < ms.length
    · have := nr.bit a c b
      rw [← this]
      unfold adj
      rw [getElem!_pos ms a c]
    · rw [adj_out (by omega)]
      simp only [Bool.false_eq_true, false_iff]
      intro h
      have := g.lt a b h
      have := nr.len
      omega
  refine ⟨fun a b => ?_, fun a => ?_⟩
  · apply Bool.eq_iff_iff.mpr
    rw [key, key]
    exact ⟨g.sym a b, g.sym b a⟩
  · cases q : adj ms a a with
    | false => rfl
    | true => exact (g.irr a ((key a a).mp q)).elim
theorem getD_em (ms : List Nat) (a : Nat) : ms.getD a 0 = ms[a]! := by
  rw [List.getElem!_eq_getElem?_getD, List.getD_eq_getElem?_getD]; rfl
theorem edg_adj {ms : List Nat} (g : GM ms) {a b : Nat} : (a, b) ∈ edg ms ↔ a < b ∧ adj ms a b = true := by
  rw [edg_mem, getD_em]
  constructor
  · intro h; exact ⟨h.1, h.2.2⟩
  · intro h; exact ⟨h.1, g.lt2 h.2, h.2⟩
theorem edg_lt {ms : List Nat} {p : Nat × Nat} (h : p ∈ edg ms) : p.1 < p.2 ∧ p.2 < ms.length := by
  obtain ⟨a, b⟩ := p
  have := edg_mem.mp h
  exact ⟨this.1, this.2.1⟩
theorem x_isint (i : Int) : F_is_integer [.int i] = .ret (.val (.bl true)) .non := by
  apply wF_eq
  unfold F_is_integer; rw [w_run]; unfold d_is_integer; simp! only [isi_int, isi_bool]
theorem x_between (i lo hi : Int) : F_is_between [.int i, .int lo, .int hi] = .ret (.val (.bl (decide (lo ≤ i) && decide (i ≤ hi)))) .non := by
  apply wF_eq
  unfold F_is_between; rw [w_run]; unfold d_is_between; simp! only [x_isint]
  refine wIf_dec (fun h => ?_) fun h => ?_
  · simp! only []
    simp [h]
  · simp! only []
    simp [h]
theorem x_isedge (a b n : Nat) : F_is_edge [pairD (a, b), .int (n : Nat)] = .ret (.val (.bl (decide (a < b ∧ b < n)))) .non := by
  apply wF_eq
  unfold F_is_edge; rw [w_run]; unfold d_is_edge; simp! only [isi_tup, x_between]
  refine wIf_b (fun h => ?_) fun h => ?_
  · simp! only [x_between]
    simp only [Bool.and_eq_true, decide_eq_true_eq] at h
    congr 2
    apply Bool.eq_iff_iff.mpr
    simp only [Bool.and_eq_true, decide_eq_true_eq]
    omega
  · simp! only [x_between]
    simp only [Bool.and_eq_false_iff, decide_eq_false_iff_not] at h
    congr 2
    symm
    rw [decide_eq_false_iff_not]
    omega
theorem le_pp (p q : Nat × Nat) : cleD (pairD p) (pairD q) = some (.val (.bl (decide (p.1 < q.1 ∨ (p.1 = q.1 ∧ p.2 ≤ q.2))))) := by
  show some (RV.val (.bl (!HT.lexLt [(q.1 : Int), (q.2 : Int)] [(p.1 : Int), (p.2 : Int)]))) = _
  congr 3
  rw [HT.lexLt_cons, HT.lexLt_cons, HT.lexLt_nil_nil]
  by_cases c : (q.1 : Int) = p.1
  · rw [if_pos c]
    by_cases c2 : (q.2 : Int) = p.2
    · rw [if_pos c2]
      simp only [Bool.not_false]
      symm
      rw [decide_eq_true_eq]
      omega
    · rw [if_neg c2]
      apply Bool.eq_iff_iff.mpr
      simp only [Bool.not_eq_true', decide_eq_false_iff_not, decide_eq_true_eq]
      omega
  · rw [if_neg c]
    apply Bool.eq_iff_iff.mpr
    simp only [Bool.not_eq_true', decide_eq_false_iff_not, decide_eq_true_eq]
    omega
theorem le_p0 (p : Nat × Nat) : cleD (pairD p) (.tup []) = some (.val (.bl false)) := rfl
/-- the place ahead -/
def aheadD (l : List ((Nat × Nat) × Nat)) : D := match l.getLast? with
  | none => .tup []
  | some x => pairD x.1
theorem ahead_snoc (l : List ((Nat × Nat) × Nat)) (x : (Nat × Nat) × Nat) : aheadD (l ++ [x]) = pairD x.1 := by
  unfold aheadD
  rw [List.getLast?_concat]
theorem zip_at {α : Type} {l : List α} {done rest : List (α × Nat)} {x : α × Nat} (h : l.zipIdx = done ++ x :: rest) : l[done.length]? = some x.1 ∧ x.2 = done.length := by
  have e : l.zipIdx[done.length]? = some x := by rw [h, List.getElem?_append_right (Nat.le_refl _), Nat.sub_self]; rfl
  rw [List.getElem?_zipIdx] at e
  cases q : l[done.length]? with
  | none => rw [q] at e; cases e
  | some y =>
    rw [q] at e
    have e := Option.some.inj e
    rw [← e]
    exact ⟨rfl, by simp⟩
theorem x_wrong (n : Nat) (es : List (Nat × Nat)) (h : ∀ p ∈ es, p.1 < p.2 ∧ p.2 < n) (hs : es.Pairwise PLt) : F_wrong_edge [.tup (es.map pairD), .int (n : Nat)] = .ret (.val .non) .non := by
  apply wF_eq
  unfold F_wrong_edge; rw [w_run]; unfold d_wrong_edge; simp! only [isi_seq]
  refine w_for _ (fun done r => ∃ s3 s4, r = [.val (.tup (es.map pairD)), .val (.int (n : Nat)), .val (aheadD done), oS s3, oS s4]) _ ⟨none, none, rfl⟩ (fun done x rest r he hr => ?_) fun r hr => ?_
  · obtain ⟨s3, s4, rfl⟩ := hr
    obtain ⟨h1, h2⟩ := zip_at he
    have m : x.1 ∈ es := List.mem_of_getElem? h1
    have hx := h _ m
    have e1 := x_isedge x.1.1 x.1.2 n
    rw [decide_eq_true hx] at e1
    have e2 : cleD (pairD x.1) (aheadD done) = some (.val (.bl false)) := by
      rcases List.eq_nil_or_concat done with rfl | ⟨d', y, rfl⟩
      · exact le_p0 _
      · rw [List.concat_eq_append, ahead_snoc, le_pp]
        congr 3
        rw [decide_eq_false_iff_not]
        rw [List.concat_eq_append] at he
        have e3 : es.zipIdx = d' ++ y :: (x :: rest) := by rw [he, List.append_assoc]; rfl
        obtain ⟨h3, h4⟩ := zip_at e3
        have : es[(d' ++ [y]).length]? = some x.1 := by rw [List.concat_eq_append] at h1; exact h1
        rw [List.length_append] at this
        obtain ⟨l1, g1⟩ := List.getElem?_eq_some_iff.mp h3
        obtain ⟨l2, g2⟩ := List.getElem?_eq_some_iff.mp this
        have := List.pairwise_iff_getElem.mp hs _ _ l1 l2 (by simp)
        rw [g1, g2] at this
        rcases this with q | q <;> omega
    simp! only [e1, e2]
    exact ⟨some _, some _, by rw [ahead_snoc]; rfl⟩
  · obtain ⟨s3, s4, rfl⟩ := hr
    simp! only []
theorem x_maskof (l : List Nat) (h : l.length ≤ 1000) (h2 : ∀ x ∈ l, x ≤ 1000) : F_mask_of [.lst (natsD l)] = .ret (.val (.int (msum l : Nat))) .non := by
  apply wF_eq
  unfold F_mask_of; rw [w_run]; unfold d_mask_of; simp! only []
  refine w_cm _ (fun k => .int ((2 ^ k : Nat) : Int)) l (by have : most = 4000000 := rfl; omega) (fun x acc hx ha => ?_) ?_
  · simp! only []
    have := h2 x hx
    simp [ha, wC]
    omega
  · have e : (l.map fun k => D.int ((2 ^ k : Nat) : Int)) = natsD (l.map fun k => 2 ^ k) := by unfold natsD; rw [List.map_map]; rfl
    simp! only [e]
    rfl

theorem natsD_snoc (l : List Nat) (x : Nat) : natsD l ++ [.int (x : Nat)] = natsD (l ++ [x]) := by unfold natsD; rw [List.map_append]; rfl
theorem nodup_le {n : Nat} {l : List Nat} (h : l.Nodup) (hl : ∀ x ∈ l, x < n) : l.length ≤ n := by
  have := h.length_le_of_subset (l₂ := List.range n) fun x hx => List.mem_range.mpr (hl x hx)
  rwa [List.length_range] at this
theorem nodup_of_lt {l : List Nat} (h : l.Pairwise (· < ·)) : l.Nodup := h.imp fun h => Nat.ne_of_lt h
/-- those joined to v, as the program tells them -/
def nbr (es : List (Nat × Nat)) (v : Nat) : List Nat := ((es.filter fun p => p.1 == v).map (·.2)) ++ ((es.filter fun p => p.2 == v).map (·.1))
theorem edg_len (ms : List Nat) (h : ms.length ≤ 100) : (edg ms).length ≤ 10000 := by
  unfold edg
  have : ∀ l : List Nat, (l.flatMap fun a => (row ms a).map fun b => (a, b)).length ≤ l.length * 100 := by
    intro l
    induction l with
    | nil => exact Nat.le_refl _
    | cons a t ih =>
      rw [List.flatMap_cons, List.length_append, List.length_map, List.length_cons]
      have := row_len ms a
      omega
  have := this (List.range ms.length)
  rw [List.length_range] at this
  omega
theorem nbr_nodup {ms : List Nat} (v : Nat) : (nbr (edg ms) v).Nodup := by
  unfold nbr
  rw [List.nodup_append]
  refine ⟨?_, ?_, ?_⟩
  · apply nodup_of_lt
    rw [List.pairwise_map, List.pairwise_filter]
    refine (edg_sorted ms).imp fun {p q} h h1 h2 => ?_
    have h1 : p.1 = v := by simpa using h1
    have h2 : q.1 = v := by simpa using h2
    rcases h with h | h <;> omega
  · apply nodup_of_lt
    rw [List.pairwise_map, List.pairwise_filter]
    refine (edg_sorted ms).imp fun {p q} h h1 h2 => ?_
    have h1 : p.2 = v := by simpa using h1
    have h2 : q.2 = v := by simpa using h2
    rcases h with h | h <;> omega
  · intro a ha b hb e
    subst e
    obtain ⟨p, hp, rfl⟩ := List.mem_map.mp ha
    obtain ⟨q, hq, e⟩ := List.mem_map.mp hb
    obtain ⟨p1, p2⟩ := List.mem_filter.mp hp
    obtain ⟨q1, q2⟩ := List.mem_filter.mp hq
    have p2 : p.1 = v := by simpa using p2
    have q2 : q.2 = v := by simpa using q2
    have := edg_lt p1
    have := edg_lt q1
    omega
theorem nbr_mem {ms : List Nat} (g : GM ms) {v k : Nat} : k ∈ nbr (edg ms) v ↔ adj ms v k = true := by
  unfold nbr
  rw [List.mem_append, List.mem_map, List.mem_map]
  constructor
  · rintro (⟨p, hp, rfl⟩ | ⟨p, hp, rfl⟩)
    · obtain ⟨p1, p2⟩ := List.mem_filter.mp hp
      have p2 : p.1 = v := by simpa using p2
      have := (edg_adj g (a := p.1) (b := p.2)).mp p1
      rw [← p2]; exact this.2
    · obtain ⟨p1, p2⟩ := List.mem_filter.mp hp
      have p2 : p.2 = v := by simpa using p2
      have := (edg_adj g (a := p.1) (b := p.2)).mp p1
      rw [← p2, g.sym]; exact this.2
  · intro h
    have ne := g.ne h
    by_cases c : v < k
    · exact .inl ⟨(v, k), List.mem_filter.mpr ⟨(edg_adj g).mpr ⟨c, h⟩, by simp⟩, rfl⟩
    · exact .inr ⟨(k, v), List.mem_filter.mpr ⟨(edg_adj g).mpr ⟨by omega, by rw [g.sym]; exact h⟩, by simp⟩, rfl⟩
theorem msum_nbr {ms : List Nat} (g : GM ms) (v : Nat) : msum (nbr (edg ms) v) = ms[v]! := by
  apply Nat.eq_of_testBit_eq
  intro k
  rw [msum_bit (nbr_nodup v)]
  apply Bool.eq_iff_iff.mpr
  rw [decide_eq_true_eq, nbr_mem g]
theorem list_em (ms : List Nat) : (List.range ms.length).map (fun v => ms[v]!) = ms := by
  apply List.ext_getElem
  · simp
  · intro i h1 h2
    rw [List.getElem_map, List.getElem_range, getElem!_pos ms i h2]
theorem x_masksof (ms : List Nat) (g : GM ms) (hn : ms.length ≤ 100) : F_masks_of [.int (ms.length : Nat), .tup ((edg ms).map pairD)] = .ret (.val (.tup (natsD ms))) .non := by
  apply wF_eq
  have el := edg_len ms hn
  unfold F_masks_of; rw [w_run]; unfold d_masks_of; simp! only []
  refine wC_of (big_ok (by omega) (by omega)) ?_
  refine w_rn _ (fun k r => ∃ s3, r = [.val (.int (ms.length : Nat)), .val (.tup ((edg ms).map pairD)), .own (.lst (natsD ((List.range k).map fun v => ms[v]!))), oS s3, .un, .un]) ⟨none, rfl⟩ (fun k r hk hr => ?_) fun r hr => ?_
  · obtain ⟨s3, rfl⟩ := hr
    simp! only []
    refine w_cp _ (fun p => p.1 == k) (fun p => .int (p.2 : Nat)) (edg ms) (by have : most = 4000000 := rfl; omega) (fun p acc hp ha => ?_) ?_
    · simp! only []
      refine wIf_dec (fun c => ?_) fun c => ?_
      · have c' : p.1 = k := by omega
        simp! only []
        simp [wC, ha, c']
      · have c' : ¬ p.1 = k := by omega
        simp! only []
        simp [c']
    simp! only []
    refine w_cp _ (fun p => p.2 == k) (fun p => .int (p.1 : Nat)) (edg ms) (by have : most = 4000000 := rfl; omega) (fun p acc hp ha => ?_) ?_
    · simp! only []
      refine wIf_dec (fun c => ?_) fun c => ?_
      · have c' : p.2 = k := by omega
        simp! only []
        simp [wC, ha, c']
      · have c' : ¬ p.2 = k := by omega
        simp! only []
        simp [c']
    have l1 := List.length_filter_le (fun p : Nat × Nat => p.1 == k) (edg ms)
    have l2 := List.length_filter_le (fun p : Nat × Nat => p.2 == k) (edg ms)
    have e : ((edg ms).filter fun p => p.1 == k).map (fun p => D.int (p.2 : Nat)) ++ ((edg ms).filter fun p => p.2 == k).map (fun p => D.int (p.1 : Nat)) = natsD (nbr (edg ms) k) := by
      unfold natsD nbr
      rw [List.map_append, List.map_map, List.map_map]; rfl
    have nl : (nbr (edg ms) k).length ≤ 1000 := by
      have := nodup_le (nbr_nodup (ms := ms) k) fun x hx => g.lt2 ((nbr_mem g).mp hx)
      omega
    have x := x_maskof (nbr (edg ms) k) nl fun x hx => by have := g.lt2 ((nbr_mem g).mp hx); omega
    rw [msum_nbr g] at x
    simp! only [e, x]
    refine wC_dec (by omega) (wC_dec (lt_most (by omega)) ⟨some (.int (k : Nat)), ?_⟩)
    rw [List.range_succ, List.map_append, natsD_snoc]; rfl
  · obtain ⟨s3, rfl⟩ := hr
    simp! only [list_em]

/-- a graph of the program -/
def graphD (ms : List Nat) : D := .obj "Graph" ["size", "edges", "vertices", "masks"] [.int (ms.length : Nat), .tup ((edg ms).map pairD), .tup (natsD (List.range ms.length)), .tup (natsD ms)]
theorem gf_size (ms : List Nat) : fldO "Graph" "size" (graphD ms) = some (.val (.int (ms.length : Nat))) := by rfl
theorem gf_edges (ms : List Nat) : fldO "Graph" "edges" (graphD ms) = some (.val (.tup ((edg ms).map pairD))) := by rfl
theorem gf_vertices (ms : List Nat) : fldO "Graph" "vertices" (graphD ms) = some (.val (.tup (natsD (List.range ms.length)))) := by rfl
theorem gf_masks (ms : List Nat) : fldO "Graph" "masks" (graphD ms) = some (.val (.tup (natsD ms))) := by rfl
theorem pn_0 (f : Str) : putN f [] = [f] := rfl
theorem pv_0 (f : Str) (d : D) : putV f d [] [] = [d] := rfl
theorem pn_1 : putN "edges" ["size"] = (["size", "edges"] : List Str) := by rfl
theorem pn_2 : putN "vertices" ["size", "edges"] = (["size", "edges", "vertices"] : List Str) := by rfl
theorem pn_3 : putN "masks" ["size", "edges", "vertices"] = (["size", "edges", "vertices", "masks"] : List Str) := by rfl
theorem pv_1 (a b : D) : putV "edges" b ["size"] [a] = [a, b] := by rfl
theorem pv_2 (a b c : D) : putV "vertices" c ["size", "edges"] [a, b] = [a, b, c] := by rfl
theorem pv_3 (a b c d : D) : putV "masks" d ["size", "edges", "vertices"] [a, b, c] = [a, b, c, d] := by rfl
theorem x_graph (ms : List Nat) (g : GM ms) (h1 : 1 ≤ ms.length) (hn : ms.length ≤ 24) : F_Graph___init__ [.obj "Graph" [] [], .int (ms.length : Nat), .tup ((edg ms).map pairD)] = .ret (.val .non) (graphD ms) := by
  apply wF_eq
  have e1 := x_between (ms.length : Nat) 1 24
  rw [decide_eq_true (show (1 : Int) ≤ (ms.length : Nat) by omega), decide_eq_true (show ((ms.length : Nat) : Int) ≤ 24 by omega)] at e1
  have e2 := x_wrong ms.length (edg ms) (fun p hp => edg_lt hp) (edg_sorted ms)
  have e3 := x_masksof ms g (by omega)
  unfold F_Graph___init__; rw [w_run]; unfold d_Graph___init__; simp! only [e1, e2, e3, o_trb, pn_0, pn_1, pn_2, pn_3, pv_0, pv_1, pv_2, pv_3]
  refine wC_dec (by omega) ?_
  rw [rangeD_nat]; rfl
theorem wF_ex {x : FRes} {P : RV → D → Prop} (h : wF x P fun _ _ => False) : ∃ v o, x = .ret v o ∧ P v o := by
  cases x with
  | ret v o => exact ⟨v, o, rfl, h⟩
  | exc e o => exact h.elim
  | stuck => exact h.elim
/-! ### bits of a mask -/
def bitsOf (m : Nat) : List Nat := (List.range (Builtin.Int.intBits (m : Nat))).filter fun k => m.testBit k
theorem bitsOf_mem {m k : Nat} : k ∈ bitsOf m ↔ m.testBit k = true := by
  unfold bitsOf
  rw [List.mem_filter, List.mem_range]
  constructor
  · exact fun h => h.2
  · intro h
    refine ⟨?_, h⟩
    apply Nat.lt_of_not_le
    intro c
    have lt : m < 2 ^ k := Nat.lt_of_lt_of_le (show m < 2 ^ Builtin.Int.intBits (m : Nat) by
      have := PySem.intBits_le_iff.mp (Nat.le_refl (Builtin.Int.intBits (m : Nat)))
      rwa [Int.natAbs_natCast] at this) (Nat.pow_le_pow_right (by decide) c)
    rw [Nat.testBit_lt_two_pow lt] at h
    cases h
theorem bit1 (a k : Nat) : ((a >>> k &&& 1 : Nat) : Int) = 1 ↔ a.testBit k = true := by
  rw [Nat.testBit, Nat.and_comm, bne_iff_ne]
  have : (1 &&& (a >>> k)) ≤ 1 := Nat.and_le_left
  constructor <;> intro h <;> omega
theorem bitsOf_le {m n : Nat} (h : m < 2 ^ n) : Builtin.Int.intBits (m : Nat) ≤ n := bits_nat m n h
theorem bitsOf_lt (m : Nat) : (bitsOf m).Pairwise (· < ·) := List.pairwise_lt_range.filter _
theorem gm_mask {ms : List Nat} (g : GM ms) (a : Nat) : ms[a]! < 2 ^ ms.length := by
  apply Nat.lt_pow_two_of_testBit
  intro i hi
  cases q : ms[a]!.testBit i with
  | false => rfl
  | true => have := g.lt2 (a := a) (b := i) q; omega
theorem gm_mask2 {ms : List Nat} (g : GM ms) (hn : ms.length ≤ 100) (a : Nat) : ms[a]! < 2 ^ 1000 := Nat.lt_of_lt_of_le (gm_mask g a) (Nat.pow_le_pow_right (by decide) (by omega))

theorem rangeD2 (a n : Nat) : rangeD (a : Nat) (n : Nat) = (List.range (n - a)).map fun k : Nat => D.int ((a + k : Nat) : Int) := by
  unfold rangeD
  have e : ((n : Int) - (a : Int)).toNat = n - a := by omega
  rw [e]
  refine List.map_congr_left fun k _ => ?_
  rw [Int.natCast_add]
theorem x_edges (ms : List Nat) (hn : ms.length ≤ 100) : F__law_edges [.lst (natsD ms)] = .ret (.val (.tup ((edg ms).map pairD))) .non := by
  have el : ∀ k, k ≤ 100 → ((List.range k).flatMap fun a => (row ms a).map fun b => (a, b)).length ≤ k * 100 := by
    intro k
    induction k with
    | zero => intro _; exact Nat.le_refl _
    | succ k ih =>
      intro hk
      have := ih (by omega)
      have := row_len ms k
      rw [List.range_succ, List.flatMap_append, List.length_append]
      simp only [List.flatMap_cons, List.flatMap_nil, List.append_nil, List.length_map]
      omega
  apply wF_eq
  unfold F__law_edges; rw [w_run]; unfold d__law_edges; simp! only []
  refine wC_of (big_ok (by omega) (by omega)) ?_
  refine w_rn _ (fun k r => ∃ s2, r = [.val (.lst (natsD ms)), .val (.lst (((List.range k).flatMap fun a => (row ms a).map fun b => (a, b)).map pairD)), oS s2, .un]) ⟨none, rfl⟩ (fun k r hk hr => ?_) fun r hr => ?_
  · obtain ⟨s2, rfl⟩ := hr
    simp! only []
    refine wC_of (big_ok (by omega) (by omega)) (wC_of (big_ok (by omega) (by omega)) ?_)
    rw [show ((k : Nat) : Int) + 1 = ((k + 1 : Nat) : Int) from rfl, rangeD2]
    refine w_cp _ (fun j => ms[k]!.testBit (k + 1 + j)) (fun j => pairD (k, k + 1 + j)) (List.range (ms.length - (k + 1))) (by rw [List.length_range]; exact Nat.le_of_lt (lt_most (by omega))) (fun j acc hj ha => ?_) ?_
    · simp! only []
      refine wC_dec (by omega) (wIf_dec (fun c => ?_) fun c => ?_)
      · have c := (bit1 _ _).mp c
        simp! only []
        simp only [c]
        simp [wC, ha]
      · have c : ¬ ms[k]!.testBit (k + 1 + j) = true := fun z => c ((bit1 _ _).mpr z)
        simp! only []
        simp only [c]
        simp
    · have e : ((List.range (ms.length - (k + 1))).filter fun j => ms[k]!.testBit (k + 1 + j)).map (fun j => pairD (k, k + 1 + j)) = ((row ms k).map fun b => (k, b)).map pairD := by
        unfold row
        rw [List.filter_map, List.map_map, List.map_map, getD_em]
        rfl
      have l1 := el k (by omega)
      have l2 := row_len ms k
      simp! only [e]
      refine wC_dec (by omega) ⟨some (.int (k : Nat)), ?_⟩
      rw [List.range_succ, List.flatMap_append]
      simp only [List.flatMap_cons, List.flatMap_nil, List.append_nil]
      rw [List.map_append (l₁ := (List.range k).flatMap fun a => (row ms a).map fun b => (a, b))]
      rfl
  · obtain ⟨s2, rfl⟩ := hr
    simp! only []
    rfl
def wFn (x : RV) (K : Str → Prop) (_u : Tg K 0 := ⟨⟩) : Prop := match x with
  | .val (.fn g) => K g
  | _ => False
theorem wFn_fn (g : Str) (K : Str → Prop) : wFn (.val (.fn g)) K = K g := rfl
theorem w_callv {K : RV → Env → Prop} {X : Ex → Env → Prop} {r : Env} {i : Nat} {l : DenL} {tab : FnTab} : wE (eCallV i tab l r) K X = wSl r[i]? i r fun x _ => wFn x fun g => wO (tab g) fun t => wE (eCall none t.2.2 t.1 0 t.2.1 [] l dNil r) K X := by
  unfold eCallV wSl
  cases r[i]? with
  | none => rfl
  | some s => cases s with
    | val d => cases d with
      | fn g =>
        show wE (match tab g with | some (n, p, F) => eCall none F n 0 p [] l dNil r | none => .stuck) K X = wO (tab g) _
        cases tab g <;> rfl
      | _ => rfl
    | _ => rfl
theorem Rp.str {s : Str} (h : s.cps.toList.all (fun c => decide (c < 16 ^ 8)) = true) : Rp s.cps.size 0 (.str s) := ⟨⟨.str s, rfl, by simpa only [PyData.leavesShort] using h, rfl, Nat.le_refl _, Nat.le_refl _⟩⟩
theorem in_nats (a : Nat) (l : List Nat) : cinD (.int (a : Nat)) (.tup (natsD l)) = some (.val (.bl (decide (a ∈ l)))) := by
  have fl : (natsD l).all flatD = true := by
    rw [List.all_eq_true]
    intro d hd
    obtain ⟨b, _, rfl⟩ := List.mem_map.mp hd
    rfl
  have e : inD (.int (a : Nat)) (.tup (natsD l)) = some ((natsD l).any fun y => eqF y (.int (a : Nat))) := if_pos ⟨rfl, fl⟩
  unfold cinD
  rw [e]
  show some (RV.val (.bl ((natsD l).any fun y => eqF y (.int (a : Nat))))) = _
  congr 3
  apply Bool.eq_iff_iff.mpr
  rw [List.any_eq_true, decide_eq_true_eq]
  constructor
  · rintro ⟨d, hd, h⟩
    obtain ⟨b, hb, rfl⟩ := List.mem_map.mp hd
    have h : ((b : Int) == (a : Int)) = true := h
    have h : (b : Int) = (a : Int) := by simpa using h
    have : b = a := by omega
    rw [← this]; exact hb
  · intro h
    exact ⟨_, List.mem_map.mpr ⟨a, h, rfl⟩, by show ((a : Int) == (a : Int)) = true; simp⟩
theorem cut_take (l : List Nat) (k : Nat) (h : k ≤ l.length) : sliceD none (some (k : Int)) (.tup (natsD l)) = some (.val (.tup (natsD (l.take k)))) := by
  show some (RV.val (.tup (cutD (natsD l) none (some (k : Int))))) = _
  congr 3
  unfold cutD natsD
  rw [HT.sIx_none, HT.sIx_nat, List.length_map, List.drop_zero, Nat.min_eq_left h, Nat.sub_zero, List.map_take]
theorem rp_nats {l : List Nat} (h : l.length ≤ 1000) (h2 : ∀ x ∈ l, x ≤ 999999) : ∃ s, reprD [.tup (natsD l)] = some (.val (.str s)) := by
  have r := Rp.tup (b := 0) (k := 0) (ds := natsD l) fun d hd => by
    obtain ⟨x, hx, rfl⟩ := List.mem_map.mp hd
    have := h2 x hx
    exact Rp.nat (by omega)
  have e : (natsD l).length = l.length := by unfold natsD; rw [List.length_map]
  exact r.ok (by omega) (by decide)
theorem x_box (ns : List Int) (h : ns.length ≤ 63) : F__law_box [.scr ns] = .ret (.own (bx ns 0 0 0)) .non := by
  apply wF_eq
  have it : itemsD (.scr ns) = some (ns.map D.int) := rfl
  unfold F__law_box; rw [w_run]; unfold d__law_box; simp! only [it]
  refine w_cm _ (fun i => .int i) ns (Nat.le_of_lt (lt_most (by omega))) (fun x acc _ ha => ?_) ?_
  · simp! only []
    simp [wC, ha]
  · simp! only []
/-! ### graphs that are made, told by their masks; one edge changed -/
def MakesG (n : Nat) (x : FRes) : Prop := ∃ ms box', GM ms ∧ ms.length = n ∧ IsBox box' ∧ x = .ret (.own (.lst (natsD ms))) box'
theorem Makes.g {n : Nat} {box : D} {x : FRes} (m : Makes n box x) : MakesG n x := by
  obtain ⟨E, ms, box', gr, nr, hb, e⟩ := m
  exact ⟨ms, box', gm_of gr nr, nr.len, hb, e⟩
def flip (ms : List Nat) (a b : Nat) : List Nat := (ms.set a (ms[a]! ^^^ 2 ^ b)).set b ((ms.set a (ms[a]! ^^^ 2 ^ b))[b]! ^^^ 2 ^ a)
theorem gsn (ms : List Nat) (v : Nat) (x : Nat) (hv : v < ms.length) (u : Nat) : (ms.set v x)[u]! = if u = v then x else ms[u]! := by
  by_cases c : u = v
  · subst c
    rw [if_pos rfl, getElem!_pos _ u (by rw [List.length_set]; exact hv), List.getElem_set_self]
  · rw [if_neg c]
    by_cases h : u < ms.length
    · rw [getElem!_pos _ u (by rw [List.length_set]; exact h), getElem!_pos _ u h, List.getElem_set_ne (Ne.symm c)]
    · rw [getElem!_neg _ u (by rw [List.length_set]; exact h), getElem!_neg _ u h]
theorem flip_adj {ms : List Nat} {a b : Nat} (ha : a < ms.length) (hb : b < ms.length) (ne : a ≠ b) (u w : Nat) : adj (flip ms a b) u w = (adj ms u w ^^ (decide (u = a ∧ w = b) || decide (u = b ∧ w = a))) := by
  unfold adj flip
  rw [gsn _ _ _ (by rw [List.length_set]; exact hb), gsn _ _ _ ha, gsn _ _ _ ha, if_neg (Ne.symm ne)]
  by_cases cb : u = b
  · rw [if_pos cb, Nat.testBit_xor, Nat.testBit_two_pow, cb]
    have e1 : decide (b = a ∧ w = b) = false := decide_eq_false fun z => ne z.1.symm
    have e2 : decide (b = b ∧ w = a) = decide (a = w) := decide_eq_decide.mpr ⟨fun z => z.2.symm, fun z => ⟨rfl, z.symm⟩⟩
    rw [e1, e2, Bool.false_or]
  · rw [if_neg cb]
    have e2 : decide (u = b ∧ w = a) = false := decide_eq_false fun z => cb z.1
    rw [e2, Bool.or_false]
    by_cases ca : u = a
    · rw [if_pos ca, Nat.testBit_xor, Nat.testBit_two_pow, ca]
      have e1 : decide (a = a ∧ w = b) = decide (b = w) := decide_eq_decide.mpr ⟨fun z => z.2.symm, fun z => ⟨rfl, z.symm⟩⟩
      rw [e1]
    · rw [if_neg ca]
      have e1 : decide (u = a ∧ w = b) = false := decide_eq_false fun z => ca z.1
      rw [e1, Bool.xor_false]
theorem flip_gm {ms : List Nat} (g : GM ms) {a b : Nat} (ha : a < ms.length) (hb : b < ms.length) (ne : a ≠ b) : GM (flip ms a b) := by
  refine ⟨fun u w => ?_, fun u => ?_⟩
  · rw [flip_adj ha hb ne, flip_adj ha hb ne, g.sym u w, Bool.or_comm]
    have e1 : decide (u = b ∧ w = a) = decide (w = a ∧ u = b) := decide_eq_decide.mpr And.comm
    have e2 : decide (u = a ∧ w = b) = decide (w = b ∧ u = a) := decide_eq_decide.mpr And.comm
    rw [e1, e2]
  · rw [flip_adj ha hb ne, g.irr]
    have e1 : decide (u = a ∧ u = b) = false := decide_eq_false fun z => ne (z.1.symm.trans z.2)
    have e2 : decide (u = b ∧ u = a) = false := decide_eq_false fun z => ne (z.2.symm.trans z.1)
    rw [e1, e2]; rfl
theorem flip_len (ms : List Nat) (a b : Nat) : (flip ms a b).length = ms.length := by unfold flip; rw [List.length_set, List.length_set]
theorem o_setN {l : List Nat} {i : Int} {v : Nat} {K : D → Prop} : wO (setD (.lst (natsD l)) (.int i) (.int (v : Nat))) K = wIx l.length i fun k => K (.lst (natsD (l.set k v))) := o_setm (e := fun k : Nat => D.int (k : Nat)) (v := v)
theorem last_mem {l : List Nat} (h : 0 < l.length) : l[l.length - 1]! ∈ l := by
  rw [getElem!_pos l _ (by omega)]
  exact List.getElem_mem _
theorem drop_last {l : List Nat} (h : 0 < l.length) : l = l.dropLast ++ [l[l.length - 1]!] := by
  have e : l ≠ [] := by intro z; rw [z] at h; cases h
  rw [getElem!_pos l _ (by omega), ← List.getLast_eq_getElem e]
  exact (List.dropLast_concat_getLast e).symm
theorem get_app {l : List Nat} {x i : Nat} : (l ++ [x])[i]! = if i < l.length then l[i]! else if i = l.length then x else 0 := by
  by_cases c : i < l.length
  · rw [if_pos c, getElem!_pos _ i (by simp; omega), getElem!_pos _ i c, List.getElem_append_left c]
  · rw [if_neg c]
    by_cases c2 : i = l.length
    · subst c2
      rw [if_pos rfl, getElem!_pos _ _ (by simp)]; simp
    · rw [if_neg c2, getElem!_neg _ i (by simp; omega)]; rfl
theorem rev_take {α : Type} (xs : List α) (m : Nat) (h : m ≤ xs.length) : (List.range m).filterMap (xs[·]?) = xs.take m := by
  have := PySem.pick_run xs.toArray 0 m
  simp only [Nat.zero_add, List.map_id', List.getElem?_toArray, List.drop_zero] at this
  exact this
theorem pick_m2 (xs : List D) (h : 0 < xs.length) : pickD xs (some (-2)) none (some (-1)) = xs.dropLast.reverse := by
  unfold pickD
  have e : sliceBounds (some (-2)) none (some (-1)) xs.length = (((xs.length - 1 : Nat) : Int) - 1, -1, -1) := by
    unfold sliceBounds
    simp only [Option.getD_some]
    simp
    omega
  rw [e]
  show (sliceRange (((xs.length - 1 : Nat) : Int) - 1) (-1) (-1)).filterMap _ = _
  rw [PySem.W.krv_sliceRange, PySem.W.krv_range, List.filterMap_reverse, rev_take _ _ (by omega), List.dropLast_eq_take]
theorem natsD_app (a b : List Nat) : natsD a ++ natsD b = natsD (a ++ b) := by unfold natsD; rw [List.map_append]
theorem get_drop {l : List Nat} {i : Nat} (hi : i < l.length - 1) : l.dropLast[i]! = l[i]! := by
  rw [getElem!_pos _ i (by rw [List.length_dropLast]; exact hi), getElem!_pos _ i (by omega), List.getElem_dropLast]
theorem get_app2 {l m : List Nat} {i : Nat} : (l ++ m)[i]! = if i < l.length then l[i]! else m[i - l.length]! := by
  by_cases c : i < l.length
  · rw [if_pos c, getElem!_pos _ i (by simp; omega), getElem!_pos _ i c, List.getElem_append_left c]
  · rw [if_neg c]
    by_cases c2 : i < l.length + m.length
    · rw [getElem!_pos _ i (by simp; omega), getElem!_pos _ _ (by omega), List.getElem_append_right (by omega)]
    · rw [getElem!_neg _ i (by simp; omega), getElem!_neg _ _ (by omega)]
theorem get_rev {l : List Nat} {i : Nat} (h : i < l.length) : l.reverse[i]! = l[l.length - 1 - i]! := by
  rw [getElem!_pos _ i (by simp; omega), getElem!_pos _ _ (by omega), List.getElem_reverse]
/-! ### more on bits -/
theorem add_disj : ∀ (n a b : Nat), a < 2 ^ n → (∀ k, ¬ (a.testBit k = true ∧ b.testBit k = true)) → a + b = a ||| b
  | 0, a, b, h, _ => by
    have : a = 0 := by simpa using h
    subst this; simp
  | n + 1, a, b, h, hd => by
    have ih := add_disj n (a / 2) (b / 2) (by rw [Nat.pow_succ] at h; omega) fun k hk => hd (k + 1) (by rw [Nat.testBit_succ, Nat.testBit_succ]; exact hk)
    have h0 := hd 0
    rw [Nat.testBit_zero, Nat.testBit_zero, decide_eq_true_eq, decide_eq_true_eq] at h0
    apply Nat.eq_of_testBit_eq
    intro j
    rw [Nat.testBit_or]
    cases j with
    | zero =>
      rw [Nat.testBit_zero, Nat.testBit_zero, Nat.testBit_zero]
      apply Bool.eq_iff_iff.mpr
      simp only [decide_eq_true_eq, Bool.or_eq_true]
      omega
    | succ j =>
      rw [Nat.testBit_succ, Nat.testBit_succ, Nat.testBit_succ]
      have e : (a + b) / 2 = a / 2 + b / 2 := by omega
      rw [e, ih, Nat.testBit_or]
def andn (a b : Nat) : Nat := a ^^^ (a &&& b)
theorem andn_bit (a b k : Nat) : (andn a b).testBit k = (a.testBit k && !b.testBit k) := by
  unfold andn
  rw [Nat.testBit_xor, Nat.testBit_and]
  cases a.testBit k <;> cases b.testBit k <;> rfl
theorem andn_add (a b : Nat) : andn a b + (a &&& b) = a := by
  rw [add_disj (andn a b) _ _ Nat.lt_two_pow_self fun k hk => by
    rw [andn_bit, Nat.testBit_and] at hk
    revert hk
    cases a.testBit k <;> cases b.testBit k <;> simp]
  apply Nat.eq_of_testBit_eq
  intro k
  rw [Nat.testBit_or, andn_bit, Nat.testBit_and]
  cases a.testBit k <;> cases b.testBit k <;> rfl
theorem xor_add (a b : Nat) : (a ^^^ b) + (a &&& b) = a ||| b := by
  rw [add_disj (a ^^^ b) _ _ Nat.lt_two_pow_self fun k hk => by
    rw [Nat.testBit_xor, Nat.testBit_and] at hk
    revert hk
    cases a.testBit k <;> cases b.testBit k <;> simp]
  apply Nat.eq_of_testBit_eq
  intro k
  rw [Nat.testBit_or, Nat.testBit_xor, Nat.testBit_and, Nat.testBit_or]
  cases a.testBit k <;> cases b.testBit k <;> rfl
theorem bandn (a b : Nat) : Builtin.bitAnd (a : Int) (Builtin.bitNot (b : Int)) = ((andn a b : Nat) : Int) := by
  have h : ¬ (0 : Int) ≤ Builtin.bitNot (b : Int) := by unfold Builtin.bitNot; omega
  unfold Builtin.bitAnd
  rw [decide_eq_true (Int.natCast_nonneg a), decide_eq_false h]
  show (a : Int) - (((a : Int).toNat &&& (Builtin.bitNot (Builtin.bitNot (b : Int))).toNat : Nat) : Int) = _
  rw [bnotnot, Int.toNat_natCast, Int.toNat_natCast]
  have := andn_add a b
  omega
theorem bxorN (a b : Nat) : Builtin.bitXor (a : Int) (b : Int) = ((a ^^^ b : Nat) : Int) := by
  unfold Builtin.bitXor
  rw [boN, bnN]
  have := xor_add a b
  omega
theorem full_bit (n k : Nat) : (2 ^ n - 1).testBit k = decide (k < n) := Nat.testBit_two_pow_sub_one n k
theorem pred_pow (n : Nat) : ((2 ^ n : Nat) : Int) - 1 = ((2 ^ n - 1 : Nat) : Int) := by
  have := Nat.one_le_two_pow (n := n)
  omega
theorem sub_bit {a v : Nat} (h : a.testBit v = true) : (a : Int) - ((2 ^ v : Nat) : Int) = ((andn a (2 ^ v) : Nat) : Int) := by
  have e : a &&& 2 ^ v = 2 ^ v := by
    apply Nat.eq_of_testBit_eq
    intro k
    rw [Nat.testBit_and, Nat.testBit_two_pow]
    by_cases c : v = k
    · subst c; simp [h]
    · simp [c]
  have := andn_add a (2 ^ v)
  rw [e] at this
  omega
theorem andn1_bit (a v k : Nat) : (andn a (2 ^ v)).testBit k = (a.testBit k && !decide (v = k)) := by rw [andn_bit, Nat.testBit_two_pow]
theorem eq_zero_bits {a : Nat} : a = 0 ↔ ∀ k, a.testBit k = false := by
  constructor
  · intro h k; rw [h]; exact Nat.zero_testBit k
  · intro h
    apply Nat.eq_of_testBit_eq
    intro k
    rw [h k, Nat.zero_testBit]
theorem eq_bits {a b : Nat} : a = b ↔ ∀ k, a.testBit k = b.testBit k := ⟨fun h k => by rw [h], Nat.eq_of_testBit_eq⟩
theorem lt_bits {a n : Nat} (h : ∀ k, a.testBit k = true → k < n) : a < 2 ^ n := by
  apply Nat.lt_pow_two_of_testBit
  intro i hi
  cases q : a.testBit i with
  | false => rfl
  | true => have := h i q; omega
theorem bitsOf_nil {m : Nat} (h : bitsOf m = []) : m = 0 := eq_zero_bits.mpr fun k => by
  cases q : m.testBit k with
  | false => rfl
  | true => have := bitsOf_mem.mpr q; rw [h] at this; cases this
theorem bitsOf_nodup (m : Nat) : (bitsOf m).Nodup := nodup_of_lt (bitsOf_lt m)
theorem nodup_same_len {l m : List Nat} (hl : l.Nodup) (hm : m.Nodup) (h : ∀ x, x ∈ l ↔ x ∈ m) : l.length = m.length := by
  have h1 := hl.length_le_of_subset (l₂ := m) fun x hx => (h x).mp hx
  have h2 := hm.length_le_of_subset (l₂ := l) fun x hx => (h x).mpr hx
  omega
/-! ### ints sorted, tuples of ints compared -/
theorem leD_int (i j : Int) : leD (.int i) (.int j) = decide (i ≤ j) := by
  unfold leD leP
  show (!PySem.W.dataLt (.int j) (.int i)) = _
  rw [PySem.W.dataLt_int]
  apply Bool.eq_iff_iff.mpr
  simp only [Bool.not_eq_true', decide_eq_false_iff_not, decide_eq_true_eq]
  omega
def sortN (l : List Nat) : List Nat := l.mergeSort fun a b => decide (a ≤ b)
theorem toPs_nats (l : List Nat) : toPs (natsD l) = some (l.map fun k : Nat => PyData.int (k : Nat)) := by
  induction l with
  | nil => rfl
  | cons a t ih =>
    show (toP (.int (a : Nat))).bind (fun p => (toPs (natsD t)).map fun ps => p :: ps) = _
    rw [ih]; rfl
theorem o_sortN (l : List Nat) : sortedD [.lst (natsD l)] = some (.own (.lst (natsD (sortN l)))) := by
  show (toPs (natsD l)).bind (fun ps => if sortOk ps = true then some (RV.own (.lst ((natsD l).mergeSort leD))) else none) = _
  rw [toPs_nats]
  have ok : sortOk (l.map fun k : Nat => PyData.int (k : Nat)) = true := by
    unfold sortOk
    rw [Bool.and_eq_true, Bool.and_eq_true]
    refine ⟨List.all_eq_true.mpr fun p hp => ?_, List.all_eq_true.mpr fun p hp => List.all_eq_true.mpr fun q hq => ?_, ?_⟩
    · obtain ⟨k, _, rfl⟩ := List.mem_map.mp hp
      rfl
    · obtain ⟨k, _, rfl⟩ := List.mem_map.mp hp
      obtain ⟨k, _, rfl⟩ := List.mem_map.mp hq
      rfl
    · rw [Bool.or_eq_true]
      refine .inr (List.all_eq_true.mpr fun p hp => ?_)
      obtain ⟨k, _, rfl⟩ := List.mem_map.mp hp
      rfl
  show (if sortOk (l.map fun k : Nat => PyData.int (k : Nat)) = true then some (RV.own (.lst ((natsD l).mergeSort leD))) else none) = _
  rw [if_pos ok]
  congr 3
  unfold natsD sortN
  symm
  apply List.map_mergeSort
  intro a _ b _
  rw [leD_int]
  exact decide_eq_decide.mpr (by omega)
theorem sortN_perm (l : List Nat) : (sortN l).Perm l := List.mergeSort_perm _ _
theorem sortN_sorted (l : List Nat) : (sortN l).Pairwise (· ≤ ·) := by
  have := List.pairwise_mergeSort (le := fun a b : Nat => decide (a ≤ b)) (fun a b c h1 h2 => by simp only [decide_eq_true_eq] at *; omega) (fun a b => by simp only [Bool.or_eq_true, decide_eq_true_eq]; omega) l
  exact this.imp fun h => by simpa using h
theorem sortN_eq {l m : List Nat} (h : l.Perm m) (hm : m.Pairwise (· ≤ ·)) : sortN l = m :=
  ((sortN_perm l).trans h).eq_of_pairwise (le := (· ≤ ·)) (fun a b _ _ h1 h2 => Nat.le_antisymm h1 h2) (sortN_sorted l) hm
theorem ints_nat (l m : List Nat) : (l.map fun k : Nat => (k : Int)) = (m.map fun k : Nat => (k : Int)) ↔ l = m := by
  constructor
  · intro h
    have := congrArg (List.map Int.toNat) h
    simpa [List.map_map, Function.comp_def] using this
  · intro h; rw [h]
theorem toP_natsT (l : List Nat) : toP (.tup (natsD l)) = some (.tuple ((l.map fun k : Nat => (k : Int)).map PyData.int)) := by
  show (toPs (natsD l)).map PyData.tuple = _
  rw [toPs_nats, List.map_map]; rfl
theorem toP_natsL (l : List Nat) : toP (.lst (natsD l)) = some (.list ((l.map fun k : Nat => (k : Int)).map PyData.int)) := by
  show (toPs (natsD l)).map PyData.list = _
  rw [toPs_nats, List.map_map]; rfl
theorem depth_ints (l : List Int) : PyData.depthAll (l.map PyData.int) = 0 := PySem.W.depth_ints l
theorem shaped_t (l : List Int) : SeqAt.shaped (.tuple (l.map PyData.int)) = true := by
  unfold SeqAt.shaped
  rw [Bool.and_eq_true, decide_eq_true_eq]
  refine ⟨PySem.W.ke_canLayAll0 l, ?_⟩
  simp only [PyData.depth, depth_ints]
  decide
theorem shaped_l (l : List Int) : SeqAt.shaped (.list (l.map PyData.int)) = true := by
  unfold SeqAt.shaped
  rw [Bool.and_eq_true, decide_eq_true_eq]
  refine ⟨PySem.W.ke_canLayAll0 l, ?_⟩
  simp only [PyData.depth, depth_ints]
  decide
theorem eqv_t (l m : List Int) : PyData.eqv (.tuple (l.map PyData.int)) (.tuple (m.map PyData.int)) = decide (l = m) := by
  have := PySem.W.ked_eqvAll l m
  simp only [PyData.eqv]
  exact this
theorem eqv_l (l m : List Int) : PyData.eqv (.list (l.map PyData.int)) (.list (m.map PyData.int)) = decide (l = m) := by
  have := PySem.W.ked_eqvAll l m
  simp only [PyData.eqv]
  exact this
/-! ### texts -/
def wStr (c : D) (K : Str → Prop) (_u : Tg K 0 := ⟨⟩) : Prop := match c with
  | .str a => K a
  | _ => False
theorem wStr_str (a : Str) (K : Str → Prop) : wStr (.str a) K = K a := rfl
theorem w_sm {op : Str → D → Option RV} {f g : Den} {r : Env} {K : RV → Env → Prop} {X : Ex → Env → Prop} : wE (eSM op f g r) K X = wE (f r) (fun x r1 => wP r1 (fzv x) fun d => wStr d fun a => wE (g r1) (fun y r2 => wP r2 (fzv y) fun e => wO (op a e) fun z => K z r2) X) X := by
  unfold eSM
  rw [wE_bind, wE_fz]
  refine wE_ext fun x r1 => ?_
  unfold wP
  cases peek r1 (fzv x) with
  | none => rfl
  | some d =>
    cases d with
    | str a =>
      show wE ((fz (g r1)).bind _) K X = wE (g r1) _ X
      rw [wE_bind, wE_fz]
      refine wE_ext fun y r2 => ?_
      cases peek r2 (fzv y) with
      | none => rfl
      | some e =>
        show wE (ofO (op a e) r2) K X = wO (op a e) _
        cases op a e <;> rfl
    | _ => rfl
def S (k : Nat) : Str := Str.ofString (toString (k : Int))
theorem str_S {k : Nat} (h : k < 1000) : strD [.int (k : Nat)] = some (.val (.str (S k))) := if_pos (by
  show k.log2 < 1920
  by_cases z : k = 0
  · subst z; decide
  · have := (Nat.log2_lt z (k := 10)).mpr (by omega)
    omega)
def L0 (n : Nat) : Str := Str.ofString "graph " ++ S n
def Le (p : Nat × Nat) : Str := S p.1 ++ Str.ofString "-" ++ S p.2
def lns (n : Nat) (es : List (Nat × Nat)) : List Str := L0 n :: es.map Le
def txt (n : Nat) (es : List (Nat × Nat)) : Str := Txt.join (Str.ofString "\n") (lns n es)
theorem S_eq {i k : Nat} (hi : i < 25) (hk : k < 25) : decide (S i = S k) = decide (i = k) := by
  have all : (List.range 25).all (fun i => (List.range 25).all fun k => decide (S i = S k) == decide (i = k)) = true := by decide +kernel
  exact beq_iff_eq.mp (List.all_eq_true.mp (List.all_eq_true.mp all i (List.mem_range.mpr hi)) k (List.mem_range.mpr hk))
theorem S_cs {k : Nat} (hk : k < 25) : 10 ∉ TL.tl (S k) ∧ 45 ∉ TL.tl (S k) ∧ (S k).length ≤ 2 := by
  have all : (List.range 25).all (fun k => !(TL.tl (S k)).contains 10 && (!(TL.tl (S k)).contains 45 && decide ((S k).length ≤ 2))) = true := by decide +kernel
  have := List.all_eq_true.mp all k (List.mem_range.mpr hk)
  simpa using this
theorem L0_is {n : Nat} (hn : n < 25) : Txt.startswith (L0 n) (Str.ofString "graph ") = true ∧ cutS (L0 n) (some 6) none = S n ∧ (L0 n).length ≤ 8 ∧ 10 ∉ TL.tl (L0 n) := by
  have all : (List.range 25).all (fun n => Txt.startswith (L0 n) (Str.ofString "graph ") && (decide (cutS (L0 n) (some 6) none = S n) && (decide ((L0 n).length ≤ 8) && !(TL.tl (L0 n)).contains 10))) = true := by decide +kernel
  have := List.all_eq_true.mp all n (List.mem_range.mpr hn)
  simpa using this
theorem Le_is {p : Nat × Nat} (h1 : p.1 < 25) (h2 : p.2 < 25) : Txt.split (Le p) (Str.ofString "-") = [S p.1, S p.2] ∧ (Le p).length ≤ 5 ∧ 10 ∉ TL.tl (Le p) := by
  obtain ⟨a1, a2, a3⟩ := S_cs h1
  obtain ⟨b1, b2, b3⟩ := S_cs h2
  have e : Le p = Txt.join (Str.ofString "-") [S p.1, S p.2] := by rw [TL.join_eq]; rfl
  have el : TL.tl (Le p) = TL.tl (S p.1) ++ (TL.tl (Str.ofString "-") ++ TL.tl (S p.2)) := by
    unfold Le
    rw [TL.tl_append, TL.tl_append, List.append_assoc]
  have e45 : TL.tl (Str.ofString "-") = [45] := by decide +kernel
  refine ⟨?_, ?_, ?_⟩
  · rw [e]
    exact TL.split_join (s := 45) (S := []) e45 (by decide +kernel) (by simp) fun q hq => by
      simp only [List.mem_cons, List.not_mem_nil, or_false] at hq
      rcases hq with rfl | rfl
      · exact a2
      · exact b2
  · have : (Le p).length = (TL.tl (Le p)).length := rfl
    rw [this, el, e45, List.length_append, List.length_append]
    have c1 : (TL.tl (S p.1)).length ≤ 2 := a3
    have c2 : (TL.tl (S p.2)).length ≤ 2 := b3
    simp only [List.length_singleton]
    omega
  · rw [el, e45]
    simp only [List.mem_append, List.mem_singleton]
    rintro (h | h | h)
    · exact a1 h
    · cases h
    · exact b1 h
theorem txt_split {n : Nat} {es : List (Nat × Nat)} (hn : n < 25) (he : ∀ p ∈ es, p.1 < 25 ∧ p.2 < 25) : Txt.split (txt n es) (Str.ofString "\n") = lns n es := by
  have e10 : TL.tl (Str.ofString "\n") = [10] := by decide +kernel
  refine TL.split_join (s := 10) (S := []) e10 (by decide +kernel) (by simp [lns]) fun q hq => ?_
  rcases List.mem_cons.mp hq with rfl | hq
  · exact (L0_is hn).2.2.2
  · obtain ⟨p, hp, rfl⟩ := List.mem_map.mp hq
    exact (Le_is (he p hp).1 (he p hp).2).2.2
theorem join_le (c : Str) (hc : c.length ≤ 1) : ∀ (ys : List Str), (∀ y ∈ ys, y.length ≤ 8) → (Str.join c ys).length ≤ ys.length * 9
  | [], _ => Nat.zero_le _
  | [x], h => by
    have := h x List.mem_cons_self
    show x.length ≤ 1 * 9
    omega
  | x :: y :: t, h => by
    have ih := join_le c hc (y :: t) fun z hz => h z (List.mem_cons_of_mem _ hz)
    have hx := h x List.mem_cons_self
    have e : (Str.join c (x :: y :: t)).length = x.length + c.length + (Str.join c (y :: t)).length := by
      show (x ++ c ++ Str.join c (y :: t)).length = _
      have l : ∀ a b : Str, (a ++ b).length = a.length + b.length := fun a b => by
        show (TL.tl (a ++ b)).length = (TL.tl a).length + (TL.tl b).length
        rw [TL.tl_append, List.length_append]
      rw [l, l]
    rw [e, List.length_cons]
    omega
theorem lns_le {n : Nat} {es : List (Nat × Nat)} (hn : n < 25) (he : ∀ p ∈ es, p.1 < 25 ∧ p.2 < 25) : ∀ y ∈ lns n es, y.length ≤ 8 := fun y hy => by
  rcases List.mem_cons.mp hy with rfl | hy
  · exact (L0_is hn).2.2.1
  · obtain ⟨p, hp, rfl⟩ := List.mem_map.mp hy
    have := (Le_is (he p hp).1 (he p hp).2).2.1
    omega
theorem strsOf_map (ys : List Str) : strsOf (ys.map D.str) = some ys := by
  induction ys with
  | nil => rfl
  | cons a t ih =>
    show (strsOf (t.map D.str)).map (fun ys => a :: ys) = _
    rw [ih]; rfl
theorem sum_le8 : ∀ (ys : List Str), (∀ y ∈ ys, y.length ≤ 8) → (ys.map (·.length)).sum ≤ ys.length * 8
  | [], _ => Nat.zero_le _
  | y :: t, h => by
    have ih := sum_le8 t fun z hz => h z (List.mem_cons_of_mem _ hz)
    have := h y List.mem_cons_self
    rw [List.map_cons, List.sum_cons, List.length_cons]
    omega
theorem join_txt {n : Nat} {es : List (Nat × Nat)} (hn : n < 25) (he : ∀ p ∈ es, p.1 < 25 ∧ p.2 < 25) (hl : es.length ≤ 10000) : joinD (Str.ofString "\n") (.lst ((lns n es).map D.str)) = some (.val (.str (txt n es))) := by
  have h1 := sum_le8 (lns n es) (lns_le hn he)
  have h2 : (lns n es).length = es.length + 1 := by unfold lns; rw [List.length_cons, List.length_map]
  have h3 : (Str.ofString "\n").length = 1 := by decide +kernel
  show ((strsOf ((lns n es).map D.str)).bind fun ys => if (ys.map (·.length)).sum + ys.length * (Str.ofString "\n").length ≤ 16777216 then some (RV.val (.str (Txt.join (Str.ofString "\n") ys))) else none) = _
  rw [strsOf_map]
  exact if_pos (by rw [h3]; omega)
theorem txt_len {n : Nat} {es : List (Nat × Nat)} (hn : n < 25) (he : ∀ p ∈ es, p.1 < 25 ∧ p.2 < 25) (hl : es.length ≤ 10000) : (txt n es).length ≤ 100000 := by
  have h2 : (lns n es).length = es.length + 1 := by unfold lns; rw [List.length_cons, List.length_map]
  have := join_le (Str.ofString "\n") (by decide +kernel) (lns n es) (lns_le hn he)
  unfold txt
  rw [TL.join_eq]
  omega
theorem add_ss {a b : Str} (h : a.length + b.length ≤ 1000) : addD (.str a) (.str b) = some (.val (.str (a ++ b))) := if_pos (Nat.le_trans h (by decide))
theorem len_app (a b : Str) : (a ++ b).length = a.length + b.length := by
  show (TL.tl (a ++ b)).length = (TL.tl a).length + (TL.tl b).length
  rw [TL.tl_append, List.length_append]
theorem gr_len : (Str.ofString "graph ").length = 6 := by decide +kernel
theorem da_len : (Str.ofString "-").length = 1 := by decide +kernel
theorem add_L0 {n : Nat} (h : n < 25) : addD (.str (Str.ofString "graph ")) (.str (S n)) = some (.val (.str (L0 n))) := add_ss (by
  have := (S_cs h).2.2
  have := gr_len
  omega)
theorem add_Le1 {a : Nat} (h : a < 25) : addD (.str (S a)) (.str (Str.ofString "-")) = some (.val (.str (S a ++ Str.ofString "-"))) := add_ss (by
  have := (S_cs h).2.2
  have := da_len
  omega)
theorem add_Le2 {a b : Nat} (h : a < 25) (h2 : b < 25) : addD (.str (S a ++ Str.ofString "-")) (.str (S b)) = some (.val (.str (Le (a, b)))) := add_ss (by
  have := (S_cs h).2.2
  have := (S_cs h2).2.2
  have := da_len
  rw [len_app]
  omega)
theorem x_written (ms : List Nat) (hn : ms.length < 25) : F__law_written [.lst (natsD ms)] = .ret (.val (.str (txt ms.length (edg ms)))) .non := by
  have m6 := lt_most (n := 100000) (by decide)
  have el := edg_len ms (by omega)
  have ee : ∀ p ∈ edg ms, p.1 < 25 ∧ p.2 < 25 := fun p hp => by have := edg_lt hp; omega
  apply wF_eq
  unfold F__law_written; rw [w_run]; unfold d__law_written; simp! only [x_edges ms (by omega), str_S (k := ms.length) (by omega), add_L0 hn]
  refine w_for _ (fun done r => ∃ (s2 s3 : Option D), r = [.val (.lst (natsD ms)), .own (.lst ((lns ms.length done).map D.str)), oS s2, oS s3]) (edg ms) ⟨none, none, rfl⟩ (fun done p rest r ex hr => ?_) fun r hr => ?_
  · obtain ⟨s2, s3, rfl⟩ := hr
    have hp := ee p (by rw [ex]; simp)
    have dl : done.length < (edg ms).length := by rw [ex]; simp
    have ll : (lns ms.length done).length = done.length + 1 := by unfold lns; simp
    simp! only [str_S (k := p.1) (by omega), str_S (k := p.2) (by omega), add_Le1 hp.1, add_Le2 hp.1 hp.2]
    refine wC_dec (by omega) ⟨some (.int (p.1 : Nat)), some (.int (p.2 : Nat)), ?_⟩
    have : (lns ms.length (done ++ [p])).map D.str = (lns ms.length done).map D.str ++ [D.str (Le (p.1, p.2))] := by unfold lns; simp
    rw [this]; rfl
  · obtain ⟨s2, s3, rfl⟩ := hr
    simp! only [w_sm, wStr_str, join_txt hn ee el]
theorem x_wgraph (ms : List Nat) (hn : ms.length < 25) : F_write_graph [graphD ms] = .ret (.val (.str (txt ms.length (edg ms)))) .non := by
  have m6 := lt_most (n := 100000) (by decide)
  have el := edg_len ms (by omega)
  have ee : ∀ p ∈ edg ms, p.1 < 25 ∧ p.2 < 25 := fun p hp => by have := edg_lt hp; omega
  apply wF_eq
  unfold F_write_graph; rw [w_run]; unfold d_write_graph; simp! only [w_sm, wStr_str, gf_size, gf_edges, str_S (k := ms.length) (by omega), add_L0 hn]
  refine w_cm _ (fun p => D.str (Le p)) (edg ms) (by omega) (fun p acc hp ha => ?_) ?_
  · have hp := ee p hp
    simp! only [str_S (k := p.1) (by omega), str_S (k := p.2) (by omega), add_Le1 hp.1, add_Le2 hp.1 hp.2]
    exact wC_dec ha trivial
  · have em : D.str (L0 ms.length) :: (edg ms).map (fun p => D.str (Le p)) = (lns ms.length (edg ms)).map D.str := by unfold lns; rw [List.map_cons, List.map_map]; rfl
    simp! only []
    refine wC_dec (by omega) ?_
    simp! only [em, join_txt hn ee el]
theorem x_rnum {k b : Nat} (h : k < b) (hb : b ≤ 25) : F_read_number [.str (S k), .int (b : Nat)] = .ret (.val (.int (k : Nat))) .non := by
  apply wF_eq
  unfold F_read_number; rw [w_run]; unfold d_read_number; simp! only []
  refine wC_of (big_ok (by omega) (by omega)) ?_
  refine w_rn _ (fun j r => j ≤ k ∧ ∃ s2, r = [.val (.str (S k)), .val (.int (b : Nat)), oS s2]) ⟨Nat.zero_le _, none, rfl⟩ (fun j r hj hr => ?_) fun r hr => ?_
  · obtain ⟨jk, s2, rfl⟩ := hr
    simp! only [str_S (k := j) (by omega), o_eqs, S_eq (show k < 25 by omega) (show j < 25 by omega)]
    refine wIf_dec (fun c => ?_) fun c => ?_
    · subst c
      simp! only []
    · simp! only []
      exact ⟨by omega, some _, rfl⟩
  · obtain ⟨jk, _⟩ := hr
    omega
theorem x_rsize {n : Nat} (h1 : 1 ≤ n) (hn : n < 25) : F_read_size [.str (L0 n)] = .ret (.val (.int (n : Nat))) .non := by
  obtain ⟨a1, a2, a3, _⟩ := L0_is hn
  have st : startsD (L0 n) (.str (Str.ofString "graph ")) = some (.val (.bl true)) := by
    show some (RV.val (.bl (Txt.startswith (L0 n) (Str.ofString "graph ")))) = _
    rw [a1]
  have sl : sliceD (some 6) none (.str (L0 n)) = some (.val (.str (S n))) := by
    show (if (L0 n).length ≤ most then some (RV.val (.str (cutS (L0 n) (some 6) none))) else none) = _
    rw [if_pos (Nat.le_trans a3 (by decide)), a2]
  have rn := x_rnum (k := n) (b := 25) (by omega) (by omega)
  rw [show ((25 : Nat) : Int) = 25 from rfl] at rn
  apply wF_eq
  unfold F_read_size; rw [w_run]; unfold d_read_size; simp! only [w_sm, wStr_str, st, sl, rn, o_trb]
  refine wIf_dec (fun z => by omega) fun _ => ?_
  simp! only []
theorem x_redge {n : Nat} {p : Nat × Nat} (h1 : p.1 < p.2) (h2 : p.2 < n) (hn : n < 25) : F_read_edge [.str (Le p), .int (n : Nat)] = .ret (.val (pairD p)) .non := by
  obtain ⟨a1, a2, _⟩ := Le_is (p := p) (by omega) (by omega)
  have sp : splitD (Le p) (.str (Str.ofString "-")) = some (.own (.lst [.str (S p.1), .str (S p.2)])) := by
    show (if ((Str.ofString "-").length == 0) = false ∧ (Le p).length + 2 ≤ most then some (RV.own (.lst ((Txt.split (Le p) (Str.ofString "-")).map D.str))) else none) = _
    rw [if_pos ⟨by decide +kernel, Nat.le_trans (Nat.add_le_add_right a2 2) (by decide)⟩, a1]; rfl
  apply wF_eq
  unfold F_read_edge; rw [w_run]; unfold d_read_edge; simp! only [w_sm, wStr_str, sp, x_rnum (k := p.1) (b := n) (by omega) (by omega), x_rnum (k := p.2) (b := n) (by omega) (by omega)]
  refine wIf_dec (fun z => by omega) fun _ => ?_
  simp! only []
theorem idx_hd (x : D) (xs : List D) : idxD (.lst (x :: xs)) (.int 0) = some (.val x) := by
  have : atI (x :: xs) 0 = some x := by
    have e : ixN (x :: xs).length 0 = some 0 := by
      unfold ixN
      simp
    unfold atI
    rw [e]; rfl
  show (atI _ _).map RV.val = _
  rw [this]; rfl
theorem cut_tl (x : D) (xs : List D) : sliceD (some 1) none (.lst (x :: xs)) = some (.own (.lst xs)) := by
  show some (RV.own (.lst (cutD (x :: xs) (some ((1 : Nat) : Int)) none))) = _
  congr 3
  unfold cutD
  rw [HT.sIx_none, HT.sIx_nat, Nat.min_eq_left (by rw [List.length_cons]; omega)]
  show (xs.take _) = _
  rw [List.take_of_length_le (by rw [List.length_cons]; omega)]
theorem x_rgraph (ms : List Nat) (g : GM ms) (h1 : 1 ≤ ms.length) (hn : ms.length ≤ 24) : F_read_graph [.str (txt ms.length (edg ms))] = .ret (.own (graphD ms)) .non := by
  have m6 := lt_most (n := 1000000) (by decide)
  have el := edg_len ms (by omega)
  have ee : ∀ p ∈ edg ms, p.1 < 25 ∧ p.2 < 25 := fun p hp => by have := edg_lt hp; omega
  have tln := txt_len (n := ms.length) (by omega) ee el
  have es := edg_sorted ms
  have sp : splitD (txt ms.length (edg ms)) (.str (Str.ofString "\n")) = some (.own (.lst ((lns ms.length (edg ms)).map D.str))) := by
    show (if ((Str.ofString "\n").length == 0) = false ∧ (txt ms.length (edg ms)).length + 2 ≤ most then some (RV.own (.lst ((Txt.split (txt ms.length (edg ms)) (Str.ofString "\n")).map D.str))) else none) = _
    rw [if_pos ⟨by decide +kernel, by omega⟩, txt_split (by omega) ee]
  have lm : (lns ms.length (edg ms)).map D.str = D.str (L0 ms.length) :: (edg ms).map fun p => D.str (Le p) := by unfold lns; rw [List.map_cons, List.map_map]; rfl
  rw [lm] at sp
  have ln : ∀ y : Str, y.length ≤ 8 → lenD [.str y] = some (.val (.int (y.length : Nat))) := fun y h => if_pos (Nat.le_trans h (by decide))
  have l0 := ln _ (L0_is (n := ms.length) (by omega)).2.2.1
  have xg := x_graph ms g h1 hn
  have ist : isiD ISI [.str (txt ms.length (edg ms)), .ty "str"] = some (.val (.bl true)) := rfl
  generalize txt ms.length (edg ms) = t at sp ist ⊢
  apply wF_eq
  unfold F_read_graph; rw [w_run]; unfold d_read_graph; simp! only [ist, o_trb, w_sm, wStr_str, sp, idx_hd, cut_tl, x_rsize h1 (show ms.length < 25 by omega), l0]
  refine wC_dec (by omega) (wC_dec (by omega) ?_)
  refine w_for _ (fun done r => ∃ (at_ : Int) (s5 s6 : Option D), r = [.val (.str t), .val (.lst (D.str (L0 ms.length) :: (edg ms).map fun p => D.str (Le p))), .val (.int (ms.length : Nat)), .val (.int at_), .own (.lst (done.map pairD)), oS s5, oS s6]) (edg ms) ⟨_, none, none, rfl⟩ (fun done p rest r ex hr => ?_) fun r hr => ?_
  · obtain ⟨at_, s5, s6, rfl⟩ := hr
    have pm : p ∈ edg ms := by rw [ex]; simp
    have pl := edg_lt pm
    have dl : done.length < (edg ms).length := by rw [ex]; simp
    have lp := ln _ (Nat.le_trans (Le_is (ee p pm).1 (ee p pm).2).2.1 (by decide))
    simp! only [x_redge pl.1 pl.2 (show ms.length < 25 by omega), lp]
    refine wIf_dec (fun c => ?_) fun c => ?_
    · have lt : PLt done[done.length - 1]! p := by
        rw [ex, List.pairwise_append] at es
        exact es.2.2 _ (by rw [getElem!_pos done _ (by omega)]; exact List.getElem_mem _) p (List.mem_cons_self ..)
      have nle : ¬ (p.1 < done[done.length - 1]!.1 ∨ (p.1 = done[done.length - 1]!.1 ∧ p.2 ≤ done[done.length - 1]!.2)) := by
        unfold PLt at lt
        omega
      simp! only []
      refine wC_dec (by omega) ?_
      simp! only [le_pp, decide_eq_false nle, lp]
      refine wC_dec (by omega) ⟨at_ + (((Le p).length : Nat) + 1), some (.str (Le p)), some (pairD p), ?_⟩
      rw [List.map_append]; rfl
    · simp! only [lp]
      refine wC_dec (by omega) ⟨at_ + (((Le p).length : Nat) + 1), some (.str (Le p)), some (pairD p), ?_⟩
      rw [List.map_append]; rfl
  · obtain ⟨at_, s5, s6, rfl⟩ := hr
    simp! only [xg]
theorem ceq_refl {d : D} {p : PyData} (h1 : toP d = some p) (hs : SeqAt.shaped p = true) (hr : PyData.eqv p p = true) (hi : ∀ i, d ≠ .int i) (hz : ∀ s, d ≠ .str s) : ceqD d d = some (.val (.bl true)) := by
  have : eqD d d = some true := by
    cases d <;> first | exact (hi _ rfl).elim | exact (hz _ rfl).elim | skip
    all_goals (unfold eqD; simp only [h1]; unfold eqP; rw [if_pos ⟨hs, hs⟩, hr])
  unfold ceqD
  rw [this]; rfl
def pP (p : Nat × Nat) : PyData := .tuple [.int p.1, .int p.2]
theorem toP_pair (p : Nat × Nat) : toP (pairD p) = some (pP p) := rfl
theorem toPs_pairs (l : List (Nat × Nat)) : toPs (l.map pairD) = some (l.map pP) := by
  induction l with
  | nil => rfl
  | cons a t ih =>
    show (toP (pairD a)).bind (fun p => (toPs (t.map pairD)).map fun ps => p :: ps) = _
    rw [ih]; rfl
theorem eqv_pp (p q : Nat × Nat) : PyData.eqv (pP p) (pP q) = decide (p = q) := by
  unfold pP
  rw [Bool.eq_iff_iff]
  simp [PyData.eqv, PyData.eqvAll, Prod.ext_iff]
  omega
theorem eqvAll_pp (l : List (Nat × Nat)) : PyData.eqvAll (l.map pP) (l.map pP) = true := by
  induction l with
  | nil => simp [PyData.eqvAll]
  | cons a t ih => simp [PyData.eqvAll, eqv_pp, ih]
theorem shp_pP (p : Nat × Nat) : SeqAt.shaped (pP p) = true := by unfold pP; simp [SeqAt.shaped, PyData.canLay0, PyData.canLayAll0, PyData.depth, PyData.depthAll]
theorem ceq_pairs (l : List (Nat × Nat)) (hl : l.length ≤ 10000) : ceqD (.tup (l.map pairD)) (.tup (l.map pairD)) = some (.val (.bl true)) := by
  refine ceq_refl (p := .tuple (l.map pP)) ?_ ?_ ?_ (fun i h => nomatch h) fun s h => nomatch h
  · show (toPs (l.map pairD)).map PyData.tuple = _
    rw [toPs_pairs]; rfl
  · have h1 : ∀ l : List (Nat × Nat), PyData.canLayAll0 (l.map pP) = true := fun l => by
      induction l with
      | nil => simp [PyData.canLayAll0]
      | cons a t ih =>
        have : PyData.canLay0 (pP a) = true := by unfold pP; simp [PyData.canLay0, PyData.canLayAll0]
        simp [PyData.canLayAll0, this, ih]
    have h2 : ∀ l : List (Nat × Nat), PyData.depthAll (l.map pP) ≤ 1 := fun l => by
      induction l with
      | nil => simp [PyData.depthAll]
      | cons a t ih =>
        have : PyData.depth (pP a) = 1 := by unfold pP; simp [PyData.depth, PyData.depthAll]
        simp [PyData.depthAll, this, ih]
    have := h2 l
    have e : PyData.depth (.tuple (l.map pP)) = PyData.depthAll (l.map pP) + 1 := by simp [PyData.depth]
    simp only [SeqAt.shaped, PyData.canLay0, h1, Bool.true_and, decide_eq_true_eq]
    omega
  · simp [PyData.eqv, eqvAll_pp]
theorem rp_pairs {l : List (Nat × Nat)} (h : l.length ≤ 1000) (h2 : ∀ p ∈ l, p.1 ≤ 999999 ∧ p.2 ≤ 999999) : ∃ s, reprD [.tup (l.map pairD)] = some (.val (.str s)) := by
  have r := Rp.tup (b := 2) (k := 1) (ds := l.map pairD) fun d hd => by
    obtain ⟨p, hp, rfl⟩ := List.mem_map.mp hd
    have := h2 p hp
    refine Rp.tup (b := 0) (k := 0) (ds := [.int (p.1 : Nat), .int (p.2 : Nat)]) fun d hd => ?_
    simp only [List.mem_cons, List.not_mem_nil, or_false] at hd
    rcases hd with rfl | rfl
    · exact Rp.nat (by omega)
    · exact Rp.nat (by omega)
  rw [List.length_map] at r
  exact r.ok (by omega) (by decide)
theorem w_oeqV {cn : Str} {F : Fun} {i j : Nat} {r : Env} {n1 n2 : List Str} {d1 d2 : List D} {x : D} {K : RV → Env → Prop} {X : Ex → Env → Prop} (hi : r[i]? = some (.val (.obj cn n1 d1))) (hj : r[j]? = some (.val (.obj cn n2 d2))) (hF : F [.obj cn n1 d1, .obj cn n2 d2] = .ret (.val x) .non) (hk : K (.val x) r) :
    wE (eOEq cn F (eVar i) (eVar j) r) K X := by
  have e1 : eVar i r = .ok (.val (.obj cn n1 d1)) r := by unfold eVar; rw [hi]
  have e2 : eVar j r = .ok (.val (.obj cn n2 d2)) r := by unfold eVar; rw [hj]
  unfold eOEq
  rw [e1]
  show wE ((fz (eVar j r)).bind _) K X
  rw [e2]
  show wE (if cn = cn ∧ cn = cn then callR none F [.val (.obj cn n1 d1), .val (.obj cn n2 d2)] r else .stuck) K X
  rw [if_pos ⟨rfl, rfl⟩, w_callR]
  show wF (F [.obj cn n1 d1, .obj cn n2 d2]) _ _
  rw [hF]
  exact hk
theorem x_geq (ms : List Nat) (hl : (edg ms).length ≤ 10000) : F_Graph___eq__ [graphD ms, graphD ms] = .ret (.val (.bl true)) .non := by
  have his : isiD ISI [graphD ms, .fn "Graph"] = some (.val (.bl true)) := by rfl
  apply wF_eq
  unfold F_Graph___eq__; rw [w_run]; unfold d_Graph___eq__; simp! only [his, gf_size, gf_edges, ceq_pairs (edg ms) hl]
theorem w_oeqF {cn : Str} {F : Fun} {f : Den} {j : Nat} {r : Env} {n1 n2 : List Str} {d1 d2 : List D} {x : D} {K : RV → Env → Prop} {X : Ex → Env → Prop} (hf : wE (f r) (fun y r1 => fzv y = .val (.obj cn n1 d1) ∧ r1 = r) fun _ _ => False) (hj : r[j]? = some (.val (.obj cn n2 d2))) (hF : F [.obj cn n1 d1, .obj cn n2 d2] = .ret (.val x) .non) (hk : K (.val x) r) :
    wE (eOEq cn F f (eVar j) r) K X := by
  have e2 : eVar j r = .ok (.val (.obj cn n2 d2)) r := by unfold eVar; rw [hj]
  unfold eOEq
  rw [wE_bind, wE_fz]
  cases e : f r with
  | stuck => rw [e] at hf; exact hf.elim
  | exc y r1 => rw [e] at hf; exact hf.elim
  | ok y r1 =>
    rw [e] at hf
    obtain ⟨h1, h2⟩ := (show fzv y = .val (.obj cn n1 d1) ∧ r1 = r from hf)
    subst h2
    show wE ((fz (eVar j r1)).bind _) K X
    rw [h1, e2]
    show wE (if cn = cn ∧ cn = cn then callR none F [.val (.obj cn n1 d1), .val (.obj cn n2 d2)] r1 else .stuck) K X
    rw [if_pos ⟨rfl, rfl⟩, w_callR]
    show wF (F [.obj cn n1 d1, .obj cn n2 d2]) _ _
    rw [hF]
    exact hk
theorem x_right (ms : List Nat) (g : GM ms) (h1 : 1 ≤ ms.length) (hn : ms.length ≤ 24) : F__law_right [.lst (natsD ms)] = .ret (.val (.bl true)) .non := by
  have m6 := lt_most (n := 1000000) (by decide)
  have el := edg_len ms (by omega)
  have e1 := x_edges ms (by omega)
  have e2 := x_graph ms g h1 hn
  have e3 := x_written ms (by omega)
  have e4 := x_wgraph ms (by omega)
  have e5 := x_rgraph ms g h1 hn
  have e6 := x_geq ms el
  obtain ⟨t1, ht1⟩ := (Rp.nat (n := ms.length) (by omega)).ok (by omega) (by decide)
  have e24 : (edg ms).length ≤ 576 := by
    have h := nodup_le (n := 24 * 24) (l := (edg ms).map fun p => p.1 * 24 + p.2) (List.nodup_iff_pairwise_ne.mpr (by
      rw [List.pairwise_map]
      refine (edg_sorted ms).imp_of_mem fun {a b} ha hb h e => ?_
      have := edg_lt ha
      have := edg_lt hb
      unfold PLt at h
      omega)) fun x hx => by
        obtain ⟨p, hp, rfl⟩ := List.mem_map.mp hx
        have := edg_lt hp
        omega
    rw [List.length_map] at h
    omega
  obtain ⟨t2, ht2⟩ := rp_pairs (l := edg ms) (by omega) fun p hp => by have := edg_lt hp; omega
  have isg : isiD ISI [graphD ms, .fn "Graph"] = some (.val (.bl true)) := by rfl
  generalize txt ms.length (edg ms) = t at e3 e4 e5
  have ist : isiD ISI [.str t, .ty "str"] = some (.val (.bl true)) := rfl
  apply wF_eq
  unfold F__law_right; rw [w_run]; unfold d__law_right; simp! only [e1, e2, e3, e4, e5, ist, isg, o_trb, o_neS, gf_size, gf_edges, ht1, ht2]
  refine w_oeqV (x := .bl true) (n1 := ["size", "edges", "vertices", "masks"]) (n2 := ["size", "edges", "vertices", "masks"]) rfl rfl e6 ?_
  simp! only [e4, o_eqS]
  refine w_oeqF (x := .bl true) (n1 := ["size", "edges", "vertices", "masks"]) (n2 := ["size", "edges", "vertices", "masks"]) (d1 := [.int (ms.length : Nat), .tup ((edg ms).map pairD), .tup (natsD (List.range ms.length)), .tup (natsD ms)]) ?_ rfl e6 ?_
  · simp! only [e5]
    all_goals first | rfl | exact ⟨rfl, rfl⟩
  · simp! only []
theorem zero_gm (n : Nat) : GM (List.replicate n 0) := by
  have z : ∀ a b, adj (List.replicate n 0) a b = false := fun a b => by
    unfold adj
    by_cases h : a < n
    · rw [getElem!_pos _ a (by rw [List.length_replicate]; exact h), List.getElem_replicate]
      exact Nat.zero_testBit b
    · rw [getElem!_neg _ a (by rw [List.length_replicate]; omega)]
      exact Nat.zero_testBit b
  exact ⟨fun a b => by rw [z, z], fun a => z a a⟩
def fullM (n : Nat) : List Nat := (List.range n).map fun k => 2 ^ n - 1 - 2 ^ k
theorem full_at {n a : Nat} (h : a < n) : 2 ^ n - 1 - 2 ^ a = andn (2 ^ n - 1) (2 ^ a) := by
  have e : (2 ^ n - 1) &&& 2 ^ a = 2 ^ a := by
    apply Nat.eq_of_testBit_eq
    intro k
    rw [Nat.testBit_and, full_bit, Nat.testBit_two_pow]
    by_cases c : a = k
    · subst c; simp [h]
    · simp [c]
  have := andn_add (2 ^ n - 1) (2 ^ a)
  rw [e] at this
  omega
theorem full_adj {n a b : Nat} : adj (fullM n) a b = true ↔ a < n ∧ b < n ∧ a ≠ b := by
  have len : (fullM n).length = n := by unfold fullM; rw [List.length_map, List.length_range]
  by_cases h : a < n
  · have e : (fullM n)[a]! = andn (2 ^ n - 1) (2 ^ a) := by
      rw [getElem!_pos _ a (by rw [len]; exact h)]
      unfold fullM
      rw [List.getElem_map, List.getElem_range, full_at h]
    unfold adj
    rw [e, andn_bit, full_bit, Nat.testBit_two_pow]
    simp [h]
  · rw [adj_out (by rw [len]; omega)]
    simp [h]
theorem full_gm (n : Nat) : GM (fullM n) := ⟨fun a b => by
    rw [Bool.eq_iff_iff, full_adj, full_adj]
    exact ⟨fun ⟨x, y, w⟩ => ⟨y, x, w.symm⟩, fun ⟨x, y, w⟩ => ⟨y, x, w.symm⟩⟩, fun a => by
    cases q : adj (fullM n) a a with
    | false => rfl
    | true => exact ((full_adj.mp q).2.2 rfl).elim⟩
theorem mul_zero_list (n : Nat) (h : n ≤ 1000) : mulD (.lst [.int 0]) (.int (n : Nat)) = some (.own (.lst (natsD (List.replicate n 0)))) := by
  have e : (List.replicate n [D.int 0]).flatten = natsD (List.replicate n 0) := by
    induction n with
    | zero => rfl
    | succ k ih =>
      rw [List.replicate_succ, List.flatten_cons, ih (by omega), List.replicate_succ]
      rfl
  show (if 0 ≤ ((n : Nat) : Int) ∧ ((n : Nat) : Int) ≤ 1000 ∧ ([D.int 0]).length ≤ 1000 then some (RV.own (.lst (List.replicate ((n : Nat) : Int).toNat [D.int 0]).flatten)) else none) = _
  rw [if_pos ⟨by omega, by omega, by decide⟩, Int.toNat_natCast, e]
theorem x_all (ns : List Int) (h : ns.length ≤ 63) : F__law_all [.scr ns] = .ret (.val (.bl true)) .non := by
  apply wF_eq
  have m6 := lt_most (n := 1000000) (by decide)
  have step : ∀ (b : D) (m : Nat), IsBox b → 1 ≤ m → m ≤ 24 → ∃ (z : Nat) (ms : List Nat) (b1 b2 : D), IsBox b2 ∧ F__law_draw [b, .int (m : Nat)] = .ret (.val (.int (z : Nat))) b1 ∧ F__law_graph [b1, .int (1 + (z : Int))] = .ret (.own (.lst (natsD ms))) b2 ∧ F__law_right [.lst (natsD ms)] = .ret (.val (.bl true)) .non := by
    intro b m hb h1 hm
    obtain ⟨z, b1, hb1, hz, e1⟩ := draw_nat b hb m h1 (by omega)
    obtain ⟨ms, b2, g, ml, hb2, e2⟩ := (F_graph b1 hb1 (1 + z) (by omega)).g
    have e3 := x_right ms g (by omega) (by omega)
    rw [show ((1 + z : Nat) : Int) = 1 + (z : Int) by omega] at e2
    exact ⟨z, ms, b1, b2, hb2, e1, e2, e3⟩
  have hb0 : IsBox (bx ns 0 0 0) := ⟨ns, 0, 0, 0, rfl, by omega, by omega, by omega, h⟩
  obtain ⟨z1, q1, b1, b2, hb2, e1, e2, e3⟩ := step _ 3 hb0 (by decide) (by decide)
  obtain ⟨z2, q2, b3, b4, hb4, e4, e5, e6⟩ := step b2 8 hb2 (by decide) (by decide)
  obtain ⟨z3, q3, b5, b6, hb6, e7, e8, e9⟩ := step b4 16 hb4 (by decide) (by decide)
  rw [show ((3 : Nat) : Int) = 3 from rfl] at e1
  rw [show ((8 : Nat) : Int) = 8 from rfl] at e4
  rw [show ((16 : Nat) : Int) = 16 from rfl] at e7
  obtain ⟨z, b7, hb7, hz, e10⟩ := draw_nat b6 hb6 24 (by decide) (by decide)
  rw [show ((24 : Nat) : Int) = 24 from rfl] at e10
  have n1 : (1 : Int) + (z : Int) = ((1 + z : Nat) : Int) := by omega
  unfold F__law_all; rw [w_run]; unfold d__law_all; simp! only [x_box ns h, e1, e2, e3, e4, e5, e6, e7, e8, e9, e10, n1, o_trb]
  refine wC_of (big_ok (by omega) (by omega)) ?_
  rw [show ((1 + z : Nat) : Int) - 1 = ((z : Nat) : Int) by omega, rangeD_nat]
  refine w_cl (fun k : Nat => D.int (k : Nat)) (fun done acc r => ∃ (b : D) (ps : List (Nat × Nat)), r = [.val (.scr ns), .own b, .val (.int 16), .val (.int ((1 + z : Nat) : Int)), .un, .un, .un] ∧ IsBox b ∧ acc = ps.map pairD ∧ ps.length = done.length ∧ ∀ p ∈ ps, p.1 < p.2 ∧ p.2 < 1 + z) (List.range z) ⟨b7, [], rfl, hb7, rfl, rfl, fun p hp => (nomatch hp)⟩ (fun done k rest acc r ex hr => ?_) fun acc r hr => ?_
  · obtain ⟨b, ps, rfl, hb, rfl, hl, hp⟩ := hr
    obtain ⟨rfl, dl⟩ := range_at ex
    obtain ⟨y, c1, hc1, hy, ey⟩ := draw_nat b hb (1 + done.length / 2) (by omega) (by omega)
    have fd : ((done.length : Nat) : Int).fdiv 2 = ((done.length / 2 : Nat) : Int) := by rw [Int.fdiv_eq_ediv_of_nonneg _ (by decide)]; rfl
    rw [show ((1 + done.length / 2 : Nat) : Int) = 1 + ((done.length / 2 : Nat) : Int) by omega] at ey
    have n2 : (1 : Int) + ((done.length : Nat) : Int) = ((1 + done.length : Nat) : Int) := by omega
    simp! only []
    refine wC_dec (by decide) ?_
    simp! only [fd, ey]
    refine wC_dec (by omega) ⟨c1, ps ++ [(y, 1 + done.length)], rfl, hc1, ?_, by simp [hl], fun p hq => ?_⟩
    · rw [List.map_append]; rfl
    · rcases List.mem_append.mp hq with q | q
      · exact hp p q
      · rw [List.mem_singleton.mp q]
        exact ⟨by show y < 1 + done.length; omega, by show 1 + done.length < 1 + z; omega⟩
  · obtain ⟨b, ps, rfl, hb, rfl, hl, hp⟩ := hr
    simp! only []
    refine wC_of (big_ok (by omega) (by omega)) ?_
    rw [rangeD_nat]
    have pw : ∀ k, k ≤ 24 → 2 ^ k ≤ 2 ^ 24 := fun k hk => Nat.pow_le_pow_right (by decide) hk
    refine w_cm (fun k : Nat => D.int (k : Nat)) (fun k => D.int ((2 ^ (1 + z) - 1 - 2 ^ k : Nat) : Int)) (List.range (1 + z)) (by rw [List.length_range]; omega) (fun k acc hk ha => ?_) ?_
    · have hk := List.mem_range.mp hk
      simp! only []
      have lt : 2 ^ k < 2 ^ (1 + z) := Nat.pow_lt_pow_right (by decide) hk
      have e : ((2 ^ (1 + z) - 1 - 2 ^ k : Nat) : Int) = ((2 ^ (1 + z) : Nat) : Int) - 1 - ((2 ^ k : Nat) : Int) := by omega
      rw [e]
      exact wC_dec (by omega) (wC_dec (by omega) (wC_dec ha rfl))
    · have em : (List.range (1 + z)).map (fun k => D.int ((2 ^ (1 + z) - 1 - 2 ^ k : Nat) : Int)) = natsD (fullM (1 + z)) := by unfold natsD fullM; rw [List.map_map]; rfl
      have gd : Good (1 + z) ps := fun p hq => by have := hp p hq; exact ⟨by omega, by omega, by omega⟩
      obtain ⟨msN, out, nr, en⟩ := F_near (1 + z) (by omega) ps gd (.lst (ps.map pairD)) rfl
      have r1 := x_right msN (gm_of gd.gr nr) (by rw [nr.len]; omega) (by rw [nr.len]; omega)
      have r2 := x_right (List.replicate (1 + z) 0) (zero_gm _) (by rw [List.length_replicate]; omega) (by rw [List.length_replicate]; omega)
      have fl : (fullM (1 + z)).length = 1 + z := by unfold fullM; rw [List.length_map, List.length_range]
      have r3 := x_right (fullM (1 + z)) (full_gm _) (by omega) (by omega)
      simp! only [em, en, r1, mul_zero_list (1 + z) (by omega), r2, r3]
theorem x_law (ns : List Int) (h : ns.length ≤ 63) : F_law [.scr ns] = .ret (.val (.bl true)) .non := by
  apply wF_eq
  unfold F_law; rw [w_run]; unfold d_law; simp! only [x_all ns h]
end Ev
theorem PySem.Challenge.cw_everypart_k62_texts_written_and_read_holds : PySem.Challenge.rw_everypart_k62_texts_written_and_read.Holds :=
  Ev.holds_of fun ns h _ => ⟨_, Ev.x_law ns h⟩
