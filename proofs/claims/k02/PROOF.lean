import PyProof.Rows.All
import HandS.ForMost
import HandS.Exc
import HandS.ExcInit
import HandS.ExcOwn
import HandS.WordsExc
import HandS.Deep
import HandS.IsInst
import HandS.Wide
import HandS.Defaults
import HandS.TupAny
import HandS.TupMul
import HandS.Style
import HandS.Iter
import KE.GoesEnum
import KE.GoesMore
import KE.KExcInit
import PyProof.ExcBaseAll.LookupError
import PyProof.ExcBaseAll.RuntimeError
import PyProof.ExcBaseAll.OverflowError
import HandS.ExcField
import HandS.ExcIs
import KE.KExcIs
import HandS.HeadHook2
import HandS.HeadEnd
import HandS.Head0
import HandS.Head1
import HandS.Head2
import HandS.HeadHook1
import HandS.HeadHook3
import HandS.HeadHook4
import Wide.All
import OpenK.AllK
import Wide.FinOn
import KE.KStateDown
import PySem.Challenge.RW_movedrows_k02_rules_required
set_option Elab.async false
set_option linter.all false
set_option maxRecDepth 100000
set_option maxHeartbeats 4000000
/-! DL1: data, cells, stores, results; how they lie in the abstract heap. -/
namespace DL
open PySem PySem.Spec PyProof.Rows L2

/-- a value without addresses: what is mutable is named by its cell -/
inductive D where
  | non | bl (b : Bool) | int (i : Int) | str (x : Str) | tup (xs : List D) | ref (n : Nat) | ty (n : String)
/-- a mutable object -/
inductive Cell where
  | lst (xs : List D)
  | ro (xs : List D)
  | dct (kvs : List (Key × D))
abbrev Store := List Cell
inductive Rs (α : Type) where
  | ok (a : α) (S : Store)
  | exc (c : Str) (fs : List (Str × D)) (S : Store)
  | bad
abbrev M (α : Type) := Store → Rs α
@[inline] def Rs.bind {α β : Type} (x : Rs α) (f : α → Store → Rs β) : Rs β := match x with
  | .ok a S => f a S
  | .exc c fs S => .exc c fs S
  | .bad => .bad

/-! ### values in the abstract heap -/
mutual
def Rep (K : PySem.W.Frag) (H : Hp) (m : Nat → Addr) (L : Nat) : D → V → Prop
  | .non, v => v = .non
  | .bl b, v => v = .bl b
  | .int i, v => v = .int i
  | .str x, v => v = .str x
  | .ty n, v => v = .ty n
  | .tup ds, v => ∃ a vs, v = .ref a ∧ SqT K H a vs ∧ RepL K H m L ds vs
  | .ref n, v => n < L ∧ v = .ref (m n)
def RepL (K : PySem.W.Frag) (H : Hp) (m : Nat → Addr) (L : Nat) : List D → List V → Prop
  | [], vs => vs = []
  | d :: ds, vs => ∃ v ws, vs = v :: ws ∧ Rep K H m L d v ∧ RepL K H m L ds ws
end

/-- what never changes stands: tuples, frozen things -/
structure TK (H H' : Hp) : Prop where
  tup : ∀ a xs, H a = some (.tup xs) → H' a = some (.tup xs)
  frz : ∀ a o u, H a = some (.frz o u) → H' a = some (.frz o u)
theorem TK.refl (H : Hp) : TK H H := ⟨fun _ _ h => h, fun _ _ _ h => h⟩
theorem TK.trans {H1 H2 H3 : Hp} (a : TK H1 H2) (b : TK H2 H3) : TK H1 H3 := ⟨fun _ _ h => b.tup _ _ (a.tup _ _ h), fun _ _ _ h => b.frz _ _ _ (a.frz _ _ _ h)⟩
theorem TK.sqT {K : PySem.W.Frag} {H H' : Hp} (k : TK H H') {a : Addr} {xs : List V} (h : SqT K H a xs) : SqT K H' a xs := by
  rcases h with (h | ⟨o, h⟩) | h
  · exact .inl (.inl (k.tup _ _ h))
  · exact .inl (.inr ⟨o, k.frz _ _ _ h⟩)
  · exact .inr h
theorem TK.new {H : Hp} {p : Addr} {o : HO} (h : H p = none) : TK H (upd H p o) :=
  ⟨fun a xs e => by rw [upd_ne (ne_of_none e h)]; exact e, fun a x u e => by rw [upd_ne (ne_of_none e h)]; exact e⟩
theorem TK.set {H : Hp} {p : Addr} {o o' : HO} (h : H p = some o) (h1 : ∀ xs, o ≠ .tup xs) (h2 : ∀ x u, o ≠ .frz x u) : TK H (upd H p o') :=
  ⟨fun a xs e => by rw [upd_ne (fun z => by subst z; rw [h] at e; exact h1 _ (Option.some.inj e))]; exact e, fun a x u e => by rw [upd_ne (fun z => by subst z; rw [h] at e; exact h2 _ _ (Option.some.inj e))]; exact e⟩

section
variable {K : PySem.W.Frag} {H H' : Hp} {m m' : Nat → Addr} {L L' : Nat}
mutual
theorem Rep.mono (k : TK H H') (hm : ∀ n, n < L → m' n = m n) (hL : L ≤ L') : ∀ {d : D} {v : V}, Rep K H m L d v → Rep K H' m' L' d v
  | .non, _, h => h
  | .bl _, _, h => h
  | .int _, _, h => h
  | .str _, _, h => h
  | .ty _, _, h => h
  | .tup ds, _, h => by
    obtain ⟨a, vs, e, s, r⟩ := (show ∃ a vs, _ from h)
    exact ⟨a, vs, e, k.sqT s, RepL.mono k hm hL r⟩
  | .ref n, _, h => by
    obtain ⟨l, e⟩ := (show n < L ∧ _ from h)
    exact ⟨Nat.lt_of_lt_of_le l hL, by rw [hm n l]; exact e⟩
theorem RepL.mono (k : TK H H') (hm : ∀ n, n < L → m' n = m n) (hL : L ≤ L') : ∀ {ds : List D} {vs : List V}, RepL K H m L ds vs → RepL K H' m' L' ds vs
  | [], _, h => h
  | d :: ds, _, h => by
    obtain ⟨v, ws, e, r, rs⟩ := (show ∃ v ws, _ from h)
    exact ⟨v, ws, e, Rep.mono k hm hL r, RepL.mono k hm hL rs⟩
end
theorem RepL.length : ∀ {ds : List D} {vs : List V}, RepL K H m L ds vs → ds.length = vs.length
  | [], _, h => by
    have e : _ = [] := h
    rw [e]; rfl
  | d :: ds, _, h => by
    obtain ⟨v, ws, e, _, rs⟩ := (show ∃ v ws, _ from h)
    rw [e]; exact congrArg Nat.succ rs.length
theorem RepL.get : ∀ {ds : List D} {vs : List V} {i : Nat} {d : D}, RepL K H m L ds vs → ds[i]? = some d → ∃ v, vs[i]? = some v ∧ Rep K H m L d v
  | [], _, i, d, _, e => by simp at e
  | d0 :: ds, _, 0, d, h, e => by
    obtain ⟨v, ws, e1, r, rs⟩ := (show ∃ v ws, _ from h)
    have e2 : d0 = d := Option.some.inj e
    subst e2
    exact ⟨v, by rw [e1]; rfl, r⟩
  | d0 :: ds, _, i + 1, d, h, e => by
    obtain ⟨v, ws, e1, r, rs⟩ := (show ∃ v ws, _ from h)
    obtain ⟨w, e3, r3⟩ := rs.get (i := i) (d := d) e
    exact ⟨w, by rw [e1]; exact e3, r3⟩
theorem RepL.getV : ∀ {ds : List D} {vs : List V} {i : Nat} {v : V}, RepL K H m L ds vs → vs[i]? = some v → ∃ d, ds[i]? = some d ∧ Rep K H m L d v
  | [], _, i, d, h, e => by
    have e1 : _ = [] := h
    rw [e1] at e; simp at e
  | d0 :: ds, _, 0, v, h, e => by
    obtain ⟨v0, ws, e1, r, rs⟩ := (show ∃ v ws, _ from h)
    rw [e1] at e
    have e2 : v0 = v := Option.some.inj e
    subst e2
    exact ⟨d0, rfl, r⟩
  | d0 :: ds, _, i + 1, v, h, e => by
    obtain ⟨v0, ws, e1, r, rs⟩ := (show ∃ v ws, _ from h)
    rw [e1] at e
    obtain ⟨w, e3, r3⟩ := rs.getV (i := i) (v := v) e
    exact ⟨w, e3, r3⟩
theorem RepL.append : ∀ {ds es : List D} {vs ws : List V}, RepL K H m L ds vs → RepL K H m L es ws → RepL K H m L (ds ++ es) (vs ++ ws)
  | [], es, vs, ws, h, g => by
    have e : vs = [] := h
    rw [e]; exact g
  | d :: ds, es, vs, ws, h, g => by
    obtain ⟨v, us, e, r, rs⟩ := (show ∃ v ws, _ from h)
    rw [e]
    exact ⟨v, us ++ ws, rfl, r, rs.append g⟩
theorem RepL.drop : ∀ {ds : List D} {vs : List V} (n : Nat), RepL K H m L ds vs → RepL K H m L (ds.drop n) (vs.drop n)
  | ds, vs, 0, h => h
  | [], vs, n + 1, h => by
    have e : vs = [] := h
    rw [e]; exact (rfl : ([] : List V) = [])
  | d :: ds, vs, n + 1, h => by
    obtain ⟨v, us, e, r, rs⟩ := (show ∃ v ws, _ from h)
    rw [e]; exact rs.drop n
theorem RepL.take : ∀ {ds : List D} {vs : List V} (n : Nat), RepL K H m L ds vs → RepL K H m L (ds.take n) (vs.take n)
  | ds, vs, 0, h => (rfl : ([] : List V) = [])
  | [], vs, n + 1, h => by
    have e : vs = [] := h
    rw [e]; exact (rfl : ([] : List V) = [])
  | d :: ds, vs, n + 1, h => by
    obtain ⟨v, us, e, r, rs⟩ := (show ∃ v ws, _ from h)
    rw [e]; exact ⟨v, us.take n, rfl, r, rs.take n⟩
theorem RepL.one {d : D} {v : V} (h : Rep K H m L d v) : RepL K H m L [d] [v] := ⟨v, [], rfl, h, rfl⟩
theorem RepL.reverse : ∀ {ds : List D} {vs : List V}, RepL K H m L ds vs → RepL K H m L ds.reverse vs.reverse
  | [], vs, h => by
    have e : vs = [] := h
    rw [e]; exact (rfl : ([] : List V) = [])
  | d :: ds, vs, h => by
    obtain ⟨v, us, e, r, rs⟩ := (show ∃ v ws, _ from h)
    rw [e, List.reverse_cons, List.reverse_cons]
    exact rs.reverse.append (.one r)
theorem RepL.set : ∀ {ds : List D} {vs : List V} (n : Nat) {d : D} {v : V}, RepL K H m L ds vs → Rep K H m L d v → RepL K H m L (ds.set n d) (vs.set n v)
  | [], vs, n, d, v, h, r => by
    have e : vs = [] := h
    rw [e]; exact (rfl : ([] : List V) = [])
  | d0 :: ds, vs, 0, d, v, h, r => by
    obtain ⟨v0, us, e, _, rs⟩ := (show ∃ v ws, _ from h)
    rw [e]; exact ⟨v, us, rfl, r, rs⟩
  | d0 :: ds, vs, n + 1, d, v, h, r => by
    obtain ⟨v0, us, e, r0, rs⟩ := (show ∃ v ws, _ from h)
    rw [e]; exact ⟨v0, us.set n v, rfl, r0, rs.set n r⟩
theorem RepL.ints : ∀ {ns : List Int} {vs : List V}, RepL K H m L (ns.map D.int) vs → vs = ns.map V.int
  | [], vs, h => h
  | n :: ns, vs, h => by
    obtain ⟨v0, us, e, r0, rs⟩ := (show ∃ v ws, _ from h)
    have e0 : v0 = .int n := r0
    rw [e, e0, rs.ints]; rfl
theorem RepL.ofInts : ∀ (ns : List Int), RepL K H m L (ns.map D.int) (ns.map V.int)
  | [] => rfl
  | n :: ns => ⟨.int n, ns.map V.int, rfl, rfl, RepL.ofInts ns⟩
theorem RepL.bools : ∀ {ns : List Bool} {vs : List V}, RepL K H m L (ns.map D.bl) vs → vs = ns.map V.bl
  | [], vs, h => h
  | n :: ns, vs, h => by
    obtain ⟨v0, us, e, r0, rs⟩ := (show ∃ v ws, _ from h)
    have e0 : v0 = .bl n := r0
    rw [e, e0, rs.bools]; rfl
end

/-! ### cells -/
def RepK (K : PySem.W.Frag) (H : Hp) (m : Nat → Addr) (L : Nat) : List (Key × D) → List (Key × V) → Prop
  | [], ws => ws = []
  | (k, d) :: r, ws => ∃ v us, ws = (k, v) :: us ∧ Rep K H m L d v ∧ RepK K H m L r us
/-- the script -/
def RoAt (K : PySem.W.Frag) (H : Hp) (a : Addr) (xs : List V) : Prop :=
  (∃ o, H a = some (.frz o (.lst xs))) ∨
    ∃ (o : Obj) (its : Array Value) (n : Nat), K.lookup a = some o ∧ o.cls = .type "list" ∧ o.dict = none ∧ o.data = .seq its n ∧ its.size ≤ sizeLine ∧ Vals xs its.toList
def CellOk (K : PySem.W.Frag) (H : Hp) (m : Nat → Addr) (L : Nat) (a : Addr) : Cell → Prop
  | .lst ds => ∃ vs, H a = some (.lst vs) ∧ RepL K H m L ds vs
  | .ro ds => ∃ vs, RoAt K H a vs ∧ RepL K H m L ds vs
  | .dct kvs => ∃ ws, H a = some (.dK ws) ∧ RepK K H m L kvs ws
def Cell.mut : Cell → Bool
  | .ro _ => false
  | _ => true
structure Sim (K : PySem.W.Frag) (H : Hp) (m : Nat → Addr) (S : Store) : Prop where
  cell : ∀ n c, S[n]? = some c → CellOk K H m S.length (m n) c
  inj : ∀ i j c d, S[i]? = some c → S[j]? = some d → c.mut = true → d.mut = true → m i = m j → i = j
  sys : ∃ o x, H sysModules = some (.frz o (.own x))
structure Grow (H : Hp) (m : Nat → Addr) (S : Store) (H' : Hp) (m' : Nat → Addr) (S' : Store) : Prop where
  tk : TK H H'
  len : S.length ≤ S'.length
  old : ∀ n, n < S.length → m' n = m n
theorem Grow.refl (H : Hp) (m : Nat → Addr) (S : Store) : Grow H m S H m S := ⟨.refl _, Nat.le_refl _, fun _ _ => rfl⟩
section
variable {K : PySem.W.Frag} {H H1 H2 : Hp} {m m1 m2 : Nat → Addr} {S S1 S2 : Store}
theorem Grow.trans (a : Grow H m S H1 m1 S1) (b : Grow H1 m1 S1 H2 m2 S2) : Grow H m S H2 m2 S2 :=
  ⟨a.tk.trans b.tk, Nat.le_trans a.len b.len, fun n h => (b.old n (Nat.lt_of_lt_of_le h a.len)).trans (a.old n h)⟩
theorem Grow.rep (g : Grow H m S H1 m1 S1) {d : D} {v : V} (r : Rep K H m S.length d v) : Rep K H1 m1 S1.length d v := r.mono g.tk g.old g.len
theorem Grow.repL (g : Grow H m S H1 m1 S1) {d : List D} {v : List V} (r : RepL K H m S.length d v) : RepL K H1 m1 S1.length d v := r.mono g.tk g.old g.len
theorem RepK.mono {H' : Hp} {m' : Nat → Addr} {L L' : Nat} (k : TK H H') (hm : ∀ n, n < L → m' n = m n) (hL : L ≤ L') : ∀ {ds : List (Key × D)} {vs : List (Key × V)}, RepK K H m L ds vs → RepK K H' m' L' ds vs
  | [], _, h => h
  | (k0, d) :: ds, _, h => by
    obtain ⟨v, ws, e, r, rs⟩ := (show ∃ v ws, _ from h)
    exact ⟨v, ws, e, r.mono k hm hL, rs.mono k hm hL⟩
theorem RepK.val {L : Nat} : ∀ {ds : List (Key × D)} {vs : List (Key × V)}, RepK K H m L ds vs → ∀ k : Key, match ds.lookup k with
    | some d => ∃ v, vs.lookup k = some v ∧ Rep K H m L d v
    | none => vs.lookup k = none
  | [], vs, h, k => by
    have e : vs = [] := h
    rw [e]; rfl
  | (k0, d) :: ds, vs, h, k => by
    obtain ⟨v, ws, e, r, rs⟩ := (show ∃ v ws, _ from h)
    rw [e, List.lookup_cons, List.lookup_cons]
    cases q : (k == k0) with
    | true => exact ⟨v, rfl, r⟩
    | false => exact rs.val k
theorem RepK.length {L : Nat} : ∀ {ds : List (Key × D)} {vs : List (Key × V)}, RepK K H m L ds vs → ds.length = vs.length
  | [], vs, h => by
    have e : vs = [] := h
    rw [e]; rfl
  | (k0, d) :: ds, vs, h => by
    obtain ⟨v, ws, e, r, rs⟩ := (show ∃ v ws, _ from h)
    rw [e]; exact congrArg Nat.succ rs.length
theorem RoAt.seq {a : Addr} {xs : List V} (h : RoAt K H a xs) : SqL K H a xs := by
  rcases h with ⟨o, h⟩ | h
  · exact .inl (.inr ⟨o, h⟩)
  · exact .inr h
theorem RoAt.mono {a : Addr} {xs : List V} (k : TK H H1) (h : RoAt K H a xs) : RoAt K H1 a xs := by
  rcases h with ⟨o, h⟩ | h
  · exact .inl ⟨o, k.frz _ _ _ h⟩
  · exact .inr h
/-- the heap grows, the cells stand -/
theorem Sim.step (s : Sim K H m S) (k : TK H H1) (keep : ∀ n c, S[n]? = some c → c.mut = true → H1 (m n) = H (m n)) : Sim K H1 m S := by
  refine ⟨fun n c e => ?_, s.inj, let ⟨o, x, h⟩ := s.sys; ⟨o, x, k.frz _ _ _ h⟩⟩
  have q := s.cell n c e
  cases c with
  | lst ds =>
    obtain ⟨vs, h, r⟩ := (show ∃ vs, _ from q)
    exact ⟨vs, by rw [keep n _ e rfl]; exact h, r.mono k (fun _ _ => rfl) (Nat.le_refl _)⟩
  | ro ds =>
    obtain ⟨vs, h, r⟩ := (show ∃ vs, _ from q)
    exact ⟨vs, h.mono k, r.mono k (fun _ _ => rfl) (Nat.le_refl _)⟩
  | dct ds =>
    obtain ⟨vs, h, r⟩ := (show ∃ vs, _ from q)
    exact ⟨vs, by rw [keep n _ e rfl]; exact h, r.mono k (fun _ _ => rfl) (Nat.le_refl _)⟩
theorem Sim.there (s : Sim K H m S) {n : Nat} {c : Cell} (e : S[n]? = some c) (hm : c.mut = true) : ∃ o, H (m n) = some o ∧ (∀ xs, o ≠ .tup xs) ∧ ∀ x u, o ≠ .frz x u := by
  have q := s.cell n c e
  cases c with
  | lst ds =>
    obtain ⟨vs, h, r⟩ := (show ∃ vs, _ from q)
    exact ⟨_, h, (fun _ z => nomatch z), (fun _ _ z => nomatch z)⟩
  | ro ds => cases hm
  | dct ds =>
    obtain ⟨vs, h, r⟩ := (show ∃ vs, _ from q)
    exact ⟨_, h, (fun _ z => nomatch z), (fun _ _ z => nomatch z)⟩
/-- an untracked-by-cells new object (a tuple, a thing that is dropped) -/
theorem Sim.new (s : Sim K H m S) {p : Addr} {o : HO} (h : H p = none) : Sim K (upd H p o) m S :=
  s.step (.new h) fun n c e hm => by
    obtain ⟨o', h1, _⟩ := s.there e hm
    exact upd_ne (ne_of_none h1 h)
def put (m : Nat → Addr) (n : Nat) (p : Addr) : Nat → Addr := fun k => if k = n then p else m k
theorem put_old {m : Nat → Addr} {n k : Nat} {p : Addr} (h : k < n) : put m n p k = m k := if_neg (Nat.ne_of_lt h)
theorem put_new {m : Nat → Addr} {n : Nat} {p : Addr} : put m n p n = p := if_pos rfl
theorem Grow.new {p : Addr} {o : HO} (h : H p = none) : Grow H m S (upd H p o) m S := ⟨.new h, Nat.le_refl _, fun _ _ => rfl⟩
theorem Grow.cell {p : Addr} {o : HO} {c : Cell} (h : H p = none) : Grow H m S (upd H p o) (put m S.length p) (S ++ [c]) :=
  ⟨.new h, by rw [List.length_append]; exact Nat.le_add_right _ _, fun n hn => put_old hn⟩
theorem lt_of_get {α : Type} {l : List α} {i : Nat} {x : α} (h : l[i]? = some x) : i < l.length := (List.getElem?_eq_some_iff.mp h).1
theorem snoc_get {α : Type} {l : List α} {i : Nat} {x y : α} (h : (l ++ [y])[i]? = some x) : (i < l.length ∧ l[i]? = some x) ∨ (i = l.length ∧ x = y) := by
  by_cases hi : i < l.length
  · exact .inl ⟨hi, by rw [List.getElem?_append_left hi] at h; exact h⟩
  · have hl := lt_of_get h
    rw [List.length_append] at hl
    have hl' : i < l.length + 1 := hl
    have e : i = l.length := by omega
    subst e
    rw [List.getElem?_append_right (Nat.le_refl _), Nat.sub_self] at h
    exact .inr ⟨rfl, (Option.some.inj h).symm⟩
/-- a new cell -/
theorem Sim.cellNew (s : Sim K H m S) {p : Addr} {o : HO} {c : Cell} (h : H p = none) (hc : CellOk K (upd H p o) (put m S.length p) (S.length + 1) p c) : Sim K (upd H p o) (put m S.length p) (S ++ [c]) := by
  have s1 : Sim K (upd H p o) m S := s.new h
  have hl : (S ++ [c]).length = S.length + 1 := by rw [List.length_append]; rfl
  refine ⟨fun n d e => ?_, fun i j c1 d1 e1 e2 h1 h2 q => ?_, s1.sys⟩
  · rw [hl]
    rcases snoc_get e with ⟨hn, e⟩ | ⟨rfl, rfl⟩
    · rw [put_old hn]
      have q := s1.cell n d e
      cases d with
      | lst ds =>
        obtain ⟨vs, h, r⟩ := (show ∃ vs, _ from q)
        exact ⟨vs, h, r.mono (.refl _) (fun _ hk => put_old hk) (Nat.le_succ _)⟩
      | ro ds =>
        obtain ⟨vs, h, r⟩ := (show ∃ vs, _ from q)
        exact ⟨vs, h, r.mono (.refl _) (fun _ hk => put_old hk) (Nat.le_succ _)⟩
      | dct ds =>
        obtain ⟨vs, h, r⟩ := (show ∃ vs, _ from q)
        exact ⟨vs, h, r.mono (.refl _) (fun _ hk => put_old hk) (Nat.le_succ _)⟩
    · rw [put_new]; exact hc
  · rcases snoc_get e1 with ⟨hi, f1⟩ | ⟨i1, k1⟩
    · rcases snoc_get e2 with ⟨hj, f2⟩ | ⟨j1, k2⟩
      · rw [put_old hi, put_old hj] at q
        exact s.inj i j c1 d1 f1 f2 h1 h2 q
      · rw [j1, put_old hi, put_new] at q
        obtain ⟨o', z, _⟩ := s.there f1 h1
        rw [q, h] at z; cases z
    · rcases snoc_get e2 with ⟨hj, f2⟩ | ⟨j1, k2⟩
      · rw [i1, put_old hj, put_new] at q
        obtain ⟨o', z, _⟩ := s.there f2 h2
        rw [← q, h] at z; cases z
      · rw [i1, j1]
/-- a cell is written -/
theorem Sim.write (s : Sim K H m S) {n : Nat} {c c' : Cell} {o : HO} (e : S[n]? = some c) (hm : c.mut = true) (hc : CellOk K (upd H (m n) o) m S.length (m n) c') (hm' : c'.mut = true) : Sim K (upd H (m n) o) m (S.set n c') := by
  obtain ⟨o0, h0, n1, n2⟩ := s.there e hm
  have k : TK H (upd H (m n) o) := .set h0 n1 n2
  have hl : (S.set n c').length = S.length := List.length_set
  have hn := lt_of_get e
  refine ⟨fun i d e1 => ?_, fun i j c1 d1 e1 e2 h1 h2 q => ?_, let ⟨o, x, h⟩ := s.sys; ⟨o, x, k.frz _ _ _ h⟩⟩
  · rw [hl]
    by_cases hi : i = n
    · subst hi
      rw [List.getElem?_set_self hn] at e1
      cases e1
      exact hc
    · rw [List.getElem?_set_ne (Ne.symm hi)] at e1
      have q := s.cell i d e1
      have ne : d.mut = true → m i ≠ m n := fun hd z => hi (s.inj i n d c e1 e hd hm z)
      cases d with
      | lst ds =>
        obtain ⟨vs, h, r⟩ := (show ∃ vs, _ from q)
        exact ⟨vs, by rw [upd_ne (ne rfl)]; exact h, r.mono k (fun _ _ => rfl) (Nat.le_refl _)⟩
      | ro ds =>
        obtain ⟨vs, h, r⟩ := (show ∃ vs, _ from q)
        exact ⟨vs, h.mono k, r.mono k (fun _ _ => rfl) (Nat.le_refl _)⟩
      | dct ds =>
        obtain ⟨vs, h, r⟩ := (show ∃ vs, _ from q)
        exact ⟨vs, by rw [upd_ne (ne rfl)]; exact h, r.mono k (fun _ _ => rfl) (Nat.le_refl _)⟩
  · have back : ∀ {i : Nat} {c1 : Cell}, (S.set n c')[i]? = some c1 → c1.mut = true → ∃ c2, S[i]? = some c2 ∧ c2.mut = true := fun {i c1} e1 h1 => by
      by_cases hi : i = n
      · subst hi; exact ⟨c, e, hm⟩
      · rw [List.getElem?_set_ne (Ne.symm hi)] at e1
        exact ⟨c1, e1, h1⟩
    obtain ⟨c2, a1, a2⟩ := back e1 h1
    obtain ⟨d2, b1, b2⟩ := back e2 h2
    exact s.inj i j c2 d2 a1 b1 a2 b2 q
theorem Grow.write (s : Sim K H m S) {n : Nat} {c c' : Cell} {o : HO} (e : S[n]? = some c) (hm : c.mut = true) : Grow H m S (upd H (m n) o) m (S.set n c') := by
  obtain ⟨o0, h0, n1, n2⟩ := s.there e hm
  exact ⟨.set h0 n1 n2, by rw [List.length_set]; exact Nat.le_refl _, fun _ _ => rfl⟩
end

/-! ### environments -/
abbrev EnvD := List (Option D)
structure REnv (K : PySem.W.Frag) (H : Hp) (m : Nat → Addr) (L : Nat) (ρ : EnvD) (σ : L2.St) : Prop where
  len : ρ.length = σ.length
  get : ∀ (i : Nat) (d : D), ρ[i]? = some (some d) → ∃ v, σ[i]? = some (some v) ∧ Rep K H m L d v
section
variable {K : PySem.W.Frag} {H H1 : Hp} {m m1 : Nat → Addr} {S S1 : Store} {ρ : EnvD} {σ : L2.St}
theorem REnv.grow (r : REnv K H m S.length ρ σ) (g : Grow H m S H1 m1 S1) : REnv K H1 m1 S1.length ρ σ :=
  ⟨r.len, fun i d e => let ⟨v, h, q⟩ := r.get i d e; ⟨v, h, g.rep q⟩⟩
theorem REnv.set {L : Nat} (r : REnv K H m L ρ σ) {i : Nat} {d : D} {v : V} (q : Rep K H m L d v) : REnv K H m L (ρ.set i (some d)) (σ.set i (some v)) := by
  refine ⟨by rw [List.length_set, List.length_set]; exact r.len, fun j e h => ?_⟩
  by_cases hj : i = j
  · subst hj
    have hl : i < ρ.length := by
      have := lt_of_get h
      rw [List.length_set] at this
      exact this
    rw [List.getElem?_set_self hl] at h
    cases h
    rw [List.getElem?_set_self (by rw [← r.len]; exact hl)]
    exact ⟨v, rfl, q⟩
  · rw [List.getElem?_set_ne hj] at h ⊢
    exact r.get j e h
end
end DL

set_option maxHeartbeats 4000000
/-! DLM: rules that the kit lacks: list.extend of a tuple, a tuple times a number. -/
namespace DL
open PySem PySem.Spec PyProof.Rows L2
open PySem.AutoSeq1 in
theorem extT_meets {l b : Addr} {xs ys : Array Value} {n k : Nat} {dd : Option Addr} {sl : Array (Option Value)} (h0 : ¬(!xs.isEmpty && Builtin.List.listTooLong (xs.size + ys.size)) = true) (h1 : xs.size ≤ sizeLine) (h2 : xs.size + ys.size ≤ sizeLine + 1) :
    Meets (Builtin.«list.extend» ⟨[.ref l, .ref b], []⟩) (fun _ R s => s.heap.get? l = some { cls := .type "list", dict := none, data := .seq xs n, slots := #[] } ∧ s.heap.get? b = some { cls := .type "tuple", dict := dd, data := .seq ys k, slots := sl } ∧ R (.ok (.ret Value.none)) { s with heap := s.heap.update l (Obj.mapSeq fun x => x ++ ys), toks := s.toks }) :=
  .of_wp fun prog w A R s h => by
    obtain ⟨hp, g, d, tk, os⟩ := s
    obtain ⟨el, eb, h⟩ := h
    have f1 := idx_int
    have f2 := AutoSeq1.sub_tuple_tuple
    have f3 := AutoSeq1.sub_list_list
    have f4 := AutoSeq1.sub_tuple_list
    have f5 := AutoSeq1.sub_list_tuple
    have h3 : (xs ++ ys).size ≤ sizeLine + 1 := by
      rw [Array.size_append]
      exact h2
    wp_walk using (wpAny_updateSeq el rfl (hz := h1) (_hz' := h3)), wpAny_loadPart' el, wpAny_loadPart' eb
    exact ⟨_, rfl, h⟩
def rExtT (K : PySem.W.Frag) : V → List V → Hp → VK → Prop := fun x vs H Q => ∃ l b xs zs, x = .ref l ∧ vs = [.ref b] ∧ H l = some (.lst xs) ∧ SqT K H b zs ∧ xs.length + zs.length ≤ sizeLine ∧ Q .non (upd H l (.lst (xs ++ zs)))
theorem mt_extT {X : Cx} : MtM X "list.extend" (rExtT X.K) := by
  intro pins s σ H x vs v us Q I rx rv h
  obtain ⟨l, b, xs, zs, rfl, rfl, hl, hb, hz, q⟩ := h
  cases rx
  obtain ⟨u, rfl, ru⟩ := rv.one
  cases ru
  obtain ⟨z, its, n, r, el, e⟩ := I.lstM hl
  obtain ⟨jts, r2, ⟨⟨cls, dd, data, sl⟩, ho, hc, k, hd⟩, _⟩ := I.tuple hb
  simp only at hc hd
  subst hc hd
  have l1 := r.length
  have l2 := r2.length
  have fit : its.toArray.size + jts.toArray.size ≤ sizeLine := by
    rw [List.size_toArray, List.size_toArray]
    omega
  have long : ¬ (!its.toArray.isEmpty && Builtin.List.listTooLong (its.toArray.size + jts.toArray.size)) = true := by
    rw [notLongL fit, Bool.and_false]
    exact Bool.false_ne_true
  refine call_meets F.slot_list_extend ⟨_, e, rfl⟩ F.entry_list_extend (F.args_list_extend_2 _ _) (extT_meets long (by rw [List.size_toArray]; omega) (by omega)) ⟨e, ho, ?_⟩
  exact ⟨.non, _, I.lset (its' := its ++ jts) hl e (by simp) (r.append r2) (by rw [List.length_append]; omega), rfl, q⟩

/-! ### a tuple, so many times -/
theorem mul1_meets {l : Addr} {its : Array Value} {n : Nat} {dd : Option Addr} {sl : Array (Option Value)} {u : Tok} :
    Meets (Builtin.«tuple.__mul__» ⟨[.ref l, .int 1 u], []⟩) (fun _ R s => s.heap.get? l = some { cls := .type "tuple", dict := dd, data := .seq its n, slots := sl } ∧ R (.ok (.ret (Value.ref l))) s) :=
  .of_wp fun prog w A R s h => by
    obtain ⟨hp, g, d, tk, os⟩ := s
    obtain ⟨el, h⟩ := h
    have f1 := AutoSeq1.idx_int
    have f2 := AutoSeq1.sub_tuple_tuple
    wp_walk using AutoSeq1.wpAny_loadPart' el
    exact ⟨_, rfl, h⟩
/-- once: itself; k times, a million items at most: a new one -/
def rRepW (K : PySem.W.Frag) : R2 := fun x y H Q => ∃ l k xs, x = .ref l ∧ y = .int k ∧ SqT K H l xs ∧
  ((k = 1 ∧ Q (.ref l) H) ∨ (xs ≠ [] ∧ 2 ≤ k ∧ k ≤ 1000000 ∧ xs.length * k.toNat ≤ 1000000 ∧ ∀ p, H p = none → Q (.ref p) (upd H p (.tup (List.replicate k.toNat xs).flatten))))
theorem op_repW {X : Cx} : OpR X (binaryOp .Mult) (rRepW X.K) := by
  intro pins s σ H x y v u Q I rx ry h
  obtain ⟨l, k, xs, rfl, rfl, hT, h⟩ := h
  cases rx
  obtain ⟨t, rfl⟩ := ry
  obtain ⟨its, r, ⟨⟨cls, dd, data, sl⟩, ho, hc, n, hd⟩, _⟩ := I.tuple hT
  simp only at hc hd
  subst hc hd
  rcases h with ⟨rfl, q⟩ | ⟨hne, k2, k6, hz, q⟩
  · exact wpAny_binaryOp_repeat_ref (T := "tuple") (U := "int") (by decide) ⟨_, ho, rfl⟩ (fun s' => typeIs_int s' 1 t) noFill_tuple_mul F.fills_int_mul F.slot_int_rmul repeat_tuple F.slot_int_index.lookup
      (call_meets F.slot_int_rmul (typeIs_int s 1 t) F.entry_int_rmul (F.args_int_rmul_2 _ _) (int_rmul_tuple 1 t l its.toArray n dd sl)
        ⟨ho, rfl, ⟨_, ho, rfl⟩, call_meets F.slot_tuple_mul ⟨_, ho, rfl⟩ F.entry_tuple_mul (F.args_tuple_mul_2 _ _) mul1_meets ⟨ho, ⟨.ref l, H, I, rfl, q⟩⟩⟩)
  · have el : xs.length = its.length := r.length
    have hp : 0 < its.length := by rw [← el]; exact List.length_pos_iff.mpr hne
    have hi : its.toArray.isEmpty = false := by
      rw [List.isEmpty_toArray]
      cases its with
      | nil => exact absurd hp (by decide)
      | cons a b => rfl
    have sz : its.toArray.size = xs.length := by rw [List.size_toArray, el]
    have hm : ((its.toArray.size : Nat) : Int) * k ≤ 1000000 := by
      have e : ((xs.length * k.toNat : Nat) : Int) = (xs.length : Int) * k := by
        rw [Int.natCast_mul, Int.toNat_of_nonneg (by omega)]
      rw [sz, ← e]
      omega
    have fit : k.toNat * its.length ≤ 1000000 := by rw [Nat.mul_comm, ← el]; exact hz
    have c0 : (decide (k < -(2 ^ 63)) || decide (k ≥ 2 ^ 63)) = false := by
      rw [Bool.or_eq_false_iff]
      exact ⟨decide_eq_false (by omega), decide_eq_false (by omega)⟩
    have c1 : (its.toArray.isEmpty || k == 1) = false := by
      rw [Bool.or_eq_false_iff]
      exact ⟨hi, beq_eq_false_iff_ne.mpr (by omega)⟩
    have c2 : (decide (k ≤ 0) || its.toArray.isEmpty) = false := by
      rw [Bool.or_eq_false_iff]
      exact ⟨decide_eq_false (by omega), hi⟩
    have c4 : Builtin.Tuple.tupleTooMany (((its.toArray.size : Nat) : Int) * k) = false := by
      show decide _ = false
      rw [sizeLine_eq]
      exact decide_eq_false (by omega)
    refine wpAny_binaryOp_repeat_ref (T := "tuple") (U := "int") (by decide) ⟨_, ho, rfl⟩ (fun s' => typeIs_int s' k t) noFill_tuple_mul F.fills_int_mul F.slot_int_rmul repeat_tuple F.slot_int_index.lookup (call_meets F.slot_int_rmul (typeIs_int s k t) F.entry_int_rmul (F.args_int_rmul_2 _ _) (int_rmul_tuple k t l its.toArray n dd sl)
        ⟨ho, rfl, ⟨_, ho, rfl⟩, call_meets F.slot_tuple_mul ⟨_, ho, rfl⟩ F.entry_tuple_mul (F.args_tuple_mul_2 _ _) (tuple_mulW l its.toArray n dd sl k t c0 c1 c2 (by omega) c4 (by rw [size_rep, List.size_toArray, PyProof.Rows.lm_len_rep_flat, sizeLine_eq]; omega)) ⟨ho, ?_⟩⟩)
    rw [size_rep]
    exact ⟨.ref s.heap.objs.size, _, I.laid (t' := s.toks) (o := .tup (List.replicate k.toNat xs).flatten) (fun b ob z => Heap.get?_push_of_some _ z) (Nat.le_refl _) ⟨by rw [PyProof.Rows.lm_len_rep_flat, sizeLine_eq]; rw [← el] at fit; omega, _, r.rep k.toNat, IsTup.new _ _⟩, rfl, q _ (I.hok.fresh (Nat.le_refl _))⟩
end DL
namespace DL
open PySem PySem.Spec PyProof.Rows L2
/-! ### == with what is empty -/
def rE0 (K : PySem.W.Frag) (f : Bool → Bool) : R2 := fun x y H Q => ∃ a b xs ys, x = .ref a ∧ y = .ref b ∧ ((SqT K H a xs ∧ SqT K H b ys) ∨ (SqL K H a xs ∧ SqL K H b ys)) ∧ (xs = [] ∨ ys = []) ∧ Q (.bl (f (xs.isEmpty && ys.isEmpty))) H
theorem emp_all {n m : Nat} (h : n = 0 ∨ m = 0) : ((List.range (min n m)).all (fun _ => true) && n == m) = ((n == 0) && (m == 0)) := by
  rcases h with rfl | rfl
  · rw [Nat.zero_min]
    cases m <;> rfl
  · rw [Nat.min_zero]
    cases n <;> rfl
theorem emp_len {xs : List V} {us : List Value} (h : Vals xs us) : (us.length == 0) = xs.isEmpty := by
  rw [← h.length]
  cases xs <;> rfl
theorem op_eq0 {X : Cx} (hu : X.A.units < cLine) : OpR X (compareOp .Eq) (rE0 X.K id) := by
  intro pins s σ H x y v u Q I rx ry h
  obtain ⟨a, b, xs, ys, rfl, rfl, hs, he, q⟩ := h
  cases rx
  cases ry
  rcases hs with ⟨h1, h2⟩ | ⟨h1, h2⟩
  · obtain ⟨us, r1, t1, _⟩ := I.tuple h1
    obtain ⟨ws, r2, t2, _⟩ := I.tuple h2
    have z : us.length = 0 ∨ ws.length = 0 := he.imp (fun e => by rw [← r1.length, e]; rfl) fun e => by rw [← r2.length, e]; rfl
    refine SeqAt.eq_tupleAt (e := fun _ => true) t1 t2 hu (fun j j1 j2 => ?_) ?_
    · rw [List.size_toArray] at j1 j2
      omega
    · rw [List.size_toArray, List.size_toArray, emp_all z, emp_len r1, emp_len r2]
      exact ⟨.bl _, H, I, rfl, q⟩
  · obtain ⟨us, r1, t1, _⟩ := I.list h1
    obtain ⟨ws, r2, t2, _⟩ := I.list h2
    by_cases z : us.length = ws.length
    · refine SeqAt.eq_listAt (e := fun _ => true) t1.isList t2.isList (by rw [List.size_toArray, List.size_toArray, z]) hu (fun j j1 j2 => ?_) ?_
      · rw [List.size_toArray] at j1 j2
        have := r1.length
        have := r2.length
        rcases he with rfl | rfl <;> simp only [List.length_nil] at * <;> omega
      · have e : (xs.isEmpty && ys.isEmpty) = true := by
          have l1 := r1.length
          have l2 := r2.length
          rcases he with rfl | rfl
          · cases ys with
            | nil => rfl
            | cons => simp only [List.length_nil, List.length_cons] at *; omega
          · cases xs with
            | nil => rfl
            | cons => simp only [List.length_nil, List.length_cons] at *; omega
        have q' : Q (.bl true) H := by rw [e] at q; exact q
        have e2 : (List.range us.toArray.size).all (fun _ => true) = true := by simp
        rw [e2]
        exact ⟨.bl _, H, I, rfl, q'⟩
    · refine SeqAt.eq_list_lengthsAt t1.isList t2.isList (by rw [List.size_toArray, List.size_toArray]; simpa using z) hu ?_
      have e : (xs.isEmpty && ys.isEmpty) = false := by
        have l1 := r1.length
        have l2 := r2.length
        cases xs with
        | cons => rfl
        | nil => cases ys with
          | cons => rfl
          | nil => simp only [List.length_nil] at *; omega
      have q' : Q (.bl false) H := by rw [e] at q; exact q
      exact ⟨.bl _, H, I, rfl, q'⟩
theorem op_ne0 {X : Cx} (hu : X.A.units < cLine) : OpR X (compareOp .NotEq) (rE0 X.K not) := by
  intro pins s σ H x y v u Q I rx ry h
  obtain ⟨a, b, xs, ys, rfl, rfl, hs, he, q⟩ := h
  cases rx
  cases ry
  rcases hs with ⟨h1, h2⟩ | ⟨h1, h2⟩
  · obtain ⟨us, r1, t1, _⟩ := I.tuple h1
    obtain ⟨ws, r2, t2, _⟩ := I.tuple h2
    have z : us.length = 0 ∨ ws.length = 0 := he.imp (fun e => by rw [← r1.length, e]; rfl) fun e => by rw [← r2.length, e]; rfl
    refine SeqAt.RcNeAt.tuples (e := fun _ => true) t1 t2 hu (fun j j1 j2 => ?_) _ _ _ _ ?_
    · rw [List.size_toArray] at j1 j2
      omega
    · rw [List.size_toArray, List.size_toArray, emp_all z, emp_len r1, emp_len r2]
      exact ⟨.bl _, H, I, rfl, q⟩
  · obtain ⟨us, r1, t1, _⟩ := I.list h1
    obtain ⟨ws, r2, t2, _⟩ := I.list h2
    by_cases z : us.length = ws.length
    · refine SeqAt.RcNeAt.lists (e := fun _ => true) t1.isList t2.isList (by rw [List.size_toArray, List.size_toArray, z]) hu (fun j j1 j2 => ?_) _ _ _ _ ?_
      · rw [List.size_toArray] at j1 j2
        have := r1.length
        have := r2.length
        rcases he with rfl | rfl <;> simp only [List.length_nil] at * <;> omega
      · have e : (xs.isEmpty && ys.isEmpty) = true := by
          have l1 := r1.length
          have l2 := r2.length
          rcases he with rfl | rfl
          · cases ys with
            | nil => rfl
            | cons => simp only [List.length_nil, List.length_cons] at *; omega
          · cases xs with
            | nil => rfl
            | cons => simp only [List.length_nil, List.length_cons] at *; omega
        have q' : Q (.bl false) H := by rw [e] at q; exact q
        have e2 : (List.range us.toArray.size).all (fun _ => true) = true := by simp
        rw [e2]
        exact ⟨.bl _, H, I, rfl, q'⟩
    · refine SeqAt.RcNeAt.lists_lengths t1.isList t2.isList (by rw [List.size_toArray, List.size_toArray]; simpa using z) hu _ _ _ _ ?_
      have e : (xs.isEmpty && ys.isEmpty) = false := by
        have l1 := r1.length
        have l2 := r2.length
        cases xs with
        | cons => rfl
        | nil => cases ys with
          | cons => rfl
          | nil => simp only [List.length_nil] at *; omega
      have q' : Q (.bl true) H := by rw [e] at q; exact q
      exact ⟨.bl _, H, I, rfl, q'⟩
end DL
namespace DL
open PySem PySem.Spec PyProof.Rows L2
/-! ### == of tuples of flat values -/
def flatEq : List V → List V → Bool
  | [], [] => true
  | x :: xs, y :: ys => eqV x y && flatEq xs ys
  | _, _ => false
theorem flatEq_all : ∀ xs ys : List V, ((List.range (min xs.length ys.length)).all (fun j => eqV (xs.getD j .non) (ys.getD j .non)) && xs.length == ys.length) = flatEq xs ys
  | [], [] => rfl
  | [], _ :: _ => by simp [flatEq]
  | _ :: _, [] => by simp [flatEq]
  | x :: xs, y :: ys => by
    have ih := flatEq_all xs ys
    have e1 : min (x :: xs).length (y :: ys).length = min xs.length ys.length + 1 := by
      simp only [List.length_cons]
      omega
    have e2 : ((x :: xs).length == (y :: ys).length) = (xs.length == ys.length) := by simp
    rw [e1, e2, flatEq, ← ih, List.range_succ_eq_map, List.all_cons, List.all_map, Bool.and_assoc]
    rfl
def rEFl (K : PySem.W.Frag) (f : Bool → Bool) : R2 := fun x y H Q => ∃ a b xs ys, x = .ref a ∧ y = .ref b ∧ SqT K H a xs ∧ SqT K H b ys ∧ xs.all flatV = true ∧ ys.all flatV = true ∧ Q (.bl (f (flatEq xs ys))) H
theorem flat_at {A : Around} {s : Shared} {xs ys : List V} {us ws : List Value} (r1 : Vals xs us) (r2 : Vals ys ws) (f1 : xs.all flatV = true) (f2 : ys.all flatV = true) :
    ∀ j (h1 : j < us.toArray.size) (h2 : j < ws.toArray.size), SeqAt.EqAt A s us.toArray[j] ws.toArray[j] (eqV (xs.getD j .non) (ys.getD j .non)) := by
  intro j h1 h2
  rw [List.size_toArray] at h1 h2
  have l1 := r1.length
  have l2 := r2.length
  have g1 : xs[j]? = some xs[j] := List.getElem?_eq_getElem (by omega)
  have g2 : ys[j]? = some ys[j] := List.getElem?_eq_getElem (by omega)
  obtain ⟨u, eu, ru⟩ := r1.get g1
  obtain ⟨w, ew, rw'⟩ := r2.get g2
  rw [List.getElem?_eq_getElem h1] at eu
  rw [List.getElem?_eq_getElem h2] at ew
  have e1 : us.toArray[j] = u := Option.some.inj eu
  have e2 : ws.toArray[j] = w := Option.some.inj ew
  rw [e1, e2, List.getD_eq_getElem?_getD, List.getD_eq_getElem?_getD, g1, g2]
  exact eqAt_V ru rw' (List.all_eq_true.mp f1 _ (List.getElem_mem _)) (List.all_eq_true.mp f2 _ (List.getElem_mem _))
theorem op_eqFl {X : Cx} (hu : X.A.units < cLine) : OpR X (compareOp .Eq) (rEFl X.K id) := by
  intro pins s σ H x y v u Q I rx ry h
  obtain ⟨a, b, xs, ys, rfl, rfl, h1, h2, f1, f2, q⟩ := h
  cases rx
  cases ry
  obtain ⟨us, r1, t1, _⟩ := I.tuple h1
  obtain ⟨ws, r2, t2, _⟩ := I.tuple h2
  refine SeqAt.eq_tupleAt t1 t2 hu (flat_at r1 r2 f1 f2) ?_
  have e := flatEq_all xs ys
  rw [r1.length, r2.length] at e
  rw [List.size_toArray, List.size_toArray, e]
  exact ⟨.bl _, H, I, rfl, q⟩
theorem op_neFl {X : Cx} (hu : X.A.units < cLine) : OpR X (compareOp .NotEq) (rEFl X.K not) := by
  intro pins s σ H x y v u Q I rx ry h
  obtain ⟨a, b, xs, ys, rfl, rfl, h1, h2, f1, f2, q⟩ := h
  cases rx
  cases ry
  obtain ⟨us, r1, t1, _⟩ := I.tuple h1
  obtain ⟨ws, r2, t2, _⟩ := I.tuple h2
  refine SeqAt.RcNeAt.tuples t1 t2 hu (flat_at r1 r2 f1 f2) _ _ _ _ ?_
  have e := flatEq_all xs ys
  rw [r1.length, r2.length] at e
  rw [List.size_toArray, List.size_toArray, e]
  exact ⟨.bl _, H, I, rfl, q⟩
end DL
namespace DL
open PySem PySem.Spec PyProof.Rows L2
/-! ### t[::-1] -/
section
variable {prog : Program} {w : World} {A : Around} {E : Value → Shared → Prop} {s : Shared}
theorem applied_rev {sl : Addr} {vs : Value} {n : Nat} {Q : Int × Int × Nat → Shared → Prop} (hs : s.heap.IsSliceOf sl .none .none vs) (pv : IsPart vs (some (-1))) (h : Q ((n : Int) - 1, -1, n) s) :
    wpAny (model prog w) A (Builtin.Slice.sliceApplied (.ref sl) (pure (n : Int))) Q E s := by
  obtain ⟨os, hos, hcs, hds⟩ := id hs
  unfold Builtin.Slice.sliceApplied Builtin.Slice.sliceFields
  refine wpAny_bind (wpAny_bind (wpAny_field hos hds (x := .none) rfl (wpAny_bind (wpAny_field hos hds (x := .none) rfl (wpAny_bind (wpAny_field hos hds (x := vs) rfl (wpAny_pure ?_)))))))
  refine wpAny_bind (HT.slicePart_ pv ?_)
  show wpAny _ _ (if ((-1 : Int) == 0) = true then _ else _) _ _ s
  rw [if_neg (by decide)]
  refine wpAny_bind (HT.slicePart_ .none (wpAny_bind (HT.slicePart_ .none (wpAny_bind (wpAny_pure ?_)))))
  have e : (Builtin.Slice.sliceAdjust none none (-1) (n : Int)) = ((n : Int) - 1, -1) := by
    unfold Builtin.Slice.sliceAdjust
    simp
  have e2 : Builtin.Slice.slicePlaces ((n : Int) - 1) (-1) (-1) = n := by
    unfold Builtin.Slice.slicePlaces
    simp
    split <;> omega
  show wpAny _ _ (match Builtin.Slice.sliceAdjust none none (-1) (n : Int) with | (lo, hi) => pure (lo, (-1 : Int), Builtin.Slice.slicePlaces lo hi (-1))) _ _ s
  rw [e]
  show wpAny _ _ (pure ((n : Int) - 1, (-1 : Int), Builtin.Slice.slicePlaces ((n : Int) - 1) (-1) (-1))) _ _ s
  rw [e2]
  exact wpAny_pure h
theorem pick_rev (xs : Array Value) : ((List.range xs.size).filterMap fun (m : Nat) => xs[(((xs.size : Int) - 1) + (m : Int) * (-1)).toNat]?) = xs.toList.reverse := by
  have e : (List.range xs.size).map (fun (m : Nat) => (((xs.size : Int) - 1) + (m : Int) * (-1)).toNat) = (List.range xs.size).reverse := by
    rw [← PySem.W.krv_range]
    apply List.map_congr_left
    intro k hk
    have := List.mem_range.mp hk
    omega
  have e2 : ((List.range xs.size).filterMap fun (m : Nat) => xs[(((xs.size : Int) - 1) + (m : Int) * (-1)).toNat]?) = ((List.range xs.size).map (fun (m : Nat) => (((xs.size : Int) - 1) + (m : Int) * (-1)).toNat)).filterMap (xs[·]?) := by
    rw [List.filterMap_map]
    rfl
  rw [e2, e, List.filterMap_reverse, PySem.W.krv_all]
theorem getItem_rev {t sl : Addr} {xs : Array Value} {vs : Value} {Q : Value → Shared → Prop} (ht : IsTup s.heap t xs) (hs : s.heap.IsSliceOf sl .none .none vs) (pv : IsPart vs (some (-1))) (hz : xs.size ≤ sizeLine)
    (h : Q (.ref s.heap.objs.size) { s with heap := s.heap.push { cls := .type "tuple", data := .seq xs.toList.reverse.toArray } }) : wpAny (model prog w) A (getItem (.ref t) (.ref sl)) Q E s := by
  have fit : sizeOk (.seq xs.toList.reverse.toArray) := by
    show xs.toList.reverse.toArray.size ≤ sizeLine
    rw [List.size_toArray, List.length_reverse, Array.length_toList]
    exact hz
  obtain ⟨os, hos, hcs, hds⟩ := id hs
  have ty : s.TypeIs (.ref sl) "slice" := ⟨os, hos, hcs⟩
  unfold getItem
  try with_reducible refine wpAny_holding ?_
  first
    | refine wpAny_bind (wpAny_pure ?_)
    | skip
  refine wpAny_bind (wpAny_sequenceKey ht.typeIs (by decide) ?_)
  refine wpAny_bind (wpAny_callSpecial?_slot (name := Str.ofString "__getitem__") ht.typeIs PyProof.Rows.slot_tuple_getitem (wpAny_call_entry PyProof.Rows.slot_tuple_getitem ht.typeIs entry_tuple_getitem ?_ (args_tuple_getitem _ _)))
  show wpAny _ _ (Builtin.Tuple.tupleItemsOf (.ref t) >>= _) _ _ s
  refine wpAny_bind (tupleItemsOf_ ht ?_)
  refine wpAny_bind (wpAny_typeOf ty ?_)
  rw [if_pos (by decide)]
  refine wpAny_bind (applied_rev hs pv ?_)
  have no : ¬ ((((xs.size : Int) - 1 == 0) && ((-1 : Int) == 1) && xs.size == xs.size) = true) := by
    rw [show ((-1 : Int) == 1) = false from rfl, Bool.and_false, Bool.false_and]
    exact Bool.false_ne_true
  show wpAny _ _ (if (((xs.size : Int) - 1 == 0) && ((-1 : Int) == 1) && xs.size == xs.size) = true then _ else _) _ _ s
  rw [if_neg no, pick_rev]
  first
    | exact wpAny_bind (m := Builtin.Tuple.tupleExact _) (wpAny_newObj_type (wpAny_pure ⟨_, rfl, wpAny_pure h⟩) fit)
    | exact wpAny_bind (m := Builtin.Tuple.tupleExact _) (wpAny_newObj_type (wpAny_bind (wpAny_pure (wpAny_pure ⟨_, rfl, wpAny_pure h⟩))) fit)
    | exact wpAny_bind (wpAny_bind (m := Builtin.Tuple.tupleExact _) (wpAny_newObj_type (wpAny_pure (wpAny_pure ⟨_, rfl, wpAny_pure h⟩)) fit))
    | exact wpAny_bind (wpAny_bind (m := Builtin.Tuple.tupleExact _) (wpAny_newObj_type (wpAny_pure ⟨_, rfl, wpAny_pure h⟩) fit))
end
/-- xs[::-1], xs a list, a tuple -/
def tRev (K : PySem.W.Frag) (te : TE) : TE := fun σ H Q => te σ H fun x H1 => ∃ a xs, x = .ref a ∧ ((SqL K H1 a xs ∧ ∀ p, H1 p = none → Q (.ref p) (upd H1 p (.lst xs.reverse))) ∨ (SqT K H1 a xs ∧ ∀ p, H1 p = none → Q (.ref p) (upd H1 p (.tup xs.reverse))))
theorem pe_rev {X : Cx} {e : Expr} {te : TE} {k : Nat} {p1 p2 p3 pos : Pos} (he : PE X e te) : PE X (.Subscript e (.Slice none none (some (.UnaryOp .USub (.Constant (.int 1) k p1) p2)) p3) pos) (tRev X.K te) := by
  refine ⟨fun pins s σ H Q I h => ?_⟩
  refine Subscript_ (thn (he.run pins s σ H _ I h) fun v s1 ⟨x, H1, I1, r1, q1⟩ => ?_)
  obtain ⟨a, xs, ex, hx⟩ := q1
  subst ex
  cases r1
  have part : PO X (some (.UnaryOp .USub (.Constant (.int 1) k p1) p2)) (tPart (tUn (rU fun i => .int (-i)) (tC (.int 1)))) := po_some (pe_un un_neg pe_int)
  refine wpAny_Slice (thn (po_none.run pins s1 σ H1 (fun o G => o = none ∧ G = H1) I1 ⟨rfl, rfl⟩) fun vl s2 ⟨l, H2, I2, pl, el, e2⟩ => ?_)
  subst el e2
  refine thn (po_none.run pins s2 σ H2 (fun o G => o = none ∧ G = H2) I2 ⟨rfl, rfl⟩) fun vu s3 ⟨u, H3, I3, pu, eu, e3⟩ => ?_
  subst eu e3
  refine thn (part.run pins s3 σ H3 (fun o G => o = some (-1) ∧ G = H3) I3 ⟨1, rfl, -1, rfl, rfl, rfl⟩) fun vs s4 ⟨o, H4, I4, ps, eo, e4⟩ => ?_
  subst eo e4
  have J : Inv X pins σ H4 { s4 with heap := s4.heap.push { cls := .type "slice", data := .fields #[vl, vu, vs] } } := I4.kept (t' := s4.toks) fun b ob q => Heap.get?_push_of_some _ q
  show wpAny (model X.prog X.w) X.A (subscriptTail e (.Slice none none (some (.UnaryOp .USub (.Constant (.int 1) k p1) p2)) p3) (.ref a) (.ref s4.heap.objs.size)) (EP X pins σ Q) X.xe { s4 with heap := s4.heap.push { cls := .type "slice", data := .fields #[vl, vu, vs] } }
  rcases hx with ⟨hx, q⟩ | ⟨hx, q⟩
  · obtain ⟨its, r, ht, hz⟩ := J.list hx
    have hl := r.length
    refine tail_any (ops := [.ref a, .ref s4.heap.objs.size]) ht.isList.typeIs PySem.slot_list_getitem.lookup ?_ (by with_unfolding_all rfl)
    refine wpAny_getItem_list_slice ht.isList (Heap.IsSliceOf.new _ vl vu vs) pl pu ps (by decide) ?_ (by rw [List.size_toArray]; omega)
    rw [PySem.W.krv_pick]
    exact ⟨.ref _, _, J.laid (t' := s4.toks) (o := .lst xs.reverse) (fun b ob z => Heap.get?_push_of_some _ z) (Nat.le_refl _) ⟨by rw [List.length_reverse]; exact hz, _, 0, r.reverse, Heap.get?_push_size _ rfl⟩, rfl, q _ (J.hok.fresh (Nat.le_refl _))⟩
  · obtain ⟨its, r, ht, hz⟩ := J.tuple hx
    have hl := r.length
    cases pl
    cases pu
    refine tail_any (ops := [.ref a, .ref s4.heap.objs.size]) ht.typeIs PyProof.Rows.slot_tuple_getitem.lookup ?_ (by with_unfolding_all rfl)
    refine getItem_rev ht (Heap.IsSliceOf.new _ .none .none vs) ps (by rw [List.size_toArray]; omega) ?_
    exact ⟨.ref _, _, J.laid (t' := s4.toks) (o := .tup xs.reverse) (fun b ob z => Heap.get?_push_of_some _ z) (Nat.le_refl _) ⟨by rw [List.length_reverse]; exact hz, _, r.reverse, IsTup.new _ _⟩, rfl, q _ (J.hok.fresh (Nat.le_refl _))⟩
end DL

set_option maxHeartbeats 4000000
/-! DL2: operations on data, and that the machine does them. -/
namespace DL
open PySem PySem.Spec PyProof.Rows L2

abbrev Res := Option (D × Store)
abbrev line : Nat := 16777216
theorem line_eq : line = sizeLine := sizeLine_eq.symm

/-! ### flat values -/
def D.flat : D → Bool
  | .non => true
  | .bl _ => true
  | .int _ => true
  | .str _ => true
  | _ => false
def D.v : D → V
  | .bl b => .bl b
  | .int i => .int i
  | .str x => .str x
  | _ => .non
section
variable {K : PySem.W.Frag} {H : Hp} {m : Nat → Addr} {L : Nat}
theorem Rep.flat {d : D} {v : V} (h : Rep K H m L d v) (f : d.flat = true) : v = d.v ∧ flatV v = true := by
  cases d with
  | non => exact ⟨h, by rw [show v = .non from h]; rfl⟩
  | bl b => exact ⟨h, by rw [show v = .bl b from h]; rfl⟩
  | int b => exact ⟨h, by rw [show v = .int b from h]; rfl⟩
  | str b => exact ⟨h, by rw [show v = .str b from h]; rfl⟩
  | tup xs => cases f
  | ref n => cases f
  | ty n => cases f
theorem RepL.flat : ∀ {ds : List D} {vs : List V}, RepL K H m L ds vs → ds.all D.flat = true → vs = ds.map D.v ∧ vs.all flatV = true
  | [], vs, h, _ => by
    have e : vs = [] := h
    rw [e]; exact ⟨rfl, rfl⟩
  | d :: ds, vs, h, f => by
    obtain ⟨v, ws, e, r, rs⟩ := (show ∃ v ws, _ from h)
    rw [List.all_cons, Bool.and_eq_true] at f
    obtain ⟨a, b⟩ := r.flat f.1
    obtain ⟨c, d'⟩ := rs.flat f.2
    rw [e, c, a]
    refine ⟨rfl, ?_⟩
    rw [List.all_cons, Bool.and_eq_true]
    exact ⟨a ▸ b, c ▸ d'⟩
end

/-! ### as data of the library (for ==, repr) -/
def allS (f : D → Option PyData) : List D → Option (List PyData)
  | [] => some []
  | d :: ds => match f d, allS f ds with
    | some x, some xs => some (x :: xs)
    | _, _ => none
def toPy (S : Store) : Nat → D → Option PyData
  | _, .non => some .none
  | _, .bl b => some (.bool b)
  | _, .int i => some (.int i)
  | _, .str x => some (.str x)
  | 0, _ => none
  | n + 1, .tup ds => (allS (toPy S n) ds).map .tuple
  | n + 1, .ref k => match S[k]? with
    | some (.lst ds) => (allS (toPy S n) ds).map .list
    | some (.ro ds) => (allS (toPy S n) ds).map .list
    | _ => none
  | _ + 1, .ty _ => none
section
variable {K : PySem.W.Frag} {H : Hp} {m : Nat → Addr} {S : Store}
theorem allS_dp {f : D → Option PyData} {L : Nat} (hf : ∀ d v p, f d = some p → Rep K H m L d v → Dp K H v p) : ∀ {ds : List D} {vs : List V} {ps : List PyData}, allS f ds = some ps → RepL K H m L ds vs → DpAll K H vs ps
  | [], vs, ps, e, h => by
    have e1 : vs = [] := h
    have e2 : [] = ps := Option.some.inj e
    rw [e1, ← e2]; exact .nil
  | d :: ds, vs, ps, e, h => by
    obtain ⟨v, ws, e1, r, rs⟩ := (show ∃ v ws, _ from h)
    unfold allS at e
    split at e
    · rename_i x xs ex exs
      have e2 := Option.some.inj e
      rw [e1, ← e2]
      exact .cons (hf d v x ex r) (allS_dp hf exs rs)
    · cases e
theorem toPy_dp (s : Sim K H m S) : ∀ (n : Nat) (d : D) (v : V) (p : PyData), toPy S n d = some p → Rep K H m S.length d v → Dp K H v p := by
  intro n
  induction n with
  | zero =>
    intro d v p e r
    cases d with
    | non => rw [show v = .non from r, ← Option.some.inj e]; exact .non
    | bl b => rw [show v = .bl b from r, ← Option.some.inj e]; exact .bl b
    | int b => rw [show v = .int b from r, ← Option.some.inj e]; exact .int b
    | str b => rw [show v = .str b from r, ← Option.some.inj e]; exact .str b
    | tup xs => cases e
    | ref k => cases e
    | ty k => cases e
  | succ n ih =>
    intro d v p e r
    cases d with
    | non => rw [show v = .non from r, ← Option.some.inj e]; exact .non
    | bl b => rw [show v = .bl b from r, ← Option.some.inj e]; exact .bl b
    | int b => rw [show v = .int b from r, ← Option.some.inj e]; exact .int b
    | str b => rw [show v = .str b from r, ← Option.some.inj e]; exact .str b
    | tup xs =>
      obtain ⟨a, vs, ev, sq, rs⟩ := (show ∃ a vs, _ from r)
      have e' : (allS (toPy S n) xs).map PyData.tuple = some p := e
      obtain ⟨ps, e1, e2⟩ := Option.map_eq_some_iff.mp e'
      rw [ev, ← e2]
      exact .tup sq (allS_dp ih e1 rs)
    | ty k => cases e
    | ref k =>
      obtain ⟨l, ev⟩ := (show k < S.length ∧ _ from r)
      unfold toPy at e
      split at e
      · rename_i ds ec
        obtain ⟨ps, e1, e2⟩ := Option.map_eq_some_iff.mp e
        obtain ⟨vs, h, rs⟩ := (show ∃ vs, _ from s.cell k _ ec)
        rw [ev, ← e2]
        exact .lst (SqL.of h) (allS_dp ih e1 rs)
      · rename_i ds ec
        obtain ⟨ps, e1, e2⟩ := Option.map_eq_some_iff.mp e
        obtain ⟨vs, h, rs⟩ := (show ∃ vs, _ from s.cell k _ ec)
        rw [ev, ← e2]
        exact .lst h.seq (allS_dp ih e1 rs)
      · cases e
end

/-! ### what a rule by values owes -/
/-- the state grows to S', a value of d is handed on -/
def Fin (K : PySem.W.Frag) (H : Hp) (m : Nat → Addr) (S : Store) (d : D) (S' : Store) (Q : VK) : Prop :=
  ∀ v H' m', Grow H m S H' m' S' → Sim K H' m' S' → Rep K H' m' S'.length d v → Q v H'
def Den2 (K : PySem.W.Frag) (r : R2) (g : D → D → Store → Res) : Prop :=
  ∀ {H : Hp} {m : Nat → Addr} {S : Store} {a b : D} {x y : V} {d : D} {S' : Store} {Q : VK}, Sim K H m S → Rep K H m S.length a x → Rep K H m S.length b y → g a b S = some (d, S') → Fin K H m S d S' Q → r x y H Q
section
variable {K : PySem.W.Frag} {H : Hp} {m : Nat → Addr} {S : Store} {d : D} {S' : Store} {Q : VK}
/-- nothing changes -/
theorem Fin.at (f : Fin K H m S d S Q) (s : Sim K H m S) {v : V} (r : Rep K H m S.length d v) : Q v H := f v H m (.refl _ _ _) s r
/-- a new tuple -/
theorem Fin.tup {ds : List D} (f : Fin K H m S (.tup ds) S Q) (s : Sim K H m S) {vs : List V} (r : RepL K H m S.length ds vs) {p : Addr} (h : H p = none) : Q (.ref p) (upd H p (.tup vs)) :=
  f _ _ m (.new h) (s.new h) ⟨p, vs, rfl, .inl (.inl upd_same), r.mono (.new h) (fun _ _ => rfl) (Nat.le_refl _)⟩
/-- a new list -/
theorem Fin.lst {ds : List D} (f : Fin K H m S (.ref S.length) (S ++ [.lst ds]) Q) (s : Sim K H m S) {vs : List V} (r : RepL K H m S.length ds vs) {p : Addr} (h : H p = none) : Q (.ref p) (upd H p (.lst vs)) :=
  f _ _ (put m S.length p) (.cell h) (s.cellNew h ⟨vs, upd_same, r.mono (.new h) (fun _ hk => put_old hk) (Nat.le_succ _)⟩)
    ⟨by rw [List.length_append]; exact Nat.lt_succ_self _, by rw [put_new]⟩
/-- a list written -/
theorem Fin.wr {ds ds' : List D} {n : Nat} {z : V} (f : Fin K H m S d (S.set n (.lst ds')) Q) (s : Sim K H m S) (e : S[n]? = some (.lst ds)) {vs : List V} (r : RepL K H m S.length ds' vs) (rz : Rep K H m S.length d z) : Q z (upd H (m n) (.lst vs)) := by
  obtain ⟨o0, h0, n1, n2⟩ := s.there e rfl
  have k : TK H (upd H (m n) (.lst vs)) := .set h0 n1 n2
  refine f z _ m (.write s e rfl) (s.write e rfl ⟨vs, upd_same, r.mono k (fun _ _ => rfl) (Nat.le_refl _)⟩ rfl) ?_
  rw [List.length_set]
  exact rz.mono k (fun _ _ => rfl) (Nat.le_refl _)
end

/-! ### sequences -/
/-- the items of a list, a tuple -/
def items (S : Store) : D → Option (List D)
  | .tup ds => some ds
  | .ref n => match S[n]? with
    | some (.lst ds) => some ds
    | some (.ro ds) => some ds
    | _ => none
  | _ => none
theorem items_seq {K : PySem.W.Frag} {H : Hp} {m : Nat → Addr} {S : Store} (s : Sim K H m S) {d : D} {v : V} {ds : List D} (r : Rep K H m S.length d v) (e : items S d = some ds) :
    ∃ a vs, v = .ref a ∧ (SqL K H a vs ∨ SqT K H a vs) ∧ RepL K H m S.length ds vs := by
  cases d with
  | tup xs =>
    obtain ⟨a, vs, ev, sq, rs⟩ := (show ∃ a vs, _ from r)
    have e1 : xs = ds := Option.some.inj e
    subst e1
    exact ⟨a, vs, ev, .inr sq, rs⟩
  | ref k =>
    obtain ⟨l, ev⟩ := (show k < S.length ∧ _ from r)
    simp only [items] at e
    split at e
    · rename_i xs ec
      have e1 : xs = ds := Option.some.inj e
      subst e1
      obtain ⟨vs, h, rs⟩ := (show ∃ vs, _ from s.cell k _ ec)
      exact ⟨_, vs, ev, .inl (SqL.of h), rs⟩
    · rename_i xs ec
      have e1 : xs = ds := Option.some.inj e
      subst e1
      obtain ⟨vs, h, rs⟩ := (show ∃ vs, _ from s.cell k _ ec)
      exact ⟨_, vs, ev, .inl h.seq, rs⟩
    · cases e
  | _ => cases e

/-! ### the operators -/
inductive Op where
  | add | sub | mul | mod | div | pow
  | lt | le | gt | ge | eq | ne | isIn | notIn
  deriving DecidableEq
def intsOf : List D → Option (List Int)
  | [] => some []
  | .int i :: ds => (intsOf ds).map (i :: ·)
  | _ => none
theorem intsOf_map : ∀ {ds : List D} {ns : List Int}, intsOf ds = some ns → ds = ns.map D.int
  | [], ns, e => by
    have e1 : [] = ns := Option.some.inj e
    rw [← e1]; rfl
  | .int i :: ds, ns, e => by
    obtain ⟨ms, e1, e2⟩ := Option.map_eq_some_iff.mp (show (intsOf ds).map (i :: ·) = some ns from e)
    rw [← e2, intsOf_map e1]; rfl
  | .non :: ds, ns, e => by cases e
  | .bl _ :: ds, ns, e => by cases e
  | .str _ :: ds, ns, e => by cases e
  | .tup _ :: ds, ns, e => by cases e
  | .ref _ :: ds, ns, e => by cases e
  | .ty _ :: ds, ns, e => by cases e
def eqD (S : Store) (a b : D) : Option Bool := match toPy S 40 a, toPy S 40 b with
  | some p, some q => if SeqAt.shaped p && SeqAt.shaped q then some (PyData.eqv p q) else none
  | _, _ => none
/-- == with what is empty -/
def eq0 (S : Store) (a b : D) : Option Bool := match a, b with
  | .tup xs, .tup ys => if xs.isEmpty || ys.isEmpty then some (xs.isEmpty && ys.isEmpty) else none
  | .ref i, .ref j => match S[i]?, S[j]? with
    | some (.lst xs), some (.lst ys) => if xs.isEmpty || ys.isEmpty then some (xs.isEmpty && ys.isEmpty) else none
    | _, _ => none
  | _, _ => none
/-- == of tuples of flat values -/
def eqFl (a b : D) : Option Bool := match a, b with
  | .tup xs, .tup ys => if xs.all D.flat && ys.all D.flat then some (flatEq (xs.map D.v) (ys.map D.v)) else none
  | _, _ => none
def eqF (S : Store) (a b : D) : Option Bool := match eq0 S a b with
  | some k => some k
  | none => match eqFl a b with
    | some k => some k
    | none => eqD S a b
def inF (S : Store) (a b : D) : Option Bool := match items S b with
  | some ds => if a.flat && ds.all D.flat then some (inV a.v (ds.map D.v)) else none
  | none => none
def opF : Op → D → D → Store → Res
  | .add, .int i, .int j, S => some (.int (i + j), S)
  | .add, .tup xs, .tup ys, S => if xs.length + ys.length ≤ line then some (.tup (xs ++ ys), S) else none
  | .add, .str x, .str y, S => if x.length + y.length ≤ line then some (.str (x ++ y), S) else none
  | .add, .ref i, .ref j, S => match S[i]?, S[j]? with
    | some (.lst xs), some (.lst ys) => if xs.length + ys.length ≤ line then some (.ref S.length, S ++ [.lst (xs ++ ys)]) else none
    | _, _ => none
  | .sub, .int i, .int j, S => some (.int (i - j), S)
  | .mul, .int i, .int j, S => if (decide (-(2 ^ 64) < i) && decide (i < 2 ^ 64)) || (decide (-(2 ^ 64) < j) && decide (j < 2 ^ 64)) then some (.int (i * j), S) else none
  | .mul, .tup xs, .int k, S => if k = 1 then some (.tup xs, S) else if !xs.isEmpty && decide (2 ≤ k) && decide (k ≤ 1000000) && decide (xs.length * k.toNat ≤ 1000000) then some (.tup (List.replicate k.toNat xs).flatten, S) else none
  | .mod, .int i, .int j, S => if 0 < j then some (.int (i % j), S) else none
  | .div, .int i, .int j, S => if 0 < j ∧ j.natAbs.log2 < 9000 then some (.int (i / j), S) else none
  | .pow, .int i, .int j, S => if 0 ≤ j ∧ j ≤ 1000 ∧ i.natAbs < 2 ^ 64 then some (.int (i ^ j.toNat), S) else none
  | .lt, .int i, .int j, S => some (.bl (decide (i < j)), S)
  | .lt, .tup xs, .tup ys, S => match intsOf xs, intsOf ys with
    | some ns, some ms => some (.bl (HT.lexLt ns ms), S)
    | _, _ => none
  | .le, .int i, .int j, S => some (.bl (decide (i ≤ j)), S)
  | .gt, .int i, .int j, S => some (.bl (decide (j < i)), S)
  | .ge, .int i, .int j, S => some (.bl (decide (j ≤ i)), S)
  | .eq, .int i, .int j, S => some (.bl (decide (i = j)), S)
  | .eq, .str i, .str j, S => some (.bl (decide (i = j)), S)
  | .ne, .int i, .int j, S => some (.bl (!decide (i = j)), S)
  | .ne, .str i, .str j, S => some (.bl (!decide (i = j)), S)
  | .eq, a, b, S => (eqF S a b).map fun k => (.bl k, S)
  | .ne, a, b, S => (eqF S a b).map fun k => (.bl (!k), S)
  | .isIn, a, b, S => (inF S a b).map fun k => (.bl k, S)
  | .notIn, a, b, S => (inF S a b).map fun k => (.bl (!k), S)
  | _, _, _, _ => none

def rAdd' (K : PySem.W.Frag) : R2 := fun x y H Q => rI0 (fun i j => .int (i + j)) x y H Q ∨ rCatA K x y H Q ∨ (∃ i j : Str, x = .str i ∧ y = .str j ∧ i.length + j.length ≤ sizeLine ∧ Q (.str (i ++ j)) H) ∨ rCat x y H Q
def rMul' (K : PySem.W.Frag) : R2 := fun x y H Q => rI CMul (fun i j => .int (i * j)) x y H Q ∨ rRepW K x y H Q
def rLt' (K : PySem.W.Frag) : R2 := fun x y H Q => rI0 (fun i j => .bl (decide (i < j))) x y H Q ∨ rLtT K x y H Q
def ruleOf (K : PySem.W.Frag) : Op → R2
  | .add => rAdd' K
  | .sub => rI0 fun i j => .int (i - j)
  | .mul => rMul' K
  | .mod => rI (fun _ j => 0 < j) fun i j => .int (i % j)
  | .div => rI CDivW fun i j => .int (i / j)
  | .pow => rI CPow fun i j => .int (i ^ j.toNat)
  | .lt => rLt' K
  | .le => rI0 fun i j => .bl (decide (i ≤ j))
  | .gt => rI0 fun i j => .bl (decide (j < i))
  | .ge => rI0 fun i j => .bl (decide (j ≤ i))
  | .eq => fun x y H Q => rEq x y H Q ∨ (rE0 K id x y H Q ∨ (rEFl K id x y H Q ∨ rEqD K x y H Q))
  | .ne => fun x y H Q => rNe x y H Q ∨ (rE0 K not x y H Q ∨ (rEFl K not x y H Q ∨ rNeD K x y H Q))
  | .isIn => rIn K false
  | .notIn => rIn K true
/-- the machine's operator -/
def Op.bin : Op → Option Operator
  | .add => some .Add
  | .sub => some .Sub
  | .mul => some .Mult
  | .mod => some .Mod
  | .div => some .FloorDiv
  | .pow => some .Pow
  | _ => none
def Op.cmp : Op → Option CmpOp
  | .lt => some .Lt
  | .le => some .LtE
  | .gt => some .Gt
  | .ge => some .GtE
  | .eq => some .Eq
  | .ne => some .NotEq
  | .isIn => some .In
  | .notIn => some .NotIn
  | _ => none
theorem op_bin {X : Cx} {o : Op} {p : Operator} (e : o.bin = some p) : OpR X (binaryOp p) (ruleOf X.K o) := by
  cases o <;> first | (cases e; done) | skip
  · cases e; exact op_add.or (op_catA.or (op_add_str.or op_cat))
  · cases e; exact op_sub
  · cases e; exact op_mul.or op_repW
  · cases e; exact op_mod
  · cases e; exact op_fdivW
  · cases e; exact op_pow
theorem op_cmp {X : Cx} {o : Op} {p : CmpOp} (e : o.cmp = some p) (hu : X.A.units + 64 < cLine) : OpR X (compareOp p) (ruleOf X.K o) := by
  cases o <;> first | (cases e; done) | skip
  · cases e; exact op_lt.or (op_ltT (by omega))
  · cases e; exact op_le
  · cases e; exact op_gt
  · cases e; exact op_ge
  · cases e; exact op_eq.or ((op_eq0 (by omega)).or ((op_eqFl (by omega)).or (op_eqD hu)))
  · cases e; exact op_ne.or ((op_ne0 (by omega)).or ((op_neFl (by omega)).or (op_neD hu)))
  · cases e; exact op_in_seq
  · cases e; exact op_notIn_seq
theorem eq0_ok {K : PySem.W.Frag} {H : Hp} {m : Nat → Addr} {S : Store} {a b : D} {x y : V} {k : Bool} {g : Bool → Bool} {Q : VK} (s : Sim K H m S) (ra : Rep K H m S.length a x) (rb : Rep K H m S.length b y) (e : eq0 S a b = some k) (q : Q (.bl (g k)) H) : rE0 K g x y H Q := by
  have em : ∀ {ds : List D} {vs : List V}, RepL K H m S.length ds vs → ds.isEmpty = vs.isEmpty := fun {ds vs} h => by
    have hl := h.length
    cases ds with
    | nil => cases vs with
      | nil => rfl
      | cons => cases hl
    | cons => cases vs with
      | nil => cases hl
      | cons => rfl
  have em0 : ∀ {ds es : List D} {vs ws : List V}, RepL K H m S.length ds vs → RepL K H m S.length es ws → (ds.isEmpty || es.isEmpty) = true → vs = [] ∨ ws = [] := fun {ds es vs ws} h g hz => by
    rw [em h, em g, Bool.or_eq_true] at hz
    exact hz.imp List.isEmpty_iff.mp List.isEmpty_iff.mp
  unfold eq0 at e
  split at e
  · split at e
    · rename_i hz
      cases e
      obtain ⟨p, vs, ev, sq, rs⟩ := (show ∃ a vs, _ from ra)
      obtain ⟨p2, ws, ew, sq2, rs2⟩ := (show ∃ a vs, _ from rb)
      exact ⟨p, p2, vs, ws, ev, ew, .inl ⟨sq, sq2⟩, em0 rs rs2 hz, by rw [← em rs, ← em rs2]; exact q⟩
    · cases e
  · split at e
    · rename_i ec ed
      split at e
      · rename_i hz
        cases e
        obtain ⟨_, ev⟩ := (show _ ∧ _ from ra)
        obtain ⟨_, ew⟩ := (show _ ∧ _ from rb)
        obtain ⟨vs, h1, rs⟩ := (show ∃ vs, _ from s.cell _ _ ec)
        obtain ⟨ws, h2, rs2⟩ := (show ∃ vs, _ from s.cell _ _ ed)
        exact ⟨_, _, vs, ws, ev, ew, .inr ⟨SqL.of h1, SqL.of h2⟩, em0 rs rs2 hz, by rw [← em rs, ← em rs2]; exact q⟩
      · cases e
    · cases e
  · cases e
theorem eqFl_ok {K : PySem.W.Frag} {H : Hp} {m : Nat → Addr} {L : Nat} {a b : D} {x y : V} {k : Bool} {g : Bool → Bool} {Q : VK} (ra : Rep K H m L a x) (rb : Rep K H m L b y) (e : eqFl a b = some k) (q : Q (.bl (g k)) H) : rEFl K g x y H Q := by
  unfold eqFl at e
  split at e
  · split at e
    · rename_i hz
      cases e
      rw [Bool.and_eq_true] at hz
      obtain ⟨p, vs, ev, sq, rs⟩ := (show ∃ a vs, _ from ra)
      obtain ⟨p2, ws, ew, sq2, rs2⟩ := (show ∃ a vs, _ from rb)
      obtain ⟨e1, f1⟩ := rs.flat hz.1
      obtain ⟨e2, f2⟩ := rs2.flat hz.2
      exact ⟨p, p2, vs, ws, ev, ew, sq, sq2, f1, f2, by rw [e1, e2]; exact q⟩
    · cases e
  · cases e
theorem opF_ok {K : PySem.W.Frag} (o : Op) : Den2 K (ruleOf K o) (opF o) := by
  intro H m S a b x y d S' Q s ra rb e f
  unfold opF at e
  split at e
  · -- add int
    cases e
    exact .inl ⟨_, _, ra, rb, f.at s rfl⟩
  · split at e
    · rename_i hl
      cases e
      obtain ⟨a1, vs, ea, sa, rs⟩ := (show ∃ a vs, _ from ra)
      obtain ⟨b1, ws, eb, sb, ss⟩ := (show ∃ a vs, _ from rb)
      have l1 := rs.length
      have l2 := ss.length
      refine .inr (.inl ⟨a1, b1, vs, ws, ea, eb, sa, sb, by rw [← line_eq]; omega, fun h => ?_, fun h1 h2 => ?_, fun h1 h2 p hp => ?_⟩)
      · refine f.at s ⟨b1, ws, rfl, sb, ?_⟩
        have e0 : _ = ([] : List D) := List.eq_nil_of_length_eq_zero (by rw [l1, h]; rfl)
        rw [e0]; exact ss
      · refine f.at s ⟨a1, vs, rfl, sa, ?_⟩
        have e0 : _ = ([] : List D) := List.eq_nil_of_length_eq_zero (by rw [l2, h2]; rfl)
        rw [e0, List.append_nil]; exact rs
      · exact f.tup s (rs.append ss) hp
    · cases e
  · split at e
    · rename_i hl
      cases e
      exact .inr (.inr (.inl ⟨_, _, ra, rb, by rw [← line_eq]; exact hl, f.at s rfl⟩))
    · cases e
  · split at e
    · rename_i ea eb
      split at e
      · rename_i hl
        cases e
        obtain ⟨_, ex⟩ := (show _ ∧ _ from ra)
        obtain ⟨_, ey⟩ := (show _ ∧ _ from rb)
        obtain ⟨vs, h1, rs⟩ := (show ∃ vs, _ from s.cell _ _ ea)
        obtain ⟨ws, h2, ss⟩ := (show ∃ vs, _ from s.cell _ _ eb)
        have l1 := rs.length
        have l2 := ss.length
        exact .inr (.inr (.inr ⟨_, _, vs, ws, ex, ey, h1, h2, by rw [← line_eq]; omega, fun p hp => f.lst s (rs.append ss) hp⟩))
      · cases e
    · cases e
  · cases e
    exact ⟨_, _, ra, rb, f.at s rfl⟩
  · split at e
    · rename_i hc
      cases e
      refine .inl ⟨_, _, ra, rb, ?_, f.at s rfl⟩
      simp only [Bool.or_eq_true, Bool.and_eq_true, decide_eq_true_eq] at hc
      exact hc
    · cases e
  · split at e
    · rename_i hc
      cases e
      subst hc
      obtain ⟨a1, vs, ea, sa, rs⟩ := (show ∃ a vs, _ from ra)
      refine .inr ⟨a1, _, vs, ea, rb, sa, .inl ⟨rfl, ?_⟩⟩
      rw [← ea]
      exact f.at s ra
    split at e
    · rename_i hc
      cases e
      obtain ⟨a1, vs, ea, sa, rs⟩ := (show ∃ a vs, _ from ra)
      simp only [Bool.and_eq_true, decide_eq_true_eq, Bool.not_eq_true', List.isEmpty_eq_false_iff] at hc
      obtain ⟨⟨⟨c1, c2⟩, c3⟩, c4⟩ := hc
      have l1 := rs.length
      refine .inr ⟨a1, _, vs, ea, rb, sa, .inr ⟨fun h => c1 (List.eq_nil_of_length_eq_zero (by rw [l1, h]; rfl)), c2, c3, by rw [← l1]; exact c4, fun p hp => f.tup s ?_ hp⟩⟩
      have rep : ∀ n : Nat, RepL K H m S.length (List.replicate n _).flatten (List.replicate n vs).flatten := fun n => by
        induction n with
        | zero => exact (rfl : ([] : List V) = [])
        | succ n ih =>
          rw [List.replicate_succ, List.replicate_succ, List.flatten_cons, List.flatten_cons]
          exact rs.append ih
      exact rep _
    · cases e
  · split at e
    · rename_i hc
      cases e
      exact ⟨_, _, ra, rb, hc, f.at s rfl⟩
    · cases e
  · split at e
    · rename_i hc
      cases e
      exact ⟨_, _, ra, rb, hc, f.at s rfl⟩
    · cases e
  · split at e
    · rename_i hc
      cases e
      exact ⟨_, _, ra, rb, ⟨hc.1, by omega, hc.2.2⟩, f.at s rfl⟩
    · cases e
  · cases e
    exact .inl ⟨_, _, ra, rb, f.at s rfl⟩
  · split at e
    · rename_i ns ms en em
      cases e
      obtain ⟨a1, vs, ea, sa, rs⟩ := (show ∃ a vs, _ from ra)
      obtain ⟨b1, ws, eb, sb, ss⟩ := (show ∃ a vs, _ from rb)
      rw [intsOf_map en] at rs
      rw [intsOf_map em] at ss
      rw [rs.ints] at sa
      rw [ss.ints] at sb
      exact .inr ⟨a1, b1, ns, ms, ea, eb, sa, sb, f.at s rfl⟩
    · cases e
  · cases e
    exact ⟨_, _, ra, rb, f.at s rfl⟩
  · cases e
    exact ⟨_, _, ra, rb, f.at s rfl⟩
  · cases e
    exact ⟨_, _, ra, rb, f.at s rfl⟩
  · cases e
    rw [show x = .int _ from ra, show y = .int _ from rb]
    exact .inl ⟨rfl, f.at s (congrArg V.bl (decide_eq_decide.mpr ⟨fun h => V.int.inj h, fun h => congrArg V.int h⟩))⟩
  · cases e
    rw [show x = .str _ from ra, show y = .str _ from rb]
    exact .inl ⟨rfl, f.at s (congrArg V.bl (decide_eq_decide.mpr ⟨fun h => V.str.inj h, fun h => congrArg V.str h⟩))⟩
  · cases e
    rw [show x = .int _ from ra, show y = .int _ from rb]
    exact .inl ⟨rfl, f.at s (congrArg (fun k => V.bl (!k)) (decide_eq_decide.mpr ⟨fun h => V.int.inj h, fun h => congrArg V.int h⟩))⟩
  · cases e
    rw [show x = .str _ from ra, show y = .str _ from rb]
    exact .inl ⟨rfl, f.at s (congrArg (fun k => V.bl (!k)) (decide_eq_decide.mpr ⟨fun h => V.str.inj h, fun h => congrArg V.str h⟩))⟩
  · obtain ⟨k, e1, e2⟩ := Option.map_eq_some_iff.mp e
    cases e2
    unfold eqF at e1
    split at e1
    · rename_i k0 e0
      cases e1
      exact .inr (.inl (eq0_ok s ra rb e0 (f.at s rfl)))
    split at e1
    · rename_i k0 e0
      cases e1
      exact .inr (.inr (.inl (eqFl_ok ra rb e0 (f.at s rfl))))
    unfold eqD at e1
    split at e1
    · rename_i p q ep eq
      split at e1
      · rename_i hs
        cases e1
        rw [Bool.and_eq_true] at hs
        exact .inr (.inr (.inr ⟨p, q, toPy_dp s _ _ _ _ ep ra, toPy_dp s _ _ _ _ eq rb, hs.1, hs.2, f.at s rfl⟩))
      · cases e1
    · cases e1
  · obtain ⟨k, e1, e2⟩ := Option.map_eq_some_iff.mp e
    cases e2
    unfold eqF at e1
    split at e1
    · rename_i k0 e0
      cases e1
      exact .inr (.inl (eq0_ok s ra rb e0 (f.at s rfl)))
    split at e1
    · rename_i k0 e0
      cases e1
      exact .inr (.inr (.inl (eqFl_ok ra rb e0 (f.at s rfl))))
    unfold eqD at e1
    split at e1
    · rename_i p q ep eq
      split at e1
      · rename_i hs
        cases e1
        rw [Bool.and_eq_true] at hs
        exact .inr (.inr (.inr ⟨p, q, toPy_dp s _ _ _ _ ep ra, toPy_dp s _ _ _ _ eq rb, hs.1, hs.2, f.at s rfl⟩))
      · cases e1
    · cases e1
  · obtain ⟨k, e1, e2⟩ := Option.map_eq_some_iff.mp e
    cases e2
    unfold inF at e1
    split at e1
    · rename_i ds ei
      split at e1
      · rename_i hs
        cases e1
        rw [Bool.and_eq_true] at hs
        obtain ⟨p, vs, ev, sq, rs⟩ := items_seq s rb ei
        obtain ⟨f1, f2⟩ := ra.flat hs.1
        obtain ⟨g1, g2⟩ := rs.flat hs.2
        refine ⟨p, vs, ev, sq, f2, g2, ?_⟩
        rw [f1, g1]
        exact f.at s rfl
      · cases e1
    · cases e1
  · obtain ⟨k, e1, e2⟩ := Option.map_eq_some_iff.mp e
    cases e2
    unfold inF at e1
    split at e1
    · rename_i ds ei
      split at e1
      · rename_i hs
        cases e1
        rw [Bool.and_eq_true] at hs
        obtain ⟨p, vs, ev, sq, rs⟩ := items_seq s rb ei
        obtain ⟨f1, f2⟩ := ra.flat hs.1
        obtain ⟨g1, g2⟩ := rs.flat hs.2
        refine ⟨p, vs, ev, sq, f2, g2, ?_⟩
        rw [f1, g1]
        exact f.at s rfl
      · cases e1
    · cases e1
  · cases e
end DL

set_option maxHeartbeats 4000000
/-! DLR: data that holds dicts, as it lies. -/
namespace DL
open PySem PySem.Spec PyProof.Rows L2

def keyPy : Key → PyData
  | .inl i => .int i
  | .inr x => .str x
mutual
inductive DpX (K : PySem.W.Frag) (H : Hp) : V → PyData → Prop
  | non : DpX K H .non .none
  | bl (b : Bool) : DpX K H (.bl b) (.bool b)
  | int (i : Int) : DpX K H (.int i) (.int i)
  | str (x : Str) : DpX K H (.str x) (.str x)
  | lst {a : Addr} {xs : List V} {ds : List PyData} : H a = some (.lst xs) → DpXs K H xs ds → DpX K H (.ref a) (.list ds)
  | tup {a : Addr} {xs : List V} {ds : List PyData} : SqT K H a xs → DpXs K H xs ds → DpX K H (.ref a) (.tuple ds)
  | dct {a : Addr} {kvs : List (Key × V)} {ds : List (PyData × PyData)} : H a = some (.dK kvs) → ds.map (·.1) = kvs.map (fun p => keyPy p.1) → DpXs K H (kvs.map (·.2)) (ds.map (·.2)) → DpX K H (.ref a) (.dict ds)
inductive DpXs (K : PySem.W.Frag) (H : Hp) : List V → List PyData → Prop
  | nil : DpXs K H [] []
  | cons {v : V} {vs : List V} {d : PyData} {ds : List PyData} : DpX K H v d → DpXs K H vs ds → DpXs K H (v :: vs) (d :: ds)
end
theorem keys_read {P : Program} {w : World} {h : Heap} : ∀ {es : List DictEntry} {vs : List (Key × Value)} {kvs : List (Key × V)}, Pairs (mixKind P w) es vs → KV kvs vs →
    ReadsAll h (es.map (·.key)) (kvs.map fun p => keyPy p.1) [] ∧ es.map (·.val) = vs.map (·.2) ∧ Vals (kvs.map (·.2)) (vs.map (·.2))
  | _, _, _, .nil, k => by
    cases k
    exact ⟨.nil, rfl, .nil⟩
  | _, _, _, .cons (e := e) (kv := kv) h1 h2 h3, k => by
    cases k with
    | @cons p _ kvs' _ r rs =>
      obtain ⟨q1, q2, q3⟩ := keys_read (h := h) h3 rs
      obtain ⟨r1, r2⟩ := r
      refine ⟨?_, ?_, .cons r2 q3⟩
      · have hk : Reads h e.key (keyPy p.1) [] := by
          have hi : keyIs kv.1 e.key = true := h1
          rw [r1]
          rcases keyIs_shape hi with ⟨i, t, ek, ev⟩ | ⟨x, t, ek, ev⟩
          · rw [ev, ek]; exact .int i t
          · rw [ev, ek]; exact .str x t
        have := ReadsAll.cons hk q1
        exact this
      · rw [List.map_cons, List.map_cons, q2, h2]
section
variable {X : Cx} {pins : List (Addr × Obj)} {σ : L2.St} {H : Hp} {s : Shared}
mutual
theorem DpX.reads (I : L2.Inv X pins σ H s) (sy : ∃ o x, H sysModules = some (.frz o (.own x))) : ∀ (d : PyData) (v : V) (u : Value), DpX X.K H v d → RelV v u → ∃ as, Reads s.heap u d as ∧ sysModules ∉ as
  | .none, _, _, h, r => by
    cases h
    cases r
    exact ⟨_, Reads.none, List.not_mem_nil⟩
  | .bool b, _, _, h, r => by
    cases h
    cases r
    exact ⟨_, Reads.bool b, List.not_mem_nil⟩
  | .int i, _, _, h, r => by
    cases h
    obtain ⟨t, rfl⟩ := r
    exact ⟨_, Reads.int i t, List.not_mem_nil⟩
  | .str x, _, _, h, r => by
    cases h
    obtain ⟨t, rfl⟩ := r
    exact ⟨_, Reads.str x t, List.not_mem_nil⟩
  | .list ds, _, _, h, r => by
    cases h with
    | @lst a xs _ hs ha =>
      cases r
      obtain ⟨its, rv, ⟨o, n, ho, hc, _, hd⟩, _⟩ := I.list (SqL.of hs)
      obtain ⟨as, hr, nm⟩ := DpXs.reads I sy ds _ its ha rv
      refine ⟨_, Reads.list ho hc hd hr, fun z => ?_⟩
      rcases List.mem_cons.mp z with z | z
      · obtain ⟨o1, x1, e1⟩ := sy
        rw [z, hs] at e1
        cases e1
      · exact nm z
  | .tuple ds, _, _, h, r => by
    cases h with
    | tup hs ha =>
      cases r
      obtain ⟨its, rv, ⟨o, ho, hc, n, hd⟩, _⟩ := I.tuple hs
      obtain ⟨as, hr, nm⟩ := DpXs.reads I sy ds _ its ha rv
      exact ⟨_, Reads.tuple ho hc hd hr, nm⟩
  | .dict ds, _, _, h, r => by
    cases h with
    | @dct a kvs _ hs hk ha =>
      cases r
      obtain ⟨_, hn, vs, kv, o, es, ep, ho, hex, hdt, _, hp, _⟩ := dk_of I.hok hs
      obtain ⟨q1, q2, q3⟩ := keys_read (h := s.heap) hp kv
      obtain ⟨bs, hr, nm⟩ := DpXs.readsKv I sy ds _ _ ha q3
      rw [← hk] at q1
      refine ⟨_, Reads.dict ho hex.1 hdt q1 (by rw [q2]; exact hr), fun z => ?_⟩
      rcases List.mem_append.mp z with z | z
      · rcases List.mem_cons.mp z with z | z
        · rw [← z] at hn
          exact absurd hn (by simp)
        · cases z
      · exact nm z
theorem DpXs.reads (I : L2.Inv X pins σ H s) (sy : ∃ o x, H sysModules = some (.frz o (.own x))) : ∀ (ds : List PyData) (vs : List V) (us : List Value), DpXs X.K H vs ds → Vals vs us → ∃ as, ReadsAll s.heap us ds as ∧ sysModules ∉ as
  | [], _, _, h, r => by
    cases h
    cases r
    exact ⟨_, ReadsAll.nil, List.not_mem_nil⟩
  | d :: ds, _, _, h, r => by
    cases h with
    | cons h1 h2 =>
      cases r with
      | cons r1 r2 =>
        obtain ⟨as, q1, n1⟩ := DpX.reads I sy d _ _ h1 r1
        obtain ⟨bs, q2, n2⟩ := DpXs.reads I sy ds _ _ h2 r2
        exact ⟨_, ReadsAll.cons q1 q2, fun z => (List.mem_append.mp z).elim n1 n2⟩
theorem DpXs.readsKv (I : L2.Inv X pins σ H s) (sy : ∃ o x, H sysModules = some (.frz o (.own x))) : ∀ (ds : List (PyData × PyData)) (vs : List V) (us : List Value), DpXs X.K H vs (ds.map (·.2)) → Vals vs us → ∃ as, ReadsAll s.heap us (ds.map (·.2)) as ∧ sysModules ∉ as
  | [], _, _, h, r => by
    cases h
    cases r
    exact ⟨_, ReadsAll.nil, List.not_mem_nil⟩
  | (k, d) :: ds, _, _, h, r => by
    cases h with
    | cons h1 h2 =>
      cases r with
      | cons r1 r2 =>
        obtain ⟨as, q1, n1⟩ := DpX.reads I sy d _ _ h1 r1
        obtain ⟨bs, q2, n2⟩ := DpXs.readsKv I sy ds _ _ h2 r2
        exact ⟨_, ReadsAll.cons q1 q2, fun z => (List.mem_append.mp z).elim n1 n2⟩
end
end
/-- data as it is shown -/
def toPyX (S : Store) : Nat → D → Option PyData
  | _, .non => some .none
  | _, .bl b => some (.bool b)
  | _, .int i => some (.int i)
  | _, .str x => some (.str x)
  | 0, _ => none
  | n + 1, .tup ds => (allS (toPyX S n) ds).map .tuple
  | n + 1, .ref k => match S[k]? with
    | some (.lst ds) => (allS (toPyX S n) ds).map .list
    | some (.dct kvs) => (allS (toPyX S n) (kvs.map (·.2))).map fun ps => .dict ((kvs.map fun p => keyPy p.1).zip ps)
    | _ => none
  | _ + 1, .ty _ => none
section
variable {K : PySem.W.Frag} {H : Hp} {m : Nat → Addr} {S : Store}
theorem allS_dpX {f : D → Option PyData} {L : Nat} (hf : ∀ d v p, f d = some p → Rep K H m L d v → DpX K H v p) : ∀ {ds : List D} {vs : List V} {ps : List PyData}, allS f ds = some ps → RepL K H m L ds vs → DpXs K H vs ps
  | [], vs, ps, e, h => by
    have e1 : vs = [] := h
    have e2 : [] = ps := Option.some.inj e
    rw [e1, ← e2]; exact .nil
  | d :: ds, vs, ps, e, h => by
    obtain ⟨v, ws, e1, r, rs⟩ := (show ∃ v ws, _ from h)
    unfold allS at e
    split at e
    · rename_i x xs ex exs
      rw [e1, ← Option.some.inj e]
      exact .cons (hf d v x ex r) (allS_dpX hf exs rs)
    · cases e
theorem RepK.vals {L : Nat} : ∀ {ds : List (Key × D)} {ws : List (Key × V)}, RepK K H m L ds ws → RepL K H m L (ds.map (·.2)) (ws.map (·.2)) ∧ ds.map (·.1) = ws.map (·.1)
  | [], ws, h => by
    have e : ws = [] := h
    rw [e]; exact ⟨rfl, rfl⟩
  | (k, d) :: ds, ws, h => by
    obtain ⟨v, us, e, r, rs⟩ := (show ∃ v ws, _ from h)
    obtain ⟨q1, q2⟩ := RepK.vals rs
    rw [e]
    exact ⟨⟨v, _, rfl, r, q1⟩, by rw [List.map_cons, List.map_cons, q2]⟩
theorem allS_len {f : D → Option PyData} : ∀ {ds : List D} {ps : List PyData}, allS f ds = some ps → ps.length = ds.length
  | [], ps, e => by rw [← Option.some.inj e]; rfl
  | d :: ds, ps, e => by
    unfold allS at e
    split at e
    · rename_i x xs ex exs
      rw [← Option.some.inj e, List.length_cons, List.length_cons, allS_len exs]
    · cases e
theorem toPyX_dp (s : Sim K H m S) : ∀ (n : Nat) (d : D) (v : V) (p : PyData), toPyX S n d = some p → Rep K H m S.length d v → DpX K H v p := by
  intro n
  induction n with
  | zero =>
    intro d v p e r
    cases d with
    | non => rw [show v = .non from r, ← Option.some.inj e]; exact .non
    | bl b => rw [show v = .bl b from r, ← Option.some.inj e]; exact .bl b
    | int b => rw [show v = .int b from r, ← Option.some.inj e]; exact .int b
    | str b => rw [show v = .str b from r, ← Option.some.inj e]; exact .str b
    | tup xs => cases e
    | ref k => cases e
    | ty k => cases e
  | succ n ih =>
    intro d v p e r
    cases d with
    | non => rw [show v = .non from r, ← Option.some.inj e]; exact .non
    | bl b => rw [show v = .bl b from r, ← Option.some.inj e]; exact .bl b
    | int b => rw [show v = .int b from r, ← Option.some.inj e]; exact .int b
    | str b => rw [show v = .str b from r, ← Option.some.inj e]; exact .str b
    | ty k => cases e
    | tup xs =>
      obtain ⟨a, vs, ev, sq, rs⟩ := (show ∃ a vs, _ from r)
      obtain ⟨ps, e1, e2⟩ := Option.map_eq_some_iff.mp (show (allS (toPyX S n) xs).map PyData.tuple = some p from e)
      rw [ev, ← e2]
      exact .tup sq (allS_dpX ih e1 rs)
    | ref k =>
      obtain ⟨l, ev⟩ := (show k < S.length ∧ _ from r)
      unfold toPyX at e
      split at e
      · rename_i ds ec
        obtain ⟨ps, e1, e2⟩ := Option.map_eq_some_iff.mp e
        obtain ⟨vs, h, rs⟩ := (show ∃ vs, _ from s.cell k _ ec)
        rw [ev, ← e2]
        exact .lst h (allS_dpX ih e1 rs)
      · rename_i ds ec
        obtain ⟨ps, e1, e2⟩ := Option.map_eq_some_iff.mp e
        obtain ⟨ws, h, rs⟩ := (show ∃ ws, _ from s.cell k _ ec)
        obtain ⟨q1, q2⟩ := RepK.vals rs
        have hl := allS_len e1
        rw [List.length_map] at hl
        rw [ev, ← e2]
        refine .dct h ?_ ?_
        · rw [List.map_fst_zip (by rw [List.length_map]; omega)]
          have := congrArg (List.map keyPy) q2
          rw [List.map_map, List.map_map] at this
          exact this
        · rw [List.map_snd_zip (by rw [List.length_map]; omega)]
          exact allS_dpX ih e1 q1
      · cases e
end
end DL

set_option maxHeartbeats 4000000
/-! DL3: built-ins, methods, subscripts, slices on data. -/
namespace DL
open PySem PySem.Spec PyProof.Rows L2

/-- the first of Python's tokens: what stands for repr of data -/
def reprOk (p : PyData) : Bool := p.showable && decide (p.depth ≤ 40) && decide (p.shown.length ≤ line)
def reprF (S : Store) (d : D) : Option Str := match toPyX S 40 d with
  | some p => if reprOk p then some p.shown else none
  | none => none
def rRepr (K : PySem.W.Frag) : List V → Hp → VK → Prop := fun xs H Q => ∃ (x : V) (p : PyData), xs = [x] ∧ DpX K H x p ∧ (∃ o z, H sysModules = some (.frz o (.own z))) ∧ reprOk p = true ∧ Q (.str p.shown) H
theorem call_reprD {X : Cx} (hg : X.A.guards = some []) (hu : X.A.units + 64 < cLine) : CallR X (.builtin "repr") (rRepr X.K) := by
  intro pins s σ H xs us Q I r h
  obtain ⟨x, p, rfl, hd, sy, ho, q⟩ := h
  obtain ⟨u, rfl, ru⟩ := vals1 r
  unfold reprOk at ho
  simp only [Bool.and_eq_true, decide_eq_true_eq, Bool.not_eq_true'] at ho
  obtain ⟨⟨h1, h3⟩, h4⟩ := ho
  have h4' : p.shown.length ≤ sizeLine := by rw [← line_eq]; exact h4
  have big : ∀ {a : Addr}, DpX X.K H (.ref a) p → wpAny (model X.prog X.w) X.A (call (.builtin "repr") [.ref a]) (EP X pins σ Q) X.xe s := fun {a} hd => by
    obtain ⟨as, rr, nm⟩ := DpX.reads I sy p (.ref a) (.ref a) hd rfl
    exact repr_of_reads' rr h1 (fun _ => nm) hg (by omega) (fun _ _ e => e) (fun h' t tk hk => ⟨.str p.shown, H, I.kept (t' := tk) hk, ⟨t, rfl⟩, q⟩) h4'
  cases hd with
  | non => cases ru; exact PySem.P.repr_of_none ⟨.str _, H, I.tok _, ⟨_, rfl⟩, q⟩
  | bl b => cases ru; exact PySem.P.repr_of_bool ⟨.str _, H, I.tok _, ⟨_, rfl⟩, q⟩
  | int i =>
    obtain ⟨t, rfl⟩ := ru
    have hz : i.natAbs.log2 < 1920 := of_decide_eq_true h1
    exact PySem.P.repr_of_int hz ⟨.str _, H, I.tok _, ⟨_, rfl⟩, q⟩
  | str y =>
    obtain ⟨t, rfl⟩ := ru
    exact PySem.P.repr_of_str ⟨.str _, H, I.tok _, ⟨_, rfl⟩, q⟩ h4'
  | lst a b => cases ru; exact big (.lst a b)
  | tup a b => cases ru; exact big (.tup a b)
  | dct a b c => cases ru; exact big (.dct a b c)

/-! ### built-ins by name -/
inductive Blt where
  | len | int | list | tuple | repr | abs | sum | all | max | min | isI
  deriving DecidableEq
def Blt.name : Blt → Str
  | .len => "len"
  | .int => "int"
  | .list => "list"
  | .tuple => "tuple"
  | .repr => "repr"
  | .abs => "abs"
  | .sum => "sum"
  | .all => "all"
  | .max => "max"
  | .min => "min"
  | .isI => "isinstance"
def Blt.isTy : Blt → Bool
  | .int | .list | .tuple => true
  | _ => false
def Blt.id : Blt → String
  | .len => "len"
  | .int => "int"
  | .list => "list"
  | .tuple => "tuple"
  | .repr => "repr"
  | .abs => "abs"
  | .sum => "sum"
  | .all => "all"
  | .max => "max"
  | .min => "min"
  | .isI => "isinstance"
def Blt.val (b : Blt) : Value := if b.isTy then .type b.id else .builtin b.id
def boolsOf : List D → Option (List Bool)
  | [] => some []
  | .bl i :: ds => (boolsOf ds).map (i :: ·)
  | _ => none
theorem boolsOf_map : ∀ {ds : List D} {ns : List Bool}, boolsOf ds = some ns → ds = ns.map D.bl
  | [], ns, e => by
    have e1 : [] = ns := Option.some.inj e
    rw [← e1]; rfl
  | .bl i :: ds, ns, e => by
    obtain ⟨ms, e1, e2⟩ := Option.map_eq_some_iff.mp (show (boolsOf ds).map (i :: ·) = some ns from e)
    rw [← e2, boolsOf_map e1]; rfl
  | .non :: ds, ns, e => by cases e
  | .int _ :: ds, ns, e => by cases e
  | .str _ :: ds, ns, e => by cases e
  | .tup _ :: ds, ns, e => by cases e
  | .ref _ :: ds, ns, e => by cases e
  | .ty _ :: ds, ns, e => by cases e
/-- the items of a list -/
def litems (S : Store) : D → Option (List D)
  | .tup _ => none
  | d => items S d
/-- the built-in type of a value -/
def tyOf (S : Store) : D → Option String
  | .non => some "NoneType"
  | .bl _ => some "bool"
  | .int _ => some "int"
  | .str _ => some "str"
  | .tup _ => some "tuple"
  | .ref n => match S[n]? with
    | some (.lst _) => some "list"
    | some (.dct _) => some "dict"
    | _ => none
  | .ty _ => none
def isiF (S : Store) (d : D) (t : String) : Option Bool := match tyOf S d with
  | some a => kitB a t
  | none => none
def bltF : Blt → List D → Store → Res
  | .len, [.str x], S => if x.length ≤ line then some (.int x.length, S) else none
  | .len, [d], S => match items S d with
    | some ds => some (.int ds.length, S)
    | none => none
  | .int, [.int i], S => some (.int i, S)
  | .int, [.bl k], S => some (.int (if k then 1 else 0), S)
  | .list, [d], S => match items S d with
    | some ds => some (.ref S.length, S ++ [.lst ds])
    | none => none
  | .tuple, [.tup ds], S => some (.tup ds, S)
  | .tuple, [d], S => match items S d with
    | some ds => some (.tup ds, S)
    | none => none
  | .repr, [d], S => (reprF S d).map fun x => (.str x, S)
  | .abs, [.int i], S => some (.int (if i < 0 then -i else i), S)
  | .sum, [d], S => match litems S d with
    | some ds => (intsOf ds).map fun ns => (.int ns.sum, S)
    | none => none
  | .all, [d], S => match litems S d with
    | some ds => (boolsOf ds).map fun ns => (.bl (ns.all id), S)
    | none => none
  | .max, [.int i, .int j], S => some (.int (if j > i then j else i), S)
  | .min, [.int i, .int j], S => some (.int (if j < i then j else i), S)
  | .isI, [d, .ty t], S => (isiF S d t).map fun k => (.bl k, S)
  | _, _, _ => none
abbrev RL := List V → Hp → VK → Prop
def bltR (K : PySem.W.Frag) : Blt → RL
  | .len => fun xs H Q => (∃ p ys, xs = [.ref p] ∧ (SqL K H p ys ∨ SqT K H p ys) ∧ Q (.int ys.length) H) ∨ (∃ z, xs = [.str z] ∧ z.length ≤ sizeLine ∧ Q (.int z.length) H)
  | .int => fun xs H Q => (∃ i, xs = [.int i] ∧ Q (.int i) H) ∨ ∃ k, xs = [.bl k] ∧ Q (.int (if k then 1 else 0)) H
  | .list => fun xs H Q => ∃ p ys, xs = [.ref p] ∧ (SqL K H p ys ∨ SqT K H p ys) ∧ ∀ l, H l = none → Q (.ref l) (upd H l (.lst ys))
  | .tuple => fun xs H Q => ∃ p ys, xs = [.ref p] ∧ ((SqL K H p ys ∧ ∀ l, H l = none → Q (.ref l) (upd H l (.tup ys))) ∨ (SqT K H p ys ∧ Q (.ref p) H))
  | .repr => rRepr K
  | .abs => fun xs H Q => ∃ i, xs = [.int i] ∧ Q (.int (if i < 0 then -i else i)) H
  | .sum => rSum K
  | .all => rAll K
  | .max => fun xs H Q => ∃ i j, xs = [.int i, .int j] ∧ Q (.int (if j > i then j else i)) H
  | .min => fun xs H Q => ∃ i j, xs = [.int i, .int j] ∧ Q (.int (if j < i then j else i)) H
  | .isI => rIsi K
theorem blt_rule {X : Cx} (b : Blt) (hc : X.calm = true) (hg : X.A.guards = some []) (hu : X.A.units + 64 < cLine) : CallR X b.val (bltR X.K b) := by
  cases b with
  | len => exact call_len_seq.or call_len_str
  | int => exact call_int1
  | list => exact call_list_of
  | tuple => exact call_tuple_of
  | repr => exact call_reprD hg hu
  | abs => exact call_abs
  | sum => exact cr_sum hc
  | all => exact cr_all hc
  | max => exact call_max2 hc
  | min => exact call_min2 hc
  | isI => exact call_isi
def DenL (K : PySem.W.Frag) (r : RL) (g : List D → Store → Res) : Prop :=
  ∀ {H : Hp} {m : Nat → Addr} {S : Store} {ds : List D} {xs : List V} {d : D} {S' : Store} {Q : VK}, Sim K H m S → RepL K H m S.length ds xs → g ds S = some (d, S') → Fin K H m S d S' Q → r xs H Q
theorem one_of {K : PySem.W.Frag} {H : Hp} {m : Nat → Addr} {L : Nat} {d : D} {xs : List V} (h : RepL K H m L [d] xs) : ∃ v, xs = [v] ∧ Rep K H m L d v := by
  obtain ⟨v, ws, e, r, rs⟩ := (show ∃ v ws, _ from h)
  have e2 : ws = [] := rs
  exact ⟨v, by rw [e, e2], r⟩
theorem litems_seq {K : PySem.W.Frag} {H : Hp} {m : Nat → Addr} {S : Store} (s : Sim K H m S) {d : D} {v : V} {ds : List D} (r : Rep K H m S.length d v) (e : litems S d = some ds) :
    ∃ a vs, v = .ref a ∧ SqL K H a vs ∧ RepL K H m S.length ds vs := by
  cases d with
  | ref k =>
    obtain ⟨l, ev⟩ := (show k < S.length ∧ _ from r)
    simp only [litems, items] at e
    split at e
    · rename_i xs ec
      have e1 : xs = ds := Option.some.inj e
      subst e1
      obtain ⟨vs, h, rs⟩ := (show ∃ vs, _ from s.cell k _ ec)
      exact ⟨_, vs, ev, SqL.of h, rs⟩
    · rename_i xs ec
      have e1 : xs = ds := Option.some.inj e
      subst e1
      obtain ⟨vs, h, rs⟩ := (show ∃ vs, _ from s.cell k _ ec)
      exact ⟨_, vs, ev, h.seq, rs⟩
    · cases e
  | _ => cases e
theorem two_of {K : PySem.W.Frag} {H : Hp} {m : Nat → Addr} {L : Nat} {d e : D} {xs : List V} (h : RepL K H m L [d, e] xs) : ∃ v w, xs = [v, w] ∧ Rep K H m L d v ∧ Rep K H m L e w := by
  obtain ⟨v, ws, e, r, rs⟩ := (show ∃ v ws, _ from h)
  obtain ⟨w, e2, r2⟩ := one_of rs
  exact ⟨v, w, by rw [e, e2], r, r2⟩
theorem tyOf_ok {K : PySem.W.Frag} {H : Hp} {m : Nat → Addr} {S : Store} {d : D} {v : V} {a : String} (s : Sim K H m S) (r : Rep K H m S.length d v) (e : tyOf S d = some a) : TyX K H v (.type a) := by
  cases d with
  | non => cases e; rw [show v = .non from r]; exact .base .non
  | bl b => cases e; rw [show v = .bl b from r]; exact .base (.bl b)
  | int b => cases e; rw [show v = .int b from r]; exact .base (.int b)
  | str b => cases e; rw [show v = .str b from r]; exact .base (.str b)
  | tup xs =>
    cases e
    obtain ⟨p, vs, ev, sq, rs⟩ := (show ∃ a vs, _ from r)
    rw [ev]
    rcases sq with (h | ⟨o, h⟩) | h
    · exact .base (.tup h)
    · exact .fTuple h
    · obtain ⟨o, its, n, h1, h2, _⟩ := h
      exact .kTuple h1 h2
  | ref n =>
    obtain ⟨_, ev⟩ := (show _ ∧ _ from r)
    simp only [tyOf] at e
    split at e
    · rename_i ds ec
      cases e
      obtain ⟨vs, h, rr⟩ := (show ∃ vs, _ from s.cell _ _ ec)
      rw [ev]
      exact .base (.lst h)
    · rename_i ds ec
      cases e
      obtain ⟨vs, h, rr⟩ := (show ∃ vs, _ from s.cell _ _ ec)
      rw [ev]
      exact .base (.dK h)
    · cases e
  | ty n => cases e
theorem bltF_ok {K : PySem.W.Frag} (b : Blt) : DenL K (bltR K b) (bltF b) := by
  intro H m S ds xs d S' Q s rs e f
  unfold bltF at e
  split at e
  · split at e
    · rename_i hl
      cases e
      obtain ⟨v, rfl, r⟩ := one_of rs
      exact .inr ⟨_, by rw [show v = .str _ from r], by rw [← line_eq]; exact hl, f.at s rfl⟩
    · cases e
  · split at e
    · rename_i ys ei
      cases e
      obtain ⟨v, rfl, r⟩ := one_of rs
      obtain ⟨p, vs, ev, sq, rr⟩ := items_seq s r ei
      refine .inl ⟨p, vs, by rw [ev], sq, ?_⟩
      rw [← rr.length]
      exact f.at s rfl
    · cases e
  · cases e
    obtain ⟨v, rfl, r⟩ := one_of rs
    exact .inl ⟨_, by rw [show v = .int _ from r], f.at s rfl⟩
  · cases e
    obtain ⟨v, rfl, r⟩ := one_of rs
    exact .inr ⟨_, by rw [show v = .bl _ from r], f.at s rfl⟩
  · split at e
    · rename_i ys ei
      cases e
      obtain ⟨v, rfl, r⟩ := one_of rs
      obtain ⟨p, vs, ev, sq, rr⟩ := items_seq s r ei
      exact ⟨p, vs, by rw [ev], sq, fun l hl => f.lst s rr hl⟩
    · cases e
  · cases e
    obtain ⟨v, rfl, r⟩ := one_of rs
    obtain ⟨a, vs, ev, sq, rr⟩ := (show ∃ a vs, _ from r)
    exact ⟨a, vs, by rw [ev], .inr ⟨sq, f.at s ⟨a, vs, rfl, sq, rr⟩⟩⟩
  · split at e
    · rename_i ys ei
      cases e
      obtain ⟨v, rfl, r⟩ := one_of rs
      obtain ⟨p, vs, ev, sq, rr⟩ := items_seq s r ei
      rcases sq with sq | sq
      · exact ⟨p, vs, by rw [ev], .inl ⟨sq, fun l hl => f.tup s rr hl⟩⟩
      · exact ⟨p, vs, by rw [ev], .inr ⟨sq, f.at s ⟨p, vs, rfl, sq, rr⟩⟩⟩
    · cases e
  · obtain ⟨x, e1, e2⟩ := Option.map_eq_some_iff.mp e
    cases e2
    obtain ⟨v, rfl, r⟩ := one_of rs
    unfold reprF at e1
    split at e1
    · rename_i p ep
      split at e1
      · rename_i ho
        cases e1
        exact ⟨v, p, rfl, toPyX_dp s _ _ _ _ ep r, s.sys, ho, f.at s rfl⟩
      · cases e1
    · cases e1
  · cases e
    obtain ⟨v, rfl, r⟩ := one_of rs
    exact ⟨_, by rw [show v = .int _ from r], f.at s rfl⟩
  · split at e
    · rename_i ys ei
      obtain ⟨ns, e1, e2⟩ := Option.map_eq_some_iff.mp e
      cases e2
      obtain ⟨v, rfl, r⟩ := one_of rs
      obtain ⟨p, vs, ev, sq, rr⟩ := litems_seq s r ei
      rw [intsOf_map e1] at rr
      rw [rr.ints] at sq
      exact ⟨p, ns, by rw [ev], sq, f.at s rfl⟩
    · cases e
  · split at e
    · rename_i ys ei
      obtain ⟨ns, e1, e2⟩ := Option.map_eq_some_iff.mp e
      cases e2
      obtain ⟨v, rfl, r⟩ := one_of rs
      obtain ⟨p, vs, ev, sq, rr⟩ := litems_seq s r ei
      rw [boolsOf_map e1] at rr
      rw [rr.bools] at sq
      exact ⟨p, ns, by rw [ev], sq, f.at s rfl⟩
    · cases e
  · cases e
    obtain ⟨v, w, rfl, r1, r2⟩ := two_of rs
    exact ⟨_, _, by rw [show v = .int _ from r1, show w = .int _ from r2], f.at s rfl⟩
  · cases e
    obtain ⟨v, w, rfl, r1, r2⟩ := two_of rs
    exact ⟨_, _, by rw [show v = .int _ from r1, show w = .int _ from r2], f.at s rfl⟩
  · obtain ⟨k, e1, e2⟩ := Option.map_eq_some_iff.mp e
    cases e2
    obtain ⟨v, w, rfl, r1, r2⟩ := two_of rs
    unfold isiF at e1
    split at e1
    · rename_i a ea
      exact ⟨_, _, _, _, k, by rw [show w = .ty _ from r2], .ty _, tyOf_ok s r1 ea, kit_ty e1, f.at s rfl⟩
    · cases e1
  · cases e

/-! ### methods of lists -/
inductive Mth where
  | append | extend
  deriving DecidableEq
def Mth.name : Mth → Str
  | .append => "append"
  | .extend => "extend"
def mthF : Mth → D → List D → Store → Res
  | .append, .ref n, [d], S => match S[n]? with
    | some (.lst ds) => if ds.length < line then some (.non, S.set n (.lst (ds ++ [d]))) else none
    | _ => none
  | .extend, .ref n, [.ref k], S => match S[n]?, S[k]? with
    | some (.lst ds), some (.lst es) => if ds.length + es.length ≤ line then some (.non, S.set n (.lst (ds ++ es))) else none
    | _, _ => none
  | .extend, .ref n, [.tup es], S => match S[n]? with
    | some (.lst ds) => if ds.length + es.length ≤ line then some (.non, S.set n (.lst (ds ++ es))) else none
    | _ => none
  | _, _, _, _ => none
abbrev RM := V → List V → Hp → VK → Prop
def mthR (K : PySem.W.Frag) : Mth → RM
  | .append => rAppend
  | .extend => fun x xs H Q => rExtend x xs H Q ∨ rExtT K x xs H Q
theorem mt_ext2 {X : Cx} : MtM X "list.extend" (mthR X.K .extend) := by
  intro pins s σ H x vs v us Q I rx rv h
  rcases h with h | h
  · exact mt_extend pins s σ H x vs v us Q I rx rv h
  · exact mt_extT pins s σ H x vs v us Q I rx rv h
def DenM (K : PySem.W.Frag) (r : RM) (g : D → List D → Store → Res) : Prop :=
  ∀ {H : Hp} {m : Nat → Addr} {S : Store} {o : D} {ds : List D} {x : V} {xs : List V} {d : D} {S' : Store} {Q : VK}, Sim K H m S → Rep K H m S.length o x → RepL K H m S.length ds xs → g o ds S = some (d, S') → Fin K H m S d S' Q → r x xs H Q
theorem mthF_ok {K : PySem.W.Frag} (b : Mth) : DenM K (mthR K b) (mthF b) := by
  intro H m S o ds x xs d S' Q s ro rs e f
  unfold mthF at e
  split at e
  · split at e
    · rename_i ys ec
      split at e
      · rename_i hl
        cases e
        obtain ⟨v, rfl, r⟩ := one_of rs
        obtain ⟨_, ev⟩ := (show _ ∧ _ from ro)
        obtain ⟨vs, h, rr⟩ := (show ∃ vs, _ from s.cell _ _ ec)
        have l1 := rr.length
        subst ev
        exact ⟨_, vs, v, rfl, rfl, h, by rw [← line_eq]; omega, f.wr s ec (rr.append (.one r)) rfl⟩
      · cases e
    · cases e
  · split at e
    · rename_i ys zs ec ek
      split at e
      · rename_i hl
        cases e
        obtain ⟨v, rfl, r⟩ := one_of rs
        obtain ⟨_, ev⟩ := (show _ ∧ _ from ro)
        obtain ⟨_, ew⟩ := (show _ ∧ _ from r)
        obtain ⟨vs, h, rr⟩ := (show ∃ vs, _ from s.cell _ _ ec)
        obtain ⟨ws, h2, r2⟩ := (show ∃ vs, _ from s.cell _ _ ek)
        have l1 := rr.length
        have l2 := r2.length
        subst ev ew
        exact .inl ⟨_, _, vs, ws, rfl, rfl, h, h2, by rw [← line_eq]; omega, f.wr s ec (rr.append r2) rfl⟩
      · cases e
    · cases e
  · split at e
    · rename_i ys ec
      split at e
      · rename_i hl
        cases e
        obtain ⟨v, rfl, r⟩ := one_of rs
        obtain ⟨_, ev⟩ := (show _ ∧ _ from ro)
        obtain ⟨b, ws, ew, sq, r2⟩ := (show ∃ a vs, _ from r)
        obtain ⟨vs, h, rr⟩ := (show ∃ vs, _ from s.cell _ _ ec)
        have l1 := rr.length
        have l2 := r2.length
        subst ev ew
        exact .inr ⟨_, _, vs, ws, rfl, rfl, h, sq, by rw [← line_eq]; omega, f.wr s ec (rr.append r2) rfl⟩
      · cases e
    · cases e
  · cases e

/-! ### subscripts, slices -/
def ixF (a i : D) (S : Store) : Res := match i with
  | .int i => match items S a with
    | some ds => match atI ds i with
      | some d => some (d, S)
      | none => none
    | none => none
  | _ => none
def ixR (K : PySem.W.Frag) : R2 := fun x y H Q => rIxL K x y H Q ∨ rIxT K x y H Q
theorem ix_rule {X : Cx} : IxR X (ixR X.K) := ix_list.or ix_tup
theorem atI_rep {K : PySem.W.Frag} {H : Hp} {m : Nat → Addr} {L : Nat} {ds : List D} {vs : List V} {i : Int} {d : D} (r : RepL K H m L ds vs) (e : atI ds i = some d) : ∃ v, atI vs i = some v ∧ Rep K H m L d v := by
  unfold atI at e ⊢
  rw [← r.length]
  cases q : ixN ds.length i with
  | none => rw [q] at e; cases e
  | some j =>
    rw [q] at e
    exact r.get (i := j) (d := d) e
theorem ixF_ok {K : PySem.W.Frag} : Den2 K (ixR K) ixF := by
  intro H m S a b x y d S' Q s ra rb e f
  unfold ixF at e
  split at e
  · split at e
    · rename_i ds ei
      split at e
      · rename_i d0 ea
        cases e
        obtain ⟨p, vs, ev, sq, rr⟩ := items_seq s ra ei
        obtain ⟨v, hv, rv⟩ := atI_rep rr ea
        rcases sq with sq | sq
        · exact .inl ⟨p, vs, _, v, ev, rb, sq, hv, f.at s rv⟩
        · exact .inr ⟨p, vs, _, v, ev, rb, sq, hv, f.at s rv⟩
      · cases e
    · cases e
  · cases e
/-- xs[lo:hi] -/
def cutD (xs : List D) (lo hi : Option Int) : List D := (xs.drop (HT.sIx xs.length 0 lo)).take (HT.sIx xs.length xs.length hi - HT.sIx xs.length 0 lo)
def cutF (a : D) (lo hi : Option Int) (S : Store) : Res := match a with
  | .tup ds => some (.tup (cutD ds lo hi), S)
  | d => match items S d with
    | some ds => some (.ref S.length, S ++ [.lst (cutD ds lo hi)])
    | none => none
def cutR (K : PySem.W.Frag) : V → Option Int → Option Int → Hp → VK → Prop := fun x lo hi H Q => rSlA K x lo hi H Q ∨ rSlL K x lo hi H Q
theorem cut_rule {X : Cx} : SlR X (cutR X.K) := sl_tupA.or sl_list
theorem cut_rep {K : PySem.W.Frag} {H : Hp} {m : Nat → Addr} {L : Nat} {ds : List D} {vs : List V} (lo hi : Option Int) (r : RepL K H m L ds vs) : RepL K H m L (cutD ds lo hi) (cutV vs lo hi) := by
  unfold cutD cutV
  rw [← r.length]
  exact (r.drop _).take _
theorem cutF_ok {K : PySem.W.Frag} {H : Hp} {m : Nat → Addr} {S : Store} {a : D} {x : V} {d : D} {S' : Store} {Q : VK} (lo hi : Option Int) (s : Sim K H m S) (ra : Rep K H m S.length a x) (e : cutF a lo hi S = some (d, S')) (f : Fin K H m S d S' Q) : cutR K x lo hi H Q := by
  cases a with
  | tup xs =>
    have e' : some (D.tup (cutD xs lo hi), S) = some (d, S') := e
    cases e'
    obtain ⟨p, vs, ev, sq, rr⟩ := (show ∃ a vs, _ from ra)
    have rc := cut_rep lo hi rr
    refine .inl ⟨p, vs, ev, sq, fun h => ?_, fun h q hq => f.tup s rc hq⟩
    refine f.at s ⟨p, vs, rfl, sq, ?_⟩
    have e1 : cutV vs lo hi = vs := by
      unfold cutV
      rw [h.1, h.2, List.drop_zero, Nat.sub_zero, List.take_length]
    rw [e1] at rc
    exact rc
  | ref k =>
    simp only [cutF] at e
    split at e
    · rename_i ds ei
      cases e
      have ei' : litems S (.ref k) = some ds := ei
      obtain ⟨p, vs, ev, sq, rr⟩ := litems_seq s ra ei'
      exact .inr ⟨p, vs, ev, sq, fun q hq => f.lst s (cut_rep lo hi rr) hq⟩
    · cases e
  | _ => cases e

/-! ### xs[::-1] -/
def revF (a : D) (S : Store) : Res := match a with
  | .tup ds => some (.tup ds.reverse, S)
  | .ref n => match S[n]? with
    | some (.lst ds) => some (.ref S.length, S ++ [.lst ds.reverse])
    | _ => none
  | _ => none
theorem revF_ok {K : PySem.W.Frag} {H : Hp} {m : Nat → Addr} {S : Store} {a : D} {x : V} {d : D} {S' : Store} {Q : VK} (s : Sim K H m S) (ra : Rep K H m S.length a x) (e : revF a S = some (d, S')) (f : Fin K H m S d S' Q) :
    ∃ a xs, x = .ref a ∧ ((SqL K H a xs ∧ ∀ p, H p = none → Q (.ref p) (upd H p (.lst xs.reverse))) ∨ (SqT K H a xs ∧ ∀ p, H p = none → Q (.ref p) (upd H p (.tup xs.reverse)))) := by
  unfold revF at e
  split at e
  · cases e
    obtain ⟨p, vs, ev, sq, rs⟩ := (show ∃ a vs, _ from ra)
    exact ⟨p, vs, ev, .inr ⟨sq, fun q hq => f.tup s rs.reverse hq⟩⟩
  · split at e
    · rename_i ec
      cases e
      obtain ⟨_, ev⟩ := (show _ ∧ _ from ra)
      obtain ⟨vs, h1, rs⟩ := (show ∃ vs, _ from s.cell _ _ ec)
      exact ⟨_, vs, ev, .inl ⟨SqL.of h1, fun q hq => f.lst s rs.reverse hq⟩⟩
    · cases e
  · cases e

/-! ### truth -/
def truth (S : Store) : D → Option Bool
  | .non => some false
  | .bl b => some b
  | .int i => some (i != 0)
  | .str x => if x.length ≤ line then some ((x.length : Int) != 0) else none
  | d => (items S d).map fun ds => !ds.isEmpty
theorem truth_ok {K : PySem.W.Frag} {H : Hp} {m : Nat → Addr} {S : Store} {d : D} {v : V} {k : Bool} (s : Sim K H m S) (r : Rep K H m S.length d v) (e : truth S d = some k) : TruV K v H k := by
  have em : ∀ {ds : List D} {vs : List V}, RepL K H m S.length ds vs → (!ds.isEmpty) = !vs.isEmpty := fun {ds vs} h => by
    have hl := h.length
    cases ds with
    | nil => cases vs with
      | nil => rfl
      | cons => cases hl
    | cons => cases vs with
      | nil => cases hl
      | cons => rfl
  cases d with
  | non => rw [show v = .non from r]; exact (Option.some.inj e).symm
  | bl b => rw [show v = .bl b from r]; exact (Option.some.inj e).symm
  | int i => rw [show v = .int i from r]; exact (Option.some.inj e).symm
  | str x =>
    rw [show v = .str x from r]
    simp only [truth] at e
    split at e
    · rename_i hl
      exact ⟨by rw [← line_eq]; exact hl, (Option.some.inj e).symm⟩
    · cases e
  | ty n => cases e
  | tup xs =>
    obtain ⟨ds, e1, e2⟩ := Option.map_eq_some_iff.mp (show (items S (.tup xs)).map (fun ds => !ds.isEmpty) = some k from e)
    cases e1
    obtain ⟨a, vs, ev, sq, rs⟩ := (show ∃ a vs, _ from r)
    rw [ev]
    exact .inr (.inl ⟨vs, sq, by rw [← e2, em rs]⟩)
  | ref n =>
    obtain ⟨ds, e1, e2⟩ := Option.map_eq_some_iff.mp (show (items S (.ref n)).map (fun ds => !ds.isEmpty) = some k from e)
    obtain ⟨p, vs, ev, sq, rr⟩ := litems_seq s r (show litems S (.ref n) = some ds from e1)
    rw [ev]
    exact .inl ⟨vs, sq, by rw [← e2, em rr]⟩
end DL

set_option maxHeartbeats 4000000
/-! DL4: expressions and statements as data, what they mean. -/
namespace DL
open PySem PySem.Spec PyProof.Rows L2

inductive Tg where
  | one (i : Nat)
  | many (is : List Nat)
inductive Src where
  | seq | rng1 | rng2 | enum
  deriving DecidableEq
inductive Ex where
  | var (i : Nat)
  | cst (d : D)
  | glb (x : Str) (d : D)
  | tyc (n : String)
  | dct (kvs : List (Key × D))
  | tup (es : List Ex)
  | lst (es : List Ex)
  | op (o : Op) (a b : Ex)
  | chain (o o' : Op) (a b c : Ex)
  | neg (a : Ex)
  | isN (k : Bool) (a : Ex)
  | and (a b : Ex)
  | or (a b : Ex)
  | not (a : Ex)
  | ifx (c a b : Ex)
  | ix (a i : Ex)
  | cutL (a lo : Ex)
  | cutH (a hi : Ex)
  | cutB (a lo hi : Ex)
  | rev (a : Ex)
  | bad
  | call (f : Nat) (es : List Ex)
  | blt (b : Blt) (es : List Ex)
  | mth (b : Mth) (o : Ex) (es : List Ex)
  | comp (own : List Nat) (k : Src) (src : List Ex) (t : Tg) (c e : Ex)

def isLst (x : D) (S : Store) : Bool := match x with
  | .ref n => match S[n]? with
    | some (.lst _) => true
    | _ => false
  | _ => false
abbrev Fns := Nat → List D → Store → Rs D
@[inline] def lift (r : Res) : Rs D := match r with
  | some (d, S) => .ok d S
  | none => .bad
def asBool {α : Type} (d : D) (k : Bool → Rs α) : Rs α := match d with
  | .bl b => k b
  | _ => .bad
def asInt {α : Type} (d : D) (k : Int → Rs α) : Rs α := match d with
  | .int b => k b
  | _ => .bad
def tr (x : Rs D) : Rs Bool := x.bind fun d S => match truth S d with
  | some k => .ok k S
  | none => .bad
/-- the slots of a tuple target -/
def setAll : List Nat → List D → EnvD → Option EnvD
  | [], [], ρ => some ρ
  | i :: is, d :: ds, ρ => setAll is ds (ρ.set i (some d))
  | _, _, _ => none
def Tg.bind (t : Tg) (d : D) (ρ : EnvD) : Option EnvD := match t with
  | .one i => some (ρ.set i (some d))
  | .many is => match d with
    | .tup ds => setAll is ds ρ
    | _ => none
def wipeD (ρ : EnvD) : List Nat → EnvD
  | [] => ρ
  | v :: vs => (wipeD ρ vs).set v none
/-- what a walk yields at turn i: none: it is stuck; some none: its end -/
def nxt (k : Src) (args : List D) (i : Nat) (S : Store) : Option (Option D) := match k, args with
  | .seq, [d] => match items S d with
    | some ds => some ds[i]?
    | none => none
  | .enum, [d] => match items S d with
    | some ds => some (ds[i]?.map fun x => .tup [.int i, x])
    | none => none
  | .rng1, [.int n] => if i < n.toNat then some (some (.int (0 + (i : Int)))) else some none
  | .rng2, [.int a, .int b] => if i < (b - a).toNat then some (some (.int (a + (i : Int)))) else some none
  | _, _ => none
/-- at most so many turns -/
def turns (k : Src) (args : List D) (S : Store) : Option Nat := match k, args with
  | .seq, [d] => match items S d with
    | some ds => some ds.length
    | none => none
  | .enum, [d] => match items S d with
    | some ds => some ds.length
    | none => none
  | .rng1, [.int n] => if -(2 ^ 62) ≤ n ∧ n < 2 ^ 62 then some n.toNat else none
  | .rng2, [.int a, .int b] => if (-(2 ^ 62) ≤ a ∧ a < 2 ^ 62) ∧ (-(2 ^ 62) ≤ b ∧ b < 2 ^ 62) then some (b - a).toNat else none
  | _, _ => none
/-- a walk: n turns at most, from turn i, a state β carried; .inr: left early -/
def loop {β γ : Type} (nx : Nat → Store → Option (Option D)) (turn : D → β → Store → Rs (β ⊕ γ)) : Nat → Nat → β → Store → Rs (β ⊕ γ)
  | 0, i, b, S => match nx i S with
    | some none => .ok (.inl b) S
    | _ => .bad
  | n + 1, i, b, S => match nx i S with
    | some none => .ok (.inl b) S
    | some (some x) => (turn x b S).bind fun r S1 => match r with
      | .inl b' => loop nx turn n (i + 1) b' S1
      | .inr c => .ok (.inr c) S1
    | none => .bad
/-- a raise is not foreseen here -/
def noexc {α : Type} (x : Rs α) : Rs α := match x with
  | .exc _ _ _ => .bad
  | r => r
/-- a comprehension's turn: n0 the cell of the list that grows -/
def compTurn (n0 : Nat) (test elt : EnvD → Store → Rs D) (bnd : D → Option EnvD) (x : D) (S : Store) : Rs (Unit ⊕ Empty) := match bnd x with
  | none => .bad
  | some ρ => (tr (test ρ S)).bind fun k S1 => if k = true then (elt ρ S1).bind fun d S2 => match S2[n0]? with
      | some (.lst acc) => if acc.length < line then .ok (.inl ()) (S2.set n0 (.lst (acc ++ [d]))) else .bad
      | _ => .bad
    else .ok (.inl ()) S1

mutual
def ev (F : Fns) : Ex → EnvD → Store → Rs D
  | .var i, ρ, S => match ρ[i]? with
    | some (some d) => .ok d S
    | _ => .bad
  | .cst d, _, S => .ok d S
  | .glb _ d, _, S => .ok d S
  | .tyc n, _, S => .ok (.ty n) S
  | .dct kvs, _, S => .ok (.ref S.length) (S ++ [.dct kvs])
  | .tup es, ρ, S => (evs F es ρ S).bind fun ds S1 => if ds.length ≤ line then .ok (.tup ds) S1 else .bad
  | .lst es, ρ, S => (evs F es ρ S).bind fun ds S1 => if ds.length ≤ line then .ok (.ref S1.length) (S1 ++ [.lst ds]) else .bad
  | .op o a b, ρ, S => (ev F a ρ S).bind fun x S1 => (ev F b ρ S1).bind fun y S2 => lift (opF o x y S2)
  | .chain o o' a b c, ρ, S => (ev F a ρ S).bind fun x S1 => (ev F b ρ S1).bind fun y S2 => (lift (opF o x y S2)).bind fun d S3 => asBool d fun k =>
      if k = true then (ev F c ρ S3).bind fun z S4 => lift (opF o' y z S4) else .ok (.bl false) S3
  | .neg a, ρ, S => (ev F a ρ S).bind fun x S1 => asInt x fun i => .ok (.int (-i)) S1
  | .isN k a, ρ, S => (ev F a ρ S).bind fun x S1 => .ok (.bl (match x with
      | .non => !k
      | _ => k)) S1
  | .and a b, ρ, S => (ev F a ρ S).bind fun x S1 => asBool x fun k => if k = true then ev F b ρ S1 else .ok (.bl false) S1
  | .or a b, ρ, S => (ev F a ρ S).bind fun x S1 => asBool x fun k => if k = true then .ok (.bl true) S1 else ev F b ρ S1
  | .not a, ρ, S => (ev F a ρ S).bind fun x S1 => asBool x fun k => .ok (.bl (!k)) S1
  | .ifx c a b, ρ, S => (tr (ev F c ρ S)).bind fun k S1 => if k = true then ev F a ρ S1 else ev F b ρ S1
  | .ix a i, ρ, S => (ev F a ρ S).bind fun x S1 => (ev F i ρ S1).bind fun y S2 => lift (ixF x y S2)
  | .cutL a lo, ρ, S => (ev F a ρ S).bind fun x S1 => (ev F lo ρ S1).bind fun y S2 => asInt y fun l => lift (cutF x (some l) none S2)
  | .cutH a hi, ρ, S => (ev F a ρ S).bind fun x S1 => (ev F hi ρ S1).bind fun y S2 => asInt y fun h => lift (cutF x none (some h) S2)
  | .cutB a lo hi, ρ, S => (ev F a ρ S).bind fun x S1 => (ev F lo ρ S1).bind fun y S2 => asInt y fun l => (ev F hi ρ S2).bind fun z S3 => asInt z fun h => lift (cutF x (some l) (some h) S3)
  | .rev a, ρ, S => (ev F a ρ S).bind fun x S1 => lift (revF x S1)
  | .bad, _, _ => .bad
  | .call f es, ρ, S => (evs F es ρ S).bind fun ds S1 => F f ds S1
  | .blt b es, ρ, S => (evs F es ρ S).bind fun ds S1 => lift (bltF b ds S1)
  | .mth b o es, ρ, S => (ev F o ρ S).bind fun x S1 => if isLst x S1 = true then (evs F es ρ S1).bind fun ds S2 => lift (mthF b x ds S2) else .bad
  | .comp own k src t c e, ρ, S => (evs F src ρ S).bind fun args S1 => match turns k args S1 with
      | none => .bad
      | some n => noexc ((loop (nxt k args) (fun x (_ : Unit) S => compTurn S1.length (ev F c) (ev F e) (fun x => t.bind x (wipeD ρ own)) x S) n 0 () (S1 ++ [.lst []])).bind fun _ S2 => .ok (.ref S1.length) S2)
def evs (F : Fns) : List Ex → EnvD → Store → Rs (List D)
  | [], _, S => .ok [] S
  | e :: es, ρ, S => (ev F e ρ S).bind fun d S1 => (evs F es ρ S1).bind fun ds S2 => .ok (d :: ds) S2
end

/-- what a suite of an except clause reads -/
inductive HP where
  | cst (d : D)
  | var (j : Nat)
  | fld (f : Str)
  | isE (n : String) (k : Bool)
  | rpr (f : Str)
inductive HT where
  | one (p : HP)
  | tup (ps : List HP)
  | lst (ps : List HP)
inductive Hd where
  | ret (t : HT)
  | set (j : Nat) (t : HT)
inductive Tb where
  | ret (e : Ex)
  | set (j : Nat) (e : Ex)
  | ex (e : Ex)
def hpF (S : Store) (fs : List (Str × D)) (ρ : EnvD) : HP → Option D
  | .cst d => some d
  | .var j => match ρ[j]? with
    | some (some d) => some d
    | _ => none
  | .fld f => fs.lookup f
  | .isE _ k => some (.bl k)
  | .rpr f => match fs.lookup f with
    | some d => (reprF S d).map .str
    | none => none
def hpsF (S : Store) (fs : List (Str × D)) (ρ : EnvD) : List HP → Option (List D)
  | [] => some []
  | p :: ps => match hpF S fs ρ p, hpsF S fs ρ ps with
    | some d, some ds => some (d :: ds)
    | _, _ => none
def htF (fs : List (Str × D)) (ρ : EnvD) (S : Store) : HT → Res
  | .one p => (hpF S fs ρ p).map fun d => (d, S)
  | .tup ps => match hpsF S fs ρ ps with
    | some ds => if ds.length ≤ line then some (.tup ds, S) else none
    | none => none
  | .lst ps => match hpsF S fs ρ ps with
    | some ds => if ds.length ≤ line then some (.ref S.length, S ++ [.lst ds]) else none
    | none => none
def Tb.e : Tb → Ex
  | .ret e => e
  | .set _ e => e
  | .ex e => e
inductive Sm where
  | set (i : Nat) (e : Ex)
  | tgt (t : Tg) (e : Ex)
  | par (is : List Nat) (es : List Ex)
  | put (o i e : Ex)
  | ex (e : Ex)
  | ret (e : Ex)
  | retN
  | ite (c : Ex) (a b : List Sm)
  | for (t : Tg) (k : Src) (src : List Ex) (b : List Sm)
  | pass
  | brk
  | cnt
  | stuck
  | raise (c f : Str) (e : Ex)
  | tryA (c : Str) (i : Nat) (b : Tb) (h : Hd)
inductive Fl where
  | nx (ρ : EnvD)
  | rt (d : D)
  | bk (ρ : EnvD)
  | ct (ρ : EnvD)
def putF (o i v : D) (S : Store) : Option Store := match o, i with
  | .ref n, .int k => match S[n]? with
    | some (.lst ds) => match ixN ds.length k with
      | some j => some (S.set n (.lst (ds.set j v)))
      | none => none
    | _ => none
  | _, _ => none
def asEnv {α : Type} (o : Option EnvD) (k : EnvD → Rs α) : Rs α := match o with
  | some ρ => k ρ
  | none => .bad
/-- a loop's turn from its body's end -/
def turnOf : Fl → Sum EnvD Fl
  | .nx ρ => .inl ρ
  | .ct ρ => .inl ρ
  | .bk ρ => .inr (.nx ρ)
  | .rt d => .inr (.rt d)
def Tb.fin (ρ : EnvD) (d : D) : Tb → Fl
  | .ret _ => .rt d
  | .set j _ => .nx (ρ.set j (some d))
  | .ex _ => .nx ρ
def Hd.run (fs : List (Str × D)) (i : Nat) (ρ : EnvD) (S : Store) : Hd → Rs Fl
  | .ret t => match htF fs (ρ.set i none) S t with
    | some (d, S1) => .ok (.rt d) S1
    | none => .bad
  | .set j t => match htF fs (ρ.set i none) S t with
    | some (d, S1) => .ok (.nx (((ρ.set i none).set j (some d)).set i none)) S1
    | none => .bad
/-- a try: its body's value, or the clause -/
def tryF (r : Rs D) (c : Str) (i : Nat) (ρ : EnvD) (b : Tb) (h : Hd) : Rs Fl := match r with
  | .ok d S1 => .ok (b.fin ρ d) S1
  | .exc c' fs S1 => if c' = c ∧ i < ρ.length then h.run fs i ρ S1 else .bad
  | .bad => .bad
mutual
def run (F : Fns) : Sm → EnvD → Store → Rs Fl
  | .set i e, ρ, S => (ev F e ρ S).bind fun d S1 => .ok (.nx (ρ.set i (some d))) S1
  | .tgt t e, ρ, S => (ev F e ρ S).bind fun d S1 => asEnv (t.bind d ρ) fun ρ1 => .ok (.nx ρ1) S1
  | .par is es, ρ, S => (evs F es ρ S).bind fun ds S1 => asEnv (setAll is ds ρ) fun ρ1 => .ok (.nx ρ1) S1
  | .put o i e, ρ, S => (ev F e ρ S).bind fun v S1 => (ev F o ρ S1).bind fun x S2 => (ev F i ρ S2).bind fun y S3 => match putF x y v S3 with
      | some S4 => .ok (.nx ρ) S4
      | none => .bad
  | .ex e, ρ, S => (ev F e ρ S).bind fun _ S1 => .ok (.nx ρ) S1
  | .ret e, ρ, S => (ev F e ρ S).bind fun d S1 => .ok (.rt d) S1
  | .retN, _, S => .ok (.rt .non) S
  | .ite c a b, ρ, S => (tr (ev F c ρ S)).bind fun k S1 => if k = true then runs F a ρ S1 else runs F b ρ S1
  | .for t k src b, ρ, S => (evs F src ρ S).bind fun args S1 => match turns k args S1 with
      | none => .bad
      | some n => (loop (nxt k args) (fun x ρ S => asEnv (t.bind x ρ) fun ρ1 => (runs F b ρ1 S).bind fun f S2 => .ok (turnOf f) S2) n 0 ρ S1).bind fun r S2 => match r with
        | .inl ρ => .ok (.nx ρ) S2
        | .inr f => .ok f S2
  | .pass, ρ, S => .ok (.nx ρ) S
  | .brk, ρ, S => .ok (.bk ρ) S
  | .cnt, ρ, S => .ok (.ct ρ) S
  | .stuck, _, _ => .bad
  | .raise c f e, ρ, S => (ev F e ρ S).bind fun d S1 => .exc c [(f, d)] S1
  | .tryA c i b h, ρ, S => tryF (ev F b.e ρ S) c i ρ b h
def runs (F : Fns) : List Sm → EnvD → Store → Rs Fl
  | [], ρ, S => .ok (.nx ρ) S
  | s :: ss, ρ, S => (run F s ρ S).bind fun f S1 => match f with
      | .nx ρ1 => runs F ss ρ1 S1
      | f => .ok f S1
end
/-- a def: how many slots, how many parameters, its body -/
structure Fn where
  slots : Nat
  pars : Nat
  body : List Sm
def Fn.call (f : Fn) (F : Fns) (ds : List D) (S : Store) : Rs D := if ds.length = f.pars then
    (runs F f.body (ds.map some ++ List.replicate (f.slots - ds.length) none) S).bind fun r S1 => match r with
      | .rt d => .ok d S1
      | .nx _ => .ok .non S1
      | _ => .bad
  else .bad
/-- the program, n calls deep at most -/
def prog (T : List Fn) : Nat → Fns
  | 0 => fun _ _ _ => .bad
  | n + 1 => fun f ds S => match T[f]? with
    | some c => c.call (prog T n) ds S
    | none => .bad

/-! ### what a piece owes at its end -/
def XRep (K : PySem.W.Frag) (c : Str) (fs : List (Str × D)) (cls : Value) (dd : Option Addr) (H : Hp) (m : Nat → Addr) (L : Nat) : Prop :=
  ∃ C : Addr, cls = .ref C ∧ PySem.W.nsIn K mainGlobals c = some (some (.ref C)) ∧ ∃ (d : Addr) (ws : List (Str × V)), dd = some d ∧ H d = some (.xd ws) ∧ ∀ f x, fs.lookup f = some x → ∃ v, ws.lookup f = some v ∧ Rep K H m L x v
def XFin (K : PySem.W.Frag) (E : XK) (H : Hp) (m : Nat → Addr) (S : Store) (c : Str) (fs : List (Str × D)) (S' : Store) : Prop :=
  ∀ cls dd H' m', Grow H m S H' m' S' → Sim K H' m' S' → XRep K c fs cls dd H' m' S'.length → E cls dd H'
/-- what is wanted of an end, from a state on -/
abbrev Want (α : Type) := Hp → (Nat → Addr) → Store → α → Store → Prop
structure Mono {α : Type} (G : Want α) : Prop where
  to : ∀ {H : Hp} {m : Nat → Addr} {S : Store} {H1 : Hp} {m1 : Nat → Addr} {S1 : Store} {a : α} {S' : Store}, Grow H m S H1 m1 S1 → G H m S a S' → G H1 m1 S1 a S'
def Post (K : PySem.W.Frag) (E : XK) {α : Type} (G : Want α) (H : Hp) (m : Nat → Addr) (S : Store) : Rs α → Prop
  | .ok a S' => G H m S a S'
  | .exc c fs S' => XFin K E H m S c fs S'
  | .bad => False
abbrev GE (K : PySem.W.Frag) (Q : VK) : Want D := fun H m S d S' => Fin K H m S d S' Q
theorem GE.mono {K : PySem.W.Frag} {Q : VK} : Mono (GE K Q) := ⟨fun g f v H' m' g' s r => f v H' m' (g.trans g') s r⟩
theorem XFin.mono {K : PySem.W.Frag} {E : XK} {H : Hp} {m : Nat → Addr} {S : Store} {H1 : Hp} {m1 : Nat → Addr} {S1 : Store} {c : Str} {fs : List (Str × D)} {S' : Store} (g : Grow H m S H1 m1 S1) (f : XFin K E H m S c fs S') : XFin K E H1 m1 S1 c fs S' :=
  fun cls dd H' m' g' s r => f cls dd H' m' (g.trans g') s r
theorem Post.mono {K : PySem.W.Frag} {E : XK} {α : Type} {G : Want α} (gm : Mono G) {H : Hp} {m : Nat → Addr} {S : Store} {H1 : Hp} {m1 : Nat → Addr} {S1 : Store} {r : Rs α} (g : Grow H m S H1 m1 S1) (p : Post K E G H m S r) : Post K E G H1 m1 S1 r := by
  cases r with
  | ok a S' => exact gm.to g p
  | exc c fs S' => exact XFin.mono g p
  | bad => exact p
def DenE (K : PySem.W.Frag) (W : WX) (t : TE) (f : EnvD → Store → Rs D) : Prop :=
  ∀ {σ : L2.St} {H : Hp} {m : Nat → Addr} {S : Store} {ρ : EnvD} {Q : VK}, Sim K H m S → REnv K H m S.length ρ σ → Post K (WE W σ) (GE K Q) H m S (f ρ S) → t σ H Q
abbrev GT (K : PySem.W.Frag) (Q : Bool → Hp → Prop) : Want Bool := fun H m S k S' => ∀ H' m', Grow H m S H' m' S' → Sim K H' m' S' → Q k H'
theorem GT.mono {K : PySem.W.Frag} {Q : Bool → Hp → Prop} : Mono (GT K Q) := ⟨fun g f H' m' g' s => f H' m' (g.trans g') s⟩
def DenT (K : PySem.W.Frag) (W : WX) (t : TT) (f : EnvD → Store → Rs Bool) : Prop :=
  ∀ {σ : L2.St} {H : Hp} {m : Nat → Addr} {S : Store} {ρ : EnvD} {Q : Bool → Hp → Prop}, Sim K H m S → REnv K H m S.length ρ σ → Post K (WE W σ) (GT K Q) H m S (f ρ S) → t σ H Q
abbrev GA (K : PySem.W.Frag) (Q : List V → Hp → Prop) : Want (List D) := fun H m S ds S' => ∀ vs H' m', Grow H m S H' m' S' → Sim K H' m' S' → RepL K H' m' S'.length ds vs → Q vs H'
theorem GA.mono {K : PySem.W.Frag} {Q : List V → Hp → Prop} : Mono (GA K Q) := ⟨fun g f v H' m' g' s r => f v H' m' (g.trans g') s r⟩
def DenA (K : PySem.W.Frag) (W : WX) (t : TA) (f : EnvD → Store → Rs (List D)) : Prop :=
  ∀ {σ : L2.St} {H : Hp} {m : Nat → Addr} {S : Store} {ρ : EnvD} {Q : List V → Hp → Prop}, Sim K H m S → REnv K H m S.length ρ σ → Post K (WE W σ) (GA K Q) H m S (f ρ S) → t σ H Q
section
variable {K : PySem.W.Frag} {W : WX} {σ : L2.St} {H : Hp} {m : Nat → Addr} {S : Store} {ρ : EnvD} {β : Type} {G : Want β}
/-- one expression, then the rest -/
theorem DenE.bind {t : TE} {f : EnvD → Store → Rs D} (h : DenE K W t f) (gm : Mono G) (s : Sim K H m S) (r : REnv K H m S.length ρ σ) {k : D → Store → Rs β} (p : Post K (WE W σ) G H m S ((f ρ S).bind k)) {Q : VK}
    (hq : ∀ d S1 v H1 m1, Grow H m S H1 m1 S1 → Sim K H1 m1 S1 → REnv K H1 m1 S1.length ρ σ → Rep K H1 m1 S1.length d v → Post K (WE W σ) G H1 m1 S1 (k d S1) → Q v H1) : t σ H Q := by
  refine h s r ?_
  cases e : f ρ S with
  | ok d S1 =>
    rw [e] at p
    exact fun v H1 m1 g s1 rv => hq d S1 v H1 m1 g s1 (r.grow g) rv (Post.mono gm g p)
  | exc c fs S1 => rw [e] at p; exact p
  | bad => rw [e] at p; exact p
theorem DenA.bind {t : TA} {f : EnvD → Store → Rs (List D)} (h : DenA K W t f) (gm : Mono G) (s : Sim K H m S) (r : REnv K H m S.length ρ σ) {k : List D → Store → Rs β} (p : Post K (WE W σ) G H m S ((f ρ S).bind k)) {Q : List V → Hp → Prop}
    (hq : ∀ d S1 v H1 m1, Grow H m S H1 m1 S1 → Sim K H1 m1 S1 → REnv K H1 m1 S1.length ρ σ → RepL K H1 m1 S1.length d v → Post K (WE W σ) G H1 m1 S1 (k d S1) → Q v H1) : t σ H Q := by
  refine h s r ?_
  cases e : f ρ S with
  | ok d S1 =>
    rw [e] at p
    exact fun v H1 m1 g s1 rv => hq d S1 v H1 m1 g s1 (r.grow g) rv (Post.mono gm g p)
  | exc c fs S1 => rw [e] at p; exact p
  | bad => rw [e] at p; exact p
theorem DenA.bindE {t : TA} {f : EnvD → Store → Rs (List D)} (h : DenA K W t f) (gm : Mono G) (s : Sim K H m S) (r : REnv K H m S.length ρ σ) {k : List D → Store → Rs β} (p : Post K (WE W σ) G H m S ((f ρ S).bind k)) {Q : List V → Hp → Prop}
    (hq : ∀ d S1 v H1 m1, f ρ S = .ok d S1 → Grow H m S H1 m1 S1 → Sim K H1 m1 S1 → REnv K H1 m1 S1.length ρ σ → RepL K H1 m1 S1.length d v → Post K (WE W σ) G H1 m1 S1 (k d S1) → Q v H1) : t σ H Q := by
  refine h s r ?_
  cases e : f ρ S with
  | ok d S1 =>
    rw [e] at p
    exact fun v H1 m1 g s1 rv => hq d S1 v H1 m1 e g s1 (r.grow g) rv (Post.mono gm g p)
  | exc c fs S1 => rw [e] at p; exact p
  | bad => rw [e] at p; exact p
theorem DenT.bind {t : TT} {f : EnvD → Store → Rs Bool} (h : DenT K W t f) (gm : Mono G) (s : Sim K H m S) (r : REnv K H m S.length ρ σ) {k : Bool → Store → Rs β} (p : Post K (WE W σ) G H m S ((f ρ S).bind k)) {Q : Bool → Hp → Prop}
    (hq : ∀ b S1 H1 m1, Grow H m S H1 m1 S1 → Sim K H1 m1 S1 → REnv K H1 m1 S1.length ρ σ → Post K (WE W σ) G H1 m1 S1 (k b S1) → Q b H1) : t σ H Q := by
  refine h s r ?_
  cases e : f ρ S with
  | ok d S1 =>
    rw [e] at p
    exact fun H1 m1 g s1 => hq d S1 H1 m1 g s1 (r.grow g) (Post.mono gm g p)
  | exc c fs S1 => rw [e] at p; exact p
  | bad => rw [e] at p; exact p
/-- by a rule of values -/
theorem lift_post {E : XK} {g : Res} {Q : VK} (p : Post K E (GE K Q) H m S (lift g)) {P : Prop} (h : ∀ d S', g = some (d, S') → Fin K H m S d S' Q → P) : P := by
  cases e : g with
  | none => rw [e] at p; exact p.elim
  | some z => obtain ⟨d, S'⟩ := z; rw [e] at p; exact h d S' e p
end
end DL

set_option maxHeartbeats 4000000
/-! DL5: the look at a text's expression, and that what passes it does what it means. -/
namespace DL
open PySem PySem.Spec PyProof.Rows L2

/-! ### calls, where what is under way is known -/
structure FnG (P : Program) (w : World) (K : PySem.W.Frag) (mg : Str → Option Value) (base : Heap) (k : Nat) (f : Addr) (fd : FuncData) (ps : List Str) (sp : Sp) : Prop where
  len : ∀ vs H Q E, sp vs H Q E → vs.length = ps.length
  run : ∀ (A : Around) (outer : List PySem.Env) (s : Shared) (H : Hp) (args : Args) (us : List Value) (vs : List V) (Q : VK) (E : XK), Room k A → A.guards = some [] → Env0 P w K mg base A outer s H → BindsTo s fd args (ps.zip us) → Vals vs us → sp vs H Q E →
    codeAny (model P w) A (.call (.ref f) args) (CR (L2.CX P w) outer P w H s Q E) s
theorem FnG.mono {P : Program} {w : World} {K : PySem.W.Frag} {mg : Str → Option Value} {base : Heap} {j k : Nat} {f : Addr} {fd : FuncData} {ps : List Str} {sp : Sp} (F : FnG P w K mg base j f fd ps sp) (h : j ≤ k) : FnG P w K mg base k f fd ps sp :=
  ⟨F.len, fun A outer s H args us vs Q E hr => F.run A outer s H args us vs Q E (hr.mono h)⟩
section
variable {X : Cx} {W : WX} {k : Nat} {f : Addr} {fd : FuncData} {ps : List Str} {sp : Sp} {x : Str} {p pos : Pos} {e : Expr} {es : List Expr} {t : TA}
theorem run_fnG {pins : List (Addr × Obj)} {σ : L2.St} {H : Hp} {s : Shared} {Q : VK} {us : List Value} {vs : List V} (F : FnG X.prog X.w X.K X.mg X.base k f fd ps sp) (hr : Room k X.A) (hgd : X.A.guards = some []) (hb : Binds X.K fd ps []) (tk : Takes X W)
    (I : Inv X pins σ H s) (r : Vals vs us) (h : sp vs H Q (WE W σ)) : wpAny (model X.prog X.w) X.A (PySem.call (.ref f) us) (EP X pins σ Q) X.xe s := by
  have hl : us.length = ps.length := by rw [← r.length]; exact F.len _ _ _ _ h
  have b := hb s us I.kIn (by rw [List.append_nil]; exact hl)
  rw [List.append_nil] at b
  refine wpAny_call (codeAny_mono (F.run X.A X.stack s H ⟨us, []⟩ us vs Q (WE W σ) hr hgd I.env0 b r h) fun r s' hq => ?_)
  cases r with
  | error e => exact passAt tk σ pins H s e s' I hq
  | ok fl =>
    cases fl with
    | ret u => exact I.after hq
    | next => exact False.elim hq
    | brk => exact False.elim hq
    | cont => exact False.elim hq
theorem pe_callG (F : FnG X.prog X.w X.K X.mg X.base k f fd ps sp) (hr : Room k X.A) (hgd : X.A.guards = some []) (hg : Gl X x) (hm : X.mg x = some (.ref f)) (hk : PySem.W.keepIn X.K (.ref f) = true) (hb : Binds X.K fd ps []) (tk : Takes X W)
    (ha : PA X (e :: es) t) (hdb : (x == ("__debug__" : Str)) = false) (he : starEach (e :: es) X.env = (false, eval e X.env) :: starEach es X.env) (hpl : (backTo pos (starEach es X.env)).any (·.1) = false) :
    PE X (.Call (.Name x p) (e :: es) [] pos) (tCallS sp (WE W) t) := by
  refine ⟨fun pins s σ H Q I h => ?_⟩
  refine wpAny_Call_Name_kw (ld_glob I hg hm ?_ hdb)
  refine PySem.W.callWith_K (h₀ := X.base) I.ok.mod.kin hk (thn (ha.run pos pins s σ H _ I h) fun us s1 ⟨vs, H1, I1, r, q⟩ => ⟨I1.kIn, ?_⟩) he hpl
  exact run_fnG F hr hgd hb tk I1 r q
end
/-- a list or a tuple walked -/
def iSeq (K : PySem.W.Frag) (tl : TE) : TI := fun σ H R => tl σ H fun x H1 => ∃ a, x = .ref a ∧ (((∃ xs, SqL K H1 a xs) ∧ R (Itl K a) H1) ∨ ((∃ xs, SqT K H1 a xs) ∧ R (Itt K a) H1))
theorem pi_seq {X : Cx} {tg l : Expr} {tl : TE} (hl : PE X l tl) : PI X tg l (iSeq X.K tl) := by
  refine ⟨fun pins s σ H R I h => ?_⟩
  refine thn (hl.run pins s σ H _ I h) fun v s1 ⟨x, H1, I1, r1, q1⟩ => ?_
  obtain ⟨a, e, q⟩ := q1
  subst e
  cases r1
  rcases q with ⟨⟨xs, hq⟩, q⟩ | ⟨⟨xs, hq⟩, q⟩
  · obtain ⟨its, rv, p, hz⟩ := I1.list hq
    refine wpAny_pyIter_list p.isList ?_
    refine ⟨s1.heap.objs.size, [s1.heap.objs.size], _, _, H1, rfl, I1.kept (t' := s1.toks) fun b o e => Heap.get?_push_of_some _ e, turn_list a _, ⟨_, Heap.get?_push_size _ rfl, rfl, rfl⟩, fun b hb => ?_, q⟩
    have e : b = s1.heap.objs.size := by simpa using hb
    subst e
    exact I1.fpOk (Nat.le_refl _) (I1.hok.fresh (Nat.le_refl _))
  · obtain ⟨its, rv, p, hz⟩ := I1.tuple hq
    refine wpAny_pyIter_tuple (show s1.heap.IsTuple a its.toArray from p) ?_
    refine ⟨s1.heap.objs.size, [s1.heap.objs.size], _, _, H1, rfl, I1.kept (t' := s1.toks) fun b o e => Heap.get?_push_of_some _ e, turn_tuple a _, ⟨_, Heap.get?_push_size _ rfl, rfl, rfl⟩, fun b hb => ?_, q⟩
    have e : b = s1.heap.objs.size := by simpa using hb
    subst e
    exact I1.fpOk (Nat.le_refl _) (I1.hok.fresh (Nat.le_refl _))

/-! ### the look -/
structure Tab where
  free : List Str
  con : List (Str × D)
  fn : List (Str × Nat)
  exc : List (Str × Str) := []
  isx : List (Str × String × Bool) := []
mutual
def D.same : D → D → Bool
  | .non, .non => true
  | .bl a, .bl b => a == b
  | .int a, .int b => decide (a = b)
  | .str a, .str b => decide (a = b)
  | .tup xs, .tup ys => D.sameL xs ys
  | .ref a, .ref b => a == b
  | _, _ => false
def D.sameL : List D → List D → Bool
  | [], [] => true
  | x :: xs, y :: ys => D.same x y && D.sameL xs ys
  | _, _ => false
end
mutual
theorem D.same_eq : ∀ {a b : D}, D.same a b = true → a = b
  | .non, b, h => by cases b <;> first | rfl | cases h
  | .bl a, b, h => by cases b <;> first | (simp only [D.same, beq_iff_eq] at h; rw [h]) | cases h
  | .int a, b, h => by cases b <;> first | (simp only [D.same, decide_eq_true_eq] at h; rw [h]) | cases h
  | .str a, b, h => by cases b <;> first | (simp only [D.same, decide_eq_true_eq] at h; rw [h]) | cases h
  | .ref a, b, h => by cases b <;> first | (simp only [D.same, beq_iff_eq] at h; rw [h]) | cases h
  | .tup xs, b, h => by
    cases b with
    | tup ys => rw [D.sameL_eq (show D.sameL xs ys = true from h)]
    | _ => cases h
theorem D.sameL_eq : ∀ {a b : List D}, D.sameL a b = true → a = b
  | [], [], _ => rfl
  | x :: xs, y :: ys, h => by
    have h' : (D.same x y && D.sameL xs ys) = true := h
    rw [Bool.and_eq_true] at h'
    rw [D.same_eq h'.1, D.sameL_eq h'.2]
  | [], _ :: _, h => by cases h
  | _ :: _, [], h => by cases h
end
def vis (sc : Scope) (x : Str) : Bool := match sc.names.lookup x with
  | some .local => true
  | some .cell => true
  | some .free => true
  | _ => false
def glob (sc : Scope) (x : Str) : Bool := (match sc.names.lookup x with
  | some .globalImplicit => true
  | _ => false) && !(x == ("__debug__" : Str)) && !(decide (x = "__name__"))
def notIf : Ex → Bool
  | .ifx _ a b => notIf a && notIf b
  | _ => true
def shape : Expr → Bool
  | .Call (.Name _ _) (_ :: _) [] _ => true
  | .Call (.Attribute _ _ _) (_ :: _) [] _ => true
  | .Name _ _ => true
  | .Constant _ _ _ => true
  | .Tuple _ _ _ => true
  | .List _ _ => true
  | .Dict _ _ _ => true
  | .BinOp _ _ _ _ => true
  | .Compare _ _ _ _ => true
  | .UnaryOp _ _ _ => true
  | .BoolOp _ _ _ => true
  | .IfExp _ _ _ _ => true
  | .Subscript _ _ _ => true
  | .ListComp _ _ _ _ => true
  | _ => false
def notLc : Expr → Bool
  | .ListComp _ _ _ _ => false
  | _ => true
/-- a target of a comprehension -/
def chkT (N : List Str) (sc : Scope) (scope : Scope) (i : Nat) (x : Str) : Bool :=
  decide (N[i]? = some x) && ((decide (scope.names.lookup x = some .local) && decide (sc.names.lookup x = some .local)) || (decide (scope.names.lookup x = some .cell) && decide (sc.names.lookup x = some .cell)))
def chkTs (c : Nat → Str → Bool) : List Nat → List Expr → Bool
  | [], [] => true
  | i :: is, .Name x _ :: es => c i x && chkTs c is es
  | _, _ => false
def chkTg (c : Nat → Str → Bool) (t : Tg) (e : Expr) : Bool := match t, e with
  | .one i, .Name x _ => c i x
  | .many is, .Tuple es _ _ => chkTs c is es
  | _, _ => false
def Tg.slots : Tg → List Nat
  | .one i => [i]
  | .many is => is
def lineOk (a b : Pos) : Bool := a.endLine == b.line
section
variable (T : Tab) (N : List Str)
mutual
def chk : Scope → Ex → Expr → Bool
  | sc, .var i, e => match e with
    | .Name x _ => decide (N[i]? = some x) && vis sc x && !(x == ("__debug__" : Str)) && !(x == ("__classdict__" : Str))
    | _ => false
  | _, .cst d, e => match e, d with
    | .Constant (.int j) _ _, .int i => decide (i = j)
    | .Constant (.bool j) _ _, .bl i => i == j
    | .Constant (.str j) _ _, .str i => decide (i = j)
    | .Constant .none _ _, .non => true
    | _, _ => false
  | sc, .glb x d, e => match e with
    | .Name y _ => decide (x = y) && glob sc x && (T.con.any fun p => decide (p.1 = x) && D.same p.2 d)
    | _ => false
  | sc, .tyc n, e => match e with
    | .Name y _ => decide (y = Str.ofString n) && glob sc y && decide (y ∈ T.free) && decide (bootBuiltins y = some (.type n))
    | _ => false
  | sc, .dct kvs, e => match e, kvs with
    | .Dict [] [] _, [] => true
    | .Dict [some (.Constant (.int j) _ _)] [.Constant (.int l) _ _] _, [(.inl i, .int k)] => decide (i = j) && decide (k = l)
    | _, _ => false
  | sc, .tup es, e => match e with
    | .Tuple l _ _ => chks sc es l
    | _ => false
  | sc, .lst es, e => match e with
    | .List l _ => chks sc es l
    | _ => false
  | sc, .op o a b, e => match e with
    | .BinOp l p r _ => decide (o.bin = some p) && chk sc a l && chk sc b r
    | .Compare l [p] [r] _ => decide (o.cmp = some p) && chk sc a l && chk sc b r
    | _ => false
  | sc, .chain o o' a b c, e => match e with
    | .Compare l [p, p'] [r, r'] _ => decide (o.cmp = some p) && decide (o'.cmp = some p') && chk sc a l && chk sc b r && chk sc c r'
    | _ => false
  | sc, .neg a, e => match e with
    | .UnaryOp .USub l _ => chk sc a l
    | _ => false
  | sc, .isN k a, e => match e with
    | .Compare l [.Is] [.Constant .none _ _] _ => !k && chk sc a l
    | .Compare l [.IsNot] [.Constant .none _ _] _ => k && chk sc a l
    | _ => false
  | sc, .and a b, e => match e with
    | .BoolOp .And [l, r] _ => notIf a && notIf b && chk sc a l && chk sc b r
    | .BoolOp .And (l :: r :: r' :: rs) p => notIf a && notIf b && chk sc a l && chk sc b (.BoolOp .And (r :: r' :: rs) p)
    | _ => false
  | sc, .or a b, e => match e with
    | .BoolOp .Or [l, r] _ => notIf a && notIf b && chk sc a l && chk sc b r
    | .BoolOp .Or (l :: r :: r' :: rs) p => notIf a && notIf b && chk sc a l && chk sc b (.BoolOp .Or (r :: r' :: rs) p)
    | _ => false
  | sc, .not a, e => match e with
    | .UnaryOp .Not l _ => notIf a && chk sc a l
    | _ => false
  | sc, .ifx c a b, e => match e with
    | .IfExp t l r _ => notIf c && chk sc c t && chk sc a l && chk sc b r
    | _ => false
  | sc, .ix a i, e => match e with
    | .Subscript l r _ => chk sc a l && chk sc i r
    | _ => false
  | sc, .cutL a lo, e => match e with
    | .Subscript l (.Slice (some x) none none _) _ => chk sc a l && chk sc lo x
    | _ => false
  | sc, .cutH a hi, e => match e with
    | .Subscript l (.Slice none (some x) none _) _ => chk sc a l && chk sc hi x
    | _ => false
  | sc, .cutB a lo hi, e => match e with
    | .Subscript l (.Slice (some x) (some y) none _) _ => chk sc a l && chk sc lo x && chk sc hi y
    | _ => false
  | sc, .rev a, e => match e with
    | .Subscript l (.Slice none none (some (.UnaryOp .USub (.Constant (.int 1) _ _) _)) _) _ => chk sc a l
    | _ => false
  | _, .bad, e => notLc e && shape e
  | sc, .call f es, e => match e with
    | .Call (.Name x _) (a :: as) [] _ => decide (T.fn[f]? = some (x, (a :: as).length)) && glob sc x && chks sc es (a :: as)
    | _ => false
  | sc, .blt b es, e => match e with
    | .Call (.Name x _) (a :: as) [] _ => decide (x = b.name) && glob sc x && decide (x ∈ T.free) && chks sc es (a :: as)
    | _ => false
  | sc, .mth b o es, e => match e with
    | .Call (.Attribute l x ap) (a :: as) [] cp => decide (x = b.name) && lineOk ap cp && decide (as.length < 20) && chk sc o l && chks sc es (a :: as)
    | _ => false
  | sc, .comp own k src t c e, ex => match ex with
    | .ListComp elt [⟨tg, iter, ifs, 0⟩] scope _ =>
      blkC N sc scope (own.map fun i => (N.getD i "", i)) && chkTg (chkT N (relS scope sc) scope) t tg && (t.slots.all fun i => decide (i ∈ own)) && chk (relS scope sc) e elt &&
      (match ifs with
      | [] => (match c with
        | .cst (.bl true) => true
        | _ => false)
      | [x] => notIf c && chk (relS scope sc) c x
      | _ => false) &&
      (match k with
      | .seq => chks sc src [iter]
      | .rng1 => (match iter with
        | .Call (.Name x _) [a] [] _ => decide (x = "range") && glob sc x && decide (x ∈ T.free) && chks sc src [a]
        | _ => false)
      | .rng2 => (match iter with
        | .Call (.Name x _) [a, b] [] _ => decide (x = "range") && glob sc x && decide (x ∈ T.free) && chks sc src [a, b]
        | _ => false)
      | .enum => (match iter, tg with
        | .Call (.Name x _) [a] [] _, .Tuple _ _ _ => decide (x = "enumerate") && glob sc x && decide (x ∈ T.free) && chks sc src [a]
        | _, _ => false))
    | _ => false
def chks : Scope → List Ex → List Expr → Bool
  | _, [], es => match es with
    | [] => true
    | _ => false
  | sc, x :: xs, es => match es with
    | e :: es => chk sc x e && chks sc xs es
    | [] => false
end
end
end DL

set_option maxHeartbeats 4000000
/-! DLE: enumerate of a tuple. -/
namespace DL
open PySem PySem.Spec PyProof.Rows L2

theorem enum1_meets {v : Value} {o : Obj} {H : Heap → Prop} (B : Begins v o H) :
    Meets (Builtin.«enumerate.__new__» ⟨[.type "enumerate", v], []⟩) (fun _ R s => H s.heap ∧
      R (.ok (.ret (.ref (s.heap.push o).objs.size))) { s with heap := (s.heap.push o).push { cls := .type "enumerate", data := .fields #[.none, .bool false, .ref s.heap.objs.size, rawInt 0, .none, .none] } }) :=
  .of_wp fun prog w A R s h => by
    obtain ⟨hp, g, d, tk, os⟩ := s
    obtain ⟨hH, hR⟩ := h
    have hsub := sub_enumerate
    have it0 : ∀ {A' : Around} {E : Value → Shared → Prop} {Q : Value → Shared → Prop}, Q (.ref hp.objs.size) ⟨hp.push o, g, d, tk, os⟩ → wpAny (model prog w) A' (pyIter v) Q E ⟨hp, g, d, tk, os⟩ :=
      fun q => B.iter prog w _ _ ⟨hp, g, d, tk, os⟩ _ hH q
    wp_walk using it0
    refine wpAny_stack_any fun st => wpAny_pure ?_
    split
    · rename_i c _ _ _ _ _
      cases (c == Value.type "enumerate")
      all_goals
        wp_walk using it0
        exact ⟨_, rfl, hR⟩
    · wp_walk using it0
      exact ⟨_, rfl, hR⟩
theorem enum1_begins {prog : Program} {w : World} {A : Around} {E : Value → Shared → Prop} {s : Shared} {v : Value} {o : Obj} {H : Heap → Prop} {Q : Value → Shared → Prop} (B : Begins v o H) (h1 : H s.heap)
    (h : ∀ h', IsEnum h' (s.heap.objs.size + 1) s.heap.objs.size 0 .none → h'.get? s.heap.objs.size = some o → (∀ b o, s.heap.get? b = some o → h'.get? b = some o) → Q (.ref (s.heap.objs.size + 1)) { s with heap := h' }) :
    wpAny (model prog w) A (call (.type "enumerate") [v]) Q E s := by
  refine callType_new F.called_enumerate (by decide) (F.typeCall_enumerate_1 _) (F.newCall_enumerate_1 _) (fun obj => F.args_object_init_2 obj _) F.entry_enumerate_new (enum1_meets B) ⟨h1, ?_⟩
  have hz : (s.heap.push o).objs.size = s.heap.objs.size + 1 := Heap.size_push ..
  have he : IsEnum ((s.heap.push o).push { cls := .type "enumerate", data := .fields #[.none, .bool false, .ref s.heap.objs.size, rawInt 0, .none, .none] }) (s.heap.objs.size + 1) s.heap.objs.size 0 .none := by
    have e := Heap.get?_push_size (s.heap.push o) (o := { cls := .type "enumerate", data := .fields #[.none, .bool false, .ref s.heap.objs.size, rawInt 0, .none, .none] }) rfl
    rw [hz] at e
    exact e
  show _ ∧ _
  rw [hz]
  exact ⟨⟨_, he, rfl⟩, h _ he (Heap.get?_push_of_some _ (Heap.get?_push_size _ B.free)) fun b o x => Heap.get?_push_of_some _ (Heap.get?_push_of_some _ x)⟩
/-- the tuple at a, each item in a new pair -/
def IteT (K : PySem.W.Frag) (a : Addr) : It where
  go := fun i H => ∃ (xs : List V) (x : V), SqT K H a xs ∧ xs[i]? = some x
  yld := fun i H v H' => ∃ T x, v = .ref T ∧ H T = none ∧ H' = upd H T (.tup [.int (i : Nat), x]) ∧ ∀ xs, SqT K H a xs → xs[i]? = some x
  stop := fun i H => ∃ xs : List V, SqT K H a xs ∧ xs.length ≤ i
theorem turn_enumT {P : Program} {w : World} {K : PySem.W.Frag} {elts : List Expr} {kk : Nat} {tpos : Pos} (a e it : Addr) :
    Turn P w K (.Tuple elts kk tpos) (IteT K a) [e, it] e (fun i h => (∃ old, IsEnum h e it ((i : Nat) : Int) old) ∧ h.IsTupleIter it a i ∧ e ≠ it) where
  mem := by simp
  obj := fun i h st b hb => by
    obtain ⟨⟨old, he⟩, ⟨o, ho, hc, hd⟩, _⟩ := st
    have e' : b = e ∨ b = it := by simpa using hb
    rcases e' with z | z
    · rw [z]; exact ⟨_, he, fun v q => nomatch q⟩
    · rw [z]; exact ⟨o, ho, fun v q => by rw [hd] at q; cases q⟩
  keep := fun i h h' st k => let ⟨⟨old, he⟩, hi, hne⟩ := st; ⟨⟨old, k e (by simp) _ he⟩, hi.at fun o q => k it (by simp) o q, hne⟩
  item := by
    intro X hP hw hK hc i pins s σ H E I hf st hg
    subst hP hw hK
    obtain ⟨⟨old, he⟩, hit, hne⟩ := st
    obtain ⟨xs, x, hq, hx⟩ := hg
    obtain ⟨its, rv, p, hz⟩ := I.tuple hq
    obtain ⟨u, hu, ru⟩ := rv.get hx
    have hel : e < s.heap.objs.size := Heap.lt_size he
    have hil : it < s.heap.objs.size := by obtain ⟨_, q, _⟩ := hit; exact Heap.lt_size q
    have pt : s.heap.IsTuple a its.toArray := p
    have hat : a ≠ it := fun z => by
      obtain ⟨o1, q1, c1, _⟩ := hit
      obtain ⟨o2, q2, c2, _⟩ := pt
      rw [z, q1] at q2
      cases q2
      exact absurd (Value.type.inj (c1.symm.trans c2)) (by decide)
    have hae : e ≠ a := fun z => by
      obtain ⟨o2, q2, c2, _⟩ := pt
      rw [← z, he] at q2
      cases q2
      exact absurd (Value.type.inj c2) (by decide)
    have hlt : i < its.toArray.size := by
      have := rv.length
      have := lt_of_get hx
      simp
      omega
    have D := Draws.tuple (prog := X.prog) (w := X.w) (A := X.A.in1) (by show X.A.in1.handled = none; exact I.ok.hd hc) it a hat its.toArray
    refine wpAny_pyNext_enum_itemD (n := its.toArray.size) D he ⟨hit, pt⟩ hlt hne (by simp; exact ⟨hne, hae⟩) fun y h' tk hP ho st' hT hsz hk => ?_
    have ey : y = u := by
      have : its.toArray[i]? = some u := by simpa using hu
      rw [hP] at this
      exact Option.some.inj this
    subst ey
    obtain ⟨hit', _⟩ := st'
    refine ⟨_, rfl, wpAny_letOwnedTupleGo_enum (s := { s with heap := h', toks := tk + 1 }) ho fun h'' he' sb => ?_⟩
    have hT2 : h''.get? s.heap.objs.size = some { cls := .type "tuple", data := .seq #[.int i tk, y] } := (sb.2 _ (Nat.ne_of_gt hel)).trans hT
    have new : ObjOk X.prog X.w (upd H s.heap.objs.size (.tup [.int (i : Nat), x])) h'' s.heap.objs.size (.tup [.int (i : Nat), x]) :=
      ⟨by show 2 ≤ sizeLine; decide, [.int i tk, y], .cons ⟨_, rfl⟩ (.cons ru .nil), ⟨_, hT2, rfl, _, rfl⟩⟩
    have I1 : Inv X pins σ (upd H s.heap.objs.size (.tup [.int (i : Nat), x])) { s with heap := h'', toks := tk + 1 } :=
      I.turnedNew (ch := [e, it]) (fun b ob hb q => (sb.2 b (fun z => hb (by simp [z]))).trans (hk b ob (fun z => hb (by simp [z])) (fun z => hb (by simp [z])) q)) hf (Nat.le_refl _) new
    refine ⟨.ref s.heap.objs.size, _, I1, rfl, ⟨_, x, rfl, I.hok.fresh (Nat.le_refl _), rfl, fun ys hy => by rw [I.tuple_inj hy hq]; exact hx⟩, ⟨⟨y, ?_⟩, hit'.at fun o q => (sb.2 it (Ne.symm hne)).trans q, hne⟩, fun b hb => ?_⟩
    · have e1 : ((i + 1 : Nat) : Int) = (i : Int) + 1 := by omega
      rw [e1]; exact he'
    · have hb' : b < s.heap.objs.size := by
        have e' : b = e ∨ b = it := by simpa using hb
        rcases e' with z | z
        · rw [z]; exact hel
        · rw [z]; exact hil
      rw [upd_ne (Nat.ne_of_lt hb')]
      exact (hf b hb).1
  done := by
    intro X hP hw hK hc i pins s σ H E I hf st hg
    subst hP hw hK
    obtain ⟨⟨old, he⟩, hit, hne⟩ := st
    obtain ⟨xs, hq, hx⟩ := hg
    obtain ⟨its, rv, p, hz⟩ := I.tuple hq
    obtain ⟨f0, f1, f2, f3, f4, f5⟩ := hf it (by simp)
    have hl := rv.length
    have pt : s.heap.IsTuple a its.toArray := p
    have hT : s.TypeIs (.ref e) "enumerate" := ⟨_, he, rfl⟩
    unfold pyNext
    refine wpAny_bind (wpAny_attempt (wpAny_callSpecial?_slot (name := Str.ofString "__next__") hT F.slot_enumerate_next (wpAny_call_entry F.slot_enumerate_next hT F.entry_enumerate_next ?_ (F.args_enumerate_next_1 _))))
    show wpAny _ _ (field (.ref e) 2 >>= _) _ _ _
    refine wpAny_bind (wpAny_field he rfl (x := .ref it) rfl ?_)
    refine wpAny_bind (wpAny_nextOf_tuple_end (A := X.A.in1) (by show X.A.in1.handled = none; exact I.ok.hd hc) hit pt (by simp; omega) fun h' x he' hx' => ?_)
    obtain ⟨o, ho, hcl⟩ := hx'
    refine wpAny_bind (wpAny_isInstance (T := "StopIteration") (b := true) ⟨o, ho, hcl⟩ isSubtype_stop ?_)
    exact wpAny_pure ⟨rfl, I.turned (t' := s.toks) (fun b o hb q => he' b o hb q) f0 f1 f3 f4 f5⟩
  self := fun A i s Q E st h => let ⟨⟨_, he⟩, _⟩ := st; wpAny_pyIter_enum he h
/-- enumerate of a list, a tuple -/
def iEnumQ (K : PySem.W.Frag) (ta : TA) : TI := fun σ H R => ta σ H fun vs H1 => ∃ a, vs = [.ref a] ∧ (((∃ xs, SqL K H1 a xs) ∧ R (Ite K a) H1) ∨ ((∃ xs, SqT K H1 a xs) ∧ R (IteT K a) H1))
theorem pi_enumQ {X : Cx} {e : Expr} {ta : TA} {p pos tpos : Pos} {elts : List Expr} {kk : Nat} (hg : Gl X "enumerate") (hm : X.mg "enumerate" = none) (ha : PA X [e] ta) (hs : starEach [e] X.env = [(false, eval e X.env)]) :
    PI X (.Tuple elts kk tpos) (.Call (.Name "enumerate" p) [e] [] pos) (iEnumQ X.K ta) := by
  refine ⟨fun pins s σ H R I h => Call_ (ld_blt I hg hm boot_enumerate (PyProof.Rows.callWith_type1 (thn (ha.run pos pins s σ H _ I h) fun us s1 ⟨vs, H1, I1, r1, q1⟩ => ?_) hs rfl))⟩
  obtain ⟨a, ex, q⟩ := q1
  subst ex
  cases r1 with
  | cons r rr =>
    cases rr
    cases r
    have far : ∀ {h' : Heap}, (∀ b o, s1.heap.get? b = some o → h'.get? b = some o) → ∀ b ∈ [s1.heap.objs.size + 1, s1.heap.objs.size], s1.heap.objs.size ≤ b := fun _ b hb => by
      have e' : b = s1.heap.objs.size + 1 ∨ b = s1.heap.objs.size := by simpa using hb
      omega
    rcases q with ⟨⟨xs, hq⟩, q⟩ | ⟨⟨xs, hq⟩, q⟩
    · obtain ⟨its, rv, p', hz⟩ := I1.list hq
      refine call_enumerate_list p'.isList fun h' he hit hsz hk => wpAny_pyIter_enum he ?_
      have I2 : Inv X pins σ H1 { s1 with heap := h' } := I1.kept (t' := s1.toks) hk
      exact ⟨s1.heap.objs.size + 1, [s1.heap.objs.size + 1, s1.heap.objs.size], _, _, H1, rfl, I2, turn_enum a (s1.heap.objs.size + 1) s1.heap.objs.size, ⟨⟨.none, he⟩, hit, Nat.succ_ne_self _⟩, fun b hb => I1.fpOk (far hk b hb) (I1.hok.fresh (far hk b hb)), q⟩
    · obtain ⟨its, rv, p', hz⟩ := I1.tuple hq
      have pt : s1.heap.IsTuple a its.toArray := p'
      refine enum1_begins (begins_tuple a its.toArray) pt fun h' he hit hk => wpAny_pyIter_enum he ?_
      have I2 : Inv X pins σ H1 { s1 with heap := h' } := I1.kept (t' := s1.toks) hk
      exact ⟨s1.heap.objs.size + 1, [s1.heap.objs.size + 1, s1.heap.objs.size], _, _, H1, rfl, I2, turn_enumT a (s1.heap.objs.size + 1) s1.heap.objs.size, ⟨⟨.none, he⟩, ⟨_, hit, rfl, rfl⟩, Nat.succ_ne_self _⟩, fun b hb => I1.fpOk (far hk b hb) (I1.hok.fresh (far hk b hb)), q⟩
end DL

set_option maxHeartbeats 4000000
/-! DLB: own exception classes over four built-in ones, each with one field kept by its __init__. -/
namespace DL
open PySem PySem.Spec PyProof.Rows L2
/-- the built-in base -/
inductive Bs where
  | V | L | R | O
  deriving DecidableEq
def Bs.nm : Bs → String
  | .V => "ValueError"
  | .L => "LookupError"
  | .R => "RuntimeError"
  | .O => "OverflowError"
def Bs.new : Bs → String
  | .V => "ValueError.__new__"
  | .L => "LookupError.__new__"
  | .R => "RuntimeError.__new__"
  | .O => "OverflowError.__new__"
def Bs.ini : Bs → String
  | .V => "ValueError.__init__"
  | .L => "LookupError.__init__"
  | .R => "RuntimeError.__init__"
  | .O => "OverflowError.__init__"
def Bs.tl : Bs → List Value
  | .V => [.type "ValueError", .type "Exception", .type "BaseException", .type "object"]
  | .L => [.type "LookupError", .type "Exception", .type "BaseException", .type "object"]
  | .R => [.type "RuntimeError", .type "Exception", .type "BaseException", .type "object"]
  | .O => [.type "OverflowError", .type "ArithmeticError", .type "Exception", .type "BaseException", .type "object"]
theorem Bs.facts : ∀ b : Bs, ExcBaseFacts b.nm b.new b.ini b.tl
  | .V => F.excBase_ValueError
  | .L => F.excBase_LookupError
  | .R => F.excBase_RuntimeError
  | .O => F.excBase_OverflowError
theorem Bs.pass (v : Value) : ∀ b : Bs, refuseLoop v "__setattr__" b.tl = pure ()
  | .V => F.store_ValueError.passes v
  | .L => F.store_LookupError.passes v
  | .R => F.store_RuntimeError.passes v
  | .O => F.store_OverflowError.passes v
theorem Bs.isTy (b : Bs) : typeOf (.type b.nm) = pure (.type "type") := by cases b <;> kernel_rfl
theorem Bs.boot (b : Bs) : bootBuiltins (Str.ofString b.nm) = some (.type b.nm) := by
  cases b
  · exact PyProof.Rows.Boot.«ValueError»
  · exact PyProof.Rows.Boot.«LookupError»
  · exact PyProof.Rows.Boot.«RuntimeError»
  · exact PyProof.Rows.Boot.«OverflowError»
/-- classes of one's own, then the base's -/
def refsB (b : Bs) : List Value → Bool
  | .ref _ :: r => refsB b r
  | l => l == b.tl
theorem refsB_cases {b : Bs} {l : List Value} (h : refsB b l = true) : (∃ c r, l = .ref c :: r ∧ refsB b r = true) ∨ l = b.tl := by
  cases l with
  | nil => exact .inr (beq_iff_eq.mp h)
  | cons a r => cases a <;> first | exact .inl ⟨_, _, rfl, h⟩ | exact .inr (beq_iff_eq.mp h)
theorem refsB_pass {b : Bs} (v : Value) : ∀ {l : List Value}, refsB b l = true → refuseLoop v "__setattr__" l = pure ()
  | [], h => by
    rcases refsB_cases h with ⟨c, r, e, _⟩ | e
    · cases e
    · cases b <;> cases e
  | a :: r, h => by
    rcases refsB_cases h with ⟨c, r', e, h'⟩ | e
    · cases e
      rw [refuseLoop_ref]
      exact refsB_pass v h'
    · rw [e]
      exact b.pass v
theorem refsB_has {b : Bs} (Y : String) : ∀ {l : List Value}, refsB b l = true → l.contains (.type Y) = b.tl.contains (.type Y)
  | [], h => by
    rcases refsB_cases h with ⟨c, r, e, _⟩ | e
    · cases e
    · rw [e]
  | a :: r, h => by
    rcases refsB_cases h with ⟨c, r', e, h'⟩ | e
    · cases e
      rw [List.contains_cons, refsB_has Y h']
      rfl
    · rw [e]
theorem refsB_some {b : Bs} {l : List Value} (h : refsB b l = true) : l.isEmpty = false := by
  rcases refsB_cases h with ⟨c, r, e, _⟩ | e
  · rw [e]; rfl
  · rw [e]; cases b <;> rfl
section
variable {prog : Program} {w : World} {A : Around} {E : Value → Shared → Prop} {R : Result → Shared → Prop} {hp : Heap} {g : Array GenState} {d : Drawn} {t : Nat} {os : OsState}
open Builtin Builtin.ObjectAttr in
/-- object.__setattr__ of an exception whose dict is not there yet -/
theorem osaB {b : Bs} {K : PySem.W.Frag} {fld : Str} {tk : Tok} {u : Value} {x C : Addr} {fs : Array Value} {cd : ClassData} (kin : K.In hp) (hx : hp.get? x = some { cls := .ref C, data := .fields fs })
    (hcd : PySem.W.clsIn K C = some cd) (hm : refsB b cd.mro = true) (dct : cd.hasDict = true) (no : PySem.W.findIn K (.ref C) fld = some none)
    (fin : ∀ h' tk' dx, (∀ a o, a ≠ x → hp.get? a = some o → h'.get? a = some o) → hp.objs.size ≤ dx → dx ≠ x → h'.get? x = some { cls := .ref C, dict := some dx, data := .fields fs } →
      h'.Ns1 dx (fun y => if y = fld then some u else none) → R (.ok (.ret .none)) ⟨h', g, d, tk', os⟩) :
    codeAny (model prog w) A (.call (.builtin "object.__setattr__") ⟨[.ref x, .str fld tk, u], []⟩) R ⟨hp, g, d, t, os⟩ := by
  have J : PySem.W.InstAt hp x { cls := .ref C, data := .fields fs } C none := ⟨hx, rfl, rfl, trivial⟩
  have so := F.store_object
  have em := refsB_some hm
  have obj : cd.mro.contains (.type "object") = true := (refsB_has "object" hm).trans (by cases b <;> decide +kernel)
  have nex : x ≠ hp.objs.size := Nat.ne_of_lt (Heap.lt_size hx)
  have isO : PySem.W.Looks (model prog w) hp (isInstance (.ref x) (.type "object")) true :=
    J.type.andThen (PySem.W.looks_mroIn kin (by unfold PySem.W.mroIn; rw [hcd, Option.bind_some, if_neg (by rw [em]; decide), obj]))
  refine codeAny_call_builtin so.slot.plain so.entry (@PySem.W.check_slot (model prog w) _ _ ⟨hp, g, d, t, os⟩ "object.__setattr__" "object" "__setattr__" (.ref x) [.str fld tk, u] [] _ so.kind so.split isO (so.args (.ref x) (.str fld tk) u) ?_)
  have mr : PySem.W.Looks (model prog w) hp (mroOf (.ref C)) cd.mro := (PySem.W.looks_clsIn kin hcd).andThen .now
  have lk : PySem.W.Looks (model prog w) hp (storeTaker? none) none := .now
  have cls : PySem.W.Looks (model prog w) hp (classData C) cd := PySem.W.looks_clsIn kin hcd
  rw [PySem.W.osa_eq, refuse_eq]
  refine wpAny_bind (wpAny_bind (J.type.at (wpAny_bind (mr.at ?_))))
  rw [refsB_pass _ hm]
  refine wpAny_pure (wpAny_bind (J.type.at (wpAny_bind ((PySem.W.looks_findIn kin no).at (wpAny_bind (lk.at ?_))))))
  show wpAny _ _ (storeInOwnDict (.ref x) (.ref C) (.str fld tk) fld u false) _ _ _
  obtain ⟨nm, bs, mro, ns, qn, hd, sn, sb, ab, col, del⟩ := cd
  dsimp only at dct
  subst dct
  unfold storeInOwnDict ownDictForStores
  repeat (first
    | with_reducible refine PySem.HandSPX.store_in_new ?_ ?_
    | with_reducible refine wpAny_loadPart_at hx ?_
    | with_reducible refine cls.at ?_
    | wp_step)
  · exact ⟨_, #[], _, (Heap.get?_update_ne _ _ _ _ nex.symm).trans (Heap.get?_push_at rfl rfl), rfl, fun e he => absurd he (by simp), fun _ => rfl⟩
  · intro h' tk' ns' same
    have hx1 : (hp.push { cls := .type "dict", data := .dict #[] }).get? x = some { cls := .ref C, data := .fields fs } := Heap.get?_push_of_some _ hx
    exact fin h' tk' hp.objs.size (fun a o ha ho => (same.2 a (Nat.ne_of_lt (Heap.lt_size ho))).trans ((Heap.get?_update_ne _ _ _ _ ha).trans (Heap.get?_push_of_some _ ho))) (Nat.le_refl _) nex.symm
      ((same.2 x nex).trans (Heap.get?_update_self _ hx1 rfl)) ns'
end
/-- what K says of the class -/
structure OexB (K : PySem.W.Frag) (C : Addr) (b : Bs) : Prop where
  cls : ∃ nm q N bs bm sn sub ab col dd k0 k1 k2 k3 k5, K.lookup C = some (excClassObj nm q C N bs bm true sn sub ab col dd k0 k1 k2 k3 k5 b.new) ∧ refsB b bm = true
  sa : PySem.W.findIn K (.ref C) "__setattr__" = some (some (.builtin "object.__setattr__"))
  exC : PySem.W.subIn K (.ref C) (.type "BaseException") = some true
  tyC : PySem.W.typeIn K (.ref C) = some (.type "type")
  kC : PySem.W.keepIn K (.ref C) = true
section
variable {X : Cx} {pins : List (Addr × Obj)} {σ : L2.St} {H : Hp} {s : Shared} {a C : Addr} {b : Bs} {f : Str} {y : V} {u : Value} {E : Value → Shared → Prop} {A : Around}
/-- self.f = y -/
theorem ostB {Q : Unit → Shared → Prop} (T : OexB X.K C b) (I : Inv X pins σ H s) (ea : H a = some (exo a C none)) (no : PySem.W.findIn X.K (.ref C) f = some none) (ry : RelV y u)
    (fin : ∀ dx s', H dx = none → dx ≠ a → Inv X pins σ (upd (upd H dx (exd dx [(f, y)])) a (exo a C (some dx))) s' → Q () s') : wpAny (model X.prog X.w) A (setAttr (.ref a) f u) Q E s := by
  obtain ⟨nm, q, N, bs, bm, sn, sub, ab, col, dd, k0, k1, k2, k3, k5, hC, hbm⟩ := T.cls
  have cl : PySem.W.clsIn X.K C = some { name := nm, bases := bs, mro := .ref C :: bm, ns := N, qualname := q, hasDict := true, slotNames := sn, subclasses := sub, abstract := ab, collection := col, hasDel := false } := by
    unfold PySem.W.clsIn
    rw [hC]
  obtain ⟨t1, ho⟩ := exo_at I.hok ea
  obtain ⟨hp, g, d, t, os⟩ := s
  refine PySem.W.set_plain I.kIn (ox := { cls := .ref C, dict := none, data := .fields #[.ref t1, .none, .none, .none, .bool false, .none] }) (od := none) ⟨ho, rfl, rfl, trivial⟩ T.sa ?_
  refine osaB (b := b) I.kIn ho cl (show refsB b (.ref C :: bm) = true from hbm) rfl no (fun h' tk' dx kp dn dne hx ns => ?_)
  have fr : H dx = none := I.hok.fresh dn
  have nd : ∀ {c : Addr} {o : Obj}, hp.get? c = some o → c ≠ dx := fun {c o} z => Nat.ne_of_lt (Nat.lt_of_lt_of_le (Heap.lt_size z) dn)
  have na : ∀ {c : Addr}, H c = none → c ≠ a := fun {c} n z => by
    rw [z, ea] at n
    cases n
  have U : Un X.fs [] H (upd (upd H dx (exd dx [(f, y)])) a (exo a C (some dx))) hp h' := {
    keep := fun c o z n _ _ => kp c o (na n) z
    slot := fun c o z n _ _ => ⟨o.slots, kp c o (na n) z⟩
    free := fun c o z n _ => (upd_ne (na n)).trans ((upd_ne (nd z)).trans n)
    there := fun c o z _ => by
      by_cases hc : c = a
      · exact ⟨_, by rw [hc]; exact hx⟩
      · exact ⟨o, kp c o hc z⟩
    tups := fun c xs z => (upd_ne (at_ne ea z exo_tup)).trans ((upd_ne (ne_of_none z fr)).trans z)
    frzs := fun c o v z => (upd_ne (at_ne ea z exo_frz)).trans ((upd_ne (ne_of_none z fr)).trans z)
    tbls := fun c ps z => ⟨#[], by rw [upd_ne (at_ne ea z exo_tbl), upd_ne (ne_of_none z fr), z]; simp⟩ }
  refine fin dx _ fr dne (I.un (t' := tk') U fun c o z => ?_)
  by_cases hc : c = a
  · subst hc
    rw [upd_same] at z
    cases z
    exact exo_ok hx
  rw [upd_ne hc] at z
  by_cases hd : c = dx
  · subst hd
    rw [upd_same] at z
    cases z
    exact exd_ok ns (relO_put (fs := []) ry fun _ => True.intro)
  rw [upd_ne hd] at z
  refine (I.hok c o z).stay (fun e v he zz => kp e v ?_ zz) (fun e he => (upd_ne (at_ne ea he exo_own)).trans ((upd_ne (ne_of_none he fr)).trans he)) (fun e xs he => (upd_ne (at_ne ea he exo_tup)).trans ((upd_ne (ne_of_none he fr)).trans he))
  rcases he with he | he
  · rw [he]; exact hc
  · exact at_ne ea he exo_own
/-- Base.__init__(self, ..): nothing of it is told -/
theorem iniB {us : List Value} {Q : Value → Shared → Prop} (T : OexB X.K C b) (I : Inv X pins σ H s) (ea : H a = some (exo a C none)) (hl : us.length ≤ sizeLine) (fin : ∀ s', Inv X pins σ H s' → Q .none s') :
    wpAny (model X.prog X.w) A (call (.builtin b.ini) (.ref a :: us)) Q E s := by
  obtain ⟨nm, q, N, bs, bm, sn, sub, ab, col, dd, k0, k1, k2, k3, k5, hC, hbm⟩ := T.cls
  obtain ⟨t1, ho⟩ := exo_at I.hok ea
  obtain ⟨hp, g, d, t, os⟩ := s
  refine wpAny_call (PySem.HandSPX.init_base b.facts (fun Y => refsB_has Y hbm) (I.kIn _ _ hC) ho hl fun h' t2 kp hx => ?_)
  have J := I.write (t' := t) (x := a) (e := a) (o := exo a C none) (by rw [ea]; exact True.intro) (.inl rfl) kp ⟨_, hx⟩ (exo_ok hx)
  have same : upd H a (exo a C none) = H := by
    funext c
    by_cases hc : c = a
    · rw [hc, upd_same, ea]
    · exact upd_ne hc
  rw [same] at J
  exact fin _ J
end
def tIniB (K : PySem.W.Frag) (b : Bs) (ta : TA) : TE := fun σ H Q => ta σ H fun vs H1 => ∃ (a C : Addr) (ws : List V), vs = .ref a :: ws ∧ ws.length ≤ 1000 ∧ OexB K C b ∧ H1 a = some (exo a C none) ∧ Q .non H1
def tOstB (K : PySem.W.Frag) (b : Bs) (f : Str) (to te : TE) : TS := fun D σ H => te σ H fun y H1 => to σ H1 fun x H2 => ∃ a C : Addr, x = .ref a ∧ OexB K C b ∧ PySem.W.findIn K (.ref C) f = some none ∧
  H2 a = some (exo a C none) ∧ ∀ dx, H2 dx = none → dx ≠ a → D.nx σ (upd (upd H2 dx (exd dx [(f, y)])) a (exo a C (some dx)))
section
variable {X : Cx} {b : Bs} {o e : Expr} {es : List Expr} {to te : TE} {ta : TA} {f : Str} {p p' p1 p2 pos : Pos}
theorem pe_iniB {nm : Str} {pl : Sem Bool} (en : nm = Str.ofString b.nm) (hg : Gl X nm) (hm : X.mg nm = none) (vV : PySem.W.findCls X.K (.type b.nm) (.type "type") "__init__" = some (.val (.builtin b.ini))) (ha : PA X (e :: es) ta)
    (hc : eval (.Call (.Attribute (.Name nm p1) "__init__" p2) (e :: es) [] pos) X.env = (do
      let ov ← eval (.Name nm p1) X.env
      standAt p2.atName
      let (fn, first) ← holding [ov] (getMethod ov "__init__" pl)
      callWith pos fn first (backTo pos (starEach (e :: es) X.env)) (backToKw pos (keywordEach [] X.env))))
    (he : starEach (e :: es) X.env = (false, eval e X.env) :: starEach es X.env) (hpl : (backTo pos (starEach es X.env)).any (·.1) = false) :
    PE X (.Call (.Attribute (.Name nm p1) "__init__" p2) (e :: es) [] pos) (tIniB X.K b ta) := by
  refine ⟨fun pins s σ H Q I h => ?_⟩
  refine PySem.W.methodCall_KW (ld_blt I hg hm (by rw [en]; exact b.boot) ?_ (by rw [en]; cases b <;> decide) (by rw [en]; cases b <;> decide)) hc
  obtain ⟨m, fr⟩ := I.fr
  refine PySem.W.method_type fr I.ok.mod.kin b.isTy (by cases b <;> decide +kernel) vV (by cases b <;> decide +kernel) ?_
  show wpAny _ _ (callWith pos (Value.builtin b.ini) [] (backTo pos (starEach (e :: es) X.env)) []) _ _ _
  refine PyProof.Rows.callWith_method1 (thn (ha.run pos pins _ σ H _ (I.tok _) h) fun us s1 ⟨vs, H1, I1, r1, a, C, ws, ev, hl, T, ea, q⟩ => ?_) he hpl
  subst ev
  cases r1 with
  | @cons _ u0 _ ur ra rr =>
    obtain rfl : u0 = Value.ref a := ra
    have fit : ur.length ≤ sizeLine := by
      rw [← Paired.length rr, sizeLine_eq]
      omega
    exact iniB T I1 ea fit fun s' J => ⟨.non, H1, J, rfl, q⟩
theorem ps_ostB (ho : PE X o to) (he : PE X e te) (hs : swapsWith e (some (.Attribute o f p')) pos.line X.env = pure false := by rfl) : PS X (.Assign [.Attribute o f p'] e pos) (tOstB X.K b f to te) := by
  refine ⟨fun pins s σ H D I h => ?_⟩
  refine plainObj_wpAny_Assign_Attribute (thn (he.run pins s σ H _ I h) fun v s1 ⟨y, H1, I1, r1, q1⟩ => thn (ho.run pins s1 σ H1 _ I1 q1) fun u s2 ⟨x, H2, I2, r2, a, C, ex, T, no, ea, q⟩ => ?_) hs
  subst ex
  obtain rfl : u = Value.ref a := r2
  exact ostB T I2 ea no r1 fun dx s' n ne J => ⟨σ, _, J, q dx n ne⟩
theorem pmkB {CX : CXT} {x : Str} {C fI : Addr} {k : Nat} {fd : FuncData} {ps : List Str} {sp : Sp} {ds : List Value} {dvs : List V} (T : OexB X.K C b) (iC : PySem.W.findIn X.K (.ref C) "__init__" = some (some (.ref fI))) (tI : PySem.W.typeIn X.K (.ref fI) = some (.type "function"))
    (Fn : FnOk X.prog X.w X.K X.mg X.base CX k fI fd ps sp) (room : Room (k + 1) X.A) (bd : Binds X.K fd ps ds) (rd : Vals dvs ds) (pa : Passes CX X (fun _ _ _ => False)) (hg : Gl X x) (hm : X.mg x = some (.ref C)) (ha : PA X (e :: es) ta)
    (hdb : (x == ("__debug__" : Str)) = false) (he : starEach (e :: es) X.env = (false, eval e X.env) :: starEach es X.env) (hpl : (backTo pos (starEach es X.env)).any (·.1) = false) :
    PMk X (.Call (.Name x p) (e :: es) [] pos) (tMkO C sp dvs ta) := by
  intro pins s σ H Q I h
  obtain ⟨nm, q, N, bs, bm, sn, sub, ab, col, dd, k0, k1, k2, k3, k5, hC, hbm⟩ := T.cls
  refine wpAny_Call_Name_kw (ld_glob I hg hm ?_ hdb)
  refine PySem.W.callWith_K (h₀ := X.base) I.ok.mod.kin T.kC (thn (ha.run pos pins s σ H _ I h) fun us s1 ⟨vs, H1, I1, r1, hz, q1⟩ => ⟨I1.kIn, ?_⟩) he hpl
  show wpAny _ _ (call (.ref C) us) _ _ _
  obtain ⟨hp, g, dr, tk, os⟩ := s1
  let n0 := hp.objs.size + 1
  have up : hp.objs.size ≤ hp.objs.size + 1 := Nat.le_succ _
  have new : H1 (hp.objs.size + 1) = none := I1.hok.fresh up
  have want := q1 (hp.objs.size + 1) new
  have keep : ∀ c o, hp.get? c = some o → ((hp.push (PySem.W.kdv_tup us)).push (PySem.HandSPX.excO C hp.objs.size)).get? c = some o := fun c o z => Heap.get?_push_of_some _ (Heap.get?_push_of_some _ z)
  have there : ((hp.push (PySem.W.kdv_tup us)).push (PySem.HandSPX.excO C hp.objs.size)).get? (hp.objs.size + 1) = some (PySem.HandSPX.excO C hp.objs.size) := by heap_get
  have J : Inv X pins σ (upd H1 (hp.objs.size + 1) (exo (hp.objs.size + 1) C none)) ⟨(hp.push (PySem.W.kdv_tup us)).push (PySem.HandSPX.excO C hp.objs.size), g, dr, tk, os⟩ :=
    I1.laid (t' := tk) (a := hp.objs.size + 1) (o := exo (hp.objs.size + 1) C none) (h' := (hp.push (PySem.W.kdv_tup us)).push (PySem.HandSPX.excO C hp.objs.size)) keep up (exo_ok there)
  have rv : Vals (V.ref (hp.objs.size + 1) :: (vs ++ dvs)) (Value.ref (hp.objs.size + 1) :: (us ++ ds)) := .cons rfl (r1.append rd)
  have len : (Value.ref (hp.objs.size + 1) :: us ++ ds).length = ps.length := by
    have z := rv.length
    rw [Fn.len _ _ _ _ want] at z
    exact z.symm
  have fit : us.length ≤ sizeLine := by
    rw [← Paired.length r1, sizeLine_eq]
    omega
  refine wpAny_call (PySem.HandSPX.call_own b.facts (fun Y => refsB_has Y hbm) (I1.kIn _ _ hC) (PySem.W.looks_findIn I1.kIn iC) (fun self => PySem.W.bind_fn I1.kIn self tI) fit (codeAny_mono
    (Fn.run _ X.stack _ _ ⟨Value.ref (hp.objs.size + 1) :: us, []⟩ (Value.ref (hp.objs.size + 1) :: (us ++ ds)) _ _ (fun _ _ _ => False) (room.make C us []) (J.env0.make C us []) (bd _ (Value.ref (hp.objs.size + 1) :: us) J.kIn len) rv want) fun r s' hr => ?_))
  cases r with
  | error er => exact pa pins σ _ _ er s' J hr
  | ok fl =>
    cases fl with
    | ret u =>
      obtain ⟨v, H2, os2, bare2, un2, hok2, ru, ev, d, fs, ea, ed, hd1, q2⟩ := hr
      subst ev
      obtain ⟨h2, g2, d2, t2, os'⟩ := s'
      exact ⟨ru, mk_end (raises_own T.exC T.tyC) I1 up keep un2 hok2 os2 bare2 ea ed hd1 q2⟩
    | next => exact False.elim hr
    | brk => exact False.elim hr
    | cont => exact False.elim hr
end
end DL

set_option maxHeartbeats 4000000
/-! DLX: own exception classes with one field: facts, the making. -/
namespace DL
open PySem PySem.Spec PyProof.Rows L2

def baseOf (n : String) : Bs := if n = "LookupError.__new__" then .L else if n = "RuntimeError.__new__" then .R else if n = "OverflowError.__new__" then .O else .V
/-- the base of the class at C -/
def bsOf (K : PySem.W.Frag) (C : Addr) : Bs := match K.lookup C with
  | some ⟨_, _, _, sl⟩ => (match sl.toList with
    | [_, _, _, _, some (.builtin n), _] => baseOf n
    | _ => .V)
  | _ => .V
def oexB (K : PySem.W.Frag) (C : Addr) : Bool := match K.lookup C with
  | some ⟨.type "type", _, .cls cd, sl⟩ => (match cd.mro, sl.toList with
    | .ref C' :: bm, [_, _, _, _, some (.builtin n), _] => C' == C && decide (n = (bsOf K C).new) && !cd.hasDel && cd.hasDict && refsB (bsOf K C) bm
    | _, _ => false)
  | _ => false
theorem oexB_ok {K : PySem.W.Frag} {C : Addr} (q : oexB K C = true) :
    ∃ nm qn N bs bm sn sub ab col dd k0 k1 k2 k3 k5, K.lookup C = some (excClassObj nm qn C N bs bm true sn sub ab col dd k0 k1 k2 k3 k5 (bsOf K C).new) ∧ refsB (bsOf K C) bm = true := by
  unfold oexB at q
  generalize bsOf K C = b at *
  split at q
  · rename_i dd cd sl ho
    split at q
    · rename_i C' bm k0 k1 k2 k3 n k5 hm hs
      simp only [Bool.and_eq_true, beq_iff_eq, Bool.not_eq_true', decide_eq_true_eq] at q
      obtain ⟨⟨⟨⟨rfl, rfl⟩, hdel⟩, hdct⟩, hr⟩ := q
      obtain ⟨nm, bs, mro, ns, qn, hd, sn, sub, ab, col, del⟩ := cd
      dsimp only at hm hdel hdct
      subst hm hdel hdct
      have es : sl = #[k0, k1, k2, k3, some (.builtin b.new), k5] := by
        obtain ⟨l⟩ := sl
        simp only at hs
        rw [hs]
      subst es
      exact ⟨nm, qn, ns, bs, bm, sn, sub, ab, col, dd, k0, k1, k2, k3, k5, ho, hr⟩
    · cases q
  · cases q
/-- what K says of the class at C, whose __init__ stands at fI and keeps its argument as f -/
structure XcK (K : PySem.W.Frag) (C fI : Addr) (f : Str) : Prop where
  T : OexB K C (bsOf K C)
  iC : PySem.W.findIn K (.ref C) "__init__" = some (some (.ref fI))
  tI : PySem.W.typeIn K (.ref fI) = some (.type "function")
  no : PySem.W.findIn K (.ref C) f = some none
  xf : XfC K C
  ex : ExcC K C
  me : PySem.W.exmOne K (.ref C) (.ref C) = some true
  vV : PySem.W.findCls K (.type (bsOf K C).nm) (.type "type") "__init__" = some (.val (.builtin (bsOf K C).ini))
def xcB (K : PySem.W.Frag) (C fI : Addr) (f : Str) : Bool :=
  (oexB K C && decide (PySem.W.findIn K (.ref C) "__setattr__" = some (some (.builtin "object.__setattr__"))) && decide (PySem.W.subIn K (.ref C) (.type "BaseException") = some true) &&
    decide (PySem.W.typeIn K (.ref C) = some (.type "type")) && PySem.W.keepIn K (.ref C)) &&
  (decide (PySem.W.findIn K (.ref C) "__init__" = some (some (.ref fI))) && decide (PySem.W.typeIn K (.ref fI) = some (.type "function")) && decide (PySem.W.findIn K (.ref C) f = some none) && xfB K C) &&
  (decide (PySem.W.findIn K (.ref C) "__class__" = some (some (.builtin "object.__class__"))) && decide (PySem.W.specialIn K (.builtin "object.__class__") "__get__" = some (some (.builtin "getset_descriptor.__get__"))) &&
    decide (PySem.W.takesIn K (.builtin "object.__class__") = some true) && decide (PySem.W.mroIn K C (.type "object") = some true)) &&
  (decide (PySem.W.exmOne K (.ref C) (.ref C) = some true) && (match PySem.W.findCls K (.type (bsOf K C).nm) (.type "type") "__init__" with
    | some (.val (.builtin n)) => decide (n = (bsOf K C).ini)
    | _ => false))
theorem xcB_ok {K : PySem.W.Frag} {C fI : Addr} {f : Str} (h : xcB K C fI f = true) : XcK K C fI f := by
  unfold xcB at h
  simp only [Bool.and_eq_true, decide_eq_true_eq] at h
  obtain ⟨⟨⟨⟨⟨⟨⟨a1, a2⟩, a3⟩, a4⟩, a5⟩, ⟨⟨b1, b2⟩, b3⟩, b4⟩, ⟨⟨c1, c2⟩, c3⟩, c4⟩, d1, d2⟩ := h
  have xf := xfB_ok b4
  have d3 : PySem.W.findCls K (.type (bsOf K C).nm) (.type "type") "__init__" = some (.val (.builtin (bsOf K C).ini)) := by
    split at d2
    · rename_i n e
      rw [e, of_decide_eq_true d2]
    · cases d2
  exact ⟨⟨oexB_ok a1, a2, a3, a4, a5⟩, b1, b2, b3, xf, ⟨xf.ga, xf.gg, xf.exC, xf.hdC, c1, c2, c3, c4⟩, d1, d3⟩
/-- the promise of __init__(self, y) -/
def spInit (K : PySem.W.Frag) (C : Addr) (f : Str) : Sp := fun vs H Q _ => ∃ (a : Addr) (v : V), vs = [.ref a, v] ∧ OexB K C (bsOf K C) ∧ PySem.W.findIn K (.ref C) f = some none ∧ H a = some (exo a C none) ∧
  ∀ dx, H dx = none → dx ≠ a → Q .non (upd (upd H dx (exd dx [(f, v)])) a (exo a C (some dx)))
section
variable {P : Program} {w : World} {K : PySem.W.Frag} {mg : Str → Option Value} {base : Heap} {fI C : Addr} {fd : FuncData} {x ql s y f m nm : Str} {pr : Arguments} {sc : Scope} {p1 p2 p3 p4 p5 p6 p7 p8 p9 p10 : Pos} {j1 : Nat}
theorem init_ok (en : nm = Str.ofString (bsOf K C).nm) (hm : mg nm = none) (hg : ∀ X : Cx, X.env.scope = sc → Gl X nm) (vV : PySem.W.findCls K (.type (bsOf K C).nm) (.type "type") "__init__" = some (.val (.builtin (bsOf K C).ini))) (hd1 : (s == ("__debug__" : Str)) = false) (hd2 : (y == ("__debug__" : Str)) = false) (hd3 : (s == ("__classdict__" : Str)) = false) (hd4 : (y == ("__classdict__" : Str)) = false) (S : FnScope [s, y] [s, y] sc) {pl : PySem.Env → Sem Bool}
    (hc : ∀ env : PySem.Env, eval (.Call (.Attribute (.Name nm p1) "__init__" p2) [.Name s p3, .Constant (.str m) j1 p4] [] p5) env = (do
      let ov ← eval (.Name nm p1) env
      standAt p2.atName
      let (g, first) ← holding [ov] (getMethod ov "__init__" (pl env))
      callWith p5 g first (backTo p5 (starEach [.Name s p3, .Constant (.str m) j1 p4] env)) (backToKw p5 (keywordEach [] env))))
    (F : FunD K x ql pr [.Expr (.Call (.Attribute (.Name nm p1) "__init__" p2) [.Name s p3, .Constant (.str m) j1 p4] [] p5) p6, .Assign [.Attribute (.Name s p7) f p8] (.Name y p9) p10] sc [] [] fI fd) :
    FnOk P w K mg base CX0 1 fI fd [s, y] (spInit K C f) := by
  refine F.ok S (fun vs H Q E h => ?_) (fun cdv A outer s0 H vs Q E hr h => ⟨tSeq (tDrop (tIniB K (bsOf K C) (tCons (tVar 0) (tCons (tC (.str m)) tNil)))) (tOstB K (bsOf K C) f (tVar 0) (tVar 1)), PSs.nox ?_, ?_⟩)
  · obtain ⟨a, v, rfl, _⟩ := h
    rfl
  · have vis : ∀ z ∈ [s, y], Vis (cxOf CX0 P w K mg base [s, y] ql sc fI cdv A outer s0 H E).nox.env.scope z := fun z hz => by
      rcases S.par z hz with h | h
      · exact .inl h
      · exact .inr (.inl h)
    have v0 : ∀ pos, PE (cxOf CX0 P w K mg base [s, y] ql sc fI cdv A outer s0 H E).nox (.Name s pos) (tVar 0) := fun pos => pe_var rfl (vis s List.mem_cons_self) hd1 hd3
    have v1 : PE (cxOf CX0 P w K mg base [s, y] ql sc fI cdv A outer s0 H E).nox (.Name y p9) (tVar 1) := pe_var rfl (vis y (List.mem_cons_of_mem _ List.mem_cons_self)) hd2 hd4
    exact pss_cons (ps_expr (pe_iniB en (hg _ rfl) hm vV (pa_cons (v0 p3) (pa_cons pe_str pa_nil)) (hc _) rfl rfl)) (pss_one (ps_ostB (v0 p7) v1))
  · obtain ⟨a, v, rfl, T, no, ha, q⟩ := h
    refine ⟨.ref a, rfl, a, C, [.str m], rfl, by show 1 ≤ 1000; decide, T, ha, ?_⟩
    exact ⟨v, rfl, .ref a, rfl, a, C, rfl, T, no, ha, q⟩
end
end DL

set_option maxHeartbeats 4000000
/-! DL6: what passes the look does what it means: expressions. -/
namespace DL
open PySem PySem.Spec PyProof.Rows L2

def spD (K : PySem.W.Frag) (k : Nat) (g : List D → Store → Rs D) : Sp := fun vs H Q E =>
  ∃ (m : Nat → Addr) (S : Store) (ds : List D), ds.length = k ∧ Sim K H m S ∧ RepL K H m S.length ds vs ∧ Post K E (GE K Q) H m S (g ds S)
/-- the bundle: the table, the names, the defs' meanings, calls that are left, the wish about exceptions, the scope, the written part, the module's names -/
structure Bd where
  T : Tab
  N : List Str
  F : Fns
  n : Nat
  W : WX
  sc : Scope
  K : PySem.W.Frag
  mg : Str → Option Value
/-- what the table says of the module -/
structure TabOk (T : Tab) (K : PySem.W.Frag) (mg : Str → Option Value) : Prop where
  free : ∀ x ∈ T.free, mg x = none
  con : ∀ p ∈ T.con, ∃ u v, mg p.1 = some u ∧ RelV v u ∧ ∀ H m L, Rep K H m L p.2 v
  isx : ∀ q ∈ T.isx, ∀ C : Addr, PySem.W.nsIn K mainGlobals q.1 = some (some (.ref C)) → PySem.W.kitOne K (.ref C) (.type q.2.1) = some q.2.2
  exc : ∀ p ∈ T.exc, ∃ C fI : Addr, mg p.1 = some (.ref C) ∧ PySem.W.nsIn K mainGlobals p.1 = some (some (.ref C)) ∧ XcK K C fI p.2
structure Good (b : Bd) (X : Cx) : Prop where
  N : X.N = b.N
  nd : X.N.Nodup
  calm : X.calm = true
  sc : X.env.scope = b.sc
  room : Room b.n X.A
  gds : X.A.guards = some []
  takes : Takes X b.W
  K : X.K = b.K
  mg : X.mg = b.mg
  fn : ∀ f x k, b.T.fn[f]? = some (x, k) → ∃ (a : Addr) (fd : FuncData) (ps : List Str), ps.length = k ∧ X.mg x = some (.ref a) ∧ PySem.W.keepIn X.K (.ref a) = true ∧ Binds X.K fd ps [] ∧ FnG X.prog X.w X.K X.mg X.base b.n a fd ps (spD X.K k (b.F f))
def SE (b : Bd) (x : Ex) (e : Expr) : Prop :=
  (∃ t, (∀ X, Good b X → PE X e t) ∧ DenE b.K b.W t (ev b.F x)) ∧ (notIf x = true → ∃ t, (∀ X, Good b X → PT X e t) ∧ DenT b.K b.W t fun ρ S => tr (ev b.F x ρ S))
def SA (b : Bd) (xs : List Ex) (es : List Expr) : Prop := ∃ t, (∀ X, Good b X → PA X es t) ∧ DenA b.K b.W t (evs b.F xs)

/-! ### shapes -/
structure Pl (e : Expr) : Prop where
  star : ∀ es env, starEach (e :: es) env = (false, eval e env) :: starEach es env
  fold : ∀ env v, foldedSetIterable e env v = pure v
  ix : ∀ o i, subscripted e false o i = operate [o, i] (getItem o i)
  mark : ∀ op, behindInMarks op e = false
  attr : ∀ f env w, attributeBase e f env w = w
theorem pl_of {e : Expr} (h : shape e = true) : Pl e := by
  cases e with
  | Call f as ks p =>
    cases as with
    | nil => cases f <;> cases h
    | cons a as =>
      cases ks with
      | nil => cases f <;> first | exact ⟨fun _ _ => rfl, fun _ _ => rfl, fun _ _ => rfl, fun _ => rfl, fun _ _ _ => rfl⟩ | cases h
      | cons => cases f <;> cases h
  | Name => exact ⟨fun _ _ => rfl, fun _ _ => rfl, fun _ _ => rfl, fun _ => rfl, fun _ _ _ => rfl⟩
  | Constant => exact ⟨fun _ _ => rfl, fun _ _ => rfl, fun _ _ => rfl, fun _ => rfl, fun _ _ _ => rfl⟩
  | Tuple => exact ⟨fun _ _ => rfl, fun _ _ => rfl, fun _ _ => rfl, fun _ => rfl, fun _ _ _ => rfl⟩
  | List => exact ⟨fun _ _ => rfl, fun _ _ => rfl, fun _ _ => rfl, fun _ => rfl, fun _ _ _ => rfl⟩
  | BinOp => exact ⟨fun _ _ => rfl, fun _ _ => rfl, fun _ _ => rfl, fun _ => rfl, fun _ _ _ => rfl⟩
  | Compare => exact ⟨fun _ _ => rfl, fun _ _ => rfl, fun _ _ => rfl, fun _ => rfl, fun _ _ _ => rfl⟩
  | UnaryOp => exact ⟨fun _ _ => rfl, fun _ _ => rfl, fun _ _ => rfl, fun _ => rfl, fun _ _ _ => rfl⟩
  | BoolOp => exact ⟨fun _ _ => rfl, fun _ _ => rfl, fun _ _ => rfl, fun _ => rfl, fun _ _ _ => rfl⟩
  | IfExp => exact ⟨fun _ _ => rfl, fun _ _ => rfl, fun _ _ => rfl, fun _ => rfl, fun _ _ _ => rfl⟩
  | Subscript => exact ⟨fun _ _ => rfl, fun _ _ => rfl, fun _ _ => rfl, fun _ => rfl, fun _ _ _ => rfl⟩
  | Dict => exact ⟨fun _ _ => rfl, fun _ _ => rfl, fun _ _ => rfl, fun _ => rfl, fun _ _ _ => rfl⟩
  | ListComp => exact ⟨fun _ _ => rfl, fun _ _ => rfl, fun _ _ => rfl, fun _ => rfl, fun _ _ _ => rfl⟩
  | _ => cases h
theorem chk_shape {T : Tab} {N : List Str} {sc : Scope} {x : Ex} {e : Expr} (h : chk T N sc x e = true) : shape e = true := by
  cases x <;> (unfold chk at h; (repeat' split at h)) <;> first | rfl | (exact absurd h Bool.false_ne_true) | exact ((Bool.and_eq_true _ _).mp h).2

section
variable {b : Bd} {X : Cx}
theorem Good.units (g : Good b X) : X.A.units + 64 < cLine := g.room.units
theorem vis_of {x : Str} (g : Good b X) (h : vis b.sc x = true) : Vis X.env.scope x := by
  rw [g.sc]
  unfold vis at h
  unfold Vis
  split at h
  · exact .inl (by assumption)
  · exact .inr (.inl (by assumption))
  · exact .inr (.inr (by assumption))
  · cases h
theorem glob_of {x : Str} (h : glob b.sc x = true) : (∀ X, Good b X → Gl X x) ∧ (x == ("__debug__" : Str)) = false ∧ x ≠ "__name__" := by
  unfold glob at h
  simp only [Bool.and_eq_true, Bool.not_eq_true', decide_eq_false_iff_not] at h
  obtain ⟨⟨h1, h2⟩, h3⟩ := h
  refine ⟨fun X g => ?_, h2, h3⟩
  show X.env.scope.names.lookup x = some .globalImplicit
  rw [g.sc]
  split at h1
  · assumption
  · cases h1

/-- the test of an expression by its value's truth -/
theorem se_of {x : Ex} {e : Expr} {t : TE} (h : ∀ X, Good b X → PE X e t) (d : DenE b.K b.W t (ev b.F x)) (he : ∀ env whole, isTrue e env whole = (do let v ← whole; standAt e.pos; holding [v] (truthy v))) : SE b x e := by
  refine ⟨⟨t, h, d⟩, fun _ => ⟨fun σ H Q => t σ H fun x H' => ∃ k, TruV b.K x H' k ∧ Q k H', fun X g => by rw [← g.K]; exact pt_truth (h X g) (he _), ?_⟩⟩
  intro σ H m S ρ Q s r p
  refine d.bind GT.mono s r p fun dv S1 v H1 m1 g1 s1 r1 rv p1 => ?_
  cases e1 : truth S1 dv with
  | none => simp only [e1] at p1; exact p1.elim
  | some k =>
    simp only [e1] at p1
    exact ⟨k, truth_ok s1 rv e1, p1 H1 m1 (.refl _ _ _) s1⟩
theorem se_var {i : Nat} {x : Str} {pos : Pos} (h : chk b.T b.N b.sc (.var i) (.Name x pos) = true) : SE b (.var i) (.Name x pos) := by
  unfold chk at h
  simp only [Bool.and_eq_true, Bool.not_eq_true', decide_eq_true_eq] at h
  obtain ⟨⟨⟨h1, h2⟩, h3⟩, h4⟩ := h
  refine se_of (fun X g => pe_var (i := i) (by rw [g.N]; exact h1) (vis_of g h2) h3 h4) ?_ (fun _ _ => rfl)
  intro σ H m S ρ Q s r p
  simp only [ev] at p
  split at p
  · rename_i d ed
    obtain ⟨v, e1, rv⟩ := r.get i d ed
    exact ⟨v, e1, Fin.at p s rv⟩
  · exact p.elim
theorem den_const {d : D} {v : V} (h : ∀ H m L, Rep b.K H m L d v) {x : Ex} (hx : ∀ ρ S, ev b.F x ρ S = .ok d S) : DenE b.K b.W (tC v) (ev b.F x) := by
  intro σ H m S ρ Q s r p
  rw [hx] at p
  exact Fin.at p s (h _ _ _)
theorem se_cst {d : D} {e : Expr} (h : chk b.T b.N b.sc (.cst d) e = true) : SE b (.cst d) e := by
  unfold chk at h
  split at h
  · rw [of_decide_eq_true h]
    exact se_of (fun _ _ => pe_int) (fun {σ H m S ρ Q} s r p => Fin.at p s rfl) (fun _ _ => rfl)
  · rw [eq_of_beq h]
    exact se_of (fun _ _ => pe_bl) (fun {σ H m S ρ Q} s r p => Fin.at p s rfl) (fun _ _ => rfl)
  · rw [of_decide_eq_true h]
    exact se_of (fun _ _ => pe_str) (fun {σ H m S ρ Q} s r p => Fin.at p s rfl) (fun _ _ => rfl)
  · exact se_of (fun _ _ => pe_non) (fun {σ H m S ρ Q} s r p => Fin.at p s rfl) (fun _ _ => rfl)
  · cases h
theorem se_glb {x : Str} {d : D} {e : Expr} (tok : TabOk b.T b.K b.mg) (h : chk b.T b.N b.sc (.glb x d) e = true) : SE b (.glb x d) e := by
  unfold chk at h
  split at h
  · simp only [Bool.and_eq_true, decide_eq_true_eq, List.any_eq_true] at h
    obtain ⟨⟨rfl, h2⟩, ⟨y, d'⟩, h3, h4, h5⟩ := h
    obtain ⟨u, v, h6, h7, h8⟩ := tok.con _ h3
    have h9 := D.same_eq h5
    obtain ⟨g1, g2, _⟩ := glob_of h2
    subst h9
    have h4' : y = x := h4
    subst h4'
    exact se_of (fun X g => pe_glob (g1 X g) (by rw [g.mg]; exact h6) h7 g2) (den_const h8 fun _ _ => rfl) (fun _ _ => rfl)
  · cases h

theorem se_tyc {n : String} {e : Expr} (tok : TabOk b.T b.K b.mg) (h : chk b.T b.N b.sc (.tyc n) e = true) : SE b (.tyc n) e := by
  unfold chk at h
  split at h
  · simp only [Bool.and_eq_true, decide_eq_true_eq] at h
    obtain ⟨⟨⟨rfl, h2⟩, h3⟩, h4⟩ := h
    obtain ⟨g1, g2, g3⟩ := glob_of h2
    exact se_of (fun X g => pe_bltn (v := .ty n) (g1 X g) (by rw [g.mg]; exact tok.free _ h3) h4 rfl g3 g2) (den_const (d := .ty n) (fun _ _ _ => (rfl : V.ty n = V.ty n)) fun _ _ => by rw [ev]) (fun _ _ => rfl)
  · cases h

theorem se_dct {kvs : List (Key × D)} {e : Expr} (h : chk b.T b.N b.sc (.dct kvs) e = true) : SE b (.dct kvs) e := by
  unfold chk at h
  split at h
  · refine se_of (t := tDNewK) (fun X g => pe_dnewK) ?_ (fun _ _ => rfl)
    intro σ H m S ρ Q s r p
    simp only [ev] at p
    intro q hq
    exact p _ _ (put m S.length q) (.cell hq) (s.cellNew hq ⟨[], upd_same, rfl⟩) ⟨by rw [List.length_append]; exact Nat.lt_succ_self _, by rw [put_new]⟩
  · rename_i j kj pj l kl pl pos i k
    simp only [Bool.and_eq_true, decide_eq_true_eq] at h
    obtain ⟨rfl, rfl⟩ := h
    refine se_of (t := tDisp [(tC (.int i), tC (.int k))]) (fun X g => pe_disp (pps_cons pe_int pe_int pps_nil) rfl rfl (by simp) (by show 1 ≤ 15; decide)) ?_ (fun _ _ => rfl)
    intro σ H m S ρ Q s r p
    simp only [ev] at p
    intro q hq
    refine ⟨upd_same, [(.inl i, .int k)], rfl, by show 1 ≤ 15; decide, ?_⟩
    rw [upd_upd]
    exact p _ _ (put m S.length q) (.cell hq) (s.cellNew hq ⟨[(.inl i, .int k)], upd_same, _, _, rfl, rfl, rfl⟩) ⟨by rw [List.length_append]; exact Nat.lt_succ_self _, by rw [put_new]⟩
  · cases h

/-! ### displays -/
theorem sa_nil : SA b [] [] := ⟨_, fun _ _ => pa_nil, fun {σ H m S ρ Q} s r p => p [] H m (.refl _ _ _) s rfl⟩
theorem sa_cons {x : Ex} {xs : List Ex} {e : Expr} {es : List Expr} (pl : Pl e) (h : SE b x e) (hs : SA b xs es) : SA b (x :: xs) (e :: es) := by
  obtain ⟨⟨t, pe, d⟩, _⟩ := h
  obtain ⟨u, pa, ds⟩ := hs
  refine ⟨_, fun X g => pa_cons (pe X g) (pa X g) (pl.star _ _), ?_⟩
  intro σ H m S ρ Q s r p
  refine d.bind GA.mono s r p fun a S1 v H1 m1 g1 s1 r1 rv p1 => ?_
  refine ds.bind GA.mono s1 r1 p1 fun as S2 vs H2 m2 g2 s2 r2 rvs p2 => ?_
  exact p2 (v :: vs) H2 m2 (.refl _ _ _) s2 ⟨v, vs, rfl, g2.rep rv, rvs⟩
theorem se_tup {xs : List Ex} {es : List Expr} {k : Nat} {pos : Pos} (h : SA b xs es) : SE b (.tup xs) (.Tuple es k pos) := by
  obtain ⟨t, pa, d⟩ := h
  refine se_of (fun X g => pe_tup (pa X g)) ?_ (fun _ _ => rfl)
  intro σ H m S ρ Q s r p
  refine d.bind GE.mono s r p fun as S1 vs H1 m1 g1 s1 r1 rvs p1 => ?_
  split at p1
  · rename_i hl
    refine ⟨by rw [← rvs.length, ← line_eq]; exact hl, fun q hq => ?_⟩
    exact Fin.tup p1 s1 rvs hq
  · exact p1.elim
theorem se_lst {xs : List Ex} {es : List Expr} {pos : Pos} (h : SA b xs es) : SE b (.lst xs) (.List es pos) := by
  obtain ⟨t, pa, d⟩ := h
  refine se_of (fun X g => pe_lst (pa X g)) ?_ (fun _ _ => rfl)
  intro σ H m S ρ Q s r p
  refine d.bind GE.mono s r p fun as S1 vs H1 m1 g1 s1 r1 rvs p1 => ?_
  split at p1
  · rename_i hl
    refine ⟨by rw [← rvs.length, ← line_eq]; exact hl, fun q hq => ?_⟩
    exact Fin.lst p1 s1 rvs hq
  · exact p1.elim

/-! ### operators -/
theorem den_op {o : Op} {x y : Ex} {ta tb : TE} (da : DenE b.K b.W ta (ev b.F x)) (db : DenE b.K b.W tb (ev b.F y)) : DenE b.K b.W (tOp (ruleOf b.K o) ta tb) (ev b.F (.op o x y)) := by
  intro σ H m S ρ Q s r p
  refine da.bind GE.mono s r p fun x S1 v H1 m1 g1 s1 r1 rv p1 => ?_
  refine db.bind GE.mono s1 r1 p1 fun y S2 w H2 m2 g2 s2 r2 rw p2 => ?_
  exact lift_post p2 fun d S' e f => opF_ok o s2 (g2.rep rv) rw e f
theorem se_bin {o : Op} {q : Operator} {x y : Ex} {l r : Expr} {pos : Pos} (h : o.bin = some q) (ha : SE b x l) (hb : SE b y r) : SE b (.op o x y) (.BinOp l q r pos) := by
  obtain ⟨⟨ta, pa, da⟩, _⟩ := ha
  obtain ⟨⟨tb, pb, db⟩, _⟩ := hb
  exact se_of (fun X g => by rw [← g.K]; exact pe_op (op_bin h) (pa X g) (pb X g)) (den_op da db) (fun _ _ => rfl)
/-- a test of a comparison -/
theorem den_test {x : Ex} {t : TE} (d : DenE b.K b.W t (ev b.F x)) (hb : ∀ {ρ S y S1}, ev b.F x ρ S = .ok y S1 → ∃ k, y = .bl k) : DenT b.K b.W (tTest t) fun ρ S => tr (ev b.F x ρ S) := by
  intro σ H m S ρ Q s r p
  refine d s r ?_
  have p' : Post b.K (WE b.W σ) (GT b.K Q) H m S (tr (ev b.F x ρ S)) := p
  cases e : ev b.F x ρ S with
  | ok y S1 =>
    rw [e] at p'
    obtain ⟨k, rfl⟩ := hb e
    intro v H1 m1 g1 s1 rv
    exact ⟨k, rv, p' H1 m1 g1 s1⟩
  | exc c fs S1 => rw [e] at p'; exact p'
  | bad => rw [e] at p'; exact p'
theorem bind_ok {α β : Type} {x : Rs α} {f : α → Store → Rs β} {b : β} {S : Store} (h : x.bind f = .ok b S) : ∃ a S1, x = .ok a S1 ∧ f a S1 = .ok b S := by
  cases x with
  | ok a S1 => exact ⟨a, S1, rfl, h⟩
  | exc c fs S1 => cases h
  | bad => cases h
theorem lift_ok {g : Res} {d : D} {S : Store} (h : lift g = .ok d S) : g = some (d, S) := by
  cases g with
  | none => cases h
  | some z => obtain ⟨a, b⟩ := z; cases h; rfl
theorem cmp_bool {o : Op} {q : CmpOp} (h : o.cmp = some q) {a b d : D} {S S' : Store} (e : opF o a b S = some (d, S')) : ∃ k, d = .bl k := by
  cases o <;> first | (cases h; done) | skip
  all_goals
    unfold opF at e
    split at e <;> first
      | (rename_i q1; cases q1; done)
      | (cases e; exact ⟨_, rfl⟩)
      | (split at e <;> first | (cases e; exact ⟨_, rfl⟩) | cases e)
      | (obtain ⟨k, _, e2⟩ := Option.map_eq_some_iff.mp e; cases e2; exact ⟨_, rfl⟩)
      | cases e
theorem se_cmp {o : Op} {q : CmpOp} {x y : Ex} {l r : Expr} {pos : Pos} (h : o.cmp = some q) (pl : Pl r) (ha : SE b x l) (hb : SE b y r) : SE b (.op o x y) (.Compare l [q] [r] pos) := by
  obtain ⟨⟨ta, pa, da⟩, _⟩ := ha
  obtain ⟨⟨tb, pb, db⟩, _⟩ := hb
  refine ⟨⟨tOp (ruleOf b.K o) ta tb, fun X g => by rw [← g.K]; exact pe_cmpR (op_cmp h g.units) (pa X g) (pb X g) (pl.mark _), den_op da db⟩,
    fun _ => ⟨tTest (tOp (ruleOf b.K o) ta tb), fun X g => by rw [← g.K]; exact pt_cmpR (op_cmp h g.units) (pa X g) (pb X g) (pl.mark _), den_test (den_op da db) fun {ρ S y S1} e => ?_⟩⟩
  simp only [ev] at e
  obtain ⟨_, _, _, e⟩ := bind_ok e
  obtain ⟨_, _, _, e⟩ := bind_ok e
  exact cmp_bool h (lift_ok e)
theorem den_chain {o o' : Op} {x y z : Ex} {ta tb tc : TE} (da : DenE b.K b.W ta (ev b.F x)) (db : DenE b.K b.W tb (ev b.F y)) (dc : DenE b.K b.W tc (ev b.F z)) :
    DenE b.K b.W (tChain (ruleOf b.K o) (ruleOf b.K o') ta tb tc) (ev b.F (.chain o o' x y z)) := by
  intro σ H m S ρ Q s r p
  refine da.bind GE.mono s r p fun x S1 v H1 m1 g1 s1 r1 rv p1 => ?_
  refine db.bind GE.mono s1 r1 p1 fun y S2 w H2 m2 g2 s2 r2 rw p2 => ?_
  cases e : opF o x y S2 with
  | none => rw [e] at p2; exact p2.elim
  | some z =>
    obtain ⟨d, S3⟩ := z
    rw [e] at p2
    refine opF_ok o s2 (g2.rep rv) rw e fun v3 H3 m3 g3 s3 rv3 => ?_
    have p3 := Post.mono GE.mono g3 p2
    cases d with
    | bl k =>
      refine ⟨k, rv3, ?_⟩
      cases k with
      | false =>
        rw [if_neg Bool.false_ne_true]
        exact Fin.at p3 s3 rfl
      | true =>
        rw [if_pos rfl]
        refine dc.bind GE.mono s3 (r2.grow g3) p3 fun z S4 v4 H4 m4 g4 s4 r4 rv4 p4 => ?_
        exact lift_post p4 fun d S' e f => opF_ok o' s4 (g4.rep (g3.rep rw)) rv4 e f
    | _ => exact p3.elim
theorem se_chain {o o' : Op} {q q' : CmpOp} {x y z : Ex} {l r r' : Expr} {pos : Pos} (h : o.cmp = some q) (h' : o'.cmp = some q') (pl : Pl r') (ha : SE b x l) (hb : SE b y r) (hc : SE b z r') :
    SE b (.chain o o' x y z) (.Compare l [q, q'] [r, r'] pos) := by
  obtain ⟨⟨ta, pa, da⟩, _⟩ := ha
  obtain ⟨⟨tb, pb, db⟩, _⟩ := hb
  obtain ⟨⟨tc, pc, dc⟩, _⟩ := hc
  have hm : lastMarks [q, q'] [r, r'] = false := pl.mark _
  refine ⟨⟨tChain (ruleOf b.K o) (ruleOf b.K o') ta tb tc, fun X g => by rw [← g.K]; exact pe_chain (op_cmp h g.units) (op_cmp h' g.units) (pa X g) (pb X g) (pc X g) hm, den_chain da db dc⟩,
    fun _ => ⟨tTest (tChain (ruleOf b.K o) (ruleOf b.K o') ta tb tc), fun X g => by rw [← g.K]; exact pt_chain (op_cmp h g.units) (op_cmp h' g.units) (pa X g) (pb X g) (pc X g) hm, den_test (den_chain da db dc) fun {ρ S y S1} e => ?_⟩⟩
  simp only [ev] at e
  obtain ⟨_, _, _, e⟩ := bind_ok e
  obtain ⟨_, _, _, e⟩ := bind_ok e
  obtain ⟨d, _, _, e⟩ := bind_ok e
  cases d with
  | bl k =>
    cases k with
    | false => cases e; exact ⟨_, rfl⟩
    | true =>
      obtain ⟨_, _, _, e⟩ := bind_ok (show Rs.bind _ _ = _ from e)
      exact cmp_bool h' (lift_ok e)
  | _ => cases e
theorem se_neg {x : Ex} {l : Expr} {pos : Pos} (ha : SE b x l) : SE b (.neg x) (.UnaryOp .USub l pos) := by
  obtain ⟨⟨ta, pa, da⟩, _⟩ := ha
  refine se_of (fun X g => pe_un un_neg (pa X g)) ?_ (fun _ _ => rfl)
  intro σ H m S ρ Q s r p
  refine da.bind GE.mono s r p fun x S1 v H1 m1 g1 s1 r1 rv p1 => ?_
  cases x with
  | int i => exact ⟨i, rv, Fin.at p1 s1 rfl⟩
  | _ => exact p1.elim
def isNonD : D → Bool
  | .non => true
  | _ => false
theorem rep_non {K : PySem.W.Frag} {H : Hp} {m : Nat → Addr} {L : Nat} {x : D} {v : V} (r : Rep K H m L x v) : decide (v = .non) = isNonD x := by
  cases x with
  | non => rw [show v = .non from r]; rfl
  | bl b => rw [show v = .bl b from r]; rfl
  | int b => rw [show v = .int b from r]; exact decide_eq_false (fun z => nomatch z)
  | str b => rw [show v = .str b from r]; exact decide_eq_false (fun z => nomatch z)
  | ty b => rw [show v = .ty b from r]; exact decide_eq_false (fun z => nomatch z)
  | tup b =>
    obtain ⟨a, vs, e, _⟩ := (show ∃ a vs, _ from r)
    rw [e]; exact decide_eq_false (fun z => nomatch z)
  | ref b =>
    obtain ⟨_, e⟩ := (show _ ∧ _ from r)
    rw [e]; exact decide_eq_false (fun z => nomatch z)
theorem isN_bool {k : Bool} {x : Ex} {ρ : EnvD} {S : Store} {y : D} {S1 : Store} (e : ev b.F (.isN k x) ρ S = .ok y S1) : ∃ b, y = .bl b := by
  simp only [ev] at e
  obtain ⟨_, _, _, e⟩ := bind_ok e
  cases e
  exact ⟨_, rfl⟩
theorem se_is {x : Ex} {l : Expr} {j : Nat} {p1 pos : Pos} (ha : SE b x l) : SE b (.isN false x) (.Compare l [.Is] [.Constant .none j p1] pos) := by
  obtain ⟨⟨ta, pa, da⟩, _⟩ := ha
  have den : DenE b.K b.W (tOp (fun x y H Q => y = V.non ∧ Q (.bl (decide (x = .non))) H) ta (tC .non)) (ev b.F (.isN false x)) := by
    intro σ H m S ρ Q s r p
    refine da.bind GE.mono s r p fun x S1 v H1 m1 g1 s1 r1 rv p1 => ?_
    refine ⟨rfl, ?_⟩
    refine Fin.at p1 s1 ?_
    rw [rep_non rv]
    cases x <;> exact rfl
  exact ⟨⟨_, fun X g => pe_cmpR op_isN (pa X g) pe_non (nomark _), den⟩, fun _ => ⟨_, fun X g => pt_cmpR op_isN (pa X g) pe_non (nomark _), den_test den isN_bool⟩⟩
theorem se_isnot {x : Ex} {l : Expr} {j : Nat} {p1 pos : Pos} (ha : SE b x l) : SE b (.isN true x) (.Compare l [.IsNot] [.Constant .none j p1] pos) := by
  obtain ⟨⟨ta, pa, da⟩, _⟩ := ha
  have den : DenE b.K b.W (tOp (fun x y H Q => y = V.non ∧ Q (.bl (!decide (x = .non))) H) ta (tC .non)) (ev b.F (.isN true x)) := by
    intro σ H m S ρ Q s r p
    refine da.bind GE.mono s r p fun x S1 v H1 m1 g1 s1 r1 rv p1 => ?_
    refine ⟨rfl, ?_⟩
    refine Fin.at p1 s1 ?_
    rw [rep_non rv]
    cases x <;> exact rfl
  exact ⟨⟨_, fun X g => pe_cmpR op_notN (pa X g) pe_non (nomark _), den⟩, fun _ => ⟨_, fun X g => pt_cmpR op_notN (pa X g) pe_non (nomark _), den_test den isN_bool⟩⟩
end
end DL

set_option maxHeartbeats 4000000
/-! DL7: the rest of the expressions. -/
namespace DL
open PySem PySem.Spec PyProof.Rows L2
section
variable {b : Bd} {X : Cx}
/-! ### and, or, not -/
theorem den_andV {x y : Ex} {ta tb : TE} (da : DenE b.K b.W ta (ev b.F x)) (db : DenE b.K b.W tb (ev b.F y)) : DenE b.K b.W (tAndV ta tb) (ev b.F (.and x y)) := by
  intro σ H m S ρ Q s r p
  refine da.bind GE.mono s r p fun x S1 v H1 m1 g1 s1 r1 rv p1 => ?_
  cases x with
  | bl k =>
    refine ⟨k, rv, ?_⟩
    cases k with
    | true => rw [if_pos rfl]; exact db s1 r1 p1
    | false => rw [if_neg Bool.false_ne_true]; exact Fin.at p1 s1 rfl
  | _ => exact p1.elim
theorem den_orV {x y : Ex} {ta tb : TE} (da : DenE b.K b.W ta (ev b.F x)) (db : DenE b.K b.W tb (ev b.F y)) : DenE b.K b.W (tOrV ta tb) (ev b.F (.or x y)) := by
  intro σ H m S ρ Q s r p
  refine da.bind GE.mono s r p fun x S1 v H1 m1 g1 s1 r1 rv p1 => ?_
  cases x with
  | bl k =>
    refine ⟨k, rv, ?_⟩
    cases k with
    | true => rw [if_pos rfl]; exact Fin.at p1 s1 rfl
    | false => rw [if_neg Bool.false_ne_true]; exact db s1 r1 p1
  | _ => exact p1.elim
theorem den_andT {x y : Ex} {ta tb : TT} (da : DenT b.K b.W ta fun ρ S => tr (ev b.F x ρ S)) (db : DenT b.K b.W tb fun ρ S => tr (ev b.F y ρ S)) : DenT b.K b.W (tAnd ta tb) fun ρ S => tr (ev b.F (.and x y) ρ S) := by
  intro σ H m S ρ Q s r p
  have p' : Post b.K (WE b.W σ) (GT b.K Q) H m S (tr (ev b.F (.and x y) ρ S)) := p
  simp only [ev] at p'
  refine da s r ?_
  show Post b.K _ _ H m S (tr (ev b.F x ρ S))
  cases e : ev b.F x ρ S with
  | ok d S1 =>
    rw [e] at p'
    cases d with
    | bl k =>
      intro H1 m1 g1 s1
      have p1 := Post.mono GT.mono g1 p'
      cases k with
      | true => rw [if_pos rfl]; exact db s1 (r.grow g1) p1
      | false => rw [if_neg Bool.false_ne_true]; exact p1 H1 m1 (.refl _ _ _) s1
    | _ => exact p'.elim
  | exc c fs S1 => rw [e] at p'; exact p'
  | bad => rw [e] at p'; exact p'
theorem den_orT {x y : Ex} {ta tb : TT} (da : DenT b.K b.W ta fun ρ S => tr (ev b.F x ρ S)) (db : DenT b.K b.W tb fun ρ S => tr (ev b.F y ρ S)) : DenT b.K b.W (tOr ta tb) fun ρ S => tr (ev b.F (.or x y) ρ S) := by
  intro σ H m S ρ Q s r p
  have p' : Post b.K (WE b.W σ) (GT b.K Q) H m S (tr (ev b.F (.or x y) ρ S)) := p
  simp only [ev] at p'
  refine da s r ?_
  show Post b.K _ _ H m S (tr (ev b.F x ρ S))
  cases e : ev b.F x ρ S with
  | ok d S1 =>
    rw [e] at p'
    cases d with
    | bl k =>
      intro H1 m1 g1 s1
      have p1 := Post.mono GT.mono g1 p'
      cases k with
      | false => rw [if_neg Bool.false_ne_true]; exact db s1 (r.grow g1) p1
      | true => rw [if_pos rfl]; exact p1 H1 m1 (.refl _ _ _) s1
    | _ => exact p'.elim
  | exc c fs S1 => rw [e] at p'; exact p'
  | bad => rw [e] at p'; exact p'
theorem pw_of {op : BoolOp} {vs : List Expr} {p : Pos} {t : TT} (h : PT X (.BoolOp op vs p) t) : PW X (.BoolOp op vs p) t := ⟨fun _ => h.run⟩
theorem se_and2 {x y : Ex} {l r : Expr} {p : Pos} (nx : notIf x = true) (ny : notIf y = true) (ha : SE b x l) (hb : SE b y r) : SE b (.and x y) (.BoolOp .And [l, r] p) := by
  obtain ⟨⟨ta, pa, da⟩, qa⟩ := ha
  obtain ⟨⟨tb, pb, db⟩, qb⟩ := hb
  obtain ⟨ua, pa', da'⟩ := qa nx
  obtain ⟨ub, pb', db'⟩ := qb ny
  exact ⟨⟨_, fun X g => pe_and (pa X g) (pe_one (pb X g)), den_andV da db⟩, fun _ => ⟨_, fun X g => PW.pt (pw_and (pa' X g) (pw_and1 (pb' X g))), den_andT da' db'⟩⟩
theorem se_and3 {x y : Ex} {l r r' : Expr} {rs : List Expr} {p : Pos} (nx : notIf x = true) (ny : notIf y = true) (ha : SE b x l) (hb : SE b y (.BoolOp .And (r :: r' :: rs) p)) : SE b (.and x y) (.BoolOp .And (l :: r :: r' :: rs) p) := by
  obtain ⟨⟨ta, pa, da⟩, qa⟩ := ha
  obtain ⟨⟨tb, pb, db⟩, qb⟩ := hb
  obtain ⟨ua, pa', da'⟩ := qa nx
  obtain ⟨ub, pb', db'⟩ := qb ny
  exact ⟨⟨_, fun X g => pe_and (pa X g) (pb X g), den_andV da db⟩, fun _ => ⟨_, fun X g => PW.pt (pw_and (pa' X g) (pw_of (pb' X g))), den_andT da' db'⟩⟩
theorem se_or2 {x y : Ex} {l r : Expr} {p : Pos} (nx : notIf x = true) (ny : notIf y = true) (ha : SE b x l) (hb : SE b y r) : SE b (.or x y) (.BoolOp .Or [l, r] p) := by
  obtain ⟨⟨ta, pa, da⟩, qa⟩ := ha
  obtain ⟨⟨tb, pb, db⟩, qb⟩ := hb
  obtain ⟨ua, pa', da'⟩ := qa nx
  obtain ⟨ub, pb', db'⟩ := qb ny
  exact ⟨⟨_, fun X g => pe_or (pa X g) (pe_one (pb X g)), den_orV da db⟩, fun _ => ⟨_, fun X g => PW.pt (pw_or (pa' X g) (pw_or1 (pb' X g))), den_orT da' db'⟩⟩
theorem se_or3 {x y : Ex} {l r r' : Expr} {rs : List Expr} {p : Pos} (nx : notIf x = true) (ny : notIf y = true) (ha : SE b x l) (hb : SE b y (.BoolOp .Or (r :: r' :: rs) p)) : SE b (.or x y) (.BoolOp .Or (l :: r :: r' :: rs) p) := by
  obtain ⟨⟨ta, pa, da⟩, qa⟩ := ha
  obtain ⟨⟨tb, pb, db⟩, qb⟩ := hb
  obtain ⟨ua, pa', da'⟩ := qa nx
  obtain ⟨ub, pb', db'⟩ := qb ny
  exact ⟨⟨_, fun X g => pe_or (pa X g) (pb X g), den_orV da db⟩, fun _ => ⟨_, fun X g => PW.pt (pw_or (pa' X g) (pw_of (pb' X g))), den_orT da' db'⟩⟩
theorem se_not {x : Ex} {l : Expr} {p : Pos} (nx : notIf x = true) (ha : SE b x l) : SE b (.not x) (.UnaryOp .Not l p) := by
  obtain ⟨⟨ta, pa, da⟩, qa⟩ := ha
  obtain ⟨ua, pa', da'⟩ := qa nx
  refine ⟨⟨_, fun X g => pe_not (pa X g), ?_⟩, fun _ => ⟨_, fun X g => pt_not (pa' X g), ?_⟩⟩
  · intro σ H m S ρ Q s r p
    refine da.bind GE.mono s r p fun x S1 v H1 m1 g1 s1 r1 rv p1 => ?_
    cases x with
    | bl k => exact ⟨k, rv, Fin.at p1 s1 rfl⟩
    | _ => exact p1.elim
  · intro σ H m S ρ Q s r p
    have p' : Post b.K (WE b.W σ) (GT b.K Q) H m S (tr (ev b.F (.not x) ρ S)) := p
    simp only [ev] at p'
    refine da' s r ?_
    show Post b.K _ _ H m S (tr (ev b.F x ρ S))
    cases e : ev b.F x ρ S with
    | ok d S1 =>
      rw [e] at p'
      cases d with
      | bl k => exact p'
      | _ => exact p'.elim
    | exc c fs S1 => rw [e] at p'; exact p'
    | bad => rw [e] at p'; exact p'
def tIfT (tc ta tb : TT) : TT := fun σ H Q => tc σ H fun k H1 => if k = true then ta σ H1 Q else tb σ H1 Q
theorem pt_ifT {X : Cx} {t l r : Expr} {p : Pos} {tc ta tb : TT} (hc : PT X t tc) (ha : PT X l ta) (hb : PT X r tb) : PT X (.IfExp t l r p) (tIfT tc ta tb) := by
  refine ⟨fun pins s σ H Q I h => ?_⟩
  show wpAny _ _ (isTrue t X.env (eval t X.env) >>= fun k => if k = true then isTrue l X.env (eval l X.env) else isTrue r X.env (eval r X.env)) _ _ _
  refine wpAny_bind (wpAny_mono (hc.run pins s σ H _ I h) (fun k s1 z => ?_) fun _ _ z => z)
  obtain ⟨H1, I1, q⟩ := z
  cases k with
  | true =>
    rw [if_pos rfl] at q ⊢
    exact ha.run pins s1 σ H1 Q I1 q
  | false =>
    rw [if_neg Bool.false_ne_true] at q ⊢
    exact hb.run pins s1 σ H1 Q I1 q
theorem tr_bindE {α : Type} {x : Rs α} {f : α → Store → Rs D} : tr (x.bind f) = x.bind fun a S => tr (f a S) := by cases x <;> rfl
theorem se_if {c x y : Ex} {t l r : Expr} {p : Pos} (nc : notIf c = true) (hc : SE b c t) (ha : SE b x l) (hb : SE b y r) : SE b (.ifx c x y) (.IfExp t l r p) := by
  obtain ⟨_, qc⟩ := hc
  obtain ⟨tc, pc, dc⟩ := qc nc
  obtain ⟨⟨ta, pa, da⟩, qa⟩ := ha
  obtain ⟨⟨tb, pb, db⟩, qb⟩ := hb
  refine ⟨⟨_, fun X g => pe_ifExp (pc X g) (pa X g) (pb X g), ?_⟩, fun z => ?_⟩
  case refine_2 =>
    have z' : (notIf x && notIf y) = true := by rw [notIf] at z; exact z
    rw [Bool.and_eq_true] at z'
    obtain ⟨tx, px, dx⟩ := qa z'.1
    obtain ⟨ty, py, dy⟩ := qb z'.2
    refine ⟨tIfT tc tx ty, fun X g => pt_ifT (pc X g) (px X g) (py X g), ?_⟩
    intro σ H m S ρ Q s r p
    simp only [ev, tr_bindE] at p
    refine dc.bind (f := fun ρ S => tr (ev b.F c ρ S)) GT.mono s r p fun k S1 H1 m1 g1 s1 r1 p1 => ?_
    cases k with
    | true => rw [if_pos rfl]; exact dx s1 r1 (by simpa using p1)
    | false => rw [if_neg Bool.false_ne_true]; exact dy s1 r1 (by simpa using p1)
  intro σ H m S ρ Q s r p
  refine dc.bind GE.mono s r p fun k S1 H1 m1 g1 s1 r1 p1 => ?_
  cases k with
  | true => rw [if_pos rfl]; exact da s1 r1 p1
  | false => rw [if_neg Bool.false_ne_true]; exact db s1 r1 p1

/-! ### subscripts, slices -/
theorem se_ix {x y : Ex} {l r : Expr} {p : Pos} (pl : Pl r) (ha : SE b x l) (hb : SE b y r) : SE b (.ix x y) (.Subscript l r p) := by
  obtain ⟨⟨ta, pa, da⟩, _⟩ := ha
  obtain ⟨⟨tb, pb, db⟩, _⟩ := hb
  refine se_of (t := tOp (ixR b.K) ta tb) (fun X g => by rw [← g.K]; exact pe_ix ix_rule (pa X g) (pb X g) pl.ix) ?_ (fun _ _ => rfl)
  intro σ H m S ρ Q s r p
  refine da.bind GE.mono s r p fun x S1 v H1 m1 g1 s1 r1 rv p1 => ?_
  refine db.bind GE.mono s1 r1 p1 fun y S2 w H2 m2 g2 s2 r2 rw p2 => ?_
  exact lift_post p2 fun d S' e f => ixF_ok s2 (g2.rep rv) rw e f
theorem se_rev {x : Ex} {l : Expr} {k : Nat} {p1 p2 p3 p : Pos} (ha : SE b x l) : SE b (.rev x) (.Subscript l (.Slice none none (some (.UnaryOp .USub (.Constant (.int 1) k p1) p2)) p3) p) := by
  obtain ⟨⟨ta, pa, da⟩, _⟩ := ha
  refine se_of (t := tRev b.K ta) (fun X g => by rw [← g.K]; exact pe_rev (pa X g)) ?_ (fun _ _ => rfl)
  intro σ H m S ρ Q s r p
  refine da.bind GE.mono s r p fun x S1 v H1 m1 g1 s1 r1 rv p1 => ?_
  exact lift_post p1 fun d S' e f => revF_ok s1 rv e f
theorem se_bad {e : Expr} : SE b .bad e :=
  ⟨⟨fun _ _ _ => False, fun _ _ => ⟨fun _ _ _ _ _ _ h => h.elim⟩, fun {_ _ _ _ _ _} _ _ p => p⟩, fun _ => ⟨fun _ _ _ => False, fun _ _ => ⟨fun _ _ _ _ _ _ h => h.elim⟩, fun {_ _ _ _ _ _} _ _ p => p⟩⟩
theorem se_cutL {x y : Ex} {l r : Expr} {p p2 : Pos} (ha : SE b x l) (hb : SE b y r) : SE b (.cutL x y) (.Subscript l (.Slice (some r) none none p2) p) := by
  obtain ⟨⟨ta, pa, da⟩, _⟩ := ha
  obtain ⟨⟨tb, pb, db⟩, _⟩ := hb
  refine se_of (t := tSl (cutR b.K) ta (tPart tb) tNoPart) (fun X g => by rw [← g.K]; exact pe_slice cut_rule (pa X g) (po_some (pb X g)) po_none) ?_ (fun _ _ => rfl)
  intro σ H m S ρ Q s r p
  refine da.bind GE.mono s r p fun x S1 v H1 m1 g1 s1 r1 rv p1 => ?_
  refine db.bind GE.mono s1 r1 p1 fun y S2 w H2 m2 g2 s2 r2 rw p2 => ?_
  cases y with
  | int i => exact ⟨i, rw, lift_post (show Post b.K _ _ H2 m2 S2 (lift _) from p2) fun d S' e f => cutF_ok _ _ s2 (g2.rep rv) e f⟩
  | _ => exact p2.elim
theorem se_cutH {x y : Ex} {l r : Expr} {p p2 : Pos} (ha : SE b x l) (hb : SE b y r) : SE b (.cutH x y) (.Subscript l (.Slice none (some r) none p2) p) := by
  obtain ⟨⟨ta, pa, da⟩, _⟩ := ha
  obtain ⟨⟨tb, pb, db⟩, _⟩ := hb
  refine se_of (t := tSl (cutR b.K) ta tNoPart (tPart tb)) (fun X g => by rw [← g.K]; exact pe_slice cut_rule (pa X g) po_none (po_some (pb X g))) ?_ (fun _ _ => rfl)
  intro σ H m S ρ Q s r p
  refine da.bind GE.mono s r p fun x S1 v H1 m1 g1 s1 r1 rv p1 => ?_
  refine db.bind GE.mono s1 r1 p1 fun y S2 w H2 m2 g2 s2 r2 rw p2 => ?_
  cases y with
  | int i => exact ⟨i, rw, lift_post (show Post b.K _ _ H2 m2 S2 (lift _) from p2) fun d S' e f => cutF_ok _ _ s2 (g2.rep rv) e f⟩
  | _ => exact p2.elim
theorem se_cutB {x y z : Ex} {l r r' : Expr} {p p2 : Pos} (ha : SE b x l) (hb : SE b y r) (hc : SE b z r') : SE b (.cutB x y z) (.Subscript l (.Slice (some r) (some r') none p2) p) := by
  obtain ⟨⟨ta, pa, da⟩, _⟩ := ha
  obtain ⟨⟨tb, pb, db⟩, _⟩ := hb
  obtain ⟨⟨tc, pc, dc⟩, _⟩ := hc
  refine se_of (t := tSl (cutR b.K) ta (tPart tb) (tPart tc)) (fun X g => by rw [← g.K]; exact pe_slice cut_rule (pa X g) (po_some (pb X g)) (po_some (pc X g))) ?_ (fun _ _ => rfl)
  intro σ H m S ρ Q s r p
  refine da.bind GE.mono s r p fun x S1 v H1 m1 g1 s1 r1 rv p1 => ?_
  refine db.bind GE.mono s1 r1 p1 fun y S2 w H2 m2 g2 s2 r2 rw p2 => ?_
  cases y with
  | int i =>
    refine ⟨i, rw, ?_⟩
    refine dc.bind GE.mono s2 r2 (show Post b.K _ _ H2 m2 S2 (Rs.bind _ _) from p2) fun z S3 u H3 m3 g3 s3 r3 ru p3 => ?_
    cases z with
    | int j => exact ⟨j, ru, lift_post (show Post b.K _ _ H3 m3 S3 (lift _) from p3) fun d S' e f => cutF_ok _ _ s3 (g3.rep (g2.rep rv)) e f⟩
    | _ => exact p3.elim
  | _ => exact p2.elim

/-! ### calls -/
theorem stars {env : PySem.Env} : ∀ {es : List Expr}, (∀ e ∈ es, Pl e) → starEach es env = es.map fun e => (false, eval e env)
  | [], _ => rfl
  | e :: es, h => by rw [(h e List.mem_cons_self).star, stars fun x hx => h x (List.mem_cons_of_mem _ hx)]; rfl
theorem no_star {env : PySem.Env} {pos : Pos} {es : List Expr} (h : ∀ e ∈ es, Pl e) : (backTo pos (starEach es env)).any (·.1) = false := by
  rw [stars h]
  unfold backTo
  rw [List.map_map, List.any_map]
  exact List.any_eq_false.mpr fun x _ => Bool.false_ne_true
theorem few_star {env : PySem.Env} {pos : Pos} {es : List Expr} (h : ∀ e ∈ es, Pl e) : (backTo pos (starEach es env)).all (fun x => !x.1) = true := by
  rw [stars h]
  unfold backTo
  rw [List.map_map, List.all_map]
  exact List.all_eq_true.mpr fun x _ => rfl
theorem evs_len {F : Fns} : ∀ {xs : List Ex} {ρ : EnvD} {S : Store} {ds : List D} {S' : Store}, evs F xs ρ S = .ok ds S' → ds.length = xs.length
  | [], ρ, S, ds, S', e => by cases e; rfl
  | x :: xs, ρ, S, ds, S', e => by
    simp only [evs] at e
    obtain ⟨d, S1, _, e⟩ := bind_ok e
    obtain ⟨ds', S2, e2, e⟩ := bind_ok e
    cases e
    exact congrArg Nat.succ (evs_len e2)
theorem chks_len {T : Tab} {N : List Str} {sc : Scope} : ∀ {xs : List Ex} {es : List Expr}, chks T N sc xs es = true → xs.length = es.length
  | [], es, h => by
    unfold chks at h
    split at h
    · rfl
    · cases h
  | x :: xs, es, h => by
    unfold chks at h
    split at h
    · rw [Bool.and_eq_true] at h
      exact congrArg Nat.succ (chks_len h.2)
    · cases h
theorem chks_pl {T : Tab} {N : List Str} {sc : Scope} : ∀ {xs : List Ex} {es : List Expr}, chks T N sc xs es = true → ∀ e ∈ es, Pl e
  | [], es, h => by
    unfold chks at h
    split at h
    · intro e he; cases he
    · cases h
  | x :: xs, es, h => by
    unfold chks at h
    split at h
    · rename_i e es'
      rw [Bool.and_eq_true] at h
      intro e' he
      rcases List.mem_cons.mp he with rfl | he
      · exact pl_of (chk_shape h.1)
      · exact chks_pl h.2 e' he
    · cases h
theorem se_call {f : Nat} {xs : List Ex} {x : Str} {a : Expr} {as : List Expr} {p pos : Pos} (hf : b.T.fn[f]? = some (x, (a :: as).length)) (hg : glob b.sc x = true) (pl : ∀ e ∈ a :: as, Pl e) (hl : xs.length = (a :: as).length) (hs : SA b xs (a :: as)) :
    SE b (.call f xs) (.Call (.Name x p) (a :: as) [] pos) := by
  obtain ⟨t, pa, da⟩ := hs
  obtain ⟨g1, g2, _⟩ := glob_of hg
  refine se_of (t := tCallS (spD b.K (a :: as).length (b.F f)) (WE b.W) t) (fun X g => ?_) ?_ (fun _ _ => rfl)
  · obtain ⟨ad, fd, ps, h1, h2, h3, h4, h5⟩ := g.fn f x _ hf
    rw [← g.K]
    exact pe_callG h5 g.room g.gds (g1 X g) h2 h3 h4 g.takes (pa X g) g2 ((pl a List.mem_cons_self).star _ _) (no_star fun e he => pl e (List.mem_cons_of_mem _ he))
  · intro σ H m S ρ Q s r p
    refine da.bindE GE.mono s r p fun ds S1 vs H1 m1 e g1 s1 r1 rvs p1 => ?_
    exact ⟨m1, S1, ds, (evs_len e).trans hl, s1, rvs, p1⟩
theorem blt_boot (k : Blt) : bootBuiltins k.name = some k.val := by cases k <;> decide +kernel
theorem se_blt {k : Blt} {xs : List Ex} {a : Expr} {as : List Expr} {p pos : Pos} (tok : TabOk b.T b.K b.mg) (hx : k.name ∈ b.T.free) (hg : glob b.sc k.name = true) (pl : ∀ e ∈ a :: as, Pl e) (hs : SA b xs (a :: as)) :
    SE b (.blt k xs) (.Call (.Name k.name p) (a :: as) [] pos) := by
  obtain ⟨t, pa, da⟩ := hs
  obtain ⟨g1, g2, g3⟩ := glob_of hg
  have hm := tok.free _ hx
  refine se_of (t := tCB (bltR b.K k) t) (fun X g => ?_) ?_ (fun _ _ => rfl)
  · have hm' : X.mg k.name = none := by rw [g.mg]; exact hm
    have st := (pl a List.mem_cons_self).star as X.env
    have ns : (backTo pos (starEach as X.env)).any (·.1) = false := no_star fun e he => pl e (List.mem_cons_of_mem _ he)
    have rule := blt_rule (X := X) k g.calm g.gds g.units
    have boot := blt_boot k
    rw [← g.K]
    unfold Blt.val at rule boot
    by_cases ht : k.isTy = true
    · rw [if_pos ht] at rule boot
      exact pe_callTy rule (g1 X g) hm' boot (pa X g) g3 g2 st ns
    · rw [if_neg ht] at rule boot
      exact pe_callB rule (g1 X g) hm' boot (pa X g) g3 g2 st ns
  · intro σ H m S ρ Q s r p
    refine da.bind GE.mono s r p fun ds S1 vs H1 m1 g1 s1 r1 rvs p1 => ?_
    exact lift_post p1 fun d S' e f => bltF_ok k s1 rvs e f
theorem isLst_ty {K : PySem.W.Frag} {H : Hp} {m : Nat → Addr} {S : Store} {x : D} {v : V} (s : Sim K H m S) (r : Rep K H m S.length x v) (h : isLst x S = true) : tyV K "list" v H := by
  unfold isLst at h
  split at h
  · split at h
    · rename_i n ds ec
      obtain ⟨_, ev⟩ := (show _ ∧ _ from r)
      obtain ⟨vs, h1, _⟩ := (show ∃ vs, _ from s.cell _ _ ec)
      rw [ev]
      exact .inl ⟨rfl, _, SqL.of h1⟩
    · cases h
  · cases h
theorem se_mth {k : Mth} {x : Ex} {xs : List Ex} {l a : Expr} {as : List Expr} {ap cp : Pos} (pl0 : Pl l) (hl : lineOk ap cp = true) (hn : as.length < 20) (pl : ∀ e ∈ a :: as, Pl e) (ho : SE b x l) (hs : SA b xs (a :: as)) :
    SE b (.mth k x xs) (.Call (.Attribute l k.name ap) (a :: as) [] cp) := by
  obtain ⟨⟨to, po, d0⟩, _⟩ := ho
  obtain ⟨t, pa, da⟩ := hs
  refine se_of (t := tBM b.K "list" (mthR b.K k) to t) (fun X g => ?_) ?_ (fun _ _ => rfl)
  · have hb : attributeBase l k.name X.env (eval l X.env) = eval l X.env := pl0.attr _ _ _
    have hfew : ((backTo cp (starEach (a :: as) X.env)).all (fun x => !x.1) && (backToKw cp (keywordEach [] X.env)).all (fun x => x.1.isSome)
        && decide ((a :: as).length + ([] : List Keyword).length + (if ([] : List Keyword).isEmpty then 0 else 1) < 30)) = true := by
      rw [few_star pl]
      exact decide_eq_true (show (as.length + 1) + 0 + 0 < 30 by omega)
    have st := (pl a List.mem_cons_self).star as X.env
    have ns : (backTo cp (starEach as X.env)).any (·.1) = false := no_star fun e he => pl e (List.mem_cons_of_mem _ he)
    rw [← g.K]
    cases k with
    | append => exact pe_bm PySem.F.plainAttrs_list PySem.F.slot_list_append PySem.F.type_list_append mt_append (po X g) (pa X g) hb hfew hl st ns
    | extend => exact pe_bm PySem.F.plainAttrs_list PySem.F.slot_list_extend PySem.F.type_list_extend mt_ext2 (po X g) (pa X g) hb hfew hl st ns
  · intro σ H m S ρ Q s r p
    refine d0.bind GE.mono s r p fun x S1 v H1 m1 g1 s1 r1 rv p1 => ?_
    split at p1
    · rename_i hi
      refine ⟨isLst_ty s1 rv hi, ?_⟩
      refine da.bind GE.mono s1 r1 p1 fun ds S2 vs H2 m2 g2 s2 r2 rvs p2 => ?_
      exact lift_post p2 fun d S' e f => mthF_ok k s2 (g2.rep rv) rvs e f
    · exact p1.elim
end
end DL

set_option maxHeartbeats 4000000
/-! DL8: walks, targets, comprehensions; the theorem of the expressions. -/
namespace DL
open PySem PySem.Spec PyProof.Rows L2

/-! ### what is walked -/
structure ItOk (K : PySem.W.Frag) (J : It) (k : Src) (args : List D) (H1 : Hp) (m1 : Nat → Addr) (S1 : Store) : Prop where
  go : ∀ {i : Nat} {H : Hp} {m : Nat → Addr} {S : Store} {x : D}, Grow H1 m1 S1 H m S → Sim K H m S → nxt k args i S = some (some x) → J.go i H ∧ ∀ v H', J.yld i H v H' → Grow H m S H' m S ∧ Sim K H' m S ∧ Rep K H' m S.length x v
  stop : ∀ {i : Nat} {H : Hp} {m : Nat → Addr} {S : Store}, Grow H1 m1 S1 H m S → Sim K H m S → nxt k args i S = some none → J.stop i H
def DenI (K : PySem.W.Frag) (W : WX) (wi : TI) (k : Src) (f : EnvD → Store → Rs (List D)) : Prop :=
  ∀ {σ : L2.St} {H : Hp} {m : Nat → Addr} {S : Store} {ρ : EnvD} {R : It → Hp → Prop} {β : Type} {G : Want β} {kk : List D → Nat → Store → Rs β}, Mono G → Sim K H m S → REnv K H m S.length ρ σ →
    Post K (WE W σ) G H m S ((f ρ S).bind fun args S1 => match turns k args S1 with
      | none => .bad
      | some n => kk args n S1) →
    (∀ args n S1 H1 m1 J, Grow H m S H1 m1 S1 → Sim K H1 m1 S1 → REnv K H1 m1 S1.length ρ σ → ItOk K J k args H1 m1 S1 → Post K (WE W σ) G H1 m1 S1 (kk args n S1) → R J H1) → wi σ H R
theorem fst_get {α : Type} {a b : Option α} (h : some a = some b) : a = b := Option.some.inj h
section
variable {K : PySem.W.Frag} {W : WX}
theorem it_list {k0 : Nat} {H1 : Hp} {m1 : Nat → Addr} {S1 : Store} (h0 : k0 < S1.length) : ItOk K (Itl K (m1 k0)) .seq [.ref k0] H1 m1 S1 := by
  have key : ∀ {H : Hp} {m : Nat → Addr} {S : Store} {ds : List D}, Grow H1 m1 S1 H m S → Sim K H m S → items S (.ref k0) = some ds → ∃ vs, SqL K H (m1 k0) vs ∧ RepL K H m S.length ds vs := fun {H m S ds} g s e => by
    have r : Rep K H m S.length (.ref k0) (.ref (m1 k0)) := ⟨Nat.lt_of_lt_of_le h0 g.len, by rw [g.old k0 h0]⟩
    obtain ⟨a, vs, ev, sq, rr⟩ := litems_seq s r (show litems S (.ref k0) = some ds from e)
    cases ev
    exact ⟨vs, sq, rr⟩
  refine ⟨fun {i H m S x} g s e => ?_, fun {i H m S} g s e => ?_⟩
  · simp only [nxt] at e
    split at e
    · rename_i ds ei
      obtain ⟨vs, sq, rr⟩ := key g s ei
      obtain ⟨v, hv, rv⟩ := rr.get (Option.some.inj e)
      refine ⟨⟨vs, v, sq, hv⟩, fun w H' y => ?_⟩
      obtain ⟨eH, y⟩ := y
      subst eH
      have e2 := (y vs sq).symm.trans hv
      cases e2
      exact ⟨.refl _ _ _, s, rv⟩
    · cases e
  · simp only [nxt] at e
    split at e
    · rename_i ds ei
      obtain ⟨vs, sq, rr⟩ := key g s ei
      have := List.getElem?_eq_none_iff.mp (Option.some.inj e)
      rw [rr.length] at this
      exact ⟨vs, sq, this⟩
    · cases e
theorem it_tup {ds : List D} {vs : List V} {a : Addr} {H1 : Hp} {m1 : Nat → Addr} {S1 : Store} (sq : SqT K H1 a vs) (rr : RepL K H1 m1 S1.length ds vs) : ItOk K (Itt K a) .seq [.tup ds] H1 m1 S1 := by
  refine ⟨fun {i H m S x} g s e => ?_, fun {i H m S} g s e => ?_⟩
  · simp only [nxt, items] at e
    obtain ⟨v, hv, rv⟩ := (g.repL rr).get (Option.some.inj e)
    have sq' := g.tk.sqT sq
    refine ⟨⟨vs, v, sq', hv⟩, fun w H' y => ?_⟩
    obtain ⟨eH, y⟩ := y
    subst eH
    have e2 := (y vs sq').symm.trans hv
    cases e2
    exact ⟨.refl _ _ _, s, rv⟩
  · simp only [nxt, items] at e
    have := List.getElem?_eq_none_iff.mp (Option.some.inj e)
    rw [rr.length] at this
    exact ⟨vs, g.tk.sqT sq, this⟩
theorem it_rng {lo hi : Int} {k : Src} {args : List D} {H1 : Hp} {m1 : Nat → Addr} {S1 : Store} (hn : ∀ i S, nxt k args i S = if i < (hi - lo).toNat then some (some (.int (lo + (i : Int)))) else some none) : ItOk K (Itr lo (hi - lo).toNat) k args H1 m1 S1 := by
  refine ⟨fun {i H m S x} g s e => ?_, fun {i H m S} g s e => ?_⟩
  · rw [hn] at e
    split at e
    · rename_i hl
      cases e
      refine ⟨hl, fun w H' y => ?_⟩
      obtain ⟨eH, y⟩ := y
      subst eH
      exact ⟨.refl _ _ _, s, y⟩
    · cases e
  · rw [hn] at e
    split at e
    · cases e
    · rename_i hl
      exact Nat.le_of_not_lt hl
end
section
variable {K : PySem.W.Frag} {W : WX}
theorem it_enumL {k0 : Nat} {H1 : Hp} {m1 : Nat → Addr} {S1 : Store} (h0 : k0 < S1.length) : ItOk K (Ite K (m1 k0)) .enum [.ref k0] H1 m1 S1 := by
  have key : ∀ {H : Hp} {m : Nat → Addr} {S : Store} {ds : List D}, Grow H1 m1 S1 H m S → Sim K H m S → items S (.ref k0) = some ds → ∃ vs, SqL K H (m1 k0) vs ∧ RepL K H m S.length ds vs := fun {H m S ds} g s e => by
    have r : Rep K H m S.length (.ref k0) (.ref (m1 k0)) := ⟨Nat.lt_of_lt_of_le h0 g.len, by rw [g.old k0 h0]⟩
    obtain ⟨a, vs, ev, sq, rr⟩ := litems_seq s r (show litems S (.ref k0) = some ds from e)
    cases ev
    exact ⟨vs, sq, rr⟩
  refine ⟨fun {i H m S x} g s e => ?_, fun {i H m S} g s e => ?_⟩
  · simp only [nxt] at e
    split at e
    · rename_i ds ei
      obtain ⟨vs, sq, rr⟩ := key g s ei
      obtain ⟨y, ey, ex⟩ := Option.map_eq_some_iff.mp (Option.some.inj e)
      subst ex
      obtain ⟨v, hv, rv⟩ := rr.get ey
      refine ⟨⟨vs, v, sq, hv⟩, fun w H' yl => ?_⟩
      obtain ⟨T, x', rfl, hT, rfl, yy⟩ := yl
      have e2 := (yy vs sq).symm.trans hv
      cases e2
      exact ⟨.new hT, s.new hT, T, [.int i, v], rfl, .inl (.inl upd_same), ⟨_, _, rfl, rfl, _, _, rfl, rv.mono (.new hT) (fun _ _ => rfl) (Nat.le_refl _), rfl⟩⟩
    · cases e
  · simp only [nxt] at e
    split at e
    · rename_i ds ei
      obtain ⟨vs, sq, rr⟩ := key g s ei
      have := List.getElem?_eq_none_iff.mp (Option.map_eq_none_iff.mp (Option.some.inj e))
      rw [rr.length] at this
      exact ⟨vs, sq, this⟩
    · cases e
theorem it_enumT {ds : List D} {vs : List V} {a : Addr} {H1 : Hp} {m1 : Nat → Addr} {S1 : Store} (sq : SqT K H1 a vs) (rr : RepL K H1 m1 S1.length ds vs) : ItOk K (IteT K a) .enum [.tup ds] H1 m1 S1 := by
  refine ⟨fun {i H m S x} g s e => ?_, fun {i H m S} g s e => ?_⟩
  · simp only [nxt, items] at e
    obtain ⟨y, ey, ex⟩ := Option.map_eq_some_iff.mp (Option.some.inj e)
    subst ex
    obtain ⟨v, hv, rv⟩ := (g.repL rr).get ey
    have sq' := g.tk.sqT sq
    refine ⟨⟨vs, v, sq', hv⟩, fun w H' yl => ?_⟩
    obtain ⟨T, x', rfl, hT, rfl, yy⟩ := yl
    have e2 := (yy vs sq').symm.trans hv
    cases e2
    exact ⟨.new hT, s.new hT, T, [.int i, v], rfl, .inl (.inl upd_same), ⟨_, _, rfl, rfl, _, _, rfl, rv.mono (.new hT) (fun _ _ => rfl) (Nat.le_refl _), rfl⟩⟩
  · simp only [nxt, items] at e
    have := List.getElem?_eq_none_iff.mp (Option.map_eq_none_iff.mp (Option.some.inj e))
    rw [rr.length] at this
    exact ⟨vs, g.tk.sqT sq, this⟩
end
section
variable {b : Bd}
/-- the look at a walk's source -/
def SI (b : Bd) (k : Src) (xs : List Ex) (tg iter : Expr) : Prop := ∃ wi, (∀ X, Good b X → PI X tg iter wi) ∧ DenI b.K b.W wi k (evs b.F xs)
theorem si_seq {x : Ex} {tg e : Expr} (h : SE b x e) : SI b .seq [x] tg e := by
  obtain ⟨⟨t, pe, d⟩, _⟩ := h
  refine ⟨iSeq b.K t, fun X g => by rw [← g.K]; exact pi_seq (pe X g), ?_⟩
  intro σ H m S ρ R β G kk gm s r p hR
  have p' : Post b.K (WE b.W σ) G H m S ((ev b.F x ρ S).bind fun d S1 => match turns .seq [d] S1 with
      | none => Rs.bad
      | some n => kk [d] n S1) := by
    simp only [evs] at p
    cases e1 : ev b.F x ρ S with
    | ok d S1 => rw [e1] at p; exact p
    | exc c fs S1 => rw [e1] at p; exact p
    | bad => rw [e1] at p; exact p
  refine d.bind gm s r p' fun d S1 v H1 m1 g1 s1 r1 rv p1 => ?_
  cases et : turns .seq [d] S1 with
  | none => rw [et] at p1; exact p1.elim
  | some n =>
    rw [et] at p1
    cases d with
    | tup ds =>
      obtain ⟨a, vs, ev, sq, rr⟩ := (show ∃ a vs, _ from rv)
      exact ⟨a, ev, .inr ⟨⟨vs, sq⟩, hR _ n S1 H1 m1 _ g1 s1 r1 (it_tup sq rr) p1⟩⟩
    | ref k0 =>
      obtain ⟨h0, ev⟩ := (show k0 < S1.length ∧ _ from rv)
      have : ∃ ds, items S1 (.ref k0) = some ds := by
        simp only [turns] at et
        split at et
        · rename_i ds ei; exact ⟨ds, ei⟩
        · cases et
      obtain ⟨ds, ei⟩ := this
      obtain ⟨a, vs, ev', sq, rr⟩ := litems_seq s1 rv (show litems S1 (.ref k0) = some ds from ei)
      rw [ev] at ev'
      cases ev'
      exact ⟨_, ev, .inl ⟨⟨vs, sq⟩, hR _ n S1 H1 m1 _ g1 s1 r1 (it_list h0) p1⟩⟩
    | _ => cases et
theorem si_rng1 {xs : List Ex} {tg a : Expr} {p pos : Pos} (tok : TabOk b.T b.K b.mg) (hx : ("range" : Str) ∈ b.T.free) (hg : glob b.sc "range" = true) (pl : Pl a) (h : SA b xs [a]) : SI b .rng1 xs tg (.Call (.Name "range" p) [a] [] pos) := by
  obtain ⟨t, pa, d⟩ := h
  obtain ⟨g1, g2, g3⟩ := glob_of hg
  refine ⟨iRng1 t, fun X g => pi_range1 (g1 X g) (by rw [g.mg]; exact tok.free _ hx) (pa X g) (pl.star _ _), ?_⟩
  intro σ H m S ρ R β G kk gm s r p hR
  refine d.bind gm s r p fun args S1 vs H1 m1 g1 s1 r1 rv p1 => ?_
  cases et : turns .rng1 args S1 with
  | none => rw [et] at p1; exact p1.elim
  | some n =>
    rw [et] at p1
    simp only [turns] at et
    split at et
    · cases ‹Src.rng1 = Src.seq›
    · cases ‹Src.rng1 = Src.enum›
    · rename_i j ea
      split at et
      · rename_i hb
        obtain ⟨v, hv, rv1⟩ := one_of rv
        refine ⟨j, by rw [hv, show v = .int j from rv1], hb.1, hb.2, ?_⟩
        have h0 : (j - 0).toNat = j.toNat := by rw [Int.sub_zero]
        have it : ItOk b.K (Itr 0 (j - 0).toNat) .rng1 [.int j] H1 m1 S1 := it_rng fun i S => by rw [h0]; rfl
        rw [h0] at it
        exact hR _ n S1 H1 m1 _ g1 s1 r1 it p1
      · cases et
    · cases ‹Src.rng1 = Src.rng2›
    · cases et
theorem si_enum {xs : List Ex} {a : Expr} {elts : List Expr} {kk : Nat} {tpos p pos : Pos} (tok : TabOk b.T b.K b.mg) (hx : ("enumerate" : Str) ∈ b.T.free) (hg : glob b.sc "enumerate" = true) (pl : Pl a) (h : SA b xs [a]) : SI b .enum xs (.Tuple elts kk tpos) (.Call (.Name "enumerate" p) [a] [] pos) := by
  obtain ⟨t, pa, d⟩ := h
  obtain ⟨g1, g2, g3⟩ := glob_of hg
  refine ⟨iEnumQ b.K t, fun X g => by rw [← g.K]; exact pi_enumQ (g1 X g) (by rw [g.mg]; exact tok.free _ hx) (pa X g) (pl.star _ _), ?_⟩
  intro σ H m S ρ R β G kk gm s r p hR
  refine d.bind gm s r p fun args S1 vs H1 m1 g1 s1 r1 rvs p1 => ?_
  cases et : turns .enum args S1 with
  | none => rw [et] at p1; exact p1.elim
  | some n =>
    rw [et] at p1
    match args, et, rvs, p1 with
    | [d], et, rvs, p1 =>
      obtain ⟨v, hv, rv⟩ := one_of rvs
      cases d with
      | tup ds =>
        obtain ⟨a, vs, ev, sq, rr⟩ := (show ∃ a vs, _ from rv)
        exact ⟨a, by rw [hv, ev], .inr ⟨⟨vs, sq⟩, hR _ n S1 H1 m1 _ g1 s1 r1 (it_enumT sq rr) p1⟩⟩
      | ref k0 =>
        obtain ⟨h0, ev⟩ := (show k0 < S1.length ∧ _ from rv)
        have : ∃ ds, items S1 (.ref k0) = some ds := by
          simp only [turns] at et
          split at et
          · rename_i ds ei; exact ⟨ds, ei⟩
          · cases et
        obtain ⟨ds, ei⟩ := this
        obtain ⟨a, vs, ev', sq, rr⟩ := litems_seq s1 rv (show litems S1 (.ref k0) = some ds from ei)
        rw [ev] at ev'
        cases ev'
        exact ⟨_, by rw [hv, ev], .inl ⟨⟨vs, sq⟩, hR _ n S1 H1 m1 _ g1 s1 r1 (it_enumL h0) p1⟩⟩
      | _ => cases et
    | [], et, _, _ => cases et
    | _ :: _ :: _, et, _, _ => cases et
theorem si_rng2 {xs : List Ex} {tg a c : Expr} {p pos : Pos} (tok : TabOk b.T b.K b.mg) (hx : ("range" : Str) ∈ b.T.free) (hg : glob b.sc "range" = true) (pl : Pl a) (pl2 : Pl c) (h : SA b xs [a, c]) : SI b .rng2 xs tg (.Call (.Name "range" p) [a, c] [] pos) := by
  obtain ⟨t, pa, d⟩ := h
  obtain ⟨g1, g2, g3⟩ := glob_of hg
  refine ⟨iRng2 t, fun X g => pi_range2 (g1 X g) (by rw [g.mg]; exact tok.free _ hx) (pa X g) (by rw [pl.star, pl2.star]; rfl) (by rw [pl2.star]; rfl), ?_⟩
  intro σ H m S ρ R β G kk gm s r p hR
  refine d.bind gm s r p fun args S1 vs H1 m1 g1 s1 r1 rv p1 => ?_
  cases et : turns .rng2 args S1 with
  | none => rw [et] at p1; exact p1.elim
  | some n =>
    rw [et] at p1
    simp only [turns] at et
    split at et
    · cases ‹Src.rng2 = Src.seq›
    · cases ‹Src.rng2 = Src.enum›
    · cases ‹Src.rng2 = Src.rng1›
    · rename_i i j ea
      split at et
      · rename_i hb
        obtain ⟨v, ws, hv, rv1, rv2⟩ := (show ∃ v ws, _ from rv)
        obtain ⟨v2, hv2, rv3⟩ := one_of rv2
        refine ⟨i, j, by rw [hv, hv2, show v = .int i from rv1, show v2 = .int j from rv3], ⟨hb.1.1, hb.1.2, hb.2.1, hb.2.2⟩, ?_⟩
        exact hR _ n S1 H1 m1 _ g1 s1 r1 (it_rng fun i S => rfl) p1
      · cases et
    · cases et
end

/-! ### targets -/
def gsOf : List Nat → TGs
  | [] => gNil
  | i :: is => gCons (gName i) (gsOf is)
def gOf (K : PySem.W.Frag) : Tg → TG
  | .one i => gName i
  | .many is => gTup K is.length (gsOf is)
section
variable {X : Cx}
theorem tgs_pg (nd : X.N.Nodup) {c : Nat → Str → Bool} (hc : ∀ i x, c i x = true → X.N[i]? = some x ∧ Loc X.env.scope x ∧ (X.fn x = true ∨ X.env.scope.names.lookup x = some .local)) : ∀ {is : List Nat} {es : List Expr}, chkTs c is es = true →
    PGs X es (gsOf is) ∧ (assignEach es X.env).length = is.length ∧ (assignEach es X.env).findIdx? (·.1) = none
  | [], [], _ => ⟨pgs_nil, rfl, rfl⟩
  | [], _ :: _, h => by cases h
  | _ :: _, [], h => by cases h
  | i :: is, e :: es, h => by
    cases e with
    | Name x p =>
      have h' : (c i x && chkTs c is es) = true := h
      rw [Bool.and_eq_true] at h'
      obtain ⟨h1, h2, h3⟩ := hc i x h'.1
      obtain ⟨q1, q2, q3⟩ := tgs_pg nd hc h'.2
      refine ⟨pgs_cons (pg_name nd h1 h2 h3) q1, ?_, ?_⟩
      · show (assignEach es X.env).length + 1 = is.length + 1
        rw [q2]
      · show ((false, assign (.Name x p) X.env) :: assignEach es X.env).findIdx? (·.1) = none
        rw [List.findIdx?_cons]
        show (if false = true then some 0 else Option.map (fun i => i + 1) (List.findIdx? (fun x => x.1) (assignEach es X.env))) = none
        rw [if_neg Bool.false_ne_true, q3]
        rfl
    | _ => cases h
theorem tg_pg (hcalm : X.calm = true) (nd : X.N.Nodup) {c : Nat → Str → Bool} (hc : ∀ i x, c i x = true → X.N[i]? = some x ∧ Loc X.env.scope x ∧ (X.fn x = true ∨ X.env.scope.names.lookup x = some .local)) {t : Tg} {e : Expr} (h : chkTg c t e = true) : PG X e (gOf X.K t) := by
  cases t with
  | one i =>
    cases e with
    | Name x p =>
      obtain ⟨h1, h2, h3⟩ := hc i x h
      exact pg_name nd h1 h2 h3
    | _ => cases h
  | many is =>
    cases e with
    | Tuple es k p =>
      obtain ⟨q1, q2, q3⟩ := tgs_pg nd hc (show chkTs c is es = true from h)
      exact pg_tup hcalm q1 q2 q3
    | _ => cases h
end
theorem wipe_set {σ : L2.St} {i : Nat} {o : Option V} : ∀ {vs : List Nat}, i ∈ vs → wipe (σ.set i o) vs = wipe σ vs
  | [], h => by cases h
  | v :: vs, h => by
    show (wipe (σ.set i o) vs).set v none = (wipe σ vs).set v none
    by_cases hi : i ∈ vs
    · rw [wipe_set hi]
    · have e : i = v := by
        rcases List.mem_cons.mp h with e | e
        · exact e
        · exact absurd e hi
      subst e
      have : ∀ {vs : List Nat}, i ∉ vs → wipe (σ.set i o) vs = (wipe σ vs).set i o := fun {vs} hn => by
        induction vs with
        | nil => rfl
        | cons w ws ih =>
          show (wipe (σ.set i o) ws).set w none = ((wipe σ ws).set w none).set i o
          rw [ih (fun z => hn (List.mem_cons_of_mem _ z)), List.set_comm _ _ (fun z => hn (by rw [z]; exact List.mem_cons_self))]
      rw [this hi, List.set_set]
section
variable {K : PySem.W.Frag} {H : Hp} {m : Nat → Addr} {L : Nat}
theorem gs_den : ∀ {is : List Nat} {ds : List D} {ρ ρ' : EnvD} {σ : L2.St} {vs : List V} {Q : L2.St → Hp → Prop}, REnv K H m L ρ σ → RepL K H m L ds vs → setAll is ds ρ = some ρ' →
    (∀ σ', REnv K H m L ρ' σ' → (∀ ws, (∀ i ∈ is, i ∈ ws) → wipe σ' ws = wipe σ ws) → Q σ' H) → gsOf is vs σ H Q
  | [], [], ρ, ρ', σ, vs, Q, r, rv, e, q => by
    have e1 : vs = [] := rv
    cases e
    exact ⟨e1, q σ r fun _ _ => rfl⟩
  | [], _ :: _, _, _, _, _, _, _, _, e, _ => by cases e
  | _ :: _, [], _, _, _, _, _, _, _, e, _ => by cases e
  | i :: is, d :: ds, ρ, ρ', σ, vs, Q, r, rv, e, q => by
    obtain ⟨v, ws, ev, r1, rs⟩ := (show ∃ v ws, _ from rv)
    refine ⟨v, ws, ev, ?_⟩
    refine gs_den (r.set r1) rs e fun σ' r' hw => q σ' r' fun us hu => ?_
    rw [hw us fun j hj => hu j (List.mem_cons_of_mem _ hj)]
    exact wipe_set (hu i List.mem_cons_self)
theorem g_den {t : Tg} {d : D} {ρ ρ' : EnvD} {σ : L2.St} {v : V} {Q : L2.St → Hp → Prop} (r : REnv K H m L ρ σ) (rv : Rep K H m L d v) (e : t.bind d ρ = some ρ')
    (q : ∀ σ', REnv K H m L ρ' σ' → (∀ ws, (∀ i ∈ t.slots, i ∈ ws) → wipe σ' ws = wipe σ ws) → Q σ' H) : gOf K t v σ H Q := by
  cases t with
  | one i =>
    cases e
    exact q _ (r.set rv) fun ws hw => wipe_set (hw i List.mem_cons_self)
  | many is =>
    cases d with
    | tup ds =>
      obtain ⟨a, vs, ev, sq, rr⟩ := (show ∃ a vs, _ from rv)
      have el : vs.length = is.length := by
        have : ∀ {is : List Nat} {ds : List D} {ρ : EnvD}, setAll is ds ρ = some ρ' → ds.length = is.length := fun {is} => by
          induction is with
          | nil => intro ds ρ e; cases ds with
            | nil => rfl
            | cons => cases e
          | cons i is ih => intro ds ρ e; cases ds with
            | nil => cases e
            | cons d ds => exact congrArg Nat.succ (ih e)
        rw [← rr.length]
        exact this (show setAll is ds ρ = some ρ' from e)
      exact ⟨a, vs, ev, sq, el, gs_den r rr e q⟩
    | _ => cases e
end
theorem wipe_env {K : PySem.W.Frag} {H : Hp} {m : Nat → Addr} {L : Nat} {ρ : EnvD} {σ : L2.St} (r : REnv K H m L ρ σ) : ∀ vs : List Nat, REnv K H m L (wipeD ρ vs) (wipe σ vs)
  | [] => r
  | v :: vs => by
    have r' := wipe_env r vs
    refine ⟨by show ((wipeD ρ vs).set v none).length = ((wipe σ vs).set v none).length; rw [List.length_set, List.length_set]; exact r'.len, fun i d e => ?_⟩
    have e' : ((wipeD ρ vs).set v none)[i]? = some (some d) := e
    by_cases hi : v = i
    · subst hi
      have hl : v < (wipeD ρ vs).length := by
        have := lt_of_get e'
        rw [List.length_set] at this
        exact this
      rw [List.getElem?_set_self hl] at e'
      cases e'
    · rw [List.getElem?_set_ne hi] at e'
      obtain ⟨w, h1, h2⟩ := r'.get i d e'
      exact ⟨w, by show ((wipe σ vs).set v none)[i]? = _; rw [List.getElem?_set_ne hi]; exact h1, h2⟩
theorem rs_assoc {α β γ : Type} (a : Rs α) (f : α → Store → Rs β) (g : β → Store → Rs γ) : (a.bind f).bind g = a.bind fun x S => (f x S).bind g := by
  cases a <;> rfl
theorem post_noexc {K : PySem.W.Frag} {E E' : XK} {α : Type} {G : Want α} {H : Hp} {m : Nat → Addr} {S : Store} {r : Rs α} (p : Post K E G H m S (noexc r)) : Post K E' G H m S r := by
  cases r with
  | ok a S' => exact p
  | exc c fs S' => exact p.elim
  | bad => exact p

/-! ### comprehensions -/
section
variable {b : Bd}
abbrev W0 : WX := fun _ _ _ _ => False
/-- the bundle within a comprehension -/
def Bd.blk (b : Bd) (scope : Scope) : Bd := { b with sc := relS scope b.sc, W := W0 }
theorem good_blk {X : Cx} (g : Good b X) (s : Shared) (H : Hp) (scope : Scope) (C : Addr) (cl : List (Str × Addr)) (fp : List Addr) : Good (b.blk scope) (X.blk s H scope (compEnvC scope cl C X.env) fp) :=
  ⟨g.N, g.nd, g.calm, by show relS scope X.env.scope = relS scope b.sc; rw [g.sc], g.room, g.gds, takes0, g.K, g.mg, g.fn⟩
theorem den_comp {k : Src} {src : List Ex} {t : Tg} {c e : Ex} {own : List Nat} {wi : TI} {tt : TT} {te : TE} (dI : DenI b.K b.W wi k (evs b.F src)) (hown : ∀ i ∈ t.slots, i ∈ own)
    (dt : DenT b.K W0 tt fun ρ S => tr (ev b.F c ρ S)) (de : DenE b.K W0 te (ev b.F e)) : DenE b.K b.W (tLc wi (gOf b.K t) tt te own) (ev b.F (.comp own k src t c e)) := by
  intro σ H m S ρ Q s r p
  simp only [ev] at p
  refine dI (kk := fun args n S1 => noexc ((loop (nxt k args) (fun x (_ : Unit) S => compTurn S1.length (ev b.F c) (ev b.F e) (fun x => t.bind x (wipeD ρ own)) x S) n 0 () (S1 ++ [.lst []])).bind fun _ S2 => .ok (.ref S1.length) S2)) GE.mono s r p
    fun args n S1 H1 m1 J g1 s1 r1 it p1 D hD => ?_
  have p1' := post_noexc (E' := fun _ _ _ => False) p1
  -- the new list
  have c0 : CellOk b.K (upd H1 D (.lst [])) (put m1 S1.length D) (S1.length + 1) D (.lst []) := ⟨[], upd_same, rfl⟩
  have s0 := s1.cellNew hD c0
  have g0 : Grow H1 m1 S1 (upd H1 D (.lst [])) (put m1 S1.length D) (S1 ++ [.lst []]) := .cell hD
  have hn0 : S1.length < (S1 ++ [Cell.lst []]).length := by rw [List.length_append]; exact Nat.lt_succ_self _
  refine ⟨fun i m H => ∃ μ S', Grow (upd H1 D (.lst [])) (put m1 S1.length D) (S1 ++ [.lst []]) H μ S' ∧ Sim b.K H μ S' ∧
      Post b.K (fun _ _ _ => False) (GE b.K Q) H μ S' ((loop (nxt k args) (fun x (_ : Unit) S => compTurn S1.length (ev b.F c) (ev b.F e) (fun x => t.bind x (wipeD ρ own)) x S) m i () S').bind fun _ S2 => .ok (.ref S1.length) S2),
    ⟨n, _, _, .refl _ _ _, s0, Post.mono GE.mono g0 p1'⟩, ?_⟩
  rintro i q H2 ⟨μ, S2, g2, s2, p2⟩
  have gT := g0.trans g2
  cases q with
  | zero =>
    unfold loop at p2
    cases en : nxt k args i S2 with
    | none => rw [en] at p2; exact p2.elim
    | some o =>
      cases o with
      | some x => rw [en] at p2; exact p2.elim
      | none =>
        rw [en] at p2
        refine .inl ⟨it.stop gT s2 en, Fin.at p2 s2 ⟨Nat.lt_of_lt_of_le hn0 g2.len, ?_⟩⟩
        rw [g2.old _ hn0, put_new]
  | succ q =>
    unfold loop at p2
    cases en : nxt k args i S2 with
    | none => rw [en] at p2; exact p2.elim
    | some o =>
      cases o with
      | none =>
        rw [en] at p2
        refine .inl ⟨it.stop gT s2 en, Fin.at p2 s2 ⟨Nat.lt_of_lt_of_le hn0 g2.len, ?_⟩⟩
        rw [g2.old _ hn0, put_new]
      | some x =>
        rw [en] at p2
        obtain ⟨hgo, hy⟩ := it.go gT s2 en
        refine .inr ⟨hgo, fun H' => ∃ μ S', Grow (upd H1 D (.lst [])) (put m1 S1.length D) (S1 ++ [.lst []]) H' μ S' ∧ Sim b.K H' μ S' ∧
          Post b.K (fun _ _ _ => False) (GE b.K Q) H' μ S' ((loop (nxt k args) (fun x (_ : Unit) S => compTurn S1.length (ev b.F c) (ev b.F e) (fun x => t.bind x (wipeD ρ own)) x S) q (i + 1) () S').bind fun _ S2 => .ok (.ref S1.length) S2),
          fun H' h => ⟨q, Nat.lt_succ_self _, h⟩, fun v H3 y => ?_⟩
        obtain ⟨g3, s3, rv⟩ := hy v H3 y
        have p3 := Post.mono GE.mono g3 p2
        simp only [compTurn] at p3
        cases eb : t.bind x (wipeD ρ own) with
        | none => rw [eb] at p3; exact p3.elim
        | some ρ' =>
          rw [eb] at p3
          have rE : REnv b.K H3 μ S2.length (wipeD ρ own) (wipe σ own) := wipe_env ((r1.grow gT).grow g3) own
          refine g_den rE rv eb fun σ2 r2 hw => ⟨?_, ?_⟩
          · rw [hw own hown]
            have : ∀ vs : List Nat, (∀ i ∈ vs, i ∈ own) → wipe (wipe σ own) vs = wipe σ own := fun vs => by
              induction vs with
              | nil => intro _; rfl
              | cons v vs ih =>
                intro h
                show (wipe (wipe σ own) vs).set v none = wipe σ own
                rw [ih fun i hi => h i (List.mem_cons_of_mem _ hi)]
                have hv := h v List.mem_cons_self
                have : ∀ {own : List Nat}, v ∈ own → (wipe σ own).set v none = wipe σ own := fun {own} => by
                  induction own with
                  | nil => intro h; cases h
                  | cons w ws ih =>
                    intro h
                    show ((wipe σ ws).set w none).set v none = (wipe σ ws).set w none
                    by_cases hvw : v = w
                    · rw [hvw, List.set_set]
                    · rcases List.mem_cons.mp h with e | e
                      · exact absurd e hvw
                      · rw [List.set_comm _ _ (Ne.symm hvw), ih e]
                exact this hv
            exact this own fun _ h => h
          · rw [rs_assoc, rs_assoc] at p3
            refine dt.bind (W := W0) (f := fun ρ S => tr (ev b.F c ρ S)) GE.mono s3 r2 p3 fun kb S4 H4 m4 g4 s4 r4 p4 => ?_
            have gT4 := (g2.trans g3).trans g4
            cases kb with
            | false =>
              rw [if_neg Bool.false_ne_true] at p4 ⊢
              exact ⟨m4, S4, gT4, s4, p4⟩
            | true =>
              rw [if_pos rfl] at p4 ⊢
              rw [rs_assoc] at p4
              refine de.bind (W := W0) GE.mono s4 r4 p4 fun d S5 v5 H5 m5 g5 s5 r5 rv5 p5 => ?_
              have gT5 := gT4.trans g5
              have e0 : m5 S1.length = D := by rw [gT5.old _ hn0, put_new]
              cases ec : S5[S1.length]? with
              | none => rw [ec] at p5; exact p5.elim
              | some cc =>
                cases cc with
                | ro _ => rw [ec] at p5; exact p5.elim
                | dct _ => rw [ec] at p5; exact p5.elim
                | lst acc =>
                  rw [ec] at p5
                  simp only at p5
                  split at p5
                  · rename_i hl
                    obtain ⟨vs, h1, rr⟩ := (show ∃ vs, _ from s5.cell _ _ ec)
                    have hl2 := rr.length
                    rw [e0] at h1
                    refine ⟨vs, h1, by rw [← line_eq]; omega, m5, S5.set S1.length (.lst (acc ++ [d])), gT5.trans ?_, ?_, ?_⟩
                    · rw [← e0]; exact Grow.write s5 ec rfl
                    · rw [← e0]
                      obtain ⟨o0, h0, n1, n2⟩ := s5.there ec rfl
                      exact s5.write ec rfl ⟨vs ++ [v5], upd_same, (rr.append (.one rv5)).mono (.set h0 n1 n2) (fun _ _ => rfl) (Nat.le_refl _)⟩ rfl
                    · refine Post.mono GE.mono ?_ (show Post b.K (fun _ _ _ => False) (GE b.K Q) H5 m5 S5 _ from p5)
                      rw [← e0]; exact Grow.write s5 ec rfl
                  · exact p5.elim
end
end DL

set_option maxHeartbeats 4000000
/-! DL9: the theorem of the expressions. -/
namespace DL
open PySem PySem.Spec PyProof.Rows L2
section
variable {b : Bd}
theorem chkT_ok {X : Cx} (g : Good b X) (s : Shared) (H : Hp) (scope : Scope) (C : Addr) (cl : List (Str × Addr)) (fp : List Addr) (i : Nat) (x : Str) (h : chkT b.N (relS scope b.sc) scope i x = true) :
    (X.blk s H scope (compEnvC scope cl C X.env) fp).N[i]? = some x ∧ Loc (X.blk s H scope (compEnvC scope cl C X.env) fp).env.scope x ∧
      ((X.blk s H scope (compEnvC scope cl C X.env) fp).fn x = true ∨ (X.blk s H scope (compEnvC scope cl C X.env) fp).env.scope.names.lookup x = some .local) := by
  unfold chkT at h
  simp only [Bool.and_eq_true, Bool.or_eq_true, decide_eq_true_eq] at h
  obtain ⟨h1, h2⟩ := h
  have esc : (X.blk s H scope (compEnvC scope cl C X.env) fp).env.scope = relS scope b.sc := by show relS scope X.env.scope = _; rw [g.sc]
  refine ⟨by show X.N[i]? = _; rw [g.N]; exact h1, ?_, ?_⟩
  · rw [esc]
    rcases h2 with h2 | h2
    · exact .inl h2.2
    · exact .inr h2.2
  · rw [esc]
    rcases h2 with h2 | h2
    · exact .inr h2.2
    · refine .inl ?_
      show (scope.names.lookup x == some .cell) = true
      rw [h2.1]
      rfl
theorem se_comp {k : Src} {src : List Ex} {t : Tg} {c e : Ex} {own : List Nat} {elt tg iter : Expr} {ifs : List Expr} {scope : Scope} {pos : Pos} (hI : SI b k src tg iter) (hf : ∀ env v, foldedSetIterable iter env v = pure v)
    (hB : blkC b.N b.sc scope (own.map fun i => (b.N.getD i "", i)) = true) (hT : chkTg (chkT b.N (relS scope b.sc) scope) t tg = true) (hO : ∀ i ∈ t.slots, i ∈ own) (he : SE (b.blk scope) e elt)
    (hc : (ifs = [] ∧ c = .cst (.bl true)) ∨ ∃ x, ifs = [x] ∧ notIf c = true ∧ SE (b.blk scope) c x) : SE b (.comp own k src t c e) (.ListComp elt [⟨tg, iter, ifs, 0⟩] scope pos) := by
  obtain ⟨wi, pi, dI⟩ := hI
  obtain ⟨⟨te, pe, de⟩, _⟩ := he
  have eown : (own.map fun i => (b.N.getD i "", i)).map (·.2) = own := by rw [List.map_map]; exact List.map_id' own
  have hc' : ∃ tt, (∀ X, Good (b.blk scope) X → PTs X ifs tt) ∧ DenT b.K W0 tt fun ρ S => tr (ev b.F c ρ S) := by
    rcases hc with ⟨rfl, rfl⟩ | ⟨x, rfl, nc, _, hx⟩
    · refine ⟨tYes, fun _ _ => pts_nil, ?_⟩
      intro σ H m S ρ Q s r p
      exact p H m (.refl _ _ _) s
    · obtain ⟨tt, pt, dt⟩ := hx nc
      exact ⟨tt, fun X g => pts_one (pt X g), dt⟩
  obtain ⟨tt, pt, dt⟩ := hc'
  refine se_of (t := tLc wi (gOf b.K t) tt te own) (fun X g => ?_) (den_comp dI hO dt de) (fun _ _ => rfl)
  have h := pe_lc (X := X) (pos := pos) (own := own.map fun i => (b.N.getD i "", i)) (g := gOf X.K t) (tt := tt) (te := te) g.calm g.nd (pi X g) (by rw [g.N, g.sc]; exact blkOk_by hB)
    (fun s H C cl fp => tg_pg (X := X.blk s H scope (compEnvC scope cl C X.env) fp) g.calm g.nd (chkT_ok g s H scope C cl fp) hT) (fun s H C cl fp => pt _ (good_blk g s H scope C cl fp)) (fun s H C cl fp => pe _ (good_blk g s H scope C cl fp)) (hf _)
  rw [eown, g.K] at h
  exact h
end
theorem tab_blk {b : Bd} {scope : Scope} (t : TabOk b.T b.K b.mg) : TabOk (b.blk scope).T (b.blk scope).K (b.blk scope).mg := t
mutual
theorem sndE : ∀ (x : Ex) {b : Bd} {e : Expr}, TabOk b.T b.K b.mg → chk b.T b.N b.sc x e = true → SE b x e
  | .var i, b, e, tok, h => by
    cases e with
    | Name x p => exact se_var h
    | _ => unfold chk at h; cases h
  | .cst d, b, e, tok, h => se_cst h
  | .glb x d, b, e, tok, h => se_glb tok h
  | .tyc n, b, e, tok, h => se_tyc tok h
  | .dct kvs, b, e, tok, h => se_dct h
  | .tup es, b, e, tok, h => by
    unfold chk at h
    split at h
    · exact se_tup (sndA es tok h)
    · cases h
  | .lst es, b, e, tok, h => by
    unfold chk at h
    split at h
    · exact se_lst (sndA es tok h)
    · cases h
  | .op o x y, b, e, tok, h => by
    unfold chk at h
    split at h
    · simp only [Bool.and_eq_true, decide_eq_true_eq] at h
      exact se_bin h.1.1 (sndE x tok h.1.2) (sndE y tok h.2)
    · simp only [Bool.and_eq_true, decide_eq_true_eq] at h
      exact se_cmp h.1.1 (pl_of (chk_shape h.2)) (sndE x tok h.1.2) (sndE y tok h.2)
    · cases h
  | .chain o o' x y z, b, e, tok, h => by
    unfold chk at h
    split at h
    · simp only [Bool.and_eq_true, decide_eq_true_eq] at h
      exact se_chain h.1.1.1.1 h.1.1.1.2 (pl_of (chk_shape h.2)) (sndE x tok h.1.1.2) (sndE y tok h.1.2) (sndE z tok h.2)
    · cases h
  | .rev x, b, e, tok, h => by
    unfold chk at h
    split at h
    · exact se_rev (sndE x tok h)
    · cases h
  | .bad, b, e, tok, h => se_bad
  | .neg x, b, e, tok, h => by
    unfold chk at h
    split at h
    · exact se_neg (sndE x tok h)
    · cases h
  | .isN k x, b, e, tok, h => by
    unfold chk at h
    split at h
    · simp only [Bool.and_eq_true, Bool.not_eq_true'] at h
      obtain ⟨rfl, h⟩ := h
      exact se_is (sndE x tok h)
    · simp only [Bool.and_eq_true] at h
      obtain ⟨rfl, h⟩ := h
      exact se_isnot (sndE x tok h)
    · cases h
  | .and x y, b, e, tok, h => by
    unfold chk at h
    split at h
    · simp only [Bool.and_eq_true] at h
      exact se_and2 h.1.1.1 h.1.1.2 (sndE x tok h.1.2) (sndE y tok h.2)
    · simp only [Bool.and_eq_true] at h
      exact se_and3 h.1.1.1 h.1.1.2 (sndE x tok h.1.2) (sndE y tok h.2)
    · cases h
  | .or x y, b, e, tok, h => by
    unfold chk at h
    split at h
    · simp only [Bool.and_eq_true] at h
      exact se_or2 h.1.1.1 h.1.1.2 (sndE x tok h.1.2) (sndE y tok h.2)
    · simp only [Bool.and_eq_true] at h
      exact se_or3 h.1.1.1 h.1.1.2 (sndE x tok h.1.2) (sndE y tok h.2)
    · cases h
  | .not x, b, e, tok, h => by
    unfold chk at h
    split at h
    · simp only [Bool.and_eq_true] at h
      exact se_not h.1 (sndE x tok h.2)
    · cases h
  | .ifx c x y, b, e, tok, h => by
    unfold chk at h
    split at h
    · simp only [Bool.and_eq_true] at h
      exact se_if h.1.1.1 (sndE c tok h.1.1.2) (sndE x tok h.1.2) (sndE y tok h.2)
    · cases h
  | .ix x y, b, e, tok, h => by
    unfold chk at h
    split at h
    · simp only [Bool.and_eq_true] at h
      exact se_ix (pl_of (chk_shape h.2)) (sndE x tok h.1) (sndE y tok h.2)
    · cases h
  | .cutL x y, b, e, tok, h => by
    unfold chk at h
    split at h
    · simp only [Bool.and_eq_true] at h
      exact se_cutL (sndE x tok h.1) (sndE y tok h.2)
    · cases h
  | .cutH x y, b, e, tok, h => by
    unfold chk at h
    split at h
    · simp only [Bool.and_eq_true] at h
      exact se_cutH (sndE x tok h.1) (sndE y tok h.2)
    · cases h
  | .cutB x y z, b, e, tok, h => by
    unfold chk at h
    split at h
    · simp only [Bool.and_eq_true] at h
      exact se_cutB (sndE x tok h.1.1) (sndE y tok h.1.2) (sndE z tok h.2)
    · cases h
  | .call f es, b, e, tok, h => by
    unfold chk at h
    split at h
    · simp only [Bool.and_eq_true, decide_eq_true_eq] at h
      exact se_call h.1.1 h.1.2 (chks_pl h.2) (chks_len h.2) (sndA es tok h.2)
    · cases h
  | .blt k es, b, e, tok, h => by
    unfold chk at h
    split at h
    · simp only [Bool.and_eq_true, decide_eq_true_eq] at h
      obtain ⟨⟨⟨rfl, h2⟩, h3⟩, h4⟩ := h
      exact se_blt tok h3 h2 (chks_pl h4) (sndA es tok h4)
    · cases h
  | .mth k o es, b, e, tok, h => by
    unfold chk at h
    split at h
    · simp only [Bool.and_eq_true, decide_eq_true_eq] at h
      obtain ⟨⟨⟨⟨rfl, h2⟩, h3⟩, h4⟩, h5⟩ := h
      exact se_mth (pl_of (chk_shape h4)) h2 h3 (chks_pl h5) (sndE o tok h4) (sndA es tok h5)
    · cases h
  | .comp own k src t c el, b, e, tok, h => by
    unfold chk at h
    split at h
    · rename_i elt tg iter ifs scope pos
      simp only [Bool.and_eq_true, List.all_eq_true, decide_eq_true_eq] at h
      obtain ⟨⟨⟨⟨⟨hB, hT⟩, hO⟩, hE⟩, hF⟩, hS⟩ := h
      have hc : (ifs = [] ∧ c = .cst (.bl true)) ∨ ∃ x, ifs = [x] ∧ notIf c = true ∧ SE (b.blk scope) c x := by
        split at hF
        · refine .inl ⟨rfl, ?_⟩
          split at hF
          · rfl
          · cases hF
        · rw [Bool.and_eq_true] at hF
          exact .inr ⟨_, rfl, hF.1, sndE c (tab_blk tok) hF.2⟩
        · cases hF
      have hI : SI b k src tg iter ∧ ∀ env v, foldedSetIterable iter env v = pure v := by
        cases k with
        | seq =>
          have hA := sndA src tok hS
          match src, hS, hA with
          | [x], hS, hA =>
            unfold chks at hS
            rw [Bool.and_eq_true] at hS
            exact ⟨si_seq (sndE' [x] tok x List.mem_cons_self hS.1), (pl_of (chk_shape hS.1)).fold⟩
          | [], hS, hA => unfold chks at hS; cases hS
          | _ :: _ :: _, hS, hA => unfold chks at hS; rw [Bool.and_eq_true] at hS; have := hS.2; unfold chks at this; cases this
        | rng1 =>
          simp only at hS
          split at hS
          · simp only [Bool.and_eq_true, decide_eq_true_eq] at hS
            obtain ⟨⟨⟨rfl, h2⟩, h3⟩, h4⟩ := hS
            exact ⟨si_rng1 tok h3 h2 (chks_pl h4 _ List.mem_cons_self) (sndA src tok h4), fun _ _ => rfl⟩
          · cases hS
        | rng2 =>
          simp only at hS
          split at hS
          · simp only [Bool.and_eq_true, decide_eq_true_eq] at hS
            obtain ⟨⟨⟨rfl, h2⟩, h3⟩, h4⟩ := hS
            exact ⟨si_rng2 tok h3 h2 (chks_pl h4 _ List.mem_cons_self) (chks_pl h4 _ (List.mem_cons_of_mem _ List.mem_cons_self)) (sndA src tok h4), fun _ _ => rfl⟩
          · cases hS
        | enum =>
          simp only at hS
          split at hS
          · simp only [Bool.and_eq_true, decide_eq_true_eq] at hS
            obtain ⟨⟨⟨rfl, h2⟩, h3⟩, h4⟩ := hS
            exact ⟨si_enum tok h3 h2 (chks_pl h4 _ List.mem_cons_self) (sndA src tok h4), fun _ _ => rfl⟩
          · cases hS
      exact se_comp hI.1 hI.2 hB hT hO (sndE el (tab_blk tok) hE) hc
    · cases h
theorem sndA : ∀ (xs : List Ex) {b : Bd} {es : List Expr}, TabOk b.T b.K b.mg → chks b.T b.N b.sc xs es = true → SA b xs es
  | [], b, es, tok, h => by
    unfold chks at h
    split at h
    · exact sa_nil
    · cases h
  | x :: xs, b, es, tok, h => by
    unfold chks at h
    split at h
    · rw [Bool.and_eq_true] at h
      exact sa_cons (pl_of (chk_shape h.1)) (sndE x tok h.1) (sndA xs tok h.2)
    · cases h
/-- each of some expressions by itself -/
theorem sndE' : ∀ (xs : List Ex) {b : Bd}, TabOk b.T b.K b.mg → ∀ x ∈ xs, ∀ {e : Expr}, chk b.T b.N b.sc x e = true → SE b x e
  | [], b, tok, x, hx, e, h => by cases hx
  | y :: ys, b, tok, x, hx, e, h => by
    rcases List.mem_cons.mp hx with r | r
    · rw [r] at h ⊢
      exact sndE y tok h
    · exact sndE' ys tok x r h
end
end DL

set_option maxHeartbeats 4000000
/-! DL10: statements. -/
namespace DL
open PySem PySem.Spec PyProof.Rows L2

/-! ### stores that are swapped -/
def starred : Expr → Bool
  | .Starred _ _ => true
  | _ => false
def swpN (sc : Scope) (line : Nat) : Expr → Option Str
  | .Name id pos => if sc.names.lookup id == some .local && pos.line == line then some id else none
  | _ => none
def swpL (sc : Scope) (ts vs : List Expr) : Option (Option (List Str)) :=
  if (!(ts.length == 2 || ts.length == 3) || vs.length != ts.length) = true then some none
  else if (vs.any starred) = true then some none
  else if ((ts.filterMap (swpN sc ((ts.head?.map (·.pos.line)).getD 0))).length != ts.length || (ts.filterMap (swpN sc ((ts.head?.map (·.pos.line)).getD 0))).eraseDups.length != (ts.filterMap (swpN sc ((ts.head?.map (·.pos.line)).getD 0))).length) = true then some none
  else if (vs.all (foldedForSure 8)) = true then some none
  else if (vs.all (constantsAlone 8)) = true then none
  else some (some (ts.filterMap (swpN sc ((ts.head?.map (·.pos.line)).getD 0))))
theorem blk_fn {env : PySem.Env} (h : env.scope.kind = .function) : env.blockKind = .function := by
  unfold Env.blockKind; rw [h]; rfl
theorem swp_ok {env : PySem.Env} (hk : env.scope.kind = .function) {ts vs : List Expr} {kt k2 : Nat} {pt p2 : Pos} {o : Option (List Str)} (h : swpL env.scope ts vs = some o) :
    swappedStores [.Tuple ts kt pt] (.Tuple vs k2 p2) env = pure o := by
  unfold swpL at h
  unfold swappedStores
  have hb := blk_fn hk
  have e1 : (fun x : Expr => match x with | .Starred _ _ => true | _ => false) = starred := by funext x; cases x <;> rfl
  have e2 : ∀ line : Nat, (fun x : Expr => match x with | .Name id pos => if (env.kindOf id == some .local && pos.line == line) = true then some id else none | _ => none) = swpN env.scope line := fun line => by funext x; cases x <;> rfl
  simp only [hb] at *
  have e3 : (ScopeKind.function != ScopeKind.function) = false := by decide
  rw [e3, Bool.or_false]
  split at h
  · rename_i c1
    simp only [c1, if_true]
    cases h; rfl
  · rename_i c1
    simp only [if_neg c1, pure_bind, bind_pure_comp]
    generalize hn : ts.filterMap (swpN env.scope ((ts.head?.map (·.pos.line)).getD 0)) = ns at h
    have hn' := hn
    change (if (vs.any starred) = true then pure none else if ((ts.filterMap (swpN env.scope ((ts.head?.map (·.pos.line)).getD 0))).length != ts.length || (ts.filterMap (swpN env.scope ((ts.head?.map (·.pos.line)).getD 0))).eraseDups.length != (ts.filterMap (swpN env.scope ((ts.head?.map (·.pos.line)).getD 0))).length) = true then pure none else if (vs.all (foldedForSure 8)) = true then pure none else if (vs.all (constantsAlone 8)) = true then _ else pure (some (ts.filterMap (swpN env.scope ((ts.head?.map (·.pos.line)).getD 0))))) = pure o
    rw [hn]
    split at h
    · rename_i c2
      rw [if_pos c2]; cases h; rfl
    · rename_i c2
      rw [if_neg c2]
      split at h
      · rename_i c3
        rw [if_pos c3]; cases h; rfl
      · rename_i c3
        rw [if_neg c3]
        split at h
        · rename_i c4
          rw [if_pos c4]; cases h; rfl
        · rename_i c4
          rw [if_neg c4]
          split at h
          · cases h
          · rename_i c5
            rw [if_neg c5]; cases h; rfl

/-! ### the look -/
def loc (sc : Scope) (x : Str) : Bool := decide (sc.names.lookup x = some .local) || decide (sc.names.lookup x = some .cell)
def notComp : Expr → Bool
  | .ListComp _ _ _ _ => false
  | _ => true
section
variable (T : Tab) (N : List Str) (sc : Scope)
def chkL (i : Nat) (x : Str) : Bool := decide (N[i]? = some x) && loc sc x
def chkP (i : Nat) (x : Str) : Bool := decide (N[i]? = some x) && decide (sc.names.lookup x = some .local)
def chkSrc (k : Src) (src : List Ex) (tg iter : Expr) : Bool := match k with
  | .seq => chks T N sc src [iter]
  | .rng1 => (match iter with
    | .Call (.Name x _) [a] [] _ => decide (x = "range") && glob sc x && decide (x ∈ T.free) && chks T N sc src [a]
    | _ => false)
  | .rng2 => (match iter with
    | .Call (.Name x _) [a, b] [] _ => decide (x = "range") && glob sc x && decide (x ∈ T.free) && chks T N sc src [a, b]
    | _ => false)
  | .enum => (match iter, tg with
    | .Call (.Name x _) [a] [] _, .Tuple _ _ _ => decide (x = "enumerate") && glob sc x && decide (x ∈ T.free) && chks T N sc src [a]
    | _, _ => false)
def swpNone (tg v : Expr) : Bool := match tg, v with
  | .Tuple ts _ _, .Tuple vs _ _ => (match swpL sc ts vs with
    | some none => true
    | _ => false)
  | .Tuple _ _ _, _ => true
  | _, _ => false
def swpSome (ts vs : List Expr) (xs : List Str) : Bool := match swpL sc ts vs with
  | some (some ys) => decide (xs = ys)
  | _ => false
def chkNm (i : Nat) (x : Str) : Bool := decide (N[i]? = some x) && vis sc x && !(x == ("__debug__" : Str)) && !(x == ("__classdict__" : Str))
def chkHP (c : Str) (i : Nat) : HP → Expr → Bool
  | .cst d, e => chk T N sc (.cst d) e
  | .var j, e => decide (j ≠ i) && (match e with
    | .Name x _ => chkNm N sc j x
    | _ => false)
  | .fld f, e => (match e with
    | .Attribute (.Name x _) g _ => chkNm N sc i x && decide (f = g) && decide ((c, f) ∈ T.exc)
    | _ => false)
  | .isE n k, e => (match e with
    | .Call (.Name z _) [.Name x _, .Name w _] [] _ => decide (z = "isinstance") && glob sc z && decide (z ∈ T.free) && chkNm N sc i x && decide (w = Str.ofString n) && glob sc w && decide (w ∈ T.free) && decide (bootBuiltins w = some (.type n)) && decide ((c, n, k) ∈ T.isx)
    | _ => false)
  | .rpr f, e => (match e with
    | .Call (.Name z _) [.Attribute (.Name x _) g _] [] _ => decide (z = "repr") && glob sc z && decide (z ∈ T.free) && chkNm N sc i x && decide (f = g) && decide ((c, f) ∈ T.exc)
    | _ => false)
def chkHPs (c : Str) (i : Nat) : List HP → List Expr → Bool
  | [], es => (match es with
    | [] => true
    | _ => false)
  | p :: ps, es => (match es with
    | e :: es => chkHP T N sc c i p e && chkHPs c i ps es
    | [] => false)
def chkHT (c : Str) (i : Nat) : HT → Expr → Bool
  | .one p, e => chkHP T N sc c i p e
  | .tup ps, e => (match e with
    | .Tuple es _ _ => chkHPs T N sc c i ps es
    | _ => false)
  | .lst ps, e => (match e with
    | .List es _ => chkHPs T N sc c i ps es
    | _ => false)
def chkHd (c : Str) (i : Nat) : Hd → Stmt → Bool
  | .ret t, s => (match s with
    | .Return (some v) _ => chkHT T N sc c i t v
    | _ => false)
  | .set j t, s => (match s with
    | .Assign [.Name x _] v _ => chkP N sc j x && chkHT T N sc c i t v && notComp v
    | _ => false)
def chkTb : Tb → Stmt → Bool
  | .ret e, s => (match s with
    | .Return (some v) _ => chk T N sc e v
    | _ => false)
  | .set j e, s => (match s with
    | .Assign [.Name x _] v _ => chkL N sc j x && chk T N sc e v && notComp v
    | _ => false)
  | .ex e, s => (match s with
    | .Expr v _ => chk T N sc e v && notComp v
    | _ => false)
mutual
def chkS : Sm → Stmt → Bool
  | .set i e, s => match s with
    | .Assign [.Name x _] v _ => chkL N sc i x && chk T N sc e v
    | _ => false
  | .tgt t e, s => match s with
    | .Assign [tg] v _ => swpNone sc tg v && chkTg (chkL N sc) t tg && chk T N sc e v && notComp v
    | _ => false
  | .par is es, s => match s with
    | .Assign [.Tuple [.Name x px, .Name y py] _ _] (.Tuple [a, c] _ _) _ => (match is with
      | [i, j] => chkP N sc i x && chkP N sc j y && decide (i ≠ j) && chks T N sc es [a, c] && swpSome sc [.Name x px, .Name y py] [a, c] [x, y]
      | _ => false)
    | .Assign [.Tuple [.Name x px, .Name y py, .Name z pz] _ _] (.Tuple [a, c, d] _ _) _ => (match is with
      | [i, j, l] => chkP N sc i x && chkP N sc j y && chkP N sc l z && decide (i ≠ j) && decide (i ≠ l) && decide (j ≠ l) && chks T N sc es [a, c, d] && swpSome sc [.Name x px, .Name y py, .Name z pz] [a, c, d] [x, y, z]
      | _ => false)
    | _ => false
  | .put o i e, s => match s with
    | .Assign [.Subscript o' i' _] v _ => chk T N sc o o' && chk T N sc i i' && chk T N sc e v
    | _ => false
  | .ex e, s => match s with
    | .Expr v _ => chk T N sc e v && notComp v
    | _ => false
  | .ret e, s => match s with
    | .Return (some v) _ => chk T N sc e v
    | _ => false
  | .retN, s => match s with
    | .Return none _ => true
    | _ => false
  | .ite c a b, s => match s with
    | .If t x y _ => notIf c && chk T N sc c t && chkSs a x && chkSs b y
    | _ => false
  | .for t k src b, s => match s with
    | .For tg iter body [] _ => chkTg (chkL N sc) t tg && chkSrc T N sc k src tg iter && chkSs b body
    | _ => false
  | .pass, s => match s with
    | .Pass _ => true
    | _ => false
  | .brk, s => match s with
    | .Break _ => true
    | _ => false
  | .stuck, _ => true
  | .cnt, s => match s with
    | .Continue _ => true
    | _ => false
  | .tryA c i b h, s => match s with
    | .Try [bs] [.ExceptHandler (some (.Name x _)) (some n) [hs] _] [] [] _ => decide (x = c) && glob sc c && chkP N sc i n && (T.exc.any fun p => decide (p.1 = c)) && chkTb T N sc b bs && chkHd T N sc c i h hs
    | _ => false
  | .raise c f e, s => match s with
    | .Raise (some (.Call (.Name x _) [v] [] _)) none _ => decide (x = c) && decide ((c, f) ∈ T.exc) && glob sc c && chk T N sc e v
    | _ => false
def chkSs : List Sm → List Stmt → Bool
  | [], ss => match ss with
    | [] => true
    | _ => false
  | x :: xs, ss => match ss with
    | s :: ss => chkS x s && chkSs xs ss
    | [] => false
end
end

/-! ### what a statement owes -/
abbrev GS (K : PySem.W.Frag) (D : Ends) : Want Fl := fun H m S fl S' => ∀ H' m', Grow H m S H' m' S' → Sim K H' m' S' → match fl with
  | .nx ρ => ∀ σ, REnv K H' m' S'.length ρ σ → D.nx σ H'
  | .bk ρ => ∀ σ, REnv K H' m' S'.length ρ σ → D.bk σ H'
  | .ct ρ => ∀ σ, REnv K H' m' S'.length ρ σ → D.ct σ H'
  | .rt d => ∀ v, Rep K H' m' S'.length d v → D.rt v H'
theorem GS.mono {K : PySem.W.Frag} {D : Ends} : Mono (GS K D) := ⟨fun g f H' m' g' s => f H' m' (g.trans g') s⟩
def DenS (K : PySem.W.Frag) (E : XK) (t : TS) (f : EnvD → Store → Rs Fl) : Prop :=
  ∀ {σ : L2.St} {H : Hp} {m : Nat → Addr} {S : Store} {ρ : EnvD} {D : Ends}, Sim K H m S → REnv K H m S.length ρ σ → Post K E (GS K D) H m S (f ρ S) → t D σ H
structure GoodS (b : Bd) (X : Cx) : Prop where
  g : Good b X
  pass : PassesOwn (model X.prog X.w) X.A X.env X.xe
  fnT : ∀ x, X.fn x = true
  kind : X.env.scope.kind = .function
  roomX : Room 2 X.A
  stk : X.stack = X.env :: X.outer
  frm : X.env.frame = some X.env.locals
  exc : ∀ p ∈ b.T.exc, ∀ C fI : Addr, PySem.W.nsIn X.K mainGlobals p.1 = some (some (.ref C)) → XcK X.K C fI p.2 → ∃ (fd : FuncData) (ps : List Str), FnOk X.prog X.w X.K X.mg X.base CX0 1 fI fd ps (spInit X.K C p.2) ∧ Binds X.K fd ps []
/-- the wish about exceptions does not ask for the slots -/
structure Flat (b : Bd) (E : XK) : Prop where
  eq : b.W = fun c d _ H => E c d H
section
variable {b : Bd} {E : XK}
def SS (b : Bd) (E : XK) (x : Sm) (s : Stmt) : Prop := ∃ t, (∀ X, GoodS b X → PS X s t) ∧ DenS b.K E t (run b.F x)
def SSs (b : Bd) (E : XK) (x : List Sm) (s : List Stmt) : Prop := ∃ t, (∀ X, GoodS b X → PSs X s t) ∧ DenS b.K E t (runs b.F x)
theorem Flat.we (f : Flat b E) (σ : L2.St) : WE b.W σ = E := by rw [f.eq]
theorem chkL_ok {X : Cx} (g : GoodS b X) (i : Nat) (x : Str) (h : chkL b.N b.sc i x = true) : X.N[i]? = some x ∧ Loc X.env.scope x ∧ (X.fn x = true ∨ X.env.scope.names.lookup x = some .local) := by
  unfold chkL loc at h
  simp only [Bool.and_eq_true, Bool.or_eq_true, decide_eq_true_eq] at h
  refine ⟨by rw [g.g.N]; exact h.1, ?_, .inl (g.fnT x)⟩
  rw [g.g.sc]
  exact h.2
theorem chkP_ok {X : Cx} (g : GoodS b X) (i : Nat) (x : Str) (h : chkP b.N b.sc i x = true) : X.N[i]? = some x ∧ X.env.scope.names.lookup x = some .local := by
  unfold chkP at h
  simp only [Bool.and_eq_true, decide_eq_true_eq] at h
  refine ⟨by rw [g.g.N]; exact h.1, ?_⟩
  rw [g.g.sc]
  exact h.2
theorem swap_no {e : Expr} (h : shape e = true) (hn : notComp e = true) (tgt : Option Expr) (l : Nat) (env : PySem.Env) : swapsWith e tgt l env = pure false := by
  cases e <;> first | rfl | (exact absurd hn Bool.false_ne_true) | (exact absurd h Bool.false_ne_true)
theorem swap_sub {e : Expr} (h : shape e = true) (o i : Expr) (p : Pos) (l : Nat) (env : PySem.Env) : swapsWith e (some (.Subscript o i p)) l env = pure false := by
  cases e <;> first | rfl | cases h
/-- DenE at a flat wish -/
theorem den_flat (f : Flat b E) {x : Ex} {t : TE} (d : DenE b.K b.W t (ev b.F x)) {β : Type} {G : Want β} (gm : Mono G) {σ : L2.St} {H : Hp} {m : Nat → Addr} {S : Store} {ρ : EnvD} (s : Sim b.K H m S) (r : REnv b.K H m S.length ρ σ) {k : D → Store → Rs β} (p : Post b.K E G H m S ((ev b.F x ρ S).bind k)) {Q : VK}
    (hq : ∀ d S1 v H1 m1, Grow H m S H1 m1 S1 → Sim b.K H1 m1 S1 → REnv b.K H1 m1 S1.length ρ σ → Rep b.K H1 m1 S1.length d v → Post b.K E G H1 m1 S1 (k d S1) → Q v H1) : t σ H Q := by
  have e := f.we σ
  refine d.bind gm s r (by rw [e]; exact p) fun d S1 v H1 m1 g1 s1 r1 rv p1 => hq d S1 v H1 m1 g1 s1 r1 rv (by rw [e] at p1; exact p1)
theorem ss_plain (f : Flat b E) {i : Nat} {x : Ex} {t : TE} (d : DenE b.K b.W t (ev b.F x)) : DenS b.K E (tAsg t (gName i)) (run b.F (.set i x)) := by
  intro σ H m S ρ D s r p
  refine den_flat f d GS.mono s r p fun d S1 v H1 m1 g1 s1 r1 rv p1 => ?_
  exact p1 H1 m1 (.refl _ _ _) s1 _ (r1.set rv)
/-- a comprehension given to a name -/
theorem lc_parts {k : Src} {src : List Ex} {t : Tg} {c e : Ex} {own : List Nat} {ex : Expr} (tok : TabOk b.T b.K b.mg) (h : chk b.T b.N b.sc (.comp own k src t c e) ex = true) :
    ∃ (elt tg iter : Expr) (ifs : List Expr) (scope : Scope) (pos : Pos) (u : TE), ex = .ListComp elt [⟨tg, iter, ifs, 0⟩] scope pos ∧ DenE b.K b.W u (ev b.F (.comp own k src t c e)) ∧ (∀ X, Good b X → PE X ex u) ∧
      ∀ X, Good b X → ∀ (i : Nat) (y : Str) (py spos : Pos), X.N[i]? = some y → X.env.scope.names.lookup y = some .local → swapsWith ex (some (.Name y py)) spos.line X.env = pure true →
        PS X (.Assign [.Name y py] ex spos) (tAsg u (gName i)) := by
  unfold chk at h
  split at h
  · rename_i elt tg iter ifs scope pos
    simp only [Bool.and_eq_true, List.all_eq_true, decide_eq_true_eq] at h
    obtain ⟨⟨⟨⟨⟨hB, hT⟩, hO⟩, hE⟩, hF⟩, hS⟩ := h
    have hI : SI b k src tg iter ∧ ∀ env v, foldedSetIterable iter env v = pure v := by
      cases k with
      | seq =>
        match src, hS with
        | [x], hS =>
          unfold chks at hS
          rw [Bool.and_eq_true] at hS
          exact ⟨si_seq (sndE x tok hS.1), (pl_of (chk_shape hS.1)).fold⟩
        | [], hS => unfold chks at hS; cases hS
        | _ :: _ :: _, hS => unfold chks at hS; rw [Bool.and_eq_true] at hS; have := hS.2; unfold chks at this; cases this
      | rng1 =>
        simp only at hS
        split at hS
        · simp only [Bool.and_eq_true, decide_eq_true_eq] at hS
          obtain ⟨⟨⟨rfl, h2⟩, h3⟩, h4⟩ := hS
          exact ⟨si_rng1 tok h3 h2 (chks_pl h4 _ List.mem_cons_self) (sndA src tok h4), fun _ _ => rfl⟩
        · cases hS
      | rng2 =>
        simp only at hS
        split at hS
        · simp only [Bool.and_eq_true, decide_eq_true_eq] at hS
          obtain ⟨⟨⟨rfl, h2⟩, h3⟩, h4⟩ := hS
          exact ⟨si_rng2 tok h3 h2 (chks_pl h4 _ List.mem_cons_self) (chks_pl h4 _ (List.mem_cons_of_mem _ List.mem_cons_self)) (sndA src tok h4), fun _ _ => rfl⟩
        · cases hS
      | enum =>
        simp only at hS
        split at hS
        · simp only [Bool.and_eq_true, decide_eq_true_eq] at hS
          obtain ⟨⟨⟨rfl, h2⟩, h3⟩, h4⟩ := hS
          exact ⟨si_enum tok h3 h2 (chks_pl h4 _ List.mem_cons_self) (sndA src tok h4), fun _ _ => rfl⟩
        · cases hS
    obtain ⟨⟨wi, pi, dI⟩, hf⟩ := hI
    obtain ⟨⟨te, pe, de⟩, _⟩ := sndE e (b := b.blk scope) (tab_blk tok) hE
    have eown : (own.map fun i => (b.N.getD i "", i)).map (·.2) = own := by rw [List.map_map]; exact List.map_id' own
    have hc' : ∃ tt, (∀ X, Good (b.blk scope) X → PTs X ifs tt) ∧ DenT b.K W0 tt fun ρ S => tr (ev b.F c ρ S) := by
      split at hF
      · split at hF
        · refine ⟨tYes, fun _ _ => pts_nil, ?_⟩
          intro σ H m S ρ Q s r p
          exact p H m (.refl _ _ _) s
        · cases hF
      · rw [Bool.and_eq_true] at hF
        obtain ⟨_, hx⟩ := sndE c (b := b.blk scope) (tab_blk tok) hF.2
        obtain ⟨tt, pt, dt⟩ := hx hF.1
        exact ⟨tt, fun X g => pts_one (pt X g), dt⟩
      · cases hF
    obtain ⟨tt, pt, dt⟩ := hc'
    refine ⟨elt, tg, iter, ifs, scope, pos, tLc wi (gOf b.K t) tt te own, rfl, den_comp dI hO dt de, fun X g => ?_, fun X g i y py spos hy hl hsw => ?_⟩
    · have h := pe_lc (X := X) (pos := pos) (own := own.map fun i => (b.N.getD i "", i)) (g := gOf X.K t) (tt := tt) (te := te) g.calm g.nd (pi X g) (by rw [g.N, g.sc]; exact blkOk_by hB)
        (fun s H C cl fp => tg_pg (X := X.blk s H scope (compEnvC scope cl C X.env) fp) g.calm g.nd (chkT_ok g s H scope C cl fp) hT) (fun s H C cl fp => pt _ (good_blk g s H scope C cl fp)) (fun s H C cl fp => pe _ (good_blk g s H scope C cl fp)) (hf _)
      rw [eown, g.K] at h
      exact h
    · have h := ps_setLc (X := X) (pos := pos) (own := own.map fun i => (b.N.getD i "", i)) (g := gOf X.K t) (tt := tt) (te := te) g.calm g.nd hy hl hsw (pi X g) (by rw [g.N, g.sc]; exact blkOk_by hB)
        (fun s H C cl fp => tg_pg (X := X.blk s H scope (compEnvC scope cl C X.env) fp) g.calm g.nd (chkT_ok g s H scope C cl fp) hT) (fun s H C cl fp => pt _ (good_blk g s H scope C cl fp)) (fun s H C cl fp => pe _ (good_blk g s H scope C cl fp)) (hf _)
      rw [eown, g.K] at h
      exact h
  · cases h
theorem ss_set (f : Flat b E) (tok : TabOk b.T b.K b.mg) {i : Nat} {x : Ex} {y : Str} {v : Expr} {p pos : Pos} (h1 : chkL b.N b.sc i y = true) (h2 : chk b.T b.N b.sc x v = true) : SS b E (.set i x) (.Assign [.Name y p] v pos) := by
  cases hn : notComp v with
  | true =>
    obtain ⟨⟨t, pe, d⟩, _⟩ := sndE x tok h2
    refine ⟨_, fun X g => ?_, ss_plain f d⟩
    obtain ⟨q1, q2, q3⟩ := chkL_ok g i y h1
    exact ps_set g.g.nd q1 q2 (pe X g.g) (swap_no (chk_shape h2) hn _ _ _) q3
  | false =>
    cases v with
    | ListComp elt gs scope lp =>
      have hx : ∃ own k src t c e, x = .comp own k src t c e := by
        cases x <;> (unfold chk at h2; (repeat' split at h2)) <;> first | exact ⟨_, _, _, _, _, _, rfl⟩ | (exact absurd h2 Bool.false_ne_true) | contradiction
      obtain ⟨own, k, src, t, c, e, rfl⟩ := hx
      obtain ⟨elt', tg, iter, ifs, scope', pos', u, ee, d, pe, ps⟩ := lc_parts tok h2
      refine ⟨_, fun X g => ?_, ss_plain f d⟩
      obtain ⟨q1, q2, q3⟩ := chkL_ok g i y h1
      have hk := blk_fn g.kind
      have hsw : ∃ k, swapsWith (.ListComp elt gs scope lp) (some (.Name y p)) pos.line X.env = pure k ∧ (k = true → X.env.scope.names.lookup y = some .local) := by
        refine ⟨_, rfl, fun hk' => ?_⟩
        simp only [Bool.and_eq_true] at hk'
        have hl := hk'.1.1.2
        exact eq_of_beq hl
      obtain ⟨kb, hsw, hl⟩ := hsw
      cases kb with
      | true => exact ps X g.g i y p pos q1 (hl rfl) hsw
      | false => exact ps_set g.g.nd q1 q2 (pe X g.g) hsw q3
    | _ => cases hn
theorem ss_tgt (f : Flat b E) (tok : TabOk b.T b.K b.mg) {t : Tg} {x : Ex} {tg v : Expr} {pos : Pos} (h0 : swpNone b.sc tg v = true) (h1 : chkTg (chkL b.N b.sc) t tg = true) (h2 : chk b.T b.N b.sc x v = true) (hn : notComp v = true) : SS b E (.tgt t x) (.Assign [tg] v pos) := by
  obtain ⟨⟨u, pe, d⟩, _⟩ := sndE x tok h2
  refine ⟨tAsg u (gOf b.K t), fun X g => ?_, ?_⟩
  · have hs := chk_shape h2
    have h3 : swapsWithSole [tg] v pos.line X.env = pure false := swap_no hs hn _ _ _
    have h4 : swappedStores [tg] v X.env = pure none := by
      unfold swpNone at h0
      split at h0
      · split at h0
        · rename_i ts k1 p1 vs k2 p2 e
          exact swp_ok g.kind (by rw [g.g.sc]; exact e)
        · cases h0
      · rename_i a c d e hv
        cases v <;> first | rfl | (exact (hv _ _ _ rfl).elim)
      · cases h0
    have h5 : (assignEach [tg] X.env).map (·.2) = [assign tg X.env] := by
      unfold swpNone at h0
      split at h0
      · rfl
      · rfl
      · cases h0
    have hg := tg_pg (X := X) g.g.calm g.g.nd (chkL_ok g) h1
    rw [g.g.K] at hg
    exact ps_asg (pe X g.g) hg h3 h4 h5
  · intro σ H m S ρ D s r p
    refine den_flat f d GS.mono s r p fun d S1 v H1 m1 g1 s1 r1 rv p1 => ?_
    cases e : t.bind d ρ with
    | none => rw [e] at p1; exact p1.elim
    | some ρ' =>
      rw [e] at p1
      exact g_den r1 rv e fun σ' r' _ => p1 H1 m1 (.refl _ _ _) s1 σ' r'
end
end DL

set_option maxHeartbeats 4000000
/-! DLY: try / except. -/
namespace DL
open PySem PySem.Spec PyProof.Rows L2

theorem REnv.unset {K : PySem.W.Frag} {H : Hp} {m : Nat → Addr} {L : Nat} {ρ : EnvD} {σ : L2.St} (r : REnv K H m L ρ σ) (i : Nat) (o : Option V) : REnv K H m L (ρ.set i none) (σ.set i o) := by
  refine ⟨by rw [List.length_set, List.length_set]; exact r.len, fun j e h => ?_⟩
  by_cases hj : i = j
  · subst hj
    rw [List.getElem?_set] at h
    simp only [if_true] at h
    split at h <;> cases h
  · rw [List.getElem?_set_ne hj] at h ⊢
    exact r.get j e h
/-- isinstance(e, T), e the exception that the suite holds, cls its class, d its dict -/
def rIsX (K : PySem.W.Frag) (cls : Value) (d : Option Addr) (C a : Addr) : RL := fun xs H Q => cls = .ref C ∧ ∃ (dd : Addr) (ws : List (Str × V)) (n : String) (k : Bool), d = some dd ∧ H dd = some (.xd ws) ∧ xs = [.ref a, .ty n] ∧ PySem.W.kitOne K (.ref C) (.type n) = some k ∧ Q (.bl k) H
theorem call_isX {X : Cx} {a C : Addr} {oe : Obj} {cls : Value} {d : Option Addr} {pn : List (Addr × Obj)} (E : ExcC X.K C) (hz : Zc cls d oe) (hf : ∃ vs, oe.data = .fields vs) : CallR (X.suite a ((a, oe) :: pn)) (.builtin "isinstance") (rIsX X.K cls d C a) := by
  intro pins s σ H xs us Q I r h
  obtain ⟨rfl, dd, ws, n, k, rfl, ed, rfl, hk, q⟩ := h
  obtain ⟨u1, u2, rfl, r1, r2⟩ := vals2 r
  obtain rfl : u1 = Value.ref a := r1
  obtain rfl : u2 = Value.type n := r2
  obtain ⟨ha, _⟩ := I.pin (a, oe) (List.mem_append_left _ List.mem_cons_self)
  obtain ⟨vs, hd⟩ := hf
  have hx : ObjOk X.prog X.w H s.heap dd (.xd ws) := I.hok dd _ ed
  obtain ⟨mA, hns, hr⟩ := hx
  obtain ⟨od, ho, hl⟩ := lookIn_ns hns
  have J : PySem.W.InstAt s.heap a oe C (some od) := ⟨ha, hz.1, by unfold PySem.W.notCls; rw [hd] <;> rfl, by rw [hz.2]; exact ho⟩
  have hcl : (PySem.W.clsIn X.K C).isSome = true := by
    obtain ⟨cd, hc, _⟩ := PySem.W.any_some E.hd
    rw [hc]; rfl
  exact PySem.W.kia_one (PySem.W.kitx_exc hcl E.hg E.hk E.hs E.ha E.hn E.ht E.hm) I.kIn J hk (fun z => nomatch z) fun tk => ⟨.bl k, H, I.kept (t' := tk) fun _ _ z => z, rfl, q⟩
/-! ### readings -/
def tHP (K : PySem.W.Frag) (cls : Value) (d : Option Addr) (C a : Addr) (i : Nat) : HP → TE
  | .cst x => tC x.v
  | .var j => tVar j
  | .fld f => tXf a cls d C f (tVar i)
  | .isE n _ => tCB (rIsX K cls d C a) (tCons (tVar i) (tCons (tC (.ty n)) tNil))
  | .rpr f => tCB (rRepr K) (tCons (tXf a cls d C f (tVar i)) tNil)
def tHPs (K : PySem.W.Frag) (cls : Value) (d : Option Addr) (C a : Addr) (i : Nat) : List HP → TA
  | [] => tNil
  | p :: ps => tCons (tHP K cls d C a i p) (tHPs K cls d C a i ps)
section
variable {b : Bd} {X : Cx} {c : Str} {i : Nat} {C a : Addr} {oe : Obj} {cls : Value} {d : Option Addr} {pn : List (Addr × Obj)}
theorem pe_nm (G : Good b X) {j : Nat} {x : Str} {p : Pos} (h : chkNm b.N b.sc j x = true) : PE (X.suite a ((a, oe) :: pn)) (.Name x p) (tVar j) := by
  unfold chkNm at h
  simp only [Bool.and_eq_true, Bool.not_eq_true', decide_eq_true_eq] at h
  obtain ⟨⟨⟨h1, h2⟩, h3⟩, h4⟩ := h
  exact pe_var (X := X.suite a ((a, oe) :: pn)) (by show X.N[j]? = some x; rw [G.N]; exact h1) (show Vis X.env.scope x from vis_of G h2) h3 h4
theorem exc_at (tok : TabOk b.T b.K b.mg) {f : Str} (hn : PySem.W.nsIn b.K mainGlobals c = some (some (.ref C))) (h : (c, f) ∈ b.T.exc) : ∃ fI, XcK b.K C fI f := by
  obtain ⟨C', fI, _, h2, h3⟩ := tok.exc _ h
  have e : C' = C := by
    have z := h2.symm.trans hn
    cases z
    rfl
  subst e
  exact ⟨fI, h3⟩
theorem pe_HP (G : Good b X) (tok : TabOk b.T b.K b.mg) (hn : PySem.W.nsIn b.K mainGlobals c = some (some (.ref C))) (E : ExcC b.K C) (hz : Zc cls d oe) (hf : ∃ vs, oe.data = .fields vs) : ∀ (p : HP) {e : Expr}, chkHP b.T b.N b.sc c i p e = true → PE (X.suite a ((a, oe) :: pn)) e (tHP b.K cls d C a i p) ∧ Pl e
  | .cst x, e, h => by
    replace h : chk b.T b.N b.sc (.cst x) e = true := h
    have hp := pl_of (chk_shape h)
    unfold chk at h
    refine ⟨?_, hp⟩
    split at h
    · rw [of_decide_eq_true h]; exact pe_int
    · rw [eq_of_beq h]; exact pe_bl
    · rw [of_decide_eq_true h]; exact pe_str
    · exact pe_non
    · cases h
  | .var j, e, h => by
    simp only [chkHP] at h
    rw [Bool.and_eq_true] at h
    obtain ⟨_, h⟩ := h
    split at h
    · exact ⟨pe_nm G h, pl_of rfl⟩
    · cases h
  | .fld f, e, h => by
    simp only [chkHP] at h
    split at h
    · simp only [Bool.and_eq_true, decide_eq_true_eq] at h
      obtain ⟨⟨h1, rfl⟩, h3⟩ := h
      obtain ⟨fI, hK⟩ := exc_at tok hn h3
      have hK' : XcK X.K C fI f := by rw [G.K]; exact hK
      exact ⟨pe_xf hK'.xf hK'.no hz hf (pe_nm G h1), ⟨fun _ _ => rfl, fun _ _ => rfl, fun _ _ => rfl, fun _ => rfl, fun _ _ _ => rfl⟩⟩
    · cases h
  | .isE n k, e, h => by
    simp only [chkHP] at h
    split at h
    · simp only [Bool.and_eq_true, decide_eq_true_eq] at h
      obtain ⟨⟨⟨⟨⟨⟨⟨⟨rfl, h2⟩, h3⟩, h4⟩, rfl⟩, h6⟩, h7⟩, h8⟩, h9⟩ := h
      obtain ⟨g1, g2, g3⟩ := glob_of h2
      obtain ⟨k1, k2, k3⟩ := glob_of h6
      have E' : ExcC X.K C := by rw [G.K]; exact E
      have rule := call_isX (X := X) (a := a) (pn := pn) E' hz hf
      rw [G.K] at rule
      refine ⟨pe_callB rule (g1 X G) (by show X.mg _ = none; rw [G.mg]; exact tok.free _ h3) (by decide +kernel) (pa_cons (pe_nm G h4) (pa_cons (pe_bltn (v := .ty n) (k1 X G) (by show X.mg _ = none; rw [G.mg]; exact tok.free _ h7) h8 rfl k3 k2) pa_nil)) g3 g2, pl_of rfl⟩
    · cases h
  | .rpr f, e, h => by
    simp only [chkHP] at h
    split at h
    · simp only [Bool.and_eq_true, decide_eq_true_eq] at h
      obtain ⟨⟨⟨⟨⟨rfl, h2⟩, h3⟩, h4⟩, rfl⟩, h6⟩ := h
      obtain ⟨g1, g2, g3⟩ := glob_of h2
      obtain ⟨fI, hK⟩ := exc_at tok hn h6
      have hK' : XcK X.K C fI f := by rw [G.K]; exact hK
      have rule := call_reprD (X := X.suite a ((a, oe) :: pn)) (show X.A.guards = some [] from G.gds) (show X.A.units + 64 < cLine from G.units)
      rw [show (X.suite a ((a, oe) :: pn)).K = b.K from G.K] at rule
      refine ⟨pe_callB rule (g1 X G) (by show X.mg _ = none; rw [G.mg]; exact tok.free _ h3) (by decide +kernel) (pa_cons (pe_xf hK'.xf hK'.no hz hf (pe_nm G h4)) pa_nil) g3 g2, pl_of rfl⟩
    · cases h
theorem pa_HPs (G : Good b X) (tok : TabOk b.T b.K b.mg) (hn : PySem.W.nsIn b.K mainGlobals c = some (some (.ref C))) (E : ExcC b.K C) (hz : Zc cls d oe) (hf : ∃ vs, oe.data = .fields vs) : ∀ (ps : List HP) {es : List Expr}, chkHPs b.T b.N b.sc c i ps es = true → PA (X.suite a ((a, oe) :: pn)) es (tHPs b.K cls d C a i ps)
  | [], es, h => by
    unfold chkHPs at h
    split at h
    · exact pa_nil
    · cases h
  | p :: ps, es, h => by
    unfold chkHPs at h
    split at h
    · rw [Bool.and_eq_true] at h
      obtain ⟨h1, h2⟩ := pe_HP (cls := cls) (d := d) (pn := pn) G tok hn E hz hf p h.1
      exact pa_cons h1 (pa_HPs G tok hn E hz hf ps h.2) (h2.star _ _)
    · cases h
def tHT (K : PySem.W.Frag) (cls : Value) (d : Option Addr) (C a : Addr) (i : Nat) : HT → TE
  | .one p => tHP K cls d C a i p
  | .tup ps => tTup (tHPs K cls d C a i ps)
  | .lst ps => tLst (tHPs K cls d C a i ps)
theorem pe_HT (G : Good b X) (tok : TabOk b.T b.K b.mg) (hn : PySem.W.nsIn b.K mainGlobals c = some (some (.ref C))) (E : ExcC b.K C) (hz : Zc cls d oe) (hf : ∃ vs, oe.data = .fields vs) : ∀ (t : HT) {e : Expr}, chkHT b.T b.N b.sc c i t e = true → PE (X.suite a ((a, oe) :: pn)) e (tHT b.K cls d C a i t)
  | .one p, e, h => (pe_HP G tok hn E hz hf p h).1
  | .tup ps, e, h => by
    simp only [chkHT] at h
    split at h
    · exact pe_tup (pa_HPs G tok hn E hz hf ps h)
    · cases h
  | .lst ps, e, h => by
    simp only [chkHT] at h
    split at h
    · exact pe_lst (pa_HPs G tok hn E hz hf ps h)
    · cases h
theorem ht_shape {t : HT} {e : Expr} (h : chkHT b.T b.N b.sc c i t e = true) : (∀ tgt l env, notComp e = true → swapsWith e tgt l env = pure false) := by
  intro tgt l env hn
  cases e <;> first | rfl | (exact absurd hn Bool.false_ne_true) | (cases t <;> first | (rename_i p; cases p <;> simp [chkHT, chkHP, chk] at h) | (simp [chkHT] at h))
end
section
variable {b : Bd} {c : Str} {i : Nat} {C a : Addr} {cls : Value} {d : Option Addr} {fs : List (Str × D)} {σ : L2.St} {H : Hp} {m : Nat → Addr} {S : Store} {ρ : EnvD}
theorem den_HP (tok : TabOk b.T b.K b.mg) (hn : PySem.W.nsIn b.K mainGlobals c = some (some (.ref C))) (sm : Sim b.K H m S) (r : REnv b.K H m S.length ρ σ) (hs : σ[i]? = some (some (.ref a))) (x : XRep b.K c fs cls d H m S.length) {Q : VK} : ∀ (p : HP) {e : Expr} {y : D}, chkHP b.T b.N b.sc c i p e = true → hpF S fs ρ p = some y →
    (∀ v, Rep b.K H m S.length y v → Q v H) → tHP b.K cls d C a i p σ H Q := by
  obtain ⟨C', ec, hn', dd, ws, ed, hd, hl⟩ := x
  have eC : C' = C := by
    have z := hn'.symm.trans hn
    cases z
    rfl
  subst eC
  intro p e y h q hQ
  cases p with
  | cst x =>
    have ey : x = y := Option.some.inj q
    subst ey
    refine hQ _ ?_
    replace h : chk b.T b.N b.sc (.cst x) e = true := h
    cases x <;> first | rfl | (unfold chk at h; (repeat' split at h) <;> first | contradiction | (exact absurd h Bool.false_ne_true))
  | var j =>
    simp only [hpF] at q
    split at q
    · rename_i z ez
      cases q
      obtain ⟨v, e1, e2⟩ := r.get j _ ez
      exact ⟨v, e1, hQ v e2⟩
    · cases q
  | fld f =>
    obtain ⟨v, e1, e2⟩ := hl f y q
    exact ⟨.ref a, hs, rfl, ec, dd, ws, v, ed, hd, e1, hQ v e2⟩
  | isE n k =>
    cases q
    simp only [chkHP] at h
    split at h
    · simp only [Bool.and_eq_true, decide_eq_true_eq] at h
      have hk := tok.isx _ h.2 _ hn
      exact ⟨.ref a, hs, ec, dd, ws, n, k, ed, hd, rfl, hk, hQ _ rfl⟩
    · cases h
  | rpr f =>
    simp only [hpF] at q
    split at q
    · rename_i z ez
      obtain ⟨t, e1, e2⟩ := Option.map_eq_some_iff.mp q
      cases e2
      obtain ⟨v, g1, g2⟩ := hl f z ez
      unfold reprF at e1
      split at e1
      · rename_i p ep
        split at e1
        · rename_i ho
          cases e1
          exact ⟨.ref a, hs, rfl, ec, dd, ws, v, ed, hd, g1, v, p, rfl, toPyX_dp sm _ _ _ _ ep g2, sm.sys, ho, hQ _ rfl⟩
        · cases e1
      · cases e1
    · cases q
theorem den_HPs (tok : TabOk b.T b.K b.mg) (hn : PySem.W.nsIn b.K mainGlobals c = some (some (.ref C))) (sm : Sim b.K H m S) (r : REnv b.K H m S.length ρ σ) (hs : σ[i]? = some (some (.ref a))) (x : XRep b.K c fs cls d H m S.length) : ∀ (ps : List HP) {es : List Expr} {ys : List D} {Q : List V → Hp → Prop}, chkHPs b.T b.N b.sc c i ps es = true → hpsF S fs ρ ps = some ys →
    (∀ vs, RepL b.K H m S.length ys vs → Q vs H) → tHPs b.K cls d C a i ps σ H Q
  | [], es, ys, Q, h, q, hQ => by
    cases q
    exact hQ [] rfl
  | p :: ps, es, ys, Q, h, q, hQ => by
    unfold chkHPs at h
    split at h
    · rw [Bool.and_eq_true] at h
      simp only [hpsF] at q
      split at q
      · rename_i y ys' e1 e2
        cases q
        exact den_HP tok hn sm r hs x p h.1 e1 fun v rv => den_HPs tok hn sm r hs x ps h.2 e2 fun vs rvs => hQ _ ⟨v, vs, rfl, rv, rvs⟩
      · cases q
    · cases h
theorem den_HT (tok : TabOk b.T b.K b.mg) (hn : PySem.W.nsIn b.K mainGlobals c = some (some (.ref C))) (s : Sim b.K H m S) (r : REnv b.K H m S.length ρ σ) (hs : σ[i]? = some (some (.ref a))) (x : XRep b.K c fs cls d H m S.length) : ∀ (t : HT) {e : Expr} {y : D} {S' : Store} {Q : VK}, chkHT b.T b.N b.sc c i t e = true → htF fs ρ S t = some (y, S') →
    Fin b.K H m S y S' Q → tHT b.K cls d C a i t σ H Q
  | .one p, e, y, S', Q, h, q, f => by
    obtain ⟨z, e1, e2⟩ := Option.map_eq_some_iff.mp q
    cases e2
    exact den_HP tok hn s r hs x p h e1 fun v rv => f.at s rv
  | .tup ps, e, y, S', Q, h, q, f => by
    simp only [chkHT] at h
    split at h
    · simp only [htF] at q
      split at q
      · rename_i ds e1
        split at q
        · rename_i hl
          cases q
          exact den_HPs tok hn s r hs x ps h e1 fun vs rvs => ⟨by rw [← rvs.length, ← line_eq]; exact hl, fun p hp => f.tup s rvs hp⟩
        · cases q
      · cases q
    · cases h
  | .lst ps, e, y, S', Q, h, q, f => by
    simp only [chkHT] at h
    split at h
    · simp only [htF] at q
      split at q
      · rename_i ds e1
        split at q
        · rename_i hl
          cases q
          exact den_HPs tok hn s r hs x ps h e1 fun vs rvs => ⟨by rw [← rvs.length, ← line_eq]; exact hl, fun p hp => f.lst s rvs hp⟩
        · cases q
      · cases q
    · cases h
end
/-! ### the statement -/
abbrev Bd.wish (b : Bd) (W : WX) : Bd := { b with W := W }
def tbF (r : Rs D) (ρ : EnvD) (t : Tb) : Rs Fl := r.bind fun d S1 => .ok (t.fin ρ d) S1
section
variable {b : Bd} {E : XK}
theorem good_tr {X : Cx} (G : Good b X) {W : WX} {pn : List (Addr × Obj)} {xe : Value → Shared → Prop} (tk : Takes (X.tr pn xe) W) : Good (b.wish W) (X.tr pn xe) :=
  ⟨G.N, G.nd, G.calm, G.sc, G.room, G.gds, tk, G.K, G.mg, G.fn⟩
theorem tb_ok (tok : TabOk b.T b.K b.mg) : ∀ (t : Tb) {s : Stmt}, chkTb b.T b.N b.sc t s = true → ∀ W : WX, ∃ ts : TS, (∀ X, GoodS b X → ∀ (pn : List (Addr × Obj)) (xe : Value → Shared → Prop), Takes (X.tr pn xe) W → PS (X.tr pn xe) s ts) ∧
    ∀ {σ : L2.St} {H : Hp} {m : Nat → Addr} {S : Store} {ρ : EnvD} {D : Ends}, Sim b.K H m S → REnv b.K H m S.length ρ σ → Post b.K (WE W σ) (GS b.K D) H m S (tbF (ev b.F t.e ρ S) ρ t) → ts D σ H
  | .ret e, s, h, W => by
    simp only [chkTb] at h
    split at h
    · obtain ⟨⟨t, pe, d⟩, _⟩ := sndE e (b := b.wish W) tok h
      refine ⟨tRet t, fun X G pn xe tk => ps_ret (pe _ (good_tr G.g tk)), ?_⟩
      intro σ H m S ρ D s r p
      refine d.bind GS.mono s r p fun y S1 v H1 m1 g1 s1 r1 rv p1 => ?_
      exact p1 H1 m1 (.refl _ _ _) s1 v rv
    · cases h
  | .set j e, s, h, W => by
    simp only [chkTb] at h
    split at h
    · rename_i x px v ps
      simp only [Bool.and_eq_true] at h
      obtain ⟨⟨h1, h2⟩, h3⟩ := h
      obtain ⟨⟨t, pe, d⟩, _⟩ := sndE e (b := b.wish W) tok h2
      refine ⟨tAsg t (gName j), fun X G pn xe tk => ?_, ?_⟩
      · obtain ⟨q1, q2, q3⟩ := chkL_ok G j x h1
        exact ps_set (X := X.tr pn xe) G.g.nd q1 q2 (pe _ (good_tr G.g tk)) (swap_no (chk_shape h2) h3 _ _ _) q3
      · intro σ H m S ρ D s r p
        refine d.bind GS.mono s r p fun y S1 v H1 m1 g1 s1 r1 rv p1 => ?_
        exact p1 H1 m1 (.refl _ _ _) s1 _ (r1.set rv)
    · cases h
  | .ex e, s, h, W => by
    simp only [chkTb] at h
    split at h
    · rw [Bool.and_eq_true] at h
      obtain ⟨⟨t, pe, d⟩, _⟩ := sndE e (b := b.wish W) tok h.1
      refine ⟨tDrop t, fun X G pn xe tk => ps_expr (pe _ (good_tr G.g tk)) (swap_no (chk_shape h.1) h.2 _ _ _), ?_⟩
      intro σ H m S ρ D s r p
      refine d.bind GS.mono s r p fun y S1 v H1 m1 g1 s1 r1 rv p1 => ?_
      exact p1 H1 m1 (.refl _ _ _) s1 σ r1
    · cases h
def tHd (K : PySem.W.Frag) (C : Addr) (i : Nat) : Hd → Addr → Value → Option Addr → TS
  | .ret t, a, cls, d => tRet (tHT K cls d C a i t)
  | .set j t, a, cls, d => tAsg (tHT K cls d C a i t) (gName j)
theorem ps_Hd {X : Cx} {c : Str} {i : Nat} {C a : Addr} {oe : Obj} {cls : Value} {d : Option Addr} {pn : List (Addr × Obj)} (G : GoodS b X) (tok : TabOk b.T b.K b.mg) (hn : PySem.W.nsIn b.K mainGlobals c = some (some (.ref C))) (Ec : ExcC b.K C) (hz : Zc cls d oe) (hf : ∃ vs, oe.data = .fields vs) :
    ∀ (h : Hd) {s : Stmt}, chkHd b.T b.N b.sc c i h s = true → PS (X.suite a ((a, oe) :: pn)) s (tHd b.K C i h a cls d)
  | .ret t, s, h => by
    simp only [chkHd] at h
    split at h
    · exact ps_ret (pe_HT G.g tok hn Ec hz hf t h)
    · cases h
  | .set j t, s, h => by
    simp only [chkHd] at h
    split at h
    · rename_i x px v ps
      simp only [Bool.and_eq_true] at h
      obtain ⟨⟨h1, h2⟩, h3⟩ := h
      obtain ⟨q1, q2⟩ := chkP_ok G j x h1
      exact ps_set (X := X.suite a ((a, oe) :: pn)) G.g.nd q1 (.inl q2) (pe_HT G.g tok hn Ec hz hf t h2) (ht_shape h2 _ _ _ h3) (.inr q2)
    · cases h
theorem ss_try (f : Flat b E) (tok : TabOk b.T b.K b.mg) {c n : Str} {i : Nat} {bt : Tb} {hd : Hd} {bs hs : Stmt} {np pos' pos : Pos} (hg : glob b.sc c = true) (hi : chkP b.N b.sc i n = true) (hx : (b.T.exc.any fun p => decide (p.1 = c)) = true) (h1 : chkTb b.T b.N b.sc bt bs = true) (h2 : chkHd b.T b.N b.sc c i hd hs = true) :
    SS b E (.tryA c i bt hd) (.Try [bs] [.ExceptHandler (some (.Name c np)) (some n) [hs] pos'] [] [] pos) := by
  obtain ⟨q, hq, hqc⟩ := List.any_eq_true.mp hx
  obtain ⟨c', g⟩ := q
  have e1 : c' = c := of_decide_eq_true hqc
  subst e1
  obtain ⟨C, fI, hm, hn, hK⟩ := tok.exc _ hq
  obtain ⟨g1, g2, _⟩ := glob_of hg
  let tb : WX → TS := fun W => Classical.choose (tb_ok tok bt h1 W)
  have tbs : ∀ W, _ := fun W => Classical.choose_spec (tb_ok tok bt h1 W)
  refine ⟨fun D σ H => tb (wAs b.K (.ref C) i (tHd b.K C i hd) b.W D) D σ H, fun X G => ?_, ?_⟩
  · obtain ⟨q1, q2⟩ := chkP_ok G i n hi
    rw [← G.g.K]
    refine ps_try_as (tb := tb) (ts := tHd X.K C i hd) G.stk G.frm G.g.nd q1 q2 ⟨g1 X G.g, g2, .inl (by rw [G.g.mg]; exact hm)⟩ G.g.takes (fun W pn xe tk _ => pss_one ((tbs W).1 X G pn xe tk)) (fun a oe cls d pn hz hf => pss_one ?_)
    rw [G.g.K]
    exact ps_Hd G tok hn hK.ex hz hf hd h2
  · intro σ H m S ρ D s r p
    refine (tbs _).2 s r ?_
    simp only [DL.run] at p
    cases er : ev b.F bt.e ρ S with
    | bad => rw [er] at p; exact p.elim
    | ok y S1 => rw [er] at p; exact p
    | exc c2 fs S1 =>
      rw [er] at p
      simp only [tryF] at p
      split at p
      · rename_i hc
        obtain ⟨rfl, hil⟩ := hc
        intro cls dd H1 m1 gr s1 x
        have ec : cls = .ref C := by
          obtain ⟨C', ec, hn', _⟩ := id x
          have z := hn'.symm.trans hn
          cases z
          exact ec
        refine ⟨true, by rw [ec]; exact hK.me, fun _ a ha => ?_, fun z => nomatch z⟩
        have hsi : (σ.set i (some (.ref a)))[i]? = some (some (V.ref a)) := by
          have : i < σ.length := by rw [← r.len]; exact hil
          simp [this]
        have r1 := (r.grow gr).unset i (some (.ref a))
        cases hd with
        | ret t =>
          simp only [Hd.run] at p
          split at p
          · rename_i y S2 ey
            simp only [chkHd] at h2
            split at h2
            · exact den_HT tok hn s1 r1 hsi x t h2 ey fun v H2 m2 g3 s3 rv => p H2 m2 (gr.trans g3) s3 v rv
            · cases h2
          · exact p.elim
        | set j t =>
          simp only [Hd.run] at p
          split at p
          · rename_i y S2 ey
            simp only [chkHd] at h2
            split at h2
            · simp only [Bool.and_eq_true] at h2
              refine den_HT tok hn s1 r1 hsi x t h2.1.2 ey fun v H2 m2 g3 s3 rv => ?_
              exact p H2 m2 (gr.trans g3) s3 _ (((r1.grow g3).set rv).unset i none)
            · cases h2
          · exact p.elim
      · exact p.elim
end
end DL

set_option maxHeartbeats 4000000
/-! DL11: the theorem of the statements. -/
namespace DL
open PySem PySem.Spec PyProof.Rows L2
section
variable {b : Bd} {E : XK}
theorem den_flatA (f : Flat b E) {xs : List Ex} {t : TA} (d : DenA b.K b.W t (evs b.F xs)) {β : Type} {G : Want β} (gm : Mono G) {σ : L2.St} {H : Hp} {m : Nat → Addr} {S : Store} {ρ : EnvD} (s : Sim b.K H m S) (r : REnv b.K H m S.length ρ σ) {k : List D → Store → Rs β} (p : Post b.K E G H m S ((evs b.F xs ρ S).bind k)) {Q : List V → Hp → Prop}
    (hq : ∀ d S1 v H1 m1, Grow H m S H1 m1 S1 → Sim b.K H1 m1 S1 → REnv b.K H1 m1 S1.length ρ σ → RepL b.K H1 m1 S1.length d v → Post b.K E G H1 m1 S1 (k d S1) → Q v H1) : t σ H Q := by
  have e := f.we σ
  refine d.bind gm s r (by rw [e]; exact p) fun d S1 v H1 m1 g1 s1 r1 rv p1 => hq d S1 v H1 m1 g1 s1 r1 rv (by rw [e] at p1; exact p1)
theorem den_flatT (f : Flat b E) {x : Ex} {t : TT} (d : DenT b.K b.W t fun ρ S => tr (ev b.F x ρ S)) {β : Type} {G : Want β} (gm : Mono G) {σ : L2.St} {H : Hp} {m : Nat → Addr} {S : Store} {ρ : EnvD} (s : Sim b.K H m S) (r : REnv b.K H m S.length ρ σ) {k : Bool → Store → Rs β} (p : Post b.K E G H m S ((tr (ev b.F x ρ S)).bind k)) {Q : Bool → Hp → Prop}
    (hq : ∀ d S1 H1 m1, Grow H m S H1 m1 S1 → Sim b.K H1 m1 S1 → REnv b.K H1 m1 S1.length ρ σ → Post b.K E G H1 m1 S1 (k d S1) → Q d H1) : t σ H Q := by
  have e := f.we σ
  refine d.bind (f := fun ρ S => tr (ev b.F x ρ S)) gm s r (by rw [e]; exact p) fun d S1 H1 m1 g1 s1 r1 p1 => hq d S1 H1 m1 g1 s1 r1 (by rw [e] at p1; exact p1)
theorem swp_some {ts vs : List Expr} {xs : List Str} {X : Cx} {kt k2 : Nat} {pt p2 : Pos} (g : GoodS b X) (h : swpSome b.sc ts vs xs = true) : swappedStores [.Tuple ts kt pt] (.Tuple vs k2 p2) X.env = pure (some xs) := by
  unfold swpSome at h
  split at h
  · rename_i ys e
    rw [of_decide_eq_true h]
    exact swp_ok g.kind (by rw [g.g.sc]; exact e)
  · cases h
theorem ss_par2 (f : Flat b E) (tok : TabOk b.T b.K b.mg) {i j : Nat} {es : List Ex} {x y : Str} {a c : Expr} {px py pt p2 pos : Pos} {kt k2 : Nat} (h1 : chkP b.N b.sc i x = true) (h2 : chkP b.N b.sc j y = true) (hij : i ≠ j) (hs : chks b.T b.N b.sc es [a, c] = true)
    (hw : swpSome b.sc [.Name x px, .Name y py] [a, c] [x, y] = true) : SS b E (.par [i, j] es) (.Assign [.Tuple [.Name x px, .Name y py] kt pt] (.Tuple [a, c] k2 p2) pos) := by
  obtain ⟨t, pa, d⟩ := sndA es tok hs
  refine ⟨tPar i j t, fun X g => ?_, ?_⟩
  · obtain ⟨q1, q2⟩ := chkP_ok g i x h1
    obtain ⟨q3, q4⟩ := chkP_ok g j y h2
    exact ps_par g.g.calm g.g.nd q1 q3 hij q2 q4 (pa X g.g) (swp_some g hw) rfl
  · intro σ H m S ρ D s r p
    refine den_flatA f d GS.mono s r p fun ds S1 vs H1 m1 g1 s1 r1 rvs p1 => ?_
    match ds, rvs, p1 with
    | [], _, p1 => exact p1.elim
    | [_], _, p1 => exact p1.elim
    | [u, w], rvs, p1 =>
      obtain ⟨v1, ws, e1, rv1, rv2⟩ := (show ∃ v ws, _ from rvs)
      obtain ⟨v2, e2, rv3⟩ := one_of rv2
      exact ⟨v1, v2, by rw [e1, e2], p1 H1 m1 (.refl _ _ _) s1 _ ((r1.set rv1).set rv3)⟩
    | _ :: _ :: _ :: _, _, p1 => exact p1.elim
theorem ss_par3 (f : Flat b E) (tok : TabOk b.T b.K b.mg) {i j l : Nat} {es : List Ex} {x y z : Str} {a c d0 : Expr} {px py pz pt p2 pos : Pos} {kt k2 : Nat} (h1 : chkP b.N b.sc i x = true) (h2 : chkP b.N b.sc j y = true) (h3 : chkP b.N b.sc l z = true) (hij : i ≠ j) (hil : i ≠ l) (hjl : j ≠ l) (hs : chks b.T b.N b.sc es [a, c, d0] = true)
    (hw : swpSome b.sc [.Name x px, .Name y py, .Name z pz] [a, c, d0] [x, y, z] = true) : SS b E (.par [i, j, l] es) (.Assign [.Tuple [.Name x px, .Name y py, .Name z pz] kt pt] (.Tuple [a, c, d0] k2 p2) pos) := by
  obtain ⟨t, pa, d⟩ := sndA es tok hs
  refine ⟨tPar3 i j l t, fun X g => ?_, ?_⟩
  · obtain ⟨q1, q2⟩ := chkP_ok g i x h1
    obtain ⟨q3, q4⟩ := chkP_ok g j y h2
    obtain ⟨q5, q6⟩ := chkP_ok g l z h3
    exact L2.ps_par3 g.g.calm g.g.nd q1 q3 q5 hij hil hjl q2 q4 q6 (pa X g.g) (swp_some g hw) rfl
  · intro σ H m S ρ D s r p
    refine den_flatA f d GS.mono s r p fun ds S1 vs H1 m1 g1 s1 r1 rvs p1 => ?_
    match ds, rvs, p1 with
    | [], _, p1 => exact p1.elim
    | [_], _, p1 => exact p1.elim
    | [_, _], _, p1 => exact p1.elim
    | [u, w, q], rvs, p1 =>
      obtain ⟨v1, ws, e1, rv1, rv2⟩ := (show ∃ v ws, _ from rvs)
      obtain ⟨v2, ws2, e2, rv3, rv4⟩ := (show ∃ v ws, _ from rv2)
      obtain ⟨v3, e3, rv5⟩ := one_of rv4
      exact ⟨v1, v2, v3, by rw [e1, e2, e3], p1 H1 m1 (.refl _ _ _) s1 _ (((r1.set rv1).set rv3).set rv5)⟩
    | _ :: _ :: _ :: _ :: _, _, p1 => exact p1.elim
theorem putF_ok {K : PySem.W.Frag} {H : Hp} {m : Nat → Addr} {S S' : Store} {o i v : D} {x y z : V} {Q : Hp → Prop} (s : Sim K H m S) (ro : Rep K H m S.length o x) (ri : Rep K H m S.length i y) (rv : Rep K H m S.length v z) (e : putF o i v S = some S')
    (q : ∀ H' m', Grow H m S H' m' S' → Sim K H' m' S' → Q H') : rSetL x y z H Q := by
  unfold putF at e
  split at e
  · split at e
    · rename_i ds ec
      split at e
      · rename_i j ej
        cases e
        obtain ⟨_, ex⟩ := (show _ ∧ _ from ro)
        obtain ⟨vs, h, rr⟩ := (show ∃ vs, _ from s.cell _ _ ec)
        refine ⟨_, vs, _, j, ex, ri, h, by rw [← rr.length]; exact ej, ?_⟩
        obtain ⟨o0, h0, n1, n2⟩ := s.there ec rfl
        exact q _ m (.write s ec rfl) (s.write ec rfl ⟨vs.set j z, upd_same, (rr.set j rv).mono (.set h0 n1 n2) (fun _ _ => rfl) (Nat.le_refl _)⟩ rfl)
      · cases e
    · cases e
  · cases e
theorem ss_put (f : Flat b E) (tok : TabOk b.T b.K b.mg) {o i x : Ex} {o' i' v : Expr} {p pos : Pos} (h1 : chk b.T b.N b.sc o o' = true) (h2 : chk b.T b.N b.sc i i' = true) (h3 : chk b.T b.N b.sc x v = true) : SS b E (.put o i x) (.Assign [.Subscript o' i' p] v pos) := by
  obtain ⟨⟨to, po, d0⟩, _⟩ := sndE o tok h1
  obtain ⟨⟨ti, pi, di⟩, _⟩ := sndE i tok h2
  obtain ⟨⟨tv, pv, dv⟩, _⟩ := sndE x tok h3
  refine ⟨tAsg tv (gSub to ti rSetL), fun X g => ?_, ?_⟩
  · have hsi := chk_shape h2
    have ha : ∀ v, assign (.Subscript o' i' p) X.env v = (do
        let ov ← holding [v] (eval o' X.env)
        let iv ← holding [v, ov] (eval i' X.env)
        standAt p
        holding [v, ov, iv] (setItem ov iv v)
        release [v, ov, iv] []) := by
      intro v
      cases i' <;> first | rfl | (exact absurd hsi Bool.false_ne_true)
    have hsv := chk_shape h3
    have q1 : swapsWithSole [.Subscript o' i' p] v pos.line X.env = pure false := swap_sub hsv o' i' p pos.line X.env
    have q2 : swappedStores [.Subscript o' i' p] v X.env = pure none := by
      cases v <;> first | rfl | (exact absurd hsv Bool.false_ne_true)
    exact ps_asg (pv X g.g) (pg_sub (po X g.g) (pi X g.g) set_list ha) q1 q2 rfl
  · intro σ H m S ρ D s r p
    refine den_flat f dv GS.mono s r p fun v S1 z H1 m1 g1 s1 r1 rv p1 => ?_
    refine den_flat f d0 GS.mono s1 r1 p1 fun o S2 u H2 m2 g2 s2 r2 ro p2 => ?_
    refine den_flat f di GS.mono s2 r2 p2 fun i S3 w H3 m3 g3 s3 r3 ri p3 => ?_
    cases e : putF o i v S3 with
    | none => rw [e] at p3; exact p3.elim
    | some S4 =>
      rw [e] at p3
      exact putF_ok s3 (g3.rep ro) ri (g3.rep (g2.rep rv)) e fun H' m' g4 s4 => p3 H' m' g4 s4 σ (r3.grow g4)
theorem ss_ex (f : Flat b E) (tok : TabOk b.T b.K b.mg) {x : Ex} {v : Expr} {pos : Pos} (h : chk b.T b.N b.sc x v = true) (hn : notComp v = true) : SS b E (.ex x) (.Expr v pos) := by
  obtain ⟨⟨t, pe, d⟩, _⟩ := sndE x tok h
  refine ⟨_, fun X g => ps_expr (pe X g.g) (swap_no (chk_shape h) hn _ _ _), ?_⟩
  intro σ H m S ρ D s r p
  refine den_flat f d GS.mono s r p fun d S1 v H1 m1 g1 s1 r1 rv p1 => ?_
  exact p1 H1 m1 (.refl _ _ _) s1 σ r1
theorem ss_ret (f : Flat b E) (tok : TabOk b.T b.K b.mg) {x : Ex} {v : Expr} {pos : Pos} (h : chk b.T b.N b.sc x v = true) : SS b E (.ret x) (.Return (some v) pos) := by
  obtain ⟨⟨t, pe, d⟩, _⟩ := sndE x tok h
  refine ⟨_, fun X g => ps_ret (pe X g.g), ?_⟩
  intro σ H m S ρ D s r p
  refine den_flat f d GS.mono s r p fun d S1 v H1 m1 g1 s1 r1 rv p1 => ?_
  exact p1 H1 m1 (.refl _ _ _) s1 v rv
theorem ss_ite (f : Flat b E) (tok : TabOk b.T b.K b.mg) {c : Ex} {x y : List Sm} {t : Expr} {l r : List Stmt} {pos : Pos} (nc : notIf c = true) (h : chk b.T b.N b.sc c t = true) (hx : SSs b E x l) (hy : SSs b E y r) : SS b E (.ite c x y) (.If t l r pos) := by
  obtain ⟨_, hc⟩ := sndE c tok h
  obtain ⟨tc, pc, dc⟩ := hc nc
  obtain ⟨ta, pa, da⟩ := hx
  obtain ⟨tb, pb, db⟩ := hy
  refine ⟨_, fun X g => ps_if (pc X g.g) (pa X g) (pb X g), ?_⟩
  intro σ H m S ρ D s r p
  refine den_flatT f dc GS.mono s r p fun k S1 H1 m1 g1 s1 r1 p1 => ?_
  cases k with
  | true => rw [if_pos rfl]; exact da s1 r1 p1
  | false => rw [if_neg Bool.false_ne_true]; exact db s1 r1 p1
theorem si_of (tok : TabOk b.T b.K b.mg) {k : Src} {src : List Ex} {tg iter : Expr} (hS : chkSrc b.T b.N b.sc k src tg iter = true) : SI b k src tg iter ∧ ∀ env v, foldedSetIterable iter env v = pure v := by
  unfold chkSrc at hS
  cases k with
  | seq =>
    match src, hS with
    | [x], hS =>
      unfold chks at hS
      rw [Bool.and_eq_true] at hS
      exact ⟨si_seq (sndE x tok hS.1), (pl_of (chk_shape hS.1)).fold⟩
    | [], hS => unfold chks at hS; cases hS
    | _ :: _ :: _, hS => unfold chks at hS; rw [Bool.and_eq_true] at hS; have := hS.2; unfold chks at this; cases this
  | rng1 =>
    simp only at hS
    split at hS
    · simp only [Bool.and_eq_true, decide_eq_true_eq] at hS
      obtain ⟨⟨⟨rfl, h2⟩, h3⟩, h4⟩ := hS
      exact ⟨si_rng1 tok h3 h2 (chks_pl h4 _ List.mem_cons_self) (sndA src tok h4), fun _ _ => rfl⟩
    · cases hS
  | rng2 =>
    simp only at hS
    split at hS
    · simp only [Bool.and_eq_true, decide_eq_true_eq] at hS
      obtain ⟨⟨⟨rfl, h2⟩, h3⟩, h4⟩ := hS
      exact ⟨si_rng2 tok h3 h2 (chks_pl h4 _ List.mem_cons_self) (chks_pl h4 _ (List.mem_cons_of_mem _ List.mem_cons_self)) (sndA src tok h4), fun _ _ => rfl⟩
    · cases hS
  | enum =>
    simp only at hS
    split at hS
    · simp only [Bool.and_eq_true, decide_eq_true_eq] at hS
      obtain ⟨⟨⟨rfl, h2⟩, h3⟩, h4⟩ := hS
      exact ⟨si_enum tok h3 h2 (chks_pl h4 _ List.mem_cons_self) (sndA src tok h4), fun _ _ => rfl⟩
    · cases hS
theorem ss_for (f : Flat b E) (tok : TabOk b.T b.K b.mg) {t : Tg} {k : Src} {src : List Ex} {bd : List Sm} {tg iter : Expr} {body : List Stmt} {pos : Pos} (hT : chkTg (chkL b.N b.sc) t tg = true) (hS : chkSrc b.T b.N b.sc k src tg iter = true) (hB : SSs b E bd body) : SS b E (.for t k src bd) (.For tg iter body [] pos) := by
  obtain ⟨⟨wi, pi, dI⟩, hf⟩ := si_of tok hS
  obtain ⟨tb, pb, db⟩ := hB
  refine ⟨tFor wi (gOf b.K t) tb, fun X g => ?_, ?_⟩
  · have hg := tg_pg (X := X) g.g.calm g.g.nd (chkL_ok g) hT
    rw [g.g.K] at hg
    exact ps_for g.pass g.g.calm (pi X g.g) hg (pb X g) (hf _)
  · intro σ H m S ρ D s r p
    have ew := f.we σ
    simp only [run] at p
    rw [← ew] at p
    refine dI (kk := fun args n S1 => (loop (nxt k args) (fun x ρ S => asEnv (t.bind x ρ) fun ρ1 => (runs b.F bd ρ1 S).bind fun f S2 => .ok (turnOf f) S2) n 0 ρ S1).bind fun r S2 => match r with
        | .inl ρ => .ok (.nx ρ) S2
        | .inr f => .ok f S2) GS.mono s r p fun args n S1 H1 m1 J g1 s1 r1 it p1 => ?_
    rw [ew] at p1
    refine ⟨fun i q σ H => ∃ μ S' ρ', Grow H1 m1 S1 H μ S' ∧ Sim b.K H μ S' ∧ REnv b.K H μ S'.length ρ' σ ∧
        Post b.K E (GS b.K D) H μ S' ((loop (nxt k args) (fun x ρ S => asEnv (t.bind x ρ) fun ρ1 => (runs b.F bd ρ1 S).bind fun f S2 => .ok (turnOf f) S2) q i ρ' S').bind fun r S2 => match r with
        | .inl ρ => .ok (.nx ρ) S2
        | .inr f => .ok f S2), ⟨n, m1, S1, ρ, .refl _ _ _, s1, r1, p1⟩, ?_⟩
    rintro i q σ2 H2 ⟨μ, S2, ρ2, g2, s2, r2, p2⟩
    cases q with
    | zero =>
      unfold loop at p2
      cases en : nxt k args i S2 with
      | none => rw [en] at p2; exact p2.elim
      | some o =>
        cases o with
        | some x => rw [en] at p2; exact p2.elim
        | none =>
          rw [en] at p2
          exact .inl ⟨it.stop g2 s2 en, p2 H2 μ (.refl _ _ _) s2 σ2 r2⟩
    | succ q =>
      unfold loop at p2
      cases en : nxt k args i S2 with
      | none => rw [en] at p2; exact p2.elim
      | some o =>
        cases o with
        | none =>
          rw [en] at p2
          exact .inl ⟨it.stop g2 s2 en, p2 H2 μ (.refl _ _ _) s2 σ2 r2⟩
        | some x =>
          rw [en] at p2
          obtain ⟨hgo, hy⟩ := it.go g2 s2 en
          refine .inr ⟨hgo, fun σ' H' => ∃ μ S' ρ', Grow H1 m1 S1 H' μ S' ∧ Sim b.K H' μ S' ∧ REnv b.K H' μ S'.length ρ' σ' ∧
            Post b.K E (GS b.K D) H' μ S' ((loop (nxt k args) (fun x ρ S => asEnv (t.bind x ρ) fun ρ1 => (runs b.F bd ρ1 S).bind fun f S2 => .ok (turnOf f) S2) q (i + 1) ρ' S').bind fun r S2 => match r with
            | .inl ρ => .ok (.nx ρ) S2
            | .inr f => .ok f S2), fun σ' H' h => ⟨q, Nat.lt_succ_self _, h⟩, fun v H3 y => ?_⟩
          obtain ⟨g3, s3, rv⟩ := hy v H3 y
          have p3 := Post.mono GS.mono g3 p2
          have gT := g2.trans g3
          cases eb : t.bind x ρ2 with
          | none => simp only [eb] at p3; exact p3.elim
          | some ρ3 =>
            simp only [eb, asEnv] at p3
            refine g_den (r2.grow g3) rv eb fun σ3 r3 _ => ?_
            rw [rs_assoc, rs_assoc] at p3
            refine db s3 r3 ?_
            cases er : runs b.F bd ρ3 S2 with
            | bad => rw [er] at p3; exact p3.elim
            | exc c fs S4 => rw [er] at p3; exact p3
            | ok fl S4 =>
              rw [er] at p3
              intro H4 m4 g4 s4
              have p4 := Post.mono GS.mono g4 p3
              cases fl with
              | nx ρ4 => exact fun σ4 r4 => ⟨m4, S4, ρ4, gT.trans g4, s4, r4, p4⟩
              | ct ρ4 => exact fun σ4 r4 => ⟨m4, S4, ρ4, gT.trans g4, s4, r4, p4⟩
              | bk ρ4 => exact fun σ4 r4 => p4 H4 m4 (.refl _ _ _) s4 σ4 r4
              | rt d => exact fun v4 r4 => p4 H4 m4 (.refl _ _ _) s4 v4 r4
theorem ss_raise (f : Flat b E) (tok : TabOk b.T b.K b.mg) {c g : Str} {x : Ex} {v : Expr} {p cpos pos : Pos} (hx : (c, g) ∈ b.T.exc) (hg : glob b.sc c = true) (h : chk b.T b.N b.sc x v = true) : SS b E (.raise c g x) (.Raise (some (.Call (.Name c p) [v] [] cpos)) none pos) := by
  obtain ⟨⟨t, pe, d⟩, _⟩ := sndE x tok h
  obtain ⟨g1, g2, _⟩ := glob_of hg
  obtain ⟨C, fI, hm, hn, hK⟩ := tok.exc _ hx
  have pl := pl_of (chk_shape h)
  refine ⟨fun _ σ H => tMkO C (spInit b.K C g) [] (tCons t tNil) σ H fun cls dd H' => b.W cls dd σ H', fun X G => ?_, ?_⟩
  · obtain ⟨fd, ps, F1, hb⟩ := G.exc _ hx C fI (by rw [G.g.K]; exact hn) (by rw [G.g.K]; exact hK)
    have hK' : XcK X.K C fI g := by rw [G.g.K]; exact hK
    have ka := pmkB (dvs := []) hK'.T hK'.iC hK'.tI F1 G.roomX hb .nil pass0 (g1 X G.g) (by rw [G.g.mg]; exact hm) (pa_cons (pe X G.g) pa_nil (pl.star _ _)) (p := p) (pos := cpos) g2 (pl.star _ _) rfl
    rw [← G.g.K]
    exact ps_raise G.g.calm G.g.takes ka
  · intro σ H m S ρ D s r p
    refine den_flat f d GS.mono s r p fun y S1 w H1 m1 g1 s1 r1 rv p1 => ?_
    refine ⟨by show 1 ≤ 1000; decide, fun a ha => ?_⟩
    refine ⟨a, w, rfl, hK.T, hK.no, upd_same, fun dx hdx hne => ⟨rfl, dx, [(g, w)], upd_same, ?_, ?_, ?_⟩⟩
    · rw [upd_ne hne, upd_same]
    · rw [upd_ne hne] at hdx; exact hdx
    · have hd0 : H1 dx = none := by rw [upd_ne hne] at hdx; exact hdx
      have eu : upd (del (upd (upd (upd H1 a (exo a C none)) dx (exd dx [(g, w)])) a (exo a C (some dx))) a) dx (.xd [(g, w)]) = upd H1 dx (.xd [(g, w)]) := by
        funext z
        by_cases h1 : z = dx
        · rw [h1, upd_same, upd_same]
        · rw [upd_ne h1, upd_ne h1]
          by_cases h2 : z = a
          · rw [h2, del_same, ha]
          · rw [del_ne h2, upd_ne h2, upd_ne h1, upd_ne h2]
      rw [eu, f.eq]
      refine p1 (.ref C) (some dx) _ m1 (.new hd0) (s1.new hd0) ⟨C, rfl, hn, dx, [(g, w)], rfl, upd_same, fun z q hq => ?_⟩
      by_cases hz : z = g
      · subst hz
        have e1 : q = y := by
          have : some y = some q := by simpa [List.lookup] using hq
          exact (Option.some.inj this).symm
        subst e1
        exact ⟨w, by simp [List.lookup], rv.mono (.new hd0) (fun _ _ => rfl) (Nat.le_refl _)⟩
      · have : (z == g) = false := by simpa using hz
        simp [List.lookup, this] at hq
theorem sss_nil : SSs b E [] [] := ⟨_, fun _ _ => pss_nil, fun {σ H m S ρ D} s r p => p H m (.refl _ _ _) s σ r⟩
theorem sss_cons {x : Sm} {xs : List Sm} {s : Stmt} {ss : List Stmt} (h : SS b E x s) (hs : SSs b E xs ss) : SSs b E (x :: xs) (s :: ss) := by
  obtain ⟨t, ps, d⟩ := h
  obtain ⟨u, pss, ds⟩ := hs
  refine ⟨_, fun X g => pss_cons (ps X g) (pss X g), ?_⟩
  intro σ H m S ρ D s r p
  refine d s r ?_
  simp only [runs] at p
  cases er : run b.F x ρ S with
  | bad => rw [er] at p; exact p.elim
  | exc c fs S1 => rw [er] at p; exact p
  | ok fl S1 =>
    rw [er] at p
    cases fl with
    | nx ρ1 =>
      intro H1 m1 g1 s1 σ1 r1
      exact ds s1 r1 (Post.mono GS.mono g1 p)
    | rt d => exact p
    | bk ρ1 => exact p
    | ct ρ1 => exact p
end
mutual
theorem sndS : ∀ (x : Sm) {b : Bd} {E : XK} {s : Stmt}, Flat b E → TabOk b.T b.K b.mg → chkS b.T b.N b.sc x s = true → SS b E x s
  | .set i e, b, E, s, f, tok, h => by
    unfold chkS at h
    split at h
    · rw [Bool.and_eq_true] at h
      exact ss_set f tok h.1 h.2
    · cases h
  | .tgt t e, b, E, s, f, tok, h => by
    unfold chkS at h
    split at h
    · simp only [Bool.and_eq_true] at h
      exact ss_tgt f tok h.1.1.1 h.1.1.2 h.1.2 h.2
    · cases h
  | .par is es, b, E, s, f, tok, h => by
    unfold chkS at h
    split at h
    · split at h
      · simp only [Bool.and_eq_true, decide_eq_true_eq] at h
        exact ss_par2 f tok h.1.1.1.1 h.1.1.1.2 h.1.1.2 h.1.2 h.2
      · cases h
    · split at h
      · simp only [Bool.and_eq_true, decide_eq_true_eq] at h
        exact ss_par3 f tok h.1.1.1.1.1.1.1 h.1.1.1.1.1.1.2 h.1.1.1.1.1.2 h.1.1.1.1.2 h.1.1.1.2 h.1.1.2 h.1.2 h.2
      · cases h
    · cases h
  | .put o i e, b, E, s, f, tok, h => by
    unfold chkS at h
    split at h
    · simp only [Bool.and_eq_true] at h
      exact ss_put f tok h.1.1 h.1.2 h.2
    · cases h
  | .ex e, b, E, s, f, tok, h => by
    unfold chkS at h
    split at h
    · rw [Bool.and_eq_true] at h
      exact ss_ex f tok h.1 h.2
    · cases h
  | .ret e, b, E, s, f, tok, h => by
    unfold chkS at h
    split at h
    · exact ss_ret f tok h
    · cases h
  | .retN, b, E, s, f, tok, h => by
    unfold chkS at h
    split at h
    · exact ⟨_, fun _ _ => ps_retN, fun {σ H m S ρ D} s r p => p H m (.refl _ _ _) s .non rfl⟩
    · cases h
  | .ite c x y, b, E, s, f, tok, h => by
    unfold chkS at h
    split at h
    · simp only [Bool.and_eq_true] at h
      exact ss_ite f tok h.1.1.1 h.1.1.2 (sndSs x f tok h.1.2) (sndSs y f tok h.2)
    · cases h
  | .for t k src bd, b, E, s, f, tok, h => by
    unfold chkS at h
    split at h
    · simp only [Bool.and_eq_true] at h
      exact ss_for f tok h.1.1 h.1.2 (sndSs bd f tok h.2)
    · cases h
  | .pass, b, E, s, f, tok, h => by
    unfold chkS at h
    split at h
    · exact ⟨_, fun _ _ => ps_pass, fun {σ H m S ρ D} s r p => p H m (.refl _ _ _) s σ r⟩
    · cases h
  | .brk, b, E, s, f, tok, h => by
    unfold chkS at h
    split at h
    · exact ⟨_, fun _ _ => ps_break, fun {σ H m S ρ D} s r p => p H m (.refl _ _ _) s σ r⟩
    · cases h
  | .tryA c i bt hd, b, E, s, f, tok, h => by
    unfold chkS at h
    split at h
    · simp only [Bool.and_eq_true, decide_eq_true_eq] at h
      obtain ⟨⟨⟨⟨⟨rfl, h2⟩, h3⟩, h4⟩, h5⟩, h6⟩ := h
      exact ss_try f tok h2 h3 h4 h5 h6
    · cases h
  | .raise c g e, b, E, s, f, tok, h => by
    unfold chkS at h
    split at h
    · simp only [Bool.and_eq_true, decide_eq_true_eq] at h
      obtain ⟨⟨⟨rfl, h2⟩, h3⟩, h4⟩ := h
      exact ss_raise f tok h2 h3 h4
    · cases h
  | .stuck, b, E, s, f, tok, h => ⟨fun _ _ _ => False, fun _ _ => ⟨fun _ _ _ _ _ _ h => h.elim⟩, fun {_ _ _ _ _ _} _ _ p => p⟩
  | .cnt, b, E, s, f, tok, h => by
    unfold chkS at h
    split at h
    · exact ⟨_, fun _ _ => ps_continue, fun {σ H m S ρ D} s r p => p H m (.refl _ _ _) s σ r⟩
    · cases h
theorem sndSs : ∀ (xs : List Sm) {b : Bd} {E : XK} {ss : List Stmt}, Flat b E → TabOk b.T b.K b.mg → chkSs b.T b.N b.sc xs ss = true → SSs b E xs ss
  | [], b, E, ss, f, tok, h => by
    unfold chkSs at h
    split at h
    · exact sss_nil
    · cases h
  | x :: xs, b, E, ss, f, tok, h => by
    unfold chkSs at h
    split at h
    · rw [Bool.and_eq_true] at h
      exact sss_cons (sndS x f tok h.1) (sndSs xs f tok h.2)
    · cases h
end
end DL

set_option maxHeartbeats 4000000
/-! DL12: defs, the program, a law. -/
namespace DL
open PySem PySem.Spec PyProof.Rows L2

section
variable {P : Program} {w : World} {K : PySem.W.Frag} {mg : Str → Option Value} {base : Heap} {k : Nat} {f : Addr}
/-- a def by its body, where no repr is under way -/
theorem fnG_of {nm ql : Str} {pr : Arguments} {bd : List Stmt} {sc : Scope} {dV kV dc pm cv ct oc : Value} {an od : Option Addr} {ol : Array (Option Value)} {N ps : List Str} {sp : Sp}
    (look : K.lookup f = some ⟨oc, od, .func (PySem.W.fnOf nm ql pr bd sc dV kV dc pm an cv ct), ol⟩) (code : PySem.W.codeIn K cv ql = true) (FS : FnScope N ps sc) (hlen : ∀ vs H Q E, sp vs H Q E → vs.length = ps.length)
    (body : ∀ (A : Around) (out : List PySem.Env) (s : Shared) (H : Hp) (vs : List V) (Q : VK) (E : XK), Room k (A.deeper (envOfC ql sc s.heap.objs.size f cv)) → A.guards = some [] → sp vs H Q E →
      ∃ t, PSs (cxOf (L2.CX P w) P w K mg base N ql sc f cv A out s H E) bd t ∧ t { nx := fun _ H' => Q .non H', rt := Q } (start N vs) H) :
    FnG P w K mg base (k + 1) f (PySem.W.fnOf nm ql pr bd sc dV kV dc pm an cv ct) ps sp where
  len := hlen
  run := by
    intro A out s H args us vs Q E room gd env bind rel want
    have size := hlen vs H Q E want
    have inK : K.In s.heap := env.mod.kin.keeps (fun b o e => (env.bs b o e).1)
    have nolim : s.heap.NoLimit := env.mod.nolimit.keeps (fun b o e => (env.bs b o e).1)
    have kinds : ∀ q ∈ ps.zip us, sc.names.lookup q.1 = some .local ∨ (sc.names.lookup q.1 = some .cell ∧ ((cellsFrom (s.heap.objs.size + 1) sc.names []).lookup q.1).isSome = true) := by
      rintro ⟨y, v⟩ hm
      cases FS.par y (List.of_mem_zip hm).1 with
      | inl e => exact .inl e
      | inr e => exact .inr ⟨e, PySem.W.cellsFrom_some _ _ _ (.inl e)⟩
    apply codeAny_call_function room.depth (inK _ _ look) rfl FS.co FS.gen rfl (PySem.W.codeRec_of inK code)
    apply bind
    apply wpAny_newFunctionEnv_cells FS.kind kinds
    rintro _ rfl t1 into
    refine And.intro (nolim.keeps into.toInCall.keep) (codeAny_func ?_)
    obtain ⟨t, pss, go⟩ := body A out s H vs Q E (room.deeper _) gd want
    have inv := inv_start (CX := L2.CX P w) (N := N) (E := E) FS room.hd env size rel into
    refine wpAny_mono (pss.run [] t1 (start N vs) H _ inv go) ?_ (fun _ _ z => z)
    intro fl t2 h2
    have fin : ∀ {σ2 : L2.St} {H2 : Hp} {v : V} {u : Value}, Inv (cxOf (L2.CX P w) P w K mg base N ql sc f cv A out s H E) [] σ2 H2 t2 → RelV v u → Q v H2 → CE out P w H s Q u t2 := by
      intro σ2 H2 v u J r q
      exact ⟨v, H2, J.os, J.bare, J.base, J.hok, r, q⟩
    match fl, h2 with
    | .ret _, ⟨_, _, _, J, r, q⟩ => exact fin J r q
    | .next, ⟨_, _, J, q⟩ => exact fin (v := .non) (u := .none) J rfl q
    | .brk, ⟨_, _, _, q⟩ => exact q.elim
    | .cont, ⟨_, _, _, q⟩ => exact q.elim
end

/-! ### a def of the text -/
structure Df where
  ps : List Str
  N : List Str
  fn : Fn
def chkDef (T : Tab) (d : Df) (sc : Scope) (body : List Stmt) : Bool :=
  decide (sc.kind = .function) && !sc.isCoroutine && !sc.isGenerator && decide d.N.Nodup && decide (d.N.take d.ps.length = d.ps) &&
    (d.ps.all fun x => decide (sc.names.lookup x = some .local) || decide (sc.names.lookup x = some .cell)) && (sc.names.all fun y => decide (y.2 ≠ .free)) &&
    decide (d.ps.length = d.fn.pars) && decide (d.N.length = d.fn.slots) && chkSs T d.N sc d.fn.body body
/-- what is so of the defs of the table -/
structure FnsOk (P : Program) (w : World) (T : Tab) (K : PySem.W.Frag) (mg : Str → Option Value) (base : Heap) (n : Nat) (F : Fns) : Prop where
  to : ∀ (f : Nat) (x : Str) (k : Nat), T.fn[f]? = some (x, k) → ∃ (a : Addr) (fd : FuncData) (ps : List Str), ps.length = k ∧ mg x = some (.ref a) ∧ PySem.W.keepIn K (.ref a) = true ∧ Binds K fd ps [] ∧ FnG P w K mg base (n + 2) a fd ps (spD K k (F f))
  exc : ∀ p ∈ T.exc, ∀ C fI : Addr, PySem.W.nsIn K mainGlobals p.1 = some (some (.ref C)) → XcK K C fI p.2 → ∃ (fd : FuncData) (ps : List Str), FnOk P w K mg base CX0 1 fI fd ps (spInit K C p.2) ∧ Binds K fd ps []
theorem start_env {K : PySem.W.Frag} {H : Hp} {m : Nat → Addr} {L : Nat} {ds : List D} {vs : List V} {N : List Str} (r : RepL K H m L ds vs) : REnv K H m L (ds.map some ++ List.replicate (N.length - ds.length) none) (start N vs) := by
  have hl := r.length
  refine ⟨?_, fun i d e => ?_⟩
  · unfold L2.start
    rw [List.length_append, List.length_append, List.length_map, List.length_map, List.length_replicate, List.length_replicate, hl]
  · have hi : i < ds.length := by
      by_cases hi : i < ds.length
      · exact hi
      · rw [List.getElem?_append_right (by rw [List.length_map]; omega), List.getElem?_replicate] at e
        split at e <;> cases e
    rw [List.getElem?_append_left (by rw [List.length_map]; exact hi), List.getElem?_map] at e
    cases q : ds[i]? with
    | none => rw [q] at e; cases e
    | some d' =>
      rw [q] at e
      cases e
      obtain ⟨v, h1, h2⟩ := r.get q
      refine ⟨v, ?_, h2⟩
      unfold L2.start
      rw [List.getElem?_append_left (by rw [List.length_map]; exact lt_of_get h1), List.getElem?_map, h1]
      rfl
section
variable {P : Program} {w : World} {K : PySem.W.Frag} {mg : Str → Option Value} {base : Heap}
theorem def_ok {T : Tab} {d : Df} {x ql : Str} {pr : Arguments} {body : List Stmt} {sc : Scope} {a : Addr} {fd : FuncData} {n : Nat} {F : Fns} (tok : TabOk T K mg) (fu : FunD K x ql pr body sc [] [] a fd) (h : chkDef T d sc body = true) (fs : FnsOk P w T K mg base n F) :
    FnG P w K mg base (n + 3) a fd d.ps (spD K d.fn.pars (d.fn.call F)) := by
  obtain ⟨oc, od, dV, kV, doc, pm, an, cdv, ct, osl, rfl, lk, hcd, _, _⟩ := fu.ex
  unfold chkDef at h
  simp only [Bool.and_eq_true, decide_eq_true_eq, Bool.not_eq_true', List.all_eq_true, Bool.or_eq_true] at h
  obtain ⟨⟨⟨⟨⟨⟨⟨⟨⟨h1, h2⟩, h3⟩, h4⟩, h5⟩, h6⟩, h7⟩, h8⟩, h9⟩, h10⟩ := h
  have FS : FnScope d.N d.ps sc := ⟨h1, h2, h3, h4, h5, h6, h7⟩
  refine fnG_of lk hcd FS (fun vs H Q E z => ?_) (fun A out s H vs Q E room gd z => ?_)
  · obtain ⟨m, S, ds, e1, _, r, _⟩ := z
    rw [← r.length, e1, h8]
  · obtain ⟨m, S, ds, e1, sm, r, p⟩ := z
    let b : Bd := ⟨T, d.N, F, n + 2, fun c dd _ H => E c dd H, sc, K, mg⟩
    have fl : Flat b E := ⟨rfl⟩
    obtain ⟨t, pss, den⟩ := sndSs d.fn.body (b := b) (E := E) fl tok h10
    have gs : GoodS b (cxOf (L2.CX P w) P w K mg base d.N ql sc a cdv A out s H E) := by
      refine ⟨⟨rfl, h4, rfl, rfl, room, gd, ?_, rfl, rfl, fs.to⟩, ?_, fun _ => rfl, h1, room.mono (by omega), rfl, rfl, fs.exc⟩
      · exact takes_of rfl rfl rfl rfl
      · exact passes_of (K := fun e s'' => L2.CX P w out H s E e s'') (E₁ := fun e s'' => L2.CX P w out H s E e s'') rfl
    refine ⟨t, pss _ gs, den sm (start_env (N := d.N) r) ?_⟩
    show Post K E _ H m S (runs F d.fn.body (ds.map some ++ List.replicate (d.N.length - ds.length) none) S)
    rw [h9]
    unfold Fn.call at p
    rw [if_pos e1] at p
    cases er : runs F d.fn.body (ds.map some ++ List.replicate (d.fn.slots - ds.length) none) S with
    | bad => rw [er] at p; exact p.elim
    | exc c fs S1 => rw [er] at p; exact p
    | ok fl S1 =>
      rw [er] at p
      intro H1 m1 g1 s1
      have p1 := Post.mono GE.mono g1 p
      cases fl with
      | nx ρ => exact fun _ _ => Fin.at p1 s1 rfl
      | rt d0 => exact fun v rv => Fin.at p1 s1 rv
      | bk ρ => exact p1.elim
      | ct ρ => exact p1.elim
/-- the program's defs, n calls deep -/
theorem prog_ok {T : Tab} {Ds : List Df} (tok : TabOk T K mg)
    (hx : ∀ p ∈ T.exc, ∀ C fI : Addr, PySem.W.nsIn K mainGlobals p.1 = some (some (.ref C)) → XcK K C fI p.2 → ∃ (fd : FuncData) (ps : List Str), FnOk P w K mg base CX0 1 fI fd ps (spInit K C p.2) ∧ Binds K fd ps [])
    (hd : ∀ (f : Nat) (x : Str) (k : Nat), T.fn[f]? = some (x, k) → ∃ (d : Df) (ql : Str) (pr : Arguments) (body : List Stmt) (sc : Scope) (a : Addr) (fd : FuncData), Ds[f]? = some d ∧ d.fn.pars = k ∧ d.ps.length = k ∧ FunD K x ql pr body sc [] [] a fd ∧ mg x = some (.ref a) ∧ Binds K fd d.ps [] ∧ chkDef T d sc body = true) :
    ∀ n, FnsOk P w T K mg base n (prog (Ds.map Df.fn) n)
  | 0 => ⟨fun f x k e => by
    obtain ⟨d, ql, pr, body, sc, a, fd, e1, e2, e3, fu, hm, hb, _⟩ := hd f x k e
    refine ⟨a, fd, d.ps, e3, hm, fu.kp, hb, ⟨fun vs H Q E z => ?_, fun A out s H args us vs Q E _ _ _ _ _ z => ?_⟩⟩
    · obtain ⟨m, S, ds, h1, _, r, _⟩ := z
      rw [← r.length, h1, e3]
    · obtain ⟨m, S, ds, h1, _, r, p⟩ := z
      exact p.elim, hx⟩
  | n + 1 => ⟨fun f x k e => by
    obtain ⟨d, ql, pr, body, sc, a, fd, e1, e2, e3, fu, hm, hb, hc⟩ := hd f x k e
    have ih := prog_ok tok hx hd n
    refine ⟨a, fd, d.ps, e3, hm, fu.kp, hb, ?_⟩
    have h := def_ok tok fu hc ih
    rw [e2] at h
    have ep : prog (Ds.map Df.fn) (n + 1) f = d.fn.call (prog (Ds.map Df.fn) n) := by
      funext ds S
      show (match (Ds.map Df.fn)[f]? with
        | some c => c.call (prog (Ds.map Df.fn) n) ds S
        | none => .bad) = _
      rw [List.getElem?_map, e1]
      rfl
    rw [ep]
    exact h, hx⟩
end

/-! ### the law -/
/-- the call of the law's def, from the heap behind the top -/
theorem lawG {P : Program} {w : World} {K : PySem.W.Frag} {mg mb : Str → Option Value} {k : Nat} {fa a : Addr} {fd : FuncData} {x : Str} {sp : Sp} {s1 : Shared} {us : List Value} {ns : List Int}
    (inK : K.In s1.heap) (gl : s1.heap.Ns mainGlobals mg) (bl : s1.heap.Ns builtinsNs mb) (bb : ∀ y : Str, y ≠ "__name__" → mb y = bootBuiltins y) (nolim : s1.heap.NoLimit) (gens : s1.gens = #[])
    (at_ : s1.heap.get? a = some { cls := .type "list", data := .seq us.toArray }) (areI : IntsAre us ns) (hz : ns.length ≤ sizeLine) (room : Room k callerA)
    (F : ∀ base : Heap, K.In base → base.Ns mainGlobals mg → FnG P w K mg base k fa fd [x] sp) (bnd : ∀ (s : Shared) (u : Value), BindsTo s fd ⟨[u], []⟩ [(x, u)])
    (hK : K.lookup sysModules = none) {oS : Obj} {esS : Array DictEntry} {epS : Nat} (hS : s1.heap.get? sysModules = some oS) (hD : oS.data = .dict esS epS)
    (want : ∀ H : Hp, RoAt K H a (ns.map V.int) → (∃ o x, H sysModules = some (.frz o (.own x))) → sp [.ref a] H (fun v _ => v = .bl true) fun _ _ _ => False) :
    codeAny (model P w) callerA (.call (.ref fa) ⟨[.ref a], []⟩) (fun r s2 => r = .ok (.ret (.bool true)) ∧ OldK s1.heap s2.heap ∧ s2.os = s1.os ∧ AllBare s2.gens) s1 := by
  have rel := vals_ints areI
  have count := areI.length
  have hne : a ≠ sysModules := fun z => by
    rw [z, hS] at at_
    cases at_
    exact nomatch (show Data.seq us.toArray _ = Data.dict esS epS from hD)
  suffices core : ∀ H : Hp, (∀ c, H c = none ∨ ∃ o u, H c = some (.frz o u)) → RoAt K H a (ns.map V.int) → H sysModules = some (.frz oS (.own 0)) → HOk P w H s1.heap → (∀ c, H c ≠ none → c = a ∨ c = sysModules) → (∀ c, H c ≠ none → K.lookup c = none) →
      codeAny (model P w) callerA (.call (.ref fa) ⟨[.ref a], []⟩) (fun r s2 => r = .ok (.ret (.bool true)) ∧ OldK s1.heap s2.heap ∧ s2.os = s1.os ∧ AllBare s2.gens) s1 by
    cases hk : K.lookup a with
    | some o =>
      have eo := inK a o hk
      rw [at_] at eo
      cases eo
      refine core (fun c => if c = sysModules then some (.frz oS (.own 0)) else none) (fun c => ?_) (Or.inr ⟨_, us.toArray, _, hk, rfl, rfl, rfl, ?_, ?_⟩) (if_pos rfl) (fun c u z => ?_) (fun c z => ?_) (fun c z => ?_)
      · by_cases e : c = sysModules
        · exact Or.inr ⟨oS, _, if_pos e⟩
        · exact Or.inl (if_neg e)
      · rw [List.size_toArray, count]; exact hz
      · simpa using rel
      · by_cases e : c = sysModules
        · have z2 := (if_pos e).symm.trans z
          cases z2
          rw [e]
          exact ⟨hS, oS, hS⟩
        · have z2 := (if_neg e).symm.trans z
          cases z2
      · by_cases e : c = sysModules
        · exact .inr e
        · exact absurd (if_neg e) z
      · by_cases e : c = sysModules
        · rw [e]; exact hK
        · exact absurd (if_neg e) z
    | none =>
      let O : Obj := { cls := .type "list", data := .seq us.toArray }
      refine core (fun c => if c = sysModules then some (.frz oS (.own 0)) else if c = a then some (.frz O (.lst (ns.map V.int))) else none) (fun c => ?_) (Or.inl ⟨O, ?_⟩) (if_pos rfl) (fun c u z => ?_) (fun c z => ?_) (fun c z => ?_)
      · by_cases e : c = sysModules
        · exact Or.inr ⟨oS, _, if_pos e⟩
        · by_cases e2 : c = a
          · exact Or.inr ⟨O, _, by rw [if_neg e, if_pos e2]⟩
          · exact Or.inl (by rw [if_neg e, if_neg e2])
      · show (if a = sysModules then _ else if a = a then _ else _) = _
        rw [if_neg hne, if_pos rfl]
      · by_cases e : c = sysModules
        · have z2 := (if_pos e).symm.trans z
          cases z2
          rw [e]
          exact ⟨hS, oS, hS⟩
        · by_cases e2 : c = a
          · have z1 : (if c = a then some (HO.frz O (.lst (ns.map V.int))) else none) = some u := (if_neg e).symm.trans z
            rw [if_pos e2] at z1
            cases z1
            rw [e2]
            exact ⟨at_, (by rw [List.length_map]; exact hz), us, _, rel, at_⟩
          · have z1 : (if c = a then some (HO.frz O (.lst (ns.map V.int))) else none) = some u := (if_neg e).symm.trans z
            rw [if_neg e2] at z1
            cases z1
      · by_cases e : c = sysModules
        · exact .inr e
        · by_cases e2 : c = a
          · exact .inl e2
          · exact absurd (show (if c = sysModules then _ else if c = a then _ else none) = none by rw [if_neg e, if_neg e2]) z
      · by_cases e : c = sysModules
        · rw [e]; exact hK
        · by_cases e2 : c = a
          · rw [e2]; exact hk
          · exact absurd (show (if c = sysModules then _ else if c = a then _ else none) = none by rw [if_neg e, if_neg e2]) z
  intro H only ro sysH hok alone apart
  have ns_ : ∀ {c : Addr} {mm : Str → Option Value}, c ≠ sysModules → s1.heap.Ns c mm → (hidT s1.heap H).Ns c mm := by
    rintro c mm hc ⟨o, es, ep, e, d, r⟩
    refine ⟨o, es, ep, hidT_get e ?_, d, r⟩
    cases q : H c with
    | none => rfl
    | some u =>
      rcases alone c (by rw [q]; exact fun z => nomatch z) with h | h
      · rw [h, at_] at e
        cases e
        exact nomatch (show Data.seq us.toArray _ = Data.dict es ep from d)
      · exact absurd h hc
  have inB : K.In (hidT s1.heap H) := by
    intro c o e
    refine hidT_get (inK c o e) ?_
    cases q : H c with
    | none => rfl
    | some u =>
      rw [apart c (by rw [q]; exact fun z => nomatch z)] at e
      cases e
  have md : Mod K mg (hidT s1.heap H) := ⟨inB, ns_ (by decide) gl, ⟨mb, ns_ (by decide) bl, bb⟩, let ⟨mc, q1, q2⟩ := nolim; ⟨mc, ns_ (by decide) q1, q2⟩⟩
  have env : Env0 P w K mg (hidT s1.heap H) callerA [] s1 H := ⟨rfl, md, fun c o e => of_hidT e, Nat.le_of_eq (hidT_size _ _), trivial, fun c hc => absurd hc (by simp [frs]), hok, .of_eq gens⟩
  refine codeAny_mono ((F _ inB (ns_ (by decide) gl)).run callerA [] s1 H ⟨[.ref a], []⟩ [.ref a] [.ref a] _ _ room rfl env (bnd s1 (.ref a)) (.cons rfl .nil) (want H ro ⟨oS, 0, sysH⟩)) ?_
  intro r s2 h
  match r, h with
  | .error e, h =>
    obtain ⟨_, _, _, _, _, _, _, _, _, _, _, _, z⟩ := (show L2.CX P w [] H s1 (fun _ _ _ => False) e s2 from h)
    exact z.elim
  | .ok .next, h => exact h.elim
  | .ok .brk, h => exact h.elim
  | .ok .cont, h => exact h.elim
  | .ok (.ret u), ⟨v, H2, os, bare, un, hok2, rv, q⟩ =>
    have ev : v = .bl true := q
    subst ev
    obtain rfl : u = Value.bool true := rv
    refine ⟨rfl, OldK.of_keep fun c o e => ?_, os, bare⟩
    cases q : H c with
    | none => exact un.keep c o e q (by simp [frs]) (by simp)
    | some z =>
      rcases only c with n | ⟨ob, xs, y⟩
      · rw [q] at n; cases n
      · obtain ⟨e1, _⟩ := hok c _ y
        obtain ⟨e2, _⟩ := hok2 c _ (un.frzs c ob _ y)
        rw [e] at e1
        cases e1
        exact e2
/-- the law's end, over a head by facts -/
theorem walkG {l : PySem.W.OpenLaw} {n k : Nat} {q : Program} {loose : List Str} {XP : (Str → Option Value) → Heap → Prop} {YP : World → Heap → Prop} {d : DefRec} {x : Str}
    (hn : l.most = some n) (hn2 : n ≤ sizeLine) (hdf : d.params.defaults = []) (room : Room k callerA)
    (F : ∀ (w : World) (mg : Str → Option Value) (fa : Addr) (h : Heap), YP w h → h.Ns mainGlobals mg → mg d.name = some (.ref fa) →
      ∃ (K : PySem.W.Frag) (fd : FuncData) (g : List D → Store → Rs D), (K.lookup sysModules = none ∧ ∃ o es ep, h.get? sysModules = some o ∧ o.data = .dict es ep) ∧ K.In h ∧ (∀ (s : Shared) (u : Value), BindsTo s fd ⟨[u], []⟩ [(x, u)]) ∧ (∀ base : Heap, K.In base → base.Ns mainGlobals mg → FnG l.prog w K mg base k fa fd [x] (spD K 1 g)) ∧
        ∀ ns : List Int, ns.length ≤ n → ∃ S, g [.ref 0] [.ro (ns.map D.int)] = .ok (.bl true) S) :
    PySem.W.WalkO q loose XP YP l.row.toRowW d [] (fun f vs => PySem.call f vs) := by
  refine Att.attach_call hn hdf fun w s₀ s₁ mg mb fa o pm cd doc a vs ns G Y ho hd hcd hmg hobj hints hlen hg => ?_
  obtain ⟨K, fd, g, ⟨hK, oS, esS, epS, hS, hD⟩, inK, bnd, hF, hL⟩ := F w mg fa _ Y G.T.g hmg
  refine lawG inK G.T.g G.T.b G.T.builtins G.T.nolimit hg hobj hints (Nat.le_trans hlen hn2) room hF bnd hK hS hD fun H ro sy => ?_
  obtain ⟨S, e⟩ := hL ns hlen
  have c0 : CellOk K H (fun _ => a) 1 a (.ro (ns.map D.int)) := ⟨ns.map V.int, ro, RepL.ofInts ns⟩
  refine ⟨fun _ => a, [.ro (ns.map D.int)], [.ref 0], rfl, ⟨fun i c ei => ?_, fun i j c d e1 e2 h1 _ _ => ?_, sy⟩, ⟨.ref a, [], rfl, ⟨Nat.zero_lt_one, rfl⟩, rfl⟩, ?_⟩
  · match i, ei with
    | 0, ei => cases ei; exact c0
    | i + 1, ei => cases ei
  · match i, e1 with
    | 0, e1 => cases e1; cases h1
    | i + 1, e1 => cases e1
  · rw [e]
    exact fun v H' m' _ _ r => r
end DL

set_option maxHeartbeats 4000000
/-! DL13: tools for plain laws on data. -/
namespace DL
open PySem PySem.Spec PyProof.Rows L2

/-- it ends well, with Q -/
def Does {α : Type} (x : Rs α) (Q : α → Store → Prop) : Prop := ∃ a S, x = .ok a S ∧ Q a S
section
variable {α β : Type} {Q : α → Store → Prop} {S : Store} {a : α}
@[simp] theorem Does_ok : Does (.ok a S) Q ↔ Q a S := ⟨fun ⟨_, _, e, q⟩ => by cases e; exact q, fun q => ⟨_, _, rfl, q⟩⟩
theorem Does.bind {x : Rs β} {f : β → Store → Rs α} (h : Does x fun b S => Does (f b S) Q) : Does (x.bind f) Q := by
  obtain ⟨b, S1, e, q⟩ := h
  rw [e]; exact q
theorem Does.bind' {x : Rs β} {f : β → Store → Rs α} {R : β → Store → Prop} (h : Does x R) (k : ∀ b S, R b S → Does (f b S) Q) : Does (x.bind f) Q := by
  obtain ⟨b, S1, e, q⟩ := h
  rw [e]; exact k _ _ q
theorem Does.imp {x : Rs α} {R : α → Store → Prop} (h : Does x R) (k : ∀ b S, R b S → Q b S) : Does x Q := by
  obtain ⟨b, S1, e, q⟩ := h
  exact ⟨b, S1, e, k _ _ q⟩
@[simp] theorem okb {f : α → Store → Rs β} : (Rs.ok a S).bind f = f a S := rfl
@[simp] theorem badb {f : α → Store → Rs β} : (Rs.bad : Rs α).bind f = .bad := rfl
theorem bind_assoc {γ : Type} {x : Rs α} {f : α → Store → Rs β} {g : β → Store → Rs γ} : (x.bind f).bind g = x.bind fun a S => (f a S).bind g := by cases x <;> rfl
@[simp] theorem lift_some {d : D} : lift (some (d, S)) = .ok d S := rfl
@[simp] theorem asBool_bl {b : Bool} {k : Bool → Rs α} : asBool (.bl b) k = k b := rfl
@[simp] theorem asInt_int {b : Int} {k : Int → Rs α} : asInt (.int b) k = k b := rfl
@[simp] theorem asEnv_some {b : EnvD} {k : EnvD → Rs α} : asEnv (some b) k = k b := rfl
@[simp] theorem tr_bl {b : Bool} : tr (.ok (.bl b) S) = .ok b S := rfl
@[simp] theorem tr_non : tr (.ok .non S) = .ok false S := rfl
@[simp] theorem tr_int {i : Int} : tr (.ok (.int i) S) = .ok (i != 0) S := rfl
@[simp] theorem tr_tup {i : List D} : tr (.ok (.tup i) S) = .ok (!i.isEmpty) S := rfl
@[simp] theorem noexc_ok : noexc (.ok a S) = .ok a S := rfl
@[simp] theorem turnOf_nx {ρ : EnvD} : turnOf (.nx ρ) = .inl ρ := rfl
@[simp] theorem turnOf_ct {ρ : EnvD} : turnOf (.ct ρ) = .inl ρ := rfl
@[simp] theorem turnOf_bk {ρ : EnvD} : turnOf (.bk ρ) = .inr (.nx ρ) := rfl
@[simp] theorem turnOf_rt {d : D} : turnOf (.rt d) = .inr (.rt d) := rfl
@[simp] theorem setAll_nil {ρ : EnvD} : setAll [] [] ρ = some ρ := rfl
@[simp] theorem setAll_cons {i : Nat} {is : List Nat} {d : D} {ds : List D} {ρ : EnvD} : setAll (i :: is) (d :: ds) ρ = setAll is ds (ρ.set i (some d)) := rfl
@[simp] theorem bind_one {i : Nat} {d : D} {ρ : EnvD} : (Tg.one i).bind d ρ = some (ρ.set i (some d)) := rfl
@[simp] theorem bind_many {is : List Nat} {ds : List D} {ρ : EnvD} : (Tg.many is).bind (.tup ds) ρ = setAll is ds ρ := rfl
@[simp] theorem wipe_nil {ρ : EnvD} : wipeD ρ [] = ρ := rfl
@[simp] theorem wipe_cons {ρ : EnvD} {v : Nat} {vs : List Nat} : wipeD ρ (v :: vs) = (wipeD ρ vs).set v none := rfl
@[simp] theorem isLst_of {n : Nat} {xs : List D} (h : S[n]? = some (.lst xs)) : isLst (.ref n) S = true := by simp only [isLst, h]
end

/-! ### operators -/
section
variable {S : Store}
@[simp] theorem o_add {i j : Int} : opF .add (.int i) (.int j) S = some (.int (i + j), S) := Eq.trans rfl rfl
@[simp] theorem o_sub {i j : Int} : opF .sub (.int i) (.int j) S = some (.int (i - j), S) := Eq.trans rfl rfl
@[simp] theorem o_lt {i j : Int} : opF .lt (.int i) (.int j) S = some (.bl (decide (i < j)), S) := Eq.trans rfl rfl
@[simp] theorem o_le {i j : Int} : opF .le (.int i) (.int j) S = some (.bl (decide (i ≤ j)), S) := Eq.trans rfl rfl
@[simp] theorem o_gt {i j : Int} : opF .gt (.int i) (.int j) S = some (.bl (decide (j < i)), S) := Eq.trans rfl rfl
@[simp] theorem o_ge {i j : Int} : opF .ge (.int i) (.int j) S = some (.bl (decide (j ≤ i)), S) := Eq.trans rfl rfl
@[simp] theorem o_lt2 {a b c d : Int} : opF .lt (.tup [.int a, .int b]) (.tup [.int c, .int d]) S = some (.bl (HT.lexLt [a, b] [c, d]), S) := Eq.trans rfl rfl
theorem o_mul {i j : Int} (h : (-(2 ^ 64) < i ∧ i < 2 ^ 64) ∨ (-(2 ^ 64) < j ∧ j < 2 ^ 64)) : opF .mul (.int i) (.int j) S = some (.int (i * j), S) := by
  show (if _ then _ else _) = _
  rw [if_pos]
  simpa using h
theorem o_mod {i j : Int} (h : 0 < j) : opF .mod (.int i) (.int j) S = some (.int (i % j), S) := by
  show (if _ then _ else _) = _
  rw [if_pos h]
theorem o_div {i j : Int} (h : 0 < j) (h2 : j.natAbs.log2 < 9000) : opF .div (.int i) (.int j) S = some (.int (i / j), S) := by
  show (if _ then _ else _) = _
  rw [if_pos ⟨h, h2⟩]
theorem o_pow {i : Int} {j : Int} (h : 0 ≤ j ∧ j ≤ 1000 ∧ i.natAbs < 2 ^ 64) : opF .pow (.int i) (.int j) S = some (.int (i ^ j.toNat), S) := by
  show (if _ then _ else _) = _
  rw [if_pos h]
theorem atI_nat {α : Type} {xs : List α} {n : Nat} : atI xs (n : Int) = xs[n]? := by
  unfold atI ixN
  by_cases h : n < xs.length
  · have h1 : (0 : Int) ≤ (n : Int) := Int.natCast_nonneg n
    simp [h1, h]
  · simp [h]
theorem atI_of {α : Type} {xs : List α} {i : Int} (h : 0 ≤ i) : atI xs i = xs[i.toNat]? := by
  obtain ⟨n, rfl⟩ := Int.eq_ofNat_of_zero_le h
  rw [atI_nat]; rfl
theorem ix_tup {xs : List D} {i : Int} {d : D} (h : atI xs i = some d) : ixF (.tup xs) (.int i) S = some (d, S) := by
  simp only [ixF, items, h]
@[simp] theorem ix_0 {a : D} {xs : List D} : ixF (.tup (a :: xs)) (.int 0) S = some (a, S) := ix_tup (by rw [atI_of (by decide)]; rfl)
@[simp] theorem ix_1 {a b : D} {xs : List D} : ixF (.tup (a :: b :: xs)) (.int 1) S = some (b, S) := ix_tup (by rw [atI_of (by decide)]; rfl)
@[simp] theorem ix_2 {a b c : D} {xs : List D} : ixF (.tup (a :: b :: c :: xs)) (.int 2) S = some (c, S) := ix_tup (by rw [atI_of (by decide)]; rfl)
@[simp] theorem ix_3 {a b c d : D} {xs : List D} : ixF (.tup (a :: b :: c :: d :: xs)) (.int 3) S = some (d, S) := ix_tup (by rw [atI_of (by decide)]; rfl)
@[simp] theorem ix_4 {a b c d e : D} {xs : List D} : ixF (.tup (a :: b :: c :: d :: e :: xs)) (.int 4) S = some (e, S) := ix_tup (by rw [atI_of (by decide)]; rfl)
theorem ix_lst {n : Nat} {xs : List D} {i : Int} {d : D} (c : S[n]? = some (.lst xs)) (h : atI xs i = some d) : ixF (.ref n) (.int i) S = some (d, S) := by
  simp only [ixF, items, c, h]
theorem ix_ro {n : Nat} {xs : List D} {i : Int} {d : D} (c : S[n]? = some (.ro xs)) (h : atI xs i = some d) : ixF (.ref n) (.int i) S = some (d, S) := by
  simp only [ixF, items, c, h]
theorem put_lst {n : Nat} {xs : List D} {i : Int} {j : Nat} {v : D} (c : S[n]? = some (.lst xs)) (h : ixN xs.length i = some j) : putF (.ref n) (.int i) v S = some (S.set n (.lst (xs.set j v))) := by
  simp only [putF, c, h]
theorem ixN_of {n : Nat} {i : Int} (h : 0 ≤ i) (h2 : i < n) : ixN n i = some i.toNat := by
  unfold ixN
  simp [h, h2]
theorem append_ok {n : Nat} {xs : List D} {d : D} (c : S[n]? = some (.lst xs)) (h : xs.length < line) : mthF .append (.ref n) [d] S = some (.non, S.set n (.lst (xs ++ [d]))) := by
  simp only [mthF, c, if_pos h]
theorem extend_ok {n k : Nat} {xs ys : List D} (c : S[n]? = some (.lst xs)) (e : S[k]? = some (.lst ys)) (h : xs.length + ys.length ≤ line) : mthF .extend (.ref n) [.ref k] S = some (.non, S.set n (.lst (xs ++ ys))) := by
  simp only [mthF, c, e, if_pos h]
@[simp] theorem b_int {i : Int} : bltF .int [.int i] S = some (.int i, S) := rfl
@[simp] theorem b_len {xs : List D} : bltF .len [.tup xs] S = some (.int xs.length, S) := rfl
theorem b_lenL {n : Nat} {xs : List D} (c : S[n]? = some (.lst xs)) : bltF .len [.ref n] S = some (.int xs.length, S) := by simp only [bltF, items, c]
@[simp] theorem b_tup {xs : List D} : bltF .tuple [.tup xs] S = some (.tup xs, S) := rfl
theorem b_tupL {n : Nat} {xs : List D} (c : S[n]? = some (.lst xs)) : bltF .tuple [.ref n] S = some (.tup xs, S) := by simp only [bltF, items, c]
@[simp] theorem b_list {xs : List D} : bltF .list [.tup xs] S = some (.ref S.length, S ++ [.lst xs]) := rfl
theorem b_listL {n : Nat} {xs : List D} (c : S[n]? = some (.lst xs)) : bltF .list [.ref n] S = some (.ref S.length, S ++ [.lst xs]) := by simp only [bltF, items, c]
end

/-! ### walks -/
section
variable {β γ : Type} {nx : Nat → Store → Option (Option D)} {turn : D → β → Store → Rs (β ⊕ γ)}
/-- by an invariant, no turn leaves -/
theorem loop_inv (ds : List D) (I : Nat → β → Store → Prop) (hn : ∀ i b S, I i b S → nx i S = some ds[i]?)
    (ht : ∀ i x b S, ds[i]? = some x → I i b S → Does (turn x b S) fun r S' => ∃ b', r = .inl b' ∧ I (i + 1) b' S') :
    ∀ n i b S, ds.length = i + n → I i b S → Does (loop nx turn n i b S) fun r S' => ∃ b', r = .inl b' ∧ I ds.length b' S'
  | 0, i, b, S, e, h => by
    have hs := hn i b S h
    rw [List.getElem?_eq_none (by omega)] at hs
    unfold loop
    rw [hs]
    exact Does_ok.mpr ⟨b, rfl, by rw [e]; exact h⟩
  | n + 1, i, b, S, e, h => by
    have hs := hn i b S h
    have hx : ds[i]? = some ds[i] := List.getElem?_eq_getElem (by omega)
    rw [hx] at hs
    unfold loop
    rw [hs]
    refine (ht i _ b S hx h).bind' fun r S1 hr => ?_
    obtain ⟨b', rfl, h'⟩ := hr
    exact loop_inv ds I hn ht n (i + 1) b' S1 (by omega) h'
/-- no turn, or one that leaves -/
theorem loop_exit (ds : List D) (I : Nat → β → Store → Prop) (Z : γ → Store → Prop) (hn : ∀ i b S, I i b S → nx i S = some ds[i]?)
    (ht : ∀ i x b S, ds[i]? = some x → I i b S → Does (turn x b S) fun r S' => (∃ b', r = .inl b' ∧ I (i + 1) b' S') ∨ ∃ c, r = .inr c ∧ Z c S') :
    ∀ n i b S, ds.length = i + n → I i b S → Does (loop nx turn n i b S) fun r S' => (∃ b', r = .inl b' ∧ I ds.length b' S') ∨ ∃ c, r = .inr c ∧ Z c S'
  | 0, i, b, S, e, h => by
    have hs := hn i b S h
    rw [List.getElem?_eq_none (by omega)] at hs
    unfold loop
    rw [hs]
    exact Does_ok.mpr (.inl ⟨b, rfl, by rw [e]; exact h⟩)
  | n + 1, i, b, S, e, h => by
    have hs := hn i b S h
    have hx : ds[i]? = some ds[i] := List.getElem?_eq_getElem (by omega)
    rw [hx] at hs
    unfold loop
    rw [hs]
    refine (ht i _ b S hx h).bind' fun r S1 hr => ?_
    rcases hr with ⟨b', rfl, h'⟩ | ⟨c, rfl, h'⟩
    · exact loop_exit ds I Z hn ht n (i + 1) b' S1 (by omega) h'
    · exact Does_ok.mpr (.inr ⟨c, rfl, h'⟩)
end
/-- what a walk over range goes through -/
def rngD (a : Int) (n : Nat) : List D := (List.range n).map fun (i : Nat) => D.int (a + (i : Int))
theorem rngD_len {a : Int} {n : Nat} : (rngD a n).length = n := by unfold rngD; simp
theorem rngD_get {a : Int} {n i : Nat} : (rngD a n)[i]? = if i < n then some (.int (a + (i : Int))) else none := by
  unfold rngD
  by_cases h : i < n
  · simp [h]
  · simp [h]
theorem nxt_rng1 {n : Int} {i : Nat} {S : Store} : nxt .rng1 [.int n] i S = some (rngD 0 n.toNat)[i]? := by
  rw [rngD_get]
  show (if _ then _ else _) = _
  split <;> rfl
theorem nxt_rng2 {a b : Int} {i : Nat} {S : Store} : nxt .rng2 [.int a, .int b] i S = some (rngD a (b - a).toNat)[i]? := by
  rw [rngD_get]
  show (if _ then _ else _) = _
  split <;> rfl
theorem nxt_tup {ds : List D} {i : Nat} {S : Store} : nxt .seq [.tup ds] i S = some ds[i]? := rfl
theorem nxt_lst {n : Nat} {ds : List D} {i : Nat} {S : Store} (c : S[n]? = some (.lst ds)) : nxt .seq [.ref n] i S = some ds[i]? := by simp only [nxt, items, c]
theorem turns_tup {ds : List D} {S : Store} : turns .seq [.tup ds] S = some ds.length := rfl
theorem turns_lst {n : Nat} {ds : List D} {S : Store} (c : S[n]? = some (.lst ds)) : turns .seq [.ref n] S = some ds.length := by simp only [turns, items, c]
theorem turns_rng1 {n : Int} {S : Store} (h : -(2 ^ 62) ≤ n ∧ n < 2 ^ 62) : turns .rng1 [.int n] S = some n.toNat := by
  show (if _ then _ else _) = _
  rw [if_pos h]
theorem turns_rng2 {a b : Int} {S : Store} (h : (-(2 ^ 62) ≤ a ∧ a < 2 ^ 62) ∧ (-(2 ^ 62) ≤ b ∧ b < 2 ^ 62)) : turns .rng2 [.int a, .int b] S = some (b - a).toNat := by
  show (if _ then _ else _) = _
  rw [if_pos h]
/-- a for over items that stand -/
theorem for_ok {F : Fns} {t : Tg} {k : Src} {src : List Ex} {b : List Sm} {ρ : EnvD} {S S1 : Store} {args : List D} {Q : Fl → Store → Prop} (ds : List D) (I : Nat → EnvD → Store → Prop)
    (he : evs F src ρ S = .ok args S1) (hk : turns k args S1 = some ds.length) (hn : ∀ i ρ S, I i ρ S → nxt k args i S = some ds[i]?) (h0 : I 0 ρ S1)
    (ht : ∀ i x ρ S, ds[i]? = some x → I i ρ S → ∃ ρ1, t.bind x ρ = some ρ1 ∧ Does (runs F b ρ1 S) fun f S' => ∃ ρ', turnOf f = .inl ρ' ∧ I (i + 1) ρ' S')
    (hq : ∀ ρ S, I ds.length ρ S → Q (.nx ρ) S) : Does (run F (.for t k src b) ρ S) Q := by
  rw [DL.run, he, okb, hk]
  refine (loop_inv ds I hn (fun i x ρ S hx h => ?_) ds.length 0 ρ S1 (by omega) h0).bind' fun r S2 hr => ?_
  · obtain ⟨ρ1, e1, h1⟩ := ht i x ρ S hx h
    rw [e1]
    refine h1.bind' fun f S' hf => ?_
    obtain ⟨ρ', e2, h2⟩ := hf
    exact Does_ok.mpr ⟨ρ', e2, h2⟩
  · obtain ⟨ρ', rfl, h2⟩ := hr
    exact Does_ok.mpr (hq _ _ h2)
/-- a for that may leave -/
theorem for_exit {F : Fns} {t : Tg} {k : Src} {src : List Ex} {b : List Sm} {ρ : EnvD} {S S1 : Store} {args : List D} {Q : Fl → Store → Prop} (ds : List D) (I : Nat → EnvD → Store → Prop)
    (he : evs F src ρ S = .ok args S1) (hk : turns k args S1 = some ds.length) (hn : ∀ i ρ S, I i ρ S → nxt k args i S = some ds[i]?) (h0 : I 0 ρ S1)
    (ht : ∀ i x ρ S, ds[i]? = some x → I i ρ S → ∃ ρ1, t.bind x ρ = some ρ1 ∧ Does (runs F b ρ1 S) fun f S' => (∃ ρ', turnOf f = .inl ρ' ∧ I (i + 1) ρ' S') ∨ ∃ c, turnOf f = .inr c ∧ Q c S')
    (hq : ∀ ρ S, I ds.length ρ S → Q (.nx ρ) S) : Does (run F (.for t k src b) ρ S) Q := by
  rw [DL.run, he, okb, hk]
  refine (loop_exit ds I Q hn (fun i x ρ S hx h => ?_) ds.length 0 ρ S1 (by omega) h0).bind' fun r S2 hr => ?_
  · obtain ⟨ρ1, e1, h1⟩ := ht i x ρ S hx h
    rw [e1]
    exact h1.bind' fun f S' hf => Does_ok.mpr hf
  · rcases hr with ⟨ρ', rfl, h2⟩ | ⟨c, rfl, h2⟩
    · exact Does_ok.mpr (hq _ _ h2)
    · exact Does_ok.mpr h2
/-- a list made by a comprehension: its growing cell is S1.length -/
theorem comp_ok {F : Fns} {own : List Nat} {k : Src} {src : List Ex} {t : Tg} {c e : Ex} {ρ : EnvD} {S S1 : Store} {args : List D} {Q : D → Store → Prop} (ds : List D) (I : Nat → List D → Store → Prop)
    (he : evs F src ρ S = .ok args S1) (hk : turns k args S1 = some ds.length) (hn : ∀ i acc S, S[S1.length]? = some (.lst acc) → I i acc S → nxt k args i S = some ds[i]?) (h0 : I 0 [] (S1 ++ [.lst []]))
    (ht : ∀ i x acc S, ds[i]? = some x → S[S1.length]? = some (.lst acc) → I i acc S → ∃ ρ1, t.bind x (wipeD ρ own) = some ρ1 ∧
      Does (tr (ev F c ρ1 S)) fun b S2 => (b = false ∧ S2[S1.length]? = some (.lst acc) ∧ I (i + 1) acc S2) ∨ (b = true ∧ Does (ev F e ρ1 S2) fun d S3 => S3[S1.length]? = some (.lst acc) ∧ acc.length < line ∧ I (i + 1) (acc ++ [d]) (S3.set S1.length (.lst (acc ++ [d])))))
    (hq : ∀ acc S, S[S1.length]? = some (.lst acc) → I ds.length acc S → Q (.ref S1.length) S) : Does (ev F (.comp own k src t c e) ρ S) Q := by
  rw [ev, he, okb, hk]
  have L : Does (loop (nxt k args) (fun x (_ : Unit) S => compTurn S1.length (ev F c) (ev F e) (fun x => t.bind x (wipeD ρ own)) x S) ds.length 0 () (S1 ++ [.lst []])) fun r S' => ∃ b', r = .inl b' ∧ ∃ acc, S'[S1.length]? = some (.lst acc) ∧ I ds.length acc S' := by
    refine loop_inv ds (fun i _ S => ∃ acc, S[S1.length]? = some (.lst acc) ∧ I i acc S) (fun i b S ⟨acc, h1, h2⟩ => hn i acc S h1 h2) (fun i x b S hx ⟨acc, h1, h2⟩ => ?_) ds.length 0 () _ (by omega) ⟨[], by simp, h0⟩
    obtain ⟨ρ1, e1, h3⟩ := ht i x acc S hx h1 h2
    show Does (compTurn _ _ _ _ _ _) _
    unfold compTurn
    simp only [e1]
    refine h3.bind' fun b S2 hb => ?_
    rcases hb with ⟨rfl, h4, h5⟩ | ⟨rfl, h4⟩
    · exact Does_ok.mpr ⟨(), rfl, acc, h4, h5⟩
    · refine h4.bind' fun d S3 hd => ?_
      obtain ⟨h5, h6, h7⟩ := hd
      rw [h5]
      show Does (if acc.length < line then _ else _) _
      rw [if_pos h6]
      refine Does_ok.mpr ⟨(), rfl, _, ?_, h7⟩
      have hl := lt_of_get h5
      simp [hl]
  obtain ⟨r, S2, e2, b', rfl, acc, h1, h2⟩ := L
  show Does (noexc ((loop _ _ _ _ _ _).bind _)) Q
  rw [e2]
  exact Does_ok.mpr (hq acc S2 h1 h2)
/-- a call of the program -/
theorem call_ok {T : List Fn} {n f : Nat} {c : Fn} {ds : List D} {S : Store} {Q : D → Store → Prop} (e : T[f]? = some c) (hl : ds.length = c.pars) (ρ0 : EnvD) (h0 : ds.map some ++ List.replicate (c.slots - ds.length) none = ρ0)
    (h : Does (runs (prog T n) c.body ρ0 S) fun r S1 => match r with
      | .rt d => Q d S1
      | .nx _ => Q .non S1
      | _ => False) : Does (prog T (n + 1) f ds S) Q := by
  subst h0
  show Does (match T[f]? with
    | some c => c.call (prog T n) ds S
    | none => .bad) Q
  rw [e]
  show Does (Fn.call _ _ _ _) Q
  unfold Fn.call
  rw [if_pos hl]
  refine h.bind' fun r S1 hr => ?_
  cases r with
  | rt d => exact Does_ok.mpr hr
  | nx ρ => exact Does_ok.mpr hr
  | bk ρ => exact hr.elim
  | ct ρ => exact hr.elim
end DL
namespace DL
section
variable {F : Fns} {s : Sm} {ss : List Sm} {ρ : EnvD} {S : Store} {Q : Fl → Store → Prop}
/-- one statement, then the rest -/
theorem stp (h : Does (run F s ρ S) fun f S1 => match f with
    | .nx ρ1 => Does (runs F ss ρ1 S1) Q
    | f => Q f S1) : Does (runs F (s :: ss) ρ S) Q := by
  rw [runs]
  refine h.bind' fun f S1 hf => ?_
  cases f with
  | nx ρ1 => exact hf
  | rt d => exact Does_ok.mpr hf
  | bk ρ1 => exact Does_ok.mpr hf
  | ct ρ1 => exact Does_ok.mpr hf
/-- one statement by what it leaves -/
theorem stp_nx (ρ1 : EnvD) (P : Store → Prop) (h : ∀ W : Store → Prop, (∀ S1, P S1 → W S1) → Does (run F s ρ S) fun f S1 => f = .nx ρ1 ∧ W S1) (k : ∀ S1, P S1 → Does (runs F ss ρ1 S1) Q) : Does (runs F (s :: ss) ρ S) Q := by
  refine stp ((h P fun _ z => z).imp fun f S1 hf => ?_)
  obtain ⟨rfl, hp⟩ := hf
  exact k _ hp
@[simp] theorem done : Does (runs F [] ρ S) Q ↔ Q (.nx ρ) S := by
  rw [runs]; exact Does_ok
end
end DL
namespace DL
open PySem PySem.Spec PyProof.Rows L2
section
variable {F : Fns} {ρ : EnvD} {S : Store}
@[simp] theorem ev_var {i : Nat} : ev F (.var i) ρ S = match ρ[i]? with
    | some (some d) => .ok d S
    | _ => .bad := by rw [ev] <;> rfl
@[simp] theorem ev_cst {d : D} : ev F (.cst d) ρ S = .ok d S := by rw [ev]
@[simp] theorem ev_glb {x : Str} {d : D} : ev F (.glb x d) ρ S = .ok d S := by rw [ev]
@[simp] theorem ev_tup {es : List Ex} : ev F (.tup es) ρ S = (evs F es ρ S).bind fun ds S1 => if ds.length ≤ 16777216 then .ok (.tup ds) S1 else .bad := by rw [ev]
@[simp] theorem ev_lst {es : List Ex} : ev F (.lst es) ρ S = (evs F es ρ S).bind fun ds S1 => if ds.length ≤ 16777216 then .ok (.ref S1.length) (S1 ++ [.lst ds]) else .bad := by rw [ev]
@[simp] theorem ev_op {o : Op} {a b : Ex} : ev F (.op o a b) ρ S = (ev F a ρ S).bind fun x S1 => (ev F b ρ S1).bind fun y S2 => lift (opF o x y S2) := by rw [ev]
@[simp] theorem ev_chain {o o' : Op} {a b c : Ex} : ev F (.chain o o' a b c) ρ S = (ev F a ρ S).bind fun x S1 => (ev F b ρ S1).bind fun y S2 => (lift (opF o x y S2)).bind fun d S3 => asBool d fun k =>
      if k = true then (ev F c ρ S3).bind fun z S4 => lift (opF o' y z S4) else .ok (.bl false) S3 := by rw [ev]
@[simp] theorem ev_neg {a : Ex} : ev F (.neg a) ρ S = (ev F a ρ S).bind fun x S1 => asInt x fun i => .ok (.int (-i)) S1 := by rw [ev]
@[simp] theorem ev_isN {k : Bool} {a : Ex} : ev F (.isN k a) ρ S = (ev F a ρ S).bind fun x S1 => .ok (.bl (match x with
      | .non => !k
      | _ => k)) S1 := by rw [ev] <;> rfl
@[simp] theorem ev_and {a b : Ex} : ev F (.and a b) ρ S = (ev F a ρ S).bind fun x S1 => asBool x fun k => if k = true then ev F b ρ S1 else .ok (.bl false) S1 := by rw [ev]
@[simp] theorem ev_or {a b : Ex} : ev F (.or a b) ρ S = (ev F a ρ S).bind fun x S1 => asBool x fun k => if k = true then .ok (.bl true) S1 else ev F b ρ S1 := by rw [ev]
@[simp] theorem ev_not {a : Ex} : ev F (.not a) ρ S = (ev F a ρ S).bind fun x S1 => asBool x fun k => .ok (.bl (!k)) S1 := by rw [ev]
@[simp] theorem ev_ifx {c a b : Ex} : ev F (.ifx c a b) ρ S = (tr (ev F c ρ S)).bind fun k S1 => if k = true then ev F a ρ S1 else ev F b ρ S1 := by rw [ev]
@[simp] theorem ev_ix {a i : Ex} : ev F (.ix a i) ρ S = (ev F a ρ S).bind fun x S1 => (ev F i ρ S1).bind fun y S2 => lift (ixF x y S2) := by rw [ev]
@[simp] theorem ev_cutL {a lo : Ex} : ev F (.cutL a lo) ρ S = (ev F a ρ S).bind fun x S1 => (ev F lo ρ S1).bind fun y S2 => asInt y fun l => lift (cutF x (some l) none S2) := by rw [ev]
@[simp] theorem ev_cutH {a hi : Ex} : ev F (.cutH a hi) ρ S = (ev F a ρ S).bind fun x S1 => (ev F hi ρ S1).bind fun y S2 => asInt y fun h => lift (cutF x none (some h) S2) := by rw [ev]
@[simp] theorem ev_cutB {a lo hi : Ex} : ev F (.cutB a lo hi) ρ S = (ev F a ρ S).bind fun x S1 => (ev F lo ρ S1).bind fun y S2 => asInt y fun l => (ev F hi ρ S2).bind fun z S3 => asInt z fun h => lift (cutF x (some l) (some h) S3) := by rw [ev]
@[simp] theorem ev_rev {a : Ex} : ev F (.rev a) ρ S = (ev F a ρ S).bind fun x S1 => lift (revF x S1) := by rw [ev]
@[simp] theorem ev_bad : ev F .bad ρ S = .bad := by rw [ev]
@[simp] theorem ev_call {f : Nat} {es : List Ex} : ev F (.call f es) ρ S = (evs F es ρ S).bind fun ds S1 => F f ds S1 := by rw [ev]
@[simp] theorem ev_blt {b : Blt} {es : List Ex} : ev F (.blt b es) ρ S = (evs F es ρ S).bind fun ds S1 => lift (bltF b ds S1) := by rw [ev]
@[simp] theorem ev_mth {b : Mth} {o : Ex} {es : List Ex} : ev F (.mth b o es) ρ S = (ev F o ρ S).bind fun x S1 => if isLst x S1 = true then (evs F es ρ S1).bind fun ds S2 => lift (mthF b x ds S2) else .bad := by rw [ev]
@[simp] theorem evs_nil : evs F [] ρ S = .ok [] S := by rw [evs]
@[simp] theorem evs_cons {e : Ex} {es : List Ex} : evs F (e :: es) ρ S = (ev F e ρ S).bind fun d S1 => (evs F es ρ S1).bind fun ds S2 => .ok (d :: ds) S2 := by rw [evs]
@[simp] theorem run_set {i : Nat} {e : Ex} : DL.run F (.set i e) ρ S = (ev F e ρ S).bind fun d S1 => .ok (.nx (ρ.set i (some d))) S1 := by rw [DL.run]
@[simp] theorem run_tgt {t : Tg} {e : Ex} : DL.run F (.tgt t e) ρ S = (ev F e ρ S).bind fun d S1 => asEnv (t.bind d ρ) fun ρ1 => .ok (.nx ρ1) S1 := by rw [DL.run]
@[simp] theorem run_par {is : List Nat} {es : List Ex} : DL.run F (.par is es) ρ S = (evs F es ρ S).bind fun ds S1 => asEnv (setAll is ds ρ) fun ρ1 => .ok (.nx ρ1) S1 := by rw [DL.run]
@[simp] theorem run_put {o i e : Ex} : DL.run F (.put o i e) ρ S = (ev F e ρ S).bind fun v S1 => (ev F o ρ S1).bind fun x S2 => (ev F i ρ S2).bind fun y S3 => match DL.putF x y v S3 with
      | some S4 => .ok (.nx ρ) S4
      | none => .bad := by rw [DL.run] <;> rfl
@[simp] theorem run_ex {e : Ex} : DL.run F (.ex e) ρ S = (ev F e ρ S).bind fun _ S1 => .ok (.nx ρ) S1 := by rw [DL.run]
@[simp] theorem run_ret {e : Ex} : DL.run F (.ret e) ρ S = (ev F e ρ S).bind fun d S1 => .ok (.rt d) S1 := by rw [DL.run]
@[simp] theorem run_retN : DL.run F .retN ρ S = .ok (.rt .non) S := by rw [DL.run]
@[simp] theorem run_ite {c : Ex} {a b : List Sm} : DL.run F (.ite c a b) ρ S = (tr (ev F c ρ S)).bind fun k S1 => if k = true then runs F a ρ S1 else runs F b ρ S1 := by rw [DL.run]
@[simp] theorem run_pass : DL.run F .pass ρ S = .ok (.nx ρ) S := by rw [DL.run]
@[simp] theorem run_brk : DL.run F .brk ρ S = .ok (.bk ρ) S := by rw [DL.run]
@[simp] theorem run_cnt : DL.run F .cnt ρ S = .ok (.ct ρ) S := by rw [DL.run]
@[simp] theorem run_stuck : DL.run F .stuck ρ S = .bad := by rw [DL.run]
@[simp] theorem runs_nil : runs F [] ρ S = .ok (.nx ρ) S := by rw [runs]
theorem runs_cons {s : Sm} {ss : List Sm} : runs F (s :: ss) ρ S = (DL.run F s ρ S).bind fun f S1 => match f with
      | .nx ρ1 => runs F ss ρ1 S1
      | f => .ok f S1 := by rw [runs] <;> rfl
@[simp] theorem runs_one {s : Sm} : runs F [s] ρ S = DL.run F s ρ S := by
  rw [runs_cons]
  cases DL.run F s ρ S with
  | ok f S1 => cases f <;> simp
  | exc c fs S1 => rfl
  | bad => rfl
end
end DL

set_option maxHeartbeats 4000000
/-! DL14: data as it is shown, and compared. -/
namespace DL
open PySem PySem.Spec PyProof.Rows L2

mutual
def wt : PyData → Nat
  | .none => 4
  | .bool _ => 5
  | .int _ => 1921
  | .str x => (reprText x).length
  | .list xs => wtAll xs + 4
  | .tuple xs => wtAll xs + 4
  | .dict _ => 0
def wtAll : List PyData → Nat
  | [] => 0
  | x :: xs => wt x + 2 + wtAll xs
end
theorem textFrom_up : ∀ (ts : List Str) (k : Nat) (acc : Str), (textFrom k acc ts).length ≤ acc.length + piled ts
  | [], k, acc => by show acc.length ≤ _; omega
  | t :: r, k, acc => by
    have h := textFrom_up r (k + 1) (acc ++ (if k > 0 then ", " else "" : String) ++ t)
    have e : (acc ++ (if k > 0 then ", " else "" : String) ++ t).length ≤ acc.length + 2 + t.length := by
      rw [strLen_append, strLen_append]
      have z : (((if k > 0 then ", " else "" : String) : Str)).length ≤ 2 := by split <;> decide
      omega
    rw [piled_cons]
    show (textFrom (k + 1) (acc ++ (if k > 0 then ", " else "" : String) ++ t) r).length ≤ _
    omega
mutual
theorem shown_le : ∀ d : PyData, d.showable = true → d.hasDict = false → d.shown.length ≤ wt d
  | .none, _, _ => by decide
  | .bool b, _, _ => by cases b <;> decide
  | .int i, h, _ => by
    simp only [PyData.showable, decide_eq_true_eq] at h
    simp only [PyData.shown, wt]
    have e := int_text_length_le (k := 1920) (by decide) h
    have e' : (Str.ofString (toString i)).length ≤ 1921 := by rw [PySem.ofString_length]; exact e
    exact e'
  | .str x, _, _ => by simp only [PyData.shown, wt]; exact Nat.le_refl _
  | .list xs, h, g => by
    have a := shownAll_le xs (by simpa [PyData.showable] using h) (by simpa [PyData.hasDict] using g)
    simp only [PyData.shown, wt]
    unfold listText
    rw [strLen_append]
    have b := textFrom_up (PyData.shownAll xs) 0 "["
    have e1 : ((("[" : String) : Str)).length = 1 := rfl
    have e2 : ((("]" : String) : Str)).length = 1 := rfl
    rw [e1] at b
    rw [e2]
    omega
  | .tuple xs, h, g => by
    have a := shownAll_le xs (by simpa [PyData.showable] using h) (by simpa [PyData.hasDict] using g)
    simp only [PyData.shown, wt]
    unfold tupleText
    rw [strLen_append, strLen_append]
    have e1 : ((("(" : String) : Str)).length = 1 := rfl
    have e3 : (((if (PyData.shownAll xs).length == 1 then ",)" else ")" : String) : Str)).length ≤ 2 := by split <;> decide
    rw [e1]
    have b : (Str.join ", " (PyData.shownAll xs)).length ≤ piled (PyData.shownAll xs) := by
      by_cases e : PyData.shownAll xs = []
      · rw [e]; decide
      · have := join_length_add (PyData.shownAll xs) e
        omega
    omega
  | .dict _, _, g => by simp [PyData.hasDict] at g
theorem shownAll_le : ∀ xs : List PyData, PyData.showableAll xs = true → PyData.hasDictAll xs = false → piled (PyData.shownAll xs) ≤ wtAll xs
  | [], _, _ => by simp only [PyData.shownAll, piled_nil, wtAll]; exact Nat.le_refl _
  | x :: xs, h, g => by
    have h' : x.showable = true ∧ PyData.showableAll xs = true := by simpa [PyData.showableAll] using h
    have g' : x.hasDict = false ∧ PyData.hasDictAll xs = false := by simpa [PyData.hasDictAll] using g
    have a := shown_le x h'.1 g'.1
    have b := shownAll_le xs h'.2 g'.2
    simp only [PyData.shownAll, piled_cons, wtAll]
    omega
end
theorem repr_ok {S : Store} {d : D} {p : PyData} (e : toPyX S 40 d = some p) (h1 : p.showable = true) (h2 : p.hasDict = false) (h3 : p.depth ≤ 40) (h4 : wt p ≤ line) : bltF .repr [d] S = some (.str p.shown, S) := by
  show (reprF S d).map _ = _
  unfold reprF
  rw [e]
  have h5 := Nat.le_trans (shown_le p h1 h2) h4
  have : reprOk p = true := by
    unfold reprOk
    simp only [h1, Bool.true_and, Bool.and_eq_true, decide_eq_true_eq]
    exact ⟨h3, h5⟩
  simp only [this, if_true]
  rfl
section
variable {S : Store}
@[simp] theorem o_eqi {i j : Int} : opF .eq (.int i) (.int j) S = some (.bl (decide (i = j)), S) := Eq.trans rfl rfl
@[simp] theorem o_nei {i j : Int} : opF .ne (.int i) (.int j) S = some (.bl (!decide (i = j)), S) := Eq.trans rfl rfl
@[simp] theorem o_eqs {i j : Str} : opF .eq (.str i) (.str j) S = some (.bl (decide (i = j)), S) := Eq.trans rfl rfl
@[simp] theorem o_nes {i j : Str} : opF .ne (.str i) (.str j) S = some (.bl (!decide (i = j)), S) := Eq.trans rfl rfl
/-- lists of whole numbers -/
theorem allS_ints (n : Nat) : ∀ cells : List Int, allS (toPy S n) (cells.map D.int) = some (cells.map PyData.int)
  | [] => rfl
  | c :: cs => by
    show allS (toPy S n) (.int c :: cs.map D.int) = _
    unfold allS
    rw [allS_ints n cs, show toPy S n (.int c) = some (.int c) from by cases n <;> rfl]
    rfl
theorem canLay_ints : ∀ cells : List Int, PyData.canLayAll0 (cells.map PyData.int) = true
  | [] => by simp only [List.map, PyData.canLayAll0]
  | c :: cs => by simp only [List.map, PyData.canLayAll0, PyData.canLay0, canLay_ints cs, Bool.and_self]
theorem depth_ints : ∀ cells : List Int, PyData.depthAll (cells.map PyData.int) = 0
  | [] => by simp only [List.map, PyData.depthAll]
  | c :: cs => by simp only [List.map, PyData.depthAll, PyData.depth, depth_ints cs, Nat.max_self]
theorem shaped_ints (cells : List Int) : SeqAt.shaped (.list (cells.map PyData.int)) = true := by
  simp only [SeqAt.shaped, PyData.canLay0, PyData.depth, canLay_ints, depth_ints]
  decide
theorem shaped_intsT (cells : List Int) : SeqAt.shaped (.tuple (cells.map PyData.int)) = true := by
  simp only [SeqAt.shaped, PyData.canLay0, PyData.depth, canLay_ints, depth_ints]
  decide
theorem eqv_ints : ∀ cells ds : List Int, PyData.eqvAll (cells.map PyData.int) (ds.map PyData.int) = decide (cells = ds)
  | [], [] => by simp [PyData.eqvAll]
  | [], d :: ds => by simp [PyData.eqvAll]
  | c :: cs, [] => by simp [PyData.eqvAll]
  | c :: cs, d :: ds => by
    simp only [List.map, PyData.eqvAll, PyData.eqv, eqv_ints cs ds]
    rw [Bool.eq_iff_iff]
    simp
theorem toPy_ints {g : Nat} {cells : List Int} (h : S[g]? = some (.lst (cells.map .int))) : toPy S 40 (.ref g) = some (.list (cells.map PyData.int)) := by
  unfold toPy
  simp only [h, allS_ints]
  rfl
theorem eqF_lists {g n : Nat} {cells ds : List Int} (h : S[g]? = some (.lst (cells.map .int))) (h2 : S[n]? = some (.lst (ds.map .int))) : eqF S (.ref g) (.ref n) = some (decide (cells = ds)) := by
  unfold eqF
  simp only [eq0, h, h2]
  cases cells with
  | nil => cases ds <;> simp
  | cons a as => cases ds with
    | nil => simp
    | cons b bs =>
      have hh : toPy S 40 (.ref g) = some (.list ((a :: as).map PyData.int)) := toPy_ints h
      have hh2 : toPy S 40 (.ref n) = some (.list ((b :: bs).map PyData.int)) := toPy_ints h2
      have sh := shaped_ints (a :: as)
      have sh2 := shaped_ints (b :: bs)
      have ev := eqv_ints (a :: as) (b :: bs)
      simp only [List.map_cons, List.isEmpty_cons, Bool.or_self, Bool.false_eq_true, if_false] at *
      unfold eqD
      simp only [eqFl, hh, hh2, sh, sh2, Bool.and_self, if_true, PyData.eqv, ev]
theorem eq_lists {g n : Nat} {cells ds : List Int} (h : S[g]? = some (.lst (cells.map .int))) (h2 : S[n]? = some (.lst (ds.map .int))) : opF .eq (.ref g) (.ref n) S = some (.bl (decide (cells = ds)), S) := by
  show (eqF S (.ref g) (.ref n)).map _ = _
  rw [eqF_lists h h2]
  rfl
theorem ne_lists {g n : Nat} {cells ds : List Int} (h : S[g]? = some (.lst (cells.map .int))) (h2 : S[n]? = some (.lst (ds.map .int))) : opF .ne (.ref g) (.ref n) S = some (.bl (!decide (cells = ds)), S) := by
  show (eqF S (.ref g) (.ref n)).map _ = _
  rw [eqF_lists h h2]
  rfl
end
section
variable {S : Store}
theorem inV_ints (i : Int) : ∀ ns : List Int, inV (V.int i) (ns.map V.int) = decide (i ∈ ns)
  | [] => by simp [inV]
  | n :: ns => by
    have h := inV_ints i ns
    unfold inV at h ⊢
    rw [List.map_cons, List.any_cons, h]
    have e : eqV (V.int n) (V.int i) = decide (i = n) := by
      show (n == i) = _
      exact Bool.eq_iff_iff.mpr ⟨fun h => decide_eq_true (eq_of_beq h).symm, fun h => beq_iff_eq.mpr (of_decide_eq_true h).symm⟩
    rw [e, Bool.eq_iff_iff]
    simp
theorem flat_ints : ∀ ns : List Int, (ns.map D.int).all D.flat = true
  | [] => rfl
  | n :: ns => by rw [List.map_cons, List.all_cons, flat_ints ns]; rfl
theorem v_ints : ∀ ns : List Int, (ns.map D.int).map D.v = ns.map V.int
  | [] => rfl
  | n :: ns => by rw [List.map_cons, List.map_cons, v_ints ns]; rfl
theorem o_in {i : Int} (ns : List Int) : opF .isIn (.int i) (.tup (ns.map D.int)) S = some (.bl (decide (i ∈ ns)), S) := by
  show (inF S (.int i) (.tup (ns.map D.int))).map _ = _
  have e : inF S (.int i) (.tup (ns.map D.int)) = some (decide (i ∈ ns)) := by
    simp only [inF, items, flat_ints, D.flat, Bool.and_self, if_true, v_ints, D.v, inV_ints]
  rw [e]; rfl
@[simp] theorem o_in2 {i a b : Int} : opF .isIn (.int i) (.tup [.int a, .int b]) S = some (.bl (decide (i = a ∨ i = b)), S) := by
  have h := o_in (S := S) (i := i) [a, b]
  simp only [List.mem_cons, List.not_mem_nil, or_false] at h
  exact h
@[simp] theorem o_in3 {i a b c : Int} : opF .isIn (.int i) (.tup [.int a, .int b, .int c]) S = some (.bl (decide (i = a ∨ i = b ∨ i = c)), S) := by
  have h := o_in (S := S) (i := i) [a, b, c]
  simp only [List.mem_cons, List.not_mem_nil, or_false] at h
  exact h
end

/-! ### the frame: all cells but p stay -/
structure Sam (p : Nat) (S S' : Store) : Prop where
  keep : ∀ i c, i ≠ p → S[i]? = some c → S'[i]? = some c
  len : S.length ≤ S'.length
theorem Sam.refl (p : Nat) (S : Store) : Sam p S S := ⟨fun _ _ _ h => h, Nat.le_refl _⟩
theorem Sam.trans {p : Nat} {A B C : Store} (a : Sam p A B) (b : Sam p B C) : Sam p A C := ⟨fun i c n h => b.keep i c n (a.keep i c n h), Nat.le_trans a.len b.len⟩
theorem Sam.set (p : Nat) (S : Store) (c : Cell) : Sam p S (S.set p c) := ⟨fun i c n h => by rw [List.getElem?_set_ne (fun e => n e.symm)]; exact h, by simp⟩
theorem Sam.new (p : Nat) (S R : Store) : Sam p S (S ++ R) := ⟨fun i c n h => by rw [List.getElem?_append_left (lt_of_get h)]; exact h, by simp⟩
/-- a cell that was not there -/
theorem Sam.put {p q : Nat} {S S' : Store} (h : Sam p S S') (l : S.length ≤ q) (c : Cell) : Sam p S (S'.set q c) := ⟨fun i d n e => by
  have := lt_of_get e
  rw [List.getElem?_set_ne (by omega)]; exact h.keep i d n e, by simp; exact h.len⟩
theorem Sam.fresh {p q : Nat} {S S' : Store} (h : Sam q S S') (l : S.length ≤ q) : Sam p S S' := ⟨fun i d _ e => h.keep i d (by have := lt_of_get e; omega) e, h.len⟩
/-- nothing old changes -/
abbrev Ext (S S' : Store) : Prop := Sam S.length S S'
theorem Ext.get {S S' : Store} (h : Ext S S') {i : Nat} {c : Cell} (e : S[i]? = some c) : S'[i]? = some c := h.keep i c (by have := lt_of_get e; omega) e
end DL
namespace DL
/-- an invariant behind a name, so that simp leaves it alone -/
theorem inv_of {α β γ : Type} (P : α → β → γ → Prop) : ∃ I : α → β → γ → Prop, ∀ a b c, I a b c ↔ P a b c := ⟨P, fun _ _ _ => Iff.rfl⟩
theorem Does.gen {α : Type} {x : Rs α} {Q : α → Store → Prop} (h : ∀ P : α → Store → Prop, (∀ a S, Q a S → P a S) → Does x P) : Does x Q := h Q fun _ _ q => q
/-- lists of k whole numbers -/
def Ints (k : Nat) (ds : List D) : Prop := ∃ rs : List Int, ds = rs.map D.int ∧ rs.length = k
theorem Ints.nil : Ints 0 [] := ⟨[], rfl, rfl⟩
theorem Ints.snoc {k : Nat} {ds : List D} (h : Ints k ds) (i : Int) : Ints (k + 1) (ds ++ [.int i]) := by
  obtain ⟨rs, rfl, e⟩ := h
  exact ⟨rs ++ [i], by simp, by simp [e]⟩
theorem Ints.len {k : Nat} {ds : List D} (h : Ints k ds) : ds.length = k := by
  obtain ⟨rs, rfl, e⟩ := h
  simp [e]
theorem Ints.set {k : Nat} {ds : List D} (h : Ints k ds) (j : Nat) (i : Int) : Ints k (ds.set j (.int i)) := by
  obtain ⟨rs, rfl, e⟩ := h
  exact ⟨rs.set j i, by simp, by simp [e]⟩
theorem int_of {ns : List Int} {i : Nat} {x : D} (h : (ns.map D.int)[i]? = some x) : ∃ k, x = .int k ∧ k ∈ ns := by
  rw [List.getElem?_map] at h
  obtain ⟨k, e1, e2⟩ := Option.map_eq_some_iff.mp h
  exact ⟨k, e2.symm, List.mem_of_getElem? e1⟩
end DL

set_option maxHeartbeats 4000000
/-! DLH: the head's hook: facts by a Bool more, and that sys.modules is a dict. -/
namespace DL
open PySem PySem.Spec PyProof.Rows L2
def sysB (g : Addr → Option Obj) : Bool := match g sysModules with
  | some ⟨_, _, .dict _ _, _⟩ => true
  | _ => false
theorem sysB_ok {g : Addr → Option Obj} (h : sysB g = true) : ∃ o es ep, g sysModules = some o ∧ o.data = .dict es ep := by
  unfold sysB at h
  split at h
  · rename_i c d es ep sl e
    exact ⟨_, es, ep, e, rfl⟩
  · cases h
/-! ### constants of the module -/
mutual
def litB (K : PySem.W.Frag) : D → Value → Bool
  | .non, .none => true
  | .bl b, .bool c => b == c
  | .int i, .int j _ => decide (i = j)
  | .str x, .str y _ => decide (x = y)
  | .tup ds, .ref a => match K.lookup a with
    | some ⟨.type c, _, .seq its _, _⟩ => decide (c = "tuple") && decide (its.size ≤ sizeLine) && litsB K ds its.toList
    | _ => false
  | _, _ => false
def litsB (K : PySem.W.Frag) : List D → List Value → Bool
  | [], [] => true
  | d :: ds, u :: us => litB K d u && litsB K ds us
  | _, _ => false
end
mutual
theorem litB_ok {K : PySem.W.Frag} : ∀ (d : D) (u : Value), litB K d u = true → ∃ v, RelV v u ∧ ∀ H m L, Rep K H m L d v
  | .non, u, h => by
    cases u <;> first | exact ⟨.non, rfl, fun _ _ _ => rfl⟩ | cases h
  | .bl b, u, h => by
    cases u with
    | bool c => exact ⟨.bl b, by rw [eq_of_beq (show (b == c) = true from h)]; rfl, fun _ _ _ => rfl⟩
    | _ => cases h
  | .int i, u, h => by
    cases u with
    | int j t => exact ⟨.int i, by rw [of_decide_eq_true (show decide (i = j) = true from h)]; exact ⟨t, rfl⟩, fun _ _ _ => rfl⟩
    | _ => cases h
  | .str i, u, h => by
    cases u with
    | str j t => exact ⟨.str i, by rw [of_decide_eq_true (show decide (i = j) = true from h)]; exact ⟨t, rfl⟩, fun _ _ _ => rfl⟩
    | _ => cases h
  | .tup ds, u, h => by
    cases u with
    | ref a =>
      unfold litB at h
      split at h
      · rename_i c dd its n sl ec
        simp only [Bool.and_eq_true, decide_eq_true_eq] at h
        obtain ⟨⟨rfl, h2⟩, h3⟩ := h
        obtain ⟨vs, r, hr⟩ := litsB_ok ds _ h3
        exact ⟨.ref a, rfl, fun H m L => ⟨a, vs, rfl, .inr ⟨_, its, n, ec, rfl, rfl, h2, r⟩, hr H m L⟩⟩
      · cases h
    | _ => unfold litB at h; cases h
  | .ref n, u, h => by cases u <;> (unfold litB at h; cases h)
  | .ty n, u, h => by cases u <;> (unfold litB at h; cases h)
theorem litsB_ok {K : PySem.W.Frag} : ∀ (ds : List D) (us : List Value), litsB K ds us = true → ∃ vs, Vals vs us ∧ ∀ H m L, RepL K H m L ds vs
  | [], [], _ => ⟨[], .nil, fun _ _ _ => rfl⟩
  | d :: ds, u :: us, h => by
    unfold litsB at h
    rw [Bool.and_eq_true] at h
    obtain ⟨v, r, hr⟩ := litB_ok d u h.1
    obtain ⟨vs, rs, hrs⟩ := litsB_ok ds us h.2
    exact ⟨v :: vs, .cons r rs, fun H m L => ⟨v, vs, rfl, hr H m L, hrs H m L⟩⟩
  | [], _ :: _, h => by unfold litsB at h; cases h
  | _ :: _, [], h => by unfold litsB at h; cases h
end
def conB (K : PySem.W.Frag) (x : Str) (d : D) : Bool := match PySem.W.nsIn K mainGlobals x with
  | some (some u) => litB K d u
  | _ => false
theorem conB_ok {K : PySem.W.Frag} {h : Heap} {mg : Str → Option Value} (X : K.In h) (G : h.Ns mainGlobals mg) {x : Str} {d : D} (c : conB K x d = true) : ∃ u v, mg x = some u ∧ RelV v u ∧ ∀ H m L, Rep K H m L d v := by
  unfold conB at c
  split at c
  · rename_i u e
    obtain ⟨v, r, hr⟩ := litB_ok d u c
    exact ⟨u, v, PySem.W.mg_of X G e, r, hr⟩
  · cases c
def hookY (n : Nat) (fa : List He.Fa) (fn : List He.DefD) (ex : PySem.W.Frag → Bool) : PySem.W.Hook where
  α := He.AlX × Bool
  obs := fun s => (He.obsX n fa fn [] [] ex s.heap.get?, sysB s.heap.get?)
  val := fun w => (He.valX fn [] w, true)
  says := fun w h => ∃ K : PySem.W.Frag, K.In h ∧ He.SaysX fa fn [] [] ex w h K ∧ ∃ o es ep, h.get? sysModules = some o ∧ o.data = .dict es ep
  of := fun _ _ e => ⟨_, He.frT_in, He.saysX_of (congrArg (·.1) e), sysB_ok (congrArg (·.2) e)⟩
  keeps := fun _ _ _ ⟨K, hK, c, o, es, ep, h1, h2⟩ k => ⟨K, PySem.W.Frag.In.keeps hK k, ⟨c.t, c.more, c.hd, c.out, fun p hp => k _ _ (c.empty p hp)⟩, o, es, ep, k _ _ h1, h2⟩
theorem hookY_eq {n : Nat} {fa : List He.Fa} {fn : List He.DefD} {ex : PySem.W.Frag → Bool} {g : Addr → Option Obj} {s : Shared} (h : ∀ a, g a = s.heap.get? a) : (He.obsX n fa fn [] [] ex g, sysB g) = (hookY n fa fn ex).obs s := by
  have e : g = s.heap.get? := funext h
  rw [e] <;> rfl
end DL

set_option maxHeartbeats 4000000
/-! DLV: values of any kind: their kind, how they are shown; first faults. -/
namespace DL
open PySem PySem.Spec PyProof.Rows L2

def D.isInt : D → Bool
  | .int _ => true
  | _ => false
def D.isBl : D → Bool
  | .bl _ => true
  | _ => false
def D.isTup : D → Bool
  | .tup _ => true
  | _ => false
def D.isStr : D → Bool
  | .str _ => true
  | _ => false
section
variable {S : Store} {d : D}
theorem isi_int (h : (tyOf S d).isSome = true) : bltF .isI [d, .ty "int"] S = some (.bl (d.isInt || d.isBl), S) := by
  cases d with
  | ref n =>
    simp only [tyOf] at h
    split at h
    · rename_i e
      show (isiF S (.ref n) "int").map _ = _
      simp only [isiF, tyOf, e]
      rfl
    · rename_i e
      show (isiF S (.ref n) "int").map _ = _
      simp only [isiF, tyOf, e]
      rfl
    · cases h
  | ty n => cases h
  | _ => rfl
theorem isi_bool (h : (tyOf S d).isSome = true) : bltF .isI [d, .ty "bool"] S = some (.bl d.isBl, S) := by
  cases d with
  | ref n =>
    simp only [tyOf] at h
    split at h
    · rename_i e
      show (isiF S (.ref n) "bool").map _ = _
      simp only [isiF, tyOf, e]
      rfl
    · rename_i e
      show (isiF S (.ref n) "bool").map _ = _
      simp only [isiF, tyOf, e]
      rfl
    · cases h
  | ty n => cases h
  | _ => rfl
theorem isi_tuple (h : (tyOf S d).isSome = true) : bltF .isI [d, .ty "tuple"] S = some (.bl d.isTup, S) := by
  cases d with
  | ref n =>
    simp only [tyOf] at h
    split at h
    · rename_i e
      show (isiF S (.ref n) "tuple").map _ = _
      simp only [isiF, tyOf, e]
      rfl
    · rename_i e
      show (isiF S (.ref n) "tuple").map _ = _
      simp only [isiF, tyOf, e]
      rfl
    · cases h
  | ty n => cases h
  | _ => rfl
theorem isi_str (h : (tyOf S d).isSome = true) : bltF .isI [d, .ty "str"] S = some (.bl d.isStr, S) := by
  cases d with
  | ref n =>
    simp only [tyOf] at h
    split at h
    · rename_i e
      show (isiF S (.ref n) "str").map _ = _
      simp only [isiF, tyOf, e]
      rfl
    · rename_i e
      show (isiF S (.ref n) "str").map _ = _
      simp only [isiF, tyOf, e]
      rfl
    · cases h
  | ty n => cases h
  | _ => rfl
end

/-- a value that is shown alike whatever becomes of cell p -/
structure Wd (p : Nat) (S : Store) (n b : Nat) (d : D) (py : PyData) : Prop where
  ty : ∀ S', Sam p S S' → (tyOf S' d).isSome = true
  laid : ∀ S', Sam p S S' → ∀ k, toPyX S' (n + k) d = some py
  shw : py.showable = true
  dep : py.depth ≤ n
  len : py.shown.length ≤ b
/-- so many levels, so long a text at most -/
def Wv (p : Nat) (S : Store) (n b : Nat) (d : D) : Prop := ∃ py, Wd p S n b d py
section
variable {p : Nat} {S S' : Store} {n n' b b' : Nat} {d : D} {py : PyData}
theorem Wd.mono (h : Wd p S n b d py) (s : Sam p S S') : Wd p S' n b d py := ⟨fun T t => h.ty T (s.trans t), fun T t => h.laid T (s.trans t), h.shw, h.dep, h.len⟩
theorem Wv.mono (h : Wv p S n b d) (s : Sam p S S') : Wv p S' n b d := ⟨h.choose, h.choose_spec.mono s⟩
theorem Wd.up (h : Wd p S n b d py) (hn : n ≤ n') (hb : b ≤ b') : Wd p S n' b' d py :=
  ⟨h.ty, fun T t k => by have := h.laid T t (n' - n + k); rwa [show n + (n' - n + k) = n' + k by omega] at this, h.shw, Nat.le_trans h.dep hn, Nat.le_trans h.len hb⟩
theorem Wv.up (h : Wv p S n b d) (hn : n ≤ n') (hb : b ≤ b') : Wv p S n' b' d := ⟨h.choose, h.choose_spec.up hn hb⟩
theorem Wv.ty (h : Wv p S n b d) : (tyOf S d).isSome = true := h.choose_spec.ty S (Sam.refl _ _)
theorem Wd.repr (h : Wd p S n b d py) (s : Sam p S S') (hn : n ≤ 40) (hb : b ≤ line) : bltF .repr [d] S' = some (.str py.shown, S') := by
  show (reprF S' d).map _ = _
  have e := h.laid S' s (40 - n)
  rw [show n + (40 - n) = 40 by omega] at e
  unfold reprF
  rw [e]
  have : reprOk py = true := by
    unfold reprOk
    simp only [h.shw, Bool.true_and, Bool.and_eq_true, decide_eq_true_eq]
    exact ⟨Nat.le_trans h.dep hn, Nat.le_trans h.len hb⟩
  simp only [this, if_true]
  rfl
theorem Wv.repr (h : Wv p S n b d) (hn : n ≤ 40) (hb : b ≤ line) : ∃ z, ∀ S', Sam p S S' → bltF .repr [d] S' = some (.str z, S') := ⟨_, fun _ s => h.choose_spec.repr s hn hb⟩
theorem Wv.reprL (h : Wv p S n b d) (hn : n ≤ 40) (hb : b ≤ line) : ∃ z, z.length ≤ b ∧ ∀ S', Sam p S S' → bltF .repr [d] S' = some (.str z, S') := ⟨_, h.choose_spec.len, fun _ s => h.choose_spec.repr s hn hb⟩
theorem wd_non : Wv p S 0 200 .non := ⟨.none, fun _ _ => rfl, fun _ _ k => by cases k <;> rfl, rfl, by decide, by decide⟩
theorem wd_bl (x : Bool) : Wv p S 0 200 (.bl x) := ⟨.bool x, fun _ _ => rfl, fun _ _ k => by cases k <;> rfl, rfl, by simp [PyData.depth], by cases x <;> decide⟩
theorem wd_int {i : Int} (h : i.natAbs < 2 ^ 160) : Wv p S 0 200 (.int i) := by
  have lg : i.natAbs.log2 < 160 := by
    by_cases h0 : i.natAbs = 0
    · rw [h0]; decide
    · exact (Nat.log2_lt h0).mpr h
  refine ⟨.int i, fun _ _ => rfl, fun _ _ k => by cases k <;> rfl, ?_, by simp [PyData.depth], ?_⟩
  · simp only [PyData.showable, decide_eq_true_eq]; omega
  · simp only [PyData.shown]
    have e := int_text_length_le (k := 160) (by decide) lg
    have e' : (Str.ofString (toString i)).length ≤ 161 := by rw [PySem.ofString_length]; exact e
    exact Nat.le_trans e' (by decide)
theorem wd_str {x : Str} (h : (reprText x).length ≤ 200) : Wv p S 0 200 (.str x) := ⟨.str x, fun _ _ => rfl, fun _ _ k => by cases k <;> rfl, rfl, by simp [PyData.depth], h⟩
theorem Wv.all : ∀ ds : List D, (∀ d ∈ ds, Wv p S n b d) → ∃ pys, pys.length = ds.length ∧ PyData.showableAll pys = true ∧ PyData.depthAll pys ≤ n ∧ piled (PyData.shownAll pys) ≤ ds.length * (b + 2) ∧ ∀ S', Sam p S S' → ∀ k, allS (toPyX S' (n + k)) ds = some pys
  | [], _ => ⟨[], rfl, by simp only [PyData.showableAll], by simp only [PyData.depthAll]; omega, by simp only [PyData.shownAll, piled_nil]; omega, fun _ _ _ => rfl⟩
  | d :: ds, h => by
    obtain ⟨py, w⟩ := h d List.mem_cons_self
    obtain ⟨pys, h1, h2, h3, h4, h5⟩ := Wv.all ds fun d hd => h d (List.mem_cons_of_mem _ hd)
    refine ⟨py :: pys, by simp [h1], by simp only [PyData.showableAll, w.shw, h2, Bool.and_self], ?_, ?_, fun S' s k => ?_⟩
    · simp only [PyData.depthAll]
      exact Nat.max_le.mpr ⟨w.dep, h3⟩
    · simp only [PyData.shownAll, piled_cons, List.length_cons]
      have := w.len
      rw [Nat.succ_mul]
      omega
    · unfold allS
      rw [w.laid S' s k, h5 S' s k]
theorem shown_tup {ps : List PyData} {m : Nat} (h : piled (PyData.shownAll ps) ≤ m) : (PyData.tuple ps).shown.length ≤ m + 3 := by
  simp only [PyData.shown]
  unfold tupleText
  rw [strLen_append, strLen_append]
  have e1 : ((("(" : String) : Str)).length = 1 := rfl
  have e3 : (((if (PyData.shownAll ps).length == 1 then ",)" else ")" : String) : Str)).length ≤ 2 := by split <;> decide
  rw [e1]
  have b : (Str.join ", " (PyData.shownAll ps)).length ≤ piled (PyData.shownAll ps) := by
    by_cases e : PyData.shownAll ps = []
    · rw [e]; decide
    · have := join_length_add (PyData.shownAll ps) e
      omega
  omega
theorem shown_lst {ps : List PyData} {m : Nat} (h : piled (PyData.shownAll ps) ≤ m) : (PyData.list ps).shown.length ≤ m + 3 := by
  simp only [PyData.shown]
  unfold listText
  rw [strLen_append]
  have b := textFrom_up (PyData.shownAll ps) 0 "["
  have e1 : ((("[" : String) : Str)).length = 1 := rfl
  have e2 : ((("]" : String) : Str)).length = 1 := rfl
  rw [e1] at b
  rw [e2]
  omega
theorem wd_tup {ds : List D} (h : ∀ d ∈ ds, Wv p S n b d) : Wv p S (n + 1) (ds.length * (b + 2) + 3) (.tup ds) := by
  obtain ⟨pys, h1, h2, h3, h4, h5⟩ := Wv.all ds h
  refine ⟨.tuple pys, fun _ _ => rfl, fun S' s k => ?_, by simp only [PyData.showable]; exact h2, by simp only [PyData.depth]; omega, shown_tup h4⟩
  rw [show n + 1 + k = (n + k) + 1 by omega]
  show (allS (toPyX S' (n + k)) ds).map PyData.tuple = _
  rw [h5 S' s k]
  rfl
theorem wd_lst {q : Nat} {ds : List D} (hq : q ≠ p) (c : S[q]? = some (.lst ds)) (h : ∀ d ∈ ds, Wv p S n b d) : Wv p S (n + 1) (ds.length * (b + 2) + 3) (.ref q) := by
  obtain ⟨pys, h1, h2, h3, h4, h5⟩ := Wv.all ds h
  refine ⟨.list pys, fun S' s => ?_, fun S' s k => ?_, by simp only [PyData.showable]; exact h2, by simp only [PyData.depth]; omega, shown_lst h4⟩
  · simp only [tyOf, s.keep _ _ hq c]
    rfl
  · rw [show n + 1 + k = (n + k) + 1 by omega]
    unfold toPyX
    simp only [s.keep _ _ hq c, h5 S' s k]
    rfl
theorem wd_dct0 {q : Nat} (hq : q ≠ p) (c : S[q]? = some (.dct [])) : Wv p S 1 200 (.ref q) := by
  refine ⟨.dict [], fun S' s => ?_, fun S' s k => ?_, by decide, by decide, by decide⟩
  · simp only [tyOf, s.keep _ _ hq c]
    rfl
  · rw [show 1 + k = k + 1 by omega]
    unfold toPyX
    simp only [s.keep _ _ hq c]
    rfl
theorem wd_dct1 {q : Nat} (hq : q ≠ p) (c : S[q]? = some (.dct [(.inl 0, .int 0)])) : Wv p S 1 200 (.ref q) := by
  refine ⟨.dict [(.int 0, .int 0)], fun S' s => ?_, fun S' s k => ?_, by decide +kernel, by decide +kernel, by decide +kernel⟩
  · simp only [tyOf, s.keep _ _ hq c]
    rfl
  · rw [show 1 + k = k + 1 by omega]
    unfold toPyX
    simp only [s.keep _ _ hq c]
    cases k <;> rfl
end

/-! ### first faults -/
def First (ok : Nat → Bool) (n : Nat) (r : D) : Prop := (∃ i : Nat, i < n ∧ (∀ j, j < i → ok j = true) ∧ ok i = false ∧ r = .tup [.int i]) ∨ ((∀ j, j < n → ok j = true) ∧ r = .non)
theorem First.uniq {ok : Nat → Bool} {n : Nat} {r s : D} (h : First ok n r) (g : First ok n s) : r = s := by
  rcases h with ⟨i, h1, h2, h3, rfl⟩ | ⟨h1, rfl⟩ <;> rcases g with ⟨k, g1, g2, g3, rfl⟩ | ⟨g1, rfl⟩
  · have : i = k := by
      rcases Nat.lt_trichotomy i k with h | h | h
      · have := g2 i h; rw [h3] at this; cases this
      · exact h
      · have := h2 k h; rw [g3] at this; cases this
    rw [this]
  · have := g1 i h1; rw [h3] at this; cases this
  · have := h1 k g1; rw [g3] at this; cases this
  · rfl
/-- what a walk with numbers goes through -/
def enumD (ds : List D) : List D := ds.mapIdx fun i x => .tup [.int i, x]
theorem enumD_len {ds : List D} : (enumD ds).length = ds.length := by unfold enumD; simp
theorem enumD_get {ds : List D} {i : Nat} : (enumD ds)[i]? = ds[i]?.map fun x => .tup [.int i, x] := by unfold enumD; simp
theorem nxt_enumT {ds : List D} {i : Nat} {S : Store} : nxt .enum [.tup ds] i S = some (enumD ds)[i]? := by rw [enumD_get]; rfl
theorem turns_enumT {ds : List D} {S : Store} : turns .enum [.tup ds] S = some (enumD ds).length := by rw [enumD_len]; rfl
theorem enum_of {ds : List D} {i : Nat} {x : D} (h : (enumD ds)[i]? = some x) : ∃ d, ds[i]? = some d ∧ x = .tup [.int i, d] := by
  rw [enumD_get] at h
  obtain ⟨d, e1, e2⟩ := Option.map_eq_some_iff.mp h
  exact ⟨d, e1, e2.symm⟩
@[simp] theorem isN_bl {k : Bool} {x : D} : (match x with | .non => !k | _ => k) = (match x with | .non => !k | _ => k) := rfl
end DL

set_option maxHeartbeats 1000000
namespace DL
open PySem PySem.Spec PyProof.Rows L2
theorem eqOf {α : Type} {x : Rs α} {a : α} {S : Store} (h : Does x fun a' S' => a' = a ∧ S' = S) : x = .ok a S := by
  obtain ⟨_, _, e, rfl, rfl⟩ := h
  exact e
theorem call_eq {T : List Fn} {n f : Nat} {c : Fn} {ds : List D} {S : Store} (e : T[f]? = some c) (hl : ds.length = c.pars) (ρ0 : EnvD) (h0 : ds.map some ++ List.replicate (c.slots - ds.length) none = ρ0) :
    prog T (n + 1) f ds S = (runs (prog T n) c.body ρ0 S).bind fun r S1 => match r with
      | .rt d => .ok d S1
      | .nx _ => .ok .non S1
      | _ => .bad := by
  subst h0
  show (match T[f]? with
    | some c => c.call (prog T n) ds S
    | none => .bad) = _
  rw [e]
  show Fn.call _ _ _ _ = _
  unfold Fn.call
  exact if_pos hl
section
variable {α β : Type} {F : Fns} {ρ : EnvD} {S : Store}
@[simp] theorem excb {c : Str} {fs : List (Str × D)} {f : α → Store → Rs β} : (Rs.exc c fs S : Rs α).bind f = .exc c fs S := rfl
@[simp] theorem run_raise {c f : Str} {e : Ex} : DL.run F (.raise c f e) ρ S = (ev F e ρ S).bind fun d S1 => .exc c [(f, d)] S1 := by rw [DL.run]
theorem run_try {c : Str} {i : Nat} {b : Tb} {h : Hd} : DL.run F (.tryA c i b h) ρ S = tryF (ev F b.e ρ S) c i ρ b h := by rw [DL.run]
@[simp] theorem ev_tyc {n : String} : ev F (.tyc n) ρ S = .ok (.ty n) S := by rw [ev]
@[simp] theorem ev_dct {kvs : List (Key × D)} : ev F (.dct kvs) ρ S = .ok (.ref S.length) (S ++ [.dct kvs]) := by rw [ev]
end
theorem mem_cut {ds : List D} {a b : Option Int} {x : D} (h : x ∈ cutD ds a b) : x ∈ ds := List.mem_of_mem_drop (List.mem_of_mem_take h)
theorem len_cut {ds : List D} {a b : Option Int} : (cutD ds a b).length ≤ ds.length := by
  unfold cutD
  rw [List.length_take, List.length_drop]
  omega
theorem atI_last {α : Type} {ds : List α} {x : α} : atI (ds ++ [x]) (-1) = some x := by
  unfold atI ixN
  have h : (1 : Int) ≤ ds.length + 1 := by omega
  have h2 : (-1 + ((ds.length : Int) + 1)).toNat = ds.length := by omega
  simp [h, h2]
def whole (d : D) (a b : Int) : Bool := match d with
  | .int i => decide (a ≤ i) && decide (i ≤ b)
  | _ => false
end DL
namespace DL
open PySem PySem.Spec PyProof.Rows L2
theorem o_addT {xs ys : List D} {S : Store} (h : xs.length + ys.length ≤ line) : opF .add (.tup xs) (.tup ys) S = some (.tup (xs ++ ys), S) := by
  show (if _ then _ else _) = _
  rw [if_pos h]
theorem ev_addT {F : Fns} {ρ : EnvD} {S S1 S2 : Store} {a b : Ex} {xs ys : List D} (ha : ev F a ρ S = .ok (.tup xs) S1) (hb : ev F b ρ S1 = .ok (.tup ys) S2) (h : xs.length + ys.length ≤ line) : ev F (.op .add a b) ρ S = .ok (.tup (xs ++ ys)) S2 := by
  rw [ev_op, ha, okb, hb, okb, o_addT h]; rfl
theorem ev_addL {F : Fns} {ρ : EnvD} {S S1 : Store} {i : Nat} {a : Ex} {es : List Ex} {xs ys : List D} (ha : ev F a ρ S = .ok (.ref i) S) (hb : evs F es ρ S = .ok ys S1) (c : S1[i]? = some (.lst xs)) (h : xs.length + ys.length ≤ line) :
    ev F (.op .add a (.lst es)) ρ S = .ok (.ref (S1.length + 1)) (S1 ++ [.lst ys] ++ [.lst (xs ++ ys)]) := by
  rw [ev_op, ha, okb, ev_lst, hb, okb, if_pos (show ys.length ≤ 16777216 from Nat.le_trans (Nat.le_add_left _ _) h), okb]
  have e1 : (S1 ++ [.lst ys])[i]? = some (.lst xs) := by rw [List.getElem?_append_left (lt_of_get c)]; exact c
  have e2 : (S1 ++ [.lst ys])[S1.length]? = some (.lst ys) := by simp
  have : opF .add (.ref i) (.ref S1.length) (S1 ++ [.lst ys]) = some (.ref (S1 ++ [Cell.lst ys]).length, S1 ++ [.lst ys] ++ [.lst (xs ++ ys)]) := by
    simp only [opF, e1, e2, if_pos h]
  rw [this, List.length_append]
  rfl
theorem evs_cons' {F : Fns} {ρ : EnvD} {S S1 S2 : Store} {e : Ex} {es : List Ex} {d : D} {ds : List D} (h : ev F e ρ S = .ok d S1) (g : evs F es ρ S1 = .ok ds S2) : evs F (e :: es) ρ S = .ok (d :: ds) S2 := by
  rw [evs_cons, h, okb, g]; rfl
theorem new_get {S : Store} {c : Cell} : (S ++ [c])[S.length]? = some c := by simp
theorem new_keep {S R : Store} {i : Nat} {c : Cell} (h : S[i]? = some c) : (S ++ R)[i]? = some c := by rw [List.getElem?_append_left (lt_of_get h)]; exact h
end DL
namespace DL
open PySem PySem.Spec PyProof.Rows L2
theorem set_addL {F : Fns} {ρ : EnvD} {S S1 : Store} {i k : Nat} {a : Ex} {es : List Ex} {xs ys : List D} {Q : Fl → Store → Prop} (ha : ev F a ρ S = .ok (.ref i) S) (hb : evs F es ρ S = .ok ys S1) (c : S1[i]? = some (.lst xs)) (h : xs.length + ys.length ≤ line)
    (hq : Q (.nx (ρ.set k (some (.ref (S1.length + 1))))) (S1 ++ [.lst ys] ++ [.lst (xs ++ ys)])) : Does (DL.run F (.set k (.op .add a (.lst es))) ρ S) Q := by
  rw [run_set, ev_addL ha hb c h]
  exact Does_ok.mpr hq
theorem ret_addL {F : Fns} {ρ : EnvD} {S S1 : Store} {i : Nat} {a : Ex} {es : List Ex} {xs ys : List D} {Q : Fl → Store → Prop} (ha : ev F a ρ S = .ok (.ref i) S) (hb : evs F es ρ S = .ok ys S1) (c : S1[i]? = some (.lst xs)) (h : xs.length + ys.length ≤ line)
    (hq : Q (.rt (.ref (S1.length + 1))) (S1 ++ [.lst ys] ++ [.lst (xs ++ ys)])) : Does (DL.run F (.ret (.op .add a (.lst es))) ρ S) Q := by
  rw [run_ret, ev_addL ha hb c h]
  exact Does_ok.mpr hq
/-- a list's growth, as a frame: cell f holds xs, p and what is older stand -/
theorem Sam.new2 (p : Nat) (S : Store) (a b : Cell) : Sam p S (S ++ [a] ++ [b]) := (Sam.new p S [a]).trans (Sam.new p _ [b])
theorem new2_get {S : Store} {a b : Cell} : (S ++ [a] ++ [b])[S.length + 1]? = some b := by simp
end DL
namespace DL
open PySem PySem.Spec PyProof.Rows L2
/-- one statement by what it leaves, whatever the slots -/
theorem stp_nx' {F : Fns} {s : Sm} {ss : List Sm} {ρ : EnvD} {S : Store} {Q : Fl → Store → Prop} (P : EnvD → Store → Prop) (h : ∀ W : EnvD → Store → Prop, (∀ ρ1 S1, P ρ1 S1 → W ρ1 S1) → Does (DL.run F s ρ S) fun f S1 => ∃ ρ1, f = .nx ρ1 ∧ W ρ1 S1) (k : ∀ ρ1 S1, P ρ1 S1 → Does (runs F ss ρ1 S1) Q) : Does (runs F (s :: ss) ρ S) Q := by
  refine stp ((h P fun _ _ z => z).imp fun f S1 hf => ?_)
  obtain ⟨ρ1, rfl, hp⟩ := hf
  exact k _ _ hp
end DL
namespace DL
open PySem PySem.Spec PyProof.Rows L2
theorem Sam.set_new (p : Nat) (S : Store) (c d : Cell) (h : p ≤ S.length) : True := trivial
/-- a comprehension whose parts only look -/
theorem comp_pure {F : Fns} {own : List Nat} {k : Src} {src : List Ex} {t : Tg} {c e : Ex} {ρ : EnvD} {S S1 : Store} {args : List D} (ds : List D) (cf : D → Bool) (gf : D → D)
    (he : evs F src ρ S = .ok args S1) (hk : turns k args S1 = some ds.length) (hn : ∀ i R, Ext S1 R → nxt k args i R = some ds[i]?) (hl : ds.length ≤ line)
    (ht : ∀ x ∈ ds, ∃ ρ1, t.bind x (wipeD ρ own) = some ρ1 ∧ ∀ R, Ext S1 R → tr (ev F c ρ1 R) = .ok (cf x) R ∧ (cf x = true → ev F e ρ1 R = .ok (gf x) R)) :
    ev F (.comp own k src t c e) ρ S = .ok (.ref S1.length) (S1 ++ [.lst ((ds.filter cf).map gf)]) := by
  have h : Does (ev F (.comp own k src t c e) ρ S) fun d S' => d = .ref S1.length ∧ S' = S1 ++ [.lst ((ds.filter cf).map gf)] := by
    refine comp_ok ds (fun i acc R => R = S1 ++ [.lst acc] ∧ acc = ((ds.take i).filter cf).map gf) he hk (fun i acc R _ ⟨e1, _⟩ => hn i R (by rw [e1]; exact Sam.new _ _ _)) ⟨rfl, rfl⟩ ?_ ?_
    · rintro i x acc R hx hc ⟨rfl, rfl⟩
      obtain ⟨ρ1, e1, h1⟩ := ht x (List.mem_of_getElem? hx)
      obtain ⟨h2, h3⟩ := h1 _ (Sam.new S1.length S1 [.lst (((ds.take i).filter cf).map gf)])
      have hi := lt_of_get hx
      have et : ds.take (i + 1) = ds.take i ++ [x] := by
        rw [List.take_add_one, hx]
        rfl
      refine ⟨ρ1, e1, ?_⟩
      rw [h2]
      refine Does_ok.mpr ?_
      cases hcx : cf x with
      | false => exact .inl ⟨rfl, hc, rfl, by rw [et, List.filter_append, List.map_append]; simp [hcx]⟩
      | true =>
        refine .inr ⟨rfl, ?_⟩
        rw [h3 hcx]
        refine Does_ok.mpr ⟨hc, ?_, ?_, ?_⟩
        · rw [List.length_map]
          have a := List.length_filter_le cf (ds.take i)
          have b : (ds.take i).length ≤ i := by rw [List.length_take]; omega
          omega
        · simp [et, List.filter_append, hcx]
        · rw [et, List.filter_append, List.map_append]
          simp [hcx]
    · rintro acc R hc ⟨rfl, rfl⟩
      rw [List.take_length]
      exact ⟨rfl, rfl⟩
  obtain ⟨d, S', e1, rfl, rfl⟩ := h
  exact e1
theorem o_ne22 {a b c d : Int} {S : Store} : opF .ne (.tup [.int a, .int b]) (.tup [.int c, .int d]) S = some (.bl (!(decide (a = c) && decide (b = d))), S) := by
  have e0 : eq0 S (.tup [.int a, .int b]) (.tup [.int c, .int d]) = none := rfl
  show (eqF S (.tup [.int a, .int b]) (.tup [.int c, .int d])).map (fun k => (D.bl (!k), S)) = _
  unfold eqF
  rw [e0]
  simp [eqFl, D.flat, D.v, flatEq, eqV]
  rw [Bool.beq_eq_decide_eq, Bool.beq_eq_decide_eq]
theorem o_notIn2 {i a b : Int} {S : Store} : opF .notIn (.int i) (.tup [.int a, .int b]) S = some (.bl (!decide (i = a ∨ i = b)), S) := by
  have h : (inF S (.int i) (.tup [.int a, .int b])).map (fun k => (D.bl k, S)) = some (.bl (decide (i = a ∨ i = b)), S) := o_in2 (S := S)
  obtain ⟨k, e1, e2⟩ := Option.map_eq_some_iff.mp h
  have e3 : k = decide (i = a ∨ i = b) := by
    have := congrArg Prod.fst e2
    exact D.bl.inj this
  show (inF S (.int i) (.tup [.int a, .int b])).map (fun k => (D.bl (!k), S)) = _
  rw [e1, e3]
  rfl
theorem atI_set {ds : List D} {i : Int} {th : D} (h0 : 0 ≤ i) (h1 : i < ds.length) : DL.cutD ds none (some i) ++ [th] ++ DL.cutD ds (some (i + 1)) none = ds.set i.toNat th := by
  unfold DL.cutD HT.sIx
  have a : ¬ i < 0 := by omega
  have b : ¬ i + 1 < 0 := by omega
  simp only [a, b, if_false, List.drop_zero, Nat.sub_zero]
  have e1 : min i.toNat ds.length = i.toNat := by omega
  have e2 : min (i + 1).toNat ds.length = i.toNat + 1 := by omega
  rw [e1, e2, List.set_eq_take_append_cons_drop, if_pos (by omega), List.append_assoc, List.singleton_append]
  congr 1
  congr 1
  apply List.take_of_length_le
  rw [List.length_drop]
  omega
end DL
namespace DL
open PySem PySem.Spec PyProof.Rows L2
@[simp] theorem ix_5 {S : Store} {a b c d e f : D} {xs : List D} : ixF (.tup (a :: b :: c :: d :: e :: f :: xs)) (.int 5) S = some (f, S) := ix_tup (by rw [atI_of (by decide)]; rfl)
@[simp] theorem ix_6 {S : Store} {a b c d e f g : D} {xs : List D} : ixF (.tup (a :: b :: c :: d :: e :: f :: g :: xs)) (.int 6) S = some (g, S) := ix_tup (by rw [atI_of (by decide)]; rfl)
@[simp] theorem ix_7 {S : Store} {a b c d e f g h : D} {xs : List D} : ixF (.tup (a :: b :: c :: d :: e :: f :: g :: h :: xs)) (.int 7) S = some (h, S) := ix_tup (by rw [atI_of (by decide)]; rfl)
@[simp] theorem ix_8 {S : Store} {a b c d e f g h i : D} {xs : List D} : ixF (.tup (a :: b :: c :: d :: e :: f :: g :: h :: i :: xs)) (.int 8) S = some (i, S) := ix_tup (by rw [atI_of (by decide)]; rfl)
/-- so many new lists -/
theorem comp_nils {F : Fns} {own : List Nat} {v n : Nat} {e : Ex} {ρ : EnvD} {S : Store} (he : ev F e ρ S = .ok (.int (n : Int)) S) (hn : n ≤ 1000) :
    ev F (.comp own .rng1 [e] (.one v) (.cst (.bl true)) (.lst [])) ρ S = .ok (.ref S.length) (S ++ [.lst ((List.range n).map fun j => .ref (S.length + 1 + j))] ++ List.replicate n (.lst [])) := by
  have h : Does (ev F (.comp own .rng1 [e] (.one v) (.cst (.bl true)) (.lst [])) ρ S) fun d S' => d = .ref S.length ∧ S' = S ++ [.lst ((List.range n).map fun j => .ref (S.length + 1 + j))] ++ List.replicate n (.lst []) := by
    refine comp_ok (rngD 0 n) (fun i acc R => R = S ++ [.lst acc] ++ List.replicate i (.lst []) ∧ acc = (List.range i).map fun j => .ref (S.length + 1 + j)) (args := [.int n]) (S1 := S) (by rw [evs_cons, he]; simp) (by rw [turns_rng1 (by omega), rngD_len]; rfl)
      (fun i acc R _ _ => by rw [nxt_rng1]; rfl) ⟨by simp, rfl⟩ ?_ ?_
    · rintro i x acc R hx hc ⟨rfl, rfl⟩
      refine ⟨_, bind_one, ?_⟩
      have hi : i < n := by rw [← rngD_len (a := 0) (n := n)]; exact lt_of_get hx
      rw [ev_cst, tr_bl]
      refine Does_ok.mpr (.inr ⟨rfl, ?_⟩)
      rw [ev_lst, evs_nil, okb, if_pos (by decide)]
      refine Does_ok.mpr ⟨new_keep hc, by rw [List.length_map, List.length_range]; show i < 16777216; omega, ?_, ?_⟩
      · simp [List.replicate_succ', List.set_append]
      · rw [List.range_succ, List.map_append]
        simp
        omega
    · rintro acc R hc ⟨rfl, rfl⟩
      rw [rngD_len]
      exact ⟨rfl, rfl⟩
  obtain ⟨d, S', e1, rfl, rfl⟩ := h
  exact e1
theorem boolsOf_bl : ∀ bs : List Bool, boolsOf (bs.map D.bl) = some bs
  | [] => rfl
  | b :: bs => by
    show (boolsOf (bs.map D.bl)).map (b :: ·) = _
    rw [boolsOf_bl bs]
    rfl
theorem b_all {S : Store} {q : Nat} {bs : List Bool} (c : S[q]? = some (.lst (bs.map D.bl))) : bltF .all [.ref q] S = some (.bl (bs.all id), S) := by
  simp only [bltF, litems, items, c, boolsOf_bl]
  rfl
theorem ne_nil {S : Store} {i j : Nat} {xs : List D} (c : S[i]? = some (.lst xs)) (d : S[j]? = some (.lst [])) : opF .ne (.ref i) (.ref j) S = some (.bl (!xs.isEmpty), S) := by
  have e : eqF S (.ref i) (.ref j) = some xs.isEmpty := by
    unfold eqF
    simp only [eq0, c, d]
    simp
  show (eqF S (.ref i) (.ref j)).map (fun k => (D.bl (!k), S)) = _
  rw [e]
  rfl
end DL
namespace DL
open PySem PySem.Spec PyProof.Rows L2
/-- a for over items that stand, then the rest -/
theorem for_ok' {F : Fns} {t : Tg} {k : Src} {src : List Ex} {b : List Sm} {ss : List Sm} {ρ : EnvD} {S S1 : Store} {args : List D} {Q : Fl → Store → Prop} (ds : List D) (I : Nat → EnvD → Store → Prop)
    (he : evs F src ρ S = .ok args S1) (hk : turns k args S1 = some ds.length) (hn : ∀ i ρ S, I i ρ S → nxt k args i S = some ds[i]?) (h0 : I 0 ρ S1)
    (ht : ∀ i x ρ S, ds[i]? = some x → I i ρ S → ∃ ρ1, t.bind x ρ = some ρ1 ∧ Does (runs F b ρ1 S) fun f S' => ∃ ρ', turnOf f = .inl ρ' ∧ I (i + 1) ρ' S')
    (hq : ∀ ρ S, I ds.length ρ S → Does (runs F ss ρ S) Q) : Does (DL.run F (.for t k src b) ρ S) fun f S1 => match f with
    | .nx ρ1 => Does (runs F ss ρ1 S1) Q
    | f => Q f S1 := for_ok ds I he hk hn h0 ht hq
end DL

set_option maxHeartbeats 4000000
/-! ### the text as data (printed by gen.py) -/
namespace Law
open PySem PySem.Spec PyProof.Rows L2 DL
abbrev R : PySem.W.OpenRow := PySem.W.OpenLaw.row PySem.Challenge.rw_movedrows_k02_rules_required
def topS (i : Nat) : Stmt := PySem.Challenge.pw_movedrows_k02_rules_required.main.body.getD i (.Pass ⟨0, 0, 0, 0⟩)
def tab : Tab where
  free := ["LookupError", "ValueError", "bool", "enumerate", "int", "isinstance", "len", "list", "range", "repr", "str", "tuple"]
  con := [("MOST_DEED", (.int 5)), ("MANY_RULES", (.int 27)), ("ROW", (.int 1)), ("FRESH", (.int 2)), ("ABSENCE", (.int 2)), ("NAMES", (.tup [(.str "over"), (.str "key"), (.str "row")]))]
  fn := [("is_integer", 1), ("is_within", 3), ("is_deed", 1), ("rules_fault", 1), ("require_rules", 1), ("deed_by_name", 4), ("named_rules", 1), ("rules_with", 3), ("_law_pen", 1), ("_law_fresh", 1), ("_law_draw", 2), ("_law_one_of", 2), ("_law_named", 1), ("_law_any_rules", 1), ("_law_rules", 1), ("_law_is_number", 3), ("_law_at", 3), ("_law_odd", 1), ("_law_required", 1), ("_law_due", 1), ("_law_word", 1), ("law", 1)]
  exc := [("InvalidRules", "index"), ("UnknownWord", "value")]
def c_is_integer : List Sm := [.ret (.and (.blt .isI [.var 0, .tyc "int"]) (.not (.blt .isI [.var 0, .tyc "bool"])))]
def d_is_integer : Df := ⟨["value"], ["value"], ⟨1, 1, c_is_integer⟩⟩
def c_is_within : List Sm := [.ret (.and (.call 0 [.var 0]) (.chain .le .le (.var 1) (.var 0) (.var 2)))]
def d_is_within : Df := ⟨["value", "least", "most"], ["value", "least", "most"], ⟨3, 3, c_is_within⟩⟩
def c_is_deed : List Sm := [.ret (.call 1 [.var 0, .cst (.int 0), .glb "MOST_DEED" (.int 5)])]
def d_is_deed : Df := ⟨["value"], ["value"], ⟨1, 1, c_is_deed⟩⟩
def c_rules_fault : List Sm := [.ite (.or (.not (.blt .isI [.var 0, .tyc "tuple"])) (.op .ne (.blt .len [.var 0]) (.glb "MANY_RULES" (.int 27)))) [.ret (.tup [.cst .non])] [], .for (.many [1, 2]) .enum [.var 0] [.ite (.not (.call 2 [.var 2])) [.ret (.tup [.var 1])] []], .ret (.cst .non)]
def d_rules_fault : Df := ⟨["value"], ["value", "index", "deed"], ⟨3, 1, c_rules_fault⟩⟩
def c_require_rules : List Sm := [.set 1 (.call 3 [.var 0]), .ite (.isN true (.var 1)) [.raise "InvalidRules" "index" (.ix (.var 1) (.cst (.int 0)))] [], .ret (.var 0)]
def d_require_rules : Df := ⟨["value"], ["value", "fault"], ⟨2, 1, c_require_rules⟩⟩
def c_deed_by_name : List Sm := [.ite (.op .eq (.var 0) (.cst (.str "over"))) [.ret (.ifx (.op .eq (.var 1) (.glb "ROW" (.int 1))) (.cst (.int 1)) (.cst (.int 3)))] [], .ite (.op .eq (.var 0) (.cst (.str "key"))) [.ret (.ifx (.op .eq (.var 2) (.glb "FRESH" (.int 2))) (.cst (.int 0)) (.cst (.int 1)))] [], .ite (.op .isIn (.glb "FRESH" (.int 2)) (.tup [.var 2, .var 3])) [.ret (.cst (.int 0))] [], .ret (.ifx (.op .eq (.var 1) (.glb "ABSENCE" (.int 2))) (.cst (.int 3)) (.cst (.int 2)))]
def d_deed_by_name : Df := ⟨["word", "kind", "own", "other"], ["word", "kind", "own", "other"], ⟨4, 4, c_deed_by_name⟩⟩
def c_named_rules : List Sm := [.ite (.or (.not (.blt .isI [.var 0, .tyc "str"])) (.op .notIn (.var 0) (.glb "NAMES" (.tup [(.str "over"), (.str "key"), (.str "row")])))) [.raise "UnknownWord" "value" (.var 0)] [], .set 1 (.lst []), .for (.one 2) .rng1 [.cst (.int 3)] [.for (.one 3) .rng1 [.cst (.int 3)] [.ex (.mth .extend (.var 1) [.comp [4] .rng1 [.cst (.int 3)] (.one 4) (.cst (.bl true)) (.call 5 [.var 0, .var 2, .var 3, .var 4])])]], .ret (.blt .tuple [.var 1])]
def d_named_rules : Df := ⟨["word"], ["word", "deeds", "kind", "own", "other"], ⟨5, 1, c_named_rules⟩⟩
def c_rules_with : List Sm := [.ret (.op .add (.op .add (.cutH (.var 0) (.var 1)) (.tup [.var 2])) (.cutL (.var 0) (.op .add (.var 1) (.cst (.int 1)))))]
def d_rules_with : Df := ⟨["rules", "index", "action"], ["rules", "index", "action"], ⟨3, 3, c_rules_with⟩⟩
def c__law_pen : List Sm := [.ret (.lst [.blt .list [.cutH (.var 0) (.cst (.int 63))], .cst (.int 0), .cst (.int 0)])]
def d__law_pen : Df := ⟨["script"], ["script"], ⟨1, 1, c__law_pen⟩⟩
def c__law_fresh : List Sm := [.par [6, 7] [.ix (.var 0) (.cst (.int 1)), .ix (.var 0) (.cst (.int 0))], .put (.var 0) (.cst (.int 1)) (.op .add (.var 6) (.cst (.int 1))), .set 1 (.ifx (.op .ne (.var 7) (.lst [])) (.ix (.var 7) (.op .mod (.blt .int [.var 6]) (.blt .len [.var 7]))) (.cst (.int 0))), .ite (.and (.op .lt (.var 6) (.blt .len [.var 7])) (.op .ge (.var 1) (.op .pow (.cst (.int 10)) (.cst (.int 18))))) [.ret (.op .sub (.var 1) (.op .pow (.cst (.int 10)) (.cst (.int 18))))] [], .set 2 (.cst (.int 2305843009213693951)), .set 3 (.op .mod (.blt .int [.op .add (.op .add (.op .mul (.var 1) (.cst (.int 39373))) (.op .mul (.cst (.int 52013)) (.var 6))) (.cst (.int 29))]) (.var 2)), .set 4 (.var 3), .for (.one 5) .rng1 [.cst (.int 6)] [.set 3 (.op .mod (.blt .int [.op .add (.op .add (.op .mul (.var 3) (.var 3)) (.op .mul (.op .mul (.cst (.int 62089)) (.op .add (.var 5) (.cst (.int 3)))) (.op .add (.var 6) (.cst (.int 1))))) (.var 1)]) (.var 2)), .set 4 (.op .add (.op .mul (.var 4) (.var 2)) (.var 3))], .ret (.var 4)]
def d__law_fresh : Df := ⟨["pen"], ["pen", "cell", "prime", "state", "found", "lap", "seat", "given"], ⟨8, 1, c__law_fresh⟩⟩
def c__law_draw : List Sm := [.ite (.op .lt (.ix (.var 0) (.cst (.int 2))) (.var 1)) [.put (.var 0) (.cst (.int 2)) (.call 9 [.var 0])] [], .set 2 (.op .mod (.blt .int [.ix (.var 0) (.cst (.int 2))]) (.var 1)), .put (.var 0) (.cst (.int 2)) (.op .div (.blt .int [.ix (.var 0) (.cst (.int 2))]) (.var 1)), .ret (.var 2)]
def d__law_draw : Df := ⟨["pen", "bound"], ["pen", "bound", "digit"], ⟨3, 2, c__law_draw⟩⟩
def c__law_one_of : List Sm := [.ret (.ix (.var 1) (.call 10 [.var 0, .blt .len [.var 1]]))]
def d__law_one_of : Df := ⟨["pen", "some"], ["pen", "some"], ⟨2, 2, c__law_one_of⟩⟩
def c__law_named : List Sm := [.set 1 (.lst []), .for (.one 2) .seq [.tup [.cst (.int 0), .cst (.int 1), .cst (.int 2)]] [.for (.one 3) .seq [.tup [.cst (.int 0), .cst (.int 1), .cst (.int 2)]] [.for (.one 4) .seq [.tup [.cst (.int 0), .cst (.int 1), .cst (.int 2)]] [.ite (.op .eq (.var 0) (.cst (.str "over"))) [.ex (.mth .append (.var 1) [.ifx (.op .eq (.var 2) (.cst (.int 1))) (.cst (.int 1)) (.cst (.int 3))])] [.ite (.op .eq (.var 0) (.cst (.str "key"))) [.ex (.mth .append (.var 1) [.ifx (.op .eq (.var 3) (.cst (.int 2))) (.cst (.int 0)) (.cst (.int 1))])] [.ite (.or (.op .eq (.var 3) (.cst (.int 2))) (.op .eq (.var 4) (.cst (.int 2)))) [.ex (.mth .append (.var 1) [.cst (.int 0)])] [.ex (.mth .append (.var 1) [.ifx (.op .eq (.var 2) (.cst (.int 2))) (.cst (.int 3)) (.cst (.int 2))])]]]]]], .ret (.blt .tuple [.var 1])]
def d__law_named : Df := ⟨["word"], ["word", "found", "kind", "own", "other"], ⟨5, 1, c__law_named⟩⟩
def c__law_any_rules : List Sm := [.ret (.blt .tuple [.comp [1] .rng1 [.cst (.int 27)] (.one 1) (.cst (.bl true)) (.call 10 [.var 0, .cst (.int 6)])])]
def d__law_any_rules : Df := ⟨["pen"], ["pen", "index"], ⟨2, 1, c__law_any_rules⟩⟩
def c__law_rules : List Sm := [.set 1 (.blt .list [.call 12 [.call 11 [.var 0, .lst [.cst (.str "over"), .cst (.str "key"), .cst (.str "row")]]]]), .set 2 (.call 10 [.var 0, .cst (.int 4)]), .ite (.op .eq (.var 2) (.cst (.int 3))) [.ret (.call 13 [.var 0])] [], .for (.one 3) .rng1 [.var 2] [.put (.var 1) (.call 10 [.var 0, .cst (.int 27)]) (.call 10 [.var 0, .cst (.int 6)])], .ret (.blt .tuple [.var 1])]
def d__law_rules : Df := ⟨["pen"], ["pen", "found", "option", "lap"], ⟨4, 1, c__law_rules⟩⟩
def c__law_is_number : List Sm := [.ret (.and (.blt .isI [.var 0, .tyc "int"]) (.and (.not (.blt .isI [.var 0, .tyc "bool"])) (.chain .le .le (.var 1) (.var 0) (.var 2))))]
def d__law_is_number : Df := ⟨["value", "low", "high"], ["value", "low", "high"], ⟨3, 3, c__law_is_number⟩⟩
def c__law_at : List Sm := [.ret (.op .add (.op .add (.cutH (.var 0) (.var 1)) (.tup [.var 2])) (.cutL (.var 0) (.op .add (.var 1) (.cst (.int 1)))))]
def d__law_at : Df := ⟨["rows", "place", "thing"], ["rows", "place", "thing"], ⟨3, 3, c__law_at⟩⟩
def c__law_odd : List Sm := [.set 1 (.lst [.cst .non, .cst (.bl true), .cst (.bl false), .neg (.cst (.int 1)), .cst (.int 0), .cst (.int 1), .cst (.int 2), .cst (.int 3), .cst (.int 5), .cst (.int 6), .cst (.int 7), .cst (.str ""), .cst (.str "0"), .cst (.str "a"), .cst (.str "over"), .tup [], .lst [], .dct [], .tup [.cst (.int 0)], .tup [.cst (.int 1), .cst (.int 2)]]), .set 1 (.op .add (.var 1) (.lst [.tup [.cst (.int 0), .cst (.int 1), .cst (.int 2)], .op .pow (.cst (.int 10)) (.cst (.int 40)), .tup [.tup []], .lst [.cst (.int 1)]])), .ret (.ix (.var 1) (.call 10 [.var 0, .blt .len [.var 1]]))]
def d__law_odd : Df := ⟨["pen"], ["pen", "some"], ⟨2, 1, c__law_odd⟩⟩
def c__law_required : List Sm := [.tryA "InvalidRules" 1 (.set 2 (.call 4 [.var 0])) (.ret (.tup [.cst (.str "index"), .fld "index"])), .ret (.tup [.cst (.str "told"), .blt .repr [.var 2]])]
def d__law_required : Df := ⟨["value"], ["value", "e", "found"], ⟨3, 1, c__law_required⟩⟩
def c__law_due : List Sm := [.ite (.or (.not (.blt .isI [.var 0, .tyc "tuple"])) (.op .ne (.blt .len [.var 0]) (.cst (.int 27)))) [.ret (.tup [.cst (.str "index"), .cst .non])] [], .set 1 (.comp [2, 3] .enum [.var 0] (.many [2, 3]) (.not (.call 15 [.var 3, .cst (.int 0), .cst (.int 5)])) (.var 2)), .ret (.ifx (.op .ne (.var 1) (.lst [])) (.tup [.cst (.str "index"), .ix (.var 1) (.cst (.int 0))]) (.tup [.cst (.str "told"), .blt .repr [.var 0]]))]
def d__law_due : Df := ⟨["value"], ["value", "wrong", "at", "deed"], ⟨4, 1, c__law_due⟩⟩
def c__law_word : List Sm := [.tryA "UnknownWord" 1 (.set 2 (.call 6 [.var 0])) (.ret (.tup [.cst (.str "unknown"), .rpr "value"])), .ret (.tup [.cst (.str "told"), .blt .repr [.var 2]])]
def d__law_word : Df := ⟨["value"], ["value", "e", "found"], ⟨3, 1, c__law_word⟩⟩
def c_law : List Sm := [.set 1 (.call 8 [.var 0]), .for (.one 2) .rng1 [.cst (.int 6)] [.set 3 (.call 14 [.var 1]), .set 4 (.call 11 [.var 1, .lst [.var 3, .var 3, .cutL (.var 3) (.cst (.int 1)), .op .add (.var 3) (.tup [.cst (.int 0)]), .blt .list [.var 3], .call 17 [.var 1]]]), .for (.one 5) .rng1 [.call 11 [.var 1, .lst [.cst (.int 0), .cst (.int 1), .cst (.int 2)]]] [.ite (.and (.blt .isI [.var 4, .tyc "tuple"]) (.op .gt (.blt .len [.var 4]) (.cst (.int 1)))) [.set 11 (.call 11 [.var 1, .lst [.call 17 [.var 1], .cst (.int 6), .neg (.cst (.int 1)), .cst (.int 5), .cst (.bl true), .cst .non]]), .set 4 (.call 16 [.var 4, .call 10 [.var 1, .blt .len [.var 4]], .var 11])] []], .set 6 (.blt .repr [.var 4]), .ite (.or (.op .ne (.call 18 [.var 4]) (.call 19 [.var 4])) (.op .ne (.blt .repr [.var 4]) (.var 6))) [.ret (.cst (.bl false))] [], .set 7 (.call 11 [.var 1, .lst [.cst (.str "over"), .cst (.str "key"), .cst (.str "row"), .cst (.str "Over"), .cst (.str "rows"), .cst (.str ""), .cst (.str "over "), .call 17 [.var 1]]]), .set 8 (.tup [.cst (.str "unknown"), .blt .repr [.var 7]]), .ite (.and (.blt .isI [.var 7, .tyc "str"]) (.op .isIn (.var 7) (.tup [.cst (.str "over"), .cst (.str "key"), .cst (.str "row")]))) [.set 8 (.tup [.cst (.str "told"), .blt .repr [.call 12 [.var 7]]])] [], .ite (.op .ne (.call 20 [.var 7]) (.var 8)) [.ret (.cst (.bl false))] [], .par [9, 10] [.call 10 [.var 1, .cst (.int 27)], .call 10 [.var 1, .cst (.int 6)]], .ite (.op .ne (.blt .repr [.call 7 [.var 3, .var 9, .var 10]]) (.blt .repr [.call 16 [.var 3, .var 9, .var 10]])) [.ret (.cst (.bl false))] []], .ret (.cst (.bl true))]
def d_law : Df := ⟨["script"], ["script", "pen", "lap", "some", "value", "turn", "kept", "word", "due", "at", "deed", "odd"], ⟨12, 1, c_law⟩⟩
def Ds : List Df := [d_is_integer, d_is_within, d_is_deed, d_rules_fault, d_require_rules, d_deed_by_name, d_named_rules, d_rules_with, d__law_pen, d__law_fresh, d__law_draw, d__law_one_of, d__law_named, d__law_any_rules, d__law_rules, d__law_is_number, d__law_at, d__law_odd, d__law_required, d__law_due, d__law_word, d_law]
abbrev f_is_integer : Nat := 0
theorem k_is_integer : chkDef tab d_is_integer (defScope (topS 6)) (defBody (topS 6)) = true := by decide +kernel
abbrev f_is_within : Nat := 1
theorem k_is_within : chkDef tab d_is_within (defScope (topS 7)) (defBody (topS 7)) = true := by decide +kernel
abbrev f_is_deed : Nat := 2
theorem k_is_deed : chkDef tab d_is_deed (defScope (topS 13)) (defBody (topS 13)) = true := by decide +kernel
abbrev f_rules_fault : Nat := 3
theorem k_rules_fault : chkDef tab d_rules_fault (defScope (topS 14)) (defBody (topS 14)) = true := by decide +kernel
abbrev f_require_rules : Nat := 4
theorem k_require_rules : chkDef tab d_require_rules (defScope (topS 15)) (defBody (topS 15)) = true := by decide +kernel
abbrev f_deed_by_name : Nat := 5
theorem k_deed_by_name : chkDef tab d_deed_by_name (defScope (topS 16)) (defBody (topS 16)) = true := by decide +kernel
abbrev f_named_rules : Nat := 6
theorem k_named_rules : chkDef tab d_named_rules (defScope (topS 17)) (defBody (topS 17)) = true := by decide +kernel
abbrev f_rules_with : Nat := 7
theorem k_rules_with : chkDef tab d_rules_with (defScope (topS 18)) (defBody (topS 18)) = true := by decide +kernel
abbrev f__law_pen : Nat := 8
theorem k__law_pen : chkDef tab d__law_pen (defScope (topS 20)) (defBody (topS 20)) = true := by decide +kernel
abbrev f__law_fresh : Nat := 9
theorem k__law_fresh : chkDef tab d__law_fresh (defScope (topS 21)) (defBody (topS 21)) = true := by decide +kernel
abbrev f__law_draw : Nat := 10
theorem k__law_draw : chkDef tab d__law_draw (defScope (topS 22)) (defBody (topS 22)) = true := by decide +kernel
abbrev f__law_one_of : Nat := 11
theorem k__law_one_of : chkDef tab d__law_one_of (defScope (topS 23)) (defBody (topS 23)) = true := by decide +kernel
abbrev f__law_named : Nat := 12
theorem k__law_named : chkDef tab d__law_named (defScope (topS 24)) (defBody (topS 24)) = true := by decide +kernel
abbrev f__law_any_rules : Nat := 13
theorem k__law_any_rules : chkDef tab d__law_any_rules (defScope (topS 25)) (defBody (topS 25)) = true := by decide +kernel
abbrev f__law_rules : Nat := 14
theorem k__law_rules : chkDef tab d__law_rules (defScope (topS 26)) (defBody (topS 26)) = true := by decide +kernel
abbrev f__law_is_number : Nat := 15
theorem k__law_is_number : chkDef tab d__law_is_number (defScope (topS 27)) (defBody (topS 27)) = true := by decide +kernel
abbrev f__law_at : Nat := 16
theorem k__law_at : chkDef tab d__law_at (defScope (topS 28)) (defBody (topS 28)) = true := by decide +kernel
abbrev f__law_odd : Nat := 17
theorem k__law_odd : chkDef tab d__law_odd (defScope (topS 29)) (defBody (topS 29)) = true := by decide +kernel
abbrev f__law_required : Nat := 18
theorem k__law_required : chkDef tab d__law_required (defScope (topS 30)) (defBody (topS 30)) = true := by decide +kernel
abbrev f__law_due : Nat := 19
theorem k__law_due : chkDef tab d__law_due (defScope (topS 31)) (defBody (topS 31)) = true := by decide +kernel
abbrev f__law_word : Nat := 20
theorem k__law_word : chkDef tab d__law_word (defScope (topS 32)) (defBody (topS 32)) = true := by decide +kernel
abbrev f_law : Nat := 21
theorem k_law : chkDef tab d_law (defScope (topS 33)) (defBody (topS 33)) = true := by decide +kernel
/-! ### the head -/
def e_is_integer : He.DefD := ⟨("is_integer", none), "is_integer", "is_integer", defArgs (topS 6), defBody (topS 6), defScope (topS 6), [], []⟩
def e_is_within : He.DefD := ⟨("is_within", none), "is_within", "is_within", defArgs (topS 7), defBody (topS 7), defScope (topS 7), [], []⟩
def e_is_deed : He.DefD := ⟨("is_deed", none), "is_deed", "is_deed", defArgs (topS 13), defBody (topS 13), defScope (topS 13), [], []⟩
def e_rules_fault : He.DefD := ⟨("rules_fault", none), "rules_fault", "rules_fault", defArgs (topS 14), defBody (topS 14), defScope (topS 14), [], []⟩
def e_require_rules : He.DefD := ⟨("require_rules", none), "require_rules", "require_rules", defArgs (topS 15), defBody (topS 15), defScope (topS 15), [], []⟩
def e_deed_by_name : He.DefD := ⟨("deed_by_name", none), "deed_by_name", "deed_by_name", defArgs (topS 16), defBody (topS 16), defScope (topS 16), [], []⟩
def e_named_rules : He.DefD := ⟨("named_rules", none), "named_rules", "named_rules", defArgs (topS 17), defBody (topS 17), defScope (topS 17), [], []⟩
def e_rules_with : He.DefD := ⟨("rules_with", none), "rules_with", "rules_with", defArgs (topS 18), defBody (topS 18), defScope (topS 18), [], []⟩
def e__law_pen : He.DefD := ⟨("_law_pen", none), "_law_pen", "_law_pen", defArgs (topS 20), defBody (topS 20), defScope (topS 20), [], []⟩
def e__law_fresh : He.DefD := ⟨("_law_fresh", none), "_law_fresh", "_law_fresh", defArgs (topS 21), defBody (topS 21), defScope (topS 21), [], []⟩
def e__law_draw : He.DefD := ⟨("_law_draw", none), "_law_draw", "_law_draw", defArgs (topS 22), defBody (topS 22), defScope (topS 22), [], []⟩
def e__law_one_of : He.DefD := ⟨("_law_one_of", none), "_law_one_of", "_law_one_of", defArgs (topS 23), defBody (topS 23), defScope (topS 23), [], []⟩
def e__law_named : He.DefD := ⟨("_law_named", none), "_law_named", "_law_named", defArgs (topS 24), defBody (topS 24), defScope (topS 24), [], []⟩
def e__law_any_rules : He.DefD := ⟨("_law_any_rules", none), "_law_any_rules", "_law_any_rules", defArgs (topS 25), defBody (topS 25), defScope (topS 25), [], []⟩
def e__law_rules : He.DefD := ⟨("_law_rules", none), "_law_rules", "_law_rules", defArgs (topS 26), defBody (topS 26), defScope (topS 26), [], []⟩
def e__law_is_number : He.DefD := ⟨("_law_is_number", none), "_law_is_number", "_law_is_number", defArgs (topS 27), defBody (topS 27), defScope (topS 27), [], []⟩
def e__law_at : He.DefD := ⟨("_law_at", none), "_law_at", "_law_at", defArgs (topS 28), defBody (topS 28), defScope (topS 28), [], []⟩
def e__law_odd : He.DefD := ⟨("_law_odd", none), "_law_odd", "_law_odd", defArgs (topS 29), defBody (topS 29), defScope (topS 29), [], []⟩
def e__law_required : He.DefD := ⟨("_law_required", none), "_law_required", "_law_required", defArgs (topS 30), defBody (topS 30), defScope (topS 30), [], []⟩
def e__law_due : He.DefD := ⟨("_law_due", none), "_law_due", "_law_due", defArgs (topS 31), defBody (topS 31), defScope (topS 31), [], []⟩
def e__law_word : He.DefD := ⟨("_law_word", none), "_law_word", "_law_word", defArgs (topS 32), defBody (topS 32), defScope (topS 32), [], []⟩
def e_law : He.DefD := ⟨("law", none), "law", "law", defArgs (topS 33), defBody (topS 33), defScope (topS 33), [], []⟩
def topM (i j : Nat) : Stmt := match topS i with | .ClassDef _ _ _ b _ _ _ _ _ _ _ => b.getD j (.Pass ⟨0, 0, 0, 0⟩) | _ => .Pass ⟨0, 0, 0, 0⟩
def e_InvalidRules : He.DefD := ⟨("InvalidRules", some "__init__"), "__init__", "InvalidRules.__init__", defArgs (topM 1 0), defBody (topM 1 0), defScope (topM 1 0), [], []⟩
def e_UnknownWord : He.DefD := ⟨("UnknownWord", some "__init__"), "__init__", "UnknownWord.__init__", defArgs (topM 2 0), defBody (topM 2 0), defScope (topM 2 0), [], []⟩
def fnD : List He.DefD := [e_is_integer, e_is_within, e_is_deed, e_rules_fault, e_require_rules, e_deed_by_name, e_named_rules, e_rules_with, e__law_pen, e__law_fresh, e__law_draw, e__law_one_of, e__law_named, e__law_any_rules, e__law_rules, e__law_is_number, e__law_at, e__law_odd, e__law_required, e__law_due, e__law_word, e_law, e_InvalidRules, e_UnknownWord]
def exB (K : PySem.W.Frag) : Bool := (K.lookup sysModules).isNone && xcB K (He.ga K "InvalidRules") (He.ma K (He.ga K "InvalidRules") "__init__") "index" && xcB K (He.ga K "UnknownWord") (He.ma K (He.ga K "UnknownWord") "__init__") "value" && conB K "MOST_DEED" (.int 5) && conB K "MANY_RULES" (.int 27) && conB K "ROW" (.int 1) && conB K "FRESH" (.int 2) && conB K "ABSENCE" (.int 2) && conB K "NAMES" (.tup [(.str "over"), (.str "key"), (.str "row")]) && decide (bsOf K (He.ga K "InvalidRules") = .V) && decide (bsOf K (He.ga K "UnknownWord") = .L)
def faD : List He.Fa := [.glo "is_integer", .glo "is_within", .glo "is_deed", .glo "rules_fault", .glo "require_rules", .glo "deed_by_name", .glo "named_rules", .glo "rules_with", .glo "_law_pen", .glo "_law_fresh", .glo "_law_draw", .glo "_law_one_of", .glo "_law_named", .glo "_law_any_rules", .glo "_law_rules", .glo "_law_is_number", .glo "_law_at", .glo "_law_odd", .glo "_law_required", .glo "_law_due", .glo "_law_word", .glo "law", .free "LookupError", .free "ValueError", .free "bool", .free "enumerate", .free "int", .free "isinstance", .free "len", .free "list", .free "range", .free "repr", .free "str", .free "tuple", .glo "InvalidRules", .glo "UnknownWord"]
abbrev hk : PySem.W.Hook := hookY 5 faD fnD exB
def ob (s : PySem.W.SharedT) : He.AlX × Bool := (He.obsX 5 faD fnD [] [] exB (HandSHeadRun.getT s), sysB (HandSHeadRun.getT s))
theorem ob_eq (s : PySem.W.SharedT) : ob s = hk.obs s.abs := hookY_eq (HandSHeadRun.getT_eq s)
theorem tab_ok {K : PySem.W.Frag} {h : Heap} {mg : Str → Option Value} (X : K.In h) (G : h.Ns mainGlobals mg) (c : He.SaysD faD fnD K) (cx : exB K = true) : TabOk tab K mg := by
  simp only [exB, Bool.and_eq_true] at cx
  obtain ⟨⟨⟨⟨⟨⟨⟨⟨⟨⟨x0, x1⟩, x2⟩, x3⟩, x4⟩, x5⟩, x6⟩, x7⟩, x8⟩, x9⟩, x10⟩ := cx
  refine ⟨?_, ?_, ?_, ?_⟩
  · intro x hx
    simp only [tab, List.mem_cons, List.not_mem_nil, or_false] at hx
    rcases hx with rfl | rfl | rfl | rfl | rfl | rfl | rfl | rfl | rfl | rfl | rfl | rfl
    · exact He.free_ok X G (c.fact 22 (f := .free "LookupError") rfl)
    · exact He.free_ok X G (c.fact 23 (f := .free "ValueError") rfl)
    · exact He.free_ok X G (c.fact 24 (f := .free "bool") rfl)
    · exact He.free_ok X G (c.fact 25 (f := .free "enumerate") rfl)
    · exact He.free_ok X G (c.fact 26 (f := .free "int") rfl)
    · exact He.free_ok X G (c.fact 27 (f := .free "isinstance") rfl)
    · exact He.free_ok X G (c.fact 28 (f := .free "len") rfl)
    · exact He.free_ok X G (c.fact 29 (f := .free "list") rfl)
    · exact He.free_ok X G (c.fact 30 (f := .free "range") rfl)
    · exact He.free_ok X G (c.fact 31 (f := .free "repr") rfl)
    · exact He.free_ok X G (c.fact 32 (f := .free "str") rfl)
    · exact He.free_ok X G (c.fact 33 (f := .free "tuple") rfl)
  · intro p hp
    simp only [tab, List.mem_cons, List.not_mem_nil, or_false] at hp
    rcases hp with rfl | rfl | rfl | rfl | rfl | rfl
    · exact conB_ok X G x3
    · exact conB_ok X G x4
    · exact conB_ok X G x5
    · exact conB_ok X G x6
    · exact conB_ok X G x7
    · exact conB_ok X G x8
  · intro q hq C hC
    simp only [tab, List.mem_cons, List.not_mem_nil, or_false] at hq
  · intro p hp
    simp only [tab, List.mem_cons, List.not_mem_nil, or_false] at hp
    rcases hp with rfl | rfl
    · exact ⟨_, _, He.glo_ok X G (c.fact 34 (f := .glo "InvalidRules") rfl), He.eqO_ok (c.fact 34 (f := .glo "InvalidRules") rfl), xcB_ok x1⟩
    · exact ⟨_, _, He.glo_ok X G (c.fact 35 (f := .glo "UnknownWord") rfl), He.eqO_ok (c.fact 35 (f := .glo "UnknownWord") rfl), xcB_ok x2⟩
theorem defs_ok {K : PySem.W.Frag} {h : Heap} {mg : Str → Option Value} (X : K.In h) (G : h.Ns mainGlobals mg) (c : He.SaysD faD fnD K) :
    ∀ (f : Nat) (x : Str) (k : Nat), tab.fn[f]? = some (x, k) → ∃ (d : Df) (ql : Str) (pr : Arguments) (body : List Stmt) (sc : Scope) (a : Addr) (fd : FuncData), Ds[f]? = some d ∧ d.fn.pars = k ∧ d.ps.length = k ∧ FunD K x ql pr body sc [] [] a fd ∧ mg x = some (.ref a) ∧ Binds K fd d.ps [] ∧ chkDef tab d sc body = true := by
  intro f x k e
  match f, e with
  | 0, e => cases e; obtain ⟨fd, F⟩ := c.def_ 0 (d := e_is_integer) rfl; exact ⟨d_is_integer, _, _, _, _, _, fd, rfl, rfl, rfl, F, He.glo_ok X G (c.fact 0 (f := .glo "is_integer") rfl), F.bindsN (ps := ["value"]) (fun _ _ _ _ _ _ us hl => match us, hl with | [_], _ => rfl), k_is_integer⟩
  | 1, e => cases e; obtain ⟨fd, F⟩ := c.def_ 1 (d := e_is_within) rfl; exact ⟨d_is_within, _, _, _, _, _, fd, rfl, rfl, rfl, F, He.glo_ok X G (c.fact 1 (f := .glo "is_within") rfl), F.bindsN (ps := ["value", "least", "most"]) (fun _ _ _ _ _ _ us hl => match us, hl with | [_, _, _], _ => rfl), k_is_within⟩
  | 2, e => cases e; obtain ⟨fd, F⟩ := c.def_ 2 (d := e_is_deed) rfl; exact ⟨d_is_deed, _, _, _, _, _, fd, rfl, rfl, rfl, F, He.glo_ok X G (c.fact 2 (f := .glo "is_deed") rfl), F.bindsN (ps := ["value"]) (fun _ _ _ _ _ _ us hl => match us, hl with | [_], _ => rfl), k_is_deed⟩
  | 3, e => cases e; obtain ⟨fd, F⟩ := c.def_ 3 (d := e_rules_fault) rfl; exact ⟨d_rules_fault, _, _, _, _, _, fd, rfl, rfl, rfl, F, He.glo_ok X G (c.fact 3 (f := .glo "rules_fault") rfl), F.bindsN (ps := ["value"]) (fun _ _ _ _ _ _ us hl => match us, hl with | [_], _ => rfl), k_rules_fault⟩
  | 4, e => cases e; obtain ⟨fd, F⟩ := c.def_ 4 (d := e_require_rules) rfl; exact ⟨d_require_rules, _, _, _, _, _, fd, rfl, rfl, rfl, F, He.glo_ok X G (c.fact 4 (f := .glo "require_rules") rfl), F.bindsN (ps := ["value"]) (fun _ _ _ _ _ _ us hl => match us, hl with | [_], _ => rfl), k_require_rules⟩
  | 5, e => cases e; obtain ⟨fd, F⟩ := c.def_ 5 (d := e_deed_by_name) rfl; exact ⟨d_deed_by_name, _, _, _, _, _, fd, rfl, rfl, rfl, F, He.glo_ok X G (c.fact 5 (f := .glo "deed_by_name") rfl), F.bindsN (ps := ["word", "kind", "own", "other"]) (fun _ _ _ _ _ _ us hl => match us, hl with | [_, _, _, _], _ => rfl), k_deed_by_name⟩
  | 6, e => cases e; obtain ⟨fd, F⟩ := c.def_ 6 (d := e_named_rules) rfl; exact ⟨d_named_rules, _, _, _, _, _, fd, rfl, rfl, rfl, F, He.glo_ok X G (c.fact 6 (f := .glo "named_rules") rfl), F.bindsN (ps := ["word"]) (fun _ _ _ _ _ _ us hl => match us, hl with | [_], _ => rfl), k_named_rules⟩
  | 7, e => cases e; obtain ⟨fd, F⟩ := c.def_ 7 (d := e_rules_with) rfl; exact ⟨d_rules_with, _, _, _, _, _, fd, rfl, rfl, rfl, F, He.glo_ok X G (c.fact 7 (f := .glo "rules_with") rfl), F.bindsN (ps := ["rules", "index", "action"]) (fun _ _ _ _ _ _ us hl => match us, hl with | [_, _, _], _ => rfl), k_rules_with⟩
  | 8, e => cases e; obtain ⟨fd, F⟩ := c.def_ 8 (d := e__law_pen) rfl; exact ⟨d__law_pen, _, _, _, _, _, fd, rfl, rfl, rfl, F, He.glo_ok X G (c.fact 8 (f := .glo "_law_pen") rfl), F.bindsN (ps := ["script"]) (fun _ _ _ _ _ _ us hl => match us, hl with | [_], _ => rfl), k__law_pen⟩
  | 9, e => cases e; obtain ⟨fd, F⟩ := c.def_ 9 (d := e__law_fresh) rfl; exact ⟨d__law_fresh, _, _, _, _, _, fd, rfl, rfl, rfl, F, He.glo_ok X G (c.fact 9 (f := .glo "_law_fresh") rfl), F.bindsN (ps := ["pen"]) (fun _ _ _ _ _ _ us hl => match us, hl with | [_], _ => rfl), k__law_fresh⟩
  | 10, e => cases e; obtain ⟨fd, F⟩ := c.def_ 10 (d := e__law_draw) rfl; exact ⟨d__law_draw, _, _, _, _, _, fd, rfl, rfl, rfl, F, He.glo_ok X G (c.fact 10 (f := .glo "_law_draw") rfl), F.bindsN (ps := ["pen", "bound"]) (fun _ _ _ _ _ _ us hl => match us, hl with | [_, _], _ => rfl), k__law_draw⟩
  | 11, e => cases e; obtain ⟨fd, F⟩ := c.def_ 11 (d := e__law_one_of) rfl; exact ⟨d__law_one_of, _, _, _, _, _, fd, rfl, rfl, rfl, F, He.glo_ok X G (c.fact 11 (f := .glo "_law_one_of") rfl), F.bindsN (ps := ["pen", "some"]) (fun _ _ _ _ _ _ us hl => match us, hl with | [_, _], _ => rfl), k__law_one_of⟩
  | 12, e => cases e; obtain ⟨fd, F⟩ := c.def_ 12 (d := e__law_named) rfl; exact ⟨d__law_named, _, _, _, _, _, fd, rfl, rfl, rfl, F, He.glo_ok X G (c.fact 12 (f := .glo "_law_named") rfl), F.bindsN (ps := ["word"]) (fun _ _ _ _ _ _ us hl => match us, hl with | [_], _ => rfl), k__law_named⟩
  | 13, e => cases e; obtain ⟨fd, F⟩ := c.def_ 13 (d := e__law_any_rules) rfl; exact ⟨d__law_any_rules, _, _, _, _, _, fd, rfl, rfl, rfl, F, He.glo_ok X G (c.fact 13 (f := .glo "_law_any_rules") rfl), F.bindsN (ps := ["pen"]) (fun _ _ _ _ _ _ us hl => match us, hl with | [_], _ => rfl), k__law_any_rules⟩
  | 14, e => cases e; obtain ⟨fd, F⟩ := c.def_ 14 (d := e__law_rules) rfl; exact ⟨d__law_rules, _, _, _, _, _, fd, rfl, rfl, rfl, F, He.glo_ok X G (c.fact 14 (f := .glo "_law_rules") rfl), F.bindsN (ps := ["pen"]) (fun _ _ _ _ _ _ us hl => match us, hl with | [_], _ => rfl), k__law_rules⟩
  | 15, e => cases e; obtain ⟨fd, F⟩ := c.def_ 15 (d := e__law_is_number) rfl; exact ⟨d__law_is_number, _, _, _, _, _, fd, rfl, rfl, rfl, F, He.glo_ok X G (c.fact 15 (f := .glo "_law_is_number") rfl), F.bindsN (ps := ["value", "low", "high"]) (fun _ _ _ _ _ _ us hl => match us, hl with | [_, _, _], _ => rfl), k__law_is_number⟩
  | 16, e => cases e; obtain ⟨fd, F⟩ := c.def_ 16 (d := e__law_at) rfl; exact ⟨d__law_at, _, _, _, _, _, fd, rfl, rfl, rfl, F, He.glo_ok X G (c.fact 16 (f := .glo "_law_at") rfl), F.bindsN (ps := ["rows", "place", "thing"]) (fun _ _ _ _ _ _ us hl => match us, hl with | [_, _, _], _ => rfl), k__law_at⟩
  | 17, e => cases e; obtain ⟨fd, F⟩ := c.def_ 17 (d := e__law_odd) rfl; exact ⟨d__law_odd, _, _, _, _, _, fd, rfl, rfl, rfl, F, He.glo_ok X G (c.fact 17 (f := .glo "_law_odd") rfl), F.bindsN (ps := ["pen"]) (fun _ _ _ _ _ _ us hl => match us, hl with | [_], _ => rfl), k__law_odd⟩
  | 18, e => cases e; obtain ⟨fd, F⟩ := c.def_ 18 (d := e__law_required) rfl; exact ⟨d__law_required, _, _, _, _, _, fd, rfl, rfl, rfl, F, He.glo_ok X G (c.fact 18 (f := .glo "_law_required") rfl), F.bindsN (ps := ["value"]) (fun _ _ _ _ _ _ us hl => match us, hl with | [_], _ => rfl), k__law_required⟩
  | 19, e => cases e; obtain ⟨fd, F⟩ := c.def_ 19 (d := e__law_due) rfl; exact ⟨d__law_due, _, _, _, _, _, fd, rfl, rfl, rfl, F, He.glo_ok X G (c.fact 19 (f := .glo "_law_due") rfl), F.bindsN (ps := ["value"]) (fun _ _ _ _ _ _ us hl => match us, hl with | [_], _ => rfl), k__law_due⟩
  | 20, e => cases e; obtain ⟨fd, F⟩ := c.def_ 20 (d := e__law_word) rfl; exact ⟨d__law_word, _, _, _, _, _, fd, rfl, rfl, rfl, F, He.glo_ok X G (c.fact 20 (f := .glo "_law_word") rfl), F.bindsN (ps := ["value"]) (fun _ _ _ _ _ _ us hl => match us, hl with | [_], _ => rfl), k__law_word⟩
  | 21, e => cases e; obtain ⟨fd, F⟩ := c.def_ 21 (d := e_law) rfl; exact ⟨d_law, _, _, _, _, _, fd, rfl, rfl, rfl, F, He.glo_ok X G (c.fact 21 (f := .glo "law") rfl), F.bindsN (ps := ["script"]) (fun _ _ _ _ _ _ us hl => match us, hl with | [_], _ => rfl), k_law⟩
  | n + 22, e => cases e
theorem exc_ok {P : Program} {w : World} {base : Heap} {K : PySem.W.Frag} {mg : Str → Option Value} (X : K.In base) (G : base.Ns mainGlobals mg) (c : He.SaysD faD fnD K) (cx : exB K = true) :
    ∀ p ∈ tab.exc, ∀ C fI : Addr, PySem.W.nsIn K mainGlobals p.1 = some (some (.ref C)) → XcK K C fI p.2 → ∃ (fd : FuncData) (ps : List Str), FnOk P w K mg base CX0 1 fI fd ps (spInit K C p.2) ∧ Binds K fd ps [] := by
  simp only [exB, Bool.and_eq_true] at cx
  obtain ⟨⟨⟨⟨⟨⟨⟨⟨⟨⟨x0, x1⟩, x2⟩, x3⟩, x4⟩, x5⟩, x6⟩, x7⟩, x8⟩, x9⟩, x10⟩ := cx
  intro p hp C fI hC hX
  simp only [tab, List.mem_cons, List.not_mem_nil, or_false] at hp
  rcases hp with rfl | rfl
  · have e := (He.eqO_ok (c.fact 34 (f := .glo "InvalidRules") rfl)).symm.trans hC
    cases e
    have y := xcB_ok x1
    have e2 := y.iC.symm.trans hX.iC
    cases e2
    obtain ⟨fd, F⟩ := c.def_ 22 (d := e_InvalidRules) rfl
    refine ⟨fd, ["self", "index"], init_ok (by rw [of_decide_eq_true x9]; rfl) (He.free_ok X G (c.fact 23 (f := .free "ValueError") rfl)) (fun Y h => ?_) y.vV rfl rfl rfl rfl ⟨rfl, rfl, rfl, by decide +kernel, rfl, by decide +kernel, by decide +kernel⟩ (fun _ => rfl) F, F.bindsN (ps := ["self", "index"]) (fun _ _ _ _ _ _ us hl => match us, hl with | [_, _], _ => rfl)⟩
    unfold Gl PySem.Env.kindOf
    rw [h]; first | rfl | decide +kernel
  · have e := (He.eqO_ok (c.fact 35 (f := .glo "UnknownWord") rfl)).symm.trans hC
    cases e
    have y := xcB_ok x2
    have e2 := y.iC.symm.trans hX.iC
    cases e2
    obtain ⟨fd, F⟩ := c.def_ 23 (d := e_UnknownWord) rfl
    refine ⟨fd, ["self", "value"], init_ok (by rw [of_decide_eq_true x10]; rfl) (He.free_ok X G (c.fact 22 (f := .free "LookupError") rfl)) (fun Y h => ?_) y.vV rfl rfl rfl rfl ⟨rfl, rfl, rfl, by decide +kernel, rfl, by decide +kernel, by decide +kernel⟩ (fun _ => rfl) F, F.bindsN (ps := ["self", "value"]) (fun _ _ _ _ _ _ us hl => match us, hl with | [_, _], _ => rfl)⟩
    unfold Gl PySem.Env.kindOf
    rw [h]; first | rfl | decide +kernel
end Law

set_option maxHeartbeats 1000000
namespace Law
open PySem PySem.Spec PyProof.Rows L2 DL
abbrev T : List Fn := Ds.map Df.fn
structure Pen (p : Nat) (S : Store) (g : Nat) (cells : List Int) (seat rest : Int) : Prop where
  pen : S[p]? = some (.lst [.ref g, .int seat, .int rest])
  given : S[g]? = some (.lst (cells.map .int))
  lt : g < p
  seat0 : 0 ≤ seat
  rest0 : 0 ≤ rest
def PenOk (p : Nat) (S : Store) : Prop := ∃ g cells seat rest, Pen p S g cells seat rest
theorem s_fresh {n p : Nat} {S : Store} {g : Nat} {cells : List Int} {seat rest : Int} (hp : Pen p S g cells seat rest) : Does (prog T (n + 1) f__law_fresh [.ref p] S) fun d S' => ∃ i, d = .int i ∧ 0 ≤ i ∧ Pen p S' g cells (seat + 1) rest ∧ Sam p S S' := by
  refine call_ok (c := d__law_fresh.fn) rfl rfl [some (.ref p), none, none, none, none, none, none, none] rfl ?_
  have i1 : ixF (.ref p) (.int 1) S = some (.int seat, S) := ix_lst hp.pen rfl
  have i0 : ixF (.ref p) (.int 0) S = some (.ref g, S) := ix_lst hp.pen rfl
  have l1 : putF (.ref p) (.int 1) (.int (seat + 1)) S = some (S.set p (.lst [.ref g, .int (seat + 1), .int rest])) := put_lst (j := 1) hp.pen rfl
  refine stp ?_
  simp [i1, i0]
  refine stp ?_
  simp [l1]
  have s1 : Sam p S (S.set p (.lst [.ref g, .int (seat + 1), .int rest]) ++ [.lst []]) := (Sam.set p S _).trans (Sam.new p _ _)
  have hl : (S.set p (.lst [.ref g, .int (seat + 1), .int rest]) ++ [.lst []])[S.length]? = some (.lst []) := by simp
  have hp1 : Pen p (S.set p (.lst [.ref g, .int (seat + 1), .int rest]) ++ [.lst []]) g cells (seat + 1) rest := ⟨by
    have := lt_of_get hp.pen
    rw [List.getElem?_append_left (by simp; exact this)]; simp [this], s1.keep _ _ (Nat.ne_of_lt hp.lt) hp.given, hp.lt, by have := hp.seat0; omega, hp.rest0⟩
  refine stp ?_
  simp
  generalize S.set p (.lst [.ref g, .int (seat + 1), .int rest]) ++ [.lst []] = S1 at *
  have e1 := ne_lists (ds := []) hp1.given hl
  have bl := b_lenL hp1.given
  simp only [List.length_map] at bl
  have hs := hp.seat0
  have key : ∃ cell : Int, (if cells = [] then Rs.ok (D.int 0) S1 else ((lift (bltF Blt.len [D.ref g] S1)).bind fun y S2 => lift (opF Op.mod (D.int seat) y S2)).bind fun y S2 => lift (ixF (D.ref g) y S2)) = .ok (.int cell) S1 := by
    by_cases hc : cells = []
    · exact ⟨0, if_pos hc⟩
    · rw [if_neg hc, bl, lift_some, okb, o_mod (by have := List.length_pos_iff.mpr hc; omega), lift_some, okb]
      have h0 : 0 ≤ seat % (cells.length : Int) := Int.emod_nonneg _ (by have := List.length_pos_iff.mpr hc; omega)
      have h1 : seat % (cells.length : Int) < cells.length := Int.emod_lt_of_pos _ (by have := List.length_pos_iff.mpr hc; omega)
      have h2 : (seat % (cells.length : Int)).toNat < cells.length := by omega
      refine ⟨cells[(seat % (cells.length : Int)).toNat], ?_⟩
      rw [ix_lst hp1.given (d := .int cells[(seat % (cells.length : Int)).toNat]) (by rw [atI_of h0]; simp [h2])]
      rfl
  obtain ⟨cell, key⟩ := key
  simp [e1, key]
  refine stp ?_
  have p18 : opF .pow (.int 10) (.int 18) S1 = some (.int (10 ^ 18), S1) := o_pow (by decide)
  simp [bl, p18]
  by_cases c1 : seat < cells.length ∧ 1000000000000000000 ≤ cell
  · simp [c1, p18]
    exact ⟨hp1, s1⟩
  · have hk : (if seat < cells.length then Rs.ok (D.bl (decide (1000000000000000000 ≤ cell))) S1 else Rs.ok (D.bl false) S1) = Rs.ok (D.bl false) S1 := by
      split
      · rw [decide_eq_false (fun z => c1 ⟨‹_›, z⟩)]
      · rfl
    simp [hk]
    refine stp ?_
    simp
    obtain ⟨pr, hpr, pr0, pr1⟩ : ∃ pr : Int, 2305843009213693951 = pr ∧ 0 < pr ∧ pr < 2 ^ 64 := ⟨_, rfl, by decide, by decide⟩
    rw [hpr]
    clear hpr
    refine stp ?_
    have m1 : opF .mul (.int cell) (.int 39373) S1 = some (.int (cell * 39373), S1) := o_mul (.inr (by decide))
    have m2 : opF .mul (.int 52013) (.int seat) S1 = some (.int (52013 * seat), S1) := o_mul (.inl (by decide))
    simp [m1, m2, o_mod pr0]
    refine stp ?_
    simp
    have q0 : 0 ≤ (cell * 39373 + 52013 * seat + 29) % pr := Int.emod_nonneg _ (by omega)
    have q1 : (cell * 39373 + 52013 * seat + 29) % pr < pr := Int.emod_lt_of_pos _ pr0
    generalize (cell * 39373 + 52013 * seat + 29) % pr = st0 at *
    refine stp ?_
    refine for_ok (rngD 0 6) (fun i ρ S => S1 = S ∧ ∃ (st fd : Int) (l : Option D), 0 ≤ st ∧ st < pr ∧ 0 ≤ fd ∧ ρ = [some (.ref p), some (.int cell), some (.int pr), some (.int st), some (.int fd), l, some (.int seat), some (.ref g)])
      (args := [.int 6]) (S1 := S1) (by simp) (by rw [turns_rng1 (by decide), rngD_len]; rfl) (fun i ρ S _ => nxt_rng1) ⟨rfl, st0, st0, none, q0, q1, q0, rfl⟩ ?_ ?_
    · rintro i x ρ _ hx ⟨rfl, st, fd, l, h1, h2, h3, rfl⟩
      rw [rngD_get] at hx
      split at hx
      · cases hx
        have hi : i < 6 := by assumption
        obtain ⟨k, hk, k0, k6⟩ : ∃ k : Int, 0 + (i : Int) = k ∧ 0 ≤ k ∧ k < 6 := ⟨_, rfl, by omega, by omega⟩
        rw [hk]
        refine ⟨_, bind_one, ?_⟩
        have m1 : opF .mul (.int st) (.int st) S1 = some (.int (st * st), S1) := o_mul (.inl (by omega))
        have m2 : ∀ j, opF .mul (.int 62089) (.int j) S1 = some (.int (62089 * j), S1) := fun j => o_mul (.inl (by decide))
        have m3 : ∀ j, opF .mul (.int (62089 * (k + 3))) (.int j) S1 = some (.int (62089 * (k + 3) * j), S1) := fun j => o_mul (.inl (by omega))
        have m4 : opF .mul (.int fd) (.int pr) S1 = some (.int (fd * pr), S1) := o_mul (.inr (by omega))
        refine stp ?_
        simp [m1, m2, m3, m4, o_mod pr0]
        refine ⟨_, ?_, ?_, ?_, rfl⟩
        · exact Int.emod_nonneg _ (by omega)
        · exact Int.emod_lt_of_pos _ pr0
        · have a := Int.emod_nonneg (st * st + 62089 * (k + 3) * (seat + 1) + cell) (b := pr) (by omega)
          have b := Int.mul_nonneg h3 (Int.le_of_lt pr0)
          omega
      · cases hx
    · rintro ρ _ ⟨rfl, st, fd, l, h1, h2, h3, rfl⟩
      refine stp ?_
      simp
      exact ⟨h3, hp1, s1⟩
theorem s_draw {n p : Nat} {S : Store} {b : Int} (h : PenOk p S) (hb : 0 < b) (hb2 : b < 2 ^ 64) : Does (prog T (n + 2) f__law_draw [.ref p, .int b] S) fun d S' => ∃ i, d = .int i ∧ 0 ≤ i ∧ i < b ∧ PenOk p S' ∧ Sam p S S' := by
  obtain ⟨g, cells, seat, rest, hp⟩ := h
  refine call_ok (c := d__law_draw.fn) rfl rfl [some (.ref p), some (.int b), none] rfl ?_
  have hbz : b.natAbs.log2 < 9000 := by
    by_cases h0 : b.natAbs = 0
    · rw [h0]; decide
    · have := Nat.log2_lt h0 (k := 9000) |>.mpr (Nat.lt_of_lt_of_le (by omega : b.natAbs < 2 ^ 64) (Nat.pow_le_pow_right (by decide : 0 < 2) (by decide : 64 ≤ 9000)))
      exact this
  have i2 : ixF (.ref p) (.int 2) S = some (.int rest, S) := ix_lst hp.pen rfl
  refine stp_nx [some (.ref p), some (.int b), none] (fun S1 => ∃ seat1 rest1, Pen p S1 g cells seat1 rest1 ∧ Sam p S S1) ?_ ?_
  · intro W hW
    by_cases c : rest < b
    · obtain ⟨d, S1, e, i, rfl, i0, hp1, s1⟩ := s_fresh (n := n) hp
      have l2 : putF (.ref p) (.int 2) (.int i) S1 = some (S1.set p (.lst [.ref g, .int (seat + 1), .int i])) := put_lst (j := 2) hp1.pen rfl
      have := lt_of_get hp1.pen
      have hp2 : Pen p (S1.set p (.lst [.ref g, .int (seat + 1), .int i])) g cells (seat + 1) i := ⟨by simp [this], (Sam.set p _ _).keep _ _ (Nat.ne_of_lt hp1.lt) hp1.given, hp1.lt, hp1.seat0, i0⟩
      simp [i2, c, e, l2]
      exact hW _ ⟨_, _, hp2, s1.trans (Sam.set p _ _)⟩
    · simp [i2, c]
      exact hW _ ⟨_, _, hp, Sam.refl _ _⟩
  rintro S1 ⟨seat1, rest1, hp1, s1⟩
  have i2 : ixF (.ref p) (.int 2) S1 = some (.int rest1, S1) := ix_lst hp1.pen rfl
  have l2 : putF (.ref p) (.int 2) (.int (rest1 / b)) S1 = some (S1.set p (.lst [.ref g, .int seat1, .int (rest1 / b)])) := put_lst (j := 2) hp1.pen rfl
  refine stp ?_
  simp [i2, o_mod hb]
  refine stp ?_
  simp [i2, o_div hb hbz, l2]
  refine ⟨Int.emod_nonneg _ (by omega), Int.emod_lt_of_pos _ hb, ?_, s1.trans (Sam.set p _ _)⟩
  have := lt_of_get hp1.pen
  exact ⟨g, cells, seat1, rest1 / b, by simp [this], (Sam.set p _ _).keep _ _ (Nat.ne_of_lt hp1.lt) hp1.given, hp1.lt, hp1.seat0, Int.ediv_nonneg hp1.rest0 (by omega)⟩
theorem PenOk.lt {p : Nat} {S : Store} (h : PenOk p S) : p < S.length := by
  obtain ⟨_, _, _, _, h⟩ := h
  exact lt_of_get h.pen
theorem PenOk.ext {p : Nat} {S S' : Store} (h : PenOk p S) (e : Ext S S') : PenOk p S' := by
  obtain ⟨g, cells, seat, rest, hp⟩ := h
  exact ⟨g, cells, seat, rest, e.get hp.pen, e.get hp.given, hp.lt, hp.seat0, hp.rest0⟩
theorem PenOk.put {p q : Nat} {S : Store} (h : PenOk p S) (l : p < q) (c : Cell) : PenOk p (S.set q c) := by
  obtain ⟨g, cells, seat, rest, hp⟩ := h
  have := hp.lt
  exact ⟨g, cells, seat, rest, by rw [List.getElem?_set_ne (by omega)]; exact hp.pen, by rw [List.getElem?_set_ne (by omega)]; exact hp.given, hp.lt, hp.seat0, hp.rest0⟩
theorem s_one_of {n p q : Nat} {S : Store} {ds : List D} (h : PenOk p S) (hq : S[q]? = some (.lst ds)) (ne : q ≠ p) (h1 : ds ≠ []) (h2 : ds.length < 2 ^ 62) : Does (prog T (n + 3) f__law_one_of [.ref p, .ref q] S) fun d S' => d ∈ ds ∧ PenOk p S' ∧ Sam p S S' := by
  refine call_ok (c := d__law_one_of.fn) rfl rfl [some (.ref p), some (.ref q)] rfl ?_
  have hl := List.length_pos_iff.mpr h1
  obtain ⟨d, S1, e, i, rfl, i0, i1, hp1, s1⟩ := s_draw (n := n) (b := ds.length) h (by omega) (by omega)
  have hq1 := s1.keep _ _ ne hq
  have hi : i.toNat < ds.length := by omega
  have x1 : ixF (.ref q) (.int i) S1 = some (ds[i.toNat], S1) := ix_lst hq1 (by rw [atI_of i0]; simp [hi])
  refine stp ?_
  simp [b_lenL hq, e, x1]
  exact ⟨hp1, s1⟩
theorem s_pen {n : Nat} (ns : List Int) : Does (prog T (n + 1) f__law_pen [.ref 0] [.ro (ns.map D.int)]) fun d S' => d = .ref 3 ∧ PenOk 3 S' ∧ S'[0]? = some (.ro (ns.map D.int)) := by
  refine Does.gen fun P hP => ?_
  refine call_ok (c := d__law_pen.fn) rfl rfl [some (.ref 0)] rfl ?_
  have c1 : cutF (.ref 0) none (some 63) [.ro (ns.map D.int)] = some (.ref 1, [.ro (ns.map D.int), .lst (cutD (ns.map D.int) none (some 63))]) := rfl
  have c2 : bltF .list [.ref 1] [.ro (ns.map D.int), .lst (cutD (ns.map D.int) none (some 63))] = some (.ref 2, [.ro (ns.map D.int), .lst (cutD (ns.map D.int) none (some 63)), .lst (cutD (ns.map D.int) none (some 63))]) := rfl
  obtain ⟨cs, hcs⟩ : ∃ cs : List Int, cutD (ns.map D.int) none (some 63) = cs.map D.int := ⟨(ns.drop (HT.sIx (ns.map D.int).length 0 none)).take (HT.sIx (ns.map D.int).length (ns.map D.int).length (some 63) - HT.sIx (ns.map D.int).length 0 none), by unfold DL.cutD; simp [List.map_take, List.map_drop]⟩
  simp [d__law_pen, c__law_pen, c1, c2]
  exact hP _ _ ⟨rfl, ⟨2, cs, 0, 0, rfl, by rw [hcs]; rfl, by decide, by decide, by decide⟩, rfl⟩
end Law
namespace Law
open PySem PySem.Spec PyProof.Rows L2 DL
theorem s_is_integer {n : Nat} {d : D} {S : Store} (h : (tyOf S d).isSome = true) : prog T (n + 1) f_is_integer [d] S = .ok (.bl d.isInt) S := by
  refine eqOf (call_ok (c := d_is_integer.fn) rfl rfl [some d] rfl ?_)
  refine stp ?_
  have e1 := isi_int h
  have e2 := isi_bool h
  cases d <;> simp [e1, e2] <;> simp [D.isInt, D.isBl]
theorem s_is_within {n : Nat} {d : D} {a b : Int} {S : Store} (h : (tyOf S d).isSome = true) : prog T (n + 2) f_is_within [d, .int a, .int b] S = .ok (.bl (whole d a b)) S := by
  refine eqOf (call_ok (c := d_is_within.fn) rfl rfl [some d, some (.int a), some (.int b)] rfl ?_)
  refine stp ?_
  have e := s_is_integer (n := n) h
  cases d with
  | int i => by_cases c : a ≤ i <;> simp [e, D.isInt, whole, c]
  | _ => simp [e, D.isInt, whole]
end Law
namespace Law
open PySem PySem.Spec PyProof.Rows L2 DL
def Vis (S : Store) (d : D) : Prop := (tyOf S d).isSome = true ∧ ∀ ds, d = .tup ds → ∀ e ∈ ds, (tyOf S e).isSome = true
theorem s_number {n : Nat} {d : D} {a b : Int} {S : Store} (h : (tyOf S d).isSome = true) : prog T (n + 1) f__law_is_number [d, .int a, .int b] S = .ok (.bl (whole d a b)) S := by
  refine eqOf (call_ok (c := d__law_is_number.fn) rfl rfl [some d, some (.int a), some (.int b)] rfl ?_)
  refine stp ?_
  have e1 := isi_int h
  have e2 := isi_bool h
  cases d with
  | int i => by_cases c : a ≤ i <;> simp [e1, e2, D.isInt, D.isBl, whole, c]
  | _ => simp [e1, e2, D.isInt, D.isBl, whole]
/-- what _law_required tells -/
def reqOut (r : D) (z : Str) : D := match r with
  | .tup [x] => .tup [.str "index", x]
  | _ => .tup [.str "told", .str z]
theorem ne_same {a : Str} {x : D} {S : Store} (h : (∃ z, x = .str z) ∨ x = .non ∨ ∃ i, x = .int i) : opF .ne (.tup [.str a, x]) (.tup [.str a, x]) S = some (.bl false, S) := by
  have e0 : eq0 S (.tup [.str a, x]) (.tup [.str a, x]) = none := rfl
  show (eqF S (.tup [.str a, x]) (.tup [.str a, x])).map _ = _
  unfold eqF
  rw [e0]
  rcases h with ⟨z, rfl⟩ | rfl | ⟨i, rfl⟩ <;> simp [eqFl, D.flat, D.v, flatEq, eqV]
end Law
namespace Law
open PySem PySem.Spec PyProof.Rows L2 DL
/-- a value that is asked -/
structure It (p : Nat) (S : Store) (d : D) : Prop where
  w : Wv p S 3 900000 d
  t : ∀ ds, d = .tup ds → ds.length ≤ 1001 ∧ ∀ e ∈ ds, Wv p S 2 700 e
theorem It.mono {p : Nat} {S S' : Store} {d : D} (h : It p S d) (s : Sam p S S') : It p S' d := ⟨h.w.mono s, fun ds e => ⟨(h.t ds e).1, fun x hx => ((h.t ds e).2 x hx).mono s⟩⟩
theorem It.vis {p : Nat} {S : Store} {d : D} (h : It p S d) : Vis S d := ⟨h.w.ty, fun ds e x hx => ((h.t ds e).2 x hx).ty⟩
theorem it_tup {p : Nat} {S : Store} {ds : List D} (h : ∀ e ∈ ds, Wv p S 2 700 e) (hl : ds.length ≤ 1001) : It p S (.tup ds) := by
  refine ⟨(wd_tup h).up (by omega) ?_, fun es e => ?_⟩
  · have := Nat.mul_le_mul_right (700 + 2) hl
    omega
  · cases e; exact ⟨hl, h⟩
theorem it_ref {p q : Nat} {S : Store} (h : Wv p S 3 900000 (.ref q)) : It p S (.ref q) := ⟨h, fun ds e => nomatch e⟩
theorem it_lst {p q : Nat} {S : Store} {ds : List D} (hq : q ≠ p) (c : S[q]? = some (.lst ds)) (h : ∀ e ∈ ds, Wv p S 2 700 e) (hl : ds.length ≤ 1001) : It p S (.ref q) := by
  refine it_ref ((wd_lst hq c h).up (by omega) ?_)
  have := Nat.mul_le_mul_right (700 + 2) hl
  omega
theorem it_flat {p : Nat} {S : Store} {d : D} (h : Wv p S 0 200 d) (f : d.isTup = false) : It p S d := ⟨h.up (by omega) (by omega), fun ds e => by subst e; cases f⟩
theorem wi {p : Nat} {S : Store} (i : Int) (h : i.natAbs < 2 ^ 160) : Wv p S 2 700 (.int i) := (wd_int h).up (by omega) (by omega)
/-- an odd one -/
def Odd (p : Nat) (S : Store) (d : D) : Prop := It p S d ∧ Wv p S 2 700 d
theorem Odd.mono {p : Nat} {S S' : Store} {d : D} (h : Odd p S d) (s : Sam p S S') : Odd p S' d := ⟨h.1.mono s, h.2.mono s⟩
theorem odd_flat {p : Nat} {S : Store} {d : D} (h : Wv p S 0 200 d) (f : d.isTup = false) : Odd p S d := ⟨it_flat h f, h.up (by omega) (by omega)⟩
theorem odd_int {p : Nat} {S : Store} (i : Int) (h : i.natAbs < 2 ^ 160) : Odd p S (.int i) := odd_flat (wd_int h) rfl
theorem odd_tup {p : Nat} {S : Store} {ds : List D} (h : ∀ e ∈ ds, Wv p S 0 200 e) (hl : ds.length ≤ 3) : Odd p S (.tup ds) := by
  refine ⟨it_tup (fun e he => (h e he).up (by omega) (by omega)) (by omega), (wd_tup h).up (by omega) ?_⟩
  have := Nat.mul_le_mul_right (200 + 2) hl
  omega
theorem s_odd {n p : Nat} {S : Store} (h : PenOk p S) : Does (prog T (n + 3) f__law_odd [.ref p] S) fun d S' => Odd p S' d ∧ PenOk p S' ∧ Sam p S S' := by
  refine Does.gen fun P hP => ?_
  refine call_ok (c := d__law_odd.fn) rfl rfl [some (.ref p), none] rfl ?_
  have hpl := h.lt
  have p40 : ∀ S, opF .pow (.int 10) (.int 40) S = some (.int (10 ^ 40), S) := fun S => o_pow (by decide)
  refine stp ?_
  let xs : List D := [.non, .bl true, .bl false, .int (-1), .int 0, .int 1, .int 2, .int 3, .int 5, .int 6, .int 7, .str "", .str "0", .str "a", .str "over", .tup [], .ref S.length, .ref (S.length + 1), .tup [.int 0], .tup [.int 1, .int 2]]
  let ys : List D := [.tup [.int 0, .int 1, .int 2], .int (10 ^ 40), .tup [.tup []], .ref (S.length + 3)]
  simp
  have g0 : (S ++ [.lst [], .dct [], .lst xs])[S.length]? = some (.lst []) := by simp
  have g1 : (S ++ [.lst [], .dct [], .lst xs])[S.length + 1]? = some (.dct []) := by simp
  have g2 : (S ++ [.lst [], .dct [], .lst xs])[S.length + 2]? = some (.lst xs) := by simp
  have sA : Sam p S (S ++ [.lst [], .dct [], .lst xs]) := Sam.new _ _ _
  have pA : PenOk p (S ++ [.lst [], .dct [], .lst xs]) := h.ext (Sam.new _ _ _)
  have lA : (S ++ [Cell.lst [], Cell.dct [], Cell.lst xs]).length = S.length + 3 := by simp
  have eX : S ++ [.lst [], .dct [], .lst xs] = S ++ [.lst [], .dct [], .lst [.non, .bl true, .bl false, .int (-1), .int 0, .int 1, .int 2, .int 3, .int 5, .int 6, .int 7, .str "", .str "0", .str "a", .str "over", .tup [], .ref S.length, .ref (S.length + 1), .tup [.int 0], .tup [.int 1, .int 2]]] := rfl
  rw [← eX]
  clear eX
  generalize S ++ [.lst [], .dct [], .lst xs] = S1 at *
  have gq : (S1 ++ [.lst [.int 1]])[S.length + 2]? = some (.lst xs) := new_keep g2
  refine stp (set_addL (i := S.length + 2) (xs := xs) (ys := ys) (S1 := S1 ++ [.lst [.int 1]]) (by simp) (by simp [-Int.reducePow, p40, ys, lA]) gq (by simp [xs, ys, line]) ?_)
  have g3 : (S1 ++ [.lst [.int 1]])[S.length + 3]? = some (.lst [.int 1]) := by rw [← lA]; exact new_get
  have gA := new_keep (R := [.lst [.int 1]]) g0
  have gB := new_keep (R := [.lst [.int 1]]) g1
  have sB : Sam p S (S1 ++ [.lst [.int 1]]) := sA.trans (Sam.new _ _ _)
  have pB : PenOk p (S1 ++ [.lst [.int 1]]) := pA.ext (Sam.new _ _ _)
  have lB : (S1 ++ [Cell.lst [.int 1]]).length = S.length + 4 := by rw [List.length_append, lA]; rfl
  generalize S1 ++ [.lst [.int 1]] = S2 at *
  have gC : (S2 ++ [.lst ys] ++ [.lst (xs ++ ys)])[S.length + 5]? = some (.lst (xs ++ ys)) := by
    have := new2_get (S := S2) (a := .lst ys) (b := .lst (xs ++ ys))
    rw [lB] at this
    exact this
  have sC := Sam.new2 p S2 (.lst ys) (.lst (xs ++ ys))
  have pC : PenOk p (S2 ++ [.lst ys] ++ [.lst (xs ++ ys)]) := pB.ext (Sam.new2 _ _ _ _)
  rw [lB]
  have keep : ∀ {i c}, i ≠ p → S2[i]? = some c → (S2 ++ [.lst ys] ++ [.lst (xs ++ ys)])[i]? = some c := fun hi hc => sC.keep _ _ hi hc
  generalize S2 ++ [.lst ys] ++ [.lst (xs ++ ys)] = S3 at *
  obtain ⟨d, S4, e4, i, rfl, i0, i1, hp4, s4⟩ := s_draw (n := n) (b := 24) pC (by decide) (by decide)
  have lxy : (xs ++ ys).length = 24 := rfl
  have hi : i.toNat < (xs ++ ys).length := by rw [lxy]; omega
  have g4 := s4.keep _ _ (by omega) gC
  have ix : ixF (.ref (S.length + 5)) (.int i) S4 = some ((xs ++ ys)[i.toNat], S4) := ix_lst g4 (by rw [atI_of i0]; simp [hi])
  have bl : bltF .len [.ref (S.length + 5)] S3 = some (.int 24, S3) := by
    have := b_lenL gC
    rw [lxy] at this
    exact this
  have hm : (xs ++ ys)[i.toNat] ∈ xs ++ ys := List.getElem_mem _
  generalize (xs ++ ys)[i.toNat] = d at *
  have hd : Odd p S4 d := by
    have k0 := s4.keep _ _ (by omega) (keep (by omega) gA)
    have k1 := s4.keep _ _ (by omega) (keep (by omega) gB)
    have k3 := s4.keep _ _ (by omega) (keep (by omega) g3)
    have nil : ∀ e ∈ ([] : List D), Wv p S4 0 200 e := fun e he => absurd he List.not_mem_nil
    simp only [xs, ys, List.mem_append, List.mem_cons, List.not_mem_nil, or_false] at hm
    rcases hm with (rfl | rfl | rfl | rfl | rfl | rfl | rfl | rfl | rfl | rfl | rfl | rfl | rfl | rfl | rfl | rfl | rfl | rfl | rfl | rfl) | rfl | rfl | rfl | rfl
    · exact odd_flat wd_non rfl
    · exact odd_flat (wd_bl _) rfl
    · exact odd_flat (wd_bl _) rfl
    · exact odd_int _ (by decide)
    · exact odd_int _ (by decide)
    · exact odd_int _ (by decide)
    · exact odd_int _ (by decide)
    · exact odd_int _ (by decide)
    · exact odd_int _ (by decide)
    · exact odd_int _ (by decide)
    · exact odd_int _ (by decide)
    · exact odd_flat (wd_str (by decide +kernel)) rfl
    · exact odd_flat (wd_str (by decide +kernel)) rfl
    · exact odd_flat (wd_str (by decide +kernel)) rfl
    · exact odd_flat (wd_str (by decide +kernel)) rfl
    · exact odd_tup nil (by decide)
    · have w := wd_lst (p := p) (q := S.length) (n := 0) (b := 200) (by omega) k0 nil
      exact ⟨it_ref (w.up (by omega) (by simp)), w.up (by omega) (by simp)⟩
    · have w := wd_dct0 (p := p) (q := S.length + 1) (by omega) k1
      exact ⟨it_ref (w.up (by omega) (by omega)), w.up (by omega) (by omega)⟩
    · exact odd_tup (fun e he => by rw [List.mem_singleton.mp he]; exact wd_int (by decide)) (by decide)
    · exact odd_tup (fun e he => by simp only [List.mem_cons, List.not_mem_nil, or_false] at he; rcases he with rfl | rfl <;> exact wd_int (by decide)) (by decide)
    · exact odd_tup (fun e he => by simp only [List.mem_cons, List.not_mem_nil, or_false] at he; rcases he with rfl | rfl | rfl <;> exact wd_int (by decide)) (by decide)
    · exact odd_int _ (by decide)
    · have w0 : ∀ e ∈ [D.tup []], Wv p S4 1 3 e := fun e he => by
        rw [List.mem_singleton.mp he]
        exact (wd_tup nil).up (by omega) (by simp)
      exact ⟨it_tup (fun e he => (w0 e he).up (by omega) (by omega)) (by decide), (wd_tup w0).up (by omega) (by simp)⟩
    · have w := wd_lst (p := p) (q := S.length + 3) (n := 0) (b := 200) (by omega) k3 (fun e he => by rw [List.mem_singleton.mp he]; exact wd_int (by decide))
      exact ⟨it_ref (w.up (by omega) (by simp)), w.up (by omega) (by simp)⟩
  simp [bl, e4, ix]
  exact hP _ _ ⟨hd, hp4, ((sB.trans sC)).trans s4⟩
end Law
namespace Law
open PySem PySem.Spec PyProof.Rows L2 DL
def atD (ds : List D) (i : Int) (th : D) : List D := cutD ds none (some i) ++ [th] ++ cutD ds (some (i + 1)) none
theorem atD_len {ds : List D} {i : Int} {th : D} (h0 : 0 ≤ i) (h1 : i < ds.length) : (atD ds i th).length = ds.length := by
  unfold atD DL.cutD HT.sIx
  simp only [List.length_append, List.length_take, List.length_drop, List.length_cons, List.length_nil]
  have a : ¬ i < 0 := by omega
  have b : ¬ i + 1 < 0 := by omega
  simp only [a, b, if_false]
  omega
theorem atD_mem {ds : List D} {i : Int} {th e : D} (h : e ∈ atD ds i th) : e ∈ ds ∨ e = th := by
  unfold atD at h
  simp only [List.mem_append, List.mem_singleton] at h
  rcases h with (h | h) | h
  · exact .inl (mem_cut h)
  · exact .inr h
  · exact .inl (mem_cut h)
theorem s_at {n : Nat} {ds : List D} {i : Int} {th : D} {S : Store} (hl : ds.length ≤ 2000) : prog T (n + 1) f__law_at [.tup ds, .int i, th] S = .ok (.tup (atD ds i th)) S := by
  refine eqOf (call_ok (c := d__law_at.fn) rfl rfl [some (.tup ds), some (.int i), some th] rfl ?_)
  have c1 : cutF (.tup ds) none (some i) S = some (.tup (cutD ds none (some i)), S) := rfl
  have c2 : cutF (.tup ds) (some (i + 1)) none S = some (.tup (cutD ds (some (i + 1)) none), S) := rfl
  have l1 := len_cut (ds := ds) (a := none) (b := some i)
  have l2 := len_cut (ds := ds) (a := some (i + 1)) (b := none)
  have t1 : opF .add (.tup (cutD ds none (some i))) (.tup [th]) S = some (.tup (cutD ds none (some i) ++ [th]), S) := o_addT (by show _ + 1 ≤ 16777216; omega)
  have t2 : opF .add (.tup (cutD ds none (some i) ++ [th])) (.tup (cutD ds (some (i + 1)) none)) S = some (.tup (atD ds i th), S) := o_addT (by rw [List.length_append]; show _ + 1 + _ ≤ 16777216; omega)
  refine stp ?_
  simp [c1, c2, t1, t2]
end Law

set_option maxHeartbeats 1000000
namespace Law
open PySem PySem.Spec PyProof.Rows L2 DL
/-! ### rules -/
def RB (k : Nat) (ds : List D) : Prop := ds.length = k ∧ ∀ d ∈ ds, ∃ i : Int, d = .int i ∧ 0 ≤ i ∧ i ≤ 5
theorem RB.nil : RB 0 [] := ⟨rfl, fun d h => absurd h List.not_mem_nil⟩
theorem RB.snoc {k : Nat} {ds : List D} (h : RB k ds) {i : Int} (h0 : 0 ≤ i) (h1 : i ≤ 5) : RB (k + 1) (ds ++ [.int i]) := by
  refine ⟨by rw [List.length_append, h.1]; rfl, fun d hd => ?_⟩
  rcases List.mem_append.mp hd with hd | hd
  · exact h.2 d hd
  · exact ⟨i, List.mem_singleton.mp hd, h0, h1⟩
theorem RB.set {k : Nat} {ds : List D} (h : RB k ds) (j : Nat) {i : Int} (h0 : 0 ≤ i) (h1 : i ≤ 5) : RB k (ds.set j (.int i)) := by
  refine ⟨by rw [List.length_set, h.1], fun d hd => ?_⟩
  rcases List.mem_or_eq_of_mem_set hd with hd | rfl
  · exact h.2 d hd
  · exact ⟨i, rfl, h0, h1⟩
theorem RB.wv {k p : Nat} {S : Store} {ds : List D} (h : RB k ds) : ∀ e ∈ ds, Wv p S 2 700 e := fun e he => by
  obtain ⟨i, rfl, h1, h2⟩ := h.2 e he
  exact wi i (by omega)
/-- the action of a named table -/
def nm (w : Str) (k o t : Nat) : Int := if w = "over" then (if k = 1 then 1 else 3) else if w = "key" then (if o = 2 then 0 else 1) else if o = 2 ∨ t = 2 then 0 else if k = 2 then 3 else 2
def namedTo (w : Str) (n : Nat) : List D := (List.range n).map fun i => .int (nm w (i / 9) (i / 3 % 3) (i % 3))
theorem nm_le (w : Str) (k o t : Nat) : 0 ≤ nm w k o t ∧ nm w k o t ≤ 5 := by
  unfold nm
  repeat' split
  all_goals exact ⟨by decide, by decide⟩
theorem named_rb (w : Str) : ∀ n, RB n (namedTo w n)
  | 0 => RB.nil
  | n + 1 => by
    have := (named_rb w n).snoc (nm_le w (n / 9) (n / 3 % 3) (n % 3)).1 (nm_le w (n / 9) (n / 3 % 3) (n % 3)).2
    unfold namedTo at *
    rw [List.range_succ, List.map_append]
    exact this
theorem named_succ {w : Str} {i j l : Nat} (hi : i < 3) (hj : j < 3) (hl : l < 3) : namedTo w (9 * i + 3 * j + (l + 1)) = namedTo w (9 * i + 3 * j + l) ++ [.int (nm w i j l)] := by
  unfold namedTo
  rw [show 9 * i + 3 * j + (l + 1) = (9 * i + 3 * j + l) + 1 by omega, List.range_succ, List.map_append]
  simp only [List.map_cons, List.map_nil]
  rw [show (9 * i + 3 * j + l) / 9 = i by omega, show (9 * i + 3 * j + l) / 3 % 3 = j by omega, show (9 * i + 3 * j + l) % 3 = l by omega]
theorem o_inS {w a b c : Str} {S : Store} : opF .isIn (.str w) (.tup [.str a, .str b, .str c]) S = some (.bl (decide (w = a ∨ w = b ∨ w = c)), S) := by
  have e : inF S (.str w) (.tup [.str a, .str b, .str c]) = some (decide (w = a ∨ w = b ∨ w = c)) := by
    simp only [inF, items, List.all_cons, List.all_nil, D.flat, Bool.and_self, if_true, List.map_cons, List.map_nil, D.v]
    unfold inV
    simp only [List.any_cons, List.any_nil, eqV, Bool.or_false]
    congr 1
    rw [Bool.eq_iff_iff]
    simp only [Bool.or_eq_true, beq_iff_eq, decide_eq_true_eq]
    exact ⟨fun h => h.imp Eq.symm (fun h => h.imp Eq.symm Eq.symm), fun h => h.imp Eq.symm (fun h => h.imp Eq.symm Eq.symm)⟩
  show (inF S (.str w) (.tup [.str a, .str b, .str c])).map (fun k => (D.bl k, S)) = _
  rw [e]
  rfl
theorem o_notInS {w a b c : Str} {S : Store} : opF .notIn (.str w) (.tup [.str a, .str b, .str c]) S = some (.bl (!decide (w = a ∨ w = b ∨ w = c)), S) := by
  obtain ⟨k, e1, e2⟩ := Option.map_eq_some_iff.mp (show (inF S (.str w) (.tup [.str a, .str b, .str c])).map (fun k => (D.bl k, S)) = some (.bl (decide (w = a ∨ w = b ∨ w = c)), S) from o_inS)
  have e3 : k = decide (w = a ∨ w = b ∨ w = c) := D.bl.inj (congrArg Prod.fst e2)
  show (inF S (.str w) (.tup [.str a, .str b, .str c])).map (fun k => (D.bl (!k), S)) = _
  rw [e1, e3]
  rfl
theorem s_deed {n : Nat} {w : Str} {k o t : Nat} {S : Store} : prog T (n + 1) f_deed_by_name [.str w, .int k, .int o, .int t] S = .ok (.int (nm w k o t)) S := by
  refine eqOf (call_ok (c := d_deed_by_name.fn) rfl rfl [some (.str w), some (.int k), some (.int o), some (.int t)] rfl ?_)
  have ko : ¬ (Str.ofString "key" = Str.ofString "over") := by decide
  refine stp ?_
  by_cases c1 : w = "over"
  · by_cases c2 : (k : Int) = 1
    · have c2' : k = 1 := by omega
      subst c1; simp [c2', nm]
    · have c2' : ¬ k = 1 := by omega
      subst c1; simp [c2, c2', nm]
  · simp [c1]
    refine stp ?_
    by_cases c2 : w = "key"
    · by_cases c3 : (o : Int) = 2
      · have c3' : o = 2 := by omega
        subst c2; simp [c3', nm, ko]
      · have c3' : ¬ o = 2 := by omega
        subst c2; simp [c3, c3', nm, ko]
    · simp [c2]
      refine stp ?_
      by_cases c3 : o = 2 ∨ t = 2
      · have c3' : (2 : Int) = o ∨ (2 : Int) = t := by omega
        simp [c3', nm, c1, c2, c3]
      · have c3' : ¬ ((2 : Int) = o ∨ (2 : Int) = t) := by omega
        by_cases c4 : (k : Int) = 2
        · have c4' : k = 2 := by omega
          simp [c3', nm, c1, c2, c3, c4']
        · have c4' : ¬ k = 2 := by omega
          simp [c3', nm, c1, c2, c3, c4, c4']
theorem s_named_rules {n : Nat} {w : Str} {S : Store} (hw : w = "over" ∨ w = "key" ∨ w = "row") : Does (prog T (n + 2) f_named_rules [.str w] S) fun d S' => d = .tup (namedTo w 27) ∧ Ext S S' := by
  refine Does.gen fun P hP => ?_
  refine call_ok (c := d_named_rules.fn) rfl rfl [some (.str w), none, none, none, none] rfl ?_
  have is := isi_str (S := S) (d := .str w) rfl
  have dw : decide (w = "over" ∨ w = "key" ∨ w = "row") = true := decide_eq_true hw
  refine stp ?_
  simp [is, D.isStr, o_notInS, hw]
  refine stp ?_
  simp
  have x0 : Ext S (S ++ [.lst []]) := Sam.new _ _ _
  have g0 : (S ++ [.lst []])[S.length]? = some (.lst []) := new_get
  generalize S ++ [.lst []] = S1 at *
  refine stp ?_
  obtain ⟨I, hI⟩ := inv_of fun (i : Nat) (ρ : EnvD) (R : Store) => Ext S R ∧ R[S.length]? = some (.lst (namedTo w (9 * i))) ∧ ∃ a b c, ρ = [some (.str w), some (.ref S.length), a, b, c]
  refine for_ok (rngD 0 3) I (args := [.int 3]) (S1 := S1) (by simp) (by rw [turns_rng1 (by decide), rngD_len]; rfl) (fun _ _ _ _ => nxt_rng1) ((hI _ _ _).mpr ⟨x0, g0, none, none, none, rfl⟩) ?_ ?_
  · intro i x ρ R hx hi
    obtain ⟨xR, gR, a, b, c, rfl⟩ := (hI _ _ _).mp hi
    have hi3 : i < 3 := by rw [← rngD_len (a := 0) (n := 3)]; exact lt_of_get hx
    rw [rngD_get, if_pos hi3] at hx
    cases hx
    refine ⟨_, bind_one, stp ?_⟩
    obtain ⟨J, hJ⟩ := inv_of fun (j : Nat) (ρ : EnvD) (R : Store) => Ext S R ∧ R[S.length]? = some (.lst (namedTo w (9 * i + 3 * j))) ∧ ∃ b c, ρ = [some (.str w), some (.ref S.length), some (.int (0 + (i : Int))), b, c]
    refine for_ok (rngD 0 3) J (args := [.int 3]) (S1 := R) (by simp) (by rw [turns_rng1 (by decide), rngD_len]; rfl) (fun _ _ _ _ => nxt_rng1) ((hJ _ _ _).mpr ⟨xR, gR, _, _, rfl⟩) ?_ ?_
    · intro j x ρ R hx hj
      obtain ⟨xR, gR, b, c, rfl⟩ := (hJ _ _ _).mp hj
      have hj3 : j < 3 := by rw [← rngD_len (a := 0) (n := 3)]; exact lt_of_get hx
      rw [rngD_get, if_pos hj3] at hx
      cases hx
      refine ⟨_, bind_one, ?_⟩
      have C := comp_pure (F := prog T (n + 1)) (own := [4]) (k := .rng1) (src := [.cst (.int 3)]) (t := .one 4) (c := .cst (.bl true)) (e := .call f_deed_by_name [.var 0, .var 2, .var 3, .var 4])
        (ρ := [some (.str w), some (.ref S.length), some (.int (0 + (i : Int))), some (.int (0 + (j : Int))), c]) (S := R) (S1 := R) (args := [.int 3]) (rngD 0 3) (fun _ => true) (fun x => match x with
          | .int t => .int (nm w i j t.toNat)
          | _ => .non) (by simp) (by rw [turns_rng1 (by decide), rngD_len]; rfl) (fun l R' _ => nxt_rng1) (by rw [rngD_len]; decide) (fun x hx => by
          unfold rngD at hx
          obtain ⟨l, hl, rfl⟩ := List.mem_map.mp hx
          refine ⟨_, bind_one, fun R' _ => ?_⟩
          have e := s_deed (n := n) (w := w) (k := i) (o := j) (t := l) (S := R')
          simp [e])
      have eN : namedTo w (9 * i + 3 * (j + 1)) = namedTo w (9 * i + 3 * j) ++ [.int (nm w i j 0), .int (nm w i j 1), .int (nm w i j 2)] := by
        have a := named_succ (w := w) hi3 hj3 (l := 0) (by decide)
        have b := named_succ (w := w) hi3 hj3 (l := 1) (by decide)
        have c := named_succ (w := w) hi3 hj3 (l := 2) (by decide)
        rw [show 9 * i + 3 * (j + 1) = 9 * i + 3 * j + (2 + 1) by omega, c, b, a]
        simp
      have C' : ev (prog T (n + 1)) (.comp [4] .rng1 [.cst (.int 3)] (.one 4) (.cst (.bl true)) (.call f_deed_by_name [.var 0, .var 2, .var 3, .var 4])) [some (.str w), some (.ref S.length), some (.int (0 + (i : Int))), some (.int (0 + (j : Int))), c] R = .ok (.ref R.length) (R ++ [.lst [.int (nm w i j 0), .int (nm w i j 1), .int (nm w i j 2)]]) := C
      have il := isLst_of gR
      have gR' : (R ++ [.lst [.int (nm w i j 0), .int (nm w i j 1), .int (nm w i j 2)]])[S.length]? = some (.lst (namedTo w (9 * i + 3 * j))) := new_keep gR
      have ex := extend_ok gR' (new_get (S := R) (c := Cell.lst [D.int (nm w i j 0), D.int (nm w i j 1), D.int (nm w i j 2)])) (by rw [(named_rb w _).1]; show _ + 3 ≤ 16777216; omega)
      have hlt := lt_of_get gR'
      have fin := (hJ (j + 1) [some (.str w), some (.ref S.length), some (.int (0 + (i : Int))), some (.int (0 + (j : Int))), c] (List.set (R ++ [Cell.lst [D.int (nm w i j 0), D.int (nm w i j 1), D.int (nm w i j 2)]]) S.length (Cell.lst (namedTo w (9 * i + 3 * j) ++ [D.int (nm w i j 0), D.int (nm w i j 1), D.int (nm w i j 2)])))).mpr
        ⟨(xR.trans (Sam.new _ _ _)).put (Nat.le_refl _) _, by rw [eN, List.getElem?_set_self hlt], _, _, rfl⟩
      refine stp ?_
      simp only [run_ex, ev_mth, ev_var, List.set_cons_succ, List.set_cons_zero, List.getElem?_cons_zero, List.getElem?_cons_succ, okb, il, if_true, evs_cons, evs_nil, C', ex, lift_some]
      simp only [Does_ok, done, turnOf_nx]
      exact ⟨_, rfl, fin⟩
    · intro ρ R hj
      obtain ⟨xR, gR, b, c, rfl⟩ := (hJ _ _ _).mp hj
      rw [rngD_len] at gR
      simp only [done, turnOf_nx]
      exact ⟨_, rfl, (hI _ _ _).mpr ⟨xR, by rw [show 9 * (i + 1) = 9 * i + 3 * 3 by omega]; exact gR, _, _, _, rfl⟩⟩
  · intro ρ R hi
    obtain ⟨xR, gR, a, b, c, rfl⟩ := (hI _ _ _).mp hi
    rw [rngD_len] at gR
    simp [b_tupL gR]
    exact hP _ _ ⟨rfl, xR⟩
theorem s_named {n : Nat} {S : Store} (w : Str) : Does (prog T (n + 1) f__law_named [.str w] S) fun d S' => d = .tup (namedTo w 27) ∧ Ext S S' := by
  refine Does.gen fun P hP => ?_
  refine call_ok (c := d__law_named.fn) rfl rfl [some (.str w), none, none, none, none] rfl ?_
  refine stp ?_
  simp
  refine stp ?_
  obtain ⟨I, hI⟩ := inv_of fun (i : Nat) (ρ : EnvD) (R : Store) => Ext S R ∧ ∃ a b c, R[S.length]? = some (.lst (namedTo w (9 * i))) ∧ ρ = [some (.str w), some (.ref S.length), a, b, c]
  refine for_ok (F := prog T n) (([0, 1, 2] : List Int).map D.int) I (args := [.tup [.int 0, .int 1, .int 2]]) (S1 := S ++ [.lst []]) (by simp) rfl (fun _ _ _ _ => rfl) ((hI _ _ _).mpr ⟨Sam.new _ _ _, none, none, none, new_get, rfl⟩) ?_ ?_
  · intro i x ρ R hxi h
    obtain ⟨hs, a, b, c, hc, rfl⟩ := (hI _ _ _).mp h
    have hi3 : i < 3 := lt_of_get hxi
    have ex : x = .int (i : Int) := by
      match i, hi3 with
      | 0, _ => cases hxi; rfl
      | 1, _ => cases hxi; rfl
      | 2, _ => cases hxi; rfl
    subst ex
    refine ⟨_, bind_one, stp ?_⟩
    obtain ⟨J, hJ⟩ := inv_of fun (j : Nat) (ρ : EnvD) (R : Store) => Ext S R ∧ ∃ b c, R[S.length]? = some (.lst (namedTo w (9 * i + 3 * j))) ∧ ρ = [some (.str w), some (.ref S.length), some (.int (i : Int)), b, c]
    refine for_ok (F := prog T n) (([0, 1, 2] : List Int).map D.int) J (args := [.tup [.int 0, .int 1, .int 2]]) (S1 := R) (by simp) rfl (fun _ _ _ _ => rfl) ((hJ _ _ _).mpr ⟨hs, b, c, hc, rfl⟩) ?_ ?_
    · intro j x ρ R hxj h
      obtain ⟨hs, b, c, hc, rfl⟩ := (hJ _ _ _).mp h
      have hj3 : j < 3 := lt_of_get hxj
      have ex : x = .int (j : Int) := by
        match j, hj3 with
        | 0, _ => cases hxj; rfl
        | 1, _ => cases hxj; rfl
        | 2, _ => cases hxj; rfl
      subst ex
      refine ⟨_, bind_one, stp ?_⟩
      obtain ⟨L, hL⟩ := inv_of fun (l : Nat) (ρ : EnvD) (R : Store) => Ext S R ∧ ∃ c, R[S.length]? = some (.lst (namedTo w (9 * i + 3 * j + l))) ∧ ρ = [some (.str w), some (.ref S.length), some (.int (i : Int)), some (.int (j : Int)), c]
      refine for_ok (F := prog T n) (([0, 1, 2] : List Int).map D.int) L (args := [.tup [.int 0, .int 1, .int 2]]) (S1 := R) (by simp) rfl (fun _ _ _ _ => rfl) ((hL _ _ _).mpr ⟨hs, c, hc, rfl⟩) ?_ ?_
      · intro l x ρ R hx h
        obtain ⟨hs, c, hc, rfl⟩ := (hL _ _ _).mp h
        have hl3 : l < 3 := lt_of_get hx
        have ex : x = .int (l : Int) := by
          match l, hl3 with
          | 0, _ => cases hx; rfl
          | 1, _ => cases hx; rfl
          | 2, _ => cases hx; rfl
        subst ex
        refine ⟨_, bind_one, ?_⟩
        have ap : ∀ v : Int, mthF .append (.ref S.length) [.int v] R = some (.non, R.set S.length (.lst (namedTo w (9 * i + 3 * j + l) ++ [.int v]))) := fun v => append_ok hc (by rw [(named_rb w _).1]; show _ < 16777216; omega)
        have il := isLst_of hc
        have hcl := lt_of_get hc
        have fin : ∀ v : Int, v = nm w i j l → L (l + 1) [some (D.str w), some (.ref S.length), some (.int (i : Int)), some (.int (j : Int)), some (.int (l : Int))] (R.set S.length (.lst (namedTo w (9 * i + 3 * j + l) ++ [.int v]))) :=
          fun v hv => (hL _ _ _).mpr ⟨hs.put (Nat.le_refl _) _, _, by rw [named_succ hi3 hj3 hl3, hv, List.getElem?_set_self hcl], rfl⟩
        refine stp ?_
        have ko : ¬ (Str.ofString "key" = Str.ofString "over") := by decide
        by_cases c1 : w = "over"
        · by_cases c2 : (i : Int) = 1
          · have h := fin 1 (by have : i = 1 := by omega
                                simp [nm, c1, this])
            subst c1; simp [c2, il, ap]; simpa [c2] using h
          · have h := fin 3 (by have : ¬ i = 1 := by omega
                                simp [nm, c1, this])
            subst c1; simp [c2, il, ap]; exact h
        · by_cases c2 : w = "key"
          · by_cases c3 : (j : Int) = 2
            · have h := fin 0 (by have : j = 2 := by omega
                                  simp [nm, c2, ko, this])
              subst c2; simp [ko, c3, il, ap]; simpa [c3] using h
            · have h := fin 1 (by have : ¬ j = 2 := by omega
                                  simp [nm, c2, ko, this])
              subst c2; simp [ko, c3, il, ap]; exact h
          · by_cases c3 : (j : Int) = 2
            · have h := fin 0 (by have : j = 2 := by omega
                                  simp [nm, c1, c2, this])
              simp [c1, c2, c3, il, ap]; simpa [c3] using h
            · by_cases c4 : (l : Int) = 2
              · have h := fin 0 (by have : l = 2 := by omega
                                    simp [nm, c1, c2, this])
                simp [c1, c2, c3, c4, il, ap]; simpa [c4] using h
              · by_cases c5 : (i : Int) = 2
                · have h := fin 3 (by have h1 : ¬ j = 2 := by omega
                                      have h2 : ¬ l = 2 := by omega
                                      have h3 : i = 2 := by omega
                                      simp [nm, c1, c2, h1, h2, h3])
                  simp [c1, c2, c3, c4, c5, il, ap]; simpa [c5] using h
                · have h := fin 2 (by have h1 : ¬ j = 2 := by omega
                                      have h2 : ¬ l = 2 := by omega
                                      have h3 : ¬ i = 2 := by omega
                                      simp [nm, c1, c2, h1, h2, h3])
                  simp [c1, c2, c3, c4, c5, il, ap]; exact h
      · intro ρ R h
        obtain ⟨hs, c, hc, rfl⟩ := (hL _ _ _).mp h
        simp only [done, turnOf_nx]
        exact ⟨_, rfl, (hJ _ _ _).mpr ⟨hs, _, _, by rw [show 9 * i + 3 * (j + 1) = 9 * i + 3 * j + 3 by omega]; exact hc, rfl⟩⟩
    · intro ρ R h
      obtain ⟨hs, b, c, hc, rfl⟩ := (hJ _ _ _).mp h
      simp only [done, turnOf_nx]
      exact ⟨_, rfl, (hI _ _ _).mpr ⟨hs, _, _, _, by rw [show 9 * (i + 1) = 9 * i + 3 * 3 by omega]; exact hc, rfl⟩⟩
  · intro ρ R h
    obtain ⟨hs, a, b, c, hc, rfl⟩ := (hI _ _ _).mp h
    refine stp ?_
    simp [b_tupL hc]
    exact hP _ _ ⟨rfl, hs⟩
end Law

set_option maxHeartbeats 1000000
namespace Law
open PySem PySem.Spec PyProof.Rows L2 DL
theorem s_any_rules {n p : Nat} {S : Store} (h : PenOk p S) : Does (prog T (n + 3) f__law_any_rules [.ref p] S) fun d S' => ∃ ds, d = .tup ds ∧ RB 27 ds ∧ PenOk p S' ∧ Sam p S S' := by
  refine Does.gen fun P hP => ?_
  refine call_ok (c := d__law_any_rules.fn) rfl rfl [some (.ref p), none] rfl ?_
  refine stp ?_
  obtain ⟨I, hI⟩ := inv_of fun (i : Nat) (acc : List D) (R : Store) => RB i acc ∧ PenOk p R ∧ Sam p S R
  have c : Does (ev (prog T (n + 2)) (.comp [1] .rng1 [.cst (.int 27)] (.one 1) (.cst (.bl true)) (.call f__law_draw [.var 0, .cst (.int 6)])) [some (.ref p), none] S) fun d S' => ∃ q ds, d = .ref q ∧ S'[q]? = some (.lst ds) ∧ RB 27 ds ∧ PenOk p S' ∧ Sam p S S' := by
    refine comp_ok (rngD 0 27) I (args := [.int 27]) (S1 := S) (by simp) (by rw [turns_rng1 (by decide), rngD_len]; rfl) (fun _ _ _ _ _ => nxt_rng1) ((hI _ _ _).mpr ⟨RB.nil, h.ext (Sam.new _ _ _), Sam.new _ _ _⟩) ?_ ?_
    · intro i x acc R hx hc hi
      obtain ⟨ha, hp, hs⟩ := (hI _ _ _).mp hi
      have hi27 : i < 27 := by rw [← rngD_len (a := 0) (n := 27)]; exact lt_of_get hx
      refine ⟨_, bind_one, ?_⟩
      obtain ⟨d, S2, e, v, rfl, v0, v1, hp2, hs2⟩ := s_draw (n := n) (b := 6) hp (by decide) (by decide)
      have hn : S.length ≠ p := by have := h.lt; omega
      have hc2 := hs2.keep _ _ hn hc
      simp [e]
      refine ⟨hc2, by rw [ha.1]; show i < 16777216; omega, (hI _ _ _).mpr ⟨ha.snoc v0 (by omega), hp2.put h.lt _, (hs.trans hs2).put (Nat.le_refl _) _⟩⟩
    · intro acc R hc hi
      obtain ⟨ha, hp, hs⟩ := (hI _ _ _).mp hi
      exact ⟨_, acc, rfl, hc, (rngD_len (a := 0) (n := 27)) ▸ ha, hp, hs⟩
  obtain ⟨d, S1, e, q, ds, rfl, hq, hi, hp1, hs⟩ := c
  simp [e, b_tupL hq]
  exact hP _ _ ⟨ds, rfl, hi, hp1, hs⟩
theorem s_rules {n p : Nat} {S : Store} (h : PenOk p S) : Does (prog T (n + 4) f__law_rules [.ref p] S) fun d S' => ∃ ds, d = .tup ds ∧ RB 27 ds ∧ PenOk p S' ∧ Sam p S S' := by
  refine Does.gen fun P hP => ?_
  refine call_ok (c := d__law_rules.fn) rfl rfl [some (.ref p), none, none, none] rfl ?_
  have hpl := h.lt
  have h1 : PenOk p (S ++ [.lst [.str "over", .str "key", .str "row"]]) := h.ext (Sam.new _ _ _)
  obtain ⟨d, S1, e1, hd, hp1, s1⟩ := s_one_of (n := n) (q := S.length) (ds := [.str "over", .str "key", .str "row"]) h1 (by simp) (by omega) (by simp) (by simp)
  obtain ⟨w, rfl⟩ : ∃ w, d = .str w := by
    simp only [List.mem_cons, List.not_mem_nil, or_false] at hd
    rcases hd with rfl | rfl | rfl <;> exact ⟨_, rfl⟩
  obtain ⟨d, S2, e2, rfl, s2⟩ := s_named (n := n + 2) (S := S1) w
  have hi := named_rb w 27
  generalize namedTo w 27 = ds at *
  have hp2 : PenOk p (S2 ++ [.lst ds]) := (hp1.ext s2).ext (Sam.new _ _ _)
  obtain ⟨d, S3, e3, o, rfl, o0, o1, hp3, s3⟩ := s_draw (n := n + 1) (b := 4) hp2 (by decide) (by decide)
  have l1 := s1.len
  have l2 := s2.len
  simp only [List.length_append, List.length_cons, List.length_nil] at l1
  have hpl2 : p < S2.length := by omega
  have hc : S3[S2.length]? = some (.lst ds) := s3.keep _ _ (by omega) (by simp)
  have sS : Sam p S S3 := (((Sam.new _ _ _).trans s1).trans (s2.fresh (Nat.le_refl _))).trans ((Sam.new _ _ _).trans s3)
  refine stp ?_
  simp [e1, e2]
  refine stp ?_
  simp [e3]
  refine stp ?_
  by_cases c3 : o = 3
  · obtain ⟨d, S4, e4, ds, rfl, hi, hp4, s4⟩ := s_any_rules (n := n) hp3
    simp [c3, e4]
    exact hP _ _ ⟨_, rfl, hi, hp4, sS.trans s4⟩
  · simp [c3]
    refine stp ?_
    obtain ⟨I, hI⟩ := inv_of fun (i : Nat) (ρ : EnvD) (R : Store) => PenOk p R ∧ Sam p S R ∧ (∃ ds, RB 27 ds ∧ R[S2.length]? = some (.lst ds)) ∧ ∃ l, ρ = [some (.ref p), some (.ref S2.length), some (.int o), l]
    refine for_ok (rngD 0 o.toNat) I (args := [.int o]) (S1 := S3) (by simp) (by rw [turns_rng1 (by omega), rngD_len]) (fun i ρ S _ => nxt_rng1) ((hI _ _ _).mpr ⟨hp3, sS, ⟨ds, hi, hc⟩, none, rfl⟩) ?_ ?_
    · intro i x ρ R hx hv
      obtain ⟨hp, hs, ⟨ds, hi, hc⟩, l, rfl⟩ := (hI _ _ _).mp hv
      refine ⟨_, bind_one, ?_⟩
      obtain ⟨d, R1, e1, v, rfl, v0, v1, hp1, r1⟩ := s_draw (n := n + 1) (b := 6) hp (by decide) (by decide)
      obtain ⟨d, R2, e2, u, rfl, u0, u1, hp2, r2⟩ := s_draw (n := n + 1) (b := 27) hp1 (by decide) (by decide)
      have hc2 : R2[S2.length]? = some (.lst ds) := r2.keep _ _ (by omega) (r1.keep _ _ (by omega) hc)
      have pt := put_lst (v := .int v) (j := u.toNat) hc2 (ixN_of u0 (by rw [hi.1]; exact u1))
      have hlt := lt_of_get hc2
      have fin := (hI (i + 1) [some (.ref p), some (.ref S2.length), some (.int o), some x] (R2.set S2.length (.lst (ds.set u.toNat (.int v))))).mpr ⟨hp2.put hpl2 _, ((hs.trans r1).trans r2).put (by omega) _, ⟨ds.set u.toNat (.int v), hi.set _ v0 (by omega), by simp [hlt]⟩, _, rfl⟩
      simp [e1, e2, pt]
      exact fin
    · intro ρ R hv
      obtain ⟨hp, hs, ⟨ds, hi, hc⟩, l, rfl⟩ := (hI _ _ _).mp hv
      simp [b_tupL hc]
      exact hP _ _ ⟨_, rfl, hi, hp, hs⟩
/-! ### what is required -/
def okI (ds : List D) (i : Nat) : Bool := match ds[i]? with
  | some d => whole d 0 5
  | none => true
def FaultT (ds : List D) (r : D) : Prop := (ds.length = 27 ∧ First (okI ds) ds.length r) ∨ (¬ ds.length = 27 ∧ r = .tup [.non])
def Fault (d r : D) : Prop := match d with
  | .tup ds => FaultT ds r
  | _ => r = .tup [.non]
theorem Fault.uniq {d r s : D} (h : Fault d r) (g : Fault d s) : r = s := by
  cases d with
  | tup ds =>
    rcases h with ⟨h1, h3⟩ | ⟨h1, h2⟩ <;> rcases g with ⟨g1, g3⟩ | ⟨g1, g2⟩
    · exact h3.uniq g3
    · exact absurd h1 g1
    · exact absurd g1 h1
    · rw [h2, g2]
  | _ => exact Eq.trans h (Eq.symm g)
theorem Fault.form {d r : D} (h : Fault d r) : r = .non ∨ r = .tup [.non] ∨ ∃ i : Nat, i < 27 ∧ r = .tup [.int i] := by
  cases d with
  | tup ds =>
    rcases h with ⟨h1, h3⟩ | ⟨h1, h2⟩
    · rcases h3 with ⟨i, a, _, _, e⟩ | ⟨_, e⟩
      · exact .inr (.inr ⟨i, by omega, e⟩)
      · exact .inl e
    · exact .inr (.inl h2)
  | _ => exact .inr (.inl h)
theorem s_is_deed {n : Nat} {d : D} {S : Store} (h : (tyOf S d).isSome = true) : prog T (n + 3) f_is_deed [d] S = .ok (.bl (whole d 0 5)) S := by
  refine eqOf (call_ok (c := d_is_deed.fn) rfl rfl [some d] rfl ?_)
  have e := s_is_within (n := n) (a := 0) (b := 5) h
  refine stp ?_
  simp [e]
theorem s_rules_fault {n : Nat} {d : D} {S : Store} (h : Vis S d) : Does (prog T (n + 4) f_rules_fault [d] S) fun r S' => Fault d r ∧ S' = S := by
  obtain ⟨h1, h2⟩ := h
  refine Does.gen fun P hP => ?_
  refine call_ok (c := d_rules_fault.fn) rfl rfl [some d, none, none] rfl ?_
  have ei := isi_tuple h1
  refine stp ?_
  cases d with
  | tup ds =>
    by_cases c : ds.length = 27
    · have c1 : (ds.length : Int) = 27 := by omega
      simp [ei, D.isTup, c1]
      refine stp ?_
      obtain ⟨I, hI⟩ := inv_of fun (i : Nat) (ρ : EnvD) (R : Store) => R = S ∧ (∀ j, j < i → okI ds j = true) ∧ ∃ x y, ρ = [some (.tup ds), x, y]
      refine for_exit (enumD ds) I (args := [.tup ds]) (S1 := S) (by simp) turns_enumT (fun _ _ _ _ => nxt_enumT) ((hI _ _ _).mpr ⟨rfl, fun _ h => absurd h (Nat.not_lt_zero _), none, none, rfl⟩) ?_ ?_
      · intro i x ρ R hx hi
        obtain ⟨rfl, ho, a, b, rfl⟩ := (hI _ _ _).mp hi
        obtain ⟨e, he, rfl⟩ := enum_of hx
        refine ⟨_, rfl, ?_⟩
        have hlt := lt_of_get he
        have en := s_is_deed (n := n) (d := e) (S := R) (h2 ds rfl e (List.mem_of_getElem? he))
        have eo : okI ds i = whole e 0 5 := by simp [okI, he]
        rw [← eo] at en
        refine stp ?_
        by_cases ck : okI ds i = true
        · simp [en, ck]
          exact (hI _ _ _).mpr ⟨rfl, fun k hk => by
            rcases Nat.lt_succ_iff_lt_or_eq.mp hk with hk | rfl
            · exact ho k hk
            · exact ck, _, _, rfl⟩
        · simp [en, ck]
          exact hP _ _ ⟨.inl ⟨c, .inl ⟨i, hlt, ho, Bool.eq_false_iff.mpr ck, rfl⟩⟩, rfl⟩
      · intro ρ R hi
        obtain ⟨rfl, ho, a, b, rfl⟩ := (hI _ _ _).mp hi
        rw [enumD_len] at ho
        simp
        exact hP _ _ ⟨.inl ⟨c, .inr ⟨ho, rfl⟩⟩, rfl⟩
    · have c1 : ¬ (ds.length : Int) = 27 := by omega
      simp [ei, D.isTup, c1]
      exact hP _ _ ⟨.inr ⟨c, rfl⟩, rfl⟩
  | _ =>
    simp [ei, D.isTup]
    exact hP _ _ ⟨rfl, rfl⟩
def reqD (d r : D) (S : Store) : Rs D := match r with
  | .tup [x] => .exc "InvalidRules" [("index", x)] S
  | _ => .ok d S
theorem s_require {n : Nat} {d : D} {S : Store} (h : Vis S d) : ∃ r, Fault d r ∧ prog T (n + 5) f_require_rules [d] S = reqD d r S := by
  obtain ⟨r, S', e, hf, eS⟩ := s_rules_fault (n := n) h
  rw [eS] at e
  refine ⟨r, hf, ?_⟩
  rw [call_eq (c := d_require_rules.fn) rfl rfl [some d, none] rfl]
  simp only [d_require_rules, c_require_rules, Df.fn, runs_cons, run_set, ev_call, evs_cons, evs_nil, ev_var]
  rcases hf.form with rfl | rfl | ⟨i, _, rfl⟩ <;> simp [e, reqD, runs_cons]
theorem s_required {n : Nat} {d : D} {S : Store} {z : Str} (h : Vis S d) (hz : bltF .repr [d] S = some (.str z, S)) : ∃ r, Fault d r ∧ prog T (n + 6) f__law_required [d] S = .ok (reqOut r z) S := by
  obtain ⟨r, hf, e⟩ := s_require (n := n) h
  refine ⟨r, hf, ?_⟩
  rw [call_eq (c := d__law_required.fn) rfl rfl [some d, none, none] rfl]
  simp only [d__law_required, c__law_required, Df.fn, runs_cons, run_try, Tb.e]
  rcases hf.form with rfl | rfl | ⟨i, _, rfl⟩ <;> simp [e, reqD, reqOut, hz, tryF, Tb.fin, Hd.run, htF, hpsF, hpF, runs_cons, line]
end Law

set_option maxHeartbeats 1000000
namespace Law
open PySem PySem.Spec PyProof.Rows L2 DL
def wrongF (x : D) : Bool := match x with
  | .tup [_, d] => !whole d 0 5
  | _ => false
def wrongG (x : D) : D := match x with
  | .tup [i, _] => i
  | _ => .non
theorem wrong_first (ds : List D) : (((enumD ds).filter wrongF).map wrongG = [] ∧ ∀ j, j < ds.length → okI ds j = true) ∨
    ∃ (i : Nat) (rest : List D), ((enumD ds).filter wrongF).map wrongG = .int i :: rest ∧ i < ds.length ∧ (∀ j, j < i → okI ds j = true) ∧ okI ds i = false := by
  have at_ : ∀ (j : Nat) (x : D), (enumD ds)[j]? = some x → wrongF x = !okI ds j ∧ wrongG x = .int j := fun j x hx => by
    obtain ⟨d, hd, rfl⟩ := enum_of hx
    exact ⟨by simp [wrongF, okI, hd], rfl⟩
  cases e : (enumD ds).filter wrongF with
  | nil =>
    refine .inl ⟨rfl, fun j hj => ?_⟩
    have hx : (enumD ds)[j]? = some ((enumD ds)[j]'(by rw [enumD_len]; exact hj)) := List.getElem?_eq_getElem _
    have h1 := List.filter_eq_nil_iff.mp e _ (List.mem_of_getElem? hx)
    rw [(at_ j _ hx).1] at h1
    simpa using h1
  | cons x xs =>
    obtain ⟨l1, l2, e1, h1, h2, _⟩ := List.filter_eq_cons_iff.mp e
    have hx : (enumD ds)[l1.length]? = some x := by rw [e1]; simp
    obtain ⟨a, b⟩ := at_ _ _ hx
    refine .inr ⟨l1.length, xs.map wrongG, by rw [List.map_cons, b], ?_, fun j hj => ?_, ?_⟩
    · have := lt_of_get hx
      rw [enumD_len] at this
      exact this
    · have hy : (enumD ds)[j]? = some l1[j] := by rw [e1, List.getElem?_append_left hj]; simp
      have h3 := h1 _ (List.getElem_mem (l := l1) hj)
      rw [(at_ j _ hy).1] at h3
      simpa using h3
    · rw [a] at h2
      simpa using h2
theorem s_due {n : Nat} {d : D} {S : Store} {z : Str} (h : Vis S d) (hz : ∀ R, Ext S R → bltF .repr [d] R = some (.str z, R)) : Does (prog T (n + 2) f__law_due [d] S) fun o S' => ∃ r, Fault d r ∧ o = reqOut r z ∧ Ext S S' := by
  obtain ⟨h1, h2⟩ := h
  refine Does.gen fun P hP => ?_
  refine call_ok (c := d__law_due.fn) rfl rfl [some d, none, none, none] rfl ?_
  have ei := isi_tuple h1
  refine stp ?_
  cases d with
  | tup ds =>
    by_cases c : ds.length = 27
    · have c1 : (ds.length : Int) = 27 := by omega
      simp [ei, D.isTup, c1]
      have ty : ∀ R, Ext S R → ∀ e ∈ ds, (tyOf R e).isSome = true := fun R x0 e he => by
        have := h2 ds rfl e he
        cases e with
        | ref q =>
          simp only [tyOf] at this ⊢
          split at this
          · rename_i e1; rw [x0.get e1]; rfl
          · rename_i e1; rw [x0.get e1]; rfl
          · cases this
        | _ => exact this
      have C := comp_pure (F := prog T (n + 1)) (own := [2, 3]) (k := .enum) (src := [.var 0]) (t := .many [2, 3]) (c := .not (.call f__law_is_number [.var 3, .cst (.int 0), .cst (.int 5)])) (e := .var 2)
        (ρ := [some (.tup ds), none, none, none]) (S := S) (S1 := S) (args := [.tup ds]) (enumD ds) wrongF wrongG (by simp) turns_enumT (fun i R _ => nxt_enumT) (by rw [enumD_len, c]; decide) (fun x hx => by
          obtain ⟨i, hi⟩ := List.mem_iff_getElem?.mp hx
          obtain ⟨e, he, rfl⟩ := enum_of hi
          refine ⟨_, rfl, fun R hR => ?_⟩
          have en := s_number (n := n) (d := e) (a := 0) (b := 5) (S := R) (ty R hR e (List.mem_of_getElem? he))
          refine ⟨?_, fun _ => ?_⟩
          · simp [en, wrongF]
          · simp [wrongG])
      have wf := wrong_first ds
      generalize ((enumD ds).filter wrongF).map wrongG = W at *
      have g1 : (S ++ [.lst W] ++ [.lst []])[S.length]? = some (.lst W) := new_keep new_get
      have g2 : (S ++ [.lst W] ++ [.lst []])[S.length + 1]? = some (.lst []) := new2_get
      have nn := ne_nil g1 g2
      have sN := Sam.new2 S.length S (.lst W) (.lst [])
      have l2 : (S ++ [Cell.lst W]).length = S.length + 1 := by simp
      refine stp ?_
      rw [run_set, C, okb]
      simp only [Does_ok, List.set_cons_succ, List.set_cons_zero]
      refine stp ?_
      simp only [run_ret, ev_ifx, ev_op, ev_var, List.getElem?_cons_zero, List.getElem?_cons_succ, okb, ev_lst, evs_nil, List.length_nil, Nat.zero_le, if_true, l2, nn, lift_some, tr_bl]
      have hz2 := hz _ sN
      generalize S ++ [.lst W] ++ [.lst []] = S2 at *
      rcases wf with ⟨rfl, hall⟩ | ⟨i, rest, rfl, hi, hb, hbad⟩
      · simp [hz2]
        exact hP _ _ ⟨.non, .inl ⟨c, .inr ⟨hall, rfl⟩⟩, rfl, sN⟩
      · have ix : ixF (.ref S.length) (.int 0) S2 = some (.int i, S2) := ix_lst g1 (by rw [DL.atI_of (by decide)]; rfl)
        simp [ix]
        exact hP _ _ ⟨.tup [.int i], .inl ⟨c, .inl ⟨i, hi, hb, hbad, rfl⟩⟩, rfl, sN⟩
    · have c1 : ¬ (ds.length : Int) = 27 := by omega
      simp [ei, D.isTup, c1]
      exact hP _ _ ⟨.tup [.non], .inr ⟨c, rfl⟩, rfl, Sam.refl _ _⟩
  | _ =>
    simp [ei, D.isTup]
    exact hP _ _ ⟨.tup [.non], rfl, rfl, Sam.refl _ _⟩
/-! ### words -/
def isName (d : D) : Bool := match d with
  | .str w => decide (w = "over" ∨ w = "key" ∨ w = "row")
  | _ => false
theorem repr_rb {ds : List D} (h : RB 27 ds) : ∃ z, ∀ S, bltF .repr [.tup ds] S = some (.str z, S) := by
  have w : Wv 0 [] 3 900000 (.tup ds) := (it_tup (p := 0) (S := []) h.wv (by rw [h.1]; decide)).w
  obtain ⟨z, hz⟩ := w.repr (by omega) (by decide)
  exact ⟨z, fun S => hz S ⟨fun i c _ e => by simp at e, Nat.zero_le _⟩⟩
theorem s_word_name {n : Nat} {w : Str} {S : Store} {zz : Str} (hw : w = "over" ∨ w = "key" ∨ w = "row") (hz : ∀ R, bltF .repr [.tup (namedTo w 27)] R = some (.str zz, R)) : Does (prog T (n + 3) f__law_word [.str w] S) fun o S' => o = .tup [.str "told", .str zz] ∧ Ext S S' := by
  refine Does.gen fun P hP => ?_
  obtain ⟨d, S1, e, rfl, x1⟩ := s_named_rules (n := n) (S := S) hw
  refine call_ok (c := d__law_word.fn) rfl rfl [some (.str w), none, none] rfl ?_
  refine stp ?_
  rw [run_try]
  simp [Tb.e, e, tryF, Tb.fin]
  simp [hz]
  exact hP _ _ ⟨rfl, x1⟩
theorem s_word_no {n : Nat} {d : D} {S : Store} {z : Str} (hty : (tyOf S d).isSome = true) (hn : isName d = false) (hz : bltF .repr [d] S = some (.str z, S)) : prog T (n + 3) f__law_word [d] S = .ok (.tup [.str "unknown", .str z]) S := by
  have er : reprF S d = some z := by
    have h : (reprF S d).map (fun x => (D.str x, S)) = some (.str z, S) := hz
    obtain ⟨y, e1, e2⟩ := Option.map_eq_some_iff.mp h
    rw [e1]
    exact congrArg some (D.str.inj (congrArg Prod.fst e2))
  have is := isi_str hty
  have e : prog T (n + 2) f_named_rules [d] S = .exc "UnknownWord" [("value", d)] S := by
    rw [call_eq (c := d_named_rules.fn) rfl rfl [some d, none, none, none, none] rfl]
    simp only [d_named_rules, c_named_rules, Df.fn]
    rw [runs_cons]
    cases d with
    | str w =>
      have hn' : ¬ (w = "over" ∨ w = "key" ∨ w = "row") := of_decide_eq_false hn
      simp [is, D.isStr, o_notInS, hn']
    | _ => simp [is, D.isStr]
  rw [call_eq (c := d__law_word.fn) rfl rfl [some d, none, none] rfl]
  simp only [d__law_word, c__law_word, Df.fn, runs_cons, run_try, Tb.e]
  simp [e, tryF, Hd.run, htF, hpsF, hpF, er, line, List.lookup]
theorem s_rules_with {n : Nat} {ds : List D} {i : Int} {th : D} {S : Store} (hl : ds.length ≤ 2000) : prog T (n + 1) f_rules_with [.tup ds, .int i, th] S = .ok (.tup (atD ds i th)) S := by
  refine eqOf (call_ok (c := d_rules_with.fn) rfl rfl [some (.tup ds), some (.int i), some th] rfl ?_)
  have c1 : cutF (.tup ds) none (some i) S = some (.tup (DL.cutD ds none (some i)), S) := rfl
  have c2 : cutF (.tup ds) (some (i + 1)) none S = some (.tup (DL.cutD ds (some (i + 1)) none), S) := rfl
  have l1 := len_cut (ds := ds) (a := none) (b := some i)
  have l2 := len_cut (ds := ds) (a := some (i + 1)) (b := none)
  have t1 : opF .add (.tup (DL.cutD ds none (some i))) (.tup [th]) S = some (.tup (DL.cutD ds none (some i) ++ [th]), S) := o_addT (by show _ + 1 ≤ 16777216; omega)
  have t2 : opF .add (.tup (DL.cutD ds none (some i) ++ [th])) (.tup (DL.cutD ds (some (i + 1)) none)) S = some (.tup (atD ds i th), S) := o_addT (by rw [List.length_append]; show _ + 1 + _ ≤ 16777216; omega)
  refine stp ?_
  simp [c1, c2, t1, t2]
end Law

set_option maxHeartbeats 1000000
namespace Law
open PySem PySem.Spec PyProof.Rows L2 DL
theorem s_law (ns : List Int) : Does (prog T 8 f_law [.ref 0] [.ro (ns.map D.int)]) fun d S' => d = .bl true := by
  refine Does.gen fun P hP => ?_
  refine call_ok (c := d_law.fn) rfl rfl [some (.ref 0), none, none, none, none, none, none, none, none, none, none, none] rfl ?_
  obtain ⟨d, S1, e1, rfl, hp1, h0⟩ := s_pen (n := 6) ns
  refine stp ?_
  simp [e1]
  obtain ⟨I, hI⟩ := inv_of fun (i : Nat) (ρ : EnvD) (R : Store) => PenOk 3 R ∧ ∃ l2 l3 l4 l5 l6 l7 l8 l9 l10 l11, ρ = [some (.ref 0), some (.ref 3), l2, l3, l4, l5, l6, l7, l8, l9, l10, l11]
  refine stp ?_
  refine for_ok (rngD 0 6) I (args := [.int 6]) (S1 := S1) (by simp) (by rw [turns_rng1 (by decide), rngD_len]; rfl) (fun i ρ S _ => nxt_rng1) ((hI _ _ _).mpr ⟨hp1, _, _, _, _, _, _, _, _, _, _, rfl⟩) ?_ ?_
  · intro i x ρ R hx hv
    obtain ⟨hp, l2, l3, l4, l5, l6, l7, l8, l9, l10, l11, rfl⟩ := (hI _ _ _).mp hv
    refine ⟨_, bind_one, ?_⟩
    -- rules
    obtain ⟨d, R1, c1, rs, rfl, hrs, hp1, _⟩ := s_rules (n := 3) hp
    refine stp ?_
    simp [c1]
    -- the value
    have hw9 : rs.length = 27 := hrs.1
    obtain ⟨tl, htl⟩ : ∃ tl, DL.cutD rs (some 1) none = tl := ⟨_, rfl⟩
    have q1 : ∀ R, cutF ((.tup rs)) (some 1) none R = some (.tup tl, R) := fun R => by rw [← htl]; rfl
    have q2 : ∀ R, opF .add ((.tup rs)) (.tup [.int 0]) R = some (.tup (rs ++ [.int 0]), R) := fun R => o_addT (by rw [hw9]; decide)
    have q3 : ∀ R, bltF .list [(.tup rs)] R = some (.ref R.length, R ++ [.lst rs]) := fun R => rfl
    have ltl : tl.length ≤ 27 := by rw [← htl, ← hw9]; exact len_cut
    have wtl : ∀ {p S}, ∀ e ∈ tl, Wv p S 2 700 e := fun e he => hrs.wv e (mem_cut (by rw [htl]; exact he))
    have hp3 : PenOk 3 (R1 ++ [.lst rs]) := hp1.ext (Sam.new _ _ _)
    have g3 : (R1 ++ [.lst rs])[R1.length]? = some (.lst rs) := new_get
    have hl1 := hp1.lt
    obtain ⟨od, R3, c3, hod, hp4, s4⟩ := s_odd (n := 4) hp3
    have g4 := s4.keep _ _ (by omega) g3
    have hl4 := hp4.lt
    let xs : List D := [(.tup rs), (.tup rs), .tup tl, .tup (rs ++ [.int 0]), .ref R1.length, od]
    have hp5 : PenOk 3 (R3 ++ [.lst xs]) := hp4.ext (Sam.new _ _ _)
    obtain ⟨val, R4, c4, hval, hp6, s6⟩ := s_one_of (n := 4) (q := R3.length) (ds := xs) hp5 (by simp [xs]) (by omega) (by simp [xs]) (by simp [xs])
    have sA : Sam 3 R3 R4 := (Sam.new 3 R3 [.lst xs]).trans s6
    have hit : It 3 R4 val := by
      simp only [xs, List.mem_cons, List.not_mem_nil, or_false] at hval
      rcases hval with rfl | rfl | rfl | rfl | rfl | rfl
      · exact it_tup hrs.wv (by omega)
      · exact it_tup hrs.wv (by omega)
      · exact it_tup wtl (by omega)
      · refine it_tup (fun e he => ?_) (by simp [hw9])
        rcases List.mem_append.mp he with he | he
        · exact hrs.wv e he
        · rw [List.mem_singleton.mp he]; exact wi _ (by decide)
      · exact it_lst (by omega) (sA.keep _ _ (by omega) g4) hrs.wv (by omega)
      · exact (hod.mono sA).1
    simp only [xs] at c4
    refine stp ?_
    simp [q1, q2, q3, c3, c4]
    -- turns
    have hl6 := hp6.lt
    have hp7 : PenOk 3 (R4 ++ [.lst [.int 0, .int 1, .int 2]]) := hp6.ext (Sam.new _ _ _)
    obtain ⟨d, R5, c5, hd, hp8, s8⟩ := s_one_of (n := 4) (q := R4.length) (ds := [.int 0, .int 1, .int 2]) hp7 (by simp) (by omega) (by simp) (by simp)
    obtain ⟨m, rfl, m0, m2⟩ : ∃ m : Int, d = .int m ∧ 0 ≤ m ∧ m ≤ 2 := by
      simp only [List.mem_cons, List.not_mem_nil, or_false] at hd
      rcases hd with rfl | rfl | rfl <;> exact ⟨_, rfl, by decide, by decide⟩
    have hit5 := hit.mono ((Sam.new 3 R4 [.lst [.int 0, .int 1, .int 2]]).trans s8)
    refine stp ?_
    obtain ⟨J, hJ⟩ := inv_of fun (i : Nat) (ρ : EnvD) (R : Store) => PenOk 3 R ∧ ∃ v k5 k11, It 3 R v ∧ ρ = [some (.ref 0), some (.ref 3), some x, some (.tup rs), some v, k5, l6, l7, l8, l9, l10, k11]
    refine for_ok' (rngD 0 m.toNat) J (args := [.int m]) (S1 := R5) (by simp [c5]) (by rw [turns_rng1 (by omega), rngD_len]) (fun i ρ S _ => nxt_rng1) ((hJ _ _ _).mpr ⟨hp8, _, _, _, hit5, rfl⟩) ?_ ?_
    · intro j y ρ R6 hy hj
      obtain ⟨hp, v, k5, k11, hv, rfl⟩ := (hJ _ _ _).mp hj
      refine ⟨_, bind_one, ?_⟩
      have it := isi_tuple hv.w.ty
      refine stp ?_
      cases v with
      | tup ds =>
        obtain ⟨dl, dw⟩ := hv.t ds rfl
        by_cases c : 1 < (ds.length : Int)
        · obtain ⟨od, R7, e7, hod, hp7, r7⟩ := s_odd (n := 4) hp
          have hl7 := hp7.lt
          let ys : List D := [od, .int 6, .int (-1), .int 5, .bl true, .non]
          have hp8 : PenOk 3 (R7 ++ [.lst ys]) := hp7.ext (Sam.new _ _ _)
          obtain ⟨th, R8, e8, hth, hp9, r8⟩ := s_one_of (n := 4) (q := R7.length) (ds := ys) hp8 (by simp [ys]) (by omega) (by simp [ys]) (by simp [ys])
          have rA : Sam 3 R7 R8 := (Sam.new 3 R7 [.lst ys]).trans r8
          have wth : Wv 3 R8 2 700 th := by
            simp only [ys, List.mem_cons, List.not_mem_nil, or_false] at hth
            rcases hth with rfl | rfl | rfl | rfl | rfl | rfl
            · exact (hod.mono rA).2
            · exact wi _ (by decide)
            · exact wi _ (by decide)
            · exact wi _ (by decide)
            · exact (wd_bl _).up (by omega) (by omega)
            · exact wd_non.up (by omega) (by omega)
          obtain ⟨d, R9, e9, i9, rfl, i0, i1, hp10, r9⟩ := s_draw (n := 5) (b := ds.length) hp9 (by omega) (by omega)
          have ea := s_at (n := 6) (ds := ds) (i := i9) (th := th) (S := R9) (by omega)
          have rr := (r7.trans rA).trans r9
          have hit9 : It 3 R9 (.tup (atD ds i9 th)) := it_tup (fun e he => by
            rcases atD_mem he with he | rfl
            · exact (dw e he).mono rr
            · exact wth.mono r9) (by rw [atD_len i0 i1]; exact dl)
          simp only [ys] at e8
          simp [it, D.isTup, c]
          refine stp ?_
          simp [e7, e8]
          simp [e9, ea]
          exact (hJ _ _ _).mpr ⟨hp10, _, _, _, hit9, rfl⟩
        · simp [it, D.isTup, c]
          exact (hJ _ _ _).mpr ⟨hp, _, _, _, hv, rfl⟩
      | _ =>
        simp [it, D.isTup]
        exact (hJ _ _ _).mpr ⟨hp, _, _, _, hv, rfl⟩
    intro ρ R6 hj
    obtain ⟨hp9, v, k5, k11, hv, rfl⟩ := (hJ _ _ _).mp hj
    clear hj hJ J
    -- what is told of it
    obtain ⟨z, hz⟩ := hv.w.repr (by omega) (by decide)
    have hz0 := hz R6 (Sam.refl _ _)
    obtain ⟨r, hf, e2⟩ := s_required (n := 1) hv.vis hz0
    obtain ⟨o, R7, e3, r', hf', rfl, x7⟩ := s_due (n := 5) (z := z) hv.vis (fun R hR => hz R (hR.fresh (by have := hp9.lt; omega)))
    obtain rfl := hf.uniq hf'
    have hz7 := hz R7 (x7.fresh (by have := hp9.lt; omega))
    have ne : opF .ne (reqOut r z) (reqOut r z) R7 = some (.bl false, R7) := by
      rcases hf.form with rfl | rfl | ⟨i, _, rfl⟩
      · exact ne_same (.inl ⟨_, rfl⟩)
      · exact ne_same (.inr (.inl rfl))
      · exact ne_same (.inr (.inr ⟨_, rfl⟩))
    generalize reqOut r z = out at *
    have hp10 := hp9.ext x7
    refine stp ?_
    simp [hz0]
    refine stp ?_
    simp [e2, e3, ne, hz7]
    -- a word
    obtain ⟨od, R8, c8, hod, hp11, s8⟩ := s_odd (n := 4) hp10
    have hl8 := hp11.lt
    let ws : List D := [.str "over", .str "key", .str "row", .str "Over", .str "rows", .str "", .str "over ", od]
    have hp12 : PenOk 3 (R8 ++ [.lst ws]) := hp11.ext (Sam.new _ _ _)
    obtain ⟨wd, R9, c9, hwd, hp13, s9⟩ := s_one_of (n := 4) (q := R8.length) (ds := ws) hp12 (by simp [ws]) (by omega) (by simp [ws]) (by simp [ws])
    have sB : Sam 3 R8 R9 := (Sam.new 3 R8 [.lst ws]).trans s9
    have hw : It 3 R9 wd := by
      have hs : ∀ x : Str, (reprText x).length ≤ 200 → It 3 R9 (.str x) := fun x h => it_flat (wd_str h) rfl
      simp only [ws, List.mem_cons, List.not_mem_nil, or_false] at hwd
      rcases hwd with rfl | rfl | rfl | rfl | rfl | rfl | rfl | rfl
      · exact hs _ (by decide +kernel)
      · exact hs _ (by decide +kernel)
      · exact hs _ (by decide +kernel)
      · exact hs _ (by decide +kernel)
      · exact hs _ (by decide +kernel)
      · exact hs _ (by decide +kernel)
      · exact hs _ (by decide +kernel)
      · exact (hod.mono sB).1
    obtain ⟨zw, hzw⟩ := hw.w.repr (by omega) (by decide)
    have hz9 := hzw R9 (Sam.refl _ _)
    simp only [ws] at c9
    refine stp ?_
    simp [c8, c9]
    refine stp ?_
    simp [hz9]
    have is := isi_str hw.w.ty
    refine stp_nx' (fun ρ' R' => PenOk 3 R' ∧ ∃ due, ρ' = [some (.ref 0), some (.ref 3), some x, some (.tup rs), some v, k5, some (.str z), some wd, some due, l9, l10, k11] ∧ Does (prog T 7 f__law_word [wd] R') fun o R'' => PenOk 3 R'' ∧ opF .ne o due R'' = some (.bl false, R'')) (fun W hW => ?_) ?_
    · cases hn : isName wd with
      | true =>
        obtain ⟨w, rfl⟩ : ∃ w, wd = .str w := by
          cases wd with
          | str w => exact ⟨w, rfl⟩
          | _ => cases hn
        have hw3 : w = "over" ∨ w = "key" ∨ w = "row" := of_decide_eq_true hn
        obtain ⟨zz, hzz⟩ := repr_rb (named_rb w 27)
        obtain ⟨d, R10, c10, rfl, x10⟩ := s_named (n := 6) (S := R9) w
        have dw : decide (w = "over" ∨ w = "key" ∨ w = "row") = true := decide_eq_true hw3
        simp only [run_ite, ev_and, ev_blt, evs_cons, evs_nil, ev_var, ev_tyc, List.getElem?_cons_zero, List.getElem?_cons_succ, okb, is, D.isStr, lift_some, asBool_bl, if_true, ev_op, ev_tup, ev_cst, List.length_cons, List.length_nil, Nat.reduceAdd, Nat.reduceLeDiff, o_inS, dw, tr_bl]
        refine stp ?_
        simp [c10, hzz]
        refine hW _ _ ⟨hp13.ext x10, _, rfl, ?_⟩
        refine (s_word_name (n := 4) (S := R10) hw3 hzz).imp fun o R'' ho => ?_
        obtain ⟨rfl, xx⟩ := ho
        exact ⟨(hp13.ext x10).ext xx, ne_same (.inl ⟨_, rfl⟩)⟩
      | false =>
        have e := s_word_no (n := 4) (S := R9) hw.w.ty hn hz9
        have fin := hW [some (.ref 0), some (.ref 3), some x, some (.tup rs), some v, k5, some (.str z), some wd, some (.tup [.str "unknown", .str zw]), l9, l10, k11] R9 ⟨hp13, _, rfl, ⟨_, _, e, hp13, ne_same (.inl ⟨_, rfl⟩)⟩⟩
        cases wd with
        | str w =>
          have dw : decide (w = "over" ∨ w = "key" ∨ w = "row") = false := hn
          simp only [run_ite, ev_and, ev_blt, evs_cons, evs_nil, ev_var, ev_tyc, List.getElem?_cons_zero, List.getElem?_cons_succ, okb, is, D.isStr, lift_some, asBool_bl, if_true, ev_op, ev_tup, ev_cst, List.length_cons, List.length_nil, Nat.reduceAdd, Nat.reduceLeDiff, o_inS, dw, tr_bl, Bool.false_eq_true, if_false, runs_nil, Does_ok]
          exact ⟨_, rfl, fin⟩
        | _ =>
          simp [is, D.isStr]
          exact fin
    rintro _ R10 ⟨hp14, due, rfl, o, R11, c11, hp15, ne2⟩
    refine stp ?_
    simp [c11, ne2]
    -- another action
    obtain ⟨d, R12, c12, a, rfl, a0, a1, hp16, _⟩ := s_draw (n := 5) (b := 27) hp15 (by decide) (by decide)
    obtain ⟨d, R13, c13, b, rfl, b0, b1, hp17, _⟩ := s_draw (n := 5) (b := 6) hp16 (by decide) (by decide)
    refine stp ?_
    simp [c12, c13]
    have ew := s_rules_with (n := 6) (ds := rs) (i := a) (th := .int b) (S := R13) (by rw [hrs.1]; decide)
    have ea := s_at (n := 6) (ds := rs) (i := a) (th := .int b) (S := R13) (by rw [hrs.1]; decide)
    have ita : It 3 R13 (.tup (atD rs a (.int b))) := it_tup (fun e he => by
      rcases atD_mem he with he | rfl
      · exact hrs.wv e he
      · exact wi _ (by omega)) (by rw [atD_len a0 (by rw [hrs.1]; exact a1), hrs.1]; decide)
    obtain ⟨zr, hzr⟩ := ita.w.repr (by omega) (by decide)
    have hzr := hzr R13 (Sam.refl _ _)
    simp [ew, ea, hzr]
    exact (hI _ _ _).mpr ⟨hp17, _, _, _, _, _, _, _, _, _, _, rfl⟩
  · intro ρ R hv
    obtain ⟨hp, l2, l3, l4, l5, l6, l7, l8, l9, l10, l11, rfl⟩ := (hI _ _ _).mp hv
    simp
    exact hP _ _ rfl
theorem plain (ns : List Int) (_ : ns.length ≤ 63) : ∃ S, prog (Ds.map Df.fn) 8 f_law [.ref 0] [.ro (ns.map D.int)] = .ok (.bl true) S := by
  obtain ⟨d, S, e, rfl⟩ := s_law ns
  exact ⟨S, e⟩
end Law

set_option maxHeartbeats 0
namespace Law
open PySem PySem.Spec PyProof.Rows L2 DL
theorem run (w : World) : HandSHeadRun.RunEq R (PySem.W.view R.prog [33]) hk ob 8000 [("InvalidRules" : PySem.Str), ("UnknownWord" : PySem.Str), ("ROW" : PySem.Str), ("ABSENCE" : PySem.Str), ("is_integer" : PySem.Str), ("is_within" : PySem.Str), ("MANY_RULES" : PySem.Str), ("MOST_DEED" : PySem.Str), ("FRESH" : PySem.Str), ("NAMES" : PySem.Str), ("is_deed" : PySem.Str), ("rules_fault" : PySem.Str), ("require_rules" : PySem.Str), ("deed_by_name" : PySem.Str), ("named_rules" : PySem.Str), ("rules_with" : PySem.Str), ("_law_pen" : PySem.Str), ("_law_fresh" : PySem.Str), ("_law_draw" : PySem.Str), ("_law_one_of" : PySem.Str), ("_law_named" : PySem.Str), ("_law_any_rules" : PySem.Str), ("_law_rules" : PySem.Str), ("_law_is_number" : PySem.Str), ("_law_at" : PySem.Str), ("_law_odd" : PySem.Str), ("_law_required" : PySem.Str), ("_law_due" : PySem.Str), ("_law_word" : PySem.Str)] w := by
  intro os
  kernel_rfl
end Law
open PySem PySem.W PySem.Calls PyProof.Rows L2 DL
theorem PySem.Challenge.cw_movedrows_k02_rules_required_holds : PySem.Challenge.rw_movedrows_k02_rules_required.Holds := by
  w_on; o_law
  refine HandSHeadRun.head_any (r := Law.R) (q := view Law.R.prog [33]) (H := Law.hk) (ob := Law.ob) (M := 8000) (loose := [("InvalidRules" : PySem.Str), ("UnknownWord" : PySem.Str), ("ROW" : PySem.Str), ("ABSENCE" : PySem.Str), ("is_integer" : PySem.Str), ("is_within" : PySem.Str), ("MANY_RULES" : PySem.Str), ("MOST_DEED" : PySem.Str), ("FRESH" : PySem.Str), ("NAMES" : PySem.Str), ("is_deed" : PySem.Str), ("rules_fault" : PySem.Str), ("require_rules" : PySem.Str), ("deed_by_name" : PySem.Str), ("named_rules" : PySem.Str), ("rules_with" : PySem.Str), ("_law_pen" : PySem.Str), ("_law_fresh" : PySem.Str), ("_law_draw" : PySem.Str), ("_law_one_of" : PySem.Str), ("_law_named" : PySem.Str), ("_law_any_rules" : PySem.Str), ("_law_rules" : PySem.Str), ("_law_is_number" : PySem.Str), ("_law_at" : PySem.Str), ("_law_odd" : PySem.Str), ("_law_required" : PySem.Str), ("_law_due" : PySem.Str), ("_law_word" : PySem.Str)]) (d := HandSHeadRun.topDef Law.R.prog 33) (kwd := []) Law.ob_eq
    (by kernel_rfl) (fun s => by kernel_rfl) Law.run (by kernel_rfl) (by kernel_rfl) (by kernel_rfl) (by rfl) (by first | assumption | decide +kernel) (by decide +kernel) ⟨rfl, rfl, rfl, rfl, rfl, by decide +kernel⟩ ?hw ?hc
  case hw => w_witness2
  case hc =>
    refine walkG (l := PySem.Challenge.rw_movedrows_k02_rules_required) (n := 63) (k := 10) (x := "script") rfl (by decide) (by kernel_rfl) ⟨rfl, by decide, by decide⟩ ?F
    intro w mg fa h Y G hmg0
    obtain ⟨K, KX, sx, oS, esS, epS, hS, hD⟩ := Y
    have cx := sx.more
    have c := sx.t.d
    have x0 : K.lookup sysModules = none := by
      have cy := cx
      simp only [Law.exB, Bool.and_eq_true] at cy
      obtain ⟨⟨⟨⟨⟨⟨⟨⟨⟨⟨x0, x1⟩, x2⟩, x3⟩, x4⟩, x5⟩, x6⟩, x7⟩, x8⟩, x9⟩, x10⟩ := cy
      exact Option.isNone_iff_eq_none.mp x0
    have hmg : mg ("law" : PySem.Str) = some (.ref fa) := by
      have e : (HandSHeadRun.topDef Law.R.prog 33).name = ("law" : PySem.Str) := by kernel_rfl
      rw [← e]
      exact hmg0
    obtain ⟨fd, F⟩ := c.def_ 21 (d := Law.e_law) rfl
    have e := hmg.symm.trans (He.glo_ok KX G (c.fact 21 (f := .glo "law") rfl))
    cases e
    have b := L2.FunD.bindsA (ps := ["script"]) F fun _ _ _ _ _ _ us hl => match us, hl with | [_], _ => rfl
    refine ⟨K, fd, prog (Law.Ds.map Df.fn) 8 21, ⟨x0, oS, esS, epS, hS, hD⟩, KX, fun s v => b s [v] rfl, fun base X1 G1 => ?_, fun ns hl => Law.plain ns hl⟩
    exact def_ok (d := Law.d_law) (Law.tab_ok X1 G1 c cx) F Law.k_law (prog_ok (Law.tab_ok X1 G1 c cx) (Law.exc_ok X1 G1 c cx) (Law.defs_ok X1 G1 c) 7)
