import PyProof.Rows.All
import Wide.All
import OpenK.AllK
import Wide.FinOn
import KE.KStateDown
import HandS.ForMost
import HandS.ForExc
import HandS.Defaults
import HandS.Deep
import HandS.TupAny
import HandS.TupLen
import HandS.DictComp
import HandS.Zip
import HandS.Style
import HandS.IsInst
import HandS.TryMany
import HandS.TupMul
import KE.LtData
import KE.SortData
import PyProof.MinMaxWalk
import PyProof.WalkInts
import HandS.Flow
import HandS.Comp
import HandS.ExcOwn
import HandS.WordsExc
import HandS.More
import HandS.RaiseMore
import HandS.Head0
import HandS.Head1
import HandS.Head2
import HandS.HeadEnd
import HandS.HeadHook1
import HandS.HeadHook2
import PyProof.ExcBaseAll.ValueError
import PySem.Challenge.RW_windowwright_k46_whole_windows_on_screen
set_option Elab.async false
set_option linter.all false
set_option maxRecDepth 100000
set_option maxHeartbeats 4000000
/-! Ev, part A: data, what represents them, slots, states. -/
namespace Ev
open PySem PySem.Spec PyProof.Rows L2

abbrev D := PyData
/-- K: the written part; ca: where the classes stand; kt: the module's tuples that may be handed on as values -/
structure Gx where
  K : PySem.W.Frag
  ca : Str → Option Addr
  kt : List D
def KTup (K : PySem.W.Frag) (a : Addr) (xs : List V) : Prop := ∃ (o : Obj) (its : Array Value) (n : Nat), K.lookup a = some o ∧ o.cls = .type "tuple" ∧ o.data = .seq its n ∧ its.size ≤ sizeLine ∧ Vals xs its.toList
def inKt (kt : List D) (d : D) : Bool := kt.any fun k => PyData.eqv k d
def keyD : Key → D
  | .inl i => .int i
  | .inr x => .str x

def keyT (k : List Key) : D := .tuple (k.map keyD)
mutual
def Rep (G : Gx) (S : Hp) : D → V → Prop
  | .none, v => v = .non
  | .bool b, v => v = .bl b
  | .int i, v => v = .int i
  | .str x, v => v = .str x ∧ x.length ≤ sizeLine ∧ PySem.PyData.strOk x = true
  | .list ds, v => ∃ a vs, v = .ref a ∧ Rd S a (.lst vs) ∧ vs.length ≤ sizeLine ∧ RepL G S ds vs
  | .tuple ds, v => ∃ a vs, v = .ref a ∧ (S a = some (.tup vs) ∨ (inKt G.kt (.tuple ds) = true ∧ KTup G.K a vs)) ∧ vs.length ≤ sizeLine ∧ RepL G S ds vs
  | .dict kvs, v => ∃ a vs, v = .ref a ∧ RepP G S kvs vs ∧ vs.tail.length ≤ sizeLine ∧
      ((∃ ps : List (Key × V), kvs.map Prod.fst = .bool false :: ps.map (fun p => keyD p.1) ∧ vs.tail = ps.map Prod.snd ∧ Rd S a (.dK ps)) ∨
       (∃ ps : List (List Key × V), kvs.map Prod.fst = .bool true :: ps.map (fun p => keyT p.1) ∧ vs.tail = ps.map Prod.snd ∧ Rd S a (.dT ps)) ∨
       (∃ (c : Str) (C dx : Addr) (ps : List (Str × V)), kvs.map Prod.fst = .none :: ps.map (fun p => .str p.1) ∧ vs.head? = some (.str c) ∧ vs.tail = ps.map Prod.snd ∧ G.ca c = some C ∧ S a = some (.ins C dx ps)))
def RepL (G : Gx) (S : Hp) : List D → List V → Prop
  | [], vs => vs = []
  | d :: ds, vs => ∃ v r, vs = v :: r ∧ Rep G S d v ∧ RepL G S ds r
def RepP (G : Gx) (S : Hp) : List (D × D) → List V → Prop
  | [], vs => vs = []
  | (_, d) :: ds, vs => ∃ v r, vs = v :: r ∧ Rep G S d v ∧ RepP G S ds r
end
/-- all that may be read in S may be read in S' -/
structure Le (S S' : Hp) : Prop where
  rd : ∀ a u, Rd S a u → Rd S' a u
  ins : ∀ a C dx fs, S a = some (.ins C dx fs) → S' a = some (.ins C dx fs)
  tup : ∀ a xs, S a = some (.tup xs) → S' a = some (.tup xs)
theorem Le.refl (S : Hp) : Le S S := ⟨fun _ _ h => h, fun _ _ _ _ h => h, fun _ _ h => h⟩
theorem Le.trans {S S1 S2 : Hp} (a : Le S S1) (b : Le S1 S2) : Le S S2 := ⟨fun c u h => b.rd c u (a.rd c u h), fun c C dx fs h => b.ins c C dx fs (a.ins c C dx fs h), fun c xs h => b.tup c xs (a.tup c xs h)⟩
theorem Le.of {S S' : Hp} (h : Same S S') : Le S S' := ⟨fun a u r => r.elim (fun z => .inl (h a _ z)) fun ⟨o, z⟩ => .inr ⟨o, h a _ z⟩, fun a C dx fs z => h a _ z, fun a xs z => h a _ z⟩
theorem tup_sq {K : PySem.W.Frag} {S : Hp} {a : Addr} {xs : List V} {c : Prop} (h : S a = some (.tup xs) ∨ (c ∧ KTup K a xs)) : SqT K S a xs := h.elim (fun z => .inl (.inl z)) fun z => .inr z.2
theorem Le.sqL {K : PySem.W.Frag} {S S' : Hp} (l : Le S S') {a : Addr} {xs : List V} (h : SqL K S a xs) : SqL K S' a xs := h.elim (fun z => .inl (l.rd a _ z)) .inr
theorem Le.sqT {K : PySem.W.Frag} {S S' : Hp} (l : Le S S') {a : Addr} {xs : List V} (h : SqT K S a xs) : SqT K S' a xs := h.elim (fun z => .inl (l.rd a _ z)) .inr
section
variable {G : Gx} {S S' H H' : Hp}
mutual
theorem Rep.le (l : Le S S') : ∀ (d : D) (v : V), Rep G S d v → Rep G S' d v
  | .none, _, h => by simpa only [Rep] using h
  | .bool _, _, h => by simpa only [Rep] using h
  | .int _, _, h => by simpa only [Rep] using h
  | .str _, _, h => by simpa only [Rep] using h
  | .list ds, v, h => by
    simp only [Rep] at h ⊢
    obtain ⟨a, vs, e, q, z, r⟩ := h
    exact ⟨a, vs, e, l.rd _ _ q, z, RepL.le l ds vs r⟩
  | .tuple ds, v, h => by
    simp only [Rep] at h ⊢
    obtain ⟨a, vs, e, q, z, r⟩ := h
    exact ⟨a, vs, e, q.elim (fun x => .inl (l.tup _ _ x)) .inr, z, RepL.le l ds vs r⟩
  | .dict kvs, v, h => by
    simp only [Rep] at h ⊢
    obtain ⟨a, vs, e, r, z, q⟩ := h
    refine ⟨a, vs, e, RepP.le l kvs vs r, z, ?_⟩
    rcases q with ⟨ks, k1, k2, k3⟩ | ⟨ks, k1, k2, k3⟩ | ⟨c, C, dx, fs, k1, k2, k3, k4, k5⟩
    · exact .inl ⟨ks, k1, k2, l.rd _ _ k3⟩
    · exact .inr (.inl ⟨ks, k1, k2, l.rd _ _ k3⟩)
    · exact .inr (.inr ⟨c, C, dx, fs, k1, k2, k3, k4, l.ins _ _ _ _ k5⟩)
theorem RepL.le (l : Le S S') : ∀ (ds : List D) (vs : List V), RepL G S ds vs → RepL G S' ds vs
  | [], _, h => by simpa only [RepL] using h
  | d :: ds, vs, h => by
    simp only [RepL] at h ⊢
    obtain ⟨v, r, e, h1, h2⟩ := h
    exact ⟨v, r, e, Rep.le l d v h1, RepL.le l ds r h2⟩
theorem RepP.le (l : Le S S') : ∀ (ds : List (D × D)) (vs : List V), RepP G S ds vs → RepP G S' ds vs
  | [], _, h => by simpa only [RepP] using h
  | (_, d) :: ds, vs, h => by
    simp only [RepP] at h ⊢
    obtain ⟨v, r, e, h1, h2⟩ := h
    exact ⟨v, r, e, Rep.le l d v h1, RepP.le l ds r h2⟩
end
theorem Rep.same (s : Same S S') {d : D} {v : V} (h : Rep G S d v) : Rep G S' d v := Rep.le (.of s) d v h
theorem RepL.same (s : Same S S') {ds : List D} {vs : List V} (h : RepL G S ds vs) : RepL G S' ds vs := RepL.le (.of s) ds vs h
theorem RepP.same (s : Same S S') {ds : List (D × D)} {vs : List V} (h : RepP G S ds vs) : RepP G S' ds vs := RepP.le (.of s) ds vs h
/-! lists -/
theorem RepL.nil : RepL G S [] [] := by simp only [RepL]
theorem RepL.cons {d : D} {v : V} {ds : List D} {vs : List V} (h : Rep G S d v) (t : RepL G S ds vs) : RepL G S (d :: ds) (v :: vs) := by
  simp only [RepL]
  exact ⟨v, vs, rfl, h, t⟩
theorem RepL.nil_inv {vs : List V} (h : RepL G S [] vs) : vs = [] := by simpa only [RepL] using h
theorem RepL.cons_inv {d : D} {ds : List D} {vs : List V} (h : RepL G S (d :: ds) vs) : ∃ v r, vs = v :: r ∧ Rep G S d v ∧ RepL G S ds r := by simpa only [RepL] using h
theorem RepL.length : ∀ {ds : List D} {vs : List V}, RepL G S ds vs → ds.length = vs.length
  | [], _, h => by rw [h.nil_inv]; rfl
  | d :: ds, _, h => by
    obtain ⟨v, r, rfl, _, t⟩ := h.cons_inv
    rw [List.length_cons, List.length_cons, t.length]
theorem RepL.append : ∀ {ds es : List D} {vs us : List V}, RepL G S ds vs → RepL G S es us → RepL G S (ds ++ es) (vs ++ us)
  | [], _, _, _, h, t => by rw [h.nil_inv]; exact t
  | d :: ds, _, _, _, h, t => by
    obtain ⟨v, r, rfl, q, u⟩ := h.cons_inv
    exact .cons q (u.append t)
theorem RepL.one {d : D} {v : V} (h : Rep G S d v) : RepL G S [d] [v] := .cons h .nil
theorem RepL.get : ∀ {ds : List D} {vs : List V} {i : Nat} {d : D}, RepL G S ds vs → ds[i]? = some d → ∃ v, vs[i]? = some v ∧ Rep G S d v
  | [], _, _, _, _, e => by simp at e
  | d :: ds, _, 0, _, h, e => by
    obtain ⟨v, r, rfl, q, _⟩ := h.cons_inv
    simp at e; subst e
    exact ⟨v, rfl, q⟩
  | d :: ds, _, i + 1, _, h, e => by
    obtain ⟨v, r, rfl, _, t⟩ := h.cons_inv
    obtain ⟨u, e1, q⟩ := t.get (i := i) (by simpa using e)
    exact ⟨u, by simpa using e1, q⟩
theorem RepL.getV : ∀ {ds : List D} {vs : List V} {i : Nat} {v : V}, RepL G S ds vs → vs[i]? = some v → ∃ d, ds[i]? = some d ∧ Rep G S d v := fun {ds vs i v} h e => by
  have hl := h.length
  have hi : i < ds.length := by
    have := (List.getElem?_eq_some_iff.mp e).1
    omega
  obtain ⟨u, e1, q⟩ := h.get (i := i) (d := ds[i]) (by simp [hi])
  rw [e] at e1; cases e1
  exact ⟨_, by simp [hi], q⟩
theorem RepL.set : ∀ {ds : List D} {vs : List V} (i : Nat) {d : D} {v : V}, RepL G S ds vs → Rep G S d v → RepL G S (ds.set i d) (vs.set i v)
  | [], _, _, _, _, h, _ => by rw [h.nil_inv]; exact .nil
  | d :: ds, _, 0, _, _, h, q => by
    obtain ⟨v, r, rfl, _, t⟩ := h.cons_inv
    exact .cons q t
  | d :: ds, _, i + 1, _, _, h, q => by
    obtain ⟨v, r, rfl, q1, t⟩ := h.cons_inv
    exact .cons q1 (t.set i q)
theorem RepL.take : ∀ {ds : List D} {vs : List V} (n : Nat), RepL G S ds vs → RepL G S (ds.take n) (vs.take n)
  | _, _, 0, _ => by simpa using RepL.nil
  | [], _, n + 1, h => by rw [h.nil_inv]; exact .nil
  | d :: ds, _, n + 1, h => by
    obtain ⟨v, r, rfl, q1, t⟩ := h.cons_inv
    exact .cons q1 (t.take n)
theorem RepL.drop : ∀ {ds : List D} {vs : List V} (n : Nat), RepL G S ds vs → RepL G S (ds.drop n) (vs.drop n)
  | _, _, 0, h => by simpa using h
  | [], _, n + 1, h => by rw [h.nil_inv]; exact .nil
  | d :: ds, _, n + 1, h => by
    obtain ⟨v, r, rfl, q1, t⟩ := h.cons_inv
    exact t.drop n
theorem RepL.reverse : ∀ {ds : List D} {vs : List V}, RepL G S ds vs → RepL G S ds.reverse vs.reverse
  | [], _, h => by rw [h.nil_inv]; exact .nil
  | d :: ds, _, h => by
    obtain ⟨v, r, rfl, q1, t⟩ := h.cons_inv
    rw [List.reverse_cons, List.reverse_cons]
    exact t.reverse.append (.one q1)
theorem RepL.flat {ds : List D} {vs : List V} (h : RepL G S ds vs) : ∀ k : Nat, RepL G S (List.replicate k ds).flatten (List.replicate k vs).flatten
  | 0 => .nil
  | k + 1 => by
    rw [List.replicate_succ, List.replicate_succ, List.flatten_cons, List.flatten_cons]
    exact h.append (h.flat k)
theorem RepL.erase : ∀ {ds : List D} {vs : List V} (i : Nat), RepL G S ds vs → RepL G S (ds.eraseIdx i) (vs.eraseIdx i)
  | [], _, _, h => by rw [h.nil_inv]; exact .nil
  | d :: ds, _, 0, h => by
    obtain ⟨v, r, rfl, _, t⟩ := h.cons_inv
    exact t
  | d :: ds, _, i + 1, h => by
    obtain ⟨v, r, rfl, q1, t⟩ := h.cons_inv
    exact .cons q1 (t.erase i)
theorem RepL.dropLast {ds : List D} {vs : List V} (h : RepL G S ds vs) : RepL G S ds.dropLast vs.dropLast := by
  rw [List.dropLast_eq_take, List.dropLast_eq_take, h.length]
  exact h.take _
/-! pairs -/
theorem RepP.toL : ∀ {kvs : List (D × D)} {vs : List V}, RepP G S kvs vs ↔ RepL G S (kvs.map Prod.snd) vs
  | [], vs => by simp only [RepP, List.map_nil, RepL]
  | (k, d) :: r, vs => by
    simp only [RepP, List.map_cons, RepL]
    constructor
    · rintro ⟨v, r', e, h, t⟩; exact ⟨v, r', e, h, RepP.toL.mp t⟩
    · rintro ⟨v, r', e, h, t⟩; exact ⟨v, r', e, h, RepP.toL.mpr t⟩
/-- dicts with int and text keys, with tuple keys; an instance of the class c -/
abbrev _root_.Ev.dK (kvs : List (D × D)) : D := .dict ((.bool false, .none) :: kvs)
abbrev _root_.Ev.dT (kvs : List (D × D)) : D := .dict ((.bool true, .none) :: kvs)
abbrev _root_.Ev.dI (c : Str) (fs : List (D × D)) : D := .dict ((.none, .str c) :: fs)
def _root_.Ev.dB (t : Bool) (kvs : List (D × D)) : D := .dict ((.bool t, .none) :: kvs)
def KindAt (t : Bool) (kvs : List (D × D)) (vs : List V) (R : HO → Prop) : Prop := match t with
    | false => ∃ ps : List (Key × V), kvs.map Prod.fst = ps.map (fun p => keyD p.1) ∧ vs = ps.map Prod.snd ∧ R (.dK ps)
    | true => ∃ ps : List (List Key × V), kvs.map Prod.fst = ps.map (fun p => keyT p.1) ∧ vs = ps.map Prod.snd ∧ R (.dT ps)
theorem KindAt.imp {t : Bool} {kvs : List (D × D)} {vs : List V} {R R' : HO → Prop} (h : KindAt t kvs vs R) (k : ∀ o, R o → R' o) : KindAt t kvs vs R' := by
  cases t with
  | false => obtain ⟨ps, h1, h2, h3⟩ := h; exact ⟨ps, h1, h2, k _ h3⟩
  | true => obtain ⟨ps, h1, h2, h3⟩ := h; exact ⟨ps, h1, h2, k _ h3⟩
theorem rep_dB {t : Bool} {kvs : List (D × D)} {v : V} : Rep G S (dB t kvs) v ↔ ∃ a vs, v = .ref a ∧ RepP G S kvs vs ∧ vs.length ≤ sizeLine ∧ KindAt t kvs vs (Rd S a) := by
  unfold dB
  simp only [Rep, RepP, List.map_cons]
  constructor
  · rintro ⟨a, vs, e, ⟨v', r, e2, _, rp⟩, z, q⟩
    subst e2
    refine ⟨a, r, e, rp, z, ?_⟩
    rcases q with ⟨ks, k1, k2, k3⟩ | ⟨ks, k1, k2, k3⟩ | ⟨c, C, dx, fs, k1, _⟩
    · injection k1 with h1 h2
      injection h1 with h1
      subst h1
      exact ⟨ks, h2, k2, k3⟩
    · injection k1 with h1 h2
      injection h1 with h1
      subst h1
      exact ⟨ks, h2, k2, k3⟩
    · injection k1 with h1 h2
      cases h1
  · rintro ⟨a, vs, e, rp, z, q⟩
    refine ⟨a, .non :: vs, e, ⟨.non, vs, rfl, rfl, rp⟩, z, ?_⟩
    cases t with
    | false => obtain ⟨ks, k1, k2⟩ := q; exact .inl ⟨ks, by rw [k1], k2⟩
    | true => obtain ⟨ks, k1, k2⟩ := q; exact .inr (.inl ⟨ks, by rw [k1], k2⟩)
theorem rep_dI {c : Str} {fs : List (D × D)} {v : V} : Rep G S (dI c fs) v ↔ c.length ≤ sizeLine ∧ PyData.strOk c = true ∧ ∃ (a : Addr) (vs : List V) (C dx : Addr) (ps : List (Str × V)), v = .ref a ∧ RepP G S fs vs ∧ vs.length ≤ sizeLine ∧ fs.map Prod.fst = ps.map (fun p => .str p.1) ∧ vs = ps.map Prod.snd ∧ G.ca c = some C ∧ S a = some (.ins C dx ps) := by
  simp only [dI, Rep, RepP, List.map_cons]
  constructor
  · rintro ⟨a, vs, e, ⟨v', r, e2, ⟨h1, h2, h3⟩, rp⟩, z, q⟩
    subst e2
    rcases q with ⟨ks, k1, _⟩ | ⟨ks, k1, _⟩ | ⟨c', C, dx, ns, k1, k2, k3, k4, k5⟩
    · injection k1 with h1 h2
      cases h1
    · injection k1 with h1 h2
      cases h1
    · injection k1 with _ k1
      have k2' : some v' = some (V.str c') := k2
      rw [h1] at k2'
      cases k2'
      exact ⟨h2, h3, a, r, C, dx, ns, e, rp, z, k1, k3, k4, k5⟩
  · rintro ⟨h2, h3, a, vs, C, dx, ns, e, rp, z, k1, k3, k4, k5⟩
    exact ⟨a, .str c :: vs, e, ⟨.str c, vs, rfl, ⟨rfl, h2, h3⟩, rp⟩, z, .inr (.inr ⟨c, C, dx, ns, by rw [k1], rfl, k3, k4, k5⟩)⟩
/-! ints, strs in lists -/
theorem RepL.ints : ∀ {ns : List Int} {vs : List V}, RepL G S (ns.map .int) vs → vs = ns.map V.int
  | [], _, h => by rw [h.nil_inv]; rfl
  | n :: ns, _, h => by
    obtain ⟨v, r, rfl, q, t⟩ := h.cons_inv
    rw [show v = .int n by simpa only [Rep] using q, t.ints]; rfl
theorem RepL.of_ints : ∀ {ns : List Int}, RepL G S (ns.map .int) (ns.map V.int)
  | [] => .nil
  | n :: ns => .cons (by simp only [Rep]) RepL.of_ints
theorem RepL.bls : ∀ {bs : List Bool} {vs : List V}, RepL G S (bs.map .bool) vs → vs = bs.map V.bl
  | [], _, h => by rw [h.nil_inv]; rfl
  | n :: ns, _, h => by
    obtain ⟨v, r, rfl, q, t⟩ := h.cons_inv
    rw [show v = .bl n by simpa only [Rep] using q, t.bls]; rfl
theorem RepL.strs : ∀ {ns : List Str} {vs : List V}, RepL G S (ns.map .str) vs → vs = ns.map V.str
  | [], _, h => by rw [h.nil_inv]; rfl
  | n :: ns, _, h => by
    obtain ⟨v, r, rfl, q, t⟩ := h.cons_inv
    simp only [Rep] at q
    rw [q.1, t.strs]; rfl
/-! as the layer's data -/
mutual
/-- data without dicts, at most n deep -/
def dOk : Nat → D → Bool
  | _, .none => true
  | _, .bool _ => true
  | _, .int _ => true
  | _, .str _ => true
  | n + 1, .list xs => dOkL n xs
  | n + 1, .tuple xs => dOkL n xs
  | 0, .list _ => false
  | 0, .tuple _ => false
  | _, .dict _ => false
def dOkL : Nat → List D → Bool
  | _, [] => true
  | n, x :: xs => dOk n x && dOkL n xs
end
theorem dOkL_all (n : Nat) : ∀ xs : List D, dOkL n xs = xs.all (dOk n)
  | [] => by simp [dOkL]
  | x :: xs => by simp [dOkL, dOkL_all n xs]
mutual
theorem dOk.lay : ∀ (n : Nat) (d : D) (v : V), dOk n d = true → Rep G S d v → Dp G.K S v d ∧ PyData.canLay0 d = true ∧ d.depth ≤ n
  | n, .none, _, _, h => by simp only [Rep] at h; subst h; exact ⟨.non, by simp [PyData.canLay0], by simp [PyData.depth]⟩
  | n, .bool _, _, _, h => by simp only [Rep] at h; subst h; exact ⟨.bl _, by simp [PyData.canLay0], by simp [PyData.depth]⟩
  | n, .int _, _, _, h => by simp only [Rep] at h; subst h; exact ⟨.int _, by simp [PyData.canLay0], by simp [PyData.depth]⟩
  | n, .str _, _, _, h => by simp only [Rep] at h; obtain ⟨rfl, _, h⟩ := h; exact ⟨.str _, by simpa [PyData.canLay0] using h, by simp [PyData.depth]⟩
  | n + 1, .list ds, _, k, h => by
    simp only [Rep] at h
    obtain ⟨a, vs, rfl, q, _, r⟩ := h
    obtain ⟨h1, h2, h3⟩ := dOkL.lay n ds vs (by simpa only [dOk] using k) r
    exact ⟨.lst (.inl q) h1, by simpa [PyData.canLay0] using h2, by simp [PyData.depth]; omega⟩
  | n + 1, .tuple ds, _, k, h => by
    simp only [Rep] at h
    obtain ⟨a, vs, rfl, q, _, r⟩ := h
    obtain ⟨h1, h2, h3⟩ := dOkL.lay n ds vs (by simpa only [dOk] using k) r
    exact ⟨.tup (tup_sq q) h1, by simpa [PyData.canLay0] using h2, by simp [PyData.depth]; omega⟩
  | 0, .list _, _, k, _ => by simp [dOk] at k
  | 0, .tuple _, _, k, _ => by simp [dOk] at k
  | _, .dict _, _, k, _ => by simp [dOk] at k
theorem dOkL.lay : ∀ (n : Nat) (ds : List D) (vs : List V), dOkL n ds = true → RepL G S ds vs → DpAll G.K S vs ds ∧ PyData.canLayAll0 ds = true ∧ PyData.depthAll ds ≤ n
  | n, [], _, _, h => by rw [h.nil_inv]; exact ⟨.nil, by simp [PyData.canLayAll0], by simp [PyData.depthAll]⟩
  | n, d :: ds, _, k, h => by
    obtain ⟨v, r, rfl, q, t⟩ := h.cons_inv
    simp only [dOkL, Bool.and_eq_true] at k
    obtain ⟨a1, a2, a3⟩ := dOk.lay n d v k.1 q
    obtain ⟨b1, b2, b3⟩ := dOkL.lay n ds r k.2 t
    exact ⟨.cons a1 b1, by simp [PyData.canLayAll0, a2, b2], by simp [PyData.depthAll]; omega⟩
end
mutual
theorem dp_same (s : Same S S') {K : PySem.W.Frag} : ∀ (d : D) (v : V), Dp K S v d → Dp K S' v d
  | .none, _, h => by cases h; exact .non
  | .bool _, _, h => by cases h; exact .bl _
  | .int _, _, h => by cases h; exact .int _
  | .str _, _, h => by cases h; exact .str _
  | .list ds, _, h => by
    cases h with
    | lst q r => exact .lst ((Le.of s).sqL q) (dpAll_same s ds _ r)
  | .tuple ds, _, h => by
    cases h with
    | tup q r => exact .tup ((Le.of s).sqT q) (dpAll_same s ds _ r)
  | .dict _, _, h => by cases h
theorem dpAll_same (s : Same S S') {K : PySem.W.Frag} : ∀ (ds : List D) (vs : List V), DpAll K S vs ds → DpAll K S' vs ds
  | [], _, h => by cases h; exact .nil
  | d :: ds, _, h => by
    cases h with
    | cons q r => exact .cons (dp_same s d _ q) (dpAll_same s ds _ r)
end
theorem dOk.shaped {d : D} {v : V} (k : dOk 64 d = true) (h : Rep G S d v) : SeqAt.shaped d = true := by
  obtain ⟨_, h1, h2⟩ := dOk.lay 64 d v k h
  unfold SeqAt.shaped
  rw [h1, Bool.true_and]
  exact decide_eq_true h2
end
/-! ### slots, states -/
inductive Slot where
  | no
  | sh (d : D)
  | bs (ds : List D)
  | ol (ds : List D)
  | od (t : Bool) (kvs : List (D × D))
def Slot.owned : Slot → Bool
  | .ol _ => true
  | .od _ _ => true
  | _ => false
/-- the dict object at a: keys by kind -/
def DicAt (G : Gx) (S H : Hp) (t : Bool) (kvs : List (D × D)) (a : Addr) : Prop :=
  ∃ vs, RepP G S kvs vs ∧ vs.length ≤ sizeLine ∧ KindAt t kvs vs fun o => H a = some o
def LstAt (G : Gx) (S H : Hp) (ds : List D) (a : Addr) : Prop := ∃ vs, RepL G S ds vs ∧ vs.length ≤ sizeLine ∧ H a = some (.lst vs)
def Own (G : Gx) (S H : Hp) : Slot → Addr → Prop
  | .ol ds, a => LstAt G S H ds a
  | .od t kvs, a => DicAt G S H t kvs a
  | _, _ => False
section
variable {G : Gx} {S S' H H' : Hp}
theorem LstAt.keep (l : Le S S') {ds : List D} {a : Addr} (h : LstAt G S H ds a) (e : H' a = H a) : LstAt G S' H' ds a := by
  obtain ⟨vs, r, z, q⟩ := h
  exact ⟨vs, RepL.le l _ _ r, z, by rw [e]; exact q⟩
theorem DicAt.keep (l : Le S S') {t : Bool} {kvs : List (D × D)} {a : Addr} (h : DicAt G S H t kvs a) (e : H' a = H a) : DicAt G S' H' t kvs a := by
  obtain ⟨vs, r, z, q⟩ := h
  exact ⟨vs, RepP.le l _ _ r, z, q.imp fun o h => by rw [e]; exact h⟩
theorem Own.keep (l : Le S S') : ∀ {s : Slot} {a : Addr}, Own G S H s a → H' a = H a → Own G S' H' s a
  | .ol _, _, h, e => LstAt.keep l h e
  | .od _ _, _, h, e => DicAt.keep l h e
  | .no, _, h, _ => h.elim
  | .sh _, _, h, _ => h.elim
  | .bs _, _, h, _ => h.elim
theorem Own.there : ∀ {s : Slot} {a : Addr}, Own G S H s a → H a ≠ none
  | .ol _, _, ⟨_, _, _, h⟩, e => by rw [h] at e; cases e
  | .od false _, _, ⟨_, _, _, _, _, _, h⟩, e => by rw [h] at e; cases e
  | .od true _, _, ⟨_, _, _, _, _, _, h⟩, e => by rw [h] at e; cases e
  | .no, _, h, _ => h
  | .sh _, _, h, _ => h
  | .bs _, _, h, _ => h
/-- frozen part and heap grow; what stood stands -/
structure Ext (S H S' H' : Hp) : Prop where
  ss : Same S S'
  hh : Same H H'
  sh : Same S' H'
  old : ∀ a, H a ≠ none → S' a = S a
theorem Ext.refl (s : Same S H) : Ext S H S H := ⟨Same.refl _, Same.refl _, s, fun _ _ => rfl⟩
theorem same_ne {H H' : Hp} (h : Same H H') {a : Addr} (n : H a ≠ none) : H' a ≠ none := by
  cases e : H a with
  | none => exact absurd e n
  | some o => rw [h a o e]; simp
theorem Ext.trans {S1 H1 S2 H2 : Hp} (a : Ext S H S1 H1) (b : Ext S1 H1 S2 H2) : Ext S H S2 H2 :=
  ⟨a.ss.trans b.ss, a.hh.trans b.hh, b.sh, fun c n => (b.old c (same_ne a.hh n)).trans (a.old c n)⟩
theorem upd_same_of {H : Hp} {p : Addr} {o : HO} (n : H p = none) : Same H (upd H p o) := fun b u e => by
  rw [upd_ne (fun z => by rw [z, n] at e; cases e)]; exact e
/-- a new object is frozen at once -/
theorem Ext.new {p : Addr} {o : HO} (s : Same S H) (n : H p = none) : Ext S H (upd S p o) (upd H p o) := by
  have ns : S p = none := by
    cases e : S p with
    | none => rfl
    | some u => rw [s p u e] at n; cases n
  refine ⟨upd_same_of ns, upd_same_of n, fun b u e => ?_, fun a h => ?_⟩
  · by_cases hb : b = p
    · subst hb; rw [upd_same] at e ⊢; exact e
    · rw [upd_ne hb] at e ⊢; exact s b u e
  · rw [upd_ne (fun z => h (by rw [z]; exact n))]
/-- a new object that stays one's own -/
theorem Ext.own {p : Addr} {o : HO} (s : Same S H) (n : H p = none) : Ext S H S (upd H p o) :=
  ⟨Same.refl _, upd_same_of n, fun b u e => by rw [upd_ne (fun z => by rw [← z, s b u e] at n; cases n)]; exact s b u e, fun _ _ => rfl⟩
/-- an own object is frozen -/
theorem Ext.frz {p : Addr} {o : HO} (e : Ext S H S' H') (n : H p = none) (ns : S' p = none) (h : H' p = some o) : Ext S H (upd S' p o) H' :=
  ⟨e.ss.trans (upd_same_of ns), e.hh, fun b u q => by
    by_cases hb : b = p
    · subst hb; rw [upd_same] at q; cases q; exact h
    · rw [upd_ne hb] at q; exact e.sh b u q, fun a ha => by
    rw [upd_ne (fun z => ha (by rw [z]; exact n))]; exact e.old a ha⟩

structure Stt (G : Gx) (H0 S H : Hp) (σ : L2.St) (ρ : List Slot) : Prop where
  sub : Same S H
  len : ρ.length = σ.length
  sh : ∀ (i : Nat) (d : D), ρ[i]? = some (.sh d) → ∃ v, σ[i]? = some (some v) ∧ Rep G S d v
  ow : ∀ (i : Nat) (s : Slot), ρ[i]? = some s → s.owned = true → ∃ a, σ[i]? = some (some (.ref a)) ∧ S a = none ∧ H0 a = none ∧ Own G S H s a
  ne : ∀ (i j : Nat) (s u : Slot) (a : Addr), ρ[i]? = some s → s.owned = true → ρ[j]? = some u → u.owned = true → σ[i]? = some (some (.ref a)) → σ[j]? = some (some (.ref a)) → i = j
  bs : ∀ (i : Nat) (ds : List D), ρ[i]? = some (.bs ds) → ∃ a vs, σ[i]? = some (some (.ref a)) ∧ SqL G.K S a vs ∧ vs.length ≤ sizeLine ∧ RepL G S ds vs
theorem Stt.ext {H0 : Hp} {σ : L2.St} {ρ : List Slot} (h : Stt G H0 S H σ ρ) (e : Ext S H S' H') : Stt G H0 S' H' σ ρ := by
  refine ⟨e.sh, h.len, fun i d q => ?_, fun i s q o => ?_, h.ne, fun i ds q => ?_⟩
  · obtain ⟨v, e1, r⟩ := h.sh i d q
    exact ⟨v, e1, r.same e.ss⟩
  · obtain ⟨a, e1, n, n0, w⟩ := h.ow i s q o
    refine ⟨a, e1, by rw [e.old a w.there]; exact n, n0, w.keep (.of e.ss) ?_⟩
    cases z : H a with
    | none => exact absurd z w.there
    | some u => exact e.hh a u z
  · obtain ⟨a, vs, e1, q1, z, r⟩ := h.bs i ds q
    exact ⟨a, vs, e1, (Le.of e.ss).sqL q1, z, r.same e.ss⟩
end
end Ev

set_option Elab.async false
set_option linter.all false
set_option maxRecDepth 100000
set_option maxHeartbeats 4000000
/-! Ev, part B: results, modes, the readings. -/
namespace Ev
open PySem PySem.Spec PyProof.Rows L2

inductive Res (α : Type) where
  | ok (a : α)
  | exc (c : Str)
  | stuck
def Res.bind {α β : Type} : Res α → (α → Res β) → Res β
  | .ok a, f => f a
  | .exc c, _ => .exc c
  | .stuck, _ => .stuck
instance : Monad Res where
  pure := Res.ok
  bind := Res.bind
@[simp] theorem ok_bind {α β : Type} (a : α) (f : α → Res β) : (Res.ok a >>= f) = f a := rfl
@[simp] theorem exc_bind {α β : Type} (c : Str) (f : α → Res β) : ((Res.exc c : Res α) >>= f) = .exc c := rfl
@[simp] theorem stuck_bind {α β : Type} (f : α → Res β) : ((Res.stuck : Res α) >>= f) = .stuck := rfl
@[simp] theorem pure_ok {α : Type} (a : α) : (pure a : Res α) = .ok a := rfl

/-- how a value is held: sh: frozen; fr: frozen, or a new list or dict that nobody else holds; bo: frozen, or another's list or dict for a look -/
inductive Md where
  | sh | fr | bo | bg
def isMut : D → Bool
  | .list _ => true
  | .dict _ => true
  | _ => false
/-- a list, a dict of its own at a -/
def MutAt (G : Gx) (S H : Hp) (d : D) (a : Addr) : Prop := (∃ ds, d = .list ds ∧ LstAt G S H ds a) ∨ ∃ t kvs, d = dB t kvs ∧ DicAt G S H t kvs a
/-- a tuple of the module, for a look -/
def TupAt (G : Gx) (S : Hp) (d : D) (v : V) : Prop := ∃ a ds vs, v = .ref a ∧ d = .tuple ds ∧ KTup G.K a vs ∧ vs.length ≤ sizeLine ∧ RepL G S ds vs
def Pm (m : Md) (G : Gx) (H S' H' : Hp) (d : D) (v : V) : Prop := match m with
  | .sh => Rep G S' d v
  | .fr => if isMut d = true then ∃ p, v = .ref p ∧ H p = none ∧ S' p = none ∧ MutAt G S' H' d p else Rep G S' d v
  | .bo => Rep G S' d v ∨ (∃ a, v = .ref a ∧ MutAt G S' H' d a)
  | .bg => Rep G S' d v ∨ (∃ a, v = .ref a ∧ MutAt G S' H' d a) ∨ TupAt G S' d v
abbrev WS := Str → L2.St → Hp → Prop
def Fin (m : Md) (G : Gx) (W : WS) (S H : Hp) (σ : L2.St) (r : Res D) (Q : VK) : Prop := match r with
  | .ok d => ∀ v S' H', Ext S H S' H' → Pm m G H S' H' d v → Q v H'
  | .exc c => ∀ S' H', Ext S H S' H' → W c σ H'
  | .stuck => False
structure Rdy (G : Gx) (S0 H0 S H : Hp) (σ : L2.St) (ρ : List Slot) : Prop where
  ext : Ext S0 H0 S H
  stt : Stt G H0 S H σ ρ
/-- what stays the same through a body: the ground, the exceptions' wish -/
structure Pr where
  G : Gx
  S0 : Hp
  H0 : Hp
  W : WS
def tE (P : Pr) (m : Md) (f : List Slot → Res D) : TE := fun σ H Q => ∃ S ρ, Rdy P.G P.S0 P.H0 S H σ ρ ∧ Fin m P.G P.W S H σ (f ρ) Q

section
variable {G : Gx} {S S' S1 S2 H H' H1 H2 S0 H0 : Hp} {σ : L2.St} {ρ : List Slot} {W : WS} {m m' : Md}
theorem Rdy.to (R : Rdy G S0 H0 S H σ ρ) (e : Ext S H S' H') : Rdy G S0 H0 S' H' σ ρ := ⟨R.ext.trans e, R.stt.ext e⟩
theorem Rdy.sub (R : Rdy G S0 H0 S H σ ρ) : Same S H := R.stt.sub
theorem MutAt.keep (l : Le S S') {d : D} {a : Addr} (h : MutAt G S H d a) (e : H' a = H a) : MutAt G S' H' d a := by
  rcases h with ⟨ds, e1, h⟩ | ⟨t, kvs, e1, h⟩
  · exact .inl ⟨ds, e1, h.keep l e⟩
  · exact .inr ⟨t, kvs, e1, h.keep l e⟩
theorem MutAt.there {d : D} {a : Addr} (h : MutAt G S H d a) : H a ≠ none := by
  rcases h with ⟨ds, e1, h⟩ | ⟨t, kvs, e1, h⟩
  · exact Own.there (s := .ol ds) h
  · exact Own.there (s := .od t kvs) h
theorem MutAt.mut {d : D} {a : Addr} (h : MutAt G S H d a) : isMut d = true := by
  rcases h with ⟨ds, rfl, h⟩ | ⟨t, kvs, rfl, h⟩ <;> rfl
/-- frozen: what stands at a is data -/
theorem MutAt.rep {d : D} {a : Addr} (h : MutAt G S H d a) (o : ∀ u, H a = some u → S a = some u) : Rep G S d (.ref a) := by
  rcases h with ⟨ds, rfl, vs, r, z, e⟩ | ⟨t, kvs, rfl, vs, r, z, q⟩
  · simp only [Rep]
    exact ⟨a, vs, rfl, .inl (o _ e), z, r⟩
  · exact rep_dB.mpr ⟨a, vs, rfl, r, z, q.imp fun u h => .inl (o u h)⟩
theorem Pm.earlier (e : Same H H1) {d : D} {v : V} (h : Pm m G H1 S' H' d v) : Pm m G H S' H' d v := by
  cases m with
  | sh => exact h
  | bo => exact h
  | bg => exact h
  | fr =>
    unfold Pm at h ⊢
    dsimp only at h ⊢
    split at h
    · rename_i k
      rw [if_pos k]
      obtain ⟨p, a, b, c⟩ := h
      refine ⟨p, a, ?_, c⟩
      cases z : H p with
      | none => rfl
      | some o => rw [e p o z] at b; cases b
    · rename_i k
      rw [if_neg k]
      exact h
theorem Fin.later {r : Res D} {Q : VK} (h : Fin m G W S H σ r Q) (e : Ext S H S1 H1) : Fin m G W S1 H1 σ r Q := by
  cases r with
  | ok d => exact fun v S' H' e' p => h v S' H' (e.trans e') (p.earlier e.hh)
  | exc c => exact fun S' H' e' => h S' H' (e.trans e')
  | stuck => exact h
theorem Fin.bind {r : Res D} {f : D → Res D} {Q Q1 : VK} (h : Fin m G W S H σ (r >>= f) Q)
    (k : ∀ d v S1 H1, r = .ok d → Ext S H S1 H1 → Pm m' G H S1 H1 d v → Fin m G W S1 H1 σ (f d) Q → Q1 v H1) : Fin m' G W S H σ r Q1 := by
  cases r with
  | ok d => exact fun v S1 H1 e p => k d v S1 H1 rfl e p (Fin.later (show Fin m G W S H σ (f d) Q from h) e)
  | exc c => exact h
  | stuck => exact h
/-- an own new object is frozen -/
theorem Pm.frz {d : D} {v : V} (e : Ext S H S' H') (h : Pm .fr G H S' H' d v) : ∃ S'', Ext S H S'' H' ∧ Rep G S'' d v := by
  unfold Pm at h
  dsimp only at h
  split at h
  · obtain ⟨p, rfl, n, ns, w⟩ := h
    cases z : H' p with
    | none => exact absurd z w.there
    | some o =>
      have e2 := e.frz n ns z
      refine ⟨_, e2, (w.keep (.of (upd_same_of ns)) rfl).rep fun u q => ?_⟩
      rw [z] at q; cases q
      exact upd_same
  · exact ⟨S', e, h⟩
theorem Fin.fr {r : Res D} {Q : VK} (h : Fin .sh G W S H σ r Q) : Fin .fr G W S H σ r Q := by
  cases r with
  | ok d =>
    intro v S' H' e p
    obtain ⟨S'', e2, q⟩ := p.frz e
    exact h v S'' H' e2 q
  | exc c => exact h
  | stuck => exact h
theorem Fin.bg {r : Res D} {Q : VK} (h : Fin .bg G W S H σ r Q) : Fin .bo G W S H σ r Q := by
  cases r with
  | ok d => exact fun v S' H' e p => h v S' H' e (p.elim .inl fun q => .inr (.inl q))
  | exc c => exact h
  | stuck => exact h
theorem Fin.bo {r : Res D} {Q : VK} (h : Fin .bo G W S H σ r Q) : Fin .sh G W S H σ r Q := by
  cases r with
  | ok d => exact fun v S' H' e p => h v S' H' e (.inl p)
  | exc c => exact h
  | stuck => exact h
end
theorem _root_.L2.PE.imp {X : Cx} {e : Expr} {t t' : TE} (h : PE X e t) (k : ∀ σ H Q, t' σ H Q → t σ H Q) : PE X e t' := ⟨fun pins s σ H Q I q => h.run pins s σ H Q I (k σ H Q q)⟩
theorem _root_.L2.PT.imp {X : Cx} {e : Expr} {t t' : TT} (h : PT X e t) (k : ∀ σ H Q, t' σ H Q → t σ H Q) : PT X e t' := ⟨fun pins s σ H Q I q => h.run pins s σ H Q I (k σ H Q q)⟩
theorem _root_.L2.PW.imp {X : Cx} {e : Expr} {t t' : TT} (h : PW X e t) (k : ∀ σ H Q, t' σ H Q → t σ H Q) : PW X e t' := ⟨fun wh pins s σ H Q I q => h.run wh pins s σ H Q I (k σ H Q q)⟩
theorem _root_.L2.PA.imp {X : Cx} {e : List Expr} {t t' : TA} (h : PA X e t) (k : ∀ σ H Q, t' σ H Q → t σ H Q) : PA X e t' := ⟨fun pos pins s σ H Q I q => h.run pos pins s σ H Q I (k σ H Q q)⟩
theorem _root_.L2.PS.imp {X : Cx} {e : Stmt} {t t' : TS} (h : PS X e t) (k : ∀ D σ H, t' D σ H → t D σ H) : PS X e t' := ⟨fun pins s σ H D I q => h.run pins s σ H D I (k D σ H q)⟩
theorem _root_.L2.PSs.imp {X : Cx} {e : List Stmt} {t t' : TS} (h : PSs X e t) (k : ∀ D σ H, t' D σ H → t D σ H) : PSs X e t' := ⟨fun pins s σ H D I q => h.run pins s σ H D I (k D σ H q)⟩

abbrev DE (X : Cx) (P : Pr) (m : Md) (e : Expr) (f : List Slot → Res D) : Prop := PE X e (tE P m f)
section
variable {X : Cx} {P : Pr} {e : Expr} {f : List Slot → Res D}
theorem DE.frz (h : DE X P .fr e f) : DE X P .sh e f := h.imp fun σ H Q ⟨S, ρ, R, q⟩ => ⟨S, ρ, R, q.fr⟩
theorem DE.bor (h : DE X P .sh e f) : DE X P .bo e f := h.imp fun σ H Q ⟨S, ρ, R, q⟩ => ⟨S, ρ, R, q.bo⟩
theorem DE.glo (h : DE X P .bo e f) : DE X P .bg e f := h.imp fun σ H Q ⟨S, ρ, R, q⟩ => ⟨S, ρ, R, q.bg⟩
end
/-! ### arguments -/
def FinL (G : Gx) (ms : List Md) (W : WS) (S H : Hp) (σ : L2.St) (r : Res (List D)) (Q : List V → Hp → Prop) : Prop := match r with
  | .ok ds => ∀ vs S' H', Ext S H S' H' → RepL G S' ds vs → Q vs H'
  | .exc c => ∀ S' H', Ext S H S' H' → W c σ H'
  | .stuck => False
end Ev

set_option Elab.async false
set_option linter.all false
set_option maxRecDepth 100000
set_option maxHeartbeats 4000000
/-! Ev, part C: operators on data, and that the machine does them. -/
namespace Ev
open PySem PySem.Spec PyProof.Rows L2

abbrev line : Nat := 16777216
theorem line_eq : sizeLine = line := sizeLine_eq
/-! ### what a datum's value is -/
abbrev Pb (G : Gx) (S H : Hp) (d : D) (v : V) : Prop := Pm .bo G H S H d v
section
variable {G : Gx} {S S' H H' : Hp} {v : V} {m : Md}
theorem Pb.of {d : D} (h : Rep G S d v) : Pb G S H d v := .inl h
theorem MutAt.not {d : D} {a : Addr} (h : MutAt G S H d a) (n : isMut d = false) : False := by
  have := h.mut
  rw [n] at this; cases this
def isTup : D → Bool
  | .tuple _ => true
  | _ => false
theorem Pb.rep {d : D} (h : Pb G S H d v) (n : isMut d = false) : Rep G S d v := by
  rcases h with h | ⟨a, _, w⟩
  · exact h
  · exact (w.not n).elim
theorem Pb.int {i : Int} (h : Pb G S H (.int i) v) : v = .int i := by simpa only [Rep] using h.rep rfl
theorem Pb.bool {i : Bool} (h : Pb G S H (.bool i) v) : v = .bl i := by simpa only [Rep] using h.rep rfl
theorem Pb.none (h : Pb G S H .none v) : v = .non := by simpa only [Rep] using h.rep rfl
theorem Pb.str {x : Str} (h : Pb G S H (.str x) v) : v = .str x ∧ x.length ≤ sizeLine ∧ PyData.strOk x = true := by simpa only [Rep] using h.rep rfl
theorem rd_same (s : Same S H) {a : Addr} {u : HO} (h : Rd S a u) : Rd H a u := (Le.of s).rd a u h
theorem Pb.list (s : Same S H) {ds : List D} (h : Pb G S H (.list ds) v) : ∃ a vs, v = .ref a ∧ Rd H a (.lst vs) ∧ vs.length ≤ sizeLine ∧ RepL G S ds vs := by
  rcases h with h | ⟨a, e, ⟨ds', e1, vs, r, z, q⟩ | ⟨t, kvs, e1, _⟩⟩
  · simp only [Rep] at h
    obtain ⟨a, vs, e, q, z, r⟩ := h
    exact ⟨a, vs, e, rd_same s q, z, r⟩
  · cases e1
    exact ⟨a, vs, e, .inl q, z, r⟩
  · cases e1
theorem Pb.tuple (s : Same S H) {ds : List D} (h : Pb G S H (.tuple ds) v) : ∃ a vs, v = .ref a ∧ SqT G.K H a vs ∧ vs.length ≤ sizeLine ∧ RepL G S ds vs := by
  have h := h.rep rfl
  simp only [Rep] at h
  obtain ⟨a, vs, e, q, z, r⟩ := h
  exact ⟨a, vs, e, (Le.of s).sqT (tup_sq q), z, r⟩
/-- the data of a Pb, as the layer's data in H -/
theorem Pb.dp (s : Same S H) {d : D} (h : Pb G S H d v) {n : Nat} (k : dOk n d = true) : Dp G.K H v d ∧ PyData.canLay0 d = true ∧ d.depth ≤ n := by
  rcases h with h | ⟨a, e, ⟨ds', e1, vs, r, z, q⟩ | ⟨t, kvs, e1, _⟩⟩
  · obtain ⟨h1, h2⟩ := dOk.lay n d v k h
    exact ⟨dp_same s _ _ h1, h2⟩
  · subst e1
    cases n with
    | zero => simp [dOk] at k
    | succ n =>
      obtain ⟨h1, h2, h3⟩ := dOkL.lay n ds' vs (by simpa only [dOk] using k) r
      exact ⟨by rw [e]; exact .lst (.inl (.inl q)) (dpAll_same s _ _ h1), by simpa [PyData.canLay0] using h2, by simp [PyData.depth]; omega⟩
  · subst e1
    simp [dB, dOk] at k
theorem Pb.shaped (s : Same S H) {d : D} (h : Pb G S H d v) (k : dOk 64 d = true) : SeqAt.shaped d = true := by
  obtain ⟨_, h1, h2⟩ := h.dp s k
  unfold SeqAt.shaped
  rw [h1, Bool.true_and]
  exact decide_eq_true h2
end
/-! ### what is wanted of a value -/
def Wt (G : Gx) (m : Md) (S H : Hp) (d : D) (Q : VK) : Prop := ∀ v S' H', Ext S H S' H' → Pm m G H S' H' d v → Q v H'
section
variable {G : Gx} {S S' H H' : Hp} {v : V} {m : Md} {Q : VK}
theorem Pm.of_rep {d : D} (h : Rep G S' d v) (n : isMut d = false ∨ m ≠ .fr) : Pm m G H S' H' d v := by
  cases m with
  | sh => exact h
  | bo => exact .inl h
  | bg => exact .inl h
  | fr =>
    rcases n with n | n
    · unfold Pm
      dsimp only
      rw [if_neg (by rw [n]; exact Bool.false_ne_true)]
      exact h
    · exact absurd rfl n
/-- a flat value, nothing made -/
theorem Wt.flat {d : D} (w : Wt G m S H d Q) (s : Same S H) (h : Rep G S d v) (n : isMut d = false := by rfl) : Q v H := w v S H (Ext.refl s) (.of_rep h (.inl n))
theorem Wt.int {i : Int} (w : Wt G m S H (.int i) Q) (s : Same S H) : Q (.int i) H := w.flat s (by simp only [Rep])
theorem Wt.bool {i : Bool} (w : Wt G m S H (.bool i) Q) (s : Same S H) : Q (.bl i) H := w.flat s (by simp only [Rep])
theorem Wt.none (w : Wt G m S H .none Q) (s : Same S H) : Q .non H := w.flat s (by simp only [Rep])
theorem Wt.str {x : Str} (w : Wt G m S H (.str x) Q) (s : Same S H) (h1 : x.length ≤ sizeLine) (h2 : PyData.strOk x = true) : Q (.str x) H := w.flat s (by simp only [Rep]; exact ⟨trivial, h1, h2⟩)
theorem free_of (s : Same S H) {p : Addr} (n : H p = Option.none) : S p = Option.none := by
  cases e : S p with
  | none => rfl
  | some u => rw [s p u e] at n; cases n
theorem Pm.fr_of {d : D} (h : ∃ p, v = .ref p ∧ H p = Option.none ∧ S' p = Option.none ∧ MutAt G S' H' d p) : Pm .fr G H S' H' d v := by
  obtain ⟨p, a, b, c, w⟩ := h
  unfold Pm
  dsimp only
  rw [if_pos w.mut]
  exact ⟨p, a, b, c, w⟩
/-- a new list -/
theorem Wt.list {ds : List D} {vs : List V} (w : Wt G .fr S H (.list ds) Q) (s : Same S H) (r : RepL G S ds vs) (z : vs.length ≤ sizeLine) : ∀ p, H p = Option.none → Q (.ref p) (upd H p (.lst vs)) := fun p n =>
  w _ S _ (Ext.own s n) (by
    exact Pm.fr_of ⟨p, rfl, n, free_of s n, .inl ⟨ds, rfl, vs, r, z, upd_same⟩⟩)
/-- a new tuple -/
theorem Wt.tuple {ds : List D} {vs : List V} (w : Wt G m S H (.tuple ds) Q) (s : Same S H) (r : RepL G S ds vs) (z : vs.length ≤ sizeLine) : ∀ p, H p = Option.none → Q (.ref p) (upd H p (.tup vs)) := fun p n =>
  w _ _ _ (Ext.new s n) (.of_rep (by
    simp only [Rep]
    exact ⟨p, vs, rfl, .inl upd_same, z, r.same (upd_same_of (free_of s n))⟩) (.inl rfl))
theorem Wt.fr {d : D} (w : Wt G .sh S H d Q) : Wt G .fr S H d Q := fun v S' H' e p => by
  obtain ⟨S'', e2, q⟩ := p.frz e
  exact w v S'' H' e2 q
/-- what stands already -/
theorem Wt.rep {d : D} (w : Wt G m S H d Q) (s : Same S H) (h : Rep G S d v) (n : isMut d = false ∨ m ≠ .fr) : Q v H := w v S H (Ext.refl s) (.of_rep h n)
end

/-! ### operators of two places -/
def rOp2 (G : Gx) (m : Md) (f : D → D → Option D) : R2 := fun x y H Q => ∃ S dx dy d, Same S H ∧ Pb G S H dx x ∧ Pb G S H dy y ∧ f dx dy = some d ∧ Wt G m S H d Q
def pAdd : D → D → Option D
  | .int i, .int j => some (.int (i + j))
  | .str x, .str y => if x.length + y.length ≤ line then some (.str (x ++ y)) else .none
  | .list xs, .list ys => if xs.length + ys.length ≤ line then some (.list (xs ++ ys)) else .none
  | .tuple xs, .tuple ys => if xs.length + ys.length ≤ line then some (.tuple (xs ++ ys)) else .none
  | _, _ => .none
def pSub : D → D → Option D
  | .int i, .int j => some (.int (i - j))
  | _, _ => .none
def smallI (i : Int) : Bool := decide (-(2 ^ 64) < i ∧ i < 2 ^ 64)
def pMul : D → D → Option D
  | .int i, .int j => if smallI i || smallI j then some (.int (i * j)) else .none
  | .list xs, .int k => if decide (-(2 ^ 63) ≤ k ∧ k < 2 ^ 63) && decide (xs.length * k.toNat ≤ line) then some (.list (List.replicate k.toNat xs).flatten) else .none
  | .tuple xs, .int k => if decide (xs.length ≤ 1000 ∧ xs ≠ [] ∧ 2 ≤ k ∧ k ≤ 1000) then some (.tuple (List.replicate k.toNat xs).flatten) else .none
  | _, _ => .none
def pFdiv : D → D → Option D
  | .int i, .int j => if 0 < j ∧ j < 1073741824 then some (.int (i / j)) else .none
  | _, _ => .none
def pMod : D → D → Option D
  | .int i, .int j => if 0 < j then some (.int (i % j)) else .none
  | _, _ => .none
def pPow : D → D → Option D
  | .int i, .int j => if 0 ≤ j ∧ j ≤ 1000000 ∧ i.natAbs < 2 ^ 64 then some (.int (i ^ j.toNat)) else .none
  | _, _ => .none
def lst_ok {X : Cx} {pins : List (Addr × Obj)} {σ : L2.St} {H : Hp} {s : Shared} (I : Inv X pins σ H s) {a : Addr} {vs : List V} (h : Rd H a (.lst vs)) :
    vs.length ≤ sizeLine ∧ ∃ (its : List Value) (n : Nat), Vals vs its ∧ s.heap.get? a = some { cls := .type "list", data := .seq its.toArray n } := h.ok I.hok
theorem strOk_app {x y : Str} (h1 : PyData.strOk x = true) (h2 : PyData.strOk y = true) : PyData.strOk (x ++ y) = true := by
  have e : (x ++ y).cps = x.cps ++ y.cps := rfl
  unfold PyData.strOk at h1 h2 ⊢
  rw [e, Array.all_append, h1, h2]; rfl
theorem str_len_app {x y : Str} : (x ++ y).length = x.length + y.length := by
  show (x.cps ++ y.cps).size = _
  rw [Array.size_append]; rfl
section
variable {X : Cx} {G : Gx}
theorem op_pAdd (hK : X.K = G.K) : OpR X (binaryOp .Add) (rOp2 G .fr pAdd) := by
  intro pins s σ H x y v u Q I rx ry h
  obtain ⟨S, dx, dy, d, ss, px, py, e, w⟩ := h
  unfold pAdd at e
  split at e
  · cases e
    exact op_add pins s σ H x y v u Q I rx ry ⟨_, _, px.int, py.int, w.int ss⟩
  · split at e
    · rename_i hz
      cases e
      obtain ⟨ex, h1, h2⟩ := px.str
      obtain ⟨ey, h3, h4⟩ := py.str
      exact op_add_str pins s σ H x y v u Q I rx ry ⟨_, _, ex, ey, by rw [line_eq]; exact hz, w.str ss (by rw [str_len_app, line_eq]; exact hz) (strOk_app h2 h4)⟩
    · cases e
  · split at e
    · rename_i hz
      cases e
      obtain ⟨a, vs, rfl, q, z, r⟩ := px.list ss
      obtain ⟨b, us, rfl, q', z', r'⟩ := py.list ss
      cases rx; cases ry
      obtain ⟨_, its, n, rv, e1⟩ := lst_ok I q
      obtain ⟨_, its2, n2, rv2, e2⟩ := lst_ok I q'
      have l1 := rv.length
      have l2 := rv2.length
      have k1 := r.length
      have k2 := r'.length
      have hz' : vs.length + us.length ≤ sizeLine := by rw [line_eq]; omega
      refine PySem.P.add_list e1 e2 ?_ (by rw [List.size_toArray, List.size_toArray]; omega)
      have ea : its.toArray ++ its2.toArray = (its ++ its2).toArray := by simp
      rw [ea]
      exact ⟨.ref _, _, I.lnew (t' := s.toks) (rv.append rv2) (by rw [List.length_append]; omega), rfl, w.list ss (r.append r') (by rw [List.length_append]; omega) _ I.fresh⟩
    · cases e
  · split at e
    · rename_i hz
      cases e
      obtain ⟨a, vs, ex, q, z, r⟩ := px.tuple ss
      obtain ⟨b, us, ey, q', z', r'⟩ := py.tuple ss
      have k1 := r.length
      have k2 := r'.length
      have hz' : vs.length + us.length ≤ sizeLine := by rw [line_eq]; omega
      refine op_catA pins s σ H x y v u Q I rx ry ⟨a, b, vs, us, ex, ey, by rw [hK]; exact q, by rw [hK]; exact q', hz', fun e0 => ?_, fun _ e0 => ?_, fun _ _ => w.tuple ss (r.append r') (by rw [List.length_append]; exact hz')⟩
      · subst e0
        have := r.length
        rw [List.length_eq_zero_iff.mp this] at w
        rw [List.nil_append] at w
        exact w.rep ss (by rw [← ey]; exact py.rep rfl) (.inl rfl)
      · subst e0
        have := r'.length
        rw [List.length_eq_zero_iff.mp this] at w
        rw [List.append_nil] at w
        exact w.rep ss (by rw [← ex]; exact px.rep rfl) (.inl rfl)
    · cases e
  · cases e
theorem op_pSub : OpR X (binaryOp .Sub) (rOp2 G .fr pSub) := by
  intro pins s σ H x y v u Q I rx ry h
  obtain ⟨S, dx, dy, d, ss, px, py, e, w⟩ := h
  unfold pSub at e
  split at e
  · cases e
    exact op_sub pins s σ H x y v u Q I rx ry ⟨_, _, px.int, py.int, w.int ss⟩
  · cases e
theorem smallI_ok {i : Int} (h : smallI i = true) : -(2 ^ 64) < i ∧ i < 2 ^ 64 := of_decide_eq_true h
theorem op_pMul (hK : X.K = G.K) : OpR X (binaryOp .Mult) (rOp2 G .fr pMul) := by
  intro pins s σ H x y v u Q I rx ry h
  obtain ⟨S, dx, dy, d, ss, px, py, e, w⟩ := h
  unfold pMul at e
  split at e
  · split at e
    · rename_i hz
      cases e
      refine op_mul pins s σ H x y v u Q I rx ry ⟨_, _, px.int, py.int, ?_, w.int ss⟩
      rw [Bool.or_eq_true] at hz
      exact hz.elim (fun h => .inl (smallI_ok h)) fun h => .inr (smallI_ok h)
    · cases e
  · rename_i xs k
    split at e
    · rename_i hz
      cases e
      rw [Bool.and_eq_true, decide_eq_true_eq, decide_eq_true_eq] at hz
      obtain ⟨a, vs, rfl, q, z, r⟩ := px.list ss
      have k1 := r.length
      have ey := py.int
      subst ey
      cases rx
      obtain ⟨t, rfl⟩ := ry
      obtain ⟨_, its, n, rv, e1⟩ := lst_ok I q
      have hl := rv.length
      have hzz : vs.length * k.toNat ≤ sizeLine := by rw [← k1, line_eq]; exact hz.2
      have hlen : its.toArray.size * k.toNat ≤ sizeLine := by rw [List.size_toArray, ← hl]; exact hzz
      have hcap : ¬ its.toArray.size * k.toNat > (2 ^ 63 - 1) / 8 := by
        have : (sizeLine : Nat) ≤ (2 ^ 63 - 1) / 8 := by decide
        omega
      have hfit : ¬ (!Builtin.List.listFitsIndex k) = true := by
        rw [fitsIndex_both hz.1.1 hz.1.2]
        exact Bool.false_ne_true
      have hlong : ¬ Builtin.List.listTooLong (its.toArray.size * k.toNat) = true := by
        rw [notLongL hlen]
        exact Bool.false_ne_true
      have hnew : List.foldl (fun x1 x2 => x1 ++ x2) #[] (List.replicate (if its.toArray.isEmpty = true then 0 else k.toNat) its.toArray) = (List.replicate k.toNat its).flatten.toArray := by
        have f0 : ∀ m : Nat, List.foldl (fun x1 x2 => x1 ++ x2) #[] (List.replicate m its.toArray) = (List.replicate m its).flatten.toArray := fun m => by
          have := foldl_rep its m []
          rw [List.nil_append] at this
          exact this
        rw [f0]
        cases its with
        | nil => simp
        | cons a r' => rw [if_neg (by simp)]
      refine wpAny_binaryOp_repeat_ref (T := "list") (U := "int") (by decide) ⟨_, e1, rfl⟩ (fun s' => typeIs_int s' k t) noFill_list_mul F.fills_int_mul F.slot_int_rmul repeat_list F.slot_int_index.lookup
        (call_meets F.slot_int_rmul (typeIs_int s k t) F.entry_int_rmul (F.args_int_rmul_2 _ _) (int___rmul___int_list k t a its.toArray n)
          ⟨e1, rfl, ⟨_, e1, rfl⟩, call_meets F.slot_list_mul ⟨_, e1, rfl⟩ F.entry_list_mul (F.args_list_mul_2 _ _) (AutoListH.list___mul___list_int_3 a its.toArray n k t hfit hcap hlong) ⟨e1, ?_⟩⟩)
      rw [hnew]
      have hfl : (List.replicate k.toNat vs).flatten.length ≤ sizeLine := by rw [PyProof.Rows.lm_len_rep_flat, Nat.mul_comm]; exact hzz
      exact ⟨.ref _, _, I.lnew (t' := s.toks) (rv.rep k.toNat) hfl, rfl, w.list ss (r.flat _) hfl _ I.fresh⟩
    · cases e
  · rename_i xs k
    split at e
    · rename_i hz
      cases e
      rw [decide_eq_true_eq] at hz
      obtain ⟨hz1, hz2, hz3, hz4⟩ := hz
      obtain ⟨a, vs, ex, q, z, r⟩ := px.tuple ss
      have k1 := r.length
      have hne : vs ≠ [] := fun e0 => hz2 (List.length_eq_zero_iff.mp (by rw [k1, e0]; rfl))
      refine op_repT pins s σ H x y v u Q I rx ry ⟨a, k, vs, ex, py.int, by rw [hK]; exact q, hne, hz3, hz4, by omega, w.tuple ss (r.flat _) ?_⟩
      rw [PyProof.Rows.lm_len_rep_flat, line_eq]
      have h1 : vs.length ≤ 1000 := by omega
      have h2 : k.toNat ≤ 1000 := by omega
      have := Nat.mul_le_mul h2 h1
      show _ ≤ 16777216
      omega
    · cases e
  · cases e
theorem op_pFdiv : OpR X (binaryOp .FloorDiv) (rOp2 G .fr pFdiv) := by
  intro pins s σ H x y v u Q I rx ry h
  obtain ⟨S, dx, dy, d, ss, px, py, e, w⟩ := h
  unfold pFdiv at e
  split at e
  · split at e
    · rename_i hz
      cases e
      exact op_fdiv pins s σ H x y v u Q I rx ry ⟨_, _, px.int, py.int, hz, w.int ss⟩
    · cases e
  · cases e
theorem op_pMod : OpR X (binaryOp .Mod) (rOp2 G .fr pMod) := by
  intro pins s σ H x y v u Q I rx ry h
  obtain ⟨S, dx, dy, d, ss, px, py, e, w⟩ := h
  unfold pMod at e
  split at e
  · split at e
    · rename_i hz
      cases e
      exact op_mod pins s σ H x y v u Q I rx ry ⟨_, _, px.int, py.int, hz, w.int ss⟩
    · cases e
  · cases e
theorem op_pPow : OpR X (binaryOp .Pow) (rOp2 G .fr pPow) := by
  intro pins s σ H x y v u Q I rx ry h
  obtain ⟨S, dx, dy, d, ss, px, py, e, w⟩ := h
  unfold pPow at e
  split at e
  · split at e
    · rename_i hz
      cases e
      exact op_pow pins s σ H x y v u Q I rx ry ⟨_, _, px.int, py.int, hz, w.int ss⟩
    · cases e
  · cases e
end
inductive Op where
  | add | sub | mul | fdiv | mod | pow
  deriving DecidableEq
def Op.f : Op → D → D → Option D
  | .add => pAdd | .sub => pSub | .mul => pMul | .fdiv => pFdiv | .mod => pMod | .pow => pPow
def Op.o : Op → Operator
  | .add => .Add | .sub => .Sub | .mul => .Mult | .fdiv => .FloorDiv | .mod => .Mod | .pow => .Pow
theorem op_ok {X : Cx} {G : Gx} (hK : X.K = G.K) : ∀ o : Op, OpR X (binaryOp o.o) (rOp2 G .fr o.f)
  | .add => op_pAdd hK | .sub => op_pSub | .mul => op_pMul hK | .fdiv => op_pFdiv | .mod => op_pMod | .pow => op_pPow
end Ev

set_option Elab.async false
set_option linter.all false
set_option maxRecDepth 100000
set_option maxHeartbeats 4000000
/-! Ev, part D: comparisons. -/
namespace Ev
open PySem PySem.Spec PyProof.Rows L2 PySem.W

def pEq (x y : D) : Option D := if dOk 64 x && dOk 64 y then some (.bool (PyData.eqv x y)) else .none
def pNe (x y : D) : Option D := if dOk 64 x && dOk 64 y then some (.bool (!PyData.eqv x y)) else .none
def notNone : D → Bool
  | .none => false
  | _ => true
def pLt : D → D → Option D
  | .int i, .int j => some (.bool (decide (i < j)))
  | .str x, .str y => some (.bool (decide (x.cps.toList < y.cps.toList)))
  | x, y => if alike x y && (notNone x && (dOk 64 x && dOk 64 y)) then some (.bool (dataLt x y)) else .none
def pLe : D → D → Option D
  | .int i, .int j => some (.bool (decide (i ≤ j)))
  | .str x, .str y => some (.bool (!decide (y.cps.toList < x.cps.toList)))
  | _, _ => .none
def pGt : D → D → Option D
  | .int i, .int j => some (.bool (decide (j < i)))
  | .str x, .str y => some (.bool (decide (y.cps.toList < x.cps.toList)))
  | _, _ => .none
def pGe : D → D → Option D
  | .int i, .int j => some (.bool (decide (j ≤ i)))
  | .str x, .str y => some (.bool (!decide (x.cps.toList < y.cps.toList)))
  | _, _ => .none
def isNone : D → Bool
  | .none => true
  | _ => false
def pIs (x y : D) : Option D := if isNone y then some (.bool (isNone x)) else .none
def pIsNot (x y : D) : Option D := if isNone y then some (.bool (!isNone x)) else .none
def keyOf : D → Option Key
  | .int i => some (.inl i)
  | .str x => some (.inr x)
  | _ => .none
def dHas (kvs : List (D × D)) (k : D) : Bool := kvs.any fun p => PyData.eqv p.1 k
section
variable {X : Cx} {G : Gx}
theorem op_pEq (hK : X.K = G.K) (hu : X.A.units + 64 < cLine) : OpR X (compareOp .Eq) (rOp2 G .fr pEq) := by
  intro pins s σ H x y v u Q I rx ry h
  obtain ⟨S, dx, dy, d, ss, px, py, e, w⟩ := h
  unfold pEq at e
  split at e
  · rename_i hz
    cases e
    rw [Bool.and_eq_true] at hz
    exact op_eqD hu pins s σ H x y v u Q I rx ry ⟨_, _, by rw [hK]; exact (px.dp ss hz.1).1, by rw [hK]; exact (py.dp ss hz.2).1, px.shaped ss hz.1, py.shaped ss hz.2, w.bool ss⟩
  · cases e
theorem op_pNe (hK : X.K = G.K) (hu : X.A.units + 64 < cLine) : OpR X (compareOp .NotEq) (rOp2 G .fr pNe) := by
  intro pins s σ H x y v u Q I rx ry h
  obtain ⟨S, dx, dy, d, ss, px, py, e, w⟩ := h
  unfold pNe at e
  split at e
  · rename_i hz
    cases e
    rw [Bool.and_eq_true] at hz
    exact op_neD hu pins s σ H x y v u Q I rx ry ⟨_, _, by rw [hK]; exact (px.dp ss hz.1).1, by rw [hK]; exact (py.dp ss hz.2).1, px.shaped ss hz.1, py.shaped ss hz.2, w.bool ss⟩
  · cases e
theorem op_pLt (hK : X.K = G.K) (hu : X.A.units + 64 < cLine) : OpR X (compareOp .Lt) (rOp2 G .fr pLt) := by
  intro pins s σ H x y v u Q I rx ry h
  obtain ⟨S, dx, dy, d, ss, px, py, e, w⟩ := h
  unfold pLt at e
  split at e
  · cases e
    exact op_lt pins s σ H x y v u Q I rx ry ⟨_, _, px.int, py.int, w.bool ss⟩
  · cases e
    exact op_lt_str pins s σ H x y v u Q I rx ry ⟨_, _, px.str.1, py.str.1, w.bool ss⟩
  · split at e
    · rename_i hz
      cases e
      simp only [Bool.and_eq_true] at hz
      obtain ⟨h1, h2, h3, h4⟩ := hz
      obtain ⟨q1, q2, q3⟩ := px.dp ss h3
      obtain ⟨r1, r2, r3⟩ := py.dp ss h4
      rw [← hK] at q1 r1
      obtain ⟨as, k1⟩ := Dp.reads I _ x v q1 rx
      obtain ⟨bs, k2⟩ := Dp.reads I _ y u r1 ry
      have hn : dx ≠ .none := fun e0 => by subst e0; simp [notNone] at h2
      have hr := rcLt_alike dx dy X.A s v u as bs k1 k2 h1 hn (by omega)
      exact hr X.prog X.w X.xe _ ⟨.bl _, H, I, rfl, w.bool ss⟩
    · cases e
theorem op_pLe : OpR X (compareOp .LtE) (rOp2 G .fr pLe) := by
  intro pins s σ H x y v u Q I rx ry h
  obtain ⟨S, dx, dy, d, ss, px, py, e, w⟩ := h
  unfold pLe at e
  split at e
  · cases e
    exact op_le pins s σ H x y v u Q I rx ry ⟨_, _, px.int, py.int, w.bool ss⟩
  · cases e
    exact op_le_str pins s σ H x y v u Q I rx ry ⟨_, _, px.str.1, py.str.1, w.bool ss⟩
  · cases e
theorem op_pGt : OpR X (compareOp .Gt) (rOp2 G .fr pGt) := by
  intro pins s σ H x y v u Q I rx ry h
  obtain ⟨S, dx, dy, d, ss, px, py, e, w⟩ := h
  unfold pGt at e
  split at e
  · cases e
    exact op_gt pins s σ H x y v u Q I rx ry ⟨_, _, px.int, py.int, w.bool ss⟩
  · cases e
    exact op_gt_str pins s σ H x y v u Q I rx ry ⟨_, _, px.str.1, py.str.1, w.bool ss⟩
  · cases e
theorem op_pGe : OpR X (compareOp .GtE) (rOp2 G .fr pGe) := by
  intro pins s σ H x y v u Q I rx ry h
  obtain ⟨S, dx, dy, d, ss, px, py, e, w⟩ := h
  unfold pGe at e
  split at e
  · cases e
    exact op_ge pins s σ H x y v u Q I rx ry ⟨_, _, px.int, py.int, w.bool ss⟩
  · cases e
    exact op_ge_str pins s σ H x y v u Q I rx ry ⟨_, _, px.str.1, py.str.1, w.bool ss⟩
  · cases e
theorem Pb.isNone {S H : Hp} {d : D} {v : V} (h : Pb G S H d v) : decide (v = .non) = isNone d := by
  rcases h with h | ⟨a, e, w⟩
  · cases d <;> simp only [Rep] at h
    · subst h; rfl
    · subst h; rfl
    · subst h; rfl
    · obtain ⟨rfl, _⟩ := h; rfl
    · obtain ⟨a, vs, rfl, _⟩ := h; rfl
    · obtain ⟨a, vs, rfl, _⟩ := h; rfl
    · obtain ⟨a, vs, rfl, _⟩ := h; rfl
  · subst e
    have k := w.mut
    cases d <;> first | rfl | (simp [isMut] at k)
theorem isNone_eq {d : D} (h : isNone d = true) : d = .none := by
  cases d <;> first | rfl | (simp [isNone] at h)
theorem op_pIs : OpR X (compareOp .Is) (rOp2 G .fr pIs) := by
  intro pins s σ H x y v u Q I rx ry h
  obtain ⟨S, dx, dy, d, ss, px, py, e, w⟩ := h
  unfold pIs at e
  split at e
  · rename_i hz
    cases e
    rw [isNone_eq hz] at py
    exact op_isN pins s σ H x y v u Q I rx ry ⟨py.none, by rw [px.isNone]; exact w.bool ss⟩
  · cases e
theorem op_pIsNot : OpR X (compareOp .IsNot) (rOp2 G .fr pIsNot) := by
  intro pins s σ H x y v u Q I rx ry h
  obtain ⟨S, dx, dy, d, ss, px, py, e, w⟩ := h
  unfold pIsNot at e
  split at e
  · rename_i hz
    cases e
    rw [isNone_eq hz] at py
    exact op_notN pins s σ H x y v u Q I rx ry ⟨py.none, by rw [px.isNone]; exact w.bool ss⟩
  · cases e
/-! ### dicts -/
def dGet (kvs : List (D × D)) (k : D) : Option D := (kvs.find? fun p => PyData.eqv p.1 k).map Prod.snd
def dPut (kvs : List (D × D)) (k d : D) : List (D × D) := if dHas kvs k then kvs.map (fun p => if PyData.eqv p.1 k then (p.1, d) else p) else kvs ++ [(k, d)]
theorem eqv_keyD (a b : Key) : PyData.eqv (keyD a) (keyD b) = decide (a = b) := by
  cases a with
  | inl i => cases b with
    | inl j => simp only [keyD, PyData.eqv]; rw [Bool.eq_iff_iff]; simp
    | inr y => simp [keyD, PyData.eqv]
  | inr x => cases b with
    | inl j => simp [keyD, PyData.eqv]
    | inr y => simp only [keyD, PyData.eqv]; rw [Bool.eq_iff_iff]; simp
theorem eqvAll_keyD : ∀ a b : List Key, PyData.eqvAll (a.map keyD) (b.map keyD) = decide (a = b)
  | [], [] => by simp [PyData.eqvAll]
  | [], _ :: _ => by simp [PyData.eqvAll]
  | _ :: _, [] => by simp [PyData.eqvAll]
  | x :: a, y :: b => by
    simp only [List.map_cons, PyData.eqvAll, eqv_keyD, eqvAll_keyD a b]
    rw [Bool.eq_iff_iff]; simp
theorem eqv_keyT (a b : List Key) : PyData.eqv (keyT a) (keyT b) = decide (a = b) := by
  unfold keyT
  simp only [PyData.eqv, eqvAll_keyD]
section
variable {κ : Type} [DecidableEq κ] {enc : κ → D} {S : Hp}
/-- the entries of a dict's data and of its object -/
def Ents (G : Gx) (S : Hp) (enc : κ → D) (kvs : List (D × D)) (ps : List (κ × V)) : Prop := kvs.map Prod.fst = ps.map (fun p => enc p.1) ∧ RepP G S kvs (ps.map Prod.snd)
theorem Ents.nil : Ents G S enc [] [] := ⟨rfl, by simp only [List.map_nil, RepP]⟩
theorem Ents.cons {k : κ} {d : D} {v : V} {kvs : List (D × D)} {ps : List (κ × V)} (h : Rep G S d v) (t : Ents G S enc kvs ps) : Ents G S enc ((enc k, d) :: kvs) ((k, v) :: ps) :=
  ⟨by simp [t.1], by simp only [List.map_cons, RepP]; exact ⟨v, _, rfl, h, t.2⟩⟩
theorem Ents.inv {p : D × D} {kvs : List (D × D)} {ps : List (κ × V)} (t : Ents G S enc (p :: kvs) ps) : ∃ k v r, ps = (k, v) :: r ∧ p.1 = enc k ∧ Rep G S p.2 v ∧ Ents G S enc kvs r := by
  obtain ⟨e, r⟩ := t
  cases ps with
  | nil => simp at e
  | cons q ps =>
    simp only [List.map_cons, List.cons.injEq] at e
    simp only [List.map_cons, RepP] at r
    obtain ⟨v, r', e2, h1, h2⟩ := r
    injection e2 with e3 e4
    subst e3 e4
    exact ⟨q.1, q.2, ps, rfl, e.1, h1, e.2, h2⟩
theorem Ents.nil_inv {ps : List (κ × V)} (t : Ents G S enc [] ps) : ps = [] := by
  obtain ⟨e, _⟩ := t
  cases ps with
  | nil => rfl
  | cons q ps => simp at e
theorem Ents.look (heq : ∀ a b, PyData.eqv (enc a) (enc b) = decide (a = b)) (k : κ) : ∀ {kvs : List (D × D)} {ps : List (κ × V)}, Ents G S enc kvs ps →
    (dGet kvs (enc k) = none ∧ valV ps k = none) ∨ ∃ d v, dGet kvs (enc k) = some d ∧ valV ps k = some v ∧ Rep G S d v
  | [], ps, t => by rw [t.nil_inv]; exact .inl ⟨rfl, rfl⟩
  | p :: kvs, ps, t => by
    obtain ⟨k', v, r, rfl, e1, h, t'⟩ := t.inv
    by_cases hk : k' = k
    · refine .inr ⟨p.2, v, ?_, ?_, h⟩
      · unfold dGet
        rw [List.find?_cons, e1, heq, decide_eq_true hk]; rfl
      · exact valV_pos hk
    · have e2 : dGet (p :: kvs) (enc k) = dGet kvs (enc k) := by
        unfold dGet
        rw [List.find?_cons, e1, heq, decide_eq_false hk]
      rw [e2, valV_neg (p := (k', v)) hk]
      exact Ents.look heq k t'
theorem dGet_has (kvs : List (D × D)) (k : D) : dHas kvs k = (dGet kvs k).isSome := by
  unfold dHas dGet
  induction kvs with
  | nil => rfl
  | cons p r ih =>
    rw [List.any_cons, List.find?_cons]
    cases PyData.eqv p.1 k with
    | true => rfl
    | false => rw [Bool.false_or, ih]
theorem Ents.length {kvs : List (D × D)} {ps : List (κ × V)} (t : Ents G S enc kvs ps) : kvs.length = ps.length := by
  have := congrArg List.length t.1
  simpa using this
theorem Ents.app {kvs kvs' : List (D × D)} {ps ps' : List (κ × V)} (t : Ents G S enc kvs ps) (u : Ents G S enc kvs' ps') : Ents G S enc (kvs ++ kvs') (ps ++ ps') := by
  refine ⟨by rw [List.map_append, List.map_append, t.1, u.1], ?_⟩
  rw [RepP.toL, List.map_append, List.map_append]
  exact (RepP.toL.mp t.2).append (RepP.toL.mp u.2)
theorem Ents.put (heq : ∀ a b, PyData.eqv (enc a) (enc b) = decide (a = b)) {k : κ} {d : D} {v : V} (h : Rep G S d v) {kvs : List (D × D)} {ps : List (κ × V)} (t : Ents G S enc kvs ps) : Ents G S enc (dPut kvs (enc k) d) (putK ps k v) := by
  have hany : (ps.any fun kv => decide (kv.1 = k)) = dHas kvs (enc k) := by
    rw [dGet_has, valV_any]
    rcases t.look heq k with ⟨e1, e2⟩ | ⟨d', v', e1, e2, _⟩ <;> rw [e1, e2] <;> rfl
  unfold dPut putK
  rw [hany]
  split
  · rename_i hh
    clear hany hh
    induction kvs generalizing ps with
    | nil => rw [t.nil_inv]; exact .nil
    | cons p r ih =>
      obtain ⟨k', v', r', rfl, e1, h', t'⟩ := t.inv
      rw [List.map_cons, List.map_cons]
      by_cases hk : k' = k
      · rw [if_pos (by rw [e1, heq]; exact decide_eq_true hk), if_pos hk, e1]
        exact .cons h (ih t')
      · rw [if_neg (by rw [e1, heq, decide_eq_false hk]; exact Bool.false_ne_true), if_neg hk]
        have := Ents.cons (k := k') h' (ih t')
        rw [← e1] at this
        exact this
  · exact t.app (.cons h .nil)
theorem Ents.same {S' : Hp} (s : Same S S') {kvs : List (D × D)} {ps : List (κ × V)} (t : Ents G S enc kvs ps) : Ents G S' enc kvs ps := ⟨t.1, t.2.same s⟩
end
theorem KindAt.k {S : Hp} {kvs : List (D × D)} {vs : List V} {R : HO → Prop} (r : RepP G S kvs vs) (h : KindAt false kvs vs R) : ∃ ps, Ents G S keyD kvs ps ∧ vs = ps.map Prod.snd ∧ R (.dK ps) := by
  obtain ⟨ps, h1, h2, h3⟩ := h
  subst h2
  exact ⟨ps, ⟨h1, r⟩, rfl, h3⟩
theorem KindAt.t {S : Hp} {kvs : List (D × D)} {vs : List V} {R : HO → Prop} (r : RepP G S kvs vs) (h : KindAt true kvs vs R) : ∃ ps, Ents G S keyT kvs ps ∧ vs = ps.map Prod.snd ∧ R (.dT ps) := by
  obtain ⟨ps, h1, h2, h3⟩ := h
  subst h2
  exact ⟨ps, ⟨h1, r⟩, rfl, h3⟩
theorem Pb.dict {S H : Hp} (s : Same S H) {t : Bool} {kvs : List (D × D)} {v : V} (h : Pb G S H (dB t kvs) v) : ∃ a vs, v = .ref a ∧ RepP G S kvs vs ∧ vs.length ≤ sizeLine ∧ KindAt t kvs vs (Rd H a) := by
  rcases h with h | ⟨a, e, ⟨ds', e1, _⟩ | ⟨t', kvs', e1, vs, r, z, q⟩⟩
  · obtain ⟨a, vs, e, r, z, q⟩ := rep_dB.mp h
    exact ⟨a, vs, e, r, z, q.imp fun o x => rd_same s x⟩
  · cases e1
  · unfold dB at e1
    simp only [PyData.dict.injEq, List.cons.injEq, Prod.mk.injEq, PyData.bool.injEq, and_true] at e1
    obtain ⟨e2, e3⟩ := e1
    subst e2 e3
    exact ⟨a, vs, e, r, z, q.imp fun o x => .inl x⟩
/-- a datum as a key -/
def keysOf : List D → Option (List Key)
  | [] => some []
  | d :: ds => (keyOf d).bind fun k => (keysOf ds).map fun r => k :: r
theorem keyOf_ok {d : D} {k : Key} (h : keyOf d = some k) : d = keyD k := by
  cases d <;> simp [keyOf] at h <;> subst h <;> rfl
theorem keysOf_ok : ∀ {ds : List D} {ks : List Key}, keysOf ds = some ks → ds = ks.map keyD
  | [], ks, h => by simp [keysOf] at h; subst h; rfl
  | d :: ds, ks, h => by
    simp only [keysOf, Option.bind_eq_some_iff, Option.map_eq_some_iff] at h
    obtain ⟨k, h1, r, h2, rfl⟩ := h
    rw [keyOf_ok h1, keysOf_ok h2]; rfl
theorem rep_keyD {S : Hp} {k : Key} {v : V} (h : Rep G S (keyD k) v) : v = kV k := by
  cases k with
  | inl i => simp only [keyD, Rep] at h; exact h
  | inr x => simp only [keyD, Rep] at h; exact h.1
theorem repL_keyD {S : Hp} : ∀ {ks : List Key} {vs : List V}, RepL G S (ks.map keyD) vs → vs = ks.map kV
  | [], vs, h => by rw [h.nil_inv]; rfl
  | k :: ks, vs, h => by
    obtain ⟨v, r, rfl, q, t⟩ := h.cons_inv
    rw [rep_keyD q, repL_keyD t]; rfl
theorem rep_keyT {S : Hp} {ks : List Key} {v : V} (h : Rep G S (keyT ks) v) (n : inKt G.kt (keyT ks) = false) : ∃ b, v = .ref b ∧ S b = some (.tup (ks.map kV)) := by
  unfold keyT at h
  simp only [Rep] at h
  obtain ⟨a, vs, e, q, z, r⟩ := h
  have e2 := repL_keyD r
  subst e2
  refine ⟨a, e, q.elim id fun x => ?_⟩
  have := x.1
  unfold keyT at n
  rw [n] at this; cases this
/-- a key for a dict of that kind: not one of the module's own tuples -/
def keyFit (kt : List D) : Bool → D → Bool
  | false, d => (keyOf d).isSome
  | true, .tuple ds => (keysOf ds).isSome && !inKt kt (.tuple ds)
  | true, _ => false
theorem keyFit_f {kt : List D} {d : D} (h : keyFit kt false d = true) : ∃ k, d = keyD k := by
  obtain ⟨k, e⟩ := Option.isSome_iff_exists.mp (show (keyOf d).isSome = true from h)
  exact ⟨k, keyOf_ok e⟩
theorem keyFit_t {kt : List D} {d : D} (h : keyFit kt true d = true) : ∃ k, d = keyT k ∧ inKt kt (keyT k) = false := by
  cases d <;> simp [keyFit] at h
  obtain ⟨h1, h2⟩ := h
  obtain ⟨k, e⟩ := Option.isSome_iff_exists.mp h1
  have e2 := keysOf_ok e
  subst e2
  exact ⟨k, rfl, h2⟩
/-- what a look into a dict gives, of the data and of the object -/
theorem dget_ok {S H : Hp} (ss : Same S H) {t : Bool} {kvs : List (D × D)} {k : D} {v y : V} (px : Pb G S H (dB t kvs) v) (py : Rep G S k y) (f : keyFit G.kt t k = true) :
    ∃ a, v = .ref a ∧ IsD H a ∧ ((dGet kvs k = none ∧ DGet H a y none) ∨ ∃ d z, dGet kvs k = some d ∧ DGet H a y (some z) ∧ Rep G S d z) := by
  obtain ⟨a, vs, e, r, _, q⟩ := px.dict ss
  cases t with
  | false =>
    obtain ⟨k', rfl⟩ := keyFit_f f
    obtain ⟨ps, en, _, rd⟩ := q.k r
    have ey := rep_keyD py
    subst ey
    refine ⟨a, e, .inl ⟨_, rd⟩, ?_⟩
    rcases en.look eqv_keyD k' with ⟨e1, e2⟩ | ⟨d, z, e1, e2, rr⟩
    · exact .inl ⟨e1, .inl ⟨ps, k', rd, rfl, e2.symm⟩⟩
    · exact .inr ⟨d, z, e1, .inl ⟨ps, k', rd, rfl, e2.symm⟩, rr⟩
  | true =>
    obtain ⟨k', rfl, nk⟩ := keyFit_t f
    obtain ⟨ps, en, _, rd⟩ := q.t r
    obtain ⟨b, ey, hb⟩ := rep_keyT py nk
    subst ey
    have hb' := ss _ _ hb
    refine ⟨a, e, .inr ⟨_, rd⟩, ?_⟩
    rcases en.look eqv_keyT k' with ⟨e1, e2⟩ | ⟨d, z, e1, e2, rr⟩
    · exact .inl ⟨e1, .inr ⟨ps, k', b, rd, rfl, hb', e2.symm⟩⟩
    · exact .inr ⟨d, z, e1, .inr ⟨ps, k', b, rd, rfl, hb', e2.symm⟩, rr⟩
end
end Ev

set_option Elab.async false
set_option linter.all false
set_option maxRecDepth 100000
set_option maxHeartbeats 4000000
/-! Ev, part E: in, indices, slices, one-place operators. -/
namespace Ev
open PySem PySem.Spec PyProof.Rows L2 PySem.W

abbrev Pg (G : Gx) (S H : Hp) (d : D) (v : V) : Prop := Pm .bg G H S H d v
section
variable {G : Gx} {S S' H H' : Hp} {v : V} {m : Md}
/-- what a look at it gives -/
theorem Pg.cases {d : D} (h : Pg G S H d v) : Pb G S H d v ∨ TupAt G S d v := by
  rcases h with h | h | h
  · exact .inl (.inl h)
  · exact .inl (.inr h)
  · exact .inr h
theorem Pg.list (s : Same S H) {ds : List D} (h : Pg G S H (.list ds) v) : ∃ a vs, v = .ref a ∧ Rd H a (.lst vs) ∧ vs.length ≤ sizeLine ∧ RepL G S ds vs := by
  rcases h.cases with h | ⟨_, _, _, _, e, _⟩
  · exact h.list s
  · cases e
theorem Pg.tuple (s : Same S H) {ds : List D} (h : Pg G S H (.tuple ds) v) : ∃ a vs, v = .ref a ∧ SqT G.K H a vs ∧ vs.length ≤ sizeLine ∧ RepL G S ds vs := by
  rcases h.cases with h | ⟨a, ds', vs, e, e1, q, z, r⟩
  · exact h.tuple s
  · cases e1
    exact ⟨a, vs, e, .inr q, z, r⟩
theorem Pg.flat {d : D} (h : Pg G S H d v) (n : isMut d = false) (k : ∀ ds, d ≠ .tuple ds) : Rep G S d v := by
  rcases h.cases with h | ⟨_, ds, _, _, e, _⟩
  · exact h.rep n
  · exact absurd e (k ds)
theorem Pg.str {x : Str} (h : Pg G S H (.str x) v) : v = .str x ∧ x.length ≤ sizeLine ∧ PyData.strOk x = true := by simpa only [Rep] using h.flat rfl fun _ e => by cases e
theorem Pg.dict (s : Same S H) {t : Bool} {kvs : List (D × D)} (h : Pg G S H (dB t kvs) v) : Pb G S H (dB t kvs) v := by
  rcases h.cases with h | ⟨_, ds, _, _, e, _⟩
  · exact h
  · cases e
theorem Pg.dp (s : Same S H) {d : D} (h : Pg G S H d v) {n : Nat} (k : dOk n d = true) : Dp G.K H v d ∧ PyData.canLay0 d = true ∧ d.depth ≤ n := by
  rcases h.cases with h | ⟨a, ds', vs, e, e1, q, z, r⟩
  · exact h.dp s k
  · subst e1
    cases n with
    | zero => simp [dOk] at k
    | succ n =>
      obtain ⟨h1, h2, h3⟩ := dOkL.lay n ds' vs (by simpa only [dOk] using k) r
      exact ⟨by rw [e]; exact .tup (.inr q) (dpAll_same s _ _ h1), by simpa [PyData.canLay0] using h2, by simp [PyData.depth]; omega⟩
theorem Pg.shaped (s : Same S H) {d : D} (h : Pg G S H d v) (k : dOk 64 d = true) : SeqAt.shaped d = true := by
  obtain ⟨_, h1, h2⟩ := h.dp s k
  unfold SeqAt.shaped
  rw [h1, Bool.true_and]
  exact decide_eq_true h2
end
def rOpM (G : Gx) (m1 m2 m : Md) (f : D → D → Option D) : R2 := fun x y H Q => ∃ S dx dy d, Same S H ∧ Pm m1 G H S H dx x ∧ Pm m2 G H S H dy y ∧ f dx dy = some d ∧ Wt G m S H d Q
/-! ### in -/
def oneSign : Str → Option Nat
  | ⟨⟨[c]⟩⟩ => some c
  | _ => none
theorem oneSign_ok {x : Str} {c : Nat} (h : oneSign x = some c) : x = ⟨#[c]⟩ := by
  obtain ⟨⟨l⟩⟩ := x
  match l, h with
  | [c'], h =>
    have : c' = c := Option.some.inj h
    rw [this]
def dIn (kt : List D) (x : D) : D → Option Bool
  | .list ys => if dOk 64 x && dOk 64 (.list ys) then some (ys.any fun z => PyData.eqv z x) else .none
  | .tuple ys => if dOk 64 x && dOk 64 (.tuple ys) then some (ys.any fun z => PyData.eqv z x) else .none
  | .str y => match x with
    | .str x => (oneSign x).map fun c => decide (c ∈ y.cps.toList)
    | _ => .none
  | .dict ((.bool t, .none) :: kvs) => if keyFit kt t x then some (dGet kvs x).isSome else .none
  | _ => .none
def pIn (kt : List D) (x c : D) : Option D := (dIn kt x c).map .bool
def pNotIn (kt : List D) (x c : D) : Option D := (dIn kt x c).map fun b => .bool (!b)
section
variable {X : Cx} {G : Gx}
theorem in_core (hK : X.K = G.K) (hu : X.A.units + 65 < cLine) {pins : List (Addr × Obj)} {s : Shared} {σ : L2.St} {H S : Hp} {x y : V} {v u : Value} {Q : VK} {dx dy : D} {b : Bool} {n : Bool}
    (I : Inv X pins σ H s) (rx : RelV x v) (ry : RelV y u) (ss : Same S H) (px : Pb G S H dx x) (py : Pg G S H dy y) (e : dIn G.kt dx dy = some b) (q : Q (.bl (n ^^ b)) H) :
    wpAny (model X.prog X.w) X.A (compareOp (if n then .NotIn else .In) v u) (EP X pins σ Q) X.xe s := by
  unfold dIn at e
  split at e
  · rename_i ys
    split at e
    · rename_i hz
      cases e
      rw [Bool.and_eq_true] at hz
      have d1 := (px.dp ss hz.1).1
      have d2 := (py.dp ss hz.2).1
      rw [← hK] at d1 d2
      obtain ⟨as, r1⟩ := Dp.reads I _ x v d1 rx
      obtain ⟨bs, r2⟩ := Dp.reads I (.list ys) y u d2 ry
      have s1 := px.shaped ss hz.1
      have s2 := py.shaped ss hz.2
      cases n with
      | false => exact SeqAt.in_list_reads r2 r1 (SeqAt.canLay_of_shaped s2) (SeqAt.canLay_of_shaped s1) (room_in_shaped s1 hu) ⟨.bl _, H, I, rfl, by simpa using q⟩
      | true => exact SeqAt.notIn_list_reads r2 r1 (SeqAt.canLay_of_shaped s2) (SeqAt.canLay_of_shaped s1) (room_in_shaped s1 hu) ⟨.bl _, H, I, rfl, by simpa using q⟩
    · cases e
  · rename_i ys
    split at e
    · rename_i hz
      cases e
      rw [Bool.and_eq_true] at hz
      have d1 := (px.dp ss hz.1).1
      have d2 := (py.dp ss hz.2).1
      rw [← hK] at d1 d2
      obtain ⟨as, r1⟩ := Dp.reads I _ x v d1 rx
      obtain ⟨bs, r2⟩ := Dp.reads I (.tuple ys) y u d2 ry
      have s1 := px.shaped ss hz.1
      have s2 := py.shaped ss hz.2
      cases n with
      | false => exact SeqAt.in_tuple_reads r2 r1 (SeqAt.canLay_of_shaped s2) (SeqAt.canLay_of_shaped s1) (room_in_shaped s1 hu) ⟨.bl _, H, I, rfl, by simpa using q⟩
      | true => exact SeqAt.notIn_tuple_reads r2 r1 (SeqAt.canLay_of_shaped s2) (SeqAt.canLay_of_shaped s1) (room_in_shaped s1 hu) ⟨.bl _, H, I, rfl, by simpa using q⟩
    · cases e
  · split at e
    · rename_i y' x'
      obtain ⟨c, hc, e3⟩ := Option.map_eq_some_iff.mp e
      have e2 := oneSign_ok hc
      subst e2
      subst e3
      obtain ⟨ex, _, _⟩ := px.str
      obtain ⟨ey, _, _⟩ := py.str
      cases n with
      | false => exact op_in_sign pins s σ H x y v u Q I rx ry ⟨c, _, ex, ey, by simpa using q⟩
      | true => exact op_notIn_sign pins s σ H x y v u Q I rx ry ⟨c, _, ex, ey, by simpa using q⟩
    · cases e
  · rename_i t kvs
    split at e
    · rename_i hz
      cases e
      have pk : Rep G S dx x := px.rep (by
        cases t with
        | false => obtain ⟨k, rfl⟩ := keyFit_f hz; cases k <;> rfl
        | true => obtain ⟨k, rfl, _⟩ := keyFit_t hz; rfl)
      obtain ⟨a, ey, _, hg⟩ := dget_ok ss (t := t) (kvs := kvs) (Pg.dict ss py) pk hz
      subst ey
      cases ry
      have g : ∃ o, DGet H a x o ∧ o.isSome = (dGet kvs dx).isSome := by
        rcases hg with ⟨e1, e2⟩ | ⟨d, z, e1, e2, _⟩
        · exact ⟨_, e2, by rw [e1]; rfl⟩
        · exact ⟨_, e2, by rw [e1]; rfl⟩
      obtain ⟨o, g, eo⟩ := g
      rw [← eo] at q
      cases n with
      | false => exact d_in (by omega) I g rx fun s3 I3 => ⟨.bl o.isSome, H, I3, rfl, by simpa using q⟩
      | true => exact d_notIn (by omega) I g rx fun s3 I3 => ⟨.bl (!o.isSome), H, I3, rfl, by simpa using q⟩
    · cases e
  · cases e
theorem op_pIn (hK : X.K = G.K) (hu : X.A.units + 65 < cLine) : OpR X (compareOp .In) (rOpM G .bo .bg .fr (pIn G.kt)) := by
  intro pins s σ H x y v u Q I rx ry h
  obtain ⟨S, dx, dy, d, ss, px, py, e, w⟩ := h
  obtain ⟨b, e1, rfl⟩ := Option.map_eq_some_iff.mp e
  exact in_core (n := false) hK hu I rx ry ss px py e1 (by simpa using w.bool ss)
theorem op_pNotIn (hK : X.K = G.K) (hu : X.A.units + 65 < cLine) : OpR X (compareOp .NotIn) (rOpM G .bo .bg .fr (pNotIn G.kt)) := by
  intro pins s σ H x y v u Q I rx ry h
  obtain ⟨S, dx, dy, d, ss, px, py, e, w⟩ := h
  obtain ⟨b, e1, rfl⟩ := Option.map_eq_some_iff.mp e
  exact in_core (n := true) hK hu I rx ry ss px py e1 (by simpa using w.bool ss)
end
/-! ### comparisons, by name -/
inductive Cm where
  | eq | ne | lt | le | gt | ge | is | isnt | isin | notin
  deriving DecidableEq
def Cm.o : Cm → CmpOp
  | .eq => .Eq | .ne => .NotEq | .lt => .Lt | .le => .LtE | .gt => .Gt | .ge => .GtE | .is => .Is | .isnt => .IsNot | .isin => .In | .notin => .NotIn
def Cm.f (kt : List D) : Cm → D → D → Option D
  | .eq => pEq | .ne => pNe | .lt => pLt | .le => pLe | .gt => pGt | .ge => pGe | .is => pIs | .isnt => pIsNot | .isin => pIn kt | .notin => pNotIn kt
/-- the second side may be a tuple of the module -/
def Cm.m : Cm → Md
  | .isin => .bg | .notin => .bg | _ => .bo
theorem cm_ok {X : Cx} {G : Gx} (hK : X.K = G.K) (hu : X.A.units + 65 < cLine) : ∀ o : Cm, OpR X (compareOp o.o) (rOpM G .bo o.m .fr (o.f G.kt))
  | .eq => op_pEq hK (by omega) | .ne => op_pNe hK (by omega) | .lt => op_pLt hK (by omega) | .le => op_pLe | .gt => op_pGt | .ge => op_pGe | .is => op_pIs | .isnt => op_pIsNot
  | .isin => op_pIn hK hu | .notin => op_pNotIn hK hu
/-! ### indices -/
def dAt {α : Type} (xs : List α) (i : Int) : Option α := atI xs i
def pIx (kt : List D) : D → D → Option D
  | .list xs, .int i => dAt xs i
  | .tuple xs, .int i => dAt xs i
  | .str x, .int i => (dAt x.cps.toList i).map fun c => .str ⟨#[c]⟩
  | .dict ((.bool t, .none) :: kvs), k => if keyFit kt t k then dGet kvs k else .none
  | _, _ => .none
theorem atI_rep {G : Gx} {S : Hp} {ds : List D} {vs : List V} {i : Int} {d : D} (r : RepL G S ds vs) (h : dAt ds i = some d) : ∃ v, atI vs i = some v ∧ Rep G S d v := by
  unfold dAt atI at h
  obtain ⟨j, h1, h2⟩ := Option.bind_eq_some_iff.mp h
  obtain ⟨v, e, q⟩ := r.get h2
  refine ⟨v, ?_, q⟩
  unfold atI
  rw [← r.length, h1]
  exact e
theorem strOk_one {x : Str} {c : Nat} (h : PyData.strOk x = true) (hc : c ∈ x.cps.toList) : PyData.strOk ⟨#[c]⟩ = true := by
  unfold PyData.strOk at h ⊢
  rw [Array.all_eq_true'] at h
  have := h c (Array.mem_toList_iff.mp hc)
  simp only [decide_eq_true_eq] at this
  simp [this]
theorem IxR.frz {X : Cx} {G : Gx} {m1 m2 : Md} {f : D → D → Option D} (h : IxR X (rOpM G m1 m2 .fr f)) : IxR X (rOpM G m1 m2 .sh f) := by
  intro value slice pins s σ H x y v u Q I rx ry q hs
  obtain ⟨S, dx, dy, d, ss, px, py, e, w⟩ := q
  exact h value slice pins s σ H x y v u Q I rx ry ⟨S, dx, dy, d, ss, px, py, e, w.fr⟩ hs
theorem ix_dict {X : Cx} (hu : X.A.units + 1 < cLine) : IxR X (fun x y H Q => ∃ a v, x = .ref a ∧ DGet H a y (some v) ∧ Q v H) := by
  intro value slice pins s σ H x y v u Q I rx ry q hs
  obtain ⟨a, z, rfl, g, q⟩ := q
  obtain rfl : v = Value.ref a := rx
  have hT := dict_typeIs I g
  unfold subscriptTail
  refine wpAny_bind ?_
  rw [getitemInPython_of_ne hT.not_modules]
  refine wpAny_bind (wpAny_specialOf hT PySem.F.slot_dict_getitem.lookup ?_)
  have fin : wpAny (model X.prog X.w) X.A (subscripted slice false (.ref a) u) (fun r s₃ => wpAny (model X.prog X.w) X.A (letTemporaryGo value (.ref a) r >>= fun _ => pure r) (EP X pins σ Q) X.xe s₃) X.xe s := by
    rw [hs]
    exact wpAny_operating (wpAny_mono (d_getItem (Q := EP X pins σ Q) hu I g ry fun w' s3 I3 rw' => ⟨z, H, I3, rw', q⟩) (fun r s₃ h₃ => wpAny_bind (wpAny_letTemporaryGo (wpAny_pure h₃))) fun _ _ x => x)
  first
    | exact wpAny_pure (wpAny_bind fin)
    | exact wpAny_bind (wpAny_pure (wpAny_bind fin))
    | exact wpAny_bind fin
section
variable {X : Cx} {G : Gx}
theorem ix_ok (hK : X.K = G.K) (hu : X.A.units + 1 < cLine) : IxR X (rOpM G .bg .bo .sh (pIx G.kt)) := by
  intro value slice pins s σ H x y v u Q I rx ry h hs
  obtain ⟨S, dx, dy, d, ss, px, py, e, w⟩ := h
  have px : Pg G S H dx x := px
  have py : Pb G S H dy y := py
  unfold pIx at e
  split at e
  · obtain ⟨a, vs, ex, q, z, r⟩ := px.list ss
    obtain ⟨z, h1, h2⟩ := atI_rep r e
    exact ix_list value slice pins s σ H x y v u Q I rx ry ⟨a, vs, _, z, ex, py.int, .inl q, h1, w.rep ss h2 (.inr (by intro q; cases q))⟩ hs
  · obtain ⟨a, vs, ex, q, z, r⟩ := px.tuple ss
    obtain ⟨z, h1, h2⟩ := atI_rep r e
    exact ix_tup value slice pins s σ H x y v u Q I rx ry ⟨a, vs, _, z, ex, py.int, by rw [hK]; exact q, h1, w.rep ss h2 (.inr (by intro q; cases q))⟩ hs
  · rename_i x' i _ _
    obtain ⟨c, h1, rfl⟩ := Option.map_eq_some_iff.mp e
    obtain ⟨ex, h2, h3⟩ := px.str
    have hm : c ∈ x'.cps.toList := by
      unfold dAt atI at h1
      obtain ⟨j, _, h5⟩ := Option.bind_eq_some_iff.mp h1
      exact List.mem_of_getElem? h5
    exact ix_str value slice pins s σ H x y v u Q I rx ry ⟨x', i, c, ex, py.int, h2, h1, w.str ss (by show 1 ≤ sizeLine; rw [line_eq]; decide) (strOk_one h3 hm)⟩ hs
  · rename_i t kvs k
    split at e
    · rename_i hz
      have pk : Rep G S dy y := py.rep (by
        cases t with
        | false => obtain ⟨k, rfl⟩ := keyFit_f hz; cases k <;> rfl
        | true => obtain ⟨k, rfl, _⟩ := keyFit_t hz; rfl)
      obtain ⟨a, ex, _, hg⟩ := dget_ok ss (t := t) (kvs := kvs) (Pg.dict ss px) pk hz
      rcases hg with ⟨e1, _⟩ | ⟨d', z, e1, e2, r⟩
      · rw [e1] at e; cases e
      · rw [e1] at e; cases e
        exact ix_dict hu value slice pins s σ H x y v u Q I rx ry ⟨a, z, ex, e2, w.rep ss r (.inr (by intro q; cases q))⟩ hs
    · cases e
  · cases e
end
/-! ### one place -/
def rUn (G : Gx) (m1 m : Md) (f : D → Option D) : V → Hp → VK → Prop := fun x H Q => ∃ S dx d, Same S H ∧ Pm m1 G H S H dx x ∧ f dx = some d ∧ Wt G m S H d Q
def pNeg : D → Option D
  | .int i => some (.int (-i))
  | _ => .none
theorem un_pNeg {X : Cx} {G : Gx} : UnR X (unaryOp .USub) (rUn G .bo .fr pNeg) := by
  intro pins s σ H x v Q I rx h
  obtain ⟨S, dx, d, ss, px, e, w⟩ := h
  have px : Pb G S H dx x := px
  unfold pNeg at e
  split at e
  · cases e
    exact un_neg pins s σ H x v Q I rx ⟨_, px.int, w.int ss⟩
  · cases e
/-! ### slices -/
def cutD {α : Type} (xs : List α) (lo hi : Option Int) : List α := (xs.drop (HT.sIx xs.length 0 lo)).take (HT.sIx xs.length xs.length hi - HT.sIx xs.length 0 lo)
def pCut (lo hi : Option Int) : D → Option D
  | .list xs => some (.list (cutD xs lo hi))
  | .tuple xs => some (.tuple (cutD xs lo hi))
  | .str x => some (.str (cutS x lo hi))
  | _ => .none
def pRev : D → Option D
  | .list xs => some (.list xs.reverse)
  | .tuple xs => some (.tuple xs.reverse)
  | _ => .none
end Ev

set_option Elab.async false
set_option linter.all false
set_option maxRecDepth 100000
set_option maxHeartbeats 400000
/-! Ev, part F: min of a list of alike data. -/
namespace Ev
open PySem PySem.Spec PyProof.Rows L2 PySem.W
/-- the comparison, where Gd holds of the heap -/
def CmpIn (prog : Program) (w : World) (A : Around) (op : CmpOp) (P : Nat → Value → Prop) (bt : Nat → Nat → Bool) (Gd : Heap → Prop) : Prop :=
  ∀ i j vi vj (s : Shared) (Q : Value → Shared → Prop) (E : Value → Shared → Prop), Gd s.heap → P i vi → P j vj → Q (.bool (bt i j)) s → wpAny (model prog w) A (richCompare op vi vj) Q E s
section
variable {prog : Program} {w : World} {A : Around} {R : Result → Shared → Prop} {I S : Addr} {fp wr : List Addr} {n : Nat} {P : Nat → Value → Prop} {St : Nat → Heap → Prop} {Gd : Heap → Prop} {bt : Nat → Nat → Bool}
/-- what the walk and the list at S leave alone keeps Gd -/
def GdOk (Gd : Heap → Prop) (wr : List Addr) (S : Addr) : Prop := ∀ h h' : Heap, Gd h → (∀ b o, b ∉ wr → b ≠ S → h.get? b = some o → h'.get? b = some o) → Gd h'
theorem minName : (toString "min" ++ toString ".loop" : String) = "min.loop" := by decide
theorem min_turns (W : Walks prog w A.in1 I fp wr n P St) (hcmp : CmpIn prog w A.in1 .Lt P bt Gd) (hG : GdOk Gd wr S) (hSf : S ∉ fp) (k : Nat) :
    ∀ (j : Nat) (s : Shared) (vb : Value) (c : Nat), n - (j + 1) = k → j + 1 ≤ n → St (j + 1) s.heap → Gd s.heap → P (argBest bt j) vb →
    s.heap.get? S = some { cls := .type "list", dict := none, data := .seq #[vb, vb] c, slots := #[] } →
    (∀ v h' tk, P (argBest bt (n - 1)) v → (∀ b o, b ∉ wr → b ≠ S → s.heap.get? b = some o → h'.get? b = some o) → R (.ok (.ret v)) { s with heap := h', toks := tk }) →
    codeAny (model prog w) A (.builtin "min.loop" ⟨[.ref I, .none, .ref S], []⟩) R s := by
  have nw : S ∉ wr := fun z => hSf (W.sub _ z)
  have apart : ∀ b ∈ fp, S ≠ b := fun b hb z => hSf (by rw [z]; exact hb)
  induction k with
  | zero =>
    intro j s vb c hk hj st _ pb hS fin
    have en : j + 1 = n := by omega
    subst en
    refine codeAny_builtin F.entry_min_loop ?_
    rw [Around.under_plainId F.plain_min_loop _]
    refine wpAny_bind (wpAny_seqItems hS rfl (wpAny_bind (wpAny_tryCatch (W.done s _ _ st fun h1 tk k1 => ?_))))
    refine wpAny_bind (wpAny_updateSeq (k1 S _ nw hS) rfl (wpAny_bind (wpAny_letGo (wpAny_pure ?_))))
    exact fin vb _ tk pb fun b o hw hb e => (Heap.get?_update_other _ _ (Ne.symm hb)).trans (k1 b o hw e)
  | succ k ih =>
    intro j s vb c hk hj st gd pb hS fin
    have lt : j + 1 < n := by omega
    refine codeAny_builtin F.entry_min_loop ?_
    rw [Around.under_plainId F.plain_min_loop _]
    refine wpAny_bind (wpAny_seqItems hS rfl (wpAny_bind (wpAny_tryCatch (W.item (j + 1) s _ _ lt st fun v h1 tk pv st1 k1 => ?_))))
    have hS1 := k1 S _ nw hS
    have gd1 : Gd h1 := hG _ _ gd fun b o hw _ e => k1 b o hw e
    refine wpAny_bind (wpAny_pure ?_)
    refine wpAny_bind (wpAny_tryCatch (wpAny_holding (wpAny_bind ?_)))
    refine hcmp (j + 1) (argBest bt j) v vb _ _ _ gd1 pv pb ?_
    refine wpAny_bind (wpAny_holding (wpAny_truthy_bool ?_))
    refine wpAny_bind (wpAny_letGo (wpAny_pure ?_))
    cases hb : bt (j + 1) (argBest bt j) with
    | true =>
      refine wpAny_bind ?_
      refine wpAny_updateSeq hS1 rfl (wpAny_bind (wpAny_letGo ?_))
      rw [minName]
      have same : ∀ b o, b ≠ S → h1.get? b = some o → (h1.update S (Obj.mapSeq fun _ => #[v, v])).get? b = some o := fun b o hb' e => (Heap.get?_update_other _ _ (Ne.symm hb')).trans e
      refine wpAny_pure ⟨plainId_quiet F.plain_min_loop _, ih (j + 1) _ v _ (by omega) lt (W.frame _ _ _ st1 fun b hf o e => same b o (Ne.symm (apart b hf)) e) (hG _ _ gd1 fun b o _ hb' e => same b o hb' e)
        (by simp only [argBest, hb, if_true]; exact pv) (Heap.get?_update_self _ hS1 rfl) fun v2 h2 tk2 p2 k2 => ?_⟩
      exact fin v2 h2 tk2 p2 fun b o hw hb' e => k2 b o hw hb' (same b o hb' (k1 b o hw e))
    | false =>
      refine wpAny_bind (wpAny_letGo ?_)
      rw [minName]
      refine wpAny_pure ⟨plainId_quiet F.plain_min_loop _, ih (j + 1) _ vb c (by omega) lt st1 gd1 (by simp only [argBest, hb, Bool.false_eq_true, if_false]; exact pb) hS1 fun v2 h2 tk2 p2 k2 => ?_⟩
      exact fin v2 h2 tk2 p2 fun b o hw hb' e => k2 b o hw hb' (k1 b o hw e)
/-- the first turn takes the first item -/
theorem min_first (W : Walks prog w A.in1 I fp wr n P St) (hcmp : CmpIn prog w A.in1 .Lt P bt Gd) (hG : GdOk Gd wr S) (hSf : S ∉ fp) (hn : 0 < n) {s : Shared} {c : Nat} (st : St 0 s.heap) (gd : Gd s.heap)
    (hS : s.heap.get? S = some { cls := .type "list", dict := none, data := .seq #[] c, slots := #[] })
    (fin : ∀ v h' tk, P (argBest bt (n - 1)) v → (∀ b o, b ∉ wr → b ≠ S → s.heap.get? b = some o → h'.get? b = some o) → R (.ok (.ret v)) { s with heap := h', toks := tk }) :
    codeAny (model prog w) A (.builtin "min.loop" ⟨[.ref I, .none, .ref S], []⟩) R s := by
  have nw : S ∉ wr := fun z => hSf (W.sub _ z)
  refine codeAny_builtin F.entry_min_loop ?_
  rw [Around.under_plainId F.plain_min_loop _]
  refine wpAny_bind (wpAny_seqItems hS rfl (wpAny_bind (wpAny_tryCatch (W.item 0 s _ _ hn st fun v h1 tk pv st1 k1 => ?_))))
  have hS1 := k1 S _ nw hS
  have same : ∀ b o, b ≠ S → h1.get? b = some o → (h1.update S (Obj.mapSeq fun _ => #[v, v])).get? b = some o := fun b o hb' e => (Heap.get?_update_other _ _ (Ne.symm hb')).trans e
  refine wpAny_bind (wpAny_pure ?_)
  refine wpAny_bind ?_
  refine wpAny_updateSeq hS1 rfl ?_
  rw [minName]
  refine wpAny_pure ⟨plainId_quiet F.plain_min_loop _, min_turns W hcmp hG hSf _ 0 _ v _ rfl hn (W.frame _ _ _ st1 fun b hf o e => same b o (fun z => hSf (by rw [← z]; exact hf)) e)
    (hG _ _ (hG _ _ gd fun b o hw _ e => k1 b o hw e) fun b o _ hb' e => same b o hb' e) pv (Heap.get?_update_self _ hS1 rfl) fun v2 h2 tk2 p2 k2 => ?_⟩
  exact fin v2 h2 tk2 p2 fun b o hw hb' e => k2 b o hw hb' (same b o hb' (k1 b o hw e))
end
section
variable {prog : Program} {w : World} {A : Around} {E : Value → Shared → Prop} {s : Shared}
/-- min of a list, by what the comparisons of its items give -/
theorem min_list {l : Addr} {items : Array Value} {bt : Nat → Nat → Bool} {Q : Value → Shared → Prop} (hh : A.handled = none) (hl : s.heap.IsList l items) (hn : 0 < items.size)
    (hcmp : ∀ (s' : Shared), (∀ b o, s.heap.get? b = some o → s'.heap.get? b = some o) → ∀ i j vi vj, items[i]? = some vi → items[j]? = some vj → ∀ (Q : Value → Shared → Prop) (E : Value → Shared → Prop), Q (.bool (bt i j)) s' → wpAny (model prog w) A.in1 (richCompare .Lt vi vj) Q E s')
    (h : ∀ v h' tk, items[argBest bt (items.size - 1)]? = some v → (∀ b o, s.heap.get? b = some o → h'.get? b = some o) → Q v { s with heap := h', toks := tk }) : wpAny (model prog w) A (call (.builtin "min") [.ref l]) Q E s := by
  have hlt : l < s.heap.objs.size := by obtain ⟨_, e, _⟩ := hl; exact Heap.lt_size e
  refine call_function_tree F.kind_min F.plain_min F.entry_min (F.args_min1 _) ?_
  refine wpAny_bind (wpAny_of_eq (show Builtin.Builtins.bindParams "min" ["key", "default"] 0 ⟨[], []⟩ = pure [none, none] from rfl) ?_)
  refine wpAny_bind (wpAny_pure (wpAny_bind (wpAny_pyIter_list hl (wpAny_bind (wpAny_newObj_type ?_)))))
  rw [minName]
  have k0 : ∀ b o, s.heap.get? b = some o → ((s.heap.push { cls := .type "list_iterator", data := .fields #[.ref l, .int 0 0] }).push { cls := .type "list", data := .seq #[] }).get? b = some o := fun b o e => Heap.get?_push_of_some _ (Heap.get?_push_of_some _ e)
  have sz : (s.heap.push { cls := .type "list_iterator", data := .fields #[.ref l, .int 0 0] }).objs.size = s.heap.objs.size + 1 := Heap.size_push ..
  have hli : s.heap.objs.size ≠ l := Nat.ne_of_gt hlt
  refine wpAny_pure ⟨plainId_quiet F.plain_min_loop _, min_first (I := s.heap.objs.size) (S := (s.heap.push { cls := .type "list_iterator", data := .fields #[.ref l, .int 0 0] }).objs.size) (Gd := fun h => ∀ b o, s.heap.get? b = some o → h.get? b = some o)
    (Walks.list (A := A.in1) hh _ l (Ne.symm hli) items) (fun i j vi vj s' Q E gd pi pj q => hcmp s' gd i j vi vj pi pj Q E q) (fun h h' g k b o e => ?_) (fun hm => ?_) hn ⟨⟨_, Heap.get?_push_of_some _ (Heap.get?_push_size _ rfl), rfl, rfl⟩, ?_⟩ k0 (Heap.get?_push_size _ rfl) fun v h' tk pv k => ?_⟩
  · refine k b o (fun hm => ?_) (fun z => ?_) (g b o e)
    · have : b = s.heap.objs.size := by simpa using hm
      rw [this] at e
      exact absurd (Heap.lt_size e) (Nat.lt_irrefl _)
    · rw [sz] at z
      rw [z] at e
      exact absurd (Heap.lt_size e) (Nat.not_lt_of_le (Nat.le_succ _))
  · rw [sz] at hm
    simp only [List.mem_cons, List.not_mem_nil, or_false] at hm
    rcases hm with z | z
    · exact Nat.succ_ne_self _ z
    · exact absurd hlt (by rw [← z]; exact Nat.not_lt_of_le (Nat.le_succ _))
  · exact (hl.push _).push _
  · refine h v h' tk pv fun b o e => k b o (fun hm => ?_) (fun z => ?_) (k0 b o e)
    · have : b = s.heap.objs.size := by simpa using hm
      rw [this] at e
      exact absurd (Heap.lt_size e) (Nat.lt_irrefl _)
    · rw [sz] at z
      rw [z] at e
      exact absurd (Heap.lt_size e) (Nat.not_lt_of_le (Nat.le_succ _))
end
end Ev

set_option Elab.async false
set_option linter.all false
set_option maxRecDepth 100000
set_option maxHeartbeats 1000000
/-! Ev, part G: calls of the built-in functions and types. -/
namespace Ev
open PySem PySem.Spec PyProof.Rows L2 PySem.W
def AllB (G : Gx) (S H : Hp) : List D → List V → Prop
  | [], vs => vs = []
  | d :: ds, vs => ∃ v r, vs = v :: r ∧ Pb G S H d v ∧ AllB G S H ds r
theorem AllB.one {G : Gx} {S H : Hp} {d : D} {vs : List V} (h : AllB G S H [d] vs) : ∃ v, vs = [v] ∧ Pb G S H d v := by
  obtain ⟨v, r, rfl, p, e⟩ := h
  have e : r = [] := e
  subst e
  exact ⟨v, rfl, p⟩
theorem AllB.two {G : Gx} {S H : Hp} {d e : D} {vs : List V} (h : AllB G S H [d, e] vs) : ∃ v u, vs = [v, u] ∧ Pb G S H d v ∧ Pb G S H e u := by
  obtain ⟨v, r, rfl, p, h2⟩ := h
  obtain ⟨u, rfl, q⟩ := AllB.one h2
  exact ⟨v, u, rfl, p, q⟩
def rCall (G : Gx) (f : List D → Option D) (m : Md := .fr) : List V → Hp → VK → Prop := fun xs H Q => ∃ S ds d, Same S H ∧ AllB G S H ds xs ∧ f ds = some d ∧ Wt G m S H d Q
/-! len -/
def bLen : List D → Option D
  | [.list xs] => some (.int (xs.length : Int))
  | [.tuple xs] => some (.int (xs.length : Int))
  | [.str x] => some (.int (x.length : Int))
  | [.dict ((.bool _, .none) :: kvs)] => some (.int (kvs.length : Int))
  | _ => none
def bInt : List D → Option D
  | [.int i] => some (.int i)
  | [.bool b] => some (.int (if b then 1 else 0))
  | _ => none
def bAbs : List D → Option D
  | [.int i] => some (.int (if i < 0 then -i else i))
  | _ => none
def bMin2 (i j : Int) : Int := if j < i then j else i
def bMax2 (i j : Int) : Int := if j > i then j else i
def intsOf : List D → Option (List Int)
  | [] => some []
  | .int i :: r => (intsOf r).map (i :: ·)
  | _ :: _ => none
def boolsOf : List D → Option (List Bool)
  | [] => some []
  | .bool i :: r => (boolsOf r).map (i :: ·)
  | _ :: _ => none
theorem intsOf_ok : ∀ {ds : List D} {ns : List Int}, intsOf ds = some ns → ds = ns.map .int
  | [], ns, h => by simp [intsOf] at h; subst h; rfl
  | d :: ds, ns, h => by
    cases d <;> simp [intsOf] at h
    obtain ⟨r, h1, rfl⟩ := h
    rw [intsOf_ok h1]; rfl
theorem boolsOf_ok : ∀ {ds : List D} {ns : List Bool}, boolsOf ds = some ns → ds = ns.map .bool
  | [], ns, h => by simp [boolsOf] at h; subst h; rfl
  | d :: ds, ns, h => by
    cases d <;> simp [boolsOf] at h
    obtain ⟨r, h1, rfl⟩ := h
    rw [boolsOf_ok h1]; rfl
@[simp] theorem intsOf_map (ns : List Int) : intsOf (ns.map .int) = some ns := by
  induction ns with
  | nil => rfl
  | cons n ns ih => simp [intsOf, ih]
@[simp] theorem boolsOf_map (ns : List Bool) : boolsOf (ns.map .bool) = some ns := by
  induction ns with
  | nil => rfl
  | cons n ns ih => simp [boolsOf, ih]
def bSum : List D → Option D
  | [.list xs] => (intsOf xs).map fun ns => .int ns.sum
  | _ => none
def bAny : List D → Option D
  | [.list xs] => (boolsOf xs).map fun ns => .bool (ns.any id)
  | _ => none
def bAll : List D → Option D
  | [.list xs] => (boolsOf xs).map fun ns => .bool (ns.all id)
  | _ => none
def bTuple : List D → Option D
  | [.list xs] => some (.tuple xs)
  | [.tuple xs] => some (.tuple xs)
  | _ => none
def bList : List D → Option D
  | [.list xs] => some (.list xs)
  | [.tuple xs] => some (.list xs)
  | _ => none
def dAlike (ds : List D) : Bool := ds.all fun d => notNone d && (dOk 64 d && ds.all fun e => alike d e)
def dMin : List D → Option D
  | [] => none
  | d :: r => some (r.foldl (fun b x => if dataLt x b then x else b) d)
def maxI : List Int → Int
  | [] => 0
  | d :: r => r.foldl (fun b x => if b < x then x else b) d
def bMin : List D → Option D
  | [.list xs] => if dAlike xs then dMin xs else none
  | [.int i, .int j] => some (.int (bMin2 i j))
  | _ => none
def bMax : List D → Option D
  | [.list xs] => match intsOf xs with
    | some (n :: ns) => some (.int (maxI (n :: ns)))
    | _ => none
  | [.int i, .int j] => some (.int (bMax2 i j))
  | _ => none
/-! sorted -/
def sortable (ds : List D) : Bool := (ds.all fun d => match d with | .tuple (_ :: _) => true | _ => false) || (ds.all fun d => match d with | .none => false | .tuple _ => false | _ => true)
def leD (a b : D) : Bool := !dataLt b a
def dSorted (ds : List D) : Option D := if dAlike ds && sortable ds then some (.list (ds.mergeSort leD)) else none
def bSorted : List D → Option D
  | [.list xs] => dSorted xs
  | _ => none
theorem argBest_foldl (ds : List D) : ∀ (k : Nat), k < ds.length → ds[argBest (fun i j => dataLt (ds.getD i .none) (ds.getD j .none)) k]? = (dMin (ds.take (k + 1))) := by
  intro k
  induction k with
  | zero =>
    intro h
    cases ds with
    | nil => simp at h
    | cons d r => simp [argBest, dMin]
  | succ k ih =>
    intro h
    have ih := ih (by omega)
    have e : ds.take (k + 1 + 1) = ds.take (k + 1) ++ [ds[k + 1]] := by rw [List.take_succ, List.getElem?_eq_getElem h]; rfl
    cases ds with
    | nil => simp at h
    | cons d r =>
      rw [List.take_succ_cons] at ih
      simp only [dMin] at ih
      rw [e, List.take_succ_cons, List.cons_append]
      simp only [dMin, List.foldl_append, List.foldl_cons, List.foldl_nil]
      have e3 : (d :: r).getD (argBest (fun i j => dataLt ((d :: r).getD i .none) ((d :: r).getD j .none)) k) .none = (r.take k).foldl (fun b x => if dataLt x b then x else b) d := by
        rw [List.getD_eq_getElem?_getD, ih]; rfl
      have e4 : (d :: r).getD (k + 1) .none = (d :: r)[k + 1] := by rw [List.getD_eq_getElem?_getD, List.getElem?_eq_getElem h]; rfl
      generalize hbt : (fun i j => dataLt ((d :: r).getD i .none) ((d :: r).getD j .none)) = bt at ih e3 ⊢
      have e5 : bt (k + 1) (argBest bt k) = dataLt (d :: r)[k + 1] ((r.take k).foldl (fun b x => if dataLt x b then x else b) d) := by
        rw [← e3, ← e4, ← hbt]
      cases hb : bt (k + 1) (argBest bt k) with
      | true => simp only [argBest, hb, if_true, ← e5, List.getElem?_eq_getElem h]
      | false => simp only [argBest, hb, Bool.false_eq_true, if_false, ← e5, ih]
theorem maxI_spec (n : Int) (ns : List Int) : maxI (n :: ns) ∈ n :: ns ∧ ∀ y ∈ n :: ns, y ≤ maxI (n :: ns) := by
  simp only [maxI]
  induction ns generalizing n with
  | nil => simp
  | cons m ns ih =>
    rw [List.foldl_cons]
    by_cases h : n < m
    · rw [if_pos h]
      obtain ⟨h1, h2⟩ := ih m
      refine ⟨by simp only [List.mem_cons] at h1 ⊢; exact .inr h1, fun y hy => ?_⟩
      rcases List.mem_cons.mp hy with rfl | hy
      · exact Int.le_trans (Int.le_of_lt h) (h2 m List.mem_cons_self)
      · exact h2 y hy
    · rw [if_neg h]
      obtain ⟨h1, h2⟩ := ih n
      refine ⟨by simp only [List.mem_cons] at h1 ⊢; exact h1.elim .inl fun z => .inr (.inr z), fun y hy => ?_⟩
      rcases List.mem_cons.mp hy with rfl | hy
      · exact h2 _ List.mem_cons_self
      · rcases List.mem_cons.mp hy with rfl | hy
        · exact Int.le_trans (by omega) (h2 n List.mem_cons_self)
        · exact h2 y (List.mem_cons_of_mem _ hy)
section
variable {X : Cx} {G : Gx}
theorem callImp {f : Value} {r r' : List V → Hp → VK → Prop} (h : CallR X f r) (k : ∀ xs H Q, r' xs H Q → r xs H Q) : CallR X f r' := fun pins s σ H xs us Q I rs q => h pins s σ H xs us Q I rs (k _ _ _ q)
theorem Rd.sqL {K : PySem.W.Frag} {H : Hp} {a : Addr} {vs : List V} (h : Rd H a (.lst vs)) : SqL K H a vs := .inl h
theorem cb_len (hK : X.K = G.K) : CallR X (.builtin "len") (rCall G bLen) := by
  intro pins s σ H xs us Q I rs h
  obtain ⟨S, ds, d, ss, px, e, w⟩ := h
  unfold bLen at e
  split at e
  · cases e
    obtain ⟨v, rfl, p⟩ := px.one
    obtain ⟨a, vs, rfl, q, z, r⟩ := p.list ss
    exact call_len pins s σ H _ us Q I rs ⟨_, _, rfl, .inl ⟨vs, Rd.sqL q, r.length⟩, w.int ss⟩
  · cases e
    obtain ⟨v, rfl, p⟩ := px.one
    obtain ⟨a, vs, rfl, q, z, r⟩ := p.tuple ss
    exact call_len pins s σ H _ us Q I rs ⟨_, _, rfl, .inr ⟨vs, by rw [hK]; exact q, r.length⟩, w.int ss⟩
  · cases e
    obtain ⟨v, rfl, p⟩ := px.one
    obtain ⟨rfl, h1, _⟩ := p.str
    exact call_len pins s σ H _ us Q I rs ⟨_, _, rfl, ⟨h1, rfl⟩, w.int ss⟩
  · rename_i t kvs
    cases e
    obtain ⟨v, rfl, p⟩ := px.one
    obtain ⟨a, vs, rfl, r, z, q⟩ := Pb.dict (t := t) (kvs := kvs) ss p
    obtain ⟨u, rfl, rx⟩ := vals1 rs
    cases rx
    cases t with
    | false =>
      obtain ⟨ps, en, _, rd⟩ := q.k r
      exact d_len I rd fun t' s' I' => ⟨.int kvs.length, H, I', ⟨t', by rw [en.length]⟩, w.int ss⟩
    | true =>
      obtain ⟨ps, en, _, rd⟩ := q.t r
      obtain ⟨z2, hd, ys, rel, dd⟩ := dt_rd I.hok rd
      have hl : ps.length = ys.length := Paired.length rel
      have el := en.length
      refine call_len_dictH hd dd (by rw [← hl]; rw [sizeLine_eq] at z2; omega) ?_
      rw [← hl, ← el]
      exact ⟨.int kvs.length, H, I.tok _, ⟨_, rfl⟩, w.int ss⟩
  · cases e
theorem cb_int : CallR X (.type "int") (rCall G bInt) := callImp call_int1 fun xs H Q ⟨S, ds, d, ss, px, e, w⟩ => by
  unfold bInt at e
  split at e
  · cases e
    obtain ⟨v, rfl, p⟩ := px.one
    exact .inl ⟨_, by rw [p.int], w.int ss⟩
  · cases e
    obtain ⟨v, rfl, p⟩ := px.one
    exact .inr ⟨_, by rw [p.bool], w.int ss⟩
  · cases e
theorem cb_abs : CallR X (.builtin "abs") (rCall G bAbs) := callImp call_abs fun xs H Q ⟨S, ds, d, ss, px, e, w⟩ => by
  unfold bAbs at e
  split at e
  · cases e
    obtain ⟨v, rfl, p⟩ := px.one
    exact ⟨_, by rw [p.int], w.int ss⟩
  · cases e
theorem cb_sum (hc : X.calm = true) : CallR X (.builtin "sum") (rCall G bSum) := callImp (cr_sum hc) fun xs H Q ⟨S, ds, d, ss, px, e, w⟩ => by
  unfold bSum at e
  split at e
  · obtain ⟨ns, h1, rfl⟩ := Option.map_eq_some_iff.mp e
    have h2 := intsOf_ok h1
    subst h2
    obtain ⟨v, rfl, p⟩ := px.one
    obtain ⟨a, vs, rfl, q, z, r⟩ := p.list ss
    rw [r.ints] at q
    exact ⟨a, ns, rfl, Rd.sqL q, w.int ss⟩
  · cases e
theorem cb_any (hc : X.calm = true) : CallR X (.builtin "any") (rCall G bAny) := callImp (cr_any hc) fun xs H Q ⟨S, ds, d, ss, px, e, w⟩ => by
  unfold bAny at e
  split at e
  · obtain ⟨ns, h1, rfl⟩ := Option.map_eq_some_iff.mp e
    have h2 := boolsOf_ok h1
    subst h2
    obtain ⟨v, rfl, p⟩ := px.one
    obtain ⟨a, vs, rfl, q, z, r⟩ := p.list ss
    rw [r.bls] at q
    exact ⟨a, ns, rfl, Rd.sqL q, w.bool ss⟩
  · cases e
theorem cb_all (hc : X.calm = true) : CallR X (.builtin "all") (rCall G bAll) := callImp (cr_all hc) fun xs H Q ⟨S, ds, d, ss, px, e, w⟩ => by
  unfold bAll at e
  split at e
  · obtain ⟨ns, h1, rfl⟩ := Option.map_eq_some_iff.mp e
    have h2 := boolsOf_ok h1
    subst h2
    obtain ⟨v, rfl, p⟩ := px.one
    obtain ⟨a, vs, rfl, q, z, r⟩ := p.list ss
    rw [r.bls] at q
    exact ⟨a, ns, rfl, Rd.sqL q, w.bool ss⟩
  · cases e
theorem cb_tuple (hK : X.K = G.K) : CallR X (.type "tuple") (rCall G bTuple) := callImp call_tuple_of fun xs H Q ⟨S, ds, d, ss, px, e, w⟩ => by
  unfold bTuple at e
  split at e
  · cases e
    obtain ⟨v, rfl, p⟩ := px.one
    obtain ⟨a, vs, rfl, q, z, r⟩ := p.list ss
    exact ⟨a, vs, rfl, .inl ⟨Rd.sqL q, w.tuple ss r z⟩⟩
  · cases e
    obtain ⟨v, rfl, p⟩ := px.one
    obtain ⟨a, vs, rfl, q, z, r⟩ := p.tuple ss
    exact ⟨a, vs, rfl, .inr ⟨by rw [hK]; exact q, w.rep ss (p.rep rfl) (.inl rfl)⟩⟩
  · cases e
theorem cb_list (hK : X.K = G.K) : CallR X (.type "list") (rCall G bList) := callImp call_list_of fun xs H Q ⟨S, ds, d, ss, px, e, w⟩ => by
  unfold bList at e
  split at e
  · cases e
    obtain ⟨v, rfl, p⟩ := px.one
    obtain ⟨a, vs, rfl, q, z, r⟩ := p.list ss
    exact ⟨a, vs, rfl, .inl (Rd.sqL q), w.list ss r z⟩
  · cases e
    obtain ⟨v, rfl, p⟩ := px.one
    obtain ⟨a, vs, rfl, q, z, r⟩ := p.tuple ss
    exact ⟨a, vs, rfl, .inr (by rw [hK]; exact q), w.list ss r z⟩
  · cases e
theorem cb_max (hc : X.calm = true) : CallR X (.builtin "max") (rCall G bMax) := by
  intro pins s σ H xs us Q I rs h
  obtain ⟨S, ds, d, ss, px, e, w⟩ := h
  unfold bMax at e
  split at e
  · split at e
    · rename_i n ns h1
      cases e
      have h2 := intsOf_ok h1
      subst h2
      obtain ⟨v, rfl, p⟩ := px.one
      obtain ⟨a, vs, rfl, q, z, r⟩ := p.list ss
      rw [r.ints] at q
      refine cr_max hc pins s σ H _ us Q I rs ⟨a, n :: ns, rfl, Rd.sqL q, by simp, fun m hm hy => ?_⟩
      obtain ⟨g1, g2⟩ := maxI_spec n ns
      have : m = maxI (n :: ns) := Int.le_antisymm (g2 m hm) (hy _ g1)
      rw [this]
      exact w.int ss
    · cases e
  · cases e
    obtain ⟨v, u, rfl, p, q⟩ := px.two
    exact call_max2 hc pins s σ H _ us Q I rs ⟨_, _, by rw [p.int, q.int], w.int ss⟩
  · cases e
/-- the values and their data, read off the heap -/
theorem each_of {pins : List (Addr × Obj)} {s : Shared} {σ : L2.St} {H S : Hp} (I : Inv X pins σ H s) (ss : Same S H) (hK : X.K = G.K) : ∀ {ds : List D} {vs : List V} {us : List Value}, RepL G S ds vs → Vals vs us → (∀ d ∈ ds, dOk 64 d = true) →
    EachIs (fun u d => ∃ v, RelV v u ∧ Rep G S d v) us ds ∧ EachIs (fun u d => ∃ as, Reads s.heap u d as) us ds
  | [], vs, us, r, rv, _ => by
    rw [r.nil_inv] at rv
    cases rv
    exact ⟨.nil, .nil⟩
  | d :: ds, vs, us, r, rv, k => by
    obtain ⟨v, r', rfl, q, t⟩ := r.cons_inv
    cases rv with
    | cons r1 r2 =>
      obtain ⟨h1, h2⟩ := each_of I ss hK t r2 fun e he => k e (List.mem_cons_of_mem _ he)
      have q' := dp_same ss _ _ (dOk.lay 64 d v (k d List.mem_cons_self) q).1
      rw [← hK] at q'
      exact ⟨.cons ⟨v, r1, q⟩ h1, .cons (Dp.reads I d v _ q' r1) h2⟩
theorem each_back {S : Hp} : ∀ {us : List Value} {ds : List D}, EachIs (fun u d => ∃ v, RelV v u ∧ Rep G S d v) us ds → ∃ vs, Vals vs us ∧ RepL G S ds vs
  | _, _, .nil => ⟨[], .nil, .nil⟩
  | _, _, .cons ⟨v, r, q⟩ t => by
    obtain ⟨vs, h1, h2⟩ := each_back t
    exact ⟨v :: vs, .cons r h1, .cons q h2⟩
theorem dAlike_ok {ds : List D} (h : dAlike ds = true) : (∀ d ∈ ds, dOk 64 d = true) ∧ AllAlike ds ∧ ∀ d ∈ ds, d ≠ .none := by
  unfold dAlike at h
  rw [List.all_eq_true] at h
  refine ⟨fun d hd => ?_, fun d hd e he => ?_, fun d hd => ?_⟩
  · have := h d hd
    simp only [Bool.and_eq_true] at this
    exact this.2.1
  · have := h d hd
    simp only [Bool.and_eq_true] at this
    exact List.all_eq_true.mp this.2.2 e he
  · have := h d hd
    simp only [Bool.and_eq_true] at this
    intro z
    subst z
    simp [notNone] at this
theorem cb_min (hK : X.K = G.K) (hc : X.calm = true) (hu : X.A.units + 80 < cLine) : CallR X (.builtin "min") (rCall G bMin .sh) := by
  intro pins s σ H xs us Q I rs h
  obtain ⟨S, ds, d, ss, px, e, w⟩ := h
  unfold bMin at e
  split at e
  · rename_i ds
    split at e
    · rename_i ha
      obtain ⟨v, rfl, p⟩ := px.one
      obtain ⟨a, vs, rfl, q, z, r⟩ := p.list ss
      obtain ⟨a1, a2, a3⟩ := dAlike_ok ha
      obtain ⟨_, its, n, rv, e1⟩ := lst_ok I q
      obtain ⟨u, rfl, ru⟩ := vals1 rs
      cases ru
      obtain ⟨_, er⟩ := each_of I ss hK r rv a1
      have hl := r.length
      have hl2 := rv.length
      have hpos : 0 < ds.length := by
        cases ds with
        | nil => simp [dMin] at e
        | cons d r => simp
      have at_ : ∀ (i : Nat) (vi : Value), its[i]? = some vi → ∃ di, ds[i]? = some di ∧ ∃ as, Reads s.heap vi di as := by
        intro i vi hi
        have hlt : i < its.length := (List.getElem?_eq_some_iff.mp hi).1
        have hlt2 : i < ds.length := by omega
        refine ⟨ds[i], List.getElem?_eq_getElem hlt2, ?_⟩
        have hz : (its[i], ds[i]) ∈ its.zip ds := by
          have : (its.zip ds)[i]? = some (its[i], ds[i]) := by simp [List.getElem?_zip_eq_some, hlt, hlt2]
          exact List.mem_of_getElem? this
        have := er.zip _ hz
        have ev : vi = its[i] := by rw [List.getElem?_eq_getElem hlt] at hi; exact (Option.some.inj hi).symm
        rw [ev]
        exact this
      refine min_list (bt := fun i j => dataLt (ds.getD i .none) (ds.getD j .none)) (I.ok.hd hc) (show s.heap.IsList a its.toArray from ⟨_, e1, rfl, n, rfl⟩) (by rw [List.size_toArray]; omega) (fun s' k i j vi vj hi hj Q' E' q' => ?_) fun v h' tk hv k => ?_
      · obtain ⟨di, d1, as, r1⟩ := at_ i vi (by simpa using hi)
        obtain ⟨dj, d2, bs, r2⟩ := at_ j vj (by simpa using hj)
        have m1 := List.mem_of_getElem? d1
        have m2 := List.mem_of_getElem? d2
        have hr := rcLt_alike di dj X.A.in1 s' vi vj as bs (PyProof.Rows.Reads.keeps k r1) (PyProof.Rows.Reads.keeps k r2) (a2 di m1 dj m2) (a3 di m1) (by
          obtain ⟨v1, _, q1⟩ := r.get d1
          have h3 := (dOk.lay 64 di v1 (a1 di m1) q1).2.2
          show X.A.units + 1 + min di.depth dj.depth < cLine
          omega)
        refine hr X.prog X.w E' Q' ?_
        have e5 : ds.getD i .none = di := by rw [List.getD_eq_getElem?_getD, d1]; rfl
        have e6 : ds.getD j .none = dj := by rw [List.getD_eq_getElem?_getD, d2]; rfl
        rw [← e5, ← e6]
        exact q'
      · have hk : its.toArray.size - 1 = ds.length - 1 := by rw [List.size_toArray]; omega
        rw [hk] at hv
        have hd := argBest_foldl ds (ds.length - 1) (by omega)
        rw [Nat.sub_add_cancel hpos, List.take_length, e] at hd
        obtain ⟨y, hy, qy⟩ := r.get hd
        obtain ⟨u2, hu2, ru2⟩ := rv.get hy
        have ev : v = u2 := by
          have : its[argBest (fun i j => dataLt (ds.getD i .none) (ds.getD j .none)) (ds.length - 1)]? = some v := by simpa using hv
          rw [hu2] at this
          exact (Option.some.inj this).symm
        rw [ev]
        refine ⟨y, H, I.kept k, ru2, ?_⟩
        exact w.rep ss qy (.inr (by intro z; cases z))
    · cases e
  · cases e
    obtain ⟨v, u, rfl, p, q⟩ := px.two
    exact call_min2 hc pins s σ H _ us Q I rs ⟨_, _, by rw [p.int, q.int], w.int ss⟩
  · cases e
end
end Ev

set_option Elab.async false
set_option linter.all false
set_option maxRecDepth 100000
set_option maxHeartbeats 1000000
/-! Ev, part H: expressions read on slots. -/
namespace Ev
open PySem PySem.Spec PyProof.Rows L2 PySem.W

abbrev Ex := List Slot → Res D
def ofO {α : Type} : Option α → Res α
  | some a => .ok a
  | none => .stuck
@[simp] theorem ofO_some {α : Type} (a : α) : ofO (some a) = .ok a := rfl
@[simp] theorem ofO_none {α : Type} : ofO (none : Option α) = .stuck := rfl
section
variable {G : Gx} {S S' S1 S2 H H' H1 H2 S0 H0 : Hp} {σ : L2.St} {ρ : List Slot} {W : WS} {m m' : Md}
/-- what holds of a value goes on holding (m not fr) -/
theorem Pm.ext {d : D} {v : V} (hm : m ≠ .fr) (h : Pm m G H0 S H d v) (e : Ext S H S' H') : Pm m G H0 S' H' d v := by
  have keep : ∀ a, MutAt G S H d a → MutAt G S' H' d a := fun a w => w.keep (.of e.ss) (by
    cases z : H a with
    | none => exact absurd z w.there
    | some u => exact e.hh a u z)
  cases m with
  | fr => exact absurd rfl hm
  | sh => exact Rep.same e.ss h
  | bo => exact h.elim (fun r => .inl (r.same e.ss)) fun ⟨a, e1, w⟩ => .inr ⟨a, e1, keep a w⟩
  | bg => 
    rcases h with h | ⟨a, e1, w⟩ | ⟨a, ds, vs, e1, e2, q, z, r⟩
    · exact .inl (h.same e.ss)
    · exact .inr (.inl ⟨a, e1, keep a w⟩)
    · exact .inr (.inr ⟨a, ds, vs, e1, e2, q, z, RepL.le (.of e.ss) _ _ r⟩)
theorem Pm.h0 {d : D} {v : V} (hm : m ≠ .fr) (h : Pm m G H0 S H d v) : Pm m G H1 S H d v := by
  cases m with
  | fr => exact absurd rfl hm
  | sh => exact h
  | bo => exact h
  | bg => exact h
theorem Wt.later {d : D} {Q : VK} (w : Wt G m S H d Q) (e : Ext S H S1 H1) : Wt G m S1 H1 d Q := fun v S' H' e' p => w v S' H' (e.trans e') (p.earlier e.hh)
theorem Fin.ok' {d : D} {Q : VK} (w : Wt G m S H d Q) : Fin m G W S H σ (.ok d) Q := w
theorem Fin.wt {d : D} {Q : VK} {r : Res D} (w : Fin m G W S H σ r Q) (e : r = .ok d) : Wt G m S H d Q := by subst e; exact w
end
/-! ### arguments -/
def AllP (m : Md) (G : Gx) (S H : Hp) : List D → List V → Prop
  | [], vs => vs = []
  | d :: ds, vs => ∃ v r, vs = v :: r ∧ Pm m G H S H d v ∧ AllP m G S H ds r
theorem AllP.b {G : Gx} {S H : Hp} : ∀ {ds : List D} {vs : List V}, AllP .bo G S H ds vs → AllB G S H ds vs
  | [], _, h => h
  | _ :: _, _, ⟨v, r, e, p, t⟩ => ⟨v, r, e, p, t.b⟩
theorem AllP.s {G : Gx} {S H : Hp} : ∀ {ds : List D} {vs : List V}, AllP .sh G S H ds vs → RepL G S ds vs
  | [], _, h => by
    have h : _ = [] := h
    subst h
    exact .nil
  | _ :: _, _, ⟨v, r, e, p, t⟩ => by subst e; exact .cons p t.s
abbrev Exs := List Slot → Res (List D)
def tA (P : Pr) (m : Md) (f : Exs) : TA := fun σ H Q => ∃ S ρ, Rdy P.G P.S0 P.H0 S H σ ρ ∧ match f ρ with
  | .ok ds => ∀ vs S' H', Ext S H S' H' → AllP m P.G S' H' ds vs → Q vs H'
  | .exc c => ∀ S' H', Ext S H S' H' → P.W c σ H'
  | .stuck => False
abbrev DA (X : Cx) (P : Pr) (m : Md) (es : List Expr) (f : Exs) : Prop := PA X es (tA P m f)
def aNil : Exs := fun _ => .ok []
def aCons (f : Ex) (g : Exs) : Exs := fun ρ => f ρ >>= fun d => g ρ >>= fun ds => .ok (d :: ds)
section
variable {X : Cx} {P : Pr} {m : Md} {e : Expr} {es : List Expr} {f : Ex} {g : Exs}
theorem da_nil : DA X P m [] aNil := pa_nil.imp fun σ H Q ⟨S, ρ, R, q⟩ => q [] S H (.refl R.sub) rfl
theorem da_cons (h1 : DE X P m e f) (h2 : DA X P m es g) (hm : m ≠ .fr := by exact fun z => nomatch z) (hs : starEach (e :: es) X.env = (false, eval e X.env) :: starEach es X.env := by rfl) : DA X P m (e :: es) (aCons f g) := by
  refine (pa_cons h1 h2 hs).imp fun σ H Q ⟨S, ρ, R, q⟩ => ⟨S, ρ, R, ?_⟩
  unfold aCons at q
  cases hf : f ρ with
  | exc c => rw [hf] at q; exact q
  | stuck => rw [hf] at q; exact q
  | ok d =>
    rw [hf, ok_bind] at q
    intro v S1 H1 e1 p
    refine ⟨S1, ρ, R.to e1, ?_⟩
    cases hg : g ρ with
    | exc c =>
      rw [hg] at q
      exact fun S' H' e' => q S' H' (e1.trans e')
    | stuck => rw [hg] at q; exact q
    | ok ds =>
      rw [hg] at q
      exact fun vs S' H' e' a => q (v :: vs) S' H' (e1.trans e') ⟨v, vs, rfl, (p.ext hm e').h0 hm, a⟩
end
/-! ### leaves -/
def eC (d : D) : Ex := fun _ => .ok d
def shOf : Option Slot → Res D
  | some (.sh d) => .ok d
  | _ => .stuck
def boOf : Option Slot → Res D
  | some (.sh d) => .ok d
  | some (.ol ds) => .ok (.list ds)
  | some (.od t kvs) => .ok (dB t kvs)
  | _ => .stuck
/-- a name's value -/
def eV (i : Nat) : Ex := fun ρ => shOf ρ[i]?
/-- a name's value, for a look -/
def eB (i : Nat) : Ex := fun ρ => boOf ρ[i]?
section
variable {X : Cx} {P : Pr} {m : Md} {i : Nat} {x : Str} {pos : Pos}
theorem Rdy.wt {G : Gx} {S0 H0 S H : Hp} {σ : L2.St} {ρ : List Slot} (R : Rdy G S0 H0 S H σ ρ) {W : WS} {d : D} {v : V} {Q : VK} (q : Fin m G W S H σ (.ok d) Q) (p : Pm m G H S H d v) : Q v H := q v S H (.refl R.sub) p
theorem de_v (i : Nat) (hN : X.N[i]? = some x := by rfl) (hv : Vis X.env.scope x := by first | exact Or.inl rfl | exact Or.inr (Or.inl rfl) | exact Or.inr (Or.inr rfl)) (hd : (x == ("__debug__" : Str)) = false := by decide)
    (hcd : (x == ("__classdict__" : Str)) = false := by decide) : DE X P .sh (.Name x pos) (eV i) := by
  refine (pv i hN hv hd hcd).imp fun σ H Q ⟨S, ρ, R, q⟩ => ?_
  unfold eV shOf at q
  split at q
  · rename_i d h
    obtain ⟨v, e, r⟩ := R.stt.sh i d h
    exact ⟨v, e, R.wt q r⟩
  · exact q.elim
theorem de_b (i : Nat) (hN : X.N[i]? = some x := by rfl) (hv : Vis X.env.scope x := by first | exact Or.inl rfl | exact Or.inr (Or.inl rfl) | exact Or.inr (Or.inr rfl)) (hd : (x == ("__debug__" : Str)) = false := by decide)
    (hcd : (x == ("__classdict__" : Str)) = false := by decide) : DE X P .bo (.Name x pos) (eB i) := by
  refine (pv i hN hv hd hcd).imp fun σ H Q ⟨S, ρ, R, q⟩ => ?_
  unfold eB boOf at q
  split at q
  · rename_i d h
    obtain ⟨v, e, r⟩ := R.stt.sh i d h
    exact ⟨v, e, R.wt q (.inl r)⟩
  · rename_i ds h
    obtain ⟨a, e, _, _, w⟩ := R.stt.ow i _ h rfl
    exact ⟨_, e, R.wt q (.inr ⟨a, rfl, .inl ⟨ds, rfl, w⟩⟩)⟩
  · rename_i t kvs h
    obtain ⟨a, e, _, _, w⟩ := R.stt.ow i _ h rfl
    exact ⟨_, e, R.wt q (.inr ⟨a, rfl, .inr ⟨t, kvs, rfl, w⟩⟩)⟩
  · exact q.elim
/-- nothing is made -/
theorem flat_c {e : Expr} {v : V} {d : D} (h : PE X e (tC v)) (r : ∀ G S, Rep G S d v) (n : isMut d = false := by rfl) : DE X P m e (eC d) := h.imp fun σ H Q ⟨S, ρ, R, q⟩ => R.wt q (.of_rep (r _ _) (.inl n))
theorem de_int {i : Int} {j} : DE X P m (.Constant (.int i) j pos) (eC (.int i)) := flat_c pe_int fun _ _ => by simp only [Rep]
theorem de_bl {i : Bool} {j} : DE X P m (.Constant (.bool i) j pos) (eC (.bool i)) := flat_c pe_bl fun _ _ => by simp only [Rep]
theorem de_non {j} : DE X P m (.Constant .none j pos) (eC .none) := flat_c pe_non fun _ _ => by simp only [Rep]
theorem de_str {x : Str} {j} (h : (decide (x.length ≤ line) && PyData.strOk x) = true := by decide +kernel) : DE X P m (.Constant (.str x) j pos) (eC (.str x)) := flat_c pe_str fun _ _ => by
  simp only [Bool.and_eq_true, decide_eq_true_eq] at h
  simp only [Rep]
  exact ⟨trivial, by rw [line_eq]; exact h.1, h.2⟩
/-- the module's constants -/
theorem de_gint {i : Int} {u : Value} (hm : X.mg x = some u) (r : RelV (.int i) u) (hg : Gl X x := by rfl) (hd : (x == ("__debug__" : Str)) = false := by decide) : DE X P m (.Name x pos) (eC (.int i)) := flat_c (pe_glob hg hm r hd) fun _ _ => by simp only [Rep]
theorem de_gstr {y : Str} {u : Value} (hm : X.mg x = some u) (r : RelV (.str y) u) (h : (decide (y.length ≤ line) && PyData.strOk y) = true) (hg : Gl X x := by rfl) (hd : (x == ("__debug__" : Str)) = false := by decide) : DE X P m (.Name x pos) (eC (.str y)) := flat_c (pe_glob hg hm r hd) fun _ _ => by
  simp only [Bool.and_eq_true, decide_eq_true_eq] at h
  simp only [Rep]
  exact ⟨trivial, by rw [line_eq]; exact h.1, h.2⟩
end
/-! ### operators -/
def e1 (f : D → Option D) (a : Ex) : Ex := fun ρ => a ρ >>= fun x => ofO (f x)
def e2 (f : D → D → Option D) (a b : Ex) : Ex := fun ρ => a ρ >>= fun x => b ρ >>= fun y => ofO (f x y)
section
variable {X : Cx} {P : Pr} {m m1 m2 : Md} {a b c : Expr} {f g h : Ex} {pos : Pos}
theorem op2_imp {F : D → D → Option D} (hm : m1 ≠ .fr) (hm2 : m2 ≠ .fr) {σ : L2.St} {H : Hp} {Q : VK} (t : tE P m (e2 F f g) σ H Q) : tOp (rOpM P.G m1 m2 m F) (tE P m1 f) (tE P m2 g) σ H Q := by
  obtain ⟨S, ρ, R, q⟩ := t
  refine ⟨S, ρ, R, ?_⟩
  unfold e2 at q
  refine q.bind fun d v S1 H1 e1 ex p q1 => ⟨S1, ρ, R.to ex, ?_⟩
  refine q1.bind fun d' v' S2 H2 e2 ex' p' q2 => ⟨S2, d, d', ?_⟩
  cases hF : F d d' with
  | none => rw [hF] at q2; exact q2.elim
  | some r => rw [hF] at q2; exact ⟨r, (R.to (ex.trans ex')).sub, (p.ext hm ex').h0 hm, p'.h0 hm2, rfl, q2⟩
/-- what stays around an expression -/
structure Cy (X : Cx) (P : Pr) (k : Nat) (W : WX) : Prop where
  K : X.K = P.G.K
  calm : X.calm = true
  nd : X.N.Nodup
  room : Room k X.A
  tk : Takes X W
  hW : ∀ c σ H, P.W c σ H → ∃ C, P.G.ca c = some C ∧ W (.ref C) none σ H
variable {k : Nat} {W : WX}
theorem Cy.u1 (c : Cy X P k W) : X.A.units + 1 < cLine := by have := c.room.un; omega
theorem Cy.u65 (c : Cy X P k W) : X.A.units + 65 < cLine := by have := c.room.un; omega
theorem Cy.u80 (c : Cy X P k W) : X.A.units + 80 < cLine := by have := c.room.un; omega
theorem de_op (o : Op) (c : Cy X P k W) (ha : DE X P .bo a f) (hb : DE X P .bo b g) : DE X P .fr (.BinOp a o.o b pos) (e2 o.f f g) :=
  (pe_op (op_ok c.K o) ha hb).imp fun σ H Q t => op2_imp (m1 := .bo) (m2 := .bo) (by exact fun z => nomatch z) (by exact fun z => nomatch z) t
theorem op1_imp {F : D → Option D} (hm : m1 ≠ .fr) {σ : L2.St} {H : Hp} {Q : VK} (t : tE P m (e1 F f) σ H Q) : tUn (rUn P.G m1 m F) (tE P m1 f) σ H Q := by
  obtain ⟨S, ρ, R, q⟩ := t
  refine ⟨S, ρ, R, ?_⟩
  unfold e1 at q
  refine q.bind fun d v S1 H1 e1 ex p q1 => ⟨S1, d, ?_⟩
  cases hF : F d with
  | none => rw [hF] at q1; exact q1.elim
  | some r => rw [hF] at q1; exact ⟨r, (R.to ex).sub, p.h0 hm, rfl, q1⟩
theorem de_neg (ha : DE X P .bo a f) : DE X P .fr (.UnaryOp .USub a pos) (e1 pNeg f) :=
  (pe_un un_pNeg ha).imp fun σ H Q t => op1_imp (m1 := .bo) (by exact fun z => nomatch z) t
/-! ### comparisons -/
theorem cm_m (o : Cm) : o.m ≠ .fr := by cases o <;> exact fun z => nomatch z
theorem de_cmp (o : Cm) (c : Cy X P k W) (ha : DE X P .bo a f) (hb : DE X P o.m b g) (hm : behindInMarks o.o b = false := by first | exact nomark _ | rfl) : DE X P .fr (.Compare a [o.o] [b] pos) (e2 (o.f P.G.kt) f g) :=
  (pe_cmpR (cm_ok c.K c.u65 o) ha hb hm).imp fun σ H Q t => op2_imp (m1 := .bo) (m2 := o.m) (by exact fun z => nomatch z) (cm_m o) t
end
/-! ### tests -/
abbrev Tx := List Slot → Res Bool
def tT (P : Pr) (f : Tx) : TT := fun σ H Q => ∃ S ρ, Rdy P.G P.S0 P.H0 S H σ ρ ∧ match f ρ with
  | .ok b => ∀ S' H', Ext S H S' H' → Q b H'
  | .exc c => ∀ S' H', Ext S H S' H' → P.W c σ H'
  | .stuck => False
abbrev DT (X : Cx) (P : Pr) (e : Expr) (f : Tx) : Prop := PT X e (tT P f)
abbrev DW (X : Cx) (P : Pr) (e : Expr) (f : Tx) : Prop := PW X e (tT P f)
def asB : D → Res Bool
  | .bool b => .ok b
  | _ => .stuck
/-- a value's truth -/
def truD : D → Res Bool
  | .bool b => .ok b
  | .int i => .ok (i != 0)
  | .str x => .ok ((x.length : Int) != 0)
  | .none => .ok false
  | .list xs => .ok (!xs.isEmpty)
  | .tuple xs => .ok (!xs.isEmpty)
  | _ => .stuck
def tB (f : Ex) : Tx := fun ρ => f ρ >>= asB
def tV (f : Ex) : Tx := fun ρ => f ρ >>= truD
def eT (f : Tx) : Ex := fun ρ => f ρ >>= fun b => .ok (.bool b)
def tNotS (f : Tx) : Tx := fun ρ => f ρ >>= fun b => .ok (!b)
def tAndS (f g : Tx) : Tx := fun ρ => f ρ >>= fun b => if b then g ρ else .ok false
def tOrS (f g : Tx) : Tx := fun ρ => f ρ >>= fun b => if b then .ok true else g ρ
def eIf (t : Tx) (f g : Ex) : Ex := fun ρ => t ρ >>= fun b => if b then f ρ else g ρ
def eAnd (f g : Ex) : Ex := fun ρ => f ρ >>= fun x => match x with
  | .bool true => g ρ
  | .bool false => .ok (.bool false)
  | _ => .stuck
def eOr (f g : Ex) : Ex := fun ρ => f ρ >>= fun x => match x with
  | .bool true => .ok (.bool true)
  | .bool false => g ρ
  | _ => .stuck
def eNot (f : Ex) : Ex := fun ρ => f ρ >>= fun x => truD x >>= fun b => .ok (.bool (!b))
def FinT (P : Pr) (S H : Hp) (σ : L2.St) (r : Res Bool) (Q : Bool → Hp → Prop) : Prop := match r with
  | .ok b => ∀ S' H', Ext S H S' H' → Q b H'
  | .exc c => ∀ S' H', Ext S H S' H' → P.W c σ H'
  | .stuck => False
section
variable {X : Cx} {P : Pr} {m m1 m2 : Md} {a b c : Expr} {r : List Expr} {f g h : Ex} {u v : Tx} {pos : Pos} {S H S1 H1 : Hp} {σ : L2.St}
theorem FinT.later {r : Res Bool} {Q : Bool → Hp → Prop} (h : FinT P S H σ r Q) (e : Ext S H S1 H1) : FinT P S1 H1 σ r Q := by
  cases r with
  | ok d => exact fun S' H' e' => h S' H' (e.trans e')
  | exc c => exact fun S' H' e' => h S' H' (e.trans e')
  | stuck => exact h
/-- a test, then a test -/
theorem FinT.bind {r : Res Bool} {F : Bool → Res Bool} {Q Q1 : Bool → Hp → Prop} (h : FinT P S H σ (r >>= F) Q)
    (k : ∀ b S1 H1, r = .ok b → Ext S H S1 H1 → FinT P S1 H1 σ (F b) Q → Q1 b H1) : FinT P S H σ r Q1 := by
  cases r with
  | ok d => exact fun S1 H1 e => k d S1 H1 rfl e (FinT.later (show FinT P S H σ (F d) Q from h) e)
  | exc c => exact h
  | stuck => exact h
/-- a value, then a test -/
theorem FinT.bindE {r : Res D} {F : D → Res Bool} {Q : Bool → Hp → Prop} {Q1 : VK} (h : FinT P S H σ (r >>= F) Q)
    (k : ∀ d v S1 H1, r = .ok d → Ext S H S1 H1 → Pm m P.G H S1 H1 d v → FinT P S1 H1 σ (F d) Q → Q1 v H1) : Fin m P.G P.W S H σ r Q1 := by
  cases r with
  | ok d => exact fun v S1 H1 e p => k d v S1 H1 rfl e p (FinT.later (show FinT P S H σ (F d) Q from h) e)
  | exc c => exact h
  | stuck => exact h
/-- a test, then a value -/
theorem Fin.bindT {r : Res Bool} {F : Bool → Res D} {Q : VK} {Q1 : Bool → Hp → Prop} (h : Fin m P.G P.W S H σ (r >>= F) Q)
    (k : ∀ b S1 H1, r = .ok b → Ext S H S1 H1 → Fin m P.G P.W S1 H1 σ (F b) Q → Q1 b H1) : FinT P S H σ r Q1 := by
  cases r with
  | ok d => exact fun S1 H1 e => k d S1 H1 rfl e (Fin.later (show Fin m P.G P.W S H σ (F d) Q from h) e)
  | exc c => exact h
  | stuck => exact h
theorem FinT.ok {b : Bool} {Q : Bool → Hp → Prop} (s : Same S H) (h : FinT P S H σ (.ok b) Q) : Q b H := h S H (.refl s)
theorem RepL.emp {G : Gx} {ds : List D} {vs : List V} (r : RepL G S ds vs) : ds.isEmpty = vs.isEmpty := by
  have := r.length
  cases ds <;> cases vs <;> simp_all
theorem truD_ok {d : D} {v : V} {b : Bool} (s : Same S H) (p : Pb P.G S H d v) (e : truD d = .ok b) : TruV P.G.K v H b := by
  unfold truD at e
  split at e <;> cases e
  · rw [p.bool]; rfl
  · rw [p.int]; rfl
  · obtain ⟨rfl, h1, _⟩ := p.str
    exact ⟨h1, rfl⟩
  · rw [p.none]; rfl
  · obtain ⟨a, vs, rfl, q, _, r⟩ := p.list s
    exact .inl ⟨vs, .inl q, by rw [r.emp]⟩
  · obtain ⟨a, vs, rfl, q, _, r⟩ := p.tuple s
    exact .inr (.inl ⟨vs, q, by rw [r.emp]⟩)
theorem asB_tru {d : D} {b : Bool} (e : asB d = .ok b) : d = .bool b := by
  unfold asB at e
  split at e <;> cases e
  rfl
/-- a test from a value, wholly -/
theorem tB_imp {σ : L2.St} {H : Hp} {Q : Bool → Hp → Prop} (t : tT P (tB f) σ H Q) : tE P .bo f σ H fun x H' => ∃ k, x = .bl k ∧ Q k H' := by
  obtain ⟨S, ρ, R, q⟩ := t
  refine ⟨S, ρ, R, ?_⟩
  refine FinT.bindE (P := P) (show FinT P S H σ (f ρ >>= asB) Q from q) fun d v S1 H1 e1 ex p q1 => ?_
  cases hd : asB d with
  | ok b =>
    rw [hd] at q1
    rw [asB_tru hd] at p
    exact ⟨b, Pb.bool p, q1.ok (R.to ex).sub⟩
  | exc c => cases d <;> cases hd
  | stuck => rw [hd] at q1; exact q1.elim
theorem tV_imp {σ : L2.St} {H : Hp} {Q : Bool → Hp → Prop} (t : tT P (tV f) σ H Q) : tE P .bo f σ H fun x H' => ∃ k, TruV P.G.K x H' k ∧ Q k H' := by
  obtain ⟨S, ρ, R, q⟩ := t
  refine ⟨S, ρ, R, ?_⟩
  refine FinT.bindE (P := P) (show FinT P S H σ (f ρ >>= truD) Q from q) fun d v S1 H1 e1 ex p q1 => ?_
  cases hd : truD d with
  | ok b =>
    rw [hd] at q1
    exact ⟨b, truD_ok (R.to ex).sub p hd, q1.ok (R.to ex).sub⟩
  | exc c => unfold truD at hd; split at hd <;> cases hd
  | stuck => rw [hd] at q1; exact q1.elim
variable {k : Nat} {W : WX}
theorem dt_v (c : Cy X P k W) (ha : DE X P .bo a f) (he : ∀ whole, isTrue a X.env whole = (do let v ← whole; standAt a.pos; holding [v] (truthy v)) := by intro _; rfl) : DT X P a (tV f) :=
  (pt_truth ha he).imp fun σ H Q t => by
    have := tV_imp t
    rw [← c.K] at this
    exact this
theorem dt_cmp (o : Cm) (c : Cy X P k W) (ha : DE X P .bo a f) (hb : DE X P o.m b g) (hm : behindInMarks o.o b = false := by first | exact nomark _ | rfl) : DT X P (.Compare a [o.o] [b] pos) (tB (e2 (o.f P.G.kt) f g)) :=
  (pt_cmpR (cm_ok c.K c.u65 o) ha hb hm).imp fun σ H Q t => by
    obtain ⟨S, ρ, R, q⟩ := tB_imp t
    refine op2_imp (m1 := .bo) (m2 := o.m) (m := .fr) (by exact fun z => nomatch z) (cm_m o) (Q := fun x H' => ∃ k, x = .bl k ∧ Q k H') ⟨S, ρ, R, ?_⟩
    cases hr : e2 (o.f P.G.kt) f g ρ with
    | exc c => rw [hr] at q; exact q
    | stuck => rw [hr] at q; exact q
    | ok d =>
      rw [hr] at q
      intro v S' H' ex p
      cases hd : isMut d with
      | false => exact q v S' H' ex (by
          unfold Pm at p
          dsimp only at p
          rw [if_neg (by rw [hd]; exact Bool.false_ne_true)] at p
          exact .inl p)
      | true => 
          unfold Pm at p
          dsimp only at p
          rw [if_pos hd] at p
          obtain ⟨a, e, _, _, w⟩ := p
          exact q v S' H' ex (.inr ⟨a, e, w⟩)
theorem dt_not (ha : DT X P a u) : DT X P (.UnaryOp .Not a pos) (tNotS u) :=
  (pt_not ha).imp fun σ H Q ⟨S, ρ, R, q⟩ => ⟨S, ρ, R, FinT.bind (P := P) q fun b S1 H1 e1 ex q1 => q1.ok (R.to ex).sub⟩
theorem dw_and (ha : DT X P a u) (hb : DW X P (.BoolOp .And (b :: r) pos) v) : DW X P (.BoolOp .And (a :: b :: r) pos) (tAndS u v) :=
  (pw_and ha hb).imp fun σ H Q ⟨S, ρ, R, q⟩ => ⟨S, ρ, R, FinT.bind (P := P) q fun b S1 H1 e1 ex q1 => by
    cases b with
    | true => rw [if_pos rfl]; exact ⟨S1, ρ, R.to ex, q1⟩
    | false => rw [if_neg Bool.false_ne_true]; exact q1.ok (R.to ex).sub⟩
theorem dw_or (ha : DT X P a u) (hb : DW X P (.BoolOp .Or (b :: r) pos) v) : DW X P (.BoolOp .Or (a :: b :: r) pos) (tOrS u v) :=
  (pw_or ha hb).imp fun σ H Q ⟨S, ρ, R, q⟩ => ⟨S, ρ, R, FinT.bind (P := P) q fun b S1 H1 e1 ex q1 => by
    cases b with
    | true => rw [if_pos rfl]; exact q1.ok (R.to ex).sub
    | false => rw [if_neg Bool.false_ne_true]; exact ⟨S1, ρ, R.to ex, q1⟩⟩
theorem dw_and1 (ha : DT X P a u) : DW X P (.BoolOp .And [a] pos) u := pw_and1 ha
theorem dw_or1 (ha : DT X P a u) : DW X P (.BoolOp .Or [a] pos) u := pw_or1 ha
/-! ### the same as values -/
theorem de_if (hc : DT X P c u) (ha : DE X P m a f) (hb : DE X P m b g) : DE X P m (.IfExp c a b pos) (eIf u f g) :=
  (pe_ifExp hc ha hb).imp fun σ H Q ⟨S, ρ, R, q⟩ => ⟨S, ρ, R, Fin.bindT (P := P) q fun b S1 H1 e1 ex q1 => by
    cases b with
    | true => rw [if_pos rfl]; exact ⟨S1, ρ, R.to ex, q1⟩
    | false => rw [if_neg Bool.false_ne_true]; exact ⟨S1, ρ, R.to ex, q1⟩⟩
theorem de_and1 (ha : DE X P m a f) : DE X P m (.BoolOp .And [a] pos) f := pe_one ha
theorem de_or1 (ha : DE X P m a f) : DE X P m (.BoolOp .Or [a] pos) f := pe_one ha
theorem de_and (ha : DE X P .bo a f) (hb : DE X P m (.BoolOp .And (b :: r) pos) g) : DE X P m (.BoolOp .And (a :: b :: r) pos) (eAnd f g) :=
  (pe_and ha hb).imp fun σ H Q ⟨S, ρ, R, q⟩ => ⟨S, ρ, R, by
    unfold eAnd at q
    refine q.bind fun d v S1 H1 e1 ex p q1 => ?_
    split at q1
    · exact ⟨true, Pb.bool p, ⟨S1, ρ, R.to ex, q1⟩⟩
    · exact ⟨false, Pb.bool p, (R.to ex).wt q1 (.of_rep (by simp only [Rep]) (.inl rfl))⟩
    · exact q1.elim⟩
theorem de_or (ha : DE X P .bo a f) (hb : DE X P m (.BoolOp .Or (b :: r) pos) g) : DE X P m (.BoolOp .Or (a :: b :: r) pos) (eOr f g) :=
  (pe_or ha hb).imp fun σ H Q ⟨S, ρ, R, q⟩ => ⟨S, ρ, R, by
    unfold eOr at q
    refine q.bind fun d v S1 H1 e1 ex p q1 => ?_
    split at q1
    · exact ⟨true, Pb.bool p, (R.to ex).wt q1 (.of_rep (by simp only [Rep]) (.inl rfl))⟩
    · exact ⟨false, Pb.bool p, ⟨S1, ρ, R.to ex, q1⟩⟩
    · exact q1.elim⟩
theorem de_not (c' : Cy X P k W) (ha : DE X P .bo a f) : DE X P m (.UnaryOp .Not a pos) (eNot f) :=
  (pe_notT ha).imp fun σ H Q ⟨S, ρ, R, q⟩ => ⟨S, ρ, R, by
    unfold eNot at q
    refine q.bind fun d v S1 H1 e1 ex p q1 => ?_
    cases hd : truD d with
    | ok b =>
      rw [hd] at q1
      exact ⟨b, by rw [c'.K]; exact truD_ok (R.to ex).sub p hd, (R.to ex).wt q1 (.of_rep (by simp only [Rep]) (.inl rfl))⟩
    | exc c => unfold truD at hd; split at hd <;> cases hd
    | stuck => rw [hd] at q1; exact q1.elim⟩
end
end Ev

set_option Elab.async false
set_option linter.all false
set_option maxRecDepth 100000
set_option maxHeartbeats 1000000
/-! Ev, part I: displays, indices, slices, calls of the built-ins, isinstance. -/
namespace Ev
open PySem PySem.Spec PyProof.Rows L2 PySem.W
/-! ### displays -/
def mkTup (ds : List D) : Res D := if ds.length ≤ line then .ok (.tuple ds) else .stuck
def mkLst (ds : List D) : Res D := if ds.length ≤ line then .ok (.list ds) else .stuck
def eTup (g : Exs) : Ex := fun ρ => g ρ >>= mkTup
def eLst (g : Exs) : Ex := fun ρ => g ρ >>= mkLst
def eBi (F : List D → Option D) (g : Exs) : Ex := fun ρ => g ρ >>= fun ds => ofO (F ds)
def FinA (P : Pr) (m : Md) (S H : Hp) (σ : L2.St) (r : Res (List D)) (Q : List V → Hp → Prop) : Prop := match r with
  | .ok ds => ∀ vs S' H', Ext S H S' H' → AllP m P.G S' H' ds vs → Q vs H'
  | .exc c => ∀ S' H', Ext S H S' H' → P.W c σ H'
  | .stuck => False
theorem FinA.later {P : Pr} {m : Md} {S H S1 H1 : Hp} {σ : L2.St} {r : Res (List D)} {Q : List V → Hp → Prop} (h : FinA P m S H σ r Q) (e : Ext S H S1 H1) : FinA P m S1 H1 σ r Q := by
  cases r with
  | ok d => exact fun vs S' H' e' => h vs S' H' (e.trans e')
  | exc c => exact fun S' H' e' => h S' H' (e.trans e')
  | stuck => exact h
/-- values, then a value -/
theorem Fin.bindA {P : Pr} {m m1 : Md} {S H : Hp} {σ : L2.St} {r : Res (List D)} {F : List D → Res D} {Q : VK} {Q1 : List V → Hp → Prop} (h : Fin m P.G P.W S H σ (r >>= F) Q)
    (k : ∀ ds vs S1 H1, r = .ok ds → Ext S H S1 H1 → AllP m1 P.G S1 H1 ds vs → Fin m P.G P.W S1 H1 σ (F ds) Q → Q1 vs H1) : FinA P m1 S H σ r Q1 := by
  cases r with
  | ok d => exact fun vs S1 H1 e p => k d vs S1 H1 rfl e p (Fin.later (show Fin m P.G P.W S H σ (F d) Q from h) e)
  | exc c => exact h
  | stuck => exact h
section
variable {X : Cx} {P : Pr} {m m1 m2 : Md} {a b e : Expr} {es r : List Expr} {f f' : Ex} {g : Exs} {pos : Pos} {k : Nat} {W : WX} {x : Str} {p : Pos}
theorem de_tup {x1} (h : DA X P .sh es g) : DE X P m (.Tuple es x1 pos) (eTup g) :=
  (pe_tup h).imp fun σ H Q ⟨S, ρ, R, q⟩ => ⟨S, ρ, R, Fin.bindA (P := P) (m := m) (S := S) (Q := Q) (F := mkTup) q fun ds vs S1 H1 e1 ex pa q1 => by
    unfold mkTup at q1
    split at q1
    · rename_i hz
      have hl := pa.s.length
      exact ⟨by rw [line_eq]; omega, fun p hp => Wt.tuple q1 (R.to ex).sub pa.s (by rw [line_eq]; omega) p hp⟩
    · exact q1.elim⟩
theorem de_lst (h : DA X P .sh es g) : DE X P .fr (.List es pos) (eLst g) :=
  (pe_lst h).imp fun σ H Q ⟨S, ρ, R, q⟩ => ⟨S, ρ, R, Fin.bindA (P := P) (m := .fr) (S := S) (Q := Q) (F := mkLst) q fun ds vs S1 H1 e1 ex pa q1 => by
    unfold mkLst at q1
    split at q1
    · rename_i hz
      have hl := pa.s.length
      exact ⟨by rw [line_eq]; omega, fun p hp => Wt.list q1 (R.to ex).sub pa.s (by rw [line_eq]; omega) p hp⟩
    · exact q1.elim⟩
/-! ### indices -/
theorem de_ix (c : Cy X P k W) (ha : DE X P .bg a f) (hb : DE X P .bo b f') (hs : PlainIx b := by intro _ _; rfl) : DE X P .sh (.Subscript a b pos) (e2 (pIx P.G.kt) f f') :=
  (pe_ix (ix_ok c.K c.u1) ha hb hs).imp fun σ H Q t => op2_imp (m1 := .bg) (m2 := .bo) (by exact fun z => nomatch z) (by exact fun z => nomatch z) t
/-! ### slices -/
abbrev Ox := List Slot → Res (Option Int)
def oNo : Ox := fun _ => .ok none
def oSome (f : Ex) : Ox := fun ρ => f ρ >>= fun d => match d with
  | .int i => .ok (some i)
  | _ => .stuck
def tO (P : Pr) (f : Ox) : TO := fun σ H Q => ∃ S ρ, Rdy P.G P.S0 P.H0 S H σ ρ ∧ match f ρ with
  | .ok o => ∀ S' H', Ext S H S' H' → Q o H'
  | .exc c => ∀ S' H', Ext S H S' H' → P.W c σ H'
  | .stuck => False
abbrev DO (X : Cx) (P : Pr) (e : Option Expr) (f : Ox) : Prop := PO X e (tO P f)
theorem _root_.L2.PO.imp {e : Option Expr} {t t' : TO} (h : PO X e t) (k : ∀ σ H Q, t' σ H Q → t σ H Q) : PO X e t' := ⟨fun pins s σ H Q I q => h.run pins s σ H Q I (k σ H Q q)⟩
theorem do_no : DO X P none oNo := po_none.imp fun σ H Q ⟨S, ρ, R, q⟩ => q S H (.refl R.sub)
theorem do_some (h : DE X P .bo e f) : DO X P (some e) (oSome f) := (po_some h).imp fun σ H Q ⟨S, ρ, R, q⟩ => ⟨S, ρ, R, by
  unfold oSome at q
  cases hf : f ρ with
  | exc c => rw [hf] at q; exact q
  | stuck => rw [hf] at q; exact q
  | ok d =>
    rw [hf, ok_bind] at q
    intro v S1 H1 ex p
    cases d with
    | int i => exact ⟨i, Pb.int p, q S1 H1 ex⟩
    | none => exact q.elim
    | bool _ => exact q.elim
    | str _ => exact q.elim
    | list _ => exact q.elim
    | tuple _ => exact q.elim
    | dict _ => exact q.elim⟩
theorem cut_rep {G : Gx} {S : Hp} {ds : List D} {vs : List V} (r : RepL G S ds vs) (lo hi : Option Int) : RepL G S (cutD ds lo hi) (cutV vs lo hi) := by
  have hl := r.length
  unfold cutD cutV
  rw [hl]
  exact (r.drop _).take _
def rCut (G : Gx) : V → Option Int → Option Int → Hp → VK → Prop := fun x lo hi H Q => ∃ S dx d, Same S H ∧ Pm .bo G H S H dx x ∧ pCut lo hi dx = some d ∧ Wt G .fr S H d Q
theorem strOk_sub {x : Str} {l : List Nat} (h : PyData.strOk x = true) (hc : ∀ c ∈ l, c ∈ x.cps.toList) : PyData.strOk ⟨l.toArray⟩ = true := by
  unfold PyData.strOk at h ⊢
  rw [Array.all_eq_true'] at h ⊢
  intro c hm
  exact h c (Array.mem_toList_iff.mp (hc c (by simpa using hm)))
theorem sl_ok (hK : X.K = P.G.K) : SlR X (rCut P.G) := by
  intro pins s σ H x v vl vu lo hi sl Q I rx hs pl pu h
  obtain ⟨S, dx, d, ss, px, e, w⟩ := h
  have px : Pb P.G S H dx x := px
  unfold pCut at e
  split at e
  · rename_i ds _
    cases e
    obtain ⟨a, vs, rfl, q, z, r⟩ := px.list ss
    refine sl_list pins s σ H _ v vl vu lo hi sl Q I rx hs pl pu ⟨a, vs, rfl, Rd.sqL q, ?_⟩
    exact w.list ss (cut_rep r lo hi) (Nat.le_trans (cutV_length vs lo hi) z)
  · rename_i ds _
    cases e
    have px0 := px
    obtain ⟨a, vs, rfl, q, z, r⟩ := px.tuple ss
    refine sl_tupA pins s σ H _ v vl vu lo hi sl Q I rx hs pl pu ⟨a, vs, rfl, by rw [hK]; exact q, fun hw => ?_, fun _ => w.tuple ss (cut_rep r lo hi) (Nat.le_trans (cutV_length vs lo hi) z)⟩
    have e1 : cutD ds lo hi = ds := by
      unfold cutD
      rw [r.length, hw.1, hw.2, List.drop_zero, Nat.sub_zero, ← r.length, List.take_length]
    rw [e1] at w
    exact w.rep ss (px0.rep rfl) (.inl rfl)
  · rename_i y _
    cases e
    obtain ⟨rfl, h1, h2⟩ := px.str
    exact sl_str pins s σ H _ v vl vu lo hi sl Q I rx hs pl pu ⟨y, rfl, h1, w.str ss (Nat.le_trans (cutS_length y lo hi) h1) (strOk_sub h2 fun c hc => List.mem_of_mem_drop (List.mem_of_mem_take hc))⟩
  · cases e
def eSl (f : Ex) (l u : Ox) : Ex := fun ρ => f ρ >>= fun d => match l ρ with
  | .ok lo => (match u ρ with
    | .ok hi => ofO (pCut lo hi d)
    | .exc c => .exc c
    | .stuck => .stuck)
  | .exc c => .exc c
  | .stuck => .stuck
theorem de_sl {lo hi : Option Expr} {l u : Ox} {p2} (c : Cy X P k W) (he : DE X P .bo e f) (hl : DO X P lo l) (hu : DO X P hi u) : DE X P .fr (.Subscript e (.Slice lo hi none p2) pos) (eSl f l u) :=
  (pe_slice (sl_ok c.K) he hl hu).imp fun σ H Q ⟨S, ρ, R, q⟩ => ⟨S, ρ, R, by
    unfold eSl at q
    refine q.bind fun d v S1 H1 e1 ex p q1 => ⟨S1, ρ, R.to ex, ?_⟩
    cases hl : l ρ with
    | stuck => rw [hl] at q1; exact q1.elim
    | exc c => rw [hl] at q1; exact q1
    | ok lo =>
      rw [hl] at q1
      intro S2 H2 e2
      refine ⟨S2, ρ, R.to (ex.trans e2), ?_⟩
      dsimp only at q1
      cases hu : u ρ with
      | stuck => rw [hu] at q1; exact q1.elim
      | exc c =>
        rw [hu] at q1
        exact fun S' H' e' => q1 S' H' (e2.trans e')
      | ok hi =>
        rw [hu] at q1
        dsimp only at q1
        intro S3 H3 e3
        cases hc : pCut lo hi d with
        | none => rw [hc] at q1; exact q1.elim
        | some d' =>
          rw [hc] at q1
          refine ⟨S3, d, d', (R.to (ex.trans (e2.trans e3))).sub, (p.ext (by exact fun z => nomatch z) (e2.trans e3)).h0 (by exact fun z => nomatch z), hc, Wt.later q1 (e2.trans e3)⟩⟩
/-- xs[::-1] of a list -/
def pRevL : D → Option D
  | .list xs => some (.list xs.reverse)
  | _ => none
theorem de_revL {j : Nat} {p1 p2 p3} (c : Cy X P k W) (he : DE X P .bo e f) : DE X P .fr (.Subscript e (.Slice none none (some (.UnaryOp .USub (.Constant (.int 1) j p1) p2)) p3) pos) (e1 pRevL f) :=
  (pe_revL he).imp fun σ H Q ⟨S, ρ, R, q⟩ => ⟨S, ρ, R, by
    unfold e1 at q
    refine q.bind fun d v S1 H1 e1 ex p q1 => ?_
    cases d with
    | list ds =>
      obtain ⟨a, vs, rfl, q, z, r⟩ := Pb.list (R.to ex).sub p
      have hr : RepL P.G S1 ds.reverse vs.reverse := r.reverse
      exact ⟨a, vs, rfl, Rd.sqL q, Wt.list q1 (R.to ex).sub hr (by rw [List.length_reverse]; exact z)⟩
    | int i => exact q1.elim
    | none => exact q1.elim
    | bool _ => exact q1.elim
    | str _ => exact q1.elim
    | tuple _ => exact q1.elim
    | dict _ => exact q1.elim⟩
/-! ### the built-ins called -/
theorem call_imp {F : List D → Option D} {σ : L2.St} {H : Hp} {Q : VK} (t : tE P m (eBi F g) σ H Q) : tCB (rCall P.G F m) (tA P .bo g) σ H Q := by
  obtain ⟨S, ρ, R, q⟩ := t
  refine ⟨S, ρ, R, ?_⟩
  unfold eBi at q
  refine Fin.bindA (P := P) (m := m) (S := S) (Q := Q) (F := fun ds => ofO (F ds)) q fun ds vs S1 H1 e1 ex pa q1 => ?_
  cases hF : F ds with
  | none => rw [hF] at q1; exact q1.elim
  | some d => rw [hF] at q1; exact ⟨S1, ds, d, (R.to ex).sub, pa.b, hF, q1⟩
theorem de_bi {F : List D → Option D} {id : String} (hc : CallR X (.builtin id) (rCall P.G F m)) (hm : X.mg x = none) (hv : bootBuiltins x = some (.builtin id)) (ha : DA X P .bo (e :: es) g) (hg : Gl X x := by rfl) (hn : x ≠ "__name__" := by decide) (hdb : (x == ("__debug__" : Str)) = false := by decide)
    (he : starEach (e :: es) X.env = (false, eval e X.env) :: starEach es X.env := by rfl) (hpl : (backTo pos (starEach es X.env)).any (·.1) = false := by rfl) : DE X P m (.Call (.Name x p) (e :: es) [] pos) (eBi F g) :=
  (pe_callB hc hg hm hv ha hn hdb he hpl).imp fun σ H Q t => call_imp t
theorem de_ty {F : List D → Option D} {T : String} (hc : CallR X (.type T) (rCall P.G F m)) (hm : X.mg x = none) (hv : bootBuiltins x = some (.type T)) (ha : DA X P .bo (e :: es) g) (hg : Gl X x := by rfl) (hn : x ≠ "__name__" := by decide) (hdb : (x == ("__debug__" : Str)) = false := by decide)
    (he : starEach (e :: es) X.env = (false, eval e X.env) :: starEach es X.env := by rfl) (hpl : (backTo pos (starEach es X.env)).any (·.1) = false := by rfl) : DE X P m (.Call (.Name x p) (e :: es) [] pos) (eBi F g) :=
  (pe_callTy hc hg hm hv ha hn hdb he hpl).imp fun σ H Q t => call_imp t
/-! ### isinstance -/
def tyName : D → Option String
  | .none => some "NoneType"
  | .bool _ => some "bool"
  | .int _ => some "int"
  | .str _ => some "str"
  | .list _ => some "list"
  | .tuple _ => some "tuple"
  | .dict ((.bool false, .none) :: _) => some "dict"
  | _ => none
def tyOk (b : String) : Bool := b == "int" || b == "bool" || b == "str" || b == "tuple" || b == "list" || b == "dict"
def isA (a b : String) : Bool := a == b || (a == "bool" && b == "int")
def pIsi (b : String) (d : D) : Option D := if tyOk b then (tyName d).map fun a => .bool (isA a b) else none
theorem kit_isA : ∀ a ∈ ["NoneType", "bool", "int", "str", "list", "tuple", "dict"], ∀ b ∈ ["int", "bool", "str", "tuple", "list", "dict"], kitB a b = some (isA a b) := by decide +kernel
theorem tyName_mem {d : D} {a : String} (h : tyName d = some a) : a ∈ ["NoneType", "bool", "int", "str", "list", "tuple", "dict"] := by
  unfold tyName at h
  split at h <;> cases h <;> decide
theorem tyOk_mem {b : String} (h : tyOk b = true) : b ∈ ["int", "bool", "str", "tuple", "list", "dict"] := by
  unfold tyOk at h
  simp only [Bool.or_eq_true, beq_iff_eq] at h
  rcases h with ((((h | h) | h) | h) | h) | h <;> (subst h; decide)
theorem kt_ty {G : Gx} {S H : Hp} {d : D} {v : V} {a : String} (s : Same S H) (p : Pb G S H d v) (h : tyName d = some a) : TyX G.K H v (.type a) := by
  unfold tyName at h
  split at h <;> cases h
  · rw [p.none]; exact .base .non
  · rw [p.bool]; exact .base (.bl _)
  · rw [p.int]; exact .base (.int _)
  · rw [p.str.1]; exact .base (.str _)
  · obtain ⟨a, vs, rfl, q, _, r⟩ := p.list s
    rcases q with q | ⟨o, q⟩
    · exact .base (.lst q)
    · exact .base (.frz q)
  · obtain ⟨a, vs, rfl, q, _, r⟩ := p.tuple s
    rcases q with (q | ⟨o, q⟩) | ⟨o, _, _, q, c, _⟩
    · exact .base (.tup q)
    · exact .fTuple q
    · exact .kTuple q c
  · rename_i kvs
    obtain ⟨a, vs, rfl, r, z, q⟩ := Pb.dict (t := false) (kvs := kvs) s p
    obtain ⟨ps, en, _, q⟩ := q.k r
    rcases q with q | ⟨o, q⟩
    · exact .base (.dK q)
    · exact .fDict q
theorem de_isi {b : String} {f : Ex} {y : Str} {p1} (c : Cy X P k W) (he : DE X P .bo e f) (hm : X.mg x = none) (hv : bootBuiltins x = some (.builtin "isinstance")) (hm2 : X.mg y = none) (hv2 : bootBuiltins y = some (.type b)) (hg2 : Gl X y := by rfl) (hg : Gl X x := by rfl)
    (hn : x ≠ "__name__" := by decide) (hdb : (x == ("__debug__" : Str)) = false := by decide) (hn2 : y ≠ "__name__" := by decide) (hdb2 : (y == ("__debug__" : Str)) = false := by decide)
    (hs : starEach (e :: [.Name y p1]) X.env = (false, eval e X.env) :: starEach [.Name y p1] X.env := by rfl)
    (hpl : (backTo pos (starEach [.Name y p1] X.env)).any (·.1) = false := by rfl) : DE X P m (.Call (.Name x p) [e, .Name y p1] [] pos) (e1 (pIsi b) f) :=
  (pe_callB call_isi hg hm hv (pa_cons he (pa_cons (pe_bltn (v := .ty b) hg2 hm2 hv2 rfl hn2 hdb2) pa_nil) hs) hn hdb hs hpl).imp fun σ H Q ⟨S, ρ, R, q⟩ => ⟨S, ρ, R, by
    unfold Ev.e1 at q
    refine q.bind fun d v S1 H1 e1 ex p q1 => ?_
    unfold pIsi at q1
    split at q1
    · rename_i hb
      cases ha : tyName d with
      | none => rw [ha] at q1; exact q1.elim
      | some a =>
        rw [ha] at q1
        refine ⟨v, .ty b, .type a, .type b, isA a b, rfl, .ty b, by rw [c.K]; exact kt_ty (R.to ex).sub p ha, kit_ty (kit_isA a (tyName_mem ha) b (tyOk_mem hb)), ?_⟩
        exact (R.to ex).wt q1 (.of_rep (by simp only [Rep]) (.inl rfl))
    · exact q1.elim⟩
end
end Ev

set_option Elab.async false
set_option linter.all false
set_option maxRecDepth 100000
set_option maxHeartbeats 1000000
/-! Ev, part J: changing slots; targets; iteration; list comprehensions. -/
namespace Ev
open PySem PySem.Spec PyProof.Rows L2 PySem.W
section
variable {G : Gx} {S S' S1 S2 H H' H1 H2 S0 H0 : Hp} {σ : L2.St} {ρ : List Slot}
theorem get_set {α : Type} {l : List α} {i j : Nat} {x y : α} (h : (l.set i x)[j]? = some y) : (j = i ∧ y = x) ∨ (j ≠ i ∧ l[j]? = some y) := by
  by_cases e : j = i
  · subst e
    rw [List.getElem?_set_self'] at h
    cases z : l[j]? with
    | none => rw [z] at h; cases h
    | some u => rw [z] at h; exact .inl ⟨rfl, (Option.some.inj h).symm⟩
  · rw [List.getElem?_set_ne (fun z => e z.symm)] at h
    exact .inr ⟨e, h⟩
theorem set_self {l : L2.St} {ρ : List Slot} {i : Nat} {x : Option V} {s : Slot} (hl : ρ.length = l.length) (h : (ρ.set i s)[i]? = some s) : (l.set i x)[i]? = some x := by
  have : i < ρ.length := by
    rcases Nat.lt_or_ge i ρ.length with z | z
    · exact z
    · rw [List.getElem?_eq_none (by rw [List.length_set]; exact z)] at h; cases h
  exact List.getElem?_set_self (by omega)
/-- a slot is set: to what is frozen, to an own new thing, to nothing -/
inductive NewS (G : Gx) (H0 S H : Hp) (σ : L2.St) (ρ : List Slot) (i : Nat) : Slot → Option V → Prop
  | no {x : Option V} : NewS G H0 S H σ ρ i .no x
  | sh {d : D} {v : V} (r : Rep G S d v) : NewS G H0 S H σ ρ i (.sh d) (some v)
  | ow {s : Slot} {a : Addr} (o : s.owned = true) (n : S a = none) (n0 : H0 a = none) (w : Own G S H s a) (d : ∀ j u, j ≠ i → ρ[j]? = some u → u.owned = true → σ[j]? ≠ some (some (.ref a))) : NewS G H0 S H σ ρ i s (some (.ref a))
theorem Stt.put {i : Nat} {s : Slot} {x : Option V} (h : Stt G H0 S H σ ρ) (n : NewS G H0 S H σ ρ i s x) : Stt G H0 S H (σ.set i x) (ρ.set i s) := by
  refine ⟨h.sub, by rw [List.length_set, List.length_set]; exact h.len, fun j d e => ?_, fun j u e o => ?_, fun j k u u' a e o e' o' q q' => ?_, fun j ds e => ?_⟩
  · rcases get_set e with ⟨rfl, z⟩ | ⟨z, e⟩
    · cases n with
      | no => cases z
      | sh r => cases z; exact ⟨_, set_self h.len e, r⟩
      | ow o => rw [← z] at o; cases o
    · obtain ⟨v, e1, r⟩ := h.sh j d e
      exact ⟨v, by rw [List.getElem?_set_ne (fun q => z q.symm)]; exact e1, r⟩
  · rcases get_set e with ⟨rfl, z⟩ | ⟨z, e⟩
    · subst z
      cases n with
      | no => cases o
      | sh r => cases o
      | ow o n n0 w d => exact ⟨_, set_self h.len e, n, n0, w⟩
    · obtain ⟨a, e1, r⟩ := h.ow j u e o
      exact ⟨a, by rw [List.getElem?_set_ne (fun q => z q.symm)]; exact e1, r⟩
  · rcases get_set e with ⟨rfl, z⟩ | ⟨z, f⟩
    · rcases get_set e' with ⟨rfl, z'⟩ | ⟨z', f'⟩
      · rfl
      · subst z
        cases n with
        | no => cases o
        | sh r => cases o
        | ow o n n0 w d =>
          rw [List.getElem?_set_ne (fun q => z' q.symm)] at q'
          rw [set_self h.len e] at q
          cases q
          exact absurd q' (d k u' z' f' o')
    · rcases get_set e' with ⟨rfl, z'⟩ | ⟨z', f'⟩
      · subst z'
        cases n with
        | no => cases o'
        | sh r => cases o'
        | ow o' n n0 w d =>
          rw [List.getElem?_set_ne (fun q => z q.symm)] at q
          rw [set_self h.len e'] at q'
          cases q'
          exact absurd q (d j u z f o)
      · rw [List.getElem?_set_ne (fun q => z q.symm)] at q
        rw [List.getElem?_set_ne (fun q => z' q.symm)] at q'
        exact h.ne j k u u' a f o f' o' q q'
  · rcases get_set e with ⟨rfl, z⟩ | ⟨z, e⟩
    · cases n with
      | no => cases z
      | sh r => cases z
      | ow o => rw [← z] at o; cases o
    · obtain ⟨a, vs, e1, r⟩ := h.bs j ds e
      exact ⟨a, vs, by rw [List.getElem?_set_ne (fun q => z q.symm)]; exact e1, r⟩
theorem Rdy.put {i : Nat} {s : Slot} {x : Option V} (h : Rdy G S0 H0 S H σ ρ) (n : NewS G H0 S H σ ρ i s x) : Rdy G S0 H0 S H (σ.set i x) (ρ.set i s) := ⟨h.ext, h.stt.put n⟩
/-- a slot is forgotten -/
theorem Rdy.kill (i : Nat) (h : Rdy G S0 H0 S H σ ρ) : Rdy G S0 H0 S H σ (ρ.set i .no) := by
  have := h.put (i := i) (s := .no) (x := (σ[i]?).join) .no
  have e : σ.set i (σ[i]?).join = σ := by
    apply List.ext_getElem?
    intro j
    by_cases hj : j = i
    · subst hj
      rw [List.getElem?_set_self']
      cases σ[j]? <;> rfl
    · rw [List.getElem?_set_ne (fun q => hj q.symm)]
  rwa [e] at this
def killS : List Nat → List Slot → List Slot
  | [], ρ => ρ
  | i :: is, ρ => (killS is ρ).set i .no
theorem Rdy.kills (h : Rdy G S0 H0 S H σ ρ) : ∀ is : List Nat, Rdy G S0 H0 S H σ (killS is ρ)
  | [] => h
  | i :: is => (h.kills is).kill i
theorem Rdy.wipe (h : Rdy G S0 H0 S H σ ρ) : ∀ is : List Nat, Rdy G S0 H0 S H (L2.wipe σ is) (killS is ρ)
  | [] => h
  | i :: is => (h.wipe is).put .no
/-- an own thing is frozen -/
def frzS (i : Nat) (ρ : List Slot) : List Slot := match ρ[i]? with
  | some (.ol ds) => ρ.set i (.sh (.list ds))
  | some (.od t kvs) => ρ.set i (.sh (dB t kvs))
  | _ => ρ
theorem own_mut : ∀ {s : Slot} {a : Addr}, Own G S H s a → ∃ d, MutAt G S H d a ∧ ((∃ ds, s = .ol ds ∧ d = .list ds) ∨ ∃ t kvs, s = .od t kvs ∧ d = dB t kvs)
  | .ol ds, _, h => ⟨.list ds, .inl ⟨ds, rfl, h⟩, .inl ⟨ds, rfl, rfl⟩⟩
  | .od t kvs, _, h => ⟨dB t kvs, .inr ⟨t, kvs, rfl, h⟩, .inr ⟨t, kvs, rfl, rfl⟩⟩
  | .no, _, h => h.elim
  | .sh _, _, h => h.elim
  | .bs _, _, h => h.elim
theorem Rdy.frz1 {i : Nat} {s : Slot} {d : D} (h : Rdy G S0 H0 S H σ ρ) (e : ρ[i]? = some s) (o : s.owned = true) (hd : ∀ a, Own G S H s a → MutAt G S H d a) : ∃ S', Same S S' ∧ Rdy G S0 H0 S' H σ (ρ.set i (.sh d)) := by
  obtain ⟨a, e1, n, n0, w⟩ := h.stt.ow i s e o
  have m := hd a w
  cases z : H a with
  | none => exact absurd z m.there
  | some u =>
    -- the slot first forgotten, then S grows, then the slot set
    have h1 := h.kill i
    have ex : Ext S0 H0 (upd S a u) H := h.ext.frz n0 n z
    have s1 : Same S (upd S a u) := upd_same_of n
    have hs : Same (upd S a u) H := ex.sh
    have r : Rep G (upd S a u) d (.ref a) := (m.keep (.of s1) rfl).rep fun u' q => by
      rw [z] at q; cases q
      exact upd_same
    have stt : Stt G H0 (upd S a u) H σ (ρ.set i .no) := by
      refine ⟨hs, h1.stt.len, fun j d q => ?_, fun j s' q o' => ?_, h1.stt.ne, fun j ds q => let ⟨b, vs, e2, q2, z2, r2⟩ := h1.stt.bs j ds q; ⟨b, vs, e2, (Le.of s1).sqL q2, z2, r2.same s1⟩⟩
      · obtain ⟨v, e2, r⟩ := h1.stt.sh j d q
        exact ⟨v, e2, r.same s1⟩
      · obtain ⟨b, e2, nb, nb0, w'⟩ := h1.stt.ow j s' q o'
        refine ⟨b, e2, ?_, nb0, w'.keep (.of s1) rfl⟩
        rw [upd_ne, nb]
        intro eb
        subst eb
        rcases get_set q with ⟨_, q⟩ | ⟨q1, q2⟩
        · subst q; cases o'
        · exact q1 (h.stt.ne j i s' s b q2 o' e o e2 e1)
    have r2 := (show Rdy G S0 H0 (upd S a u) H σ (ρ.set i .no) from ⟨ex, stt⟩).put (i := i) (s := .sh d) (x := some (.ref a)) (.sh r)
    have e3 : σ.set i (some (.ref a)) = σ := by
      apply List.ext_getElem?
      intro j
      by_cases hj : j = i
      · subst hj
        rw [List.getElem?_set_self', e1]; rfl
      · rw [List.getElem?_set_ne (fun q => hj q.symm)]
    rw [e3, List.set_set] at r2
    exact ⟨_, s1, r2⟩
theorem Rdy.frz (i : Nat) (h : Rdy G S0 H0 S H σ ρ) : ∃ S', Rdy G S0 H0 S' H σ (frzS i ρ) := by
  unfold frzS
  split
  · rename_i ds e
    obtain ⟨S', _, r⟩ := h.frz1 (d := .list ds) e rfl fun a w => .inl ⟨ds, rfl, w⟩
    exact ⟨S', r⟩
  · rename_i t kvs e
    obtain ⟨S', _, r⟩ := h.frz1 (d := dB t kvs) e rfl fun a w => .inr ⟨t, kvs, rfl, w⟩
    exact ⟨S', r⟩
  · exact ⟨S, h⟩
/-- an own thing is changed -/
theorem Rdy.upd {i : Nat} {s s' : Slot} {a : Addr} {o : HO} (h : Rdy G S0 H0 S H σ ρ) (e : ρ[i]? = some s) (ow : s.owned = true) (e1 : σ[i]? = some (some (.ref a))) (ow' : s'.owned = true) (w : Own G S (upd H a o) s' a) : Rdy G S0 H0 S (upd H a o) σ (ρ.set i s') := by
  obtain ⟨a', e1', n, n0, w0⟩ := h.stt.ow i s e ow
  rw [e1] at e1'; cases e1'
  refine ⟨⟨h.ext.ss, fun b u q => ?_, fun b u q => ?_, h.ext.old⟩, fun b u q => ?_, by rw [List.length_set]; exact h.stt.len, fun j d q => ?_, fun j u q o' => ?_, fun j k u u' b q o1 q' o2 z z' => ?_, fun j ds q => ?_⟩
  · rw [upd_ne (fun z => by rw [z, n0] at q; cases q)]; exact h.ext.hh b u q
  · rw [upd_ne (fun z => by rw [z, n] at q; cases q)]; exact h.ext.sh b u q
  · rw [upd_ne (fun z => by rw [z, n] at q; cases q)]; exact h.stt.sub b u q
  · rcases get_set q with ⟨rfl, z⟩ | ⟨z, q⟩
    · subst z; cases ow'
    · exact h.stt.sh j d q
  · rcases get_set q with ⟨rfl, z⟩ | ⟨z, q⟩
    · subst z
      exact ⟨a, e1, n, n0, w⟩
    · obtain ⟨b, e2, nb, nb0, w'⟩ := h.stt.ow j u q o'
      refine ⟨b, e2, nb, nb0, w'.keep (.of (Same.refl _)) (upd_ne fun eb => ?_)⟩
      subst eb
      exact z (h.stt.ne j i u s b q o' e ow e2 e1)
  · have f : ∀ {j : Nat} {u : Slot}, (ρ.set i s')[j]? = some u → u.owned = true → ∃ u', ρ[j]? = some u' ∧ u'.owned = true := fun {j u} q o => by
      rcases get_set q with ⟨rfl, z⟩ | ⟨z, q⟩
      · exact ⟨s, e, ow⟩
      · exact ⟨u, q, o⟩
    obtain ⟨v1, f1, f2⟩ := f q o1
    obtain ⟨v2, g1, g2⟩ := f q' o2
    exact h.stt.ne j k v1 v2 b f1 f2 g1 g2 z z'
  · rcases get_set q with ⟨rfl, z⟩ | ⟨z, q⟩
    · subst z; cases ow'
    · exact h.stt.bs j ds q
end
/-! ### targets -/
abbrev Gt := D → List Slot → Res (List Slot)
abbrev Gts := List D → List Slot → Res (List Slot)
/-- but the slots at is, all is as it was -/
def Only (is : List Nat) (σ σ' : L2.St) : Prop := σ'.length = σ.length ∧ ∀ j, j ∉ is → σ'[j]? = σ[j]?
theorem Only.refl {is : List Nat} {σ : L2.St} : Only is σ σ := ⟨rfl, fun _ _ => rfl⟩
theorem Only.trans {is js : List Nat} {σ σ1 σ2 : L2.St} (a : Only is σ σ1) (b : Only js σ1 σ2) : Only (is ++ js) σ σ2 := ⟨b.1.trans a.1, fun j h => by
  rw [List.mem_append, not_or] at h
  rw [b.2 j h.2, a.2 j h.1]⟩
theorem Only.set {i : Nat} {x : Option V} {σ : L2.St} : Only [i] σ (σ.set i x) := ⟨List.length_set, fun j h => by
  rw [List.getElem?_set_ne]
  rintro rfl
  exact h (by simp)⟩
theorem wipe_in {σ : L2.St} {j : Nat} : ∀ {vs : List Nat}, j ∈ vs → j < σ.length → (wipe σ vs)[j]? = some none
  | v :: vs, h, hl => by
    unfold wipe
    by_cases e : v = j
    · subst e
      rw [List.getElem?_set_self]
      rw [wipe_length]; exact hl
    · rw [List.getElem?_set_ne e]
      rcases List.mem_cons.mp h with q | q
      · exact absurd q.symm e
      · exact wipe_in q hl
theorem wipe_out' {σ : L2.St} {j : Nat} : ∀ {vs : List Nat}, j ∉ vs → (wipe σ vs)[j]? = σ[j]?
  | [], h => rfl
  | v :: vs, h => by
    rw [List.mem_cons, not_or] at h
    unfold wipe
    rw [List.getElem?_set_ne (fun z => h.1 z.symm)]
    exact wipe_out' h.2
theorem Only.wipe {is vs : List Nat} {σ σ' : L2.St} (h : Only is σ σ') (k : ∀ i ∈ is, i ∈ vs) : L2.wipe σ' vs = L2.wipe σ vs := by
  apply List.ext_getElem?
  intro j
  by_cases hj : j ∈ vs
  · by_cases hl : j < σ.length
    · rw [wipe_in hj (by rw [h.1]; exact hl), wipe_in hj hl]
    · rw [List.getElem?_eq_none (by rw [wipe_length, h.1]; omega), List.getElem?_eq_none (by rw [wipe_length]; omega)]
  · rw [wipe_out' hj, wipe_out' hj]
    exact h.2 j fun q => hj (k j q)
theorem wipe_wipe {σ : L2.St} {vs : List Nat} : L2.wipe (L2.wipe σ vs) vs = L2.wipe σ vs := by
  apply Only.wipe (is := vs) _ fun _ h => h
  exact ⟨wipe_length _ _, fun j hj => wipe_out' hj⟩
def tG (P : Pr) (is : List Nat) (f : Gt) : TG := fun x σ H Q => ∃ S ρ d, Rdy P.G P.S0 P.H0 S H σ ρ ∧ Rep P.G S d x ∧ match f d ρ with
  | .ok ρ' => ∀ σ', Rdy P.G P.S0 P.H0 S H σ' ρ' → Only is σ σ' → Q σ' H
  | _ => False
def tGs (P : Pr) (is : List Nat) (f : Gts) : TGs := fun xs σ H Q => ∃ S ρ ds, Rdy P.G P.S0 P.H0 S H σ ρ ∧ RepL P.G S ds xs ∧ match f ds ρ with
  | .ok ρ' => ∀ σ', Rdy P.G P.S0 P.H0 S H σ' ρ' → Only is σ σ' → Q σ' H
  | _ => False
abbrev DG (X : Cx) (P : Pr) (tg : Expr) (is : List Nat) (f : Gt) : Prop := PG X tg (tG P is f)
abbrev DGs (X : Cx) (P : Pr) (tg : List Expr) (is : List Nat) (f : Gts) : Prop := PGs X tg (tGs P is f)
theorem _root_.L2.PG.imp {X : Cx} {e : Expr} {t t' : TG} (h : PG X e t) (k : ∀ v σ H Q, t' v σ H Q → t v σ H Q) : PG X e t' := ⟨fun pins s σ H v u Q I r q => h.run pins s σ H v u Q I r (k v σ H Q q)⟩
theorem _root_.L2.PGs.imp {X : Cx} {e : List Expr} {t t' : TGs} (h : PGs X e t) (k : ∀ v σ H Q, t' v σ H Q → t v σ H Q) : PGs X e t' := ⟨fun pins s σ H v u Q I r q => h.run pins s σ H v u Q I r (k v σ H Q q)⟩
def gN (i : Nat) : Gt := fun d ρ => .ok (ρ.set i (.sh d))
def gsNil : Gts := fun ds ρ => match ds with
  | [] => .ok ρ
  | _ => .stuck
def gsCons (f : Gt) (g : Gts) : Gts := fun ds ρ => match ds with
  | d :: ds => f d ρ >>= fun ρ' => g ds ρ'
  | _ => .stuck
def gT (n : Nat) (g : Gts) : Gt := fun d ρ => match d with
  | .tuple ds => if ds.length = n then g ds ρ else .stuck
  | _ => .stuck
section
variable {X : Cx} {P : Pr} {tg : Expr} {tgs : List Expr} {is js : List Nat} {f : Gt} {g : Gts} {x : Str} {pos : Pos} {k : Nat} {W : WX}
theorem dg_n (i : Nat) (c : Cy X P k W) (hi : X.N[i]? = some x := by rfl) (hx : Loc X.env.scope x := by first | exact Or.inl rfl | exact Or.inr rfl) (hf : X.fn x = true ∨ X.env.scope.names.lookup x = some .local := by first | exact .inl rfl | exact .inr rfl) : DG X P (.Name x pos) [i] (gN i) :=
  (pg_name c.nd hi hx hf).imp fun v σ H Q ⟨S, ρ, d, R, r, q⟩ => q _ (R.put (.sh r)) Only.set
theorem dgs_nil : DGs X P [] [] gsNil := pgs_nil.imp fun v σ H Q ⟨S, ρ, ds, R, r, q⟩ => by
  cases ds with
  | nil =>
    rw [r.nil_inv]
    exact ⟨rfl, q _ R Only.refl⟩
  | cons _ _ => exact q.elim
theorem dgs_cons (h1 : DG X P tg is f) (h2 : DGs X P tgs js g) (hs : (assignEach (tg :: tgs) X.env).map (·.2) = assign tg X.env :: (assignEach tgs X.env).map (·.2) := by rfl) : DGs X P (tg :: tgs) (is ++ js) (gsCons f g) :=
  (pgs_cons h1 h2 hs).imp fun v σ H Q ⟨S, ρ, ds, R, r, q⟩ => by
  cases ds with
  | nil => exact q.elim
  | cons d ds =>
    obtain ⟨v, r', rfl, p, t⟩ := r.cons_inv
    refine ⟨v, r', rfl, S, ρ, d, R, p, ?_⟩
    unfold gsCons at q
    dsimp only at q
    cases hf : f d ρ with
    | ok ρ1 =>
      rw [hf, ok_bind] at q
      intro σ1 R1 o1
      refine ⟨S, ρ1, ds, R1, t, ?_⟩
      cases hg : g ds ρ1 with
      | ok ρ2 =>
        rw [hg] at q
        exact fun σ2 R2 o2 => q σ2 R2 (o1.trans o2)
      | exc _ => rw [hg] at q; exact q
      | stuck => rw [hg] at q; exact q
    | exc _ => rw [hf] at q; exact q
    | stuck => rw [hf] at q; exact q
theorem dg_t {n j : Nat} (c : Cy X P k W) (h : DGs X P tgs is g) (hn : (assignEach tgs X.env).length = n := by rfl) (hst : (assignEach tgs X.env).findIdx? (·.1) = none := by rfl) : DG X P (.Tuple tgs j pos) is (gT n g) :=
  (pg_tup c.calm h hn hst).imp fun v σ H Q ⟨S, ρ, d, R, r, q⟩ => by
  cases d with
  | tuple ds =>
    unfold gT at q
    dsimp only at q
    split at q
    · rename_i m hl
      obtain ⟨a, vs, e, sq, z, rl⟩ := Pb.tuple R.sub (.of r)
      subst e
      split at hl
      · rename_i hn
        refine ⟨a, vs, rfl, by rw [c.K]; exact sq, by rw [← rl.length]; exact hn, S, ρ, ds, R, rl, ?_⟩
        rw [hl]
        exact q
      · cases hl
    · exact q.elim
  | none => exact q.elim
  | int _ => exact q.elim
  | bool _ => exact q.elim
  | str _ => exact q.elim
  | list _ => exact q.elim
  | dict _ => exact q.elim
end
/-! ### iteration -/
/-- J gives the items ds, over a heap that only grows (bw: what is looked at stays, too) -/
def ItOf (G : Gx) (bw : Bool) (J : It) (ds : List D) (S H : Hp) : Prop := ∀ S' H' i, (bw = true → Ext S H S' H') → Same S S' → Same S' H' →
  (i < ds.length → J.go i H' ∧ ∀ x H'', J.yld i H' x H'' → ∃ S'' d, ds[i]? = some d ∧ Ext S' H' S'' H'' ∧ Rep G S'' d x) ∧ (i = ds.length → J.stop i H')
def tI (P : Pr) (bw : Bool) (f : Exs) : TI := fun σ H R => ∃ S ρ, Rdy P.G P.S0 P.H0 S H σ ρ ∧ match f ρ with
  | .ok ds => ∀ J S' H', Ext S H S' H' → ItOf P.G bw J ds S' H' → R J H'
  | .exc c => ∀ S' H', Ext S H S' H' → P.W c σ H'
  | .stuck => False
abbrev DI (X : Cx) (P : Pr) (bw : Bool) (tg e : Expr) (f : Exs) : Prop := PI X tg e (tI P bw f)
theorem _root_.L2.PI.imp {X : Cx} {tg e : Expr} {t t' : TI} (h : PI X tg e t) (k : ∀ σ H Q, t' σ H Q → t σ H Q) : PI X tg e t' := ⟨fun pins s σ H Q I q => h.run pins s σ H Q I (k σ H Q q)⟩
theorem _root_.L2.PI.or {X : Cx} {tg e : Expr} {t t' : TI} (h : PI X tg e t) (h' : PI X tg e t') : PI X tg e (fun σ H R => t σ H R ∨ t' σ H R) := ⟨fun pins s σ H Q I q => q.elim (h.run pins s σ H Q I) (h'.run pins s σ H Q I)⟩
def chD (x : Str) : List D := x.cps.toList.map fun c => .str ⟨#[c]⟩
def asSeq : D → Res (List D)
  | .list ds => .ok ds
  | .tuple ds => .ok ds
  | .str x => .ok (chD x)
  | _ => .stuck
def iSeq (f : Ex) : Exs := fun ρ => f ρ >>= asSeq
/-- how an iteration's operand is held -/
def Md.bw : Md → Bool
  | .bo => true
  | _ => false
section
variable {X : Cx} {P : Pr} {tg e a b : Expr} {f f' : Ex} {g : Exs} {x : Str} {pos p : Pos} {k : Nat} {W : WX} {m : Md} {S H S' H' : Hp} {bw : Bool}
theorem lt_get {α : Type} {l : List α} {i : Nat} (h : i < l.length) : ∃ x, l[i]? = some x := ⟨l[i], List.getElem?_eq_getElem h⟩
theorem itl_of {G : Gx} {K : PySem.W.Frag} {a : Addr} {vs : List V} {ds : List D} (hq : ∀ S' H', (bw = true → Ext S H S' H') → Same S S' → Same S' H' → SqL K H' a vs) (r : RepL G S ds vs) : ItOf G bw (Itl K a) ds S H := fun S' H' i hb s1 s2 => by
  have q := hq S' H' hb s1 s2
  refine ⟨fun hi => ?_, fun hi => ⟨vs, q, by rw [← r.length, hi]; exact Nat.le_refl _⟩⟩
  obtain ⟨d, e⟩ := lt_get hi
  obtain ⟨v, ev, rv⟩ := r.get e
  refine ⟨⟨vs, v, q, ev⟩, fun x H'' y => ?_⟩
  obtain ⟨e1, y⟩ := y
  subst e1
  have := y vs q
  rw [ev] at this
  cases this
  exact ⟨S', d, e, .refl s2, rv.same s1⟩
theorem itt_of {G : Gx} {K : PySem.W.Frag} {a : Addr} {vs : List V} {ds : List D} (hq : ∀ S' H', (bw = true → Ext S H S' H') → Same S S' → Same S' H' → SqT K H' a vs) (r : RepL G S ds vs) : ItOf G bw (Itt K a) ds S H := fun S' H' i hb s1 s2 => by
  have q := hq S' H' hb s1 s2
  refine ⟨fun hi => ?_, fun hi => ⟨vs, q, by rw [← r.length, hi]; exact Nat.le_refl _⟩⟩
  obtain ⟨d, e⟩ := lt_get hi
  obtain ⟨v, ev, rv⟩ := r.get e
  refine ⟨⟨vs, v, q, ev⟩, fun x H'' y => ?_⟩
  obtain ⟨e1, y⟩ := y
  subst e1
  have := y vs q
  rw [ev] at this
  cases this
  exact ⟨S', d, e, .refl s2, rv.same s1⟩
theorem its_of {G : Gx} {x : Str} (h : PyData.strOk x = true) : ItOf G bw (Its x) (chD x) S H := fun S' H' i hb s1 s2 => by
  have hl : (chD x).length = x.cps.size := by simp [chD]
  refine ⟨fun hi => ?_, fun hi => by show x.cps.size ≤ i; omega⟩
  refine ⟨by show i < x.cps.size; omega, fun v H'' y => ?_⟩
  obtain ⟨e1, c, e, rfl⟩ := y
  subst e1
  refine ⟨S', .str ⟨#[c]⟩, by simp [chD, e], .refl s2, ?_⟩
  simp only [Rep]
  refine ⟨trivial, by show 1 ≤ sizeLine; rw [line_eq]; decide, strOk_one h (Array.mem_toList_iff.mpr (Array.mem_of_getElem? e))⟩
theorem m_bw : m = .sh ∨ m = .bo → m ≠ .fr := by rintro (h | h) <;> subst h <;> exact fun z => nomatch z
/-- a sequence that is looked at stays -/
theorem keep_list {G : Gx} {ds : List D} {v : V} (hm : m = .sh ∨ m = .bo) (p : Pm m G H S H (.list ds) v) : ∃ a vs, v = .ref a ∧ RepL G S ds vs ∧ vs.length ≤ sizeLine ∧ ∀ S' H', (m.bw = true → Ext S H S' H') → Same S S' → Same S' H' → SqL G.K H' a vs := by
  rcases hm with rfl | rfl
  · have p : Rep G S (.list ds) v := p
    simp only [Rep] at p
    obtain ⟨a, vs, e, q, z, r⟩ := p
    exact ⟨a, vs, e, r, z, fun S' H' _ s1 s2 => .inl (rd_same s2 (rd_same s1 q))⟩
  · have p : Pb G S H (.list ds) v := p
    rcases p with p | ⟨a, e, w⟩
    · simp only [Rep] at p
      obtain ⟨a, vs, e, q, z, r⟩ := p
      exact ⟨a, vs, e, r, z, fun S' H' _ s1 s2 => .inl (rd_same s2 (rd_same s1 q))⟩
    · rcases w with ⟨ds', e1, vs, r, z, q⟩ | ⟨t, kvs, e1, _⟩
      · cases e1
        exact ⟨a, vs, e, r, z, fun S' H' hb s1 s2 => .inl (.inl ((hb rfl).hh a _ q))⟩
      · cases e1
theorem keep_tuple {G : Gx} {ds : List D} {v : V} (hm : m = .sh ∨ m = .bo) (p : Pm m G H S H (.tuple ds) v) : ∃ a vs, v = .ref a ∧ RepL G S ds vs ∧ vs.length ≤ sizeLine ∧ ∀ S' H', Same S S' → Same S' H' → SqT G.K H' a vs := by
  have p : Rep G S (.tuple ds) v := by
    rcases hm with rfl | rfl
    · exact p
    · exact Pb.rep p rfl
  simp only [Rep] at p
  obtain ⟨a, vs, e, q, z, r⟩ := p
  exact ⟨a, vs, e, r, z, fun S' H' s1 s2 => (Le.of s2).sqT ((Le.of s1).sqT (tup_sq q))⟩
theorem keep_str {G : Gx} {y : Str} {v : V} (hm : m = .sh ∨ m = .bo) (p : Pm m G H S H (.str y) v) : v = .str y ∧ y.length ≤ sizeLine ∧ PyData.strOk y = true := by
  rcases hm with rfl | rfl
  · exact Pb.str (G := G) (S := S) (H := H) (.inl p)
  · exact Pb.str p
theorem di_seq (c : Cy X P k W) (hm : m = .sh ∨ m = .bo) (he : DE X P m e f) : DI X P m.bw tg e (iSeq f) :=
  ((pi_list (tg := tg) he).or ((pi_tup (tg := tg) he).or (pi_str (tg := tg) he))).imp fun σ H R ⟨S, ρ, Rd, q⟩ => by
  unfold iSeq at q
  cases hf : f ρ with
  | stuck => rw [hf] at q; exact q.elim
  | exc c =>
    rw [hf] at q
    exact .inl ⟨S, ρ, Rd, by rw [hf]; exact q⟩
  | ok d =>
    rw [hf, ok_bind] at q
    cases d with
    | list ds =>
      refine .inl ⟨S, ρ, Rd, ?_⟩
      rw [hf]
      intro v S1 H1 ex p
      obtain ⟨a, vs, e, r, z, kq⟩ := keep_list hm (p.h0 (m_bw hm))
      refine ⟨a, e, ⟨vs, by rw [c.K]; exact kq S1 H1 (fun _ => .refl (Rd.to ex).sub) (.refl _) (Rd.to ex).sub⟩, q _ S1 H1 ex (itl_of (fun S' H' hb s1 s2 => by rw [c.K]; exact kq S' H' hb s1 s2) r)⟩
    | tuple ds =>
      refine .inr (.inl ⟨S, ρ, Rd, ?_⟩)
      rw [hf]
      intro v S1 H1 ex p
      obtain ⟨a, vs, e, r, z, kq⟩ := keep_tuple hm (p.h0 (m_bw hm))
      refine ⟨a, e, ⟨vs, by rw [c.K]; exact kq S1 H1 (.refl _) (Rd.to ex).sub⟩, q _ S1 H1 ex (itt_of (fun S' H' hb s1 s2 => by rw [c.K]; exact kq S' H' s1 s2) r)⟩
    | str y =>
      refine .inr (.inr ⟨S, ρ, Rd, ?_⟩)
      rw [hf]
      intro v S1 H1 ex p
      obtain ⟨e, z, ok⟩ := keep_str hm (p.h0 (m_bw hm))
      exact ⟨y, e, q _ S1 H1 ex (its_of ok)⟩
    | none => exact q.elim
    | int _ => exact q.elim
    | bool _ => exact q.elim
    | dict _ => exact q.elim
/-! ranges -/
def rngL (i : Int) (n : Nat) : List D := (List.range n).map fun k => .int (i + (k : Nat))
abbrev big : Int := 4611686018427387904
def inBig (i : Int) : Bool := decide (-big ≤ i) && decide (i < big)
def rng1 : List D → Res (List D)
  | [.int j] => if inBig j then .ok (rngL 0 j.toNat) else .stuck
  | _ => .stuck
def rng2 : List D → Res (List D)
  | [.int i, .int j] => if inBig i && inBig j then .ok (rngL i (j - i).toNat) else .stuck
  | _ => .stuck
def iRng (F : List D → Res (List D)) (g : Exs) : Exs := fun ρ => g ρ >>= F
theorem itr_of {G : Gx} {i : Int} {n : Nat} : ItOf G bw (Itr i n) (rngL i n) S H := fun S' H' j hb s1 s2 => by
  have hl : (rngL i n).length = n := by simp [rngL]
  refine ⟨fun hi => ⟨by show j < n; omega, fun v H'' y => ?_⟩, fun hi => by show n ≤ j; omega⟩
  obtain ⟨e1, rfl⟩ := y
  subst e1
  refine ⟨S', .int (i + (j : Nat)), ?_, .refl s2, by simp only [Rep]⟩
  unfold rngL
  rw [List.getElem?_map, List.getElem?_range (by omega)]
  rfl
theorem inBig_ok {i : Int} (h : inBig i = true) : -(2 ^ 62) ≤ i ∧ i < 2 ^ 62 := by
  unfold inBig at h
  rw [Bool.and_eq_true, decide_eq_true_eq, decide_eq_true_eq] at h
  have e : (2 : Int) ^ 62 = big := by decide
  rw [e]
  exact h
theorem rng_core {F : List D → Res (List D)} {wi : TA → TI} {σ : L2.St} {H : Hp} {R : It → Hp → Prop} (hw : ∀ ta : TA, wi ta = fun σ H R => ta σ H fun vs H1 => wi (fun _ H Q => Q vs H) σ H1 R)
    (hF : ∀ ds r vs S H σ R, Same S H → AllB P.G S H ds vs → F ds = .ok r → (∀ J, ItOf P.G bw J r S H → R J H) → wi (fun _ H Q => Q vs H) σ H R) (hx : ∀ ds c, F ds ≠ .exc c)
    (q : tI P bw (iRng F g) σ H R) : wi (tA P .bo g) σ H R := by
  obtain ⟨S, ρ, Rd, q⟩ := q
  rw [hw]
  refine ⟨S, ρ, Rd, ?_⟩
  unfold iRng at q
  cases hg : g ρ with
  | stuck => rw [hg] at q; exact q.elim
  | exc c => rw [hg] at q; exact q
  | ok ds =>
    rw [hg, ok_bind] at q
    intro vs S1 H1 ex p
    cases hf : F ds with
    | stuck => rw [hf] at q; exact q.elim
    | exc c => exact absurd hf (hx ds c)
    | ok r =>
      rw [hf] at q
      exact hF ds r vs S1 H1 σ R (Rd.to ex).sub p.b hf fun J hJ => q J S1 H1 ex hJ
theorem di_rng1 (hm : X.mg "range" = none) (ha : DA X P .bo [a] g) (hg : Gl X "range" := by rfl) (hs : starEach [a] X.env = [(false, eval a X.env)] := by rfl) : DI X P bw tg (.Call (.Name "range" p) [a] [] pos) (iRng rng1 g) :=
  (pi_range1 hg hm ha hs).imp fun σ H R q => rng_core (P := P) (F := rng1) (wi := iRng1) (fun _ => rfl) (fun ds r vs S H σ R ss al e k => by
    unfold rng1 at e
    split at e
    · split at e
      · rename_i hb
        cases e
        obtain ⟨v, rfl, pv⟩ := al.one
        obtain ⟨b1, b2⟩ := inBig_ok hb
        exact ⟨_, by rw [pv.int], b1, b2, k _ itr_of⟩
      · cases e
    · cases e) (fun ds c h => by
    unfold rng1 at h
    split at h
    · split at h <;> cases h
    · cases h) q
theorem di_rng2 (hm : X.mg "range" = none) (ha : DA X P .bo [a, b] g) (hg : Gl X "range" := by rfl) (hs : starEach [a, b] X.env = [(false, eval a X.env), (false, eval b X.env)] := by rfl) (hs2 : starEach [b] X.env = [(false, eval b X.env)] := by rfl) : DI X P bw tg (.Call (.Name "range" p) [a, b] [] pos) (iRng rng2 g) :=
  (pi_range2 hg hm ha hs hs2).imp fun σ H R q => rng_core (P := P) (F := rng2) (wi := iRng2) (fun _ => rfl) (fun ds r vs S H σ R ss al e k => by
    unfold rng2 at e
    split at e
    · split at e
      · rename_i hb
        cases e
        rw [Bool.and_eq_true] at hb
        obtain ⟨v, u, rfl, pv, pu⟩ := al.two
        obtain ⟨b1, b2⟩ := inBig_ok hb.1
        obtain ⟨b3, b4⟩ := inBig_ok hb.2
        exact ⟨_, _, by rw [pv.int, pu.int], ⟨b1, b2, b3, b4⟩, k _ itr_of⟩
      · cases e
    · cases e) (fun ds c h => by
    unfold rng2 at h
    split at h
    · split at h <;> cases h
    · cases h) q
/-! enumerate, zip -/
def enumL (ds : List D) : List D := ds.zipIdx.map fun p => .tuple [.int (p.2 : Nat), p.1]
def zipL (xs ys : List D) : List D := List.zipWith (fun x y => .tuple [x, y]) xs ys
def seq1 : List D → Res (List D)
  | [.list ds] => .ok (enumL ds)
  | _ => .stuck
def seq2 : List D → Res (List D)
  | [.list xs, .list ys] => .ok (zipL xs ys)
  | [.tuple xs, .tuple ys] => .ok (zipL xs ys)
  | _ => .stuck
theorem rep_pair {G : Gx} {x y : D} {v u : V} {T : Addr} (n : H T = none) (s : Same S H) (r : Rep G S x v) (r' : Rep G S y u) : Ext S H (upd S T (.tup [v, u])) (upd H T (.tup [v, u])) ∧ Rep G (upd S T (.tup [v, u])) (.tuple [x, y]) (.ref T) := by
  have e := Ext.new (o := .tup [v, u]) s n
  refine ⟨e, ?_⟩
  simp only [Rep]
  exact ⟨T, [v, u], rfl, .inl upd_same, by show 2 ≤ sizeLine; rw [line_eq]; decide, .cons (r.same e.ss) (.cons (r'.same e.ss) .nil)⟩
theorem ite_of {G : Gx} {K : PySem.W.Frag} {a : Addr} {vs : List V} {ds : List D} (hq : ∀ S' H', (bw = true → Ext S H S' H') → Same S S' → Same S' H' → SqL K H' a vs) (r : RepL G S ds vs) : ItOf G bw (Ite K a) (enumL ds) S H := fun S' H' i hb s1 s2 => by
  have q := hq S' H' hb s1 s2
  have hl : (enumL ds).length = ds.length := by simp [enumL]
  refine ⟨fun hi => ?_, fun hi => ⟨vs, q, by rw [← r.length, hi, hl]; exact Nat.le_refl _⟩⟩
  obtain ⟨d, e⟩ := lt_get (l := ds) (i := i) (by omega)
  obtain ⟨v, ev, rv⟩ := r.get e
  refine ⟨⟨vs, v, q, ev⟩, fun x H'' y => ?_⟩
  obtain ⟨T, z, rfl, n, rfl, y⟩ := y
  have := y vs q
  rw [ev] at this
  cases this
  obtain ⟨h1, h2⟩ := rep_pair (G := G) (x := .int (i : Nat)) (v := .int (i : Nat)) n s2 (by simp only [Rep]) (rv.same s1)
  exact ⟨_, _, by simp [enumL, e], h1, h2⟩
theorem zip_get {xs ys : List D} {i : Nat} (h : i < (zipL xs ys).length) : ∃ x y, xs[i]? = some x ∧ ys[i]? = some y ∧ (zipL xs ys)[i]? = some (.tuple [x, y]) := by
  unfold zipL at h ⊢
  rw [List.length_zipWith] at h
  obtain ⟨x, ex⟩ := lt_get (l := xs) (i := i) (by omega)
  obtain ⟨y, ey⟩ := lt_get (l := ys) (i := i) (by omega)
  exact ⟨x, y, ex, ey, by rw [List.getElem?_zipWith, ex, ey]⟩
theorem zip_end {xs ys : List D} {i : Nat} (h : i = (zipL xs ys).length) : xs.length ≤ i ∨ ys.length ≤ i := by
  unfold zipL at h
  rw [List.length_zipWith] at h
  omega
theorem itz_of {G : Gx} {K : PySem.W.Frag} {a b : Addr} {vs us : List V} {xs ys : List D} (hq : ∀ S' H', (bw = true → Ext S H S' H') → Same S S' → Same S' H' → SqL K H' a vs ∧ SqL K H' b us) (r : RepL G S xs vs) (r' : RepL G S ys us) : ItOf G bw (Itz K a b) (zipL xs ys) S H := fun S' H' i hb s1 s2 => by
  obtain ⟨q, q'⟩ := hq S' H' hb s1 s2
  refine ⟨fun hi => ?_, fun hi => ⟨vs, us, q, q', by rw [← r.length, ← r'.length]; exact zip_end hi⟩⟩
  obtain ⟨x, y, ex, ey, ez⟩ := zip_get hi
  obtain ⟨v, ev, rv⟩ := r.get ex
  obtain ⟨u, eu, ru⟩ := r'.get ey
  refine ⟨⟨vs, us, v, u, q, q', ev, eu⟩, fun z H'' w => ?_⟩
  obtain ⟨T, v', u', rfl, n, rfl, w1, w2⟩ := w
  have e1 := w1 vs q
  have e2 := w2 us q'
  rw [ev] at e1; cases e1
  rw [eu] at e2; cases e2
  obtain ⟨h1, h2⟩ := rep_pair (G := G) n s2 (rv.same s1) (ru.same s1)
  exact ⟨_, _, ez, h1, h2⟩
theorem itzT_of {G : Gx} {K : PySem.W.Frag} {a b : Addr} {vs us : List V} {xs ys : List D} (hq : ∀ S' H', Same S S' → Same S' H' → SqT K H' a vs ∧ SqT K H' b us) (r : RepL G S xs vs) (r' : RepL G S ys us) : ItOf G bw (RZ.ItzT K a b) (zipL xs ys) S H := fun S' H' i hb s1 s2 => by
  obtain ⟨q, q'⟩ := hq S' H' s1 s2
  refine ⟨fun hi => ?_, fun hi => ⟨vs, us, q, q', by rw [← r.length, ← r'.length]; exact zip_end hi⟩⟩
  obtain ⟨x, y, ex, ey, ez⟩ := zip_get hi
  obtain ⟨v, ev, rv⟩ := r.get ex
  obtain ⟨u, eu, ru⟩ := r'.get ey
  refine ⟨⟨vs, us, v, u, q, q', ev, eu⟩, fun z H'' w => ?_⟩
  obtain ⟨T, v', u', rfl, n, rfl, w1, w2⟩ := w
  have e1 := w1 vs q
  have e2 := w2 us q'
  rw [ev] at e1; cases e1
  rw [eu] at e2; cases e2
  obtain ⟨h1, h2⟩ := rep_pair (G := G) n s2 (rv.same s1) (ru.same s1)
  exact ⟨_, _, ez, h1, h2⟩
theorem seq_core {F : List D → Res (List D)} {wi : TA → TI} {σ : L2.St} {H : Hp} {R : It → Hp → Prop} (hw : ∀ ta : TA, wi ta = fun σ H R => ta σ H fun vs H1 => wi (fun _ H Q => Q vs H) σ H1 R)
    (hF : ∀ ds r vs S H σ R, Same S H → AllP m P.G S H ds vs → F ds = .ok r → (∀ J, ItOf P.G m.bw J r S H → R J H) → wi (fun _ H Q => Q vs H) σ H R) (hx : ∀ ds c, F ds ≠ .exc c)
    (q : tI P m.bw (iRng F g) σ H R) : wi (tA P m g) σ H R := by
  obtain ⟨S, ρ, Rd, q⟩ := q
  rw [hw]
  refine ⟨S, ρ, Rd, ?_⟩
  unfold iRng at q
  cases hg : g ρ with
  | stuck => rw [hg] at q; exact q.elim
  | exc c => rw [hg] at q; exact q
  | ok ds =>
    rw [hg, ok_bind] at q
    intro vs S1 H1 ex p
    cases hf : F ds with
    | stuck => rw [hf] at q; exact q.elim
    | exc c => exact absurd hf (hx ds c)
    | ok r =>
      rw [hf] at q
      exact hF ds r vs S1 H1 σ R (Rd.to ex).sub p hf fun J hJ => q J S1 H1 ex hJ
theorem di_enum {elts : List Expr} {j : Nat} {tp : Pos} (c : Cy X P k W) (hm : m = .sh ∨ m = .bo) (hx : X.mg "enumerate" = none) (ha : DA X P m [a] g) (hg : Gl X "enumerate" := by rfl) (hs : starEach [a] X.env = [(false, eval a X.env)] := by rfl) :
    DI X P m.bw (.Tuple elts j tp) (.Call (.Name "enumerate" p) [a] [] pos) (iRng seq1 g) :=
  (pi_enum hg hx ha hs).imp fun σ H R q => seq_core (P := P) (F := seq1) (wi := iEnum X.K) (fun _ => rfl) (fun ds r vs S H σ R ss al e kk => by
    unfold seq1 at e
    split at e
    · cases e
      obtain ⟨v, r, rfl, p, e⟩ := al
      have e : r = [] := e
      subst e
      obtain ⟨a, vs, rfl, rl, z, kq⟩ := keep_list hm p
      refine ⟨a, vs, rfl, by rw [c.K]; exact kq S H (fun _ => .refl ss) (.refl _) ss, kk _ (ite_of (fun S' H' hb s1 s2 => by rw [c.K]; exact kq S' H' hb s1 s2) rl)⟩
    · cases e) (fun ds c h => by
    unfold seq1 at h
    split at h <;> cases h) q
theorem di_zip {elts : List Expr} {j : Nat} {tp : Pos} (c : Cy X P k W) (hm : m = .sh ∨ m = .bo) (hx : X.mg "zip" = none) (ha : DA X P m [a, b] g) (hg : Gl X "zip" := by rfl) (hs : starEach [a, b] X.env = (false, eval a X.env) :: starEach [b] X.env := by rfl) (hpl : (backTo pos (starEach [b] X.env)).any (·.1) = false := by rfl) :
    DI X P m.bw (.Tuple elts j tp) (.Call (.Name "zip" p) [a, b] [] pos) (iRng seq2 g) :=
  (RZ.pi_zipA hg hx ha hs hpl).imp fun σ H R q => seq_core (P := P) (F := seq2) (wi := RZ.iZipA X.K) (fun _ => rfl) (fun ds r vs S H σ R ss al e kk => by
    unfold seq2 at e
    split at e
    · cases e
      obtain ⟨v, r, rfl, p, u, r', rfl, p', e⟩ := al
      have e : r' = [] := e
      subst e
      obtain ⟨a, vs, rfl, rl, z, kq⟩ := keep_list hm p
      obtain ⟨b, us, rfl, rl', z', kq'⟩ := keep_list hm p'
      refine ⟨a, b, vs, us, rfl, .inl ⟨by rw [c.K]; exact kq S H (fun _ => .refl ss) (.refl _) ss, by rw [c.K]; exact kq' S H (fun _ => .refl ss) (.refl _) ss, kk _ (itz_of (fun S' H' hb s1 s2 => by rw [c.K]; exact ⟨kq S' H' hb s1 s2, kq' S' H' hb s1 s2⟩) rl rl')⟩⟩
    · cases e
      obtain ⟨v, r, rfl, p, u, r', rfl, p', e⟩ := al
      have e : r' = [] := e
      subst e
      obtain ⟨a, vs, rfl, rl, z, kq⟩ := keep_tuple hm p
      obtain ⟨b, us, rfl, rl', z', kq'⟩ := keep_tuple hm p'
      refine ⟨a, b, vs, us, rfl, .inr ⟨by rw [c.K]; exact kq S H (.refl _) ss, by rw [c.K]; exact kq' S H (.refl _) ss, kk _ (itzT_of (fun S' H' s1 s2 => by rw [c.K]; exact ⟨kq S' H' s1 s2, kq' S' H' s1 s2⟩) rl rl')⟩⟩
    · cases e) (fun ds c h => by
    unfold seq2 at h
    split at h <;> cases h) q
end
end Ev

set_option Elab.async false
set_option linter.all false
set_option maxRecDepth 100000
set_option maxHeartbeats 1000000
/-! Ev, part K: list comprehensions, calls of the program's defs. -/
namespace Ev
open PySem PySem.Spec PyProof.Rows L2 PySem.W
def noX {α : Type} : Res α → Res α
  | .ok a => .ok a
  | _ => .stuck
theorem noX_ok {α : Type} {r : Res α} {a : α} (h : noX r = .ok a) : r = .ok a := by
  cases r with
  | ok b => exact h
  | exc c => cases h
  | stuck => cases h
@[simp] theorem noX_of {α : Type} (a : α) : noX (.ok a) = .ok a := rfl
abbrev Pr.noW (P : Pr) : Pr := { P with W := fun _ _ _ => False }
def lcGo (vs : List Nat) (g : Gt) (t : Tx) (e : Ex) (ρ : List Slot) : List D → Res (List D)
  | [] => .ok []
  | d :: ds => g d (killS vs ρ) >>= fun ρ' => t ρ' >>= fun b => if b then e ρ' >>= fun y => lcGo vs g t e ρ ds >>= fun r => .ok (y :: r) else lcGo vs g t e ρ ds
def eLc (it : Exs) (vs : List Nat) (g : Gt) (t : Tx) (e : Ex) : Ex := fun ρ => it ρ >>= fun ds => noX (lcGo vs g t e ρ ds) >>= mkLst
def tYesS : Tx := fun _ => .ok true
theorem Ext.put {S H S' H' : Hp} {p : Addr} {o : HO} (e : Ext S H S' H') (n : H p = none) (n' : S' p = none) : Ext S H S' (upd H' p o) :=
  ⟨e.ss, fun b u q => by
    rw [upd_ne (fun z => by rw [z, n] at q; cases q)]; exact e.hh b u q, fun b u q => by
    rw [upd_ne (fun z => by rw [z, n'] at q; cases q)]; exact e.sh b u q, e.old⟩
theorem bind_ok {α β : Type} {r : Res α} {f : α → Res β} {b : β} (h : (r >>= f) = .ok b) : ∃ a, r = .ok a ∧ f a = .ok b := by
  cases r with
  | ok a => exact ⟨a, rfl, h⟩
  | exc c => cases h
  | stuck => cases h
abbrev DTs (X : Cx) (P : Pr) (ifs : List Expr) (t : Tx) : Prop := PTs X ifs (tT P t)
section
variable {X : Cx} {P : Pr} {k : Nat} {W : WX}
theorem _root_.L2.PTs.imp {X : Cx} {e : List Expr} {t t' : TT} (h : PTs X e t) (k : ∀ σ H Q, t' σ H Q → t σ H Q) : PTs X e t' := ⟨fun pins s σ H Q I q => h.run pins s σ H Q I (k σ H Q q)⟩
theorem dts_nil : DTs X P [] tYesS := pts_nil.imp fun σ H Q ⟨S, ρ, R, q⟩ => q S H (.refl R.sub)
theorem dts_one {e : Expr} {t : Tx} (h : DT X P e t) : DTs X P [e] t := pts_one h
theorem Cy.blk (c : Cy X P k W) (s : Shared) (H : Hp) (scope : Scope) (cenv : Env) (fp : List Addr) : Cy (X.blk s H scope cenv fp) P.noW k (fun _ _ _ _ => False) :=
  ⟨c.K, c.calm, c.nd, ⟨c.room.hd, c.room.dp, c.room.un⟩, takes0, fun _ _ _ h => h.elim⟩
theorem fin_ok {m : Md} {G : Gx} {W : WS} {S H : Hp} {σ : L2.St} {Q : VK} {a : Res (List D)} {F : List D → Res D} (q : Fin m G W S H σ (noX a >>= F) Q) : ∃ r, a = .ok r ∧ Fin m G W S H σ (F r) Q := by
  cases a with
  | ok r => exact ⟨r, rfl, q⟩
  | exc c => exact q.elim
  | stuck => exact q.elim
theorem lc_imp {it : Exs} {vs is : List Nat} {g : Gt} {t : Tx} {e : Ex} {σ : L2.St} {H : Hp} {Q : VK} (hi : ∀ i ∈ is, i ∈ vs)
    (q : tE P .fr (eLc it vs g t e) σ H Q) : tLc (tI P true it) (tG P.noW is g) (tT P.noW t) (tE P.noW .sh e) vs σ H Q := by
  obtain ⟨S, ρ, R, q⟩ := q
  refine ⟨S, ρ, R, ?_⟩
  unfold eLc at q
  cases hit : it ρ with
  | stuck => rw [hit] at q; exact q.elim
  | exc c => rw [hit] at q; exact q
  | ok ds =>
    rw [hit, ok_bind] at q
    obtain ⟨r, hr, q⟩ := fin_ok q
    unfold mkLst at q
    split at q
    case isFalse => exact q.elim
    rename_i hz
    intro J S1 H1 ex hJ A hA
    have R1 := R.to ex
    have free : S1 A = none := free_of R1.sub hA
    refine ⟨fun i m H2 => m = ds.length - i ∧ i ≤ ds.length ∧ ∃ S2 acc us rest, Ext S1 H1 S2 H2 ∧ H2 A = some (.lst us) ∧ S2 A = none ∧ RepL P.G S2 acc us ∧ lcGo vs g t e ρ (ds.drop i) = .ok rest ∧ acc ++ rest = r, ⟨ds.length, rfl, Nat.zero_le _, S1, [], [], r, .own R1.sub hA, upd_same, free, .nil, hr, rfl⟩, ?_⟩
    rintro i m H2 ⟨rfl, hi2, S2, acc, us, rest, e2, hA2, n2, ra, hgo, hrest⟩
    have R2 := R1.to e2
    have J2 := hJ S2 H2 i (fun _ => e2) e2.ss e2.sh
    rcases Nat.lt_or_ge i ds.length with hlt | hge
    · refine .inr ⟨(J2.1 hlt).1, fun H3 => ∃ S3 acc us rest, Ext S1 H1 S3 H3 ∧ H3 A = some (.lst us) ∧ S3 A = none ∧ RepL P.G S3 acc us ∧ lcGo vs g t e ρ (ds.drop (i + 1)) = .ok rest ∧ acc ++ rest = r, fun H3 h3 => ⟨ds.length - (i + 1), by omega, rfl, hlt, h3⟩, fun x H3 y => ?_⟩
      obtain ⟨S3, d, hd, e3, rd⟩ := (J2.1 hlt).2 x H3 y
      have hdrop : ds.drop i = d :: ds.drop (i + 1) := by
        rw [List.drop_eq_getElem_cons hlt]
        rw [List.getElem?_eq_getElem hlt] at hd
        rw [Option.some.inj hd]
      rw [hdrop] at hgo
      unfold lcGo at hgo
      obtain ⟨ρ', h1, hgo⟩ := bind_ok hgo
      have R3 := R2.to e3
      refine ⟨S3, killS vs ρ, d, R3.wipe vs, rd, ?_⟩
      rw [h1]
      intro σ4 R4 o4
      refine ⟨by rw [o4.wipe hi, wipe_wipe], S3, ρ', R4, ?_⟩
      obtain ⟨b, h2, hgo⟩ := bind_ok hgo
      rw [h2]
      intro S5 H5 e5
      have e15 := e2.trans (e3.trans e5)
      have hA5 : H5 A = some (.lst us) := e5.hh A _ (e3.hh A _ hA2)
      have n5 : S5 A = none := by
        rw [e5.old A (by rw [e3.hh A _ hA2]; simp), e3.old A (by rw [hA2]; simp)]; exact n2
      cases b with
      | false =>
        rw [if_neg Bool.false_ne_true] at hgo ⊢
        exact ⟨S5, acc, us, rest, e15, hA5, n5, ra.same (e3.trans e5).ss, hgo, hrest⟩
      | true =>
        rw [if_pos rfl] at hgo ⊢
        obtain ⟨w, h3, hgo⟩ := bind_ok hgo
        obtain ⟨rest', h4, hgo⟩ := bind_ok hgo
        cases hgo
        refine ⟨S5, ρ', R4.to e5, ?_⟩
        rw [h3]
        intro v S6 H6 e6 p
        have p : Rep P.G S6 w v := p
        have hA6 : H6 A = some (.lst us) := e6.hh A _ hA5
        have n6 : S6 A = none := by rw [e6.old A (by rw [hA5]; simp)]; exact n5
        have hl := ra.length
        refine ⟨us, hA6, by rw [line_eq]; rw [← hrest, List.length_append, List.length_cons] at hz; omega, ?_⟩
        refine ⟨S6, acc ++ [w], us ++ [v], rest', (e15.trans e6).put hA n6, upd_same, n6, ?_, h4, by rw [List.append_assoc]; exact hrest⟩
        exact (ra.same (e3.trans (e5.trans e6)).ss).append (.cons p .nil)
    · have he : i = ds.length := by omega
      subst he
      refine .inl ⟨J2.2 rfl, ?_⟩
      rw [List.drop_length] at hgo
      unfold lcGo at hgo
      cases hgo
      rw [List.append_nil] at hrest
      subst hrest
      refine q _ S2 H2 (ex.trans e2) (Pm.fr_of ⟨A, rfl, ?_, n2, .inl ⟨acc, rfl, us, ra, ?_, hA2⟩⟩)
      · cases z : H A with
        | none => rfl
        | some o => rw [ex.hh A o z] at hA; cases hA
      · rw [line_eq, ← ra.length]; exact hz
/-- [elt for tg in iter if ..] -/
theorem de_lc {elt tg iter : Expr} {ifs : List Expr} {scope : Scope} {pos : Pos} {it : Exs} {is : List Nat} {g : Gt} {t : Tx} {e : Ex} (own : List (Str × Nat)) (c : Cy X P k W) (hi : DI X P true tg iter it)
    (hg : ∀ s H C cl fp, Cy (X.blk s H scope (compEnvC scope cl C X.env) fp) P.noW k (fun _ _ _ _ => False) → DG (X.blk s H scope (compEnvC scope cl C X.env) fp) P.noW tg is g ∧ DTs (X.blk s H scope (compEnvC scope cl C X.env) fp) P.noW ifs t ∧ DE (X.blk s H scope (compEnvC scope cl C X.env) fp) P.noW .sh elt e)
    (ok : BlkOk X.N X.env.scope scope own) (his : (is.all fun i => (own.map (·.2)).contains i) = true := by rfl) (hs : ∀ x, foldedSetIterable iter X.env x = pure x := by intro _; rfl) :
    DE X P .fr (.ListComp elt [⟨tg, iter, ifs, 0⟩] scope pos) (eLc it (own.map (·.2)) g t e) := by
  refine (pe_lc c.calm c.nd hi ok (fun s H C cl fp => (hg s H C cl fp (c.blk ..)).1) (fun s H C cl fp => (hg s H C cl fp (c.blk ..)).2.1) (fun s H C cl fp => (hg s H C cl fp (c.blk ..)).2.2) hs).imp fun σ H Q q => lc_imp (fun i hi => ?_) q
  rw [List.all_eq_true] at his
  exact List.contains_iff_mem.mp (his i hi)
/-! two sources -/
/-- a target that makes no slot an own one -/
def Tame (g : Gt) (is : List Nat) : Prop := ∀ d ρ ρ', g d ρ = .ok ρ' → ∀ j s, ρ'[j]? = some s → s.owned = true → ρ[j]? = some s ∧ j ∉ is
def Tames (g : Gts) (is : List Nat) : Prop := ∀ d ρ ρ', g d ρ = .ok ρ' → ∀ j s, ρ'[j]? = some s → s.owned = true → ρ[j]? = some s ∧ j ∉ is
theorem tame_n (i : Nat) : Tame (gN i) [i] := fun d ρ ρ' h j s e o => by
  cases h
  rcases get_set e with ⟨rfl, z⟩ | ⟨z, e⟩
  · subst z; cases o
  · exact ⟨e, by simpa using z⟩
theorem tames_nil : Tames gsNil [] := fun d ρ ρ' h j s e o => by
  unfold gsNil at h
  split at h <;> cases h
  exact ⟨e, by simp⟩
theorem tames_cons {f : Gt} {g : Gts} {is js : List Nat} (a : Tame f is) (b : Tames g js) : Tames (gsCons f g) (is ++ js) := fun d ρ ρ' h j s e o => by
  unfold gsCons at h
  split at h
  · obtain ⟨ρ1, h1, h2⟩ := bind_ok h
    obtain ⟨x1, x2⟩ := b _ _ _ h2 j s e o
    obtain ⟨y1, y2⟩ := a _ _ _ h1 j s x1 o
    exact ⟨y1, by rw [List.mem_append, not_or]; exact ⟨y2, x2⟩⟩
  · cases h
theorem tame_t {n : Nat} {g : Gts} {is : List Nat} (a : Tames g is) : Tame (gT n g) is := fun d ρ ρ' h j s e o => by
  unfold gT at h
  split at h
  · split at h
    · exact a _ _ _ h j s e o
    · cases h
  · cases h
theorem Rdy.re {G : Gx} {S0 H0 Sb Hb S H S2 H2 : Hp} {σ σ' : L2.St} {ρ ρ' : List Slot} (R : Rdy G S0 H0 Sb Hb σ ρ) (e : Ext Sb Hb S2 H2) (R' : Rdy G S0 H0 S H σ' ρ') (s : Same S S2) (ta : ∀ (j : Nat) (u : Slot), ρ'[j]? = some u → u.owned = true → ρ[j]? = some u ∧ σ'[j]? = σ[j]?) : Rdy G S0 H0 S2 H2 σ' ρ' := by
  have R2 := R.to e
  refine ⟨R2.ext, R2.stt.sub, R'.stt.len, fun i d h => ?_, fun i u h o => ?_, R'.stt.ne, fun j ds q => let ⟨b, vs, e2, q2, z2, r2⟩ := R'.stt.bs j ds q; ⟨b, vs, e2, (Le.of s).sqL q2, z2, r2.same s⟩⟩
  · obtain ⟨v, h1, h2⟩ := R'.stt.sh i d h
    exact ⟨v, h1, h2.same s⟩
  · obtain ⟨h1, h2⟩ := ta i u h o
    obtain ⟨a, x1, x2, x3, x4⟩ := R2.stt.ow i u h1 o
    exact ⟨a, by rw [h2]; exact x1, x2, x3, x4⟩
def lc2Go (vs vs1 : List Nat) (g : Gt) (t : Tx) (it1 : Exs) (g1 : Gt) (t1 : Tx) (e : Ex) (ρ : List Slot) : List D → Res (List D)
  | [] => .ok []
  | d :: ds => g d (killS vs ρ) >>= fun ρ' => t ρ' >>= fun b => if b then it1 ρ' >>= fun ds1 => lcGo vs1 g1 t1 e ρ' ds1 >>= fun r1 => lc2Go vs vs1 g t it1 g1 t1 e ρ ds >>= fun r => .ok (r1 ++ r) else lc2Go vs vs1 g t it1 g1 t1 e ρ ds
def eLc2 (it : Exs) (vs vs1 : List Nat) (g : Gt) (t : Tx) (it1 : Exs) (g1 : Gt) (t1 : Tx) (e : Ex) : Ex := fun ρ => it ρ >>= fun ds => noX (lc2Go vs vs1 g t it1 g1 t1 e ρ ds) >>= mkLst
/-- the second source's loop -/
theorem lc_loop {J : It} {ds : List D} {vs is : List Nat} {g : Gt} {t : Tx} {e : Ex} {σb σ : L2.St} {ρb ρ : List Slot} {Sb Hb S1 H1 : Hp} {A : Addr} {us0 : List V} {acc0 r : List D} {N : Hp → Prop} (hi : ∀ i ∈ is, i ∈ vs)
    (Rb : Rdy P.G P.S0 P.H0 Sb Hb σb ρb) (hA : Hb A = none) (eb : Ext Sb Hb S1 H1) (hA1 : H1 A = some (.lst us0)) (n1 : S1 A = none) (ra0 : RepL P.G S1 acc0 us0) (R1 : Rdy P.G P.S0 P.H0 S1 H1 σ ρ)
    (ta : ∀ (j : Nat) (u : Slot), ρ[j]? = some u → u.owned = true → ρb[j]? = some u ∧ σ[j]? = σb[j]?) (hJ : ItOf P.G false J ds S1 H1) (hr : lcGo vs g t e ρ ds = .ok r) (hz : (acc0 ++ r).length ≤ line)
    (hN : ∀ S2 H2 us, Ext Sb Hb S2 H2 → Same S1 S2 → H2 A = some (.lst us) → S2 A = none → RepL P.G S2 (acc0 ++ r) us → N H2) :
    ∃ W1 : Nat → Nat → Hp → Prop, (∃ m, W1 0 m H1) ∧ ∀ j k H, W1 j k H → (J.stop j H ∧ N H) ∨ (J.go j H ∧ ∃ Nx1 : Hp → Prop, (∀ H', Nx1 H' → ∃ k', k' < k ∧ W1 (j + 1) k' H') ∧ ∀ x H', J.yld j H x H' → (tG P.noW is g) x (wipe σ vs) H' fun σ3 H5 => wipe σ3 vs = wipe σ vs ∧ (tT P.noW t) σ3 H5 fun b H6 =>
        if b = true then (tE P.noW .sh e) σ3 H6 fun y H7 => ∃ acc, H7 A = some (.lst acc) ∧ acc.length < sizeLine ∧ Nx1 (upd H7 A (.lst (acc ++ [y]))) else Nx1 H6) := by
  refine ⟨fun i m H2 => m = ds.length - i ∧ i ≤ ds.length ∧ ∃ S2 acc us rest, Ext Sb Hb S2 H2 ∧ Same S1 S2 ∧ H2 A = some (.lst us) ∧ S2 A = none ∧ RepL P.G S2 acc us ∧ lcGo vs g t e ρ (ds.drop i) = .ok rest ∧ acc ++ rest = acc0 ++ r, ⟨ds.length, rfl, Nat.zero_le _, S1, acc0, us0, r, eb, .refl _, hA1, n1, ra0, hr, rfl⟩, ?_⟩
  rintro i m H2 ⟨rfl, hi2, S2, acc, us, rest, e2, s2, hA2, n2, ra, hgo, hrest⟩
  have R2 := Rb.re e2 R1 s2 ta
  have J2 := hJ S2 H2 i (fun z => nomatch z) s2 e2.sh
  rcases Nat.lt_or_ge i ds.length with hlt | hge
  · refine .inr ⟨(J2.1 hlt).1, fun H3 => ∃ S3 acc us rest, Ext Sb Hb S3 H3 ∧ Same S1 S3 ∧ H3 A = some (.lst us) ∧ S3 A = none ∧ RepL P.G S3 acc us ∧ lcGo vs g t e ρ (ds.drop (i + 1)) = .ok rest ∧ acc ++ rest = acc0 ++ r, fun H3 h3 => ⟨ds.length - (i + 1), by omega, rfl, hlt, h3⟩, fun x H3 y => ?_⟩
    obtain ⟨S3, d, hd, e3, rd⟩ := (J2.1 hlt).2 x H3 y
    have hdrop : ds.drop i = d :: ds.drop (i + 1) := by
      rw [List.drop_eq_getElem_cons hlt]
      rw [List.getElem?_eq_getElem hlt] at hd
      rw [Option.some.inj hd]
    rw [hdrop] at hgo
    unfold lcGo at hgo
    obtain ⟨ρ', h1, hgo⟩ := bind_ok hgo
    have R3 := R2.to e3
    refine ⟨S3, killS vs ρ, d, R3.wipe vs, rd, ?_⟩
    rw [h1]
    intro σ4 R4 o4
    refine ⟨by rw [o4.wipe hi, wipe_wipe], S3, ρ', R4, ?_⟩
    obtain ⟨b, h2, hgo⟩ := bind_ok hgo
    rw [h2]
    intro S5 H5 e5
    have e15 := e2.trans (e3.trans e5)
    have s15 := s2.trans (e3.trans e5).ss
    have hA5 : H5 A = some (.lst us) := e5.hh A _ (e3.hh A _ hA2)
    have n5 : S5 A = none := by
      rw [e5.old A (by rw [e3.hh A _ hA2]; simp), e3.old A (by rw [hA2]; simp)]; exact n2
    cases b with
    | false =>
      rw [if_neg Bool.false_ne_true] at hgo ⊢
      exact ⟨S5, acc, us, rest, e15, s15, hA5, n5, ra.same (e3.trans e5).ss, hgo, hrest⟩
    | true =>
      rw [if_pos rfl] at hgo ⊢
      obtain ⟨w, h3, hgo⟩ := bind_ok hgo
      obtain ⟨rest', h4, hgo⟩ := bind_ok hgo
      cases hgo
      refine ⟨S5, ρ', R4.to e5, ?_⟩
      rw [h3]
      intro v S6 H6 e6 p
      have p : Rep P.G S6 w v := p
      have hA6 : H6 A = some (.lst us) := e6.hh A _ hA5
      have n6 : S6 A = none := by rw [e6.old A (by rw [hA5]; simp)]; exact n5
      have hl := ra.length
      refine ⟨us, hA6, by rw [line_eq]; rw [← hrest, List.length_append, List.length_cons] at hz; omega, ?_⟩
      refine ⟨S6, acc ++ [w], us ++ [v], rest', (e15.trans e6).put hA n6, s15.trans e6.ss, upd_same, n6, ?_, h4, by rw [List.append_assoc]; exact hrest⟩
      exact (ra.same (e3.trans (e5.trans e6)).ss).append (.cons p .nil)
  · have he : i = ds.length := by omega
    subst he
    refine .inl ⟨J2.2 rfl, ?_⟩
    rw [List.drop_length] at hgo
    unfold lcGo at hgo
    cases hgo
    rw [List.append_nil] at hrest
    subst hrest
    exact hN S2 H2 us e2 s2 hA2 n2 ra
theorem killS_get {vs : List Nat} {ρ : List Slot} {j : Nat} {s : Slot} (h : (killS vs ρ)[j]? = some s) (o : s.owned = true) : ρ[j]? = some s ∧ j ∉ vs := by
  induction vs with
  | nil => exact ⟨h, by simp⟩
  | cons v vs ih =>
    unfold killS at h
    rcases get_set h with ⟨rfl, z⟩ | ⟨z, e⟩
    · subst z; cases o
    · obtain ⟨a, b⟩ := ih e
      exact ⟨a, by simp only [List.mem_cons, not_or]; exact ⟨z, b⟩⟩
theorem lc2_imp {it it1 : Exs} {vs vs1 is is1 : List Nat} {g g1 : Gt} {t t1 : Tx} {e : Ex} {σ : L2.St} {H : Hp} {Q : VK} (hi : ∀ i ∈ is, i ∈ vs) (hi1 : ∀ i ∈ is1, i ∈ vs1) (ht : Tame g is)
    (q : tE P .fr (eLc2 it vs vs1 g t it1 g1 t1 e) σ H Q) : tLc2 (tI P true it) (tG P.noW is g) (tT P.noW t) (tI P.noW false it1) (tG P.noW is1 g1) (tT P.noW t1) (tE P.noW .sh e) vs vs1 σ H Q := by
  obtain ⟨S, ρ, R, q⟩ := q
  refine ⟨S, ρ, R, ?_⟩
  unfold eLc2 at q
  cases hit : it ρ with
  | stuck => rw [hit] at q; exact q.elim
  | exc c => rw [hit] at q; exact q
  | ok ds =>
    rw [hit, ok_bind] at q
    obtain ⟨r, hr, q⟩ := fin_ok q
    unfold mkLst at q
    split at q
    case isFalse => exact q.elim
    rename_i hz
    intro J S1 H1 ex hJ A hA
    have R1 := R.to ex
    have free : S1 A = none := free_of R1.sub hA
    refine ⟨fun i m H2 => m = ds.length - i ∧ i ≤ ds.length ∧ ∃ S2 acc us rest, Ext S1 H1 S2 H2 ∧ H2 A = some (.lst us) ∧ S2 A = none ∧ RepL P.G S2 acc us ∧ lc2Go vs vs1 g t it1 g1 t1 e ρ (ds.drop i) = .ok rest ∧ acc ++ rest = r, ⟨ds.length, rfl, Nat.zero_le _, S1, [], [], r, .own R1.sub hA, upd_same, free, .nil, hr, rfl⟩, ?_⟩
    rintro i m H2 ⟨rfl, hi2, S2, acc, us, rest, e2, hA2, n2, ra, hgo, hrest⟩
    have R2 := R1.to e2
    have J2 := hJ S2 H2 i (fun _ => e2) e2.ss e2.sh
    rcases Nat.lt_or_ge i ds.length with hlt | hge
    · refine .inr ⟨(J2.1 hlt).1, fun H3 => ∃ S3 acc us rest, Ext S1 H1 S3 H3 ∧ H3 A = some (.lst us) ∧ S3 A = none ∧ RepL P.G S3 acc us ∧ lc2Go vs vs1 g t it1 g1 t1 e ρ (ds.drop (i + 1)) = .ok rest ∧ acc ++ rest = r, fun H3 h3 => ⟨ds.length - (i + 1), by omega, rfl, hlt, h3⟩, fun x H3 y => ?_⟩
      obtain ⟨S3, d, hd, e3, rd⟩ := (J2.1 hlt).2 x H3 y
      have hdrop : ds.drop i = d :: ds.drop (i + 1) := by
        rw [List.drop_eq_getElem_cons hlt]
        rw [List.getElem?_eq_getElem hlt] at hd
        rw [Option.some.inj hd]
      rw [hdrop] at hgo
      unfold lc2Go at hgo
      obtain ⟨ρ', h1, hgo⟩ := bind_ok hgo
      have R3 := R2.to e3
      refine ⟨S3, killS vs ρ, d, R3.wipe vs, rd, ?_⟩
      rw [h1]
      intro σ4 R4 o4
      refine ⟨by rw [o4.wipe hi, wipe_wipe], S3, ρ', R4, ?_⟩
      obtain ⟨b, h2, hgo⟩ := bind_ok hgo
      rw [h2]
      intro S5 H5 e5
      have e15 := e2.trans (e3.trans e5)
      have hA5 : H5 A = some (.lst us) := e5.hh A _ (e3.hh A _ hA2)
      have n5 : S5 A = none := by
        rw [e5.old A (by rw [e3.hh A _ hA2]; simp), e3.old A (by rw [hA2]; simp)]; exact n2
      cases b with
      | false =>
        rw [if_neg Bool.false_ne_true] at hgo ⊢
        exact ⟨S5, acc, us, rest, e15, hA5, n5, ra.same (e3.trans e5).ss, hgo, hrest⟩
      | true =>
        rw [if_pos rfl] at hgo ⊢
        obtain ⟨ds1, h3, hgo⟩ := bind_ok hgo
        obtain ⟨r1, h4, hgo⟩ := bind_ok hgo
        obtain ⟨rest', h5, hgo⟩ := bind_ok hgo
        cases hgo
        refine ⟨S5, ρ', R4.to e5, ?_⟩
        rw [h3]
        intro J1 S6 H6 e6 hJ1
        have hA6 : H6 A = some (.lst us) := e6.hh A _ hA5
        have n6 : S6 A = none := by rw [e6.old A (by rw [hA5]; simp)]; exact n5
        refine lc_loop (Rb := R1.wipe vs) (acc0 := acc) (r := r1) hi1 hA (e15.trans e6) hA6 n6 (ra.same (e3.trans (e5.trans e6)).ss) ((R4.to e5).to e6) (fun j u hj o => ?_) hJ1 h4 ?_ fun S7 H7 us7 e7 s7 hA7 n7 r7 => ⟨S7, acc ++ r1, us7, rest', e7, hA7, n7, r7, h5, by rw [List.append_assoc]; exact hrest⟩
        · obtain ⟨x1, x2⟩ := ht _ _ _ h1 j u hj o
          exact ⟨x1, o4.2 j x2⟩
        · rw [← hrest, ← List.append_assoc, List.length_append] at hz
          omega
    · have he : i = ds.length := by omega
      subst he
      refine .inl ⟨J2.2 rfl, ?_⟩
      rw [List.drop_length] at hgo
      unfold lc2Go at hgo
      cases hgo
      rw [List.append_nil] at hrest
      subst hrest
      refine q _ S2 H2 (ex.trans e2) (Pm.fr_of ⟨A, rfl, ?_, n2, .inl ⟨acc, rfl, us, ra, ?_, hA2⟩⟩)
      · cases z : H A with
        | none => rfl
        | some o => rw [ex.hh A o z] at hA; cases hA
      · rw [line_eq, ← ra.length]; exact hz
theorem all_mem {is vs : List Nat} (h : (is.all fun i => vs.contains i) = true) : ∀ i ∈ is, i ∈ vs := fun i hi => by
  rw [List.all_eq_true] at h
  exact List.contains_iff_mem.mp (h i hi)
theorem de_lc2 {elt tg iter tg1 iter1 : Expr} {ifs ifs1 : List Expr} {scope : Scope} {pos : Pos} {it it1 : Exs} {is is1 : List Nat} {g g1 : Gt} {t t1 : Tx} {e : Ex} (own : List (Str × Nat)) (vs1 : List Nat) (c : Cy X P k W) (hi : DI X P true tg iter it)
    (hg : ∀ s H C cl fp, Cy (X.blk s H scope (compEnvC scope cl C X.env) fp) P.noW k (fun _ _ _ _ => False) → DG (X.blk s H scope (compEnvC scope cl C X.env) fp) P.noW tg is g ∧ DTs (X.blk s H scope (compEnvC scope cl C X.env) fp) P.noW ifs t ∧
      DI (X.blk s H scope (compEnvC scope cl C X.env) fp) P.noW false tg1 iter1 it1 ∧ DG (X.blk s H scope (compEnvC scope cl C X.env) fp) P.noW tg1 is1 g1 ∧ DTs (X.blk s H scope (compEnvC scope cl C X.env) fp) P.noW ifs1 t1 ∧ DE (X.blk s H scope (compEnvC scope cl C X.env) fp) P.noW .sh elt e)
    (ta : Tame g is) (ok : BlkOk X.N X.env.scope scope own) (his : (is.all fun i => (own.map (·.2)).contains i) = true := by rfl) (his1 : (is1.all fun i => vs1.contains i) = true := by rfl) (hvs : (vs1.all fun i => (own.map (·.2)).contains i) = true := by rfl)
    (hs : ∀ x, foldedSetIterable iter X.env x = pure x := by intro _; rfl) (hs1 : ∀ env x, foldedSetIterable iter1 env x = pure x := by intro _ _; rfl) :
    DE X P .fr (.ListComp elt [⟨tg, iter, ifs, 0⟩, ⟨tg1, iter1, ifs1, 0⟩] scope pos) (eLc2 it (own.map (·.2)) vs1 g t it1 g1 t1 e) :=
  (pe_lc2 c.calm c.nd hi ok (all_mem hvs) (fun s H C cl fp => (hg s H C cl fp (c.blk ..)).1) (fun s H C cl fp => (hg s H C cl fp (c.blk ..)).2.1) (fun s H C cl fp => (hg s H C cl fp (c.blk ..)).2.2.1) (fun s H C cl fp => (hg s H C cl fp (c.blk ..)).2.2.2.1)
    (fun s H C cl fp => (hg s H C cl fp (c.blk ..)).2.2.2.2.1) (fun s H C cl fp => (hg s H C cl fp (c.blk ..)).2.2.2.2.2) hs hs1).imp fun σ H Q q => lc2_imp (all_mem his) (all_mem his1) ta q
end
end Ev

set_option Elab.async false
set_option linter.all false
set_option maxRecDepth 100000
set_option maxHeartbeats 1000000
/-! Ev, part L: statements, calls of the program's defs, exceptions, the rule for a def. -/
namespace Ev
open PySem PySem.Spec PyProof.Rows L2 PySem.W
inductive Out where
  | nx (ρ : List Slot)
  | rt (d : D)
  | br (ρ : List Slot)
  | ct (ρ : List Slot)
  | exc (c : Str) (ρ : List Slot)
  | stuck
abbrev Sx := List Slot → Out
def FinS (P : Pr) (rm : Md) (S : Hp) (o : Out) (D : Ends) : Prop := match o with
  | .nx ρ => ∀ S' H' σ', Same S S' → Rdy P.G P.S0 P.H0 S' H' σ' ρ → D.nx σ' H'
  | .br ρ => ∀ S' H' σ', Same S S' → Rdy P.G P.S0 P.H0 S' H' σ' ρ → D.bk σ' H'
  | .ct ρ => ∀ S' H' σ', Same S S' → Rdy P.G P.S0 P.H0 S' H' σ' ρ → D.ct σ' H'
  | .exc c ρ => ∀ S' H' σ', Same S S' → Rdy P.G P.S0 P.H0 S' H' σ' ρ → P.W c σ' H'
  | .rt d => ∀ v S' H', Ext P.S0 P.H0 S' H' → Pm rm P.G P.H0 S' H' d v → D.rt v H'
  | .stuck => False
def tSx (P : Pr) (rm : Md) (f : Sx) : TS := fun D σ H => ∃ S ρ, Rdy P.G P.S0 P.H0 S H σ ρ ∧ FinS P rm S (f ρ) D
abbrev DS (X : Cx) (P : Pr) (rm : Md) (st : Stmt) (f : Sx) : Prop := PS X st (tSx P rm f)
abbrev DSs (X : Cx) (P : Pr) (rm : Md) (st : List Stmt) (f : Sx) : Prop := PSs X st (tSx P rm f)
theorem FinS.later {P : Pr} {rm : Md} {S S1 : Hp} {o : Out} {D : Ends} (h : FinS P rm S o D) (s : Same S S1) : FinS P rm S1 o D := by
  cases o with
  | nx ρ => exact fun S' H' σ' q => h S' H' σ' (s.trans q)
  | br ρ => exact fun S' H' σ' q => h S' H' σ' (s.trans q)
  | ct ρ => exact fun S' H' σ' q => h S' H' σ' (s.trans q)
  | exc c ρ => exact fun S' H' σ' q => h S' H' σ' (s.trans q)
  | rt d => exact h
  | stuck => exact h
/-- what stays around a statement -/
structure Cz (X : Cx) (P : Pr) (k : Nat) (W : WX) : Prop extends Cy X P k W where
  po : PassesOwn (model X.prog X.w) X.A X.env X.xe
  stk : X.stack = X.env :: X.outer
  fr : X.env.frame = some X.env.locals
/-! ### sequences -/
def sNx : Sx := .nx
def thenS (o : Out) (g : Sx) : Out := match o with
  | .nx ρ => g ρ
  | o => o
def sSeq (f g : Sx) : Sx := fun ρ => thenS (f ρ) g
def onD (r : Res D) (ρ : List Slot) (k : D → Out) : Out := match r with
  | .ok d => k d
  | .exc c => .exc c ρ
  | .stuck => .stuck
def onB (r : Res Bool) (ρ : List Slot) (k : Bool → Out) : Out := match r with
  | .ok d => k d
  | .exc c => .exc c ρ
  | .stuck => .stuck
def onL (r : Res (List D)) (ρ : List Slot) (k : List D → Out) : Out := match r with
  | .ok d => k d
  | .exc c => .exc c ρ
  | .stuck => .stuck
@[simp] theorem onD_ok {d : D} {ρ : List Slot} {k : D → Out} : onD (.ok d) ρ k = k d := rfl
@[simp] theorem onD_exc {c : Str} {ρ : List Slot} {k : D → Out} : onD (.exc c) ρ k = .exc c ρ := rfl
@[simp] theorem onB_ok {d : Bool} {ρ : List Slot} {k : Bool → Out} : onB (.ok d) ρ k = k d := rfl
@[simp] theorem onL_ok {d : List D} {ρ : List Slot} {k : List D → Out} : onL (.ok d) ρ k = k d := rfl
@[simp] theorem thenS_nx {ρ : List Slot} {g : Sx} : thenS (.nx ρ) g = g ρ := rfl
@[simp] theorem thenS_rt {d : D} {g : Sx} : thenS (.rt d) g = .rt d := rfl
section
variable {X : Cx} {P : Pr} {rm m : Md} {st : Stmt} {sts : List Stmt} {e a b : Expr} {f : Ex} {s u : Sx} {x : Str} {pos pos' : Pos} {k : Nat} {W : WX} {S H S1 H1 : Hp} {σ : L2.St} {ρ : List Slot}
theorem FinS.nx {D : Ends} (h : FinS P rm S (.nx ρ) D) (R : Rdy P.G P.S0 P.H0 S1 H1 σ ρ) (s : Same S S1) : D.nx σ H1 := h S1 H1 σ s R
theorem dss_nil : DSs X P rm [] sNx := pss_nil.imp fun D σ H ⟨S, ρ, R, q⟩ => FinS.nx q R (.refl _)
theorem dss_one (h : DS X P rm st s) : DSs X P rm [st] s := pss_one h
theorem dss_cons (h1 : DS X P rm st s) (h2 : DSs X P rm sts u) : DSs X P rm (st :: sts) (sSeq s u) := (pss_cons h1 h2).imp fun D σ H ⟨S, ρ, R, q⟩ => ⟨S, ρ, R, by
  unfold sSeq thenS at q
  cases hs : s ρ with
  | nx ρ' =>
    rw [hs] at q
    exact fun S' H' σ' s' R' => ⟨S', ρ', R', FinS.later q s'⟩
  | br ρ' => rw [hs] at q; exact q
  | ct ρ' => rw [hs] at q; exact q
  | exc c ρ' => rw [hs] at q; exact q
  | rt d => rw [hs] at q; exact q
  | stuck => rw [hs] at q; exact q⟩
/-! ghosts -/
def sFrz (i : Nat) (s : Sx) : Sx := fun ρ => s (frzS i ρ)
def sKill (is : List Nat) (s : Sx) : Sx := fun ρ => s (killS is ρ)
theorem Rdy.frzS (i : Nat) (h : Rdy P.G P.S0 P.H0 S H σ ρ) : ∃ S', Same S S' ∧ Rdy P.G P.S0 P.H0 S' H σ (frzS i ρ) := by
  unfold Ev.frzS
  split
  · rename_i ds e
    exact h.frz1 (d := .list ds) e rfl fun a w => .inl ⟨ds, rfl, w⟩
  · rename_i t kvs e
    exact h.frz1 (d := dB t kvs) e rfl fun a w => .inr ⟨t, kvs, rfl, w⟩
  · exact ⟨S, .refl _, h⟩
theorem dss_frz (i : Nat) (h : DSs X P rm sts s) : DSs X P rm sts (sFrz i s) := h.imp fun D σ H ⟨S, ρ, R, q⟩ => by
  obtain ⟨S', s', R'⟩ := R.frzS i
  exact ⟨S', _, R', FinS.later q s'⟩
theorem dss_kill (is : List Nat) (h : DSs X P rm sts s) : DSs X P rm sts (sKill is s) := h.imp fun D σ H ⟨S, ρ, R, q⟩ => ⟨S, _, R.kills is, q⟩
theorem ds_frz (i : Nat) (h : DS X P rm st s) : DS X P rm st (sFrz i s) := h.imp fun D σ H ⟨S, ρ, R, q⟩ => by
  obtain ⟨S', s', R'⟩ := R.frzS i
  exact ⟨S', _, R', FinS.later q s'⟩
theorem ds_kill (is : List Nat) (h : DS X P rm st s) : DS X P rm st (sKill is s) := h.imp fun D σ H ⟨S, ρ, R, q⟩ => ⟨S, _, R.kills is, q⟩
/-! ### values into names -/
/-- a value, then what is made of it -/
theorem onD_fin {r : Res D} {K : D → Out} {D : Ends} {Q : VK} (R : Rdy P.G P.S0 P.H0 S H σ ρ) (q : FinS P rm S (onD r ρ K) D)
    (k : ∀ d v S1 H1, r = .ok d → Ext S H S1 H1 → Rdy P.G P.S0 P.H0 S1 H1 σ ρ → Pm m P.G H S1 H1 d v → FinS P rm S1 (K d) D → Q v H1) : Fin m P.G P.W S H σ r Q := by
  cases r with
  | ok d => exact fun v S1 H1 ex p => k d v S1 H1 rfl ex (R.to ex) p (FinS.later q ex.ss)
  | exc c => exact fun S1 H1 ex => q S1 H1 σ ex.ss (R.to ex)
  | stuck => exact q
def sSet (i : Nat) (f : Ex) : Sx := fun ρ => onD (f ρ) ρ fun d => .nx (ρ.set i (.sh d))
def ownS : D → Slot
  | .list ds => .ol ds
  | .dict ((.bool t, .none) :: kvs) => .od t kvs
  | d => .sh d
def sOwn (i : Nat) (f : Ex) : Sx := fun ρ => onD (f ρ) ρ fun d => match ownS d with
  | .sh d => if isMut d then .stuck else .nx (ρ.set i (.sh d))
  | s => .nx (ρ.set i s)
theorem ds_set_of {i : Nat} (h : PS X st (tAsg (tE P .sh f) (gName i))) : DS X P rm st (sSet i f) := h.imp fun D σ H ⟨S, ρ, R, q⟩ => ⟨S, ρ, R, by
  unfold sSet at q
  exact onD_fin (m := .sh) R q fun d v S1 H1 e1 ex R1 p q1 => FinS.nx q1 (R1.put (.sh p)) (.refl _)⟩
theorem Pm.own {G : Gx} {H0 : Hp} {d : D} {v : V} (p : Pm .fr G H S1 H1 d v) (h0 : Same H0 H) : (isMut d = false ∧ Rep G S1 d v) ∨ (isMut d = true ∧ ∃ a, v = .ref a ∧ H a = none ∧ S1 a = none ∧ H0 a = none ∧ MutAt G S1 H1 d a) := by
  unfold Pm at p
  dsimp only at p
  split at p
  · rename_i hm
    obtain ⟨a, e, n, n1, w⟩ := p
    exact .inr ⟨hm, a, e, n, n1, h0.free n, w⟩
  · rename_i hm
    exact .inl ⟨by simpa using hm, p⟩
theorem ds_own_of {i : Nat} (h : PS X st (tAsg (tE P .fr f) (gName i))) : DS X P rm st (sOwn i f) := h.imp fun D σ H ⟨S, ρ, R, q⟩ => ⟨S, ρ, R, by
  unfold sOwn at q
  refine onD_fin (m := .fr) R q fun d v S1 H1 e1 ex R1 p q1 => ?_
  rcases p.own (Same.trans R.ext.hh (.refl _)) with ⟨hm, r⟩ | ⟨hm, a, e, n, n1, n0, w⟩
  · have eo : ownS d = .sh d := by
      cases d with
      | list _ => cases hm
      | dict _ => cases hm
      | _ => rfl
    rw [eo] at q1
    dsimp only at q1
    rw [hm] at q1
    exact FinS.nx q1 (R1.put (.sh r)) (.refl _)
  · subst e
    have ap : ∀ j u, j ≠ i → ρ[j]? = some u → u.owned = true → σ[j]? ≠ some (some (.ref a)) := fun j u _ hj o z => by
      obtain ⟨b, e2, _, _, w'⟩ := R.stt.ow j u hj o
      rw [e2] at z
      cases z
      exact w'.there n
    rcases w with ⟨ds, rfl, w⟩ | ⟨t, kvs, rfl, w⟩
    · exact FinS.nx q1 (R1.put (.ow (s := .ol ds) rfl n1 n0 w ap)) (.refl _)
    · exact FinS.nx q1 (R1.put (.ow (s := .od t kvs) rfl n1 n0 w ap)) (.refl _)⟩
theorem ds_set (i : Nat) (c : Cy X P k W) (he : DE X P .sh e f) (hi : X.N[i]? = some x := by rfl) (hx : Loc X.env.scope x := by first | exact Or.inl rfl | exact Or.inr rfl) (hs : swapsWith e (some (.Name x pos')) pos.line X.env = pure false := by rfl) (hf : X.fn x = true ∨ X.env.scope.names.lookup x = some .local := by first | exact .inl rfl | exact .inr rfl) :
    DS X P rm (.Assign [.Name x pos'] e pos) (sSet i f) := ds_set_of (ps_set c.nd hi hx he hs hf)
theorem ds_own (i : Nat) (c : Cy X P k W) (he : DE X P .fr e f) (hi : X.N[i]? = some x := by rfl) (hx : Loc X.env.scope x := by first | exact Or.inl rfl | exact Or.inr rfl) (hs : swapsWith e (some (.Name x pos')) pos.line X.env = pure false := by rfl) (hf : X.fn x = true ∨ X.env.scope.names.lookup x = some .local := by first | exact .inl rfl | exact .inr rfl) :
    DS X P rm (.Assign [.Name x pos'] e pos) (sOwn i f) := ds_own_of (ps_set c.nd hi hx he hs hf)
/-! several names -/
def sUnp (g : Gt) (f : Ex) : Sx := fun ρ => onD (f ρ) ρ fun d => match g d ρ with
  | .ok ρ' => .nx ρ'
  | _ => .stuck
theorem ds_unp {tg : Expr} {is : List Nat} {g : Gt} (he : DE X P .sh e f) (hg : DG X P tg is g) (hs : swapsWithSole [tg] e pos.line X.env = pure false := by rfl) (hw : swappedStores [tg] e X.env = pure none := by rfl) (h1 : (assignEach [tg] X.env).map (·.2) = [assign tg X.env] := by rfl) :
    DS X P rm (.Assign [tg] e pos) (sUnp g f) := (ps_asg he hg hs hw h1).imp fun D σ H ⟨S, ρ, R, q⟩ => ⟨S, ρ, R, by
  unfold sUnp at q
  refine onD_fin (m := .sh) R q fun d v S1 H1 e1 ex R1 p q1 => ⟨S1, ρ, d, R1, p, ?_⟩
  cases hg : g d ρ with
  | ok ρ' => rw [hg] at q1; exact fun σ' R' _ => FinS.nx q1 R' (.refl _)
  | exc c => rw [hg] at q1; exact q1
  | stuck => rw [hg] at q1; exact q1⟩
def sPar (i j : Nat) (g : Exs) : Sx := fun ρ => onL (g ρ) ρ fun ds => match ds with
  | [x, y] => .nx ((ρ.set i (.sh x)).set j (.sh y))
  | _ => .stuck
theorem onL_fin {r : Res (List D)} {K : List D → Out} {D : Ends} {Q : List V → Hp → Prop} (R : Rdy P.G P.S0 P.H0 S H σ ρ) (q : FinS P rm S (onL r ρ K) D)
    (k : ∀ ds vs S1 H1, r = .ok ds → Ext S H S1 H1 → Rdy P.G P.S0 P.H0 S1 H1 σ ρ → AllP m P.G S1 H1 ds vs → FinS P rm S1 (K ds) D → Q vs H1) : FinA P m S H σ r Q := by
  cases r with
  | ok d => exact fun v S1 H1 ex p => k d v S1 H1 rfl ex (R.to ex) p (FinS.later q ex.ss)
  | exc c => exact fun S1 H1 ex => q S1 H1 σ ex.ss (R.to ex)
  | stuck => exact q
theorem ds_par {y : Str} {px py pt : Pos} {kt k2 pt2} {g : Exs} (i j : Nat) (c : Cy X P k W) (ha : DA X P .sh [a, b] g) (hi : X.N[i]? = some x := by rfl) (hj : X.N[j]? = some y := by rfl) (hij : i ≠ j := by decide)
    (hx : X.env.scope.names.lookup x = some .local := by rfl) (hy : X.env.scope.names.lookup y = some .local := by rfl)
    (hw : swappedStores [.Tuple [.Name x px, .Name y py] kt pt] (.Tuple [a, b] k2 pt2) X.env = pure (some [x, y]) := by rfl)
    (hs : swapsWithSole [.Tuple [.Name x px, .Name y py] kt pt] (.Tuple [a, b] k2 pt2) pos.line X.env = pure false := by rfl) :
    DS X P rm (.Assign [.Tuple [.Name x px, .Name y py] kt pt] (.Tuple [a, b] k2 pt2) pos) (sPar i j g) :=
  (ps_par c.calm c.nd hi hj hij hx hy ha hw hs).imp fun D σ H ⟨S, ρ, R, q⟩ => ⟨S, ρ, R, by
  unfold sPar at q
  refine onL_fin (m := .sh) R q fun ds vs S1 H1 e1 ex R1 p q1 => ?_
  split at q1
  · obtain ⟨v, r, rfl, p1, w, r', rfl, p2, e⟩ := p
    have e : r' = [] := e
    subst e
    exact ⟨v, w, rfl, FinS.nx q1 ((R1.put (.sh p1)).put (.sh p2)) (.refl _)⟩
  · exact q1.elim⟩
/-! ### expressions as statements, returns -/
def sExpr (f : Ex) : Sx := fun ρ => onD (f ρ) ρ fun _ => .nx ρ
theorem ds_expr (he : DE X P m e f) (hs : swapsWith e none pos.line X.env = pure false := by rfl) : DS X P rm (.Expr e pos) (sExpr f) := (ps_expr he hs).imp fun D σ H ⟨S, ρ, R, q⟩ => ⟨S, ρ, R, by
  unfold sExpr at q
  exact onD_fin (m := m) R q fun d v S1 H1 e1 ex R1 p q1 => FinS.nx q1 R1 (.refl _)⟩
def sRet (f : Ex) : Sx := fun ρ => onD (f ρ) ρ fun d => .rt d
theorem ds_ret (he : DE X P rm e f) : DS X P rm (.Return (some e) pos) (sRet f) := (ps_ret he).imp fun D σ H ⟨S, ρ, R, q⟩ => ⟨S, ρ, R, by
  unfold sRet at q
  exact onD_fin (m := rm) R q fun d v S1 H1 e1 ex R1 p q1 => q1 v S1 H1 R1.ext (p.earlier R.ext.hh)⟩
def sRetN : Sx := fun _ => .rt .none
theorem ds_retN : DS X P rm (.Return none pos) sRetN := ps_retN.imp fun D σ H ⟨S, ρ, R, q⟩ => q _ S H R.ext (.of_rep (by simp only [Rep]) (.inl rfl))
/-- return x, x an own thing -/
def sRetO (i : Nat) : Sx := fun ρ => match ρ[i]? with
  | some (.ol ds) => .rt (.list ds)
  | some (.od t kvs) => .rt (dB t kvs)
  | _ => .stuck
theorem ds_retO (i : Nat) (hN : X.N[i]? = some x := by rfl) (hv : Vis X.env.scope x := by first | exact Or.inl rfl | exact Or.inr (Or.inl rfl) | exact Or.inr (Or.inr rfl)) (hd : (x == ("__debug__" : Str)) = false := by decide)
    (hcd : (x == ("__classdict__" : Str)) = false := by decide) : DS X P .fr (.Return (some (.Name x pos')) pos) (sRetO i) := (ps_ret (pv i hN hv hd hcd)).imp fun D σ H ⟨S, ρ, R, q⟩ => by
  unfold sRetO at q
  split at q
  · rename_i ds h
    obtain ⟨a, e, n, n0, w⟩ := R.stt.ow i _ h rfl
    exact ⟨_, e, q _ S H R.ext (Pm.fr_of ⟨a, rfl, n0, n, .inl ⟨ds, rfl, w⟩⟩)⟩
  · rename_i t kvs h
    obtain ⟨a, e, n, n0, w⟩ := R.stt.ow i _ h rfl
    exact ⟨_, e, q _ S H R.ext (Pm.fr_of ⟨a, rfl, n0, n, .inr ⟨t, kvs, rfl, w⟩⟩)⟩
  · exact q.elim
theorem ds_pass : DS X P rm (.Pass pos) sNx := ps_pass.imp fun D σ H ⟨S, ρ, R, q⟩ => FinS.nx q R (.refl _)
def sBrk : Sx := .br
def sCnt : Sx := .ct
theorem ds_brk : DS X P rm (.Break pos) sBrk := ps_break.imp fun D σ H ⟨S, ρ, R, q⟩ => q S H σ (.refl _) R
theorem ds_cnt : DS X P rm (.Continue pos) sCnt := ps_continue.imp fun D σ H ⟨S, ρ, R, q⟩ => q S H σ (.refl _) R
/-! ### if, for, while -/
def sIf (t : Tx) (s u : Sx) : Sx := fun ρ => onB (t ρ) ρ fun b => if b then s ρ else u ρ
theorem onB_fin {r : Res Bool} {K : Bool → Out} {D : Ends} {Q : Bool → Hp → Prop} (R : Rdy P.G P.S0 P.H0 S H σ ρ) (q : FinS P rm S (onB r ρ K) D)
    (k : ∀ d S1 H1, r = .ok d → Ext S H S1 H1 → Rdy P.G P.S0 P.H0 S1 H1 σ ρ → FinS P rm S1 (K d) D → Q d H1) : FinT P S H σ r Q := by
  cases r with
  | ok d => exact fun S1 H1 ex => k d S1 H1 rfl ex (R.to ex) (FinS.later q ex.ss)
  | exc c => exact fun S1 H1 ex => q S1 H1 σ ex.ss (R.to ex)
  | stuck => exact q
theorem ds_if {t : Tx} {ss us : List Stmt} (hc : DT X P e t) (h1 : DSs X P rm ss s) (h2 : DSs X P rm us u) : DS X P rm (.If e ss us pos) (sIf t s u) := (ps_if hc h1 h2).imp fun D σ H ⟨S, ρ, R, q⟩ => ⟨S, ρ, R, by
  unfold sIf at q
  exact onB_fin R q fun d S1 H1 e1 ex R1 q1 => by
    cases d with
    | true => rw [if_pos rfl] at q1 ⊢; exact ⟨S1, ρ, R1, q1⟩
    | false => rw [if_neg Bool.false_ne_true] at q1 ⊢; exact ⟨S1, ρ, R1, q1⟩⟩
/-- what a turn's end means for the loop -/
def turnS (o : Out) (g : Sx) : Out := match o with
  | .nx ρ => g ρ
  | .ct ρ => g ρ
  | .br ρ => .nx ρ
  | o => o
@[simp] theorem turnS_nx {ρ : List Slot} {g : Sx} : turnS (.nx ρ) g = g ρ := rfl
@[simp] theorem turnS_rt {d : D} {g : Sx} : turnS (.rt d) g = .rt d := rfl
def forGo (g : Gt) (s : Sx) : List D → Sx
  | [], ρ => .nx ρ
  | d :: ds, ρ => match g d ρ with
    | .ok ρ1 => turnS (s ρ1) (forGo g s ds)
    | _ => .stuck
def sFor (it : Exs) (g : Gt) (s : Sx) : Sx := fun ρ => onL (it ρ) ρ fun ds => forGo g s ds ρ
theorem turn_fin {o : Out} {g : Sx} {D : Ends} {N : L2.St → Hp → Prop} (q : FinS P rm S (turnS o g) D) (hN : ∀ ρ S1 H1 σ1, Same S S1 → Rdy P.G P.S0 P.H0 S1 H1 σ1 ρ → FinS P rm S1 (g ρ) D → N σ1 H1) :
    FinS P rm S o { nx := N, ct := N, bk := D.nx, rt := D.rt } := by
  cases o with
  | nx ρ => exact fun S1 H1 σ1 s R => hN ρ S1 H1 σ1 s R (FinS.later q s)
  | ct ρ => exact fun S1 H1 σ1 s R => hN ρ S1 H1 σ1 s R (FinS.later q s)
  | br ρ => exact q
  | exc c ρ => exact q
  | rt d => exact q
  | stuck => exact q
theorem ds_for {tg iter : Expr} {body : List Stmt} {it : Exs} {is : List Nat} {g : Gt} (c : Cz X P k W) (hi : DI X P false tg iter it) (hg : DG X P tg is g) (hb : DSs X P rm body s) (hs : ∀ x, foldedSetIterable iter X.env x = pure x := by intro _; rfl) :
    DS X P rm (.For tg iter body [] pos) (sFor it g s) := (ps_for c.po c.calm hi hg hb hs).imp fun D σ H ⟨S, ρ, R, q⟩ => ⟨S, ρ, R, by
  unfold sFor at q
  cases hit : it ρ with
  | stuck => rw [hit] at q; exact q.elim
  | exc c => rw [hit] at q; exact fun S1 H1 ex => q S1 H1 σ ex.ss (R.to ex)
  | ok ds =>
    rw [hit] at q
    intro J S1 H1 ex hJ
    have R1 := R.to ex
    have q1 : FinS P rm S1 (forGo g s ds ρ) D := FinS.later q ex.ss
    refine ⟨fun i m σ2 H2 => m = ds.length - i ∧ i ≤ ds.length ∧ ∃ S2 ρ2, Same S1 S2 ∧ Rdy P.G P.S0 P.H0 S2 H2 σ2 ρ2 ∧ FinS P rm S2 (forGo g s (ds.drop i) ρ2) D, ⟨ds.length, rfl, Nat.zero_le _, S1, ρ, .refl _, R1, q1⟩, ?_⟩
    rintro i m σ2 H2 ⟨rfl, hi2, S2, ρ2, s2, R2, q2⟩
    have J2 := hJ S2 H2 i (fun z => nomatch z) s2 R2.sub
    rcases Nat.lt_or_ge i ds.length with hlt | hge
    · refine .inr ⟨(J2.1 hlt).1, fun σ3 H3 => ∃ S3 ρ3, Same S1 S3 ∧ Rdy P.G P.S0 P.H0 S3 H3 σ3 ρ3 ∧ FinS P rm S3 (forGo g s (ds.drop (i + 1)) ρ3) D, fun σ3 H3 h3 => ⟨ds.length - (i + 1), by omega, rfl, hlt, h3⟩, fun v H3 y => ?_⟩
      obtain ⟨S3, d, hd, e3, rd⟩ := (J2.1 hlt).2 v H3 y
      have hdrop : ds.drop i = d :: ds.drop (i + 1) := by
        rw [List.drop_eq_getElem_cons hlt]
        rw [List.getElem?_eq_getElem hlt] at hd
        rw [Option.some.inj hd]
      rw [hdrop] at q2
      unfold forGo at q2
      refine ⟨S3, ρ2, d, R2.to e3, rd, ?_⟩
      cases hg : g d ρ2 with
      | exc c => rw [hg] at q2; exact q2.elim
      | stuck => rw [hg] at q2; exact q2.elim
      | ok ρ3 =>
        rw [hg] at q2
        intro σ4 R4 _
        refine ⟨S3, ρ3, R4, turn_fin (g := forGo g s (ds.drop (i + 1))) (FinS.later q2 e3.ss) fun ρ4 S5 H5 σ5 s5 R5 q5 => ⟨S5, ρ4, s2.trans (e3.ss.trans s5), R5, q5⟩⟩
    · have he : i = ds.length := by omega
      subst he
      rw [List.drop_length] at q2
      exact .inl ⟨J2.2 rfl, FinS.nx q2 R2 (.refl _)⟩⟩
def whGo (t : Tx) (s : Sx) : Nat → Sx
  | 0, _ => .stuck
  | n + 1, ρ => onB (t ρ) ρ fun b => if b then turnS (s ρ) (whGo t s n) else .nx ρ
theorem ds_wh {t : Tx} {body : List Stmt} (n : Nat) (c : Cz X P k W) (ht : DT X P e t) (hb : DSs X P rm body s) : DS X P rm (.While e body [] pos) (whGo t s n) := (ps_while c.po ht hb).imp fun D σ H ⟨S, ρ, R, q⟩ => by
  refine ⟨fun m σ2 H2 => ∃ S2 ρ2, Rdy P.G P.S0 P.H0 S2 H2 σ2 ρ2 ∧ FinS P rm S2 (whGo t s m ρ2) D, ⟨n, S, ρ, R, q⟩, ?_⟩
  rintro m σ2 H2 ⟨S2, ρ2, R2, q2⟩
  cases m with
  | zero => exact q2.elim
  | succ m =>
    unfold whGo at q2
    refine ⟨S2, ρ2, R2, onB_fin R2 q2 fun b S3 H3 e3 ex R3 q3 => ?_⟩
    cases b with
    | false => rw [if_neg Bool.false_ne_true] at q3 ⊢; exact FinS.nx q3 R3 (.refl _)
    | true =>
      rw [if_pos rfl] at q3 ⊢
      exact ⟨fun σ' H' => ∃ S' ρ', Rdy P.G P.S0 P.H0 S' H' σ' ρ' ∧ FinS P rm S' (whGo t s m ρ') D, fun σ' H' h' => ⟨m, Nat.lt_succ_self _, h'⟩, S3, ρ2, R3, turn_fin (g := whGo t s m) q3 fun ρ4 S5 H5 σ5 s5 R5 q5 => ⟨S5, ρ4, R5, q5⟩⟩
end
end Ev

set_option Elab.async false
set_option linter.all false
set_option maxRecDepth 100000
set_option maxHeartbeats 1000000
/-! Ev, part M: calls of the program's defs, exceptions, the rule for a def. -/
namespace Ev
open PySem PySem.Spec PyProof.Rows L2 PySem.W
abbrev Fn := List D → Res D
/-- what a def promises -/
def spD (G : Gx) (m : Md) (F : Fn) : Sp := fun vs H Q E => ∃ S ds, Same S H ∧ RepL G S ds vs ∧ match F ds with
  | .ok d => ∀ v S' H', Ext S H S' H' → Pm m G H S' H' d v → Q v H'
  | .exc c => ∀ S' H', Ext S H S' H' → ∃ C, G.ca c = some C ∧ E (.ref C) none H'
  | .stuck => False
def finO : Out → Res D
  | .rt d => .ok d
  | .nx _ => .ok .none
  | .exc c _ => .exc c
  | _ => .stuck
/-- a def as a function: n parameters, N names -/
def mkFn (n N : Nat) (s : Sx) : Fn := fun ds => if ds.length = n then finO (s (ds.map .sh ++ List.replicate (N - n) .no)) else .stuck
theorem mkFn_len {n N : Nat} {s : Sx} {ds : List D} (h : mkFn n N s ds ≠ .stuck) : ds.length = n := by
  unfold mkFn at h
  split at h
  · assumption
  · exact absurd rfl h
/-- a def of the program that keeps its promise, by its name -/
structure Callee (P : Program) (w : World) (K : PySem.W.Frag) (mg : Str → Option Value) (base : Heap) (G : Gx) (k : Nat) (x : Str) (m : Md) (F : Fn) : Prop where
  ex : ∃ f fd ps, mg x = some (.ref f) ∧ keepIn K (.ref f) = true ∧ Binds K fd ps [] ∧ FnOk P w K mg base (L2.CX P w) k f fd ps (spD G m F)
theorem Callee.mono {P : Program} {w : World} {K : PySem.W.Frag} {mg : Str → Option Value} {base : Heap} {G : Gx} {j k : Nat} {x : Str} {m : Md} {F : Fn} (h : Callee P w K mg base G j x m F) (l : j ≤ k) : Callee P w K mg base G k x m F := by
  obtain ⟨f, fd, ps, h1, h2, h3, h4⟩ := h.ex
  exact ⟨f, fd, ps, h1, h2, h3, h4.mono l⟩
def eCall (F : Fn) (g : Exs) : Ex := fun ρ => g ρ >>= F
section
variable {X : Cx} {P : Pr} {rm m : Md} {st : Stmt} {sts : List Stmt} {e a b : Expr} {es : List Expr} {f : Ex} {g : Exs} {s u : Sx} {x : Str} {p pos pos' : Pos} {j k : Nat} {W : WX} {S H S1 H1 : Hp} {σ : L2.St} {ρ : List Slot} {F : Fn}
theorem call_fn (c : Cy X P k W) (q : tE P m (eCall F g) σ H Q) : tCallS (spD P.G m F) (WE W) (tA P .sh g) σ H Q := by
  obtain ⟨S, ρ, R, q⟩ := q
  refine ⟨S, ρ, R, ?_⟩
  unfold eCall at q
  refine Fin.bindA (P := P) (m := m) (m1 := .sh) (S := S) (Q := Q) (F := F) q fun ds vs S1 H1 e1 ex pa q1 => ⟨S1, ds, (R.to ex).sub, pa.s, ?_⟩
  cases hF : F ds with
  | ok d => rw [hF] at q1; exact q1
  | exc c' => rw [hF] at q1; exact fun S' H' e' => c.hW _ _ _ (q1 S' H' e')
  | stuck => rw [hF] at q1; exact q1
theorem de_call (cl : Callee X.prog X.w X.K X.mg X.base P.G j x m F) (c : Cy X P k W) (ha : DA X P .sh (e :: es) g) (hj : j ≤ k := by decide) (hg : Gl X x := by rfl) (hdb : (x == ("__debug__" : Str)) = false := by decide) (he : starEach (e :: es) X.env = (false, eval e X.env) :: starEach es X.env := by rfl) (hpl : (backTo pos (starEach es X.env)).any (·.1) = false := by rfl) :
    DE X P m (.Call (.Name x p) (e :: es) [] pos) (eCall F g) := by
  obtain ⟨f, fd, ps, h1, h2, h3, h4⟩ := cl.ex
  exact (pe_callS h4 (c.room.mono hj) hg h1 h2 h3 (fun σ => passAt c.tk σ) ha hdb he hpl).imp fun σ H Q q => call_fn c q
/-! ### raise -/
def sRaise (c : Str) : Sx := fun ρ => .exc c ρ
theorem ds_raise {t : Str} {j : Nat} {p2 : Pos} {C : Addr} {B newId initId : String} {bmB : List Value} (n : Str) (c : Cz X P k W) (Fb : ExcBaseFacts B newId initId bmB) (q : excIn X.K C bmB newId = true) (gC : X.mg x = some (.ref C)) (kC : keepIn X.K (.ref C) = true) (r : Raises X (.ref C)) (ca : P.G.ca n = some C)
    (hg : Gl X x := by rfl) (hdb : (x == ("__debug__" : Str)) = false := by decide) : DS X P rm (.Raise (some (.Call (.Name x p) [.Constant (.str t) j p2] [] pos)) none pos') (sRaise n) :=
  (ps_raise c.calm c.tk (pmk_own Fb q gC kC r hg hdb)).imp fun D σ H ⟨S, ρ, R, q⟩ => by
    obtain ⟨C', e1, e2⟩ := c.hW n σ H (q S H σ (.refl _) R)
    rw [ca] at e1
    cases e1
    exact e2
/-! ### try -/
def sTry (sub : Str → Bool) (s u : Sx) : Sx := fun ρ => match s ρ with
  | .exc c ρ' => if sub c then u ρ' else .exc c ρ'
  | o => o
abbrev Pr.wW (P : Pr) (W : WX) : Pr := { P with W := fun c σ H => ∃ C, P.G.ca c = some C ∧ W (.ref C) none σ H }
theorem FinS.rd {P P' : Pr} {o : Out} {D : Ends} (q : FinS P rm S o D) (h : ∀ c ρ, o ≠ .exc c ρ) (e : P'.G = P.G) (e0 : P'.S0 = P.S0) (e1 : P'.H0 = P.H0) : FinS P' rm S o D := by
  obtain ⟨G, S0, H0, W⟩ := P
  obtain ⟨G', S0', H0', W'⟩ := P'
  subst e e0 e1
  cases o with
  | exc c ρ => exact absurd rfl (h c ρ)
  | nx ρ => exact q
  | br ρ => exact q
  | ct ρ => exact q
  | rt d => exact q
  | stuck => exact q
theorem ds_try {y : Str} {hv : Value} {body suite : List Stmt} {b₀ : Stmt} {np : Pos} (sub : Str → Bool) (c : Cz X P k W) (hc : Names X y hv) (hsc : ∀ c, sub c = true → P.G.ca c ≠ none) (hsub : ∀ c C, P.G.ca c = some C → exmOne X.K (.ref C) hv = some (sub c))
    (hb : ∀ (W' : WX) (pn : List (Addr × Obj)) (xe : Value → Shared → Prop), Cz (X.tr pn xe) (P.wW W') k W' → DSs (X.tr pn xe) (P.wW W') rm body s)
    (hu : ∀ (a : Addr) (pn : List (Addr × Obj)), X.N.Nodup → DSs (X.suite a pn) P.noW rm (b₀ :: suite) u) (hux : ∀ ρ c ρ', u ρ ≠ .exc c ρ') :
    DS X P rm (.Try body [.ExceptHandler (some (.Name y np)) none (b₀ :: suite) pos'] [] [] pos) (sTry sub s u) := by
  refine (ps_try_only (tb := fun W' => tSx (P.wW W') rm s) (ts := fun a cls d => tSx P.noW rm u) c.stk c.fr hc c.tk (fun W' pn xe tk po => hb W' pn xe ⟨⟨c.K, c.calm, c.nd, c.room, tk, fun _ _ _ h => h⟩, po, c.stk, c.fr⟩) (fun a oe cls d pn _ _ => hu a _ c.nd)).imp fun D σ H ⟨S, ρ, R, q⟩ => ⟨S, ρ, R, ?_⟩
  unfold sTry at q
  cases hs : s ρ with
  | nx ρ' => rw [hs] at q; exact q
  | br ρ' => rw [hs] at q; exact q
  | ct ρ' => rw [hs] at q; exact q
  | rt d => rw [hs] at q; exact q
  | stuck => rw [hs] at q; exact q
  | exc n ρ' =>
    rw [hs] at q
    dsimp only at q
    intro S1 H1 σ1 s1 R1
    cases hca : P.G.ca n with
    | none =>
      -- no such class: nothing was wished of it
      split at q
      · rename_i hb
        exact absurd hca (hsc n hb)
      · obtain ⟨C, e1, _⟩ := c.hW _ _ _ (q S1 H1 σ1 s1 R1)
        rw [hca] at e1; cases e1
    | some C =>
      refine ⟨C, hca, sub n, hsub n C hca, fun hb a ha => ⟨S1, ρ', R1, ?_⟩, fun hb => ?_⟩
      · rw [if_pos hb] at q
        exact (FinS.later q s1).rd (hux ρ') rfl rfl rfl
      · rw [if_neg (by rw [hb]; exact Bool.false_ne_true)] at q
        obtain ⟨C', e1, e2⟩ := c.hW _ _ _ (q S1 H1 σ1 s1 R1)
        rw [hca] at e1; cases e1
        exact e2
/-! ### the rule for a def -/
theorem len_of {vs : List V} {ds : List D} {G : Gx} (r : RepL G S ds vs) {n N : Nat} {s : Sx} (h : match mkFn n N s ds with | .stuck => False | _ => True) : vs.length = n := by
  rw [← r.length]
  refine mkFn_len (N := N) (s := s) fun z => ?_
  rw [z] at h
  exact h
theorem start_get {N : List Str} {vs : List V} {i : Nat} {v : V} (h : vs[i]? = some v) : (L2.start N vs)[i]? = some (some v) := by
  unfold L2.start
  have hl : i < vs.length := (List.getElem?_eq_some_iff.mp h).1
  rw [List.getElem?_append_left (by simpa using hl), List.getElem?_map, h]
  rfl
theorem rdy_start {G : Gx} {N : List Str} {vs : List V} {ds : List D} (ss : Same S H) (r : RepL G S ds vs) (hn : ds.length ≤ N.length) : Rdy G S H S H (L2.start N vs) (ds.map .sh ++ List.replicate (N.length - ds.length) .no) := by
  have hl := r.length
  have own : ∀ (i : Nat) (u : Slot), (ds.map Slot.sh ++ List.replicate (N.length - ds.length) Slot.no)[i]? = some u → (∃ d, ds[i]? = some d ∧ u = .sh d) ∨ u = .no := fun i u h => by
    rcases Nat.lt_or_ge i ds.length with hlt | hge
    · rw [List.getElem?_append_left (by simpa using hlt), List.getElem?_map] at h
      obtain ⟨d, h1, h2⟩ := Option.map_eq_some_iff.mp h
      exact .inl ⟨d, h1, h2.symm⟩
    · rw [List.getElem?_append_right (by simpa using hge)] at h
      exact .inr ((List.mem_replicate.mp (List.mem_of_getElem? h)).2)
  refine ⟨.refl ss, ss, by simp [L2.start, hl], fun i d h => ?_, fun i u h o => ?_, fun i j u u' a h o => ?_, fun i ds' h => ?_⟩
  · rcases own i _ h with ⟨d', h1, h2⟩ | h2
    · cases h2
      obtain ⟨v, h3, h4⟩ := r.get h1
      exact ⟨v, start_get h3, h4⟩
    · cases h2
  · rcases own i _ h with ⟨d', h1, h2⟩ | h2 <;> subst h2 <;> cases o
  · rcases own i _ h with ⟨d', h1, h2⟩ | h2 <;> subst h2 <;> cases o
  · rcases own i _ h with ⟨d', h1, h2⟩ | h2 <;> cases h2
theorem fin_of {P : Pr} {o : Out} {E : XK} {vs : List V} {ds : List D} {n N : Nat} {sx : Sx} {Q : VK} (hW : P.W = fun c _ H => ∃ C, P.G.ca c = some C ∧ E (.ref C) none H)
    (q : match finO o with
    | .ok d => ∀ v S' H', Ext P.S0 P.H0 S' H' → Pm rm P.G P.H0 S' H' d v → Q v H'
    | .exc c => ∀ S' H', Ext P.S0 P.H0 S' H' → ∃ C, P.G.ca c = some C ∧ E (.ref C) none H'
    | .stuck => False) : FinS P rm S o { nx := fun _ H' => Q .non H', rt := Q } := by
  cases o with
  | rt d => exact q
  | nx ρ => exact fun S' H' σ' _ R => q .non S' H' R.ext (.of_rep (by simp only [Rep]) (.inl rfl))
  | exc c ρ => exact fun S' H' σ' _ R => by rw [hW]; exact q S' H' R.ext
  | br ρ => exact q.elim
  | ct ρ => exact q.elim
  | stuck => exact q.elim
/-- the context of a def's body -/
abbrev bodyX (P : Program) (w : World) (K : PySem.W.Frag) (mg : Str → Option Value) (base : Heap) (N : List Str) (qual : Str) (scope : Scope) (f : Addr) (cdv : Value) (A : Around) (outer : List Env) (s : Shared) (H : Hp) (E : XK) : Cx :=
  cxOf (L2.CX P w) P w K mg base N qual scope f cdv A outer s H E
theorem fn_callee {P : Program} {w : World} {K : PySem.W.Frag} {mg : Str → Option Value} {base : Heap} {G : Gx} {qual : Str} {args : Arguments} {body : List Stmt} {scope : Scope} {f : Addr} {fd : FuncData} {N ps : List Str} {sx : Sx}
    (hK : K = G.K) (F : FunD K x qual args body scope [] [] f fd) (hm : mg x = some (.ref f)) (Sc : FnScope N ps scope)
    (hbi : ∀ (kV doc pm : Value) (an : Option Addr) (cdv ct : Value) (us : List Value), us.length = ps.length → bindArgs (fnOf x qual args body scope .none kV doc pm an cdv ct) ⟨us, []⟩ = pure (ps.zip us))
    (hb : ∀ (cdv : Value) (A : Around) (outer : List Env) (s : Shared) (H S : Hp) (E : XK), Cz (bodyX P w K mg base N qual scope f cdv A outer s H E) ((⟨G, S, H, fun _ _ _ => False⟩ : Pr).wW fun cls d _ H => E cls d H) k (fun cls d _ H => E cls d H) →
      DSs (bodyX P w K mg base N qual scope f cdv A outer s H E) ((⟨G, S, H, fun _ _ _ => False⟩ : Pr).wW fun cls d _ H => E cls d H) rm body sx) :
    Callee P w K mg base G (k + 1) x rm (mkFn ps.length N.length sx) := by
  have hpl : ps.length ≤ N.length := by have := congrArg List.length Sc.pre; rw [List.length_take] at this; omega
  refine ⟨f, fd, ps, hm, F.kp, ?_, F.ok Sc (fun vs H Q E h => ?_) fun cdv A outer s H vs Q E hr h => ?_⟩
  · exact F.bindsN hbi
  · obtain ⟨S, ds, ss, r, q⟩ := h
    refine len_of r (N := N.length) (s := sx) ?_
    cases hq : mkFn ps.length N.length sx ds with
    | stuck => rw [hq] at q; exact q
    | ok d => exact trivial
    | exc c => exact trivial
  · obtain ⟨S, ds, ss, r, q⟩ := h
    have hl : ds.length = ps.length := by
      refine mkFn_len (N := N.length) (s := sx) fun z => ?_
      rw [z] at q
      exact q
    unfold mkFn at q
    rw [if_pos hl, ← hl] at q
    refine ⟨_, hb cdv A outer s H S E ⟨⟨hK, rfl, Sc.nd, hr, takes_of rfl rfl rfl rfl, fun _ _ _ h => h⟩, passes_of rfl, rfl, rfl⟩, S, _, rdy_start ss r (by omega), fin_of (vs := vs) (ds := ds) (n := 0) (N := 0) (sx := sx) rfl ?_⟩
    rw [← hl] at hpl
    exact q
end
end Ev

set_option Elab.async false
set_option linter.all false
set_option maxRecDepth 100000
set_option maxHeartbeats 1000000
/-! Ev, part N: methods of lists and dicts, new dicts, sorted, the script. -/
namespace Ev
open PySem PySem.Spec PyProof.Rows L2 PySem.W
section
variable {X : Cx} {P : Pr} {rm m : Md} {e a b : Expr} {es : List Expr} {f f' f'' : Ex} {g : Exs} {x : Str} {p pos pos' apos cpos : Pos} {j k : Nat} {W : WX} {S H S1 H1 : Hp} {σ : L2.St} {ρ : List Slot}
/-! ### lists' methods, as statements -/
def sApp (i : Nat) (f : Ex) : Sx := fun ρ => match ρ[i]? with
  | some (.ol ds) => onD (f ρ) ρ fun d => if ds.length < line then .nx (ρ.set i (.ol (ds ++ [d]))) else .stuck
  | _ => .stuck
theorem own_list {i : Nat} {ds : List D} (R : Rdy P.G P.S0 P.H0 S H σ ρ) (h : ρ[i]? = some (.ol ds)) : ∃ a vs, σ[i]? = some (some (.ref a)) ∧ H a = some (.lst vs) ∧ RepL P.G S ds vs ∧ vs.length ≤ sizeLine := by
  obtain ⟨a, e, n, n0, vs, r, z, q⟩ := R.stt.ow i _ h rfl
  exact ⟨a, vs, e, q, r, z⟩
theorem own_upd {i : Nat} {ds ds' : List D} {a : Addr} {vs' : List V} (R : Rdy P.G P.S0 P.H0 S H σ ρ) (h : ρ[i]? = some (.ol ds)) (e : σ[i]? = some (some (.ref a))) (r : RepL P.G S ds' vs') (z : vs'.length ≤ sizeLine) : Rdy P.G P.S0 P.H0 S (upd H a (.lst vs')) σ (ρ.set i (.ol ds')) :=
  R.upd h rfl e rfl ⟨vs', r, z, upd_same⟩
theorem ds_app (i : Nat) (he : DE X P .sh e f) (hN : X.N[i]? = some x := by rfl) (hv : Vis X.env.scope x := by first | exact Or.inl rfl | exact Or.inr (Or.inl rfl) | exact Or.inr (Or.inr rfl)) (hd : (x == ("__debug__" : Str)) = false := by decide) (hcd : (x == ("__classdict__" : Str)) = false := by decide)
    (hbase : attributeBase (.Name x p) "append" X.env (eval (.Name x p) X.env) = eval (.Name x p) X.env := by rfl)
    (hfew : ((backTo cpos (starEach [e] X.env)).all (fun x => !x.1) && (backToKw cpos (keywordEach [] X.env)).all (fun x => x.1.isSome) && decide (([e] : List Expr).length + ([] : List Keyword).length + (if ([] : List Keyword).isEmpty then 0 else 1) < 30)) = true := by rfl)
    (hline : (apos.endLine == cpos.line) = true := by rfl) (hst : starEach (e :: []) X.env = (false, eval e X.env) :: starEach [] X.env := by rfl) (hs : swapsWith (.Call (.Attribute (.Name x p) "append" apos) [e] [] cpos) none pos.line X.env = pure false := by rfl) :
    DS X P rm (.Expr (.Call (.Attribute (.Name x p) "append" apos) [e] [] cpos) pos) (sApp i f) :=
  (ps_expr (pe_bm PySem.F.plainAttrs_list PySem.F.slot_list_append PySem.F.type_list_append mt_append (pv i hN hv hd hcd) (pa_cons he pa_nil hst) hbase hfew hline hst rfl) hs).imp fun D σ H ⟨S, ρ, R, q⟩ => by
    unfold sApp at q
    split at q
    · rename_i ds h
      obtain ⟨a, vs, e1, e2, r, z⟩ := own_list R h
      refine ⟨_, e1, .inl ⟨rfl, vs, .inl (.inl e2)⟩, S, ρ, R, onD_fin (m := .sh) R q fun d v S1 H1 _ ex R1 p q1 => ?_⟩
      have p : Rep P.G S1 d v := p
      split at q1
      · rename_i hz
        have hl := r.length
        have e3 := ex.hh a _ e2
        refine ⟨a, vs, v, rfl, rfl, e3, by rw [line_eq]; omega, FinS.nx q1 (own_upd R1 h e1 ((r.same ex.ss).append (.cons p .nil)) ?_) (.refl _)⟩
        rw [List.length_append, List.length_singleton, line_eq]; omega
      · exact q1.elim
    · exact q.elim
/-- list.extend by any list that can be read -/
def rExtR : V → List V → Hp → VK → Prop := fun x vs H Q => ∃ l b xs zs, x = .ref l ∧ vs = [.ref b] ∧ H l = some (.lst xs) ∧ Rd H b (.lst zs) ∧ xs.length + zs.length ≤ sizeLine ∧ Q .non (upd H l (.lst (xs ++ zs)))
theorem mt_extR : MtR X "list.extend" rExtR := by
  intro pins s σ H x vs v us Q I rx rv h
  obtain ⟨l, b, xs, zs, rfl, rfl, hH, hB, hz, q⟩ := h
  cases rx
  obtain ⟨u, rfl, ru⟩ := rv.one
  cases ru
  obtain ⟨z, its, n, r, hl, e⟩ := I.lstM hH
  obtain ⟨z2, its2, n2, r2, e2⟩ := lst_ok I hB
  have hl2 := r2.length
  have hsz : its.toArray.size + its2.toArray.size ≤ sizeLine := by
    simp only [List.size_toArray]
    omega
  have hlong : ¬ (!its.toArray.isEmpty && Builtin.List.listTooLong (its.toArray.size + its2.toArray.size)) = true := by
    rw [notLongL hsz, Bool.and_false]
    exact Bool.false_ne_true
  refine call_meets PySem.F.slot_list_extend ⟨_, e, rfl⟩ PySem.F.entry_list_extend (PySem.F.args_list_extend_2 _ _)
    (AutoSeq1.list_extend_list_list_0 l its.toArray n b its2.toArray n2 hlong (by rw [List.size_toArray]; omega) (by omega)) ⟨e, e2, ?_⟩
  refine ⟨.non, _, I.lset (its' := its ++ its2) hH e (by simp) (r.append r2) ?_, rfl, q⟩
  rw [List.length_append]
  omega
def sExt (i : Nat) (f : Ex) : Sx := fun ρ => match ρ[i]? with
  | some (.ol ds) => onD (f ρ) ρ fun d => match d with
    | .list es => if ds.length + es.length ≤ line then .nx (ρ.set i (.ol (ds ++ es))) else .stuck
    | _ => .stuck
  | _ => .stuck
theorem ds_ext (i : Nat) (he : DE X P .sh e f) (hN : X.N[i]? = some x := by rfl) (hv : Vis X.env.scope x := by first | exact Or.inl rfl | exact Or.inr (Or.inl rfl) | exact Or.inr (Or.inr rfl)) (hd : (x == ("__debug__" : Str)) = false := by decide) (hcd : (x == ("__classdict__" : Str)) = false := by decide)
    (hbase : attributeBase (.Name x p) "extend" X.env (eval (.Name x p) X.env) = eval (.Name x p) X.env := by rfl)
    (hfew : ((backTo cpos (starEach [e] X.env)).all (fun x => !x.1) && (backToKw cpos (keywordEach [] X.env)).all (fun x => x.1.isSome) && decide (([e] : List Expr).length + ([] : List Keyword).length + (if ([] : List Keyword).isEmpty then 0 else 1) < 30)) = true := by rfl)
    (hline : (apos.endLine == cpos.line) = true := by rfl) (hst : starEach (e :: []) X.env = (false, eval e X.env) :: starEach [] X.env := by rfl) (hs : swapsWith (.Call (.Attribute (.Name x p) "extend" apos) [e] [] cpos) none pos.line X.env = pure false := by rfl) :
    DS X P rm (.Expr (.Call (.Attribute (.Name x p) "extend" apos) [e] [] cpos) pos) (sExt i f) :=
  (ps_expr (pe_bm PySem.F.plainAttrs_list PySem.F.slot_list_extend PySem.F.type_list_extend mt_extR (pv i hN hv hd hcd) (pa_cons he pa_nil hst) hbase hfew hline hst rfl) hs).imp fun D σ H ⟨S, ρ, R, q⟩ => by
    unfold sExt at q
    split at q
    · rename_i ds h
      obtain ⟨a, vs, e1, e2, r, z⟩ := own_list R h
      refine ⟨_, e1, .inl ⟨rfl, vs, .inl (.inl e2)⟩, S, ρ, R, onD_fin (m := .sh) R q fun d v S1 H1 _ ex R1 p q1 => ?_⟩
      have p : Rep P.G S1 d v := p
      split at q1
      · rename_i es
        split at q1
        · rename_i hz
          have hl := r.length
          have e3 := ex.hh a _ e2
          obtain ⟨b, ws, rfl, rb, zb, r2⟩ := Pb.list R1.sub (.of p)
          have hl2 := r2.length
          refine ⟨a, b, vs, ws, rfl, rfl, e3, rb, by rw [line_eq]; omega, FinS.nx q1 (own_upd R1 h e1 ((r.same ex.ss).append r2) ?_) (.refl _)⟩
          rw [List.length_append, line_eq]; omega
        · exact q1.elim
      · exact q1.elim
    · exact q.elim
/-- x.pop(), the item left -/
def sPop (i : Nat) : Sx := fun ρ => match ρ[i]? with
  | some (.ol ds) => if ds = [] then .stuck else .nx (ρ.set i (.ol ds.dropLast))
  | _ => .stuck
/-! ### dicts -/
def sDp (kt : List D) (i : Nat) (fk fv : Ex) : Sx := fun ρ => match ρ[i]? with
  | some (.od t kvs) => onD (fv ρ) ρ fun d => onD (fk ρ) ρ fun key => if keyFit kt t key && decide (kvs.length < line) then .nx (ρ.set i (.od t (dPut kvs key d))) else .stuck
  | _ => .stuck
theorem dput_own {t : Bool} {kvs : List (D × D)} {a : Addr} {key d : D} {y v : V} (w : DicAt P.G S H t kvs a) (rk : Rep P.G S key y) (rd : Rep P.G S d v) (ss : Same S H) (hk : keyFit P.G.kt t key = true) (hz : kvs.length < line) :
    ∃ o, DPut H a y v (upd H a o) ∧ DicAt P.G S (upd H a o) t (dPut kvs key d) a := by
  obtain ⟨vs, r, z, q⟩ := w
  have hlen : ∀ key d, (dPut kvs key d).length ≤ kvs.length + 1 := fun key d => by
    unfold dPut
    split
    · simp
    · simp
  cases t with
  | false =>
    obtain ⟨k', rfl⟩ := keyFit_f hk
    obtain ⟨ps, en, _, hH⟩ := q.k r
    have ey := rep_keyD rk
    subst ey
    have en2 := en.put eqv_keyD (k := k') rd
    have hl := en.length
    refine ⟨_, .k hH (by rw [line_eq]; omega), (putK ps k' v).map Prod.snd, en2.2, ?_, putK ps k' v, en2.1, rfl, upd_same⟩
    rw [List.length_map, line_eq, ← en2.length]
    have := hlen (keyD k') d
    omega
  | true =>
    obtain ⟨k', rfl, nk⟩ := keyFit_t hk
    obtain ⟨ps, en, _, hH⟩ := q.t r
    obtain ⟨b, ey, hb⟩ := rep_keyT rk nk
    subst ey
    have en2 := en.put eqv_keyT (k := k') rd
    have hl := en.length
    refine ⟨_, .t hH (ss _ _ hb) (by rw [line_eq]; omega), (putK ps k' v).map Prod.snd, en2.2, ?_, putK ps k' v, en2.1, rfl, upd_same⟩
    rw [List.length_map, line_eq, ← en2.length]
    have := hlen (keyT k') d
    omega
theorem ds_dput {ek ev : Expr} {fk fv : Ex} (i : Nat) (c : Cy X P k W) (hk : DE X P .sh ek fk) (hv' : DE X P .sh ev fv) (hN : X.N[i]? = some x := by rfl) (hv : Vis X.env.scope x := by first | exact Or.inl rfl | exact Or.inr (Or.inl rfl) | exact Or.inr (Or.inr rfl)) (hd : (x == ("__debug__" : Str)) = false := by decide) (hcd : (x == ("__classdict__" : Str)) = false := by decide)
    (hs : swapsWith ev (some (.Subscript (.Name x p) ek pos')) pos.line X.env = pure false := by rfl) : DS X P rm (.Assign [.Subscript (.Name x p) ek pos'] ev pos) (sDp P.G.kt i fk fv) :=
  (ps_dput c.u1 (pv i hN hv hd hcd) hk hv' hs).imp fun D σ H ⟨S, ρ, R, q⟩ => by
    unfold sDp at q
    split at q
    · rename_i t kvs h
      refine ⟨S, ρ, R, onD_fin (m := .sh) R q fun d v S1 H1 _ ex R1 p q1 => ?_⟩
      have p : Rep P.G S1 d v := p
      obtain ⟨a, e1, n, n0, w⟩ := R1.stt.ow i _ h rfl
      refine ⟨_, e1, S1, ρ, R1, onD_fin (m := .sh) R1 q1 fun key y S2 H2 _ ex2 R2 p2 q2 => ?_⟩
      have p2 : Rep P.G S2 key y := p2
      split at q2
      · rename_i hz
        simp only [Bool.and_eq_true, decide_eq_true_eq] at hz
        obtain ⟨a', e1', _, _, w2⟩ := R2.stt.ow i _ h rfl
        rw [e1] at e1'; cases e1'
        obtain ⟨o, d1, d2⟩ := dput_own w2 p2 (p.same ex2.ss) R2.sub hz.1 hz.2
        exact ⟨a, _, rfl, d1, FinS.nx q2 (R2.upd h rfl e1 rfl d2) (.refl _)⟩
      · exact q2.elim
    · exact q.elim
/-- a new dict -/
def eNewD (t : Bool) : Ex := fun _ => .ok (dB t [])
theorem de_newD (t : Bool) : DE X P .fr (.Dict [] [] pos) (eNewD t) := by
  cases t with
  | false => 
    refine pe_dnewK.imp fun σ H Q ⟨S, ρ, R, q⟩ p hp => ?_
    exact q _ S _ (Ext.own R.sub hp) (Pm.fr_of ⟨p, rfl, hp, free_of R.sub hp, .inr ⟨false, [], rfl, [], by simp only [RepP], Nat.zero_le _, [], rfl, rfl, upd_same⟩⟩)
  | true =>
    refine pe_dnewT.imp fun σ H Q ⟨S, ρ, R, q⟩ p hp => ?_
    exact q _ S _ (Ext.own R.sub hp) (Pm.fr_of ⟨p, rfl, hp, free_of R.sub hp, .inr ⟨true, [], rfl, [], by simp only [RepP], Nat.zero_le _, [], rfl, rfl, upd_same⟩⟩)
/-- d.get(k, x) -/
def eDg2 (kt : List D) (f fk fx : Ex) : Ex := fun ρ => f ρ >>= fun d => match d with
  | .dict ((.bool t, .none) :: kvs) => fk ρ >>= fun key => fx ρ >>= fun x => if keyFit kt t key then .ok ((dGet kvs key).getD x) else .stuck
  | _ => .stuck
theorem de_dg2 (c : Cy X P k W) (ho : DE X P .bo a f) (hk : DE X P .sh b f') (hx : DE X P .sh e f'') (m : M2 X a "get" apos b e cpos := by exact ⟨rfl, rfl, rfl, rfl⟩) : DE X P .sh (.Call (.Attribute a "get" apos) [b, e] [] cpos) (eDg2 P.G.kt f f' f'') :=
  (pe_dget2 c.u1 ho hk hx m).imp fun σ H Q ⟨S, ρ, R, q⟩ => ⟨S, ρ, R, by
    unfold eDg2 at q
    refine q.bind fun d v S1 H1 e1 ex p q1 => ?_
    split at q1
    · rename_i t kvs
      have p : Pb P.G S1 H1 (dB t kvs) v := p
      obtain ⟨A, vs, rfl, r, z, kq⟩ := p.dict (R.to ex).sub
      have isd : IsD H1 A := by
        cases t with
        | false => obtain ⟨ps, _, _, h⟩ := kq; exact .inl ⟨ps, h⟩
        | true => obtain ⟨ps, _, _, h⟩ := kq; exact .inr ⟨ps, h⟩
      refine ⟨A, rfl, isd, S1, ρ, R.to ex, q1.bind fun key y S2 H2 _ ex2 p2 q2 => ⟨S2, ρ, R.to (ex.trans ex2), q2.bind fun x z' S3 H3 _ ex3 p3 q3 => ?_⟩⟩
      have p2 : Rep P.G S2 key y := p2
      have p3 : Rep P.G S3 x z' := p3
      split at q3
      · rename_i hf
        have R3 := R.to (ex.trans (ex2.trans ex3))
        obtain ⟨A', eA, _, hg⟩ := dget_ok R3.sub ((Pm.ext (m := .bo) (by exact fun z => nomatch z) p (ex2.trans ex3)).h0 (by exact fun z => nomatch z)) (p2.same ex3.ss) hf
        cases eA
        rcases hg with ⟨g1, g2⟩ | ⟨d', z2, g1, g2, g3⟩
        · refine ⟨none, g2, ?_⟩
          rw [g1] at q3
          exact R3.wt q3 p3
        · refine ⟨some z2, g2, ?_⟩
          rw [g1] at q3
          exact R3.wt q3 g3
      · exact q3.elim
    · exact q1.elim⟩
/-! ### the script -/
def eSlB (i : Nat) (l u : Ox) : Ex := fun ρ => match ρ[i]? with
  | some (.bs ds) => (match l ρ with
    | .ok lo => (match u ρ with
      | .ok hi => .ok (.list (cutD ds lo hi))
      | .exc c => .exc c
      | .stuck => .stuck)
    | .exc c => .exc c
    | .stuck => .stuck)
  | _ => .stuck
theorem de_slB {lo hi : Option Expr} {l u : Ox} {p2} (i : Nat) (c : Cy X P k W) (hl : DO X P lo l) (hu : DO X P hi u) (hN : X.N[i]? = some x := by rfl) (hv : Vis X.env.scope x := by first | exact Or.inl rfl | exact Or.inr (Or.inl rfl) | exact Or.inr (Or.inr rfl)) (hd : (x == ("__debug__" : Str)) = false := by decide) (hcd : (x == ("__classdict__" : Str)) = false := by decide) :
    DE X P .fr (.Subscript (.Name x p) (.Slice lo hi none p2) pos) (eSlB i l u) :=
  (pe_slice sl_list (pv i hN hv hd hcd) hl hu).imp fun σ H Q ⟨S, ρ, R, q⟩ => by
    unfold eSlB at q
    split at q
    · rename_i ds h
      obtain ⟨a, vs, e1, sq, z, r⟩ := R.stt.bs i ds h
      refine ⟨_, e1, S, ρ, R, ?_⟩
      cases hl : l ρ with
      | stuck => rw [hl] at q; exact q.elim
      | exc c => rw [hl] at q; exact q
      | ok lo =>
        rw [hl] at q
        dsimp only at q
        intro S2 H2 e2
        refine ⟨S2, ρ, R.to e2, ?_⟩
        cases hu : u ρ with
        | stuck => rw [hu] at q; exact q.elim
        | exc c => rw [hu] at q; exact fun S' H' e' => q S' H' (e2.trans e')
        | ok hi =>
          rw [hu] at q
          dsimp only at q
          intro S3 H3 e3
          have R3 := R.to (e2.trans e3)
          refine ⟨a, vs, rfl, by rw [c.K]; exact (Le.of R3.sub).sqL ((Le.of (e2.trans e3).ss).sqL sq), ?_⟩
          have w : Wt P.G .fr S3 H3 (.list (cutD ds lo hi)) Q := Wt.later q (e2.trans e3)
          exact w.list R3.sub (cut_rep (r.same (e2.trans e3).ss) lo hi) (Nat.le_trans (cutV_length vs lo hi) z)
    · exact q.elim
end
/-- a def whose first argument is the script -/
def spB (G : Gx) (m : Md) (F : Fn) : Sp := fun vs H Q E => ∃ S ds0 ds a us vs', vs = .ref a :: vs' ∧ Same S H ∧ SqL G.K S a us ∧ us.length ≤ sizeLine ∧ RepL G S ds0 us ∧ RepL G S ds vs' ∧ match F (.list ds0 :: ds) with
  | .ok d => ∀ v S' H', Ext S H S' H' → Pm m G H S' H' d v → Q v H'
  | .exc c => ∀ S' H', Ext S H S' H' → ∃ C, G.ca c = some C ∧ E (.ref C) none H'
  | .stuck => False
def mkFnB (n N : Nat) (s : Sx) : Fn := fun ds => match ds with
  | .list ds0 :: r => if r.length + 1 = n then finO (s (.bs ds0 :: (r.map .sh ++ List.replicate (N - n) .no))) else .stuck
  | _ => .stuck
structure CalleeB (P : Program) (w : World) (K : PySem.W.Frag) (mg : Str → Option Value) (base : Heap) (G : Gx) (k : Nat) (x : Str) (m : Md) (F : Fn) : Prop where
  ex : ∃ f fd ps, mg x = some (.ref f) ∧ keepIn K (.ref f) = true ∧ Binds K fd ps [] ∧ FnOk P w K mg base (L2.CX P w) k f fd ps (spB G m F)
def eCallB (F : Fn) (i : Nat) (g : Exs) : Ex := fun ρ => match ρ[i]? with
  | some (.bs ds0) => g ρ >>= fun ds => F (.list ds0 :: ds)
  | _ => .stuck
section
variable {X : Cx} {P : Pr} {rm m : Md} {e a b : Expr} {es : List Expr} {f f' f'' : Ex} {g : Exs} {x y : Str} {p p1 pos pos' apos cpos : Pos} {i j k : Nat} {W : WX} {S H S1 H1 : Hp} {σ : L2.St} {ρ : List Slot} {F : Fn}
theorem de_callB (i : Nat) (cl : CalleeB X.prog X.w X.K X.mg X.base P.G j x m F) (c : Cy X P k W) (ha : DA X P .sh es g) (hN : X.N[i]? = some y := by rfl) (hv : Vis X.env.scope y := by first | exact Or.inl rfl | exact Or.inr (Or.inl rfl) | exact Or.inr (Or.inr rfl)) (hd : (y == ("__debug__" : Str)) = false := by decide) (hcd : (y == ("__classdict__" : Str)) = false := by decide)
    (hj : j ≤ k := by decide) (hg : Gl X x := by rfl) (hdb : (x == ("__debug__" : Str)) = false := by decide) (he : starEach (.Name y p1 :: es) X.env = (false, eval (.Name y p1) X.env) :: starEach es X.env := by rfl) (hpl : (backTo pos (starEach es X.env)).any (·.1) = false := by rfl) :
    DE X P m (.Call (.Name x p) (.Name y p1 :: es) [] pos) (eCallB F i g) := by
  obtain ⟨f, fd, ps, h1, h2, h3, h4⟩ := cl.ex
  refine (pe_callS h4 (c.room.mono hj) hg h1 h2 h3 (fun σ => passAt c.tk σ) (pa_cons (pv i hN hv hd hcd) ha he) hdb he hpl).imp fun σ H Q ⟨S, ρ, R, q⟩ => ?_
  unfold eCallB at q
  split at q
  · rename_i ds0 h
    obtain ⟨A, vs, e1, sq, z, r⟩ := R.stt.bs i ds0 h
    refine ⟨_, e1, S, ρ, R, ?_⟩
    refine Fin.bindA (P := P) (m := m) (m1 := .sh) (S := S) (Q := Q) (F := fun ds => F (.list ds0 :: ds)) q fun ds vs1 S1 H1 e1 ex pa q1 => ⟨S1, ds0, ds, A, vs, vs1, rfl, (R.to ex).sub, (Le.of ex.ss).sqL sq, z, r.same ex.ss, pa.s, ?_⟩
    cases hF : F (.list ds0 :: ds) with
    | ok d => rw [hF] at q1; exact q1
    | exc c' => rw [hF] at q1; exact fun S' H' e' => c.hW _ _ _ (q1 S' H' e')
    | stuck => rw [hF] at q1; exact q1
  · exact q.elim
theorem rdy_startB {G : Gx} {N : List Str} {vs us : List V} {ds ds0 : List D} {A : Addr} (ss : Same S H) (sq : SqL G.K S A us) (z : us.length ≤ sizeLine) (r0 : RepL G S ds0 us) (r : RepL G S ds vs) (hn : ds.length + 1 ≤ N.length) : Rdy G S H S H (L2.start N (.ref A :: vs)) (.bs ds0 :: (ds.map .sh ++ List.replicate (N.length - (ds.length + 1)) .no)) := by
  have hl := r.length
  have own : ∀ (i : Nat) (u : Slot), (ds.map Slot.sh ++ List.replicate (N.length - (ds.length + 1)) Slot.no)[i]? = some u → (∃ d, ds[i]? = some d ∧ u = .sh d) ∨ u = .no := fun i u h => by
    rcases Nat.lt_or_ge i ds.length with hlt | hge
    · rw [List.getElem?_append_left (by simpa using hlt), List.getElem?_map] at h
      obtain ⟨d, h1, h2⟩ := Option.map_eq_some_iff.mp h
      exact .inl ⟨d, h1, h2.symm⟩
    · rw [List.getElem?_append_right (by simpa using hge)] at h
      exact .inr ((List.mem_replicate.mp (List.mem_of_getElem? h)).2)
  have own' : ∀ (i : Nat) (u : Slot), (Slot.bs ds0 :: (ds.map Slot.sh ++ List.replicate (N.length - (ds.length + 1)) Slot.no))[i]? = some u → (i = 0 ∧ u = .bs ds0) ∨ (∃ d j, i = j + 1 ∧ ds[j]? = some d ∧ u = .sh d) ∨ u = .no := fun i u h => by
    cases i with
    | zero => exact .inl ⟨rfl, by simpa using h.symm⟩
    | succ i =>
      rw [List.getElem?_cons_succ] at h
      rcases own i u h with ⟨d, h1, h2⟩ | h2
      · exact .inr (.inl ⟨d, i, rfl, h1, h2⟩)
      · exact .inr (.inr h2)
  refine ⟨.refl ss, ss, by simp [L2.start, hl], fun i d h => ?_, fun i u h o => ?_, fun i j u u' a h o => ?_, fun i ds' h => ?_⟩
  · rcases own' i _ h with ⟨_, h2⟩ | ⟨d', j, rfl, h1, h2⟩ | h2
    · cases h2
    · cases h2
      obtain ⟨v, h3, h4⟩ := r.get h1
      exact ⟨v, start_get (by rw [List.getElem?_cons_succ]; exact h3), h4⟩
    · cases h2
  · rcases own' i _ h with ⟨_, h2⟩ | ⟨d', j, rfl, h1, h2⟩ | h2 <;> subst h2 <;> cases o
  · rcases own' i _ h with ⟨_, h2⟩ | ⟨d', j, rfl, h1, h2⟩ | h2 <;> subst h2 <;> cases o
  · rcases own' i _ h with ⟨rfl, h2⟩ | ⟨d', j, rfl, h1, h2⟩ | h2
    · cases h2
      exact ⟨A, us, start_get rfl, sq, z, r0⟩
    · cases h2
    · cases h2
theorem fn_calleeB {P : Program} {w : World} {K : PySem.W.Frag} {mg : Str → Option Value} {base : Heap} {G : Gx} {qual : Str} {args : Arguments} {body : List Stmt} {scope : Scope} {f : Addr} {fd : FuncData} {N ps : List Str} {sx : Sx}
    (hK : K = G.K) (F : FunD K x qual args body scope [] [] f fd) (hm : mg x = some (.ref f)) (Sc : FnScope N ps scope)
    (hbi : ∀ (kV doc pm : Value) (an : Option Addr) (cdv ct : Value) (us : List Value), us.length = ps.length → bindArgs (fnOf x qual args body scope .none kV doc pm an cdv ct) ⟨us, []⟩ = pure (ps.zip us))
    (hb : ∀ (cdv : Value) (A : Around) (outer : List Env) (s : Shared) (H S : Hp) (E : XK), Cz (bodyX P w K mg base N qual scope f cdv A outer s H E) ((⟨G, S, H, fun _ _ _ => False⟩ : Pr).wW fun cls d _ H => E cls d H) k (fun cls d _ H => E cls d H) →
      DSs (bodyX P w K mg base N qual scope f cdv A outer s H E) ((⟨G, S, H, fun _ _ _ => False⟩ : Pr).wW fun cls d _ H => E cls d H) rm body sx) :
    FnOk P w K mg base (L2.CX P w) (k + 1) f fd ps (spB G rm (mkFnB ps.length N.length sx)) := by
  have hpl : ps.length ≤ N.length := by have := congrArg List.length Sc.pre; rw [List.length_take] at this; omega
  have hlen : ∀ {ds0 ds : List D}, mkFnB ps.length N.length sx (.list ds0 :: ds) ≠ .stuck → ds.length + 1 = ps.length := fun {ds0 ds} h => by
    unfold mkFnB at h
    dsimp only at h
    split at h
    · assumption
    · exact absurd rfl h
  refine F.ok Sc (fun vs H Q E h => ?_) fun cdv A outer s H vs Q E hr h => ?_
  · obtain ⟨S, ds0, ds, a, us, vs', rfl, ss, sq, z, r0, r, q⟩ := h
    have := hlen (ds0 := ds0) (ds := ds) fun z => by rw [z] at q; exact q
    rw [List.length_cons, ← r.length]
    exact this
  · obtain ⟨S, ds0, ds, a, us, vs', rfl, ss, sq, z, r0, r, q⟩ := h
    have hl := hlen (ds0 := ds0) (ds := ds) fun z => by rw [z] at q; exact q
    unfold mkFnB at q
    dsimp only at q
    rw [if_pos hl, ← hl] at q
    refine ⟨_, hb cdv A outer s H S E ⟨⟨hK, rfl, Sc.nd, hr, takes_of rfl rfl rfl rfl, fun _ _ _ h => h⟩, passes_of rfl, rfl, rfl⟩, S, _, rdy_startB ss sq z r0 r (by omega), fin_of (vs := vs') (ds := ds) (n := 0) (N := 0) (sx := sx) rfl ?_⟩
    exact q
end
end Ev

set_option Elab.async false
set_option linter.all false
set_option maxRecDepth 100000
set_option maxHeartbeats 1000000
/-! Ev, part O: sorted, str of an int, sums of tuples. -/
namespace Ev
open PySem PySem.Spec PyProof.Rows L2 PySem.W
theorem merge_back {S : Hp} {G : Gx} : ∀ {us : List Value} {ds : List D}, EachIs (fun u d => ∃ v, RelV v u ∧ Rep G S d v) us ds → ∃ vs, Vals vs us ∧ RepL G S ds vs := each_back
theorem sortable_ok {ds : List D} (h : sortable ds = true) : Sortable ds := by
  unfold sortable at h
  rw [Bool.or_eq_true] at h
  rcases h with h | h
  · rw [List.all_eq_true] at h
    refine .inl fun d hd => ?_
    have := h d hd
    split at this
    · rename_i x r; exact ⟨x, r, rfl⟩
    · cases this
  · rw [List.all_eq_true] at h
    refine .inr fun d hd => ?_
    have := h d hd
    split at this
    · cases this
    · cases this
    · rename_i h1 h2
      exact ⟨h1, fun xs e => h2 xs e⟩
theorem leD_eq : dataLe false (id : D → D) = leD := by
  rw [dataLe_eq]; rfl
def leS (x y : Str) : Bool := decide (x.cps.toList ≤ y.cps.toList)
theorem leS_trans (a b c : Str) (h1 : leS a b = true) (h2 : leS b c = true) : leS a c = true := by
  unfold leS at *
  rw [decide_eq_true_eq] at *
  exact List.le_trans h1 h2
theorem leS_total (a b : Str) : (leS a b || leS b a) = true := by
  unfold leS
  rw [Bool.or_eq_true, decide_eq_true_eq, decide_eq_true_eq]
  exact List.le_total _ _
theorem leS_anti (a b : Str) (h1 : leS a b = true) (h2 : leS b a = true) : a = b := by
  unfold leS at *
  rw [decide_eq_true_eq] at *
  have := List.le_antisymm h1 h2
  obtain ⟨⟨x⟩⟩ := a
  obtain ⟨⟨y⟩⟩ := b
  simp at this
  rw [this]
theorem risingS_pw : ∀ (ys : List Str) (x : Str), risingS x ys = true → (x :: ys).Pairwise (fun a b => leS a b = true)
  | [], x, _ => by simp
  | y :: ys, x, h => by
    unfold risingS at h
    rw [Bool.and_eq_true] at h
    have h2 := risingS_pw ys y h.2
    have h1 : leS x y = true := by
      have := h.1
      rw [PyProof.Rows.ltCps_eq] at this
      unfold leS
      simp only [Bool.not_eq_true', decide_eq_false_iff_not] at this
      rw [decide_eq_true_eq]
      exact this
    rw [List.pairwise_cons] at h2 ⊢
    refine ⟨fun z hz => ?_, List.pairwise_cons.mpr h2⟩
    rcases List.mem_cons.mp hz with rfl | hz
    · exact h1
    · exact leS_trans _ _ _ h1 (h2.1 z hz)
theorem sortedS_merge {ys ks : List Str} (hp : ys.Perm ks) (hs : sortedS ys = true) : ys = ks.mergeSort leS := by
  refine List.Perm.eq_of_pairwise (le := fun a b => leS a b = true) (fun a b _ _ => leS_anti a b) ?_ (List.pairwise_mergeSort leS_trans leS_total ks) (hp.trans (List.mergeSort_perm ks leS).symm)
  cases ys with
  | nil => exact .nil
  | cons y ys => exact risingS_pw ys y hs
/-- a dict's keys, all texts -/
def strKeys : List (D × D) → Option (List Str)
  | [] => some []
  | (.str x, _) :: r => if decide (x.length ≤ line) && PyData.strOk x then (strKeys r).map (x :: ·) else none
  | _ :: _ => none
theorem strKeys_ok : ∀ {kvs : List (D × D)} {ks : List Str}, strKeys kvs = some ks → kvs.map Prod.fst = ks.map .str
  | [], ks, h => by cases h; rfl
  | (k, d) :: r, ks, h => by
    unfold strKeys at h
    split at h
    · rename_i e; cases e
    · rename_i x d' r' e
      simp only [List.cons.injEq, Prod.mk.injEq] at e
      obtain ⟨⟨rfl, rfl⟩, rfl⟩ := e
      split at h
      · obtain ⟨t, h1, rfl⟩ := Option.map_eq_some_iff.mp h
        rw [List.map_cons, List.map_cons, strKeys_ok h1]
      · cases h
    · cases h
theorem strKeys_str : ∀ {kvs : List (D × D)} {ks : List Str} {y : Str}, strKeys kvs = some ks → y ∈ ks → y.length ≤ sizeLine ∧ PyData.strOk y = true
  | [], ks, y, h, hy => by cases h; cases hy
  | (k, d) :: r, ks, y, h, hy => by
    unfold strKeys at h
    split at h
    · rename_i e; cases e
    · rename_i x d' r' e
      simp only [List.cons.injEq, Prod.mk.injEq] at e
      obtain ⟨⟨rfl, rfl⟩, rfl⟩ := e
      split at h
      · rename_i hx
        obtain ⟨t, h1, rfl⟩ := Option.map_eq_some_iff.mp h
        rcases List.mem_cons.mp hy with rfl | hy
        · simp only [Bool.and_eq_true, decide_eq_true_eq] at hx
          exact ⟨by rw [line_eq]; exact hx.1, hx.2⟩
        · exact strKeys_str h1 hy
      · cases h
    · cases h
def bSorted2 : List D → Option D
  | [.list xs] => dSorted xs
  | [.dict ((.bool false, .none) :: kvs)] => (strKeys kvs).bind fun ks => if ks.length < 64 then some (.list ((ks.mergeSort leS).map .str)) else none
  | _ => none
section
variable {X : Cx} {G : Gx}
theorem cb_sorted_list (hK : X.K = G.K) (hu : X.A.units + 80 < cLine) {pins : List (Addr × Obj)} {s : Shared} {σ : L2.St} {H S : Hp} {us : List Value} {v : V} {Q : VK} (I : Inv X pins σ H s) (rs : Vals [v] us) (ss : Same S H) {ds : List D} {d : D} (p : Pb G S H (.list ds) v) (e : dSorted ds = some d) (w : Wt G .fr S H d Q) :
    wpAny (model X.prog X.w) X.A (call (.builtin "sorted") us) (EP X pins σ Q) X.xe s := by
  unfold dSorted at e
  split at e
  · rename_i ha
    cases e
    rw [Bool.and_eq_true] at ha
    obtain ⟨a, vs, rfl, q, z, r⟩ := p.list ss
    obtain ⟨a1, a2, a3⟩ := dAlike_ok ha.1
    obtain ⟨_, its, n, rv, e1⟩ := lst_ok I q
    obtain ⟨u, rfl, ru⟩ := vals1 rs
    cases ru
    obtain ⟨e0, er⟩ := each_of I ss hK r rv a1
    have hl := r.length
    have hl2 := rv.length
    refine sorted_data (enc := id) (show s.heap.IsList a its.toArray from ⟨_, e1, rfl, n, rfl⟩) e0 er (by rw [List.map_id]; exact a2) (by rw [List.map_id]; exact sortable_ok ha.2) (by omega) (fun d hd => ?_) fun out hlo hout => ?_
    · obtain ⟨i, hi⟩ := List.mem_iff_getElem?.mp hd
      obtain ⟨v1, _, q1⟩ := r.get hi
      have h3 := (dOk.lay 64 d v1 (a1 d hd) q1).2.2
      show X.A.units + 2 + d.depth < cLine
      omega
    · rw [leD_eq] at hout
      obtain ⟨ws, hw1, hw2⟩ := each_back hout
      obtain ⟨ep, he'⟩ := PyProof.Rows.sortedAll_at s.heap its out.toArray
      have hz : ws.length ≤ sizeLine := by rw [hw1.length, hlo]; omega
      exact ⟨.ref _, upd H (s.heap.objs.size + 1) (.lst ws), I.laid (t' := s.toks) (fun _ _ => PyProof.Rows.sortedAll_old) (Nat.le_succ _) ⟨hz, out, ep, hw1, he'⟩, rfl, w.list ss hw2 hz _ (I.hok.fresh (Nat.le_succ _))⟩
  · cases e
theorem cb_sorted (hK : X.K = G.K) (hc : X.calm = true) (hu : X.A.units + 80 < cLine) : CallR X (.builtin "sorted") (rCall G bSorted2) := by
  intro pins s σ H xs us Q I rs h
  obtain ⟨S, ds, d, ss, px, e, w⟩ := h
  unfold bSorted2 at e
  split at e
  · obtain ⟨v, rfl, p⟩ := px.one
    exact cb_sorted_list hK hu I rs ss p e w
  · rename_i kvs
    obtain ⟨v, rfl, p⟩ := px.one
    obtain ⟨ks, h1, h2⟩ := Option.bind_eq_some_iff.mp e
    split at h2
    · rename_i h64
      obtain ⟨a, vs, rfl, r, z, q⟩ := Pb.dict (t := false) (kvs := kvs) ss p
      obtain ⟨ps, en, _, rd⟩ := q.k r
      have hk := strKeys_ok h1
      have hks : ps.map (·.1) = ks.map Sum.inr := by
        have e1 := en.1
        rw [hk] at e1
        have : ∀ (ks : List Str) (ps : List (Key × V)), ks.map PyData.str = ps.map (fun p => keyD p.1) → ps.map (·.1) = ks.map Sum.inr := by
          intro ks
          induction ks with
          | nil => intro ps h; cases ps with
            | nil => rfl
            | cons _ _ => simp at h
          | cons k ks ih => intro ps h; cases ps with
            | nil => simp at h
            | cons p ps =>
              simp only [List.map_cons, List.cons.injEq] at h ⊢
              refine ⟨?_, ih ps h.2⟩
              cases hp : p.1 with
              | inl i =>
                have h1 := h.1
                rw [hp] at h1; simp [keyD] at h1
              | inr y =>
                have h1 := h.1
                rw [hp] at h1; simp [keyD] at h1; rw [h1]
        exact this ks ps e1
      refine call_sortedD hc pins s σ H _ us Q I rs ⟨a, ps, ks, rfl, rd, hks, h64, fun ys p hp hs hn => ?_⟩
      cases h2
      rw [sortedS_merge hp hs]
      refine w.list ss ?_ ?_ _ hn
      · have : ∀ l : List Str, (∀ y ∈ l, y ∈ ks) → RepL G S (l.map .str) (l.map V.str) := by
          intro l
          induction l with
          | nil => intro _; exact .nil
          | cons y l ih =>
            intro hl
            refine .cons ?_ (ih fun z hz => hl z (List.mem_cons_of_mem _ hz))
            simp only [Rep]
            exact ⟨trivial, strKeys_str h1 (hl y List.mem_cons_self)⟩
        exact this _ fun y hy => (List.mergeSort_perm ks leS).mem_iff.mp hy
      · rw [List.length_map, List.length_mergeSort, line_eq]
        have : (64 : Nat) ≤ line := by decide
        omega
    · cases h2
  · cases e
def bStr : List D → Option D
  | [.int i] => if decide (i.natAbs.log2 < 1920) && decide ((Str.ofString (toString i)).length ≤ line) && PyData.strOk (Str.ofString (toString i)) then some (.str (Str.ofString (toString i))) else none
  | [.str x] => some (.str x)
  | _ => none
theorem cb_str : CallR X (.type "str") (rCall G bStr) := by
  intro pins s σ H xs us Q I rs h
  obtain ⟨S, ds, d, ss, px, e, w⟩ := h
  unfold bStr at e
  split at e
  · split at e
    · rename_i hb
      simp only [Bool.and_eq_true, decide_eq_true_eq] at hb
      cases e
      obtain ⟨v, rfl, p⟩ := px.one
      exact call_str_int pins s σ H _ us Q I rs ⟨_, by rw [p.int], hb.1.1, w.str ss (by rw [line_eq]; exact hb.1.2) hb.2⟩
    · cases e
  · cases e
    obtain ⟨v, rfl, p⟩ := px.one
    obtain ⟨rfl, h1, h2⟩ := p.str
    exact SkE.call_str_str pins s σ H _ us Q I rs ⟨_, rfl, w.str ss h1 h2⟩
  · cases e
end
end Ev

set_option Elab.async false
set_option linter.all false
set_option maxRecDepth 100000
set_option maxHeartbeats 1000000
/-! Ev, part P: chains of comparisons, comprehensions into names, the facts of a law's head. -/
namespace Ev
open PySem PySem.Spec PyProof.Rows L2 PySem.W
/-- a < b < c -/
def eCh (F F' : D → D → Option D) (f g h : Ex) : Ex := fun ρ => f ρ >>= fun x => g ρ >>= fun y => match F x y with
  | some (.bool true) => h ρ >>= fun z => ofO (F' y z)
  | some (.bool false) => .ok (.bool false)
  | _ => .stuck
section
variable {X : Cx} {P : Pr} {rm m : Md} {a b d e elt tg iter tg1 iter1 : Expr} {ifs ifs1 : List Expr} {scope : Scope} {f g h : Ex} {it it1 : Exs} {is is1 : List Nat} {gt gt1 : Gt} {t t1 : Tx} {ex : Ex} {x y : Str} {pos pos' py spos : Pos} {k i : Nat} {W : WX} {S H S1 H1 : Hp} {σ : L2.St} {ρ : List Slot}
theorem chain_imp (o o' : Cm) {Q : VK} (q : tE P .fr (eCh (o.f P.G.kt) (o'.f P.G.kt) f g h) σ H Q) : tChain (rOpM P.G .bo o.m .fr (o.f P.G.kt)) (rOpM P.G o.m o'.m .fr (o'.f P.G.kt)) (tE P .bo f) (tE P o.m g) (tE P o'.m h) σ H Q := by
  obtain ⟨S, ρ, R, q⟩ := q
  refine ⟨S, ρ, R, ?_⟩
  unfold eCh at q
  refine q.bind fun dx x S1 H1 _ ex p q1 => ⟨S1, ρ, R.to ex, q1.bind fun dy y S2 H2 _ ex2 p2 q2 => ?_⟩
  have R2 := R.to (ex.trans ex2)
  have p' : Pm .bo P.G H2 S2 H2 dx x := (Pm.ext (m := .bo) (by exact fun z => nomatch z) p ex2).h0 (by exact fun z => nomatch z)
  have p2' : Pm o.m P.G H2 S2 H2 dy y := p2.h0 (cm_m o)
  split at q2
  · rename_i hF
    refine ⟨S2, dx, dy, _, R2.sub, p', p2', hF, fun v S3 H3 ex3 pv => ?_⟩
    have pv : Rep P.G S3 (.bool true) v := by
      unfold Pm at pv
      dsimp only at pv
      rw [if_neg (by decide)] at pv
      exact pv
    simp only [Rep] at pv
    refine ⟨true, pv, ?_⟩
    rw [if_pos rfl]
    have R3 := R2.to ex3
    refine ⟨S3, ρ, R3, Fin.bind (Fin.later q2 ex3) fun dz z S4 H4 _ ex4 p4 q4 => ?_⟩
    have R4 := R3.to ex4
    cases hG : o'.f P.G.kt dy dz with
    | none => rw [hG] at q4; exact q4.elim
    | some r =>
      rw [hG] at q4
      exact ⟨S4, dy, dz, r, R4.sub, (p2.ext (cm_m o) (ex3.trans ex4)).h0 (cm_m o), p4.h0 (cm_m o'), hG, q4⟩
  · rename_i hF
    refine ⟨S2, dx, dy, _, R2.sub, p', p2', hF, fun v S3 H3 ex3 pv => ?_⟩
    have pv : Rep P.G S3 (.bool false) v := by
      unfold Pm at pv
      dsimp only at pv
      rw [if_neg (by decide)] at pv
      exact pv
    have pv2 := pv
    simp only [Rep] at pv
    refine ⟨false, pv, ?_⟩
    rw [if_neg Bool.false_ne_true]
    exact q2 _ S3 H3 ex3 (.of_rep (by simp only [Rep]) (.inl rfl))
  · exact q2.elim
/-- the second operand stands on both sides: looked at only -/
theorem cm_ok2 {G : Gx} (hK : X.K = G.K) (hu : X.A.units + 65 < cLine) (o o' : Cm) (ho : o.m = .bo) : OpR X (compareOp o'.o) (rOpM G o.m o'.m .fr (o'.f G.kt)) := by
  rw [ho]
  exact cm_ok hK hu o'
theorem de_chain (o o' : Cm) (c : Cy X P k W) (ha : DE X P .bo a f) (hb : DE X P o.m b g) (hd : DE X P o'.m d h) (ho : o.m = .bo := by rfl) (hm : lastMarks [o.o, o'.o] [b, d] = false := by with_unfolding_all rfl) :
    DE X P .fr (.Compare a [o.o, o'.o] [b, d] pos) (eCh (o.f P.G.kt) (o'.f P.G.kt) f g h) :=
  (pe_chain (cm_ok c.K c.u65 o) (cm_ok2 c.K c.u65 o o' ho) ha hb hd hm).imp fun σ H Q q => chain_imp o o' q
theorem frB_bo {r : Res D} {Q : Bool → Hp → Prop} (q : Fin .bo P.G P.W S H σ r (fun x H' => ∃ k, x = .bl k ∧ Q k H')) : Fin .fr P.G P.W S H σ r (fun x H' => ∃ k, x = .bl k ∧ Q k H') := by
  cases r with
  | exc c => exact q
  | stuck => exact q
  | ok d =>
    intro v S' H' ex p
    cases hd : isMut d with
    | false => exact q v S' H' ex (by
        unfold Pm at p
        dsimp only at p
        rw [if_neg (by rw [hd]; exact Bool.false_ne_true)] at p
        exact .inl p)
    | true =>
      unfold Pm at p
      dsimp only at p
      rw [if_pos hd] at p
      obtain ⟨a, e, _, _, w⟩ := p
      exact q v S' H' ex (.inr ⟨a, e, w⟩)
theorem dt_chain (o o' : Cm) (c : Cy X P k W) (ha : DE X P .bo a f) (hb : DE X P o.m b g) (hd : DE X P o'.m d h) (ho : o.m = .bo := by rfl) (hm : lastMarks [o.o, o'.o] [b, d] = false := by with_unfolding_all rfl) :
    DT X P (.Compare a [o.o, o'.o] [b, d] pos) (tB (eCh (o.f P.G.kt) (o'.f P.G.kt) f g h)) :=
  (pt_chain (cm_ok c.K c.u65 o) (cm_ok2 c.K c.u65 o o' ho) ha hb hd hm).imp fun σ H Q q => by
    obtain ⟨S, ρ, R, q⟩ := tB_imp q
    exact chain_imp o o' ⟨S, ρ, R, frB_bo q⟩
/-! ### name = [..] -/
theorem asg_lc {vs : List Nat} {j : Nat} (hi : ∀ i ∈ is, i ∈ vs) {D : Ends} (q : tAsg (tE P .fr (eLc it vs gt t ex)) (gName j) D σ H) : tAsg (tLc (tI P true it) (tG P.noW is gt) (tT P.noW t) (tE P.noW .sh ex) vs) (gName j) D σ H := lc_imp hi q
theorem ds_lcO {own : List (Str × Nat)} (i : Nat) (hy : X.N[i]? = some y) (hyl : X.env.scope.names.lookup y = some .local) (c : Cy X P k W)
    (hsw : swapsWith (.ListComp elt [⟨tg, iter, ifs, 0⟩] scope pos) (some (.Name y py)) spos.line X.env = pure true) (hi : DI X P true tg iter it)
    (hg : ∀ s H C cl fp, Cy (X.blk s H scope (compEnvC scope cl C X.env) fp) P.noW k (fun _ _ _ _ => False) → DG (X.blk s H scope (compEnvC scope cl C X.env) fp) P.noW tg is gt ∧ DTs (X.blk s H scope (compEnvC scope cl C X.env) fp) P.noW ifs t ∧ DE (X.blk s H scope (compEnvC scope cl C X.env) fp) P.noW .sh elt ex)
    (ok : BlkOk X.N X.env.scope scope own) (his : (is.all fun i => (own.map (·.2)).contains i) = true) (hs : ∀ x, foldedSetIterable iter X.env x = pure x := by intro _; rfl) :
    PS X (.Assign [.Name y py] (.ListComp elt [⟨tg, iter, ifs, 0⟩] scope pos) spos) (tAsg (tE P .fr (eLc it (own.map (·.2)) gt t ex)) (gName i)) :=
  (ps_setLc c.calm c.nd hy hyl hsw hi ok (fun s H C cl fp => (hg s H C cl fp (c.blk ..)).1) (fun s H C cl fp => (hg s H C cl fp (c.blk ..)).2.1) (fun s H C cl fp => (hg s H C cl fp (c.blk ..)).2.2) hs).imp fun D σ H q => asg_lc (all_mem his) q
theorem asg_lc2 {vs vs1 : List Nat} {j : Nat} (hi : ∀ i ∈ is, i ∈ vs) (hi1 : ∀ i ∈ is1, i ∈ vs1) (ta : Tame gt is) {D : Ends} (q : tAsg (tE P .fr (eLc2 it vs vs1 gt t it1 gt1 t1 ex)) (gName j) D σ H) :
    tAsg (tLc2 (tI P true it) (tG P.noW is gt) (tT P.noW t) (tI P.noW false it1) (tG P.noW is1 gt1) (tT P.noW t1) (tE P.noW .sh ex) vs vs1) (gName j) D σ H := lc2_imp hi hi1 ta q
theorem ds_lcO2 {own : List (Str × Nat)} (vs1 : List Nat) (i : Nat) (hy : X.N[i]? = some y) (hyl : X.env.scope.names.lookup y = some .local) (c : Cy X P k W)
    (hsw : swapsWith (.ListComp elt [⟨tg, iter, ifs, 0⟩, ⟨tg1, iter1, ifs1, 0⟩] scope pos) (some (.Name y py)) spos.line X.env = pure true) (hi : DI X P true tg iter it)
    (hg : ∀ s H C cl fp, Cy (X.blk s H scope (compEnvC scope cl C X.env) fp) P.noW k (fun _ _ _ _ => False) → DG (X.blk s H scope (compEnvC scope cl C X.env) fp) P.noW tg is gt ∧ DTs (X.blk s H scope (compEnvC scope cl C X.env) fp) P.noW ifs t ∧
      DI (X.blk s H scope (compEnvC scope cl C X.env) fp) P.noW false tg1 iter1 it1 ∧ DG (X.blk s H scope (compEnvC scope cl C X.env) fp) P.noW tg1 is1 gt1 ∧ DTs (X.blk s H scope (compEnvC scope cl C X.env) fp) P.noW ifs1 t1 ∧ DE (X.blk s H scope (compEnvC scope cl C X.env) fp) P.noW .sh elt ex)
    (ta : Tame gt is) (ok : BlkOk X.N X.env.scope scope own) (his : (is.all fun i => (own.map (·.2)).contains i) = true) (his1 : (is1.all fun i => vs1.contains i) = true) (hvs : (vs1.all fun i => (own.map (·.2)).contains i) = true)
    (hs : ∀ x, foldedSetIterable iter X.env x = pure x := by intro _; rfl) (hs1 : ∀ env x, foldedSetIterable iter1 env x = pure x := by intro _ _; rfl) :
    PS X (.Assign [.Name y py] (.ListComp elt [⟨tg, iter, ifs, 0⟩, ⟨tg1, iter1, ifs1, 0⟩] scope pos) spos) (tAsg (tE P .fr (eLc2 it (own.map (·.2)) vs1 gt t it1 gt1 t1 ex)) (gName i)) :=
  (ps_setLc2 c.calm c.nd hy hyl hsw hi ok (all_mem hvs) (fun s H C cl fp => (hg s H C cl fp (c.blk ..)).1) (fun s H C cl fp => (hg s H C cl fp (c.blk ..)).2.1) (fun s H C cl fp => (hg s H C cl fp (c.blk ..)).2.2.1) (fun s H C cl fp => (hg s H C cl fp (c.blk ..)).2.2.2.1)
    (fun s H C cl fp => (hg s H C cl fp (c.blk ..)).2.2.2.2.1) (fun s H C cl fp => (hg s H C cl fp (c.blk ..)).2.2.2.2.2) hs hs1).imp fun D σ H q => asg_lc2 (all_mem his) (all_mem his1) ta q
/-- a new thing is kept frozen -/
theorem asg_frz {st : Stmt} {f : Ex} {i : Nat} (h : PS X st (tAsg (tE P .fr f) (gName i))) : PS X st (tAsg (tE P .sh f) (gName i)) := h.imp fun D σ H q => by
  obtain ⟨S, ρ, R, q⟩ := q
  exact ⟨S, ρ, R, q.fr⟩
end
/-! ### the ground of a law -/
structure Wd where
  P : Program
  w : World
  K : PySem.W.Frag
  mg : Str → Option Value
  base : Heap
  KX : K.In base
  NS : base.Ns mainGlobals mg
/-- the classes that are known by name -/
def caN (K : PySem.W.Frag) (ns : List Str) (c : Str) : Option Addr := if ns.contains c then some (He.ga K c) else none
def Gof (K : PySem.W.Frag) (ns : List Str) (kt : List D) : Gx := ⟨K, caN K ns, kt⟩
section
variable {w : Wd} {fa : List He.Fa} {fn : List He.DefD}
theorem Wd.glo (c : He.SaysD fa fn w.K) (i : Nat) {x : Str} (h : fa[i]? = some (.glo x)) : w.mg x = some (.ref (He.ga w.K x)) := He.glo_ok w.KX w.NS (c.fact i h)
theorem Wd.free (c : He.SaysD fa fn w.K) (i : Nat) {x : Str} (h : fa[i]? = some (.free x)) : w.mg x = none := He.free_ok w.KX w.NS (c.fact i h)
theorem Wd.int (c : He.SaysD fa fn w.K) (i : Nat) {x : Str} {n : Int} (h : fa[i]? = some (.int x n)) : ∃ u, w.mg x = some u ∧ RelV (.int n) u := by
  obtain ⟨t, e⟩ := He.int_ok w.KX w.NS (c.fact i h)
  exact ⟨_, e, t, rfl⟩
theorem Wd.str (c : He.SaysD fa fn w.K) (i : Nat) {x z : Str} (h : fa[i]? = some (.str x z)) : ∃ u, w.mg x = some u ∧ RelV (.str z) u := by
  obtain ⟨t, e⟩ := He.str_ok w.KX w.NS (c.fact i h)
  exact ⟨_, e, t, rfl⟩
end
theorem ds_raiseH {X : Cx} {P : Pr} {rm : Md} {k : Nat} {W : WX} {t : Str} {x : Str} {j : Nat} {p p2 pos pos' : Pos} (c : Cz X P k W) (hx : (He.Fa.exc x).ok X.K = true) (hg : X.mg x = some (.ref (He.ga X.K x))) (ca : P.G.ca x = some (He.ga X.K x)) (gl : Gl X x := by rfl) (hdb : (x == ("__debug__" : Str)) = false := by decide) :
    DS X P rm (.Raise (some (.Call (.Name x p) [.Constant (.str t) j p2] [] pos)) none pos') (sRaise x) := by
  obtain ⟨h1, h2, h3, h4⟩ := He.exc_ok hx
  exact ds_raise x c PySem.F.excBase_ValueError h1 hg h2 (raises_own h3 h4) ca gl hdb
end Ev

set_option Elab.async false
set_option linter.all false
set_option maxRecDepth 100000
set_option maxHeartbeats 1000000
/-! Ev, part Q: how the evaluator computes, for simp. -/
namespace Ev
open PySem L2
@[simp] theorem eV_ap (i : Nat) (ρ : List Slot) : eV i ρ = shOf ρ[i]? := rfl
@[simp] theorem eB_ap (i : Nat) (ρ : List Slot) : eB i ρ = boOf ρ[i]? := rfl
@[simp] theorem shOf_sh (d : D) : shOf (some (.sh d)) = .ok d := rfl
@[simp] theorem boOf_sh (d : D) : boOf (some (.sh d)) = .ok d := rfl
@[simp] theorem boOf_ol (d : List D) : boOf (some (.ol d)) = .ok (.list d) := rfl
@[simp] theorem boOf_od (t : Bool) (d : List (D × D)) : boOf (some (.od t d)) = .ok (dB t d) := rfl
@[simp] theorem eC_ap (d : D) (ρ : List Slot) : eC d ρ = .ok d := rfl
@[simp] theorem e1_ap (f : D → Option D) (a : Ex) (ρ : List Slot) : e1 f a ρ = (a ρ >>= fun x => ofO (f x)) := rfl
@[simp] theorem e2_ap (f : D → D → Option D) (a b : Ex) (ρ : List Slot) : e2 f a b ρ = (a ρ >>= fun x => b ρ >>= fun y => ofO (f x y)) := rfl
@[simp] theorem eBi_ap (F : List D → Option D) (g : Exs) (ρ : List Slot) : eBi F g ρ = (g ρ >>= fun ds => ofO (F ds)) := rfl
@[simp] theorem eCall_ap (F : Fn) (g : Exs) (ρ : List Slot) : eCall F g ρ = (g ρ >>= F) := rfl
@[simp] theorem aNil_ap (ρ : List Slot) : aNil ρ = .ok [] := rfl
@[simp] theorem aCons_ap (f : Ex) (g : Exs) (ρ : List Slot) : aCons f g ρ = (f ρ >>= fun d => g ρ >>= fun ds => .ok (d :: ds)) := rfl
@[simp] theorem eTup_ap (g : Exs) (ρ : List Slot) : eTup g ρ = (g ρ >>= mkTup) := rfl
@[simp] theorem eLst_ap (g : Exs) (ρ : List Slot) : eLst g ρ = (g ρ >>= mkLst) := rfl
@[simp] theorem mkTup0 : mkTup [] = .ok (.tuple []) := rfl
@[simp] theorem mkTup1 (a : D) : mkTup [a] = .ok (.tuple [a]) := rfl
@[simp] theorem mkTup2 (a b : D) : mkTup [a, b] = .ok (.tuple [a, b]) := rfl
@[simp] theorem mkTup3 (a b c : D) : mkTup [a, b, c] = .ok (.tuple [a, b, c]) := rfl
@[simp] theorem mkTup4 (a b c d : D) : mkTup [a, b, c, d] = .ok (.tuple [a, b, c, d]) := rfl
@[simp] theorem mkTup5 (a b c d e : D) : mkTup [a, b, c, d, e] = .ok (.tuple [a, b, c, d, e]) := rfl
@[simp] theorem mkLst0 : mkLst [] = .ok (.list []) := rfl
@[simp] theorem mkLst1 (a : D) : mkLst [a] = .ok (.list [a]) := rfl
@[simp] theorem mkLst2 (a b : D) : mkLst [a, b] = .ok (.list [a, b]) := rfl
@[simp] theorem mkLst3 (a b c : D) : mkLst [a, b, c] = .ok (.list [a, b, c]) := rfl
@[simp] theorem mkLst4 (a b c d : D) : mkLst [a, b, c, d] = .ok (.list [a, b, c, d]) := rfl
@[simp] theorem eAnd_ap (f g : Ex) (ρ : List Slot) : eAnd f g ρ = (f ρ >>= fun x => match x with
  | .bool true => g ρ
  | .bool false => .ok (.bool false)
  | _ => .stuck) := rfl
@[simp] theorem eOr_ap (f g : Ex) (ρ : List Slot) : eOr f g ρ = (f ρ >>= fun x => match x with
  | .bool true => .ok (.bool true)
  | .bool false => g ρ
  | _ => .stuck) := rfl
@[simp] theorem eNot_ap (f : Ex) (ρ : List Slot) : eNot f ρ = (f ρ >>= fun x => truD x >>= fun b => .ok (.bool (!b))) := rfl
@[simp] theorem eCh_ap (F F' : D → D → Option D) (f g h : Ex) (ρ : List Slot) : eCh F F' f g h ρ = (f ρ >>= fun x => g ρ >>= fun y => match F x y with
  | some (.bool true) => h ρ >>= fun z => ofO (F' y z)
  | some (.bool false) => .ok (.bool false)
  | _ => .stuck) := rfl
@[simp] theorem eIf_ap (t : Tx) (f g : Ex) (ρ : List Slot) : eIf t f g ρ = (t ρ >>= fun b => if b then f ρ else g ρ) := rfl
@[simp] theorem tB_ap (f : Ex) (ρ : List Slot) : tB f ρ = (f ρ >>= asB) := rfl
@[simp] theorem tV_ap (f : Ex) (ρ : List Slot) : tV f ρ = (f ρ >>= truD) := rfl
@[simp] theorem tYesS_ap (ρ : List Slot) : tYesS ρ = .ok true := rfl
@[simp] theorem tNotS_ap (f : Tx) (ρ : List Slot) : tNotS f ρ = (f ρ >>= fun b => .ok (!b)) := rfl
@[simp] theorem tAndS_ap (f g : Tx) (ρ : List Slot) : tAndS f g ρ = (f ρ >>= fun b => if b then g ρ else .ok false) := rfl
@[simp] theorem tOrS_ap (f g : Tx) (ρ : List Slot) : tOrS f g ρ = (f ρ >>= fun b => if b then .ok true else g ρ) := rfl
@[simp] theorem asB_b (b : Bool) : asB (.bool b) = .ok b := rfl
@[simp] theorem truD_b (b : Bool) : truD (.bool b) = .ok b := rfl
@[simp] theorem iSeq_ap (f : Ex) (ρ : List Slot) : iSeq f ρ = (f ρ >>= asSeq) := rfl
@[simp] theorem iRng_ap (F : List D → Res (List D)) (g : Exs) (ρ : List Slot) : iRng F g ρ = (g ρ >>= F) := rfl
@[simp] theorem asSeq_l (ds : List D) : asSeq (.list ds) = .ok ds := rfl
@[simp] theorem asSeq_t (ds : List D) : asSeq (.tuple ds) = .ok ds := rfl
@[simp] theorem asSeq_s (x : Str) : asSeq (.str x) = .ok (chD x) := rfl
@[simp] theorem eLc_ap (it : Exs) (vs : List Nat) (g : Gt) (t : Tx) (e : Ex) (ρ : List Slot) : eLc it vs g t e ρ = (it ρ >>= fun ds => noX (lcGo vs g t e ρ ds) >>= mkLst) := rfl
@[simp] theorem eLc2_ap (it : Exs) (vs vs1 : List Nat) (g : Gt) (t : Tx) (it1 : Exs) (g1 : Gt) (t1 : Tx) (e : Ex) (ρ : List Slot) : eLc2 it vs vs1 g t it1 g1 t1 e ρ = (it ρ >>= fun ds => noX (lc2Go vs vs1 g t it1 g1 t1 e ρ ds) >>= mkLst) := rfl
@[simp] theorem gN_ap (i : Nat) (d : D) (ρ : List Slot) : gN i d ρ = .ok (ρ.set i (.sh d)) := rfl
@[simp] theorem gT_ap (n : Nat) (g : Gts) (ds : List D) (ρ : List Slot) : gT n g (.tuple ds) ρ = if ds.length = n then g ds ρ else .stuck := rfl
@[simp] theorem gsCons_ap (f : Gt) (g : Gts) (d : D) (ds : List D) (ρ : List Slot) : gsCons f g (d :: ds) ρ = (f d ρ >>= fun ρ' => g ds ρ') := rfl
@[simp] theorem gsNil_ap (ρ : List Slot) : gsNil [] ρ = .ok ρ := rfl
@[simp] theorem killS_n (ρ : List Slot) : killS [] ρ = ρ := rfl
@[simp] theorem killS_c (i : Nat) (is : List Nat) (ρ : List Slot) : killS (i :: is) ρ = (killS is ρ).set i .no := rfl
@[simp] theorem oNo_ap (ρ : List Slot) : oNo ρ = .ok none := rfl
@[simp] theorem eSl_ap (f : Ex) (l u : Ox) (ρ : List Slot) : eSl f l u ρ = (f ρ >>= fun d => match l ρ with
  | .ok lo => (match u ρ with
    | .ok hi => ofO (pCut lo hi d)
    | .exc c => .exc c
    | .stuck => .stuck)
  | .exc c => .exc c
  | .stuck => .stuck) := rfl
@[simp] theorem oSome_ap (f : Ex) (ρ : List Slot) : oSome f ρ = (f ρ >>= fun d => match d with
  | .int i => .ok (some i)
  | _ => .stuck) := rfl
@[simp] theorem sSeq_ap (f g : Sx) (ρ : List Slot) : sSeq f g ρ = thenS (f ρ) g := rfl
@[simp] theorem thenS_exc {c : Str} {ρ : List Slot} {g : Sx} : thenS (.exc c ρ) g = .exc c ρ := rfl
@[simp] theorem sNx_ap (ρ : List Slot) : sNx ρ = .nx ρ := rfl
@[simp] theorem sSet_ap (i : Nat) (f : Ex) (ρ : List Slot) : sSet i f ρ = onD (f ρ) ρ fun d => .nx (ρ.set i (.sh d)) := rfl
@[simp] theorem sRet_ap (f : Ex) (ρ : List Slot) : sRet f ρ = onD (f ρ) ρ fun d => .rt d := rfl
@[simp] theorem sExpr_ap (f : Ex) (ρ : List Slot) : sExpr f ρ = onD (f ρ) ρ fun _ => .nx ρ := rfl
@[simp] theorem sIf_ap (t : Tx) (s u : Sx) (ρ : List Slot) : sIf t s u ρ = onB (t ρ) ρ fun b => if b then s ρ else u ρ := rfl
@[simp] theorem sUnp_ap (g : Gt) (f : Ex) (ρ : List Slot) : sUnp g f ρ = onD (f ρ) ρ fun d => match g d ρ with
  | .ok ρ' => .nx ρ'
  | _ => .stuck := rfl
@[simp] theorem sPar_ap (i j : Nat) (g : Exs) (ρ : List Slot) : sPar i j g ρ = onL (g ρ) ρ fun ds => match ds with
  | [x, y] => .nx ((ρ.set i (.sh x)).set j (.sh y))
  | _ => .stuck := rfl
@[simp] theorem sFor_ap (it : Exs) (g : Gt) (s : Sx) (ρ : List Slot) : sFor it g s ρ = onL (it ρ) ρ fun ds => forGo g s ds ρ := rfl
@[simp] theorem forGo_n (g : Gt) (s : Sx) (ρ : List Slot) : forGo g s [] ρ = .nx ρ := rfl
@[simp] theorem sRaise_ap (c : Str) (ρ : List Slot) : sRaise c ρ = .exc c ρ := rfl
@[simp] theorem sRetN_ap (ρ : List Slot) : sRetN ρ = .rt .none := rfl
@[simp] theorem sFrz_ap (i : Nat) (s : Sx) (ρ : List Slot) : sFrz i s ρ = s (frzS i ρ) := rfl
@[simp] theorem sKill_ap (i : List Nat) (s : Sx) (ρ : List Slot) : sKill i s ρ = s (killS i ρ) := rfl
@[simp] theorem eNewD_ap (t : Bool) (ρ : List Slot) : eNewD t ρ = .ok (dB t []) := rfl
@[simp] theorem onB_exc {c : Str} {ρ : List Slot} {k : Bool → Out} : onB (.exc c) ρ k = .exc c ρ := rfl
@[simp] theorem onL_exc {c : Str} {ρ : List Slot} {k : List D → Out} : onL (.exc c) ρ k = .exc c ρ := rfl
@[simp] theorem turnS_ct {ρ : List Slot} {g : Sx} : turnS (.ct ρ) g = g ρ := rfl
@[simp] theorem turnS_br {ρ : List Slot} {g : Sx} : turnS (.br ρ) g = .nx ρ := rfl
@[simp] theorem turnS_exc {c : Str} {ρ : List Slot} {g : Sx} : turnS (.exc c ρ) g = .exc c ρ := rfl
@[simp] theorem sOwn_ap (i : Nat) (f : Ex) (ρ : List Slot) : sOwn i f ρ = onD (f ρ) ρ fun d => match ownS d with
  | .sh d => if isMut d then .stuck else .nx (ρ.set i (.sh d))
  | s => .nx (ρ.set i s) := rfl
@[simp] theorem ownS_l (ds : List D) : ownS (.list ds) = .ol ds := rfl
@[simp] theorem ownS_d (t : Bool) (kvs : List (D × D)) : ownS (dB t kvs) = .od t kvs := rfl
@[simp] theorem finO_rt (d : D) : finO (.rt d) = .ok d := rfl
@[simp] theorem finO_nx (ρ : List Slot) : finO (.nx ρ) = .ok .none := rfl
@[simp] theorem finO_exc (c : Str) (ρ : List Slot) : finO (.exc c ρ) = .exc c := rfl
/-! the built-ins -/
@[simp] theorem pAdd_i (i j : Int) : pAdd (.int i) (.int j) = some (.int (i + j)) := rfl
@[simp] theorem pSub_i (i j : Int) : pSub (.int i) (.int j) = some (.int (i - j)) := rfl
@[simp] theorem pLt_i (i j : Int) : pLt (.int i) (.int j) = some (.bool (decide (i < j))) := rfl
@[simp] theorem pLe_i (i j : Int) : pLe (.int i) (.int j) = some (.bool (decide (i ≤ j))) := rfl
@[simp] theorem pGt_i (i j : Int) : pGt (.int i) (.int j) = some (.bool (decide (j < i))) := rfl
@[simp] theorem pGe_i (i j : Int) : pGe (.int i) (.int j) = some (.bool (decide (j ≤ i))) := rfl
@[simp] theorem bLen_l (ds : List D) : bLen [.list ds] = some (.int ds.length) := rfl
@[simp] theorem bLen_t (ds : List D) : bLen [.tuple ds] = some (.int ds.length) := rfl
@[simp] theorem bLen_s (x : Str) : bLen [.str x] = some (.int x.length) := rfl
@[simp] theorem bLen_d (t : Bool) (kvs : List (D × D)) : bLen [dB t kvs] = some (.int kvs.length) := rfl
@[simp] theorem bInt_i (i : Int) : bInt [.int i] = some (.int i) := rfl
@[simp] theorem bInt_b (b : Bool) : bInt [.bool b] = some (.int (if b then 1 else 0)) := rfl
@[simp] theorem bAbs_i (i : Int) : bAbs [.int i] = some (.int (if i < 0 then -i else i)) := rfl
@[simp] theorem bMin_2 (i j : Int) : bMin [.int i, .int j] = some (.int (bMin2 i j)) := rfl
@[simp] theorem bMax_2 (i j : Int) : bMax [.int i, .int j] = some (.int (bMax2 i j)) := rfl
@[simp] theorem bTuple_l (ds : List D) : bTuple [.list ds] = some (.tuple ds) := rfl
@[simp] theorem bTuple_t (ds : List D) : bTuple [.tuple ds] = some (.tuple ds) := rfl
@[simp] theorem bList_l (ds : List D) : bList [.list ds] = some (.list ds) := rfl
@[simp] theorem bList_t (ds : List D) : bList [.tuple ds] = some (.list ds) := rfl
@[simp] theorem pIx_t (kt : List D) (ds : List D) (i : Int) : pIx kt (.tuple ds) (.int i) = dAt ds i := rfl
@[simp] theorem pIx_l (kt : List D) (ds : List D) (i : Int) : pIx kt (.list ds) (.int i) = dAt ds i := rfl
theorem dAt_nat {α : Type} (l : List α) (i : Nat) : dAt l (i : Int) = l[i]? := by
  unfold dAt atI ixN
  by_cases h : i < l.length
  · simp [h]
  · simp [h]
@[simp] theorem dAt0 {α : Type} (a : α) (l : List α) : dAt (a :: l) 0 = some a := dAt_nat (a :: l) 0
@[simp] theorem dAt1 {α : Type} (a b : α) (l : List α) : dAt (a :: b :: l) 1 = some b := dAt_nat (a :: b :: l) 1
@[simp] theorem dAt2 {α : Type} (a b c : α) (l : List α) : dAt (a :: b :: c :: l) 2 = some c := dAt_nat (a :: b :: c :: l) 2
@[simp] theorem dAt3 {α : Type} (a b c d : α) (l : List α) : dAt (a :: b :: c :: d :: l) 3 = some d := dAt_nat (a :: b :: c :: d :: l) 3
end Ev

set_option Elab.async false
set_option linter.all false
set_option maxRecDepth 100000
set_option maxHeartbeats 1000000
/-! Ev, part R: loops by invariants, comprehensions as maps, for the laws' mathematics. -/
namespace Ev
open PySem L2
theorem forGo_c (g : Gt) (s : Sx) (d : D) (ds : List D) (ρ : List Slot) : forGo g s (d :: ds) ρ = match g d ρ with
    | .ok ρ1 => turnS (s ρ1) (forGo g s ds)
    | _ => .stuck := rfl
theorem forGo_inv {g : Gt} {s : Sx} (I : Nat → List Slot → Prop) : ∀ (ds : List D) (k : Nat) (ρ : List Slot), I k ρ →
    (∀ i d ρ, ds[i]? = some d → I (k + i) ρ → ∃ ρ1, g d ρ = .ok ρ1 ∧ ∃ ρ2, (s ρ1 = .nx ρ2 ∨ s ρ1 = .ct ρ2) ∧ I (k + i + 1) ρ2) → ∃ ρ', forGo g s ds ρ = .nx ρ' ∧ I (k + ds.length) ρ'
  | [], k, ρ, h, _ => ⟨ρ, rfl, h⟩
  | d :: ds, k, ρ, h, hs => by
    obtain ⟨ρ1, e1, ρ2, e2, h2⟩ := hs 0 d ρ rfl h
    obtain ⟨ρ', e3, h3⟩ := forGo_inv I ds (k + 1) ρ2 h2 fun i d ρ hi hI => by
      have := hs (i + 1) d ρ (by simpa using hi) (by rw [← Nat.add_assoc, Nat.add_right_comm]; exact hI)
      rw [Nat.add_right_comm k 1 i]
      exact this
    refine ⟨ρ', ?_, by rw [List.length_cons, Nat.add_comm ds.length 1, ← Nat.add_assoc]; exact h3⟩
    rw [forGo_c, e1]
    dsimp only
    rcases e2 with e2 | e2 <;> rw [e2] <;> exact e3
/-- from the start -/
theorem for_inv {g : Gt} {s : Sx} {ds : List D} {ρ : List Slot} (I : Nat → List Slot → Prop) (h0 : I 0 ρ)
    (hs : ∀ i d ρ, ds[i]? = some d → I i ρ → ∃ ρ1, g d ρ = .ok ρ1 ∧ ∃ ρ2, (s ρ1 = .nx ρ2 ∨ s ρ1 = .ct ρ2) ∧ I (i + 1) ρ2) : ∃ ρ', forGo g s ds ρ = .nx ρ' ∧ I ds.length ρ' := by
  have := forGo_inv (g := g) (s := s) I ds 0 ρ h0 fun i d ρ hi hI => by
    simp only [Nat.zero_add] at hI ⊢
    exact hs i d ρ hi hI
  simpa using this
/-- a comprehension as a map over the items that pass -/
theorem lcGo_fm {vs : List Nat} {g : Gt} {t : Tx} {e : Ex} {ρ : List Slot} (p : D → Bool) (F : D → D) : ∀ (ds : List D), (∀ d ∈ ds, ∃ ρ', g d (killS vs ρ) = .ok ρ' ∧ t ρ' = .ok (p d) ∧ (p d = true → e ρ' = .ok (F d))) →
    lcGo vs g t e ρ ds = .ok ((ds.filter p).map F)
  | [], _ => rfl
  | d :: ds, h => by
    obtain ⟨ρ', h1, h2, h3⟩ := h d List.mem_cons_self
    have ih := lcGo_fm p F ds fun d hd => h d (List.mem_cons_of_mem _ hd)
    unfold lcGo
    rw [h1, ok_bind, h2, ok_bind]
    cases hp : p d with
    | true =>
      rw [if_pos rfl, h3 hp, ok_bind, ih, ok_bind, List.filter_cons_of_pos hp]
      rfl
    | false =>
      rw [if_neg Bool.false_ne_true, ih, List.filter_cons_of_neg (by rw [hp]; exact Bool.false_ne_true)]
theorem lcGo_map {vs : List Nat} {g : Gt} {e : Ex} {ρ : List Slot} (F : D → D) (ds : List D) (h : ∀ d ∈ ds, ∃ ρ', g d (killS vs ρ) = .ok ρ' ∧ e ρ' = .ok (F d)) : lcGo vs g tYesS e ρ ds = .ok (ds.map F) := by
  have := lcGo_fm (vs := vs) (g := g) (t := tYesS) (e := e) (ρ := ρ) (fun _ => true) F ds fun d hd => by
    obtain ⟨ρ', h1, h2⟩ := h d hd
    exact ⟨ρ', h1, rfl, fun _ => h2⟩
  rwa [List.filter_eq_self.mpr (fun _ _ => rfl)] at this
/-- over items that are coded -/
theorem lcGo_fmE {α : Type} {vs : List Nat} {g : Gt} {t : Tx} {e : Ex} {ρ : List Slot} (enc : α → D) (p : α → Bool) (F : α → D) : ∀ (xs : List α), (∀ x ∈ xs, ∃ ρ', g (enc x) (killS vs ρ) = .ok ρ' ∧ t ρ' = .ok (p x) ∧ (p x = true → e ρ' = .ok (F x))) →
    lcGo vs g t e ρ (xs.map enc) = .ok ((xs.filter p).map F)
  | [], _ => rfl
  | d :: ds, h => by
    obtain ⟨ρ', h1, h2, h3⟩ := h d List.mem_cons_self
    have ih := lcGo_fmE enc p F ds fun d hd => h d (List.mem_cons_of_mem _ hd)
    rw [List.map_cons]
    unfold lcGo
    rw [h1, ok_bind, h2, ok_bind]
    cases hp : p d with
    | true =>
      rw [if_pos rfl, h3 hp, ok_bind, ih, ok_bind, List.filter_cons_of_pos hp]
      rfl
    | false =>
      rw [if_neg Bool.false_ne_true, ih, List.filter_cons_of_neg (by rw [hp]; exact Bool.false_ne_true)]
theorem lcGo_mapE {α : Type} {vs : List Nat} {g : Gt} {e : Ex} {ρ : List Slot} (enc : α → D) (F : α → D) (xs : List α) (h : ∀ x ∈ xs, ∃ ρ', g (enc x) (killS vs ρ) = .ok ρ' ∧ e ρ' = .ok (F x)) : lcGo vs g tYesS e ρ (xs.map enc) = .ok (xs.map F) := by
  have := lcGo_fmE (vs := vs) (g := g) (t := tYesS) (e := e) (ρ := ρ) enc (fun _ => true) F xs fun d hd => by
    obtain ⟨ρ', h1, h2⟩ := h d hd
    exact ⟨ρ', h1, rfl, fun _ => h2⟩
  rwa [List.filter_eq_self.mpr (fun _ _ => rfl)] at this
theorem mkLst_le {ds : List D} (h : ds.length ≤ line) : mkLst ds = .ok (.list ds) := if_pos h
theorem mkTup_le {ds : List D} (h : ds.length ≤ line) : mkTup ds = .ok (.tuple ds) := if_pos h
theorem rngL_get {i : Int} {n k : Nat} {d : D} (h : (rngL i n)[k]? = some d) : k < n ∧ d = .int (i + k) := by
  unfold rngL at h
  rw [List.getElem?_map] at h
  obtain ⟨j, h1, h2⟩ := Option.map_eq_some_iff.mp h
  obtain ⟨h3, h4⟩ := List.getElem?_eq_some_iff.mp h1
  rw [List.getElem_range] at h4
  rw [List.length_range] at h3
  exact ⟨h3, by rw [← h2, h4]⟩
theorem rngL_map (i : Int) (n : Nat) : rngL i n = ((List.range n).map fun k => i + (k : Nat)).map .int := by
  unfold rngL
  rw [List.map_map]
  rfl
@[simp] theorem rngL_length (i : Int) (n : Nat) : (rngL i n).length = n := by simp [rngL]
@[simp] theorem pMul_i48 (i : Int) (j : Int) (h : smallI j = true) : pMul (.int i) (.int j) = some (.int (i * j)) := by
  simp [pMul, h]
theorem pMod_i (i j : Int) (h : 0 < j) : pMod (.int i) (.int j) = some (.int (i % j)) := by simp [pMod, h]
theorem pFdiv_i (i j : Int) (h : 0 < j) (h2 : j < 1073741824) : pFdiv (.int i) (.int j) = some (.int (i / j)) := by simp [pFdiv, h, h2]
end Ev

set_option Elab.async false
set_option linter.all false
set_option maxRecDepth 100000
set_option maxHeartbeats 1000000
/-! Ev, part S: data of ints, names, tuples: equality, order, being plain. -/
namespace Ev
open PySem PySem.Spec PyProof.Rows L2 PySem.W
@[simp] theorem lcGo_n (vs : List Nat) (g : Gt) (t : Tx) (e : Ex) (ρ : List Slot) : lcGo vs g t e ρ [] = .ok [] := rfl
theorem lcGo_c (vs : List Nat) (g : Gt) (t : Tx) (e : Ex) (ρ : List Slot) (d : D) (ds : List D) : lcGo vs g t e ρ (d :: ds) = (g d (killS vs ρ) >>= fun ρ' => t ρ' >>= fun b => if b then e ρ' >>= fun y => lcGo vs g t e ρ ds >>= fun r => .ok (y :: r) else lcGo vs g t e ρ ds) := rfl
@[simp] theorem boolsOf_n : boolsOf [] = some [] := rfl
@[simp] theorem boolsOf_c (b : Bool) (r : List D) : boolsOf (.bool b :: r) = (boolsOf r).map (b :: ·) := rfl
@[simp] theorem intsOf_n : intsOf [] = some [] := rfl
@[simp] theorem intsOf_c (b : Int) (r : List D) : intsOf (.int b :: r) = (intsOf r).map (b :: ·) := rfl
@[simp] theorem bAll_l (ds : List D) : bAll [.list ds] = (boolsOf ds).map fun ns => .bool (ns.all id) := rfl
@[simp] theorem bAny_l (ds : List D) : bAny [.list ds] = (boolsOf ds).map fun ns => .bool (ns.any id) := rfl
@[simp] theorem bSum_l (ds : List D) : bSum [.list ds] = (intsOf ds).map fun ns => .int ns.sum := rfl
@[simp] theorem bMin2_eq (i j : Int) : bMin2 i j = min i j := by
  unfold bMin2
  split <;> omega
@[simp] theorem bMax2_eq (i j : Int) : bMax2 i j = max i j := by
  unfold bMax2
  split <;> omega
/-! isinstance -/
@[simp] theorem isi_int_i (i : Int) : pIsi "int" (.int i) = some (.bool true) := by rfl
@[simp] theorem isi_bool_i (i : Int) : pIsi "bool" (.int i) = some (.bool false) := by rfl
@[simp] theorem isi_tuple_t (ds : List D) : pIsi "tuple" (.tuple ds) = some (.bool true) := by rfl
@[simp] theorem isi_str_s (x : Str) : pIsi "str" (.str x) = some (.bool true) := by rfl
@[simp] theorem isi_bool_b (b : Bool) : pIsi "bool" (.bool b) = some (.bool true) := by rfl
/-! equality -/
@[simp] theorem eqv_ii (i j : Int) : PyData.eqv (.int i) (.int j) = decide (i = j) := by
  simp only [PyData.eqv]
  rw [Bool.eq_iff_iff]; simp
@[simp] theorem eqv_ss (i j : Str) : PyData.eqv (.str i) (.str j) = decide (i = j) := by
  simp only [PyData.eqv]
  rw [Bool.eq_iff_iff]; simp
@[simp] theorem eqv_bb (i j : Bool) : PyData.eqv (.bool i) (.bool j) = decide (i = j) := by
  simp only [PyData.eqv]
  rw [Bool.eq_iff_iff]; simp
@[simp] theorem eqv_nn : PyData.eqv .none .none = true := by simp [PyData.eqv]
@[simp] theorem eqv_tt (a b : List D) : PyData.eqv (.tuple a) (.tuple b) = PyData.eqvAll a b := by simp [PyData.eqv]
@[simp] theorem eqv_ll (a b : List D) : PyData.eqv (.list a) (.list b) = PyData.eqvAll a b := by simp [PyData.eqv]
@[simp] theorem eqvAll_nn : PyData.eqvAll [] [] = true := by simp [PyData.eqvAll]
@[simp] theorem eqvAll_nc (a : D) (b : List D) : PyData.eqvAll [] (a :: b) = false := by simp [PyData.eqvAll]
@[simp] theorem eqvAll_cn (a : D) (b : List D) : PyData.eqvAll (a :: b) [] = false := by simp [PyData.eqvAll]
@[simp] theorem eqvAll_cc (a c : D) (b d : List D) : PyData.eqvAll (a :: b) (c :: d) = (PyData.eqv a c && PyData.eqvAll b d) := by simp [PyData.eqvAll]
/-! data of ints, texts, tuples of such, None: equal just if the same -/
mutual
def flatD : D → Bool
  | .none => true
  | .int _ => true
  | .str _ => true
  | .tuple ds => flatL ds
  | .list ds => flatL ds
  | _ => false
def flatL : List D → Bool
  | [] => true
  | d :: ds => flatD d && flatL ds
end
mutual
theorem eqv_flat : ∀ (a b : D), flatD a = true → flatD b = true → (PyData.eqv a b = true ↔ a = b)
  | .none, b, _, _ => by cases b <;> simp [PyData.eqv]
  | .int i, b, _, h => by cases b <;> simp_all [PyData.eqv, flatD]
  | .str i, b, _, h => by cases b <;> simp_all [PyData.eqv, flatD]
  | .tuple xs, b, h1, h => by
    cases b with
    | tuple ys =>
      simp only [eqv_tt, PyData.tuple.injEq]
      exact eqvAll_flat xs ys (by simpa [flatD] using h1) (by simpa [flatD] using h)
    | _ => simp_all [PyData.eqv, flatD]
  | .list xs, b, h1, h => by
    cases b with
    | list ys =>
      simp only [eqv_ll, PyData.list.injEq]
      exact eqvAll_flat xs ys (by simpa [flatD] using h1) (by simpa [flatD] using h)
    | _ => simp_all [PyData.eqv, flatD]
  | .bool _, _, h, _ => by simp [flatD] at h
  | .dict _, _, h, _ => by simp [flatD] at h
theorem eqvAll_flat : ∀ (a b : List D), flatL a = true → flatL b = true → (PyData.eqvAll a b = true ↔ a = b)
  | [], [], _, _ => by simp
  | [], _ :: _, _, _ => by simp
  | _ :: _, [], _, _ => by simp
  | x :: a, y :: b, h1, h2 => by
    simp only [flatL, Bool.and_eq_true] at h1 h2
    simp only [eqvAll_cc, Bool.and_eq_true, List.cons.injEq]
    rw [eqv_flat x y h1.1 h2.1, eqvAll_flat a b h1.2 h2.2]
end
theorem eqv_flat_dec {a b : D} (h1 : flatD a = true) (h2 : flatD b = true) [Decidable (a = b)] : PyData.eqv a b = decide (a = b) := by
  rw [Bool.eq_iff_iff, eqv_flat a b h1 h2]; simp
/-! being plain -/
theorem dOkL_map {α : Type} {n : Nat} {f : α → D} {xs : List α} (h : ∀ x ∈ xs, dOk n (f x) = true) : dOkL n (xs.map f) = true := by
  induction xs with
  | nil => rfl
  | cons x xs ih =>
    rw [List.map_cons, dOkL, Bool.and_eq_true]
    exact ⟨h x List.mem_cons_self, ih fun y hy => h y (List.mem_cons_of_mem _ hy)⟩
theorem flatL_map {α : Type} {f : α → D} {xs : List α} (h : ∀ x ∈ xs, flatD (f x) = true) : flatL (xs.map f) = true := by
  induction xs with
  | nil => simp [flatL]
  | cons x xs ih =>
    rw [List.map_cons, flatL, Bool.and_eq_true]
    exact ⟨h x List.mem_cons_self, ih fun y hy => h y (List.mem_cons_of_mem _ hy)⟩
theorem zipL_map {α β : Type} (f : α → D) (g : β → D) (xs : List α) (ys : List β) : zipL (xs.map f) (ys.map g) = (xs.zip ys).map fun p => .tuple [f p.1, g p.2] := by
  unfold zipL
  rw [List.zipWith_map, ← List.map_uncurry_zip_eq_zipWith]
  rfl
theorem enumL_map {α : Type} (f : α → D) (xs : List α) : enumL (xs.map f) = xs.zipIdx.map fun p => .tuple [.int (p.2 : Nat), f p.1] := by
  unfold enumL
  rw [List.zipIdx_map, List.map_map]
  rfl
theorem cut_map {α β : Type} (f : α → β) (xs : List α) (lo hi : Option Int) : Ev.cutD (xs.map f) lo hi = (Ev.cutD xs lo hi).map f := by
  unfold Ev.cutD
  rw [List.map_take, List.map_drop, List.length_map]
theorem cut_take {α : Type} (xs : List α) (n : Nat) : Ev.cutD xs none (some (n : Int)) = xs.take n := by
  unfold Ev.cutD
  rw [HT.sIx_none, HT.sIx_nat, List.drop_zero, Nat.sub_zero]
  exact (List.take_eq_take_min ..).symm
theorem cut_drop {α : Type} (xs : List α) (n : Nat) : Ev.cutD xs (some (n : Int)) none = xs.drop n := by
  unfold Ev.cutD
  rw [HT.sIx_none, HT.sIx_nat, List.take_of_length_le (by rw [List.length_drop]; omega), Nat.min_comm]
  by_cases h : n ≤ xs.length
  · rw [Nat.min_eq_right h]
  · rw [Nat.min_eq_left (by omega), List.drop_length, List.drop_of_length_le (by omega)]
@[simp] theorem pLt_s (x y : Str) : pLt (.str x) (.str y) = some (.bool (decide (x.cps.toList < y.cps.toList))) := rfl
@[simp] theorem dOk_i (n : Nat) (i : Int) : dOk n (.int i) = true := by cases n <;> simp [dOk]
@[simp] theorem dOk_s (n : Nat) (i : Str) : dOk n (.str i) = true := by cases n <;> simp [dOk]
@[simp] theorem dOk_b (n : Nat) (i : Bool) : dOk n (.bool i) = true := by cases n <;> simp [dOk]
@[simp] theorem dOk_n (n : Nat) : dOk n .none = true := by cases n <;> simp [dOk]
@[simp] theorem dOk_t (n : Nat) (xs : List D) : dOk (n + 1) (.tuple xs) = dOkL n xs := by simp [dOk]
@[simp] theorem dOk_l (n : Nat) (xs : List D) : dOk (n + 1) (.list xs) = dOkL n xs := by simp [dOk]
@[simp] theorem dOk_t64 (xs : List D) : dOk 64 (.tuple xs) = dOkL 63 xs := by simp [dOk]
@[simp] theorem dOk_l64 (xs : List D) : dOk 64 (.list xs) = dOkL 63 xs := by simp [dOk]
@[simp] theorem dOk_t63 (xs : List D) : dOk 63 (.tuple xs) = dOkL 62 xs := by simp [dOk]
@[simp] theorem dOk_t62 (xs : List D) : dOk 62 (.tuple xs) = dOkL 61 xs := by simp [dOk]
@[simp] theorem dOk_t61 (xs : List D) : dOk 61 (.tuple xs) = dOkL 60 xs := by simp [dOk]
@[simp] theorem dOkL_n (n : Nat) : dOkL n [] = true := by simp [dOkL]
@[simp] theorem dOkL_c (n : Nat) (x : D) (xs : List D) : dOkL n (x :: xs) = (dOk n x && dOkL n xs) := by simp [dOkL]
@[simp] theorem flatD_i (i : Int) : flatD (.int i) = true := by simp [flatD]
@[simp] theorem flatD_s (i : Str) : flatD (.str i) = true := by simp [flatD]
@[simp] theorem flatD_n : flatD .none = true := by simp [flatD]
@[simp] theorem flatD_t (xs : List D) : flatD (.tuple xs) = flatL xs := by simp [flatD]
@[simp] theorem flatD_l (xs : List D) : flatD (.list xs) = flatL xs := by simp [flatD]
@[simp] theorem flatL_n : flatL [] = true := by simp [flatL]
@[simp] theorem flatL_c (x : D) (xs : List D) : flatL (x :: xs) = (flatD x && flatL xs) := by simp [flatL]
theorem pEq_flat {a b : D} (h1 : flatD a = true) (h2 : flatD b = true) (k1 : dOk 64 a = true) (k2 : dOk 64 b = true) [Decidable (a = b)] : pEq a b = some (.bool (decide (a = b))) := by
  unfold pEq
  rw [k1, k2, eqv_flat_dec h1 h2]
  rfl
theorem pNe_flat {a b : D} (h1 : flatD a = true) (h2 : flatD b = true) (k1 : dOk 64 a = true) (k2 : dOk 64 b = true) [Decidable (a = b)] : pNe a b = some (.bool (!decide (a = b))) := by
  unfold pNe
  rw [k1, k2, eqv_flat_dec h1 h2]
  rfl
@[simp] theorem pEq_i (i j : Int) : pEq (.int i) (.int j) = some (.bool (decide (i = j))) := by simp [pEq]
@[simp] theorem pNe_i (i j : Int) : pNe (.int i) (.int j) = some (.bool (!decide (i = j))) := by simp [pNe]
@[simp] theorem pEq_s (i j : Str) : pEq (.str i) (.str j) = some (.bool (decide (i = j))) := by simp [pEq]
@[simp] theorem pNe_s (i j : Str) : pNe (.str i) (.str j) = some (.bool (!decide (i = j))) := by simp [pNe]
end Ev

set_option Elab.async false
set_option linter.all false
set_option maxRecDepth 100000
set_option maxHeartbeats 1000000
/-! Ev, part T: dicts as rows of typed pairs; tallies; sorted keys. -/
namespace Ev
open PySem PySem.Spec PyProof.Rows L2 PySem.W
section
variable {α β : Type} [DecidableEq α]
def getA (al : List (α × β)) (a : α) : Option β := (al.find? fun p => decide (p.1 = a)).map Prod.snd
def putA (al : List (α × β)) (a : α) (b : β) : List (α × β) := if al.any (fun p => decide (p.1 = a)) then al.map (fun p => if p.1 = a then (p.1, b) else p) else al ++ [(a, b)]
@[simp] theorem getA_n (a : α) : getA ([] : List (α × β)) a = none := rfl
theorem getA_c (p : α × β) (al : List (α × β)) (a : α) : getA (p :: al) a = if p.1 = a then some p.2 else getA al a := by
  unfold getA
  rw [List.find?_cons]
  by_cases h : p.1 = a <;> simp [h]
theorem getA_any (al : List (α × β)) (a : α) : (al.any fun p => decide (p.1 = a)) = (getA al a).isSome := by
  induction al with
  | nil => rfl
  | cons p al ih =>
    rw [List.any_cons, getA_c, ih]
    by_cases h : p.1 = a <;> simp [h]
theorem getA_app (al bl : List (α × β)) (a : α) : getA (al ++ bl) a = (getA al a).or (getA bl a) := by
  induction al with
  | nil => simp
  | cons p al ih =>
    rw [List.cons_append, getA_c, getA_c, ih]
    by_cases h : p.1 = a <;> simp [h]
theorem getA_map (al : List (α × β)) (a a' : α) (b : β) : getA (al.map fun p => if p.1 = a then (p.1, b) else p) a' = if a = a' then (getA al a').map (fun _ => b) else getA al a' := by
  induction al with
  | nil => simp
  | cons p al ih =>
    rw [List.map_cons, getA_c, getA_c, ih]
    by_cases h : p.1 = a
    · rw [if_pos h]
      by_cases h2 : p.1 = a'
      · have : a = a' := h.symm.trans h2
        simp [h2, this]
      · have : a ≠ a' := fun e => h2 (h.trans e)
        simp [h2, this]
    · rw [if_neg h]
      by_cases h2 : p.1 = a'
      · have : a ≠ a' := fun e => h (h2.trans e.symm)
        simp [h2, this]
      · simp [h2]
theorem getA_put (al : List (α × β)) (a a' : α) (b : β) : getA (putA al a b) a' = if a = a' then some b else getA al a' := by
  unfold putA
  split
  · rename_i h
    rw [getA_any] at h
    rw [getA_map]
    by_cases e : a = a'
    · subst e
      rw [if_pos rfl, if_pos rfl]
      cases hg : getA al a with
      | none => rw [hg] at h; cases h
      | some x => rfl
    · rw [if_neg e, if_neg e]
  · rename_i h
    rw [getA_any] at h
    rw [getA_app, getA_c]
    by_cases e : a = a'
    · subst e
      cases hg : getA al a with
      | none => simp
      | some x => rw [hg] at h; exact absurd rfl h
    · simp [e]
theorem putA_length (al : List (α × β)) (a : α) (b : β) : (putA al a b).length ≤ al.length + 1 := by
  unfold putA
  split <;> simp
theorem putA_keys (al : List (α × β)) (a : α) (b : β) : (putA al a b).map Prod.fst = if a ∈ al.map Prod.fst then al.map Prod.fst else al.map Prod.fst ++ [a] := by
  have hm : (al.any fun p => decide (p.1 = a)) = true ↔ a ∈ al.map Prod.fst := by
    rw [List.any_eq_true, List.mem_map]
    constructor
    · rintro ⟨p, h1, h2⟩; exact ⟨p, h1, of_decide_eq_true h2⟩
    · rintro ⟨p, h1, h2⟩; exact ⟨p, h1, decide_eq_true h2⟩
  unfold putA
  by_cases h : (al.any fun p => decide (p.1 = a)) = true
  · rw [if_pos h, if_pos (hm.mp h), List.map_map]
    apply List.map_congr_left
    intro p _
    by_cases e : p.1 = a <;> simp [e]
  · rw [if_neg h, if_neg (fun q => h (hm.mpr q)), List.map_append]
    rfl
theorem getA_keys (al : List (α × β)) (a : α) : (getA al a).isSome = true ↔ a ∈ al.map Prod.fst := by
  rw [← getA_any, List.any_eq_true, List.mem_map]
  constructor
  · rintro ⟨p, h1, h2⟩; exact ⟨p, h1, of_decide_eq_true h2⟩
  · rintro ⟨p, h1, h2⟩; exact ⟨p, h1, decide_eq_true h2⟩
/-- the coded dict -/
def encA (ek : α → D) (ev : β → D) (al : List (α × β)) : List (D × D) := al.map fun p => (ek p.1, ev p.2)
theorem dGet_enc {ek : α → D} {ev : β → D} (he : ∀ a b, PyData.eqv (ek a) (ek b) = decide (a = b)) (al : List (α × β)) (a : α) : dGet (encA ek ev al) (ek a) = (getA al a).map ev := by
  induction al with
  | nil => rfl
  | cons p al ih =>
    unfold encA dGet at *
    rw [List.map_cons, List.find?_cons, getA_c]
    dsimp only
    rw [he]
    by_cases h : p.1 = a
    · simp [h]
    · simp only [h, decide_false, if_false]
      exact ih
theorem dPut_enc {ek : α → D} {ev : β → D} (he : ∀ a b, PyData.eqv (ek a) (ek b) = decide (a = b)) (al : List (α × β)) (a : α) (b : β) : dPut (encA ek ev al) (ek a) (ev b) = encA ek ev (putA al a b) := by
  have hh : dHas (encA ek ev al) (ek a) = al.any fun p => decide (p.1 = a) := by
    unfold dHas encA
    rw [List.any_map]
    congr 1
    funext p
    exact he _ _
  unfold dPut putA
  rw [hh]
  split
  · unfold encA
    rw [List.map_map, List.map_map]
    apply List.map_congr_left
    intro p _
    show (if PyData.eqv (ek p.1) (ek a) = true then _ else _) = _
    rw [he]
    by_cases h : p.1 = a <;> simp [h]
  · unfold encA
    rw [List.map_append]
    rfl
@[simp] theorem encA_n (ek : α → D) (ev : β → D) : encA ek ev [] = [] := rfl
@[simp] theorem encA_len (ek : α → D) (ev : β → D) (al : List (α × β)) : (encA ek ev al).length = al.length := by simp [encA]
/-! tallies -/
def tally (ns : List α) : List (α × Int) := ns.foldl (fun al n => putA al n ((getA al n).getD 0 + 1)) []
theorem tally_app (ns : List α) (n : α) : tally (ns ++ [n]) = putA (tally ns) n ((getA (tally ns) n).getD 0 + 1) := by
  unfold tally
  rw [List.foldl_append]
  rfl
/-- by the last one added -/
theorem snoc_ind {P : List α → Prop} (h0 : P []) (hs : ∀ l a, P l → P (l ++ [a])) (l : List α) : P l := by
  have : ∀ l : List α, P l.reverse := by
    intro l
    induction l with
    | nil => exact h0
    | cons a l ih => rw [List.reverse_cons]; exact hs _ _ ih
  have := this l.reverse
  rwa [List.reverse_reverse] at this
theorem tally_get (ns : List α) (a : α) : getA (tally ns) a = if a ∈ ns then some (ns.count a : Int) else none := by
  induction ns using snoc_ind with
  | h0 => rfl
  | hs ns n ih =>
    rw [tally_app, getA_put]
    by_cases h : n = a
    · subst h
      rw [if_pos rfl, ih, if_pos (List.mem_append_right _ List.mem_cons_self), List.count_append, List.count_cons_self, List.count_nil]
      by_cases h2 : n ∈ ns
      · rw [if_pos h2]
        simp
      · rw [if_neg h2, List.count_eq_zero_of_not_mem h2]
        simp
    · rw [if_neg h, ih]
      have e : (a ∈ ns ++ [n]) ↔ a ∈ ns := by simp [Ne.symm h, fun q => h (Eq.symm q)]
      by_cases h2 : a ∈ ns
      · rw [if_pos h2, if_pos (e.mpr h2)]
        simp [List.count_append, List.count_cons, h]
      · rw [if_neg h2, if_neg (fun q => h2 (e.mp q))]
theorem tally_keys (ns : List α) : ((tally ns).map Prod.fst).Nodup ∧ ∀ a, a ∈ (tally ns).map Prod.fst ↔ a ∈ ns := by
  induction ns using snoc_ind with
  | h0 => exact ⟨by simp [tally], fun a => by simp [tally]⟩
  | hs ns n ih =>
    rw [tally_app, putA_keys]
    by_cases h : n ∈ (tally ns).map Prod.fst
    · rw [if_pos h]
      refine ⟨ih.1, fun a => ?_⟩
      rw [ih.2 a, List.mem_append, List.mem_singleton]
      constructor
      · exact .inl
      · rintro (q | rfl)
        · exact q
        · exact (ih.2 a).mp h
    · rw [if_neg h]
      refine ⟨?_, fun a => ?_⟩
      · rw [List.nodup_append]
        exact ⟨ih.1, by simp, fun x hx y hy e => h (by rw [List.mem_singleton] at hy; rw [← hy, ← e]; exact hx)⟩
      · rw [List.mem_append, List.mem_append, ih.2 a]
theorem tally_length (ns : List α) : (tally ns).length ≤ ns.length := by
  induction ns using snoc_ind with
  | h0 => simp [tally]
  | hs ns n ih =>
    rw [tally_app, List.length_append, List.length_singleton]
    exact Nat.le_trans (putA_length _ _ _) (by omega)
end
/-- two sorted rows without doubles and with the same items -/
theorem sorted_ext {xs ys : List Str} (h1 : xs.Pairwise fun a b => leS a b = true) (h2 : ys.Pairwise fun a b => leS a b = true) (n1 : xs.Nodup) (n2 : ys.Nodup) (h : ∀ a, a ∈ xs ↔ a ∈ ys) : xs = ys := by
  refine List.Perm.eq_of_pairwise (le := fun a b => leS a b = true) (fun a b _ _ => leS_anti a b) h1 h2 ?_
  rw [List.perm_iff_count]
  intro a
  by_cases ha : a ∈ xs
  · rw [n1.count, n2.count, if_pos ha, if_pos ((h a).mp ha)]
  · rw [List.count_eq_zero_of_not_mem ha, List.count_eq_zero_of_not_mem fun q => ha ((h a).mpr q)]
end Ev

set_option Elab.async false
set_option linter.all false
set_option maxRecDepth 100000
set_option maxHeartbeats 4000000
namespace Lw
open PySem PySem.Spec PyProof.Rows L2 Ev
abbrev PW : PySem.Program := PySem.Challenge.pw_windowwright_k46_whole_windows_on_screen
def top (i : Nat) : Stmt := PW.main.body.getD i (.Pass ⟨0, 0, 0, 0⟩)
def fnAt (x : Str) (i : Nat) : He.DefD := ⟨(x, none), x, x, defArgs (top i), defBody (top i), defScope (top i), [], []⟩
def fn : List He.DefD := ([fnAt "is_whole" 7, fnAt "ascends" 8, fnAt "is_name" 9, fnAt "is_box" 12, fnAt "meet" 14, fnAt "_is_screen" 17, fnAt "are_screens" 18, fnAt "check_screens" 19, fnAt "_check" 20, fnAt "_common" 21, fnAt "_shares" 22, fnAt "shares_of" 23, fnAt "spans" 24, fnAt "home_of" 25, fnAt "lost_cells" 26] : List He.DefD) ++ ([fnAt "_held" 27, fnAt "brought_in" 28, fnAt "_law_draws" 30, fnAt "_law_screens" 31, fnAt "_law_cells" 32, fnAt "_law_word" 33, fnAt "law" 34] : List He.DefD)
def fa : List He.Fa := ([.glo "is_whole", .glo "ascends", .glo "is_name", .glo "is_box", .glo "meet", .glo "_is_screen", .glo "are_screens", .glo "check_screens", .glo "_check", .glo "_common", .glo "_shares", .glo "shares_of", .glo "spans", .glo "home_of", .glo "lost_cells"] : List He.Fa) ++ ([.glo "_held", .glo "brought_in", .glo "_law_draws", .glo "_law_screens", .glo "_law_cells", .glo "_law_word", .glo "law", .glo "WindowError", .glo "BadBox", .glo "BadScreens", .free "ValueError", .free "abs", .free "all", .free "any", .free "bool"] : List He.Fa) ++ ([.free "enumerate", .free "int", .free "isinstance", .free "len", .free "max", .free "min", .free "range", .free "sorted", .free "str", .free "sum", .free "tuple", .free "zip", .exc "WindowError", .exc "BadBox", .exc "BadScreens"] : List He.Fa) ++ ([.exm "WindowError" "BadBox" false, .exm "BadBox" "BadBox" true, .exm "BadScreens" "BadBox" false, .str "LETTERS" "abcdefghijklmnopqrstuvwxyz", .int "MOST_SIGNS" 8, .int "MOST_SIDE" 1000, .int "MOST_SCREENS" 8] : List He.Fa)
def loose : List Str := (["BadBox", "BadScreens", "LETTERS", "MOST_SCREENS", "MOST_SIDE", "MOST_SIGNS", "WindowError", "_check", "_common", "_held", "_is_screen", "_law_cells", "_law_draws", "_law_screens", "_law_word"] : List Str) ++ (["_shares", "are_screens", "ascends", "brought_in", "check_screens", "home_of", "is_box", "is_name", "is_whole", "lost_cells", "meet", "shares_of", "spans"] : List Str)
abbrev R : PySem.W.OpenRow := PySem.W.OpenLaw.row PySem.Challenge.rw_windowwright_k46_whole_windows_on_screen
abbrev hk : PySem.W.Hook := He.hookD 4 fa fn
def ob (s : PySem.W.SharedT) : He.AlD := He.obsDG 4 fa fn (HandSHeadRun.getT s)
theorem ob_eq (s : PySem.W.SharedT) : ob s = hk.obs s.abs := He.obsDG_eq (HandSHeadRun.getT_eq s)
def exN : List Str := (["WindowError", "BadBox", "BadScreens"] : List Str)
def kt : List D := []
abbrev G (W : Wd) : Gx := Gof W.K exN kt
theorem t1_BadBox (W : Wd) : ∀ c, (fun x => (["BadBox"] : List Str).contains x) c = true → (G W).ca c ≠ none := fun c h e => by
  have hm : c ∈ (["BadBox"] : List Str) := List.contains_iff_mem.mp h
  have he : exN.contains c = true := List.contains_iff_mem.mpr ((by decide +kernel : ∀ x ∈ (["BadBox"] : List Str), x ∈ exN) c hm)
  unfold G Gof caN at e
  dsimp only at e
  rw [if_pos he] at e
  cases e
theorem t2_BadBox {W : Wd} (c : He.SaysD fa fn W.K) : ∀ n C, (G W).ca n = some C → PySem.W.exmOne W.K (.ref C) (.ref (He.ga W.K "BadBox")) = some ((fun x => (["BadBox"] : List Str).contains x) n) := fun n C h => by
  unfold G Gof caN at h
  dsimp only at h
  split at h
  case isFalse => cases h
  rename_i hn
  cases h
  have hm : n ∈ exN := List.contains_iff_mem.mp hn
  simp only [exN, List.append_nil, List.mem_cons, List.not_mem_nil, or_false] at hm
  rcases hm with rfl | rfl | rfl
  · exact He.exm_ok (c.fact 45 (f := .exm "WindowError" "BadBox" false) rfl)
  · exact He.exm_ok (c.fact 46 (f := .exm "BadBox" "BadBox" true) rfl)
  · exact He.exm_ok (c.fact 47 (f := .exm "BadScreens" "BadBox" false) rfl)
end Lw

set_option Elab.async false
set_option linter.all false
set_option maxRecDepth 100000
set_option maxHeartbeats 4000000
namespace Lw
open PySem PySem.Spec PyProof.Rows L2 Ev
theorem run (w : World) : HandSHeadRun.RunEq R (PySem.W.view R.prog [34]) hk ob 3000 loose w := by
  intro os
  kernel_rfl
end Lw

set_option Elab.async false
set_option linter.all false
set_option maxRecDepth 100000
set_option maxHeartbeats 4000000
namespace Lw
open PySem PySem.Spec PyProof.Rows L2 Ev
/-! ### is_whole: names 0:value 1:least 2:most -/
def s_is_whole : Sx := (sRet (eAnd (e1 (pIsi "int") (eV 0)) (eAnd (eNot (e1 (pIsi "bool") (eV 0))) (eCh pLe pLe (eV 1) (eV 0) (eV 2)))))
def f_is_whole : Fn := mkFn 3 3 s_is_whole
theorem sc_is_whole : FnScope (["value", "least", "most"] : List Str) (["value", "least", "most"] : List Str) (defScope (top 7)) := ⟨rfl, rfl, rfl, by decide +kernel, rfl, by decide +kernel, by decide +kernel⟩
theorem ok_is_whole (W : Wd) (c : He.SaysD fa fn W.K) : Callee W.P W.w W.K W.mg W.base (G W) 1 "is_whole" .sh f_is_whole := by
  obtain ⟨fd, F⟩ := c.def_ 0 (d := fnAt "is_whole" 7) rfl
  have g_ := Wd.glo (x := "is_whole") c 0 rfl
  have m_bool : W.mg "bool" = none := Wd.free c 29 rfl
  have m_int : W.mg "int" = none := Wd.free c 31 rfl
  have m_isinstance : W.mg "isinstance" = none := Wd.free c 32 rfl
  refine fn_callee (P := W.P) (w := W.w) (K := W.K) (mg := W.mg) (base := W.base) (G := G W) (k := 0) (rm := .sh) (sx := s_is_whole) (N := (["value", "least", "most"] : List Str)) (ps := (["value", "least", "most"] : List Str)) rfl F g_ sc_is_whole (fun _ _ _ _ _ _ us hl => match us, hl with | [_, _, _], _ => rfl) ?_
  intro cdv A outer s H S E z
  exact (dss_one (ds_ret (de_and (de_isi z.toCy (DE.bor (de_v 0)) m_isinstance rfl m_int rfl) (de_and (de_not z.toCy (de_isi z.toCy (DE.bor (de_v 0)) m_isinstance rfl m_bool rfl)) (de_and1 (DE.frz (de_chain .le .le z.toCy (DE.bor (de_v 1)) (DE.bor (de_v 0)) (DE.bor (de_v 2)))))))))
/-! ### ascends: names 0:values 1:one 2:later -/
def s_ascends : Sx := (sRet (eBi bAll (aCons (eLc (iRng seq2 (aCons (eV 0) (aCons (eSl (eV 0) (oSome (eC (.int 1))) oNo) aNil))) [1, 2] (gT 2 (gsCons (gN 1) (gsCons (gN 2) gsNil))) tYesS (e2 pLt (eV 1) (eV 2))) aNil)))
def f_ascends : Fn := mkFn 1 3 s_ascends
theorem sc_ascends : FnScope (["values", "one", "later"] : List Str) (["values"] : List Str) (defScope (top 8)) := ⟨rfl, rfl, rfl, by decide +kernel, rfl, by decide +kernel, by decide +kernel⟩
theorem ok_ascends (W : Wd) (c : He.SaysD fa fn W.K) : Callee W.P W.w W.K W.mg W.base (G W) 1 "ascends" .sh f_ascends := by
  obtain ⟨fd, F⟩ := c.def_ 1 (d := fnAt "ascends" 8) rfl
  have g_ := Wd.glo (x := "ascends") c 1 rfl
  have m_all : W.mg "all" = none := Wd.free c 27 rfl
  have m_zip : W.mg "zip" = none := Wd.free c 41 rfl
  refine fn_callee (P := W.P) (w := W.w) (K := W.K) (mg := W.mg) (base := W.base) (G := G W) (k := 0) (rm := .sh) (sx := s_ascends) (N := (["values", "one", "later"] : List Str)) (ps := (["values"] : List Str)) rfl F g_ sc_ascends (fun _ _ _ _ _ _ us hl => match us, hl with | [_], _ => rfl) ?_
  intro cdv A outer s H S E z
  exact (dss_one (ds_ret (DE.frz (de_bi (cb_all z.toCy.calm) m_all rfl (da_cons (DE.bor (DE.frz (de_lc [("one", 1), ("later", 2)] z.toCy (di_zip (m := .bo) z.toCy (.inr rfl) m_zip (da_cons (DE.bor (de_v 0)) (da_cons (DE.bor (DE.frz (de_sl z.toCy (DE.bor (de_v 0)) (do_some de_int) do_no))) da_nil))) (fun _ _ _ _ _ c1 => ⟨(dg_t c1 (dgs_cons (dg_n 1 c1) (dgs_cons (dg_n 2 c1) dgs_nil))), dts_nil, (DE.frz (de_cmp .lt c1 (DE.bor (de_v 1)) (DE.bor (de_v 2))))⟩) (blkOk_by (by rfl))))) da_nil)))))
/-! ### is_name: names 0:value 1:sign -/
def s_is_name : Sx := (sRet (eAnd (e1 (pIsi "str") (eV 0)) (eAnd (eCh pLe pLe (eC (.int 1)) (eBi bLen (aCons (eV 0) aNil)) (eC (.int 8))) (eBi bAll (aCons (eLc (iSeq (eV 0)) [1] (gN 1) tYesS (e2 (pIn kt) (eV 1) (eC (.str "abcdefghijklmnopqrstuvwxyz")))) aNil)))))
def f_is_name : Fn := mkFn 1 2 s_is_name
theorem sc_is_name : FnScope (["value", "sign"] : List Str) (["value"] : List Str) (defScope (top 9)) := ⟨rfl, rfl, rfl, by decide +kernel, rfl, by decide +kernel, by decide +kernel⟩
theorem ok_is_name (W : Wd) (c : He.SaysD fa fn W.K) : Callee W.P W.w W.K W.mg W.base (G W) 1 "is_name" .sh f_is_name := by
  obtain ⟨fd, F⟩ := c.def_ 2 (d := fnAt "is_name" 9) rfl
  have g_ := Wd.glo (x := "is_name") c 2 rfl
  have m_all : W.mg "all" = none := Wd.free c 27 rfl
  have m_isinstance : W.mg "isinstance" = none := Wd.free c 32 rfl
  have m_len : W.mg "len" = none := Wd.free c 33 rfl
  have m_str : W.mg "str" = none := Wd.free c 38 rfl
  obtain ⟨u_MOST_SIGNS, e_MOST_SIGNS, r_MOST_SIGNS⟩ := Wd.int (x := "MOST_SIGNS") (n := 8) c 49 rfl
  obtain ⟨u_LETTERS, e_LETTERS, r_LETTERS⟩ := Wd.str (x := "LETTERS") (z := "abcdefghijklmnopqrstuvwxyz") c 48 rfl
  refine fn_callee (P := W.P) (w := W.w) (K := W.K) (mg := W.mg) (base := W.base) (G := G W) (k := 0) (rm := .sh) (sx := s_is_name) (N := (["value", "sign"] : List Str)) (ps := (["value"] : List Str)) rfl F g_ sc_is_name (fun _ _ _ _ _ _ us hl => match us, hl with | [_], _ => rfl) ?_
  intro cdv A outer s H S E z
  exact (dss_one (ds_ret (de_and (de_isi z.toCy (DE.bor (de_v 0)) m_isinstance rfl m_str rfl) (de_and (DE.bor (DE.frz (de_chain .le .le z.toCy de_int (DE.bor (DE.frz (de_bi (cb_len z.toCy.K) m_len rfl (da_cons (DE.bor (de_v 0)) da_nil)))) (de_gint e_MOST_SIGNS r_MOST_SIGNS)))) (de_and1 (DE.frz (de_bi (cb_all z.toCy.calm) m_all rfl (da_cons (DE.bor (DE.frz (de_lc [("sign", 1)] z.toCy (di_seq (m := .bo) z.toCy (.inr rfl) (DE.bor (de_v 0))) (fun _ _ _ _ _ c1 => ⟨(dg_n 1 c1), dts_nil, (DE.frz (de_cmp .isin c1 (DE.bor (de_v 1)) (de_gstr e_LETTERS r_LETTERS (by decide +kernel))))⟩) (blkOk_by (by rfl))))) da_nil))))))))
/-! ### meet: names 0:box 1:other 2:is_wide -/
def s_meet : Sx := (sSeq (sSet 2 (e2 pLt (eBi bMax (aCons (e2 (pIx kt) (eV 0) (eC (.int 0))) (aCons (e2 (pIx kt) (eV 1) (eC (.int 0))) aNil))) (eBi bMin (aCons (e2 pAdd (e2 (pIx kt) (eV 0) (eC (.int 0))) (e2 (pIx kt) (eV 0) (eC (.int 2)))) (aCons (e2 pAdd (e2 (pIx kt) (eV 1) (eC (.int 0))) (e2 (pIx kt) (eV 1) (eC (.int 2)))) aNil))))) (sRet (eAnd (eV 2) (e2 pLt (eBi bMax (aCons (e2 (pIx kt) (eV 0) (eC (.int 1))) (aCons (e2 (pIx kt) (eV 1) (eC (.int 1))) aNil))) (eBi bMin (aCons (e2 pAdd (e2 (pIx kt) (eV 0) (eC (.int 1))) (e2 (pIx kt) (eV 0) (eC (.int 3)))) (aCons (e2 pAdd (e2 (pIx kt) (eV 1) (eC (.int 1))) (e2 (pIx kt) (eV 1) (eC (.int 3)))) aNil)))))))
def f_meet : Fn := mkFn 2 3 s_meet
theorem sc_meet : FnScope (["box", "other", "is_wide"] : List Str) (["box", "other"] : List Str) (defScope (top 14)) := ⟨rfl, rfl, rfl, by decide +kernel, rfl, by decide +kernel, by decide +kernel⟩
theorem ok_meet (W : Wd) (c : He.SaysD fa fn W.K) : Callee W.P W.w W.K W.mg W.base (G W) 1 "meet" .sh f_meet := by
  obtain ⟨fd, F⟩ := c.def_ 4 (d := fnAt "meet" 14) rfl
  have g_ := Wd.glo (x := "meet") c 4 rfl
  have m_max : W.mg "max" = none := Wd.free c 34 rfl
  have m_min : W.mg "min" = none := Wd.free c 35 rfl
  refine fn_callee (P := W.P) (w := W.w) (K := W.K) (mg := W.mg) (base := W.base) (G := G W) (k := 0) (rm := .sh) (sx := s_meet) (N := (["box", "other", "is_wide"] : List Str)) (ps := (["box", "other"] : List Str)) rfl F g_ sc_meet (fun _ _ _ _ _ _ us hl => match us, hl with | [_, _], _ => rfl) ?_
  intro cdv A outer s H S E z
  exact (dss_cons (ds_set 2 z.toCy (DE.frz (de_cmp .lt z.toCy (DE.bor (DE.frz (de_bi (cb_max z.toCy.calm) m_max rfl (da_cons (DE.bor (de_ix z.toCy (DE.glo (DE.bor (de_v 0))) de_int)) (da_cons (DE.bor (de_ix z.toCy (DE.glo (DE.bor (de_v 1))) de_int)) da_nil))))) (DE.bor (de_bi (cb_min z.toCy.K z.toCy.calm z.toCy.u80) m_min rfl (da_cons (DE.bor (DE.frz (de_op .add z.toCy (DE.bor (de_ix z.toCy (DE.glo (DE.bor (de_v 0))) de_int)) (DE.bor (de_ix z.toCy (DE.glo (DE.bor (de_v 0))) de_int))))) (da_cons (DE.bor (DE.frz (de_op .add z.toCy (DE.bor (de_ix z.toCy (DE.glo (DE.bor (de_v 1))) de_int)) (DE.bor (de_ix z.toCy (DE.glo (DE.bor (de_v 1))) de_int))))) da_nil)))))))
  (dss_one (ds_ret (de_and (DE.bor (de_v 2)) (de_and1 (DE.frz (de_cmp .lt z.toCy (DE.bor (DE.frz (de_bi (cb_max z.toCy.calm) m_max rfl (da_cons (DE.bor (de_ix z.toCy (DE.glo (DE.bor (de_v 0))) de_int)) (da_cons (DE.bor (de_ix z.toCy (DE.glo (DE.bor (de_v 1))) de_int)) da_nil))))) (DE.bor (de_bi (cb_min z.toCy.K z.toCy.calm z.toCy.u80) m_min rfl (da_cons (DE.bor (DE.frz (de_op .add z.toCy (DE.bor (de_ix z.toCy (DE.glo (DE.bor (de_v 0))) de_int)) (DE.bor (de_ix z.toCy (DE.glo (DE.bor (de_v 0))) de_int))))) (da_cons (DE.bor (DE.frz (de_op .add z.toCy (DE.bor (de_ix z.toCy (DE.glo (DE.bor (de_v 1))) de_int)) (DE.bor (de_ix z.toCy (DE.glo (DE.bor (de_v 1))) de_int))))) da_nil)))))))))))
/-! ### _common: names 0:box 1:other 2:width 3:height -/
def s__common : Sx := (sSeq (sSet 2 (e2 pSub (eBi bMin (aCons (e2 pAdd (e2 (pIx kt) (eV 0) (eC (.int 0))) (e2 (pIx kt) (eV 0) (eC (.int 2)))) (aCons (e2 pAdd (e2 (pIx kt) (eV 1) (eC (.int 0))) (e2 (pIx kt) (eV 1) (eC (.int 2)))) aNil))) (eBi bMax (aCons (e2 (pIx kt) (eV 0) (eC (.int 0))) (aCons (e2 (pIx kt) (eV 1) (eC (.int 0))) aNil))))) (sSeq (sSet 3 (e2 pSub (eBi bMin (aCons (e2 pAdd (e2 (pIx kt) (eV 0) (eC (.int 1))) (e2 (pIx kt) (eV 0) (eC (.int 3)))) (aCons (e2 pAdd (e2 (pIx kt) (eV 1) (eC (.int 1))) (e2 (pIx kt) (eV 1) (eC (.int 3)))) aNil))) (eBi bMax (aCons (e2 (pIx kt) (eV 0) (eC (.int 1))) (aCons (e2 (pIx kt) (eV 1) (eC (.int 1))) aNil))))) (sRet (e2 pMul (eBi bMax (aCons (eC (.int 0)) (aCons (eV 2) aNil))) (eBi bMax (aCons (eC (.int 0)) (aCons (eV 3) aNil)))))))
def f__common : Fn := mkFn 2 4 s__common
theorem sc__common : FnScope (["box", "other", "width", "height"] : List Str) (["box", "other"] : List Str) (defScope (top 21)) := ⟨rfl, rfl, rfl, by decide +kernel, rfl, by decide +kernel, by decide +kernel⟩
theorem ok__common (W : Wd) (c : He.SaysD fa fn W.K) : Callee W.P W.w W.K W.mg W.base (G W) 1 "_common" .sh f__common := by
  obtain ⟨fd, F⟩ := c.def_ 9 (d := fnAt "_common" 21) rfl
  have g_ := Wd.glo (x := "_common") c 9 rfl
  have m_max : W.mg "max" = none := Wd.free c 34 rfl
  have m_min : W.mg "min" = none := Wd.free c 35 rfl
  refine fn_callee (P := W.P) (w := W.w) (K := W.K) (mg := W.mg) (base := W.base) (G := G W) (k := 0) (rm := .sh) (sx := s__common) (N := (["box", "other", "width", "height"] : List Str)) (ps := (["box", "other"] : List Str)) rfl F g_ sc__common (fun _ _ _ _ _ _ us hl => match us, hl with | [_, _], _ => rfl) ?_
  intro cdv A outer s H S E z
  exact (dss_cons (ds_set 2 z.toCy (DE.frz (de_op .sub z.toCy (DE.bor (de_bi (cb_min z.toCy.K z.toCy.calm z.toCy.u80) m_min rfl (da_cons (DE.bor (DE.frz (de_op .add z.toCy (DE.bor (de_ix z.toCy (DE.glo (DE.bor (de_v 0))) de_int)) (DE.bor (de_ix z.toCy (DE.glo (DE.bor (de_v 0))) de_int))))) (da_cons (DE.bor (DE.frz (de_op .add z.toCy (DE.bor (de_ix z.toCy (DE.glo (DE.bor (de_v 1))) de_int)) (DE.bor (de_ix z.toCy (DE.glo (DE.bor (de_v 1))) de_int))))) da_nil)))) (DE.bor (DE.frz (de_bi (cb_max z.toCy.calm) m_max rfl (da_cons (DE.bor (de_ix z.toCy (DE.glo (DE.bor (de_v 0))) de_int)) (da_cons (DE.bor (de_ix z.toCy (DE.glo (DE.bor (de_v 1))) de_int)) da_nil))))))))
  (dss_cons (ds_set 3 z.toCy (DE.frz (de_op .sub z.toCy (DE.bor (de_bi (cb_min z.toCy.K z.toCy.calm z.toCy.u80) m_min rfl (da_cons (DE.bor (DE.frz (de_op .add z.toCy (DE.bor (de_ix z.toCy (DE.glo (DE.bor (de_v 0))) de_int)) (DE.bor (de_ix z.toCy (DE.glo (DE.bor (de_v 0))) de_int))))) (da_cons (DE.bor (DE.frz (de_op .add z.toCy (DE.bor (de_ix z.toCy (DE.glo (DE.bor (de_v 1))) de_int)) (DE.bor (de_ix z.toCy (DE.glo (DE.bor (de_v 1))) de_int))))) da_nil)))) (DE.bor (DE.frz (de_bi (cb_max z.toCy.calm) m_max rfl (da_cons (DE.bor (de_ix z.toCy (DE.glo (DE.bor (de_v 0))) de_int)) (da_cons (DE.bor (de_ix z.toCy (DE.glo (DE.bor (de_v 1))) de_int)) da_nil))))))))
  (dss_one (ds_ret (DE.frz (de_op .mul z.toCy (DE.bor (DE.frz (de_bi (cb_max z.toCy.calm) m_max rfl (da_cons de_int (da_cons (DE.bor (de_v 2)) da_nil))))) (DE.bor (DE.frz (de_bi (cb_max z.toCy.calm) m_max rfl (da_cons de_int (da_cons (DE.bor (de_v 3)) da_nil)))))))))))
/-! ### _held: names 0:start 1:size 2:first 3:room -/
def s__held : Sx := (sRet (eBi bMin (aCons (eBi bMax (aCons (eV 0) (aCons (eV 2) aNil))) (aCons (e2 pSub (e2 pAdd (eV 2) (eV 3)) (eV 1)) aNil))))
def f__held : Fn := mkFn 4 4 s__held
theorem sc__held : FnScope (["start", "size", "first", "room"] : List Str) (["start", "size", "first", "room"] : List Str) (defScope (top 27)) := ⟨rfl, rfl, rfl, by decide +kernel, rfl, by decide +kernel, by decide +kernel⟩
theorem ok__held (W : Wd) (c : He.SaysD fa fn W.K) : Callee W.P W.w W.K W.mg W.base (G W) 1 "_held" .sh f__held := by
  obtain ⟨fd, F⟩ := c.def_ 15 (d := fnAt "_held" 27) rfl
  have g_ := Wd.glo (x := "_held") c 15 rfl
  have m_max : W.mg "max" = none := Wd.free c 34 rfl
  have m_min : W.mg "min" = none := Wd.free c 35 rfl
  refine fn_callee (P := W.P) (w := W.w) (K := W.K) (mg := W.mg) (base := W.base) (G := G W) (k := 0) (rm := .sh) (sx := s__held) (N := (["start", "size", "first", "room"] : List Str)) (ps := (["start", "size", "first", "room"] : List Str)) rfl F g_ sc__held (fun _ _ _ _ _ _ us hl => match us, hl with | [_, _, _, _], _ => rfl) ?_
  intro cdv A outer s H S E z
  exact (dss_one (ds_ret (de_bi (cb_min z.toCy.K z.toCy.calm z.toCy.u80) m_min rfl (da_cons (DE.bor (DE.frz (de_bi (cb_max z.toCy.calm) m_max rfl (da_cons (DE.bor (de_v 0)) (da_cons (DE.bor (de_v 2)) da_nil))))) (da_cons (DE.bor (DE.frz (de_op .sub z.toCy (DE.bor (DE.frz (de_op .add z.toCy (DE.bor (de_v 2)) (DE.bor (de_v 3))))) (DE.bor (de_v 1))))) da_nil)))))
/-! ### _law_draws: names 0:script 1:many 2:draws 3:seed 4:cell 5:k 6:number -/
def b__law_draws_1 : Sx := (sIf (tB (e2 pGt (eV 6) (eC (.int 0)))) (sSeq (sApp 2 (e2 pMod (eBi bInt (aCons (eV 6) aNil)) (eC (.int 1009)))) (sSet 6 (e2 pFdiv (eV 6) (eC (.int 1009))))) sNx)
def b__law_draws_2 : Sx := (sSeq (sSet 6 (eBi bAbs (aCons (eV 4) aNil))) (sSeq (sSet 3 (e2 pMod (eBi bInt (aCons (e2 pAdd (e2 pAdd (e2 pMul (eV 3) (eC (.int 48271))) (eV 6)) (eC (.int 11))) aNil)) (eC (.int 2147483647)))) (sIf (tB (e2 pGe (eV 6) (e2 pPow (eC (.int 10)) (eC (.int 18))))) (sFor (iRng rng1 (aCons (eC (.int 60)) aNil)) (gN 5) b__law_draws_1) (sApp 2 (e2 pMod (e2 pFdiv (eBi bInt (aCons (e2 pAdd (e2 pMul (eV 3) (eC (.int 16807))) (eC (.int 5))) aNil)) (eC (.int 3))) (eC (.int 65521)))))))
def b__law_draws_3 : Sx := (sIf (tB (e2 pLt (eBi bLen (aCons (eB 2) aNil)) (eV 1))) (sSeq (sSet 3 (e2 pMod (eBi bInt (aCons (e2 pAdd (e2 pAdd (e2 pMul (eV 3) (eC (.int 69621))) (eV 5)) (eC (.int 1))) aNil)) (eC (.int 2147483647)))) (sApp 2 (e2 pMod (e2 pFdiv (eBi bInt (aCons (eV 3) aNil)) (eC (.int 7))) (eC (.int 65521))))) sNx)
def s__law_draws : Sx := (sSeq (sOwn 2 (eLst aNil)) (sSeq (sSet 3 (eC (.int 7))) (sSeq (sFor (iSeq (eSlB 0 oNo (oSome (eC (.int 63))))) (gN 4) b__law_draws_2) (sSeq (sFor (iRng rng1 (aCons (eV 1) aNil)) (gN 5) b__law_draws_3) (sRet (eSl (eB 2) oNo (oSome (eV 1))))))))
def f__law_draws : Fn := mkFnB 2 7 s__law_draws
theorem sc__law_draws : FnScope (["script", "many", "draws", "seed", "cell", "k", "number"] : List Str) (["script", "many"] : List Str) (defScope (top 30)) := ⟨rfl, rfl, rfl, by decide +kernel, rfl, by decide +kernel, by decide +kernel⟩
theorem ok__law_draws (W : Wd) (c : He.SaysD fa fn W.K) : CalleeB W.P W.w W.K W.mg W.base (G W) 1 "_law_draws" .sh f__law_draws := by
  obtain ⟨fd, F⟩ := c.def_ 17 (d := fnAt "_law_draws" 30) rfl
  have g_ := Wd.glo (x := "_law_draws") c 17 rfl
  have m_abs : W.mg "abs" = none := Wd.free c 26 rfl
  have m_int : W.mg "int" = none := Wd.free c 31 rfl
  have m_len : W.mg "len" = none := Wd.free c 33 rfl
  have m_range : W.mg "range" = none := Wd.free c 36 rfl
  refine ⟨_, fd, _, g_, F.kp, F.bindsN (ps := (["script", "many"] : List Str)) (fun _ _ _ _ _ _ us hl => match us, hl with | [_, _], _ => rfl), fn_calleeB (P := W.P) (w := W.w) (K := W.K) (mg := W.mg) (base := W.base) (G := G W) (k := 0) (rm := .sh) (sx := s__law_draws) (N := (["script", "many", "draws", "seed", "cell", "k", "number"] : List Str)) (ps := (["script", "many"] : List Str)) rfl F g_ sc__law_draws (fun _ _ _ _ _ _ us hl => match us, hl with | [_, _], _ => rfl) ?_⟩
  intro cdv A outer s H S E z
  exact (dss_cons (ds_own 2 z.toCy (de_lst da_nil))
  (dss_cons (ds_set 3 z.toCy de_int)
  (dss_cons (ds_for z (di_seq (m := .sh) z.toCy (.inl rfl) (DE.frz (de_slB 0 z.toCy do_no (do_some de_int)))) (dg_n 4 z.toCy) (dss_cons (ds_set 6 z.toCy (DE.frz (de_bi cb_abs m_abs rfl (da_cons (DE.bor (de_v 4)) da_nil))))
  (dss_cons (ds_set 3 z.toCy (DE.frz (de_op .mod z.toCy (DE.bor (DE.frz (de_ty cb_int m_int rfl (da_cons (DE.bor (DE.frz (de_op .add z.toCy (DE.bor (DE.frz (de_op .add z.toCy (DE.bor (DE.frz (de_op .mul z.toCy (DE.bor (de_v 3)) de_int))) (DE.bor (de_v 6))))) de_int))) da_nil)))) de_int)))
  (dss_one (ds_if (dt_cmp .ge z.toCy (DE.bor (de_v 6)) (DE.bor (DE.frz (de_op .pow z.toCy de_int de_int)))) (dss_one (ds_for z (di_rng1 m_range (da_cons de_int da_nil)) (dg_n 5 z.toCy) (dss_one (ds_if (dt_cmp .gt z.toCy (DE.bor (de_v 6)) de_int) (dss_cons (ds_app 2 (DE.frz (de_op .mod z.toCy (DE.bor (DE.frz (de_ty cb_int m_int rfl (da_cons (DE.bor (de_v 6)) da_nil)))) de_int)))
  (dss_one (ds_set 6 z.toCy (DE.frz (de_op .fdiv z.toCy (DE.bor (de_v 6)) de_int))))) dss_nil)))) (dss_one (ds_app 2 (DE.frz (de_op .mod z.toCy (DE.bor (DE.frz (de_op .fdiv z.toCy (DE.bor (DE.frz (de_ty cb_int m_int rfl (da_cons (DE.bor (DE.frz (de_op .add z.toCy (DE.bor (DE.frz (de_op .mul z.toCy (DE.bor (de_v 3)) de_int))) de_int))) da_nil)))) de_int))) de_int)))))))))
  (dss_cons (ds_for z (di_rng1 m_range (da_cons (DE.bor (de_v 1)) da_nil)) (dg_n 5 z.toCy) (dss_one (ds_if (dt_cmp .lt z.toCy (DE.bor (DE.frz (de_bi (cb_len z.toCy.K) m_len rfl (da_cons (de_b 2) da_nil)))) (DE.bor (de_v 1))) (dss_cons (ds_set 3 z.toCy (DE.frz (de_op .mod z.toCy (DE.bor (DE.frz (de_ty cb_int m_int rfl (da_cons (DE.bor (DE.frz (de_op .add z.toCy (DE.bor (DE.frz (de_op .add z.toCy (DE.bor (DE.frz (de_op .mul z.toCy (DE.bor (de_v 3)) de_int))) (DE.bor (de_v 5))))) de_int))) da_nil)))) de_int)))
  (dss_one (ds_app 2 (DE.frz (de_op .mod z.toCy (DE.bor (DE.frz (de_op .fdiv z.toCy (DE.bor (DE.frz (de_ty cb_int m_int rfl (da_cons (DE.bor (de_v 3)) da_nil)))) de_int))) de_int))))) dss_nil)))
  (dss_one (ds_ret (DE.frz (de_sl z.toCy (de_b 2) do_no (do_some (DE.bor (de_v 1)))))))))))
/-! ### _law_screens: names 0:draws 1:at 2:most 3:k 4:found 5:taken 6:draw 7:cells 8:column 9:width 10:height 11:left 12:top 13:box 14:row 15:cell -/
def i__law_screens_1 : Sx := (sIf (tAndS (tB (e2 pGt (eBi bLen (aCons (eV 4) aNil)) (eC (.int 0)))) (tB (e2 pGt (e2 pMod (e2 pFdiv (eV 6) (eC (.int 504))) (eC (.int 3))) (eC (.int 0))))) (sSeq (sSet 13 (e2 (pIx kt) (e2 (pIx kt) (eV 4) (e2 pMod (e2 pFdiv (eV 6) (eC (.int 1512))) (eBi bLen (aCons (eV 4) aNil)))) (eC (.int 1)))) (sUnp (gT 2 (gsCons (gN 11) (gsCons (gN 12) gsNil))) (e2 (pIx kt) (eLst (aCons (eTup (aCons (e2 pAdd (e2 (pIx kt) (eV 13) (eC (.int 0))) (e2 (pIx kt) (eV 13) (eC (.int 2)))) (aCons (e2 pAdd (e2 (pIx kt) (eV 13) (eC (.int 1))) (e2 pMod (eV 6) (eC (.int 2)))) aNil))) (aCons (eTup (aCons (e2 (pIx kt) (eV 13) (eC (.int 0))) (aCons (e2 pAdd (e2 (pIx kt) (eV 13) (eC (.int 1))) (e2 (pIx kt) (eV 13) (eC (.int 3)))) aNil))) (aCons (eTup (aCons (e2 pAdd (e2 (pIx kt) (eV 13) (eC (.int 0))) (e2 (pIx kt) (eV 13) (eC (.int 2)))) (aCons (e2 (pIx kt) (eV 13) (eC (.int 1))) aNil))) (aCons (eTup (aCons (e2 pAdd (e2 (pIx kt) (eV 13) (eC (.int 0))) (eC (.int 1))) (aCons (e2 pAdd (e2 (pIx kt) (eV 13) (eC (.int 1))) (e2 (pIx kt) (eV 13) (eC (.int 3)))) aNil))) aNil))))) (e2 pMod (e2 pFdiv (eV 6) (eC (.int 504))) (eC (.int 4)))))) sNx)
def b__law_screens_1 : Sx := (sSet 7 (e2 pAdd (eV 7) (eLc (iRng rng2 (aCons (eV 12) (aCons (e2 pAdd (eV 12) (eV 10)) aNil))) [14] (gN 14) tYesS (eTup (aCons (eV 8) (aCons (eV 14) aNil))))))
def i__law_screens_2 : Sx := (sIf (tNotS (tV (eBi bAny (aCons (eLc (iSeq (eV 7)) [15] (gN 15) tYesS (e2 (pIn kt) (eV 15) (eV 5))) aNil)))) (sUnp (gT 2 (gsCons (gN 4) (gsCons (gN 5) gsNil))) (eTup (aCons (e2 pAdd (eV 4) (eTup (aCons (eTup (aCons (e2 (pIx kt) (eC (.str "stuvw")) (eV 3)) (aCons (eTup (aCons (eV 11) (aCons (eV 12) (aCons (eV 9) (aCons (eV 10) aNil))))) aNil))) aNil))) (aCons (e2 pAdd (eV 5) (eV 7)) aNil)))) sNx)
def b__law_screens_2 : Sx := (sSeq (sSet 6 (e2 pMod (eBi bInt (aCons (e2 (pIx kt) (eV 0) (e2 pAdd (e2 pAdd (eV 1) (eC (.int 1))) (eV 3))) aNil)) (eC (.int 65521)))) (sSeq (sPar 9 10 (aCons (e2 pAdd (eC (.int 1)) (e2 pMod (eV 6) (eC (.int 4)))) (aCons (e2 pAdd (eC (.int 1)) (e2 pMod (e2 pFdiv (eV 6) (eC (.int 4))) (eC (.int 3)))) aNil))) (sSeq (sPar 11 12 (aCons (e2 pMod (e2 pFdiv (eV 6) (eC (.int 12))) (eC (.int 7))) (aCons (e2 pMod (e2 pFdiv (eV 6) (eC (.int 84))) (eC (.int 6))) aNil))) (sSeq i__law_screens_1 (sSeq (sSet 7 (eLst aNil)) (sSeq (sFor (iRng rng2 (aCons (eV 11) (aCons (e2 pAdd (eV 11) (eV 9)) aNil))) (gN 8) b__law_screens_1) i__law_screens_2))))))
def s__law_screens : Sx := (sSeq (sUnp (gT 2 (gsCons (gN 4) (gsCons (gN 5) gsNil))) (eTup (aCons (eTup aNil) (aCons (eLst aNil) aNil)))) (sSeq (sFor (iRng rng1 (aCons (e2 pAdd (eC (.int 1)) (e2 pMod (eBi bInt (aCons (e2 (pIx kt) (eV 0) (eV 1)) aNil)) (eV 2))) aNil)) (gN 3) b__law_screens_2) (sRet (eV 4))))
def f__law_screens : Fn := mkFn 3 16 s__law_screens
theorem sc__law_screens : FnScope (["draws", "at", "most", "k", "found", "taken", "draw", "cells", "column", "width", "height", "left", "top", "box", "row", "cell"] : List Str) (["draws", "at", "most"] : List Str) (defScope (top 31)) := ⟨rfl, rfl, rfl, by decide +kernel, rfl, by decide +kernel, by decide +kernel⟩
theorem ok__law_screens (W : Wd) (c : He.SaysD fa fn W.K) : Callee W.P W.w W.K W.mg W.base (G W) 1 "_law_screens" .sh f__law_screens := by
  obtain ⟨fd, F⟩ := c.def_ 18 (d := fnAt "_law_screens" 31) rfl
  have g_ := Wd.glo (x := "_law_screens") c 18 rfl
  have m_any : W.mg "any" = none := Wd.free c 28 rfl
  have m_int : W.mg "int" = none := Wd.free c 31 rfl
  have m_len : W.mg "len" = none := Wd.free c 33 rfl
  have m_range : W.mg "range" = none := Wd.free c 36 rfl
  refine fn_callee (P := W.P) (w := W.w) (K := W.K) (mg := W.mg) (base := W.base) (G := G W) (k := 0) (rm := .sh) (sx := s__law_screens) (N := (["draws", "at", "most", "k", "found", "taken", "draw", "cells", "column", "width", "height", "left", "top", "box", "row", "cell"] : List Str)) (ps := (["draws", "at", "most"] : List Str)) rfl F g_ sc__law_screens (fun _ _ _ _ _ _ us hl => match us, hl with | [_, _, _], _ => rfl) ?_
  intro cdv A outer s H S E z
  exact (dss_cons (ds_unp (de_tup (da_cons (de_tup da_nil) (da_cons (DE.frz (de_lst da_nil)) da_nil))) (dg_t z.toCy (dgs_cons (dg_n 4 z.toCy) (dgs_cons (dg_n 5 z.toCy) dgs_nil))))
  (dss_cons (ds_for z (di_rng1 m_range (da_cons (DE.bor (DE.frz (de_op .add z.toCy de_int (DE.bor (DE.frz (de_op .mod z.toCy (DE.bor (DE.frz (de_ty cb_int m_int rfl (da_cons (DE.bor (de_ix z.toCy (DE.glo (DE.bor (de_v 0))) (DE.bor (de_v 1)))) da_nil)))) (DE.bor (de_v 2)))))))) da_nil)) (dg_n 3 z.toCy) (dss_cons (ds_set 6 z.toCy (DE.frz (de_op .mod z.toCy (DE.bor (DE.frz (de_ty cb_int m_int rfl (da_cons (DE.bor (de_ix z.toCy (DE.glo (DE.bor (de_v 0))) (DE.bor (DE.frz (de_op .add z.toCy (DE.bor (DE.frz (de_op .add z.toCy (DE.bor (de_v 1)) de_int))) (DE.bor (de_v 3))))))) da_nil)))) de_int)))
  (dss_cons (ds_par 9 10 z.toCy (da_cons (DE.frz (de_op .add z.toCy de_int (DE.bor (DE.frz (de_op .mod z.toCy (DE.bor (de_v 6)) de_int))))) (da_cons (DE.frz (de_op .add z.toCy de_int (DE.bor (DE.frz (de_op .mod z.toCy (DE.bor (DE.frz (de_op .fdiv z.toCy (DE.bor (de_v 6)) de_int))) de_int))))) da_nil)))
  (dss_cons (ds_par 11 12 z.toCy (da_cons (DE.frz (de_op .mod z.toCy (DE.bor (DE.frz (de_op .fdiv z.toCy (DE.bor (de_v 6)) de_int))) de_int)) (da_cons (DE.frz (de_op .mod z.toCy (DE.bor (DE.frz (de_op .fdiv z.toCy (DE.bor (de_v 6)) de_int))) de_int)) da_nil)))
  (dss_cons (ds_if (PW.pt (dw_and (dt_cmp .gt z.toCy (DE.bor (DE.frz (de_bi (cb_len z.toCy.K) m_len rfl (da_cons (DE.bor (de_v 4)) da_nil)))) de_int) (dw_and1 (dt_cmp .gt z.toCy (DE.bor (DE.frz (de_op .mod z.toCy (DE.bor (DE.frz (de_op .fdiv z.toCy (DE.bor (de_v 6)) de_int))) de_int))) de_int)))) (dss_cons (ds_set 13 z.toCy (de_ix z.toCy (DE.glo (DE.bor (de_ix z.toCy (DE.glo (DE.bor (de_v 4))) (DE.bor (DE.frz (de_op .mod z.toCy (DE.bor (DE.frz (de_op .fdiv z.toCy (DE.bor (de_v 6)) de_int))) (DE.bor (DE.frz (de_bi (cb_len z.toCy.K) m_len rfl (da_cons (DE.bor (de_v 4)) da_nil)))))))))) de_int))
  (dss_one (ds_unp (de_ix z.toCy (DE.glo (DE.bor (DE.frz (de_lst (da_cons (de_tup (da_cons (DE.frz (de_op .add z.toCy (DE.bor (de_ix z.toCy (DE.glo (DE.bor (de_v 13))) de_int)) (DE.bor (de_ix z.toCy (DE.glo (DE.bor (de_v 13))) de_int)))) (da_cons (DE.frz (de_op .add z.toCy (DE.bor (de_ix z.toCy (DE.glo (DE.bor (de_v 13))) de_int)) (DE.bor (DE.frz (de_op .mod z.toCy (DE.bor (de_v 6)) de_int))))) da_nil))) (da_cons (de_tup (da_cons (de_ix z.toCy (DE.glo (DE.bor (de_v 13))) de_int) (da_cons (DE.frz (de_op .add z.toCy (DE.bor (de_ix z.toCy (DE.glo (DE.bor (de_v 13))) de_int)) (DE.bor (de_ix z.toCy (DE.glo (DE.bor (de_v 13))) de_int)))) da_nil))) (da_cons (de_tup (da_cons (DE.frz (de_op .add z.toCy (DE.bor (de_ix z.toCy (DE.glo (DE.bor (de_v 13))) de_int)) (DE.bor (de_ix z.toCy (DE.glo (DE.bor (de_v 13))) de_int)))) (da_cons (de_ix z.toCy (DE.glo (DE.bor (de_v 13))) de_int) da_nil))) (da_cons (de_tup (da_cons (DE.frz (de_op .add z.toCy (DE.bor (de_ix z.toCy (DE.glo (DE.bor (de_v 13))) de_int)) de_int)) (da_cons (DE.frz (de_op .add z.toCy (DE.bor (de_ix z.toCy (DE.glo (DE.bor (de_v 13))) de_int)) (DE.bor (de_ix z.toCy (DE.glo (DE.bor (de_v 13))) de_int)))) da_nil))) da_nil)))))))) (DE.bor (DE.frz (de_op .mod z.toCy (DE.bor (DE.frz (de_op .fdiv z.toCy (DE.bor (de_v 6)) de_int))) de_int)))) (dg_t z.toCy (dgs_cons (dg_n 11 z.toCy) (dgs_cons (dg_n 12 z.toCy) dgs_nil)))))) dss_nil)
  (dss_cons (ds_set 7 z.toCy (DE.frz (de_lst da_nil)))
  (dss_cons (ds_for z (di_rng2 m_range (da_cons (DE.bor (de_v 11)) (da_cons (DE.bor (DE.frz (de_op .add z.toCy (DE.bor (de_v 11)) (DE.bor (de_v 9))))) da_nil))) (dg_n 8 z.toCy) (dss_one (ds_set 7 z.toCy (DE.frz (de_op .add z.toCy (DE.bor (de_v 7)) (DE.bor (DE.frz (de_lc [("row", 14)] z.toCy (di_rng2 m_range (da_cons (DE.bor (de_v 12)) (da_cons (DE.bor (DE.frz (de_op .add z.toCy (DE.bor (de_v 12)) (DE.bor (de_v 10))))) da_nil))) (fun _ _ _ _ _ c1 => ⟨(dg_n 14 c1), dts_nil, (de_tup (da_cons (de_v 8) (da_cons (de_v 14) da_nil)))⟩) (blkOk_by (by rfl))))))))))
  (dss_one (ds_if (dt_not (dt_v z.toCy (DE.bor (DE.frz (de_bi (cb_any z.toCy.calm) m_any rfl (da_cons (DE.bor (DE.frz (de_lc [("cell", 15)] z.toCy (di_seq (m := .bo) z.toCy (.inr rfl) (DE.bor (de_v 7))) (fun _ _ _ _ _ c2 => ⟨(dg_n 15 c2), dts_nil, (DE.frz (de_cmp .isin c2 (DE.bor (de_v 15)) (DE.glo (DE.bor (de_v 5)))))⟩) (blkOk_by (by rfl))))) da_nil)))))) (dss_one (ds_unp (de_tup (da_cons (DE.frz (de_op .add z.toCy (DE.bor (de_v 4)) (de_tup (da_cons (de_tup (da_cons (de_ix z.toCy de_str (DE.bor (de_v 3))) (da_cons (de_tup (da_cons (de_v 11) (da_cons (de_v 12) (da_cons (de_v 9) (da_cons (de_v 10) da_nil))))) da_nil))) da_nil)))) (da_cons (DE.frz (de_op .add z.toCy (DE.bor (de_v 5)) (DE.bor (de_v 7)))) da_nil))) (dg_t z.toCy (dgs_cons (dg_n 4 z.toCy) (dgs_cons (dg_n 5 z.toCy) dgs_nil))))) dss_nil)))))))))
  (dss_one (ds_ret (de_v 4)))))
/-! ### _law_cells: names 0:screens 1:found 2:name 3:box 4:left 5:top -/
def b__law_cells_1 : Sx := (sDp kt 1 (eTup (aCons (eV 4) (aCons (eV 5) aNil))) (eV 2))
def b__law_cells_2 : Sx := (sFor (iRng rng2 (aCons (e2 (pIx kt) (eV 3) (eC (.int 1))) (aCons (e2 pAdd (e2 (pIx kt) (eV 3) (eC (.int 1))) (e2 (pIx kt) (eV 3) (eC (.int 3)))) aNil))) (gN 5) b__law_cells_1)
def b__law_cells_3 : Sx := (sFor (iRng rng2 (aCons (e2 (pIx kt) (eV 3) (eC (.int 0))) (aCons (e2 pAdd (e2 (pIx kt) (eV 3) (eC (.int 0))) (e2 (pIx kt) (eV 3) (eC (.int 2)))) aNil))) (gN 4) b__law_cells_2)
def s__law_cells : Sx := (sSeq (sOwn 1 (eNewD true)) (sSeq (sFor (iSeq (eV 0)) (gT 2 (gsCons (gN 2) (gsCons (gN 3) gsNil))) b__law_cells_3) (sFrz 1 (sRet (eV 1)))))
def f__law_cells : Fn := mkFn 1 6 s__law_cells
theorem sc__law_cells : FnScope (["screens", "found", "name", "box", "left", "top"] : List Str) (["screens"] : List Str) (defScope (top 32)) := ⟨rfl, rfl, rfl, by decide +kernel, rfl, by decide +kernel, by decide +kernel⟩
theorem ok__law_cells (W : Wd) (c : He.SaysD fa fn W.K) : Callee W.P W.w W.K W.mg W.base (G W) 1 "_law_cells" .sh f__law_cells := by
  obtain ⟨fd, F⟩ := c.def_ 19 (d := fnAt "_law_cells" 32) rfl
  have g_ := Wd.glo (x := "_law_cells") c 19 rfl
  have m_range : W.mg "range" = none := Wd.free c 36 rfl
  refine fn_callee (P := W.P) (w := W.w) (K := W.K) (mg := W.mg) (base := W.base) (G := G W) (k := 0) (rm := .sh) (sx := s__law_cells) (N := (["screens", "found", "name", "box", "left", "top"] : List Str)) (ps := (["screens"] : List Str)) rfl F g_ sc__law_cells (fun _ _ _ _ _ _ us hl => match us, hl with | [_], _ => rfl) ?_
  intro cdv A outer s H S E z
  exact (dss_cons (ds_own 1 z.toCy (de_newD true))
  (dss_cons (ds_for z (di_seq (m := .sh) z.toCy (.inl rfl) (de_v 0)) (dg_t z.toCy (dgs_cons (dg_n 2 z.toCy) (dgs_cons (dg_n 3 z.toCy) dgs_nil))) (dss_one (ds_for z (di_rng2 m_range (da_cons (DE.bor (de_ix z.toCy (DE.glo (DE.bor (de_v 3))) de_int)) (da_cons (DE.bor (DE.frz (de_op .add z.toCy (DE.bor (de_ix z.toCy (DE.glo (DE.bor (de_v 3))) de_int)) (DE.bor (de_ix z.toCy (DE.glo (DE.bor (de_v 3))) de_int))))) da_nil))) (dg_n 4 z.toCy) (dss_one (ds_for z (di_rng2 m_range (da_cons (DE.bor (de_ix z.toCy (DE.glo (DE.bor (de_v 3))) de_int)) (da_cons (DE.bor (DE.frz (de_op .add z.toCy (DE.bor (de_ix z.toCy (DE.glo (DE.bor (de_v 3))) de_int)) (DE.bor (de_ix z.toCy (DE.glo (DE.bor (de_v 3))) de_int))))) da_nil))) (dg_n 5 z.toCy) (dss_one (ds_dput 1 z.toCy (de_tup (da_cons (de_v 4) (da_cons (de_v 5) da_nil))) (de_v 2))))))))
  (dss_one (ds_frz 1 (ds_ret (de_v 1))))))
/-! ### is_box: names 0:value 1:one -/
def s_is_box : Sx := (sRet (eAnd (e1 (pIsi "tuple") (eV 0)) (eAnd (e2 pEq (eBi bLen (aCons (eV 0) aNil)) (eC (.int 4))) (eBi bAll (aCons (eLc (iSeq (eV 0)) [1] (gN 1) tYesS (eCall f_is_whole (aCons (eV 1) (aCons (eC (.int 0)) (aCons (eC (.int 1000)) aNil))))) aNil)))))
def f_is_box : Fn := mkFn 1 2 s_is_box
theorem sc_is_box : FnScope (["value", "one"] : List Str) (["value"] : List Str) (defScope (top 12)) := ⟨rfl, rfl, rfl, by decide +kernel, rfl, by decide +kernel, by decide +kernel⟩
theorem ok_is_box (W : Wd) (c : He.SaysD fa fn W.K) : Callee W.P W.w W.K W.mg W.base (G W) 2 "is_box" .sh f_is_box := by
  obtain ⟨fd, F⟩ := c.def_ 3 (d := fnAt "is_box" 12) rfl
  have g_ := Wd.glo (x := "is_box") c 3 rfl
  have c_is_whole := ok_is_whole W c
  have m_all : W.mg "all" = none := Wd.free c 27 rfl
  have m_isinstance : W.mg "isinstance" = none := Wd.free c 32 rfl
  have m_len : W.mg "len" = none := Wd.free c 33 rfl
  have m_tuple : W.mg "tuple" = none := Wd.free c 40 rfl
  obtain ⟨u_MOST_SIDE, e_MOST_SIDE, r_MOST_SIDE⟩ := Wd.int (x := "MOST_SIDE") (n := 1000) c 50 rfl
  refine fn_callee (P := W.P) (w := W.w) (K := W.K) (mg := W.mg) (base := W.base) (G := G W) (k := 1) (rm := .sh) (sx := s_is_box) (N := (["value", "one"] : List Str)) (ps := (["value"] : List Str)) rfl F g_ sc_is_box (fun _ _ _ _ _ _ us hl => match us, hl with | [_], _ => rfl) ?_
  intro cdv A outer s H S E z
  exact (dss_one (ds_ret (de_and (de_isi z.toCy (DE.bor (de_v 0)) m_isinstance rfl m_tuple rfl) (de_and (DE.bor (DE.frz (de_cmp .eq z.toCy (DE.bor (DE.frz (de_bi (cb_len z.toCy.K) m_len rfl (da_cons (DE.bor (de_v 0)) da_nil)))) de_int))) (de_and1 (DE.frz (de_bi (cb_all z.toCy.calm) m_all rfl (da_cons (DE.bor (DE.frz (de_lc [("one", 1)] z.toCy (di_seq (m := .bo) z.toCy (.inr rfl) (DE.bor (de_v 0))) (fun _ _ _ _ _ c1 => ⟨(dg_n 1 c1), dts_nil, (de_call c_is_whole c1 (da_cons (de_v 1) (da_cons de_int (da_cons (de_gint e_MOST_SIDE r_MOST_SIDE) da_nil))))⟩) (blkOk_by (by rfl))))) da_nil))))))))
/-! ### _shares: names 0:screens 1:box 2:rows 3:row 4:name 5:own -/
def s__shares : Sx := (sSeq (sSet 2 (eLc (iSeq (eV 0)) [4, 5] (gT 2 (gsCons (gN 4) (gsCons (gN 5) gsNil))) tYesS (eTup (aCons (eV 4) (aCons (eCall f__common (aCons (eV 1) (aCons (eV 5) aNil))) aNil))))) (sRet (eLc (iSeq (eV 2)) [3] (gN 3) (tB (e2 pGt (e2 (pIx kt) (eV 3) (eC (.int 1))) (eC (.int 0)))) (eV 3))))
def f__shares : Fn := mkFn 2 6 s__shares
theorem sc__shares : FnScope (["screens", "box", "rows", "row", "name", "own"] : List Str) (["screens", "box"] : List Str) (defScope (top 22)) := ⟨rfl, rfl, rfl, by decide +kernel, rfl, by decide +kernel, by decide +kernel⟩
theorem ok__shares (W : Wd) (c : He.SaysD fa fn W.K) : Callee W.P W.w W.K W.mg W.base (G W) 2 "_shares" .sh f__shares := by
  obtain ⟨fd, F⟩ := c.def_ 10 (d := fnAt "_shares" 22) rfl
  have g_ := Wd.glo (x := "_shares") c 10 rfl
  have c__common := ok__common W c
  refine fn_callee (P := W.P) (w := W.w) (K := W.K) (mg := W.mg) (base := W.base) (G := G W) (k := 1) (rm := .sh) (sx := s__shares) (N := (["screens", "box", "rows", "row", "name", "own"] : List Str)) (ps := (["screens", "box"] : List Str)) rfl F g_ sc__shares (fun _ _ _ _ _ _ us hl => match us, hl with | [_, _], _ => rfl) ?_
  intro cdv A outer s H S E z
  exact (dss_cons (ds_set_of (asg_frz (ds_lcO (own := [("name", 4), ("own", 5)]) 2 rfl rfl z.toCy rfl (di_seq (m := .bo) z.toCy (.inr rfl) (DE.bor (de_v 0))) (fun _ _ _ _ _ c1 => ⟨(dg_t c1 (dgs_cons (dg_n 4 c1) (dgs_cons (dg_n 5 c1) dgs_nil))), dts_nil, (de_tup (da_cons (de_v 4) (da_cons (de_call c__common c1 (da_cons (de_v 1) (da_cons (de_v 5) da_nil))) da_nil)))⟩) (blkOk_by (by rfl)) rfl)))
  (dss_one (ds_ret (DE.frz (de_lc [("row", 3)] z.toCy (di_seq (m := .bo) z.toCy (.inr rfl) (DE.bor (de_v 2))) (fun _ _ _ _ _ c2 => ⟨(dg_n 3 c2), (dts_one (dt_cmp .gt c2 (DE.bor (de_ix c2 (DE.glo (DE.bor (de_v 3))) de_int)) de_int)), (de_v 3)⟩) (blkOk_by (by rfl)))))))
/-! ### _is_screen: names 0:value -/
def s__is_screen : Sx := (sSeq (sIf (tOrS (tNotS (tV (e1 (pIsi "tuple") (eV 0)))) (tOrS (tB (e2 pNe (eBi bLen (aCons (eV 0) aNil)) (eC (.int 2)))) (tOrS (tNotS (tV (eCall f_is_name (aCons (e2 (pIx kt) (eV 0) (eC (.int 0))) aNil)))) (tNotS (tV (eCall f_is_box (aCons (e2 (pIx kt) (eV 0) (eC (.int 1))) aNil))))))) (sRet (eC (.bool false))) sNx) (sRet (eAnd (e2 pGt (e2 (pIx kt) (e2 (pIx kt) (eV 0) (eC (.int 1))) (eC (.int 2))) (eC (.int 0))) (e2 pGt (e2 (pIx kt) (e2 (pIx kt) (eV 0) (eC (.int 1))) (eC (.int 3))) (eC (.int 0))))))
def f__is_screen : Fn := mkFn 1 1 s__is_screen
theorem sc__is_screen : FnScope (["value"] : List Str) (["value"] : List Str) (defScope (top 17)) := ⟨rfl, rfl, rfl, by decide +kernel, rfl, by decide +kernel, by decide +kernel⟩
theorem ok__is_screen (W : Wd) (c : He.SaysD fa fn W.K) : Callee W.P W.w W.K W.mg W.base (G W) 3 "_is_screen" .sh f__is_screen := by
  obtain ⟨fd, F⟩ := c.def_ 5 (d := fnAt "_is_screen" 17) rfl
  have g_ := Wd.glo (x := "_is_screen") c 5 rfl
  have c_is_box := ok_is_box W c
  have c_is_name := ok_is_name W c
  have m_isinstance : W.mg "isinstance" = none := Wd.free c 32 rfl
  have m_len : W.mg "len" = none := Wd.free c 33 rfl
  have m_tuple : W.mg "tuple" = none := Wd.free c 40 rfl
  refine fn_callee (P := W.P) (w := W.w) (K := W.K) (mg := W.mg) (base := W.base) (G := G W) (k := 2) (rm := .sh) (sx := s__is_screen) (N := (["value"] : List Str)) (ps := (["value"] : List Str)) rfl F g_ sc__is_screen (fun _ _ _ _ _ _ us hl => match us, hl with | [_], _ => rfl) ?_
  intro cdv A outer s H S E z
  exact (dss_cons (ds_if (PW.pt (dw_or (dt_not (dt_v z.toCy (de_isi z.toCy (DE.bor (de_v 0)) m_isinstance rfl m_tuple rfl))) (dw_or (dt_cmp .ne z.toCy (DE.bor (DE.frz (de_bi (cb_len z.toCy.K) m_len rfl (da_cons (DE.bor (de_v 0)) da_nil)))) de_int) (dw_or (dt_not (dt_v z.toCy (DE.bor (de_call c_is_name z.toCy (da_cons (de_ix z.toCy (DE.glo (DE.bor (de_v 0))) de_int) da_nil))))) (dw_or1 (dt_not (dt_v z.toCy (DE.bor (de_call c_is_box z.toCy (da_cons (de_ix z.toCy (DE.glo (DE.bor (de_v 0))) de_int) da_nil)))))))))) (dss_one (ds_ret de_bl)) dss_nil)
  (dss_one (ds_ret (de_and (DE.bor (DE.frz (de_cmp .gt z.toCy (DE.bor (de_ix z.toCy (DE.glo (DE.bor (de_ix z.toCy (DE.glo (DE.bor (de_v 0))) de_int))) de_int)) de_int))) (de_and1 (DE.frz (de_cmp .gt z.toCy (DE.bor (de_ix z.toCy (DE.glo (DE.bor (de_ix z.toCy (DE.glo (DE.bor (de_v 0))) de_int))) de_int)) de_int)))))))
/-! ### are_screens: names 0:value 1:boxes 2:one 3:other 4:number 5:box -/
def s_are_screens : Sx := (sSeq (sIf (tOrS (tNotS (tV (e1 (pIsi "tuple") (eV 0)))) (tNotS (tB (eCh pLe pLe (eC (.int 1)) (eBi bLen (aCons (eV 0) aNil)) (eC (.int 8)))))) (sRet (eC (.bool false))) sNx) (sSeq (sIf (tOrS (tNotS (tV (eBi bAll (aCons (eLc (iSeq (eV 0)) [2] (gN 2) tYesS (eCall f__is_screen (aCons (eV 2) aNil))) aNil)))) (tNotS (tV (eCall f_ascends (aCons (eLc (iSeq (eV 0)) [2] (gN 2) tYesS (e2 (pIx kt) (eV 2) (eC (.int 0)))) aNil))))) (sRet (eC (.bool false))) sNx) (sSeq (sSet 1 (eLc (iSeq (eV 0)) [2] (gN 2) tYesS (e2 (pIx kt) (eV 2) (eC (.int 1))))) (sRet (eNot (eBi bAny (aCons (eLc2 (iRng seq1 (aCons (eV 1) aNil)) [4, 5, 3] [3] (gT 2 (gsCons (gN 4) (gsCons (gN 5) gsNil))) tYesS (iSeq (eSl (eV 1) (oSome (e2 pAdd (eV 4) (eC (.int 1)))) oNo)) (gN 3) tYesS (eCall f_meet (aCons (eV 5) (aCons (eV 3) aNil)))) aNil)))))))
def f_are_screens : Fn := mkFn 1 6 s_are_screens
theorem sc_are_screens : FnScope (["value", "boxes", "one", "other", "number", "box"] : List Str) (["value"] : List Str) (defScope (top 18)) := ⟨rfl, rfl, rfl, by decide +kernel, rfl, by decide +kernel, by decide +kernel⟩
theorem ok_are_screens (W : Wd) (c : He.SaysD fa fn W.K) : Callee W.P W.w W.K W.mg W.base (G W) 4 "are_screens" .sh f_are_screens := by
  obtain ⟨fd, F⟩ := c.def_ 6 (d := fnAt "are_screens" 18) rfl
  have g_ := Wd.glo (x := "are_screens") c 6 rfl
  have c__is_screen := ok__is_screen W c
  have c_ascends := ok_ascends W c
  have c_meet := ok_meet W c
  have m_all : W.mg "all" = none := Wd.free c 27 rfl
  have m_any : W.mg "any" = none := Wd.free c 28 rfl
  have m_enumerate : W.mg "enumerate" = none := Wd.free c 30 rfl
  have m_isinstance : W.mg "isinstance" = none := Wd.free c 32 rfl
  have m_len : W.mg "len" = none := Wd.free c 33 rfl
  have m_tuple : W.mg "tuple" = none := Wd.free c 40 rfl
  obtain ⟨u_MOST_SCREENS, e_MOST_SCREENS, r_MOST_SCREENS⟩ := Wd.int (x := "MOST_SCREENS") (n := 8) c 51 rfl
  refine fn_callee (P := W.P) (w := W.w) (K := W.K) (mg := W.mg) (base := W.base) (G := G W) (k := 3) (rm := .sh) (sx := s_are_screens) (N := (["value", "boxes", "one", "other", "number", "box"] : List Str)) (ps := (["value"] : List Str)) rfl F g_ sc_are_screens (fun _ _ _ _ _ _ us hl => match us, hl with | [_], _ => rfl) ?_
  intro cdv A outer s H S E z
  exact (dss_cons (ds_if (PW.pt (dw_or (dt_not (dt_v z.toCy (de_isi z.toCy (DE.bor (de_v 0)) m_isinstance rfl m_tuple rfl))) (dw_or1 (dt_not (dt_chain .le .le z.toCy de_int (DE.bor (DE.frz (de_bi (cb_len z.toCy.K) m_len rfl (da_cons (DE.bor (de_v 0)) da_nil)))) (de_gint e_MOST_SCREENS r_MOST_SCREENS)))))) (dss_one (ds_ret de_bl)) dss_nil)
  (dss_cons (ds_if (PW.pt (dw_or (dt_not (dt_v z.toCy (DE.bor (DE.frz (de_bi (cb_all z.toCy.calm) m_all rfl (da_cons (DE.bor (DE.frz (de_lc [("one", 2)] z.toCy (di_seq (m := .bo) z.toCy (.inr rfl) (DE.bor (de_v 0))) (fun _ _ _ _ _ c2 => ⟨(dg_n 2 c2), dts_nil, (de_call c__is_screen c2 (da_cons (de_v 2) da_nil))⟩) (blkOk_by (by rfl))))) da_nil)))))) (dw_or1 (dt_not (dt_v z.toCy (DE.bor (de_call c_ascends z.toCy (da_cons (DE.frz (de_lc [("one", 2)] z.toCy (di_seq (m := .bo) z.toCy (.inr rfl) (DE.bor (de_v 0))) (fun _ _ _ _ _ c1 => ⟨(dg_n 2 c1), dts_nil, (de_ix c1 (DE.glo (DE.bor (de_v 2))) de_int)⟩) (blkOk_by (by rfl)))) da_nil)))))))) (dss_one (ds_ret de_bl)) dss_nil)
  (dss_cons (ds_set 1 z.toCy (DE.frz (de_lc [("one", 2)] z.toCy (di_seq (m := .bo) z.toCy (.inr rfl) (DE.bor (de_v 0))) (fun _ _ _ _ _ c3 => ⟨(dg_n 2 c3), dts_nil, (de_ix c3 (DE.glo (DE.bor (de_v 2))) de_int)⟩) (blkOk_by (by rfl)))))
  (dss_one (ds_ret (de_not z.toCy (DE.bor (DE.frz (de_bi (cb_any z.toCy.calm) m_any rfl (da_cons (DE.bor (DE.frz (de_lc2 [("number", 4), ("box", 5), ("other", 3)] [3] z.toCy (di_enum (m := .bo) z.toCy (.inr rfl) m_enumerate (da_cons (DE.bor (de_v 1)) da_nil)) (fun _ _ _ _ _ c4 => ⟨(dg_t c4 (dgs_cons (dg_n 4 c4) (dgs_cons (dg_n 5 c4) dgs_nil))), dts_nil, (di_seq (m := .sh) c4 (.inl rfl) (DE.frz (de_sl c4 (DE.bor (de_v 1)) (do_some (DE.bor (DE.frz (de_op .add c4 (DE.bor (de_v 4)) de_int)))) do_no))), (dg_n 3 c4), dts_nil, (de_call c_meet c4 (da_cons (de_v 5) (da_cons (de_v 3) da_nil)))⟩) (tame_t (tames_cons (tame_n 4) (tames_cons (tame_n 5) tames_nil))) (blkOk_by (by rfl))))) da_nil))))))))))
/-! ### check_screens: names 0:screens -/
def s_check_screens : Sx := (sIf (tNotS (tV (eCall f_are_screens (aCons (eV 0) aNil)))) (sRaise "BadScreens") sNx)
def f_check_screens : Fn := mkFn 1 1 s_check_screens
theorem sc_check_screens : FnScope (["screens"] : List Str) (["screens"] : List Str) (defScope (top 19)) := ⟨rfl, rfl, rfl, by decide +kernel, rfl, by decide +kernel, by decide +kernel⟩
theorem ok_check_screens (W : Wd) (c : He.SaysD fa fn W.K) : Callee W.P W.w W.K W.mg W.base (G W) 5 "check_screens" .sh f_check_screens := by
  obtain ⟨fd, F⟩ := c.def_ 7 (d := fnAt "check_screens" 19) rfl
  have g_ := Wd.glo (x := "check_screens") c 7 rfl
  have c_are_screens := ok_are_screens W c
  have x_BadScreens : (He.Fa.exc "BadScreens").ok W.K = true := c.fact 44 rfl
  have g_BadScreens : W.mg "BadScreens" = some (.ref (He.ga W.K "BadScreens")) := Wd.glo c 24 rfl
  refine fn_callee (P := W.P) (w := W.w) (K := W.K) (mg := W.mg) (base := W.base) (G := G W) (k := 4) (rm := .sh) (sx := s_check_screens) (N := (["screens"] : List Str)) (ps := (["screens"] : List Str)) rfl F g_ sc_check_screens (fun _ _ _ _ _ _ us hl => match us, hl with | [_], _ => rfl) ?_
  intro cdv A outer s H S E z
  exact (dss_one (ds_if (dt_not (dt_v z.toCy (DE.bor (de_call c_are_screens z.toCy (da_cons (de_v 0) da_nil))))) (dss_one (ds_raiseH z x_BadScreens g_BadScreens rfl)) dss_nil))
/-! ### _check: names 0:screens 1:box -/
def s__check : Sx := (sSeq (sExpr (eCall f_check_screens (aCons (eV 0) aNil))) (sIf (tNotS (tV (eCall f_is_box (aCons (eV 1) aNil)))) (sRaise "BadBox") sNx))
def f__check : Fn := mkFn 2 2 s__check
theorem sc__check : FnScope (["screens", "box"] : List Str) (["screens", "box"] : List Str) (defScope (top 20)) := ⟨rfl, rfl, rfl, by decide +kernel, rfl, by decide +kernel, by decide +kernel⟩
theorem ok__check (W : Wd) (c : He.SaysD fa fn W.K) : Callee W.P W.w W.K W.mg W.base (G W) 6 "_check" .sh f__check := by
  obtain ⟨fd, F⟩ := c.def_ 8 (d := fnAt "_check" 20) rfl
  have g_ := Wd.glo (x := "_check") c 8 rfl
  have c_check_screens := ok_check_screens W c
  have c_is_box := ok_is_box W c
  have x_BadBox : (He.Fa.exc "BadBox").ok W.K = true := c.fact 43 rfl
  have g_BadBox : W.mg "BadBox" = some (.ref (He.ga W.K "BadBox")) := Wd.glo c 23 rfl
  refine fn_callee (P := W.P) (w := W.w) (K := W.K) (mg := W.mg) (base := W.base) (G := G W) (k := 5) (rm := .sh) (sx := s__check) (N := (["screens", "box"] : List Str)) (ps := (["screens", "box"] : List Str)) rfl F g_ sc__check (fun _ _ _ _ _ _ us hl => match us, hl with | [_, _], _ => rfl) ?_
  intro cdv A outer s H S E z
  exact (dss_cons (ds_expr (de_call c_check_screens z.toCy (da_cons (de_v 0) da_nil)))
  (dss_one (ds_if (dt_not (dt_v z.toCy (DE.bor (de_call c_is_box z.toCy (da_cons (de_v 1) da_nil))))) (dss_one (ds_raiseH z x_BadBox g_BadBox rfl)) dss_nil)))
/-! ### shares_of: names 0:screens 1:box -/
def s_shares_of : Sx := (sSeq (sExpr (eCall f__check (aCons (eV 0) (aCons (eV 1) aNil)))) (sRet (eBi bTuple (aCons (eCall f__shares (aCons (eV 0) (aCons (eV 1) aNil))) aNil))))
def f_shares_of : Fn := mkFn 2 2 s_shares_of
theorem sc_shares_of : FnScope (["screens", "box"] : List Str) (["screens", "box"] : List Str) (defScope (top 23)) := ⟨rfl, rfl, rfl, by decide +kernel, rfl, by decide +kernel, by decide +kernel⟩
theorem ok_shares_of (W : Wd) (c : He.SaysD fa fn W.K) : Callee W.P W.w W.K W.mg W.base (G W) 7 "shares_of" .sh f_shares_of := by
  obtain ⟨fd, F⟩ := c.def_ 11 (d := fnAt "shares_of" 23) rfl
  have g_ := Wd.glo (x := "shares_of") c 11 rfl
  have c__check := ok__check W c
  have c__shares := ok__shares W c
  have m_tuple : W.mg "tuple" = none := Wd.free c 40 rfl
  refine fn_callee (P := W.P) (w := W.w) (K := W.K) (mg := W.mg) (base := W.base) (G := G W) (k := 6) (rm := .sh) (sx := s_shares_of) (N := (["screens", "box"] : List Str)) (ps := (["screens", "box"] : List Str)) rfl F g_ sc_shares_of (fun _ _ _ _ _ _ us hl => match us, hl with | [_, _], _ => rfl) ?_
  intro cdv A outer s H S E z
  exact (dss_cons (ds_expr (de_call c__check z.toCy (da_cons (de_v 0) (da_cons (de_v 1) da_nil))))
  (dss_one (ds_ret (DE.frz (de_ty (cb_tuple z.toCy.K) m_tuple rfl (da_cons (DE.bor (de_call c__shares z.toCy (da_cons (de_v 0) (da_cons (de_v 1) da_nil)))) da_nil))))))
/-! ### spans: names 0:screens 1:box -/
def s_spans : Sx := (sSeq (sExpr (eCall f__check (aCons (eV 0) (aCons (eV 1) aNil)))) (sRet (e2 pGt (eBi bLen (aCons (eCall f__shares (aCons (eV 0) (aCons (eV 1) aNil))) aNil)) (eC (.int 1)))))
def f_spans : Fn := mkFn 2 2 s_spans
theorem sc_spans : FnScope (["screens", "box"] : List Str) (["screens", "box"] : List Str) (defScope (top 24)) := ⟨rfl, rfl, rfl, by decide +kernel, rfl, by decide +kernel, by decide +kernel⟩
theorem ok_spans (W : Wd) (c : He.SaysD fa fn W.K) : Callee W.P W.w W.K W.mg W.base (G W) 7 "spans" .sh f_spans := by
  obtain ⟨fd, F⟩ := c.def_ 12 (d := fnAt "spans" 24) rfl
  have g_ := Wd.glo (x := "spans") c 12 rfl
  have c__check := ok__check W c
  have c__shares := ok__shares W c
  have m_len : W.mg "len" = none := Wd.free c 33 rfl
  refine fn_callee (P := W.P) (w := W.w) (K := W.K) (mg := W.mg) (base := W.base) (G := G W) (k := 6) (rm := .sh) (sx := s_spans) (N := (["screens", "box"] : List Str)) (ps := (["screens", "box"] : List Str)) rfl F g_ sc_spans (fun _ _ _ _ _ _ us hl => match us, hl with | [_, _], _ => rfl) ?_
  intro cdv A outer s H S E z
  exact (dss_cons (ds_expr (de_call c__check z.toCy (da_cons (de_v 0) (da_cons (de_v 1) da_nil))))
  (dss_one (ds_ret (DE.frz (de_cmp .gt z.toCy (DE.bor (DE.frz (de_bi (cb_len z.toCy.K) m_len rfl (da_cons (DE.bor (de_call c__shares z.toCy (da_cons (de_v 0) (da_cons (de_v 1) da_nil)))) da_nil)))) de_int)))))
/-! ### home_of: names 0:screens 1:box 2:rows 3:most 4:names 5:name 6:cells 7:_name -/
def s_home_of : Sx := (sSeq (sExpr (eCall f__check (aCons (eV 0) (aCons (eV 1) aNil)))) (sSeq (sSet 2 (eCall f__shares (aCons (eV 0) (aCons (eV 1) aNil)))) (sSeq (sSet 3 (eBi bMax (aCons (e2 pAdd (eLc (iSeq (eV 2)) [7, 6] (gT 2 (gsCons (gN 7) (gsCons (gN 6) gsNil))) tYesS (eV 6)) (eLst (aCons (eC (.int 0)) aNil))) aNil))) (sSeq (sSet 4 (eLc (iSeq (eV 2)) [5, 6] (gT 2 (gsCons (gN 5) (gsCons (gN 6) gsNil))) (tB (e2 pEq (eV 6) (eV 3))) (eV 5))) (sRet (eIf (tB (e2 pGt (eBi bLen (aCons (eV 4) aNil)) (eC (.int 0)))) (e2 (pIx kt) (eV 4) (eC (.int 0))) (eC .none)))))))
def f_home_of : Fn := mkFn 2 8 s_home_of
theorem sc_home_of : FnScope (["screens", "box", "rows", "most", "names", "name", "cells", "_name"] : List Str) (["screens", "box"] : List Str) (defScope (top 25)) := ⟨rfl, rfl, rfl, by decide +kernel, rfl, by decide +kernel, by decide +kernel⟩
theorem ok_home_of (W : Wd) (c : He.SaysD fa fn W.K) : Callee W.P W.w W.K W.mg W.base (G W) 7 "home_of" .sh f_home_of := by
  obtain ⟨fd, F⟩ := c.def_ 13 (d := fnAt "home_of" 25) rfl
  have g_ := Wd.glo (x := "home_of") c 13 rfl
  have c__check := ok__check W c
  have c__shares := ok__shares W c
  have m_len : W.mg "len" = none := Wd.free c 33 rfl
  have m_max : W.mg "max" = none := Wd.free c 34 rfl
  refine fn_callee (P := W.P) (w := W.w) (K := W.K) (mg := W.mg) (base := W.base) (G := G W) (k := 6) (rm := .sh) (sx := s_home_of) (N := (["screens", "box", "rows", "most", "names", "name", "cells", "_name"] : List Str)) (ps := (["screens", "box"] : List Str)) rfl F g_ sc_home_of (fun _ _ _ _ _ _ us hl => match us, hl with | [_, _], _ => rfl) ?_
  intro cdv A outer s H S E z
  exact (dss_cons (ds_expr (de_call c__check z.toCy (da_cons (de_v 0) (da_cons (de_v 1) da_nil))))
  (dss_cons (ds_set 2 z.toCy (de_call c__shares z.toCy (da_cons (de_v 0) (da_cons (de_v 1) da_nil))))
  (dss_cons (ds_set 3 z.toCy (DE.frz (de_bi (cb_max z.toCy.calm) m_max rfl (da_cons (DE.bor (DE.frz (de_op .add z.toCy (DE.bor (DE.frz (de_lc [("_name", 7), ("cells", 6)] z.toCy (di_seq (m := .bo) z.toCy (.inr rfl) (DE.bor (de_v 2))) (fun _ _ _ _ _ c1 => ⟨(dg_t c1 (dgs_cons (dg_n 7 c1) (dgs_cons (dg_n 6 c1) dgs_nil))), dts_nil, (de_v 6)⟩) (blkOk_by (by rfl))))) (DE.bor (DE.frz (de_lst (da_cons de_int da_nil))))))) da_nil))))
  (dss_cons (ds_set_of (asg_frz (ds_lcO (own := [("name", 5), ("cells", 6)]) 4 rfl rfl z.toCy rfl (di_seq (m := .bo) z.toCy (.inr rfl) (DE.bor (de_v 2))) (fun _ _ _ _ _ c2 => ⟨(dg_t c2 (dgs_cons (dg_n 5 c2) (dgs_cons (dg_n 6 c2) dgs_nil))), (dts_one (dt_cmp .eq c2 (DE.bor (de_v 6)) (DE.bor (de_v 3)))), (de_v 5)⟩) (blkOk_by (by rfl)) rfl)))
  (dss_one (ds_ret (de_if (dt_cmp .gt z.toCy (DE.bor (DE.frz (de_bi (cb_len z.toCy.K) m_len rfl (da_cons (DE.bor (de_v 4)) da_nil)))) de_int) (de_ix z.toCy (DE.glo (DE.bor (de_v 4))) de_int) de_non)))))))
/-! ### lost_cells: names 0:screens 1:box 2:_name 3:cells -/
def s_lost_cells : Sx := (sSeq (sExpr (eCall f__check (aCons (eV 0) (aCons (eV 1) aNil)))) (sRet (e2 pSub (e2 pMul (e2 (pIx kt) (eV 1) (eC (.int 2))) (e2 (pIx kt) (eV 1) (eC (.int 3)))) (eBi bSum (aCons (eLc (iSeq (eCall f__shares (aCons (eV 0) (aCons (eV 1) aNil)))) [2, 3] (gT 2 (gsCons (gN 2) (gsCons (gN 3) gsNil))) tYesS (eV 3)) aNil)))))
def f_lost_cells : Fn := mkFn 2 4 s_lost_cells
theorem sc_lost_cells : FnScope (["screens", "box", "_name", "cells"] : List Str) (["screens", "box"] : List Str) (defScope (top 26)) := ⟨rfl, rfl, rfl, by decide +kernel, rfl, by decide +kernel, by decide +kernel⟩
theorem ok_lost_cells (W : Wd) (c : He.SaysD fa fn W.K) : Callee W.P W.w W.K W.mg W.base (G W) 7 "lost_cells" .sh f_lost_cells := by
  obtain ⟨fd, F⟩ := c.def_ 14 (d := fnAt "lost_cells" 26) rfl
  have g_ := Wd.glo (x := "lost_cells") c 14 rfl
  have c__check := ok__check W c
  have c__shares := ok__shares W c
  have m_sum : W.mg "sum" = none := Wd.free c 39 rfl
  refine fn_callee (P := W.P) (w := W.w) (K := W.K) (mg := W.mg) (base := W.base) (G := G W) (k := 6) (rm := .sh) (sx := s_lost_cells) (N := (["screens", "box", "_name", "cells"] : List Str)) (ps := (["screens", "box"] : List Str)) rfl F g_ sc_lost_cells (fun _ _ _ _ _ _ us hl => match us, hl with | [_, _], _ => rfl) ?_
  intro cdv A outer s H S E z
  exact (dss_cons (ds_expr (de_call c__check z.toCy (da_cons (de_v 0) (da_cons (de_v 1) da_nil))))
  (dss_one (ds_ret (DE.frz (de_op .sub z.toCy (DE.bor (DE.frz (de_op .mul z.toCy (DE.bor (de_ix z.toCy (DE.glo (DE.bor (de_v 1))) de_int)) (DE.bor (de_ix z.toCy (DE.glo (DE.bor (de_v 1))) de_int))))) (DE.bor (DE.frz (de_bi (cb_sum z.toCy.calm) m_sum rfl (da_cons (DE.bor (DE.frz (de_lc [("_name", 2), ("cells", 3)] z.toCy (di_seq (m := .bo) z.toCy (.inr rfl) (DE.bor (de_call c__shares z.toCy (da_cons (de_v 0) (da_cons (de_v 1) da_nil))))) (fun _ _ _ _ _ c1 => ⟨(dg_t c1 (dgs_cons (dg_n 2 c1) (dgs_cons (dg_n 3 c1) dgs_nil))), dts_nil, (de_v 3)⟩) (blkOk_by (by rfl))))) da_nil)))))))))
/-! ### brought_in: names 0:screens 1:box 2:found 3:_name 4:own 5:left 6:top -/
def b_brought_in_1 : Sx := (sIf (tAndS (tB (e2 pLe (e2 (pIx kt) (eV 1) (eC (.int 2))) (e2 (pIx kt) (eV 4) (eC (.int 2))))) (tB (e2 pLe (e2 (pIx kt) (eV 1) (eC (.int 3))) (e2 (pIx kt) (eV 4) (eC (.int 3)))))) (sSeq (sPar 5 6 (aCons (eCall f__held (aCons (e2 (pIx kt) (eV 1) (eC (.int 0))) (aCons (e2 (pIx kt) (eV 1) (eC (.int 2))) (aCons (e2 (pIx kt) (eV 4) (eC (.int 0))) (aCons (e2 (pIx kt) (eV 4) (eC (.int 2))) aNil))))) (aCons (eCall f__held (aCons (e2 (pIx kt) (eV 1) (eC (.int 1))) (aCons (e2 (pIx kt) (eV 1) (eC (.int 3))) (aCons (e2 (pIx kt) (eV 4) (eC (.int 1))) (aCons (e2 (pIx kt) (eV 4) (eC (.int 3))) aNil))))) aNil))) (sApp 2 (eTup (aCons (e2 pAdd (eBi bAbs (aCons (e2 pSub (eV 5) (e2 (pIx kt) (eV 1) (eC (.int 0)))) aNil)) (eBi bAbs (aCons (e2 pSub (eV 6) (e2 (pIx kt) (eV 1) (eC (.int 1)))) aNil))) (aCons (e2 pAdd (eTup (aCons (eV 5) (aCons (eV 6) aNil))) (eSl (eV 1) (oSome (eC (.int 2))) oNo)) aNil))))) sNx)
def s_brought_in : Sx := (sSeq (sExpr (eCall f__check (aCons (eV 0) (aCons (eV 1) aNil)))) (sSeq (sOwn 2 (eLst aNil)) (sSeq (sFor (iSeq (eV 0)) (gT 2 (gsCons (gN 3) (gsCons (gN 4) gsNil))) b_brought_in_1) (sRet (eIf (tB (e2 pGt (eBi bLen (aCons (eB 2) aNil)) (eC (.int 0)))) (e2 (pIx kt) (eBi bMin (aCons (eB 2) aNil)) (eC (.int 1))) (eC .none))))))
def f_brought_in : Fn := mkFn 2 7 s_brought_in
theorem sc_brought_in : FnScope (["screens", "box", "found", "_name", "own", "left", "top"] : List Str) (["screens", "box"] : List Str) (defScope (top 28)) := ⟨rfl, rfl, rfl, by decide +kernel, rfl, by decide +kernel, by decide +kernel⟩
theorem ok_brought_in (W : Wd) (c : He.SaysD fa fn W.K) : Callee W.P W.w W.K W.mg W.base (G W) 7 "brought_in" .sh f_brought_in := by
  obtain ⟨fd, F⟩ := c.def_ 16 (d := fnAt "brought_in" 28) rfl
  have g_ := Wd.glo (x := "brought_in") c 16 rfl
  have c__check := ok__check W c
  have c__held := ok__held W c
  have m_abs : W.mg "abs" = none := Wd.free c 26 rfl
  have m_len : W.mg "len" = none := Wd.free c 33 rfl
  have m_min : W.mg "min" = none := Wd.free c 35 rfl
  refine fn_callee (P := W.P) (w := W.w) (K := W.K) (mg := W.mg) (base := W.base) (G := G W) (k := 6) (rm := .sh) (sx := s_brought_in) (N := (["screens", "box", "found", "_name", "own", "left", "top"] : List Str)) (ps := (["screens", "box"] : List Str)) rfl F g_ sc_brought_in (fun _ _ _ _ _ _ us hl => match us, hl with | [_, _], _ => rfl) ?_
  intro cdv A outer s H S E z
  exact (dss_cons (ds_expr (de_call c__check z.toCy (da_cons (de_v 0) (da_cons (de_v 1) da_nil))))
  (dss_cons (ds_own 2 z.toCy (de_lst da_nil))
  (dss_cons (ds_for z (di_seq (m := .sh) z.toCy (.inl rfl) (de_v 0)) (dg_t z.toCy (dgs_cons (dg_n 3 z.toCy) (dgs_cons (dg_n 4 z.toCy) dgs_nil))) (dss_one (ds_if (PW.pt (dw_and (dt_cmp .le z.toCy (DE.bor (de_ix z.toCy (DE.glo (DE.bor (de_v 1))) de_int)) (DE.bor (de_ix z.toCy (DE.glo (DE.bor (de_v 4))) de_int))) (dw_and1 (dt_cmp .le z.toCy (DE.bor (de_ix z.toCy (DE.glo (DE.bor (de_v 1))) de_int)) (DE.bor (de_ix z.toCy (DE.glo (DE.bor (de_v 4))) de_int)))))) (dss_cons (ds_par 5 6 z.toCy (da_cons (de_call c__held z.toCy (da_cons (de_ix z.toCy (DE.glo (DE.bor (de_v 1))) de_int) (da_cons (de_ix z.toCy (DE.glo (DE.bor (de_v 1))) de_int) (da_cons (de_ix z.toCy (DE.glo (DE.bor (de_v 4))) de_int) (da_cons (de_ix z.toCy (DE.glo (DE.bor (de_v 4))) de_int) da_nil))))) (da_cons (de_call c__held z.toCy (da_cons (de_ix z.toCy (DE.glo (DE.bor (de_v 1))) de_int) (da_cons (de_ix z.toCy (DE.glo (DE.bor (de_v 1))) de_int) (da_cons (de_ix z.toCy (DE.glo (DE.bor (de_v 4))) de_int) (da_cons (de_ix z.toCy (DE.glo (DE.bor (de_v 4))) de_int) da_nil))))) da_nil)))
  (dss_one (ds_app 2 (de_tup (da_cons (DE.frz (de_op .add z.toCy (DE.bor (DE.frz (de_bi cb_abs m_abs rfl (da_cons (DE.bor (DE.frz (de_op .sub z.toCy (DE.bor (de_v 5)) (DE.bor (de_ix z.toCy (DE.glo (DE.bor (de_v 1))) de_int))))) da_nil)))) (DE.bor (DE.frz (de_bi cb_abs m_abs rfl (da_cons (DE.bor (DE.frz (de_op .sub z.toCy (DE.bor (de_v 6)) (DE.bor (de_ix z.toCy (DE.glo (DE.bor (de_v 1))) de_int))))) da_nil)))))) (da_cons (DE.frz (de_op .add z.toCy (de_tup (da_cons (de_v 5) (da_cons (de_v 6) da_nil))) (DE.bor (DE.frz (de_sl z.toCy (DE.bor (de_v 1)) (do_some de_int) do_no))))) da_nil)))))) dss_nil)))
  (dss_one (ds_ret (de_if (dt_cmp .gt z.toCy (DE.bor (DE.frz (de_bi (cb_len z.toCy.K) m_len rfl (da_cons (de_b 2) da_nil)))) de_int) (de_ix z.toCy (DE.glo (DE.bor (de_bi (cb_min z.toCy.K z.toCy.calm z.toCy.u80) m_min rfl (da_cons (de_b 2) da_nil)))) de_int) de_non))))))
/-! ### _law_word: names 0:call 1:screens 2:box -/
def s__law_word : Sx := (sSeq (sTry (fun x => (["BadBox"] : List Str).contains x) (sIf (tB (e2 pEq (eV 0) (eC (.int 0)))) (sExpr (eCall f_shares_of (aCons (eV 1) (aCons (eV 2) aNil)))) (sIf (tB (e2 pEq (eV 0) (eC (.int 1)))) (sExpr (eCall f_spans (aCons (eV 1) (aCons (eV 2) aNil)))) (sIf (tB (e2 pEq (eV 0) (eC (.int 2)))) (sExpr (eCall f_home_of (aCons (eV 1) (aCons (eV 2) aNil)))) (sIf (tB (e2 pEq (eV 0) (eC (.int 3)))) (sExpr (eCall f_lost_cells (aCons (eV 1) (aCons (eV 2) aNil)))) (sExpr (eCall f_brought_in (aCons (eV 1) (aCons (eV 2) aNil)))))))) (sRet (eC (.str "box")))) (sRet (eC (.str "none"))))
def f__law_word : Fn := mkFn 3 3 s__law_word
theorem sc__law_word : FnScope (["call", "screens", "box"] : List Str) (["call", "screens", "box"] : List Str) (defScope (top 33)) := ⟨rfl, rfl, rfl, by decide +kernel, rfl, by decide +kernel, by decide +kernel⟩
theorem ok__law_word (W : Wd) (c : He.SaysD fa fn W.K) : Callee W.P W.w W.K W.mg W.base (G W) 8 "_law_word" .sh f__law_word := by
  obtain ⟨fd, F⟩ := c.def_ 20 (d := fnAt "_law_word" 33) rfl
  have g_ := Wd.glo (x := "_law_word") c 20 rfl
  have c_brought_in := ok_brought_in W c
  have c_home_of := ok_home_of W c
  have c_lost_cells := ok_lost_cells W c
  have c_shares_of := ok_shares_of W c
  have c_spans := ok_spans W c
  have g_BadBox : W.mg "BadBox" = some (.ref (He.ga W.K "BadBox")) := Wd.glo c 23 rfl
  refine fn_callee (P := W.P) (w := W.w) (K := W.K) (mg := W.mg) (base := W.base) (G := G W) (k := 7) (rm := .sh) (sx := s__law_word) (N := (["call", "screens", "box"] : List Str)) (ps := (["call", "screens", "box"] : List Str)) rfl F g_ sc__law_word (fun _ _ _ _ _ _ us hl => match us, hl with | [_, _, _], _ => rfl) ?_
  intro cdv A outer s H S E z
  exact (dss_cons (ds_try (fun x => (["BadBox"] : List Str).contains x) z ⟨rfl, by decide, .inl g_BadBox⟩ (t1_BadBox W) (t2_BadBox c) (fun _ _ _ z => (dss_one (ds_if (dt_cmp .eq z.toCy (DE.bor (de_v 0)) de_int) (dss_one (ds_expr (de_call c_shares_of z.toCy (da_cons (de_v 1) (da_cons (de_v 2) da_nil))))) (dss_one (ds_if (dt_cmp .eq z.toCy (DE.bor (de_v 0)) de_int) (dss_one (ds_expr (de_call c_spans z.toCy (da_cons (de_v 1) (da_cons (de_v 2) da_nil))))) (dss_one (ds_if (dt_cmp .eq z.toCy (DE.bor (de_v 0)) de_int) (dss_one (ds_expr (de_call c_home_of z.toCy (da_cons (de_v 1) (da_cons (de_v 2) da_nil))))) (dss_one (ds_if (dt_cmp .eq z.toCy (DE.bor (de_v 0)) de_int) (dss_one (ds_expr (de_call c_lost_cells z.toCy (da_cons (de_v 1) (da_cons (de_v 2) da_nil))))) (dss_one (ds_expr (de_call c_brought_in z.toCy (da_cons (de_v 1) (da_cons (de_v 2) da_nil)))))))))))))) (fun _ _ _ => (dss_one (ds_ret de_str))) (fun _ _ _ h => by cases h))
  (dss_one (ds_ret de_str)))
/-! ### law: names 0:script 1:draws 2:turn 3:two 4:screens 5:cells 6:n 7:wrong 8:draw 9:box 10:counts 11:lost 12:left 13:rows 14:most 15:good 16:told 17:top 18:name 19:own 20:call 21:row -/
def b_law_1 : Sx := (sSeq (sSet 18 (eDg2 kt (eV 5) (eTup (aCons (eV 12) (aCons (eV 17) aNil))) (eC (.str "")))) (sSeq (sDp kt 10 (eV 18) (e2 pAdd (eDg2 kt (eB 10) (eV 18) (eC (.int 0))) (eC (.int 1)))) (sSet 11 (e2 pAdd (eV 11) (eBi bInt (aCons (e2 pEq (eV 18) (eC (.str ""))) aNil))))))
def b_law_2 : Sx := (sFor (iRng rng2 (aCons (e2 (pIx kt) (eV 9) (eC (.int 1))) (aCons (e2 pAdd (e2 (pIx kt) (eV 9) (eC (.int 1))) (e2 (pIx kt) (eV 9) (eC (.int 3)))) aNil))) (gN 17) b_law_1)
def i_law_1 : Sx := (sIf (tOrS (tB (e2 pNe (eCall f_shares_of (aCons (eV 4) (aCons (eV 9) aNil))) (eBi bTuple (aCons (eV 13) aNil)))) (tOrS (tB (e2 pNe (eCall f_lost_cells (aCons (eV 4) (aCons (eV 9) aNil))) (eV 11))) (tOrS (tB (e2 pNe (eCall f_spans (aCons (eV 4) (aCons (eV 9) aNil))) (e2 pGt (eBi bLen (aCons (eV 13) aNil)) (eC (.int 1))))) (tNotS (tV (e1 (pIsi "bool") (eCall f_spans (aCons (eV 4) (aCons (eV 9) aNil))))))))) (sRet (eC (.bool false))) sNx)
def i_law_2 : Sx := (sIf (tB (e2 pNe (eCall f_home_of (aCons (eV 4) (aCons (eV 9) aNil))) (eIf (tB (e2 pGt (eBi bLen (aCons (eV 13) aNil)) (eC (.int 0)))) (e2 (pIx kt) (eLc (iSeq (eV 13)) [21] (gN 21) (tB (e2 pEq (e2 (pIx kt) (eV 21) (eC (.int 1))) (eV 14))) (e2 (pIx kt) (eV 21) (eC (.int 0)))) (eC (.int 0))) (eC .none)))) (sRet (eC (.bool false))) sNx)
def b_law_3 : Sx := (sSet 15 (e2 pAdd (eV 15) (eLc (iRng rng2 (aCons (e2 (pIx kt) (eV 19) (eC (.int 1))) (aCons (e2 pAdd (e2 pSub (e2 pAdd (e2 (pIx kt) (eV 19) (eC (.int 1))) (e2 (pIx kt) (eV 19) (eC (.int 3)))) (e2 (pIx kt) (eV 9) (eC (.int 3)))) (eC (.int 1))) aNil))) [17] (gN 17) tYesS (eTup (aCons (e2 pAdd (eBi bAbs (aCons (e2 pSub (eV 12) (e2 (pIx kt) (eV 9) (eC (.int 0)))) aNil)) (eBi bAbs (aCons (e2 pSub (eV 17) (e2 (pIx kt) (eV 9) (eC (.int 1)))) aNil))) (aCons (e2 pAdd (eTup (aCons (eV 12) (aCons (eV 17) aNil))) (eSl (eV 9) (oSome (eC (.int 2))) oNo)) aNil))))))
def b_law_4 : Sx := (sFor (iRng rng2 (aCons (e2 (pIx kt) (eV 19) (eC (.int 0))) (aCons (e2 pAdd (e2 pSub (e2 pAdd (e2 (pIx kt) (eV 19) (eC (.int 0))) (e2 (pIx kt) (eV 19) (eC (.int 2)))) (e2 (pIx kt) (eV 9) (eC (.int 2)))) (eC (.int 1))) aNil))) (gN 12) b_law_3)
def i_law_3 : Sx := (sIf (tOrS (tB (e2 pNe (eV 16) (eIf (tB (e2 pGt (eBi bLen (aCons (eV 15) aNil)) (eC (.int 0)))) (e2 (pIx kt) (eBi bMin (aCons (eV 15) aNil)) (eC (.int 1))) (eC .none)))) (tAndS (tB (e2 pIsNot (eV 16) (eC .none))) (tB (e2 pNe (eCall f_brought_in (aCons (eV 4) (aCons (eV 16) aNil))) (eV 16))))) (sRet (eC (.bool false))) sNx)
def b_law_5 : Sx := (sSeq (sSet 8 (e2 pFdiv (eBi bInt (aCons (e2 (pIx kt) (eV 1) (e2 pAdd (eC (.int 40)) (eV 6))) aNil)) (e2 pAdd (eV 2) (eC (.int 1))))) (sSeq (sSet 9 (eTup (aCons (e2 pMod (eV 8) (eC (.int 12))) (aCons (e2 pMod (e2 pFdiv (eV 8) (eC (.int 12))) (eC (.int 9))) (aCons (e2 pMod (e2 pFdiv (eV 8) (eC (.int 108))) (eC (.int 5))) (aCons (e2 pMod (e2 pFdiv (eV 8) (eC (.int 540))) (eC (.int 4))) aNil)))))) (sSeq (sOwn 10 (eNewD false)) (sSeq (sSet 11 (eC (.int 0))) (sSeq (sFor (iRng rng2 (aCons (e2 (pIx kt) (eV 9) (eC (.int 0))) (aCons (e2 pAdd (e2 (pIx kt) (eV 9) (eC (.int 0))) (e2 (pIx kt) (eV 9) (eC (.int 2)))) aNil))) (gN 12) b_law_2) (sSeq (sSet 13 (eLc (iSeq (eBi bSorted2 (aCons (eB 10) aNil))) [18] (gN 18) (tB (e2 pNe (eV 18) (eC (.str "")))) (eTup (aCons (eV 18) (aCons (e2 (pIx kt) (eB 10) (eV 18)) aNil))))) (sSeq (sSet 14 (eBi bMax (aCons (e2 pAdd (eLc (iSeq (eV 13)) [21] (gN 21) tYesS (e2 (pIx kt) (eV 21) (eC (.int 1)))) (eLst (aCons (eC (.int 0)) aNil))) aNil))) (sSeq i_law_1 (sSeq i_law_2 (sSeq (sSet 15 (eLst aNil)) (sSeq (sFor (iSeq (eV 4)) (gT 2 (gsCons (gN 18) (gsCons (gN 19) gsNil))) b_law_4) (sSeq (sSet 16 (eCall f_brought_in (aCons (eV 4) (aCons (eV 9) aNil)))) i_law_3))))))))))))
def i_law_4 : Sx := (sIf (tB (e2 pNe (eLc (iRng rng1 (aCons (eC (.int 5)) aNil)) [20] (gN 20) tYesS (eCall f__law_word (aCons (eV 20) (aCons (eV 4) (aCons (eV 7) aNil))))) (e2 pMul (eLst (aCons (eC (.str "box")) aNil)) (eC (.int 5))))) (sRet (eC (.bool false))) sNx)
def b_law_6 : Sx := i_law_4
def b_law_7 : Sx := (sSeq (sSet 4 (eCall f__law_screens (aCons (e2 pAdd (eSl (eV 1) (oSome (e2 pMul (eC (.int 6)) (eV 2))) oNo) (eSl (eV 1) oNo (oSome (e2 pMul (eC (.int 6)) (eV 2))))) (aCons (eC (.int 0)) (aCons (eC (.int 5)) aNil))))) (sSeq (sSet 5 (eCall f__law_cells (aCons (eV 4) aNil))) (sSeq (sFor (iRng rng1 (aCons (eC (.int 8)) aNil)) (gN 6) b_law_5) (sFor (iSeq (eLst (aCons (eC .none) (aCons (eTup (aCons (eC (.int 0)) (aCons (eC (.int 0)) (aCons (eC (.int 1)) aNil)))) (aCons (eLst (aCons (eC (.int 0)) (aCons (eC (.int 0)) (aCons (eC (.int 1)) (aCons (eC (.int 1)) aNil))))) (aCons (eTup (aCons (eC (.int 0)) (aCons (eC (.int 0)) (aCons (eC (.int 1)) (aCons (eC (.int 1001)) aNil))))) (aCons (eTup (aCons (eC (.int 0)) (aCons (eC (.int 0)) (aCons (e1 pNeg (eC (.int 1))) (aCons (eC (.int 1)) aNil))))) (aCons (eTup (aCons (eC (.int 0)) (aCons (eC (.int 0)) (aCons (eC (.bool true)) (aCons (eC (.int 1)) aNil))))) (aCons (eC (.int 3)) aNil))))))))) (gN 7) b_law_6))))
def i_law_5 : Sx := (sIf (tOrS (tB (e2 pNe (eCall f_shares_of (aCons (eV 3) (aCons (eTup (aCons (eC (.int 3)) (aCons (eC (.int 3)) (aCons (eC (.int 2)) (aCons (eC (.int 2)) aNil))))) aNil))) (eTup (aCons (eTup (aCons (eC (.str "a")) (aCons (eC (.int 1)) aNil))) (aCons (eTup (aCons (eC (.str "b")) (aCons (eC (.int 2)) aNil))) aNil))))) (tOrS (tB (e2 pNe (eCall f_home_of (aCons (eV 3) (aCons (eTup (aCons (eC (.int 3)) (aCons (eC (.int 3)) (aCons (eC (.int 2)) (aCons (eC (.int 2)) aNil))))) aNil))) (eC (.str "b")))) (tB (e2 pNe (eCall f_lost_cells (aCons (eV 3) (aCons (eTup (aCons (eC (.int 3)) (aCons (eC (.int 3)) (aCons (eC (.int 2)) (aCons (eC (.int 2)) aNil))))) aNil))) (eC (.int 1)))))) (sRet (eC (.bool false))) sNx)
def s_law : Sx := (sSeq (sSet 1 (eCallB f__law_draws 0 (aCons (eC (.int 60)) aNil))) (sSeq (sFor (iRng rng1 (aCons (eC (.int 4)) aNil)) (gN 2) b_law_7) (sSeq (sSet 3 (eTup (aCons (eTup (aCons (eC (.str "a")) (aCons (eTup (aCons (eC (.int 0)) (aCons (eC (.int 0)) (aCons (eC (.int 4)) (aCons (eC (.int 4)) aNil))))) aNil))) (aCons (eTup (aCons (eC (.str "b")) (aCons (eTup (aCons (eC (.int 4)) (aCons (eC (.int 2)) (aCons (eC (.int 4)) (aCons (eC (.int 4)) aNil))))) aNil))) aNil)))) (sSeq i_law_5 (sRet (eAnd (e2 pEq (eCall f_brought_in (aCons (eV 3) (aCons (eTup (aCons (eC (.int 3)) (aCons (eC (.int 3)) (aCons (eC (.int 2)) (aCons (eC (.int 2)) aNil))))) aNil))) (eTup (aCons (eC (.int 4)) (aCons (eC (.int 3)) (aCons (eC (.int 2)) (aCons (eC (.int 2)) aNil)))))) (eAnd (e2 pIs (eCall f_brought_in (aCons (eV 3) (aCons (eTup (aCons (eC (.int 900)) (aCons (eC (.int 900)) (aCons (eC (.int 5)) (aCons (eC (.int 1)) aNil))))) aNil))) (eC .none)) (e2 pIs (eCall f_home_of (aCons (eV 3) (aCons (eTup (aCons (eC (.int 0)) (aCons (eC (.int 0)) (aCons (eC (.int 0)) (aCons (eC (.int 9)) aNil))))) aNil))) (eC .none)))))))))
def f_law : Fn := mkFnB 1 22 s_law
theorem sc_law : FnScope (["script", "draws", "turn", "two", "screens", "cells", "n", "wrong", "draw", "box", "counts", "lost", "left", "rows", "most", "good", "told", "top", "name", "own", "call", "row"] : List Str) (["script"] : List Str) (defScope (top 34)) := ⟨rfl, rfl, rfl, by decide +kernel, rfl, by decide +kernel, by decide +kernel⟩
abbrev LawF (K : PySem.W.Frag) (fd : FuncData) : Prop := FunD K (fnAt "law" 34).name (fnAt "law" 34).qual (fnAt "law" 34).params (fnAt "law" 34).body (fnAt "law" 34).scope ((fnAt "law" 34).dvs K) ((fnAt "law" 34).kws K) (He.fAd K (fnAt "law" 34).at_) fd
theorem ok_law (W : Wd) (c : He.SaysD fa fn W.K) {fd : FuncData} (F : LawF W.K fd) : FnOk W.P W.w W.K W.mg W.base (L2.CX W.P W.w) 9 (He.ga W.K "law") fd (["script"] : List Str) (spB (G W) .sh f_law) := by
  have g_ := Wd.glo (x := "law") c 21 rfl
  have c__law_cells := ok__law_cells W c
  have c__law_draws := ok__law_draws W c
  have c__law_screens := ok__law_screens W c
  have c__law_word := ok__law_word W c
  have c_brought_in := ok_brought_in W c
  have c_home_of := ok_home_of W c
  have c_lost_cells := ok_lost_cells W c
  have c_shares_of := ok_shares_of W c
  have c_spans := ok_spans W c
  have m_abs : W.mg "abs" = none := Wd.free c 26 rfl
  have m_bool : W.mg "bool" = none := Wd.free c 29 rfl
  have m_int : W.mg "int" = none := Wd.free c 31 rfl
  have m_isinstance : W.mg "isinstance" = none := Wd.free c 32 rfl
  have m_len : W.mg "len" = none := Wd.free c 33 rfl
  have m_max : W.mg "max" = none := Wd.free c 34 rfl
  have m_min : W.mg "min" = none := Wd.free c 35 rfl
  have m_range : W.mg "range" = none := Wd.free c 36 rfl
  have m_sorted : W.mg "sorted" = none := Wd.free c 37 rfl
  have m_tuple : W.mg "tuple" = none := Wd.free c 40 rfl
  refine fn_calleeB (P := W.P) (w := W.w) (K := W.K) (mg := W.mg) (base := W.base) (G := G W) (k := 8) (rm := .sh) (sx := s_law) (N := (["script", "draws", "turn", "two", "screens", "cells", "n", "wrong", "draw", "box", "counts", "lost", "left", "rows", "most", "good", "told", "top", "name", "own", "call", "row"] : List Str)) (ps := (["script"] : List Str)) rfl F g_ sc_law (fun _ _ _ _ _ _ us hl => match us, hl with | [_], _ => rfl) ?_
  intro cdv A outer s H S E z
  exact (dss_cons (ds_set 1 z.toCy (de_callB 0 c__law_draws z.toCy (da_cons de_int da_nil)))
  (dss_cons (ds_for z (di_rng1 m_range (da_cons de_int da_nil)) (dg_n 2 z.toCy) (dss_cons (ds_set 4 z.toCy (de_call c__law_screens z.toCy (da_cons (DE.frz (de_op .add z.toCy (DE.bor (DE.frz (de_sl z.toCy (DE.bor (de_v 1)) (do_some (DE.bor (DE.frz (de_op .mul z.toCy de_int (DE.bor (de_v 2)))))) do_no))) (DE.bor (DE.frz (de_sl z.toCy (DE.bor (de_v 1)) do_no (do_some (DE.bor (DE.frz (de_op .mul z.toCy de_int (DE.bor (de_v 2))))))))))) (da_cons de_int (da_cons de_int da_nil)))))
  (dss_cons (ds_set 5 z.toCy (de_call c__law_cells z.toCy (da_cons (de_v 4) da_nil)))
  (dss_cons (ds_for z (di_rng1 m_range (da_cons de_int da_nil)) (dg_n 6 z.toCy) (dss_cons (ds_set 8 z.toCy (DE.frz (de_op .fdiv z.toCy (DE.bor (DE.frz (de_ty cb_int m_int rfl (da_cons (DE.bor (de_ix z.toCy (DE.glo (DE.bor (de_v 1))) (DE.bor (DE.frz (de_op .add z.toCy de_int (DE.bor (de_v 6))))))) da_nil)))) (DE.bor (DE.frz (de_op .add z.toCy (DE.bor (de_v 2)) de_int))))))
  (dss_cons (ds_set 9 z.toCy (de_tup (da_cons (DE.frz (de_op .mod z.toCy (DE.bor (de_v 8)) de_int)) (da_cons (DE.frz (de_op .mod z.toCy (DE.bor (DE.frz (de_op .fdiv z.toCy (DE.bor (de_v 8)) de_int))) de_int)) (da_cons (DE.frz (de_op .mod z.toCy (DE.bor (DE.frz (de_op .fdiv z.toCy (DE.bor (de_v 8)) de_int))) de_int)) (da_cons (DE.frz (de_op .mod z.toCy (DE.bor (DE.frz (de_op .fdiv z.toCy (DE.bor (de_v 8)) de_int))) de_int)) da_nil))))))
  (dss_cons (ds_own 10 z.toCy (de_newD false))
  (dss_cons (ds_set 11 z.toCy de_int)
  (dss_cons (ds_for z (di_rng2 m_range (da_cons (DE.bor (de_ix z.toCy (DE.glo (DE.bor (de_v 9))) de_int)) (da_cons (DE.bor (DE.frz (de_op .add z.toCy (DE.bor (de_ix z.toCy (DE.glo (DE.bor (de_v 9))) de_int)) (DE.bor (de_ix z.toCy (DE.glo (DE.bor (de_v 9))) de_int))))) da_nil))) (dg_n 12 z.toCy) (dss_one (ds_for z (di_rng2 m_range (da_cons (DE.bor (de_ix z.toCy (DE.glo (DE.bor (de_v 9))) de_int)) (da_cons (DE.bor (DE.frz (de_op .add z.toCy (DE.bor (de_ix z.toCy (DE.glo (DE.bor (de_v 9))) de_int)) (DE.bor (de_ix z.toCy (DE.glo (DE.bor (de_v 9))) de_int))))) da_nil))) (dg_n 17 z.toCy) (dss_cons (ds_set 18 z.toCy (de_dg2 z.toCy (DE.bor (de_v 5)) (de_tup (da_cons (de_v 12) (da_cons (de_v 17) da_nil))) de_str))
  (dss_cons (ds_dput 10 z.toCy (de_v 18) (DE.frz (de_op .add z.toCy (DE.bor (de_dg2 z.toCy (de_b 10) (de_v 18) de_int)) de_int)))
  (dss_one (ds_set 11 z.toCy (DE.frz (de_op .add z.toCy (DE.bor (de_v 11)) (DE.bor (DE.frz (de_ty cb_int m_int rfl (da_cons (DE.bor (DE.frz (de_cmp .eq z.toCy (DE.bor (de_v 18)) de_str))) da_nil)))))))))))))
  (dss_cons (ds_set_of (asg_frz (ds_lcO (own := [("name", 18)]) 13 rfl rfl z.toCy rfl (di_seq (m := .bo) z.toCy (.inr rfl) (DE.bor (DE.frz (de_bi (cb_sorted z.toCy.K z.toCy.calm z.toCy.u80) m_sorted rfl (da_cons (de_b 10) da_nil))))) (fun _ _ _ _ _ c1 => ⟨(dg_n 18 c1), (dts_one (dt_cmp .ne c1 (DE.bor (de_v 18)) de_str)), (de_tup (da_cons (de_v 18) (da_cons (de_ix c1 (DE.glo (de_b 10)) (DE.bor (de_v 18))) da_nil)))⟩) (blkOk_by (by rfl)) rfl)))
  (dss_cons (ds_set 14 z.toCy (DE.frz (de_bi (cb_max z.toCy.calm) m_max rfl (da_cons (DE.bor (DE.frz (de_op .add z.toCy (DE.bor (DE.frz (de_lc [("row", 21)] z.toCy (di_seq (m := .bo) z.toCy (.inr rfl) (DE.bor (de_v 13))) (fun _ _ _ _ _ c2 => ⟨(dg_n 21 c2), dts_nil, (de_ix c2 (DE.glo (DE.bor (de_v 21))) de_int)⟩) (blkOk_by (by rfl))))) (DE.bor (DE.frz (de_lst (da_cons de_int da_nil))))))) da_nil))))
  (dss_cons (ds_if (PW.pt (dw_or (dt_cmp .ne z.toCy (DE.bor (de_call c_shares_of z.toCy (da_cons (de_v 4) (da_cons (de_v 9) da_nil)))) (DE.bor (DE.frz (de_ty (cb_tuple z.toCy.K) m_tuple rfl (da_cons (DE.bor (de_v 13)) da_nil))))) (dw_or (dt_cmp .ne z.toCy (DE.bor (de_call c_lost_cells z.toCy (da_cons (de_v 4) (da_cons (de_v 9) da_nil)))) (DE.bor (de_v 11))) (dw_or (dt_cmp .ne z.toCy (DE.bor (de_call c_spans z.toCy (da_cons (de_v 4) (da_cons (de_v 9) da_nil)))) (DE.bor (DE.frz (de_cmp .gt z.toCy (DE.bor (DE.frz (de_bi (cb_len z.toCy.K) m_len rfl (da_cons (DE.bor (de_v 13)) da_nil)))) de_int)))) (dw_or1 (dt_not (dt_v z.toCy (de_isi z.toCy (DE.bor (de_call c_spans z.toCy (da_cons (de_v 4) (da_cons (de_v 9) da_nil)))) m_isinstance rfl m_bool rfl)))))))) (dss_one (ds_ret de_bl)) dss_nil)
  (dss_cons (ds_if (dt_cmp .ne z.toCy (DE.bor (de_call c_home_of z.toCy (da_cons (de_v 4) (da_cons (de_v 9) da_nil)))) (de_if (dt_cmp .gt z.toCy (DE.bor (DE.frz (de_bi (cb_len z.toCy.K) m_len rfl (da_cons (DE.bor (de_v 13)) da_nil)))) de_int) (DE.bor (de_ix z.toCy (DE.glo (DE.bor (DE.frz (de_lc [("row", 21)] z.toCy (di_seq (m := .bo) z.toCy (.inr rfl) (DE.bor (de_v 13))) (fun _ _ _ _ _ c3 => ⟨(dg_n 21 c3), (dts_one (dt_cmp .eq c3 (DE.bor (de_ix c3 (DE.glo (DE.bor (de_v 21))) de_int)) (DE.bor (de_v 14)))), (de_ix c3 (DE.glo (DE.bor (de_v 21))) de_int)⟩) (blkOk_by (by rfl)))))) de_int)) de_non)) (dss_one (ds_ret de_bl)) dss_nil)
  (dss_cons (ds_set 15 z.toCy (DE.frz (de_lst da_nil)))
  (dss_cons (ds_for z (di_seq (m := .sh) z.toCy (.inl rfl) (de_v 4)) (dg_t z.toCy (dgs_cons (dg_n 18 z.toCy) (dgs_cons (dg_n 19 z.toCy) dgs_nil))) (dss_one (ds_for z (di_rng2 m_range (da_cons (DE.bor (de_ix z.toCy (DE.glo (DE.bor (de_v 19))) de_int)) (da_cons (DE.bor (DE.frz (de_op .add z.toCy (DE.bor (DE.frz (de_op .sub z.toCy (DE.bor (DE.frz (de_op .add z.toCy (DE.bor (de_ix z.toCy (DE.glo (DE.bor (de_v 19))) de_int)) (DE.bor (de_ix z.toCy (DE.glo (DE.bor (de_v 19))) de_int))))) (DE.bor (de_ix z.toCy (DE.glo (DE.bor (de_v 9))) de_int))))) de_int))) da_nil))) (dg_n 12 z.toCy) (dss_one (ds_set 15 z.toCy (DE.frz (de_op .add z.toCy (DE.bor (de_v 15)) (DE.bor (DE.frz (de_lc [("top", 17)] z.toCy (di_rng2 m_range (da_cons (DE.bor (de_ix z.toCy (DE.glo (DE.bor (de_v 19))) de_int)) (da_cons (DE.bor (DE.frz (de_op .add z.toCy (DE.bor (DE.frz (de_op .sub z.toCy (DE.bor (DE.frz (de_op .add z.toCy (DE.bor (de_ix z.toCy (DE.glo (DE.bor (de_v 19))) de_int)) (DE.bor (de_ix z.toCy (DE.glo (DE.bor (de_v 19))) de_int))))) (DE.bor (de_ix z.toCy (DE.glo (DE.bor (de_v 9))) de_int))))) de_int))) da_nil))) (fun _ _ _ _ _ c4 => ⟨(dg_n 17 c4), dts_nil, (de_tup (da_cons (DE.frz (de_op .add c4 (DE.bor (DE.frz (de_bi cb_abs m_abs rfl (da_cons (DE.bor (DE.frz (de_op .sub c4 (DE.bor (de_v 12)) (DE.bor (de_ix c4 (DE.glo (DE.bor (de_v 9))) de_int))))) da_nil)))) (DE.bor (DE.frz (de_bi cb_abs m_abs rfl (da_cons (DE.bor (DE.frz (de_op .sub c4 (DE.bor (de_v 17)) (DE.bor (de_ix c4 (DE.glo (DE.bor (de_v 9))) de_int))))) da_nil)))))) (da_cons (DE.frz (de_op .add c4 (de_tup (da_cons (de_v 12) (da_cons (de_v 17) da_nil))) (DE.bor (DE.frz (de_sl c4 (DE.bor (de_v 9)) (do_some de_int) do_no))))) da_nil)))⟩) (blkOk_by (by rfl))))))))))))
  (dss_cons (ds_set 16 z.toCy (de_call c_brought_in z.toCy (da_cons (de_v 4) (da_cons (de_v 9) da_nil))))
  (dss_one (ds_if (PW.pt (dw_or (dt_cmp .ne z.toCy (DE.bor (de_v 16)) (de_if (dt_cmp .gt z.toCy (DE.bor (DE.frz (de_bi (cb_len z.toCy.K) m_len rfl (da_cons (DE.bor (de_v 15)) da_nil)))) de_int) (DE.bor (de_ix z.toCy (DE.glo (DE.bor (de_bi (cb_min z.toCy.K z.toCy.calm z.toCy.u80) m_min rfl (da_cons (DE.bor (de_v 15)) da_nil)))) de_int)) de_non)) (dw_or1 (PW.pt (dw_and (dt_cmp .isnt z.toCy (DE.bor (de_v 16)) de_non) (dw_and1 (dt_cmp .ne z.toCy (DE.bor (de_call c_brought_in z.toCy (da_cons (de_v 4) (da_cons (de_v 16) da_nil)))) (DE.bor (de_v 16))))))))) (dss_one (ds_ret de_bl)) dss_nil)))))))))))))))
  (dss_one (ds_for z (di_seq (m := .sh) z.toCy (.inl rfl) (DE.frz (de_lst (da_cons de_non (da_cons (de_tup (da_cons de_int (da_cons de_int (da_cons de_int da_nil)))) (da_cons (DE.frz (de_lst (da_cons de_int (da_cons de_int (da_cons de_int (da_cons de_int da_nil)))))) (da_cons (de_tup (da_cons de_int (da_cons de_int (da_cons de_int (da_cons de_int da_nil))))) (da_cons (de_tup (da_cons de_int (da_cons de_int (da_cons (DE.frz (de_neg de_int)) (da_cons de_int da_nil))))) (da_cons (de_tup (da_cons de_int (da_cons de_int (da_cons de_bl (da_cons de_int da_nil))))) (da_cons de_int da_nil)))))))))) (dg_n 7 z.toCy) (dss_one (ds_if (dt_cmp .ne z.toCy (DE.bor (DE.frz (de_lc [("call", 20)] z.toCy (di_rng1 m_range (da_cons de_int da_nil)) (fun _ _ _ _ _ c5 => ⟨(dg_n 20 c5), dts_nil, (de_call c__law_word c5 (da_cons (de_v 20) (da_cons (de_v 4) (da_cons (de_v 7) da_nil))))⟩) (blkOk_by (by rfl))))) (DE.bor (DE.frz (de_op .mul z.toCy (DE.bor (DE.frz (de_lst (da_cons de_str da_nil)))) de_int)))) (dss_one (ds_ret de_bl)) dss_nil))))))))
  (dss_cons (ds_set 3 z.toCy (de_tup (da_cons (de_tup (da_cons de_str (da_cons (de_tup (da_cons de_int (da_cons de_int (da_cons de_int (da_cons de_int da_nil))))) da_nil))) (da_cons (de_tup (da_cons de_str (da_cons (de_tup (da_cons de_int (da_cons de_int (da_cons de_int (da_cons de_int da_nil))))) da_nil))) da_nil))))
  (dss_cons (ds_if (PW.pt (dw_or (dt_cmp .ne z.toCy (DE.bor (de_call c_shares_of z.toCy (da_cons (de_v 3) (da_cons (de_tup (da_cons de_int (da_cons de_int (da_cons de_int (da_cons de_int da_nil))))) da_nil)))) (de_tup (da_cons (de_tup (da_cons de_str (da_cons de_int da_nil))) (da_cons (de_tup (da_cons de_str (da_cons de_int da_nil))) da_nil)))) (dw_or (dt_cmp .ne z.toCy (DE.bor (de_call c_home_of z.toCy (da_cons (de_v 3) (da_cons (de_tup (da_cons de_int (da_cons de_int (da_cons de_int (da_cons de_int da_nil))))) da_nil)))) de_str) (dw_or1 (dt_cmp .ne z.toCy (DE.bor (de_call c_lost_cells z.toCy (da_cons (de_v 3) (da_cons (de_tup (da_cons de_int (da_cons de_int (da_cons de_int (da_cons de_int da_nil))))) da_nil)))) de_int))))) (dss_one (ds_ret de_bl)) dss_nil)
  (dss_one (ds_ret (de_and (DE.bor (DE.frz (de_cmp .eq z.toCy (DE.bor (de_call c_brought_in z.toCy (da_cons (de_v 3) (da_cons (de_tup (da_cons de_int (da_cons de_int (da_cons de_int (da_cons de_int da_nil))))) da_nil)))) (de_tup (da_cons de_int (da_cons de_int (da_cons de_int (da_cons de_int da_nil)))))))) (de_and (DE.bor (DE.frz (de_cmp .is z.toCy (DE.bor (de_call c_brought_in z.toCy (da_cons (de_v 3) (da_cons (de_tup (da_cons de_int (da_cons de_int (da_cons de_int (da_cons de_int da_nil))))) da_nil)))) de_non))) (de_and1 (DE.frz (de_cmp .is z.toCy (DE.bor (de_call c_home_of z.toCy (da_cons (de_v 3) (da_cons (de_tup (da_cons de_int (da_cons de_int (da_cons de_int (da_cons de_int da_nil))))) da_nil)))) de_non)))))))))))
end Lw

set_option Elab.async false
set_option linter.all false
set_option maxRecDepth 100000
set_option maxHeartbeats 1000000
namespace Lw
open PySem PySem.Spec PyProof.Rows L2 Ev
def zL (ns : List Int) : List D := ns.map .int
@[simp] theorem zL_length (ns : List Int) : (zL ns).length = ns.length := by simp [zL]
theorem zL_app (ns : List Int) (n : Int) : zL ns ++ [.int n] = zL (ns ++ [n]) := by simp [zL]
def InR (ds : List Int) : Prop := ∀ d ∈ ds, 0 ≤ d ∧ d < 65521
theorem InR.app {ds : List Int} (h : InR ds) {n : Int} (h0 : 0 ≤ n) (h1 : n < 65521) : InR (ds ++ [n]) := fun d hd => by
  rcases List.mem_append.mp hd with hd | hd
  · exact h d hd
  · rw [List.mem_singleton] at hd
    subst hd
    exact ⟨h0, h1⟩
theorem app_ok {i : Nat} {f : Ex} {ρ : List Slot} {ds : List D} {d : D} (h : ρ[i]? = some (.ol ds)) (hf : f ρ = .ok d) (hz : ds.length < line) : sApp i f ρ = .nx (ρ.set i (.ol (ds ++ [d]))) := by
  unfold sApp
  rw [h]
  dsimp only
  rw [hf, onD_ok, if_pos hz]
theorem inner_step (X : List D) (ds : List Int) (seed n : Int) (s4 s5 : Slot) (hz : ds.length < line) :
    ∃ (n' : Int) (ds' : List Int), (ds' = ds ∨ ∃ e, ds' = ds ++ [e] ∧ 0 ≤ e ∧ e < 65521) ∧ b__law_draws_1 [.bs X, .sh (.int 60), .ol (zL ds), .sh (.int seed), s4, s5, .sh (.int n)] = .nx [.bs X, .sh (.int 60), .ol (zL ds'), .sh (.int seed), s4, s5, .sh (.int n')] := by
  by_cases h : 0 < n
  · refine ⟨n / 1009, ds ++ [n % 1009], .inr ⟨_, rfl, by omega, by omega⟩, ?_⟩
    have hm : pMod (.int n) (.int 1009) = some (.int (n % 1009)) := pMod_i _ _ (by decide)
    have hd : pFdiv (.int n) (.int 1009) = some (.int (n / 1009)) := pFdiv_i _ _ (by decide) (by decide)
    simp [b__law_draws_1, h, sApp, hm, hd, hz, zL_app]
  · exact ⟨n, ds, .inl rfl, by simp [b__law_draws_1, h]⟩
theorem inner_loop (X : List D) (ds : List Int) (hr : InR ds) (seed n : Int) (s4 s5 : Slot) (hz : ds.length + 60 ≤ line) :
    ∃ (n' : Int) (ds' : List Int) (s5' : Slot), InR ds' ∧ ds'.length ≤ ds.length + 60 ∧ forGo (gN 5) b__law_draws_1 (rngL 0 60) [.bs X, .sh (.int 60), .ol (zL ds), .sh (.int seed), s4, s5, .sh (.int n)] = .nx [.bs X, .sh (.int 60), .ol (zL ds'), .sh (.int seed), s4, s5', .sh (.int n')] := by
  obtain ⟨ρ', e, n', ds', s5', rfl, h1, h2⟩ := for_inv (g := gN 5) (s := b__law_draws_1) (ds := rngL 0 60) (fun i ρ => ∃ (n' : Int) (ds' : List Int) (s5' : Slot), ρ = [.bs X, .sh (.int 60), .ol (zL ds'), .sh (.int seed), s4, s5', .sh (.int n')] ∧ InR ds' ∧ ds'.length ≤ ds.length + i) ⟨n, ds, s5, rfl, hr, by omega⟩ (by
    rintro i d ρ hi ⟨n1, ds1, s5', rfl, h1, h2⟩
    obtain ⟨hi, rfl⟩ := rngL_get hi
    refine ⟨_, rfl, ?_⟩
    obtain ⟨n2, ds2, h3, h4⟩ := inner_step X ds1 seed n1 s4 (.sh (.int (0 + i))) (by omega)
    refine ⟨_, .inl h4, n2, ds2, _, rfl, ?_, ?_⟩
    · rcases h3 with rfl | ⟨e, rfl, h5, h6⟩
      · exact h1
      · exact h1.app h5 h6
    · rcases h3 with rfl | ⟨e, rfl, h5, h6⟩
      · omega
      · rw [List.length_append, List.length_singleton]; omega)
  rw [rngL_length] at h2
  exact ⟨n', ds', s5', h1, h2, e⟩
theorem rng1_60 : rng1 [.int 60] = .ok (rngL 0 60) := by rfl
theorem outer_step (X : List D) (ds : List Int) (hr : InR ds) (seed cell : Int) (s5 s6 : Slot) (hz : ds.length + 60 ≤ line) :
    ∃ (n' seed' : Int) (ds' : List Int) (s5' : Slot), InR ds' ∧ ds'.length ≤ ds.length + 60 ∧ b__law_draws_2 [.bs X, .sh (.int 60), .ol (zL ds), .sh (.int seed), .sh (.int cell), s5, s6] = .nx [.bs X, .sh (.int 60), .ol (zL ds'), .sh (.int seed'), .sh (.int cell), s5', .sh (.int n')] := by
  have h1 : ∀ i : Int, pMul (.int i) (.int 48271) = some (.int (i * 48271)) := fun i => pMul_i48 _ _ (by decide)
  have h2 : ∀ i : Int, pMul (.int i) (.int 16807) = some (.int (i * 16807)) := fun i => pMul_i48 _ _ (by decide)
  have h3 : ∀ i : Int, pMod (.int i) (.int 2147483647) = some (.int (i % 2147483647)) := fun i => pMod_i _ _ (by decide)
  have h4 : ∀ i : Int, pMod (.int i) (.int 65521) = some (.int (i % 65521)) := fun i => pMod_i _ _ (by decide)
  have h5 : ∀ i : Int, pFdiv (.int i) (.int 3) = some (.int (i / 3)) := fun i => pFdiv_i _ _ (by decide) (by decide)
  have h6 : pPow (.int 10) (.int 18) = some (.int (10 ^ 18)) := by rfl
  generalize hn : (if cell < 0 then -cell else cell) = n
  generalize hs : (seed * 48271 + n + 11) % 2147483647 = seed'
  by_cases hb : 1000000000000000000 ≤ n
  · obtain ⟨n', ds', s5', a1, a2, a3⟩ := inner_loop X ds hr seed' n (.sh (.int cell)) s5 hz
    refine ⟨n', seed', ds', s5', a1, a2, ?_⟩
    rw [← a3]
    simp [b__law_draws_2, hn, h1, h3, h6, hs, rng1_60, hb]
    try (intro hc; exact absurd hc (by omega))
  · refine ⟨n, seed', ds ++ [(seed' * 16807 + 5) / 3 % 65521], s5, hr.app (by omega) (by omega), by rw [List.length_append, List.length_singleton]; omega, ?_⟩
    have hz2 : ds.length < line := by omega
    simp [b__law_draws_2, hn, h1, h2, h3, h4, h5, h6, hs, sApp, hz2, zL_app]
    try (intro hc; exact absurd hc (by omega))
theorem fill_step (X : List D) (ds : List Int) (hr : InR ds) (seed k : Int) (s4 s6 : Slot) :
    ∃ (seed' : Int) (ds' : List Int), InR ds' ∧ ((60 ≤ ds.length ∧ ds' = ds) ∨ (ds.length < 60 ∧ ds'.length = ds.length + 1)) ∧ b__law_draws_3 [.bs X, .sh (.int 60), .ol (zL ds), .sh (.int seed), s4, .sh (.int k), s6] = .nx [.bs X, .sh (.int 60), .ol (zL ds'), .sh (.int seed'), s4, .sh (.int k), s6] := by
  have h1 : ∀ i : Int, pMul (.int i) (.int 69621) = some (.int (i * 69621)) := fun i => pMul_i48 _ _ (by decide)
  have h3 : ∀ i : Int, pMod (.int i) (.int 2147483647) = some (.int (i % 2147483647)) := fun i => pMod_i _ _ (by decide)
  have h4 : ∀ i : Int, pMod (.int i) (.int 65521) = some (.int (i % 65521)) := fun i => pMod_i _ _ (by decide)
  have h5 : ∀ i : Int, pFdiv (.int i) (.int 7) = some (.int (i / 7)) := fun i => pFdiv_i _ _ (by decide) (by decide)
  by_cases hl : ds.length < 60
  · refine ⟨(seed * 69621 + k + 1) % 2147483647, ds ++ [(seed * 69621 + k + 1) % 2147483647 / 7 % 65521], hr.app (by omega) (by omega), .inr ⟨hl, by simp⟩, ?_⟩
    have hz2 : ds.length < line := Nat.lt_trans hl (by decide)
    have hl2 : (ds.length : Int) < 60 := by omega
    simp [b__law_draws_3, h1, h3, h4, h5, hl2, sApp, hz2, zL_app]
  · have hl2 : ¬ (ds.length : Int) < 60 := by omega
    exact ⟨seed, ds, hr, .inl ⟨by omega, rfl⟩, by simp [b__law_draws_3, hl2]⟩
theorem zL_get {ns : List Int} {i : Nat} {d : D} (h : (zL ns)[i]? = some d) : ∃ n, ns[i]? = some n ∧ d = .int n := by
  unfold zL at h
  rw [List.getElem?_map] at h
  obtain ⟨n, h1, h2⟩ := Option.map_eq_some_iff.mp h
  exact ⟨n, h1, h2.symm⟩
/-- the draws: sixty numbers of the drawing's kind -/
theorem draws_ok (ns : List Int) : ∃ ds : List Int, ds.length = 60 ∧ InR ds ∧ f__law_draws [.list (zL ns), .int 60] = .ok (.list (zL ds)) := by
  have hcut : Ev.cutD (zL ns) none (some 63) = zL (ns.take 63) := by
    have := cut_take (zL ns) 63
    rw [show ((63 : Nat) : Int) = 63 from rfl] at this
    rw [this]
    unfold zL
    rw [List.map_take]
  obtain ⟨ρ1, e1, n1, seed1, ds1, s4, s5, s6, rfl, h1, h2⟩ := for_inv (g := gN 4) (s := b__law_draws_2) (ds := zL (ns.take 63)) (ρ := [.bs (zL ns), .sh (.int 60), .ol (zL []), .sh (.int 7), .no, .no, .no])
    (fun i ρ => ∃ (n' seed' : Int) (ds' : List Int) (s4 s5 s6 : Slot), ρ = [.bs (zL ns), .sh (.int 60), .ol (zL ds'), .sh (.int seed'), s4, s5, s6] ∧ InR ds' ∧ ds'.length ≤ 60 * i) ⟨0, 7, [], .no, .no, .no, rfl, by simp [InR], by simp⟩ (by
    rintro i d ρ hi ⟨n1, seed1, ds1, s4, s5, s6, rfl, h1, h2⟩
    have hlt : i < 63 := by
      have := (List.getElem?_eq_some_iff.mp hi).1
      simp at this
      omega
    obtain ⟨c, _, rfl⟩ := zL_get hi
    refine ⟨_, rfl, ?_⟩
    obtain ⟨n2, seed2, ds2, s5', a1, a2, a3⟩ := outer_step (zL ns) ds1 h1 seed1 c s5 s6 (by
      have : (3840 : Nat) ≤ line := by decide
      omega)
    exact ⟨_, .inl a3, n2, seed2, ds2, _, _, _, rfl, a1, by omega⟩)
  have hl1 : ds1.length ≤ 3780 := by
    have : (zL (ns.take 63)).length ≤ 63 := by simp; omega
    omega
  obtain ⟨ρ2, e2, seed2, ds2, s5', rfl, h3, h4⟩ := for_inv (g := gN 5) (s := b__law_draws_3) (ds := rngL 0 60) (ρ := [.bs (zL ns), .sh (.int 60), .ol (zL ds1), .sh (.int seed1), s4, s5, s6])
    (fun i ρ => ∃ (seed' : Int) (ds' : List Int) (s5 : Slot), ρ = [.bs (zL ns), .sh (.int 60), .ol (zL ds'), .sh (.int seed'), s4, s5, s6] ∧ InR ds' ∧ (i ≤ ds'.length ∨ 60 ≤ ds'.length)) ⟨seed1, ds1, s5, rfl, h1, .inl (Nat.zero_le _)⟩ (by
    rintro i d ρ hi ⟨seed1, ds1, s5, rfl, h1, h2⟩
    obtain ⟨hi, rfl⟩ := rngL_get hi
    refine ⟨_, rfl, ?_⟩
    obtain ⟨seed2, ds2, a1, a2, a3⟩ := fill_step (zL ns) ds1 h1 seed1 (0 + i) s4 s6
    exact ⟨_, .inl a3, seed2, ds2, _, rfl, a1, by rcases a2 with ⟨b1, rfl⟩ | ⟨b1, b2⟩ <;> omega⟩)
  rw [rngL_length] at h4
  refine ⟨ds2.take 60, by rw [List.length_take]; omega, fun d hd => h3 d (List.mem_of_mem_take hd), ?_⟩
  have hcut2 : Ev.cutD (zL ds2) none (some 60) = zL (ds2.take 60) := by
    have := cut_take (zL ds2) 60
    rw [show ((60 : Nat) : Int) = 60 from rfl] at this
    rw [this]
    unfold zL
    rw [List.map_take]
  have hz : zL [] = [] := rfl
  rw [hz] at e1
  simp only [f__law_draws, mkFnB, s__law_draws]
  simp [eSlB, hcut, e1, rng1_60, e2, pCut, hcut2]
end Lw

set_option Elab.async false
set_option linter.all false
set_option maxRecDepth 100000
set_option maxHeartbeats 1000000
namespace Lw
open PySem PySem.Spec PyProof.Rows L2 Ev
/-! ### boxes, screens -/
structure Bx where
  l : Int
  t : Int
  w : Int
  h : Int
  deriving DecidableEq
def Bx.e (b : Bx) : D := .tuple [.int b.l, .int b.t, .int b.w, .int b.h]
def nm (k : Nat) : Str := ⟨#[115 + k]⟩
structure Sn where
  k : Nat
  b : Bx
  deriving DecidableEq
def Sn.e (s : Sn) : D := .tuple [.str (nm s.k), s.b.e]
def scE (ss : List Sn) : D := .tuple (ss.map Sn.e)
def Bx.ok (b : Bx) : Prop := (0 ≤ b.l ∧ b.l ≤ 1000) ∧ (0 ≤ b.t ∧ b.t ≤ 1000) ∧ (0 ≤ b.w ∧ b.w ≤ 1000) ∧ (0 ≤ b.h ∧ b.h ≤ 1000)
instance (b : Bx) : Decidable b.ok := by unfold Bx.ok; infer_instance
def mt (a b : Bx) : Bool := decide (max a.l b.l < min (a.l + a.w) (b.l + b.w)) && decide (max a.t b.t < min (a.t + a.h) (b.t + b.h))
theorem is_whole_i (i a b : Int) : f_is_whole [.int i, .int a, .int b] = .ok (.bool (decide (a ≤ i) && decide (i ≤ b))) := by
  simp [f_is_whole, mkFn, s_is_whole, truD]
  by_cases h : a ≤ i <;> simp [h]
theorem is_box_e (b : Bx) : f_is_box [b.e] = .ok (.bool (decide b.ok)) := by
  simp [f_is_box, mkFn, s_is_box, Bx.e, lcGo_c, is_whole_i, Bx.ok]
  rw [Bool.eq_iff_iff]
  simp
  exact decide_eq_true_iff.symm
theorem meet_e (a b : Bx) : f_meet [a.e, b.e] = .ok (.bool (mt a b)) := by
  simp [f_meet, mkFn, s_meet, Bx.e, mt]
  by_cases h : max a.l b.l < min (a.l + a.w) (b.l + b.w) <;> simp [h]
theorem name_ok (k : Nat) (h : k < 5) : f_is_name [.str (nm k)] = .ok (.bool true) := by
  match k, h with
  | 0, _ => rfl
  | 1, _ => rfl
  | 2, _ => rfl
  | 3, _ => rfl
  | 4, _ => rfl
/-- well-laid screens -/
structure Good (ss : List Sn) : Prop where
  one : 1 ≤ ss.length
  five : ss.length ≤ 5
  box : ∀ s ∈ ss, s.k < 5 ∧ s.b.ok ∧ 0 < s.b.w ∧ 0 < s.b.h
  asc : ss.Pairwise fun a b => a.k < b.k
  apart : ss.Pairwise fun a b => mt a.b b.b = false
  near : ∀ s ∈ ss, s.b.l + s.b.w ≤ 1000 ∧ s.b.t + s.b.h ≤ 1000
theorem isa_int (x : Int) : True := trivial
theorem is_screen_e (s : Sn) (hk : s.k < 5) (hb : s.b.ok) (hw : 0 < s.b.w) (hh : 0 < s.b.h) : f__is_screen [s.e] = .ok (.bool true) := by
  have e1 : f_is_name [.str (nm s.k)] = .ok (.bool true) := name_ok s.k hk
  have e2 : f_is_box [s.b.e] = .ok (.bool true) := by rw [is_box_e]; simp [hb]
  simp [f__is_screen, mkFn, s__is_screen, Sn.e, e1, e2]
  simp [Bx.e, hw, hh]
theorem nm_lt (i j : Nat) : ((nm i).cps.toList < (nm j).cps.toList) ↔ i < j := by
  simp [nm, List.cons_lt_cons_iff]
@[simp] theorem nm_lt' (i j : Nat) : ((nm i).cps < (nm j).cps) ↔ i < j := nm_lt i j
@[simp] theorem nm_inj (i j : Nat) : nm i = nm j ↔ i = j := by simp [nm]
theorem asc_zip {ks : List Nat} (h : ks.Pairwise (· < ·)) : ∀ p ∈ ks.zip (ks.drop 1), p.1 < p.2 := by
  intro p hp
  cases ks with
  | nil => simp at hp
  | cons k ks =>
    rw [List.drop_one, List.tail_cons] at hp
    induction ks generalizing k with
    | nil => simp at hp
    | cons k' ks ih =>
      rw [List.zip_cons_cons] at hp
      rcases List.mem_cons.mp hp with rfl | hp
      · exact (List.pairwise_cons.mp h).1 k' List.mem_cons_self
      · exact ih k' (List.pairwise_cons.mp h).2 hp
def nE (k : Nat) : D := .str (nm k)
theorem ascends_e (ks : List Nat) (h : ks.Pairwise (· < ·)) (hl : ks.length ≤ 1000) : f_ascends [.list (ks.map nE)] = .ok (.bool true) := by
  have hc : Ev.cutD (ks.map nE) (some 1) none = (ks.drop 1).map nE := by
    rw [cut_map]
    have := cut_drop ks 1
    rw [show ((1 : Nat) : Int) = 1 from rfl] at this
    rw [this]
  have hgo : ∀ s0 : Ev.Slot, lcGo [1, 2] (gT 2 (gsCons (gN 1) (gsCons (gN 2) gsNil))) tYesS (e2 pLt (eV 1) (eV 2)) [s0, .no, .no] (zipL (ks.map nE) ((ks.drop 1).map nE)) = .ok ((ks.zip (ks.drop 1)).map fun _ => .bool true) := fun s0 => by
    rw [zipL_map]
    refine lcGo_mapE _ _ _ fun p hp => ⟨_, rfl, ?_⟩
    have := asc_zip h p hp
    simp [nE, this]
  have hz : ((ks.zip (ks.drop 1)).map fun _ => (.bool true : D)).length ≤ line := by
    have : (1000 : Nat) ≤ line := by decide
    simp
    omega
  have hb : boolsOf ((ks.zip (ks.drop 1)).map fun _ => (.bool true : D)) = some ((ks.zip (ks.drop 1)).map fun _ => true) := by
    have := boolsOf_map ((ks.zip (ks.drop 1)).map fun _ => true)
    rw [List.map_map] at this
    exact this
  simp only [f_ascends, mkFn, s_ascends]
  simp [pCut, hc, seq2, -List.drop_one, -List.map_drop, -List.map_take]
  simp [hgo, mkLst_le hz, hb, -List.drop_one, -List.map_drop, -List.map_take]
theorem le_line {n : Nat} (h : n ≤ 1000000) : n ≤ line := Nat.le_trans h (by decide)
theorem bools_const {α : Type} (xs : List α) (b : α → Bool) : boolsOf (xs.map fun x => (.bool (b x) : D)) = some (xs.map b) := by
  have := boolsOf_map (xs.map b)
  rw [List.map_map] at this
  exact this
theorem scr_len (ss : List Sn) : bLen [scE ss] = some (.int ss.length) := by
  simp [scE]
theorem zipIdx_pair {α : Type} {xs : List α} {p : α × Nat} (h : p ∈ xs.zipIdx) : xs[p.2]? = some p.1 := by
  obtain ⟨a, i⟩ := p
  have := List.mem_zipIdx_iff_getElem?.mp h
  simpa using this
theorem pair_of {α : Type} {R : α → α → Prop} {xs : List α} (h : xs.Pairwise R) {i : Nat} {a b : α} (ha : xs[i]? = some a) (hb : b ∈ xs.drop (i + 1)) : R a b := by
  obtain ⟨hi, ea⟩ := List.getElem?_eq_some_iff.mp ha
  have hd : xs.drop i = a :: xs.drop (i + 1) := by rw [List.drop_eq_getElem_cons hi, ea]
  have hp := h.sublist (List.drop_sublist i xs)
  rw [hd] at hp
  exact (List.pairwise_cons.mp hp).1 b hb
/-- a comprehension with two sources, all whose items are false -/
theorem lc2_false {α β : Type} {vs vs1 : List Nat} {g g1 : Gt} {it1 : Exs} {e : Ex} {ρ : List Slot} (f : α → D) (f1 : β → D) (sub : α → List β) : ∀ (xs : List α), (∀ x ∈ xs, ∃ ρ', g (f x) (killS vs ρ) = .ok ρ' ∧ it1 ρ' = .ok ((sub x).map f1) ∧ ∀ y ∈ sub x, ∃ ρ'', g1 (f1 y) (killS vs1 ρ') = .ok ρ'' ∧ e ρ'' = .ok (.bool false)) →
    lc2Go vs vs1 g tYesS it1 g1 tYesS e ρ (xs.map f) = .ok ((xs.flatMap sub).map fun _ => .bool false)
  | [], _ => rfl
  | x :: xs, h => by
    obtain ⟨ρ', h1, h2, h3⟩ := h x List.mem_cons_self
    rw [List.map_cons]
    unfold lc2Go
    rw [h1, ok_bind, tYesS_ap, ok_bind, if_pos rfl, h2, ok_bind, lcGo_mapE f1 (fun _ => .bool false) (sub x) h3, ok_bind, lc2_false f f1 sub xs fun y hy => h y (List.mem_cons_of_mem _ hy), ok_bind, List.flatMap_cons, List.map_append]
theorem are_screens_e (ss : List Sn) (g : Good ss) : f_are_screens [scE ss] = .ok (.bool true) := by
  have h5 := g.five
  have hz : ∀ (F : Sn → D), mkLst (ss.map F) = .ok (.list (ss.map F)) := fun F => mkLst_le (le_line (by simp; omega))
  have g1 : ∀ s0 s1 s3 s4 s5 : Ev.Slot, lcGo [2] (gN 2) tYesS (eCall f__is_screen (aCons (eV 2) aNil)) [s0, s1, .no, s3, s4, s5] (ss.map Sn.e) = .ok (ss.map fun _ => .bool true) := fun s0 s1 s3 s4 s5 =>
    lcGo_mapE _ _ _ fun s hs => ⟨_, rfl, by
      obtain ⟨a1, a2, a3, a4⟩ := g.box s hs
      simp [is_screen_e s a1 a2 a3 a4]⟩
  have g2 : ∀ s0 s1 s3 s4 s5 : Ev.Slot, lcGo [2] (gN 2) tYesS (e2 (pIx kt) (eV 2) (eC (.int 0))) [s0, s1, .no, s3, s4, s5] (ss.map Sn.e) = .ok (ss.map fun s => nE s.k) := fun s0 s1 s3 s4 s5 =>
    lcGo_mapE _ _ _ fun s hs => ⟨_, rfl, by simp [Sn.e, nE]⟩
  have g3 : ∀ s0 s1 s3 s4 s5 : Ev.Slot, lcGo [2] (gN 2) tYesS (e2 (pIx kt) (eV 2) (eC (.int 1))) [s0, s1, .no, s3, s4, s5] (ss.map Sn.e) = .ok (ss.map fun s => s.b.e) := fun s0 s1 s3 s4 s5 =>
    lcGo_mapE _ _ _ fun s hs => ⟨_, rfl, by simp [Sn.e]⟩
  have asc : f_ascends [.list (ss.map fun s => nE s.k)] = .ok (.bool true) := by
    have := ascends_e (ss.map (·.k)) (by rw [List.pairwise_map]; exact g.asc) (by simp; omega)
    rw [List.map_map] at this
    exact this
  have g4 : ∀ s0 : Ev.Slot, lc2Go [4, 5, 3] [3] (gT 2 (gsCons (gN 4) (gsCons (gN 5) gsNil))) tYesS (iSeq (eSl (eV 1) (oSome (e2 pAdd (eV 4) (eC (.int 1)))) oNo)) (gN 3) tYesS (eCall f_meet (aCons (eV 5) (aCons (eV 3) aNil))) [s0, .sh (.list (ss.map fun s => s.b.e)), .no, .no, .no, .no] (enumL (ss.map fun s => s.b.e)) = .ok (((ss.zipIdx).flatMap fun p => ss.drop (p.2 + 1)).map fun _ => .bool false) := fun s0 => by
    rw [enumL_map]
    refine lc2_false _ (fun s : Sn => s.b.e) (fun p : Sn × Nat => ss.drop (p.2 + 1)) _ fun p hp => ⟨_, rfl, ?_, fun q hq => ⟨_, rfl, ?_⟩⟩
    · have hc : Ev.cutD (ss.map fun s => s.b.e) (some ((p.2 : Int) + 1)) none = (ss.drop (p.2 + 1)).map fun s => s.b.e := by
        rw [cut_map]
        have := cut_drop ss (p.2 + 1)
        rw [show ((p.2 + 1 : Nat) : Int) = (p.2 : Int) + 1 by omega] at this
        rw [this]
      simp [pCut, hc]
    · have := pair_of g.apart (zipIdx_pair hp) hq
      simp [meet_e, this]
  have hz4 : (((ss.zipIdx).flatMap fun p => ss.drop (p.2 + 1)).map fun _ => (.bool false : D)).length ≤ line := by
    refine le_line ?_
    rw [List.length_map, List.length_flatMap]
    have : ∀ xs : List (Sn × Nat), (xs.map fun p => (ss.drop (p.2 + 1)).length).sum ≤ xs.length * 5 := by
      intro xs
      induction xs with
      | nil => simp
      | cons x xs ih =>
        simp only [List.map_cons, List.sum_cons, List.length_cons, List.length_drop]
        simp only [List.length_drop] at ih
        omega
    have := this ss.zipIdx
    rw [List.length_zipIdx] at this
    omega
  have one := g.one
  have b1 := bools_const ss fun _ => true
  have b2 := bools_const ((ss.zipIdx).flatMap fun p => ss.drop (p.2 + 1)) fun _ => false
  have hl1 : (1 : Int) ≤ ss.length := by omega
  have hl8 : (ss.length : Int) ≤ 8 := by omega
  simp only [f_are_screens, mkFn, s_are_screens]
  simp [scE, hl1, hl8, g1, hz, b1, g2, asc, g3, seq1, g4, mkLst_le hz4, b2, truD]
end Lw

set_option Elab.async false
set_option linter.all false
set_option maxRecDepth 100000
set_option maxHeartbeats 1000000
namespace Lw
open PySem PySem.Spec PyProof.Rows L2 Ev
@[simp] theorem bx0 (b : Bx) : pIx kt b.e (.int 0) = some (.int b.l) := by simp [Bx.e]
@[simp] theorem bx1 (b : Bx) : pIx kt b.e (.int 1) = some (.int b.t) := by simp [Bx.e]
@[simp] theorem bx2 (b : Bx) : pIx kt b.e (.int 2) = some (.int b.w) := by simp [Bx.e]
@[simp] theorem bx3 (b : Bx) : pIx kt b.e (.int 3) = some (.int b.h) := by simp [Bx.e]
@[simp] theorem bxc (b : Bx) : pCut (some 2) none b.e = some (.tuple [.int b.w, .int b.h]) := by rfl
theorem check_screens_e (ss : List Sn) (g : Good ss) : f_check_screens [scE ss] = .ok .none := by
  simp [f_check_screens, mkFn, s_check_screens, are_screens_e ss g]
theorem check_e (ss : List Sn) (g : Good ss) (b : Bx) (hb : b.ok) : f__check [scE ss, b.e] = .ok .none := by
  simp [f__check, mkFn, s__check, check_screens_e ss g, is_box_e, hb]
/-- no box: refused -/
theorem check_no (ss : List Sn) (g : Good ss) (d : D) (hb : f_is_box [d] = .ok (.bool false)) : f__check [scE ss, d] = .exc "BadBox" := by
  simp [f__check, mkFn, s__check, check_screens_e ss g, hb]
/-- how many cells two boxes share -/
def cmn (a b : Bx) : Int := max 0 (min (a.l + a.w) (b.l + b.w) - max a.l b.l) * max 0 (min (a.t + a.h) (b.t + b.h) - max a.t b.t)
def Bx.small (b : Bx) : Prop := (0 ≤ b.l ∧ b.l ≤ 1000) ∧ (0 ≤ b.t ∧ b.t ≤ 1000) ∧ (0 ≤ b.w ∧ b.w ≤ 1000) ∧ (0 ≤ b.h ∧ b.h ≤ 1000)
theorem common_e (a b : Bx) (ha : a.ok) : f__common [a.e, b.e] = .ok (.int (cmn a b)) := by
  obtain ⟨⟨a1, a2⟩, ⟨a3, a4⟩, ⟨a5, a6⟩, a7, a8⟩ := ha
  have hm : ∀ j, pMul (.int (max 0 (min (a.l + a.w) (b.l + b.w) - max a.l b.l))) (.int j) = some (.int (max 0 (min (a.l + a.w) (b.l + b.w) - max a.l b.l) * j)) := fun j => by
    have hs : smallI (max 0 (min (a.l + a.w) (b.l + b.w) - max a.l b.l)) = true := by
      unfold smallI
      rw [decide_eq_true_iff]
      omega
    simp [pMul, hs]
  simp [f__common, mkFn, s__common, Bx.e, hm, cmn]
/-- the shares, in the screens' order -/
def shares (ss : List Sn) (b : Bx) : List (Nat × Int) := (ss.map fun s => (s.k, cmn b s.b)).filter fun r => decide (0 < r.2)
def rowE (r : Nat × Int) : D := .tuple [.str (nm r.1), .int r.2]
theorem shares_e (ss : List Sn) (g : Good ss) (b : Bx) (hb : b.ok) : f__shares [scE ss, b.e] = .ok (.list ((shares ss b).map rowE)) := by
  have h5 := g.five
  have g1 : ∀ s0 s2 s3 : Ev.Slot, lcGo [4, 5] (gT 2 (gsCons (gN 4) (gsCons (gN 5) gsNil))) tYesS (eTup (aCons (eV 4) (aCons (eCall f__common (aCons (eV 1) (aCons (eV 5) aNil))) aNil))) [s0, .sh b.e, s2, s3, .no, .no] (ss.map Sn.e) = .ok (ss.map fun s => rowE (s.k, cmn b s.b)) := fun s0 s2 s3 =>
    lcGo_mapE _ _ _ fun s hs => ⟨_, rfl, by simp [Sn.e, common_e b s.b hb, rowE]⟩
  have g2 : ∀ s0 s1 s2 s4 s5 : Ev.Slot, lcGo [3] (gN 3) (tB (e2 pGt (e2 (pIx kt) (eV 3) (eC (.int 1))) (eC (.int 0)))) (eV 3) [s0, s1, s2, .no, s4, s5] ((ss.map fun s => (s.k, cmn b s.b)).map rowE) = .ok ((shares ss b).map rowE) := fun s0 s1 s2 s4 s5 =>
    lcGo_fmE rowE (fun r => decide (0 < r.2)) rowE _ fun r hr => ⟨_, rfl, by simp [rowE], fun _ => by simp⟩
  have hl : (shares ss b).length ≤ 5 := by
    unfold shares
    refine Nat.le_trans (List.length_filter_le ..) ?_
    simpa using h5
  have z1 : mkLst (ss.map fun s => rowE (s.k, cmn b s.b)) = .ok (.list ((ss.map fun s => (s.k, cmn b s.b)).map rowE)) := by
    rw [mkLst_le (le_line (by simp; omega)), List.map_map]; rfl
  have z2 : mkLst ((shares ss b).map rowE) = .ok (.list ((shares ss b).map rowE)) := mkLst_le (le_line (by simp; omega))
  simp only [f__shares, mkFn, s__shares]
  simp only [scE, sSeq_ap, sSet_ap, sRet_ap, eLc_ap, iSeq_ap, eV_ap, List.length_cons, List.length_nil, List.map_cons, List.map_nil, List.replicate, List.cons_append, List.nil_append]
  simp [g1, z1]
  rw [show (List.map (rowE ∘ fun s => (s.k, cmn b s.b)) ss) = (ss.map fun s => (s.k, cmn b s.b)).map rowE by rw [List.map_map]]
  simp only [g2]
  simp [z2]
theorem shares_len (ss : List Sn) (g : Good ss) (b : Bx) : (shares ss b).length ≤ 5 := by
  unfold shares
  refine Nat.le_trans (List.length_filter_le ..) ?_
  simpa using g.five
theorem shares_of_e (ss : List Sn) (g : Good ss) (b : Bx) (hb : b.ok) : f_shares_of [scE ss, b.e] = .ok (.tuple ((shares ss b).map rowE)) := by
  simp [f_shares_of, mkFn, s_shares_of, check_e ss g b hb, shares_e ss g b hb]
theorem spans_e (ss : List Sn) (g : Good ss) (b : Bx) (hb : b.ok) : f_spans [scE ss, b.e] = .ok (.bool (decide (1 < (shares ss b).length))) := by
  simp [f_spans, mkFn, s_spans, check_e ss g b hb, shares_e ss g b hb]
  omega
/-- the greatest share, 0 if there is none -/
def most (ss : List Sn) (b : Bx) : Int := maxI ((shares ss b).map (fun r : Nat × Int => r.2) ++ [0])
def home (ss : List Sn) (b : Bx) : List Nat := ((shares ss b).filter fun r => decide (r.2 = most ss b)).map (·.1)
theorem max_l (ns : List Int) (h : ns ≠ []) : bMax [.list (ns.map .int)] = some (.int (maxI ns)) := by
  unfold bMax
  dsimp only
  rw [intsOf_map]
  cases ns with
  | nil => exact absurd rfl h
  | cons n ns => rfl
theorem home_e (ss : List Sn) (g : Good ss) (b : Bx) (hb : b.ok) : f_home_of [scE ss, b.e] = .ok (match home ss b with
    | [] => .none
    | k :: _ => .str (nm k)) := by
  have h5 := shares_len ss g b
  have g1 : ∀ s0 s1 s2 s3 s4 s5 : Ev.Slot, lcGo [7, 6] (gT 2 (gsCons (gN 7) (gsCons (gN 6) gsNil))) tYesS (eV 6) [s0, s1, s2, s3, s4, s5, .no, .no] ((shares ss b).map rowE) = .ok ((shares ss b).map fun r => .int r.2) := fun s0 s1 s2 s3 s4 s5 =>
    lcGo_mapE rowE (fun r => .int r.2) _ fun r hr => ⟨_, rfl, by simp⟩
  have g2 : ∀ s0 s1 s2 s4 s7 : Ev.Slot, lcGo [5, 6] (gT 2 (gsCons (gN 5) (gsCons (gN 6) gsNil))) (tB (e2 pEq (eV 6) (eV 3))) (eV 5) [s0, s1, s2, .sh (.int (most ss b)), s4, .no, .no, s7] ((shares ss b).map rowE) = .ok (((shares ss b).filter fun r => decide (r.2 = most ss b)).map fun r => nE r.1) := fun s0 s1 s2 s4 s7 =>
    lcGo_fmE rowE (fun r => decide (r.2 = most ss b)) (fun r => nE r.1) _ fun r hr => ⟨_, rfl, by simp, fun _ => by simp [nE]⟩
  have z1 : mkLst ((shares ss b).map fun r => .int r.2) = .ok (.list ((shares ss b).map fun r => .int r.2)) := mkLst_le (le_line (by simp; omega))
  have z2 : mkLst (((shares ss b).filter fun r => decide (r.2 = most ss b)).map fun r => nE r.1) = .ok (.list ((home ss b).map nE)) := by
    have := List.length_filter_le (fun r : Nat × Int => decide (r.2 = most ss b)) (shares ss b)
    rw [mkLst_le (le_line (by rw [List.length_map]; omega))]
    unfold home
    rw [List.map_map]; rfl
  have ha : pAdd (.list ((shares ss b).map fun r => .int r.2)) (.list [.int 0]) = some (.list (((shares ss b).map (fun r : Nat × Int => r.2) ++ [0]).map .int)) := by
    unfold pAdd
    dsimp only
    rw [if_pos (le_line (by simp; omega)), List.map_append, List.map_map]
    rfl
  simp only [f_home_of, mkFn, s_home_of]
  simp [check_e ss g b hb, shares_e ss g b hb, g1, z1, ha, -List.map_append]
  rw [max_l _ (by simp)]
  simp only [ofO_some, ok_bind, onD_ok]
  rw [show maxI ((shares ss b).map (fun r : Nat × Int => r.2) ++ [0]) = most ss b from rfl]
  simp [g2, z2]
  cases hh : home ss b with
  | nil => simp
  | cons k r => 
    have : (0 : Int) < (r.length : Int) + 1 := by omega
    simp [nE, this]
theorem sum_ints (ns : List Int) : bSum [.list (ns.map .int)] = some (.int ns.sum) := by
  rw [bSum_l, intsOf_map]; rfl
theorem lost_e (ss : List Sn) (g : Good ss) (b : Bx) (hb : b.ok) : f_lost_cells [scE ss, b.e] = .ok (.int (b.w * b.h - ((shares ss b).map (·.2)).sum)) := by
  have h5 := shares_len ss g b
  have g1 : ∀ s0 s1 : Ev.Slot, lcGo [2, 3] (gT 2 (gsCons (gN 2) (gsCons (gN 3) gsNil))) tYesS (eV 3) [s0, s1, .no, .no] ((shares ss b).map rowE) = .ok (((shares ss b).map (·.2)).map .int) := fun s0 s1 => by
    rw [List.map_map]
    exact lcGo_mapE rowE _ _ fun r hr => ⟨_, rfl, by simp⟩
  have z1 : mkLst (((shares ss b).map (·.2)).map .int) = .ok (.list (((shares ss b).map (·.2)).map .int)) := mkLst_le (le_line (by simp; omega))
  obtain ⟨hq1, hq2, ⟨a5, a6⟩, a7, a8⟩ := id hb
  have hm : ∀ j, pMul (.int b.w) (.int j) = some (.int (b.w * j)) := fun j => by
    have hs : smallI b.w = true := by
      unfold smallI
      rw [decide_eq_true_iff]
      omega
    simp [pMul, hs]
  simp only [f_lost_cells, mkFn, s_lost_cells]
  simp [check_e ss g b hb, shares_e ss g b hb, g1, z1, hm, -bSum_l, -List.map_map]
  rw [sum_ints]
  simp
/-! ### brought in -/
def held (start size first room : Int) : Int := min (max start first) (first + room - size)
theorem held_e (a b c d : Int) : f__held [.int a, .int b, .int c, .int d] = .ok (.int (held a b c d)) := by
  simp [f__held, mkFn, s__held, held]
def iabs (i : Int) : Int := if i < 0 then -i else i
/-- where a box may be brought to, and how far -/
structure Pl where
  d : Int
  l : Int
  t : Int
def plE (b : Bx) (p : Pl) : D := .tuple [.int p.d, .tuple [.int p.l, .int p.t, .int b.w, .int b.h]]
def fits (b : Bx) (s : Sn) : Bool := decide (b.w ≤ s.b.w) && decide (b.h ≤ s.b.h)
def plOf (b : Bx) (s : Sn) : Pl := ⟨iabs (held b.l b.w s.b.l s.b.w - b.l) + iabs (held b.t b.h s.b.t s.b.h - b.t), held b.l b.w s.b.l s.b.w, held b.t b.h s.b.t s.b.h⟩
def places (ss : List Sn) (b : Bx) : List Pl := (ss.filter (fits b)).map (plOf b)
theorem brought_step (b : Bx) (s0 : Ev.Slot) (ps : List D) (hz : ps.length < line) (s : Sn) (s5 s6 : Ev.Slot) :
    ∃ s5' s6', b_brought_in_1 [s0, .sh b.e, .ol ps, .sh (.str (nm s.k)), .sh s.b.e, s5, s6] = .nx [s0, .sh b.e, .ol (ps ++ if fits b s then [plE b (plOf b s)] else []), .sh (.str (nm s.k)), .sh s.b.e, s5', s6'] := by
  have ha : ∀ l t : Int, pAdd (.tuple [.int l, .int t]) (.tuple [.int b.w, .int b.h]) = some (.tuple [.int l, .int t, .int b.w, .int b.h]) := fun l t => by
    unfold pAdd
    dsimp only
    rw [if_pos (le_line (by simp))]
    rfl
  by_cases h : b.w ≤ s.b.w
  · by_cases h2 : b.h ≤ s.b.h
    · refine ⟨.sh (.int (held b.l b.w s.b.l s.b.w)), .sh (.int (held b.t b.h s.b.t s.b.h)), ?_⟩
      have hf : fits b s = true := by simp [fits, h, h2]
      simp [b_brought_in_1, h, h2, held_e, sApp, ha, hz, hf, plE, plOf, iabs]
    · have hf : fits b s = false := by simp [fits, h, h2]
      exact ⟨s5, s6, by simp [b_brought_in_1, h, h2, hf]⟩
  · have hf : fits b s = false := by simp [fits, h]
    exact ⟨s5, s6, by simp [b_brought_in_1, h, hf]⟩
end Lw

set_option Elab.async false
set_option linter.all false
set_option maxRecDepth 100000
set_option maxHeartbeats 1000000
namespace Lw
open PySem PySem.Spec PyProof.Rows L2 Ev PySem.W
def lt3 (p q : Pl) : Bool := decide (p.d < q.d ∨ p.d = q.d ∧ (p.l < q.l ∨ p.l = q.l ∧ p.t < q.t))
theorem plE_lt (b : Bx) (p q : Pl) : dataLt (plE b p) (plE b q) = lt3 p q := by
  unfold plE
  rw [dataLt_pair (by simp [alike]) (by simp [alike, alikeAll])]
  have e : dataLt (.tuple [.int p.l, .int p.t, .int b.w, .int b.h]) (.tuple [.int q.l, .int q.t, .int b.w, .int b.h]) = decide (p.l < q.l ∨ p.l = q.l ∧ p.t < q.t) := by
    have e0 : PyProof.Rows.lexLt itemOrd (keyToksAll []) (keyToksAll []) = false := lex_irrefl _
    rw [dataLt_tuple, dataLt_cons (by simp [alike]), dataLt_cons (by simp [alike]), dataLt_cons (by simp [alike]), dataLt_cons (by simp [alike]), e0, dataLt_int, dataLt_int]
    simp
    by_cases h1 : p.l = q.l
    · by_cases h2 : p.t = q.t <;> simp [h1, h2, dataLt_int]
    · simp [h1, dataLt_int]
  rw [e, dataLt_int]
  unfold lt3
  by_cases h1 : p.d = q.d
  · by_cases h2 : p.l = q.l
    · by_cases h3 : p.t = q.t <;> simp [h1, h2, h3]
    · simp [h1, h2]
  · simp [h1]
/-- the least of a row of places, the first of such -/
def minP : List Pl → Option Pl
  | [] => none
  | p :: r => some (r.foldl (fun m x => if lt3 x m then x else m) p)
theorem lt3_irr (p : Pl) : lt3 p p = false := by simp [lt3]
theorem not_lt3_trans {p q r : Pl} (h : lt3 q p = false) (h2 : lt3 r q = false) : lt3 r p = false := by
  simp only [lt3, decide_eq_false_iff_not] at *
  omega
theorem lt3_of {p q : Pl} (h : lt3 p q = true) : lt3 q p = false := by
  simp only [lt3, decide_eq_true_eq, decide_eq_false_iff_not] at *
  omega
theorem lt3_anti {p q : Pl} (h : lt3 p q = false) (h2 : lt3 q p = false) : p = q := by
  obtain ⟨a, b, c⟩ := p
  obtain ⟨a', b', c'⟩ := q
  simp only [lt3, decide_eq_false_iff_not] at *
  simp only [Pl.mk.injEq]
  omega
theorem fold_min : ∀ (r : List Pl) (p : Pl), (r.foldl (fun m x => if lt3 x m then x else m) p) ∈ p :: r ∧ ∀ y ∈ p :: r, lt3 y (r.foldl (fun m x => if lt3 x m then x else m) p) = false
  | [], p => ⟨by simp, by simp [lt3_irr]⟩
  | x :: r, p => by
    rw [List.foldl_cons]
    cases h : lt3 x p with
    | true =>
      rw [if_pos rfl]
      obtain ⟨h1, h2⟩ := fold_min r x
      refine ⟨List.mem_cons_of_mem _ h1, fun y hy => ?_⟩
      rcases List.mem_cons.mp hy with rfl | hy
      · exact not_lt3_trans (h2 x List.mem_cons_self) (lt3_of h)
      · exact h2 y hy
    | false =>
      rw [if_neg Bool.false_ne_true]
      obtain ⟨h1, h2⟩ := fold_min r p
      refine ⟨?_, fun y hy => ?_⟩
      · rcases List.mem_cons.mp h1 with e | h1
        · rw [e]; exact List.mem_cons_self
        · exact List.mem_cons_of_mem _ (List.mem_cons_of_mem _ h1)
      · rcases List.mem_cons.mp hy with rfl | hy
        · exact h2 _ List.mem_cons_self
        · rcases List.mem_cons.mp hy with rfl | hy
          · exact not_lt3_trans (h2 p List.mem_cons_self) h
          · exact h2 y (List.mem_cons_of_mem _ hy)
theorem minP_ok {ps : List Pl} {m : Pl} (h : minP ps = some m) : m ∈ ps ∧ ∀ y ∈ ps, lt3 y m = false := by
  cases ps with
  | nil => cases h
  | cons p r =>
    cases h
    exact fold_min r p
theorem minP_none {ps : List Pl} : minP ps = none ↔ ps = [] := by
  cases ps <;> simp [minP]
/-- two rows with the same least place -/
theorem minP_eq {ps qs : List Pl} (h1 : ∀ p ∈ ps, p ∈ qs) (h2 : ∀ q ∈ qs, ∃ p ∈ ps, lt3 q p = false) : minP ps = minP qs := by
  cases ep : minP ps with
  | none =>
    rw [minP_none] at ep
    subst ep
    cases qs with
    | nil => rfl
    | cons q qs =>
      obtain ⟨p, hp, _⟩ := h2 q List.mem_cons_self
      cases hp
  | some m =>
    obtain ⟨a1, a2⟩ := minP_ok ep
    cases eq : minP qs with
    | none =>
      rw [minP_none] at eq
      subst eq
      cases h1 m a1
    | some m' =>
      obtain ⟨b1, b2⟩ := minP_ok eq
      obtain ⟨p, hp, hlt⟩ := h2 m' b1
      rw [lt3_anti (b2 m (h1 m a1)) (not_lt3_trans (a2 p hp) hlt)]
theorem fold_enc (b : Bx) : ∀ (r : List Pl) (p : Pl), (r.map (plE b)).foldl (fun m x => if dataLt x m then x else m) (plE b p) = plE b (r.foldl (fun m x => if lt3 x m then x else m) p)
  | [], p => rfl
  | x :: r, p => by
    rw [List.map_cons, List.foldl_cons, List.foldl_cons, plE_lt]
    cases h : lt3 x p with
    | true => rw [if_pos rfl, if_pos rfl, fold_enc b r x]
    | false => rw [if_neg Bool.false_ne_true, if_neg Bool.false_ne_true, fold_enc b r p]
theorem min_e (b : Bx) (ps : List Pl) : bMin [.list (ps.map (plE b))] = (minP ps).map (plE b) := by
  have ha : dAlike (ps.map (plE b)) = true := by
    unfold dAlike
    rw [List.all_eq_true]
    intro d hd
    obtain ⟨p, _, rfl⟩ := List.mem_map.mp hd
    simp only [plE, notNone, Bool.true_and, Bool.and_eq_true]
    refine ⟨by simp, ?_⟩
    rw [List.all_eq_true]
    intro e he
    obtain ⟨q, _, rfl⟩ := List.mem_map.mp he
    simp [plE, alike, alikeAll]
  unfold bMin
  dsimp only
  rw [if_pos ha]
  cases ps with
  | nil => rfl
  | cons p r =>
    rw [List.map_cons]
    show some _ = some _
    rw [fold_enc]
def posE (b : Bx) : Option Pl → D
  | none => .none
  | some p => .tuple [.int p.l, .int p.t, .int b.w, .int b.h]
theorem pIx_pl (b : Bx) (p : Pl) : pIx kt (plE b p) (.int 1) = some (posE b (some p)) := by simp [plE, posE]
theorem brought_e (ss : List Sn) (g : Good ss) (b : Bx) (hb : b.ok) : f_brought_in [scE ss, b.e] = .ok (posE b (minP (places ss b))) := by
  have h5 := g.five
  obtain ⟨ρ, e, s3, s4, s5, s6, rfl⟩ := for_inv (g := gT 2 (gsCons (gN 3) (gsCons (gN 4) gsNil))) (s := b_brought_in_1) (ds := ss.map Sn.e) (ρ := [.sh (scE ss), .sh b.e, .ol [], .no, .no, .no, .no])
    (fun i ρ => ∃ s3 s4 s5 s6, ρ = [.sh (scE ss), .sh b.e, .ol ((places (ss.take i) b).map (plE b)), s3, s4, s5, s6]) ⟨.no, .no, .no, .no, by simp [places]⟩ (by
    rintro i d ρ hi ⟨s3, s4, s5, s6, rfl⟩
    rw [List.getElem?_map] at hi
    obtain ⟨s, hs, rfl⟩ := Option.map_eq_some_iff.mp hi
    have hlt := (List.getElem?_eq_some_iff.mp hs).1
    have hl : (places (ss.take i) b).length ≤ 5 := by
      unfold places
      rw [List.length_map]
      refine Nat.le_trans (List.length_filter_le ..) ?_
      rw [List.length_take]
      omega
    obtain ⟨s5', s6', e⟩ := brought_step b (.sh (scE ss)) ((places (ss.take i) b).map (plE b)) (by
      rw [List.length_map]
      have : (6 : Nat) ≤ line := by decide
      omega) s s5 s6
    have hq : (places (ss.take i) b).map (plE b) ++ (if fits b s then [plE b (plOf b s)] else []) = (places (ss.take (i + 1)) b).map (plE b) := by
      rw [List.take_succ, hs]
      simp only [Option.toList, places, List.filter_append, List.map_append]
      by_cases hf : fits b s = true <;> simp [hf]
    rw [hq] at e
    exact ⟨_, rfl, _, .inl e, _, _, _, _, rfl⟩)
  rw [List.length_map, List.take_length] at e
  have hp : (places ss b).length ≤ 5 := by
    unfold places
    rw [List.length_map]
    exact Nat.le_trans (List.length_filter_le ..) h5
  have hm : ∀ m, minP (places ss b) = some m → places ss b ≠ [] := fun m h e => by rw [e] at h; cases h
  simp only [f_brought_in, mkFn, s_brought_in]
  simp [check_e ss g b hb]
  rw [show asSeq (scE ss) = .ok (ss.map Sn.e) from rfl]
  simp [e, min_e]
  cases hp : places ss b with
  | nil => simp [minP, posE]
  | cons p r =>
    have : (0 : Int) < (r.length : Int) + 1 := by omega
    simp [this, minP, pIx_pl]
end Lw

set_option Elab.async false
set_option linter.all false
set_option maxRecDepth 100000
set_option maxHeartbeats 1000000
namespace Lw
open PySem PySem.Spec PyProof.Rows L2 Ev
abbrev Cl := Int × Int
def cE (q : Cl) : D := .tuple [.int q.1, .int q.2]
theorem cE_eqv (a b : Cl) : PyData.eqv (cE a) (cE b) = decide (a = b) := by
  obtain ⟨a1, a2⟩ := a
  obtain ⟨b1, b2⟩ := b
  simp only [cE, eqv_tt, eqvAll_cc, eqvAll_nn, eqv_ii, Bool.and_true]
  rw [Bool.eq_iff_iff]
  simp
theorem nE_eqv (a b : Nat) : PyData.eqv (nE a) (nE b) = decide (a = b) := by
  simp [nE]
theorem cE_fit (q : Cl) : keyFit kt true (cE q) = true := by
  simp [keyFit, cE, keysOf, keyOf, kt, inKt]
theorem rng2_ok (a b : Int) (h1 : -1000000 ≤ a) (h2 : a ≤ 1000000) (h3 : -1000000 ≤ b) (h4 : b ≤ 1000000) : rng2 [.int a, .int b] = .ok (rngL a (b - a).toNat) := by
  have e1 : inBig a = true := by
    unfold inBig big
    simp only [Bool.and_eq_true, decide_eq_true_eq]
    omega
  have e2 : inBig b = true := by
    unfold inBig big
    simp only [Bool.and_eq_true, decide_eq_true_eq]
    omega
  unfold rng2
  dsimp only
  rw [e1, e2]
  rfl
/-- the row of puts -/
def build (L : List (Cl × Nat)) : List (Cl × Nat) := L.foldl (fun al p => putA al p.1 p.2) []
theorem build_app (L : List (Cl × Nat)) (p : Cl × Nat) : build (L ++ [p]) = putA (build L) p.1 p.2 := by
  unfold build
  rw [List.foldl_append]
  rfl
theorem build_len (L : List (Cl × Nat)) : (build L).length ≤ L.length := by
  induction L using snoc_ind with
  | h0 => simp [build]
  | hs L p ih =>
    rw [build_app, List.length_append, List.length_singleton]
    exact Nat.le_trans (putA_length _ _ _) (by omega)
theorem build_get (L : List (Cl × Nat)) (q : Cl) : (∃ k, getA (build L) q = some k ∧ (q, k) ∈ L) ∨ (getA (build L) q = none ∧ ∀ k, (q, k) ∉ L) := by
  induction L using snoc_ind with
  | h0 => exact .inr ⟨rfl, by simp⟩
  | hs L p ih =>
    rw [build_app, getA_put]
    by_cases h : p.1 = q
    · rw [if_pos h]
      exact .inl ⟨p.2, rfl, List.mem_append_right _ (by rw [← h]; exact List.mem_cons_self)⟩
    · rw [if_neg h]
      rcases ih with ⟨k, h1, h2⟩ | ⟨h1, h2⟩
      · exact .inl ⟨k, h1, List.mem_append_left _ h2⟩
      · refine .inr ⟨h1, fun k hk => ?_⟩
        rcases List.mem_append.mp hk with hk | hk
        · exact h2 k hk
        · rw [List.mem_singleton] at hk
          exact h (by rw [← hk])
def colL (x t : Int) (k h : Nat) : List (Cl × Nat) := (List.range h).map fun j => ((x, t + (j : Nat)), k)
def boxL (l t : Int) (k w h : Nat) : List (Cl × Nat) := (List.range w).flatMap fun i => colL (l + (i : Nat)) t k h
def scrL (ss : List Sn) : List (Cl × Nat) := ss.flatMap fun s => boxL s.b.l s.b.t s.k s.b.w.toNat s.b.h.toNat
theorem colL_succ (x t : Int) (k h : Nat) : colL x t k (h + 1) = colL x t k h ++ [((x, t + (h : Nat)), k)] := by
  simp [colL, List.range_succ]
theorem boxL_succ (l t : Int) (k w h : Nat) : boxL l t k (w + 1) h = boxL l t k w h ++ colL (l + (w : Nat)) t k h := by
  simp [boxL, List.range_succ]
theorem colL_len (x t : Int) (k h : Nat) : (colL x t k h).length = h := by simp [colL]
theorem boxL_len (l t : Int) (k w h : Nat) : (boxL l t k w h).length = w * h := by
  induction w with
  | zero => simp [boxL]
  | succ w ih => rw [boxL_succ, List.length_append, ih, colL_len, Nat.succ_mul]
theorem scrL_len {ss : List Sn} (h : ∀ s ∈ ss, s.b.ok) : (scrL ss).length ≤ ss.length * 1000000 := by
  induction ss with
  | nil => simp [scrL]
  | cons s ss ih =>
    have := ih fun x hx => h x (List.mem_cons_of_mem _ hx)
    unfold scrL at this ⊢
    rw [List.flatMap_cons, List.length_append, boxL_len, List.length_cons, Nat.succ_mul]
    obtain ⟨_, _, ⟨_, h1⟩, _, h2⟩ := h s List.mem_cons_self
    have : s.b.w.toNat * s.b.h.toNat ≤ 1000 * 1000 := Nat.mul_le_mul (by omega) (by omega)
    omega
abbrev dE (L : List (Cl × Nat)) : Ev.Slot := .od true (encA cE nE (build L))
theorem put_step (s0 s3 : Ev.Slot) (L : List (Cl × Nat)) (k : Nat) (x y : Int) (hz : L.length < line) : b__law_cells_1 [s0, dE L, .sh (nE k), s3, .sh (.int x), .sh (.int y)] = .nx [s0, dE (L ++ [((x, y), k)]), .sh (nE k), s3, .sh (.int x), .sh (.int y)] := by
  have h1 : dPut (encA cE nE (build L)) (cE (x, y)) (nE k) = encA cE nE (build (L ++ [((x, y), k)])) := by
    rw [dPut_enc cE_eqv, build_app]
  have h2 := cE_fit (x, y)
  have h3 : (build L).length < line := Nat.lt_of_le_of_lt (build_len L) hz
  simp only [cE] at h1 h2
  simp [b__law_cells_1, sDp, h1, h2, h3]
theorem col_loop (s0 s5 : Ev.Slot) (b : Bx) (hb : b.ok) (L : List (Cl × Nat)) (k : Nat) (x : Int) (hz : L.length + 1000 < line) : ∃ s5', b__law_cells_2 [s0, dE L, .sh (nE k), .sh b.e, .sh (.int x), s5] = .nx [s0, dE (L ++ colL x b.t k b.h.toNat), .sh (nE k), .sh b.e, .sh (.int x), s5'] := by
  obtain ⟨_, ⟨h1, h2⟩, _, h3, h4⟩ := hb
  obtain ⟨ρ', e, s5', rfl⟩ := for_inv (g := gN 5) (s := b__law_cells_1) (ds := rngL b.t b.h.toNat) (ρ := [s0, dE L, .sh (nE k), .sh b.e, .sh (.int x), s5]) (fun i ρ => ∃ s5', ρ = [s0, dE (L ++ colL x b.t k i), .sh (nE k), .sh b.e, .sh (.int x), s5']) ⟨s5, by simp [colL]⟩ (by
    rintro i d ρ hi ⟨s5', rfl⟩
    obtain ⟨hi, rfl⟩ := rngL_get hi
    have e := put_step s0 (.sh b.e) (L ++ colL x b.t k i) k x (b.t + i) (by rw [List.length_append, colL_len]; omega)
    rw [List.append_assoc, ← colL_succ] at e
    exact ⟨_, rfl, _, .inl e, _, rfl⟩)
  rw [rngL_length] at e
  refine ⟨s5', ?_⟩
  rw [← e]
  have hr : rng2 [.int b.t, .int (b.t + b.h)] = .ok (rngL b.t b.h.toNat) := by
    rw [rng2_ok _ _ (by omega) (by omega) (by omega) (by omega)]
    congr 2
    omega
  simp [b__law_cells_2, hr]
theorem box_loop (s0 s4 s5 : Ev.Slot) (b : Bx) (hb : b.ok) (L : List (Cl × Nat)) (k : Nat) (hz : L.length + 2000000 < line) : ∃ s4' s5', b__law_cells_3 [s0, dE L, .sh (nE k), .sh b.e, s4, s5] = .nx [s0, dE (L ++ boxL b.l b.t k b.w.toNat b.h.toNat), .sh (nE k), .sh b.e, s4', s5'] := by
  obtain ⟨⟨h1, h2⟩, _, ⟨h3, h4⟩, h5, h6⟩ := id hb
  obtain ⟨ρ', e, s4', s5', rfl⟩ := for_inv (g := gN 4) (s := b__law_cells_2) (ds := rngL b.l b.w.toNat) (ρ := [s0, dE L, .sh (nE k), .sh b.e, s4, s5]) (fun i ρ => ∃ s4' s5', ρ = [s0, dE (L ++ boxL b.l b.t k i b.h.toNat), .sh (nE k), .sh b.e, s4', s5']) ⟨s4, s5, by simp [boxL]⟩ (by
    rintro i d ρ hi ⟨s4', s5', rfl⟩
    obtain ⟨hi, rfl⟩ := rngL_get hi
    obtain ⟨s5'', e⟩ := col_loop s0 s5' b hb (L ++ boxL b.l b.t k i b.h.toNat) k (b.l + i) (by
      rw [List.length_append, boxL_len]
      have : i * b.h.toNat ≤ 1000 * 1000 := Nat.mul_le_mul (by omega) (by omega)
      omega)
    rw [List.append_assoc, ← boxL_succ] at e
    exact ⟨_, rfl, _, .inl e, _, _, rfl⟩)
  rw [rngL_length] at e
  refine ⟨s4', s5', ?_⟩
  rw [← e]
  have hr : rng2 [.int b.l, .int (b.l + b.w)] = .ok (rngL b.l b.w.toNat) := by
    rw [rng2_ok _ _ (by omega) (by omega) (by omega) (by omega)]
    congr 2
    omega
  simp [b__law_cells_3, hr]
theorem law_cells_e (ss : List Sn) (g : Good ss) : f__law_cells [scE ss] = .ok (dB true (encA cE nE (build (scrL ss)))) := by
  have h5 := g.five
  obtain ⟨ρ', e, s2, s3, s4, s5, rfl⟩ := for_inv (g := gT 2 (gsCons (gN 2) (gsCons (gN 3) gsNil))) (s := b__law_cells_3) (ds := ss.map Sn.e) (ρ := [.sh (scE ss), dE [], .no, .no, .no, .no]) (fun i ρ => ∃ s2 s3 s4 s5, ρ = [.sh (scE ss), dE (scrL (ss.take i)), s2, s3, s4, s5]) ⟨.no, .no, .no, .no, by simp [scrL]⟩ (by
    rintro i d ρ hi ⟨s2, s3, s4, s5, rfl⟩
    rw [List.getElem?_map] at hi
    obtain ⟨s, hs, rfl⟩ := Option.map_eq_some_iff.mp hi
    have hb := (g.box s (List.mem_of_getElem? hs)).2.1
    obtain ⟨s4', s5', e⟩ := box_loop (.sh (scE ss)) s4 s5 s.b hb (scrL (ss.take i)) s.k (by
      have h1 := scrL_len (ss := ss.take i) fun x hx => (g.box x (List.mem_of_mem_take hx)).2.1
      rw [List.length_take] at h1
      have : min i ss.length * 1000000 ≤ 5 * 1000000 := Nat.mul_le_mul (by omega) (Nat.le_refl _)
      have : (7000001 : Nat) < line := by decide
      omega)
    have hq : scrL (ss.take i) ++ boxL s.b.l s.b.t s.k s.b.w.toNat s.b.h.toNat = scrL (ss.take (i + 1)) := by
      rw [List.take_succ, hs]
      simp [scrL]
    rw [hq] at e
    exact ⟨_, rfl, _, .inl e, _, _, _, _, rfl⟩)
  rw [List.length_map, List.take_length] at e
  simp only [f__law_cells, mkFn, s__law_cells]
  simp
  rw [show asSeq (scE ss) = .ok (ss.map Sn.e) from rfl]
  have hd : Slot.od true [] = dE [] := by simp [dE, build]
  simp [hd, e, frzS]
end Lw

set_option Elab.async false
set_option linter.all false
set_option maxRecDepth 100000
set_option maxHeartbeats 1000000
namespace Lw
open PySem PySem.Spec PyProof.Rows L2 Ev
theorem pMod_i' (i j : Int) (h : 0 < j) : pMod (.int i) (.int j) = some (.int (i % j)) := pMod_i i j h
@[simp] theorem md4 (v : Int) : pMod (.int v) (.int 4) = some (.int (v % 4)) := pMod_i _ _ (by decide)
@[simp] theorem md3 (v : Int) : pMod (.int v) (.int 3) = some (.int (v % 3)) := pMod_i _ _ (by decide)
@[simp] theorem md2 (v : Int) : pMod (.int v) (.int 2) = some (.int (v % 2)) := pMod_i _ _ (by decide)
@[simp] theorem md7 (v : Int) : pMod (.int v) (.int 7) = some (.int (v % 7)) := pMod_i _ _ (by decide)
@[simp] theorem md6 (v : Int) : pMod (.int v) (.int 6) = some (.int (v % 6)) := pMod_i _ _ (by decide)
@[simp] theorem md5 (v : Int) : pMod (.int v) (.int 5) = some (.int (v % 5)) := pMod_i _ _ (by decide)
@[simp] theorem mdP (v : Int) : pMod (.int v) (.int 65521) = some (.int (v % 65521)) := pMod_i _ _ (by decide)
@[simp] theorem dv4 (v : Int) : pFdiv (.int v) (.int 4) = some (.int (v / 4)) := pFdiv_i _ _ (by decide) (by decide)
@[simp] theorem dv12 (v : Int) : pFdiv (.int v) (.int 12) = some (.int (v / 12)) := pFdiv_i _ _ (by decide) (by decide)
@[simp] theorem dv84 (v : Int) : pFdiv (.int v) (.int 84) = some (.int (v / 84)) := pFdiv_i _ _ (by decide) (by decide)
@[simp] theorem dv504 (v : Int) : pFdiv (.int v) (.int 504) = some (.int (v / 504)) := pFdiv_i _ _ (by decide) (by decide)
@[simp] theorem dv1512 (v : Int) : pFdiv (.int v) (.int 1512) = some (.int (v / 1512)) := pFdiv_i _ _ (by decide) (by decide)
theorem dAt_int {α : Type} (l : List α) {i : Int} (h0 : 0 ≤ i) (h1 : i < l.length) : ∃ x, dAt l i = some x ∧ x ∈ l := by
  have e : i = (i.toNat : Int) := by omega
  rw [e, dAt_nat]
  have hl : i.toNat < l.length := by omega
  exact ⟨l[i.toNat], List.getElem?_eq_getElem hl, List.getElem_mem hl⟩
theorem ix4 (a b c d : D) {j : Int} (h0 : 0 ≤ j) (h1 : j < 4) : pIx kt (.list [a, b, c, d]) (.int j) = some a ∨ pIx kt (.list [a, b, c, d]) (.int j) = some b ∨ pIx kt (.list [a, b, c, d]) (.int j) = some c ∨ pIx kt (.list [a, b, c, d]) (.int j) = some d := by
  have : j = 0 ∨ j = 1 ∨ j = 2 ∨ j = 3 := by omega
  rcases this with rfl | rfl | rfl | rfl <;> simp
theorem place_step (s0 s1 s2 s3 s5 s7 s8 s9 s10 s13 s14 s15 : Ev.Slot) (ss : List Sn) (v l t : Int) (h0 : 0 ≤ v) :
    ∃ l' t' s13', i__law_screens_1 [s0, s1, s2, s3, .sh (scE ss), s5, .sh (.int v), s7, s8, s9, s10, .sh (.int l), .sh (.int t), s13, s14, s15] = .nx [s0, s1, s2, s3, .sh (scE ss), s5, .sh (.int v), s7, s8, s9, s10, .sh (.int l'), .sh (.int t'), s13', s14, s15] ∧
      ((l' = l ∧ t' = t) ∨ ∃ s ∈ ss, (s.b.l ≤ l' ∨ l' = s.b.l + s.b.w) ∧ (l' ≤ s.b.l + 1 ∨ l' = s.b.l + s.b.w) ∧ (s.b.t ≤ t' ∨ t' = s.b.t + s.b.h) ∧ (t' ≤ s.b.t + 1 ∨ t' = s.b.t + s.b.h)) := by
  by_cases hl : 0 < (ss.length : Int)
  · have hn : 0 < ss.length := by omega
    by_cases h3 : 0 < v / 504 % 3
    · have hm : pMod (.int (v / 1512)) (.int ss.length) = some (.int (v / 1512 % ss.length)) := pMod_i _ _ hl
      obtain ⟨x, hx1, hx2⟩ := dAt_int (ss.map Sn.e) (i := v / 1512 % ss.length) (Int.emod_nonneg _ (by omega)) (by rw [List.length_map]; exact Int.emod_lt_of_pos _ hl)
      obtain ⟨s, hs, rfl⟩ := List.mem_map.mp hx2
      have hb : pIx kt s.e (.int 1) = some s.b.e := by simp [Sn.e]
      have hlen : bLen [scE ss] = some (.int ss.length) := scr_len ss
      have hq : pIx kt (scE ss) (.int (v / 1512 % ss.length)) = some s.e := by
        unfold scE
        rw [pIx_t]
        exact hx1
      have r1 : 0 ≤ v / 504 % 4 := by omega
      have r2 : v / 504 % 4 < 4 := by omega
      have := ix4 (.tuple [.int (s.b.l + s.b.w), .int (s.b.t + v % 2)]) (.tuple [.int s.b.l, .int (s.b.t + s.b.h)]) (.tuple [.int (s.b.l + s.b.w), .int s.b.t]) (.tuple [.int (s.b.l + 1), .int (s.b.t + s.b.h)]) r1 r2
      rcases this with e | e | e | e
      · refine ⟨s.b.l + s.b.w, s.b.t + v % 2, .sh s.b.e, by simp [i__law_screens_1, hlen, hn, h3, hm, hq, hb, e], .inr ⟨s, hs, .inr rfl, .inr rfl, .inl (by omega), .inl (by omega)⟩⟩
      · refine ⟨s.b.l, s.b.t + s.b.h, .sh s.b.e, by simp [i__law_screens_1, hlen, hn, h3, hm, hq, hb, e], .inr ⟨s, hs, .inl (by omega), .inl (by omega), .inr rfl, .inr rfl⟩⟩
      · refine ⟨s.b.l + s.b.w, s.b.t, .sh s.b.e, by simp [i__law_screens_1, hlen, hn, h3, hm, hq, hb, e], .inr ⟨s, hs, .inr rfl, .inr rfl, .inl (by omega), .inl (by omega)⟩⟩
      · refine ⟨s.b.l + 1, s.b.t + s.b.h, .sh s.b.e, by simp [i__law_screens_1, hlen, hn, h3, hm, hq, hb, e], .inr ⟨s, hs, .inl (by omega), .inl (by omega), .inr rfl, .inr rfl⟩⟩
    · refine ⟨l, t, s13, ?_, .inl ⟨rfl, rfl⟩⟩
      have hlen : bLen [scE ss] = some (.int ss.length) := scr_len ss
      simp [i__law_screens_1, hlen, hn, h3]
  · refine ⟨l, t, s13, ?_, .inl ⟨rfl, rfl⟩⟩
    have hlen : bLen [scE ss] = some (.int ss.length) := scr_len ss
    have hn : ¬ 0 < ss.length := by omega
    simp [i__law_screens_1, hlen, hn]
/-! the cells of a box -/
def gridC (l t : Int) (w h : Nat) : List Cl := (List.range w).flatMap fun i => (List.range h).map fun j => (l + (i : Nat), t + (j : Nat))
theorem gridC_succ (l t : Int) (w h : Nat) : gridC l t (w + 1) h = gridC l t w h ++ (List.range h).map fun j => (l + (w : Nat), t + (j : Nat)) := by
  simp [gridC, List.range_succ]
theorem gridC_len (l t : Int) (w h : Nat) : (gridC l t w h).length = w * h := by
  induction w with
  | zero => simp [gridC]
  | succ w ih => rw [gridC_succ, List.length_append, ih, List.length_map, List.length_range, Nat.succ_mul]
theorem gridC_mem (l t : Int) (w h : Nat) (q : Cl) : q ∈ gridC l t w h ↔ (l ≤ q.1 ∧ q.1 < l + w) ∧ (t ≤ q.2 ∧ q.2 < t + h) := by
  unfold gridC
  rw [List.mem_flatMap]
  constructor
  · rintro ⟨i, hi, hq⟩
    rw [List.mem_map] at hq
    obtain ⟨j, hj, rfl⟩ := hq
    rw [List.mem_range] at hi hj
    dsimp only
    omega
  · rintro ⟨⟨h1, h2⟩, h3, h4⟩
    refine ⟨(q.1 - l).toNat, List.mem_range.mpr (by omega), List.mem_map.mpr ⟨(q.2 - t).toNat, List.mem_range.mpr (by omega), ?_⟩⟩
    obtain ⟨a, b⟩ := q
    dsimp only at *
    congr 1 <;> omega
theorem row_step (s0 s1 s2 s3 s4 s5 s6 s9 s13 s14 s15 : Ev.Slot) (l t x : Int) (cs : List Cl) (h : Nat) (hh : h ≤ 1000) (ht : -1000 ≤ t ∧ t ≤ 100000) (hz : cs.length + 1000 ≤ line) :
    b__law_screens_1 [s0, s1, s2, s3, s4, s5, s6, .sh (.list (cs.map cE)), .sh (.int x), s9, .sh (.int (h : Nat)), .sh (.int l), .sh (.int t), s13, s14, s15] = .nx [s0, s1, s2, s3, s4, s5, s6, .sh (.list ((cs ++ (List.range h).map fun j => (x, t + (j : Nat))).map cE)), .sh (.int x), s9, .sh (.int (h : Nat)), .sh (.int l), .sh (.int t), s13, s14, s15] := by
  have hr : rng2 [.int t, .int (t + h)] = .ok (rngL t h) := by
    rw [rng2_ok _ _ (by omega) (by omega) (by omega) (by omega)]
    congr 2
    omega
  have hg : lcGo [14] (gN 14) tYesS (eTup (aCons (eV 8) (aCons (eV 14) aNil))) [s0, s1, s2, s3, s4, s5, s6, .sh (.list (cs.map cE)), .sh (.int x), s9, .sh (.int (h : Nat)), .sh (.int l), .sh (.int t), s13, s14, s15] (rngL t h) = .ok (((List.range h).map fun j => (x, t + (j : Nat))).map cE) := by
    unfold rngL
    rw [List.map_map]
    exact lcGo_mapE (fun k : Nat => .int (t + (k : Nat))) _ _ fun k hk => ⟨_, rfl, by simp [cE]⟩
  have hz1 : mkLst (((List.range h).map fun j => (x, t + (j : Nat))).map cE) = .ok (.list (((List.range h).map fun j => (x, t + (j : Nat))).map cE)) := mkLst_le (le_line (by simp; omega))
  have ha : pAdd (.list (cs.map cE)) (.list (((List.range h).map fun j => (x, t + (j : Nat))).map cE)) = some (.list ((cs ++ (List.range h).map fun j => (x, t + (j : Nat))).map cE)) := by
    unfold pAdd
    dsimp only
    rw [if_pos (by simp; omega), List.map_append]
  simp only [b__law_screens_1, sSet_ap, e2_ap, eV_ap, eLc_ap, iRng_ap, aCons_ap, aNil_ap]
  simp [hr, -List.map_map, -List.map_append]
  rw [hg]
  simp [hz1, ha, -List.map_map, -List.map_append]
theorem grid_loop (s0 s1 s2 s3 s4 s5 s6 s8 s13 s14 s15 : Ev.Slot) (l t : Int) (w h : Nat) (hw : w ≤ 1000) (hh : h ≤ 1000) (hl : -1000 ≤ l ∧ l ≤ 100000) (ht : -1000 ≤ t ∧ t ≤ 100000) :
    ∃ s8', sFor (iRng rng2 (aCons (eV 11) (aCons (e2 pAdd (eV 11) (eV 9)) aNil))) (gN 8) b__law_screens_1 [s0, s1, s2, s3, s4, s5, s6, .sh (.list []), s8, .sh (.int (w : Nat)), .sh (.int (h : Nat)), .sh (.int l), .sh (.int t), s13, s14, s15] = .nx [s0, s1, s2, s3, s4, s5, s6, .sh (.list ((gridC l t w h).map cE)), s8', .sh (.int (w : Nat)), .sh (.int (h : Nat)), .sh (.int l), .sh (.int t), s13, s14, s15] := by
  obtain ⟨ρ', e, s8', rfl⟩ := for_inv (g := gN 8) (s := b__law_screens_1) (ds := rngL l w) (ρ := [s0, s1, s2, s3, s4, s5, s6, .sh (.list []), s8, .sh (.int (w : Nat)), .sh (.int (h : Nat)), .sh (.int l), .sh (.int t), s13, s14, s15])
    (fun i ρ => ∃ s8', ρ = [s0, s1, s2, s3, s4, s5, s6, .sh (.list ((gridC l t i h).map cE)), s8', .sh (.int (w : Nat)), .sh (.int (h : Nat)), .sh (.int l), .sh (.int t), s13, s14, s15]) ⟨s8, by simp [gridC]⟩ (by
    rintro i d ρ hi ⟨s8', rfl⟩
    obtain ⟨hi, rfl⟩ := rngL_get hi
    have e := row_step s0 s1 s2 s3 s4 s5 s6 (.sh (.int (w : Nat))) s13 s14 s15 l t (l + i) (gridC l t i h) h hh ht (by
      rw [gridC_len]
      have : i * h ≤ 1000 * 1000 := Nat.mul_le_mul (by omega) hh
      have : (2000000 : Nat) ≤ line := by decide
      omega)
    rw [← gridC_succ] at e
    exact ⟨_, rfl, _, .inl e, _, rfl⟩)
  rw [rngL_length] at e
  refine ⟨s8', ?_⟩
  rw [← e]
  have hr : rng2 [.int l, .int (l + w)] = .ok (rngL l w) := by
    rw [rng2_ok _ _ (by omega) (by omega) (by omega) (by omega)]
    congr 2
    omega
  simp [hr]
end Lw

set_option Elab.async false
set_option linter.all false
set_option maxRecDepth 100000
set_option maxHeartbeats 1000000
namespace Lw
open PySem PySem.Spec PyProof.Rows L2 Ev
theorem in_cells (c : Cl) (cs : List Cl) : pIn kt (cE c) (.list (cs.map cE)) = some (.bool (decide (c ∈ cs))) := by
  have h1 : dOk 64 (cE c) = true := by simp [cE]
  have h2 : dOk 64 (.list (cs.map cE)) = true := by
    rw [dOk_l64]
    exact dOkL_map fun q _ => by simp [cE]
  unfold pIn dIn
  dsimp only
  rw [h1, h2]
  simp only [Bool.and_self, if_true, Option.map_some]
  congr 2
  rw [List.any_map, Bool.eq_iff_iff, List.any_eq_true, decide_eq_true_iff]
  constructor
  · rintro ⟨q, hq, e⟩
    have e : PyData.eqv (cE q) (cE c) = true := e
    rw [cE_eqv, decide_eq_true_iff] at e
    rwa [← e]
  · intro h
    exact ⟨c, h, by show PyData.eqv (cE c) (cE c) = true; rw [cE_eqv]; simp⟩
theorem nmx (k : Nat) (h : k < 5) : pIx kt (.str "stuvw") (.int (k : Nat)) = some (.str (nm k)) := by
  match k, h with
  | 0, _ => rfl
  | 1, _ => rfl
  | 2, _ => rfl
  | 3, _ => rfl
  | 4, _ => rfl
/-- the cells are free: a further screen -/
theorem take_step (s0 s1 s2 s6 s8 s13 s14 s15 : Ev.Slot) (k : Nat) (hk : k < 5) (ss : List Sn) (cs ds : List Cl) (l t w h : Int) (hs : ss.length ≤ 1000) (hz : cs.length ≤ 100000) (hz2 : ds.length ≤ 100000) :
    i__law_screens_2 [s0, s1, s2, .sh (.int (k : Nat)), .sh (scE ss), .sh (.list (cs.map cE)), s6, .sh (.list (ds.map cE)), s8, .sh (.int w), .sh (.int h), .sh (.int l), .sh (.int t), s13, s14, s15] = .nx (if ds.any (fun c => decide (c ∈ cs)) then [s0, s1, s2, .sh (.int (k : Nat)), .sh (scE ss), .sh (.list (cs.map cE)), s6, .sh (.list (ds.map cE)), s8, .sh (.int w), .sh (.int h), .sh (.int l), .sh (.int t), s13, s14, s15]
      else [s0, s1, s2, .sh (.int (k : Nat)), .sh (scE (ss ++ [⟨k, ⟨l, t, w, h⟩⟩])), .sh (.list ((cs ++ ds).map cE)), s6, .sh (.list (ds.map cE)), s8, .sh (.int w), .sh (.int h), .sh (.int l), .sh (.int t), s13, s14, s15]) := by
  have hg : lcGo [15] (gN 15) tYesS (e2 (pIn kt) (eV 15) (eV 5)) [s0, s1, s2, .sh (.int (k : Nat)), .sh (scE ss), .sh (.list (cs.map cE)), s6, .sh (.list (ds.map cE)), s8, .sh (.int w), .sh (.int h), .sh (.int l), .sh (.int t), s13, s14, s15] (ds.map cE) = .ok (ds.map fun c => .bool (decide (c ∈ cs))) :=
    lcGo_mapE _ _ _ fun c hc => ⟨_, rfl, by simp [in_cells]⟩
  have hzz : mkLst (ds.map fun c => .bool (decide (c ∈ cs))) = .ok (.list (ds.map fun c => .bool (decide (c ∈ cs)))) := mkLst_le (le_line (by simp; omega))
  have hb : boolsOf (ds.map fun c => (.bool (decide (c ∈ cs)) : D)) = some (ds.map fun c => decide (c ∈ cs)) := bools_const ds _
  have ha1 : pAdd (scE ss) (.tuple [.tuple [.str (nm k), .tuple [.int l, .int t, .int w, .int h]]]) = some (scE (ss ++ [⟨k, ⟨l, t, w, h⟩⟩])) := by
    unfold pAdd scE
    dsimp only
    rw [if_pos (le_line (by simp; omega)), List.map_append]
    rfl
  have ha2 : pAdd (.list (cs.map cE)) (.list (ds.map cE)) = some (.list ((cs ++ ds).map cE)) := by
    unfold pAdd
    dsimp only
    rw [if_pos (le_line (by simp; omega)), List.map_append]
  simp only [i__law_screens_2, sIf_ap, tNotS_ap, tV_ap, eBi_ap, aCons_ap, aNil_ap, eLc_ap, iSeq_ap, eV_ap]
  simp [-List.map_append]
  rw [hg]
  simp [hzz, hb, -List.map_append]
  by_cases hany : ds.any (fun c => decide (c ∈ cs)) = true
  · simp [hany]
  · simp [hany, nmx k hk, ha1, ha2, -List.map_append]
structure Lay (i : Nat) (ss : List Sn) (cs : List Cl) : Prop where
  len : ss.length ≤ i
  one : 1 ≤ i → 1 ≤ ss.length
  ks : ∀ s ∈ ss, s.k < i
  bx : ∀ s ∈ ss, (0 ≤ s.b.l ∧ s.b.l ≤ 6 + 5 * i) ∧ (0 ≤ s.b.t ∧ s.b.t ≤ 5 + 5 * i) ∧ (1 ≤ s.b.w ∧ s.b.w ≤ 4) ∧ (1 ≤ s.b.h ∧ s.b.h ≤ 3)
  asc : ss.Pairwise fun a b => a.k < b.k
  apart : ss.Pairwise fun a b => mt a.b b.b = false
  cov : ∀ s ∈ ss, ∀ c ∈ gridC s.b.l s.b.t s.b.w.toNat s.b.h.toNat, c ∈ cs
  cl : cs.length ≤ 12 * i
theorem Lay.skip {i : Nat} {ss : List Sn} {cs : List Cl} (h : Lay i ss cs) (n : 1 ≤ i) : Lay (i + 1) ss cs :=
  ⟨by have := h.len; omega, fun _ => h.one n, fun s hs => Nat.lt_succ_of_lt (h.ks s hs), fun s hs => by
    obtain ⟨⟨a, b⟩, ⟨c, d⟩, e, f⟩ := h.bx s hs
    exact ⟨⟨a, by omega⟩, ⟨c, by omega⟩, e, f⟩, h.asc, h.apart, h.cov, by have := h.cl; omega⟩
theorem Lay.add {i : Nat} {ss : List Sn} {cs : List Cl} (h : Lay i ss cs) {b : Bx} (hb : (0 ≤ b.l ∧ b.l ≤ 6 + 5 * (i + 1)) ∧ (0 ≤ b.t ∧ b.t ≤ 5 + 5 * (i + 1)) ∧ (1 ≤ b.w ∧ b.w ≤ 4) ∧ (1 ≤ b.h ∧ b.h ≤ 3))
    (hn : ¬ (gridC b.l b.t b.w.toNat b.h.toNat).any (fun c => decide (c ∈ cs)) = true) : Lay (i + 1) (ss ++ [⟨i, b⟩]) (cs ++ gridC b.l b.t b.w.toNat b.h.toNat) := by
  obtain ⟨hb1, hb2, hb3, hb4⟩ := hb
  refine ⟨by rw [List.length_append, List.length_singleton]; have := h.len; omega, fun _ => by rw [List.length_append, List.length_singleton]; omega, fun s hs => ?_, fun s hs => ?_, ?_, ?_, fun s hs c hc => ?_, ?_⟩
  · rcases List.mem_append.mp hs with hs | hs
    · exact Nat.lt_succ_of_lt (h.ks s hs)
    · rw [List.mem_singleton] at hs; subst hs; exact Nat.lt_succ_self i
  · rcases List.mem_append.mp hs with hs | hs
    · obtain ⟨⟨a, b⟩, ⟨c, d⟩, e, f⟩ := h.bx s hs
      exact ⟨⟨a, by omega⟩, ⟨c, by omega⟩, e, f⟩
    · rw [List.mem_singleton] at hs; subst hs; exact ⟨by dsimp only; omega, by dsimp only; omega, hb3, hb4⟩
  · rw [List.pairwise_append]
    exact ⟨h.asc, by simp, fun s hs x hx => by rw [List.mem_singleton] at hx; subst hx; exact h.ks s hs⟩
  · rw [List.pairwise_append]
    refine ⟨h.apart, by simp, fun s hs x hx => ?_⟩
    rw [List.mem_singleton] at hx; subst hx
    obtain ⟨⟨a1, a2⟩, ⟨a3, a4⟩, ⟨a5, a6⟩, a7, a8⟩ := h.bx s hs
    cases hm : mt s.b b with
    | false => rfl
    | true =>
      exfalso
      apply hn
      unfold mt at hm
      rw [Bool.and_eq_true, decide_eq_true_iff, decide_eq_true_iff] at hm
      rw [List.any_eq_true]
      refine ⟨(max s.b.l b.l, max s.b.t b.t), ?_, ?_⟩
      · rw [gridC_mem]
        dsimp only
        omega
      · rw [decide_eq_true_iff]
        refine h.cov s hs _ ?_
        rw [gridC_mem]
        dsimp only
        omega
  · rcases List.mem_append.mp hs with hs | hs
    · exact List.mem_append_left _ (h.cov s hs c hc)
    · rw [List.mem_singleton] at hs; subst hs
      exact List.mem_append_right _ hc
  · rw [List.length_append, gridC_len]
    have := h.cl
    have : b.w.toNat * b.h.toNat ≤ 4 * 3 := Nat.mul_le_mul (by omega) (by omega)
    omega
theorem screen_step (ds : List Int) (hr : InR ds) (hl : ds.length = 60) (i : Nat) (hi : i < 5) (ss : List Sn) (cs : List Cl) (h : Lay i ss cs) (s6 s7 s8 s9 s10 s11 s12 s13 s14 s15 : Ev.Slot) :
    ∃ ss' cs' s6' s7' s8' s9' s10' s11' s12' s13', Lay (i + 1) ss' cs' ∧ b__law_screens_2 [.sh (.list (zL ds)), .sh (.int 0), .sh (.int 5), .sh (.int (i : Nat)), .sh (scE ss), .sh (.list (cs.map cE)), s6, s7, s8, s9, s10, s11, s12, s13, s14, s15] = .nx [.sh (.list (zL ds)), .sh (.int 0), .sh (.int 5), .sh (.int (i : Nat)), .sh (scE ss'), .sh (.list (cs'.map cE)), s6', s7', s8', s9', s10', s11', s12', s13', s14, s15] := by
  obtain ⟨v, hv, hvr⟩ : ∃ v, dAt (zL ds) (0 + 1 + (i : Nat)) = some (.int v) ∧ (0 ≤ v ∧ v < 65521) := by
    obtain ⟨x, h1, h2⟩ := dAt_int (zL ds) (i := 0 + 1 + (i : Nat)) (by omega) (by rw [zL_length]; omega)
    unfold zL at h2
    obtain ⟨v, hv, rfl⟩ := List.mem_map.mp h2
    exact ⟨v, h1, hr v hv⟩
  have hv2 : v % 65521 = v := Int.emod_eq_of_lt hvr.1 hvr.2
  have hc1 := h.cl
  have hlen := h.len
  generalize hw : 1 + v % 4 = w
  generalize hh : 1 + v / 4 % 3 = hgt
  obtain ⟨l', t', s13', e1, hpos⟩ := place_step (.sh (.list (zL ds))) (.sh (.int 0)) (.sh (.int 5)) (.sh (.int (i : Nat))) (.sh (.list (cs.map cE))) s7 s8 (.sh (.int w)) (.sh (.int hgt)) s13 s14 s15 ss v (v / 12 % 7) (v / 84 % 6) hvr.1
  have hb : (0 ≤ l' ∧ l' ≤ 6 + 5 * ((i : Int) + 1)) ∧ (0 ≤ t' ∧ t' ≤ 5 + 5 * ((i : Int) + 1)) := by
    rcases hpos with ⟨rfl, rfl⟩ | ⟨s, hs, p1, p2, p3, p4⟩
    · omega
    · obtain ⟨⟨a1, a2⟩, ⟨a3, a4⟩, ⟨a5, a6⟩, a7, a8⟩ := h.bx s hs
      omega
  have w1 : 1 ≤ w ∧ w ≤ 4 := by omega
  have h1 : 1 ≤ hgt ∧ hgt ≤ 3 := by omega
  have ew : ((w.toNat : Nat) : Int) = w := by omega
  have eh : ((hgt.toNat : Nat) : Int) = hgt := by omega
  obtain ⟨s8', e2⟩ := grid_loop (.sh (.list (zL ds))) (.sh (.int 0)) (.sh (.int 5)) (.sh (.int (i : Nat))) (.sh (scE ss)) (.sh (.list (cs.map cE))) (.sh (.int v)) s8 s13' s14 s15 l' t' w.toNat hgt.toNat (by omega) (by omega) (by omega) (by omega)
  rw [ew, eh] at e2
  have e3 := take_step (.sh (.list (zL ds))) (.sh (.int 0)) (.sh (.int 5)) (.sh (.int v)) s8' s13' s14 s15 i hi ss cs (gridC l' t' w.toNat hgt.toNat) l' t' w hgt (by omega) (by omega) (by
    rw [gridC_len]
    have : w.toNat * hgt.toNat ≤ 4 * 3 := Nat.mul_le_mul (by omega) (by omega)
    omega)
  have run : b__law_screens_2 [.sh (.list (zL ds)), .sh (.int 0), .sh (.int 5), .sh (.int (i : Nat)), .sh (scE ss), .sh (.list (cs.map cE)), s6, s7, s8, s9, s10, s11, s12, s13, s14, s15] = i__law_screens_2 [.sh (.list (zL ds)), .sh (.int 0), .sh (.int 5), .sh (.int (i : Nat)), .sh (scE ss), .sh (.list (cs.map cE)), .sh (.int v), .sh (.list ((gridC l' t' w.toNat hgt.toNat).map cE)), s8', .sh (.int w), .sh (.int hgt), .sh (.int l'), .sh (.int t'), s13', s14, s15] := by
    simp only [b__law_screens_2]
    simp only [sSeq_ap, sSet_ap, e2_ap, eBi_ap, aCons_ap, aNil_ap, eV_ap, eC_ap, List.getElem?_cons_succ, List.getElem?_cons_zero, shOf_sh, ok_bind, pIx_l, pAdd_i, ofO_some, hv, bInt_i, mdP, onD_ok, thenS_nx, List.set_cons_succ, List.set_cons_zero, hv2, sPar_ap, md4, md3, dv4, onL_ok, hw, hh, dv12, dv84, md7, md6, e1, eLst_ap, mkLst0, e2]
  by_cases hany : (gridC l' t' w.toNat hgt.toNat).any (fun c => decide (c ∈ cs)) = true
  · rw [if_pos hany] at e3
    have n : 1 ≤ i := by
      rcases Nat.eq_zero_or_pos i with z | z
      · subst z
        have : cs = [] := List.length_eq_zero_iff.mp (by omega)
        subst this
        simp at hany
      · exact z
    exact ⟨ss, cs, _, _, _, _, _, _, _, _, h.skip n, run.trans e3⟩
  · rw [if_neg hany] at e3
    exact ⟨_, _, _, _, _, _, _, _, _, _, h.add (b := ⟨l', t', w, hgt⟩) ⟨by dsimp only; omega, by dsimp only; omega, w1, h1⟩ hany, run.trans e3⟩
theorem law_screens_e (ds : List Int) (hr : InR ds) (hl : ds.length = 60) : ∃ ss, Good ss ∧ f__law_screens [.list (zL ds), .int 0, .int 5] = .ok (scE ss) := by
  obtain ⟨v, hv, hvr⟩ : ∃ v, dAt (zL ds) 0 = some (.int v) ∧ (0 ≤ v ∧ v < 65521) := by
    obtain ⟨x, h1, h2⟩ := dAt_int (zL ds) (i := 0) (by omega) (by rw [zL_length]; omega)
    unfold zL at h2
    obtain ⟨v, hv, rfl⟩ := List.mem_map.mp h2
    exact ⟨v, h1, hr v hv⟩
  have hn : ((1 + v % 5).toNat : Int) = 1 + v % 5 := by omega
  obtain ⟨ρ', e, ss, cs, s3, s6, s7, s8, s9, s10, s11, s12, s13, s14, s15, rfl, hL⟩ := for_inv (g := gN 3) (s := b__law_screens_2) (ds := rngL 0 (1 + v % 5).toNat) (ρ := [.sh (.list (zL ds)), .sh (.int 0), .sh (.int 5), .no, .sh (scE []), .sh (.list (([] : List Cl).map cE)), .no, .no, .no, .no, .no, .no, .no, .no, .no, .no])
    (fun i ρ => ∃ ss cs s3 s6 s7 s8 s9 s10 s11 s12 s13 s14 s15, ρ = [.sh (.list (zL ds)), .sh (.int 0), .sh (.int 5), s3, .sh (scE ss), .sh (.list (cs.map cE)), s6, s7, s8, s9, s10, s11, s12, s13, s14, s15] ∧ Lay i ss cs) ⟨[], [], .no, .no, .no, .no, .no, .no, .no, .no, .no, .no, .no, rfl, ⟨by simp, by simp, by simp, by simp, .nil, .nil, by simp, by simp⟩⟩ (by
    rintro i d ρ hi ⟨ss, cs, s3, s6, s7, s8, s9, s10, s11, s12, s13, s14, s15, rfl, hL⟩
    obtain ⟨hi, rfl⟩ := rngL_get hi
    obtain ⟨ss', cs', s6', s7', s8', s9', s10', s11', s12', s13', hL', e⟩ := screen_step ds hr hl i (by omega) ss cs hL s6 s7 s8 s9 s10 s11 s12 s13 s14 s15
    rw [Int.zero_add]
    exact ⟨_, rfl, _, .inl e, ss', cs', _, _, _, _, _, _, _, _, _, _, _, rfl, hL'⟩)
  rw [rngL_length] at hL
  refine ⟨ss, ⟨hL.one (by omega), by have := hL.len; omega, fun s hs => ?_, hL.asc, hL.apart, fun s hs => by obtain ⟨⟨a1, a2⟩, ⟨a3, a4⟩, ⟨a5, a6⟩, a7, a8⟩ := hL.bx s hs; omega⟩, ?_⟩
  · have := hL.ks s hs
    obtain ⟨⟨a1, a2⟩, ⟨a3, a4⟩, ⟨a5, a6⟩, a7, a8⟩ := hL.bx s hs
    refine ⟨by omega, ⟨?_, ?_, ?_, ?_⟩, ?_, ?_⟩ <;> omega
  · have hr1 : rng1 [.int (1 + v % 5)] = .ok (rngL 0 (1 + v % 5).toNat) := by
      unfold rng1
      dsimp only
      rw [if_pos (by unfold inBig big; simp only [Bool.and_eq_true, decide_eq_true_eq]; omega)]
    have hv' : pIx kt (.list (zL ds)) (.int 0) = some (.int v) := hv
    have hs : scE [] = .tuple [] := rfl
    rw [hs] at e
    simp only [f__law_screens, mkFn, s__law_screens]
    simp [hv', hr1]
    simp only [List.map_nil] at e
    rw [e]
    simp
end Lw

set_option Elab.async false
set_option linter.all false
set_option maxRecDepth 100000
set_option maxHeartbeats 1000000
namespace Lw
open PySem PySem.Spec PyProof.Rows L2 Ev
def nameAt (ss : List Sn) (q : Cl) : Option Nat := getA (build (scrL ss)) q
def nmO : Option Nat → Str
  | none => ""
  | some k => nm k
def sO (o : Option Nat) : D := .str (nmO o)
theorem nm_ne (k : Nat) : nm k ≠ "" := by
  intro h
  have h1 : (nm k).cps.size = ("" : Str).cps.size := by rw [h]
  have h2 : ("" : Str).cps.size = 0 := by decide +kernel
  rw [h2] at h1
  cases h1
theorem nmO_inj (a b : Option Nat) : nmO a = nmO b ↔ a = b := by
  cases a <;> cases b
  · simp
  · rename_i k; exact ⟨fun h => absurd h.symm (nm_ne k), fun h => by cases h⟩
  · rename_i k; exact ⟨fun h => absurd h (nm_ne k), fun h => by cases h⟩
  · simp [nmO]
theorem nmO_e (a : Option Nat) : nmO a = "" ↔ a = none := nmO_inj a none
theorem sO_eqv (a b : Option Nat) : PyData.eqv (sO a) (sO b) = decide (a = b) := by
  unfold sO
  rw [eqv_ss]
  congr 1
  exact propext (nmO_inj a b)
theorem dg2_ok {f fk fx : Ex} {ρ : List Ev.Slot} {t : Bool} {kvs : List (D × D)} {key x : D} (h1 : f ρ = .ok (dB t kvs)) (h2 : fk ρ = .ok key) (h3 : fx ρ = .ok x) (h4 : keyFit kt t key = true) : eDg2 kt f fk fx ρ = .ok ((dGet kvs key).getD x) := by
  unfold eDg2
  rw [h1, ok_bind]
  unfold dB
  dsimp only
  rw [h2, ok_bind, h3, ok_bind, if_pos h4]
abbrev cells (ss : List Sn) : D := dB true (encA cE nE (build (scrL ss)))
abbrev cntS (os : List (Option Nat)) : Ev.Slot := .od false (encA sO .int (tally os))
theorem count_step (s0 s1 s2 s3 s4 s6 s7 s8 s9 s13 s14 s15 s16 s18 s19 s20 s21 : Ev.Slot) (ss : List Sn) (os : List (Option Nat)) (x y : Int) (hz : os.length < line) :
    ∃ s18', b_law_1 [s0, s1, s2, s3, s4, .sh (cells ss), s6, s7, s8, s9, cntS os, .sh (.int (os.count none : Nat)), .sh (.int x), s13, s14, s15, s16, .sh (.int y), s18, s19, s20, s21] =
      .nx [s0, s1, s2, s3, s4, .sh (cells ss), s6, s7, s8, s9, cntS (os ++ [nameAt ss (x, y)]), .sh (.int ((os ++ [nameAt ss (x, y)]).count none : Nat)), .sh (.int x), s13, s14, s15, s16, .sh (.int y), s18', s19, s20, s21] := by
  generalize ho : nameAt ss (x, y) = o
  refine ⟨.sh (sO o), ?_⟩
  have h1 : ∀ ρ : List Ev.Slot, ρ[5]? = some (.sh (cells ss)) → ρ[12]? = some (.sh (.int x)) → ρ[17]? = some (.sh (.int y)) → eDg2 kt (eV 5) (eTup (aCons (eV 12) (aCons (eV 17) aNil))) (eC (.str "")) ρ = .ok (sO o) := fun ρ a b c => by
    rw [dg2_ok (t := true) (kvs := encA cE nE (build (scrL ss))) (key := cE (x, y)) (x := .str "") (by rw [eV_ap, a]; rfl) (by simp [b, c, cE]) rfl (cE_fit _), dGet_enc cE_eqv]
    rw [← ho]
    unfold nameAt
    cases getA (build (scrL ss)) (x, y) <;> rfl
  have h2 : ∀ ρ : List Ev.Slot, ρ[10]? = some (cntS os) → ρ[18]? = some (.sh (sO o)) → eDg2 kt (eB 10) (eV 18) (eC (.int 0)) ρ = .ok (.int ((getA (tally os) o).getD 0)) := fun ρ a b => by
    rw [dg2_ok (t := false) (kvs := encA sO .int (tally os)) (key := sO o) (x := .int 0) (by rw [eB_ap, a]; rfl) (by rw [eV_ap, b]; rfl) rfl (by rfl), dGet_enc sO_eqv]
    cases getA (tally os) o <;> rfl
  have h3 : dPut (encA sO .int (tally os)) (sO o) (.int ((getA (tally os) o).getD 0 + 1)) = encA sO .int (tally (os ++ [o])) := by
    rw [dPut_enc sO_eqv, tally_app]
  have hz2 : (tally os).length < line := Nat.lt_of_le_of_lt (tally_length os) hz
  have h4 : keyFit kt false (sO o) = true := by rfl
  have h5 : pEq (sO o) (.str "") = some (.bool (decide (o = none))) := by
    unfold sO
    rw [pEq_s]
    congr 3
    exact propext (nmO_e o)
  simp only [b_law_1, sSeq_ap, sSet_ap]
  rw [h1 _ rfl rfl rfl]
  simp only [onD_ok, thenS_nx, sSeq_ap, List.set_cons_succ, List.set_cons_zero]
  simp only [sDp, List.getElem?_cons_succ, List.getElem?_cons_zero, e2_ap]
  rw [h2 _ rfl rfl]
  simp [h3, hz2, h4, h5]
  congr 1
  by_cases hn : o = none <;> simp [hn, List.count_append]
theorem count_col (s0 s1 s2 s3 s4 s6 s7 s8 s13 s14 s15 s16 s17 s18 s19 s20 s21 : Ev.Slot) (ss : List Sn) (b : Bx) (hb : b.ok) (os : List (Option Nat)) (x : Int) (hz : os.length + 1000 < line) :
    ∃ s17' s18', b_law_2 [s0, s1, s2, s3, s4, .sh (cells ss), s6, s7, s8, .sh b.e, cntS os, .sh (.int (os.count none : Nat)), .sh (.int x), s13, s14, s15, s16, s17, s18, s19, s20, s21] =
      .nx [s0, s1, s2, s3, s4, .sh (cells ss), s6, s7, s8, .sh b.e, cntS (os ++ ((List.range b.h.toNat).map fun j => (x, b.t + (j : Nat))).map (nameAt ss)), .sh (.int ((os ++ ((List.range b.h.toNat).map fun j => (x, b.t + (j : Nat))).map (nameAt ss)).count none : Nat)), .sh (.int x), s13, s14, s15, s16, s17', s18', s19, s20, s21] := by
  obtain ⟨_, ⟨h1, h2⟩, _, h3, h4⟩ := hb
  obtain ⟨ρ', e, s17', s18', rfl⟩ := for_inv (g := gN 17) (s := b_law_1) (ds := rngL b.t b.h.toNat) (ρ := [s0, s1, s2, s3, s4, .sh (cells ss), s6, s7, s8, .sh b.e, cntS os, .sh (.int (os.count none : Nat)), .sh (.int x), s13, s14, s15, s16, s17, s18, s19, s20, s21])
    (fun i ρ => ∃ s17' s18', ρ = [s0, s1, s2, s3, s4, .sh (cells ss), s6, s7, s8, .sh b.e, cntS (os ++ ((List.range i).map fun j => (x, b.t + (j : Nat))).map (nameAt ss)), .sh (.int ((os ++ ((List.range i).map fun j => (x, b.t + (j : Nat))).map (nameAt ss)).count none : Nat)), .sh (.int x), s13, s14, s15, s16, s17', s18', s19, s20, s21]) ⟨s17, s18, by simp⟩ (by
    rintro i d ρ hi ⟨s17', s18', rfl⟩
    obtain ⟨hi, rfl⟩ := rngL_get hi
    obtain ⟨s18'', e⟩ := count_step s0 s1 s2 s3 s4 s6 s7 s8 (.sh b.e) s13 s14 s15 s16 s18' s19 s20 s21 ss (os ++ ((List.range i).map fun j => (x, b.t + (j : Nat))).map (nameAt ss)) x (b.t + i) (by simp; omega)
    have hq : os ++ ((List.range i).map fun j => (x, b.t + (j : Nat))).map (nameAt ss) ++ [nameAt ss (x, b.t + i)] = os ++ ((List.range (i + 1)).map fun j => (x, b.t + (j : Nat))).map (nameAt ss) := by
      rw [List.range_succ]
      simp
    rw [hq] at e
    exact ⟨_, rfl, _, .inl e, _, _, rfl⟩)
  rw [rngL_length] at e
  refine ⟨s17', s18', ?_⟩
  rw [← e]
  have hr : rng2 [.int b.t, .int (b.t + b.h)] = .ok (rngL b.t b.h.toNat) := by
    rw [rng2_ok _ _ (by omega) (by omega) (by omega) (by omega)]
    congr 2
    omega
  simp [b_law_2, hr]
def boxNames (ss : List Sn) (b : Bx) : List (Option Nat) := (gridC b.l b.t b.w.toNat b.h.toNat).map (nameAt ss)
theorem count_box (s0 s1 s2 s3 s4 s6 s7 s8 s12 s13 s14 s15 s16 s17 s18 s19 s20 s21 : Ev.Slot) (ss : List Sn) (b : Bx) (hb : b.ok) :
    ∃ s12' s17' s18', sFor (iRng rng2 (aCons (e2 (pIx kt) (eV 9) (eC (.int 0))) (aCons (e2 pAdd (e2 (pIx kt) (eV 9) (eC (.int 0))) (e2 (pIx kt) (eV 9) (eC (.int 2)))) aNil))) (gN 12) b_law_2 [s0, s1, s2, s3, s4, .sh (cells ss), s6, s7, s8, .sh b.e, .od false [], .sh (.int 0), s12, s13, s14, s15, s16, s17, s18, s19, s20, s21] =
      .nx [s0, s1, s2, s3, s4, .sh (cells ss), s6, s7, s8, .sh b.e, cntS (boxNames ss b), .sh (.int ((boxNames ss b).count none : Nat)), s12', s13, s14, s15, s16, s17', s18', s19, s20, s21] := by
  obtain ⟨⟨h1, h2⟩, ht, ⟨h3, h4⟩, h5, h6⟩ := id hb
  obtain ⟨ρ', e, s12', s17', s18', rfl⟩ := for_inv (g := gN 12) (s := b_law_2) (ds := rngL b.l b.w.toNat) (ρ := [s0, s1, s2, s3, s4, .sh (cells ss), s6, s7, s8, .sh b.e, .od false [], .sh (.int 0), s12, s13, s14, s15, s16, s17, s18, s19, s20, s21])
    (fun i ρ => ∃ s12' s17' s18', ρ = [s0, s1, s2, s3, s4, .sh (cells ss), s6, s7, s8, .sh b.e, cntS ((gridC b.l b.t i b.h.toNat).map (nameAt ss)), .sh (.int (((gridC b.l b.t i b.h.toNat).map (nameAt ss)).count none : Nat)), s12', s13, s14, s15, s16, s17', s18', s19, s20, s21]) ⟨s12, s17, s18, by simp [gridC, tally]⟩ (by
    rintro i d ρ hi ⟨s12', s17', s18', rfl⟩
    obtain ⟨hi, rfl⟩ := rngL_get hi
    obtain ⟨s17'', s18'', e⟩ := count_col s0 s1 s2 s3 s4 s6 s7 s8 s13 s14 s15 s16 s17' s18' s19 s20 s21 ss b hb ((gridC b.l b.t i b.h.toNat).map (nameAt ss)) (b.l + i) (by
      rw [List.length_map, gridC_len]
      have : i * b.h.toNat ≤ 1000 * 1000 := Nat.mul_le_mul (by omega) (by omega)
      have : (1001001 : Nat) < line := by decide
      omega)
    rw [← List.map_append, ← gridC_succ] at e
    exact ⟨_, rfl, _, .inl e, _, _, _, rfl⟩)
  rw [rngL_length] at e
  refine ⟨s12', s17', s18', ?_⟩
  unfold boxNames
  rw [← e]
  have hr : rng2 [.int b.l, .int (b.l + b.w)] = .ok (rngL b.l b.w.toNat) := by
    rw [rng2_ok _ _ (by omega) (by omega) (by omega) (by omega)]
    congr 2
    omega
  simp [hr]
end Lw

set_option Elab.async false
set_option linter.all false
set_option maxRecDepth 100000
set_option maxHeartbeats 1000000
namespace Lw
open PySem PySem.Spec PyProof.Rows L2 Ev
/-- a cell in a box -/
def inB (b : Bx) (q : Cl) : Bool := decide (b.l ≤ q.1 ∧ q.1 < b.l + b.w) && decide (b.t ≤ q.2 ∧ q.2 < b.t + b.h)
theorem inB_iff (b : Bx) (q : Cl) : inB b q = true ↔ (b.l ≤ q.1 ∧ q.1 < b.l + b.w) ∧ (b.t ≤ q.2 ∧ q.2 < b.t + b.h) := by
  simp [inB]
theorem boxL_mem (l t : Int) (k w h : Nat) (q : Cl) (k' : Nat) : (q, k') ∈ boxL l t k w h ↔ k' = k ∧ (l ≤ q.1 ∧ q.1 < l + w) ∧ (t ≤ q.2 ∧ q.2 < t + h) := by
  unfold boxL colL
  simp only [List.mem_flatMap, List.mem_map, List.mem_range, Prod.mk.injEq]
  constructor
  · rintro ⟨i, hi, j, hj, rfl, rfl⟩
    dsimp only
    exact ⟨rfl, ⟨by omega, by omega⟩, by omega, by omega⟩
  · rintro ⟨rfl, ⟨h1, h2⟩, h3, h4⟩
    refine ⟨(q.1 - l).toNat, by omega, (q.2 - t).toNat, by omega, ?_, rfl⟩
    obtain ⟨a, b⟩ := q
    dsimp only at *
    rw [Prod.mk.injEq]
    omega
theorem scrL_mem {ss : List Sn} (hb : ∀ s ∈ ss, s.b.ok) (q : Cl) (k : Nat) : (q, k) ∈ scrL ss ↔ ∃ s ∈ ss, s.k = k ∧ inB s.b q = true := by
  unfold scrL
  rw [List.mem_flatMap]
  constructor
  · rintro ⟨s, hs, h⟩
    obtain ⟨_, _, ⟨h5, _⟩, h7, _⟩ := hb s hs
    rw [boxL_mem] at h
    obtain ⟨rfl, h1, h2⟩ := h
    refine ⟨s, hs, rfl, (inB_iff ..).mpr ?_⟩
    omega
  · rintro ⟨s, hs, rfl, h⟩
    obtain ⟨_, _, ⟨h5, _⟩, h7, _⟩ := hb s hs
    refine ⟨s, hs, ?_⟩
    rw [inB_iff] at h
    rw [boxL_mem]
    omega
theorem mt_of {a b : Bx} {q : Cl} (h1 : inB a q = true) (h2 : inB b q = true) : mt a b = true := by
  rw [inB_iff] at h1 h2
  unfold mt
  simp only [Bool.and_eq_true, decide_eq_true_eq]
  omega
theorem Good.ok {ss : List Sn} (g : Good ss) : ∀ s ∈ ss, s.b.ok := fun s hs => (g.box s hs).2.1
theorem pw_same {α : Type} {R : α → α → Prop} {xs : List α} (h : xs.Pairwise R) {a b : α} (ha : a ∈ xs) (hb : b ∈ xs) (n1 : ¬ R a b) (n2 : ¬ R b a) : a = b := by
  induction xs with
  | nil => cases ha
  | cons c xs ih =>
    rw [List.pairwise_cons] at h
    rcases List.mem_cons.mp ha with e | ha
    · rcases List.mem_cons.mp hb with e2 | hb
      · rw [e, e2]
      · rw [e] at n1; exact absurd (h.1 _ hb) n1
    · rcases List.mem_cons.mp hb with e2 | hb
      · rw [e2] at n2; exact absurd (h.1 _ ha) n2
      · exact ih h.2 ha hb
theorem mt_comm (a b : Bx) : mt a b = mt b a := by
  unfold mt
  rw [Bool.eq_iff_iff]
  simp only [Bool.and_eq_true, decide_eq_true_eq]
  constructor <;> intro h <;> omega
/-- one screen to a name, one to a cell -/
theorem Good.same {ss : List Sn} (g : Good ss) {s s' : Sn} (hs : s ∈ ss) (hs' : s' ∈ ss) (h : s.k = s'.k) : s = s' :=
  pw_same g.asc hs hs' (by omega) (by omega)
theorem Good.same2 {ss : List Sn} (g : Good ss) {s s' : Sn} (hs : s ∈ ss) (hs' : s' ∈ ss) (h : mt s.b s'.b = true) : s = s' :=
  pw_same g.apart hs hs' (by rw [h]; simp) (by rw [mt_comm, h]; simp)
theorem nameAt_iff {ss : List Sn} (g : Good ss) {s : Sn} (hs : s ∈ ss) (q : Cl) : nameAt ss q = some s.k ↔ inB s.b q = true := by
  unfold nameAt
  rcases build_get (scrL ss) q with ⟨k, h1, h2⟩ | ⟨h1, h2⟩
  · rw [h1]
    obtain ⟨s', hs', rfl, h3⟩ := (scrL_mem g.ok q k).mp h2
    constructor
    · intro e
      rw [Option.some.injEq] at e
      rw [g.same hs hs' e.symm]
      exact h3
    · intro e
      rw [g.same2 hs hs' (mt_of e h3)]
  · rw [h1]
    refine ⟨fun e => (by cases e), fun e => absurd ((scrL_mem g.ok q s.k).mpr ⟨s, hs, rfl, e⟩) (h2 _)⟩
theorem nameAt_some {ss : List Sn} (g : Good ss) {q : Cl} {k : Nat} (h : nameAt ss q = some k) : ∃ s ∈ ss, s.k = k := by
  unfold nameAt at h
  rcases build_get (scrL ss) q with ⟨k', h1, h2⟩ | ⟨h1, h2⟩
  · rw [h1, Option.some.injEq] at h
    subst h
    obtain ⟨s', hs', h, _⟩ := (scrL_mem g.ok q k').mp h2
    exact ⟨s', hs', h⟩
  · rw [h1] at h; cases h
/-! counting -/
theorem count_line (l a c : Int) (n : Nat) : (((List.range n).countP fun (i : Nat) => decide (a ≤ l + (i : Int) ∧ l + (i : Int) < a + c) : Nat) : Int) = max 0 (min (l + n) (a + c) - max l a) := by
  induction n with
  | zero => simp; omega
  | succ n ih =>
    rw [List.range_succ, List.countP_append, List.countP_cons, List.countP_nil]
    by_cases h : a ≤ l + (n : Int) ∧ l + (n : Int) < a + c
    · simp only [h, decide_true, if_true, and_self]
      omega
    · simp only [h, decide_false]
      simp only [Bool.false_eq_true, if_false]
      omega
theorem count_grid (l t a c a' c' : Int) (w h : Nat) : (((gridC l t w h).countP fun q => decide (a ≤ q.1 ∧ q.1 < a + c) && decide (a' ≤ q.2 ∧ q.2 < a' + c')) : Nat) = ((List.range w).countP fun (i : Nat) => decide (a ≤ l + (i : Int) ∧ l + (i : Int) < a + c)) * ((List.range h).countP fun (i : Nat) => decide (a' ≤ t + (i : Int) ∧ t + (i : Int) < a' + c')) := by
  induction w with
  | zero => simp [gridC]
  | succ w ih =>
    rw [gridC_succ, List.countP_append, ih, List.range_succ, List.countP_append, Nat.add_mul]
    congr 1
    rw [List.countP_map, List.countP_cons, List.countP_nil]
    by_cases hx : a ≤ l + (w : Int) ∧ l + (w : Int) < a + c
    · simp only [hx, and_self, decide_true, if_true, Nat.zero_add, Nat.one_mul]
      congr 1
      funext i
      simp [Function.comp, hx]
    · simp only [hx, decide_false, Bool.false_eq_true, if_false, Nat.zero_add, Nat.zero_mul]
      rw [List.countP_eq_zero]
      intro i _
      simp only [Function.comp, Bool.and_eq_true, decide_eq_true_eq]
      exact fun q => hx q.1
theorem count_inB (b c : Bx) (hb : b.ok) : (((gridC b.l b.t b.w.toNat b.h.toNat).countP (inB c) : Nat) : Int) = cmn b c := by
  obtain ⟨_, _, ⟨h5, _⟩, h7, _⟩ := hb
  have := count_grid b.l b.t c.l c.w c.t c.h b.w.toNat b.h.toNat
  unfold inB
  rw [this, Int.natCast_mul, count_line, count_line]
  unfold cmn
  rw [Int.toNat_of_nonneg h5, Int.toNat_of_nonneg h7]
theorem count_name {ss : List Sn} (g : Good ss) (b : Bx) (hb : b.ok) {s : Sn} (hs : s ∈ ss) : (((boxNames ss b).countP fun o => decide (o = some s.k) : Nat) : Int) = cmn b s.b := by
  rw [← count_inB b s.b hb]
  unfold boxNames
  rw [List.countP_map]
  congr 1
  apply List.countP_congr
  intro q _
  simp only [Function.comp, decide_eq_true_eq]
  exact nameAt_iff g hs q
theorem sum_one (f : Nat → Int) (k0 : Nat) (ks : List Nat) : (ks.map fun k => f k + if k0 = k then 1 else 0).sum = (ks.map f).sum + ((ks.count k0 : Nat) : Int) := by
  induction ks with
  | nil => simp
  | cons k ks ih =>
    rw [List.map_cons, List.sum_cons, ih, List.map_cons, List.sum_cons, List.count_cons]
    by_cases h : k0 = k
    · subst h; simp; omega
    · have : ¬ k = k0 := fun e => h e.symm
      simp [h, this]; omega
theorem count_split (ks : List Nat) (n : ks.Nodup) : ∀ (L : List (Option Nat)), (∀ o ∈ L, ∀ k, o = some k → k ∈ ks) → (L.length : Int) = ((L.countP fun o => decide (o = none) : Nat) : Int) + (ks.map fun k => ((L.countP fun o => decide (o = some k) : Nat) : Int)).sum
  | [], _ => by
    have : ∀ ks : List Nat, (ks.map fun _ => (0 : Int)).sum = 0 := fun ks => by induction ks <;> simp_all
    simp [this]
  | o :: L, h => by
    have ih := count_split ks n L fun o ho => h o (List.mem_cons_of_mem _ ho)
    rw [List.length_cons, List.countP_cons]
    cases o with
    | none =>
      have : (fun k : Nat => (((none :: L).countP fun o => decide (o = some k) : Nat) : Int)) = fun k : Nat => ((L.countP fun o => decide (o = some k) : Nat) : Int) := by
        funext k
        simp [List.countP_cons]
      rw [this]
      simp
      omega
    | some k0 =>
      have : (fun k : Nat => (((some k0 :: L).countP fun o => decide (o = some k) : Nat) : Int)) = fun k : Nat => ((L.countP fun o => decide (o = some k) : Nat) : Int) + if k0 = k then 1 else 0 := by
        funext k
        by_cases e : k0 = k <;> simp [List.countP_cons, e]
      rw [this, sum_one, n.count, if_pos (h _ List.mem_cons_self _ rfl)]
      simp
      omega
theorem Good.ks {ss : List Sn} (g : Good ss) : (ss.map (·.k)).Nodup := by
  unfold List.Nodup
  rw [List.pairwise_map]
  exact g.asc.imp fun h => by omega
theorem names_in {ss : List Sn} (g : Good ss) (b : Bx) : ∀ o ∈ boxNames ss b, ∀ k, o = some k → k ∈ ss.map (·.k) := by
  rintro o ho k rfl
  unfold boxNames at ho
  obtain ⟨q, _, h⟩ := List.mem_map.mp ho
  obtain ⟨s, hs, rfl⟩ := nameAt_some g h
  exact List.mem_map_of_mem hs
theorem cmn_nn (a b : Bx) : 0 ≤ cmn a b := Int.mul_nonneg (by omega) (by omega)
theorem sum_pos (xs : List (Nat × Int)) (h : ∀ r ∈ xs, 0 ≤ r.2) : ((xs.filter fun r => decide (0 < r.2)).map (·.2)).sum = (xs.map (·.2)).sum := by
  induction xs with
  | nil => rfl
  | cons r xs ih =>
    have := ih fun x hx => h x (List.mem_cons_of_mem _ hx)
    have h0 := h r List.mem_cons_self
    rw [List.filter_cons]
    by_cases e : 0 < r.2
    · simp [e, this]
    · have : r.2 = 0 := by omega
      simp_all
theorem countP_none (L : List (Option Nat)) : L.count none = L.countP fun o => decide (o = none) := by
  unfold List.count
  apply List.countP_congr
  intro o _
  simp
theorem countP_some (L : List (Option Nat)) (k : Nat) : L.count (some k) = L.countP fun o => decide (o = some k) := by
  unfold List.count
  apply List.countP_congr
  intro o _
  simp
theorem lost_count {ss : List Sn} (g : Good ss) (b : Bx) (hb : b.ok) : (((boxNames ss b).count none : Nat) : Int) = b.w * b.h - ((shares ss b).map (·.2)).sum := by
  have h := count_split _ g.ks _ (names_in g b)
  have hl : ((boxNames ss b).length : Int) = b.w * b.h := by
    obtain ⟨_, _, ⟨h5, _⟩, h7, _⟩ := hb
    unfold boxNames
    rw [List.length_map, gridC_len, Int.natCast_mul, Int.toNat_of_nonneg h5, Int.toNat_of_nonneg h7]
  have hs : ((ss.map (·.k)).map fun k => (((boxNames ss b).countP fun o => decide (o = some k) : Nat) : Int)).sum = ((shares ss b).map (·.2)).sum := by
    unfold shares
    rw [sum_pos _ (by intro r hr; obtain ⟨s, _, rfl⟩ := List.mem_map.mp hr; exact cmn_nn _ _), List.map_map, List.map_map]
    congr 1
    apply List.map_congr_left
    intro s hs
    exact count_name g b hb hs
  rw [countP_none]
  omega
theorem share_mem {ss : List Sn} {b : Bx} {r : Nat × Int} : r ∈ shares ss b ↔ ∃ s ∈ ss, r = (s.k, cmn b s.b) ∧ 0 < r.2 := by
  unfold shares
  rw [List.mem_filter, List.mem_map]
  constructor
  · rintro ⟨⟨s, hs, rfl⟩, h⟩
    exact ⟨s, hs, rfl, of_decide_eq_true h⟩
  · rintro ⟨s, hs, rfl, h⟩
    exact ⟨⟨s, hs, rfl⟩, decide_eq_true h⟩
theorem some_in {ss : List Sn} (g : Good ss) (b : Bx) (hb : b.ok) {s : Sn} (hs : s ∈ ss) : some s.k ∈ boxNames ss b ↔ 0 < cmn b s.b := by
  rw [← count_name g b hb hs]
  have := List.countP_pos_iff (p := fun o => decide (o = some s.k)) (l := boxNames ss b)
  rw [Int.natCast_pos, this]
  constructor
  · exact fun h => ⟨_, h, by simp⟩
  · rintro ⟨o, h1, h2⟩
    rw [decide_eq_true_eq] at h2
    rwa [← h2]
theorem share_val {ss : List Sn} (g : Good ss) (b : Bx) (hb : b.ok) {r : Nat × Int} (hr : r ∈ shares ss b) : getA (tally (boxNames ss b)) (some r.1) = some r.2 := by
  obtain ⟨s, hs, e, h0⟩ := share_mem.mp hr
  subst e
  dsimp only at *
  rw [tally_get, if_pos ((some_in g b hb hs).mpr h0), ← count_name g b hb hs]
  congr 2
/-! the sorted keys -/
def keyS (ss : List Sn) (b : Bx) : List Str := (tally (boxNames ss b)).map fun p => nmO p.1
theorem leS_nm (i j : Nat) : leS (nm i) (nm j) = decide (i ≤ j) := by
  unfold leS
  rw [Bool.eq_iff_iff]
  simp only [decide_eq_true_eq]
  rw [← Nat.not_lt, ← nm_lt j i]
  exact List.not_lt.symm
theorem keys_sorted {ss : List Sn} (g : Good ss) (b : Bx) (hb : b.ok) : ((keyS ss b).mergeSort leS).filter (fun x : Str => decide (x ≠ "")) = (shares ss b).map fun r => nm r.1 := by
  have hk := tally_keys (boxNames ss b)
  apply sorted_ext
  · exact (List.pairwise_mergeSort leS_trans leS_total _).filter _
  · rw [List.pairwise_map]
    unfold shares
    refine List.Pairwise.filter _ ?_
    rw [List.pairwise_map]
    refine g.asc.imp fun h => ?_
    rw [leS_nm]
    simp
    omega
  · refine List.Pairwise.filter _ ?_
    refine (List.mergeSort_perm _ _).nodup_iff.mpr ?_
    unfold keyS
    have := hk.1
    unfold List.Nodup at this ⊢
    rw [List.pairwise_map] at this ⊢
    exact this.imp fun h e => h ((nmO_inj _ _).mp e)
  · unfold shares List.Nodup
    rw [List.pairwise_map]
    refine List.Pairwise.filter _ ?_
    rw [List.pairwise_map]
    refine g.asc.imp fun h e => ?_
    rw [nm_inj] at e
    dsimp only at e
    omega
  · intro a
    rw [List.mem_filter, (List.mergeSort_perm _ _).mem_iff, List.mem_map]
    unfold keyS
    rw [List.mem_map]
    constructor
    · rintro ⟨⟨p, hp, rfl⟩, h⟩
      have hp' : p.1 ∈ boxNames ss b := (hk.2 _).mp (List.mem_map_of_mem hp)
      cases ho : p.1 with
      | none => rw [ho] at h; simp [nmO] at h
      | some k =>
        rw [ho] at hp'
        obtain ⟨s, hs, e⟩ := List.mem_map.mp (names_in g b _ hp' _ rfl)
        subst e
        exact ⟨(s.k, cmn b s.b), share_mem.mpr ⟨s, hs, rfl, (some_in g b hb hs).mp hp'⟩, rfl⟩
    · rintro ⟨r, hr, rfl⟩
      obtain ⟨s, hs, e, h0⟩ := share_mem.mp hr
      subst e
      have h1 := (hk.2 (some s.k)).mpr ((some_in g b hb hs).mpr h0)
      obtain ⟨p, hp, e⟩ := List.mem_map.mp h1
      refine ⟨⟨p, hp, by rw [e]; rfl⟩, ?_⟩
      simp [nm_ne]
end Lw

set_option Elab.async false
set_option linter.all false
set_option maxRecDepth 100000
set_option maxHeartbeats 1000000
namespace Lw
open PySem PySem.Spec PyProof.Rows L2 Ev
theorem nodup_len {α : Type} [DecidableEq α] : ∀ {xs ys : List α}, xs.Nodup → (∀ x ∈ xs, x ∈ ys) → xs.length ≤ ys.length
  | [], _, _, _ => Nat.zero_le _
  | x :: xs, ys, n, h => by
    rw [List.nodup_cons] at n
    have hx := h x List.mem_cons_self
    have := nodup_len (xs := xs) (ys := ys.erase x) n.2 fun y hy => (List.mem_erase_of_ne (fun e => n.1 (by rw [← e]; exact hy))).mpr (h y (List.mem_cons_of_mem _ hy))
    rw [List.length_erase_of_mem hx] at this
    have := List.length_pos_of_mem hx
    rw [List.length_cons]
    omega
theorem nm_line (k : Nat) (h : k < 5) : (decide ((nm k).length ≤ line) && PyData.strOk (nm k)) = true := by
  match k, h with
  | 0, _ => decide +kernel
  | 1, _ => decide +kernel
  | 2, _ => decide +kernel
  | 3, _ => decide +kernel
  | 4, _ => decide +kernel
theorem strKeys_enc {β : Type} (ev : β → D) : ∀ (al : List (Option Nat × β)), (∀ p ∈ al, ∀ k, p.1 = some k → k < 5) → strKeys (encA sO ev al) = some (al.map fun p => nmO p.1)
  | [], _ => rfl
  | p :: al, h => by
    have ih := strKeys_enc ev al fun q hq => h q (List.mem_cons_of_mem _ hq)
    have h1 : (decide ((nmO p.1).length ≤ line) && PyData.strOk (nmO p.1)) = true := by
      cases hp : p.1 with
      | none => decide +kernel
      | some k => exact nm_line k (h p List.mem_cons_self k hp)
    show strKeys ((sO p.1, ev p.2) :: encA sO ev al) = _
    unfold strKeys
    show (if (decide ((nmO p.1).length ≤ line) && PyData.strOk (nmO p.1)) then (strKeys (encA sO ev al)).map (nmO p.1 :: ·) else none) = _
    rw [if_pos h1, ih]
    rfl
theorem tally_lt {ss : List Sn} (g : Good ss) (b : Bx) : ∀ p ∈ tally (boxNames ss b), ∀ k, p.1 = some k → k < 5 := by
  intro p hp k e
  have h1 := ((tally_keys (boxNames ss b)).2 p.1).mp (List.mem_map_of_mem hp)
  obtain ⟨s, hs, rfl⟩ := List.mem_map.mp (names_in g b _ h1 k e)
  exact (g.box s hs).1
theorem tally_few {ss : List Sn} (g : Good ss) (b : Bx) : (tally (boxNames ss b)).length < 64 := by
  have hk := tally_keys (boxNames ss b)
  have := nodup_len hk.1 (ys := none :: ss.map fun s => some s.k) (by
    intro o ho
    have h1 := (hk.2 o).mp ho
    cases ho' : o with
    | none => exact List.mem_cons_self
    | some k =>
      obtain ⟨s, hs, rfl⟩ := List.mem_map.mp (names_in g b o h1 k ho')
      exact List.mem_cons_of_mem _ (List.mem_map_of_mem hs))
  simp only [List.length_map, List.length_cons] at this
  have := g.five
  omega
theorem sorted_e {ss : List Sn} (g : Good ss) (b : Bx) : bSorted2 [dB false (encA sO .int (tally (boxNames ss b)))] = some (.list (((keyS ss b).mergeSort leS).map .str)) := by
  unfold bSorted2 dB
  dsimp only
  rw [strKeys_enc _ _ (tally_lt g b)]
  rw [Option.bind_some, if_pos (by rw [List.length_map]; exact tally_few g b)]
  rfl
theorem kf_s (x : Str) : keyFit kt false (.str x) = true := rfl
theorem pIx_cnt {ss : List Sn} (b : Bx) {x : Str} (hx : x ∈ keyS ss b) : ∃ d, pIx kt (dB false (encA sO .int (tally (boxNames ss b)))) (.str x) = some d ∧ dGet (encA sO .int (tally (boxNames ss b))) (.str x) = some d := by
  unfold keyS at hx
  obtain ⟨p, hp, rfl⟩ := List.mem_map.mp hx
  have h1 := (getA_keys (tally (boxNames ss b)) p.1).mpr (List.mem_map_of_mem hp)
  obtain ⟨v, hv⟩ := Option.isSome_iff_exists.mp h1
  have h2 : dGet (encA sO .int (tally (boxNames ss b))) (.str (nmO p.1)) = some (.int v) := by
    rw [show (PyData.str (nmO p.1)) = sO p.1 from rfl, dGet_enc sO_eqv, hv]
    rfl
  refine ⟨.int v, ?_, h2⟩
  show (if keyFit kt false (.str (nmO p.1)) then dGet (encA sO .int (tally (boxNames ss b))) (.str (nmO p.1)) else none) = _
  rw [kf_s, if_pos rfl, h2]
theorem rows_e {ss : List Sn} (g : Good ss) (b : Bx) (hb : b.ok) (ρ : List Ev.Slot) (hl : ρ.length = 22) (h10 : ρ[10]? = some (cntS (boxNames ss b))) :
    eLc (iSeq (eBi bSorted2 (aCons (eB 10) aNil))) [18] (gN 18) (tB (e2 pNe (eV 18) (eC (.str "")))) (eTup (aCons (eV 18) (aCons (e2 (pIx kt) (eB 10) (eV 18)) aNil))) ρ = .ok (.list ((shares ss b).map rowE)) := by
  have g1 : lcGo [18] (gN 18) (tB (e2 pNe (eV 18) (eC (.str "")))) (eTup (aCons (eV 18) (aCons (e2 (pIx kt) (eB 10) (eV 18)) aNil))) ρ (((keyS ss b).mergeSort leS).map .str) = .ok ((((keyS ss b).mergeSort leS).filter (fun x : Str => decide (x ≠ ""))).map fun x => .tuple [.str x, (dGet (encA sO .int (tally (boxNames ss b))) (.str x)).getD .none]) := by
    refine lcGo_fmE _ _ _ _ fun x hx => ⟨(ρ.set 18 .no).set 18 (.sh (.str x)), rfl, ?_, fun _ => ?_⟩
    · simp [hl, List.getElem?_set]
    · rw [(List.mergeSort_perm _ _).mem_iff] at hx
      obtain ⟨d, h1, h2⟩ := pIx_cnt b hx
      obtain ⟨_, h10'⟩ := List.getElem?_eq_some_iff.mp h10
      simp [hl, List.getElem?_set, h10', h1, h2]
  have h5 := shares_len ss g b
  rw [eLc_ap, iSeq_ap, eBi_ap, aCons_ap, eB_ap, h10]
  simp only [boOf_od, ok_bind, aNil_ap, sorted_e g b, ofO_some, asSeq_l]
  rw [g1, keys_sorted g b hb]
  rw [List.map_map]
  have : (shares ss b).map ((fun x => (PyData.tuple [.str x, (dGet (encA sO .int (tally (boxNames ss b))) (.str x)).getD .none])) ∘ fun r => nm r.1) = (shares ss b).map rowE := by
    apply List.map_congr_left
    intro r hr
    have := share_val g b hb hr
    simp only [Function.comp, rowE]
    rw [show (PyData.str (nm r.1)) = sO (some r.1) from rfl, dGet_enc sO_eqv, this]
    rfl
  rw [this]
  simp only [noX, ok_bind]
  exact mkLst_le (le_line (by simp; omega))
theorem most_e (ss : List Sn) (g : Good ss) (b : Bx) (ρ : List Ev.Slot) (hl : ρ.length = 22) (h13 : ρ[13]? = some (.sh (.list ((shares ss b).map rowE)))) :
    eBi bMax (aCons (e2 pAdd (eLc (iSeq (eV 13)) [21] (gN 21) tYesS (e2 (pIx kt) (eV 21) (eC (.int 1)))) (eLst (aCons (eC (.int 0)) aNil))) aNil) ρ = .ok (.int (most ss b)) := by
  have h5 := shares_len ss g b
  have g1 : lcGo [21] (gN 21) tYesS (e2 (pIx kt) (eV 21) (eC (.int 1))) ρ ((shares ss b).map rowE) = .ok ((shares ss b).map fun r => .int r.2) :=
    lcGo_mapE rowE (fun r => .int r.2) _ fun r hr => ⟨_, rfl, by simp [hl, rowE]⟩
  have z1 : mkLst ((shares ss b).map fun r => .int r.2) = .ok (.list ((shares ss b).map fun r => .int r.2)) := mkLst_le (le_line (by simp; omega))
  have ha : pAdd (.list ((shares ss b).map fun r => .int r.2)) (.list [.int 0]) = some (.list (((shares ss b).map (fun r : Nat × Int => r.2) ++ [0]).map .int)) := by
    unfold pAdd
    dsimp only
    rw [if_pos (le_line (by simp; omega)), List.map_append, List.map_map]
    rfl
  simp [h13, g1, z1, ha, -List.map_append]
  rw [max_l _ (by simp)]
  rfl
theorem flat_rows (xs : List (Nat × Int)) : flatD (.tuple (xs.map rowE)) = true := by
  rw [flatD_t]
  exact flatL_map fun r _ => by simp [rowE]
theorem dOk_rows (xs : List (Nat × Int)) : dOk 64 (.tuple (xs.map rowE)) = true := by
  rw [dOk_t64]
  exact dOkL_map fun r _ => by simp [rowE]
theorem i1_e (ss : List Sn) (g : Good ss) (b : Bx) (hb : b.ok) (ρ : List Ev.Slot) (h4 : ρ[4]? = some (.sh (scE ss))) (h9 : ρ[9]? = some (.sh b.e)) (h13 : ρ[13]? = some (.sh (.list ((shares ss b).map rowE)))) (h11 : ρ[11]? = some (.sh (.int ((boxNames ss b).count none : Nat)))) :
    i_law_1 ρ = .nx ρ := by
  have e1 : pNe (.tuple ((shares ss b).map rowE)) (.tuple ((shares ss b).map rowE)) = some (.bool false) := by
    have : Decidable ((.tuple ((shares ss b).map rowE) : D) = .tuple ((shares ss b).map rowE)) := .isTrue rfl
    rw [pNe_flat (flat_rows _) (flat_rows _) (dOk_rows _) (dOk_rows _)]
    simp
  rw [lost_count g b hb] at h11
  have e2 : pNe (.bool (decide (1 < (shares ss b).length))) (.bool (decide ((1 : Int) < ((shares ss b).length : Int)))) = some (.bool false) := by
    have : decide ((1 : Int) < ((shares ss b).length : Int)) = decide (1 < (shares ss b).length) := by
      rw [Bool.eq_iff_iff]; simp; omega
    rw [this]
    unfold pNe
    simp
  have e2' := e2
  simp [i_law_1, h4, h9, h13, h11, shares_of_e ss g b hb, lost_e ss g b hb, spans_e ss g b hb, e1, -decide_eq_true_eq]
  simp [e2]
theorem i2_e (ss : List Sn) (g : Good ss) (b : Bx) (hb : b.ok) (ρ : List Ev.Slot) (hl : ρ.length = 22) (h4 : ρ[4]? = some (.sh (scE ss))) (h9 : ρ[9]? = some (.sh b.e)) (h13 : ρ[13]? = some (.sh (.list ((shares ss b).map rowE)))) (h14 : ρ[14]? = some (.sh (.int (most ss b)))) :
    i_law_2 ρ = .nx ρ := by
  have h5 := shares_len ss g b
  obtain ⟨_, h14'⟩ := List.getElem?_eq_some_iff.mp h14
  have g2 : lcGo [21] (gN 21) (tB (e2 pEq (e2 (pIx kt) (eV 21) (eC (.int 1))) (eV 14))) (e2 (pIx kt) (eV 21) (eC (.int 0))) ρ ((shares ss b).map rowE) = .ok ((home ss b).map nE) := by
    unfold home
    rw [List.map_map]
    exact lcGo_fmE rowE (fun r => decide (r.2 = most ss b)) (fun r => nE r.1) _ fun r hr => ⟨_, rfl, by simp [hl, rowE, h14', List.getElem?_set], fun _ => by simp [hl, rowE, nE]⟩
  have hh5 : (home ss b).length ≤ 5 := by
    unfold home
    rw [List.length_map]
    exact Nat.le_trans (List.length_filter_le ..) h5
  have z2 : mkLst ((home ss b).map nE) = .ok (.list ((home ss b).map nE)) := mkLst_le (le_line (by simp; omega))
  have hne : home ss b = [] ↔ shares ss b = [] := by
    unfold home
    rw [List.map_eq_nil_iff]
    constructor
    · intro h
      cases hs : shares ss b with
      | nil => rfl
      | cons r0 rs =>
        have hr0 : r0 ∈ shares ss b := by rw [hs]; exact List.mem_cons_self
        obtain ⟨q, hq⟩ : ∃ q, most ss b = maxI (r0.2 :: (rs.map (fun r : Nat × Int => r.2) ++ [0])) ∧ q = 0 := ⟨0, by unfold most; rw [hs]; rfl, rfl⟩
        obtain ⟨m1, m2⟩ := maxI_spec r0.2 (rs.map (fun r : Nat × Int => r.2) ++ [0])
        rw [← hq.1] at m1 m2
        have m3 := m2 r0.2 List.mem_cons_self
        have hp0 : 0 < r0.2 := by
          obtain ⟨s, _, h1, h2⟩ := share_mem.mp hr0
          exact h2
        rw [← List.cons_append, ← List.map_cons (f := fun r : Nat × Int => r.2), ← hs, List.mem_append] at m1
        rcases m1 with m1 | m1
        · obtain ⟨r, hr, e⟩ := List.mem_map.mp m1
          have : r ∈ (shares ss b).filter fun r => decide (r.2 = most ss b) := List.mem_filter.mpr ⟨hr, decide_eq_true e⟩
          rw [h] at this
          cases this
        · rw [List.mem_singleton] at m1
          omega
    · intro h; rw [h]; rfl
  simp only [i_law_2, sIf_ap, tB_ap, e2_ap, eCall_ap, aCons_ap, aNil_ap, eV_ap, h4, h9, shOf_sh, ok_bind, home_e ss g b hb]
  cases hh : home ss b with
  | nil =>
    rw [hne] at hh
    simp [h13, hh]
    rfl
  | cons k r =>
    have : shares ss b ≠ [] := fun e => by rw [hne.mpr e] at hh; cases hh
    have h0 : 0 < (shares ss b).length := List.length_pos_iff.mpr this
    have h0' : (0 : Int) < ((shares ss b).length : Int) := by omega
    rw [hh] at g2 z2
    rw [List.map_cons] at z2
    simp [h13, g2, z2, h0, h0', this]
    simp [nE]
end Lw

set_option Elab.async false
set_option linter.all false
set_option maxRecDepth 100000
set_option maxHeartbeats 1000000
namespace Lw
open PySem PySem.Spec PyProof.Rows L2 Ev
/-! ### all places, as the law tries them -/
def gpl (b : Bx) (x y : Int) : Pl := ⟨iabs (x - b.l) + iabs (y - b.t), x, y⟩
def gcol (b : Bx) (x t : Int) (n : Nat) : List Pl := (List.range n).map fun j => gpl b x (t + (j : Nat))
def grow (b : Bx) (l t : Int) (m n : Nat) : List Pl := (List.range m).flatMap fun i => gcol b (l + (i : Nat)) t n
def gbox (b : Bx) (s : Sn) : List Pl := grow b s.b.l s.b.t (s.b.w - b.w + 1).toNat (s.b.h - b.h + 1).toNat
theorem gcol_len (b : Bx) (x t : Int) (n : Nat) : (gcol b x t n).length = n := by simp [gcol]
theorem grow_succ (b : Bx) (l t : Int) (m n : Nat) : grow b l t (m + 1) n = grow b l t m n ++ gcol b (l + (m : Nat)) t n := by
  simp [grow, List.range_succ]
theorem grow_len (b : Bx) (l t : Int) (m n : Nat) : (grow b l t m n).length = m * n := by
  induction m with
  | zero => simp [grow]
  | succ m ih => rw [grow_succ, List.length_append, ih, gcol_len, Nat.succ_mul]
theorem gbox_len (b : Bx) (s : Sn) (hb : b.ok) (hs : s.b.ok) : (gbox b s).length ≤ 1002001 := by
  unfold gbox
  rw [grow_len]
  obtain ⟨_, _, ⟨h5, h6⟩, h7, h8⟩ := hb
  obtain ⟨_, _, ⟨k5, k6⟩, k7, k8⟩ := hs
  exact Nat.mul_le_mul (by omega : _ ≤ 1001) (by omega : _ ≤ 1001)
theorem pl_add (b : Bx) (l t : Int) : pAdd (.tuple [.int l, .int t]) (.tuple [.int b.w, .int b.h]) = some (.tuple [.int l, .int t, .int b.w, .int b.h]) := by
  unfold pAdd
  dsimp only
  rw [if_pos (le_line (by simp))]
  rfl
theorem b3_e (s0 s1 s2 s3 s4 s5 s6 s7 s8 s10 s11 s13 s14 s16 s17 s18 s20 s21 : Ev.Slot) (b : Bx) (hb : b.ok) (s : Sn) (hs : s.b.ok) (x : Int) (ps : List Pl) (hz : ps.length + 1001 ≤ line) :
    b_law_3 [s0, s1, s2, s3, s4, s5, s6, s7, s8, .sh b.e, s10, s11, .sh (.int x), s13, s14, .sh (.list (ps.map (plE b))), s16, s17, s18, .sh s.b.e, s20, s21] =
      .nx [s0, s1, s2, s3, s4, s5, s6, s7, s8, .sh b.e, s10, s11, .sh (.int x), s13, s14, .sh (.list ((ps ++ gcol b x s.b.t (s.b.h - b.h + 1).toNat).map (plE b))), s16, s17, s18, .sh s.b.e, s20, s21] := by
  obtain ⟨_, ⟨h3, h4⟩, ⟨h5, h6⟩, h7, h8⟩ := id hb
  obtain ⟨_, ⟨k3, k4⟩, ⟨k5, k6⟩, k7, k8⟩ := id hs
  have hr : rng2 [.int s.b.t, .int (s.b.t + s.b.h - b.h + 1)] = .ok (rngL s.b.t (s.b.h - b.h + 1).toNat) := by
    rw [rng2_ok _ _ (by omega) (by omega) (by omega) (by omega)]
    congr 2
    omega
  have g1 : ∀ ρ : List Ev.Slot, ρ.length = 22 → ρ[9]? = some (.sh b.e) → ρ[12]? = some (.sh (.int x)) → lcGo [17] (gN 17) tYesS (eTup (aCons (e2 pAdd (eBi bAbs (aCons (e2 pSub (eV 12) (e2 (pIx kt) (eV 9) (eC (.int 0)))) aNil)) (eBi bAbs (aCons (e2 pSub (eV 17) (e2 (pIx kt) (eV 9) (eC (.int 1)))) aNil))) (aCons (e2 pAdd (eTup (aCons (eV 12) (aCons (eV 17) aNil))) (eSl (eV 9) (oSome (eC (.int 2))) oNo)) aNil))) ρ (rngL s.b.t (s.b.h - b.h + 1).toNat) = .ok ((gcol b x s.b.t (s.b.h - b.h + 1).toNat).map (plE b)) := fun ρ hl h9 h12 => by
    rw [rngL_map, List.map_map]
    unfold gcol
    rw [List.map_map]
    obtain ⟨_, h9'⟩ := List.getElem?_eq_some_iff.mp h9
    obtain ⟨_, h12'⟩ := List.getElem?_eq_some_iff.mp h12
    exact lcGo_mapE _ _ _ fun j hj => ⟨_, rfl, by simp [hl, List.getElem?_set, h9', h12', pl_add, plE, gpl, iabs]⟩
  have z1 : mkLst ((gcol b x s.b.t (s.b.h - b.h + 1).toNat).map (plE b)) = .ok (.list ((gcol b x s.b.t (s.b.h - b.h + 1).toNat).map (plE b))) := mkLst_le (le_line (by rw [List.length_map, gcol_len]; omega))
  have ha : pAdd (.list (ps.map (plE b))) (.list ((gcol b x s.b.t (s.b.h - b.h + 1).toNat).map (plE b))) = some (.list ((ps ++ gcol b x s.b.t (s.b.h - b.h + 1).toNat).map (plE b))) := by
    unfold pAdd
    dsimp only
    rw [if_pos (by rw [List.length_map, List.length_map, gcol_len]; omega), List.map_append]
  simp only [b_law_3, sSet_ap, e2_ap, eLc_ap, iRng_ap, aCons_ap, aNil_ap, eV_ap, eC_ap, List.getElem?_cons_succ, List.getElem?_cons_zero, shOf_sh, ok_bind, bx0, bx1, bx2, bx3, ofO_some, pAdd_i, pSub_i, hr]
  rw [g1 _ rfl rfl rfl]
  simp only [noX, ok_bind, z1, ha, ofO_some, onD_ok, List.set_cons_succ, List.set_cons_zero]
theorem b4_e (s0 s1 s2 s3 s4 s5 s6 s7 s8 s10 s11 s12 s13 s14 s16 s17 s18 s20 s21 : Ev.Slot) (b : Bx) (hb : b.ok) (s : Sn) (hs : s.b.ok) (ps : List Pl) (hz : ps.length + 1100000 ≤ line) :
    ∃ s12', b_law_4 [s0, s1, s2, s3, s4, s5, s6, s7, s8, .sh b.e, s10, s11, s12, s13, s14, .sh (.list (ps.map (plE b))), s16, s17, s18, .sh s.b.e, s20, s21] =
      .nx [s0, s1, s2, s3, s4, s5, s6, s7, s8, .sh b.e, s10, s11, s12', s13, s14, .sh (.list ((ps ++ gbox b s).map (plE b))), s16, s17, s18, .sh s.b.e, s20, s21] := by
  obtain ⟨⟨h1, h2⟩, ⟨h3, h4⟩, ⟨h5, h6⟩, h7, h8⟩ := id hb
  obtain ⟨⟨k1, k2⟩, ⟨k3, k4⟩, ⟨k5, k6⟩, k7, k8⟩ := id hs
  obtain ⟨ρ', e, s12', rfl⟩ := for_inv (g := gN 12) (s := b_law_3) (ds := rngL s.b.l (s.b.w - b.w + 1).toNat) (ρ := [s0, s1, s2, s3, s4, s5, s6, s7, s8, .sh b.e, s10, s11, s12, s13, s14, .sh (.list (ps.map (plE b))), s16, s17, s18, .sh s.b.e, s20, s21])
    (fun i ρ => ∃ s12', ρ = [s0, s1, s2, s3, s4, s5, s6, s7, s8, .sh b.e, s10, s11, s12', s13, s14, .sh (.list ((ps ++ grow b s.b.l s.b.t i (s.b.h - b.h + 1).toNat).map (plE b))), s16, s17, s18, .sh s.b.e, s20, s21]) ⟨s12, by simp [grow]⟩ (by
    rintro i d ρ hi ⟨s12', rfl⟩
    obtain ⟨hi, rfl⟩ := rngL_get hi
    have e := b3_e s0 s1 s2 s3 s4 s5 s6 s7 s8 s10 s11 s13 s14 s16 s17 s18 s20 s21 b hb s hs (s.b.l + i) (ps ++ grow b s.b.l s.b.t i (s.b.h - b.h + 1).toNat) (by
      rw [List.length_append, grow_len]
      have : i * (s.b.h - b.h + 1).toNat ≤ 1001 * 1001 := Nat.mul_le_mul (by omega) (by omega)
      omega)
    rw [List.append_assoc, ← grow_succ] at e
    exact ⟨_, rfl, _, .inl e, _, rfl⟩)
  rw [rngL_length] at e
  refine ⟨s12', ?_⟩
  unfold gbox
  rw [← e]
  have hr : rng2 [.int s.b.l, .int (s.b.l + s.b.w - b.w + 1)] = .ok (rngL s.b.l (s.b.w - b.w + 1).toNat) := by
    rw [rng2_ok _ _ (by omega) (by omega) (by omega) (by omega)]
    congr 2
    omega
  simp [b_law_4, hr]
def good (ss : List Sn) (b : Bx) : List Pl := ss.flatMap (gbox b)
theorem good_len {ss : List Sn} (b : Bx) (hb : b.ok) (h : ∀ s ∈ ss, s.b.ok) : (good ss b).length ≤ ss.length * 1002001 := by
  induction ss with
  | nil => simp [good]
  | cons s ss ih =>
    have := ih fun x hx => h x (List.mem_cons_of_mem _ hx)
    unfold good at this ⊢
    rw [List.flatMap_cons, List.length_append, List.length_cons, Nat.succ_mul]
    have := gbox_len b s hb (h s List.mem_cons_self)
    omega
theorem good_loop (s0 s1 s2 s3 s5 s6 s7 s8 s10 s11 s12 s13 s14 s16 s17 s18 s19 s20 s21 : Ev.Slot) (ss : List Sn) (g : Good ss) (b : Bx) (hb : b.ok) :
    ∃ s12' s18' s19', sFor (iSeq (eV 4)) (gT 2 (gsCons (gN 18) (gsCons (gN 19) gsNil))) b_law_4 [s0, s1, s2, s3, .sh (scE ss), s5, s6, s7, s8, .sh b.e, s10, s11, s12, s13, s14, .sh (.list []), s16, s17, s18, s19, s20, s21] =
      .nx [s0, s1, s2, s3, .sh (scE ss), s5, s6, s7, s8, .sh b.e, s10, s11, s12', s13, s14, .sh (.list ((good ss b).map (plE b))), s16, s17, s18', s19', s20, s21] := by
  have h5 := g.five
  obtain ⟨ρ', e, s12', s18', s19', rfl⟩ := for_inv (g := gT 2 (gsCons (gN 18) (gsCons (gN 19) gsNil))) (s := b_law_4) (ds := ss.map Sn.e) (ρ := [s0, s1, s2, s3, .sh (scE ss), s5, s6, s7, s8, .sh b.e, s10, s11, s12, s13, s14, .sh (.list []), s16, s17, s18, s19, s20, s21])
    (fun i ρ => ∃ s12' s18' s19', ρ = [s0, s1, s2, s3, .sh (scE ss), s5, s6, s7, s8, .sh b.e, s10, s11, s12', s13, s14, .sh (.list ((good (ss.take i) b).map (plE b))), s16, s17, s18', s19', s20, s21]) ⟨s12, s18, s19, by simp [good]⟩ (by
    rintro i d ρ hi ⟨s12', s18', s19', rfl⟩
    rw [List.getElem?_map] at hi
    obtain ⟨s, hs, rfl⟩ := Option.map_eq_some_iff.mp hi
    have hsb := (g.box s (List.mem_of_getElem? hs)).2.1
    obtain ⟨s12'', e⟩ := b4_e s0 s1 s2 s3 (.sh (scE ss)) s5 s6 s7 s8 s10 s11 s12' s13 s14 s16 s17 (.sh (.str (nm s.k))) s20 s21 b hb s hsb (good (ss.take i) b) (by
      have h1 := good_len (ss := ss.take i) b hb fun x hx => g.ok x (List.mem_of_mem_take hx)
      rw [List.length_take] at h1
      have : min i ss.length * 1002001 ≤ 5 * 1002001 := Nat.mul_le_mul (by omega) (Nat.le_refl _)
      have : (7000001 : Nat) < line := by decide
      omega)
    have hq : good (ss.take i) b ++ gbox b s = good (ss.take (i + 1)) b := by
      rw [List.take_succ, hs]
      simp [good]
    rw [hq] at e
    exact ⟨_, rfl, _, .inl e, _, _, _, rfl⟩)
  rw [List.length_map, List.take_length] at e
  refine ⟨s12', s18', s19', ?_⟩
  rw [← e]
  simp
  rw [show asSeq (scE ss) = .ok (ss.map Sn.e) from rfl]
  rfl
/-! the least of all places is the least of the nearest ones -/
theorem gbox_mem (b : Bx) (s : Sn) (p : Pl) : p ∈ gbox b s ↔ ∃ x y, p = gpl b x y ∧ (s.b.l ≤ x ∧ x ≤ s.b.l + s.b.w - b.w) ∧ (s.b.t ≤ y ∧ y ≤ s.b.t + s.b.h - b.h) := by
  unfold gbox grow gcol
  simp only [List.mem_flatMap, List.mem_map, List.mem_range]
  constructor
  · rintro ⟨i, hi, j, hj, rfl⟩
    exact ⟨_, _, rfl, by omega, by omega⟩
  · rintro ⟨x, y, rfl, h1, h2⟩
    refine ⟨(x - s.b.l).toNat, by omega, (y - s.b.t).toNat, by omega, ?_⟩
    congr 1 <;> omega
theorem iabs_nn (i : Int) : 0 ≤ iabs i ∧ (i ≤ iabs i ∧ -i ≤ iabs i) ∧ (iabs i = i ∨ iabs i = -i) := by
  unfold iabs
  split <;> omega
theorem min_good (ss : List Sn) (b : Bx) (hb : b.ok) : minP (good ss b) = minP (places ss b) := by
  symm
  apply minP_eq
  · intro p hp
    unfold places at hp
    obtain ⟨s, hs, rfl⟩ := List.mem_map.mp hp
    rw [List.mem_filter] at hs
    obtain ⟨hs, hf⟩ := hs
    simp only [fits, Bool.and_eq_true, decide_eq_true_eq] at hf
    unfold good
    rw [List.mem_flatMap]
    refine ⟨s, hs, (gbox_mem b s _).mpr ⟨held b.l b.w s.b.l s.b.w, held b.t b.h s.b.t s.b.h, rfl, ?_, ?_⟩⟩ <;> unfold held <;> omega
  · intro q hq
    unfold good at hq
    obtain ⟨s, hs, hq⟩ := List.mem_flatMap.mp hq
    obtain ⟨x, y, rfl, h1, h2⟩ := (gbox_mem b s q).mp hq
    refine ⟨plOf b s, List.mem_map_of_mem (List.mem_filter.mpr ⟨hs, by simp only [fits, Bool.and_eq_true, decide_eq_true_eq]; omega⟩), ?_⟩
    have a1 : iabs (held b.l b.w s.b.l s.b.w - b.l) < iabs (x - b.l) ∨ held b.l b.w s.b.l s.b.w = x := by
      unfold held iabs
      split <;> split <;> omega
    have a2 : iabs (held b.t b.h s.b.t s.b.h - b.t) < iabs (y - b.t) ∨ held b.t b.h s.b.t s.b.h = y := by
      unfold held iabs
      split <;> split <;> omega
    unfold lt3 plOf gpl
    rw [decide_eq_false_iff_not]
    dsimp only
    rcases a1 with a1 | a1 <;> rcases a2 with a2 | a2
    · omega
    · rw [a2]; omega
    · rw [a1]; omega
    · rw [a1, a2]; omega
/-- where it was brought to, it stays -/
def atP (b : Bx) (p : Pl) : Bx := ⟨p.l, p.t, b.w, b.h⟩
theorem stays (ss : List Sn) (g : Good ss) (b : Bx) (hb : b.ok) (p : Pl) (h : minP (places ss b) = some p) : (atP b p).ok ∧ ∃ q, minP (places ss (atP b p)) = some q ∧ q.l = p.l ∧ q.t = p.t := by
  obtain ⟨hp, _⟩ := minP_ok h
  unfold places at hp
  obtain ⟨s, hs, rfl⟩ := List.mem_map.mp hp
  rw [List.mem_filter] at hs
  obtain ⟨hs, hf⟩ := hs
  have hf' := hf
  simp only [fits, Bool.and_eq_true, decide_eq_true_eq] at hf'
  obtain ⟨n1, n2⟩ := g.near s hs
  obtain ⟨_, ⟨⟨k1, k2⟩, ⟨k3, k4⟩, ⟨k5, k6⟩, k7, k8⟩, _, _⟩ := g.box s hs
  obtain ⟨⟨h1, h2⟩, ⟨h3, h4⟩, ⟨h5, h6⟩, h7, h8⟩ := id hb
  have w1 : s.b.l ≤ held b.l b.w s.b.l s.b.w ∧ held b.l b.w s.b.l s.b.w ≤ s.b.l + s.b.w - b.w := by unfold held; omega
  have w2 : s.b.t ≤ held b.t b.h s.b.t s.b.h ∧ held b.t b.h s.b.t s.b.h ≤ s.b.t + s.b.h - b.h := by unfold held; omega
  refine ⟨⟨?_, ?_, ?_, ?_⟩, ?_⟩
  · show 0 ≤ held b.l b.w s.b.l s.b.w ∧ held b.l b.w s.b.l s.b.w ≤ 1000; omega
  · show 0 ≤ held b.t b.h s.b.t s.b.h ∧ held b.t b.h s.b.t s.b.h ≤ 1000; omega
  · exact ⟨h5, h6⟩
  · exact ⟨h7, h8⟩
  have hm : plOf (atP b (plOf b s)) s ∈ places ss (atP b (plOf b s)) := List.mem_map_of_mem (List.mem_filter.mpr ⟨hs, hf⟩)
  cases hq : minP (places ss (atP b (plOf b s))) with
  | none => rw [minP_none.mp hq] at hm; cases hm
  | some q =>
    obtain ⟨q1, q2⟩ := minP_ok hq
    have q3 := q2 _ hm
    refine ⟨q, rfl, ?_⟩
    unfold places at q1
    obtain ⟨s', hs', rfl⟩ := List.mem_map.mp q1
    unfold lt3 at q3
    rw [decide_eq_false_iff_not] at q3
    have e0 : (plOf (atP b (plOf b s)) s).d = 0 := by
      have e1 : held (held b.l b.w s.b.l s.b.w) b.w s.b.l s.b.w = held b.l b.w s.b.l s.b.w := by
        generalize held b.l b.w s.b.l s.b.w = x at *
        unfold held
        omega
      have e2 : held (held b.t b.h s.b.t s.b.h) b.h s.b.t s.b.h = held b.t b.h s.b.t s.b.h := by
        generalize held b.t b.h s.b.t s.b.h = x at *
        unfold held
        omega
      show iabs (held (held b.l b.w s.b.l s.b.w) b.w s.b.l s.b.w - held b.l b.w s.b.l s.b.w) + iabs (held (held b.t b.h s.b.t s.b.h) b.h s.b.t s.b.h - held b.t b.h s.b.t s.b.h) = 0
      rw [e1, e2, Int.sub_self, Int.sub_self]
      rfl
    rw [e0] at q3
    have e3 : (plOf (atP b (plOf b s)) s').d = iabs ((plOf (atP b (plOf b s)) s').l - (plOf b s).l) + iabs ((plOf (atP b (plOf b s)) s').t - (plOf b s).t) := rfl
    rw [e3] at q3
    have a1 := iabs_nn ((plOf (atP b (plOf b s)) s').l - (plOf b s).l)
    have a2 := iabs_nn ((plOf (atP b (plOf b s)) s').t - (plOf b s).t)
    omega
theorem pos_flat (b : Bx) (o : Option Pl) : flatD (posE b o) = true ∧ dOk 64 (posE b o) = true := by
  cases o <;> simp [posE]
theorem i3_e (ss : List Sn) (g : Good ss) (b : Bx) (hb : b.ok) (ρ : List Ev.Slot) (h4 : ρ[4]? = some (.sh (scE ss))) (h15 : ρ[15]? = some (.sh (.list ((good ss b).map (plE b))))) (h16 : ρ[16]? = some (.sh (posE b (minP (places ss b))))) :
    i_law_3 ρ = .nx ρ := by
  have e1 : eIf (tB (e2 pGt (eBi bLen (aCons (eV 15) aNil)) (eC (.int 0)))) (e2 (pIx kt) (eBi bMin (aCons (eV 15) aNil)) (eC (.int 1))) (eC .none) ρ = .ok (posE b (minP (places ss b))) := by
    rw [← min_good ss b hb]
    cases hg : good ss b with
    | nil => simp [h15, hg, minP, posE]
    | cons p r =>
      have hm : bMin [.list (plE b p :: r.map (plE b))] = (minP (p :: r)).map (plE b) := min_e b (p :: r)
      have h0 : (0 : Int) < (r.length : Int) + 1 := by omega
      cases hq : minP (p :: r) with
      | none => rw [minP_none] at hq; cases hq
      | some q =>
        rw [hq] at hm
        simp [h15, hg, h0, hm, pIx_pl]
  obtain ⟨f1, f2⟩ := pos_flat b (minP (places ss b))
  have e2 : pNe (posE b (minP (places ss b))) (posE b (minP (places ss b))) = some (.bool false) := by
    have : Decidable (posE b (minP (places ss b)) = posE b (minP (places ss b))) := .isTrue rfl
    rw [pNe_flat f1 f1 f2 f2]
    simp
  simp only [i_law_3, sIf_ap, tOrS_ap, tB_ap, e2_ap]
  rw [e1]
  simp only [eV_ap, h16, shOf_sh, ok_bind, e2, ofO_some, asB_b, tAndS_ap]
  cases hq : minP (places ss b) with
  | none =>
    rw [hq] at h16
    have e5 : pIsNot (posE b none) .none = some (.bool false) := rfl
    simp [h16, e5]
  | some p =>
    obtain ⟨k1, q, k2, k3, k4⟩ := stays ss g b hb p hq
    have e3 : f_brought_in [scE ss, posE b (some p)] = .ok (posE b (some p)) := by
      have := brought_e ss g (atP b p) k1
      rw [k2] at this
      have e4 : posE (atP b p) (some q) = posE b (some p) := by
        unfold posE
        dsimp only
        rw [k3, k4]
        rfl
      rw [e4] at this
      exact this
    rw [hq] at e2 h16
    have e5 : pIsNot (posE b (some p)) .none = some (.bool true) := rfl
    simp [h16, h4, e3, e2, e5]
end Lw

set_option Elab.async false
set_option linter.all false
set_option maxRecDepth 100000
set_option maxHeartbeats 1000000
namespace Lw
open PySem PySem.Spec PyProof.Rows L2 Ev
theorem md12 (v : Int) : pMod (.int v) (.int 12) = some (.int (v % 12)) := pMod_i _ _ (by decide)
theorem md9 (v : Int) : pMod (.int v) (.int 9) = some (.int (v % 9)) := pMod_i _ _ (by decide)
theorem dv108 (v : Int) : pFdiv (.int v) (.int 108) = some (.int (v / 108)) := pFdiv_i _ _ (by decide) (by decide)
theorem dv540 (v : Int) : pFdiv (.int v) (.int 540) = some (.int (v / 540)) := pFdiv_i _ _ (by decide) (by decide)
def bxD (v : Int) : Bx := ⟨v % 12, v / 12 % 9, v / 108 % 5, v / 540 % 4⟩
theorem bxD_ok (v : Int) : (bxD v).ok := by
  unfold bxD
  refine ⟨?_, ?_, ?_, ?_⟩ <;> dsimp only <;> omega
theorem b5_e (s0 s3 s7 s8 s9 s10 s11 s12 s13 s14 s15 s16 s17 s18 s19 s20 s21 : Ev.Slot) (ds : List Int) (hr : InR ds) (hl : ds.length = 60) (tn n : Nat) (ht : tn < 4) (hn : n < 8) (ss : List Sn) (g : Good ss) :
    ∃ s8' s9' s10' s11' s12' s13' s14' s15' s16' s17' s18' s19', b_law_5 [s0, .sh (.list (zL ds)), .sh (.int (tn : Nat)), s3, .sh (scE ss), .sh (cells ss), .sh (.int (n : Nat)), s7, s8, s9, s10, s11, s12, s13, s14, s15, s16, s17, s18, s19, s20, s21] =
      .nx [s0, .sh (.list (zL ds)), .sh (.int (tn : Nat)), s3, .sh (scE ss), .sh (cells ss), .sh (.int (n : Nat)), s7, s8', s9', s10', s11', s12', s13', s14', s15', s16', s17', s18', s19', s20, s21] := by
  obtain ⟨v, hv, hv0⟩ : ∃ v, dAt (zL ds) (40 + (n : Int)) = some (.int v) ∧ 0 ≤ v := by
    obtain ⟨x, h1, h2⟩ := dAt_int (zL ds) (i := 40 + (n : Int)) (by omega) (by rw [zL_length]; omega)
    unfold zL at h2
    obtain ⟨v, hv, rfl⟩ := List.mem_map.mp h2
    exact ⟨v, h1, (hr v hv).1⟩
  have hf : pFdiv (.int v) (.int ((tn : Int) + 1)) = some (.int (v / ((tn : Int) + 1))) := pFdiv_i _ _ (by omega) (by omega)
  generalize hw : v / ((tn : Int) + 1) = w at hf
  have hb := bxD_ok w
  have hx : mkTup [.int (w % 12), .int (w / 12 % 9), .int (w / 108 % 5), .int (w / 540 % 4)] = .ok (bxD w).e := rfl
  obtain ⟨s12', s17', s18', e1⟩ := count_box s0 (.sh (.list (zL ds))) (.sh (.int (tn : Nat))) s3 (.sh (scE ss)) (.sh (.int (n : Nat))) s7 (.sh (.int w)) s12 s13 s14 s15 s16 s17 s18 s19 s20 s21 ss (bxD w) hb
  obtain ⟨s12'', s18'', s19'', e2⟩ := good_loop s0 (.sh (.list (zL ds))) (.sh (.int (tn : Nat))) s3 (.sh (cells ss)) (.sh (.int (n : Nat))) s7 (.sh (.int w)) (cntS (boxNames ss (bxD w))) (.sh (.int ((boxNames ss (bxD w)).count none : Nat))) s12' (.sh (.list ((shares ss (bxD w)).map rowE))) (.sh (.int (most ss (bxD w)))) s16 s17' s18' s19 s20 s21 ss g (bxD w) hb
  simp only [b_law_5, sSeq_ap, sSet_ap, e2_ap, eBi_ap, aCons_ap, aNil_ap, eV_ap, eC_ap, List.getElem?_cons_succ, List.getElem?_cons_zero, shOf_sh, ok_bind, pAdd_i, ofO_some, pIx_l, hv, bInt_i, hf, onD_ok, thenS_nx, List.set_cons_succ, List.set_cons_zero, eTup_ap, md12, md9, dv12, dv108, dv540, md5, md4, hx, sOwn_ap, eNewD_ap, ownS_d]
  rw [e1]
  simp only [thenS_nx, sSeq_ap, sSet_ap]
  rw [rows_e g (bxD w) hb _ rfl rfl]
  simp only [onD_ok, thenS_nx, sSeq_ap, sSet_ap, List.set_cons_succ, List.set_cons_zero]
  rw [most_e ss g (bxD w) _ rfl rfl]
  simp only [onD_ok, thenS_nx, sSeq_ap, sSet_ap, List.set_cons_succ, List.set_cons_zero]
  rw [i1_e ss g (bxD w) hb _ rfl rfl rfl rfl]
  simp only [thenS_nx, sSeq_ap]
  rw [i2_e ss g (bxD w) hb _ rfl rfl rfl rfl rfl]
  simp only [thenS_nx, sSeq_ap, sSet_ap, eLst_ap, aNil_ap, ok_bind, mkLst0, onD_ok, List.set_cons_succ, List.set_cons_zero]
  rw [e2]
  simp only [thenS_nx, sSeq_ap, sSet_ap, eCall_ap, aCons_ap, aNil_ap, eV_ap, List.getElem?_cons_succ, List.getElem?_cons_zero, shOf_sh, ok_bind, brought_e ss g (bxD w) hb, onD_ok, List.set_cons_succ, List.set_cons_zero]
  rw [i3_e ss g (bxD w) hb _ rfl rfl rfl]
  exact ⟨_, _, _, _, _, _, _, _, _, _, _, _, rfl⟩
/-! values that are no boxes -/
theorem word_e (ss : List Sn) (g : Good ss) (d : D) (hd : f_is_box [d] = .ok (.bool false)) (i : Nat) (hi : i < 5) : f__law_word [.int (i : Nat), scE ss, d] = .ok (.str "box") := by
  have hc := check_no ss g d hd
  have q1 : f_shares_of [scE ss, d] = .exc "BadBox" := by simp [f_shares_of, mkFn, s_shares_of, hc]
  have q2 : f_spans [scE ss, d] = .exc "BadBox" := by simp [f_spans, mkFn, s_spans, hc]
  have q3 : f_home_of [scE ss, d] = .exc "BadBox" := by simp [f_home_of, mkFn, s_home_of, hc]
  have q4 : f_lost_cells [scE ss, d] = .exc "BadBox" := by simp [f_lost_cells, mkFn, s_lost_cells, hc]
  have q5 : f_brought_in [scE ss, d] = .exc "BadBox" := by simp [f_brought_in, mkFn, s_brought_in, hc]
  match i, hi with
  | 0, _ => simp [f__law_word, mkFn, s__law_word, sTry, q1]
  | 1, _ => simp [f__law_word, mkFn, s__law_word, sTry, q2]
  | 2, _ => simp [f__law_word, mkFn, s__law_word, sTry, q3]
  | 3, _ => simp [f__law_word, mkFn, s__law_word, sTry, q4]
  | 4, _ => simp [f__law_word, mkFn, s__law_word, sTry, q5]
end Lw

set_option Elab.async false
set_option linter.all false
set_option maxRecDepth 100000
set_option maxHeartbeats 1000000
namespace Lw
open PySem PySem.Spec PyProof.Rows L2 Ev
theorem i4_e (ss : List Sn) (g : Good ss) (d : D) (hd : f_is_box [d] = .ok (.bool false)) (ρ : List Ev.Slot) (hl : ρ.length = 22) (h4 : ρ[4]? = some (.sh (scE ss))) (h7 : ρ[7]? = some (.sh d)) : i_law_4 ρ = .nx ρ := by
  obtain ⟨_, h4'⟩ := List.getElem?_eq_some_iff.mp h4
  obtain ⟨_, h7'⟩ := List.getElem?_eq_some_iff.mp h7
  have hr : rng1 [.int 5] = .ok ((List.range 5).map fun i => .int ((i : Nat) : Int)) := by rfl
  have g1 : lcGo [20] (gN 20) tYesS (eCall f__law_word (aCons (eV 20) (aCons (eV 4) (aCons (eV 7) aNil)))) ρ ((List.range 5).map fun i => .int ((i : Nat) : Int)) = .ok ((List.range 5).map fun _ => .str "box") :=
    lcGo_mapE _ _ _ fun i hi => ⟨_, rfl, by
      have := word_e ss g d hd i (List.mem_range.mp hi)
      simp [hl, h4', h7', List.getElem?_set, this]⟩
  have h2 : pMul (.list [.str "box"]) (.int 5) = some (.list [.str "box", .str "box", .str "box", .str "box", .str "box"]) := by rfl
  have h3 : pNe (.list ((List.range 5).map fun _ => (.str "box" : D))) (.list [.str "box", .str "box", .str "box", .str "box", .str "box"]) = some (.bool false) := by rfl
  have h5 : mkLst ((List.range 5).map fun _ => (.str "box" : D)) = .ok (.list ((List.range 5).map fun _ => (.str "box" : D))) := by rfl
  simp only [i_law_4, sIf_ap, tB_ap, e2_ap, eLc_ap, iRng_ap, aCons_ap, aNil_ap, eC_ap, ok_bind, hr, g1, noX, h5, eLst_ap, mkLst1, h2, ofO_some, h3, asB_b, onB_ok]
  rfl
def wrongs : List D := [.none, .tuple [.int 0, .int 0, .int 1], .list [.int 0, .int 0, .int 1, .int 1], .tuple [.int 0, .int 0, .int 1, .int 1001], .tuple [.int 0, .int 0, .int (-1), .int 1], .tuple [.int 0, .int 0, .bool true, .int 1], .int 3]
theorem wrongs_no : ∀ d ∈ wrongs, f_is_box [d] = .ok (.bool false) := by
  intro d hd
  simp only [wrongs, List.mem_cons, List.not_mem_nil, or_false] at hd
  rcases hd with rfl | rfl | rfl | rfl | rfl | rfl | rfl <;> rfl
theorem rngL0 (n i : Nat) (d : D) (h : (rngL 0 n)[i]? = some d) : i < n ∧ d = .int ((i : Nat) : Int) := by
  obtain ⟨h1, h2⟩ := rngL_get h
  exact ⟨h1, by rw [h2, Int.zero_add]⟩
theorem b7_e (s0 s3 s4 s5 s6 s7 s8 s9 s10 s11 s12 s13 s14 s15 s16 s17 s18 s19 s20 s21 : Ev.Slot) (ds : List Int) (hr : InR ds) (hl : ds.length = 60) (tn : Nat) (ht : tn < 4) :
    ∃ s4' s5' s6' s7' s8' s9' s10' s11' s12' s13' s14' s15' s16' s17' s18' s19', b_law_7 [s0, .sh (.list (zL ds)), .sh (.int (tn : Nat)), s3, s4, s5, s6, s7, s8, s9, s10, s11, s12, s13, s14, s15, s16, s17, s18, s19, s20, s21] =
      .nx [s0, .sh (.list (zL ds)), .sh (.int (tn : Nat)), s3, s4', s5', s6', s7', s8', s9', s10', s11', s12', s13', s14', s15', s16', s17', s18', s19', s20, s21] := by
  have hm : pMul (.int 6) (.int (tn : Nat)) = some (.int ((6 * tn : Nat) : Int)) := by
    have h6 : smallI 6 = true := by decide
    simp [pMul, h6]
  have c1 : pCut (some ((6 * tn : Nat) : Int)) none (.list (zL ds)) = some (.list (zL (ds.drop (6 * tn)))) := by
    unfold zL
    rw [List.map_drop]
    show some (PyData.list (Ev.cutD _ _ _)) = _
    rw [cut_drop]
  have c2 : pCut none (some ((6 * tn : Nat) : Int)) (.list (zL ds)) = some (.list (zL (ds.take (6 * tn)))) := by
    unfold zL
    rw [List.map_take]
    show some (PyData.list (Ev.cutD _ _ _)) = _
    rw [cut_take]
  have c3 : pAdd (.list (zL (ds.drop (6 * tn)))) (.list (zL (ds.take (6 * tn)))) = some (.list (zL (ds.drop (6 * tn) ++ ds.take (6 * tn)))) := by
    unfold pAdd
    dsimp only
    rw [if_pos (le_line (by rw [zL_length, zL_length, List.length_drop, List.length_take]; omega))]
    unfold zL
    rw [List.map_append]
  obtain ⟨ss, g, e0⟩ := law_screens_e (ds.drop (6 * tn) ++ ds.take (6 * tn)) (fun v hv => hr v (by
    rcases List.mem_append.mp hv with h | h
    · exact List.mem_of_mem_drop h
    · exact List.mem_of_mem_take h)) (by rw [List.length_append, List.length_drop, List.length_take]; omega)
  obtain ⟨ρ', e1, s6', s8', s9', s10', s11', s12', s13', s14', s15', s16', s17', s18', s19', rfl⟩ := for_inv (g := gN 6) (s := b_law_5) (ds := rngL 0 8) (ρ := [s0, .sh (.list (zL ds)), .sh (.int (tn : Nat)), s3, .sh (scE ss), .sh (cells ss), s6, s7, s8, s9, s10, s11, s12, s13, s14, s15, s16, s17, s18, s19, s20, s21])
    (fun i ρ => ∃ s6' s8' s9' s10' s11' s12' s13' s14' s15' s16' s17' s18' s19', ρ = [s0, .sh (.list (zL ds)), .sh (.int (tn : Nat)), s3, .sh (scE ss), .sh (cells ss), s6', s7, s8', s9', s10', s11', s12', s13', s14', s15', s16', s17', s18', s19', s20, s21]) ⟨_, _, _, _, _, _, _, _, _, _, _, _, _, rfl⟩ (by
    rintro i d ρ hi ⟨s6', s8', s9', s10', s11', s12', s13', s14', s15', s16', s17', s18', s19', rfl⟩
    obtain ⟨hj, rfl⟩ := rngL0 8 i d hi
    obtain ⟨_, _, _, _, _, _, _, _, _, _, _, _, e⟩ := b5_e s0 s3 s7 s8' s9' s10' s11' s12' s13' s14' s15' s16' s17' s18' s19' s20 s21 ds hr hl tn i ht hj ss g
    exact ⟨_, rfl, _, .inl e, _, _, _, _, _, _, _, _, _, _, _, _, _, rfl⟩)
  obtain ⟨ρ'', e2, s7', rfl⟩ := for_inv (g := gN 7) (s := b_law_6) (ds := wrongs) (ρ := [s0, .sh (.list (zL ds)), .sh (.int (tn : Nat)), s3, .sh (scE ss), .sh (cells ss), s6', s7, s8', s9', s10', s11', s12', s13', s14', s15', s16', s17', s18', s19', s20, s21])
    (fun i ρ => ∃ s7', ρ = [s0, .sh (.list (zL ds)), .sh (.int (tn : Nat)), s3, .sh (scE ss), .sh (cells ss), s6', s7', s8', s9', s10', s11', s12', s13', s14', s15', s16', s17', s18', s19', s20, s21]) ⟨_, rfl⟩ (by
    rintro i d ρ hi ⟨s7', rfl⟩
    have e := i4_e ss g d (wrongs_no d (List.mem_of_getElem? hi)) [s0, .sh (.list (zL ds)), .sh (.int (tn : Nat)), s3, .sh (scE ss), .sh (cells ss), s6', .sh d, s8', s9', s10', s11', s12', s13', s14', s15', s16', s17', s18', s19', s20, s21] rfl rfl rfl
    exact ⟨_, rfl, _, .inl e, _, rfl⟩)
  have hr8 : rng1 [.int 8] = .ok (rngL 0 8) := by rfl
  have hw : mkLst wrongs = .ok (.list wrongs) := by rfl
  unfold wrongs at hw e2
  have hneg : pNeg (.int 1) = some (.int (-1)) := by rfl
  have hc : f__law_cells [scE ss] = .ok (cells ss) := law_cells_e ss g
  have key : b_law_7 [s0, .sh (.list (zL ds)), .sh (.int (tn : Nat)), s3, s4, s5, s6, s7, s8, s9, s10, s11, s12, s13, s14, s15, s16, s17, s18, s19, s20, s21] = .nx [s0, .sh (.list (zL ds)), .sh (.int (tn : Nat)), s3, .sh (scE ss), .sh (cells ss), s6', s7', s8', s9', s10', s11', s12', s13', s14', s15', s16', s17', s18', s19', s20, s21] := by
    simp only [b_law_7, sSeq_ap, sSet_ap, eCall_ap, aCons_ap, aNil_ap, e2_ap, eSl_ap, oSome_ap, oNo_ap, eV_ap, eC_ap, List.getElem?_cons_succ, List.getElem?_cons_zero, shOf_sh, ok_bind, hm, ofO_some, c1, c2, c3, e0, onD_ok, thenS_nx, List.set_cons_succ, List.set_cons_zero, hc]
    simp only [sFor_ap, iRng_ap, aCons_ap, aNil_ap, eC_ap, ok_bind, hr8, onL_ok, e1, thenS_nx, iSeq_ap, eLst_ap, eTup_ap, mkTup3, mkTup4, mkLst4, e1_ap, hneg, ofO_some, hw, asSeq_l, e2]
  exact ⟨_, _, _, _, _, _, _, _, _, _, _, _, _, _, _, _, key⟩
end Lw

set_option Elab.async false
set_option linter.all false
set_option maxRecDepth 100000
set_option maxHeartbeats 1000000
namespace Lw
open PySem PySem.Spec PyProof.Rows L2 Ev
def two : D := .tuple [.tuple [.str "a", .tuple [.int 0, .int 0, .int 4, .int 4]], .tuple [.str "b", .tuple [.int 4, .int 2, .int 4, .int 4]]]
theorem i5_e (ρ : List Ev.Slot) (h : ρ[3]? = some (.sh two)) : i_law_5 ρ = .nx ρ := by
  have e1 : f_shares_of [two, .tuple [.int 3, .int 3, .int 2, .int 2]] = .ok (.tuple [.tuple [.str "a", .int 1], .tuple [.str "b", .int 2]]) := by rfl
  have e2 : f_home_of [two, .tuple [.int 3, .int 3, .int 2, .int 2]] = .ok (.str "b") := by rfl
  have e3 : f_lost_cells [two, .tuple [.int 3, .int 3, .int 2, .int 2]] = .ok (.int 1) := by rfl
  have e4 : pNe (.tuple [.tuple [.str "a", .int 1], .tuple [.str "b", .int 2]]) (.tuple [.tuple [.str "a", .int 1], .tuple [.str "b", .int 2]]) = some (.bool false) := by rfl
  have e5 : pNe (.str "b") (.str "b") = some (.bool false) := by rfl
  have e6 : pNe (.int 1) (.int 1) = some (.bool false) := by rfl
  simp only [i_law_5, sIf_ap, tOrS_ap, tB_ap, e2_ap, eCall_ap, aCons_ap, aNil_ap, eV_ap, eC_ap, eTup_ap, h, shOf_sh, ok_bind, mkTup4, mkTup2, e1, e2, e3, e4, e5, e6, ofO_some, asB_b, onB_ok]
  rfl
theorem law_e (ns : List Int) : f_law [.list (zL ns)] = .ok (.bool true) := by
  obtain ⟨ds, hl, hr, hd⟩ := draws_ok ns
  obtain ⟨ρ', e, s2, s4, s5, s6, s7, s8, s9, s10, s11, s12, s13, s14, s15, s16, s17, s18, s19, rfl⟩ := for_inv (g := gN 2) (s := b_law_7) (ds := rngL 0 4) (ρ := [.bs (zL ns), .sh (.list (zL ds)), .no, .no, .no, .no, .no, .no, .no, .no, .no, .no, .no, .no, .no, .no, .no, .no, .no, .no, .no, .no])
    (fun i ρ => ∃ s2 s4 s5 s6 s7 s8 s9 s10 s11 s12 s13 s14 s15 s16 s17 s18 s19, ρ = [.bs (zL ns), .sh (.list (zL ds)), s2, .no, s4, s5, s6, s7, s8, s9, s10, s11, s12, s13, s14, s15, s16, s17, s18, s19, .no, .no]) ⟨_, _, _, _, _, _, _, _, _, _, _, _, _, _, _, _, _, rfl⟩ (by
    rintro i d ρ hi ⟨s2, s4, s5, s6, s7, s8, s9, s10, s11, s12, s13, s14, s15, s16, s17, s18, s19, rfl⟩
    obtain ⟨hj, rfl⟩ := rngL0 4 i d hi
    obtain ⟨_, _, _, _, _, _, _, _, _, _, _, _, _, _, _, _, e⟩ := b7_e (.bs (zL ns)) .no s4 s5 s6 s7 s8 s9 s10 s11 s12 s13 s14 s15 s16 s17 s18 s19 .no .no ds hr hl i hj
    exact ⟨_, rfl, _, .inl e, _, _, _, _, _, _, _, _, _, _, _, _, _, _, _, _, _, rfl⟩)
  have hr4 : rng1 [.int 4] = .ok (rngL 0 4) := by rfl
  have htwo : mkTup [.tuple [.str "a", .tuple [.int 0, .int 0, .int 4, .int 4]], .tuple [.str "b", .tuple [.int 4, .int 2, .int 4, .int 4]]] = .ok two := by rfl
  have e1 : f_brought_in [two, .tuple [.int 3, .int 3, .int 2, .int 2]] = .ok (.tuple [.int 4, .int 3, .int 2, .int 2]) := by rfl
  have e2 : f_brought_in [two, .tuple [.int 900, .int 900, .int 5, .int 1]] = .ok .none := by rfl
  have e3 : f_home_of [two, .tuple [.int 0, .int 0, .int 0, .int 9]] = .ok .none := by rfl
  have e4 : pEq (.tuple [.int 4, .int 3, .int 2, .int 2]) (.tuple [.int 4, .int 3, .int 2, .int 2]) = some (.bool true) := by rfl
  have e5 : pIs .none .none = some (.bool true) := by rfl
  have key : s_law [.bs (zL ns), .no, .no, .no, .no, .no, .no, .no, .no, .no, .no, .no, .no, .no, .no, .no, .no, .no, .no, .no, .no, .no] = .rt (.bool true) := by
    simp only [s_law, sSeq_ap, sSet_ap, eCallB, List.getElem?_cons_zero, aCons_ap, aNil_ap, eC_ap, ok_bind, hd, onD_ok, thenS_nx, List.set_cons_succ, List.set_cons_zero, sFor_ap, iRng_ap, hr4, onL_ok, e]
    simp only [eTup_ap, aCons_ap, aNil_ap, eC_ap, ok_bind, mkTup4, mkTup2, two, onD_ok, thenS_nx, List.set_cons_succ, List.set_cons_zero]
    rw [sSeq_ap, i5_e _ rfl]
    simp only [thenS_nx, sRet_ap, eAnd_ap, e2_ap, eCall_ap, aCons_ap, aNil_ap, eV_ap, eC_ap, eTup_ap, List.getElem?_cons_succ, List.getElem?_cons_zero, shOf_sh, ok_bind, mkTup4]
    rw [show (PyData.tuple [PyData.tuple [PyData.str "a", PyData.tuple [PyData.int 0, PyData.int 0, PyData.int 4, PyData.int 4]], PyData.tuple [PyData.str "b", PyData.tuple [PyData.int 4, PyData.int 2, PyData.int 4, PyData.int 4]]]) = two from rfl]
    simp only [e1, e2, e3, e4, e5, ok_bind, ofO_some, onD_ok]
  show finO (s_law _) = _
  rw [show (List.replicate (22 - 1) Ev.Slot.no) = [.no, .no, .no, .no, .no, .no, .no, .no, .no, .no, .no, .no, .no, .no, .no, .no, .no, .no, .no, .no, .no] from rfl]
  simp only [List.map_nil, List.nil_append]
  rw [key]
  rfl
end Lw


set_option Elab.async false
set_option linter.all false
set_option maxRecDepth 100000
set_option maxHeartbeats 4000000
namespace Lw
open PySem PySem.Spec PyProof.Rows L2 Ev
theorem cw_facts {w : World} {h : Heap} {K : PySem.W.Frag} {mg : Str → Option Value} {a : Addr} (X : K.In h) (N : h.Ns mainGlobals mg) (hfa : mg ("law" : Str) = some (.ref a)) (c : He.SaysD fa fn K) :
    ∃ fd : FuncData, (∀ (s : Shared) (v : Value), BindsTo s fd ⟨[v], []⟩ [("script", v)]) ∧ ∀ base : Heap, K.In base → base.Ns mainGlobals mg → FnOk PW w K mg base (L2.CX PW w) 9 a fd ["script"] (spB (Gof K exN kt) .sh f_law) := by
  obtain ⟨fd, F⟩ := c.def_ 21 (d := fnAt "law" 34) rfl
  have e := hfa.symm.trans (He.glo_ok X N (c.fact 21 (f := .glo "law") rfl))
  cases e
  have b := FunD.bindsA (ps := ["script"]) F fun _ _ _ _ _ _ us hl => match us, hl with | [_], _ => rfl
  exact ⟨fd, fun s v => b s [v] rfl, fun base X1 N1 => ok_law ⟨PW, w, K, mg, base, X1, N1⟩ c F⟩
theorem cw_sp {K : PySem.W.Frag} (h : ∀ ns : List Int, ns.length ≤ 63 → f_law [.list (ns.map .int)] = .ok (.bool true)) (H : Hp) (a : Addr) (ns : List Int) (hl : ns.length ≤ 63) (hS : SqL K H a (ns.map V.int)) : spB (Gof K exN kt) .sh f_law [.ref a] H (fun v _ => v = .bl true) fun _ _ _ => False := by
  refine ⟨H, ns.map .int, [], a, ns.map V.int, [], rfl, Same.refl H, hS, by rw [List.length_map]; exact Nat.le_trans hl (by decide), RepL.of_ints, by simp only [RepL], ?_⟩
  rw [h ns hl]
  intro v S' H' _ p
  exact Pb.bool (Pb.of (G := Gof K exN kt) (S := S') (H := H') p)
theorem walk_cw {l : PySem.W.OpenLaw} {q : Program} {lo : List Str} {XP : (Str → Option Value) → Heap → Prop} {d : DefRec} (hp : l.prog = PW) (hn : l.most = some 63) (hdf : d.params.defaults = []) (hnm : d.name = "law") (hlaw : ∀ ns : List Int, ns.length ≤ 63 → f_law [.list (ns.map .int)] = .ok (.bool true)) :
    PySem.W.WalkO q lo XP hk.says l.row.toRowW d [] (fun f vs => PySem.call f vs) := by
  refine Att.attach_call hn hdf fun w _ s1 mg mb fa _ _ _ _ a vs ns G Y _ _ _ hmg hobj hints hlen hg => ?_
  obtain ⟨K, KX, c⟩ := Y
  rw [hnm] at hmg
  obtain ⟨fd, hb, hF⟩ := cw_facts (w := w) KX G.T.g hmg c
  rw [hp]
  exact law_call (CX := L2.CX PW w) (k := 9) KX G.T.g G.T.b G.T.builtins G.T.nolimit hg hobj hints (Nat.le_trans hlen (by decide)) ⟨rfl, by decide, by decide⟩ hF hb (fun H _ hS => cw_sp hlaw H a ns hlen hS) fun H e s' x => by
    obtain ⟨_, _, _, _, _, _, _, _, _, _, _, _, h⟩ := x
    exact h
end Lw
open PySem PySem.W PySem.Calls PyProof.Rows
theorem PySem.Challenge.cw_windowwright_k46_whole_windows_on_screen_holds : PySem.Challenge.rw_windowwright_k46_whole_windows_on_screen.Holds := by
  w_on; o_law
  refine HandSHeadRun.head_any (r := OpenLaw.row PySem.Challenge.rw_windowwright_k46_whole_windows_on_screen) (q := view (OpenLaw.row PySem.Challenge.rw_windowwright_k46_whole_windows_on_screen).prog [34]) (H := Lw.hk) (ob := Lw.ob) (M := 3000) (loose := Lw.loose) (d := HandSHeadRun.topDef (OpenLaw.row PySem.Challenge.rw_windowwright_k46_whole_windows_on_screen).prog 34) (kwd := []) Lw.ob_eq
    (by kernel_rfl) (fun s => by kernel_rfl) Lw.run (by kernel_rfl) (by kernel_rfl) (by kernel_rfl) (by rfl) (by first | assumption | decide +kernel) (by decide +kernel) ⟨rfl, rfl, rfl, rfl, rfl, by decide +kernel⟩ ?hw ?hc
  case hw => w_witness2
  case hc =>
    exact Lw.walk_cw (l := PySem.Challenge.rw_windowwright_k46_whole_windows_on_screen) rfl rfl (by kernel_rfl) (by kernel_rfl) fun ns _ => Lw.law_e ns
