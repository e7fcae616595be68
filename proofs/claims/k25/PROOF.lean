import PyProof.Rows.All
import Wide.All
import OpenK.AllK
import Wide.FinOn
import HandS.ForMost
import HandS.Exc
import HandS.ExcOwn
import HandS.TryOnly
import HandS.WordsExc
import HandS.Wide
import HandS.EndBits
import PyProof.LongRange
import HandS.IsInst
import HandS.Text
import HandS.Style
import HandS.Walk
import HandS.Zip
import HandS.Strs
import HandS.SetFor
import HandS.TupAny
import HandS.More
import KE.GoesEnum
import PySem.Challenge.RW_turnedline_k25_whole_points_of_corners
set_option Elab.async false
set_option linter.all false
set_option maxRecDepth 100000
set_option maxHeartbeats 4000000
namespace Z
open PySem PySem.Spec PyProof.Rows L2

/-! ### plain data, and what a value stands for -/
inductive D where
  | non | bl (b : Bool) | int (i : Int) | str (x : Str) | tup (l : List D) | lst (l : List D) | arr (l : List D) | ref (a : Addr) | exc (C : Addr)
/-- an exception's object of the class C, held by a name -/
def ExA (C a : Addr) : HO := .ext fun h => ∃ (oe : Obj) (vs : Array Value), h.get? a = some oe ∧ Zc (.ref C) none oe ∧ oe.data = .fields vs
def Ext (A B : Hp) : Prop := ∀ p x, A p = some x → B p = some x
theorem Ext.rfl' {A : Hp} : Ext A A := fun _ _ h => h
theorem Ext.tr {A B C : Hp} (f : Ext A B) (g : Ext B C) : Ext A C := fun p x h => g p x (f p x h)
theorem Ext.none' {A B : Hp} (f : Ext A B) {p : Addr} (h : B p = none) : A p = none := by
  cases q : A p with
  | none => rfl
  | some x => rw [f p x q] at h; cases h
theorem Ext.new {A : Hp} {p : Addr} {o : HO} (h : A p = none) : Ext A (upd A p o) := fun q x e => by
  rw [upd_ne (ne_of_none e h)]; exact e
theorem rdE {A B : Hp} (f : Ext A B) {p : Addr} {u : HO} (h : Rd A p u) : Rd B p u := by
  rcases h with h | ⟨o, h⟩
  · exact Or.inl (f _ _ h)
  · exact Or.inr ⟨o, f _ _ h⟩
theorem sqTE {K : PySem.W.Frag} {A B : Hp} (f : Ext A B) {p : Addr} {xs : List V} (h : SqT K A p xs) : SqT K B p xs := h.imp (rdE f) id
theorem sqLE {K : PySem.W.Frag} {A B : Hp} (f : Ext A B) {p : Addr} {xs : List V} (h : SqL K A p xs) : SqL K B p xs := h.imp (rdE f) id

mutual
inductive Rep (K : PySem.W.Frag) (G : Hp) : V → D → Prop
  | non : Rep K G .non .non
  | bl (b : Bool) : Rep K G (.bl b) (.bl b)
  | int (i : Int) : Rep K G (.int i) (.int i)
  | str (x : Str) : Rep K G (.str x) (.str x)
  | tup {p : Addr} {vs : List V} {l : List D} : SqT K G p vs → RepL K G vs l → Rep K G (.ref p) (.tup l)
  | lst {p : Addr} {vs : List V} {l : List D} : G p = some (.lst vs) → RepL K G vs l → Rep K G (.ref p) (.lst l)
  | arr {p : Addr} {vs : List V} {l : List D} : SqL K G p vs → RepL K G vs l → Rep K G (.ref p) (.arr l)
  | ref (p : Addr) : Rep K G (.ref p) (.ref p)
  | exc {p C : Addr} : G p = some (ExA C p) → Rep K G (.ref p) (.exc C)
inductive RepL (K : PySem.W.Frag) (G : Hp) : List V → List D → Prop
  | nil : RepL K G [] []
  | cons {v : V} {vs : List V} {d : D} {l : List D} : Rep K G v d → RepL K G vs l → RepL K G (v :: vs) (d :: l)
end
section
variable {K : PySem.W.Frag} {G G' : Hp}
mutual
theorem Rep.mono (f : Ext G G') : ∀ (d : D) (v : V), Rep K G v d → Rep K G' v d
  | .non, _, h => by cases h; exact .non
  | .bl b, _, h => by cases h; exact .bl b
  | .int i, _, h => by cases h; exact .int i
  | .str x, _, h => by cases h; exact .str x
  | .tup l, _, h => by
    cases h with
    | tup a b => exact .tup (sqTE f a) (RepL.mono f l _ b)
  | .lst l, _, h => by
    cases h with
    | lst a b => exact .lst (f _ _ a) (RepL.mono f l _ b)
  | .arr l, _, h => by
    cases h with
    | arr a b => exact .arr (sqLE f a) (RepL.mono f l _ b)
  | .ref p, _, h => by cases h; exact .ref p
  | .exc C, _, h => by
    cases h with
    | exc a => exact .exc (f _ _ a)
theorem RepL.mono (f : Ext G G') : ∀ (l : List D) (vs : List V), RepL K G vs l → RepL K G' vs l
  | [], _, h => by cases h; exact .nil
  | d :: l, _, h => by
    cases h with
    | cons a b => exact .cons (Rep.mono f d _ a) (RepL.mono f l _ b)
end
theorem Rep.up {v : V} {d : D} (h : Rep K G v d) (f : Ext G G') : Rep K G' v d := Rep.mono f d v h
theorem RepL.up {vs : List V} {l : List D} (h : RepL K G vs l) (f : Ext G G') : RepL K G' vs l := RepL.mono f l vs h
theorem RepL.len : ∀ {vs : List V} {l : List D}, RepL K G vs l → vs.length = l.length
  | _, _, .nil => rfl
  | _, _, .cons _ t => congrArg (· + 1) (RepL.len t)
theorem RepL.get : ∀ {vs : List V} {l : List D} {i : Nat} {d : D}, RepL K G vs l → l[i]? = some d → ∃ v, vs[i]? = some v ∧ Rep K G v d
  | _, _, _, _, .nil, e => by simp at e
  | _, _, 0, _, .cons r _, e => by
    rw [List.getElem?_cons_zero] at e; cases e
    exact ⟨_, rfl, r⟩
  | _, _, i + 1, d, .cons _ t, e => RepL.get (i := i) t (by simpa using e)
theorem RepL.getV : ∀ {vs : List V} {l : List D} {i : Nat} {v : V}, RepL K G vs l → vs[i]? = some v → ∃ d, l[i]? = some d ∧ Rep K G v d
  | _, _, _, _, .nil, e => by simp at e
  | _, _, 0, _, .cons r _, e => by
    rw [List.getElem?_cons_zero] at e; cases e
    exact ⟨_, rfl, r⟩
  | _, _, i + 1, d, .cons _ t, e => RepL.getV (i := i) t (by simpa using e)
theorem RepL.app : ∀ {vs us : List V} {l m : List D}, RepL K G vs l → RepL K G us m → RepL K G (vs ++ us) (l ++ m)
  | _, _, _, _, .nil, s => s
  | _, _, _, _, .cons r t, s => .cons r (RepL.app t s)
theorem RepL.set {v : V} {d : D} (r : Rep K G v d) : ∀ {vs : List V} {l : List D} (i : Nat), RepL K G vs l → RepL K G (vs.set i v) (l.set i d)
  | _, _, _, .nil => .nil
  | _, _, 0, .cons _ t => .cons r t
  | _, _, i + 1, .cons q t => .cons q (RepL.set r i t)
theorem RepL.take : ∀ {vs : List V} {l : List D} (n : Nat), RepL K G vs l → RepL K G (vs.take n) (l.take n)
  | _, _, 0, _ => .nil
  | _, _, _ + 1, .nil => .nil
  | _, _, n + 1, .cons r t => .cons r (RepL.take n t)
theorem RepL.drop : ∀ {vs : List V} {l : List D} (n : Nat), RepL K G vs l → RepL K G (vs.drop n) (l.drop n)
  | _, _, 0, r => r
  | _, _, _ + 1, .nil => .nil
  | _, _, n + 1, .cons _ t => RepL.drop n t
theorem RepL.rev : ∀ {vs : List V} {l : List D}, RepL K G vs l → RepL K G vs.reverse l.reverse
  | _, _, .nil => .nil
  | _, _, .cons r t => by
    rw [List.reverse_cons, List.reverse_cons]
    exact RepL.app (RepL.rev t) (.cons r .nil)
theorem RepL.erase : ∀ {vs : List V} {l : List D} (n : Nat), RepL K G vs l → RepL K G (vs.eraseIdx n) (l.eraseIdx n)
  | _, _, _, .nil => .nil
  | _, _, 0, .cons _ t => t
  | _, _, n + 1, .cons r t => .cons r (RepL.erase n t)
theorem RepL.ints : ∀ {ns : List Int} {vs : List V}, RepL K G vs (ns.map D.int) → vs = ns.map V.int
  | [], _, h => by cases h; rfl
  | n :: ns, _, h => by
    cases h with
    | cons a b => cases a; rw [RepL.ints b]; rfl
theorem RepL.ofInts : ∀ (ns : List Int), RepL K G (ns.map V.int) (ns.map D.int)
  | [] => .nil
  | n :: ns => .cons (.int n) (RepL.ofInts ns)
theorem RepL.strs : ∀ {ns : List Str} {vs : List V}, RepL K G vs (ns.map D.str) → vs = ns.map V.str
  | [], _, h => by cases h; rfl
  | n :: ns, _, h => by
    cases h with
    | cons a b => cases a; rw [RepL.strs b]; rfl
theorem RepL.ofStrs : ∀ (ns : List Str), RepL K G (ns.map V.str) (ns.map D.str)
  | [] => .nil
  | n :: ns => .cons (.str n) (RepL.ofStrs ns)
theorem RepL.bls : ∀ {ns : List Bool} {vs : List V}, RepL K G vs (ns.map D.bl) → vs = ns.map V.bl
  | [], _, h => by cases h; rfl
  | n :: ns, _, h => by
    cases h with
    | cons a b => cases a; rw [RepL.bls b]; rfl
end

/-! ### the heap in parts: what stands still (G), what the world holds (M) -/
structure Wp (ω : Type) where
  ok : ω → Hp → Hp → Prop
  mono : ∀ {w : ω} {G G' M : Hp}, Ext G G' → ok w G M → ok w G' M
  ec : Nat → Addr
section
variable {ω : Type}
structure Pt (W : Wp ω) (H G M : Hp) (w : ω) : Prop where
  gh : Ext G H
  mh : Ext M H
  dj : ∀ p x, G p = some x → M p = none
  wd : W.ok w G M
structure Nx (H G M H' G' M' : Hp) : Prop where
  gg : Ext G G'
  fr : ∀ p x, H p = some x → M p = none → H' p = some x
  gn : ∀ p x, G' p = some x → G p = none → H p = none
  mn : ∀ p x, M' p = some x → M p = none → H p = none
  m0 : ∀ p x, M p = some x → ∃ y, M' p = some y
theorem Nx.rfl' {H G M : Hp} : Nx H G M H G M := ⟨Ext.rfl', fun _ _ h _ => h, fun p x a b => (by rw [a] at b; cases b), fun p x a b => (by rw [a] at b; cases b), fun p x a => ⟨x, a⟩⟩
theorem Nx.back {H G M H' G' M' : Hp} (a : Nx H G M H' G' M') (mh : Ext M' H') {p : Addr} (h : H' p = none) : H p = none := by
  cases q : H p with
  | none => rfl
  | some z =>
    exfalso
    cases r : M p with
    | none => rw [a.fr p z q r] at h; cases h
    | some y =>
      obtain ⟨y', e⟩ := a.m0 p y r
      rw [mh p y' e] at h; cases h
theorem Nx.tr {H G M H' G' M' H2 G2 M2 : Hp} (a : Nx H G M H' G' M') (b : Nx H' G' M' H2 G2 M2) (mh : Ext M' H') : Nx H G M H2 G2 M2 where
  gg := a.gg.tr b.gg
  fr := fun p x h m => b.fr p x (a.fr p x h m) (by
    cases q : M' p with
    | none => rfl
    | some y => rw [a.mn p y q m] at h; cases h)
  gn := fun p x h g => by
    cases q : G' p with
    | some y => exact a.gn p y q g
    | none => exact a.back mh (b.gn p x h q)
  mn := fun p x h g => by
    cases q : M' p with
    | some y => exact a.mn p y q g
    | none => exact a.back mh (b.mn p x h q)
  m0 := fun p x h => by
    obtain ⟨y, e⟩ := a.m0 p x h
    exact b.m0 p y e
theorem Pt.new {W : Wp ω} {H G M : Hp} {w : ω} (a : Pt W H G M w) {p : Addr} {o : HO} (h : H p = none) : Pt W (upd H p o) (upd G p o) M w where
  gh := fun q x e => by
    by_cases z : q = p
    · subst z; rw [upd_same] at e ⊢; exact e
    · rw [upd_ne z] at e ⊢; exact a.gh q x e
  mh := fun q x e => by rw [upd_ne (ne_of_none (a.mh q x e) h)]; exact a.mh q x e
  dj := fun q x e => by
    by_cases z : q = p
    · subst z; exact a.mh.none' h
    · rw [upd_ne z] at e; exact a.dj q x e
  wd := W.mono (Ext.new (a.gh.none' h)) a.wd
theorem Nx.new {W : Wp ω} {H G M : Hp} {w : ω} (a : Pt W H G M w) {p : Addr} {o : HO} (h : H p = none) : Nx H G M (upd H p o) (upd G p o) M where
  gg := Ext.new (a.gh.none' h)
  fr := fun q x e _ => by rw [upd_ne (ne_of_none e h)]; exact e
  gn := fun q x e g => by
    by_cases z : q = p
    · subst z; exact h
    · rw [upd_ne z, g] at e; cases e
  mn := fun q x e g => by rw [e] at g; cases g
  m0 := fun q x e => ⟨x, e⟩

/-! ### slots -/
inductive Sl where
  | no | val (d : D) | own (l : List D)
/-- the entry of the def (H0 G0 M0), what is known to stand (S) -/
structure Zx where
  H0 : Hp
  G0 : Hp
  M0 : Hp
  S : Hp
def SlR (K : PySem.W.Frag) (Z : Zx) (σ : L2.St) (H G M : Hp) (i : Nat) : Sl → Prop
  | .no => True
  | .val d => ∃ v, σ[i]? = some (some v) ∧ Rep K G v d
  | .own l => ∃ p vs, σ[i]? = some (some (.ref p)) ∧ H p = some (.lst vs) ∧ G p = none ∧ M p = none ∧ Z.H0 p = none ∧ RepL K G vs l
structure SR (K : PySem.W.Frag) (W : Wp ω) (Z : Zx) (σ : L2.St) (H G M : Hp) (δ : List Sl) (w : ω) : Prop where
  pt : Pt W H G M w
  nx : Nx Z.H0 Z.G0 Z.M0 H G M
  st : Ext Z.S G
  len : δ.length = σ.length
  sl : ∀ i s, δ[i]? = some s → SlR K Z σ H G M i s
  od : ∀ (i j : Nat) (p : Addr) (l l' : List D), δ[i]? = some (Sl.own l) → δ[j]? = some (Sl.own l') → σ[i]? = some (some (V.ref p)) → σ[j]? = some (some (V.ref p)) → i = j
section
variable {K : PySem.W.Frag} {W : Wp ω} {Z : Zx} {σ : L2.St} {H G M H' G' M' : Hp} {δ : List Sl} {w w' : ω}
theorem SR.next (a : SR K W Z σ H G M δ w) (b : Pt W H' G' M' w') (c : Nx H G M H' G' M') : SR K W Z σ H' G' M' δ w' where
  pt := b
  nx := a.nx.tr c a.pt.mh
  st := a.st.tr c.gg
  len := a.len
  sl := fun i s e => by
    have h := a.sl i s e
    cases s with
    | no => trivial
    | val d => obtain ⟨v, h1, h2⟩ := h; exact ⟨v, h1, h2.up c.gg⟩
    | own l =>
      obtain ⟨p, vs, h1, h2, h3, h4, h5, h7⟩ := h
      refine ⟨p, vs, h1, c.fr p _ h2 h4, ?_, ?_, h5, h7.up c.gg⟩
      · cases q : G' p with
        | none => rfl
        | some y => rw [c.gn p y q h3] at h2; cases h2
      · cases q : M' p with
        | none => rfl
        | some y => rw [c.mn p y q h4] at h2; cases h2
  od := a.od
structure Go (W : Wp ω) (H G M H' G' M' : Hp) (w' : ω) : Prop where
  pt : Pt W H' G' M' w'
  nx : Nx H G M H' G' M'
theorem SR.go (a : SR K W Z σ H G M δ w) (o : Go W H G M H' G' M' w') : SR K W Z σ H' G' M' δ w' := a.next o.pt o.nx
theorem SR.here (a : SR K W Z σ H G M δ w) : Go W H G M H G M w := ⟨a.pt, .rfl'⟩
theorem Go.tr {H2 G2 M2 : Hp} {w2 : ω} (a : Go W H G M H' G' M' w') (b : Go W H' G' M' H2 G2 M2 w2) : Go W H G M H2 G2 M2 w2 := ⟨b.pt, a.nx.tr b.nx a.pt.mh⟩
theorem SR.new (a : SR K W Z σ H G M δ w) {p : Addr} {o : HO} (h : H p = none) : SR K W Z σ (upd H p o) (upd G p o) M δ w := a.next (a.pt.new h) (Nx.new a.pt h)
theorem SR.set (a : SR K W Z σ H G M δ w) {i : Nat} {v : V} {d : D} (r : Rep K G v d) : SR K W Z (σ.set i (some v)) H G M (δ.set i (.val d)) w where
  pt := a.pt
  nx := a.nx
  st := a.st
  len := by rw [List.length_set, List.length_set]; exact a.len
  sl := fun j s e => by
    by_cases z : i = j
    · subst z
      have hl : i < δ.length := by
        have := (List.getElem?_eq_some_iff.mp e).1
        rwa [List.length_set] at this
      rw [List.getElem?_set_self hl] at e
      cases e
      exact ⟨v, List.getElem?_set_self (by rw [← a.len]; exact hl), r⟩
    · rw [List.getElem?_set_ne z] at e
      have h := a.sl j s e
      cases s with
      | no => trivial
      | val d => obtain ⟨u, h1, h2⟩ := h; exact ⟨u, by rw [List.getElem?_set_ne z]; exact h1, h2⟩
      | own l =>
        obtain ⟨p, vs, h1, h2⟩ := h
        exact ⟨p, vs, by rw [List.getElem?_set_ne z]; exact h1, h2⟩
  od := fun j k p l l' e1 e2 e3 e4 => by
    have nj : i ≠ j := fun z => by
      subst z
      have hl : i < δ.length := by
        have := (List.getElem?_eq_some_iff.mp e1).1
        rwa [List.length_set] at this
      rw [List.getElem?_set_self hl] at e1; cases e1
    have nk : i ≠ k := fun z => by
      subst z
      have hl : i < δ.length := by
        have := (List.getElem?_eq_some_iff.mp e2).1
        rwa [List.length_set] at this
      rw [List.getElem?_set_self hl] at e2; cases e2
    rw [List.getElem?_set_ne nj] at e1 e3
    rw [List.getElem?_set_ne nk] at e2 e4
    exact a.od j k p l l' e1 e2 e3 e4
/-- a slot forgotten -/
theorem SR.drop (a : SR K W Z σ H G M δ w) {i : Nat} {x : Option V} : SR K W Z (σ.set i x) H G M (δ.set i .no) w where
  pt := a.pt
  nx := a.nx
  st := a.st
  len := by rw [List.length_set, List.length_set]; exact a.len
  sl := fun j s e => by
    by_cases z : i = j
    · subst z
      have hl : i < δ.length := by
        have := (List.getElem?_eq_some_iff.mp e).1
        rwa [List.length_set] at this
      rw [List.getElem?_set_self hl] at e
      cases e
      trivial
    · rw [List.getElem?_set_ne z] at e
      have h := a.sl j s e
      cases s with
      | no => trivial
      | val d => obtain ⟨u, h1, h2⟩ := h; exact ⟨u, by rw [List.getElem?_set_ne z]; exact h1, h2⟩
      | own l =>
        obtain ⟨p, vs, h1, h2⟩ := h
        exact ⟨p, vs, by rw [List.getElem?_set_ne z]; exact h1, h2⟩
  od := fun j k p l l' e1 e2 e3 e4 => by
    have nj : i ≠ j := fun z => by
      subst z
      have hl : i < δ.length := by
        have := (List.getElem?_eq_some_iff.mp e1).1
        rwa [List.length_set] at this
      rw [List.getElem?_set_self hl] at e1; cases e1
    have nk : i ≠ k := fun z => by
      subst z
      have hl : i < δ.length := by
        have := (List.getElem?_eq_some_iff.mp e2).1
        rwa [List.length_set] at this
      rw [List.getElem?_set_self hl] at e2; cases e2
    rw [List.getElem?_set_ne nj] at e1 e3
    rw [List.getElem?_set_ne nk] at e2 e4
    exact a.od j k p l l' e1 e2 e3 e4
/-- a new list of our own at p, laid into slot i -/
theorem SR.setOwn (a : SR K W Z σ H G M δ w) {i : Nat} {p : Addr} {vs : List V} {l : List D} (hp : H p = some (.lst vs)) (hG : G p = none) (hM : M p = none) (h0 : Z.H0 p = none) (r : RepL K G vs l)
    (hd : ∀ (j : Nat) (m : List D), δ[j]? = some (Sl.own m) → σ[j]? ≠ some (some (V.ref p))) : SR K W Z (σ.set i (some (.ref p))) H G M (δ.set i (.own l)) w where
  pt := a.pt
  nx := a.nx
  st := a.st
  len := by rw [List.length_set, List.length_set]; exact a.len
  sl := fun j s e => by
    by_cases z : i = j
    · subst z
      have hl : i < δ.length := by
        have := (List.getElem?_eq_some_iff.mp e).1
        rwa [List.length_set] at this
      rw [List.getElem?_set_self hl] at e
      cases e
      exact ⟨p, vs, List.getElem?_set_self (by rw [← a.len]; exact hl), hp, hG, hM, h0, r⟩
    · rw [List.getElem?_set_ne z] at e
      have h := a.sl j s e
      cases s with
      | no => trivial
      | val d => obtain ⟨u, h1, h2⟩ := h; exact ⟨u, by rw [List.getElem?_set_ne z]; exact h1, h2⟩
      | own l =>
        obtain ⟨p, vs, h1, h2⟩ := h
        exact ⟨p, vs, by rw [List.getElem?_set_ne z]; exact h1, h2⟩
  od := fun j k q m m' e1 e2 e3 e4 => by
    have at_i : ∀ {n : Nat} {m : List D}, (δ.set i (.own l))[n]? = some (.own m) → n < δ.length := fun e => by
      have := (List.getElem?_eq_some_iff.mp e).1
      rwa [List.length_set] at this
    by_cases zj : i = j
    · by_cases zk : i = k
      · rw [← zj, ← zk]
      · subst zj
        rw [List.getElem?_set_self (by rw [← a.len]; exact at_i e1)] at e3
        cases e3
        rw [List.getElem?_set_ne zk] at e2 e4
        exact absurd e4 (hd k m' e2)
    · rw [List.getElem?_set_ne zj] at e1 e3
      by_cases zk : i = k
      · subst zk
        rw [List.getElem?_set_self (by rw [← a.len]; exact at_i e2)] at e4
        cases e4
        exact absurd e3 (hd j m e1)
      · rw [List.getElem?_set_ne zk] at e2 e4
        exact a.od j k q m m' e1 e2 e3 e4
/-- our own list at slot i is changed -/
theorem SR.change (a : SR K W Z σ H G M δ w) {i : Nat} {p : Addr} {us : List V} {l m : List D} (hi : δ[i]? = some (.own l)) (hs : σ[i]? = some (some (.ref p))) (r : RepL K G us m) : SR K W Z σ (upd H p (.lst us)) G M (δ.set i (.own m)) w := by
  obtain ⟨p', vs', h1, h2, h3, h4, h5, h7⟩ := a.sl i _ hi
  rw [hs] at h1
  cases h1
  have hl : i < δ.length := (List.getElem?_eq_some_iff.mp hi).1
  refine ⟨⟨fun q x e => ?_, fun q x e => ?_, a.pt.dj, a.pt.wd⟩, ⟨a.nx.gg, fun q x e e' => ?_, a.nx.gn, a.nx.mn, a.nx.m0⟩, a.st, by rw [List.length_set]; exact a.len, fun j s e => ?_, fun j k q m1 m2 e1 e2 e3 e4 => ?_⟩
  · rw [upd_ne (ne_of_none e h3)]; exact a.pt.gh q x e
  · rw [upd_ne (ne_of_none e h4)]; exact a.pt.mh q x e
  · rw [upd_ne (ne_of_none e h5)]; exact a.nx.fr q x e e'
  · by_cases z : i = j
    · subst z
      rw [List.getElem?_set_self hl] at e
      cases e
      exact ⟨p, us, hs, upd_same, h3, h4, h5, r⟩
    · rw [List.getElem?_set_ne z] at e
      have h := a.sl j s e
      cases s with
      | no => trivial
      | val d => exact h
      | own l' =>
        obtain ⟨p', vs, g1, g2, g3⟩ := h
        refine ⟨p', vs, g1, ?_, g3⟩
        rw [upd_ne (fun y => z (a.od i j p l l' hi e hs (by rw [← y]; exact g1)))]
        exact g2
  · have same : ∀ {n : Nat} {m' : List D}, (δ.set i (.own m))[n]? = some (.own m') → ∃ l', δ[n]? = some (.own l') := fun {n m'} e => by
      by_cases z : i = n
      · subst z; exact ⟨l, hi⟩
      · rw [List.getElem?_set_ne z] at e; exact ⟨m', e⟩
    obtain ⟨l1, f1⟩ := same e1
    obtain ⟨l2, f2⟩ := same e2
    exact a.od j k q l1 l2 f1 f2 e3 e4
/-- .. stands still from now on -/
theorem SR.freeze (a : SR K W Z σ H G M δ w) {i : Nat} {l : List D} (hi : δ[i]? = some (.own l)) : ∃ G', Ext G G' ∧ SR K W Z σ H G' M (δ.set i (.val (.lst l))) w := by
  obtain ⟨p, vs, h1, h2, h3, h4, h5, h7⟩ := a.sl i _ hi
  have hl : i < δ.length := (List.getElem?_eq_some_iff.mp hi).1
  have gg : Ext G (upd G p (.lst vs)) := Ext.new h3
  refine ⟨upd G p (.lst vs), gg, ⟨⟨fun q x e => ?_, a.pt.mh, fun q x e => ?_, W.mono gg a.pt.wd⟩, ⟨a.nx.gg.tr gg, a.nx.fr, fun q x e e' => ?_, a.nx.mn, a.nx.m0⟩, a.st.tr gg, by rw [List.length_set]; exact a.len, fun j s e => ?_, fun j k q m1 m2 e1 e2 e3 e4 => ?_⟩⟩
  · by_cases z : q = p
    · subst z; rw [upd_same] at e; cases e; exact h2
    · rw [upd_ne z] at e; exact a.pt.gh q x e
  · by_cases z : q = p
    · subst z; exact h4
    · rw [upd_ne z] at e; exact a.pt.dj q x e
  · by_cases z : q = p
    · subst z; exact h5
    · rw [upd_ne z] at e; exact a.nx.gn q x e e'
  · by_cases z : i = j
    · subst z
      rw [List.getElem?_set_self hl] at e
      cases e
      exact ⟨.ref p, h1, .lst upd_same (h7.up gg)⟩
    · rw [List.getElem?_set_ne z] at e
      have h := a.sl j s e
      cases s with
      | no => trivial
      | val d => obtain ⟨u, g1, g2⟩ := h; exact ⟨u, g1, g2.up gg⟩
      | own l' =>
        obtain ⟨p', us, g1, g2, g3, g4, g5, g7⟩ := h
        refine ⟨p', us, g1, g2, ?_, g4, g5, g7.up gg⟩
        rw [upd_ne (fun y => z (a.od i j p l l' hi e h1 (by rw [← y]; exact g1)))]
        exact g3
  · have same : ∀ {n : Nat} {m' : List D}, (δ.set i (.val (.lst l)))[n]? = some (.own m') → δ[n]? = some (.own m') := fun {n m'} e => by
      by_cases z : i = n
      · subst z; rw [List.getElem?_set_self hl] at e; cases e
      · rw [List.getElem?_set_ne z] at e; exact e
    exact a.od j k q m1 m2 (same e1) (same e2) e3 e4
def wipeZ (δ : List Sl) : List Nat → List Sl
  | [] => δ
  | v :: vs => (wipeZ δ vs).set v .no
theorem SR.wipe (a : SR K W Z σ H G M δ w) : ∀ vs : List Nat, SR K W Z (L2.wipe σ vs) H G M (wipeZ δ vs) w
  | [] => a
  | v :: vs => (SR.wipe a vs).drop
/-- more is known to stand -/
theorem SR.more (a : SR K W Z σ H G M δ w) : SR K W ⟨Z.H0, Z.G0, Z.M0, G⟩ σ H G M δ w := ⟨a.pt, a.nx, Ext.rfl', a.len, a.sl, a.od⟩
theorem SR.le {S : Hp} (a : SR K W ⟨Z.H0, Z.G0, Z.M0, S⟩ σ H G M δ w) (hS : Ext Z.S S) : SR K W Z σ H G M δ w := ⟨a.pt, a.nx, hS.tr a.st, a.len, a.sl, a.od⟩
end
end
end Z

namespace Z
open PySem PySem.Spec PyProof.Rows L2
variable {ω : Type}

/-! ### readings over plain data -/
abbrev TEZ (ω : Type) := List Sl → ω → (D → ω → Prop) → (Nat → ω → Prop) → Prop
abbrev TTZ (ω : Type) := List Sl → ω → (Bool → ω → Prop) → (Nat → ω → Prop) → Prop
abbrev TAZ (ω : Type) := List Sl → ω → (List D → ω → Prop) → (Nat → ω → Prop) → Prop
structure EndZ (ω : Type) where
  nx : List Sl → ω → Prop
  rt : D → ω → Prop
  bk : List Sl → ω → Prop
  ct : List Sl → ω → Prop
  ex : Nat → List Sl → ω → Prop
abbrev TSZ (ω : Type) := EndZ ω → List Sl → ω → Prop
/-- what a call of a def asks and gives -/
abbrev SpZ (ω : Type) := List D → ω → (D → ω → Prop) → (Nat → ω → Prop) → Prop
def Mo {α : Type} (t : List Sl → ω → (α → ω → Prop) → (Nat → ω → Prop) → Prop) : Prop := ∀ {δ : List Sl} {w : ω} {Q Q' : α → ω → Prop} {E : Nat → ω → Prop}, (∀ d w', Q d w' → Q' d w') → t δ w Q E → t δ w Q' E

section
variable (K : PySem.W.Frag) (W : Wp ω) (Z : Zx) (ex : Nat → List Sl → ω → Prop)
def liE (te : TEZ ω) : TE := fun σ H Q => ∃ G M δ w, SR K W Z σ H G M δ w ∧ te δ w (fun d w' => ∀ v H' G' M', Go W H G M H' G' M' w' → Rep K G' v d → Q v H') (fun e w' => ex e δ w')
def liT (te : TTZ ω) : TT := fun σ H Q => ∃ G M δ w, SR K W Z σ H G M δ w ∧ te δ w (fun b w' => ∀ H' G' M', Go W H G M H' G' M' w' → Q b H') (fun e w' => ex e δ w')
def liA (te : TAZ ω) : TA := fun σ H Q => ∃ G M δ w, SR K W Z σ H G M δ w ∧ te δ w (fun l w' => ∀ vs H' G' M', Go W H G M H' G' M' w' → RepL K G' vs l → Q vs H') (fun e w' => ex e δ w')
/-- a new list, not yet standing still -/
def NewAt (H H' G' M' : Hp) (p : Addr) (vs : List V) : Prop := H p = none ∧ H' p = some (.lst vs) ∧ G' p = none ∧ M' p = none
def liF (te : TAZ ω) : TE := fun σ H Q => ∃ G M δ w, SR K W Z σ H G M δ w ∧ te δ w (fun l w' => ∀ p vs H' G' M', Go W H G M H' G' M' w' → RepL K G' vs l → NewAt H H' G' M' p vs → Q (.ref p) H') (fun e w' => ex e δ w')
def LS (P : List Sl → ω → Prop) : L2.St → Hp → Prop := fun σ H => ∃ G M δ w, SR K W Z σ H G M δ w ∧ P δ w
def WXz : WX := fun cls d σ H => d = none ∧ ∃ e, cls = .ref (W.ec e) ∧ LS K W Z (ex e) σ H
structure EndI (Dz : EndZ ω) (D : Ends) : Prop where
  nx : ∀ σ H, LS K W Z Dz.nx σ H → D.nx σ H
  bk : ∀ σ H, LS K W Z Dz.bk σ H → D.bk σ H
  ct : ∀ σ H, LS K W Z Dz.ct σ H → D.ct σ H
  rt : ∀ v H G M d w, Pt W H G M w → Nx Z.H0 Z.G0 Z.M0 H G M → Rep K G v d → Dz.rt d w → D.rt v H
def liS (ts : TSZ ω) : TS := fun D σ H => ∃ Dz : EndZ ω, Dz.ex = ex ∧ EndI K W Z Dz D ∧ LS K W Z (ts Dz) σ H
end
section
variable (X : Cx) (W : Wp ω)
structure PEZ (e : Expr) (te : TEZ ω) : Prop where
  mo : Mo te
  run : ∀ (Z : Zx) (ex : Nat → List Sl → ω → Prop), Takes X (WXz X.K W Z ex) → PE X e (liE X.K W Z ex te)
structure PFZ (e : Expr) (te : TAZ ω) : Prop where
  mo : Mo te
  run : ∀ (Z : Zx) (ex : Nat → List Sl → ω → Prop), Takes X (WXz X.K W Z ex) → PE X e (liF X.K W Z ex te)
structure PTZ (e : Expr) (te : TTZ ω) : Prop where
  mo : Mo te
  run : ∀ (Z : Zx) (ex : Nat → List Sl → ω → Prop), Takes X (WXz X.K W Z ex) → PT X e (liT X.K W Z ex te)
structure PWZ (e : Expr) (te : TTZ ω) : Prop where
  mo : Mo te
  run : ∀ (Z : Zx) (ex : Nat → List Sl → ω → Prop), Takes X (WXz X.K W Z ex) → PW X e (liT X.K W Z ex te)
structure PAZ (es : List Expr) (te : TAZ ω) : Prop where
  mo : Mo te
  run : ∀ (Z : Zx) (ex : Nat → List Sl → ω → Prop), Takes X (WXz X.K W Z ex) → PA X es (liA X.K W Z ex te)
def PSZ (st : Stmt) (ts : TSZ ω) : Prop := ∀ (Z : Zx) (ex : Nat → List Sl → ω → Prop), Takes X (WXz X.K W Z ex) → PS X st (liS X.K W Z ex ts)
def PBZ (st : List Stmt) (ts : TSZ ω) : Prop := ∀ (Z : Zx) (ex : Nat → List Sl → ω → Prop), Takes X (WXz X.K W Z ex) → PSs X st (liS X.K W Z ex ts)
end
theorem peI {X : Cx} {e : Expr} {t u : TE} (h : PE X e u) (i : ∀ σ H Q, t σ H Q → u σ H Q) : PE X e t := ⟨fun pins s σ H Q I q => h.run pins s σ H Q I (i _ _ _ q)⟩
theorem ptI {X : Cx} {e : Expr} {t u : TT} (h : PT X e u) (i : ∀ σ H Q, t σ H Q → u σ H Q) : PT X e t := ⟨fun pins s σ H Q I q => h.run pins s σ H Q I (i _ _ _ q)⟩
theorem pwI {X : Cx} {e : Expr} {t u : TT} (h : PW X e u) (i : ∀ σ H Q, t σ H Q → u σ H Q) : PW X e t := ⟨fun wh pins s σ H Q I q => h.run wh pins s σ H Q I (i _ _ _ q)⟩
theorem paI {X : Cx} {e : List Expr} {t u : TA} (h : PA X e u) (i : ∀ σ H Q, t σ H Q → u σ H Q) : PA X e t := ⟨fun pos pins s σ H Q I q => h.run pos pins s σ H Q I (i _ _ _ q)⟩
theorem psI {X : Cx} {e : Stmt} {t u : TS} (h : PS X e u) (i : ∀ D σ H, t D σ H → u D σ H) : PS X e t := ⟨fun pins s σ H D I q => h.run pins s σ H D I (i _ _ _ q)⟩
theorem pbI {X : Cx} {e : List Stmt} {t u : TS} (h : PSs X e u) (i : ∀ D σ H, t D σ H → u D σ H) : PSs X e t := ⟨fun pins s σ H D I q => h.run pins s σ H D I (i _ _ _ q)⟩

/-! ### names, constants -/
def zVar (i : Nat) : TEZ ω := fun δ w Q _ => match δ[i]? with | some (.val d) => Q d w | _ => False
def zK (d : D) : TEZ ω := fun _ w Q _ => Q d w
section
variable {X : Cx} {W : Wp ω} {pos : Pos}
theorem zVar_some {i : Nat} {δ : List Sl} {w : ω} {Q : D → ω → Prop} {E : Nat → ω → Prop} (h : zVar i δ w Q E) : ∃ d, δ[i]? = some (.val d) ∧ Q d w := by
  unfold zVar at h
  split at h
  · rename_i d e; exact ⟨d, e, h⟩
  · exact h.elim
theorem z_var (i : Nat) {x : Str} (hN : X.N[i]? = some x := by rfl) (hv : Vis X.env.scope x := by first | exact Or.inl rfl | exact Or.inr (Or.inl rfl) | exact Or.inr (Or.inr rfl)) (hd : (x == ("__debug__" : Str)) = false := by decide)
    (hcd : (x == ("__classdict__" : Str)) = false := by decide) : PEZ X W (.Name x pos) (zVar i) := ⟨fun k h => by
  obtain ⟨d, e, q⟩ := zVar_some h
  unfold zVar
  rw [e]
  exact k _ _ q, fun Z ex tk => peI (pe_var hN hv hd hcd) fun σ H Q ⟨G, M, δ, w, a, h⟩ => by
  obtain ⟨d, e, q⟩ := zVar_some h
  obtain ⟨v, h1, h2⟩ := a.sl i _ e
  exact ⟨v, h1, q v H G M a.here h2⟩⟩
theorem z_k {e : Expr} {v : V} {d : D} (h : PE X e (tC v)) (r : ∀ G, Rep X.K G v d) : PEZ X W e (zK d) := ⟨fun k h => k _ _ h, fun Z ex tk => peI h fun σ H Q ⟨G, M, δ, w, a, h⟩ => h v H G M a.here (r G)⟩
theorem z_int {i : Int} {j : Nat} : PEZ X W (.Constant (.int i) j pos) (zK (.int i)) := z_k pe_int fun _ => .int i
theorem z_bl {b : Bool} {j : Nat} : PEZ X W (.Constant (.bool b) j pos) (zK (.bl b)) := z_k pe_bl fun _ => .bl b
theorem z_non {j : Nat} : PEZ X W (.Constant .none j pos) (zK .non) := z_k pe_non fun _ => .non
theorem z_str {x : Str} {j : Nat} : PEZ X W (.Constant (.str x) j pos) (zK (.str x)) := z_k pe_str fun _ => .str x
theorem z_globS {x y : Str} {t : Tok} (hm : X.mg x = some (.str y t)) (hg : Gl X x := by rfl) (hd : (x == ("__debug__" : Str)) = false := by decide) : PEZ X W (.Name x pos) (zK (.str y)) := z_k (pe_glob (v := .str y) hg hm ⟨_, rfl⟩ hd) fun _ => .str y
end

/-! ### arguments, displays -/
def zNil : TAZ ω := fun _ w Q _ => Q [] w
def zCons (ta : TEZ ω) (tr : TAZ ω) : TAZ ω := fun δ w Q E => ta δ w (fun x w1 => tr δ w1 (fun l w2 => Q (x :: l) w2) E) E
def zTup (ta : TAZ ω) : TEZ ω := fun δ w Q E => ta δ w (fun l w1 => l.length ≤ 100000 ∧ Q (.tup l) w1) E
def zLst (ta : TAZ ω) : TAZ ω := fun δ w Q E => ta δ w (fun l w1 => l.length ≤ 100000 ∧ Q l w1) E
/-- a new list, standing still from now on -/
def zFz (ta : TAZ ω) : TEZ ω := fun δ w Q E => ta δ w (fun l w1 => Q (.lst l) w1) E
section
variable {X : Cx} {W : Wp ω} {pos : Pos} {e : Expr} {es : List Expr} {ta te : TEZ ω} {tr t : TAZ ω}
theorem sz1 {n : Nat} (h : n ≤ 100000) : n ≤ sizeLine := Nat.le_trans h (by rw [sizeLine_eq]; decide)
theorem z_nil : PAZ X W [] zNil := ⟨fun k h => k _ _ h, fun Z ex tk => paI pa_nil fun σ H Q ⟨G, M, δ, w, a, h⟩ => h [] H G M a.here .nil⟩
theorem z_cons (ha : PEZ X W e ta) (hr : PAZ X W es tr) (hs : starEach (e :: es) X.env = (false, eval e X.env) :: starEach es X.env := by rfl) : PAZ X W (e :: es) (zCons ta tr) :=
  ⟨fun k h => ha.mo (fun _ _ h1 => hr.mo (fun _ _ h2 => k _ _ h2) h1) h, fun Z ex tk => paI (pa_cons (ha.run Z ex tk) (hr.run Z ex tk) hs) fun σ H Q ⟨G, M, δ, w, a, h⟩ =>
    ⟨G, M, δ, w, a, ha.mo (fun d w1 h1 v H1 G1 M1 o1 r1 => ⟨G1, M1, δ, w1, a.go o1, hr.mo (fun l w2 h2 vs H2 G2 M2 o2 r2 => h2 (v :: vs) H2 G2 M2 (o1.tr o2) (.cons (r1.up o2.nx.gg) r2)) h1⟩) h⟩⟩
theorem newOf {K : PySem.W.Frag} {W : Wp ω} {Z : Zx} {σ : L2.St} {H G M : Hp} {δ : List Sl} {w : ω} (a : SR K W Z σ H G M δ w) {p : Addr} (h : H p = none) : Z.H0 p = none ∧ ∀ (j : Nat) (m : List D), δ[j]? = some (Sl.own m) → σ[j]? ≠ some (some (V.ref p)) := by
  refine ⟨a.nx.back a.pt.mh h, fun j m e z => ?_⟩
  obtain ⟨p', vs, h1, h2, _⟩ := a.sl j _ e
  rw [z] at h1
  cases h1
  rw [h] at h2
  cases h2
theorem Go.new {W : Wp ω} {H G M H' G' M' : Hp} {w : ω} (a : Go W H G M H' G' M' w) {p : Addr} {o : HO} (h : H' p = none) : Go W H G M (upd H' p o) (upd G' p o) M' w := ⟨a.pt.new h, a.nx.tr (Nx.new a.pt h) a.pt.mh⟩
theorem Go.ext {W : Wp ω} {H G M H' G' M' : Hp} {w : ω} (a : Go W H G M H' G' M' w) {p : Addr} {o : HO} (h : H' p = none) : Ext G' (upd G' p o) := Ext.new (a.pt.gh.none' h)
/-- a list of our own laid at p: the state knows nothing of it -/
theorem Go.laid {W : Wp ω} {H G M H' G' M' : Hp} {w : ω} (a : Go W H G M H' G' M' w) {p : Addr} {o : HO} (h : H' p = none) : Go W H G M (upd H' p o) G' M' w := by
  have up : ∀ q x, H' q = some x → upd H' p o q = some x := fun q x e => by rw [upd_ne (ne_of_none e h)]; exact e
  exact ⟨⟨fun q x e => up q x (a.pt.gh q x e), fun q x e => up q x (a.pt.mh q x e), a.pt.dj, a.pt.wd⟩, ⟨a.nx.gg, fun q x e m => up q x (a.nx.fr q x e m), a.nx.gn, a.nx.mn, a.nx.m0⟩⟩
theorem NewAt.of {W : Wp ω} {H G M H' G' M' : Hp} {w : ω} (a : Go W H G M H' G' M' w) (b : Ext M H) {p : Addr} {vs : List V} (h : H' p = none) : NewAt H (upd H' p (.lst vs)) G' M' p vs := ⟨a.nx.back a.pt.mh h, upd_same, a.pt.gh.none' h, a.pt.mh.none' h⟩
/-- what is new stands still from now on -/
theorem Go.still {W : Wp ω} {H G M H' G' M' : Hp} {w : ω} (a : Go W H G M H' G' M' w) {p : Addr} {vs : List V} (n : NewAt H H' G' M' p vs) : Go W H G M H' (upd G' p (.lst vs)) M' w ∧ Ext G' (upd G' p (.lst vs)) := by
  obtain ⟨n0, n1, n2, n3⟩ := n
  have gg : Ext G' (upd G' p (.lst vs)) := Ext.new n2
  have cs : ∀ q x, upd G' p (.lst vs) q = some x → (q = p ∧ x = .lst vs) ∨ G' q = some x := fun q x e => by
    by_cases z : q = p
    · subst z; rw [upd_same] at e; cases e; exact .inl ⟨rfl, rfl⟩
    · rw [upd_ne z] at e; exact .inr e
  refine ⟨⟨⟨fun q x e => ?_, a.pt.mh, fun q x e => ?_, W.mono gg a.pt.wd⟩, ⟨a.nx.gg.tr gg, a.nx.fr, fun q x e e' => ?_, a.nx.mn, a.nx.m0⟩⟩, gg⟩
  · rcases cs q x e with ⟨rfl, rfl⟩ | e
    · exact n1
    · exact a.pt.gh q x e
  · rcases cs q x e with ⟨rfl, rfl⟩ | e
    · exact n3
    · exact a.pt.dj q x e
  · rcases cs q x e with ⟨rfl, rfl⟩ | e
    · exact n0
    · exact a.nx.gn q x e e'
theorem z_fz (h : PFZ X W e t) : PEZ X W e (zFz t) := ⟨fun k q => h.mo (fun _ _ q1 => k _ _ q1) q, fun Z ex tk => peI (h.run Z ex tk) fun σ H Q ⟨G, M, δ, w, a, q⟩ =>
  ⟨G, M, δ, w, a, h.mo (fun l w1 q1 p vs H1 G1 M1 o1 r1 n1 => by
    obtain ⟨a2, g2⟩ := o1.still n1
    exact q1 (.ref p) H1 _ M1 a2 (.lst upd_same (r1.up g2))) q⟩⟩
theorem z_tup {j : Nat} (h : PAZ X W es t) : PEZ X W (.Tuple es j pos) (zTup t) := ⟨fun k q => h.mo (fun _ _ ⟨q0, q1⟩ => ⟨q0, k _ _ q1⟩) q, fun Z ex tk => peI (pe_tup (h.run Z ex tk)) fun σ H Q ⟨G, M, δ, w, a, q⟩ =>
  ⟨G, M, δ, w, a, h.mo (fun l w1 ⟨q0, q1⟩ vs H1 G1 M1 o1 r1 => ⟨sz1 (by rw [r1.len]; exact q0), fun p hp =>
    q1 (.ref p) _ _ _ (o1.new (o := .tup vs) hp) (.tup (SqT.of upd_same) (r1.up (o1.ext hp)))⟩) q⟩⟩
theorem z_lst (h : PAZ X W es t) : PFZ X W (.List es pos) (zLst t) := ⟨fun k q => h.mo (fun _ _ ⟨q0, q1⟩ => ⟨q0, k _ _ q1⟩) q, fun Z ex tk => peI (pe_lst (h.run Z ex tk)) fun σ H Q ⟨G, M, δ, w, a, q⟩ =>
  ⟨G, M, δ, w, a, h.mo (fun l w1 ⟨q0, q1⟩ vs H1 G1 M1 o1 r1 => ⟨sz1 (by rw [r1.len]; exact q0), fun p hp => q1 p vs _ _ _ (o1.laid hp) r1 (.of o1 a.pt.mh hp)⟩) q⟩⟩
end

/-! ### operators -/
abbrev OpD := D → D → (D → Prop) → Prop
/-- the operator's rule over values, read over plain data -/
structure Lnd (K : PySem.W.Frag) (rv : R2) (r : OpD) : Prop where
  mo : ∀ {x y : D} {q q' : D → Prop}, (∀ d, q d → q' d) → r x y q → r x y q'
  go : ∀ (H G : Hp) (x y : V) (dx dy : D) (q : D → Prop) (Q : VK), Ext G H → Rep K G x dx → Rep K G y dy → r dx dy q →
    (∀ d v, q d → Rep K G v d → Q v H) → (∀ l vs p, q (.tup l) → H p = none → RepL K G vs l → Q (.ref p) (upd H p (.tup vs))) → rv x y H Q
def zOp (r : OpD) (ta tb : TEZ ω) : TEZ ω := fun δ w Q E => ta δ w (fun x w1 => tb δ w1 (fun y w2 => r x y fun z => Q z w2) E) E
section
variable {X : Cx} {W : Wp ω} {pos : Pos} {a b c : Expr} {ta tb tc : TEZ ω} {rv : R2} {r : OpD}
theorem zop_mo (hl : Lnd X.K rv r) (ha : PEZ X W a ta) (hb : PEZ X W b tb) : Mo (zOp r ta tb) := fun k h => ha.mo (fun _ _ h1 => hb.mo (fun _ _ h2 => hl.mo (fun d q => k d _ q) h2) h1) h
theorem zop_core (hl : Lnd X.K rv r) (ha : PEZ X W a ta) (hb : PEZ X W b tb) {Z : Zx} {ex : Nat → List Sl → ω → Prop} {σ : L2.St} {H : Hp} {Q : VK} (h : liE X.K W Z ex (zOp r ta tb) σ H Q) : tOp rv (liE X.K W Z ex ta) (liE X.K W Z ex tb) σ H Q := by
  obtain ⟨G, M, δ, w, a0, h⟩ := h
  exact ⟨G, M, δ, w, a0, ha.mo (fun d w1 h1 v H1 G1 M1 o1 r1 => ⟨G1, M1, δ, w1, a0.go o1, hb.mo (fun d2 w2 h2 v2 H2 G2 M2 o2 r2 =>
    hl.go H2 G2 v v2 d d2 _ Q o2.pt.gh (r1.up o2.nx.gg) r2 h2 (fun d3 v3 q3 r3 => q3 v3 H2 G2 M2 (o1.tr o2) r3) (fun l vs p q3 hp r3 =>
      q3 (.ref p) _ _ _ ((o1.tr o2).new hp) (.tup (SqT.of upd_same) (r3.up (o2.ext hp))))) h1⟩) h⟩
theorem z_op {op : Operator} (ho : OpR X (binaryOp op) rv) (hl : Lnd X.K rv r) (ha : PEZ X W a ta) (hb : PEZ X W b tb) : PEZ X W (.BinOp a op b pos) (zOp r ta tb) :=
  ⟨zop_mo hl ha hb, fun Z ex tk => peI (pe_op ho (ha.run Z ex tk) (hb.run Z ex tk)) fun σ H Q h => zop_core hl ha hb h⟩
theorem z_ix (ho : IxR X rv) (hl : Lnd X.K rv r) (ha : PEZ X W a ta) (hb : PEZ X W b tb) (hs : PlainIx b := by exact fun _ _ => rfl) : PEZ X W (.Subscript a b pos) (zOp r ta tb) :=
  ⟨zop_mo hl ha hb, fun Z ex tk => peI (pe_ix ho (ha.run Z ex tk) (hb.run Z ex tk) hs) fun σ H Q h => zop_core hl ha hb h⟩
/-- a comparison as a value, as a test -/
theorem z_cmp {op : CmpOp} (ho : OpR X (compareOp op) rv) (hl : Lnd X.K rv r) (ha : PEZ X W a ta) (hb : PEZ X W b tb) (hm : behindInMarks op b = false := by first | exact nomark _ | rfl) : PEZ X W (.Compare a [op] [b] pos) (zOp r ta tb) :=
  ⟨zop_mo hl ha hb, fun Z ex tk => peI (pe_cmpR ho (ha.run Z ex tk) (hb.run Z ex tk) hm) fun σ H Q h => zop_core hl ha hb h⟩
def zB (te : TEZ ω) : TTZ ω := fun δ w Q E => te δ w (fun d w1 => match d with | .bl b => Q b w1 | _ => False) E
theorem zB_mo {te : TEZ ω} (h : Mo te) : Mo (zB te) := fun k q => h (fun d w1 q1 => by
  cases d with
  | bl b => exact k b w1 q1
  | _ => exact False.elim q1) q
theorem zB_core {te : TEZ ω} (h : Mo te) {K : PySem.W.Frag} {Z : Zx} {ex : Nat → List Sl → ω → Prop} {σ : L2.St} {H : Hp} {Q : Bool → Hp → Prop} (q : liT K W Z ex (zB te) σ H Q) : liE K W Z ex te σ H fun x H1 => ∃ k, x = .bl k ∧ Q k H1 := by
  obtain ⟨G, M, δ, w, a, q⟩ := q
  refine ⟨G, M, δ, w, a, h (fun d w1 q1 v H1 G1 M1 o1 r1 => ?_) q⟩
  cases d with
  | bl b =>
    cases r1
    exact ⟨b, rfl, q1 H1 G1 M1 o1⟩
  | _ => exact False.elim q1
theorem z_tcmp {op : CmpOp} (ho : OpR X (compareOp op) rv) (hl : Lnd X.K rv r) (ha : PEZ X W a ta) (hb : PEZ X W b tb) (hm : behindInMarks op b = false := by first | exact nomark _ | rfl) : PTZ X W (.Compare a [op] [b] pos) (zB (zOp r ta tb)) :=
  ⟨zB_mo (te := zOp r ta tb) (zop_mo hl ha hb), fun Z ex tk => ptI (pt_cmpR ho (ha.run Z ex tk) (hb.run Z ex tk) hm) fun σ H Q h => zop_core hl ha hb (zB_core (te := zOp r ta tb) (zop_mo hl ha hb) h)⟩
/-- any expression that gives a truth -/
theorem z_tval (ha : PEZ X W a ta) (he : ∀ whole, isTrue a X.env whole = (do let v ← whole; standAt a.pos; holding [v] (truthy v)) := by intro _; rfl) : PTZ X W a (zB ta) :=
  ⟨zB_mo (te := ta) ha.mo, fun Z ex tk => ptI (pt_val (ha.run Z ex tk) he) fun σ H Q h => zB_core (te := ta) ha.mo h⟩
/-- a op b op c -/
def zCh (r r' : OpD) (ta tb tc : TEZ ω) : TEZ ω := fun δ w Q E => ta δ w (fun x w1 => tb δ w1 (fun y w2 => r x y fun z => match z with
  | .bl k => (k = true → tc δ w2 (fun u w3 => r' y u fun z' => Q z' w3) E) ∧ (k = false → Q (.bl false) w2)
  | _ => False) E) E
theorem zch_mo {rv rv' : R2} {r r' : OpD} (hl : Lnd X.K rv r) (hl' : Lnd X.K rv' r') (ha : PEZ X W a ta) (hb : PEZ X W b tb) (hc : PEZ X W c tc) : Mo (zCh r r' ta tb tc) := fun k h => ha.mo (fun _ _ h1 => hb.mo (fun _ _ h2 => hl.mo (fun d q => by
  cases d with
  | bl b => exact ⟨fun e => hc.mo (fun _ _ h3 => hl'.mo (fun d q => k d _ q) h3) (q.1 e), fun e => k _ _ (q.2 e)⟩
  | _ => exact q) h2) h1) h
theorem zch_core {rv rv' : R2} {r r' : OpD} (hl : Lnd X.K rv r) (hl' : Lnd X.K rv' r') (ha : PEZ X W a ta) (hb : PEZ X W b tb) (hc : PEZ X W c tc) {Z : Zx} {ex : Nat → List Sl → ω → Prop} {σ : L2.St} {H : Hp} {Q : VK} (h : liE X.K W Z ex (zCh r r' ta tb tc) σ H Q) :
    tChain rv rv' (liE X.K W Z ex ta) (liE X.K W Z ex tb) (liE X.K W Z ex tc) σ H Q := by
  obtain ⟨G, M, δ, w, a0, h⟩ := h
  exact ⟨G, M, δ, w, a0, ha.mo (fun d w1 h1 v H1 G1 M1 o1 r1 => ⟨G1, M1, δ, w1, a0.go o1, hb.mo (fun d2 w2 h2 v2 H2 G2 M2 o2 r2 =>
    hl.go H2 G2 v v2 d d2 _ _ o2.pt.gh (r1.up o2.nx.gg) r2 h2 (fun d3 v3 q3 r3 => by
      cases d3 with
      | bl k =>
        cases r3
        refine ⟨k, rfl, ?_⟩
        cases k with
        | true =>
          rw [if_pos rfl]
          exact ⟨G2, M2, δ, w2, a0.go (o1.tr o2), hc.mo (fun d4 w4 h4 v4 H4 G4 M4 o4 r4 => hl'.go H4 G4 v2 v4 d2 d4 _ Q o4.pt.gh (r2.up o4.nx.gg) r4 h4 (fun d5 v5 q5 r5 => q5 v5 H4 G4 M4 ((o1.tr o2).tr o4) r5) (fun l vs p q5 hp r5 =>
            q5 (.ref p) _ _ _ (((o1.tr o2).tr o4).new hp) (.tup (SqT.of upd_same) (r5.up (o4.ext hp))))) (q3.1 rfl)⟩
        | false =>
          rw [if_neg Bool.false_ne_true]
          exact q3.2 rfl (.bl false) H2 G2 M2 (o1.tr o2) (.bl false)
      | _ => exact False.elim q3) (fun l vs p q3 hp r3 => False.elim q3)) h1⟩) h⟩
theorem z_ch {op op' : CmpOp} {rv' : R2} {r' : OpD} (ho : OpR X (compareOp op) rv) (ho' : OpR X (compareOp op') rv') (hl : Lnd X.K rv r) (hl' : Lnd X.K rv' r') (ha : PEZ X W a ta) (hb : PEZ X W b tb) (hc : PEZ X W c tc)
    (hm : lastMarks [op, op'] [b, c] = false := by with_unfolding_all rfl) : PEZ X W (.Compare a [op, op'] [b, c] pos) (zCh r r' ta tb tc) :=
  ⟨zch_mo hl hl' ha hb hc, fun Z ex tk => peI (pe_chain ho ho' (ha.run Z ex tk) (hb.run Z ex tk) (hc.run Z ex tk) hm) fun σ H Q h => zch_core hl hl' ha hb hc h⟩
theorem z_tch {op op' : CmpOp} {rv' : R2} {r' : OpD} (ho : OpR X (compareOp op) rv) (ho' : OpR X (compareOp op') rv') (hl : Lnd X.K rv r) (hl' : Lnd X.K rv' r') (ha : PEZ X W a ta) (hb : PEZ X W b tb) (hc : PEZ X W c tc)
    (hm : lastMarks [op, op'] [b, c] = false := by with_unfolding_all rfl) : PTZ X W (.Compare a [op, op'] [b, c] pos) (zB (zCh r r' ta tb tc)) :=
  ⟨zB_mo (te := zCh r r' ta tb tc) (zch_mo hl hl' ha hb hc), fun Z ex tk => ptI (pt_chain ho ho' (ha.run Z ex tk) (hb.run Z ex tk) (hc.run Z ex tk) hm) fun σ H Q h => zch_core hl hl' ha hb hc (zB_core (te := zCh r r' ta tb tc) (zch_mo hl hl' ha hb hc) h)⟩
/-- one operand -/
structure Lnd1 (K : PySem.W.Frag) (rv : V → Hp → VK → Prop) (r : D → (D → Prop) → Prop) : Prop where
  mo : ∀ {x : D} {q q' : D → Prop}, (∀ d, q d → q' d) → r x q → r x q'
  go : ∀ (H G : Hp) (x : V) (dx : D) (q : D → Prop) (Q : VK), Ext G H → Rep K G x dx → r dx q → (∀ d v, q d → Rep K G v d → Q v H) → rv x H Q
def zUn (r : D → (D → Prop) → Prop) (ta : TEZ ω) : TEZ ω := fun δ w Q E => ta δ w (fun x w1 => r x fun z => Q z w1) E
theorem z_un {op : UnaryOp} {rv : V → Hp → VK → Prop} {r : D → (D → Prop) → Prop} (ho : UnR X (unaryOp op) rv) (hl : Lnd1 X.K rv r) (ha : PEZ X W a ta) : PEZ X W (.UnaryOp op a pos) (zUn r ta) :=
  ⟨fun k h => ha.mo (fun _ _ h1 => hl.mo (fun d q => k d _ q) h1) h, fun Z ex tk => peI (pe_un ho (ha.run Z ex tk)) fun σ H Q ⟨G, M, δ, w, a0, h⟩ =>
    ⟨G, M, δ, w, a0, ha.mo (fun d w1 h1 v H1 G1 M1 o1 r1 => hl.go H1 G1 v d _ Q o1.pt.gh r1 h1 fun d3 v3 q3 r3 => q3 v3 H1 G1 M1 o1 r3) h⟩⟩
end

/-! ### and, or, not, if-else -/
def zAnd (t u : TTZ ω) : TTZ ω := fun δ w Q E => t δ w (fun b w1 => (b = true → u δ w1 Q E) ∧ (b = false → Q false w1)) E
def zOr (t u : TTZ ω) : TTZ ω := fun δ w Q E => t δ w (fun b w1 => (b = true → Q true w1) ∧ (b = false → u δ w1 Q E)) E
def zNot (t : TTZ ω) : TTZ ω := fun δ w Q E => t δ w (fun b w1 => Q (!b) w1) E
def zAndV (t u : TEZ ω) : TEZ ω := fun δ w Q E => t δ w (fun d w1 => match d with | .bl b => (b = true → u δ w1 Q E) ∧ (b = false → Q (.bl false) w1) | _ => False) E
def zOrV (t u : TEZ ω) : TEZ ω := fun δ w Q E => t δ w (fun d w1 => match d with | .bl b => (b = true → Q (.bl true) w1) ∧ (b = false → u δ w1 Q E) | _ => False) E
def zNotV (t : TEZ ω) : TEZ ω := fun δ w Q E => t δ w (fun d w1 => match d with | .bl b => Q (.bl (!b)) w1 | _ => False) E
def zIfE (t : TTZ ω) (ta tb : TEZ ω) : TEZ ω := fun δ w Q E => t δ w (fun b w1 => (b = true → ta δ w1 Q E) ∧ (b = false → tb δ w1 Q E)) E
section
variable {X : Cx} {W : Wp ω} {pos : Pos} {a b c : Expr} {rest : List Expr} {t u : TTZ ω} {ta tb : TEZ ω}
theorem z_and1 (h : PTZ X W a t) : PWZ X W (.BoolOp .And [a] pos) t := ⟨h.mo, fun Z ex tk => pw_and1 (h.run Z ex tk)⟩
theorem z_or1 (h : PTZ X W a t) : PWZ X W (.BoolOp .Or [a] pos) t := ⟨h.mo, fun Z ex tk => pw_or1 (h.run Z ex tk)⟩
theorem z_and (h : PTZ X W a t) (g : PWZ X W (.BoolOp .And (b :: rest) pos) u) : PWZ X W (.BoolOp .And (a :: b :: rest) pos) (zAnd t u) :=
  ⟨fun k q => h.mo (fun _ _ q1 => ⟨fun e => g.mo k (q1.1 e), fun e => k _ _ (q1.2 e)⟩) q, fun Z ex tk => pwI (pw_and (h.run Z ex tk) (g.run Z ex tk)) fun σ H Q ⟨G, M, δ, w, a0, q⟩ =>
    ⟨G, M, δ, w, a0, h.mo (fun k w1 q1 H1 G1 M1 o1 => by
      cases k with
      | true =>
        rw [if_pos rfl]
        exact ⟨G1, M1, δ, w1, a0.go o1, g.mo (fun k2 w2 q2 H2 G2 M2 o2 => q2 H2 G2 M2 (o1.tr o2)) (q1.1 rfl)⟩
      | false =>
        rw [if_neg Bool.false_ne_true]
        exact q1.2 rfl H1 G1 M1 o1) q⟩⟩
theorem z_or (h : PTZ X W a t) (g : PWZ X W (.BoolOp .Or (b :: rest) pos) u) : PWZ X W (.BoolOp .Or (a :: b :: rest) pos) (zOr t u) :=
  ⟨fun k q => h.mo (fun _ _ q1 => ⟨fun e => k _ _ (q1.1 e), fun e => g.mo k (q1.2 e)⟩) q, fun Z ex tk => pwI (pw_or (h.run Z ex tk) (g.run Z ex tk)) fun σ H Q ⟨G, M, δ, w, a0, q⟩ =>
    ⟨G, M, δ, w, a0, h.mo (fun k w1 q1 H1 G1 M1 o1 => by
      cases k with
      | true =>
        rw [if_pos rfl]
        exact q1.1 rfl H1 G1 M1 o1
      | false =>
        rw [if_neg Bool.false_ne_true]
        exact ⟨G1, M1, δ, w1, a0.go o1, g.mo (fun k2 w2 q2 H2 G2 M2 o2 => q2 H2 G2 M2 (o1.tr o2)) (q1.2 rfl)⟩) q⟩⟩
theorem z_pw (h : PWZ X W a t) : PTZ X W a t := ⟨h.mo, fun Z ex tk => (h.run Z ex tk).pt⟩
theorem z_not (h : PTZ X W a t) : PTZ X W (.UnaryOp .Not a pos) (zNot t) :=
  ⟨fun k q => h.mo (fun _ _ q1 => k _ _ q1) q, fun Z ex tk => ptI (pt_not (h.run Z ex tk)) fun σ H Q ⟨G, M, δ, w, a0, q⟩ => ⟨G, M, δ, w, a0, h.mo (fun k w1 q1 H1 G1 M1 o1 => q1 H1 G1 M1 o1) q⟩⟩
theorem blMo {Q Q' : D → ω → Prop} {w : ω} {f g : Bool → ω → Prop} {d : D} (k : ∀ b, f b w → g b w) (h : match d with | .bl b => f b w | _ => False) : match d with | .bl b => g b w | _ => False := by
  cases d with
  | bl b => exact k b h
  | _ => exact h
theorem z_one {op : BoolOp} (h : PEZ X W a ta) : PEZ X W (.BoolOp op [a] pos) ta := ⟨h.mo, fun Z ex tk => pe_one (h.run Z ex tk)⟩
theorem z_andV (h : PEZ X W a ta) (g : PEZ X W (.BoolOp .And (b :: rest) pos) tb) : PEZ X W (.BoolOp .And (a :: b :: rest) pos) (zAndV ta tb) :=
  ⟨fun k q => h.mo (fun d w1 q1 => by
    cases d with
    | bl b => exact ⟨fun e => g.mo k (q1.1 e), fun e => k _ _ (q1.2 e)⟩
    | _ => exact q1) q, fun Z ex tk => peI (pe_and (h.run Z ex tk) (g.run Z ex tk)) fun σ H Q ⟨G, M, δ, w, a0, q⟩ =>
    ⟨G, M, δ, w, a0, h.mo (fun d w1 q1 v H1 G1 M1 o1 r1 => by
      cases d with
      | bl k =>
        cases r1
        refine ⟨k, rfl, ?_⟩
        cases k with
        | true =>
          rw [if_pos rfl]
          exact ⟨G1, M1, δ, w1, a0.go o1, g.mo (fun d2 w2 q2 v2 H2 G2 M2 o2 r2 => q2 v2 H2 G2 M2 (o1.tr o2) r2) (q1.1 rfl)⟩
        | false =>
          rw [if_neg Bool.false_ne_true]
          exact q1.2 rfl (.bl false) H1 G1 M1 o1 (.bl false)
      | _ => exact False.elim q1) q⟩⟩
theorem z_orV (h : PEZ X W a ta) (g : PEZ X W (.BoolOp .Or (b :: rest) pos) tb) : PEZ X W (.BoolOp .Or (a :: b :: rest) pos) (zOrV ta tb) :=
  ⟨fun k q => h.mo (fun d w1 q1 => by
    cases d with
    | bl b => exact ⟨fun e => k _ _ (q1.1 e), fun e => g.mo k (q1.2 e)⟩
    | _ => exact q1) q, fun Z ex tk => peI (pe_or (h.run Z ex tk) (g.run Z ex tk)) fun σ H Q ⟨G, M, δ, w, a0, q⟩ =>
    ⟨G, M, δ, w, a0, h.mo (fun d w1 q1 v H1 G1 M1 o1 r1 => by
      cases d with
      | bl k =>
        cases r1
        refine ⟨k, rfl, ?_⟩
        cases k with
        | true =>
          rw [if_pos rfl]
          exact q1.1 rfl (.bl true) H1 G1 M1 o1 (.bl true)
        | false =>
          rw [if_neg Bool.false_ne_true]
          exact ⟨G1, M1, δ, w1, a0.go o1, g.mo (fun d2 w2 q2 v2 H2 G2 M2 o2 r2 => q2 v2 H2 G2 M2 (o1.tr o2) r2) (q1.2 rfl)⟩
      | _ => exact False.elim q1) q⟩⟩
theorem z_notV (h : PEZ X W a ta) : PEZ X W (.UnaryOp .Not a pos) (zNotV ta) :=
  ⟨fun k q => h.mo (fun d w1 q1 => by
    cases d with
    | bl b => exact k _ _ q1
    | _ => exact q1) q, fun Z ex tk => peI (pe_not (h.run Z ex tk)) fun σ H Q ⟨G, M, δ, w, a0, q⟩ =>
    ⟨G, M, δ, w, a0, h.mo (fun d w1 q1 v H1 G1 M1 o1 r1 => by
      cases d with
      | bl k =>
        cases r1
        exact ⟨k, rfl, q1 (.bl (!k)) H1 G1 M1 o1 (.bl (!k))⟩
      | _ => exact False.elim q1) q⟩⟩
theorem z_ifE (hc : PTZ X W c t) (h : PEZ X W a ta) (g : PEZ X W b tb) : PEZ X W (.IfExp c a b pos) (zIfE t ta tb) :=
  ⟨fun k q => hc.mo (fun _ _ q1 => ⟨fun e => h.mo k (q1.1 e), fun e => g.mo k (q1.2 e)⟩) q, fun Z ex tk => peI (pe_ifExp (hc.run Z ex tk) (h.run Z ex tk) (g.run Z ex tk)) fun σ H Q ⟨G, M, δ, w, a0, q⟩ =>
    ⟨G, M, δ, w, a0, hc.mo (fun k w1 q1 H1 G1 M1 o1 => by
      cases k with
      | true =>
        rw [if_pos rfl]
        exact ⟨G1, M1, δ, w1, a0.go o1, h.mo (fun d2 w2 q2 v2 H2 G2 M2 o2 r2 => q2 v2 H2 G2 M2 (o1.tr o2) r2) (q1.1 rfl)⟩
      | false =>
        rw [if_neg Bool.false_ne_true]
        exact ⟨G1, M1, δ, w1, a0.go o1, g.mo (fun d2 w2 q2 v2 H2 G2 M2 o2 r2 => q2 v2 H2 G2 M2 (o1.tr o2) r2) (q1.2 rfl)⟩) q⟩⟩
end
end Z

namespace Z
open PySem PySem.Spec PyProof.Rows L2
/-! ### range with bounds of any size -/
theorem turn_long {P : Program} {w : World} {K : PySem.W.Frag} {tg : Expr} (it : Addr) (lo : Int) (n : Nat) : Turn P w K tg (Itr lo n) [it] it (fun i h => IsLongIter h it (lo + (i : Nat) * 1) ((n : Int) - (i : Nat)) 1) := by
  refine ⟨by simp, fun i h st b hb => ?_, fun i h h' st k => k it (by simp) _ st, ?_, ?_, fun _ _ _ _ _ st h => wpAny_pyIter_longiter st h⟩
  · have e : b = it := by simpa using hb
    subst e
    refine ⟨_, st, fun v z => ?_⟩
    have z' : Data.fields _ = Data.cell v := z
    cases z'
  · intro X hP hw hK hc i pins s σ H E I hf st hg
    subst hP hw hK
    obtain ⟨f0, f1, f2, f3, f4, f5⟩ := hf it (by simp)
    refine (Walks.longrange (prog := X.prog) (w := X.w) (I.ok.hd hc) it lo 1 n).item i s _ _ hg st fun v h' tk hv st' kk => ?_
    obtain ⟨t, rfl⟩ := hv
    have I1 := I.turned (t' := tk) (h' := h') (fun b o hb e => kk b o (by simpa using hb) e) f0 f1 f3 f4 f5
    refine ⟨_, rfl, go_of (n := "longrange_iterator") st' rfl rfl (by decide) ⟨.int (lo + i), H, I1, ⟨t, by rw [Int.mul_one]⟩, ⟨rfl, rfl⟩, st', fun b hb => (hf b hb).1⟩⟩
  · intro X hP hw hK hc i pins s σ H E I hf st hg
    subst hP hw hK
    obtain ⟨f0, f1, f2, f3, f4, f5⟩ := hf it (by simp)
    exact wpAny_pyNext_long_end (I.ok.hd hc) st (by have : n ≤ i := hg; omega) fun h' eb => ⟨rfl, I.turned (t' := s.toks) (fun b o hb e => eb b o hb e) f0 f1 f3 f4 f5⟩
section
variable {X : Cx} {tg : Expr}
theorem rangeB_it {pins : List (Addr × Obj)} {σ : L2.St} {H : Hp} {s : Shared} {R : It → Hp → Prop} {E : Value → Shared → Prop} {lo hi : Int} {t u v : Tok} {tk : Nat} (I : Inv X pins σ H s)
    (q : R (Itr lo (hi - lo).toNat) H) : wpAny (model X.prog X.w) X.A (pyIter (.ref s.heap.objs.size)) (PIE X pins σ tg R) E { s with heap := s.heap.push { cls := .type "range", data := .fields #[.int lo t, .int hi u, .int 1 v] }, toks := tk } := by
  have I1 := I.kept (h' := s.heap.push { cls := .type "range", data := .fields #[.int lo t, .int hi u, .int 1 v] }) (t' := tk) fun b o e => Heap.get?_push_of_some _ e
  have e1 : lo + ((0 : Nat) : Int) * 1 = lo := by simp
  have e2 : (((hi - lo).toNat : Nat) : Int) - ((0 : Nat) : Int) = Builtin.Range.rangeSize lo hi 1 := by rw [rangeSize_one]; split <;> omega
  cases hs : Builtin.Range.small lo hi 1 with
  | true =>
    refine wpAny_pyIter_range (IsRange.new ..) hs ?_
    refine ⟨_, [_], _, _, H, rfl, I1.kept (t' := tk) fun b o e => Heap.get?_push_of_some _ e, turn_range _ lo (hi - lo).toNat, ?_, fun b hb => ?_, q⟩
    · show IsRangeIter _ _ (lo + ((0 : Nat) : Int) * 1) ((((hi - lo).toNat : Nat) : Int) - ((0 : Nat) : Int)) 1
      rw [e1, e2]
      exact Heap.get?_push_size _ rfl
    · have e := List.mem_singleton.mp hb
      subst e
      exact I1.fpOk (Nat.le_refl _) (I1.hok.fresh (Nat.le_refl _))
  | false =>
    refine wpAny_pyIter_longrange (IsRange.new ..) hs ?_
    refine ⟨_, [_], _, _, H, rfl, I1.kept (t' := tk) fun b o e => Heap.get?_push_of_some _ e, turn_long _ lo (hi - lo).toNat, ?_, fun b hb => ?_, q⟩
    · show IsLongIter _ _ (lo + ((0 : Nat) : Int) * 1) ((((hi - lo).toNat : Nat) : Int) - ((0 : Nat) : Int)) 1
      rw [e1, e2]
      exact Heap.get?_push_size _ rfl
    · have e := List.mem_singleton.mp hb
      subst e
      exact I1.fpOk (Nat.le_refl _) (I1.hok.fresh (Nat.le_refl _))
def iRgB1 (ta : TA) : TI := fun σ H R => ta σ H fun vs H1 => ∃ j : Int, vs = [.int j] ∧ R (Itr 0 j.toNat) H1
def iRgB2 (ta : TA) : TI := fun σ H R => ta σ H fun vs H1 => ∃ i j : Int, vs = [.int i, .int j] ∧ R (Itr i (j - i).toNat) H1
theorem pi_rgB1 {a : Expr} {ta : TA} {p pos : Pos} (hg : Gl X "range") (hm : X.mg "range" = none) (ha : PA X [a] ta) (hs : starEach [a] X.env = [(false, eval a X.env)]) : PI X tg (.Call (.Name "range" p) [a] [] pos) (iRgB1 ta) := by
  refine ⟨fun pins s σ H R I h => Call_ (ld_blt I hg hm boot_range (PyProof.Rows.callWith_type1 (thn (ha.run pos pins s σ H _ I h) fun us s1 ⟨vs, H1, I1, r1, q1⟩ => ?_) hs rfl))⟩
  obtain ⟨j, rfl, q⟩ := q1
  rcases r1 with _ | ⟨⟨t, rfl⟩, _ | _⟩
  exact call_range_1 (rangeB_it I1 (by simpa using q))
theorem pi_rgB2 {a b : Expr} {ta : TA} {p pos : Pos} (hg : Gl X "range") (hm : X.mg "range" = none) (ha : PA X [a, b] ta) (hs : starEach [a, b] X.env = [(false, eval a X.env), (false, eval b X.env)]) (hs2 : starEach [b] X.env = [(false, eval b X.env)]) :
    PI X tg (.Call (.Name "range" p) [a, b] [] pos) (iRgB2 ta) := by
  refine ⟨fun pins s σ H R I h => Call_ (ld_blt I hg hm boot_range (PyProof.Rows.callWith_type1 (thn (ha.run pos pins s σ H _ I h) fun us s1 ⟨vs, H1, I1, r1, q1⟩ => ?_) (by rw [hs, hs2]) (by rw [hs2]; rfl)))⟩
  obtain ⟨i, j, rfl, q⟩ := q1
  rcases r1 with _ | ⟨⟨t, rfl⟩, _ | ⟨⟨t', rfl⟩, _ | _⟩⟩
  exact call_range_2 (rangeB_it I1 q)
end
end Z

namespace Z
open PySem PySem.Spec PyProof.Rows L2
variable {ω : Type}

/-! ### statements -/
def zSeq (t u : TSZ ω) : TSZ ω := fun D δ w => t { D with nx := u D } δ w
def zNx : TSZ ω := fun D δ w => D.nx δ w
def zBk : TSZ ω := fun D δ w => D.bk δ w
def zCt : TSZ ω := fun D δ w => D.ct δ w
def zAsg (i : Nat) (te : TEZ ω) : TSZ ω := fun D δ w => te δ w (fun d w' => D.nx (δ.set i (.val d)) w') (fun e w' => D.ex e δ w')
def zOwn (i : Nat) (te : TAZ ω) : TSZ ω := fun D δ w => te δ w (fun l w' => D.nx (δ.set i (.own l)) w') (fun e w' => D.ex e δ w')
def zFrz (i : Nat) (t : TSZ ω) : TSZ ω := fun D δ w => match δ[i]? with | some (.own l) => t D (δ.set i (.val (.lst l))) w | _ => False
def zRet (te : TEZ ω) : TSZ ω := fun D δ w => te δ w (fun d w' => D.rt d w') (fun e w' => D.ex e δ w')
def zRetN : TSZ ω := fun D _ w => D.rt .non w
def zDrop (te : TEZ ω) : TSZ ω := fun D δ w => te δ w (fun _ w' => D.nx δ w') (fun e w' => D.ex e δ w')
def zIf (c : TTZ ω) (t u : TSZ ω) : TSZ ω := fun D δ w => c δ w (fun b w' => (b = true → t D δ w') ∧ (b = false → u D δ w')) (fun e w' => D.ex e δ w')
def zRaise (e : Nat) : TSZ ω := fun D δ w => D.ex e δ w
def zNever : TSZ ω := fun _ _ _ => False
def zWhile (c : TTZ ω) (t : TSZ ω) : TSZ ω := fun D δ w => ∃ I : Nat → List Sl → ω → Prop, (∃ m, I m δ w) ∧ ∀ m δ w, I m δ w → c δ w (fun b w' =>
  (b = true → t { D with nx := fun δ' w' => ∃ m', m' < m ∧ I m' δ' w', ct := fun δ' w' => ∃ m', m' < m ∧ I m' δ' w', bk := D.nx } δ w') ∧ (b = false → D.nx δ w')) (fun e w' => D.ex e δ w')
section
variable {X : Cx} {W : Wp ω} {pos : Pos} {st : Stmt} {rest : List Stmt} {t u : TSZ ω} {e : Expr} {te : TEZ ω}
theorem zb_nil : PBZ X W [] zNx := fun Z ex tk => pbI pss_nil fun D σ H ⟨Dz, _, EI, h⟩ => EI.nx _ _ h
theorem zb_cons (h : PSZ X W st t) (g : PBZ X W rest u) : PBZ X W (st :: rest) (zSeq t u) := fun Z ex tk => pbI (pss_cons (h Z ex tk) (g Z ex tk)) fun D σ H ⟨Dz, e, EI, h⟩ =>
  ⟨{ Dz with nx := u Dz }, e, ⟨fun σ' H' h' => ⟨Dz, e, EI, h'⟩, EI.bk, EI.ct, EI.rt⟩, h⟩
theorem zb_one (h : PSZ X W st t) : PBZ X W [st] t := fun Z ex tk => pss_one (h Z ex tk)
theorem z_pass : PSZ X W (.Pass pos) zNx := fun Z ex tk => psI ps_pass fun D σ H ⟨Dz, _, EI, h⟩ => EI.nx _ _ h
theorem z_break : PSZ X W (.Break pos) zBk := fun Z ex tk => psI ps_break fun D σ H ⟨Dz, _, EI, h⟩ => EI.bk _ _ h
theorem z_cont : PSZ X W (.Continue pos) zCt := fun Z ex tk => psI ps_continue fun D σ H ⟨Dz, _, EI, h⟩ => EI.ct _ _ h
theorem z_never : PSZ X W st zNever := fun Z ex tk => psI ps_never fun D σ H ⟨Dz, _, EI, G, M, δ, w, a, h⟩ => h
theorem z_set (i : Nat) {x : Str} {pos' : Pos} (he : PEZ X W e te) (hN : X.N.Nodup) (hi : X.N[i]? = some x := by rfl) (hx : Loc X.env.scope x := by first | exact Or.inl rfl | exact Or.inr rfl)
    (hs : swapsWith e (some (.Name x pos')) pos.line X.env = pure false := by rfl) (hf : X.fn x = true ∨ X.env.scope.names.lookup x = some .local := by first | exact .inl rfl | exact .inr rfl) :
    PSZ X W (.Assign [.Name x pos'] e pos) (zAsg i te) := fun Z ex tk => psI (ps_set hN hi hx (he.run Z ex tk) hs hf) fun D σ H ⟨Dz, hex, EI, G, M, δ, w, a, h⟩ => by
  subst hex
  exact ⟨G, M, δ, w, a, he.mo (fun d w1 h1 v H1 G1 M1 o1 r1 => EI.nx _ _ ⟨G1, M1, _, w1, (a.go o1).set r1, h1⟩) h⟩
theorem z_own (i : Nat) {x : Str} {pos' : Pos} {ta : TAZ ω} (he : PFZ X W e ta) (hN : X.N.Nodup) (hi : X.N[i]? = some x := by rfl) (hx : Loc X.env.scope x := by first | exact Or.inl rfl | exact Or.inr rfl)
    (hs : swapsWith e (some (.Name x pos')) pos.line X.env = pure false := by rfl) (hf : X.fn x = true ∨ X.env.scope.names.lookup x = some .local := by first | exact .inl rfl | exact .inr rfl) :
    PSZ X W (.Assign [.Name x pos'] e pos) (zOwn i ta) := fun Z ex tk => psI (ps_set hN hi hx (he.run Z ex tk) hs hf) fun D σ H ⟨Dz, hex, EI, G, M, δ, w, a, h⟩ => by
  subst hex
  exact ⟨G, M, δ, w, a, he.mo (fun l w1 h1 p vs H1 G1 M1 o1 r1 n1 => EI.nx _ _ ⟨G1, M1, _, w1, (a.go o1).setOwn n1.2.1 n1.2.2.1 n1.2.2.2 (newOf a n1.1).1 r1 (newOf a n1.1).2, h1⟩) h⟩
theorem zb_frz (i : Nat) {sts : List Stmt} (h : PBZ X W sts t) : PBZ X W sts (zFrz i t) := fun Z ex tk => pbI (h Z ex tk) fun D σ H ⟨Dz, hex, EI, G, M, δ, w, a, q⟩ => by
  unfold zFrz at q
  split at q
  · rename_i l e
    obtain ⟨G', gg, a'⟩ := a.freeze e
    exact ⟨Dz, hex, EI, G', M, _, w, a', q⟩
  · exact q.elim
theorem z_ret (he : PEZ X W e te) : PSZ X W (.Return (some e) pos) (zRet te) := fun Z ex tk => psI (ps_ret (he.run Z ex tk)) fun D σ H ⟨Dz, hex, EI, G, M, δ, w, a, h⟩ => by
  subst hex
  exact ⟨G, M, δ, w, a, he.mo (fun d w1 h1 v H1 G1 M1 o1 r1 => EI.rt v H1 G1 M1 d w1 o1.pt (a.go o1).nx r1 h1) h⟩
theorem z_retN : PSZ X W (.Return none pos) zRetN := fun Z ex tk => psI ps_retN fun D σ H ⟨Dz, hex, EI, G, M, δ, w, a, h⟩ => EI.rt .non H G M .non w a.pt a.nx .non h
theorem z_drop (he : PEZ X W e te) (hs : swapsWith e none pos.line X.env = pure false := by rfl) : PSZ X W (.Expr e pos) (zDrop te) := fun Z ex tk => psI (ps_expr (he.run Z ex tk) hs) fun D σ H ⟨Dz, hex, EI, G, M, δ, w, a, h⟩ => by
  subst hex
  exact ⟨G, M, δ, w, a, he.mo (fun d w1 h1 v H1 G1 M1 o1 r1 => EI.nx _ _ ⟨G1, M1, δ, w1, a.go o1, h1⟩) h⟩
theorem z_if {c : Expr} {a b : List Stmt} {tc : TTZ ω} (hc : PTZ X W c tc) (ha : PBZ X W a t) (hb : PBZ X W b u) : PSZ X W (.If c a b pos) (zIf tc t u) := fun Z ex tk => psI (ps_if (hc.run Z ex tk) (ha Z ex tk) (hb Z ex tk)) fun D σ H ⟨Dz, hex, EI, G, M, δ, w, a, h⟩ => by
  subst hex
  exact ⟨G, M, δ, w, a, hc.mo (fun k w1 h1 H1 G1 M1 o1 => by
    cases k with
    | true => rw [if_pos rfl]; exact ⟨Dz, rfl, EI, G1, M1, δ, w1, a.go o1, h1.1 rfl⟩
    | false => rw [if_neg Bool.false_ne_true]; exact ⟨Dz, rfl, EI, G1, M1, δ, w1, a.go o1, h1.2 rfl⟩) h⟩
theorem z_while {c : Expr} {body : List Stmt} {tc : TTZ ω} (hc : PTZ X W c tc) (hb : PBZ X W body t) (hp : PassesOwn (model X.prog X.w) X.A X.env X.xe := by first | exact PassesOwn.leaving | exact PassesOwn.looking | exact PassesOwn.never | assumption) :
    PSZ X W (.While c body [] pos) (zWhile tc t) := fun Z ex tk => psI (ps_while hp (hc.run Z ex tk) (hb Z ex tk)) fun D σ H ⟨Dz, hex, EI, G, M, δ, w, a, I, ⟨m0, h0⟩, hs⟩ => by
  subst hex
  refine ⟨fun m => LS X.K W Z (I m), ⟨m0, G, M, δ, w, a, h0⟩, ?_⟩
  rintro m σ1 H1 ⟨G1, M1, δ1, w1, a1, h1⟩
  refine ⟨G1, M1, δ1, w1, a1, hc.mo (fun k w2 h2 H2 G2 M2 o2 => ?_) (hs m δ1 w1 h1)⟩
  cases k with
  | true =>
    rw [if_pos rfl]
    refine ⟨LS X.K W Z fun δ' w' => ∃ m', m' < m ∧ I m' δ' w', ?_, { Dz with nx := fun δ' w' => ∃ m', m' < m ∧ I m' δ' w', ct := fun δ' w' => ∃ m', m' < m ∧ I m' δ' w', bk := Dz.nx }, rfl, ⟨fun σ3 H3 h3 => h3, EI.nx, fun σ3 H3 h3 => h3, EI.rt⟩, G2, M2, δ1, w2, a1.go o2, h2.1 rfl⟩
    rintro σ3 H3 ⟨G3, M3, δ3, w3, a3, m', hm, h3⟩
    exact ⟨m', hm, G3, M3, δ3, w3, a3, h3⟩
  | false =>
    rw [if_neg Bool.false_ne_true]
    exact EI.nx _ _ ⟨G2, M2, δ1, w2, a1.go o2, h2.2 rfl⟩
end

/-! ### targets -/
abbrev TGZ := D → List Sl → (List Sl → Prop) → Prop
def gN (i : Nat) : TGZ := fun d δ k => k (δ.set i (.val d))
def setAll (δ : List Sl) : List Nat → List D → List Sl
  | i :: is, d :: ds => setAll (δ.set i (.val d)) is ds
  | _, _ => δ
def gU (is : List Nat) : TGZ := fun d δ k => match d with | .tup l => l.length = is.length ∧ k (setAll δ is l) | _ => False
structure GoG (K : PySem.W.Frag) (g : TG) (gz : TGZ) : Prop where
  mo : ∀ {d : D} {δ : List Sl} {k k' : List Sl → Prop}, (∀ δ', k δ' → k' δ') → gz d δ k → gz d δ k'
  go : ∀ {ω : Type} (W : Wp ω) (Z : Zx) (σ : L2.St) (H G M : Hp) (δ : List Sl) (w : ω) (v : V) (d : D) (q : List Sl → Prop) (Q : L2.St → Hp → Prop), SR K W Z σ H G M δ w → Rep K G v d → gz d δ q →
    (∀ σ' δ', q δ' → SR K W Z σ' H G M δ' w → Q σ' H) → g v σ H Q
structure PGZ (X : Cx) (tg : Expr) (g : TG) (gz : TGZ) : Prop where
  gg : GoG X.K g gz
  pg : PG X tg g
def gNs : List Nat → TGs
  | [] => gNil
  | i :: is => gCons (gName i) (gNs is)
theorem gNs_go {K : PySem.W.Frag} {W : Wp ω} {Z : Zx} {H G M : Hp} {w : ω} {Q : L2.St → Hp → Prop} : ∀ (is : List Nat) (vs : List V) (l : List D) (σ : L2.St) (δ : List Sl), SR K W Z σ H G M δ w → RepL K G vs l → l.length = is.length →
    (∀ σ', SR K W Z σ' H G M (setAll δ is l) w → Q σ' H) → gNs is vs σ H Q
  | [], _, _, σ, δ, a, r, hl, k => by
    cases r with
    | nil => exact ⟨rfl, k σ a⟩
    | cons _ _ => cases hl
  | i :: is, _, _, σ, δ, a, r, hl, k => by
    cases r with
    | nil => cases hl
    | cons r1 r2 =>
      exact ⟨_, _, rfl, gNs_go is _ _ _ _ (a.set r1) r2 (Nat.succ.inj hl) k⟩
theorem gg_name {K : PySem.W.Frag} (i : Nat) : GoG K (gName i) (gN i) := ⟨fun k h => k _ h, fun W Z σ H G M δ w v d q Q a r h k => k _ _ h (a.set r)⟩
theorem gg_tup {K : PySem.W.Frag} (is : List Nat) : GoG K (gTup K is.length (gNs is)) (gU is) := ⟨fun k h => by
  unfold gU at h ⊢
  split at h
  · exact ⟨h.1, k _ h.2⟩
  · exact h.elim, fun W Z σ H G M δ w v d q Q a r h k => by
  cases d with
  | tup l =>
    cases r with
    | tup s r =>
      exact ⟨_, _, rfl, sqTE a.pt.gh s, by rw [r.len]; exact h.1, gNs_go is _ _ _ _ a r h.1 fun σ' a' => k σ' _ h.2 a'⟩
  | _ => exact h.elim⟩
section
variable {X : Cx} {W : Wp ω} {pos : Pos} {e : Expr} {te : TEZ ω} {es : List Expr}
theorem g_name (i : Nat) {x : Str} (hN : X.N.Nodup) (hi : X.N[i]? = some x := by rfl) (hx : Loc X.env.scope x := by first | exact Or.inl rfl | exact Or.inr rfl) (hf : X.fn x = true ∨ X.env.scope.names.lookup x = some .local := by first | exact .inl rfl | exact .inr rfl) :
    PGZ X (.Name x pos) (gName i) (gN i) := ⟨gg_name i, pg_name hN hi hx hf⟩
theorem gs_nil : PGs X [] (gNs []) := pgs_nil
theorem gs_cons (i : Nat) {x : Str} {is : List Nat} (hN : X.N.Nodup) (h2 : PGs X es (gNs is)) (hi : X.N[i]? = some x := by rfl) (hx : Loc X.env.scope x := by first | exact Or.inl rfl | exact Or.inr rfl) (hf : X.fn x = true ∨ X.env.scope.names.lookup x = some .local := by first | exact .inl rfl | exact .inr rfl)
    (hs : (assignEach (.Name x pos :: es) X.env).map (·.2) = assign (.Name x pos) X.env :: (assignEach es X.env).map (·.2) := by rfl) : PGs X (.Name x pos :: es) (gNs (i :: is)) := pgs_cons (pg_name hN hi hx hf) h2 hs
theorem g_tup {k : Nat} {is : List Nat} (h : PGs X es (gNs is)) (hc : X.calm = true := by rfl) (hn : (assignEach es X.env).length = is.length := by rfl) (hst : (assignEach es X.env).findIdx? (·.1) = none := by rfl) :
    PGZ X (.Tuple es k pos) (gTup X.K is.length (gNs is)) (gU is) := ⟨gg_tup is, pg_tup hc h hn hst⟩
/-- target = value -/
def zAsgG (te : TEZ ω) (gz : TGZ) : TSZ ω := fun D δ w => te δ w (fun d w' => gz d δ fun δ' => D.nx δ' w') (fun e w' => D.ex e δ w')
theorem z_asg {tg : Expr} {g : TG} {gz : TGZ} (he : PEZ X W e te) (hg : PGZ X tg g gz) (hs : swapsWithSole [tg] e pos.line X.env = pure false := by rfl) (hw : swappedStores [tg] e X.env = pure none := by rfl)
    (h1 : (assignEach [tg] X.env).map (·.2) = [assign tg X.env] := by rfl) : PSZ X W (.Assign [tg] e pos) (zAsgG te gz) := fun Z ex tk => psI (ps_asg (he.run Z ex tk) hg.pg hs hw h1) fun D σ H ⟨Dz, hex, EI, G, M, δ, w, a, h⟩ => by
  subst hex
  exact ⟨G, M, δ, w, a, he.mo (fun d w1 h1 v H1 G1 M1 o1 r1 => hg.gg.go W Z σ H1 G1 M1 δ w1 v d _ _ (a.go o1) r1 h1 fun σ' δ' q a' => EI.nx _ _ ⟨G1, M1, δ', w1, a', q⟩) h⟩
/-- a, b = x, y -/
def zPar (i j : Nat) (ta : TAZ ω) : TSZ ω := fun D δ w => ta δ w (fun l w' => match l with | [x, y] => D.nx ((δ.set i (.val x)).set j (.val y)) w' | _ => False) (fun e w' => D.ex e δ w')
theorem z_par (i j : Nat) {x y : Str} {a b : Expr} {ta : TAZ ω} {px py pt : Pos} {kt k2 : Nat} {pt2 : Pos} (hN : X.N.Nodup) (ha : PAZ X W [a, b] ta) (hc : X.calm = true := by rfl) (hi : X.N[i]? = some x := by rfl) (hj : X.N[j]? = some y := by rfl) (hij : i ≠ j := by decide)
    (hx : X.env.scope.names.lookup x = some .local := by rfl) (hy : X.env.scope.names.lookup y = some .local := by rfl)
    (hw : swappedStores [.Tuple [.Name x px, .Name y py] kt pt] (.Tuple [a, b] k2 pt2) X.env = pure (some [x, y]) := by rfl)
    (hs : swapsWithSole [.Tuple [.Name x px, .Name y py] kt pt] (.Tuple [a, b] k2 pt2) pos.line X.env = pure false := by rfl) :
    PSZ X W (.Assign [.Tuple [.Name x px, .Name y py] kt pt] (.Tuple [a, b] k2 pt2) pos) (zPar i j ta) := fun Z ex tk => psI (ps_par hc hN hi hj hij hx hy (ha.run Z ex tk) hw hs) fun D σ H ⟨Dz, hex, EI, G, M, δ, w, a, h⟩ => by
  subst hex
  refine ⟨G, M, δ, w, a, ha.mo (fun l w1 h1 vs H1 G1 M1 o1 r1 => ?_) h⟩
  have a1 := a.go o1
  split at h1
  · cases r1 with
    | cons r1 r2 =>
      cases r2 with
      | cons r2 r3 =>
        cases r3
        exact ⟨_, _, rfl, EI.nx _ _ ⟨G1, M1, _, w1, (a1.set r1).set r2, h1⟩⟩
  · exact h1.elim
end

/-! ### for -/
def liB (K : PySem.W.Frag) (W : Wp ω) (Z : Zx) (ex : Nat → List Sl → ω → Prop) (ts : TSZ ω) : TS := fun D σ H => ∃ S, Ext Z.S S ∧ liS K W ⟨Z.H0, Z.G0, Z.M0, S⟩ ex ts D σ H
theorem tkLe {X : Cx} {W : Wp ω} {Z : Zx} {ex : Nat → List Sl → ω → Prop} {S : Hp} (tk : Takes X (WXz X.K W Z ex)) (hS : Ext Z.S S) : Takes X (WXz X.K W ⟨Z.H0, Z.G0, Z.M0, S⟩ ex) :=
  tk.imp fun c d σ H ⟨h1, e, h2, G, M, δ, w, a, h3⟩ => ⟨h1, e, h2, G, M, δ, w, a.le hS, h3⟩
theorem zB_run {X : Cx} {W : Wp ω} {sts : List Stmt} {t : TSZ ω} (h : PBZ X W sts t) (Z : Zx) (ex : Nat → List Sl → ω → Prop) (tk : Takes X (WXz X.K W Z ex)) : PSs X sts (liB X.K W Z ex t) :=
  ⟨fun pins s σ H D I ⟨S, hS, q⟩ => (h ⟨Z.H0, Z.G0, Z.M0, S⟩ ex (tkLe tk hS)).run pins s σ H D I q⟩
theorem EndI.loop {K : PySem.W.Frag} {W : Wp ω} {Z : Zx} {S : Hp} {Dz : EndZ ω} {D : Ends} (EI : EndI K W Z Dz D) (hS : Ext Z.S S) {I : List Sl → ω → Prop} {Pv : L2.St → Hp → Prop} (h : ∀ σ H, LS K W ⟨Z.H0, Z.G0, Z.M0, S⟩ I σ H → Pv σ H) :
    EndI K W ⟨Z.H0, Z.G0, Z.M0, S⟩ { Dz with nx := I, ct := I, bk := Dz.nx } { D with nx := Pv, ct := Pv, bk := D.nx } :=
  ⟨h, fun σ H ⟨G, M, δ, w, a, q⟩ => EI.nx σ H ⟨G, M, δ, w, a.le hS, q⟩, h, EI.rt⟩
/-- a loop over given data -/
def zLoop (l : List D) (gz : TGZ) (t : TSZ ω) : TSZ ω := fun D δ w => ∃ I : Nat → List Sl → ω → Prop, I 0 δ w ∧ (∀ i d δ' w', l[i]? = some d → I i δ' w' → gz d δ' fun δ2 => t { D with nx := I (i + 1), ct := I (i + 1), bk := D.nx } δ2 w') ∧ ∀ δ' w', I l.length δ' w' → D.nx δ' w'
def zForL (te : TEZ ω) (gz : TGZ) (t : TSZ ω) : TSZ ω := fun D δ w => te δ w (fun d w1 => match d with | .lst l => zLoop l gz t D δ w1 | .arr l => zLoop l gz t D δ w1 | _ => False) (fun e w' => D.ex e δ w')
def zForT (te : TEZ ω) (gz : TGZ) (t : TSZ ω) : TSZ ω := fun D δ w => te δ w (fun d w1 => match d with | .tup l => zLoop l gz t D δ w1 | _ => False) (fun e w' => D.ex e δ w')
def zLoopR (lo : Int) (n : Nat) (j : Nat) (t : TSZ ω) : TSZ ω := fun D δ w => ∃ I : Nat → List Sl → ω → Prop, I 0 δ w ∧ (∀ (i : Nat) δ' w', i < n → I i δ' w' → t { D with nx := I (i + 1), ct := I (i + 1), bk := D.nx } (δ'.set j (.val (.int (lo + i)))) w') ∧ ∀ δ' w', I n δ' w' → D.nx δ' w'
def zForR1 (ta : TAZ ω) (j : Nat) (t : TSZ ω) : TSZ ω := fun D δ w => ta δ w (fun l w1 => match l with | [.int n] => zLoopR 0 n.toNat j t D δ w1 | _ => False) (fun e w' => D.ex e δ w')
def zForR2 (ta : TAZ ω) (j : Nat) (t : TSZ ω) : TSZ ω := fun D δ w => ta δ w (fun l w1 => match l with | [.int m, .int n] => zLoopR m (n - m).toNat j t D δ w1 | _ => False) (fun e w' => D.ex e δ w')
section
variable {X : Cx} {W : Wp ω} {pos : Pos} {e : Expr} {te : TEZ ω} {es : List Expr} {tg : Expr} {g : TG} {gz : TGZ} {body : List Stmt} {t : TSZ ω}
theorem z_forL (he : PEZ X W e te) (hg : PGZ X tg g gz) (hb : PBZ X W body t) (hp : PassesOwn (model X.prog X.w) X.A X.env X.xe := by first | exact PassesOwn.leaving | exact PassesOwn.looking | exact PassesOwn.never | assumption) (hc : X.calm = true := by rfl)
    (hs : ∀ x, foldedSetIterable e X.env x = pure x := by intro _; rfl) : PSZ X W (.For tg e body [] pos) (zForL te gz t) := fun Z ex tk => psI (ps_for hp hc (pi_list (he.run Z ex tk)) hg.pg (zB_run hb Z ex tk) hs) fun DE σ H ⟨Dz, hex, EI, G, M, δ, w, a, h⟩ => by
  subst hex
  have key : ∀ {p : Addr} {vs : List V} {l : List D} {G1 M1 H1 : Hp} {w1 : ω}, SR X.K W Z σ H1 G1 M1 δ w1 → SqL X.K G1 p vs → RepL X.K G1 vs l → zLoop l gz t Dz δ w1 → ∃ a, V.ref p = .ref a ∧ (∃ xs, SqL X.K H1 a xs) ∧ (∃ W' : Nat → Nat → L2.St → Hp → Prop, (∃ m, W' 0 m σ H1) ∧ ∀ i m σ H, W' i m σ H →
      ((Itl X.K a).stop i H ∧ DE.nx σ H) ∨ ((Itl X.K a).go i H ∧ ∃ N : L2.St → Hp → Prop, (∀ σ' H', N σ' H' → ∃ m', m' < m ∧ W' (i + 1) m' σ' H') ∧ ∀ x H', (Itl X.K a).yld i H x H' → g x σ H' fun σ2 H2 => liB X.K W Z Dz.ex t { DE with nx := N, ct := N, bk := DE.nx } σ2 H2)) := by
    intro p vs l G1 M1 H1 w1 a1 hs r1 h1
    refine ⟨p, rfl, ⟨vs, sqLE a1.pt.gh hs⟩, ?_⟩
    obtain ⟨I, i0, is, id⟩ := h1
    have hl := r1.len
    refine for_list (K := X.K) (a := p) (xs := vs) (fun i => LS X.K W ⟨Z.H0, Z.G0, Z.M0, G1⟩ (I i)) ⟨G1, M1, δ, w1, a1.more, i0⟩ ?_ ?_ ?_
    · rintro i σ2 H2 _ ⟨G2, M2, δ2, w2, a2, _⟩
      exact sqLE (a2.st.tr a2.pt.gh) hs
    · rintro i x σ2 H2 hx ⟨G2, M2, δ2, w2, a2, q2⟩
      obtain ⟨d, hd, rd⟩ := r1.getV hx
      refine hg.gg.go W _ σ2 H2 G2 M2 δ2 w2 x d _ _ a2 (rd.up a2.st) (is i d δ2 w2 hd q2) fun σ3 δ3 q3 a3 => ?_
      exact ⟨G1, a1.st, { Dz with nx := I (i + 1), ct := I (i + 1), bk := Dz.nx }, rfl, EI.loop a1.st (fun _ _ h => h), G2, M2, δ3, w2, a3, q3⟩
    · rintro σ2 H2 ⟨G2, M2, δ2, w2, a2, q2⟩
      rw [hl] at q2
      exact EI.nx _ _ ⟨G2, M2, δ2, w2, a2.le a1.st, id δ2 w2 q2⟩
  refine ⟨G, M, δ, w, a, he.mo (fun d w1 h1 v H1 G1 M1 o1 r1 => ?_) h⟩
  have a1 := a.go o1
  cases d with
  | lst l =>
    cases r1 with
    | lst s r => exact key a1 (.inl (.inl s)) r h1
  | arr l =>
    cases r1 with
    | arr s r => exact key a1 s r h1
  | _ => exact False.elim h1
theorem z_forT (he : PEZ X W e te) (hg : PGZ X tg g gz) (hb : PBZ X W body t) (hp : PassesOwn (model X.prog X.w) X.A X.env X.xe := by first | exact PassesOwn.leaving | exact PassesOwn.looking | exact PassesOwn.never | assumption) (hc : X.calm = true := by rfl)
    (hs : ∀ x, foldedSetIterable e X.env x = pure x := by intro _; rfl) : PSZ X W (.For tg e body [] pos) (zForT te gz t) := fun Z ex tk => psI (ps_for hp hc (pi_tup (he.run Z ex tk)) hg.pg (zB_run hb Z ex tk) hs) fun DE σ H ⟨Dz, hex, EI, G, M, δ, w, a, h⟩ => by
  subst hex
  refine ⟨G, M, δ, w, a, he.mo (fun d w1 h1 v H1 G1 M1 o1 r1 => ?_) h⟩
  have a1 := a.go o1
  cases d with
  | tup l =>
    cases r1 with
    | @tup p vs _ hs r1 =>
      refine ⟨p, rfl, ⟨vs, sqTE a1.pt.gh hs⟩, ?_⟩
      obtain ⟨I, i0, is, id⟩ := h1
      have hl := r1.len
      refine for_tup (K := X.K) (a := p) (xs := vs) (fun i => LS X.K W ⟨Z.H0, Z.G0, Z.M0, G1⟩ (I i)) ⟨G1, M1, δ, w1, a1.more, i0⟩ ?_ ?_ ?_
      · rintro i σ2 H2 _ ⟨G2, M2, δ2, w2, a2, _⟩
        exact sqTE (a2.st.tr a2.pt.gh) hs
      · rintro i x σ2 H2 hx ⟨G2, M2, δ2, w2, a2, q2⟩
        obtain ⟨d, hd, rd⟩ := r1.getV hx
        refine hg.gg.go W _ σ2 H2 G2 M2 δ2 w2 x d _ _ a2 (rd.up a2.st) (is i d δ2 w2 hd q2) fun σ3 δ3 q3 a3 => ?_
        exact ⟨G1, a1.st, { Dz with nx := I (i + 1), ct := I (i + 1), bk := Dz.nx }, rfl, EI.loop a1.st (fun _ _ h => h), G2, M2, δ3, w2, a3, q3⟩
      · rintro σ2 H2 ⟨G2, M2, δ2, w2, a2, q2⟩
        rw [hl] at q2
        exact EI.nx _ _ ⟨G2, M2, δ2, w2, a2.le a1.st, id δ2 w2 q2⟩
  | _ => exact False.elim h1
theorem loop_range {Z : Zx} {Dz : EndZ ω} {DE : Ends} {σ : L2.St} {H G M : Hp} {δ : List Sl} {w : ω} {lo : Int} {n j : Nat} (EI : EndI X.K W Z Dz DE) (a : SR X.K W Z σ H G M δ w) (h : zLoopR lo n j t Dz δ w) :
    ∃ W' : Nat → Nat → L2.St → Hp → Prop, (∃ m, W' 0 m σ H) ∧ ∀ i m σ H, W' i m σ H →
      ((Itr lo n).stop i H ∧ DE.nx σ H) ∨ ((Itr lo n).go i H ∧ ∃ N : L2.St → Hp → Prop, (∀ σ' H', N σ' H' → ∃ m', m' < m ∧ W' (i + 1) m' σ' H') ∧ ∀ x H', (Itr lo n).yld i H x H' → gName j x σ H' fun σ2 H2 => liB X.K W Z Dz.ex t { DE with nx := N, ct := N, bk := DE.nx } σ2 H2) := by
  obtain ⟨I, i0, is, id⟩ := h
  refine for_range (fun i => LS X.K W ⟨Z.H0, Z.G0, Z.M0, G⟩ (I i)) ⟨G, M, δ, w, a.more, i0⟩ ?_ ?_
  · rintro i σ2 H2 hx ⟨G2, M2, δ2, w2, a2, q2⟩
    exact ⟨G, a.st, { Dz with nx := I (i + 1), ct := I (i + 1), bk := Dz.nx }, rfl, EI.loop a.st (fun _ _ h => h), G2, M2, _, w2, a2.set (.int _), is i δ2 w2 hx q2⟩
  · rintro σ2 H2 ⟨G2, M2, δ2, w2, a2, q2⟩
    exact EI.nx _ _ ⟨G2, M2, δ2, w2, a2.le a.st, id δ2 w2 q2⟩
theorem z_forR1 (j : Nat) {x : Str} {ea : Expr} {ta : TAZ ω} {px p : Pos} {pc : Pos} (hm : X.mg "range" = none) (ha : PAZ X W [ea] ta) (hb : PBZ X W body t) (hN : X.N.Nodup) (hi : X.N[j]? = some x := by rfl) (hx : Loc X.env.scope x := by first | exact Or.inl rfl | exact Or.inr rfl)
    (hf : X.fn x = true ∨ X.env.scope.names.lookup x = some .local := by first | exact .inl rfl | exact .inr rfl) (hgl : Gl X "range" := by rfl) (hp : PassesOwn (model X.prog X.w) X.A X.env X.xe := by first | exact PassesOwn.leaving | exact PassesOwn.looking | exact PassesOwn.never | assumption) (hc : X.calm = true := by rfl)
    (hse : starEach [ea] X.env = [(false, eval ea X.env)] := by rfl) (hs : ∀ x, foldedSetIterable (.Call (.Name "range" p) [ea] [] pc) X.env x = pure x := by intro _; rfl) : PSZ X W (.For (.Name x px) (.Call (.Name "range" p) [ea] [] pc) body [] pos) (zForR1 ta j t) := fun Z ex tk =>
  psI (ps_for hp hc (pi_rgB1 hgl hm (ha.run Z ex tk) hse) (pg_name hN hi hx hf) (zB_run hb Z ex tk) hs) fun DE σ H ⟨Dz, hex, EI, G, M, δ, w, a, h⟩ => by
  subst hex
  refine ⟨G, M, δ, w, a, ha.mo (fun l w1 h1 vs H1 G1 M1 o1 r1 => ?_) h⟩
  have a1 := a.go o1
  split at h1
  · rename_i n
    cases r1 with
    | cons r1 r2 =>
      cases r1
      cases r2
      exact ⟨n, rfl, loop_range EI a1 h1⟩
  · exact h1.elim
theorem z_forR2 (j : Nat) {x : Str} {ea eb : Expr} {ta : TAZ ω} {px p : Pos} {pc : Pos} (hm : X.mg "range" = none) (ha : PAZ X W [ea, eb] ta) (hb : PBZ X W body t) (hN : X.N.Nodup) (hi : X.N[j]? = some x := by rfl) (hx : Loc X.env.scope x := by first | exact Or.inl rfl | exact Or.inr rfl)
    (hf : X.fn x = true ∨ X.env.scope.names.lookup x = some .local := by first | exact .inl rfl | exact .inr rfl) (hgl : Gl X "range" := by rfl) (hp : PassesOwn (model X.prog X.w) X.A X.env X.xe := by first | exact PassesOwn.leaving | exact PassesOwn.looking | exact PassesOwn.never | assumption) (hc : X.calm = true := by rfl)
    (hse : starEach [ea, eb] X.env = [(false, eval ea X.env), (false, eval eb X.env)] := by rfl) (hse2 : starEach [eb] X.env = [(false, eval eb X.env)] := by rfl) (hs : ∀ x, foldedSetIterable (.Call (.Name "range" p) [ea, eb] [] pc) X.env x = pure x := by intro _; rfl) : PSZ X W (.For (.Name x px) (.Call (.Name "range" p) [ea, eb] [] pc) body [] pos) (zForR2 ta j t) := fun Z ex tk =>
  psI (ps_for hp hc (pi_rgB2 hgl hm (ha.run Z ex tk) hse hse2) (pg_name hN hi hx hf) (zB_run hb Z ex tk) hs) fun DE σ H ⟨Dz, hex, EI, G, M, δ, w, a, h⟩ => by
  subst hex
  refine ⟨G, M, δ, w, a, ha.mo (fun l w1 h1 vs H1 G1 M1 o1 r1 => ?_) h⟩
  have a1 := a.go o1
  split at h1
  · rename_i m n
    cases r1 with
    | cons r1 r2 =>
      cases r1
      cases r2 with
      | cons r2 r3 =>
        cases r2
        cases r3
        exact ⟨m, n, rfl, loop_range EI a1 h1⟩
  · exact h1.elim
end
end Z

namespace Z
open PySem PySem.Spec PyProof.Rows L2
variable {ω : Type}

/-! ### defs: what they promise -/
def MoS (sp : SpZ ω) : Prop := ∀ {ds : List D} {w : ω} {Q Q' : D → ω → Prop} {E E' : Nat → ω → Prop}, (∀ d w', Q d w' → Q' d w') → (∀ e w', E e w' → E' e w') → sp ds w Q E → sp ds w Q' E'
def spz (K : PySem.W.Frag) (W : Wp ω) (sp : SpZ ω) : Sp := fun vs H Q E => ∃ G M ds w, Pt W H G M w ∧ RepL K G vs ds ∧ sp ds w (fun d w' => ∀ v H' G' M', Pt W H' G' M' w' → Nx H G M H' G' M' → Rep K G' v d → Q v H')
  (fun e w' => ∀ H' G' M', Pt W H' G' M' w' → Nx H G M H' G' M' → E (.ref (W.ec e)) none H')
structure Fd (P : Program) (w : World) (K : PySem.W.Frag) (mg : Str → Option Value) (base : Heap) (W : Wp ω) (k : Nat) (x : Str) (sp : SpZ ω) : Prop where
  mo : MoS sp
  ex : ∃ f fd ps, FnOk P w K mg base (L2.CX P w) k f fd ps (spz K W sp) ∧ mg x = some (.ref f) ∧ PySem.W.keepIn K (.ref f) = true ∧ Binds K fd ps []
/-- no world -/
def W0 (ec : Nat → Addr) : Wp Unit := ⟨fun _ _ M => ∀ p, M p = none, fun _ h => h, ec⟩
def zCall (sp : SpZ ω) (ta : TAZ ω) : TEZ ω := fun δ w Q E => ta δ w (fun ds w1 => sp ds w1 Q E) E
def zCallP (sp : SpZ Unit) (ta : TAZ ω) : TEZ ω := fun δ w Q E => ta δ w (fun ds w1 => sp ds () (fun d _ => Q d w1) (fun e _ => E e w1)) E
section
variable {X : Cx} {W : Wp ω} {pos p : Pos} {x : Str} {e : Expr} {es : List Expr} {ta : TAZ ω} {k j : Nat}
theorem Pt.pure {W : Wp ω} {ec : Nat → Addr} {H G M H' G' M' : Hp} {w : ω} (a : Pt W H G M w) (b : Pt (W0 ec) H' G' M' ()) (c : Nx H G (fun _ => none) H' G' M') : Pt W H' G' M w ∧ Nx H G M H' G' M := by
  have up : ∀ q z, H q = some z → H' q = some z := fun q z h => c.fr q z h rfl
  refine ⟨⟨b.gh, fun q z h => up q z (a.mh q z h), fun q z h => ?_, W.mono c.gg a.wd⟩, ⟨c.gg, fun q z h _ => up q z h, c.gn, fun q z h g => (by rw [h] at g; cases g), fun q z h => ⟨z, h⟩⟩⟩
  cases r : G q with
  | some y => exact a.dj q y r
  | none => exact a.mh.none' (c.gn q z h r)
theorem z_call {sp : SpZ ω} (d : Fd X.prog X.w X.K X.mg X.base W k x sp) (hr : Room j X.A) (ha : PAZ X W (e :: es) ta) (hj : k ≤ j := by decide) (hg : Gl X x := by rfl) (hdb : (x == ("__debug__" : Str)) = false := by decide)
    (he : starEach (e :: es) X.env = (false, eval e X.env) :: starEach es X.env := by rfl) (hpl : (backTo pos (starEach es X.env)).any (·.1) = false := by rfl) : PEZ X W (.Call (.Name x p) (e :: es) [] pos) (zCall sp ta) :=
  ⟨fun k h => ha.mo (fun _ _ h1 => d.mo k (fun _ _ q => q) h1) h, fun Z ex tk => by
    obtain ⟨f, fd, ps, F, hm, hk, hb⟩ := d.ex
    refine peI (pe_callS F (hr.mono hj) hg hm hk hb (fun σ => passAt tk σ) (ha.run Z ex tk) hdb he hpl) fun σ H Q ⟨G, M, δ, w, a, h⟩ => ?_
    refine ⟨G, M, δ, w, a, ha.mo (fun ds w1 h1 vs H1 G1 M1 o1 r1 => ⟨G1, M1, ds, w1, o1.pt, r1, d.mo (fun d2 w2 q2 v H2 G2 M2 b2 c2 r2 => q2 v H2 G2 M2 (o1.tr ⟨b2, c2⟩) r2) (fun e2 w2 q2 H2 G2 M2 b2 c2 => ?_) h1⟩) h⟩
    exact ⟨rfl, e2, rfl, G2, M2, δ, w2, (a.go o1).next b2 c2, q2⟩⟩
theorem z_callP {sp : SpZ Unit} (d : Fd X.prog X.w X.K X.mg X.base (W0 W.ec) k x sp) (hr : Room j X.A) (ha : PAZ X W (e :: es) ta) (hj : k ≤ j := by decide) (hg : Gl X x := by rfl) (hdb : (x == ("__debug__" : Str)) = false := by decide)
    (he : starEach (e :: es) X.env = (false, eval e X.env) :: starEach es X.env := by rfl) (hpl : (backTo pos (starEach es X.env)).any (·.1) = false := by rfl) : PEZ X W (.Call (.Name x p) (e :: es) [] pos) (zCallP sp ta) :=
  ⟨fun k h => ha.mo (fun _ _ h1 => d.mo (fun d _ q => k d _ q) (fun _ _ q => q) h1) h, fun Z ex tk => by
    obtain ⟨f, fd, ps, F, hm, hk, hb⟩ := d.ex
    refine peI (pe_callS F (hr.mono hj) hg hm hk hb (fun σ => passAt tk σ) (ha.run Z ex tk) hdb he hpl) fun σ H Q ⟨G, M, δ, w, a, h⟩ => ?_
    refine ⟨G, M, δ, w, a, ha.mo (fun ds w1 h1 vs H1 G1 M1 o1 r1 => ?_) h⟩
    refine ⟨G1, fun _ => none, ds, (), ⟨o1.pt.gh, fun _ _ z => (nomatch z), fun _ _ _ => rfl, fun _ => rfl⟩, r1, d.mo (fun d2 _ q2 v H2 G2 M2 b2 c2 r2 => ?_) (fun e2 _ q2 H2 G2 M2 b2 c2 => ?_) h1⟩
    · obtain ⟨b, c⟩ := o1.pt.pure b2 c2
      exact q2 v H2 G2 M1 (o1.tr ⟨b, c⟩) r2
    · obtain ⟨b, c⟩ := o1.pt.pure b2 c2
      exact ⟨rfl, e2, rfl, G2, M1, δ, w1, (a.go o1).next b c, q2⟩⟩
end
/-- the slots at a def's entry -/
def stZ (n : Nat) (ds : List D) : List Sl := ds.map .val ++ List.replicate (n - ds.length) .no
def endZ (Q : D → ω → Prop) (E : Nat → ω → Prop) : EndZ ω := ⟨fun _ w => Q .non w, Q, fun _ _ => False, fun _ _ => False, fun e _ w => E e w⟩
section
variable {P : Program} {w : World} {K : PySem.W.Frag} {mg : Str → Option Value} {base : Heap} {W : Wp ω}
theorem sr_start {Z : Zx} {N : List Str} {vs : List V} {ds : List D} {H G M : Hp} {w : ω} (pt : Pt W H G M w) (r : RepL K G vs ds) : SR K W ⟨H, G, M, fun _ => none⟩ (L2.start N vs) H G M (stZ N.length ds) w := by
  have hl := r.len
  refine ⟨pt, .rfl', fun _ _ z => (nomatch z), ?_, fun i s e => ?_, fun i j p l l' e1 e2 e3 e4 => ?_⟩
  · unfold stZ L2.start
    rw [List.length_append, List.length_append, List.length_map, List.length_map, List.length_replicate, List.length_replicate, hl]
  · unfold stZ at e
    by_cases hi : i < ds.length
    · rw [List.getElem?_append_left (by simpa using hi), List.getElem?_map] at e
      cases q : ds[i]? with
      | none => rw [q] at e; cases e
      | some d =>
        rw [q] at e
        cases e
        obtain ⟨v, h1, h2⟩ := r.get q
        refine ⟨v, ?_, h2⟩
        unfold L2.start
        rw [List.getElem?_append_left (by simpa [hl] using hi), List.getElem?_map, h1]
        rfl
    · rw [List.getElem?_append_right (by simpa using Nat.le_of_not_lt hi), List.getElem?_replicate] at e
      split at e
      · cases e; trivial
      · cases e
  · exfalso
    unfold stZ at e1
    by_cases hi : i < ds.length
    · rw [List.getElem?_append_left (by simpa using hi), List.getElem?_map] at e1
      cases q : ds[i]? with
      | none => rw [q] at e1; cases e1
      | some d => rw [q] at e1; cases e1
    · rw [List.getElem?_append_right (by simpa using Nat.le_of_not_lt hi), List.getElem?_replicate] at e1
      split at e1 <;> cases e1
theorem fnzOk {x qual : Str} {st : Stmt} {f : Addr} {fd : FuncData} {N ps : List Str} {k : Nat} {sp : SpZ ω} {tz : TSZ ω} (F : Fun K x qual st f fd) (S : FnScope N ps (defScope st))
    (len : ∀ {ds : List D} {w' : ω} {Q : D → ω → Prop} {E : Nat → ω → Prop}, sp ds w' Q E → ds.length = ps.length)
    (der : ∀ (cdv : Value) (A : Around) (outer : List Env) (s : Shared) (H : Hp) (E : XK), Room k (A.deeper (envOfC qual (defScope st) s.heap.objs.size f cdv)) →
      PBZ (cxOf (L2.CX P w) P w K mg base N qual (defScope st) f cdv A outer s H E) W (defBody st) tz)
    (go : ∀ (ds : List D) (w' : ω) (Q : D → ω → Prop) (E : Nat → ω → Prop), sp ds w' Q E → tz (endZ Q E) (stZ N.length ds) w') : FnOk P w K mg base (L2.CX P w) (k + 1) f fd ps (spz K W sp) := by
  refine F.okX S (fun vs H Q E h => ?_) (fun cdv A outer s H vs Q E hr h => ?_)
  · obtain ⟨G, M, ds, w', _, r, h⟩ := h
    rw [r.len]
    exact len h
  · obtain ⟨G, M, ds, w', pt, r, h⟩ := h
    refine ⟨_, der cdv A outer s H E hr ⟨H, G, M, fun _ => none⟩ (fun e _ w2 => ∀ H' G' M', Pt W H' G' M' w2 → Nx H G M H' G' M' → E (.ref (W.ec e)) none H') ?_, ?_⟩
    · refine (takes_of rfl rfl rfl rfl).imp fun c d σ H' ⟨h1, e, h2, G', M', δ, w2, a, h3⟩ => ?_
      subst h1 h2
      exact h3 H' G' M' a.pt a.nx
    · exact ⟨endZ (fun d w2 => ∀ v H' G' M', Pt W H' G' M' w2 → Nx H G M H' G' M' → Rep K G' v d → Q v H') _, rfl, ⟨fun σ H' ⟨G', M', δ, w2, a, q⟩ => q .non H' G' M' a.pt a.nx .non, fun _ _ ⟨_, _, _, _, _, q⟩ => q.elim, fun _ _ ⟨_, _, _, _, _, q⟩ => q.elim, fun v H' G' M' d w2 b c rv q => q v H' G' M' b c rv⟩,
        G, M, _, w', sr_start (Z := ⟨H, G, M, fun _ => none⟩) pt r, go ds w' _ _ h⟩
/-- THE RULE for a def -/
theorem fnz {x qual : Str} {st : Stmt} {f : Addr} {fd : FuncData} {N ps : List Str} {k : Nat} {sp : SpZ ω} {tz : TSZ ω} (F : Fun K x qual st f fd) (S : FnScope N ps (defScope st)) (hm : mg x = some (.ref f)) (hb : Binds K fd ps []) (mo : MoS sp)
    (len : ∀ {ds : List D} {w' : ω} {Q : D → ω → Prop} {E : Nat → ω → Prop}, sp ds w' Q E → ds.length = ps.length)
    (der : ∀ (cdv : Value) (A : Around) (outer : List Env) (s : Shared) (H : Hp) (E : XK), Room k (A.deeper (envOfC qual (defScope st) s.heap.objs.size f cdv)) →
      PBZ (cxOf (L2.CX P w) P w K mg base N qual (defScope st) f cdv A outer s H E) W (defBody st) tz)
    (go : ∀ (ds : List D) (w' : ω) (Q : D → ω → Prop) (E : Nat → ω → Prop), sp ds w' Q E → tz (endZ Q E) (stZ N.length ds) w') : Fd P w K mg base W (k + 1) x sp :=
  ⟨mo, f, fd, ps, fnzOk F S len der go, hm, F.kp, hb⟩
end

/-! ### the law's own def -/
/-- what `law` promises, from the world that is none yet -/
def spLaw {ω : Type} (w0 : ω) : SpZ ω := fun ds w Q _ => w = w0 ∧ ∃ ns : List Int, ds = [.arr (ns.map D.int)] ∧ ns.length ≤ 63 ∧ (∀ z ∈ ns, Builtin.Int.intBits z ≤ 1048576) ∧ ∀ w', Q (.bl true) w'
def spLawV (K : PySem.W.Frag) : Sp := fun vs H Q _ => ∃ (a : Addr) (ns : List Int), vs = [.ref a] ∧ SqL K H a (ns.map V.int) ∧ ns.length ≤ 63 ∧ (∀ z ∈ ns, Builtin.Int.intBits z ≤ 1048576) ∧ ∀ H', Q (.bl true) H'
def ecOf (l : List (Nat × Addr)) (n : Nat) : Addr := (l.lookup n).getD 0
theorem law_imp {ω : Type} {P : Program} {w : World} {K : PySem.W.Frag} {mg : Str → Option Value} {base : Heap} {W : Wp ω} {f : Addr} {fd : FuncData} {x : Str} {k : Nat} (w0 : ω) (F : FnOk P w K mg base (L2.CX P w) k f fd [x] (spz K W (spLaw w0)))
    (h0 : ∀ G : Hp, W.ok w0 G fun _ => none) : FnOk P w K mg base (L2.CX P w) k f fd [x] (spLawV K) :=
  F.imp fun vs H Q E ⟨a, ns, e, hs, hl, hb, q⟩ => ⟨H, fun _ => none, [.arr (ns.map D.int)], w0, ⟨.rfl', fun _ _ z => (nomatch z), fun _ _ _ => rfl, h0 H⟩, by rw [e]; exact .cons (.arr hs (RepL.ofInts ns)) .nil, rfl, ns, rfl, hl, hb, fun w' v H' G' M' _ _ r => by
    cases r
    exact q H'⟩
theorem cx_none {P : Program} {w : World} {H : Hp} {s : Shared} {e : Value} {s' : Shared} (h : L2.CX P w [] H s (fun _ _ _ => False) e s') : False := by
  obtain ⟨_, _, _, _, _, _, _, _, _, _, _, _, z⟩ := h
  exact z

/-! ### raise -/
/-- what the top says of an own error class -/
structure ErrT (K : PySem.W.Frag) (mg : Str → Option Value) (C : Addr) (x : Str) : Prop where
  xF : PySem.W.excIn K C [.type "ValueError", .type "Exception", .type "BaseException", .type "object"] "ValueError.__new__" = true
  gF : mg x = some (.ref C)
  kF : PySem.W.keepIn K (.ref C) = true
  bF : PySem.W.subIn K (.ref C) (.type "BaseException") = some true
  tF : PySem.W.typeIn K (.ref C) = some (.type "type")
theorem z_raise {X : Cx} {W : Wp ω} {pos p p2 pos2 : Pos} {x m : Str} {j : Nat} {c : Nat} (T : ErrT X.K X.mg (W.ec c) x) (hc : X.calm = true := by rfl) (hg : Gl X x := by rfl) (hdb : (x == ("__debug__" : Str)) = false := by decide) :
    PSZ X W (.Raise (some (.Call (.Name x p) [.Constant (.str m) j p2] [] pos2)) none pos) (zRaise c) := fun Z ex tk =>
  psI (ps_raise hc tk (pmk_own PySem.F.excBase_ValueError T.xF T.gF T.kF (raises_own T.bF T.tF) hg hdb)) fun DE σ H ⟨Dz, hex, EI, G, M, δ, w, a, h⟩ => by
  subst hex
  exact ⟨rfl, c, rfl, G, M, δ, w, a, h⟩
end Z

namespace Z
open PySem PySem.Spec PyProof.Rows L2
variable {ω : Type}

/-! ### sizes of numbers -/
def Sm (n : Nat) (i : Int) : Prop := i.natAbs < 2 ^ n
theorem Sm.le {n m : Nat} {i : Int} (h : Sm n i) (l : n ≤ m) : Sm m i := Nat.lt_of_lt_of_le h (Nat.pow_le_pow_right (by decide) l)
theorem two_pos (n : Nat) : 0 < 2 ^ n := Nat.pos_of_ne_zero (by simp)
theorem Sm.add {n m : Nat} {i j : Int} (h : Sm n i) (g : Sm m j) : Sm (max n m + 1) (i + j) := by
  have h1 := Sm.le h (Nat.le_max_left n m)
  have h2 := Sm.le g (Nat.le_max_right n m)
  unfold Sm at *
  rw [Nat.pow_succ]
  omega
theorem Sm.neg {n : Nat} {i : Int} (h : Sm n i) : Sm n (-i) := by unfold Sm at *; omega
theorem Sm.sub {n m : Nat} {i j : Int} (h : Sm n i) (g : Sm m j) : Sm (max n m + 1) (i - j) := by
  have h1 := Sm.le h (Nat.le_max_left n m)
  have h2 := Sm.le g (Nat.le_max_right n m)
  unfold Sm at *
  rw [Nat.pow_succ]
  omega
theorem Sm.mul {n m : Nat} {i j : Int} (h : Sm n i) (g : Sm m j) : Sm (n + m) (i * j) := wide_lt h g
theorem Sm.of_le {n : Nat} {i j : Int} (h : Sm n j) (h0 : 0 ≤ i) (l : i ≤ j) : Sm n i := Nat.lt_of_le_of_lt (by omega) h
theorem Sm.of_abs {n : Nat} {i j : Int} (h : Sm n j) (l : i.natAbs ≤ j.natAbs) : Sm n i := Nat.lt_of_le_of_lt l h
theorem Sm.mod {n : Nat} {i j : Int} (h : Sm n j) (h0 : 0 < j) : Sm n (i % j) := h.of_le (Int.emod_nonneg _ (by omega)) (Int.le_of_lt (Int.emod_lt_of_pos _ h0))
theorem Sm.div {n : Nat} {i j : Int} (h : Sm n i) (h0 : 0 < j) : Sm n (i / j) := by
  refine h.of_abs ?_
  by_cases hi : 0 ≤ i
  · have h1 : 0 ≤ i / j := Int.ediv_nonneg hi (by omega)
    have h2 : i / j ≤ i := Int.ediv_le_self j hi
    omega
  · have h1 : i / j < 0 := Int.ediv_neg_of_neg_of_pos (by omega) h0
    have h2 : i ≤ i / j := by
      have e := Int.mul_ediv_add_emod i j
      have h4 := Int.emod_lt_of_pos i h0
      have h5 : j * (i / j + 1) ≤ 1 * (i / j + 1) := Int.mul_le_mul_of_nonpos_right (by omega) (by omega)
      rw [Int.mul_add, Int.mul_one, Int.one_mul] at h5
      omega
    omega
theorem Sm.lit {n : Nat} {i : Int} (h : decide (i.natAbs < 2 ^ n) = true) : Sm n i := by unfold Sm; exact of_decide_eq_true h
theorem Sm.pow {n : Nat} {i : Int} (h : Sm n i) (k : Nat) : Sm (n * k + 1) (i ^ k) := by
  induction k with
  | zero => unfold Sm; rw [Int.pow_zero]; exact Nat.one_lt_two_pow (by omega)
  | succ k ih =>
    rw [Int.pow_succ]
    exact (ih.mul h).le (by rw [Nat.mul_succ]; omega)
theorem Sm.max {n m : Nat} {i j : Int} (h : Sm n i) (g : Sm m j) : Sm (Nat.max n m) (max i j) := by
  have h1 := Sm.le h (Nat.le_max_left n m)
  have h2 := Sm.le g (Nat.le_max_right n m)
  rcases Int.le_total i j with l | l
  · rw [Int.max_eq_right l]; exact h2
  · rw [Int.max_eq_left l]; exact h1
theorem Sm.min {n m : Nat} {i j : Int} (h : Sm n i) (g : Sm m j) : Sm (Nat.max n m) (min i j) := by
  have h1 := Sm.le h (Nat.le_max_left n m)
  have h2 := Sm.le g (Nat.le_max_right n m)
  rcases Int.le_total i j with l | l
  · rw [Int.min_eq_left l]; exact h1
  · rw [Int.min_eq_right l]; exact h2
/-- what * asks, what // asks -/
def MulOk (i j : Int) : Prop := CMulW i j ∨ CMul i j
theorem MulOk.ok {i j : Int} (h : MulOk i j) : IntMulOk i j := h.elim CMulW.ok CMul.ok
theorem MulOk.of {n m : Nat} {i j : Int} (h : Sm n i) (g : Sm m j) (l : n + m + 2 ≤ 1000000) : MulOk i j := .inl (wide_mul (h.le (Nat.le_succ n)) (g.le (Nat.le_succ m)) (Nat.succ_pos _) (Nat.succ_pos _) (by omega))
theorem MulOk.lt {n : Nat} {i j : Int} (h : Sm n i) (l : n ≤ 63) : MulOk i j := by
  have h1 := h.le l
  unfold Sm at h1
  have e : (2 : Nat) ^ 63 = 9223372036854775808 := by decide
  have e' : (2 : Int) ^ 64 = 18446744073709551616 := by decide
  rw [e] at h1
  refine .inr (.inl ?_)
  rw [e']
  omega
theorem MulOk.rt {n : Nat} {i j : Int} (h : Sm n j) (l : n ≤ 63) : MulOk i j := by
  have h1 := h.le l
  unfold Sm at h1
  have e : (2 : Nat) ^ 63 = 9223372036854775808 := by decide
  have e' : (2 : Int) ^ 64 = 18446744073709551616 := by decide
  rw [e] at h1
  refine .inr (.inr ?_)
  rw [e']
  omega
def DivOk (j : Int) : Prop := 0 < j ∧ Sm 8000 j

/-! ### operators -/
section
variable {K : PySem.W.Frag}
theorem lndI {rv : R2} {r : OpD} {C : Int → Int → Prop} {g : Int → Int → D} {gv : Int → Int → V} (hr : ∀ {x y : D} {q : D → Prop}, r x y q → ∃ i j, x = .int i ∧ y = .int j ∧ C i j ∧ q (g i j)) (hr' : ∀ {i j : Int} {q : D → Prop}, C i j → q (g i j) → r (.int i) (.int j) q)
    (hv : ∀ {i j : Int} {H : Hp} {Q : VK}, C i j → Q (gv i j) H → rv (.int i) (.int j) H Q) (hg : ∀ i j G, Rep K G (gv i j) (g i j)) : Lnd K rv r where
  mo := fun k h => by
    obtain ⟨i, j, rfl, rfl, c, q⟩ := hr h
    exact hr' c (k _ q)
  go := fun H G x y dx dy q Q e rx ry h k _ => by
    obtain ⟨i, j, rfl, rfl, c, q⟩ := hr h
    cases rx
    cases ry
    exact hv c (k _ _ q (hg i j G))
def addD : OpD := fun x y q => match x, y with
  | .int i, .int j => q (.int (i + j))
  | .str i, .str j => i.length + j.length ≤ 16777216 ∧ q (.str (i ++ j))
  | .tup l, .tup m => l ≠ [] ∧ m ≠ [] ∧ l.length + m.length ≤ 100000 ∧ q (.tup (l ++ m))
  | _, _ => False
def subD : OpD := fun x y q => match x, y with | .int i, .int j => q (.int (i - j)) | _, _ => False
def mulD : OpD := fun x y q => match x, y with
  | .int i, .int j => MulOk i j ∧ q (.int (i * j))
  | .str x, .int n => PySem.MulOk x n ∧ q (.str (Txt.mul x n))
  | _, _ => False
def divD : OpD := fun x y q => match x, y with | .int i, .int j => DivOk j ∧ q (.int (i / j)) | _, _ => False
def modD : OpD := fun x y q => match x, y with | .int i, .int j => 0 < j ∧ q (.int (i % j)) | _, _ => False
def powD : OpD := fun x y q => match x, y with | .int i, .int j => (0 ≤ j ∧ j ≤ 1000000 ∧ Sm 63 i) ∧ q (.int (i ^ j.toNat)) | _, _ => False
def ltD : OpD := fun x y q => match x, y with | .int i, .int j => q (.bl (decide (i < j))) | _, _ => False
def leD : OpD := fun x y q => match x, y with | .int i, .int j => q (.bl (decide (i ≤ j))) | _, _ => False
def gtD : OpD := fun x y q => match x, y with | .int i, .int j => q (.bl (decide (j < i))) | _, _ => False
def geD : OpD := fun x y q => match x, y with | .int i, .int j => q (.bl (decide (j ≤ i))) | _, _ => False
def rAddZ (K : PySem.W.Frag) : R2 := fun x y H Q => rI0 (fun i j => .int (i + j)) x y H Q ∨ (∃ i j, x = .str i ∧ y = .str j ∧ i.length + j.length ≤ sizeLine ∧ Q (.str (i ++ j)) H) ∨ rCatT K x y H Q
theorem o_add {X : Cx} : OpR X (binaryOp .Add) (rAddZ X.K) := OpR.or op_add (OpR.or op_add_str op_catT)
theorem RepL.nil_iff {G : Hp} {vs : List V} {l : List D} (r : RepL K G vs l) : vs = [] ↔ l = [] := by cases r <;> simp
theorem l_add : Lnd K (rAddZ K) addD where
  mo := fun {x y q q'} k h => by
    unfold addD at h ⊢
    split at h
    · exact k _ h
    · exact ⟨h.1, k _ h.2⟩
    · exact ⟨h.1, h.2.1, h.2.2.1, k _ h.2.2.2⟩
    · exact h.elim
  go := fun H G x y dx dy q Q e rx ry h k k' => by
    unfold addD at h
    split at h
    · cases rx; cases ry
      exact .inl ⟨_, _, rfl, rfl, k _ _ h (.int _)⟩
    · cases rx; cases ry
      exact .inr (.inl ⟨_, _, rfl, rfl, by rw [sizeLine_eq]; exact h.1, k _ _ h.2 (.str _)⟩)
    · cases rx with
      | tup sx rx =>
        cases ry with
        | tup sy ry =>
          refine .inr (.inr ⟨_, _, _, _, rfl, rfl, sqTE e sx, sqTE e sy, fun z => h.1 (rx.nil_iff.mp z), sz1 (by rw [rx.len, ry.len]; exact h.2.2.1), fun z => absurd (ry.nil_iff.mp z) h.2.1, fun _ p hp => k' _ _ p h.2.2.2 hp (rx.app ry)⟩)
    · exact h.elim
theorem l_sub : Lnd K (rI0 fun i j => .int (i - j)) subD := lndI (C := fun _ _ => True) (g := fun i j => .int (i - j)) (gv := fun i j => .int (i - j)) (fun {x y q} h => by unfold subD at h; split at h; exact ⟨_, _, rfl, rfl, trivial, h⟩; exact h.elim) (fun _ h => h) (fun _ h => ⟨_, _, rfl, rfl, h⟩) (fun _ _ _ => .int _)
theorem o_mulStr {X : Cx} : OpR X (binaryOp .Mult) (fun x y H Q => ∃ z n, x = .str z ∧ y = .int n ∧ PySem.MulOk z n ∧ Q (.str (Txt.mul z n)) H) := by
  intro pins s σ H x y v u Q I rx ry h
  obtain ⟨z, n, rfl, rfl, hc, q⟩ := h
  obtain ⟨t, rfl⟩ := rx
  obtain ⟨t', rfl⟩ := ry
  exact SB.mul hc fun t2 k2 => ⟨.str _, H, I.tok _, ⟨_, rfl⟩, q⟩
theorem o_mulI {X : Cx} : OpR X (binaryOp .Mult) (rI MulOk fun i j => .int (i * j)) := opI fun _ _ _ _ _ _ _ hc q => mul_int q hc.ok
def rMulZ : R2 := fun x y H Q => rI MulOk (fun i j => .int (i * j)) x y H Q ∨ ∃ z n, x = .str z ∧ y = .int n ∧ PySem.MulOk z n ∧ Q (.str (Txt.mul z n)) H
theorem o_mul {X : Cx} : OpR X (binaryOp .Mult) rMulZ := OpR.or o_mulI o_mulStr
theorem l_mul : Lnd K rMulZ mulD where
  mo := fun {x y q q'} k h => by
    unfold mulD at h ⊢
    split at h
    · exact ⟨h.1, k _ h.2⟩
    · exact ⟨h.1, k _ h.2⟩
    · exact h.elim
  go := fun H G x y dx dy q Q e rx ry h k k' => by
    unfold mulD at h
    split at h
    · cases rx; cases ry
      exact .inl ⟨_, _, rfl, rfl, h.1, k _ _ h.2 (.int _)⟩
    · cases rx; cases ry
      exact .inr ⟨_, _, rfl, rfl, h.1, k _ _ h.2 (.str _)⟩
    · exact h.elim
theorem o_div {X : Cx} : OpR X (binaryOp .FloorDiv) (rI (fun _ j => DivOk j) fun i j => .int (i / j)) := opI fun i j _ _ _ _ _ hc q => by
  have h1 : (0 : Int) < j := hc.1
  exact floordiv_int (by omega) (by rw [Int.fdiv_eq_ediv_of_nonneg i (by omega)]; exact q) (.inl (PyProof.noPylong_of_log2 (Nat.lt_of_lt_of_le (PySem.Flt.log2_lt_of (by decide) hc.2) (by decide))))
theorem l_div : Lnd K (rI (fun _ j => DivOk j) fun i j => .int (i / j)) divD := lndI (C := fun _ j => DivOk j) (g := fun i j => .int (i / j)) (gv := fun i j => .int (i / j)) (fun {x y q} h => by unfold divD at h; split at h; exact ⟨_, _, rfl, rfl, h.1, h.2⟩; exact h.elim) (fun c h => ⟨c, h⟩) (fun c h => ⟨_, _, rfl, rfl, c, h⟩) (fun _ _ _ => .int _)
theorem l_mod : Lnd K (rI (fun _ j => 0 < j) fun i j => .int (i % j)) modD := lndI (C := fun _ j => 0 < j) (g := fun i j => .int (i % j)) (gv := fun i j => .int (i % j)) (fun {x y q} h => by unfold modD at h; split at h; exact ⟨_, _, rfl, rfl, h.1, h.2⟩; exact h.elim) (fun c h => ⟨c, h⟩) (fun c h => ⟨_, _, rfl, rfl, c, h⟩) (fun _ _ _ => .int _)
theorem l_pow : Lnd K (rI CPow fun i j => .int (i ^ j.toNat)) powD := lndI (C := fun i j => 0 ≤ j ∧ j ≤ 1000000 ∧ Sm 63 i) (g := fun i j => .int (i ^ j.toNat)) (gv := fun i j => .int (i ^ j.toNat)) (fun {x y q} h => by unfold powD at h; split at h; exact ⟨_, _, rfl, rfl, h.1, h.2⟩; exact h.elim) (fun c h => ⟨c, h⟩) (fun c h => ⟨_, _, rfl, rfl, ⟨c.1, c.2.1, Sm.le c.2.2 (by decide)⟩, h⟩) (fun _ _ _ => .int _)
theorem l_lt : Lnd K (rI0 fun i j => .bl (decide (i < j))) ltD := lndI (C := fun _ _ => True) (g := fun i j => .bl (decide (i < j))) (gv := fun i j => .bl (decide (i < j))) (fun {x y q} h => by unfold ltD at h; split at h; exact ⟨_, _, rfl, rfl, trivial, h⟩; exact h.elim) (fun _ h => h) (fun _ h => ⟨_, _, rfl, rfl, h⟩) (fun _ _ _ => .bl _)
theorem l_le : Lnd K (rI0 fun i j => .bl (decide (i ≤ j))) leD := lndI (C := fun _ _ => True) (g := fun i j => .bl (decide (i ≤ j))) (gv := fun i j => .bl (decide (i ≤ j))) (fun {x y q} h => by unfold leD at h; split at h; exact ⟨_, _, rfl, rfl, trivial, h⟩; exact h.elim) (fun _ h => h) (fun _ h => ⟨_, _, rfl, rfl, h⟩) (fun _ _ _ => .bl _)
theorem l_gt : Lnd K (rI0 fun i j => .bl (decide (j < i))) gtD := lndI (C := fun _ _ => True) (g := fun i j => .bl (decide (j < i))) (gv := fun i j => .bl (decide (j < i))) (fun {x y q} h => by unfold gtD at h; split at h; exact ⟨_, _, rfl, rfl, trivial, h⟩; exact h.elim) (fun _ h => h) (fun _ h => ⟨_, _, rfl, rfl, h⟩) (fun _ _ _ => .bl _)
theorem l_ge : Lnd K (rI0 fun i j => .bl (decide (j ≤ i))) geD := lndI (C := fun _ _ => True) (g := fun i j => .bl (decide (j ≤ i))) (gv := fun i j => .bl (decide (j ≤ i))) (fun {x y q} h => by unfold geD at h; split at h; exact ⟨_, _, rfl, rfl, trivial, h⟩; exact h.elim) (fun _ h => h) (fun _ h => ⟨_, _, rfl, rfl, h⟩) (fun _ _ _ => .bl _)

/-! ### equality -/
mutual
def py : D → PyData
  | .non => .none
  | .bl b => .bool b
  | .int i => .int i
  | .str x => .str x
  | .tup l => .tuple (pys l)
  | .lst l => .list (pys l)
  | .arr l => .list (pys l)
  | .ref _ => .none
  | .exc _ => .none
def pys : List D → List PyData
  | [] => []
  | d :: l => py d :: pys l
end
mutual
def okD : D → Bool
  | .non => true
  | .bl _ => true
  | .int _ => true
  | .str x => PyData.strOk x
  | .tup l => okDs l
  | .lst l => okDs l
  | .arr l => okDs l
  | .ref _ => false
  | .exc _ => false
def okDs : List D → Bool
  | [] => true
  | d :: l => okD d && okDs l
end
mutual
def dpD : D → Nat
  | .tup l => dpDs l + 1
  | .lst l => dpDs l + 1
  | .arr l => dpDs l + 1
  | .non => 0
  | .bl _ => 0
  | .int _ => 0
  | .str _ => 0
  | .ref _ => 0
  | .exc _ => 0
def dpDs : List D → Nat
  | [] => 0
  | d :: l => max (dpD d) (dpDs l)
end
mutual
theorem dp_of {G H : Hp} (e : Ext G H) : ∀ (d : D) (v : V), Rep K G v d → okD d = true → Dp K H v (py d)
  | .non, _, h, _ => by cases h; exact .non
  | .bl b, _, h, _ => by cases h; exact .bl b
  | .int i, _, h, _ => by cases h; exact .int i
  | .str x, _, h, _ => by cases h; exact .str x
  | .tup l, _, h, o => by
    cases h with
    | tup a b => exact .tup (sqTE e a) (dps_of e l _ b (by simpa [okD] using o))
  | .lst l, _, h, o => by
    cases h with
    | lst a b => exact .lst (.inl (.inl (e _ _ a))) (dps_of e l _ b (by simpa [okD] using o))
  | .arr l, _, h, o => by
    cases h with
    | arr a b => exact .lst (sqLE e a) (dps_of e l _ b (by simpa [okD] using o))
  | .ref p, _, _, o => by simp [okD] at o
  | .exc p, _, _, o => by simp [okD] at o
theorem dps_of {G H : Hp} (e : Ext G H) : ∀ (l : List D) (vs : List V), RepL K G vs l → okDs l = true → DpAll K H vs (pys l)
  | [], _, h, _ => by cases h; exact .nil
  | d :: l, _, h, o => by
    cases h with
    | cons a b =>
      have o' : okD d = true ∧ okDs l = true := by simpa [okDs] using o
      exact .cons (dp_of e d _ a o'.1) (dps_of e l _ b o'.2)
end
mutual
theorem can_of : ∀ d : D, okD d = true → PyData.canLay0 (py d) = true ∧ PyData.depth (py d) = dpD d
  | .non, _ => ⟨by simp [py, PyData.canLay0], by simp [py, PyData.depth, dpD]⟩
  | .bl b, _ => ⟨by simp [py, PyData.canLay0], by simp [py, PyData.depth, dpD]⟩
  | .int i, _ => ⟨by simp [py, PyData.canLay0], by simp [py, PyData.depth, dpD]⟩
  | .str x, o => ⟨by simpa [py, PyData.canLay0, okD] using o, by simp [py, PyData.depth, dpD]⟩
  | .tup l, o => by
    have q := cans_of l (by simpa [okD] using o)
    exact ⟨by simpa [py, PyData.canLay0] using q.1, by simp [py, PyData.depth, dpD, q.2]⟩
  | .lst l, o => by
    have q := cans_of l (by simpa [okD] using o)
    exact ⟨by simpa [py, PyData.canLay0] using q.1, by simp [py, PyData.depth, dpD, q.2]⟩
  | .arr l, o => by
    have q := cans_of l (by simpa [okD] using o)
    exact ⟨by simpa [py, PyData.canLay0] using q.1, by simp [py, PyData.depth, dpD, q.2]⟩
  | .ref p, o => by simp [okD] at o
  | .exc p, o => by simp [okD] at o
theorem cans_of : ∀ l : List D, okDs l = true → PyData.canLayAll0 (pys l) = true ∧ PyData.depthAll (pys l) = dpDs l
  | [], _ => ⟨by simp [pys, PyData.canLayAll0], by simp [pys, PyData.depthAll, dpDs]⟩
  | d :: l, o => by
    have o' : okD d = true ∧ okDs l = true := by simpa [okDs] using o
    have q1 := can_of d o'.1
    have q2 := cans_of l o'.2
    exact ⟨by simp [pys, PyData.canLayAll0, q1.1, q2.1], by simp [pys, PyData.depthAll, dpDs, q1.2, q2.2]⟩
end
def deq (x y : D) : Bool := PyData.eqv (py x) (py y)
def deqs (x y : List D) : Bool := PyData.eqvAll (pys x) (pys y)
def eqD : OpD := fun x y q => match x, y with
  | .str i, .str j => q (.bl (decide (i = j)))
  | .str _, .non => q (.bl false)
  | .non, .str _ => q (.bl false)
  | x, y => (okD x = true ∧ okD y = true ∧ dpD x ≤ 64 ∧ dpD y ≤ 64) ∧ q (.bl (deq x y))
def neD : OpD := fun x y q => eqD x y fun d => match d with | .bl b => q (.bl (!b)) | _ => False
def rEqZ (K : PySem.W.Frag) : R2 := fun x y H Q => rEq x y H Q ∨ rEqD K x y H Q
def rNeZ (K : PySem.W.Frag) : R2 := fun x y H Q => rNe x y H Q ∨ rNeD K x y H Q
theorem o_eq {X : Cx} {k : Nat} (hr : Room k X.A) : OpR X (compareOp .Eq) (rEqZ X.K) := OpR.or op_eq (op_eqD hr.units)
theorem o_ne {X : Cx} {k : Nat} (hr : Room k X.A) : OpR X (compareOp .NotEq) (rNeZ X.K) := OpR.or op_ne (op_neD hr.units)
theorem shp {d : D} (h : okD d = true) (h2 : dpD d ≤ 64) : SeqAt.shaped (py d) = true := by
  have q := can_of d h
  unfold SeqAt.shaped
  rw [q.1, q.2, decide_eq_true h2]
  rfl
theorem l_eq : Lnd K (rEqZ K) eqD where
  mo := fun {x y q q'} k h => by
    unfold eqD at h ⊢
    split at h
    · exact k _ h
    · exact k _ h
    · exact k _ h
    · exact ⟨h.1, k _ h.2⟩
  go := fun H G x y dx dy q Q e rx ry h k _ => by
    unfold eqD at h
    split at h
    · cases rx; cases ry
      rename_i i j
      refine .inl ⟨rfl, ?_⟩
      have z : decide (V.str i = V.str j) = decide (i = j) := by
        by_cases z : i = j
        · subst z; simp
        · rw [decide_eq_false z]; simp [z]
      show Q (.bl (decide (V.str i = V.str j))) H
      rw [z]
      exact k _ _ h (.bl _)
    · cases rx; cases ry
      exact .inl ⟨rfl, k _ _ h (.bl _)⟩
    · cases rx; cases ry
      exact .inl ⟨rfl, k _ _ h (.bl _)⟩
    · exact .inr ⟨_, _, dp_of e _ _ rx h.1.1, dp_of e _ _ ry h.1.2.1, shp h.1.1 h.1.2.2.1, shp h.1.2.1 h.1.2.2.2, k _ _ h.2 (.bl _)⟩
theorem l_ne : Lnd K (rNeZ K) neD where
  mo := fun {x y q q'} k h => l_eq (K := K).mo (fun d h => by
    cases d with
    | bl b => exact k _ h
    | _ => exact h) h
  go := fun H G x y dx dy q Q e rx ry h k _ => by
    unfold neD eqD at h
    split at h
    · cases rx; cases ry
      rename_i i j
      refine .inl ⟨rfl, ?_⟩
      have z : decide (V.str i = V.str j) = decide (i = j) := by
        by_cases z : i = j
        · subst z; simp
        · rw [decide_eq_false z]; simp [z]
      show Q (.bl (!decide (V.str i = V.str j))) H
      rw [z]
      exact k _ _ h (.bl _)
    · cases rx; cases ry
      exact .inl ⟨rfl, k _ _ h (.bl _)⟩
    · cases rx; cases ry
      exact .inl ⟨rfl, k _ _ h (.bl _)⟩
    · exact .inr ⟨_, _, dp_of e _ _ rx h.1.1, dp_of e _ _ ry h.1.2.1, shp h.1.1 h.1.2.2.1, shp h.1.2.1 h.1.2.2.2, k _ _ h.2 (.bl _)⟩
end
end Z

namespace Z
open PySem PySem.Spec PyProof.Rows L2
variable {ω : Type}

/-! ### subscripts -/
section
variable {K : PySem.W.Frag} {G : Hp}
theorem RepL.at {vs : List V} {l : List D} {i : Int} {d : D} (r : RepL K G vs l) (h : atI l i = some d) : ∃ v, atI vs i = some v ∧ Rep K G v d := by
  unfold atI at h ⊢
  rw [r.len]
  cases q : ixN l.length i with
  | none => rw [q] at h; cases h
  | some j =>
    rw [q] at h
    obtain ⟨v, h1, h2⟩ := r.get (i := j) h
    exact ⟨v, h1, h2⟩
def ixD : OpD := fun x y q => match x, y with
  | .tup l, .int i => ∃ d, atI l i = some d ∧ q d
  | .lst l, .int i => ∃ d, atI l i = some d ∧ q d
  | .arr l, .int i => ∃ d, atI l i = some d ∧ q d
  | .str s, .int i => s.length ≤ 16777216 ∧ ∃ c, atI s.cps.toList i = some c ∧ q (.str ⟨#[c]⟩)
  | _, _ => False
theorem l_ix : Lnd K (rIx K) ixD where
  mo := fun {x y q q'} k h => by
    unfold ixD at h ⊢
    split at h
    · obtain ⟨d, h1, h2⟩ := h; exact ⟨d, h1, k _ h2⟩
    · obtain ⟨d, h1, h2⟩ := h; exact ⟨d, h1, k _ h2⟩
    · obtain ⟨d, h1, h2⟩ := h; exact ⟨d, h1, k _ h2⟩
    · obtain ⟨h0, d, h1, h2⟩ := h; exact ⟨h0, d, h1, k _ h2⟩
    · exact h.elim
  go := fun H G x y dx dy q Q e rx ry h k _ => by
    unfold ixD at h
    split at h
    · obtain ⟨d, h1, h2⟩ := h
      cases rx with
      | tup s r =>
        cases ry
        obtain ⟨v, g1, g2⟩ := r.at h1
        exact .inr (.inl ⟨_, _, _, v, rfl, rfl, sqTE e s, g1, k d v h2 g2⟩)
    · obtain ⟨d, h1, h2⟩ := h
      cases rx with
      | lst s r =>
        cases ry
        obtain ⟨v, g1, g2⟩ := r.at h1
        exact .inl ⟨_, _, _, v, rfl, rfl, .inl (.inl (e _ _ s)), g1, k d v h2 g2⟩
    · obtain ⟨d, h1, h2⟩ := h
      cases rx with
      | arr s r =>
        cases ry
        obtain ⟨v, g1, g2⟩ := r.at h1
        exact .inl ⟨_, _, _, v, rfl, rfl, sqLE e s, g1, k d v h2 g2⟩
    · obtain ⟨h0, c, h1, h2⟩ := h
      cases rx
      cases ry
      exact .inr (.inr ⟨_, _, c, rfl, rfl, by rw [sizeLine_eq]; exact h0, h1, k _ _ h2 (.str _)⟩)
    · exact h.elim
end
/-! our own list: an item, the length, a store, append -/
def onOwn (δ : List Sl) (i : Nat) (f : List D → Prop) : Prop := match δ[i]? with | some (.own l) => f l | _ => False
theorem onOwn.of {δ : List Sl} {i : Nat} {f : List D → Prop} (h : onOwn δ i f) : ∃ l, δ[i]? = some (.own l) ∧ f l := by
  unfold onOwn at h
  split at h
  · exact ⟨_, by assumption, h⟩
  · exact h.elim
theorem onOwn.to {δ : List Sl} {i : Nat} {f : List D → Prop} {l : List D} (e : δ[i]? = some (.own l)) (h : f l) : onOwn δ i f := by unfold onOwn; rw [e]; exact h
theorem onOwn.imp {δ : List Sl} {i : Nat} {f g : List D → Prop} (k : ∀ l, f l → g l) (h : onOwn δ i f) : onOwn δ i g := let ⟨_, e, q⟩ := h.of; .to e (k _ q)
def intD (d : D) (f : Int → Prop) : Prop := match d with | .int k => f k | _ => False
theorem intD.of {d : D} {f : Int → Prop} (h : intD d f) : ∃ k, d = .int k ∧ f k := by
  unfold intD at h
  split at h
  · exact ⟨_, rfl, h⟩
  · exact h.elim
theorem intD.imp {d : D} {f g : Int → Prop} (k : ∀ l, f l → g l) (h : intD d f) : intD d g := by obtain ⟨j, rfl, q⟩ := h.of; exact k _ q
def zIxO (i : Nat) (te : TEZ ω) : TEZ ω := fun δ w Q E => onOwn δ i fun l => te δ w (fun d w1 => intD d fun k => ∃ x, atI l k = some x ∧ Q x w1) E
def zLenO (i : Nat) : TEZ ω := fun δ w Q _ => onOwn δ i fun l => Q (.int l.length) w
def zSetO (i : Nat) (tk te : TEZ ω) : TSZ ω := fun DE δ w => te δ w (fun d w1 => onOwn δ i fun l => tk δ w1 (fun k w2 => intD k fun k => ∃ j, ixN l.length k = some j ∧ DE.nx (δ.set i (.own (l.set j d))) w2) (fun e w' => DE.ex e δ w')) (fun e w' => DE.ex e δ w')
def zAppO (i : Nat) (te : TEZ ω) : TSZ ω := fun DE δ w => onOwn δ i fun l => te δ w (fun d w1 => l.length < 100000 ∧ DE.nx (δ.set i (.own (l ++ [d]))) w1) (fun e w' => DE.ex e δ w')
section
variable {X : Cx} {W : Wp ω} {pos pos' p : Pos} {x : Str} {e a : Expr} {te tk : TEZ ω}
theorem SR.own {K : PySem.W.Frag} {Z : Zx} {σ : L2.St} {H G M : Hp} {δ : List Sl} {w : ω} {i : Nat} {l : List D} (a : SR K W Z σ H G M δ w) (e : δ[i]? = some (.own l)) : ∃ p vs, σ[i]? = some (some (.ref p)) ∧ H p = some (.lst vs) ∧ M p = none ∧ RepL K G vs l := by
  obtain ⟨p, vs, h1, h2, h3, h4, h5, h7⟩ := a.sl i _ e
  exact ⟨p, vs, h1, h2, h4, h7⟩
theorem z_ixO (i : Nat) (he : PEZ X W e te) (hN : X.N[i]? = some x := by rfl) (hv : Vis X.env.scope x := by first | exact Or.inl rfl | exact Or.inr (Or.inl rfl) | exact Or.inr (Or.inr rfl)) (hd : (x == ("__debug__" : Str)) = false := by decide)
    (hcd : (x == ("__classdict__" : Str)) = false := by decide) (hs : PlainIx e := by exact fun _ _ => rfl) : PEZ X W (.Subscript (.Name x p) e pos) (zIxO i te) :=
  ⟨fun k h => h.imp fun l h => he.mo (fun d w1 h1 => h1.imp fun j ⟨y, g1, g2⟩ => ⟨y, g1, k _ _ g2⟩) h, fun Z ex tk => peI (pe_ix ix_list (pe_var hN hv hd hcd) (he.run Z ex tk) hs) fun σ H Q ⟨G, M, δ, w, a, h⟩ => by
    obtain ⟨l, hl, h⟩ := h.of
    obtain ⟨p, vs, h1, h2, h3, h4⟩ := a.own hl
    refine ⟨.ref p, h1, G, M, δ, w, a, he.mo (fun d w1 q1 v H1 G1 M1 o1 r1 => ?_) h⟩
    obtain ⟨k, rfl, y, g1, g2⟩ := q1.of
    cases r1
    obtain ⟨u, u1, u2⟩ := (h4.up o1.nx.gg).at g1
    exact ⟨p, vs, k, u, rfl, rfl, .inl (.inl (o1.nx.fr p _ h2 h3)), u1, g2 u H1 G1 M1 o1 u2⟩⟩
theorem z_lenO (i : Nat) {pc : Pos} (hm : X.mg "len" = none) (hN : X.N[i]? = some x := by rfl) (hv : Vis X.env.scope x := by first | exact Or.inl rfl | exact Or.inr (Or.inl rfl) | exact Or.inr (Or.inr rfl)) (hd : (x == ("__debug__" : Str)) = false := by decide)
    (hcd : (x == ("__classdict__" : Str)) = false := by decide) (hg : Gl X "len" := by rfl) : PEZ X W (.Call (.Name "len" pc) [.Name x p] [] pos) (zLenO i) :=
  ⟨fun k h => h.imp fun l h => k _ _ h, fun Z ex tk => peI (pe_callB call_len_seq hg hm PySem.boot_len (pa_cons (pe_var hN hv hd hcd) pa_nil)) fun σ H Q ⟨G, M, δ, w, a, h⟩ => by
    obtain ⟨l, hl, h⟩ := h.of
    obtain ⟨p, vs, h1, h2, h3, h4⟩ := a.own hl
    refine ⟨.ref p, h1, p, vs, rfl, .inl (.inl (.inl h2)), ?_⟩
    rw [h4.len]
    exact h _ H G M a.here (.int _)⟩
theorem z_setO (i : Nat) (hk : PEZ X W e tk) (he : PEZ X W a te) (hN : X.N[i]? = some x := by rfl) (hv : Vis X.env.scope x := by first | exact Or.inl rfl | exact Or.inr (Or.inl rfl) | exact Or.inr (Or.inr rfl)) (hd : (x == ("__debug__" : Str)) = false := by decide)
    (hcd : (x == ("__classdict__" : Str)) = false := by decide) (hs : swapsWithSole [.Subscript (.Name x p) e pos'] a pos.line X.env = pure false := by rfl) (hw : swappedStores [.Subscript (.Name x p) e pos'] a X.env = pure none := by rfl)
    (h1 : (assignEach [.Subscript (.Name x p) e pos'] X.env).map (·.2) = [assign (.Subscript (.Name x p) e pos') X.env] := by rfl)
    (ha : ∀ v, assign (.Subscript (.Name x p) e pos') X.env v = (do
      let ov ← holding [v] (eval (.Name x p) X.env)
      let iv ← holding [v, ov] (eval e X.env)
      standAt pos'
      holding [v, ov, iv] (setItem ov iv v)
      release [v, ov, iv] []) := by intro _; rfl) : PSZ X W (.Assign [.Subscript (.Name x p) e pos'] a pos) (zSetO i tk te) := fun Z ex tk' =>
  psI (ps_asg (he.run Z ex tk') (pg_sub (pe_var hN hv hd hcd) (hk.run Z ex tk') set_list ha) hs hw h1) fun DE σ H ⟨Dz, hex, EI, G, M, δ, w, a, h⟩ => by
  subst hex
  refine ⟨G, M, δ, w, a, he.mo (fun d w1 q1 v H1 G1 M1 o1 r1 => ?_) h⟩
  have a1 := a.go o1
  obtain ⟨l, hl, q⟩ := q1.of
  obtain ⟨p, vs, h1, h2, h3, h4⟩ := a1.own hl
  refine ⟨.ref p, h1, G1, M1, δ, w1, a1, hk.mo (fun d2 w2 q2 v2 H2 G2 M2 o2 r2 => ?_) q⟩
  obtain ⟨k, rfl, j, g1, g2⟩ := q2.of
  cases r2
  have r4 := h4.up o2.nx.gg
  exact ⟨p, vs, k, j, rfl, rfl, o2.nx.fr p _ h2 h3, by rw [r4.len]; exact g1, EI.nx _ _ ⟨G2, M2, _, w2, (a1.go o2).change hl h1 (RepL.set (r1.up o2.nx.gg) j r4), g2⟩⟩
theorem z_appO (i : Nat) {pm : Pos} (he : PEZ X W e te) (hN : X.N[i]? = some x := by rfl) (hv : Vis X.env.scope x := by first | exact Or.inl rfl | exact Or.inr (Or.inl rfl) | exact Or.inr (Or.inr rfl)) (hd : (x == ("__debug__" : Str)) = false := by decide)
    (hcd : (x == ("__classdict__" : Str)) = false := by decide) (hs : swapsWith (.Call (.Attribute (.Name x p) "append" pm) [e] [] pos') none pos.line X.env = pure false := by rfl)
    (hpe : ∀ {t : TE}, PE X e t → PE X (.Call (.Attribute (.Name x p) "append" pm) [e] [] pos') (tBM X.K "list" rAppend (tVar i) (tCons t tNil)) := by
      intro t ht
      exact pe_bm PySem.F.plainAttrs_list PySem.F.slot_list_append PySem.F.type_list_append mt_append (pv _) (pa_cons ht pa_nil)) :
    PSZ X W (.Expr (.Call (.Attribute (.Name x p) "append" pm) [e] [] pos') pos) (zAppO i te) := fun Z ex tk =>
  psI (ps_expr (hpe (he.run Z ex tk)) hs) fun DE σ H ⟨Dz, hex, EI, G, M, δ, w, a, h⟩ => by
  subst hex
  obtain ⟨l, hl, h⟩ := h.of
  obtain ⟨p, vs, h1, h2, h3, h4⟩ := a.own hl
  refine ⟨.ref p, h1, .inl ⟨rfl, _, SqL.of h2⟩, G, M, δ, w, a, he.mo (fun d w1 q1 v H1 G1 M1 o1 r1 => ?_) h⟩
  have a1 := a.go o1
  have r4 := h4.up o1.nx.gg
  refine ⟨p, vs, v, rfl, rfl, o1.nx.fr p _ h2 h3, by rw [r4.len, sizeLine_eq]; omega, EI.nx _ _ ⟨G1, M1, _, w1, a1.change hl h1 (r4.app (.cons r1 .nil)), q1.2⟩⟩
end
end Z

namespace Z
open PySem PySem.Spec PyProof.Rows L2
variable {ω : Type}

/-! ### calls of what is built in -/
structure LndC (K : PySem.W.Frag) (rc : List V → Hp → VK → Prop) (r : List D → (D → Prop) → Prop) : Prop where
  mo : ∀ {l : List D} {q q' : D → Prop}, (∀ d, q d → q' d) → r l q → r l q'
  go : ∀ (H G : Hp) (vs : List V) (l : List D) (q : D → Prop) (Q : VK), Ext G H → RepL K G vs l → r l q → (∀ d v, q d → Rep K G v d → Q v H) → (∀ m us p, q (.tup m) → H p = none → RepL K G us m → Q (.ref p) (upd H p (.tup us))) → rc vs H Q
structure LndF (K : PySem.W.Frag) (rc : List V → Hp → VK → Prop) (r : List D → (List D → Prop) → Prop) : Prop where
  mo : ∀ {l : List D} {q q' : List D → Prop}, (∀ d, q d → q' d) → r l q → r l q'
  go : ∀ (H G : Hp) (vs : List V) (l : List D) (q : List D → Prop) (Q : VK), Ext G H → RepL K G vs l → r l q → (∀ m us p, q m → H p = none → RepL K G us m → Q (.ref p) (upd H p (.lst us))) → rc vs H Q
def zB1 (r : List D → (D → Prop) → Prop) (ta : TAZ ω) : TEZ ω := fun δ w Q E => ta δ w (fun l w1 => r l fun d => Q d w1) E
def zBF (r : List D → (List D → Prop) → Prop) (ta : TAZ ω) : TAZ ω := fun δ w Q E => ta δ w (fun l w1 => r l fun m => Q m w1) E
section
variable {X : Cx} {W : Wp ω} {pos p : Pos} {x : Str} {e : Expr} {es : List Expr} {ta : TAZ ω} {rc : List V → Hp → VK → Prop} {r : List D → (D → Prop) → Prop} {rf : List D → (List D → Prop) → Prop}
theorem zb1_core (hl : LndC X.K rc r) (ha : PAZ X W (e :: es) ta) {Z : Zx} {ex : Nat → List Sl → ω → Prop} {σ : L2.St} {H : Hp} {Q : VK} (h : liE X.K W Z ex (zB1 r ta) σ H Q) : tCB rc (liA X.K W Z ex ta) σ H Q := by
  obtain ⟨G, M, δ, w, a, h⟩ := h
  exact ⟨G, M, δ, w, a, ha.mo (fun l w1 h1 vs H1 G1 M1 o1 r1 => hl.go H1 G1 vs l _ Q o1.pt.gh r1 h1 (fun d v q rv => q v H1 G1 M1 o1 rv) (fun m us p q hp ru => q (.ref p) _ _ _ (o1.new hp) (.tup (SqT.of upd_same) (ru.up (o1.ext hp))))) h⟩
theorem zbf_core (hl : LndF X.K rc rf) (ha : PAZ X W (e :: es) ta) {Z : Zx} {ex : Nat → List Sl → ω → Prop} {σ : L2.St} {H : Hp} {Q : VK} (h : liF X.K W Z ex (zBF rf ta) σ H Q) : tCB rc (liA X.K W Z ex ta) σ H Q := by
  obtain ⟨G, M, δ, w, a, h⟩ := h
  exact ⟨G, M, δ, w, a, ha.mo (fun l w1 h1 vs H1 G1 M1 o1 r1 => hl.go H1 G1 vs l _ Q o1.pt.gh r1 h1 (fun m us p q hp ru => q p us _ _ _ (o1.laid hp) ru (.of o1 a.pt.mh hp))) h⟩
theorem z_bi {id : String} (hc : CallR X (.builtin id) rc) (hl : LndC X.K rc r) (hm : X.mg x = none) (hv : bootBuiltins x = some (.builtin id)) (ha : PAZ X W (e :: es) ta) (hg : Gl X x := by rfl) (hn : x ≠ "__name__" := by decide) (hdb : (x == ("__debug__" : Str)) = false := by decide)
    (he : starEach (e :: es) X.env = (false, eval e X.env) :: starEach es X.env := by rfl) (hpl : (backTo pos (starEach es X.env)).any (·.1) = false := by rfl) : PEZ X W (.Call (.Name x p) (e :: es) [] pos) (zB1 r ta) :=
  ⟨fun k h => ha.mo (fun l w1 h1 => hl.mo (fun d q => k d _ q) h1) h, fun Z ex tk => peI (pe_callB hc hg hm hv (ha.run Z ex tk) hn hdb he hpl) fun σ H Q h => zb1_core hl ha h⟩
theorem z_bt {id : String} (hc : CallR X (.type id) rc) (hl : LndC X.K rc r) (hm : X.mg x = none) (hv : bootBuiltins x = some (.type id)) (ha : PAZ X W (e :: es) ta) (hg : Gl X x := by rfl) (hn : x ≠ "__name__" := by decide) (hdb : (x == ("__debug__" : Str)) = false := by decide)
    (he : starEach (e :: es) X.env = (false, eval e X.env) :: starEach es X.env := by rfl) (hpl : (backTo pos (starEach es X.env)).any (·.1) = false := by rfl) : PEZ X W (.Call (.Name x p) (e :: es) [] pos) (zB1 r ta) :=
  ⟨fun k h => ha.mo (fun l w1 h1 => hl.mo (fun d q => k d _ q) h1) h, fun Z ex tk => peI (pe_callTy hc hg hm hv (ha.run Z ex tk) hn hdb he hpl) fun σ H Q h => zb1_core hl ha h⟩
theorem z_bif {id : String} (hc : CallR X (.builtin id) rc) (hl : LndF X.K rc rf) (hm : X.mg x = none) (hv : bootBuiltins x = some (.builtin id)) (ha : PAZ X W (e :: es) ta) (hg : Gl X x := by rfl) (hn : x ≠ "__name__" := by decide) (hdb : (x == ("__debug__" : Str)) = false := by decide)
    (he : starEach (e :: es) X.env = (false, eval e X.env) :: starEach es X.env := by rfl) (hpl : (backTo pos (starEach es X.env)).any (·.1) = false := by rfl) : PFZ X W (.Call (.Name x p) (e :: es) [] pos) (zBF rf ta) :=
  ⟨fun k h => ha.mo (fun l w1 h1 => hl.mo (fun d q => k d _ q) h1) h, fun Z ex tk => peI (pe_callB hc hg hm hv (ha.run Z ex tk) hn hdb he hpl) fun σ H Q h => zbf_core hl ha h⟩
theorem z_btf {id : String} (hc : CallR X (.type id) rc) (hl : LndF X.K rc rf) (hm : X.mg x = none) (hv : bootBuiltins x = some (.type id)) (ha : PAZ X W (e :: es) ta) (hg : Gl X x := by rfl) (hn : x ≠ "__name__" := by decide) (hdb : (x == ("__debug__" : Str)) = false := by decide)
    (he : starEach (e :: es) X.env = (false, eval e X.env) :: starEach es X.env := by rfl) (hpl : (backTo pos (starEach es X.env)).any (·.1) = false := by rfl) : PFZ X W (.Call (.Name x p) (e :: es) [] pos) (zBF rf ta) :=
  ⟨fun k h => ha.mo (fun l w1 h1 => hl.mo (fun d q => k d _ q) h1) h, fun Z ex tk => peI (pe_callTy hc hg hm hv (ha.run Z ex tk) hn hdb he hpl) fun σ H Q h => zbf_core hl ha h⟩
end
/-! what they ask and give -/
def oneD (l : List D) (f : D → Prop) : Prop := match l with | [d] => f d | _ => False
def twoI (l : List D) (f : Int → Int → Prop) : Prop := match l with | [.int i, .int j] => f i j | _ => False
theorem oneD.of {l : List D} {f : D → Prop} (h : oneD l f) : ∃ d, l = [d] ∧ f d := by
  unfold oneD at h
  split at h
  · exact ⟨_, rfl, h⟩
  · exact h.elim
theorem twoI.of {l : List D} {f : Int → Int → Prop} (h : twoI l f) : ∃ i j, l = [.int i, .int j] ∧ f i j := by
  unfold twoI at h
  split at h
  · exact ⟨_, _, rfl, h⟩
  · exact h.elim
def lenD (l : List D) (q : D → Prop) : Prop := oneD l fun d => match d with
  | .tup m => q (.int m.length) | .lst m => q (.int m.length) | .arr m => q (.int m.length) | .str s => s.length ≤ 16777216 ∧ q (.int s.length) | _ => False
def absD (l : List D) (q : D → Prop) : Prop := oneD l fun d => intD d fun i => q (.int i.natAbs)
def maxD (l : List D) (q : D → Prop) : Prop := twoI l fun i j => q (.int (max i j))
def minD (l : List D) (q : D → Prop) : Prop := twoI l fun i j => q (.int (min i j))
def intC (l : List D) (q : D → Prop) : Prop := oneD l fun d => match d with
  | .int i => q (.int i) | .bl b => (b = true → q (.int 1)) ∧ (b = false → q (.int 0)) | .str s => ∃ n, PySem.intText? s = some n ∧ s.length ≤ 640 ∧ q (.int n) | _ => False
def strC (l : List D) (q : D → Prop) : Prop := oneD l fun d => intD d fun i => Sm 1900 i ∧ q (.str (toString i))
def sumC (l : List D) (q : D → Prop) : Prop := oneD l fun d => match d with | .lst m => ∃ ns : List Int, m = ns.map D.int ∧ q (.int ns.sum) | .arr m => ∃ ns : List Int, m = ns.map D.int ∧ q (.int ns.sum) | _ => False
def tupC (l : List D) (q : D → Prop) : Prop := oneD l fun d => match d with | .lst m => q (.tup m) | .tup m => q (.tup m) | _ => False
def lstC (l : List D) (q : List D → Prop) : Prop := oneD l fun d => match d with | .lst m => q m | .tup m => q m | .arr m => q m | _ => False
def maxC (l : List D) (q : D → Prop) : Prop := oneD l fun d => match d with | .lst m => ∃ ns : List Int, m = ns.map D.int ∧ 0 < ns.length ∧ ∀ m, m ∈ ns → (∀ y, y ∈ ns → y ≤ m) → q (.int m) | _ => False
def minC (l : List D) (q : D → Prop) : Prop := oneD l fun d => match d with | .lst m => ∃ ns : List Int, m = ns.map D.int ∧ 0 < ns.length ∧ ∀ m, m ∈ ns → (∀ y, y ∈ ns → m ≤ y) → q (.int m) | _ => False
def sortC (l : List D) (q : List D → Prop) : Prop := oneD l fun d => match d with | .lst m => ∃ ns : List Int, m = ns.map D.int ∧ ns.length < 64 ∧ ∀ ns' : List Int, ns'.Perm ns → ns'.Pairwise (· ≤ ·) → q (ns'.map D.int) | _ => False
section
variable {K : PySem.W.Frag}
theorem one_rep {G : Hp} {vs : List V} {d : D} (r : RepL K G vs [d]) : ∃ v, vs = [v] ∧ Rep K G v d := by
  cases r with
  | cons a b => cases b; exact ⟨_, rfl, a⟩
theorem two_rep {G : Hp} {vs : List V} {i j : Int} (r : RepL K G vs [.int i, .int j]) : vs = [.int i, .int j] := by
  cases r with
  | cons a b =>
    cases a
    cases b with
    | cons a b => cases a; cases b; rfl
theorem oneD.imp {l : List D} {f g : D → Prop} (k : ∀ d, f d → g d) (h : oneD l f) : oneD l g := by obtain ⟨d, rfl, q⟩ := h.of; exact k d q
theorem twoI.imp {l : List D} {f g : Int → Int → Prop} (k : ∀ i j, f i j → g i j) (h : twoI l f) : twoI l g := by obtain ⟨i, j, rfl, q⟩ := h.of; exact k i j q
theorem lc_len : LndC K (fun xs H Q => ∃ x n, xs = [x] ∧ LenV K x H n ∧ Q (.int n) H) lenD where
  mo := fun k h => h.imp fun d h => by
    split at h
    · exact k _ h
    · exact k _ h
    · exact k _ h
    · exact ⟨h.1, k _ h.2⟩
    · exact h.elim
  go := fun H G vs l q Q e r h k _ => by
    have hh := h.of; clear h; obtain ⟨d, rfl, h⟩ := hh
    have rr := one_rep r; clear r; obtain ⟨v, rfl, r⟩ := rr
    split at h
    · cases r with
      | tup s r => exact ⟨_, _, rfl, .inr ⟨_, sqTE e s, rfl⟩, by rw [r.len]; exact k _ _ h (.int _)⟩
    · cases r with
      | lst s r => exact ⟨_, _, rfl, .inl ⟨_, .inl (.inl (e _ _ s)), rfl⟩, by rw [r.len]; exact k _ _ h (.int _)⟩
    · cases r with
      | arr s r => exact ⟨_, _, rfl, .inl ⟨_, sqLE e s, rfl⟩, by rw [r.len]; exact k _ _ h (.int _)⟩
    · cases r
      exact ⟨_, _, rfl, ⟨by rw [sizeLine_eq]; exact h.1, rfl⟩, k _ _ h.2 (.int _)⟩
    · exact h.elim
theorem lc_abs : LndC K (fun xs H Q => ∃ i, xs = [.int i] ∧ Q (.int (if i < 0 then -i else i)) H) absD where
  mo := fun k h => h.imp fun d h => h.imp fun i h => k _ h
  go := fun H G vs l q Q e r h k _ => by
    have hh := h.of; clear h; obtain ⟨d, rfl, h⟩ := hh
    have hh := h.of; clear h; obtain ⟨i, rfl, h⟩ := hh
    have rr := one_rep r; clear r; obtain ⟨v, rfl, r⟩ := rr
    cases r
    refine ⟨i, rfl, ?_⟩
    have z : (if i < 0 then -i else i) = (i.natAbs : Int) := by split <;> omega
    rw [z]
    exact k _ _ h (.int _)
theorem lc_max : LndC K (fun xs H Q => ∃ i j, xs = [.int i, .int j] ∧ Q (.int (if j > i then j else i)) H) maxD where
  mo := fun k h => h.imp fun i j h => k _ h
  go := fun H G vs l q Q e r h k _ => by
    have hh := h.of; clear h; obtain ⟨i, j, rfl, h⟩ := hh
    obtain rfl := two_rep r
    refine ⟨i, j, rfl, ?_⟩
    have z : (if j > i then j else i) = max i j := by split <;> omega
    rw [z]
    exact k _ _ h (.int _)
theorem lc_min : LndC K (fun xs H Q => ∃ i j, xs = [.int i, .int j] ∧ Q (.int (if j < i then j else i)) H) minD where
  mo := fun k h => h.imp fun i j h => k _ h
  go := fun H G vs l q Q e r h k _ => by
    have hh := h.of; clear h; obtain ⟨i, j, rfl, h⟩ := hh
    obtain rfl := two_rep r
    refine ⟨i, j, rfl, ?_⟩
    have z : (if j < i then j else i) = min i j := by split <;> omega
    rw [z]
    exact k _ _ h (.int _)
theorem lc_int : LndC K (fun xs H Q => ((∃ i, xs = [.int i] ∧ Q (.int i) H) ∨ ∃ k, xs = [.bl k] ∧ Q (.int (if k then 1 else 0)) H) ∨ (∃ a n, xs = [.str a] ∧ PySem.intText? a = some n ∧ a.length ≤ 640 ∧ Q (.int n) H)) intC where
  mo := fun k h => h.imp fun d h => by
    split at h
    · exact k _ h
    · exact ⟨fun e => k _ (h.1 e), fun e => k _ (h.2 e)⟩
    · obtain ⟨n, h1, h2, h3⟩ := h; exact ⟨n, h1, h2, k _ h3⟩
    · exact h.elim
  go := fun H G vs l q Q e r h k _ => by
    have hh := h.of; clear h; obtain ⟨d, rfl, h⟩ := hh
    have rr := one_rep r; clear r; obtain ⟨v, rfl, r⟩ := rr
    split at h
    · cases r; exact .inl (.inl ⟨_, rfl, k _ _ h (.int _)⟩)
    · rename_i b
      cases r
      refine .inl (.inr ⟨_, rfl, ?_⟩)
      cases b with
      | true => exact k _ _ (h.1 rfl) (.int _)
      | false => exact k _ _ (h.2 rfl) (.int _)
    · cases r
      obtain ⟨n, h1, h2, h3⟩ := h
      exact .inr ⟨_, n, rfl, h1, h2, k _ _ h3 (.int _)⟩
    · exact h.elim
theorem lc_str : LndC K (fun xs H Q => ∃ i, xs = [.int i] ∧ i.natAbs.log2 < 1920 ∧ Q (.str (toString i)) H) strC where
  mo := fun k h => h.imp fun d h => h.imp fun i h => ⟨h.1, k _ h.2⟩
  go := fun H G vs l q Q e r h k _ => by
    have hh := h.of; clear h; obtain ⟨d, rfl, h⟩ := hh
    have hh := h.of; clear h; obtain ⟨i, rfl, h⟩ := hh
    have rr := one_rep r; clear r; obtain ⟨v, rfl, r⟩ := rr
    cases r
    exact ⟨i, rfl, Nat.lt_of_lt_of_le (PySem.Flt.log2_lt_of (by decide) h.1) (by decide), k _ _ h.2 (.str _)⟩
theorem lc_sum : LndC K (rSum K) sumC where
  mo := fun k h => h.imp fun d h => by
    split at h
    · obtain ⟨ns, h1, h2⟩ := h; exact ⟨ns, h1, k _ h2⟩
    · obtain ⟨ns, h1, h2⟩ := h; exact ⟨ns, h1, k _ h2⟩
    · exact h.elim
  go := fun H G vs l q Q e r h k _ => by
    have hh := h.of; clear h; obtain ⟨d, rfl, h⟩ := hh
    have rr := one_rep r; clear r; obtain ⟨v, rfl, r⟩ := rr
    split at h
    · obtain ⟨ns, rfl, h⟩ := h
      cases r with
      | lst s r =>
        obtain rfl := r.ints
        exact ⟨_, ns, rfl, .inl (.inl (e _ _ s)), k _ _ h (.int _)⟩
    · obtain ⟨ns, rfl, h⟩ := h
      cases r with
      | arr s r =>
        obtain rfl := r.ints
        exact ⟨_, ns, rfl, sqLE e s, k _ _ h (.int _)⟩
    · exact h.elim
theorem lc_tup : LndC K (fun xs H Q => ∃ p ys, xs = [.ref p] ∧ ((SqL K H p ys ∧ ∀ l, H l = none → Q (.ref l) (upd H l (.tup ys))) ∨ (SqT K H p ys ∧ Q (.ref p) H))) tupC where
  mo := fun k h => h.imp fun d h => by
    split at h
    · exact k _ h
    · exact k _ h
    · exact h.elim
  go := fun H G vs l q Q e r h k k' => by
    have hh := h.of; clear h; obtain ⟨d, rfl, h⟩ := hh
    have rr := one_rep r; clear r; obtain ⟨v, rfl, r⟩ := rr
    split at h
    · cases r with
      | lst s r => exact ⟨_, _, rfl, .inl ⟨.inl (.inl (e _ _ s)), fun p hp => k' _ _ p h hp r⟩⟩
    · cases r with
      | tup s r => exact ⟨_, _, rfl, .inr ⟨sqTE e s, k _ _ h (.tup s r)⟩⟩
    · exact h.elim
theorem lf_list : LndF K (fun xs H Q => ∃ p ys, xs = [.ref p] ∧ (SqL K H p ys ∨ SqT K H p ys) ∧ ∀ l, H l = none → Q (.ref l) (upd H l (.lst ys))) lstC where
  mo := fun k h => h.imp fun d h => by
    split at h
    · exact k _ h
    · exact k _ h
    · exact k _ h
    · exact h.elim
  go := fun H G vs l q Q e r h k => by
    have hh := h.of; clear h; obtain ⟨d, rfl, h⟩ := hh
    have rr := one_rep r; clear r; obtain ⟨v, rfl, r⟩ := rr
    split at h
    · cases r with
      | lst s r => exact ⟨_, _, rfl, .inl (.inl (.inl (e _ _ s))), fun p hp => k _ _ p h hp r⟩
    · cases r with
      | tup s r => exact ⟨_, _, rfl, .inr (sqTE e s), fun p hp => k _ _ p h hp r⟩
    · cases r with
      | arr s r => exact ⟨_, _, rfl, .inl (sqLE e s), fun p hp => k _ _ p h hp r⟩
    · exact h.elim
theorem lc_maxL : LndC K (rMax K) maxC where
  mo := fun k h => h.imp fun d h => by
    split at h
    · obtain ⟨ns, h1, h2, h3⟩ := h; exact ⟨ns, h1, h2, fun m a b => k _ (h3 m a b)⟩
    · exact h.elim
  go := fun H G vs l q Q e r h k _ => by
    have hh := h.of; clear h; obtain ⟨d, rfl, h⟩ := hh
    have rr := one_rep r; clear r; obtain ⟨v, rfl, r⟩ := rr
    split at h
    · obtain ⟨ns, rfl, h0, h⟩ := h
      cases r with
      | lst s r =>
        obtain rfl := r.ints
        exact ⟨_, ns, rfl, .inl (.inl (e _ _ s)), h0, fun m a b => k _ _ (h m a b) (.int _)⟩
    · exact h.elim
theorem lc_minL : LndC K (rMin K) minC where
  mo := fun k h => h.imp fun d h => by
    split at h
    · obtain ⟨ns, h1, h2, h3⟩ := h; exact ⟨ns, h1, h2, fun m a b => k _ (h3 m a b)⟩
    · exact h.elim
  go := fun H G vs l q Q e r h k _ => by
    have hh := h.of; clear h; obtain ⟨d, rfl, h⟩ := hh
    have rr := one_rep r; clear r; obtain ⟨v, rfl, r⟩ := rr
    split at h
    · obtain ⟨ns, rfl, h0, h⟩ := h
      cases r with
      | lst s r =>
        obtain rfl := r.ints
        exact ⟨_, ns, rfl, .inl (.inl (e _ _ s)), h0, fun m a b => k _ _ (h m a b) (.int _)⟩
    · exact h.elim
theorem lf_sort : LndF K (rSorted K) sortC where
  mo := fun k h => h.imp fun d h => by
    split at h
    · obtain ⟨ns, h1, h2, h3⟩ := h; exact ⟨ns, h1, h2, fun m a b => k _ (h3 m a b)⟩
    · exact h.elim
  go := fun H G vs l q Q e r h k => by
    have hh := h.of; clear h; obtain ⟨d, rfl, h⟩ := hh
    have rr := one_rep r; clear r; obtain ⟨v, rfl, r⟩ := rr
    split at h
    · obtain ⟨ns, rfl, h0, h⟩ := h
      cases r with
      | lst s r =>
        obtain rfl := r.ints
        exact ⟨_, ns, rfl, .inl (.inl (e _ _ s)), h0, fun ns' p a b hp => k _ _ p (h ns' a b) hp (.ofInts _)⟩
    · exact h.elim
end
section
variable {X : Cx} {W : Wp ω} {pos p : Pos} {e e2 : Expr} {ta : TAZ ω}
theorem z_len (hm : X.mg "len" = none) (ha : PAZ X W [e] ta) (hg : Gl X "len" := by rfl) (he : starEach [e] X.env = [(false, eval e X.env)] := by rfl) : PEZ X W (.Call (.Name "len" p) [e] [] pos) (zB1 lenD ta) := z_bi call_len lc_len hm PySem.boot_len ha hg (by decide) (by decide) he rfl
theorem z_abs (hm : X.mg "abs" = none) (ha : PAZ X W [e] ta) (hg : Gl X "abs" := by rfl) (he : starEach [e] X.env = [(false, eval e X.env)] := by rfl) : PEZ X W (.Call (.Name "abs" p) [e] [] pos) (zB1 absD ta) := z_bi call_abs lc_abs hm (by decide +kernel) ha hg (by decide) (by decide) he rfl
theorem z_max (hm : X.mg "max" = none) (ha : PAZ X W [e, e2] ta) (hc : X.calm = true := by rfl) (hg : Gl X "max" := by rfl) (he : starEach [e, e2] X.env = (false, eval e X.env) :: starEach [e2] X.env := by rfl) (hpl : (backTo pos (starEach [e2] X.env)).any (·.1) = false := by rfl) :
    PEZ X W (.Call (.Name "max" p) [e, e2] [] pos) (zB1 maxD ta) := z_bi (call_max2 hc) lc_max hm (by decide +kernel) ha hg (by decide) (by decide) he hpl
theorem z_min (hm : X.mg "min" = none) (ha : PAZ X W [e, e2] ta) (hc : X.calm = true := by rfl) (hg : Gl X "min" := by rfl) (he : starEach [e, e2] X.env = (false, eval e X.env) :: starEach [e2] X.env := by rfl) (hpl : (backTo pos (starEach [e2] X.env)).any (·.1) = false := by rfl) :
    PEZ X W (.Call (.Name "min" p) [e, e2] [] pos) (zB1 minD ta) := z_bi (call_min2 hc) lc_min hm (by decide +kernel) ha hg (by decide) (by decide) he hpl
theorem z_intC (hm : X.mg "int" = none) (ha : PAZ X W [e] ta) (hg : Gl X "int" := by rfl) (he : starEach [e] X.env = [(false, eval e X.env)] := by rfl) : PEZ X W (.Call (.Name "int" p) [e] [] pos) (zB1 intC ta) := z_bt (CallR.or call_int1 call_int_str) lc_int hm (by decide +kernel) ha hg (by decide) (by decide) he rfl
theorem z_strC (hm : X.mg "str" = none) (ha : PAZ X W [e] ta) (hg : Gl X "str" := by rfl) (he : starEach [e] X.env = [(false, eval e X.env)] := by rfl) : PEZ X W (.Call (.Name "str" p) [e] [] pos) (zB1 strC ta) := z_bt call_str_int lc_str hm (by decide +kernel) ha hg (by decide) (by decide) he rfl
theorem z_sum (hm : X.mg "sum" = none) (ha : PAZ X W [e] ta) (hc : X.calm = true := by rfl) (hg : Gl X "sum" := by rfl) (he : starEach [e] X.env = [(false, eval e X.env)] := by rfl) : PEZ X W (.Call (.Name "sum" p) [e] [] pos) (zB1 sumC ta) := z_bi (cr_sum hc) lc_sum hm (by decide +kernel) ha hg (by decide) (by decide) he rfl
theorem z_tupC (hm : X.mg "tuple" = none) (ha : PAZ X W [e] ta) (hg : Gl X "tuple" := by rfl) (he : starEach [e] X.env = [(false, eval e X.env)] := by rfl) : PEZ X W (.Call (.Name "tuple" p) [e] [] pos) (zB1 tupC ta) := z_bt call_tuple_of lc_tup hm (by decide +kernel) ha hg (by decide) (by decide) he rfl
theorem z_lstC (hm : X.mg "list" = none) (ha : PAZ X W [e] ta) (hg : Gl X "list" := by rfl) (he : starEach [e] X.env = [(false, eval e X.env)] := by rfl) : PFZ X W (.Call (.Name "list" p) [e] [] pos) (zBF lstC ta) := z_btf call_list_of lf_list hm (by decide +kernel) ha hg (by decide) (by decide) he rfl
theorem z_maxC (hm : X.mg "max" = none) (ha : PAZ X W [e] ta) (hc : X.calm = true := by rfl) (hg : Gl X "max" := by rfl) (he : starEach [e] X.env = [(false, eval e X.env)] := by rfl) : PEZ X W (.Call (.Name "max" p) [e] [] pos) (zB1 maxC ta) := z_bi (cr_max hc) lc_maxL hm (by decide +kernel) ha hg (by decide) (by decide) he rfl
theorem z_minC (hm : X.mg "min" = none) (ha : PAZ X W [e] ta) (hc : X.calm = true := by rfl) (hg : Gl X "min" := by rfl) (he : starEach [e] X.env = [(false, eval e X.env)] := by rfl) : PEZ X W (.Call (.Name "min" p) [e] [] pos) (zB1 minC ta) := z_bi (cr_min hc) lc_minL hm (by decide +kernel) ha hg (by decide) (by decide) he rfl
theorem z_sort (hm : X.mg "sorted" = none) (ha : PAZ X W [e] ta) (hg : Gl X "sorted" := by rfl) (he : starEach [e] X.env = [(false, eval e X.env)] := by rfl) : PFZ X W (.Call (.Name "sorted" p) [e] [] pos) (zBF sortC ta) := z_bif cr_sorted lf_sort hm (by decide +kernel) ha hg (by decide) (by decide) he rfl
end

/-! ### is None, isinstance -/
def isNon : D → Bool | .non => true | _ => false
def isND : OpD := fun x y q => match y with | .non => q (.bl (isNon x)) | _ => False
def notND : OpD := fun x y q => match y with | .non => q (.bl (!isNon x)) | _ => False
theorem isNon_rep {K : PySem.W.Frag} {G : Hp} {v : V} {d : D} (r : Rep K G v d) : decide (v = .non) = isNon d := by cases r <;> rfl
section
variable {K : PySem.W.Frag}
theorem l_isN : Lnd K (fun x y H Q => y = .non ∧ Q (.bl (decide (x = .non))) H) isND where
  mo := fun {x y q q'} k h => by
    unfold isND at h ⊢
    split at h
    · exact k _ h
    · exact h.elim
  go := fun H G x y dx dy q Q e rx ry h k _ => by
    unfold isND at h
    split at h
    · cases ry
      exact ⟨rfl, by rw [isNon_rep rx]; exact k _ _ h (.bl _)⟩
    · exact h.elim
theorem l_notN : Lnd K (fun x y H Q => y = .non ∧ Q (.bl (!decide (x = .non))) H) notND where
  mo := fun {x y q q'} k h => by
    unfold notND at h ⊢
    split at h
    · exact k _ h
    · exact h.elim
  go := fun H G x y dx dy q Q e rx ry h k _ => by
    unfold notND at h
    split at h
    · cases ry
      exact ⟨rfl, by rw [isNon_rep rx]; exact k _ _ h (.bl _)⟩
    · exact h.elim
end
def tyN : D → Option String
  | .non => some "NoneType" | .bl _ => some "bool" | .int _ => some "int" | .str _ => some "str" | .tup _ => some "tuple" | .lst _ => some "list" | .arr _ => some "list" | .ref _ => none | .exc _ => none
theorem tyX_of {K : PySem.W.Frag} {G H : Hp} (e : Ext G H) {v : V} {d : D} (r : Rep K G v d) {t : String} (h : tyN d = some t) : TyX K H v (.type t) := by
  cases r with
  | non => cases h; exact .base .non
  | bl b => cases h; exact .base (.bl b)
  | int i => cases h; exact .base (.int i)
  | str x => cases h; exact .base (.str x)
  | tup s r =>
    cases h
    rcases s with (s | ⟨o, s⟩) | ⟨o, its, n, s, c, _⟩
    · exact .base (.tup (e _ _ s))
    · exact .fTuple (e _ _ s)
    · exact .kTuple s c
  | lst s r => cases h; exact .base (.lst (e _ _ s))
  | arr s r =>
    cases h
    rcases s with (s | ⟨o, s⟩) | ⟨o, its, n, s, c, _⟩
    · exact .base (.lst (e _ _ s))
    · exact .base (.frz (e _ _ s))
    · exact .kList s c
  | ref p => cases h
  | exc _ => cases h
/-- isinstance(x, T), T built in; f its answer -/
def zIs (f : D → Option Bool) (te : TEZ ω) : TEZ ω := fun δ w Q E => te δ w (fun d w1 => match f d with | some b => Q (.bl b) w1 | none => False) E
section
variable {X : Cx} {W : Wp ω} {pos p p2 : Pos} {e : Expr} {te : TEZ ω}
theorem z_isT {x : Str} {T : String} {f : D → Option Bool} (hf : ∀ d b, f d = some b → ∃ t, tyN d = some t ∧ kitB t T = some b) (hm : X.mg "isinstance" = none) (hm2 : X.mg x = none) (hv : bootBuiltins x = some (.type T)) (he : PEZ X W e te) (hg : Gl X "isinstance" := by rfl) (hg2 : Gl X x := by rfl)
    (hn : x ≠ "__name__" := by decide) (hdb : (x == ("__debug__" : Str)) = false := by decide) (hs : starEach [e, .Name x p2] X.env = (false, eval e X.env) :: starEach [.Name x p2] X.env := by rfl) (hs2 : starEach [.Name x p2] X.env = (false, eval (.Name x p2) X.env) :: starEach [] X.env := by rfl)
    (hpl : (backTo pos (starEach [.Name x p2] X.env)).any (·.1) = false := by rfl) : PEZ X W (.Call (.Name "isinstance" p) [e, .Name x p2] [] pos) (zIs f te) :=
  ⟨fun k h => he.mo (fun d w1 h1 => by
    split at h1
    · exact k _ _ h1
    · exact h1.elim) h, fun Z ex tk => peI (pe_callB call_isi hg hm (by decide +kernel) (pa_cons (he.run Z ex tk) (pa_cons (pe_bltn (v := .ty T) hg2 hm2 hv rfl hn hdb) pa_nil hs2) hs) (by decide) (by decide) hs hpl) fun σ H Q ⟨G, M, δ, w, a, h⟩ =>
    ⟨G, M, δ, w, a, he.mo (fun d w1 h1 v H1 G1 M1 o1 r1 => by
      split at h1
      · rename_i b hb
        obtain ⟨t, h2, h3⟩ := hf d b hb
        exact ⟨v, .ty T, .type t, .type T, b, rfl, .ty T, tyX_of o1.pt.gh r1 h2, kit_ty h3, h1 _ H1 G1 M1 o1 (.bl b)⟩
      · exact h1.elim) h⟩⟩
def isInt : D → Option Bool | .int _ => some true | .bl _ => some true | .ref _ => none | .exc _ => none | _ => some false
def isBool : D → Option Bool | .bl _ => some true | .ref _ => none | .exc _ => none | _ => some false
def isStr : D → Option Bool | .str _ => some true | .ref _ => none | .exc _ => none | _ => some false
def isTup : D → Option Bool | .tup _ => some true | .ref _ => none | .exc _ => none | _ => some false
def isLst : D → Option Bool | .lst _ => some true | .arr _ => some true | .ref _ => none | .exc _ => none | _ => some false
theorem isInt_ok (d : D) (b : Bool) (h : isInt d = some b) : ∃ t, tyN d = some t ∧ kitB t "int" = some b := by
  cases d <;> cases h <;> exact ⟨_, rfl, by decide +kernel⟩
theorem isBool_ok (d : D) (b : Bool) (h : isBool d = some b) : ∃ t, tyN d = some t ∧ kitB t "bool" = some b := by
  cases d <;> cases h <;> exact ⟨_, rfl, by decide +kernel⟩
theorem isStr_ok (d : D) (b : Bool) (h : isStr d = some b) : ∃ t, tyN d = some t ∧ kitB t "str" = some b := by
  cases d <;> cases h <;> exact ⟨_, rfl, by decide +kernel⟩
theorem isTup_ok (d : D) (b : Bool) (h : isTup d = some b) : ∃ t, tyN d = some t ∧ kitB t "tuple" = some b := by
  cases d <;> cases h <;> exact ⟨_, rfl, by decide +kernel⟩
theorem isLst_ok (d : D) (b : Bool) (h : isLst d = some b) : ∃ t, tyN d = some t ∧ kitB t "list" = some b := by
  cases d <;> cases h <;> exact ⟨_, rfl, by decide +kernel⟩
theorem boot_int' : bootBuiltins "int" = some (.type "int") := by decide +kernel
theorem boot_bool' : bootBuiltins "bool" = some (.type "bool") := by decide +kernel
theorem boot_str' : bootBuiltins "str" = some (.type "str") := by decide +kernel
theorem boot_tuple' : bootBuiltins "tuple" = some (.type "tuple") := by decide +kernel
theorem boot_list' : bootBuiltins "list" = some (.type "list") := by decide +kernel
end

/-! ### slices -/
abbrev TOZ (ω : Type) := List Sl → ω → (Option Int → ω → Prop) → (Nat → ω → Prop) → Prop
def zON : TOZ ω := fun _ w Q _ => Q none w
def zOS (te : TEZ ω) : TOZ ω := fun δ w Q E => te δ w (fun d w1 => intD d fun k => Q (some k) w1) E
def liO (K : PySem.W.Frag) (W : Wp ω) (Z : Zx) (ex : Nat → List Sl → ω → Prop) (te : TOZ ω) : TO := fun σ H Q => ∃ G M δ w, SR K W Z σ H G M δ w ∧ te δ w (fun b w' => ∀ H' G' M', Go W H G M H' G' M' w' → Q b H') (fun e w' => ex e δ w')
structure POZ (X : Cx) (W : Wp ω) (e : Option Expr) (te : TOZ ω) : Prop where
  mo : Mo te
  run : ∀ (Z : Zx) (ex : Nat → List Sl → ω → Prop), Takes X (WXz X.K W Z ex) → PO X e (liO X.K W Z ex te)
theorem poI {X : Cx} {e : Option Expr} {t u : TO} (h : PO X e u) (i : ∀ σ H Q, t σ H Q → u σ H Q) : PO X e t := ⟨fun pins s σ H Q I q => h.run pins s σ H Q I (i _ _ _ q)⟩
section
variable {X : Cx} {W : Wp ω} {pos p p2 : Pos} {e : Expr} {te : TEZ ω} {lo hi : Option Expr} {tl th : TOZ ω}
theorem z_oN : POZ X W none zON := ⟨fun k h => k _ _ h, fun Z ex tk => poI po_none fun σ H Q ⟨G, M, δ, w, a, h⟩ => h H G M a.here⟩
theorem z_oS (h : PEZ X W e te) : POZ X W (some e) (zOS te) := ⟨fun k q => h.mo (fun d w1 q1 => q1.imp fun i q2 => k _ _ q2) q, fun Z ex tk => poI (po_some (h.run Z ex tk)) fun σ H Q ⟨G, M, δ, w, a, q⟩ =>
  ⟨G, M, δ, w, a, h.mo (fun d w1 q1 v H1 G1 M1 o1 r1 => by
    obtain ⟨i, rfl, q2⟩ := q1.of
    cases r1
    exact ⟨i, rfl, q2 H1 G1 M1 o1⟩) q⟩⟩
def cutD (l : List D) (lo hi : Option Int) : List D := (l.drop (HT.sIx l.length 0 lo)).take (HT.sIx l.length l.length hi - HT.sIx l.length 0 lo)
def seqD (d : D) (f : List D → Prop) : Prop := match d with | .lst l => f l | .arr l => f l | _ => False
theorem seqD.imp {d : D} {f g : List D → Prop} (k : ∀ l, f l → g l) (h : seqD d f) : seqD d g := by cases d <;> first | exact k _ h | exact h
theorem seqD.of {K : PySem.W.Frag} {G : Hp} {v : V} {d : D} {f : List D → Prop} (h : seqD d f) (r : Rep K G v d) : ∃ p vs l, v = .ref p ∧ SqL K G p vs ∧ RepL K G vs l ∧ f l := by
  cases d with
  | lst l => cases r with | lst s r => exact ⟨_, _, _, rfl, .inl (.inl s), r, h⟩
  | arr l => cases r with | arr s r => exact ⟨_, _, _, rfl, s, r, h⟩
  | _ => exact False.elim h
/-- xs[lo:hi], a new list -/
def zSlL (te : TEZ ω) (tl th : TOZ ω) : TAZ ω := fun δ w Q E => te δ w (fun d w1 => tl δ w1 (fun a w2 => th δ w2 (fun b w3 => seqD d fun l => Q (cutD l a b) w3) E) E) E
theorem z_slL (he : PEZ X W e te) (hl : POZ X W lo tl) (hu : POZ X W hi th) : PFZ X W (.Subscript e (.Slice lo hi none p2) pos) (zSlL te tl th) :=
  ⟨fun k h => he.mo (fun _ _ h1 => hl.mo (fun _ _ h2 => hu.mo (fun _ _ h3 => h3.imp fun l q => k _ _ q) h2) h1) h, fun Z ex tk => peI (pe_slice sl_list (he.run Z ex tk) (hl.run Z ex tk) (hu.run Z ex tk)) fun σ H Q ⟨G, M, δ, w, a, h⟩ =>
    ⟨G, M, δ, w, a, he.mo (fun d w1 h1 v H1 G1 M1 o1 r1 => ⟨G1, M1, δ, w1, a.go o1, hl.mo (fun lo w2 h2 H2 G2 M2 o2 => ⟨G2, M2, δ, w2, a.go (o1.tr o2), hu.mo (fun hi w3 h3 H3 G3 M3 o3 => by
      obtain ⟨p, vs, l, rfl, s, r, q⟩ := h3.of r1
      have e3 := (o2.tr o3).nx.gg
      refine ⟨p, vs, rfl, sqLE (e3.tr o3.pt.gh) s, fun p' hp => ?_⟩
      have r3 : RepL X.K G3 (cutV vs lo hi) (cutD l lo hi) := by
        unfold cutV cutD
        rw [r.len]
        exact (((r.up e3).drop _).take _)
      exact q p' _ _ _ _ ((((o1.tr o2).tr o3)).laid hp) r3 (.of ((o1.tr o2).tr o3) a.pt.mh hp)) h2⟩) h1⟩) h⟩⟩
/-- s[lo:hi], a text -/
def zSlS (te : TEZ ω) (tl th : TOZ ω) : TEZ ω := fun δ w Q E => te δ w (fun d w1 => tl δ w1 (fun a w2 => th δ w2 (fun b w3 => match d with | .str z => z.length ≤ 16777216 ∧ Q (.str (cutS z a b)) w3 | _ => False) E) E) E
theorem z_slS (he : PEZ X W e te) (hl : POZ X W lo tl) (hu : POZ X W hi th) : PEZ X W (.Subscript e (.Slice lo hi none p2) pos) (zSlS te tl th) :=
  ⟨fun k h => he.mo (fun d _ h1 => hl.mo (fun _ _ h2 => hu.mo (fun _ _ h3 => by
    split at h3
    · exact ⟨h3.1, k _ _ h3.2⟩
    · exact h3.elim) h2) h1) h, fun Z ex tk => peI (pe_slice sl_str (he.run Z ex tk) (hl.run Z ex tk) (hu.run Z ex tk)) fun σ H Q ⟨G, M, δ, w, a, h⟩ =>
    ⟨G, M, δ, w, a, he.mo (fun d w1 h1 v H1 G1 M1 o1 r1 => ⟨G1, M1, δ, w1, a.go o1, hl.mo (fun lo w2 h2 H2 G2 M2 o2 => ⟨G2, M2, δ, w2, a.go (o1.tr o2), hu.mo (fun hi w3 h3 H3 G3 M3 o3 => by
      split at h3
      · cases r1
        exact ⟨_, rfl, by rw [sizeLine_eq]; exact h3.1, h3.2 _ H3 G3 M3 ((o1.tr o2).tr o3) (.str _)⟩
      · exact h3.elim) h2⟩) h1⟩) h⟩⟩
/-- t[lo:hi], a tuple, not the whole of it -/
def zSlT (te : TEZ ω) (tl th : TOZ ω) : TEZ ω := fun δ w Q E => te δ w (fun d w1 => tl δ w1 (fun a w2 => th δ w2 (fun b w3 => match d with | .tup l => ¬ (HT.sIx l.length 0 a = 0 ∧ HT.sIx l.length l.length b = l.length) ∧ Q (.tup (cutD l a b)) w3 | _ => False) E) E) E
theorem z_slT (he : PEZ X W e te) (hl : POZ X W lo tl) (hu : POZ X W hi th) : PEZ X W (.Subscript e (.Slice lo hi none p2) pos) (zSlT te tl th) :=
  ⟨fun k h => he.mo (fun d _ h1 => hl.mo (fun _ _ h2 => hu.mo (fun _ _ h3 => by
    split at h3
    · exact ⟨h3.1, k _ _ h3.2⟩
    · exact h3.elim) h2) h1) h, fun Z ex tk => peI (pe_slice sl_tup (he.run Z ex tk) (hl.run Z ex tk) (hu.run Z ex tk)) fun σ H Q ⟨G, M, δ, w, a, h⟩ =>
    ⟨G, M, δ, w, a, he.mo (fun d w1 h1 v H1 G1 M1 o1 r1 => ⟨G1, M1, δ, w1, a.go o1, hl.mo (fun lo w2 h2 H2 G2 M2 o2 => ⟨G2, M2, δ, w2, a.go (o1.tr o2), hu.mo (fun hi w3 h3 H3 G3 M3 o3 => by
      cases d with
      | tup l =>
        cases r1 with
        | @tup p vs _ s r =>
          have e3 := (o2.tr o3).nx.gg
          refine ⟨p, vs, rfl, sqTE (e3.tr o3.pt.gh) s, by rw [r.len]; exact h3.1, fun p' hp => ?_⟩
          have r3 : RepL X.K G3 (cutV vs lo hi) (cutD l lo hi) := by
            unfold cutV cutD
            rw [r.len]
            exact (((r.up e3).drop _).take _)
          exact h3.2 (.ref p') _ _ _ (((o1.tr o2).tr o3).new hp) (.tup (SqT.of upd_same) (r3.up (o3.ext hp)))
      | _ => exact False.elim h3) h2⟩) h1⟩) h⟩⟩
/-- xs[::-1] -/
def zRev (te : TEZ ω) : TAZ ω := fun δ w Q E => te δ w (fun d w1 => seqD d fun l => Q l.reverse w1) E
theorem z_rev {k : Nat} {p1 p3 : Pos} (he : PEZ X W e te) : PFZ X W (.Subscript e (.Slice none none (some (.UnaryOp .USub (.Constant (.int 1) k p1) p2)) p3) pos) (zRev te) :=
  ⟨fun k h => he.mo (fun d w1 h1 => h1.imp fun l q => k _ _ q) h, fun Z ex tk => peI (pe_revL (he.run Z ex tk)) fun σ H Q ⟨G, M, δ, w, a, h⟩ =>
    ⟨G, M, δ, w, a, he.mo (fun d w1 h1 v H1 G1 M1 o1 r1 => by
      obtain ⟨p, vs, l, rfl, s, r, q⟩ := h1.of r1
      exact ⟨p, vs, rfl, sqLE o1.pt.gh s, fun p' hp => q p' _ _ _ _ (o1.laid hp) r.rev (.of o1 a.pt.mh hp)⟩) h⟩⟩
/-- xs + ys, a new list -/
def zCat (ta tb : TEZ ω) : TAZ ω := fun δ w Q E => ta δ w (fun x w1 => tb δ w1 (fun y w2 => match x, y with | .lst l, .lst m => l.length + m.length ≤ 100000 ∧ Q (l ++ m) w2 | _, _ => False) E) E
theorem z_cat {a b : Expr} {ta tb : TEZ ω} (ha : PEZ X W a ta) (hb : PEZ X W b tb) : PFZ X W (.BinOp a .Add b pos) (zCat ta tb) :=
  ⟨fun k h => ha.mo (fun _ _ h1 => hb.mo (fun _ _ h2 => by
    split at h2
    · exact ⟨h2.1, k _ _ h2.2⟩
    · exact h2.elim) h1) h, fun Z ex tk => peI (pe_op op_cat (ha.run Z ex tk) (hb.run Z ex tk)) fun σ H Q ⟨G, M, δ, w, a0, h⟩ =>
    ⟨G, M, δ, w, a0, ha.mo (fun d w1 h1 v H1 G1 M1 o1 r1 => ⟨G1, M1, δ, w1, a0.go o1, hb.mo (fun d2 w2 h2 v2 H2 G2 M2 o2 r2 => by
      split at h2
      · cases r1 with
        | lst s r =>
          cases r2 with
          | lst s2 r2 =>
            refine ⟨_, _, _, _, rfl, rfl, o2.pt.gh _ _ (o2.nx.gg _ _ s), o2.pt.gh _ _ s2, sz1 (by rw [r.len, r2.len]; exact h2.1), fun p hp => ?_⟩
            exact h2.2 p _ _ _ _ ((o1.tr o2).laid hp) ((r.up o2.nx.gg).app r2) (.of (o1.tr o2) a0.pt.mh hp)
      · exact h2.elim) h1⟩) h⟩⟩
end
end Z

namespace Z
open PySem PySem.Spec PyProof.Rows L2
variable {ω : Type}

/-! ### comprehensions -/
def NoE : Nat → ω → Prop := fun _ _ => False
/-- no test -/
def zYes : TTZ ω := fun _ w Q _ => Q true w
/-- one turn after another; vs: the comprehension's own slots -/
def zComp (l : List D) (gz : TGZ) (tt : TTZ ω) (te : TEZ ω) (vs : List Nat) (δ : List Sl) (w : ω) (Q : List D → ω → Prop) : Prop :=
  l.length ≤ 100000 ∧ ∃ I : Nat → List D → ω → Prop, I 0 [] w ∧ (∀ i d acc w', l[i]? = some d → I i acc w' → gz d (wipeZ δ vs) fun δ2 => tt δ2 w' (fun b w2 => (b = true → te δ2 w2 (fun y w3 => I (i + 1) (acc ++ [y]) w3) NoE) ∧ (b = false → I (i + 1) acc w2)) NoE) ∧
    ∀ acc w', I l.length acc w' → Q acc w'
theorem zComp.imp {l : List D} {gz : TGZ} {tt : TTZ ω} {te : TEZ ω} {vs : List Nat} {δ : List Sl} {w : ω} {Q Q' : List D → ω → Prop} (k : ∀ l w, Q l w → Q' l w) (h : zComp l gz tt te vs δ w Q) : zComp l gz tt te vs δ w Q' := by
  obtain ⟨h0, I, h1, h2, h3⟩ := h
  exact ⟨h0, I, h1, h2, fun acc w' q => k _ _ (h3 acc w' q)⟩
def rngD (lo : Int) (n : Nat) : List D := (List.range n).map fun (i : Nat) => .int (lo + (i : Int))
theorem rngD_at {lo : Int} {n i : Nat} (h : i < n) : (rngD lo n)[i]? = some (.int (lo + (i : Int))) := by
  unfold rngD
  rw [List.getElem?_map, List.getElem?_range h]
  rfl
theorem rngD_len (lo : Int) (n : Nat) : (rngD lo n).length = n := by unfold rngD; rw [List.length_map, List.length_range]
/-- a target whose slots are wiped behind it -/
def Wiped (g : TG) (vs : List Nat) : Prop := ∀ (x : V) (σ : L2.St) (H : Hp) (Q : L2.St → Hp → Prop), g x (L2.wipe σ vs) H Q → g x (L2.wipe σ vs) H fun σ2 H2 => L2.wipe σ2 vs = L2.wipe σ vs ∧ Q σ2 H2
theorem wiped_name (j : Nat) : Wiped (gName j) [j] := fun x σ H Q h => ⟨by show ((σ.set j none).set j (some x)).set j none = σ.set j none; rw [List.set_set, List.set_set], h⟩
/-- the context of a comprehension's block lets nothing out -/
theorem tkN {Y : Cx} {W : Wp ω} {Z : Zx} : Takes Y (WXz Y.K W Z fun _ _ _ => False) := takes0.imp fun c d σ H ⟨_, e, _, G, M, δ, w, a, q⟩ => q.elim
structure CompOk (X : Cx) (W : Wp ω) (scope : Scope) (tg elt : Expr) (ifs : List Expr) (g : TG) (gz : TGZ) (tt : TTZ ω) (te : TEZ ω) : Prop where
  hg : ∀ (s : Shared) (H : Hp) (C : Addr) (cl : List (Str × Addr)) (fp : List Addr), PG (X.blk s H scope (compEnvC scope cl C X.env) fp) tg g
  gg : GoG X.K g gz
  ht : ∀ (s : Shared) (H : Hp) (C : Addr) (cl : List (Str × Addr)) (fp : List Addr) (Z : Zx), PTs (X.blk s H scope (compEnvC scope cl C X.env) fp) ifs (liT X.K W Z (fun _ _ _ => False) tt)
  mt : Shared → Mo tt
  he : ∀ (s : Shared) (H : Hp) (C : Addr) (cl : List (Str × Addr)) (fp : List Addr), PEZ (X.blk s H scope (compEnvC scope cl C X.env) fp) W elt te
  mo : Shared → Mo te
def liN (K : PySem.W.Frag) (W : Wp ω) (te : TEZ ω) : TE := fun σ H Q => ∃ Z, liE K W Z (fun _ _ _ => False) te σ H Q
def liNT (K : PySem.W.Frag) (W : Wp ω) (te : TTZ ω) : TT := fun σ H Q => ∃ Z, liT K W Z (fun _ _ _ => False) te σ H Q
section
variable {X : Cx} {W : Wp ω} {pos : Pos} {scope : Scope} {tg elt iter : Expr} {ifs : List Expr} {g : TG} {gz : TGZ} {tt : TTZ ω} {te : TEZ ω} {own : List (Str × Nat)}
theorem CompOk.pe (C : CompOk X W scope tg elt ifs g gz tt te) (s : Shared) (H : Hp) (Ca : Addr) (cl : List (Str × Addr)) (fp : List Addr) : PE (X.blk s H scope (compEnvC scope cl Ca X.env) fp) elt (liN X.K W te) :=
  ⟨fun pins s' σ H' Q I ⟨Z, q⟩ => ((C.he s H Ca cl fp).run Z _ tkN).run pins s' σ H' Q I q⟩
theorem CompOk.pt (C : CompOk X W scope tg elt ifs g gz tt te) (s : Shared) (H : Hp) (Ca : Addr) (cl : List (Str × Addr)) (fp : List Addr) : PTs (X.blk s H scope (compEnvC scope cl Ca X.env) fp) ifs (liNT X.K W tt) :=
  ⟨fun pins s' σ H' Q I ⟨Z, q⟩ => (C.ht s H Ca cl fp Z).run pins s' σ H' Q I q⟩
/-- the list at D grows; all else stands -/
def CInv (K : PySem.W.Frag) (W : Wp ω) (H G M : Hp) (Dl : Addr) (I : Nat → List D → ω → Prop) (i : Nat) (H' : Hp) : Prop :=
  ∃ G' M' w' vs acc, Go W H G M H' G' M' w' ∧ NewAt H H' G' M' Dl vs ∧ RepL K G' vs acc ∧ acc.length ≤ i ∧ I i acc w'
theorem comp_turn {Z : Zx} {σ : L2.St} {H G M : Hp} {δ : List Sl} {w : ω} {Dl : Addr} {I : Nat → List D → ω → Prop} {i : Nat} {H' : Hp} {d : D} {v : V} {vs : List Nat} (hgz : GoG X.K g gz) (mt : Mo tt) (mo : Mo te) (hw : Wiped g vs) (a : SR X.K W Z σ H G M δ w) (hi : i < 100000) (rv : Rep X.K G v d) (c : CInv X.K W H G M Dl I i H')
    (hs : ∀ acc w', I i acc w' → gz d (wipeZ δ vs) fun δ2 => tt δ2 w' (fun b w2 => (b = true → te δ2 w2 (fun y w3 => I (i + 1) (acc ++ [y]) w3) NoE) ∧ (b = false → I (i + 1) acc w2)) NoE) :
    g v (L2.wipe σ vs) H' fun σ2 H2 => L2.wipe σ2 vs = L2.wipe σ vs ∧ liNT X.K W tt σ2 H2 fun b H3 =>
      if b = true then liN X.K W te σ2 H3 fun y H4 => ∃ acc, H4 Dl = some (.lst acc) ∧ acc.length < sizeLine ∧ CInv X.K W H G M Dl I (i + 1) (upd H4 Dl (.lst (acc ++ [y]))) else CInv X.K W H G M Dl I (i + 1) H3 := by
  obtain ⟨G1, M1, w1, us, acc, o1, n1, r1, hl, q⟩ := c
  refine hw v σ H' _ ?_
  have a1 := (a.go o1).wipe vs
  refine hgz.go W Z (L2.wipe σ vs) H' G1 M1 (wipeZ δ vs) w1 v d _ _ a1 (rv.up o1.nx.gg) (hs acc w1 q) fun σ2 δ2 q2 a2 => ?_
  -- what grows is changed at Dl alone
  have grow : ∀ {H3 G3 M3 : Hp} {w3 : ω} {u : V} {y : D}, Go W H' G1 M1 H3 G3 M3 w3 → Rep X.K G3 u y → I (i + 1) (acc ++ [y]) w3 → ∃ acc, H3 Dl = some (.lst acc) ∧ acc.length < sizeLine ∧ CInv X.K W H G M Dl I (i + 1) (upd H3 Dl (.lst (acc ++ [u]))) := by
    intro H3 G3 M3 w3 u y o3 ru qi
    obtain ⟨m1, m2, m3, m4⟩ := n1
    have h3 := o3.nx.fr Dl _ m2 m4
    have g3 : G3 Dl = none := by
      cases z : G3 Dl with
      | none => rfl
      | some t => rw [o3.nx.gn Dl t z m3] at m2; cases m2
    have k3 : M3 Dl = none := by
      cases z : M3 Dl with
      | none => rfl
      | some t => rw [o3.nx.mn Dl t z m4] at m2; cases m2
    have r3 := r1.up o3.nx.gg
    have o := o1.tr o3
    refine ⟨us, h3, by rw [r1.len, sizeLine_eq]; omega, G3, M3, w3, us ++ [u], acc ++ [y], ⟨⟨fun p x e => ?_, fun p x e => ?_, o.pt.dj, o.pt.wd⟩, ⟨o.nx.gg, fun p x e e' => ?_, o.nx.gn, o.nx.mn, o.nx.m0⟩⟩, ⟨m1, upd_same, g3, k3⟩, r3.app (.cons ru .nil), by rw [List.length_append]; exact Nat.succ_le_succ hl, qi⟩
    · rw [upd_ne (ne_of_none e g3)]; exact o.pt.gh p x e
    · rw [upd_ne (ne_of_none e k3)]; exact o.pt.mh p x e
    · rw [upd_ne (ne_of_none e m1)]; exact o.nx.fr p x e e'
  refine ⟨Z, G1, M1, δ2, w1, a2, mt (fun b w2 q3 H3 G3 M3 o3 => ?_) q2⟩
  cases b with
  | true =>
    rw [if_pos rfl]
    refine ⟨Z, G3, M3, δ2, w2, a2.go o3, mo (fun y w4 q4 u H4 G4 M4 o4 r4 => grow (o3.tr o4) r4 q4) (q3.1 rfl)⟩
  | false =>
    rw [if_neg Bool.false_ne_true]
    obtain ⟨m1, m2, m3, m4⟩ := n1
    refine ⟨G3, M3, w2, us, acc, o1.tr o3, ⟨m1, o3.nx.fr Dl _ m2 m4, ?_, ?_⟩, r1.up o3.nx.gg, Nat.le_succ_of_le hl, q3.2 rfl⟩
    · cases z : G3 Dl with
      | none => rfl
      | some t => rw [o3.nx.gn Dl t z m3] at m2; cases m2
    · cases z : M3 Dl with
      | none => rfl
      | some t => rw [o3.nx.mn Dl t z m4] at m2; cases m2
theorem c_start {K : PySem.W.Frag} {W : Wp ω} {H G M : Hp} {w : ω} {Dl : Addr} {I : Nat → List D → ω → Prop} (p : Pt W H G M w) (hD : H Dl = none) (h : I 0 [] w) : CInv K W H G M Dl I 0 (upd H Dl (.lst [])) := by
  have o : Go W H G M H G M w := ⟨p, .rfl'⟩
  exact ⟨G, M, w, [], [], o.laid hD, .of o p.mh hD, .nil, Nat.le_refl _, h⟩
/-- [elt for x in xs if ..], xs a list; a tuple; a range -/
def zLcL (ti : TEZ ω) (gz : TGZ) (tt : TTZ ω) (te : TEZ ω) (vs : List Nat) : TAZ ω := fun δ w Q E => ti δ w (fun d w1 => seqD d fun l => zComp l gz tt te vs δ w1 Q) E
def zLcT (ti : TEZ ω) (gz : TGZ) (tt : TTZ ω) (te : TEZ ω) (vs : List Nat) : TAZ ω := fun δ w Q E => ti δ w (fun d w1 => match d with | .tup l => zComp l gz tt te vs δ w1 Q | _ => False) E
def zLcR1 (ta : TAZ ω) (gz : TGZ) (tt : TTZ ω) (te : TEZ ω) (vs : List Nat) : TAZ ω := fun δ w Q E => ta δ w (fun l w1 => oneD l fun d => intD d fun n => zComp (rngD 0 n.toNat) gz tt te vs δ w1 Q) E
def zLcR2 (ta : TAZ ω) (gz : TGZ) (tt : TTZ ω) (te : TEZ ω) (vs : List Nat) : TAZ ω := fun δ w Q E => ta δ w (fun l w1 => twoI l fun m n => zComp (rngD m (n - m).toNat) gz tt te vs δ w1 Q) E
theorem imp_lcL {ti : TEZ ω} {vs : List Nat} {Z : Zx} {ex : Nat → List Sl → ω → Prop} (hi : PEZ X W iter ti) (s0 : Shared) (C : CompOk X W scope tg elt ifs g gz tt te) (hw : Wiped g vs) {σ : L2.St} {H : Hp} {Q : VK} (h : liF X.K W Z ex (zLcL ti gz tt te vs) σ H Q) :
    tLc (iList X.K (liE X.K W Z ex ti)) g (liNT X.K W tt) (liN X.K W te) vs σ H Q := by
  obtain ⟨G, M, δ, w, a, h⟩ := h
  refine ⟨G, M, δ, w, a, hi.mo (fun d w1 h1 v H1 G1 M1 o1 r1 => ?_) h⟩
  obtain ⟨p, us, l, rfl, s, r, hlen, I, i0, is, id⟩ := h1.of r1
  have a1 := a.go o1
  refine ⟨p, rfl, ⟨us, sqLE o1.pt.gh s⟩, fun Dl hD => ?_⟩
  refine lc_list (K := X.K) (a := p) (xs := us) (CInv X.K W H1 G1 M1 Dl I) (c_start o1.pt hD i0) ?_ ?_ ?_
  · rintro i H2 _ ⟨G2, M2, w2, us2, acc, o2, n2, r2, q2⟩
    exact sqLE (o2.nx.gg.tr o2.pt.gh) s
  · intro i x H2 hx c
    obtain ⟨d2, hd, rd⟩ := r.getV hx
    exact comp_turn C.gg (C.mt s0) (C.mo s0) hw a1 (by have := (List.getElem?_eq_some_iff.mp hd).1; omega) rd c fun acc w' q => is i d2 acc w' hd q
  · rintro H2 ⟨G2, M2, w2, us2, acc, o2, n2, r2, hl2, q2⟩
    rw [r.len] at q2
    exact id acc w2 q2 Dl us2 H2 G2 M2 (o1.tr o2) r2 ⟨o1.nx.back o1.pt.mh hD, n2.2⟩
theorem imp_lcT {ti : TEZ ω} {vs : List Nat} {Z : Zx} {ex : Nat → List Sl → ω → Prop} (hi : PEZ X W iter ti) (s0 : Shared) (C : CompOk X W scope tg elt ifs g gz tt te) (hw : Wiped g vs) {σ : L2.St} {H : Hp} {Q : VK} (h : liF X.K W Z ex (zLcT ti gz tt te vs) σ H Q) :
    tLc (iTup X.K (liE X.K W Z ex ti)) g (liNT X.K W tt) (liN X.K W te) vs σ H Q := by
  obtain ⟨G, M, δ, w, a, h⟩ := h
  refine ⟨G, M, δ, w, a, hi.mo (fun d w1 h1 v H1 G1 M1 o1 r1 => ?_) h⟩
  cases d with
  | tup l =>
    cases r1 with
    | @tup p us _ s r =>
      obtain ⟨hlen, I, i0, is, id⟩ := h1
      have a1 := a.go o1
      refine ⟨p, rfl, ⟨us, sqTE o1.pt.gh s⟩, fun Dl hD => ?_⟩
      refine L2.lc_tup (K := X.K) (a := p) (xs := us) (CInv X.K W H1 G1 M1 Dl I) (c_start o1.pt hD i0) ?_ ?_ ?_
      · rintro i H2 _ ⟨G2, M2, w2, us2, acc, o2, n2, r2, q2⟩
        exact sqTE (o2.nx.gg.tr o2.pt.gh) s
      · intro i x H2 hx c
        obtain ⟨d2, hd, rd⟩ := r.getV hx
        exact comp_turn C.gg (C.mt s0) (C.mo s0) hw a1 (by have := (List.getElem?_eq_some_iff.mp hd).1; omega) rd c fun acc w' q => is i d2 acc w' hd q
      · rintro H2 ⟨G2, M2, w2, us2, acc, o2, n2, r2, hl2, q2⟩
        rw [r.len] at q2
        exact id acc w2 q2 Dl us2 H2 G2 M2 (o1.tr o2) r2 ⟨o1.nx.back o1.pt.mh hD, n2.2⟩
  | _ => exact False.elim h1
theorem comp_range {Z : Zx} {σ : L2.St} {H0 H G M : Hp} {δ : List Sl} {w : ω} {vs : List Nat} {lo : Int} {n : Nat} {Q : VK} {Dl : Addr} (s0 : Shared) (C : CompOk X W scope tg elt ifs g gz tt te) (hw : Wiped g vs) (a : SR X.K W Z σ H G M δ w) (pt : Pt W H G M w) (hD : H Dl = none) {Qz : List D → ω → Prop} (h : zComp (rngD lo n) gz tt te vs δ w Qz)
    (k : ∀ acc w2 us2 H2 G2 M2, Qz acc w2 → Go W H G M H2 G2 M2 w2 → RepL X.K G2 us2 acc → NewAt H H2 G2 M2 Dl us2 → Q (.ref Dl) H2) : ∃ W' : Nat → Nat → Hp → Prop, (∃ m, W' 0 m (upd H Dl (.lst []))) ∧ ∀ i m H, W' i m H →
      ((Itr lo n).stop i H ∧ Q (.ref Dl) H) ∨ ((Itr lo n).go i H ∧ ∃ Nx : Hp → Prop, (∀ H', Nx H' → ∃ m', m' < m ∧ W' (i + 1) m' H') ∧ ∀ x H', (Itr lo n).yld i H x H' → g x (L2.wipe σ vs) H' fun σ2 H2 => L2.wipe σ2 vs = L2.wipe σ vs ∧ liNT X.K W tt σ2 H2 fun b H3 =>
        if b = true then liN X.K W te σ2 H3 fun y H4 => ∃ acc, H4 Dl = some (.lst acc) ∧ acc.length < sizeLine ∧ Nx (upd H4 Dl (.lst (acc ++ [y]))) else Nx H3) := by
  obtain ⟨hlen, I, i0, is, id⟩ := h
  rw [rngD_len] at hlen id
  refine lc_range (Qd := fun H => Q (.ref Dl) H) (CInv X.K W H G M Dl I) (c_start pt hD i0) ?_ ?_
  · intro i H2 hx c
    exact comp_turn C.gg (C.mt s0) (C.mo s0) hw a (by omega) (.int _) c fun acc w' q => is i _ acc w' (rngD_at hx) q
  · rintro H2 ⟨G2, M2, w2, us2, acc, o2, n2, r2, hl2, q2⟩
    exact k acc w2 us2 H2 G2 M2 (id acc w2 q2) o2 r2 n2
theorem imp_lcR1 {ea : Expr} {ta : TAZ ω} {vs : List Nat} {Z : Zx} {ex : Nat → List Sl → ω → Prop} (hi : PAZ X W [ea] ta) (s0 : Shared) (C : CompOk X W scope tg elt ifs g gz tt te) (hw : Wiped g vs) {σ : L2.St} {H : Hp} {Q : VK} (h : liF X.K W Z ex (zLcR1 ta gz tt te vs) σ H Q) :
    tLc (iRgB1 (liA X.K W Z ex ta)) g (liNT X.K W tt) (liN X.K W te) vs σ H Q := by
  obtain ⟨G, M, δ, w, a, h⟩ := h
  refine ⟨G, M, δ, w, a, hi.mo (fun l w1 h1 us H1 G1 M1 o1 r1 => ?_) h⟩
  obtain ⟨d, rfl, h2⟩ := h1.of
  obtain ⟨n, rfl, h5⟩ := h2.of
  obtain ⟨u, rfl, ru⟩ := one_rep r1
  cases ru
  exact ⟨n, rfl, fun Dl hD => comp_range (H0 := H) s0 C hw (a.go o1) o1.pt hD h5 fun acc w2 us2 H2 G2 M2 q o2 r2 n2 => q Dl us2 H2 G2 M2 (o1.tr o2) r2 ⟨o1.nx.back o1.pt.mh hD, n2.2⟩⟩
theorem imp_lcR2 {ea eb : Expr} {ta : TAZ ω} {vs : List Nat} {Z : Zx} {ex : Nat → List Sl → ω → Prop} (hi : PAZ X W [ea, eb] ta) (s0 : Shared) (C : CompOk X W scope tg elt ifs g gz tt te) (hw : Wiped g vs) {σ : L2.St} {H : Hp} {Q : VK} (h : liF X.K W Z ex (zLcR2 ta gz tt te vs) σ H Q) :
    tLc (iRgB2 (liA X.K W Z ex ta)) g (liNT X.K W tt) (liN X.K W te) vs σ H Q := by
  obtain ⟨G, M, δ, w, a, h⟩ := h
  refine ⟨G, M, δ, w, a, hi.mo (fun l w1 h1 us H1 G1 M1 o1 r1 => ?_) h⟩
  obtain ⟨m, n, rfl, h5⟩ := h1.of
  obtain rfl := two_rep r1
  exact ⟨m, n, rfl, fun Dl hD => comp_range (H0 := H) s0 C hw (a.go o1) o1.pt hD h5 fun acc w2 us2 H2 G2 M2 q o2 r2 n2 => q Dl us2 H2 G2 M2 (o1.tr o2) r2 ⟨o1.nx.back o1.pt.mh hD, n2.2⟩⟩
theorem mo_lcL {ti : TEZ ω} {vs : List Nat} (hi : PEZ X W iter ti) : Mo (zLcL ti gz tt te vs) := fun k h => hi.mo (fun d w1 h1 => h1.imp fun l h2 => h2.imp k) h
theorem mo_lcT {ti : TEZ ω} {vs : List Nat} (hi : PEZ X W iter ti) : Mo (zLcT ti gz tt te vs) := fun k h => hi.mo (fun d w1 h1 => by
  cases d with
  | tup l => exact zComp.imp k h1
  | _ => exact h1) h
theorem mo_lcR1 {ea : List Expr} {ti : TAZ ω} {vs : List Nat} (hi : PAZ X W ea ti) : Mo (zLcR1 ti gz tt te vs) := fun k h => hi.mo (fun l w1 h1 => h1.imp fun d h2 => h2.imp fun n h3 => h3.imp k) h
theorem mo_lcR2 {ea : List Expr} {ti : TAZ ω} {vs : List Nat} (hi : PAZ X W ea ti) : Mo (zLcR2 ti gz tt te vs) := fun k h => hi.mo (fun l w1 h1 => h1.imp fun i j h3 => h3.imp k) h
/-! as values -/
theorem z_lcL {ti : TEZ ω} (hi : PEZ X W iter ti) (C : CompOk X W scope tg elt ifs g gz tt te) (hN : X.N.Nodup) (ok : blkC X.N X.env.scope scope own = true := by decide +kernel) (hw : Wiped g (own.map (·.2)) := by exact wiped_name _) (hc : X.calm = true := by rfl)
    (hs : ∀ x, foldedSetIterable iter X.env x = pure x := by intro _; rfl) : PFZ X W (.ListComp elt [⟨tg, iter, ifs, 0⟩] scope pos) (zLcL ti gz tt te (own.map (·.2))) :=
  ⟨mo_lcL hi, fun Z ex tk => ⟨fun pins s σ H Q I h => (pe_lc hc hN (pi_list (hi.run Z ex tk)) (blkOk_by ok) C.hg C.pt C.pe hs).run pins s σ H Q I (imp_lcL hi s C hw h)⟩⟩
theorem z_lcT {ti : TEZ ω} (hi : PEZ X W iter ti) (C : CompOk X W scope tg elt ifs g gz tt te) (hN : X.N.Nodup) (ok : blkC X.N X.env.scope scope own = true := by decide +kernel) (hw : Wiped g (own.map (·.2)) := by exact wiped_name _) (hc : X.calm = true := by rfl)
    (hs : ∀ x, foldedSetIterable iter X.env x = pure x := by intro _; rfl) : PFZ X W (.ListComp elt [⟨tg, iter, ifs, 0⟩] scope pos) (zLcT ti gz tt te (own.map (·.2))) :=
  ⟨mo_lcT hi, fun Z ex tk => ⟨fun pins s σ H Q I h => (pe_lc hc hN (pi_tup (hi.run Z ex tk)) (blkOk_by ok) C.hg C.pt C.pe hs).run pins s σ H Q I (imp_lcT hi s C hw h)⟩⟩
theorem z_lcR1 {ea : Expr} {ta : TAZ ω} {p pc : Pos} (hm : X.mg "range" = none) (hi : PAZ X W [ea] ta) (C : CompOk X W scope tg elt ifs g gz tt te) (hN : X.N.Nodup) (ok : blkC X.N X.env.scope scope own = true := by decide +kernel) (hw : Wiped g (own.map (·.2)) := by exact wiped_name _) (hc : X.calm = true := by rfl)
    (hgl : Gl X "range" := by rfl) (hse : starEach [ea] X.env = [(false, eval ea X.env)] := by rfl) (hs : ∀ x, foldedSetIterable (.Call (.Name "range" p) [ea] [] pc) X.env x = pure x := by intro _; rfl) : PFZ X W (.ListComp elt [⟨tg, .Call (.Name "range" p) [ea] [] pc, ifs, 0⟩] scope pos) (zLcR1 ta gz tt te (own.map (·.2))) :=
  ⟨mo_lcR1 hi, fun Z ex tk => ⟨fun pins s σ H Q I h => (pe_lc hc hN (pi_rgB1 hgl hm (hi.run Z ex tk) hse) (blkOk_by ok) C.hg C.pt C.pe hs).run pins s σ H Q I (imp_lcR1 hi s C hw h)⟩⟩
theorem z_lcR2 {ea eb : Expr} {ta : TAZ ω} {p pc : Pos} (hm : X.mg "range" = none) (hi : PAZ X W [ea, eb] ta) (C : CompOk X W scope tg elt ifs g gz tt te) (hN : X.N.Nodup) (ok : blkC X.N X.env.scope scope own = true := by decide +kernel) (hw : Wiped g (own.map (·.2)) := by exact wiped_name _) (hc : X.calm = true := by rfl)
    (hgl : Gl X "range" := by rfl) (hse : starEach [ea, eb] X.env = [(false, eval ea X.env), (false, eval eb X.env)] := by rfl) (hse2 : starEach [eb] X.env = [(false, eval eb X.env)] := by rfl) (hs : ∀ x, foldedSetIterable (.Call (.Name "range" p) [ea, eb] [] pc) X.env x = pure x := by intro _; rfl) :
    PFZ X W (.ListComp elt [⟨tg, .Call (.Name "range" p) [ea, eb] [] pc, ifs, 0⟩] scope pos) (zLcR2 ta gz tt te (own.map (·.2))) :=
  ⟨mo_lcR2 hi, fun Z ex tk => ⟨fun pins s σ H Q I h => (pe_lc hc hN (pi_rgB2 hgl hm (hi.run Z ex tk) hse hse2) (blkOk_by ok) C.hg C.pt C.pe hs).run pins s σ H Q I (imp_lcR2 hi s C hw h)⟩⟩
/-! name = [..] -/
theorem asg_own {st : Stmt} {i : Nat} {tr : TE} {tf : TAZ ω} {Z : Zx} {ex : Nat → List Sl → ω → Prop} (h : PS X st (tAsg tr (gName i))) (mo : Mo tf) (k : Shared → ∀ {σ : L2.St} {H : Hp} {Q : VK}, liF X.K W Z ex tf σ H Q → tr σ H Q) : PS X st (liS X.K W Z ex (zOwn i tf)) := ⟨fun pins s σ H DE I ⟨Dz, hex, EI, G, M, δ, w, a, q⟩ => h.run pins s σ H DE I (by
  subst hex
  exact k s ⟨G, M, δ, w, a, mo (fun l w1 h1 p vs H1 G1 M1 o1 r1 n1 => EI.nx _ _ ⟨G1, M1, _, w1, (a.go o1).setOwn n1.2.1 n1.2.2.1 n1.2.2.2 (newOf a n1.1).1 r1 (newOf a n1.1).2, h1⟩) q⟩)⟩
theorem asg_fz {st : Stmt} {i : Nat} {tr : TE} {tf : TAZ ω} {Z : Zx} {ex : Nat → List Sl → ω → Prop} (h : PS X st (tAsg tr (gName i))) (mo : Mo tf) (k : Shared → ∀ {σ : L2.St} {H : Hp} {Q : VK}, liF X.K W Z ex tf σ H Q → tr σ H Q) : PS X st (liS X.K W Z ex (zAsg i (zFz tf))) := ⟨fun pins s σ H DE I ⟨Dz, hex, EI, G, M, δ, w, a, q⟩ => h.run pins s σ H DE I (by
  subst hex
  exact k s ⟨G, M, δ, w, a, mo (fun l w1 h1 p vs H1 G1 M1 o1 r1 n1 => by
    obtain ⟨o2, g2⟩ := o1.still n1
    exact EI.nx _ _ ⟨_, M1, _, w1, (a.go o2).set (.lst upd_same (r1.up g2)), h1⟩) q⟩)⟩
/-- what a rule for name = [..] gives -/
def SetsTo (X : Cx) (W : Wp ω) (st : Stmt) (i : Nat) (tf : TAZ ω) : Prop := PSZ X W st (zOwn i tf) ∧ PSZ X W st (zAsg i (zFz tf))
theorem s_lcL (i : Nat) {y : Str} {py spos : Pos} {ti : TEZ ω} (hi : PEZ X W iter ti) (C : CompOk X W scope tg elt ifs g gz tt te) (hN : X.N.Nodup) (hy : X.N[i]? = some y := by rfl) (hyl : X.env.scope.names.lookup y = some .local := by rfl) (hsw : swapsWith (.ListComp elt [⟨tg, iter, ifs, 0⟩] scope pos) (some (.Name y py)) spos.line X.env = pure true := by exact sw_true rfl rfl rfl (by decide +kernel))
    (ok : blkC X.N X.env.scope scope own = true := by decide +kernel) (hw : Wiped g (own.map (·.2)) := by exact wiped_name _) (hc : X.calm = true := by rfl) (hs : ∀ x, foldedSetIterable iter X.env x = pure x := by intro _; rfl) : SetsTo X W (.Assign [.Name y py] (.ListComp elt [⟨tg, iter, ifs, 0⟩] scope pos) spos) i (zLcL ti gz tt te (own.map (·.2))) := by
  have key := fun Z ex (tk : Takes X (WXz X.K W Z ex)) => ps_setLc hc hN hy hyl hsw (pi_list (hi.run Z ex tk)) (blkOk_by ok) C.hg C.pt C.pe hs
  exact ⟨fun Z ex tk => asg_own (key Z ex tk) (mo_lcL hi) (fun s => imp_lcL hi s C hw), fun Z ex tk => asg_fz (key Z ex tk) (mo_lcL hi) (fun s => imp_lcL hi s C hw)⟩
theorem s_lcT (i : Nat) {y : Str} {py spos : Pos} {ti : TEZ ω} (hi : PEZ X W iter ti) (C : CompOk X W scope tg elt ifs g gz tt te) (hN : X.N.Nodup) (hy : X.N[i]? = some y := by rfl) (hyl : X.env.scope.names.lookup y = some .local := by rfl) (hsw : swapsWith (.ListComp elt [⟨tg, iter, ifs, 0⟩] scope pos) (some (.Name y py)) spos.line X.env = pure true := by exact sw_true rfl rfl rfl (by decide +kernel))
    (ok : blkC X.N X.env.scope scope own = true := by decide +kernel) (hw : Wiped g (own.map (·.2)) := by exact wiped_name _) (hc : X.calm = true := by rfl) (hs : ∀ x, foldedSetIterable iter X.env x = pure x := by intro _; rfl) : SetsTo X W (.Assign [.Name y py] (.ListComp elt [⟨tg, iter, ifs, 0⟩] scope pos) spos) i (zLcT ti gz tt te (own.map (·.2))) := by
  have key := fun Z ex (tk : Takes X (WXz X.K W Z ex)) => ps_setLc hc hN hy hyl hsw (pi_tup (hi.run Z ex tk)) (blkOk_by ok) C.hg C.pt C.pe hs
  exact ⟨fun Z ex tk => asg_own (key Z ex tk) (mo_lcT hi) (fun s => imp_lcT hi s C hw), fun Z ex tk => asg_fz (key Z ex tk) (mo_lcT hi) (fun s => imp_lcT hi s C hw)⟩
theorem s_lcR1 (i : Nat) {y : Str} {py spos p pc : Pos} {ea : Expr} {ta : TAZ ω} (hm : X.mg "range" = none) (hi : PAZ X W [ea] ta) (C : CompOk X W scope tg elt ifs g gz tt te) (hN : X.N.Nodup) (hy : X.N[i]? = some y := by rfl) (hyl : X.env.scope.names.lookup y = some .local := by rfl)
    (hsw : swapsWith (.ListComp elt [⟨tg, .Call (.Name "range" p) [ea] [] pc, ifs, 0⟩] scope pos) (some (.Name y py)) spos.line X.env = pure true := by exact sw_true rfl rfl rfl (by decide +kernel)) (ok : blkC X.N X.env.scope scope own = true := by decide +kernel) (hw : Wiped g (own.map (·.2)) := by exact wiped_name _) (hc : X.calm = true := by rfl)
    (hgl : Gl X "range" := by rfl) (hse : starEach [ea] X.env = [(false, eval ea X.env)] := by rfl) (hs : ∀ x, foldedSetIterable (.Call (.Name "range" p) [ea] [] pc) X.env x = pure x := by intro _; rfl) : SetsTo X W (.Assign [.Name y py] (.ListComp elt [⟨tg, .Call (.Name "range" p) [ea] [] pc, ifs, 0⟩] scope pos) spos) i (zLcR1 ta gz tt te (own.map (·.2))) := by
  have key := fun Z ex (tk : Takes X (WXz X.K W Z ex)) => ps_setLc hc hN hy hyl hsw (pi_rgB1 hgl hm (hi.run Z ex tk) hse) (blkOk_by ok) C.hg C.pt C.pe hs
  exact ⟨fun Z ex tk => asg_own (key Z ex tk) (mo_lcR1 hi) (fun s => imp_lcR1 hi s C hw), fun Z ex tk => asg_fz (key Z ex tk) (mo_lcR1 hi) (fun s => imp_lcR1 hi s C hw)⟩
theorem s_lcR2 (i : Nat) {y : Str} {py spos p pc : Pos} {ea eb : Expr} {ta : TAZ ω} (hm : X.mg "range" = none) (hi : PAZ X W [ea, eb] ta) (C : CompOk X W scope tg elt ifs g gz tt te) (hN : X.N.Nodup) (hy : X.N[i]? = some y := by rfl) (hyl : X.env.scope.names.lookup y = some .local := by rfl)
    (hsw : swapsWith (.ListComp elt [⟨tg, .Call (.Name "range" p) [ea, eb] [] pc, ifs, 0⟩] scope pos) (some (.Name y py)) spos.line X.env = pure true := by exact sw_true rfl rfl rfl (by decide +kernel)) (ok : blkC X.N X.env.scope scope own = true := by decide +kernel) (hw : Wiped g (own.map (·.2)) := by exact wiped_name _) (hc : X.calm = true := by rfl)
    (hgl : Gl X "range" := by rfl) (hse : starEach [ea, eb] X.env = [(false, eval ea X.env), (false, eval eb X.env)] := by rfl) (hse2 : starEach [eb] X.env = [(false, eval eb X.env)] := by rfl) (hs : ∀ x, foldedSetIterable (.Call (.Name "range" p) [ea, eb] [] pc) X.env x = pure x := by intro _; rfl) :
    SetsTo X W (.Assign [.Name y py] (.ListComp elt [⟨tg, .Call (.Name "range" p) [ea, eb] [] pc, ifs, 0⟩] scope pos) spos) i (zLcR2 ta gz tt te (own.map (·.2))) := by
  have key := fun Z ex (tk : Takes X (WXz X.K W Z ex)) => ps_setLc hc hN hy hyl hsw (pi_rgB2 hgl hm (hi.run Z ex tk) hse hse2) (blkOk_by ok) C.hg C.pt C.pe hs
  exact ⟨fun Z ex tk => asg_own (key Z ex tk) (mo_lcR2 hi) (fun s => imp_lcR2 hi s C hw), fun Z ex tk => asg_fz (key Z ex tk) (mo_lcR2 hi) (fun s => imp_lcR2 hi s C hw)⟩
/-- the parts of a comprehension -/
theorem c_ok {gzt : GoG X.K g gz} (hg : ∀ (s : Shared) (H : Hp) (C : Addr) (cl : List (Str × Addr)) (fp : List Addr), PG (X.blk s H scope (compEnvC scope cl C X.env) fp) tg g) (he : ∀ (s : Shared) (H : Hp) (C : Addr) (cl : List (Str × Addr)) (fp : List Addr), PEZ (X.blk s H scope (compEnvC scope cl C X.env) fp) W elt te) : CompOk X W scope tg elt [] g gz zYes te :=
  ⟨hg, gzt, fun s H C cl fp Z => ⟨fun pins s' σ H' Q I ⟨G, M, δ, w, a, q⟩ => pts_nil.run pins s' σ H' Q I (q H' G M a.here)⟩, fun _ => fun k h => k _ _ h, he, fun s => (he s (fun _ => none) 0 [] []).mo⟩
theorem c_if {c : Expr} {tc : TTZ ω} {gzt : GoG X.K g gz} (hg : ∀ (s : Shared) (H : Hp) (C : Addr) (cl : List (Str × Addr)) (fp : List Addr), PG (X.blk s H scope (compEnvC scope cl C X.env) fp) tg g) (ht : ∀ (s : Shared) (H : Hp) (C : Addr) (cl : List (Str × Addr)) (fp : List Addr), PTZ (X.blk s H scope (compEnvC scope cl C X.env) fp) W c tc)
    (he : ∀ (s : Shared) (H : Hp) (C : Addr) (cl : List (Str × Addr)) (fp : List Addr), PEZ (X.blk s H scope (compEnvC scope cl C X.env) fp) W elt te) : CompOk X W scope tg elt [c] g gz tc te :=
  ⟨hg, gzt, fun s H C cl fp Z => pts_one ((ht s H C cl fp).run Z _ tkN), fun s => (ht s (fun _ => none) 0 [] []).mo, he, fun s => (he s (fun _ => none) 0 [] []).mo⟩
end
end Z

namespace Z
open PySem PySem.Spec PyProof.Rows L2
variable {ω : Type}
def negD : D → (D → Prop) → Prop := fun d q => intD d fun i => q (.int (-i))
theorem l_neg {K : PySem.W.Frag} : Lnd1 K (rU fun i => .int (-i)) negD where
  mo := fun k h => h.imp fun i h => k _ h
  go := fun H G x dx q Q e rx h k => by
    obtain ⟨i, rfl, q2⟩ := h.of
    cases rx
    exact ⟨i, rfl, k _ _ q2 (.int _)⟩
/-- n += e -/
def zAug (i : Nat) (te : TEZ ω) : TSZ ω := fun DE δ w => match δ[i]? with
  | some (.val (.int a)) => te δ w (fun d w1 => intD d fun b => DE.nx (δ.set i (.val (.int (a + b)))) w1) (fun e w' => DE.ex e δ w')
  | _ => False
section
variable {X : Cx} {W : Wp ω} {pos pos' p : Pos} {x : Str} {e : Expr} {te : TEZ ω}
theorem z_aug (i : Nat) (he : PEZ X W e te) (hN : X.N.Nodup) (hi : X.N[i]? = some x := by rfl) (hx : Loc X.env.scope x := by first | exact Or.inl rfl | exact Or.inr rfl) (hf : X.fn x = true ∨ X.env.scope.names.lookup x = some .local := by first | exact .inl rfl | exact .inr rfl) :
    PSZ X W (.AugAssign (.Name x pos') .Add e pos) (zAug i te) := fun Z ex tk => psI (ps_aug hN hi hx (he.run Z ex tk) ip_add hf) fun DE σ H ⟨Dz, hex, EI, G, M, δ, w, a, h⟩ => by
  subst hex
  unfold zAug at h
  split at h
  · rename_i n hn
    obtain ⟨v, h1, h2⟩ := a.sl i _ hn
    cases h2
    refine ⟨_, h1, G, M, δ, w, a, he.mo (fun d w1 q1 v H1 G1 M1 o1 r1 => ?_) h⟩
    obtain ⟨b, rfl, q2⟩ := q1.of
    cases r1
    exact ⟨n, b, rfl, rfl, EI.nx _ _ ⟨G1, M1, _, w1, (a.go o1).set (.int _), q2⟩⟩
  · exact h.elim
end
/-! ### short forms for specifications -/
/-- a def that gives f of its arguments where pre holds -/
def spP {α : Type} (args : α → List D) (pre : α → Prop) (f : α → D) : SpZ Unit := fun ds w Q _ => ∃ x, ds = args x ∧ pre x ∧ Q (f x) w
theorem spP_mo {α : Type} {args : α → List D} {pre : α → Prop} {f : α → D} : MoS (spP args pre f) := fun k _ ⟨x, h1, h2, h3⟩ => ⟨x, h1, h2, k _ _ h3⟩
/-- .. that refuses by e where ref holds -/
def spE {α : Type} (args : α → List D) (ref : α → Option Nat → Prop) (f : α → D) : SpZ Unit := fun ds w Q E => ∃ x, ds = args x ∧ ((∃ e, ref x (some e) ∧ E e w) ∨ (ref x none ∧ Q (f x) w))
theorem spE_mo {α : Type} {args : α → List D} {ref : α → Option Nat → Prop} {f : α → D} : MoS (spE args ref f) := fun k k' ⟨x, h1, h⟩ => ⟨x, h1, h.elim (fun ⟨e, h2, h3⟩ => .inl ⟨e, h2, k' _ _ h3⟩) fun ⟨h2, h3⟩ => .inr ⟨h2, k _ _ h3⟩⟩
/-- .. by what it gives -/
def spR {ω α : Type} (args : α → List D) (pre : α → ω → Prop) (post : α → ω → D → ω → Prop) : SpZ ω := fun ds w Q _ => ∃ x, ds = args x ∧ pre x w ∧ ∀ d w', post x w d w' → Q d w'
theorem spR_mo {ω α : Type} {args : α → List D} {pre : α → ω → Prop} {post : α → ω → D → ω → Prop} : MoS (spR args pre post) := fun k _ ⟨x, h1, h2, h3⟩ => ⟨x, h1, h2, fun d w' h => k _ _ (h3 d w' h)⟩
end Z

namespace Z
open PySem PySem.Spec PyProof.Rows L2
variable {ω : Type}

/-! ### what a loop goes over, in general -/
/-- what a walk gives, over plain data: data that stand, or new pairs of such -/
structure WkZ (K : PySem.W.Frag) (G : Hp) (J : It) (l : List D) : Prop where
  ex : ∃ (Gd : Hp → Prop) (Y : Nat → Hp → V → Hp → Prop), Walk J l.length Gd Y ∧ (∀ H, Ext G H → Gd H) ∧
    ∀ i H x H', i < l.length → Y i H x H' → (H' = H ∧ ∃ d, l[i]? = some d ∧ Rep K G x d) ∨ ∃ T vs ds, x = .ref T ∧ H T = none ∧ H' = upd H T (.tup vs) ∧ RepL K G vs ds ∧ l[i]? = some (.tup ds)
def liI (K : PySem.W.Frag) (W : Wp ω) (Z : Zx) (ex : Nat → List Sl → ω → Prop) (tz : TAZ ω) : TI := fun σ H R => ∃ G M δ w, SR K W Z σ H G M δ w ∧ tz δ w (fun l w' => ∀ H' G' M' J, Go W H G M H' G' M' w' → WkZ K G' J l → R J H') (fun e w' => ex e δ w')
structure PIZ (X : Cx) (W : Wp ω) (tg iter : Expr) (tz : TAZ ω) : Prop where
  mo : Mo tz
  run : ∀ (Z : Zx) (ex : Nat → List Sl → ω → Prop), Takes X (WXz X.K W Z ex) → PI X tg iter (liI X.K W Z ex tz)
theorem piI {X : Cx} {tg e : Expr} {t u : TI} (h : PI X tg e u) (i : ∀ σ H R, t σ H R → u σ H R) : PI X tg e t := ⟨fun pins s σ H R I q => h.run pins s σ H R I (i _ _ _ q)⟩
def zForI (tz : TAZ ω) (gz : TGZ) (t : TSZ ω) : TSZ ω := fun D δ w => tz δ w (fun l w1 => zLoop l gz t D δ w1) (fun e w' => D.ex e δ w')
section
variable {X : Cx} {W : Wp ω} {pos : Pos} {e : Expr} {tz : TAZ ω} {tg : Expr} {g : TG} {gz : TGZ} {body : List Stmt} {t : TSZ ω}
theorem z_forI (hi : PIZ X W tg e tz) (hg : PGZ X tg g gz) (hb : PBZ X W body t) (hp : PassesOwn (model X.prog X.w) X.A X.env X.xe := by first | exact PassesOwn.leaving | exact PassesOwn.looking | exact PassesOwn.never | assumption) (hc : X.calm = true := by rfl)
    (hs : ∀ x, foldedSetIterable e X.env x = pure x := by intro _; rfl) : PSZ X W (.For tg e body [] pos) (zForI tz gz t) := fun Z ex tk => psI (ps_for hp hc (hi.run Z ex tk) hg.pg (zB_run hb Z ex tk) hs) fun DE σ H ⟨Dz, hex, EI, G, M, δ, w, a, h⟩ => by
  subst hex
  refine ⟨G, M, δ, w, a, hi.mo (fun l w1 h1 H1 G1 M1 J o1 wk => ?_) h⟩
  obtain ⟨Gd, Y, wk, gd, yl⟩ := wk.ex
  obtain ⟨I, i0, is, id⟩ := h1
  have a1 := a.go o1
  refine for_it wk (fun i => LS X.K W ⟨Z.H0, Z.G0, Z.M0, G1⟩ (I i)) ⟨G1, M1, δ, w1, a1.more, i0⟩ ?_ ?_ ?_
  · rintro i σ2 H2 _ ⟨G2, M2, δ2, w2, a2, _⟩
    exact gd H2 (a2.st.tr a2.pt.gh)
  · rintro i x σ2 H2 H3 hi' ⟨G2, M2, δ2, w2, a2, q2⟩ hy
    rcases yl i H2 x H3 hi' hy with ⟨rfl, d, hd, rd⟩ | ⟨T, vs, ds, rfl, hT, rfl, r, hd⟩
    · refine hg.gg.go W _ σ2 H3 G2 M2 δ2 w2 x d _ _ a2 (rd.up a2.st) (is i d δ2 w2 hd q2) fun σ3 δ3 q3 a3 => ?_
      exact ⟨G1, a1.st, { Dz with nx := I (i + 1), ct := I (i + 1), bk := Dz.nx }, rfl, EI.loop a1.st (fun _ _ h => h), G2, M2, δ3, w2, a3, q3⟩
    · have gg : Ext G2 (upd G2 T (.tup vs)) := Ext.new (a2.pt.gh.none' hT)
      refine hg.gg.go W _ σ2 _ (upd G2 T (.tup vs)) M2 δ2 w2 (.ref T) (.tup ds) _ _ (a2.new hT) (.tup (SqT.of upd_same) ((r.up a2.st).up gg)) (is i _ δ2 w2 hd q2) fun σ3 δ3 q3 a3 => ?_
      exact ⟨G1, a1.st, { Dz with nx := I (i + 1), ct := I (i + 1), bk := Dz.nx }, rfl, EI.loop a1.st (fun _ _ h => h), _, M2, δ3, w2, a3, q3⟩
  · rintro σ2 H2 ⟨G2, M2, δ2, w2, a2, q2⟩
    exact EI.nx _ _ ⟨G2, M2, δ2, w2, a2.le a1.st, id δ2 w2 q2⟩
end
/-! comprehensions over it -/
section
variable {X : Cx} {W : Wp ω} {pos : Pos} {scope : Scope} {tg elt iter : Expr} {ifs : List Expr} {g : TG} {gz : TGZ} {tt : TTZ ω} {te : TEZ ω} {own : List (Str × Nat)}
theorem comp_turn2 {Z : Zx} {σ : L2.St} {H G M : Hp} {δ : List Sl} {w : ω} {Dl : Addr} {I : Nat → List D → ω → Prop} {i : Nat} {H' G1 M1 : Hp} {w1 : ω} {us : List V} {acc : List D} {d : D} {v : V} {vs : List Nat} (hgz : GoG X.K g gz) (mt : Mo tt) (mo : Mo te) (hw : Wiped g vs) (a : SR X.K W Z σ H G M δ w) (hi : i < 100000) (rv : Rep X.K G1 v d)
    (o1 : Go W H G M H' G1 M1 w1) (n1 : NewAt H H' G1 M1 Dl us) (r1 : RepL X.K G1 us acc) (hl : acc.length ≤ i) (q : I i acc w1)
    (hs : gz d (wipeZ δ vs) fun δ2 => tt δ2 w1 (fun b w2 => (b = true → te δ2 w2 (fun y w3 => I (i + 1) (acc ++ [y]) w3) NoE) ∧ (b = false → I (i + 1) acc w2)) NoE) :
    g v (L2.wipe σ vs) H' fun σ2 H2 => L2.wipe σ2 vs = L2.wipe σ vs ∧ liNT X.K W tt σ2 H2 fun b H3 =>
      if b = true then liN X.K W te σ2 H3 fun y H4 => ∃ acc, H4 Dl = some (.lst acc) ∧ acc.length < sizeLine ∧ CInv X.K W H G M Dl I (i + 1) (upd H4 Dl (.lst (acc ++ [y]))) else CInv X.K W H G M Dl I (i + 1) H3 := by
  refine hw v σ H' _ ?_
  have a1 := (a.go o1).wipe vs
  refine hgz.go W Z (L2.wipe σ vs) H' G1 M1 (wipeZ δ vs) w1 v d _ _ a1 rv hs fun σ2 δ2 q2 a2 => ?_
  have grow : ∀ {H3 G3 M3 : Hp} {w3 : ω} {u : V} {y : D}, Go W H' G1 M1 H3 G3 M3 w3 → Rep X.K G3 u y → I (i + 1) (acc ++ [y]) w3 → ∃ acc, H3 Dl = some (.lst acc) ∧ acc.length < sizeLine ∧ CInv X.K W H G M Dl I (i + 1) (upd H3 Dl (.lst (acc ++ [u]))) := by
    intro H3 G3 M3 w3 u y o3 ru qi
    obtain ⟨m1, m2, m3, m4⟩ := n1
    have h3 := o3.nx.fr Dl _ m2 m4
    have g3 : G3 Dl = none := by
      cases z : G3 Dl with
      | none => rfl
      | some t => rw [o3.nx.gn Dl t z m3] at m2; cases m2
    have k3 : M3 Dl = none := by
      cases z : M3 Dl with
      | none => rfl
      | some t => rw [o3.nx.mn Dl t z m4] at m2; cases m2
    have r3 := r1.up o3.nx.gg
    have o := o1.tr o3
    refine ⟨us, h3, by rw [r1.len, sizeLine_eq]; omega, G3, M3, w3, us ++ [u], acc ++ [y], ⟨⟨fun p x e => ?_, fun p x e => ?_, o.pt.dj, o.pt.wd⟩, ⟨o.nx.gg, fun p x e e' => ?_, o.nx.gn, o.nx.mn, o.nx.m0⟩⟩, ⟨m1, upd_same, g3, k3⟩, r3.app (.cons ru .nil), by rw [List.length_append]; exact Nat.succ_le_succ hl, qi⟩
    · rw [upd_ne (ne_of_none e g3)]; exact o.pt.gh p x e
    · rw [upd_ne (ne_of_none e k3)]; exact o.pt.mh p x e
    · rw [upd_ne (ne_of_none e m1)]; exact o.nx.fr p x e e'
  refine ⟨Z, G1, M1, δ2, w1, a2, mt (fun b w2 q3 H3 G3 M3 o3 => ?_) q2⟩
  cases b with
  | true =>
    rw [if_pos rfl]
    refine ⟨Z, G3, M3, δ2, w2, a2.go o3, mo (fun y w4 q4 u H4 G4 M4 o4 r4 => grow (o3.tr o4) r4 q4) (q3.1 rfl)⟩
  | false =>
    rw [if_neg Bool.false_ne_true]
    obtain ⟨m1, m2, m3, m4⟩ := n1
    refine ⟨G3, M3, w2, us, acc, o1.tr o3, ⟨m1, o3.nx.fr Dl _ m2 m4, ?_, ?_⟩, r1.up o3.nx.gg, Nat.le_succ_of_le hl, q3.2 rfl⟩
    · cases z : G3 Dl with
      | none => rfl
      | some t => rw [o3.nx.gn Dl t z m3] at m2; cases m2
    · cases z : M3 Dl with
      | none => rfl
      | some t => rw [o3.nx.mn Dl t z m4] at m2; cases m2
def zLcI (tz : TAZ ω) (gz : TGZ) (tt : TTZ ω) (te : TEZ ω) (vs : List Nat) : TAZ ω := fun δ w Q E => tz δ w (fun l w1 => zComp l gz tt te vs δ w1 Q) E
theorem imp_lcI {tz : TAZ ω} {vs : List Nat} {Z : Zx} {ex : Nat → List Sl → ω → Prop} (hi : PIZ X W tg iter tz) (s0 : Shared) (C : CompOk X W scope tg elt ifs g gz tt te) (hw : Wiped g vs) {σ : L2.St} {H : Hp} {Q : VK} (h : liF X.K W Z ex (zLcI tz gz tt te vs) σ H Q) :
    tLc (liI X.K W Z ex tz) g (liNT X.K W tt) (liN X.K W te) vs σ H Q := by
  obtain ⟨G, M, δ, w, a, h⟩ := h
  refine ⟨G, M, δ, w, a, hi.mo (fun l w1 h1 H1 G1 M1 J o1 wk => ?_) h⟩
  obtain ⟨hlen, I, i0, is, id⟩ := h1
  obtain ⟨Gd, Y, wk, gd, yl⟩ := wk.ex
  have a1 := a.go o1
  intro Dl hD
  refine lc_it wk (CInv X.K W H1 G1 M1 Dl I) (c_start o1.pt hD i0) ?_ ?_ ?_
  · rintro i H2 _ ⟨G2, M2, w2, us2, acc, o2, n2, r2, q2⟩
    exact gd H2 (o2.nx.gg.tr o2.pt.gh)
  · rintro i x H2 H3 hi' ⟨G2, M2, w2, us2, acc, o2, n2, r2, hl2, q2⟩ hy
    rcases yl i H2 x H3 hi' hy with ⟨rfl, d, hd, rd⟩ | ⟨T, vs2, ds, rfl, hT, rfl, r, hd⟩
    · exact comp_turn2 C.gg (C.mt s0) (C.mo s0) hw a1 (by omega) (rd.up o2.nx.gg) o2 n2 r2 hl2 q2 (is i d acc w2 hd q2)
    · have gg : Ext G2 (upd G2 T (.tup vs2)) := Ext.new (o2.pt.gh.none' hT)
      obtain ⟨m1, m2, m3, m4⟩ := n2
      have ne : Dl ≠ T := ne_of_none m2 hT
      exact comp_turn2 C.gg (C.mt s0) (C.mo s0) hw a1 (by omega) (.tup (SqT.of upd_same) ((r.up o2.nx.gg).up gg)) (o2.new hT) ⟨m1, by rw [upd_ne ne]; exact m2, by rw [upd_ne ne]; exact m3, m4⟩ (r2.up gg) hl2 q2 (is i _ acc w2 hd q2)
  · rintro H2 ⟨G2, M2, w2, us2, acc, o2, n2, r2, hl2, q2⟩
    exact id acc w2 q2 Dl us2 H2 G2 M2 (o1.tr o2) r2 ⟨o1.nx.back o1.pt.mh hD, n2.2⟩
theorem mo_lcI {tz : TAZ ω} {vs : List Nat} (hi : PIZ X W tg iter tz) : Mo (zLcI tz gz tt te vs) := fun k h => hi.mo (fun d w1 h1 => h1.imp k) h
theorem z_lcI {tz : TAZ ω} (hi : PIZ X W tg iter tz) (C : CompOk X W scope tg elt ifs g gz tt te) (hN : X.N.Nodup) (ok : blkC X.N X.env.scope scope own = true := by decide +kernel) (hw : Wiped g (own.map (·.2)) := by exact wiped_name _) (hc : X.calm = true := by rfl)
    (hs : ∀ x, foldedSetIterable iter X.env x = pure x := by intro _; rfl) : PFZ X W (.ListComp elt [⟨tg, iter, ifs, 0⟩] scope pos) (zLcI tz gz tt te (own.map (·.2))) :=
  ⟨mo_lcI hi, fun Z ex tk => ⟨fun pins s σ H Q I h => (pe_lc hc hN (hi.run Z ex tk) (blkOk_by ok) C.hg C.pt C.pe hs).run pins s σ H Q I (imp_lcI hi s C hw h)⟩⟩
theorem s_lcI (i : Nat) {y : Str} {py spos : Pos} {tz : TAZ ω} (hi : PIZ X W tg iter tz) (C : CompOk X W scope tg elt ifs g gz tt te) (hN : X.N.Nodup) (hy : X.N[i]? = some y := by rfl) (hyl : X.env.scope.names.lookup y = some .local := by rfl) (hsw : swapsWith (.ListComp elt [⟨tg, iter, ifs, 0⟩] scope pos) (some (.Name y py)) spos.line X.env = pure true := by exact sw_true rfl rfl rfl (by decide +kernel))
    (ok : blkC X.N X.env.scope scope own = true := by decide +kernel) (hw : Wiped g (own.map (·.2)) := by exact wiped_name _) (hc : X.calm = true := by rfl) (hs : ∀ x, foldedSetIterable iter X.env x = pure x := by intro _; rfl) : SetsTo X W (.Assign [.Name y py] (.ListComp elt [⟨tg, iter, ifs, 0⟩] scope pos) spos) i (zLcI tz gz tt te (own.map (·.2))) := by
  have key := fun Z ex (tk : Takes X (WXz X.K W Z ex)) => ps_setLc hc hN hy hyl hsw (hi.run Z ex tk) (blkOk_by ok) C.hg C.pt C.pe hs
  exact ⟨fun Z ex tk => asg_own (key Z ex tk) (mo_lcI hi) (fun s => imp_lcI hi s C hw), fun Z ex tk => asg_fz (key Z ex tk) (mo_lcI hi) (fun s => imp_lcI hi s C hw)⟩
end
/-! targets of several names, wiped behind -/
theorem wipe_comm {σ : L2.St} {i : Nat} {x : Option V} : ∀ {vs : List Nat}, i ∉ vs → L2.wipe (σ.set i x) vs = (L2.wipe σ vs).set i x
  | [], _ => rfl
  | v :: vs, h => by
    show (L2.wipe (σ.set i x) vs).set v none = ((L2.wipe σ vs).set v none).set i x
    rw [wipe_comm (fun q => h (List.mem_cons_of_mem _ q))]
    exact List.set_comm _ _ (fun q => h (by rw [q]; exact List.mem_cons_self))
theorem wipe_in {σ : L2.St} {i : Nat} {x : Option V} : ∀ {vs : List Nat}, i ∈ vs → L2.wipe (σ.set i x) vs = L2.wipe σ vs
  | v :: vs, h => by
    show (L2.wipe (σ.set i x) vs).set v none = (L2.wipe σ vs).set v none
    by_cases q : i ∈ vs
    · rw [wipe_in q]
    · have e : i = v := (List.mem_cons.mp h).resolve_right q
      rw [wipe_comm q, e, List.set_set]
theorem wipe_wipe {σ : L2.St} : ∀ {vs us : List Nat}, (∀ i ∈ vs, i ∈ us) → L2.wipe (L2.wipe σ vs) us = L2.wipe σ us
  | [], _, _ => rfl
  | v :: vs, us, h => by
    show L2.wipe ((L2.wipe σ vs).set v none) us = _
    rw [wipe_in (h v List.mem_cons_self), wipe_wipe fun i hi => h i (List.mem_cons_of_mem _ hi)]
theorem wiped_gNs {us : List Nat} {H : Hp} {Q : L2.St → Hp → Prop} : ∀ {is : List Nat} {xs : List V} {σ : L2.St}, (∀ i ∈ is, i ∈ us) → gNs is xs σ H Q → gNs is xs σ H fun σ2 H2 => L2.wipe σ2 us = L2.wipe σ us ∧ Q σ2 H2
  | [], xs, σ, _, h => ⟨h.1, rfl, h.2⟩
  | i :: is, xs, σ, hm, h => by
    obtain ⟨x, ys, e, h⟩ := h
    refine ⟨x, ys, e, ?_⟩
    have q := wiped_gNs (us := us) (fun j hj => hm j (List.mem_cons_of_mem _ hj)) h
    rw [wipe_in (hm i List.mem_cons_self)] at q
    exact q
theorem wiped_tup {K : PySem.W.Frag} {n : Nat} {is vs : List Nat} (h : ∀ i ∈ is, i ∈ vs) : Wiped (gTup K n (gNs is)) vs := fun x σ H Q ⟨a, xs, e, s, l, q⟩ => by
  have r := wiped_gNs (us := vs) h q
  rw [wipe_wipe fun i hi => hi] at r
  exact ⟨a, xs, e, s, l, r⟩
/-! ### zip -/
def zipT (a b : List D) : List D := (a.zip b).map fun p => .tup [p.1, p.2]
def zipD : D → D → Option (List D)
  | .lst a, .lst b => some (zipT a b)
  | .lst a, .arr b => some (zipT a b)
  | .arr a, .lst b => some (zipT a b)
  | .arr a, .arr b => some (zipT a b)
  | .tup a, .tup b => some (zipT a b)
  | _, _ => none
def zZip (ta : TAZ ω) : TAZ ω := fun δ w Q E => ta δ w (fun l w1 => match l with | [x, y] => (match zipD x y with | some m => Q m w1 | none => False) | _ => False) E
theorem zipT_at {a b : List D} {i : Nat} {x y : D} (h : a[i]? = some x) (g : b[i]? = some y) : (zipT a b)[i]? = some (.tup [x, y]) := by
  unfold zipT
  rw [List.getElem?_map, List.getElem?_zip_eq_some (z := (x, y)) |>.mpr ⟨h, g⟩]; rfl
theorem zipT_len (a b : List D) : (zipT a b).length = min a.length b.length := by unfold zipT; rw [List.length_map, List.length_zip]
theorem walk_zipT {K : PySem.W.Frag} {a b : Addr} {xs ys : List V} {n : Nat} (hn : n = min xs.length ys.length) : Walk (RZ.ItzT K a b) n (fun H => SqT K H a xs ∧ SqT K H b ys) (YPair (fun i => xs[i]?) (fun i => ys[i]?)) := by
  subst hn
  refine ⟨fun i _ hi q => ?_, fun _ q => ⟨xs, ys, q.1, q.2, by omega⟩, fun i H v H' _ q y => ?_⟩
  · have h1 : i < xs.length := by omega
    have h2 : i < ys.length := by omega
    exact ⟨xs, ys, xs[i], ys[i], q.1, q.2, by simp [h1], by simp [h2]⟩
  · obtain ⟨T, x, z, h1, h2, h3, h4, h5⟩ := y
    exact ⟨T, x, z, h1, h2, h3, h4 xs q.1, h5 ys q.2⟩
theorem wk_pair {K : PySem.W.Frag} {G : Hp} {J : It} {xs ys : List V} {a b : List D} {Gd : Hp → Prop} (hw : ∀ n, n = min xs.length ys.length → Walk J n Gd (YPair (fun i => xs[i]?) (fun i => ys[i]?))) (gd : ∀ H, Ext G H → Gd H) (ra : RepL K G xs a) (rb : RepL K G ys b) : WkZ K G J (zipT a b) := by
  refine ⟨Gd, _, hw _ (by rw [zipT_len, ra.len, rb.len]), gd, fun i H x H' hi ⟨T, u, v, e1, e2, e3, e4, e5⟩ => .inr ?_⟩
  obtain ⟨d1, f1, r1⟩ := ra.getV e4
  obtain ⟨d2, f2, r2⟩ := rb.getV e5
  exact ⟨T, [u, v], [d1, d2], e1, e2, e3, .cons r1 (.cons r2 .nil), zipT_at f1 f2⟩
section
variable {X : Cx} {W : Wp ω} {e e2 : Expr} {ta : TAZ ω} {p pos tpos : Pos} {elts : List Expr} {kk : Nat}
theorem i_zip (hm : X.mg "zip" = none) (ha : PAZ X W [e, e2] ta) (hg : Gl X "zip" := by rfl) (hs : starEach [e, e2] X.env = (false, eval e X.env) :: starEach [e2] X.env := by rfl) (hpl : (backTo pos (starEach [e2] X.env)).any (·.1) = false := by rfl) :
    PIZ X W (.Tuple elts kk tpos) (.Call (.Name "zip" p) [e, e2] [] pos) (zZip ta) := by
  refine ⟨fun {δ w Q Q' E} k h => ha.mo (fun l w1 h1 => ?_) h, fun Z ex tk => piI (RZ.pi_zipA hg hm (ha.run Z ex tk) hs hpl) fun σ H R ⟨G, M, δ, w, a, h⟩ => ⟨G, M, δ, w, a, ha.mo (fun l w1 h1 vs H1 G1 M1 o1 r1 => ?_) h⟩⟩
  · split at h1
    · split at h1
      · exact k _ _ h1
      · exact h1.elim
    · exact h1.elim
  · split at h1
    · rename_i x y
      split at h1
      · rename_i m hm2
        obtain ⟨u, v, rfl, ru, rv⟩ : ∃ u v, vs = [u, v] ∧ Rep X.K G1 u x ∧ Rep X.K G1 v y := by
          cases r1 with
          | cons r1 r2 =>
            cases r2 with
            | cons r2 r3 =>
              cases r3
              exact ⟨_, _, rfl, r1, r2⟩
        have lst : ∀ {pa pb : Addr} {xs ys : List V} {la lb : List D}, SqL X.K G1 pa xs → SqL X.K G1 pb ys → RepL X.K G1 xs la → RepL X.K G1 ys lb → m = zipT la lb → ∃ a b xs ys, [V.ref pa, .ref pb] = [.ref a, .ref b] ∧ ((SqL X.K H1 a xs ∧ SqL X.K H1 b ys ∧ R (Itz X.K a b) H1) ∨ (SqT X.K H1 a xs ∧ SqT X.K H1 b ys ∧ R (RZ.ItzT X.K a b) H1)) := by
          intro pa pb xs ys la lb s1 s2 q1 q2 em
          refine ⟨pa, pb, xs, ys, rfl, .inl ⟨sqLE o1.pt.gh s1, sqLE o1.pt.gh s2, h1 H1 G1 M1 _ o1 ?_⟩⟩
          rw [em]
          exact wk_pair (fun n hn => walk_zip hn) (fun H2 e2 => ⟨sqLE e2 s1, sqLE e2 s2⟩) q1 q2
        unfold zipD at hm2
        split at hm2 <;> first | (cases hm2; done) | skip
        · cases hm2
          cases ru with | lst s1 q1 => cases rv with | lst s2 q2 => exact lst (.inl (.inl s1)) (.inl (.inl s2)) q1 q2 rfl
        · cases hm2
          cases ru with | lst s1 q1 => cases rv with | arr s2 q2 => exact lst (.inl (.inl s1)) s2 q1 q2 rfl
        · cases hm2
          cases ru with | arr s1 q1 => cases rv with | lst s2 q2 => exact lst s1 (.inl (.inl s2)) q1 q2 rfl
        · cases hm2
          cases ru with | arr s1 q1 => cases rv with | arr s2 q2 => exact lst s1 s2 q1 q2 rfl
        · cases hm2
          cases ru with
          | @tup pa xs _ s1 q1 =>
            cases rv with
            | @tup pb ys _ s2 q2 =>
              exact ⟨pa, pb, xs, ys, rfl, .inr ⟨sqTE o1.pt.gh s1, sqTE o1.pt.gh s2, h1 H1 G1 M1 _ o1 (wk_pair (fun n hn => walk_zipT hn) (fun H2 e2 => ⟨sqTE e2 s1, sqTE e2 s2⟩) q1 q2)⟩⟩
      · exact h1.elim
    · exact h1.elim
end
/-! ### a text, sign by sign -/
def sgnD (x : Str) : List D := x.cps.toList.map fun c => .str ⟨#[c]⟩
def zSgn (te : TEZ ω) : TAZ ω := fun δ w Q E => te δ w (fun d w1 => match d with | .str x => Q (sgnD x) w1 | _ => False) E
theorem i_str {X : Cx} {W : Wp ω} {tg e : Expr} {te : TEZ ω} (he : PEZ X W e te) : PIZ X W tg e (zSgn te) := by
  refine ⟨fun {δ w Q Q' E} k h => he.mo (fun d w1 h1 => ?_) h, fun Z ex tk => piI (pi_str (he.run Z ex tk)) fun σ H R ⟨G, M, δ, w, a, h⟩ => ⟨G, M, δ, w, a, he.mo (fun d w1 h1 v H1 G1 M1 o1 r1 => ?_) h⟩⟩
  · split at h1
    · exact k _ _ h1
    · exact h1.elim
  · split at h1
    · rename_i x
      cases r1
      refine ⟨x, rfl, h1 H1 G1 M1 _ o1 ⟨fun _ => True, fun i H v H' => H' = H ∧ ∃ c, x.cps[i]? = some c ∧ v = .str ⟨#[c]⟩, ?_, fun _ _ => trivial, fun i H x' H' hi hy => .inl ?_⟩⟩
      · have e : (sgnD x).length = x.cps.size := by unfold sgnD; rw [List.length_map, Array.length_toList]
        rw [e]
        exact walk_str
      · obtain ⟨h1, c, h2, h3⟩ := hy
        refine ⟨h1, .str ⟨#[c]⟩, ?_, by rw [h3]; exact .str _⟩
        unfold sgnD
        rw [List.getElem?_map, Array.getElem?_toList, h2]; rfl
    · exact h1.elim
/-! ### several names from a list -/
def gUL (is : List Nat) : TGZ := fun d δ k => match d with | .lst l => l.length = is.length ∧ k (setAll δ is l) | _ => False
theorem gg_lst {K : PySem.W.Frag} (is : List Nat) : GoG K (gLst K is.length (gNs is)) (gUL is) := ⟨fun k h => by
  unfold gUL at h ⊢
  split at h
  · exact ⟨h.1, k _ h.2⟩
  · exact h.elim, fun W Z σ H G M δ w v d q Q a r h k => by
  cases d with
  | lst l =>
    cases r with
    | lst s r =>
      exact ⟨_, _, rfl, .inl (.inl (a.pt.gh _ _ s)), by rw [r.len]; exact h.1, gNs_go is _ _ _ _ a r h.1 fun σ' a' => k σ' _ h.2 a'⟩
  | _ => exact h.elim⟩
theorem g_lst {X : Cx} {es : List Expr} {k : Nat} {is : List Nat} {pos : Pos} (h : PGs X es (gNs is)) (hc : X.calm = true := by rfl) (hn : (assignEach es X.env).length = is.length := by rfl) (hst : (assignEach es X.env).findIdx? (·.1) = none := by rfl) :
    PGZ X (.Tuple es k pos) (gLst X.K is.length (gNs is)) (gUL is) := ⟨gg_lst is, pg_lst hc h hn hst⟩
end Z

namespace Z
open PySem PySem.Spec PyProof.Rows L2

/-! ### a world of lists that may change -/
abbrev Mst := List (Addr × List D)
def wGet (w : Mst) (a : Addr) : Option (List D) := List.lookup a w
def wSet (w : Mst) (a : Addr) (l : List D) : Mst := w.map fun p => if p.1 = a then (a, l) else p
theorem wGet_cons {w : Mst} {a b : Addr} {l : List D} : wGet ((b, l) :: w) a = if a = b then some l else wGet w a := by
  unfold wGet
  by_cases h : a = b
  · have e : (a == b) = true := beq_iff_eq.mpr h
    simp only [List.lookup, e, if_pos h]
  · have e : (a == b) = false := beq_eq_false_iff_ne.mpr h
    simp only [List.lookup, e, if_neg h]
theorem wGet_set (a b : Addr) (l : List D) : ∀ w : Mst, wGet (wSet w a l) b = if b = a then (wGet w a).map fun _ => l else wGet w b
  | [] => by
    by_cases h : b = a
    · rw [if_pos h]; rfl
    · rw [if_neg h]; rfl
  | (c, m) :: w => by
    have ih := wGet_set a b l w
    have e : wSet ((c, m) :: w) a l = (if c = a then (a, l) else (c, m)) :: wSet w a l := rfl
    rw [e]
    by_cases h : c = a
    · subst h
      rw [if_pos rfl, wGet_cons, wGet_cons, wGet_cons, ih]
      by_cases k : b = c
      · rw [if_pos k, if_pos k, if_pos rfl]; rfl
      · rw [if_neg k, if_neg k, if_neg k, if_neg k]
    · rw [if_neg h, wGet_cons, wGet_cons, wGet_cons, ih]
      by_cases k : b = a
      · subst k
        rw [if_neg (Ne.symm h), if_pos rfl, if_pos rfl, if_neg (Ne.symm h)]
      · rw [if_neg k, if_neg k]
def okW (K : PySem.W.Frag) (w : Mst) (G M : Hp) : Prop := (∀ a o, M a = some o → ∃ l, wGet w a = some l) ∧ ∀ a l, wGet w a = some l → ∃ vs, M a = some (.lst vs) ∧ RepL K G vs l
def WL (K : PySem.W.Frag) (ec : Nat → Addr) : Wp Mst := ⟨okW K, fun e h => ⟨h.1, fun a l g => let ⟨vs, h1, h2⟩ := h.2 a l g; ⟨vs, h1, h2.up e⟩⟩, ec⟩
theorem okW.none {K : PySem.W.Frag} {w : Mst} {G M : Hp} (h : okW K w G M) {a : Addr} (e : M a = none) : wGet w a = none := by
  cases q : wGet w a with
  | none => rfl
  | some l =>
    obtain ⟨vs, h1, _⟩ := h.2 a l q
    rw [e] at h1; cases h1
/-- a list of the world changed -/
theorem chgW {K : PySem.W.Frag} {ec : Nat → Addr} {Z : Zx} {σ : L2.St} {H G M : Hp} {δ : List Sl} {w : Mst} {a : Addr} {l m : List D} {us : List V} (s : SR K (WL K ec) Z σ H G M δ w) (h : wGet w a = some l) (r : RepL K G us m) :
    SR K (WL K ec) Z σ (upd H a (.lst us)) G (upd M a (.lst us)) δ (wSet w a m) := by
  obtain ⟨vs, h1, h2⟩ := s.pt.wd.2 a l h
  have hG : G a = none := by
    cases q : G a with
    | none => rfl
    | some x => rw [s.pt.dj a x q] at h1; cases h1
  have hM : ∀ p x, upd M a (.lst us) p = some x → M p ≠ none := fun p x e z => by
    by_cases k : p = a
    · rw [k, h1] at z; cases z
    · rw [upd_ne k, z] at e; cases e
  refine s.next ⟨fun p x e => ?_, fun p x e => ?_, fun p x e => ?_, ⟨fun p o e => ?_, fun p l' e => ?_⟩⟩ ⟨.rfl', fun p x e e' => ?_, fun p x e e' => (by rw [e] at e'; cases e'), fun p x e e' => absurd e' (hM p x e), fun p x e => ?_⟩
  · rw [upd_ne (ne_of_none e hG)]; exact s.pt.gh p x e
  · by_cases k : p = a
    · subst k; rw [upd_same] at e ⊢; exact e
    · rw [upd_ne k] at e ⊢; exact s.pt.mh p x e
  · rw [upd_ne (ne_of_none e hG)]; exact s.pt.dj p x e
  · rw [wGet_set]
    by_cases k : p = a
    · rw [if_pos k, h]; exact ⟨_, rfl⟩
    · rw [if_neg k]; rw [upd_ne k] at e; exact s.pt.wd.1 p o e
  · rw [wGet_set] at e
    by_cases k : p = a
    · subst k
      rw [if_pos rfl, h] at e
      cases e
      exact ⟨us, upd_same, r⟩
    · rw [if_neg k] at e
      obtain ⟨v2, g1, g2⟩ := s.pt.wd.2 p l' e
      exact ⟨v2, by rw [upd_ne k]; exact g1, g2⟩
  · rw [upd_ne (fun k => by rw [k, h1] at e'; cases e')]; exact e
  · by_cases k : p = a
    · subst k; exact ⟨_, upd_same⟩
    · rw [upd_ne k]; exact ⟨x, e⟩
/-- a new list of the world -/
theorem newW {K : PySem.W.Frag} {ec : Nat → Addr} {H0 G0 M0 H G M : Hp} {w : Mst} {a : Addr} {m : List D} {us : List V} (o : Go (WL K ec) H0 G0 M0 H G M w) (h0 : H0 a = none) (h1 : H a = some (.lst us)) (hG : G a = none) (hM : M a = none) (r : RepL K G us m) :
    Go (WL K ec) H0 G0 M0 H G (upd M a (.lst us)) ((a, m) :: w) ∧ wGet w a = none := by
  have hw := o.pt.wd.none hM
  refine ⟨⟨⟨o.pt.gh, fun p x e => ?_, fun p x e => ?_, ⟨fun p x e => ?_, fun p l e => ?_⟩⟩, ⟨o.nx.gg, o.nx.fr, o.nx.gn, fun p x e e' => ?_, fun p x e => ?_⟩⟩, hw⟩
  · by_cases k : p = a
    · subst k; rw [upd_same] at e; rw [h1]; exact e
    · rw [upd_ne k] at e; exact o.pt.mh p x e
  · rw [upd_ne (ne_of_none e hG)]; exact o.pt.dj p x e
  · rw [wGet_cons]
    by_cases k : p = a
    · rw [if_pos k]; exact ⟨_, rfl⟩
    · rw [if_neg k]; rw [upd_ne k] at e; exact o.pt.wd.1 p x e
  · rw [wGet_cons] at e
    by_cases k : p = a
    · subst k
      rw [if_pos rfl] at e
      cases e
      exact ⟨us, upd_same, r⟩
    · rw [if_neg k] at e
      obtain ⟨vs, g1, g2⟩ := o.pt.wd.2 p l e
      exact ⟨vs, by rw [upd_ne k]; exact g1, g2⟩
  · by_cases k : p = a
    · subst k; exact h0
    · rw [upd_ne k] at e; exact o.nx.mn p x e e'
  · obtain ⟨y, e1⟩ := o.nx.m0 p x e
    by_cases k : p = a
    · subst k; exact ⟨_, upd_same⟩
    · exact ⟨y, by rw [upd_ne k]; exact e1⟩
/-! rules -/
def onRef (d : D) (f : Addr → Prop) : Prop := match d with | .ref a => f a | _ => False
theorem onRef.of {d : D} {f : Addr → Prop} (h : onRef d f) : ∃ a, d = .ref a ∧ f a := by
  unfold onRef at h
  split at h
  · exact ⟨_, rfl, h⟩
  · exact h.elim
theorem onRef.imp {d : D} {f g : Addr → Prop} (k : ∀ a, f a → g a) (h : onRef d f) : onRef d g := by obtain ⟨a, rfl, q⟩ := h.of; exact k a q
def zIxW (ta tb : TEZ Mst) : TEZ Mst := fun δ w Q E => ta δ w (fun x w1 => tb δ w1 (fun y w2 => onRef x fun a => intD y fun k => ∃ l v, wGet w2 a = some l ∧ atI l k = some v ∧ Q v w2) E) E
def zLenW (ta : TEZ Mst) : TEZ Mst := fun δ w Q E => ta δ w (fun x w1 => onRef x fun a => ∃ l, wGet w1 a = some l ∧ Q (.int l.length) w1) E
def zSetW (to tk te : TEZ Mst) : TSZ Mst := fun DE δ w => te δ w (fun d w1 => to δ w1 (fun x w2 => tk δ w2 (fun y w3 => onRef x fun a => intD y fun k => ∃ l j, wGet w3 a = some l ∧ ixN l.length k = some j ∧ DE.nx δ (wSet w3 a (l.set j d))) (fun e w' => DE.ex e δ w')) (fun e w' => DE.ex e δ w')) (fun e w' => DE.ex e δ w')
def zRetW (ta : TAZ Mst) : TSZ Mst := fun DE δ w => ta δ w (fun l w1 => l.length ≤ 100000 ∧ ∀ p, wGet w1 p = none → DE.rt (.ref p) ((p, l) :: w1)) (fun e w' => DE.ex e δ w')
def zToW (i : Nat) (t : TSZ Mst) : TSZ Mst := fun DE δ w => onOwn δ i fun l => ∀ c, wGet w c = none → t DE (δ.set i (.val (.ref c))) ((c, l) :: w)
section
variable {X : Cx} {ec : Nat → Addr} {pos pos' p : Pos} {a b e : Expr} {ta tb te to tk : TEZ Mst}
theorem z_ixW (ha : PEZ X (WL X.K ec) a ta) (hb : PEZ X (WL X.K ec) b tb) (hs : PlainIx b := by exact fun _ _ => rfl) : PEZ X (WL X.K ec) (.Subscript a b pos) (zIxW ta tb) :=
  ⟨fun k h => ha.mo (fun _ _ h1 => hb.mo (fun _ _ h2 => h2.imp fun a h3 => h3.imp fun n ⟨l, v, g1, g2, g3⟩ => ⟨l, v, g1, g2, k _ _ g3⟩) h1) h, fun Z ex tk => peI (pe_ix ix_list (ha.run Z ex tk) (hb.run Z ex tk) hs) fun σ H Q ⟨G, M, δ, w, s, h⟩ =>
    ⟨G, M, δ, w, s, ha.mo (fun d w1 h1 v H1 G1 M1 o1 r1 => ⟨G1, M1, δ, w1, s.go o1, hb.mo (fun d2 w2 h2 v2 H2 G2 M2 o2 r2 => by
      obtain ⟨q, rfl, h3⟩ := h2.of
      obtain ⟨k, rfl, l, d, g1, g2, g3⟩ := h3.of
      cases r1
      cases r2
      obtain ⟨vs, m1, m2⟩ := o2.pt.wd.2 q l g1
      obtain ⟨u, u1, u2⟩ := m2.at g2
      exact ⟨q, vs, k, u, rfl, rfl, .inl (.inl (o2.pt.mh _ _ m1)), u1, g3 u H2 G2 M2 (o1.tr o2) u2⟩) h1⟩) h⟩⟩
theorem z_lenW (hm : X.mg "len" = none) (ha : PEZ X (WL X.K ec) a ta) (hg : Gl X "len" := by rfl) (he : starEach [a] X.env = (false, eval a X.env) :: starEach [] X.env := by rfl) (hpl : (backTo pos (starEach [] X.env)).any (·.1) = false := by rfl) : PEZ X (WL X.K ec) (.Call (.Name "len" p) [a] [] pos) (zLenW ta) :=
  ⟨fun k h => ha.mo (fun _ _ h1 => h1.imp fun q ⟨l, g1, g2⟩ => ⟨l, g1, k _ _ g2⟩) h, fun Z ex tk => peI (pe_callB call_len_seq hg hm PySem.boot_len (pa_cons (ha.run Z ex tk) pa_nil he) (by decide) (by decide) he hpl) fun σ H Q ⟨G, M, δ, w, s, h⟩ =>
    ⟨G, M, δ, w, s, ha.mo (fun d w1 h1 v H1 G1 M1 o1 r1 => by
      obtain ⟨q, rfl, l, g1, g2⟩ := h1.of
      cases r1
      obtain ⟨vs, m1, m2⟩ := o1.pt.wd.2 q l g1
      refine ⟨q, vs, rfl, .inl (.inl (.inl (o1.pt.mh _ _ m1))), ?_⟩
      rw [m2.len]
      exact g2 _ H1 G1 M1 o1 (.int _)) h⟩⟩
theorem z_setW (ho : PEZ X (WL X.K ec) a to) (hk : PEZ X (WL X.K ec) b tk) (he : PEZ X (WL X.K ec) e te) (hs : swapsWithSole [.Subscript a b pos'] e pos.line X.env = pure false := by rfl) (hw : swappedStores [.Subscript a b pos'] e X.env = pure none := by rfl)
    (h1 : (assignEach [.Subscript a b pos'] X.env).map (·.2) = [assign (.Subscript a b pos') X.env] := by rfl)
    (ha : ∀ v, assign (.Subscript a b pos') X.env v = (do
      let ov ← holding [v] (eval a X.env)
      let iv ← holding [v, ov] (eval b X.env)
      standAt pos'
      holding [v, ov, iv] (setItem ov iv v)
      release [v, ov, iv] []) := by intro _; rfl) : PSZ X (WL X.K ec) (.Assign [.Subscript a b pos'] e pos) (zSetW to tk te) := fun Z ex tk' =>
  psI (ps_asg (he.run Z ex tk') (pg_sub (ho.run Z ex tk') (hk.run Z ex tk') set_list ha) hs hw h1) fun DE σ H ⟨Dz, hex, EI, G, M, δ, w, s, h⟩ => by
  subst hex
  refine ⟨G, M, δ, w, s, he.mo (fun d w1 q1 v H1 G1 M1 o1 r1 => ⟨G1, M1, δ, w1, s.go o1, ho.mo (fun x w2 q2 v2 H2 G2 M2 o2 r2 => ⟨G2, M2, δ, w2, s.go (o1.tr o2), hk.mo (fun y w3 q3 v3 H3 G3 M3 o3 r3 => ?_) q2⟩) q1⟩) h⟩
  obtain ⟨q, rfl, h3⟩ := q3.of
  obtain ⟨k, rfl, l, j, g1, g2, g3⟩ := h3.of
  cases r2
  cases r3
  obtain ⟨vs, m1, m2⟩ := o3.pt.wd.2 q l g1
  have s3 := s.go ((o1.tr o2).tr o3)
  exact ⟨q, vs, k, j, rfl, rfl, o3.pt.mh _ _ m1, by rw [m2.len]; exact g2, EI.nx _ _ ⟨G3, _, δ, _, chgW s3 g1 (RepL.set (r1.up ((o2.tr o3).nx.gg)) j m2), g3⟩⟩
theorem z_retW {es : List Expr} {t : TAZ Mst} (h : PAZ X (WL X.K ec) es t) : PSZ X (WL X.K ec) (.Return (some (.List es pos')) pos) (zRetW t) := fun Z ex tk => psI (ps_ret (pe_lst (h.run Z ex tk))) fun DE σ H ⟨Dz, hex, EI, G, M, δ, w, s, q⟩ => by
  subst hex
  refine ⟨G, M, δ, w, s, h.mo (fun l w1 ⟨q0, q1⟩ vs H1 G1 M1 o1 r1 => ⟨sz1 (by rw [r1.len]; exact q0), fun p hp => ?_⟩) q⟩
  have n := NewAt.of (vs := vs) o1 s.pt.mh hp
  obtain ⟨o2, hw⟩ := newW (m := l) (o1.laid hp) n.1 n.2.1 n.2.2.1 n.2.2.2 r1
  exact EI.rt (.ref p) _ G1 _ (.ref p) _ o2.pt (s.go o2).nx (.ref p) (q1 p hw)
theorem zb_toW (i : Nat) {sts : List Stmt} {t : TSZ Mst} (h : PBZ X (WL X.K ec) sts t) : PBZ X (WL X.K ec) sts (zToW i t) := fun Z ex tk => pbI (h Z ex tk) fun DE σ H ⟨Dz, hex, EI, G, M, δ, w, s, q⟩ => by
  obtain ⟨l, hl, q⟩ := q.of
  obtain ⟨p, vs, h1, h2, h3, h4, h5, h7⟩ := s.sl i _ hl
  have hi : i < δ.length := (List.getElem?_eq_some_iff.mp hl).1
  have hw := s.pt.wd.none h4
  have own : ∀ {n : Nat} {m' : List D}, (δ.set i (.val (.ref p)))[n]? = some (.own m') → δ[n]? = some (.own m') ∧ i ≠ n := fun {n m'} e => by
    by_cases z : i = n
    · subst z; rw [List.getElem?_set_self hi] at e; cases e
    · rw [List.getElem?_set_ne z] at e; exact ⟨e, z⟩
  refine ⟨Dz, hex, EI, G, upd M p (.lst vs), _, _, ⟨⟨s.pt.gh, fun q x e => ?_, fun q x e => ?_, ⟨fun q x e => ?_, fun q l' e => ?_⟩⟩, ⟨s.nx.gg, s.nx.fr, s.nx.gn, fun q x e e' => ?_, fun q x e => ?_⟩, s.st, by rw [List.length_set]; exact s.len, fun j sl e => ?_, fun j k q m1 m2 e1 e2 e3 e4 => s.od j k q m1 m2 (own e1).1 (own e2).1 e3 e4⟩, q p hw⟩
  · by_cases k : q = p
    · subst k; rw [upd_same] at e; rw [h2]; exact e
    · rw [upd_ne k] at e; exact s.pt.mh q x e
  · rw [upd_ne (ne_of_none e h3)]; exact s.pt.dj q x e
  · rw [wGet_cons]
    by_cases k : q = p
    · rw [if_pos k]; exact ⟨_, rfl⟩
    · rw [if_neg k]; rw [upd_ne k] at e; exact s.pt.wd.1 q x e
  · rw [wGet_cons] at e
    by_cases k : q = p
    · subst k
      rw [if_pos rfl] at e
      cases e
      exact ⟨vs, upd_same, h7⟩
    · rw [if_neg k] at e
      obtain ⟨us, g1, g2⟩ := s.pt.wd.2 q l' e
      exact ⟨us, by rw [upd_ne k]; exact g1, g2⟩
  · by_cases k : q = p
    · subst k; exact h5
    · rw [upd_ne k] at e; exact s.nx.mn q x e e'
  · obtain ⟨y, e1⟩ := s.nx.m0 q x e
    by_cases k : q = p
    · subst k; exact ⟨_, upd_same⟩
    · exact ⟨y, by rw [upd_ne k]; exact e1⟩
  · by_cases z : i = j
    · subst z
      rw [List.getElem?_set_self hi] at e
      cases e
      exact ⟨.ref p, h1, .ref p⟩
    · have e' : δ[j]? = some sl := by rw [List.getElem?_set_ne z] at e; exact e
      have g := s.sl j sl e'
      cases sl with
      | no => trivial
      | val d => exact g
      | own l' =>
        obtain ⟨p', us, g1, g2, g3, g4, g5, g6⟩ := g
        refine ⟨p', us, g1, g2, g3, ?_, g5, g6⟩
        rw [upd_ne (fun y => z (s.od i j p l l' hl e' h1 (by rw [← y]; exact g1)))]
        exact g4
end
end Z

namespace Z
open PySem PySem.Spec PyProof.Rows L2
theorem Sm.num (i : Int) : Sm (i.natAbs.log2 + 1) i := by
  unfold Sm
  by_cases h : i.natAbs = 0
  · rw [h]; decide
  · exact Nat.lt_log2_self
theorem DivOk.of {n : Nat} {j : Int} (h : 0 < j) (s : Sm n j) (l : n ≤ 8000) : DivOk j := ⟨h, s.le l⟩
theorem Sm.ofNat {n : Nat} {k : Nat} (h : k < 2 ^ n) : Sm n (k : Int) := by unfold Sm; omega
theorem Sm.lt10 {r : Int} {k : Nat} (h0 : 0 ≤ r) (h1 : r < 10 ^ k) : Sm (4 * k) r := by
  unfold Sm
  have e : (10 : Int) ^ k = ((10 ^ k : Nat) : Int) := by simp
  rw [e] at h1
  have h2 : r.natAbs < 10 ^ k := by omega
  refine Nat.lt_of_lt_of_le h2 ?_
  rw [Nat.pow_mul]
  exact Nat.pow_le_pow_left (by decide) k
theorem Sm.lt10s {r : Int} {k : Nat} (h0 : -(10 ^ k) ≤ r) (h1 : r ≤ 10 ^ k) : Sm (4 * k + 1) r := by
  unfold Sm
  have e : (10 : Int) ^ k = ((10 ^ k : Nat) : Int) := by simp
  rw [e] at h0 h1
  have h2 : r.natAbs ≤ 10 ^ k := by omega
  refine Nat.lt_of_le_of_lt h2 ?_
  rw [Nat.pow_succ, Nat.pow_mul]
  have := Nat.pow_le_pow_left (show 10 ≤ 2 ^ 4 by decide) k
  have := Nat.pos_of_ne_zero (show (2 ^ 4) ^ k ≠ 0 by simp)
  omega
theorem atI_at {l : List D} {k : Int} (h0 : 0 ≤ k) (h1 : k < l.length) : ∃ d, atI l k = some d ∧ l[k.toNat]? = some d := by
  have h2 : k.toNat < l.length := by omega
  refine ⟨l[k.toNat], ?_, List.getElem?_eq_getElem h2⟩
  unfold atI ixN
  rw [if_pos h0, if_pos h1]
  exact List.getElem?_eq_getElem h2
theorem atI_int {ns : List Int} {k : Int} (h0 : 0 ≤ k) (h1 : k < ns.length) : ∃ z, atI (ns.map D.int) k = some (.int z) ∧ ns[k.toNat]? = some z := by
  obtain ⟨d, e1, e2⟩ := atI_at (l := ns.map D.int) h0 (by rw [List.length_map]; exact h1)
  rw [List.getElem?_map] at e2
  cases q : ns[k.toNat]? with
  | none => rw [q] at e2; cases e2
  | some z => rw [q] at e2; cases e2; exact ⟨z, e1, rfl⟩
theorem ixN_in {n : Nat} {k : Int} (h0 : 0 ≤ k) (h1 : k < n) : ixN n k = some k.toNat := by
  unfold ixN
  rw [if_pos h0, if_pos h1]
theorem deq_int (i j : Int) : deq (.int i) (.int j) = (i == j) := by unfold deq; simp only [py, PyData.eqv]
theorem deq_bl (i j : Bool) : deq (.bl i) (.bl j) = (i == j) := by unfold deq; simp only [py, PyData.eqv]
theorem deq_tup (l m : List D) : deq (.tup l) (.tup m) = deqs l m := by unfold deq deqs; simp only [py, PyData.eqv]
theorem deq_lst (l m : List D) : deq (.lst l) (.lst m) = deqs l m := by unfold deq deqs; simp only [py, PyData.eqv]
theorem deq_non : deq .non .non = true := by unfold deq; simp only [py, PyData.eqv]
theorem deq_non_int (i : Int) : deq .non (.int i) = false := by unfold deq; simp only [py, PyData.eqv]
theorem deq_int_non (i : Int) : deq (.int i) .non = false := by unfold deq; simp only [py, PyData.eqv]
theorem deq_non_tup (i : List D) : deq .non (.tup i) = false := by unfold deq; simp only [py, PyData.eqv]
theorem deq_tup_non (i : List D) : deq (.tup i) .non = false := by unfold deq; simp only [py, PyData.eqv]
theorem deqs_nil : deqs [] [] = true := by unfold deqs; simp only [pys, PyData.eqvAll]
theorem deqs_cons (a b : D) (l m : List D) : deqs (a :: l) (b :: m) = (deq a b && deqs l m) := by unfold deqs deq; simp only [pys, PyData.eqvAll]
theorem deqs_nil_cons (b : D) (m : List D) : deqs [] (b :: m) = false := by unfold deqs; simp only [pys, PyData.eqvAll]
theorem deqs_cons_nil (b : D) (m : List D) : deqs (b :: m) [] = false := by unfold deqs; simp only [pys, PyData.eqvAll]
theorem deqI {i j : Int} (h : deq (.int i) (.int j) = true) : i = j := by rw [deq_int] at h; exact beq_iff_eq.mp h
theorem deqI' {i j : Int} (h : deq (.int i) (.int j) = false) : i ≠ j := by rw [deq_int] at h; exact beq_eq_false_iff_ne.mp h
/-- the conditions of == on two whole numbers -/
theorem eqI {i j : Int} : okD (.int i) = true ∧ okD (.int j) = true ∧ dpD (.int i) ≤ 64 ∧ dpD (.int j) ≤ 64 := ⟨rfl, rfl, Nat.zero_le _, Nat.zero_le _⟩
end Z

namespace Z
open PySem PySem.Spec PyProof.Rows L2
/-- the texts of nines and of one with noughts behind, to sixty-four signs -/
theorem p10_le {a b : Nat} (h : a ≤ b) : (10 : Int) ^ a ≤ 10 ^ b := by
  have := Nat.pow_le_pow_right (show 0 < 10 by decide) h
  have e : ∀ n : Nat, (10 : Int) ^ n = ((10 ^ n : Nat) : Int) := fun n => by simp
  rw [e, e]; omega
theorem p10_pos (a : Nat) : (0 : Int) < 10 ^ a := by
  have := Nat.pow_pos (n := a) (show 0 < 10 by decide)
  have e : ∀ n : Nat, (10 : Int) ^ n = ((10 ^ n : Nat) : Int) := fun n => by simp
  rw [e]; omega
theorem impR {a b c : Prop} (h : b → c) : (a → b) → a → c := fun f x => h (f x)
theorem allR {α : Sort _} {p q : α → Prop} (h : ∀ x, p x → q x) : (∀ x, p x) → ∀ x, q x := fun f x => h x (f x)
theorem nb1 {b : Bool} (h : (!b) = true) : b = false := by cases b; rfl; cases h
theorem nb2 {b : Bool} (h : (!b) = false) : b = true := by cases b; cases h; rfl
/-! the entry's slots, one after the other -/
theorem stZ_len {a : Str} {N : List Str} {d : D} {ds : List D} : stZ (a :: N).length (d :: ds) = .val d :: stZ N.length ds := by
  unfold stZ
  rw [List.length_cons, List.length_cons, Nat.add_sub_add_right]; rfl
theorem stZ_len0 {a : Str} {N : List Str} : stZ (a :: N).length [] = .no :: stZ N.length [] := rfl
theorem stZ_nil : stZ ([] : List Str).length [] = [] := rfl
theorem setAll_cons {δ : List Sl} {i : Nat} {is : List Nat} {d : D} {ds : List D} : setAll δ (i :: is) (d :: ds) = setAll (δ.set i (.val d)) is ds := rfl
theorem setAll_nil {δ : List Sl} {ds : List D} : setAll δ [] ds = δ := rfl
/-! menus -/
theorem at_mem {l : List D} {k : Int} (h0 : 0 ≤ k) (h1 : k < l.length) : ∃ d, atI l k = some d ∧ d ∈ l := by
  obtain ⟨d, h2, h3⟩ := atI_at h0 h1
  exact ⟨d, h2, List.mem_of_getElem? h3⟩
theorem sgn_at (r : Int) : ∃ s, atI [D.int 1, D.int (-1)] (r % 2) = some (.int s) ∧ (s = 1 ∨ s = -1) ∧ Sm 1 s := by
  have : r % 2 = 0 ∨ r % 2 = 1 := by omega
  rcases this with e | e
  · rw [e]; exact ⟨1, rfl, .inl rfl, by unfold Sm; decide⟩
  · rw [e]; exact ⟨-1, rfl, .inr rfl, by unfold Sm; decide⟩
theorem Sm.sgn {n : Nat} {a s : Int} (h : Sm n a) (hs : s = 1 ∨ s = -1) : Sm n (a * s) := by
  rcases hs with rfl | rfl
  · rw [Int.mul_one]; exact h
  · unfold Sm at *; omega
end Z

namespace Z
open PySem PySem.Spec PyProof.Rows L2
variable {ω : Type}
theorem z_globE {X : Cx} {W : Wp ω} {pos : Pos} {x y : Str} (hm : ∃ t, X.mg x = some (.str y t)) (hg : Gl X x := by rfl) (hd : (x == ("__debug__" : Str)) = false := by decide) : PEZ X W (.Name x pos) (zK (.str y)) :=
  have ⟨_, h⟩ := hm
  z_globS h hg hd
/-! ### loops over a short list, turn by turn -/
def zUnC (gz : TGZ) (tt : TTZ ω) (te : TEZ ω) (vs : List Nat) (δ : List Sl) : List D → ω → (List D → ω → Prop) → Prop
  | [], w, Q => Q [] w
  | d :: l, w, Q => gz d (wipeZ δ vs) fun δ2 => tt δ2 w (fun b w2 => (b = true → te δ2 w2 (fun y w3 => zUnC gz tt te vs δ l w3 fun acc w4 => Q (y :: acc) w4) NoE) ∧ (b = false → zUnC gz tt te vs δ l w2 Q)) NoE
theorem un_comp {l : List D} {gz : TGZ} {tt : TTZ ω} {te : TEZ ω} {vs : List Nat} {δ : List Sl} {w : ω} {Q : List D → ω → Prop} (h : zUnC gz tt te vs δ l w Q) :
    ∃ I : Nat → List D → ω → Prop, I 0 [] w ∧ (∀ i d acc w', l[i]? = some d → I i acc w' → gz d (wipeZ δ vs) fun δ2 => tt δ2 w' (fun b w2 => (b = true → te δ2 w2 (fun y w3 => I (i + 1) (acc ++ [y]) w3) NoE) ∧ (b = false → I (i + 1) acc w2)) NoE) ∧
      ∀ acc w', I l.length acc w' → Q acc w' := by
  refine ⟨fun i acc w' => zUnC gz tt te vs δ (l.drop i) w' fun a w2 => Q (acc ++ a) w2, h, fun i d acc w' hd q => ?_, fun acc w' q => ?_⟩
  · have hl := (List.getElem?_eq_some_iff.mp hd)
    obtain ⟨h1, h2⟩ := hl
    dsimp only at q ⊢
    rw [List.drop_eq_getElem_cons h1, h2] at q
    simp only [List.append_assoc, List.singleton_append]
    exact q
  · dsimp only at q
    rw [List.drop_length] at q
    have q : Q (acc ++ []) w' := q
    rwa [List.append_nil] at q
def zUnS (gz : TGZ) (t : TSZ ω) (DE : EndZ ω) : List D → List Sl → ω → Prop
  | [], δ, w => DE.nx δ w
  | d :: l, δ, w => gz d δ fun δ2 => t { DE with nx := zUnS gz t DE l, ct := zUnS gz t DE l, bk := DE.nx } δ2 w
theorem un_loop {l : List D} {gz : TGZ} {t : TSZ ω} {DE : EndZ ω} {δ : List Sl} {w : ω} (h : zUnS gz t DE l δ w) : zLoop l gz t DE δ w := by
  refine ⟨fun i => zUnS gz t DE (l.drop i), h, fun i d δ' w' hd q => ?_, fun δ' w' q => ?_⟩
  · obtain ⟨h1, h2⟩ := List.getElem?_eq_some_iff.mp hd
    dsimp only at q
    rw [List.drop_eq_getElem_cons h1, h2] at q
    exact q
  · dsimp only at q
    rw [List.drop_length] at q
    exact q
/-! ### x in a list of flat data -/
def okF : D → Bool
  | .non => true
  | .bl _ => true
  | .int _ => true
  | .str _ => true
  | _ => false
def okFs : List D → Bool
  | [] => true
  | d :: l => okF d && okFs l
def eqF : D → D → Bool
  | .non, .non => true
  | .bl a, .bl b => a == b
  | .bl a, .int b => (if a then 1 else 0) == b
  | .int a, .bl b => a == (if b then 1 else 0)
  | .int a, .int b => a == b
  | .str a, .str b => a == b
  | _, _ => false
def memF (x : D) : List D → Bool
  | [] => false
  | y :: l => eqF y x || memF x l
theorem eqF_int (i j : Int) : eqF (.int i) (.int j) = (i == j) := rfl
theorem memF_nil (x : D) : memF x [] = false := rfl
theorem memF_cons (x y : D) (l : List D) : memF x (y :: l) = (eqF y x || memF x l) := rfl
section
variable {K : PySem.W.Frag} {G : Hp}
theorem okF_flat {v : V} {d : D} (r : Rep K G v d) (h : okF d = true) : flatV v = true := by
  cases r <;> first | rfl | cases h
theorem okFs_flat : ∀ {vs : List V} {l : List D}, RepL K G vs l → okFs l = true → vs.all flatV = true
  | _, _, .nil, _ => rfl
  | _, _, .cons r t, h => by
    unfold okFs at h
    rw [Bool.and_eq_true] at h
    rw [List.all_cons, okF_flat r h.1, okFs_flat t h.2]; rfl
theorem eqF_eqV {v u : V} {d e : D} (r : Rep K G v d) (s : Rep K G u e) (h : okF d = true) (g : okF e = true) : eqV v u = eqF d e := by
  cases r <;> first | (cases h; done) | (cases s <;> first | (cases g; done) | rfl)
theorem memF_inV {v : V} {d : D} (r : Rep K G v d) (h : okF d = true) : ∀ {vs : List V} {l : List D}, RepL K G vs l → okFs l = true → inV v vs = memF d l
  | _, _, .nil, _ => rfl
  | _, _, .cons s t, g => by
    unfold okFs at g
    rw [Bool.and_eq_true] at g
    have ih := memF_inV r h t g.2
    unfold inV at ih ⊢
    rw [List.any_cons, eqF_eqV s r g.1 h, ih]; rfl
end
def inD (neg : Bool) : OpD := fun x y q => match y with
  | .lst l => okF x = true ∧ okFs l = true ∧ q (.bl (if neg then !memF x l else memF x l))
  | .arr l => okF x = true ∧ okFs l = true ∧ q (.bl (if neg then !memF x l else memF x l))
  | .tup l => okF x = true ∧ okFs l = true ∧ q (.bl (if neg then !memF x l else memF x l))
  | _ => False
theorem l_inA {K : PySem.W.Frag} (neg : Bool) : Lnd K (rIn K neg) (inD neg) where
  mo := fun {x y q q'} k h => by
    unfold inD at h ⊢
    split at h
    · exact ⟨h.1, h.2.1, k _ h.2.2⟩
    · exact ⟨h.1, h.2.1, k _ h.2.2⟩
    · exact ⟨h.1, h.2.1, k _ h.2.2⟩
    · exact h.elim
  go := fun H G x y dx dy q Q e rx ry h k _ => by
    unfold inD at h
    split at h
    · obtain ⟨h1, h2, h3⟩ := h
      cases ry with
      | @lst p vs _ s r =>
        refine ⟨p, vs, rfl, .inl (.inl (.inl (e _ _ s))), okF_flat rx h1, okFs_flat r h2, ?_⟩
        rw [memF_inV rx h1 r h2]
        exact k _ _ h3 (.bl _)
    · obtain ⟨h1, h2, h3⟩ := h
      cases ry with
      | @arr p vs _ s r =>
        refine ⟨p, vs, rfl, .inl (sqLE e s), okF_flat rx h1, okFs_flat r h2, ?_⟩
        rw [memF_inV rx h1 r h2]
        exact k _ _ h3 (.bl _)
    · obtain ⟨h1, h2, h3⟩ := h
      cases ry with
      | @tup p vs _ s r =>
        refine ⟨p, vs, rfl, .inr (sqTE e s), okF_flat rx h1, okFs_flat r h2, ?_⟩
        rw [memF_inV rx h1 r h2]
        exact k _ _ h3 (.bl _)
    · exact h.elim
def inY : OpD := fun x y q => match y with
  | .lst l => okF x = true ∧ okFs l = true ∧ q (.bl (memF x l))
  | .arr l => okF x = true ∧ okFs l = true ∧ q (.bl (memF x l))
  | .tup l => okF x = true ∧ okFs l = true ∧ q (.bl (memF x l))
  | _ => False
def inN : OpD := fun x y q => match y with
  | .lst l => okF x = true ∧ okFs l = true ∧ q (.bl (!memF x l))
  | .arr l => okF x = true ∧ okFs l = true ∧ q (.bl (!memF x l))
  | .tup l => okF x = true ∧ okFs l = true ∧ q (.bl (!memF x l))
  | _ => False
theorem l_in {K : PySem.W.Frag} : Lnd K (rIn K false) inY := l_inA false
theorem l_notIn {K : PySem.W.Frag} : Lnd K (rIn K true) inN := l_inA true
theorem bl_eq4 {Q : D → ω → Prop} {w : ω} {a b c d e f g i : Int} (h : Q (.bl true) w) (e1 : a = e) (e2 : b = f) (e3 : c = g) (e4 : d = i) : Q (.bl (deq (.lst [.int a, .int b, .int c, .int d]) (.lst [.int e, .int f, .int g, .int i]))) w := by
  rw [deq_lst, deqs_cons, deqs_cons, deqs_cons, deqs_cons, deqs_nil, deq_int, deq_int, deq_int, deq_int, beq_iff_eq.mpr e1, beq_iff_eq.mpr e2, beq_iff_eq.mpr e3, beq_iff_eq.mpr e4]
  exact h
theorem w_set {w : Mst} {d : Addr} {l m : List D} (h : wGet w d = some l) : wGet (wSet w d m) d = some m := by rw [wGet_set, if_pos rfl, h]; rfl
theorem near7 {m r : Int} (hm : 1 ≤ m) (h0 : 0 ≤ r) (h1 : r < 7) : ∃ x, atI [D.int 0, D.int 1, D.int (m - 1), D.int m, D.int (m / 2 + 1), D.int (-1), D.int (0 - m)] r = some (.int x) ∧ -m ≤ x ∧ x ≤ m := by
  have : r = 0 ∨ r = 1 ∨ r = 2 ∨ r = 3 ∨ r = 4 ∨ r = 5 ∨ r = 6 := by omega
  rcases this with rfl | rfl | rfl | rfl | rfl | rfl | rfl
  · exact ⟨0, rfl, by omega, by omega⟩
  · exact ⟨1, rfl, by omega, by omega⟩
  · exact ⟨m - 1, rfl, by omega, by omega⟩
  · exact ⟨m, rfl, by omega, by omega⟩
  · exact ⟨m / 2 + 1, rfl, by omega, by omega⟩
  · exact ⟨-1, rfl, by omega, by omega⟩
  · exact ⟨0 - m, rfl, by omega, by omega⟩
/-! a place at which the walk stops and asks -/
@[irreducible] def Stp (p : Prop) : Prop := p
theorem Stp.mk {p : Prop} (h : p) : Stp p := by unfold Stp; exact h
theorem Stp.out {p : Prop} (h : Stp p) : p := by unfold Stp at h; exact h
theorem Stp.imp {p q : Prop} (f : p → q) (h : Stp p) : Stp q := .mk (f h.out)
theorem bl_dec {Q : D → ω → Prop} {w : ω} {p : Prop} [Decidable p] (h : Q (.bl true) w) (hp : p) : Q (.bl (decide p)) w := by
  rw [decide_eq_true hp]; exact h
theorem bl_eqp {Q : D → ω → Prop} {w : ω} {a b c d : Int} (h : Q (.bl true) w) (e1 : a = c) (e2 : b = d) : Q (.bl (deq (.tup [.int a, .int b]) (.tup [.int c, .int d]))) w := by
  rw [deq_tup, deqs_cons, deqs_cons, deqs_nil, deq_int, deq_int, beq_iff_eq.mpr e1, beq_iff_eq.mpr e2]
  exact h
theorem bl_decF {Q : D → ω → Prop} {w : ω} {p : Prop} [Decidable p] (h : Q (.bl false) w) (hp : ¬ p) : Q (.bl (decide p)) w := by
  rw [decide_eq_false hp]; exact h
theorem bl_nil {Q : D → ω → Prop} {w : ω} (h : Q (.bl true) w) : Q (.bl (deq (.lst []) (.lst []))) w := by
  rw [deq_lst, deqs_nil]; exact h
end Z

namespace Z
open PySem
/-! ### plain sums -/
def sumZ (f : Nat → Int) : Nat → Int
  | 0 => 0
  | n + 1 => sumZ f n + f n
theorem sumZ_congr {f g : Nat → Int} : ∀ n, (∀ i, i < n → f i = g i) → sumZ f n = sumZ g n
  | 0, _ => rfl
  | n + 1, h => by
    show sumZ f n + f n = sumZ g n + g n
    rw [sumZ_congr n fun i hi => h i (by omega), h n (by omega)]
theorem sumZ_add (f g : Nat → Int) : ∀ n, sumZ (fun i => f i + g i) n = sumZ f n + sumZ g n
  | 0 => rfl
  | n + 1 => by
    show sumZ (fun i => f i + g i) n + (f n + g n) = sumZ f n + f n + (sumZ g n + g n)
    rw [sumZ_add f g n]; omega
theorem sumZ_sub (f g : Nat → Int) : ∀ n, sumZ (fun i => f i - g i) n = sumZ f n - sumZ g n
  | 0 => rfl
  | n + 1 => by
    show sumZ (fun i => f i - g i) n + (f n - g n) = sumZ f n + f n - (sumZ g n + g n)
    rw [sumZ_sub f g n]; omega
theorem sumZ_mul (c : Int) (f : Nat → Int) : ∀ n, sumZ (fun i => c * f i) n = c * sumZ f n
  | 0 => by show (0 : Int) = c * 0; omega
  | n + 1 => by
    show sumZ (fun i => c * f i) n + c * f n = c * (sumZ f n + f n)
    rw [sumZ_mul c f n, Int.mul_add]
theorem sumZ_const (c : Int) : ∀ n, sumZ (fun _ => c) n = c * (n : Int)
  | 0 => by show (0 : Int) = c * 0; omega
  | n + 1 => by
    show sumZ (fun _ => c) n + c = c * ((n + 1 : Nat) : Int)
    rw [sumZ_const c n, Int.natCast_add, Int.mul_add]; omega
theorem sumZ_split (f : Nat → Int) (n : Nat) : ∀ k, sumZ f (n + k) = sumZ f n + sumZ (fun i => f (n + i)) k
  | 0 => by show sumZ f n = sumZ f n + 0; omega
  | k + 1 => by
    show sumZ f (n + k) + f (n + k) = sumZ f n + (sumZ (fun i => f (n + i)) k + f (n + k))
    rw [sumZ_split f n k]; omega
theorem sumZ_first (f : Nat → Int) (n : Nat) : sumZ f (n + 1) = f 0 + sumZ (fun i => f (i + 1)) n := by
  have h := sumZ_split f 1 n
  rw [Nat.add_comm 1 n] at h
  rw [h, sumZ_congr (f := fun i => f (1 + i)) (g := fun i => f (i + 1)) n fun i _ => by rw [Nat.add_comm]]
  show 0 + f 0 + _ = _
  omega
theorem sumZ_rev (f : Nat → Int) : ∀ n, sumZ (fun i => f (n - 1 - i)) n = sumZ f n
  | 0 => rfl
  | n + 1 => by
    rw [sumZ_first]
    show f (n + 1 - 1 - 0) + _ = sumZ f n + f n
    rw [← sumZ_rev f n, sumZ_congr (f := fun i => f (n + 1 - 1 - (i + 1))) (g := fun i => f (n - 1 - i)) n fun i _ => by rw [show n + 1 - 1 - (i + 1) = n - 1 - i by omega], show n + 1 - 1 - 0 = n by omega]
    omega
/-- the sum of the places -/
def tri (n : Int) : Int := n * (n - 1) / 2
theorem tri_two (n : Int) : 2 * tri n = n * (n - 1) := by
  unfold tri
  have h : n * (n - 1) % 2 = 0 := by
    have e : n % 2 = 0 ∨ n % 2 = 1 := by omega
    rcases e with e | e
    · rw [Int.mul_emod, e]; simp
    · have : (n - 1) % 2 = 0 := by omega
      rw [Int.mul_emod, this]; simp
  omega
theorem sumZ_id : ∀ n : Nat, sumZ (fun i => (i : Int)) n = tri n
  | 0 => rfl
  | n + 1 => by
    show sumZ (fun i => (i : Int)) n + (n : Int) = tri ((n + 1 : Nat) : Int)
    rw [sumZ_id n]
    have h1 := tri_two (n : Int)
    have h2 := tri_two ((n + 1 : Nat) : Int)
    have e : ((n + 1 : Nat) : Int) * (((n + 1 : Nat) : Int) - 1) = (n : Int) * ((n : Int) - 1) + 2 * (n : Int) := by
      rw [Int.natCast_add]; simp only [Int.natCast_one]
      rw [show (n : Int) + 1 - 1 = (n : Int) by omega, Int.add_mul, Int.mul_sub]; omega
    omega
/-- parts and rests at the first n places -/
def FS (a b m : Int) (n : Nat) : Int := sumZ (fun i => (a * (i : Int) + b) / m) n
def RS (a b m : Int) (n : Nat) : Int := sumZ (fun i => (a * (i : Int) + b) % m) n
theorem sum_line (a b : Int) (n : Nat) : sumZ (fun i => a * (i : Int) + b) n = a * tri n + b * n := by
  rw [sumZ_add (fun i => a * (i : Int)) (fun _ => b), sumZ_mul, sumZ_const, sumZ_id]
theorem FS_RS (a b m : Int) (n : Nat) : m * FS a b m n + RS a b m n = a * tri n + b * n := by
  unfold FS RS
  rw [← sum_line, ← sumZ_mul, ← sumZ_add]
  exact sumZ_congr n fun i _ => Int.mul_ediv_add_emod _ _
theorem FS_laid {m : Int} (hm : 0 < m) (a b : Int) (n : Nat) : FS a b m n = a / m * tri n + b / m * n + FS (a % m) (b % m) m n := by
  unfold FS
  rw [← sum_line, ← sumZ_add]
  refine sumZ_congr n fun i _ => ?_
  have ha := Int.mul_ediv_add_emod a m
  have hb := Int.mul_ediv_add_emod b m
  have e : a * (i : Int) + b = (a % m * (i : Int) + b % m) + m * (a / m * (i : Int) + b / m) := by
    conv => lhs; rw [← ha, ← hb]
    rw [Int.add_mul, Int.mul_add, Int.mul_assoc]
    omega
  rw [e, Int.add_mul_ediv_left _ _ (by omega : m ≠ 0)]
  omega
/-- a line and its turned one -/
theorem FS_turn {a b m : Int} (ha : 0 < a) (hm : a < m) (hb : 0 ≤ b) (hb2 : b < m) : ∀ n : Nat, FS a b m n = FS m ((a * n + b) % m) a ((a * n + b) / m).toNat
  | 0 => by
    have e : (a * ((0 : Nat) : Int) + b) / m = 0 := by simp; exact Int.ediv_eq_zero_of_lt hb hb2
    rw [e]; rfl
  | n + 1 => by
    have ih := FS_turn ha hm hb hb2 n
    have hN : 0 ≤ (a * (n : Int) + b) / m := Int.ediv_nonneg (Int.add_nonneg (Int.mul_nonneg (by omega) (by omega)) hb) (by omega)
    have e0 : FS a b m (n + 1) = FS a b m n + (a * (n : Int) + b) / m := rfl
    have r0 := Int.emod_nonneg (a * (n : Int) + b) (show m ≠ 0 by omega)
    have r1 := Int.emod_lt_of_pos (a * (n : Int) + b) (show 0 < m by omega)
    have hd := Int.mul_ediv_add_emod (a * (n : Int) + b) m
    have e1 : a * ((n + 1 : Nat) : Int) + b = (a * (n : Int) + b) + a := by rw [Int.natCast_add, Int.mul_add]; simp; omega
    rw [e0, ih, e1]
    generalize hq : (a * (n : Int) + b) / m = q at *
    generalize hr : (a * (n : Int) + b) % m = r at *
    generalize a * (n : Int) + b = t at *
    obtain ⟨k, rfl⟩ : ∃ k : Nat, q = k := ⟨q.toNat, by omega⟩
    by_cases c : r + a < m
    · have d1 : (t + a) / m = k := by rw [← hd, Int.add_assoc, Int.mul_add_ediv_left _ _ (by omega : m ≠ 0), Int.ediv_eq_zero_of_lt (by omega) c]; omega
      have d2 : (t + a) % m = r + a := by rw [← hd, Int.add_assoc, Int.mul_add_emod_self_left]; exact Int.emod_eq_of_lt (by omega) c
      rw [d1, d2, Int.toNat_natCast]
      unfold FS
      rw [show (k : Int) = 1 * (k : Int) by omega, ← sumZ_const, ← sumZ_add]
      refine sumZ_congr k fun i _ => ?_
      rw [show m * (i : Int) + (r + a) = m * (i : Int) + r + a * 1 by omega, Int.add_mul_ediv_left _ _ (by omega : a ≠ 0)]
    · have d1 : (t + a) / m = k + 1 := by rw [← hd, show m * (k : Int) + r + a = (r + a - m) + m * ((k : Int) + 1) by rw [Int.mul_add]; omega, Int.add_mul_ediv_left _ _ (by omega : m ≠ 0), Int.ediv_eq_zero_of_lt (by omega) (by omega)]; omega
      have d2 : (t + a) % m = r + a - m := by rw [← hd, show m * (k : Int) + r + a = (r + a - m) + m * ((k : Int) + 1) by rw [Int.mul_add]; omega, Int.add_mul_emod_self_left]; exact Int.emod_eq_of_lt (by omega) (by omega)
      rw [d1, d2, show ((k : Int) + 1).toNat = k + 1 by omega, Int.toNat_natCast]
      unfold FS
      rw [sumZ_first, show (m * ((0 : Nat) : Int) + (r + a - m)) / a = 0 by simp; exact Int.ediv_eq_zero_of_lt (by omega) (by omega), Int.zero_add]
      have hk : sumZ (fun _ => (1 : Int)) k = k := by rw [sumZ_const]; omega
      rw [show sumZ (fun i => (m * (i : Int) + r) / a) k + (k : Int) = sumZ (fun i => (m * (i : Int) + r) / a) k + sumZ (fun _ => 1) k by rw [hk], ← sumZ_add]
      refine sumZ_congr k fun i _ => ?_
      rw [show m * ((i + 1 : Nat) : Int) + (r + a - m) = m * (i : Int) + r + a * 1 by rw [Int.natCast_add, Int.mul_add]; simp; omega, Int.add_mul_ediv_left _ _ (by omega : a ≠ 0)]
theorem FS_none {a b m : Int} (ha : 0 ≤ a) (hm : a < m) (hb : 0 ≤ b) (hb2 : b < m) {n : Nat} (h : (a * n + b) / m = 0) : FS a b m n = 0 := by
  by_cases h0 : a = 0
  · subst h0
    unfold FS
    rw [sumZ_congr (g := fun _ => 0) n fun i _ => by rw [Int.zero_mul, Int.zero_add]; exact Int.ediv_eq_zero_of_lt hb hb2, sumZ_const]
    omega
  · rw [FS_turn (by omega) hm hb hb2, h]; rfl
theorem RS_le {m : Int} (hm : 1 ≤ m) (a b : Int) : ∀ n : Nat, 0 ≤ RS a b m n ∧ RS a b m n ≤ m * n
  | 0 => by show (0 : Int) ≤ 0 ∧ (0 : Int) ≤ m * 0; omega
  | n + 1 => by
    have ih := RS_le hm a b n
    have h0 := Int.emod_nonneg (a * (n : Int) + b) (show m ≠ 0 by omega)
    have h1 := Int.emod_lt_of_pos (a * (n : Int) + b) (show 0 < m by omega)
    have e : m * ((n + 1 : Nat) : Int) = m * (n : Int) + m := by rw [Int.natCast_add, Int.mul_add]; simp
    show 0 ≤ RS a b m n + (a * (n : Int) + b) % m ∧ RS a b m n + (a * (n : Int) + b) % m ≤ m * ((n + 1 : Nat) : Int)
    rw [e]; omega
theorem tri_sm {k : Nat} {n : Int} (h : Sm k n) : Sm (2 * k + 2) (tri n) := by
  have h1 : Sm (k + (max k 1 + 1)) (n * (n - 1)) := Sm.mul h (Sm.sub h (Sm.lit (by decide)))
  have h2 : Sm (k + (max k 1 + 1)) (n * (n - 1) / 2) := Sm.div h1 (by decide)
  by_cases hk : k = 0
  · subst hk
    have : n = 0 := by unfold Sm at h; omega
    subst this
    exact Sm.le (n := 1) (by show (tri 0).natAbs < 2 ^ 1; decide) (by omega)
  · exact h2.le (by omega)
theorem FS_sm {k : Nat} {a b m n : Int} (hm : 1 ≤ m) (hn : 0 ≤ n) (sa : Sm k a) (sb : Sm k b) (sm : Sm k m) (sn : Sm k n) : Sm (4 * k + 20) (FS a b m n.toNat) := by
  have e := FS_RS a b m n.toNat
  have r := RS_le hm a b n.toNat
  rw [show ((n.toNat : Nat) : Int) = n by omega] at e r
  have s1 : Sm (k + (2 * k + 2)) (a * tri n) := Sm.mul sa (tri_sm sn)
  have s2 : Sm (k + k) (b * n) := Sm.mul sb sn
  have s3 : Sm (k + k) (RS a b m n.toNat) := (Sm.mul sm sn).of_le r.1 r.2
  have s4 := Sm.sub (Sm.add s1 s2) s3
  rw [show a * tri n + b * n - RS a b m n.toNat = m * FS a b m n.toNat by omega] at s4
  refine Sm.le (s4.of_abs ?_) (by omega)
  rw [Int.natAbs_mul]
  exact Nat.le_mul_of_pos_left _ (by omega)
end Z

namespace Z
open PySem
/-! ### sums of parts and rests: laws with Int counts -/
theorem toNat_add' {n k : Int} (hn : 0 ≤ n) (hk : 0 ≤ k) : (n + k).toNat = n.toNat + k.toNat := by omega
theorem FS_join (a b m : Int) {n k : Int} (hn : 0 ≤ n) (hk : 0 ≤ k) : FS a b m (n + k).toNat = FS a b m n.toNat + FS a (a * n + b) m k.toNat := by
  rw [toNat_add' hn hk]
  unfold FS
  rw [sumZ_split]
  congr 1
  refine sumZ_congr _ fun i _ => ?_
  rw [Int.natCast_add, Int.mul_add, show ((n.toNat : Nat) : Int) = n by omega, Int.add_comm (a * n), Int.add_assoc]
theorem RS_join (a b m : Int) {n k : Int} (hn : 0 ≤ n) (hk : 0 ≤ k) : RS a b m (n + k).toNat = RS a b m n.toNat + RS a (a * n + b) m k.toNat := by
  rw [toNat_add' hn hk]
  unfold RS
  rw [sumZ_split]
  congr 1
  refine sumZ_congr _ fun i _ => ?_
  rw [Int.natCast_add, Int.mul_add, show ((n.toNat : Nat) : Int) = n by omega, Int.add_comm (a * n), Int.add_assoc]
theorem line_rev (a b : Int) {n : Int} (hn : 0 ≤ n) {i : Nat} (hi : i < n.toNat) : (0 - a) * (i : Int) + (a * (n - 1) + b) = a * ((n.toNat - 1 - i : Nat) : Int) + b := by
  rw [show ((n.toNat - 1 - i : Nat) : Int) = n - 1 - i by omega, Int.mul_sub a (n - 1) i, Int.sub_mul, Int.zero_mul]; omega
theorem FS_rev (a b m : Int) {n : Int} (hn : 0 ≤ n) : FS (0 - a) (a * (n - 1) + b) m n.toNat = FS a b m n.toNat := by
  unfold FS
  rw [← sumZ_rev (fun i => (a * (i : Int) + b) / m)]
  exact sumZ_congr _ fun i hi => by rw [line_rev a b hn hi]
theorem RS_rev (a b m : Int) {n : Int} (hn : 0 ≤ n) : RS (0 - a) (a * (n - 1) + b) m n.toNat = RS a b m n.toNat := by
  unfold RS
  rw [← sumZ_rev (fun i => (a * (i : Int) + b) % m)]
  exact sumZ_congr _ fun i hi => by rw [line_rev a b hn hi]
theorem FS_one (a b m : Int) {n : Int} (hn : 0 ≤ n) : FS a b m (n + 1).toNat = FS a b m n.toNat + (a * n + b) / m := by
  rw [show (n + 1).toNat = n.toNat + 1 by omega]
  show FS a b m n.toNat + (a * ((n.toNat : Nat) : Int) + b) / m = _
  rw [show ((n.toNat : Nat) : Int) = n by omega]
theorem RS_one (a b m : Int) {n : Int} (hn : 0 ≤ n) : RS a b m (n + 1).toNat = RS a b m n.toNat + (a * n + b) % m := by
  rw [show (n + 1).toNat = n.toNat + 1 by omega]
  show RS a b m n.toNat + (a * ((n.toNat : Nat) : Int) + b) % m = _
  rw [show ((n.toNat : Nat) : Int) = n by omega]
theorem line_times (a b t : Int) (i : Nat) : a * t * (i : Int) + b * t = (a * (i : Int) + b) * t := by
  rw [Int.add_mul, Int.mul_right_comm]
theorem FS_times (a b m : Int) {t : Int} (ht : 0 < t) (n : Nat) : FS (a * t) (b * t) (m * t) n = FS a b m n := by
  unfold FS
  refine sumZ_congr _ fun i _ => ?_
  rw [line_times, Int.mul_ediv_mul_of_pos_left _ _ ht]
theorem RS_times (a b m : Int) {t : Int} (ht : 0 < t) (n : Nat) : RS (a * t) (b * t) (m * t) n = RS a b m n * t := by
  unfold RS
  rw [Int.mul_comm (sumZ _ n) t, ← sumZ_mul]
  refine sumZ_congr _ fun i _ => ?_
  rw [line_times, Int.mul_comm _ t, Int.mul_comm m t, Int.mul_emod_mul_of_pos _ _ ht]
theorem FS_upA (a b : Int) {m : Int} (hm : m ≠ 0) (k : Int) (n : Nat) : FS (a + k * m) b m n = FS a b m n + k * tri n := by
  unfold FS
  rw [← sumZ_id, ← sumZ_mul, ← sumZ_add]
  refine sumZ_congr _ fun i _ => ?_
  rw [Int.add_mul, show a * (i : Int) + k * m * (i : Int) + b = a * (i : Int) + b + m * (k * (i : Int)) by rw [Int.mul_comm k m, Int.mul_assoc]; omega, Int.add_mul_ediv_left _ _ hm]
theorem FS_upB (a b : Int) {m : Int} (hm : m ≠ 0) (k : Int) (n : Nat) : FS a (b + k * m) m n = FS a b m n + k * n := by
  unfold FS
  rw [← sumZ_const, ← sumZ_add]
  refine sumZ_congr _ fun i _ => ?_
  rw [show a * (i : Int) + (b + k * m) = a * (i : Int) + b + m * k by rw [Int.mul_comm k m]; omega, Int.add_mul_ediv_left _ _ hm]
theorem RS_upA (a b : Int) (m : Int) (k : Int) (n : Nat) : RS (a + k * m) b m n = RS a b m n := by
  unfold RS
  refine sumZ_congr _ fun i _ => ?_
  rw [Int.add_mul, show a * (i : Int) + k * m * (i : Int) + b = a * (i : Int) + b + m * (k * (i : Int)) by rw [Int.mul_comm k m, Int.mul_assoc]; omega, Int.add_mul_emod_self_left]
theorem RS_upB (a b : Int) (m : Int) (k : Int) (n : Nat) : RS a (b + k * m) m n = RS a b m n := by
  unfold RS
  refine sumZ_congr _ fun i _ => ?_
  rw [show a * (i : Int) + (b + k * m) = a * (i : Int) + b + m * k by rw [Int.mul_comm k m]; omega, Int.add_mul_emod_self_left]
theorem bl_eq {ω : Type} {Q : D → ω → Prop} {w : ω} {x y : Int} (h : Q (.bl true) w) (e : x = y) : Q (.bl (deq (.int x) (.int y))) w := by
  rw [deq_int, beq_iff_eq.mpr e]
  exact h
end Z

namespace Z
open PySem
/-! ### sums by periods and by full turns -/
theorem sumZ_single (c : Int) (r : Nat) : ∀ m, sumZ (fun x => if x = r then c else 0) m = if r < m then c else 0
  | 0 => by rw [if_neg (by omega)]; rfl
  | m + 1 => by
    show sumZ (fun x => if x = r then c else 0) m + (if m = r then c else 0) = _
    rw [sumZ_single c r m]
    by_cases h : m = r
    · rw [if_pos h, if_neg (by omega), if_pos (by omega)]; omega
    · rw [if_neg h]
      by_cases h2 : r < m
      · rw [if_pos h2, if_pos (by omega)]; omega
      · rw [if_neg h2, if_neg (by omega)]; omega
theorem sumZ_zero {f : Nat → Int} {m : Nat} (h : ∀ i, i < m → f i = 0) : sumZ f m = 0 := by
  rw [sumZ_congr (g := fun _ => 0) m h, sumZ_const]; omega
def cnt (n m x : Nat) : Nat := n / m + if x < n % m then 1 else 0
theorem cnt_next {n m x : Nat} (hm : 0 < m) (hx : x < m) : cnt (n + 1) m x = cnt n m x + if x = n % m then 1 else 0 := by
  unfold cnt
  have hr := Nat.mod_lt n hm
  have hd := Nat.div_add_mod n m
  by_cases c : n % m + 1 < m
  · have e1 : (n + 1) / m = n / m := by
      rw [← hd, Nat.add_assoc, Nat.mul_add_div hm, Nat.div_eq_of_lt c, Nat.mul_add_div hm, Nat.div_eq_of_lt hr]
    have e2 : (n + 1) % m = n % m + 1 := by
      conv => lhs; rw [← hd]
      rw [Nat.add_assoc, Nat.mul_add_mod, Nat.mod_eq_of_lt c]
    rw [e1, e2]
    by_cases h1 : x < n % m
    · rw [if_pos (by omega), if_pos h1, if_neg (by omega)]
    · by_cases h2 : x = n % m
      · rw [if_pos (by omega), if_neg h1, if_pos h2]
      · rw [if_neg (by omega), if_neg h1, if_neg h2]
  · have hk : n % m + 1 = m := by omega
    have hn : n + 1 = m * (n / m + 1) := by rw [Nat.mul_add, Nat.mul_one]; omega
    have e1 : (n + 1) / m = n / m + 1 := by rw [hn]; exact Nat.mul_div_cancel_left _ hm
    have e2 : (n + 1) % m = 0 := by rw [hn]; exact Nat.mul_mod_right _ _
    rw [e1, e2, if_neg (by omega)]
    by_cases h1 : x < n % m
    · rw [if_pos h1, if_neg (by omega)]
    · rw [if_neg h1, if_pos (by omega)]
theorem sumZ_periods (f : Nat → Int) {m : Nat} (hm : 0 < m) : ∀ n, sumZ f n = sumZ (fun x => sumZ (fun j => f (x + j * m)) (cnt n m x)) m
  | 0 => by
    refine (sumZ_zero fun x _ => ?_).symm
    have : cnt 0 m x = 0 := by unfold cnt; rw [Nat.zero_div, Nat.zero_mod, if_neg (by omega)]
    rw [this]; rfl
  | n + 1 => by
    show sumZ f n + f n = _
    rw [sumZ_periods f hm n]
    have hr := Nat.mod_lt n hm
    have e : sumZ (fun x => sumZ (fun j => f (x + j * m)) (cnt (n + 1) m x)) m = sumZ (fun x => sumZ (fun j => f (x + j * m)) (cnt n m x) + if x = n % m then f n else 0) m := by
      refine sumZ_congr m fun x hx => ?_
      rw [cnt_next hm hx]
      by_cases h : x = n % m
      · rw [if_pos h, if_pos h]
        show sumZ (fun j => f (x + j * m)) (cnt n m x) + f (x + cnt n m x * m) = _
        have : x + cnt n m x * m = n := by
          have hd := Nat.div_add_mod n m
          unfold cnt
          rw [if_neg (by omega), Nat.add_zero, Nat.mul_comm]; omega
        rw [this]
      · rw [if_neg h, if_neg h, Nat.add_zero, Int.add_zero]
    rw [e, sumZ_add, sumZ_single, if_pos hr]
theorem part_far (a b : Int) {m : Nat} (hm : 0 < m) (x j : Nat) : (a * ((x + j * m : Nat) : Int) + b) / (m : Int) = (a * (x : Int) + b) / (m : Int) + a * (j : Int) := by
  rw [Int.natCast_add, Int.natCast_mul, Int.mul_add, show a * (x : Int) + a * ((j : Int) * (m : Int)) + b = a * (x : Int) + b + (m : Int) * (a * (j : Int)) by rw [← Int.mul_assoc, Int.mul_comm (m : Int)]; omega, Int.add_mul_ediv_left _ _ (by omega)]
theorem rest_far (a b : Int) {m : Nat} (x j : Nat) : (a * ((x + j * m : Nat) : Int) + b) % (m : Int) = (a * (x : Int) + b) % (m : Int) := by
  rw [Int.natCast_add, Int.natCast_mul, Int.mul_add, show a * (x : Int) + a * ((j : Int) * (m : Int)) + b = a * (x : Int) + b + (m : Int) * (a * (j : Int)) by rw [← Int.mul_assoc, Int.mul_comm (m : Int)]; omega, Int.add_mul_emod_self_left]
/-- how often the place x below m comes among n -/
def comes (n m : Int) (x : Nat) : Int := n / m + if (x : Int) < n % m then 1 else 0
theorem comes_eq {n m : Nat} (x : Nat) : comes (n : Int) (m : Int) x = (cnt n m x : Nat) := by
  unfold comes cnt
  rw [← Int.natCast_ediv, ← Int.natCast_emod, Int.natCast_add]
  by_cases h : x < n % m
  · rw [if_pos h, if_pos (by omega)]; rfl
  · rw [if_neg h, if_neg (by omega)]; rfl
theorem FS_periods (a b : Int) {m n : Int} (hm : 0 < m) (hn : 0 ≤ n) : FS a b m n.toNat = sumZ (fun x => (a * (x : Int) + b) / m * comes n m x + a * tri (comes n m x)) m.toNat := by
  obtain ⟨M, rfl⟩ : ∃ k : Nat, m = k := ⟨m.toNat, by omega⟩
  obtain ⟨N, rfl⟩ : ∃ k : Nat, n = k := ⟨n.toNat, by omega⟩
  unfold FS
  rw [Int.toNat_natCast, Int.toNat_natCast, sumZ_periods _ (show 0 < M by omega)]
  refine sumZ_congr M fun x _ => ?_
  rw [comes_eq, ← sumZ_id, ← sumZ_mul, ← sumZ_const, ← sumZ_add]
  exact sumZ_congr _ fun j _ => part_far a b (by omega) x j
theorem RS_periods (a b : Int) {m n : Int} (hm : 0 < m) (hn : 0 ≤ n) : RS a b m n.toNat = sumZ (fun x => (a * (x : Int) + b) % m * comes n m x) m.toNat := by
  obtain ⟨M, rfl⟩ : ∃ k : Nat, m = k := ⟨m.toNat, by omega⟩
  obtain ⟨N, rfl⟩ : ∃ k : Nat, n = k := ⟨n.toNat, by omega⟩
  unfold RS
  rw [Int.toNat_natCast, Int.toNat_natCast, sumZ_periods _ (show 0 < M by omega)]
  refine sumZ_congr M fun x _ => ?_
  rw [comes_eq, ← sumZ_const]
  exact sumZ_congr _ fun j _ => rest_far a b x j
/-! full turns -/
theorem emod_gcd (a b : Int) (m : Int) : b % m % (Int.gcd a m : Int) = b % (Int.gcd a m : Int) := Int.emod_emod_of_dvd b (Int.gcd_dvd_right a m)
theorem gcd_emod_left (a m : Int) : Int.gcd m (a % m) = Int.gcd a m := by
  rw [Int.gcd_comm]
  have h := Int.mul_ediv_add_emod a m
  apply Nat.dvd_antisymm
  · refine Int.dvd_gcd ?_ (Int.gcd_dvd_right _ _)
    have q := Int.dvd_add (Int.dvd_mul_of_dvd_left (b := m) (c := a / m) (Int.gcd_dvd_right (a % m) m)) (Int.gcd_dvd_left (a % m) m)
    rw [h] at q
    exact q
  · refine Int.dvd_gcd ?_ (Int.gcd_dvd_right _ _)
    rw [show a % m = a - m * (a / m) by omega]
    exact Int.dvd_sub (Int.gcd_dvd_left _ _) (Int.dvd_mul_of_dvd_left (Int.gcd_dvd_right _ _))
theorem FS_round (k : Nat) : ∀ (a b m : Int), 0 < m → m ≤ k → 2 * FS a b m m.toNat = (a - 1) * (m - 1) + (Int.gcd a m : Int) - 1 + 2 * (b - b % (Int.gcd a m : Int)) := by
  induction k with
  | zero => intro a b m h1 h2; omega
  | succ k ih =>
    intro a b m h1 h2
    have hm : ((m.toNat : Nat) : Int) = m := by omega
    have e := FS_laid h1 a b m.toNat
    rw [hm] at e
    have t2 := tri_two m
    have ha := Int.mul_ediv_add_emod a m
    have hb := Int.mul_ediv_add_emod b m
    have a0 := Int.emod_nonneg a (show m ≠ 0 by omega)
    have a1 := Int.emod_lt_of_pos a h1
    have b0 := Int.emod_nonneg b (show m ≠ 0 by omega)
    have b1 := Int.emod_lt_of_pos b h1
    have q2 : 2 * (a / m * tri m) = (a - a % m) * (m - 1) := by
      rw [show 2 * (a / m * tri m) = a / m * (2 * tri m) by rw [← Int.mul_assoc, ← Int.mul_assoc, Int.mul_comm 2], t2, ← Int.mul_assoc, show a / m * m = a - a % m by rw [Int.mul_comm]; omega]
    have q3 : 2 * (b / m * m) = 2 * (b - b % m) := by rw [Int.mul_comm (b / m)]; omega
    have x1 : (a - a % m) * (m - 1) = a * (m - 1) - a % m * (m - 1) := Int.sub_mul _ _ _
    have x2 : (a - 1) * (m - 1) = a * (m - 1) - (m - 1) := by rw [Int.sub_mul]; omega
    by_cases hz : a % m = 0
    · have g1 : Int.gcd a m = m.toNat := by
        rw [← gcd_emod_left, hz, Int.gcd_zero_right]; omega
      have z : FS 0 (b % m) m m.toNat = 0 := by
        refine FS_none (Int.le_refl 0) h1 b0 b1 ?_
        rw [Int.zero_mul, Int.zero_add]; exact Int.ediv_eq_zero_of_lt b0 b1
      rw [g1, hm]
      rw [hz] at e q2 x1
      rw [Int.zero_mul] at x1
      rw [z] at e
      omega
    · have tn := FS_turn (show 0 < a % m by omega) a1 b0 b1 m.toNat
      rw [hm, show (a % m * m + b % m) % m = b % m by rw [Int.add_comm, Int.add_mul_emod_self_right, Int.emod_emod_of_dvd _ (Int.dvd_refl m)], show (a % m * m + b % m) / m = a % m by rw [Int.add_comm, Int.add_mul_ediv_right _ _ (by omega), Int.ediv_eq_zero_of_lt b0 b1]; omega] at tn
      have i2 := ih m (b % m) (a % m) (by omega) (by omega)
      rw [gcd_emod_left, emod_gcd] at i2
      have x3 : (m - 1) * (a % m - 1) = a % m * (m - 1) - (m - 1) := by rw [Int.mul_comm, Int.sub_mul]; omega
      omega
theorem RS_round {a b m : Int} (hm : 0 < m) : 2 * RS a b m m.toNat = m * (m - (Int.gcd a m : Int)) + 2 * (m * (b % (Int.gcd a m : Int))) := by
  have e := FS_RS a b m m.toNat
  have s := FS_round m.toNat a b m hm (by omega)
  have t2 := tri_two m
  rw [show ((m.toNat : Nat) : Int) = m by omega] at e
  have h1 : 2 * (m * FS a b m m.toNat) = m * (2 * FS a b m m.toNat) := by rw [← Int.mul_assoc, ← Int.mul_assoc, Int.mul_comm 2]
  rw [s] at h1
  have h2 : 2 * (a * tri m) = a * (m * (m - 1)) := by rw [← t2, ← Int.mul_assoc, ← Int.mul_assoc, Int.mul_comm 2]
  have h3 : m * ((a - 1) * (m - 1) + (Int.gcd a m : Int) - 1 + 2 * (b - b % (Int.gcd a m : Int))) = a * (m * (m - 1)) - m * (m - 1) + m * (Int.gcd a m : Int) - m + 2 * (b * m) - 2 * (m * (b % (Int.gcd a m : Int))) := by
    rw [Int.mul_add, Int.mul_sub, Int.mul_add, Int.mul_one, ← Int.mul_assoc m (a - 1), Int.mul_comm m (a - 1), Int.mul_assoc, Int.sub_mul, Int.one_mul, Int.mul_left_comm m 2, Int.mul_sub m b, Int.mul_comm m b]; omega
  have h4 : m * (m - (Int.gcd a m : Int)) = m * (m - 1) + m - m * (Int.gcd a m : Int) := by rw [Int.mul_sub, Int.mul_sub]; omega
  omega
theorem FS_turns (a b : Int) {m : Int} (hm : 0 < m) : ∀ t : Nat, FS a b m (m * (t : Int)).toNat = FS a b m m.toNat * (t : Int) + a * m * tri (t : Int)
  | 0 => by
    rw [show (m * ((0 : Nat) : Int)).toNat = 0 by simp]
    show (0 : Int) = FS a b m m.toNat * 0 + a * m * 0
    omega
  | t + 1 => by
    have e : m * ((t + 1 : Nat) : Int) = m * (t : Int) + m := by rw [Int.natCast_add, Int.mul_add]; simp
    have h0 : 0 ≤ m * (t : Int) := Int.mul_nonneg (by omega) (by omega)
    rw [e, FS_join a b m h0 (by omega), FS_turns a b hm t, show a * (m * (t : Int)) + b = b + a * (t : Int) * m by rw [Int.mul_comm m, Int.mul_assoc]; omega, FS_upB a b (by omega), show ((m.toNat : Nat) : Int) = m by omega]
    have s : tri ((t + 1 : Nat) : Int) = tri (t : Int) + t := by rw [← sumZ_id, ← sumZ_id]; rfl
    rw [s, Int.natCast_add, Int.mul_add (FS a b m m.toNat), Int.mul_add (a * m), Int.mul_right_comm a (t : Int) m]
    simp only [Int.natCast_one, Int.mul_one]
    omega
theorem RS_turns (a b : Int) {m : Int} (hm : 0 < m) : ∀ t : Nat, RS a b m (m * (t : Int)).toNat = RS a b m m.toNat * (t : Int)
  | 0 => by
    rw [show (m * ((0 : Nat) : Int)).toNat = 0 by simp]
    show (0 : Int) = RS a b m m.toNat * 0
    omega
  | t + 1 => by
    have e : m * ((t + 1 : Nat) : Int) = m * (t : Int) + m := by rw [Int.natCast_add, Int.mul_add]; simp
    have h0 : 0 ≤ m * (t : Int) := Int.mul_nonneg (by omega) (by omega)
    rw [e, RS_join a b m h0 (by omega), RS_turns a b hm t, show a * (m * (t : Int)) + b = b + a * (t : Int) * m by rw [Int.mul_comm m, Int.mul_assoc]; omega, RS_upB a b, Int.natCast_add, Int.mul_add]
    simp
theorem FS_whole (k b : Int) {m : Int} (hm : m ≠ 0) (n : Nat) : FS (k * m) b m n = k * tri n + b / m * n := by
  have h := FS_upA 0 b hm k n
  rw [Int.zero_add] at h
  have z : FS 0 b m n = b / m * n := by
    unfold FS
    rw [← sumZ_const]
    exact sumZ_congr n fun i _ => by rw [Int.zero_mul, Int.zero_add]
  omega
theorem RS_whole (k b : Int) (m : Int) (n : Nat) : RS (k * m) b m n = b % m * n := by
  have h := RS_upA 0 b m k n
  rw [Int.zero_add] at h
  rw [h]
  unfold RS
  rw [← sumZ_const]
  exact sumZ_congr n fun i _ => by rw [Int.zero_mul, Int.zero_add]
theorem part_less {t m : Int} (hm : m ≠ 0) : (t - t % m) / m = t / m := by
  have := Int.mul_ediv_add_emod t m
  rw [show t - t % m = m * (t / m) by omega, Int.mul_ediv_cancel_left _ hm]
/-- the sums of k full turns, in the words of a common measure -/
theorem FS_byturns {a b m t : Int} (hm : 0 < m) (ht : 0 ≤ t) : FS a b m (m * t).toNat = (((a - 1) * (m - 1) + (Int.gcd a m : Int) - 1) / 2 + b - b % (Int.gcd a m : Int)) * t + a * m * (t * (t - 1) / 2) := by
  have h := FS_turns a b hm t.toNat
  have r := FS_round m.toNat a b m hm (by omega)
  rw [show ((t.toNat : Nat) : Int) = t by omega] at h
  have e : ((a - 1) * (m - 1) + (Int.gcd a m : Int) - 1) / 2 + b - b % (Int.gcd a m : Int) = FS a b m m.toNat := by omega
  rw [e, h]
  rfl
theorem RS_byturns {a b m t : Int} (hm : 0 < m) (ht : 0 ≤ t) : RS a b m (m * t).toNat = t * (m * (b % (Int.gcd a m : Int)) + m * (m - (Int.gcd a m : Int)) / 2) := by
  have h := RS_turns a b hm t.toNat
  have r := RS_round (a := a) (b := b) hm
  rw [show ((t.toNat : Nat) : Int) = t by omega] at h
  have e : m * (b % (Int.gcd a m : Int)) + m * (m - (Int.gcd a m : Int)) / 2 = RS a b m m.toNat := by omega
  rw [e, h, Int.mul_comm]
/-- places put to a sum one by one -/
theorem FS_on {a b m lo : Int} (h : 0 ≤ lo) (i : Nat) : FS a b m (lo + (i + 1 : Nat)).toNat = FS a b m (lo + i).toNat + (a * (lo + i) + b) / m := by
  rw [show lo + ((i + 1 : Nat) : Int) = lo + i + 1 by omega, FS_one a b m (by omega)]
theorem RS_on {a b m lo : Int} (h : 0 ≤ lo) (i : Nat) : RS a b m (lo + (i + 1 : Nat)).toNat = RS a b m (lo + i).toNat + (a * (lo + i) + b) % m := by
  rw [show lo + ((i + 1 : Nat) : Int) = lo + i + 1 by omega, RS_one a b m (by omega)]
theorem gcd_sm {k : Nat} {a m : Int} (hm : 0 < m) (sm : Sm k m) : 0 < ((Int.gcd a m : Nat) : Int) ∧ ((Int.gcd a m : Nat) : Int) ≤ m ∧ Sm k ((Int.gcd a m : Nat) : Int) := by
  have h1 : 0 < Int.gcd a m := Int.gcd_pos_of_ne_zero_right _ (by omega)
  have h2 : ((Int.gcd a m : Nat) : Int) ≤ m := Int.le_of_dvd hm (Int.gcd_dvd_right a m)
  exact ⟨by omega, h2, sm.of_le (by omega) h2⟩
theorem bl_eq2 {ω : Type} {Q : D → ω → Prop} {w : ω} {x y z u : Int} (h : Q (.bl true) w) (e : x = z) (e2 : y = u) : Q (.bl (deq (.lst [.int x, .int y]) (.lst [.int z, .int u]))) w := by
  rw [deq_lst, deqs_cons, deqs_cons, deqs_nil, deq_int, deq_int, beq_iff_eq.mpr e, beq_iff_eq.mpr e2]
  exact h
theorem Sm.lt10r {r : Int} {k : Nat} (h1 : r < 10 ^ k) (h0 : 0 ≤ r) : Sm (4 * k) r := Sm.lt10 h0 h1
theorem Sm.near {r : Int} (h0 : -4611686018427387904 ≤ r) (h1 : r ≤ 4611686018427387904) : Sm 63 r := by unfold Sm; omega
/-! bounds of the number of levels -/
theorem lev_len {k : Nat} {m p : Int} (h : 2 ^ k * p ≤ 2 * (m * m)) (hp : 1 ≤ p) (sm : Sm 2000 m) : k ≤ 4001 := by
  have h1 : (2 : Int) ^ k ≤ 2 ^ k * p := by
    have : (0 : Int) ≤ 2 ^ k := Int.pow_nonneg (by decide)
    have := Int.mul_le_mul_of_nonneg_left hp this
    omega
  have h2 : Sm 4000 (m * m) := Sm.mul sm sm
  have h3 : ((m * m).natAbs : Int) < ((2 ^ 4000 : Nat) : Int) := by unfold Sm at h2; omega
  have h4 : m * m ≤ ((m * m).natAbs : Int) := by omega
  have h5 : ((2 ^ k : Nat) : Int) < ((2 ^ 4001 : Nat) : Int) := by
    rw [show (2 : Nat) ^ 4001 = 2 * 2 ^ 4000 from by rw [Nat.pow_succ, Nat.mul_comm]]
    rw [Int.natCast_mul]
    have : ((2 ^ k : Nat) : Int) = 2 ^ k := Int.natCast_pow 2 k
    rw [this]
    generalize ((2 ^ 4000 : Nat) : Int) = X at *
    omega
  have h6 : 2 ^ k < 2 ^ 4001 := Int.ofNat_lt.mp h5
  have := (Nat.pow_lt_pow_iff_right (by decide : 1 < 2)).mp h6
  omega
theorem lev_step {k : Nat} {m a1 m1 : Int} (h : 2 ^ k * (a1 * m1) ≤ 2 * (m * m)) (h1 : 0 < m1) (h2 : m1 < a1) : 2 ^ (k + 1) * (m1 * (a1 % m1)) ≤ 2 * (m * m) := by
  have r0 := Int.emod_nonneg a1 (show m1 ≠ 0 by omega)
  have r1 := Int.emod_lt_of_pos a1 h1
  have hd := Int.mul_ediv_add_emod a1 m1
  have q1 : 1 ≤ a1 / m1 := (Int.le_ediv_iff_mul_le h1).mpr (by omega)
  have q2 : m1 ≤ m1 * (a1 / m1) := by have := Int.mul_le_mul_of_nonneg_left q1 (show 0 ≤ m1 by omega); omega
  have q3 : m1 * (2 * (a1 % m1)) ≤ m1 * a1 := Int.mul_le_mul_of_nonneg_left (by omega) (by omega)
  have p : (0 : Int) ≤ 2 ^ k := Int.pow_nonneg (by decide)
  have q4 := Int.mul_le_mul_of_nonneg_left q3 p
  have e : 2 ^ (k + 1) * (m1 * (a1 % m1)) = 2 ^ k * (m1 * (2 * (a1 % m1))) := by
    rw [Int.pow_succ]; grind
  rw [Int.mul_comm a1 m1] at h
  omega
end Z

namespace Z
open PySem PySem.Spec PyProof.Rows L2
variable {ω : Type}
/-! ### xs.extend(ys), xs an own list, ys a new one -/
def zExtO (i : Nat) (tf : TAZ ω) : TSZ ω := fun DE δ w => onOwn δ i fun l => tf δ w (fun m w1 => l.length + m.length ≤ 100000 ∧ DE.nx (δ.set i (.own (l ++ m))) w1) (fun e w' => DE.ex e δ w')
section
variable {X : Cx} {W : Wp ω} {pos pos' p : Pos} {x : Str} {e : Expr} {tf : TAZ ω}
theorem z_extO (i : Nat) {pm : Pos} (he : PFZ X W e tf) (hN : X.N[i]? = some x := by rfl) (hv : Vis X.env.scope x := by first | exact Or.inl rfl | exact Or.inr (Or.inl rfl) | exact Or.inr (Or.inr rfl)) (hd : (x == ("__debug__" : Str)) = false := by decide)
    (hcd : (x == ("__classdict__" : Str)) = false := by decide) (hs : swapsWith (.Call (.Attribute (.Name x p) "extend" pm) [e] [] pos') none pos.line X.env = pure false := by rfl)
    (hpe : ∀ {t : TE}, PE X e t → PE X (.Call (.Attribute (.Name x p) "extend" pm) [e] [] pos') (tBM X.K "list" rExtend (tVar i) (tCons t tNil)) := by
      intro t ht
      exact pe_bm PySem.F.plainAttrs_list PySem.F.slot_list_extend PySem.F.type_list_extend mt_extend (pv _) (pa_cons ht pa_nil)) :
    PSZ X W (.Expr (.Call (.Attribute (.Name x p) "extend" pm) [e] [] pos') pos) (zExtO i tf) := fun Z ex tk =>
  psI (ps_expr (hpe (he.run Z ex tk)) hs) fun DE σ H ⟨Dz, hex, EI, G, M, δ, w, a, h⟩ => by
  subst hex
  obtain ⟨l, hl, h⟩ := h.of
  obtain ⟨q, vs, h1, h2, h3, h4⟩ := a.own hl
  refine ⟨.ref q, h1, .inl ⟨rfl, _, SqL.of h2⟩, G, M, δ, w, a, he.mo (fun m w1 q1 p2 us H1 G1 M1 o1 r1 na => ?_) h⟩
  have a1 := a.go o1
  have r4 := h4.up o1.nx.gg
  refine ⟨q, p2, vs, us, rfl, rfl, o1.nx.fr q _ h2 h3, na.2.1, by rw [r4.len, r1.len, sizeLine_eq]; omega, EI.nx _ _ ⟨G1, M1, _, w1, a1.change hl h1 (r4.app r1), q1.2⟩⟩
end
/-! ### sorted(set(xs)), xs a list of ints -/
abbrev nset (w : World) : Obj := { cls := .type "set", dict := none, data := .set #[] 0 (.fresh 0 0 (!w.params.followText "set-order")) }
section
variable {P : Program} {w : World} {A : Around} {E : Value → Shared → Prop} {s : Shared}
theorem set_of_list {l : Addr} {items : Array Value} (ns : List Int) {Q : Value → Shared → Prop} (hh : A.handled = none) (hl : s.heap.IsList l items) (hit : IntsAre items.toList ns) (hb : ns.length + 1 < scanBound)
    (h : ∀ (h' : Heap) (tk c : Nat), SetR w h' s.heap.objs.size (fun j => decide (j ∈ ns)) c → c ≤ ns.length → (∀ b o, s.heap.get? b = some o → h'.get? b = some o) → Q (.ref s.heap.objs.size) { s with heap := h', toks := tk }) :
    wpAny (model P w) A (call (.type "set") [.ref l]) Q E s := by
  have sz : items.size = ns.length := by
    have q := IntsAre.length hit
    rwa [Array.length_toList] at q
  have lS : l < s.heap.objs.size := by obtain ⟨o, ho, _⟩ := hl; exact Heap.lt_size ho
  have up : ∀ b o, s.heap.get? b = some o → (s.heap.push (nset w)).get? b = some o := fun b o e => Heap.get?_push_of_some _ e
  have hS : (s.heap.push (nset w)).get? s.heap.objs.size = some (nset w) := Heap.get?_push_size _ rfl
  have hl1 : (s.heap.push (nset w)).IsList l items := hl.push _
  obtain ⟨c, tl, hmro⟩ := F.called_set.mro
  have hmade := F.called_set.made
  have hsub := F.called_set.sub
  refine wpAny_call (codeAny_of_tree ?_)
  show wpAny _ _ (callAny (.type "set") _) _ _ _
  refine wpAny_pure ⟨Code.quiet_builtin _ (by decide +kernel), codeAny_builtin F.entry_type_call ?_⟩
  rw [Around.under_plain (weight_type_call_type "set" [.ref l] []) rfl]
  have h1 := F.called_set.notType
  have h2 := F.called_set.canCreate
  have hct := F.typeCall_set_1 (.ref l)
  repeat (any_goals (first | assumption | wp_step))
  refine codeAny_mono (code_set_led1 (.ref l) (E := E) (Q₁ := fun obj t => obj = .ref s.heap.objs.size ∧ t = { s with heap := s.heap.push (nset w) }) ⟨rfl, rfl⟩) fun r t hr => ?_
  match r, hr with
  | .error e, hr => exact hr
  | .ok (.ret obj), hr =>
    obtain ⟨rfl, rfl⟩ := hr
    have hT : Shared.TypeIs { s with heap := s.heap.push (nset w) } (.ref s.heap.objs.size) "set" := ⟨_, hS, rfl⟩
    have hli := F.called_set.init.lookup
    have hbi := F.called_set.init.bind (.ref s.heap.objs.size)
    repeat (any_goals (first | assumption | wp_step))
    refine codeAny_mono (codeAny_call_builtin (R := wants (fun r u => r = .none ∧ ∃ h' tk c, u = { s with heap := h', toks := tk } ∧ SetR w h' s.heap.objs.size (fun j => decide (j ∈ ns)) c ∧ c ≤ ns.length ∧ (∀ b o, s.heap.get? b = some o → h'.get? b = some o)) E)
      F.called_set.init.plain F.entry_set_init (check_set_init_1 hT ?_)) fun r u hr => ?_
    · obtain ⟨ol, hol, hcl, nl, hdl⟩ := hl1
      have hl2 : (s.heap.push (nset w)).IsList l items := ⟨ol, hol, hcl, nl, hdl⟩
      obtain ⟨ocls, odict, odata, oslots⟩ := ol
      simp only at hcl hdl
      subst hcl; subst hdl
      have hsls := F.sub_list_set
      have hslf := F.sub_list_frozenset
      have hne : (Value.type "list" == Value.type "dict") = false := by decide
      unfold Builtin.«set.__init__» noKeywords Builtin.Frozenset.updateFrom
      generalize hPI : pyIter = PI
      wp_walk
      subst hPI
      refine wpAny_pyIter_list hl2 ?_
      refine wpAny_bind (wpAny_runValue ?_)
      have hh3 : A.in1.in1.in1.handled = none := by simp [hh]
      have z1 : (s.heap.push (nset w)).objs.size = s.heap.objs.size + 1 := Heap.size_push ..
      have away : ∀ b, b < s.heap.objs.size → b ≠ (s.heap.push (nset w)).objs.size := fun b hb => by rw [z1]; omega
      refine set_update_ints ((Walks.list hh3 _ l (away l lS) items).toS) s.heap.objs.size (by
        simp only [List.mem_cons, List.mem_singleton, List.not_mem_nil, or_false, not_or]
        exact ⟨Nat.ne_of_lt (by rw [Heap.size_push]; exact Nat.lt_succ_self _), Nat.ne_of_gt lS⟩) ns sz hb (fun i v hv => by
        have hi : i < ns.length := by rw [← sz]; exact (Array.getElem?_eq_some_iff.mp hv).1
        obtain ⟨t, e⟩ := PyProof.Rows.IntsAre.int_at hit i v (by rw [Array.getElem?_toList]; exact hv)
        refine ⟨ns[i], t, List.getElem?_eq_getElem hi, ?_⟩
        rw [e, List.getD_eq_getElem?_getD, List.getElem?_eq_getElem hi] <;> rfl) (items.size - 0) 0 _ (by omega) (Nat.zero_le _)
        ⟨⟨_, Heap.get?_push_size _ rfl, rfl, rfl⟩, (hl2.push _)⟩ ⟨0, Nat.le_refl 0, setR_new_at (Heap.get?_push_of_some _ hS)⟩ fun u c' hm hc' hS' => ?_
      obtain ⟨h', g2, d', tk', os'⟩ := u
      obtain rfl : g2 = s.gens := hm.gens
      obtain rfl : d' = s.drawn := hm.drawn
      obtain rfl : os' = s.os := hm.os
      show wpAny _ _ _ _ _ _
      refine wpAny_pure ?_
      show wpAny _ _ (ret Value.none) _ _ _
      refine wpAny_pure ⟨rfl, h', tk', c', rfl, hS', by rw [sz] at hc'; exact hc', fun b o e => ?_⟩
      have hb0 : b < s.heap.objs.size := Heap.lt_size e
      exact hm.heap b o (by simp only [List.mem_cons, List.mem_singleton, List.not_mem_nil, or_false, not_or]; exact ⟨Nat.ne_of_lt hb0, away b hb0⟩) (Heap.get?_push_of_some _ (up b o e))
    · match r, hr with
      | .error e, hr => exact hr
      | .ok (.ret r), hr =>
        obtain ⟨rfl, h', tk, c', rfl, hS', hc', hk'⟩ := hr
        repeat (any_goals (first | assumption | wp_step))
        exact h _ _ _ hS' hc' hk'
      | .ok .next, hr => exact hr.elim
  | .ok .next, hr => exact hr.elim
end
section
variable {X : Cx} {W : Wp ω} {pos p p2 pos2 : Pos} {e : Expr} {ta : TAZ ω}
/-- set(xs) -/
def rSetL1 (K : PySem.W.Frag) (w : World) : List V → Hp → VK → Prop := fun vs H Q => ∃ (l : Addr) (ns : List Int), vs = [.ref l] ∧ SqL K H l (ns.map V.int) ∧ ns.length < 64 ∧
  ∀ (q : Addr) (c : Nat), H q = none → c < 64 → Q (.ref q) (upd H q (SetO w q (fun j => decide (j ∈ ns)) c))
theorem cr_setL1 (hc : X.calm = true) : CallR X (.type "set") (rSetL1 X.K X.w) := by
  intro pins s σ H vs us Q I r h
  obtain ⟨l, ns, rfl, hq, h64, q⟩ := h
  rw [Vals.ref1 r]
  obtain ⟨its, rv, pl, hz⟩ := I.list hq
  refine set_of_list ns (I.ok.hd hc) pl.isList (by simpa using rv.ints) (by unfold scanBound; omega) fun h' tk c hS hc2 hk => ?_
  have hn : H s.heap.objs.size = none := I.hok.fresh (Nat.le_refl _)
  exact ⟨.ref _, upd H s.heap.objs.size (SetO X.w s.heap.objs.size (fun j => decide (j ∈ ns)) c), I.laid (t' := tk) (fun b u e => hk b u e) (Nat.le_refl _) (setO_new hS), rfl, q _ c hn (by omega)⟩
/-- what sorted(set(xs)) gives -/
def sset (l : List D) (q : List D → Prop) : Prop := oneD l fun d => match d with | .lst m => ∃ ns : List Int, m = ns.map D.int ∧ ns.length < 64 ∧ ∀ ns' : List Int, ns'.Pairwise (· < ·) → (∀ k, k ∈ ns' ↔ k ∈ ns) → ns'.length < 64 → q (ns'.map D.int) | _ => False
theorem z_sset (hm : X.mg "sorted" = none) (hm2 : X.mg "set" = none) (ha : PAZ X W [e] ta) (hc : X.calm = true := by rfl) (hg : Gl X "sorted" := by rfl) (hg2 : Gl X "set" := by rfl) (he : starEach [e] X.env = [(false, eval e X.env)] := by rfl)
    (he2 : starEach [Expr.Call (.Name "set" p2) [e] [] pos2] X.env = [(false, eval (.Call (.Name "set" p2) [e] [] pos2) X.env)] := by rfl) :
    PFZ X W (.Call (.Name "sorted" p) [.Call (.Name "set" p2) [e] [] pos2] [] pos) (zBF sset ta) :=
  ⟨fun k h => ha.mo (fun l w1 h1 => h1.imp fun d h => by
    split at h
    · obtain ⟨ns, h1, h2, h3⟩ := h; exact ⟨ns, h1, h2, fun m a b c => k _ _ (h3 m a b c)⟩
    · exact h.elim) h, fun Z ex tk => peI (pe_callB (cr_sortedSet hc) hg hm (by decide +kernel) (pa_cons (pe_callTy (cr_setL1 hc) hg2 hm2 (by decide +kernel) (ha.run Z ex tk) (by decide) (by decide) he rfl) pa_nil he2) (by decide) (by decide) he2 rfl) fun σ H Q ⟨G, M, δ, w, a, h⟩ => by
    refine ⟨G, M, δ, w, a, ha.mo (fun l w1 h1 vs H1 G1 M1 o1 r1 => ?_) h⟩
    obtain ⟨d, rfl, h2⟩ := h1.of
    obtain ⟨v, rfl, r⟩ := one_rep r1
    split at h2
    · obtain ⟨ns, rfl, h64, q⟩ := h2
      cases r with
      | @lst pl _ _ sq r =>
        obtain rfl := r.ints
        refine ⟨pl, ns, rfl, SqL.of (o1.pt.gh _ _ sq), h64, fun q1 c hq1 hc1 => ⟨q1, _, c, rfl, upd_same, hc1, fun ms q2 hs hmem hlen hq2 => ?_⟩⟩
        have g2 := (o1.laid (o := SetO X.w q1 (fun j => decide (j ∈ ns)) c) hq1)
        exact q ms hs (fun k => by rw [hmem k, decide_eq_true_iff]) (by omega) q2 _ _ _ _ (g2.laid hq2) (RepL.ofInts ms) (.of g2 a.pt.mh hq2)
    · exact h2.elim⟩
end
end Z

namespace Z
/-! ### points above and beneath lines, in whole numbers only -/
abbrev L3 := Int × Int × Int
def dnP (p : L3) : L3 := (0 - p.1, 0 - p.2.1, p.2.2)
def hh (x : Int) (p : L3) : Int := p.1 * x + p.2.1
def vl (x : Int) (p : L3) : Int := (p.1 * x + p.2.1) / p.2.2
def mn : List Int → Int
  | [] => 0
  | [a] => a
  | a :: b :: l => min a (mn (b :: l))
def mnL (x : Int) (ls : List L3) : Int := mn (ls.map (vl x))
theorem mn_spec : ∀ (l : List Int), l ≠ [] → mn l ∈ l ∧ ∀ y ∈ l, mn l ≤ y
  | [], h => absurd rfl h
  | [a], _ => ⟨List.mem_singleton.mpr rfl, fun y hy => by rw [List.mem_singleton.mp hy]; exact Int.le_refl _⟩
  | a :: b :: l, _ => by
    obtain ⟨h1, h2⟩ := mn_spec (b :: l) (by simp)
    have e : mn (a :: b :: l) = min a (mn (b :: l)) := rfl
    rw [e]
    refine ⟨?_, fun y hy => ?_⟩
    · rcases Int.le_total a (mn (b :: l)) with q | q
      · rw [Int.min_eq_left q]; exact List.mem_cons_self
      · rw [Int.min_eq_right q]; exact List.mem_cons_of_mem _ h1
    · rcases List.mem_cons.mp hy with rfl | hy
      · exact Int.min_le_left _ _
      · have := h2 y hy; have := Int.min_le_right a (mn (b :: l)); omega
theorem mn_uniq {l : List Int} {m : Int} (h : m ∈ l) (h2 : ∀ y ∈ l, m ≤ y) : m = mn l := by
  obtain ⟨a, b⟩ := mn_spec l (List.ne_nil_of_mem h)
  have := b m h
  have := h2 _ a
  omega
theorem vl_dn (x : Int) (p : L3) : vl x (dnP p) = (0 - p.1 * x - p.2.1) / p.2.2 := by
  unfold vl dnP
  rw [show (0 - p.1) * x + (0 - p.2.1) = 0 - p.1 * x - p.2.1 by rw [Int.sub_mul, Int.zero_mul]; omega]
theorem hh_dn (x : Int) (p : L3) : hh x (dnP p) = 0 - hh x p := by
  unfold hh dnP
  show (0 - p.1) * x + (0 - p.2.1) = _
  rw [Int.sub_mul, Int.zero_mul]; omega
theorem mn_dn {x M : Int} {be : List L3} (h : M ∈ be.map fun p => 0 - (0 - p.1 * x - p.2.1) / p.2.2) (h2 : ∀ y ∈ be.map (fun p => 0 - (0 - p.1 * x - p.2.1) / p.2.2), y ≤ M) : 0 - M = mnL x (be.map dnP) := by
  refine mn_uniq ?_ fun y hy => ?_
  · obtain ⟨p, hp, rfl⟩ := List.mem_map.mp h
    exact List.mem_map.mpr ⟨_, List.mem_map.mpr ⟨p, hp, rfl⟩, by rw [vl_dn]; omega⟩
  · obtain ⟨q, hq, rfl⟩ := List.mem_map.mp hy
    obtain ⟨p, hp, rfl⟩ := List.mem_map.mp hq
    have := h2 _ (List.mem_map.mpr ⟨p, hp, rfl⟩)
    rw [vl_dn]; omega
def roomB (ab be : List L3) (x : Int) : Bool := decide (0 ≤ mnL x ab + mnL x (be.map dnP))
def room (ab be : List L3) (x : Int) : Int := max 0 (mnL x ab + mnL x (be.map dnP) + 1)
/-- the points of the places lo, lo + 1, .., n of them -/
def pts (ab be : List L3) (lo : Int) (n : Nat) : Int := sumZ (fun i => room ab be (lo + (i : Int))) n
def EL (ab be : List L3) (lo : Int) (n : Nat) : List Int := ((List.range n).map fun i : Nat => lo + (i : Int)).filter (roomB ab be)
theorem EL_snoc (ab be : List L3) (lo : Int) (n : Nat) : EL ab be lo (n + 1) = EL ab be lo n ++ if roomB ab be (lo + n) then [lo + (n : Int)] else [] := by
  unfold EL
  rw [List.range_succ, List.map_append, List.filter_append]
  show _ ++ List.filter (roomB ab be) [lo + (n : Int)] = _
  rw [List.filter_cons]
  rfl
theorem EL_yes {ab be : List L3} {lo : Int} {n : Nat} (h : 0 ≤ mnL (lo + n) ab + mnL (lo + n) (be.map dnP)) : EL ab be lo (n + 1) = EL ab be lo n ++ [lo + (n : Int)] := by
  rw [EL_snoc, if_pos (show roomB ab be (lo + n) = true from decide_eq_true h)]
theorem EL_no {ab be : List L3} {lo : Int} {n : Nat} (h : ¬ 0 ≤ mnL (lo + n) ab + mnL (lo + n) (be.map dnP)) : EL ab be lo (n + 1) = EL ab be lo n := by
  rw [EL_snoc, if_neg (by unfold roomB; simpa using h), List.append_nil]
theorem EL_len (ab be : List L3) (lo : Int) (n : Nat) : (EL ab be lo n).length ≤ n := by
  unfold EL
  refine Nat.le_trans (List.length_filter_le _ _) ?_
  rw [List.length_map, List.length_range]; exact Nat.le_refl _
/-! lower lines -/
/-- p is not above q at x -/
def Lo (x : Int) (p q : L3) : Prop := hh x p * q.2.2 ≤ hh x q * p.2.2
instance (x : Int) (p q : L3) : Decidable (Lo x p q) := inferInstanceAs (Decidable (_ ≤ _))
theorem mul_le_cancel {a b c : Int} (hc : 0 < c) (h : a * c ≤ b * c) : a ≤ b := Int.le_of_mul_le_mul_right h hc
theorem mul_lt_cancel {a b c : Int} (hc : 0 < c) (h : a * c < b * c) : a < b := Int.lt_of_mul_lt_mul_right h (by omega)
theorem Lo.trans {x : Int} {p q r : L3} (hp : 0 < p.2.2) (hq : 0 < q.2.2) (hr : 0 < r.2.2) (h : Lo x p q) (g : Lo x q r) : Lo x p r := by
  unfold Lo at *
  have h1 := Int.mul_le_mul_of_nonneg_right h (show 0 ≤ r.2.2 by omega)
  have h2 := Int.mul_le_mul_of_nonneg_right g (show 0 ≤ p.2.2 by omega)
  refine mul_le_cancel hq ?_
  have e1 : hh x p * q.2.2 * r.2.2 = hh x p * r.2.2 * q.2.2 := by rw [Int.mul_right_comm]
  have e2 : hh x q * p.2.2 * r.2.2 = hh x q * r.2.2 * p.2.2 := by rw [Int.mul_right_comm]
  have e3 : hh x r * q.2.2 * p.2.2 = hh x r * p.2.2 * q.2.2 := by rw [Int.mul_right_comm]
  omega
theorem Lo.refl (x : Int) (p : L3) : Lo x p p := Int.le_refl _
theorem Lo.vl {x : Int} {p q : L3} (hp : 0 < p.2.2) (hq : 0 < q.2.2) (h : Lo x p q) : vl x p ≤ vl x q := by
  unfold Lo at h
  unfold Z.vl
  refine Int.le_ediv_of_mul_le hq (mul_le_cancel hp ?_)
  have h1 := Int.mul_le_mul_of_nonneg_right (Int.ediv_mul_le (p.1 * x + p.2.1) (show p.2.2 ≠ 0 by omega)) (show 0 ≤ q.2.2 by omega)
  have e : (p.1 * x + p.2.1) / p.2.2 * q.2.2 * p.2.2 = (p.1 * x + p.2.1) / p.2.2 * p.2.2 * q.2.2 := by rw [Int.mul_right_comm]
  unfold hh at h
  omega
theorem mnL_eq {x : Int} {p : L3} {ls : List L3} (hm : ∀ q ∈ ls, 0 < q.2.2) (hp : p ∈ ls) (h : ∀ q ∈ ls, Lo x p q) : mnL x ls = vl x p := by
  refine (mn_uniq (List.mem_map.mpr ⟨p, hp, rfl⟩) fun y hy => ?_).symm
  obtain ⟨q, hq, rfl⟩ := List.mem_map.mp hy
  exact (h q hq).vl (hm p hp) (hm q hq)
/-! cuts -/
def st (p q : L3) : Int := p.1 * q.2.2 - q.1 * p.2.2
def pl (p q : L3) : Int := (q.2.1 * p.2.2 - p.2.1 * q.2.2) / st p q
theorem Lo_iff (x : Int) (p q : L3) : Lo x p q ↔ st p q * x ≤ q.2.1 * p.2.2 - p.2.1 * q.2.2 := by
  unfold Lo hh st
  have e1 : (p.1 * x + p.2.1) * q.2.2 = p.1 * q.2.2 * x + p.2.1 * q.2.2 := by rw [Int.add_mul, Int.mul_right_comm]
  have e2 : (q.1 * x + q.2.1) * p.2.2 = q.1 * p.2.2 * x + q.2.1 * p.2.2 := by rw [Int.add_mul, Int.mul_right_comm]
  rw [e1, e2, Int.sub_mul]
  omega
/-- the cuts of lines between lo and hi -/
structure Cuts (ls : List L3) (lo hi : Int) (cs : List Int) : Prop where
  up : cs.Pairwise (· < ·)
  cl : lo ∈ cs
  ch : hi ∈ cs
  wi : ∀ c ∈ cs, lo ≤ c ∧ c ≤ hi
  cr : ∀ p ∈ ls, ∀ q ∈ ls, 0 < st p q → ∀ c, (c = pl p q ∨ c = pl p q + 1) → lo < c → c < hi → c ∈ cs
/-- s and e are neighbours among the cuts -/
structure Nb (ls : List L3) (s e : Int) : Prop where
  cr : ∀ p ∈ ls, ∀ q ∈ ls, 0 < st p q → ∀ c, (c = pl p q ∨ c = pl p q + 1) → ¬ (s < c ∧ c < e)
theorem Nb.stay {ls : List L3} {s e x : Int} {p q : L3} (h : Nb ls s e) (hp : p ∈ ls) (hq : q ∈ ls) (sx : s ≤ x) (xe : x < e) (l : Lo s p q) : Lo x p q := by
  rw [Lo_iff] at *
  by_cases c : 0 < st p q
  · have h1 : s ≤ pl p q := Int.le_ediv_of_mul_le c (by rw [Int.mul_comm]; exact l)
    by_cases k : x ≤ pl p q
    · have h2 := Int.mul_le_mul_of_nonneg_left k (show 0 ≤ st p q by omega)
      have h3 := Int.mul_ediv_self_le (x := q.2.1 * p.2.2 - p.2.1 * q.2.2) (show st p q ≠ 0 by omega)
      exact Int.le_trans h2 h3
    · exact absurd ⟨show s < pl p q + 1 by omega, by omega⟩ (h.cr p hp q hq c _ (.inr rfl))
  · have h1 := Int.mul_le_mul_of_nonpos_left (show st p q ≤ 0 by omega) sx
    omega
theorem Nb.stay2 {ls : List L3} {s e x : Int} {p q : L3} (h : Nb ls s e) (hp : p ∈ ls) (hq : q ∈ ls) (sx : s ≤ x) (xe : x < e) (l : ¬ Lo s q p) (hpm : 0 < p.2.2) (hqm : 0 < q.2.2) : ¬ Lo x q p := by
  have fl : ∀ y, Lo y q p ↔ q.2.1 * p.2.2 - p.2.1 * q.2.2 ≤ st p q * y := fun y => by
    rw [Lo_iff]
    have : st q p = - st p q := by unfold st; omega
    rw [this, Int.neg_mul]
    omega
  rw [fl] at *
  by_cases c : 0 < st p q
  · have h3 := Int.mul_ediv_self_le (x := q.2.1 * p.2.2 - p.2.1 * q.2.2) (show st p q ≠ 0 by omega)
    have e1 : (q.2.1 * p.2.2 - p.2.1 * q.2.2) / st p q = pl p q := rfl
    rw [e1] at h3
    have h1 : s ≤ pl p q := Int.le_ediv_of_mul_le c (by rw [Int.mul_comm]; omega)
    intro l2
    rcases Int.lt_or_le s x with hs | hs
    · have n1 := h.cr p hp q hq c (pl p q) (.inl rfl)
      have n2 := h.cr p hp q hq c (pl p q + 1) (.inr rfl)
      have hx : x ≤ pl p q - 1 := by omega
      have h2 := Int.mul_le_mul_of_nonneg_left hx (show 0 ≤ st p q by omega)
      rw [Int.mul_sub, Int.mul_one] at h2
      omega
    · have : x = s := by omega
      subst this
      exact l l2
  · have h1 := Int.mul_le_mul_of_nonpos_left (show st p q ≤ 0 by omega) sx
    omega
section
variable {ab be : List L3} {s e x : Int} {p b : L3}
theorem room_at (hm : ∀ q ∈ ab ++ be, 0 < q.2.2) (h : Nb (ab ++ be) s e) (hp : p ∈ ab) (hb : b ∈ be) (lp : ∀ q ∈ ab, Lo s p q) (lb : ∀ q ∈ be, Lo s q b) (sx : s ≤ x) (xe : x < e) :
    room ab be x = if Lo s b p then vl x p + vl x (dnP b) + 1 else 0 := by
  have pa : ∀ {q}, q ∈ ab → q ∈ ab ++ be := fun h => List.mem_append.mpr (.inl h)
  have pb : ∀ {q}, q ∈ be → q ∈ ab ++ be := fun h => List.mem_append.mpr (.inr h)
  have m1 := hm p (pa hp)
  have m2 := hm b (pb hb)
  have e1 : mnL x ab = vl x p := mnL_eq (fun q hq => hm q (pa hq)) hp fun q hq => h.stay (pa hp) (pa hq) sx xe (lp q hq)
  have e2 : mnL x (be.map dnP) = vl x (dnP b) := mnL_eq (fun q hq => by
    obtain ⟨r, hr, rfl⟩ := List.mem_map.mp hq
    exact hm r (pb hr)) (List.mem_map.mpr ⟨b, hb, rfl⟩) fun q hq => by
    obtain ⟨r, hr, rfl⟩ := List.mem_map.mp hq
    have := h.stay (pb hr) (pb hb) sx xe (lb r hr)
    unfold Lo at *
    rw [hh_dn, hh_dn]
    show (0 - hh x b) * r.2.2 ≤ (0 - hh x r) * b.2.2
    rw [Int.sub_mul, Int.sub_mul]
    omega
  unfold room
  rw [e1, e2]
  have d1 := Int.mul_ediv_add_emod (hh x p) p.2.2
  have d2 := Int.mul_ediv_add_emod (hh x (dnP b)) b.2.2
  have r1 := Int.emod_nonneg (hh x p) (show p.2.2 ≠ 0 by omega)
  have r2 := Int.emod_lt_of_pos (hh x p) m1
  have r3 := Int.emod_nonneg (hh x (dnP b)) (show b.2.2 ≠ 0 by omega)
  have r4 := Int.emod_lt_of_pos (hh x (dnP b)) m2
  have v1 : hh x p / p.2.2 = vl x p := rfl
  have v2 : hh x (dnP b) / b.2.2 = vl x (dnP b) := rfl
  rw [v1] at d1
  rw [v2] at d2
  have hpos : 0 < p.2.2 * b.2.2 := Int.mul_pos m1 m2
  have hd := hh_dn x b
  -- (hp) * bm and (-hb) * pm
  have k1 : p.2.2 * vl x p * b.2.2 ≤ hh x p * b.2.2 := Int.mul_le_mul_of_nonneg_right (by omega) (by omega)
  have k2 : b.2.2 * vl x (dnP b) * p.2.2 ≤ hh x (dnP b) * p.2.2 := Int.mul_le_mul_of_nonneg_right (by omega) (by omega)
  have k3 : hh x p * b.2.2 < (p.2.2 * vl x p + p.2.2) * b.2.2 := Int.mul_lt_mul_of_pos_right (by omega) m2
  have k4 : hh x (dnP b) * p.2.2 < (b.2.2 * vl x (dnP b) + b.2.2) * p.2.2 := Int.mul_lt_mul_of_pos_right (by omega) m1
  have g1 : p.2.2 * vl x p * b.2.2 = p.2.2 * b.2.2 * vl x p := by rw [Int.mul_right_comm]
  have g2 : b.2.2 * vl x (dnP b) * p.2.2 = p.2.2 * b.2.2 * vl x (dnP b) := by rw [Int.mul_right_comm, Int.mul_comm b.2.2 p.2.2]
  have g3 : (p.2.2 * vl x p + p.2.2) * b.2.2 = p.2.2 * b.2.2 * vl x p + p.2.2 * b.2.2 := by rw [Int.add_mul, g1]
  have g4 : (b.2.2 * vl x (dnP b) + b.2.2) * p.2.2 = p.2.2 * b.2.2 * vl x (dnP b) + p.2.2 * b.2.2 := by rw [Int.add_mul, g2, Int.mul_comm b.2.2 p.2.2]
  have g5 : hh x (dnP b) * p.2.2 = 0 - hh x b * p.2.2 := by rw [hd, Int.sub_mul, Int.zero_mul]
  by_cases c : Lo s b p
  · rw [if_pos c]
    have l := h.stay (pb hb) (pa hp) sx xe c
    unfold Lo at l
    have : 0 < p.2.2 * b.2.2 * (vl x p + vl x (dnP b) + 2) := by
      rw [Int.mul_add, Int.mul_add]; omega
    have := Int.pos_of_mul_pos_right this hpos
    omega
  · rw [if_neg c]
    have l := h.stay2 (pa hp) (pb hb) sx xe c m1 m2
    unfold Lo at l
    have : p.2.2 * b.2.2 * (vl x p + vl x (dnP b)) < 0 := by
      rw [Int.mul_add]; omega
    have : vl x p + vl x (dnP b) < 0 := by
      rcases Int.lt_or_le (vl x p + vl x (dnP b)) 0 with k | k
      · exact k
      · have := Int.mul_nonneg (show 0 ≤ p.2.2 * b.2.2 by omega) k
        omega
    omega
theorem FS_vl (p : L3) (s : Int) (n : Nat) : FS p.1 (p.1 * s + p.2.1) p.2.2 n = sumZ (fun i => vl (s + (i : Int)) p) n := by
  unfold FS vl
  refine sumZ_congr n fun i _ => ?_
  congr 1
  rw [Int.mul_add]; omega
/-- the points between neighbouring cuts -/
theorem pts_stretch (hm : ∀ q ∈ ab ++ be, 0 < q.2.2) (h : Nb (ab ++ be) s e) (hp : p ∈ ab) (hb : b ∈ be) (lp : ∀ q ∈ ab, Lo s p q) (lb : ∀ q ∈ be, Lo s q b) (se : s ≤ e) :
    pts ab be s (e - s).toNat = if Lo s b p then FS p.1 (p.1 * s + p.2.1) p.2.2 (e - s).toNat + FS (dnP b).1 ((dnP b).1 * s + (dnP b).2.1) (dnP b).2.2 (e - s).toNat + e - s else 0 := by
  have hr : ∀ i : Nat, i < (e - s).toNat → room ab be (s + (i : Int)) = if Lo s b p then vl (s + (i : Int)) p + vl (s + (i : Int)) (dnP b) + 1 else 0 := fun i hi => room_at hm h hp hb lp lb (by omega) (by omega)
  unfold pts
  rw [sumZ_congr _ hr]
  by_cases c : Lo s b p
  · simp only [if_pos c]
    rw [FS_vl, FS_vl, sumZ_add, sumZ_add, sumZ_const]
    omega
  · simp only [if_neg c]
    rw [sumZ_const]; omega
end
theorem pts_go (ab be : List L3) {lo s e : Int} (h1 : lo ≤ s) (h2 : s ≤ e) : pts ab be lo (e - lo).toNat = pts ab be lo (s - lo).toNat + pts ab be s (e - s).toNat := by
  unfold pts
  rw [show (e - lo).toNat = (s - lo).toNat + (e - s).toNat by omega, sumZ_split]
  congr 1
  refine sumZ_congr _ fun i _ => ?_
  congr 1
  omega
/-- neighbouring cuts -/
theorem Cuts.nb {ls : List L3} {lo hi : Int} {cs : List Int} (h : Cuts ls lo hi cs) {i : Nat} {s e : Int} (h1 : cs[i]? = some s) (h2 : cs[i + 1]? = some e) : s < e ∧ lo ≤ s ∧ e ≤ hi ∧ Nb ls s e := by
  obtain ⟨l1, rfl⟩ := List.getElem?_eq_some_iff.mp h1
  obtain ⟨l2, rfl⟩ := List.getElem?_eq_some_iff.mp h2
  have pw := List.pairwise_iff_getElem.mp h.up
  have w1 := h.wi _ (List.getElem_mem l1)
  have w2 := h.wi _ (List.getElem_mem l2)
  refine ⟨pw i (i + 1) l1 l2 (by omega), w1.1, w2.2, ⟨fun p hp q hq c x hx hc => ?_⟩⟩
  have hm := h.cr p hp q hq c x hx (by omega) (by omega)
  obtain ⟨j, hj, e⟩ := List.getElem_of_mem hm
  rcases Nat.lt_trichotomy j i with k | k | k
  · have := pw j i hj l1 k; omega
  · subst k; omega
  · rcases Nat.lt_or_ge (i + 1) j with k2 | k2
    · have := pw (i + 1) j l2 hj k2; omega
    · have : j = i + 1 := by omega
      subst this; omega
theorem Cuts.head {ls : List L3} {lo hi : Int} {cs : List Int} (h : Cuts ls lo hi cs) : cs[0]? = some lo := by
  obtain ⟨j, hj, e⟩ := List.getElem_of_mem h.cl
  have l0 : 0 < cs.length := by omega
  rw [List.getElem?_eq_getElem l0]
  rcases Nat.eq_zero_or_pos j with k | k
  · subst k; rw [e]
  · have := List.pairwise_iff_getElem.mp h.up 0 j l0 hj k
    have := (h.wi _ (List.getElem_mem l0)).1
    omega
theorem Cuts.last {ls : List L3} {lo hi : Int} {cs : List Int} (h : Cuts ls lo hi cs) : cs[cs.length - 1]? = some hi := by
  obtain ⟨j, hj, e⟩ := List.getElem_of_mem h.ch
  have l0 : cs.length - 1 < cs.length := by omega
  rw [List.getElem?_eq_getElem l0]
  rcases Nat.lt_or_ge j (cs.length - 1) with k | k
  · have := List.pairwise_iff_getElem.mp h.up j _ hj l0 k
    have := (h.wi _ (List.getElem_mem l0)).2
    omega
  · have : j = cs.length - 1 := by omega
    subst this; rw [e]
/-! how many cuts -/
def cS (p : L3) (ls : List L3) : Nat := (ls.filter fun q => decide (0 < st p q)).length
def cT (ks ls : List L3) : Nat := (ks.map fun p => cS p ls).sum
theorem st_flip (p q : L3) : st q p = - st p q := by unfold st; omega
theorem st_self (p : L3) : st p p = 0 := by unfold st; omega
theorem cS_cons (p x : L3) (r : List L3) : cS p (x :: r) = (if 0 < st p x then 1 else 0) + cS p r := by
  unfold cS
  rw [List.filter_cons]
  by_cases h : 0 < st p x
  · rw [if_pos (decide_eq_true h), if_pos h, List.length_cons]; omega
  · rw [if_neg (by simpa using h), if_neg h]; omega
theorem cT_cons (x : L3) (ls : List L3) : ∀ ks : List L3, cT ks (x :: ls) = (ks.map fun p => if 0 < st p x then 1 else 0).sum + cT ks ls
  | [] => rfl
  | p :: ks => by
    have ih := cT_cons x ls ks
    unfold cT at *
    rw [List.map_cons, List.sum_cons, List.map_cons, List.sum_cons, List.map_cons, List.sum_cons, cS_cons, ih]; omega
theorem cS_both (x : L3) : ∀ ls : List L3, cS x ls + (ls.map fun p => if 0 < st p x then 1 else 0).sum ≤ ls.length
  | [] => Nat.le_refl _
  | p :: ls => by
    have ih := cS_both x ls
    rw [cS_cons, List.map_cons, List.sum_cons, List.length_cons, st_flip p x]
    have := st_flip x p
    split <;> split <;> omega
theorem cT_le : ∀ ls : List L3, 2 * cT ls ls + ls.length ≤ ls.length * ls.length
  | [] => Nat.le_refl _
  | x :: r => by
    have ih := cT_le r
    have e : cT (x :: r) (x :: r) = cS x (x :: r) + cT r (x :: r) := by unfold cT; rw [List.map_cons, List.sum_cons]
    have b := cS_both x r
    rw [e, cS_cons, st_self, if_neg (by decide), cT_cons, List.length_cons]
    have : (r.length + 1) * (r.length + 1) = r.length * r.length + 2 * r.length + 1 := by rw [Nat.add_mul, Nat.mul_add]; omega
    omega
theorem cT_8 {ls : List L3} (h : ls.length ≤ 8) : cT ls ls ≤ 28 := by
  have := cT_le ls
  have := Nat.mul_le_mul_right ls.length h
  omega
theorem cT_take {ls ks : List L3} {i : Nat} {p : L3} (h : ks[i]? = some p) : cT (ks.take (i + 1)) ls = cT (ks.take i) ls + cS p ls := by
  unfold cT
  rw [List.take_add_one, h, List.map_append, List.sum_append]
  simp
theorem cS_take {p q : L3} {ls : List L3} {j : Nat} (h : ls[j]? = some q) : cS p (ls.take (j + 1)) = cS p (ls.take j) + if 0 < st p q then 1 else 0 := by
  unfold cS
  rw [List.take_add_one, h, List.filter_append, List.length_append]
  congr 1
  show (List.filter _ [q]).length = _
  rw [List.filter_cons]
  by_cases c : 0 < st p q
  · rw [if_pos (decide_eq_true c), if_pos c]; rfl
  · rw [if_neg (by simpa using c), if_neg c]; rfl
theorem cS_take_le (p : L3) (ls : List L3) (j : Nat) : cS p (ls.take j) ≤ cS p ls := by
  unfold cS
  exact ((List.take_sublist j ls).filter _).length_le
theorem cT_take_le (ks ls : List L3) (i : Nat) : cT (ks.take i) ls ≤ cT ks ls := by
  unfold cT
  rw [← List.take_append_drop i ks, List.map_append, List.sum_append]
  simp
end Z

namespace Z
open PySem PySem.Spec PyProof.Rows L2
variable {ω : Type}
/-! ### t[::-1], t a tuple -/
section
variable {prog : Program} {w : World} {A : Around} {E : Value → Shared → Prop} {s : Shared}
theorem applied_rev {sl : Addr} {vl vu vs : Value} {n : Nat} {Q : Int × Int × Nat → Shared → Prop} (hs : s.heap.IsSliceOf sl vl vu vs) (pl : IsPart vl none) (pu : IsPart vu none) (ps : IsPart vs (some (-1)))
    (h : Q ((n : Int) - 1, -1, n) s) : wpAny (model prog w) A (Builtin.Slice.sliceApplied (.ref sl) (pure (n : Int))) Q E s := by
  obtain ⟨os, hos, hcs, hds⟩ := id hs
  unfold Builtin.Slice.sliceApplied Builtin.Slice.sliceFields
  refine wpAny_bind (wpAny_bind (wpAny_field hos hds (x := vl) rfl (wpAny_bind (wpAny_field hos hds (x := vu) rfl (wpAny_bind (wpAny_field hos hds (x := vs) rfl (wpAny_pure ?_)))))))
  refine wpAny_bind (HT.slicePart_ ps ?_)
  show wpAny _ _ (if ((-1 : Int) == 0) = true then _ else _) _ _ s
  rw [if_neg (by decide)]
  refine wpAny_bind (HT.slicePart_ pl (wpAny_bind (HT.slicePart_ pu (wpAny_bind (wpAny_pure ?_)))))
  have e : Builtin.Slice.sliceAdjust none none (-1) (n : Int) = ((n : Int) - 1, -1) := rfl
  have e2 : Builtin.Slice.slicePlaces ((n : Int) - 1) (-1) (-1) = n := by
    show (if (n : Int) - 1 > -1 then ((n : Int) - 1 - -1 - 1) / 1 + 1 else 0).toNat = n
    rw [Int.ediv_one]
    split <;> omega
  show wpAny _ _ (match Builtin.Slice.sliceAdjust none none (-1) (n : Int) with | (lo, hi) => pure (lo, (-1 : Int), Builtin.Slice.slicePlaces lo hi (-1))) _ _ s
  rw [e]
  show wpAny _ _ (pure ((n : Int) - 1, (-1 : Int), Builtin.Slice.slicePlaces ((n : Int) - 1) (-1) (-1))) _ _ s
  rw [e2]
  exact wpAny_pure h
theorem fm_congr {α β : Type} {f g : α → Option β} : ∀ {l : List α}, (∀ x ∈ l, f x = g x) → l.filterMap f = l.filterMap g
  | [], _ => rfl
  | a :: l, h => by
    rw [List.filterMap_cons, List.filterMap_cons, h a List.mem_cons_self, fm_congr fun x hx => h x (List.mem_cons_of_mem _ hx)]
theorem pick_back (xs : Array Value) : ((List.range xs.size).filterMap fun (m : Nat) => xs[((xs.size : Int) - 1 + (m : Int) * (-1)).toNat]?).toArray = xs.toList.reverse.toArray := by
  have e : (List.range xs.size).filterMap (fun (m : Nat) => xs[((xs.size : Int) - 1 + (m : Int) * (-1)).toNat]?) = (List.range xs.size).filterMap (fun m => xs.reverse[0 + m]?) := by
    refine fm_congr fun m hm => ?_
    have hl := List.mem_range.mp hm
    rw [Nat.zero_add, Array.getElem?_reverse hl]
    congr 1
    omega
  have h := HT.pick_gen xs.reverse 0 xs.size
  have e2 : (fun (m : Nat) => xs.reverse[((0 : Nat) : Int).toNat + m]?) = fun m => xs.reverse[0 + m]? := rfl
  have e3 : (fun (m : Nat) => xs.reverse[(((0 : Nat) : Int) + (m : Int) * 1).toNat]?) = fun m => xs.reverse[0 + m]? := by
    funext m
    have : ((((0 : Nat) : Int) + (m : Int) * 1).toNat) = 0 + m := by omega
    rw [this]
  rw [e3] at h
  rw [e, h, List.drop_zero, Array.toList_reverse]
  congr 1
  exact List.take_of_length_le (by rw [List.length_reverse, Array.length_toList]; exact Nat.le_refl _)
theorem getItem_back {t sl : Addr} {items : Array Value} {vl vu vs : Value} {Q : Value → Shared → Prop} (ht : IsTup s.heap t items) (hs : s.heap.IsSliceOf sl vl vu vs) (pl : IsPart vl none) (pu : IsPart vu none) (ps : IsPart vs (some (-1)))
    (h : Q (.ref s.heap.objs.size) { s with heap := s.heap.push { cls := .type "tuple", data := .seq items.toList.reverse.toArray } }) (hsz : items.size ≤ sizeLine) : wpAny (model prog w) A (getItem (.ref t) (.ref sl)) Q E s := by
  have hk : sizeOk (.seq items.toList.reverse.toArray) := by
    show items.toList.reverse.toArray.size ≤ sizeLine
    rw [List.size_toArray, List.length_reverse, Array.length_toList]; exact hsz
  obtain ⟨os, hos, hcs, hds⟩ := id hs
  have hTs : s.TypeIs (.ref sl) "slice" := ⟨os, hos, hcs⟩
  unfold getItem
  try with_reducible refine wpAny_holding ?_
  first | refine wpAny_bind (wpAny_pure ?_) | skip
  refine wpAny_bind (wpAny_sequenceKey ht.typeIs (by decide) ?_)
  refine wpAny_bind (wpAny_callSpecial?_slot (name := Str.ofString "__getitem__") ht.typeIs PyProof.Rows.slot_tuple_getitem
    (wpAny_call_entry PyProof.Rows.slot_tuple_getitem ht.typeIs entry_tuple_getitem ?_ (args_tuple_getitem _ _)))
  show wpAny _ _ (Builtin.Tuple.tupleItemsOf (.ref t) >>= _) _ _ s
  refine wpAny_bind (tupleItemsOf_ ht ?_)
  refine wpAny_bind (wpAny_typeOf hTs ?_)
  rw [if_pos (by decide)]
  refine wpAny_bind (applied_rev hs pl pu ps ?_)
  have hno : ¬ (((items.size : Int) - 1 == 0 && (-1 : Int) == 1 && items.size == items.size) = true) := by
    intro q
    rw [Bool.and_eq_true, Bool.and_eq_true] at q
    exact absurd (eq_of_beq q.1.2) (by decide)
  show wpAny _ _ (if ((items.size : Int) - 1 == 0 && (-1 : Int) == 1 && items.size == items.size) = true then _ else _) _ _ s
  rw [if_neg hno, pick_back]
  first
    | exact wpAny_bind (m := Builtin.Tuple.tupleExact _) (wpAny_newObj_type (wpAny_pure ⟨_, rfl, wpAny_pure h⟩) hk)
    | exact wpAny_bind (m := Builtin.Tuple.tupleExact _) (wpAny_newObj_type (wpAny_bind (wpAny_pure (wpAny_pure ⟨_, rfl, wpAny_pure h⟩))) hk)
    | exact wpAny_bind (wpAny_bind (m := Builtin.Tuple.tupleExact _) (wpAny_newObj_type (wpAny_pure (wpAny_pure ⟨_, rfl, wpAny_pure h⟩)) hk))
    | exact wpAny_bind (wpAny_bind (m := Builtin.Tuple.tupleExact _) (wpAny_newObj_type (wpAny_pure ⟨_, rfl, wpAny_pure h⟩) hk))
end
section
variable {X : Cx} {W : Wp ω} {pos : Pos} {e : Expr} {te : TE} {tz : TEZ ω}
def tRevTu (K : PySem.W.Frag) (te : TE) : TE := fun σ H Q => te σ H fun x H1 => ∃ a xs, x = .ref a ∧ SqT K H1 a xs ∧ ∀ p, H1 p = none → Q (.ref p) (upd H1 p (.tup xs.reverse))
theorem pe_revTu {k : Nat} {p1 p2 p3 : Pos} (he : PE X e te) : PE X (.Subscript e (.Slice none none (some (.UnaryOp .USub (.Constant (.int 1) k p1) p2)) p3) pos) (tRevTu X.K te) := by
  refine ⟨fun pins s σ H Q I h => ?_⟩
  refine Subscript_ (thn (he.run pins s σ H _ I h) fun v s1 ⟨x, H1, I1, r1, a, xs, ex, hx, q⟩ => ?_)
  subst ex
  cases r1
  refine wpAny_Slice (thn (po_none.run pins s1 σ H1 (fun o H2 => o = none ∧ H2 = H1) I1 ⟨rfl, rfl⟩) fun vl s2 ⟨l, H2, I2, pl, el, e2⟩ => ?_)
  subst el e2
  refine thn (po_none.run pins s2 σ H2 (fun o H3 => o = none ∧ H3 = H2) I2 ⟨rfl, rfl⟩) fun vu s3 ⟨u, H3, I3, pu, eu, e3⟩ => ?_
  subst eu e3
  refine thn ((po_some (pe_un un_neg pe_int)).run pins s3 σ H3 (fun o H4 => o = some (-1) ∧ H4 = H3) I3 ⟨1, rfl, -1, rfl, rfl, rfl⟩) fun vs s4 ⟨o, H4, I4, ps, eo, e4⟩ => ?_
  subst eo e4
  have I5 : Inv X pins σ H4 { s4 with heap := s4.heap.push { cls := .type "slice", data := .fields #[vl, vu, vs] } } := I4.kept (t' := s4.toks) fun b ob q => Heap.get?_push_of_some _ q
  obtain ⟨its, r, ht, hz⟩ := I5.tuple hx
  have hlen := r.length
  show wpAny (model X.prog X.w) X.A (subscriptTail e (.Slice none none (some (.UnaryOp .USub (.Constant (.int 1) k p1) p2)) p3) (.ref a) (.ref s4.heap.objs.size)) (EP X pins σ Q) X.xe { s4 with heap := s4.heap.push { cls := .type "slice", data := .fields #[vl, vu, vs] } }
  refine tail_any (ops := [.ref a, .ref s4.heap.objs.size]) ht.typeIs (PyProof.Rows.slot_tuple_getitem.lookup) ?_ (by with_unfolding_all rfl)
  refine getItem_back ht (Heap.IsSliceOf.new _ vl vu vs) pl pu ps ?_ (by rw [List.size_toArray]; omega)
  refine ⟨.ref _, _, I5.laid (t' := s4.toks) (o := .tup xs.reverse) (fun b ob q => Heap.get?_push_of_some _ q) (Nat.le_refl _) ?_, rfl, q _ (I5.hok.fresh (Nat.le_refl _))⟩
  exact ⟨by rw [List.length_reverse]; exact hz, _, r.reverse, IsTup.new _ _⟩
def zRevTu (te : TEZ ω) : TEZ ω := fun δ w Q E => te δ w (fun d w1 => match d with | .tup l => Q (.tup l.reverse) w1 | _ => False) E
theorem z_revTu {k : Nat} {p1 p2 p3 : Pos} (he : PEZ X W e tz) : PEZ X W (.Subscript e (.Slice none none (some (.UnaryOp .USub (.Constant (.int 1) k p1) p2)) p3) pos) (zRevTu tz) :=
  ⟨fun k h => he.mo (fun d w1 h1 => by
    split at h1
    · exact k _ _ h1
    · exact h1.elim) h, fun Z ex tk => peI (pe_revTu (he.run Z ex tk)) fun σ H Q ⟨G, M, δ, w, a, h⟩ =>
    ⟨G, M, δ, w, a, he.mo (fun d w1 h1 v H1 G1 M1 o1 r1 => by
      cases d with
      | tup l =>
        cases r1 with
        | @tup p vs _ s r =>
          exact ⟨p, vs, rfl, sqTE o1.pt.gh s, fun p' hp => h1 (.ref p') _ _ _ (o1.new hp) (.tup (SqT.of upd_same) (r.rev.up (o1.ext hp)))⟩
      | _ => exact h1.elim) h⟩⟩
end
end Z

namespace Z
/-! ### the same points, told otherwise -/
theorem mn_add (c : Int) : ∀ l : List Int, l ≠ [] → mn (l.map (· + c)) = mn l + c
  | [], h => absurd rfl h
  | [a], _ => rfl
  | a :: b :: l, _ => by
    have ih := mn_add c (b :: l) (by simp)
    show min (a + c) (mn ((b :: l).map (· + c))) = min a (mn (b :: l)) + c
    rw [ih]; omega
theorem mn_set {l k : List Int} (hl : l ≠ []) (h : ∀ y, y ∈ l ↔ y ∈ k) : mn k = mn l := by
  obtain ⟨a, b⟩ := mn_spec l hl
  exact (mn_uniq ((h _).mp a) fun y hy => b y ((h y).mpr hy)).symm
theorem mnL_set {x : Int} {l k : List L3} (hl : l ≠ []) (h : ∀ p, p ∈ l ↔ p ∈ k) : mnL x k = mnL x l := by
  unfold mnL
  refine mn_set (by simpa using hl) fun y => ?_
  rw [List.mem_map, List.mem_map]
  exact ⟨fun ⟨p, a, b⟩ => ⟨p, (h p).mp a, b⟩, fun ⟨p, a, b⟩ => ⟨p, (h p).mpr a, b⟩⟩
theorem mnL_shift {x y c : Int} {f : L3 → L3} {ls : List L3} (hl : ls ≠ []) (h : ∀ p ∈ ls, vl x (f p) = vl y p + c) : mnL x (ls.map f) = mnL y ls + c := by
  unfold mnL
  rw [← mn_add c _ (by simpa using hl), List.map_map, List.map_map]
  congr 1
  exact List.map_congr_left fun p hp => h p hp
theorem mnL_same {x y : Int} {f : L3 → L3} {ls : List L3} (h : ∀ p ∈ ls, vl x (f p) = vl y p) : mnL x (ls.map f) = mnL y ls := by
  unfold mnL
  rw [List.map_map]
  congr 1
  exact List.map_congr_left fun p hp => h p hp
def mvP (s c d : Int) (p : L3) : L3 := (p.1 + s * p.2.2, p.2.1 + c * p.2.2 - (p.1 + s * p.2.2) * d, p.2.2)
def fcP (f r : Int) (p : L3) : L3 := (p.1 * f, p.2.1 * f + r, p.2.2 * f)
def swP (p : L3) : L3 := (0 - p.1, p.2.1, p.2.2)
theorem vl_mv (x s c d : Int) {p : L3} (hp : 0 < p.2.2) : vl x (mvP s c d p) = vl (x - d) p + (s * (x - d) + c) := by
  unfold vl mvP
  show ((p.1 + s * p.2.2) * x + (p.2.1 + c * p.2.2 - (p.1 + s * p.2.2) * d)) / p.2.2 = _
  rw [show (p.1 + s * p.2.2) * x + (p.2.1 + c * p.2.2 - (p.1 + s * p.2.2) * d) = (p.1 * (x - d) + p.2.1) + p.2.2 * (s * (x - d) + c) by grind, Int.add_mul_ediv_left _ _ (by omega)]
theorem vl_mvd (x s c d : Int) {p : L3} (hp : 0 < p.2.2) : vl x (dnP (mvP s c d p)) = vl (x - d) (dnP p) + (0 - (s * (x - d) + c)) := by
  rw [vl_dn, vl_dn]
  unfold mvP
  show (0 - (p.1 + s * p.2.2) * x - (p.2.1 + c * p.2.2 - (p.1 + s * p.2.2) * d)) / p.2.2 = _
  rw [show 0 - (p.1 + s * p.2.2) * x - (p.2.1 + c * p.2.2 - (p.1 + s * p.2.2) * d) = (0 - p.1 * (x - d) - p.2.1) + p.2.2 * (0 - (s * (x - d) + c)) by grind, Int.add_mul_ediv_left _ _ (by omega)]
section
variable {ab be : List L3} (ha : ab ≠ []) (hb : be ≠ []) (hm : ∀ p ∈ ab ++ be, 0 < p.2.2)
include ha hb hm
theorem room_mv (s c d x : Int) : room (ab.map (mvP s c d)) (be.map (mvP s c d)) x = room ab be (x - d) := by
  unfold room
  rw [mnL_shift ha fun p hp => vl_mv x s c d (hm p (List.mem_append.mpr (.inl hp)))]
  have e : mnL x ((be.map (mvP s c d)).map dnP) = mnL (x - d) (be.map dnP) + (0 - (s * (x - d) + c)) := by
    rw [List.map_map]
    have h1 := mnL_shift (x := x) (y := x - d) (c := 0 - (s * (x - d) + c)) (f := fun p => dnP (mvP s c d (dnP p))) (ls := be.map dnP) (by simpa using hb) fun p hp => by
      obtain ⟨q, hq, rfl⟩ := List.mem_map.mp hp
      have e : dnP (dnP q) = q := by unfold dnP; simp
      rw [e]
      exact vl_mvd x s c d (hm q (List.mem_append.mpr (.inr hq)))
    rw [← h1, List.map_map]
    congr 1
    refine List.map_congr_left fun p hp => ?_
    show dnP (mvP s c d p) = dnP (mvP s c d (dnP (dnP p)))
    have e : dnP (dnP p) = p := by unfold dnP; simp
    rw [e]
  rw [e]
  congr 1
  omega
theorem pts_mv (s c d lo : Int) (n : Nat) : pts (ab.map (mvP s c d)) (be.map (mvP s c d)) (lo + d) n = pts ab be lo n := by
  unfold pts
  refine sumZ_congr n fun i _ => ?_
  rw [room_mv ha hb hm]
  congr 1
  omega
theorem dn_dn (p : L3) : dnP (dnP p) = p := by unfold dnP; simp
omit ha hb hm in
theorem dn_dn' (p : L3) : dnP (dnP p) = p := by unfold dnP; simp
theorem room_fc {f r : Int} (hr : 0 ≤ r) (hf : r < f) (x : Int) : room (ab.map (fcP f r)) (be.map (fcP f (0 - r))) x = room ab be x := by
  have q : ∀ X m : Int, 0 < m → (X * f + r) / (m * f) = X / m := fun X m h => by
    have d := Int.mul_ediv_add_emod X m
    have t0 := Int.emod_nonneg X (show m ≠ 0 by omega)
    have t1 := Int.emod_lt_of_pos X h
    have hf0 : 0 < f := by omega
    have e : X * f + r = (X % m * f + r) + m * f * (X / m) := by
      have e1 : X * f = (m * (X / m) + X % m) * f := by rw [d]
      rw [e1, Int.add_mul]
      have e2 : m * (X / m) * f = m * f * (X / m) := by rw [Int.mul_right_comm]
      omega
    have l0 : 0 ≤ X % m * f := Int.mul_nonneg t0 (by omega)
    have l1 : X % m * f ≤ (m - 1) * f := Int.mul_le_mul_of_nonneg_right (by omega) (by omega)
    rw [Int.sub_mul, Int.one_mul] at l1
    have hmf : 0 < m * f := Int.mul_pos h hf0
    rw [e, Int.add_mul_ediv_left _ _ (by omega), Int.ediv_eq_zero_of_lt (by omega) (by omega), Int.zero_add]
  unfold room
  rw [mnL_same (y := x) fun p hp => by
    unfold vl fcP
    show (p.1 * f * x + (p.2.1 * f + r)) / (p.2.2 * f) = _
    rw [show p.1 * f * x + (p.2.1 * f + r) = (p.1 * x + p.2.1) * f + r by grind, q _ _ (hm p (List.mem_append.mpr (.inl hp)))]]
  have e : mnL x ((be.map (fcP f (0 - r))).map dnP) = mnL x (be.map dnP) := by
    unfold mnL
    rw [List.map_map, List.map_map, List.map_map]
    congr 1
    refine List.map_congr_left fun p hp => ?_
    show vl x (dnP (fcP f (0 - r) p)) = vl x (dnP p)
    rw [vl_dn, vl_dn]
    unfold fcP
    show (0 - p.1 * f * x - (p.2.1 * f + (0 - r))) / (p.2.2 * f) = _
    rw [show 0 - p.1 * f * x - (p.2.1 * f + (0 - r)) = (0 - p.1 * x - p.2.1) * f + r by grind, q _ _ (hm p (List.mem_append.mpr (.inr hp)))]
  rw [e]
theorem pts_fc {f r : Int} (hr : 0 ≤ r) (hf : r < f) (lo : Int) (n : Nat) : pts (ab.map (fcP f r)) (be.map (fcP f (0 - r))) lo n = pts ab be lo n :=
  sumZ_congr n fun i _ => room_fc ha hb hm hr hf _
omit ha hb hm in
theorem room_sw (x : Int) : room (ab.map swP) (be.map swP) x = room ab be (0 - x) := by
  unfold room
  have e1 : mnL x (ab.map swP) = mnL (0 - x) ab := mnL_same fun p _ => by
    unfold vl swP
    show ((0 - p.1) * x + p.2.1) / p.2.2 = _
    rw [show (0 - p.1) * x + p.2.1 = p.1 * (0 - x) + p.2.1 by grind]
  have e2 : mnL x ((be.map swP).map dnP) = mnL (0 - x) (be.map dnP) := by
    unfold mnL
    rw [List.map_map, List.map_map, List.map_map]
    congr 1
    refine List.map_congr_left fun p _ => ?_
    show vl x (dnP (swP p)) = vl (0 - x) (dnP p)
    rw [vl_dn, vl_dn]
    unfold swP
    show (0 - (0 - p.1) * x - p.2.1) / p.2.2 = _
    rw [show 0 - (0 - p.1) * x - p.2.1 = 0 - p.1 * (0 - x) - p.2.1 by grind]
  rw [e1, e2]
omit ha hb hm in
theorem pts_sw {lo hi : Int} (h : lo ≤ hi) : pts (ab.map swP) (be.map swP) (1 - hi) (1 - lo - (1 - hi)).toNat = pts ab be lo (hi - lo).toNat := by
  unfold pts
  rw [show (1 - lo - (1 - hi)).toNat = (hi - lo).toNat by omega, ← sumZ_rev]
  refine sumZ_congr _ fun i hi' => ?_
  rw [room_sw]
  congr 1
  omega
omit ha hb hm in
theorem pts_dn (lo : Int) (n : Nat) : pts (be.map dnP) (ab.map dnP) lo n = pts ab be lo n := by
  unfold pts
  refine sumZ_congr n fun i _ => ?_
  unfold room
  have e : (ab.map dnP).map dnP = ab := by
    rw [List.map_map]
    have : (dnP ∘ dnP) = id := funext fun p => dn_dn' p
    rw [this, List.map_id]
  rw [e, Int.add_comm (mnL _ (be.map dnP))]
omit ha hb hm in
theorem pts_set {ab2 be2 : List L3} (ha : ab ≠ []) (hb : be ≠ []) (h1 : ∀ p, p ∈ ab ↔ p ∈ ab2) (h2 : ∀ p, p ∈ be ↔ p ∈ be2) (lo : Int) (n : Nat) : pts ab2 be2 lo n = pts ab be lo n := by
  unfold pts
  refine sumZ_congr n fun i _ => ?_
  unfold room
  rw [mnL_set ha h1, mnL_set (l := be.map dnP) (k := be2.map dnP) (by simpa using hb) fun p => by
    rw [List.mem_map, List.mem_map]
    exact ⟨fun ⟨q, a, b⟩ => ⟨q, (h2 q).mp a, b⟩, fun ⟨q, a, b⟩ => ⟨q, (h2 q).mpr a, b⟩⟩]
end
/-! a line far off -/
theorem mn_snoc (a : Int) : ∀ l : List Int, l ≠ [] → mn (l ++ [a]) = min (mn l) a
  | [], h => absurd rfl h
  | [b], _ => rfl
  | b :: c :: l, _ => by
    have ih := mn_snoc a (c :: l) (by simp)
    show min b (mn ((c :: l) ++ [a])) = min (min b (mn (c :: l))) a
    rw [ih]; omega
theorem mn_cons (a : Int) : ∀ l : List Int, l ≠ [] → mn (a :: l) = min a (mn l)
  | [], h => absurd rfl h
  | b :: l, _ => rfl
theorem vl_far (x F : Int) : vl x (0, F, 1) = F := by
  unfold vl
  show (0 * x + F) / 1 = F
  rw [Int.zero_mul, Int.zero_add, Int.ediv_one]
theorem pts_far1 {ab be : List L3} {F lo : Int} {n : Nat} (ha : ab ≠ []) (h : ∀ i : Nat, i < n → mnL (lo + (i : Int)) ab ≤ F) : pts (ab ++ [(0, F, 1)]) be lo n = pts ab be lo n := by
  unfold pts
  refine sumZ_congr n fun i hi => ?_
  have e : mnL (lo + (i : Int)) (ab ++ [(0, F, 1)]) = mnL (lo + (i : Int)) ab := by
    have := h i hi
    unfold mnL at *
    rw [List.map_append]
    show mn (_ ++ [vl _ (0, F, 1)]) = _
    rw [mn_snoc _ _ (by simpa using ha), vl_far]; omega
  unfold room
  rw [e]
theorem pts_far2 {ab be : List L3} {F lo : Int} {n : Nat} (hb : be ≠ []) (h : ∀ i : Nat, i < n → mnL (lo + (i : Int)) (be.map dnP) ≤ F) : pts ab ((0, 0 - F, 1) :: be) lo n = pts ab be lo n := by
  unfold pts
  refine sumZ_congr n fun i hi => ?_
  have e : mnL (lo + (i : Int)) (((0, 0 - F, 1) :: be).map dnP) = mnL (lo + (i : Int)) (be.map dnP) := by
    have := h i hi
    unfold mnL at *
    show mn (vl _ (dnP (0, 0 - F, 1)) :: (be.map dnP).map _) = _
    have e2 : dnP (0, 0 - F, 1) = (0, F, 1) := by unfold dnP; simp
    rw [mn_cons _ _ (by simpa using hb), e2, vl_far]; omega
  unfold room
  rw [e]
/-- a line of no great slope and height -/
structure Bd (p : L3) : Prop where
  a0 : -(7 * p.2.2) ≤ p.1
  a1 : p.1 ≤ 7 * p.2.2
  b0 : -(10 ^ 57 * p.2.2) ≤ p.2.1
  b1 : p.2.1 ≤ 10 ^ 57 * p.2.2
theorem mul_bd {s t X Y : Int} (h0 : -X ≤ s) (h1 : s ≤ X) (g0 : -Y ≤ t) (g1 : t ≤ Y) : -(X * Y) ≤ s * t ∧ s * t ≤ X * Y := by
  have h : (s * t).natAbs ≤ (X * Y).natAbs := by
    rw [Int.natAbs_mul, Int.natAbs_mul]
    exact Nat.mul_le_mul (by omega) (by omega)
  have : 0 ≤ X * Y := Int.mul_nonneg (by omega) (by omega)
  omega
theorem Bd.side {m s to at' r : Int} (hm : 1 ≤ m) (s0 : -(7 * m) ≤ s) (s1 : s ≤ 7 * m) (t0 : -(10 ^ 56) ≤ to) (t1 : to ≤ 10 ^ 56) (a0 : -(10 ^ 56) ≤ at') (a1 : at' ≤ 10 ^ 56) (r0 : 0 ≤ r) (r1 : r < m) : Bd (s, m * to - s * at' + r, m) := by
  have h1 := mul_bd (s := m) (X := m) (by omega) (Int.le_refl _) t0 t1
  have h2 := mul_bd s0 s1 a0 a1
  have e : 7 * m * 10 ^ 56 = 7 * (m * 10 ^ 56) := by rw [Int.mul_assoc]
  have e2 : (10 : Int) ^ 57 * m = 10 * (m * 10 ^ 56) := by rw [show (10 : Int) ^ 57 = 10 * 10 ^ 56 by decide, Int.mul_assoc, Int.mul_comm (10 ^ 56)]
  have e3 : m ≤ m * 10 ^ 56 := by
    have := Int.mul_le_mul_of_nonneg_left (show (1 : Int) ≤ 10 ^ 56 by decide) (show 0 ≤ m by omega)
    rwa [Int.mul_one] at this
  refine ⟨s0, s1, ?_, ?_⟩
  · show -(10 ^ 57 * m) ≤ m * to - s * at' + r
    rw [e2]; rw [e] at h2; omega
  · show m * to - s * at' + r ≤ 10 ^ 57 * m
    rw [e2]; rw [e] at h2; omega
theorem Bd.hh {p : L3} (h : Bd p) {x : Int} (hp : 0 < p.2.2) (x0 : -(10 ^ 57) ≤ x) (x1 : x ≤ 10 ^ 57) : -(10 ^ 58 * p.2.2) ≤ Z.hh x p ∧ Z.hh x p ≤ 10 ^ 58 * p.2.2 := by
  have h1 := mul_bd h.a0 h.a1 x0 x1
  have h2 := h.b0
  have h3 := h.b1
  have e : 7 * p.2.2 * 10 ^ 57 = 7 * (10 ^ 57 * p.2.2) := by rw [Int.mul_assoc, Int.mul_comm p.2.2]
  have e2 : (10 : Int) ^ 58 * p.2.2 = 10 * (10 ^ 57 * p.2.2) := by rw [show (10 : Int) ^ 58 = 10 * 10 ^ 57 by decide, Int.mul_assoc]
  have h0 : 0 ≤ 10 ^ 57 * p.2.2 := Int.mul_nonneg (by decide) (by omega)
  unfold Z.hh
  rw [e2]
  rw [e] at h1
  generalize (10 : Int) ^ 57 * p.2.2 = K at *
  omega
theorem mnL_far {x : Int} {ls : List L3} (hl : ls ≠ []) (h : ∀ p ∈ ls, 0 < p.2.2 ∧ Z.hh x p ≤ 10 ^ 58 * p.2.2) : mnL x ls ≤ 10 ^ 59 := by
  obtain ⟨p, r, rfl⟩ : ∃ p r, ls = p :: r := by
    cases ls with
    | nil => exact absurd rfl hl
    | cons p r => exact ⟨p, r, rfl⟩
  obtain ⟨hp, hh'⟩ := h p List.mem_cons_self
  have h1 := (mn_spec ((p :: r).map (vl x)) (by simp)).2 (vl x p) (by simp)
  have h2 : vl x p ≤ 10 ^ 58 := by
    have := Int.ediv_le_ediv hp hh'
    rw [Int.mul_ediv_cancel _ (by omega)] at this
    exact this
  have h3 : (10 : Int) ^ 58 ≤ 10 ^ 59 := by decide
  show mn ((p :: r).map (vl x)) ≤ 10 ^ 59
  omega
/-! the first and the last place -/
theorem room_pos {ab be : List L3} {x : Int} : roomB ab be x = true ↔ 0 < room ab be x := by
  unfold roomB room
  rw [decide_eq_true_iff]
  omega
theorem EL_mem {ab be : List L3} {lo x : Int} {n : Nat} : x ∈ EL ab be lo n ↔ (lo ≤ x ∧ x < lo + n) ∧ 0 < room ab be x := by
  unfold EL
  rw [List.mem_filter, room_pos, List.mem_map]
  refine and_congr ⟨fun ⟨i, hi, e⟩ => ?_, fun h => ⟨(x - lo).toNat, List.mem_range.mpr (by omega), by omega⟩⟩ Iff.rfl
  have := List.mem_range.mp hi
  omega
theorem room_nn (ab be : List L3) (x : Int) : 0 ≤ room ab be x := by unfold room; omega
theorem pts_none {ab be : List L3} {lo : Int} {n : Nat} (h : ∀ x, lo ≤ x → x < lo + n → ¬ 0 < room ab be x) : pts ab be lo n = 0 := by
  unfold pts
  rw [sumZ_congr (g := fun _ => 0) n fun i hi => by have := h (lo + i) (by omega) (by omega); have := room_nn ab be (lo + i); omega, sumZ_const]
  omega
theorem EL_up (ab be : List L3) (lo : Int) (n : Nat) : (EL ab be lo n).Pairwise (· < ·) := by
  unfold EL
  refine List.Pairwise.filter _ ?_
  rw [List.pairwise_map]
  exact (List.pairwise_lt_range).imp fun h => by omega
theorem EL_head {ab be : List L3} {lo x : Int} {n : Nat} (h : (EL ab be lo n).head? = some x) : (lo ≤ x ∧ x < lo + n ∧ 0 < room ab be x) ∧ pts ab be lo (x - lo).toNat = 0 := by
  have up := EL_up ab be lo n
  have mem := fun y => @EL_mem ab be lo y n
  obtain ⟨r, hr⟩ : ∃ r, EL ab be lo n = x :: r := by
    cases hE : EL ab be lo n with
    | nil => rw [hE] at h; exact absurd h (by simp)
    | cons a r => rw [hE] at h; exact ⟨r, by rw [(Option.some.inj h : a = x)]⟩
  rw [hr] at up
  have h1 := (mem x).mp (by rw [hr]; exact List.mem_cons_self)
  refine ⟨⟨h1.1.1, h1.1.2, h1.2⟩, pts_none fun y y0 y1 hy => ?_⟩
  have h2 := (mem y).mpr ⟨⟨y0, by omega⟩, hy⟩
  rw [hr] at h2
  rcases List.mem_cons.mp h2 with e | e
  · omega
  · have := (List.pairwise_cons.mp up).1 y e; omega
theorem EL_last {ab be : List L3} {lo y : Int} {n : Nat} (h : (EL ab be lo n).getLast? = some y) : (lo ≤ y ∧ y < lo + n ∧ 0 < room ab be y) ∧ pts ab be (y + 1) (lo + n - (y + 1)).toNat = 0 ∧ ∀ x, (EL ab be lo n).head? = some x → x ≤ y := by
  have up := EL_up ab be lo n
  have mem := fun y => @EL_mem ab be lo y n
  obtain ⟨r, hr⟩ : ∃ r, EL ab be lo n = r ++ [y] := by
    have hne : EL ab be lo n ≠ [] := fun e => by rw [e] at h; exact absurd h (by simp)
    refine ⟨(EL ab be lo n).dropLast, ?_⟩
    rw [List.getLast?_eq_some_getLast hne] at h
    rw [← Option.some.inj h]
    exact (List.dropLast_concat_getLast hne).symm
  rw [hr] at up
  have h1 := (mem y).mp (by rw [hr]; simp)
  have lt : ∀ z, z ∈ EL ab be lo n → z ≤ y := fun z hz => by
    rw [hr] at hz
    rcases List.mem_append.mp hz with e | e
    · exact Int.le_of_lt ((List.pairwise_append.mp up).2.2 z e y (by simp))
    · rw [List.mem_singleton.mp e]; exact Int.le_refl _
  refine ⟨⟨h1.1.1, h1.1.2, h1.2⟩, pts_none fun z z0 z1 hz => ?_, fun x hx => lt x (List.mem_of_mem_head? hx)⟩
  have := lt z ((mem z).mpr ⟨⟨by omega, by omega⟩, hz⟩)
  omega
theorem pts_one (ab be : List L3) (x : Int) : pts ab be x (x + 1 - x).toNat = room ab be x := by
  rw [show (x + 1 - x).toNat = 1 by omega]
  show 0 + room ab be (x + ((0 : Nat) : Int)) = _
  rw [Int.zero_add, show x + ((0 : Nat) : Int) = x by omega]
theorem EL_none {ab be : List L3} {lo : Int} {n : Nat} (h : EL ab be lo n = []) : pts ab be lo n = 0 := pts_none fun x x0 x1 hx => by
  have := (EL_mem (n := n)).mpr ⟨⟨x0, x1⟩, hx⟩
  rw [h] at this
  exact absurd this (by simp)
end Z

namespace Z
/-! ### points within corners -/
abbrev Sd := Int × Int
def lnK (f : Int) (s : Sd) (x y : Int) : L3 := (s.2 * f, (y * s.1 - s.2 * x) * f, s.1 * f)
def lnsK (f : Int) : List Sd → Int → Int → List L3
  | [], _, _ => []
  | s :: S, x, y => lnK f s x y :: lnsK f S (x + s.1) (y + s.2)
def wd : List Sd → Int | [] => 0 | s :: S => s.1 + wd S
def ht : List Sd → Int | [] => 0 | s :: S => s.2 + ht S
def twK : List Sd → Int → Int | [], _ => 0 | s :: S, y => s.1 * (2 * y + s.2) + twK S (y + s.2)
def rimK : List Sd → Int | [] => 0 | s :: S => (Int.gcd s.2 s.1 : Int) + rimK S
def ngS (S : List Sd) : List Sd := S.map fun s => (s.1, 0 - s.2)
/-- q is no steeper than p -/
def Fl (p q : Sd) : Prop := q.2 * p.1 ≤ p.2 * q.1
structure Sds (S : List Sd) : Prop where
  pos : ∀ s ∈ S, 1 ≤ s.1
  fl : S.Pairwise Fl
theorem wd_app (A B : List Sd) : wd (A ++ B) = wd A + wd B := by
  induction A with
  | nil => show wd B = 0 + wd B; omega
  | cons s A ih => show s.1 + wd (A ++ B) = s.1 + wd A + wd B; rw [ih]; omega
theorem ht_app (A B : List Sd) : ht (A ++ B) = ht A + ht B := by
  induction A with
  | nil => show ht B = 0 + ht B; omega
  | cons s A ih => show s.2 + ht (A ++ B) = s.2 + ht A + ht B; rw [ih]; omega
theorem wd_nn {S : List Sd} (h : ∀ s ∈ S, 1 ≤ s.1) : 0 ≤ wd S := by
  induction S with
  | nil => exact Int.le_refl 0
  | cons s S ih =>
    have h1 := ih fun t ht => h t (List.mem_cons_of_mem _ ht)
    have h2 := h s List.mem_cons_self
    show 0 ≤ s.1 + wd S
    omega
theorem hh_lnK (f : Int) (s : Sd) (x y X : Int) : hh X (lnK f s x y) = (s.2 * (X - x) + y * s.1) * f := by
  unfold hh lnK; show s.2 * f * X + (y * s.1 - s.2 * x) * f = _; grind
theorem lnsK_app (f : Int) (A B : List Sd) : ∀ x y, lnsK f (A ++ B) x y = lnsK f A x y ++ lnsK f B (x + wd A) (y + ht A) := by
  induction A with
  | nil => intro x y; show lnsK f B x y = [] ++ lnsK f B (x + 0) (y + 0); rw [Int.add_zero, Int.add_zero]; rfl
  | cons s A ih =>
    intro x y
    show lnK f s x y :: lnsK f (A ++ B) (x + s.1) (y + s.2) = _
    rw [ih]
    show _ = lnK f s x y :: (lnsK f A (x + s.1) (y + s.2) ++ lnsK f B (x + (s.1 + wd A)) (y + (s.2 + ht A)))
    rw [Int.add_assoc, Int.add_assoc]
theorem mem_lnsK {f : Int} {q : L3} : ∀ {S : List Sd} {x y : Int}, q ∈ lnsK f S x y → ∃ A t B, S = A ++ t :: B ∧ q = lnK f t (x + wd A) (y + ht A)
  | [], x, y, h => nomatch h
  | s :: S, x, y, h => by
    rcases List.mem_cons.mp h with rfl | h
    · exact ⟨[], s, S, rfl, by show _ = lnK f s (x + 0) (y + 0); rw [Int.add_zero, Int.add_zero]⟩
    · obtain ⟨A, t, B, rfl, rfl⟩ := mem_lnsK h
      refine ⟨s :: A, t, B, rfl, ?_⟩
      show _ = lnK f t (x + (s.1 + wd A)) (y + (s.2 + ht A))
      rw [Int.add_assoc, Int.add_assoc]
theorem in_lnsK (f : Int) (A : List Sd) (t : Sd) (B : List Sd) (x y : Int) : lnK f t (x + wd A) (y + ht A) ∈ lnsK f (A ++ t :: B) x y := by
  rw [lnsK_app]; exact List.mem_append.mpr (.inr List.mem_cons_self)
theorem fl_ht {p : Sd} {S : List Sd} (h : ∀ t ∈ S, Fl p t) : ht S * p.1 ≤ p.2 * wd S := by
  induction S with
  | nil => show 0 * p.1 ≤ p.2 * 0; rw [Int.zero_mul, Int.mul_zero]; exact Int.le_refl _
  | cons s S ih =>
    have h1 := ih fun t ht => h t (List.mem_cons_of_mem _ ht)
    have h2 : s.2 * p.1 ≤ p.2 * s.1 := h s List.mem_cons_self
    show (s.2 + ht S) * p.1 ≤ p.2 * (s.1 + wd S)
    rw [Int.add_mul, Int.mul_add]; omega
theorem fl_ht2 {p : Sd} {S : List Sd} (h : ∀ t ∈ S, Fl t p) : p.2 * wd S ≤ ht S * p.1 := by
  induction S with
  | nil => show p.2 * 0 ≤ 0 * p.1; rw [Int.zero_mul, Int.mul_zero]; exact Int.le_refl _
  | cons s S ih =>
    have h1 := ih fun t ht => h t (List.mem_cons_of_mem _ ht)
    have h2 : p.2 * s.1 ≤ s.2 * p.1 := h s List.mem_cons_self
    show p.2 * (s.1 + wd S) ≤ (s.2 + ht S) * p.1
    rw [Int.add_mul, Int.mul_add]; omega
theorem Lo_lnK {f : Int} (hf : 0 < f) {s t : Sd} {a b c d X : Int} (h : (s.2 * (X - a) + b * s.1) * t.1 ≤ (t.2 * (X - c) + d * t.1) * s.1) : Lo X (lnK f s a b) (lnK f t c d) := by
  unfold Lo
  rw [hh_lnK, hh_lnK]
  show (s.2 * (X - a) + b * s.1) * f * (t.1 * f) ≤ (t.2 * (X - c) + d * t.1) * f * (s.1 * f)
  have := Int.mul_le_mul_of_nonneg_right h (show 0 ≤ f * f from Int.mul_nonneg (by omega) (by omega))
  have e1 : (s.2 * (X - a) + b * s.1) * f * (t.1 * f) = (s.2 * (X - a) + b * s.1) * t.1 * (f * f) := by grind
  have e2 : (t.2 * (X - c) + d * t.1) * f * (s.1 * f) = (t.2 * (X - c) + d * t.1) * s.1 * (f * f) := by grind
  rw [e1, e2]; exact this
/-- two places of a row -/
theorem two_at {α : Type} {A B A' B' : List α} {s t : α} (h : A ++ s :: B = A' ++ t :: B') : (A = A' ∧ s = t ∧ B = B') ∨ (∃ C, A = A' ++ t :: C ∧ B' = C ++ s :: B) ∨ ∃ C, A' = A ++ s :: C ∧ B = C ++ t :: B' := by
  induction A generalizing A' with
  | nil =>
    cases A' with
    | nil => injection h with h1 h2; exact .inl ⟨rfl, h1, h2⟩
    | cons a A' => injection h with h1 h2; exact .inr (.inr ⟨A', by rw [h1]; rfl, h2⟩)
  | cons a A ih =>
    cases A' with
    | nil => injection h with h1 h2; exact .inr (.inl ⟨A, by rw [h1]; rfl, h2.symm⟩)
    | cons a' A' =>
      injection h with h1 h2
      subst h1
      rcases ih h2 with ⟨rfl, rfl, rfl⟩ | ⟨C, rfl, rfl⟩ | ⟨C, rfl, rfl⟩
      · exact .inl ⟨rfl, rfl, rfl⟩
      · exact .inr (.inl ⟨C, rfl, rfl⟩)
      · exact .inr (.inr ⟨C, rfl, rfl⟩)
theorem Sds.seg {A B : List Sd} {s : Sd} (h : Sds (A ++ s :: B)) {f x y X : Int} (hf : 0 < f) (h1 : x + wd A ≤ X) (h2 : X ≤ x + wd A + s.1) : ∀ q ∈ lnsK f (A ++ s :: B) x y, Lo X (lnK f s (x + wd A) (y + ht A)) q := by
  intro q hq
  obtain ⟨A', t, B', e, rfl⟩ := mem_lnsK hq
  have ps := h.pos s (by simp)
  rcases two_at e with ⟨rfl, rfl, rfl⟩ | ⟨C, rfl, rfl⟩ | ⟨C, rfl, rfl⟩
  · exact Lo.refl _ _
  · have fl := h.fl
    have pt := h.pos t (by simp)
    rw [List.append_assoc, List.cons_append] at fl
    have f1 := (List.pairwise_append.mp fl).2.1
    have f2 := List.pairwise_cons.mp f1
    have k1 : ht C * t.1 ≤ t.2 * wd C := fl_ht fun c hc => f2.1 c (List.mem_append.mpr (.inl hc))
    have k2 : s.2 * t.1 ≤ t.2 * s.1 := f2.1 s (by simp)
    refine Lo_lnK hf ?_
    have ew : wd (A' ++ t :: C) = wd A' + (t.1 + wd C) := wd_app _ _
    have eh : ht (A' ++ t :: C) = ht A' + (t.2 + ht C) := ht_app _ _
    rw [ew] at h1
    rw [ew, eh]
    have m1 := Int.mul_nonneg (show 0 ≤ X - (x + (wd A' + (t.1 + wd C))) by omega) (show 0 ≤ t.2 * s.1 - s.2 * t.1 by omega)
    have m2 := Int.mul_nonneg (show 0 ≤ s.1 by omega) (show 0 ≤ t.2 * wd C - ht C * t.1 by omega)
    refine Int.sub_nonneg.mp ?_
    rw [show (t.2 * (X - (x + wd A')) + (y + ht A') * t.1) * s.1 - (s.2 * (X - (x + (wd A' + (t.1 + wd C)))) + (y + (ht A' + (t.2 + ht C))) * s.1) * t.1 = (X - (x + (wd A' + (t.1 + wd C)))) * (t.2 * s.1 - s.2 * t.1) + s.1 * (t.2 * wd C - ht C * t.1) by grind]
    omega
  · have fl := h.fl
    have pt := h.pos t (by simp)
    have f1 := (List.pairwise_append.mp fl).2.1
    have f2 := List.pairwise_cons.mp f1
    have f3 := List.pairwise_append.mp f2.2
    have k1 : t.2 * wd C ≤ ht C * t.1 := fl_ht2 fun c hc => f3.2.2 c hc t (by simp)
    have k2 : t.2 * s.1 ≤ s.2 * t.1 := f2.1 t (by simp)
    refine Lo_lnK hf ?_
    have ew : wd (A ++ s :: C) = wd A + (s.1 + wd C) := wd_app _ _
    have eh : ht (A ++ s :: C) = ht A + (s.2 + ht C) := ht_app _ _
    rw [ew, eh]
    have m1 := Int.mul_nonneg (show 0 ≤ x + wd A + s.1 - X by omega) (show 0 ≤ s.2 * t.1 - t.2 * s.1 by omega)
    have m2 := Int.mul_nonneg (show 0 ≤ s.1 by omega) (show 0 ≤ ht C * t.1 - t.2 * wd C by omega)
    refine Int.sub_nonneg.mp ?_
    rw [show (t.2 * (X - (x + (wd A + (s.1 + wd C)))) + (y + (ht A + (s.2 + ht C))) * t.1) * s.1 - (s.2 * (X - (x + wd A)) + (y + ht A) * s.1) * t.1 = (x + wd A + s.1 - X) * (s.2 * t.1 - t.2 * s.1) + s.1 * (ht C * t.1 - t.2 * wd C) by grind]
    omega
theorem pos_lnsK {f : Int} (hf : 0 < f) {S : List Sd} (h : ∀ s ∈ S, 1 ≤ s.1) {x y : Int} : ∀ q ∈ lnsK f S x y, 0 < q.2.2 := by
  intro q hq
  obtain ⟨A, t, B, rfl, rfl⟩ := mem_lnsK hq
  have := h t (by simp)
  exact Int.mul_pos (by omega) hf
theorem vl_lnK {f : Int} (hf : 0 < f) {s : Sd} (hs : 1 ≤ s.1) (x y X : Int) : vl X (lnK f s x y) = y + s.2 * (X - x) / s.1 := by
  have e : vl X (lnK f s x y) = hh X (lnK f s x y) / (s.1 * f) := rfl
  rw [e, hh_lnK, Int.mul_ediv_mul_of_pos_left _ _ hf, Int.add_mul_ediv_right _ _ (by omega), Int.add_comm]
theorem Sds.top {A B : List Sd} {s : Sd} (h : Sds (A ++ s :: B)) {f x y X : Int} (hf : 0 < f) (h1 : x + wd A ≤ X) (h2 : X ≤ x + wd A + s.1) : mnL X (lnsK f (A ++ s :: B) x y) = y + ht A + s.2 * (X - (x + wd A)) / s.1 := by
  rw [mnL_eq (pos_lnsK hf h.pos) (in_lnsK f A s B x y) (h.seg hf h1 h2), vl_lnK hf (h.pos s (by simp))]
theorem Sds.end' {S : List Sd} (h : Sds S) (hne : S ≠ []) {f x y : Int} (hf : 0 < f) : mnL (x + wd S) (lnsK f S x y) = y + ht S := by
  obtain ⟨A, s, rfl⟩ : ∃ A s, S = A ++ [s] := ⟨S.dropLast, S.getLast hne, (List.dropLast_concat_getLast hne).symm⟩
  have ps := h.pos s (by simp)
  have ew : wd (A ++ [s]) = wd A + (s.1 + 0) := wd_app _ _
  have eh : ht (A ++ [s]) = ht A + (s.2 + 0) := ht_app _ _
  rw [h.top hf (by omega) (by omega), ew, eh, show x + (wd A + (s.1 + 0)) - (x + wd A) = s.1 by omega, Int.mul_ediv_cancel _ (by omega)]
  omega
theorem Sds.sum {f x y : Int} (hf : 0 < f) : ∀ (B A : List Sd), Sds (A ++ B) → 2 * sumZ (fun i => mnL (x + wd A + (i : Int)) (lnsK f (A ++ B) x y)) (wd B).toNat = twK B (y + ht A) + rimK B - wd B - ht B
  | [], A, _ => rfl
  | s :: B, A, h => by
    have ps := h.pos s (by simp)
    have pB := wd_nn (S := B) fun t ht => h.pos t (by simp [ht])
    have ih := Sds.sum (x := x) (y := y) hf B (A ++ [s]) (by rw [List.append_assoc]; exact h)
    have ew : wd (A ++ [s]) = wd A + (s.1 + 0) := wd_app _ _
    have eh : ht (A ++ [s]) = ht A + (s.2 + 0) := ht_app _ _
    rw [ew, eh, List.append_assoc] at ih
    have e1 : (wd (s :: B)).toNat = s.1.toNat + (wd B).toNat := by show (s.1 + wd B).toNat = _; omega
    rw [e1, sumZ_split]
    have e2 : sumZ (fun i => mnL (x + wd A + ((s.1.toNat + i : Nat) : Int)) (lnsK f (A ++ s :: B) x y)) (wd B).toNat = sumZ (fun i => mnL (x + (wd A + (s.1 + 0)) + (i : Int)) (lnsK f (A ++ s :: B) x y)) (wd B).toNat := sumZ_congr _ fun i _ => by
      congr 1; omega
    have e3 : sumZ (fun i => mnL (x + wd A + (i : Int)) (lnsK f (A ++ s :: B) x y)) s.1.toNat = sumZ (fun i => (y + ht A) + (s.2 * (i : Int) + 0) / s.1) s.1.toNat := sumZ_congr _ fun i hi => by
      rw [h.top hf (by omega) (by omega)]
      congr 2; rw [Int.add_zero]; congr 1; omega
    have e4 : sumZ (fun i => (y + ht A) + (s.2 * (i : Int) + 0) / s.1) s.1.toNat = (y + ht A) * s.1 + FS s.2 0 s.1 s.1.toNat := by
      rw [sumZ_add, sumZ_const, show ((s.1.toNat : Nat) : Int) = s.1 by omega]; rfl
    have e5 := FS_round s.1.toNat s.2 0 s.1 (by omega) (by omega)
    rw [Int.zero_emod] at e5
    rw [e2, e3, e4]
    show 2 * ((y + ht A) * s.1 + FS s.2 0 s.1 s.1.toNat + _) = s.1 * (2 * (y + ht A) + s.2) + twK B (y + ht A + s.2) + ((Int.gcd s.2 s.1 : Int) + rimK B) - (s.1 + wd B) - (s.2 + ht B)
    have i2 : twK B (y + (ht A + (s.2 + 0))) = twK B (y + ht A + s.2) := by congr 1; omega
    have e6 : [s] ++ B = s :: B := rfl
    rw [i2, e6] at ih
    generalize (Int.gcd s.2 s.1 : Int) = g at *
    generalize sumZ (fun i => mnL (x + (wd A + (s.1 + 0)) + (i : Int)) (lnsK f (A ++ s :: B) x y)) (wd B).toNat = T at *
    generalize FS s.2 0 s.1 s.1.toNat = F at *
    have e7 : (s.2 - 1) * (s.1 - 1) = s.1 * s.2 - s.1 - s.2 + 1 := by grind
    have e8 : s.1 * (2 * (y + ht A) + s.2) = 2 * ((y + ht A) * s.1) + s.1 * s.2 := by grind
    rw [e8]
    omega
/-- the chord lies beneath -/
theorem Sds.chord {S : List Sd} (h : Sds S) {f x y : Int} (hf : 0 < f) : ∀ q ∈ lnsK f S x y, y * q.2.2 ≤ hh x q ∧ (y + ht S) * q.2.2 ≤ hh (x + wd S) q := by
  intro q hq
  obtain ⟨A, t, B, rfl, rfl⟩ := mem_lnsK hq
  have pt := h.pos t (by simp)
  have f0 := List.pairwise_append.mp h.fl
  have f2 := List.pairwise_cons.mp f0.2.1
  have k1 : t.2 * wd A ≤ ht A * t.1 := fl_ht2 fun c hc => f0.2.2 c hc t (by simp)
  have k2 : ht B * t.1 ≤ t.2 * wd B := fl_ht fun c hc => f2.1 c hc
  have ew : wd (A ++ t :: B) = wd A + (t.1 + wd B) := wd_app _ _
  have eh : ht (A ++ t :: B) = ht A + (t.2 + ht B) := ht_app _ _
  rw [hh_lnK, hh_lnK, ew, eh]
  have e3 : (lnK f t (x + wd A) (y + ht A)).2.2 = t.1 * f := rfl
  rw [e3]
  have m1 := Int.mul_nonneg (show 0 ≤ ht A * t.1 - t.2 * wd A by omega) (show 0 ≤ f by omega)
  have m2 := Int.mul_nonneg (show 0 ≤ t.2 * wd B - ht B * t.1 by omega) (show 0 ≤ f by omega)
  constructor
  · refine Int.sub_nonneg.mp ?_
    rw [show (t.2 * (x - (x + wd A)) + (y + ht A) * t.1) * f - y * (t.1 * f) = (ht A * t.1 - t.2 * wd A) * f by grind]
    exact m1
  · refine Int.sub_nonneg.mp ?_
    rw [show (t.2 * (x + (wd A + (t.1 + wd B)) - (x + wd A)) + (y + ht A) * t.1) * f - (y + (ht A + (t.2 + ht B))) * (t.1 * f) = (t.2 * wd B - ht B * t.1) * f by grind]
    exact m2
theorem hh_mid (p : L3) (x W X : Int) : hh X p * W = hh x p * (x + W - X) + hh (x + W) p * (X - x) := by unfold hh; grind
/-- two sums of parts of what isn't below nought together -/
theorem part_two {p q m k : Int} (hm : 0 < m) (hk : 0 < k) (h : 0 ≤ p * k + q * m) : -1 ≤ p / m + q / k := by
  have h1 := Int.lt_ediv_add_one_mul_self p hm
  have h2 := Int.lt_ediv_add_one_mul_self q hk
  have h3 := Int.mul_lt_mul_of_pos_right h1 hk
  have h4 := Int.mul_lt_mul_of_pos_right h2 hm
  have e : (p / m + 1) * m * k + (q / k + 1) * k * m = (p / m + q / k + 2) * (m * k) := by grind
  have h5 : 0 < (p / m + q / k + 2) * (m * k) := by omega
  have h6 := Int.mul_pos hm hk
  have := Int.pos_of_mul_pos_left (a := p / m + q / k + 2) (b := m * k)
  by_cases c : 0 < p / m + q / k + 2
  · omega
  · have := Int.mul_nonpos_of_nonpos_of_nonneg (show p / m + q / k + 2 ≤ 0 by omega) (show 0 ≤ m * k by omega)
    omega
theorem part_two2 {p q m k : Int} (hm : 0 < m) (hk : 0 < k) (h : p * k + q * m < 0) : p / m + q / k ≤ -1 := by
  have h1 := Int.ediv_mul_le p (show m ≠ 0 by omega)
  have h2 := Int.ediv_mul_le q (show k ≠ 0 by omega)
  have h3 := Int.mul_le_mul_of_nonneg_right h1 (show 0 ≤ k by omega)
  have h4 := Int.mul_le_mul_of_nonneg_right h2 (show 0 ≤ m by omega)
  have e : p / m * m * k + q / k * k * m = (p / m + q / k) * (m * k) := by grind
  have h5 : (p / m + q / k) * (m * k) < 0 := by omega
  by_cases c : p / m + q / k ≤ -1
  · exact c
  · have := Int.mul_nonneg (show 0 ≤ p / m + q / k by omega) (show 0 ≤ m * k from Int.mul_nonneg (by omega) (by omega))
    omega
theorem ng_lns (f : Int) : ∀ (S : List Sd) (x y : Int), (lnsK f S x y).map dnP = lnsK f (ngS S) x (0 - y)
  | [], _, _ => rfl
  | s :: S, x, y => by
    have ih := ng_lns f S (x + s.1) (y + s.2)
    show dnP (lnK f s x y) :: (lnsK f S (x + s.1) (y + s.2)).map dnP = lnK f (s.1, 0 - s.2) x (0 - y) :: lnsK f (ngS S) (x + s.1) (0 - y + (0 - s.2))
    rw [ih, show 0 - (y + s.2) = 0 - y + (0 - s.2) by omega]
    congr 1
    unfold dnP lnK
    show ((0 - s.2 * f, 0 - (y * s.1 - s.2 * x) * f, s.1 * f) : L3) = ((0 - s.2) * f, ((0 - y) * s.1 - (0 - s.2) * x) * f, s.1 * f)
    rw [show (0 - s.2) * f = 0 - s.2 * f by grind, show ((0 - y) * s.1 - (0 - s.2) * x) * f = 0 - (y * s.1 - s.2 * x) * f by grind]
theorem ng_wd : ∀ S : List Sd, wd (ngS S) = wd S
  | [] => rfl
  | s :: S => by show s.1 + wd (ngS S) = s.1 + wd S; rw [ng_wd S]
theorem ng_ht : ∀ S : List Sd, ht (ngS S) = 0 - ht S
  | [] => rfl
  | s :: S => by show 0 - s.2 + ht (ngS S) = 0 - (s.2 + ht S); rw [ng_ht S]; omega
theorem ng_tw : ∀ (S : List Sd) (y : Int), twK (ngS S) (0 - y) = 0 - twK S y
  | [], _ => rfl
  | s :: S, y => by
    have ih := ng_tw S (y + s.2)
    show s.1 * (2 * (0 - y) + (0 - s.2)) + twK (ngS S) (0 - y + (0 - s.2)) = 0 - (s.1 * (2 * y + s.2) + twK S (y + s.2))
    rw [show 0 - y + (0 - s.2) = 0 - (y + s.2) by omega, ih, show s.1 * (2 * (0 - y) + (0 - s.2)) = 0 - s.1 * (2 * y + s.2) by grind]
    omega
theorem ng_rim : ∀ S : List Sd, rimK (ngS S) = rimK S
  | [] => rfl
  | s :: S => by
    show (Int.gcd (0 - s.2) s.1 : Int) + rimK (ngS S) = (Int.gcd s.2 s.1 : Int) + rimK S
    rw [ng_rim S, Int.zero_sub, Int.neg_gcd]
theorem tw_up (c : Int) : ∀ (S : List Sd) (y : Int), twK S (y + c) = twK S y + 2 * c * wd S
  | [], y => by show 0 = 0 + 2 * c * 0; omega
  | s :: S, y => by
    have ih := tw_up c S (y + s.2)
    show s.1 * (2 * (y + c) + s.2) + twK S (y + c + s.2) = s.1 * (2 * y + s.2) + twK S (y + s.2) + 2 * c * (s.1 + wd S)
    rw [show y + c + s.2 = y + s.2 + c by omega, ih]; grind
/-- corners: sides above, sides beneath -/
structure Crn (U V : List Sd) (W gap : Int) : Prop where
  u : Sds U
  v : Sds (ngS V)
  u0 : U ≠ []
  v0 : V ≠ []
  wu : wd U = W
  wv : wd V = W
  g0 : 0 ≤ gap
  g1 : 0 ≤ gap + ht U - ht V
theorem Crn.ng0 {U V : List Sd} {W gap : Int} (h : Crn U V W gap) : ngS V ≠ [] := by
  have := h.v0
  unfold ngS; simpa using this
theorem Crn.room {U V : List Sd} {W gap f g x y X : Int} (h : Crn U V W gap) (hf : 0 < f) (hg : 0 < g) (h1 : x ≤ X) (h2 : X ≤ x + W) :
    room (lnsK f U x (y + gap)) (lnsK g V x y) X = mnL X (lnsK f U x (y + gap)) + mnL X (lnsK g (ngS V) x (0 - y)) + 1 := by
  unfold Z.room
  rw [ng_lns]
  have pu := pos_lnsK hf h.u.pos (x := x) (y := y + gap)
  have pv := pos_lnsK hg h.v.pos (x := x) (y := 0 - y)
  have ne1 : (lnsK f U x (y + gap)).map (vl X) ≠ [] := by
    have := h.u0
    cases U with
    | nil => exact absurd rfl this
    | cons s S => exact List.cons_ne_nil _ _
  have ne2 : (lnsK g (ngS V) x (0 - y)).map (vl X) ≠ [] := by
    have := h.ng0
    cases hV : ngS V with
    | nil => exact absurd hV this
    | cons s S => exact List.cons_ne_nil _ _
  obtain ⟨p, hp, ep⟩ := List.mem_map.mp (mn_spec _ ne1).1
  obtain ⟨q, hq, eq⟩ := List.mem_map.mp (mn_spec _ ne2).1
  have W1 : 1 ≤ W := by
    have := h.u0
    have pos := h.u.pos
    rw [← h.wu]
    cases U with
    | nil => exact absurd rfl this
    | cons s S =>
      have a := pos s List.mem_cons_self
      have b := wd_nn (S := S) fun t ht => pos t (List.mem_cons_of_mem _ ht)
      show 1 ≤ s.1 + wd S
      omega
  have cp := h.u.chord hf p hp
  have cq := h.v.chord hg q hq
  rw [h.wu] at cp
  rw [ng_wd, ng_ht, h.wv] at cq
  have mp := pu p hp
  have mq := pv q hq
  have ip := hh_mid p x W X
  have iq := hh_mid q x W X
  have key : 0 ≤ hh X p * q.2.2 + hh X q * p.2.2 := by
    have a1 := Int.mul_le_mul_of_nonneg_right (Int.mul_le_mul_of_nonneg_right cp.1 (show 0 ≤ x + W - X by omega)) (show 0 ≤ q.2.2 by omega)
    have a2 := Int.mul_le_mul_of_nonneg_right (Int.mul_le_mul_of_nonneg_right cp.2 (show 0 ≤ X - x by omega)) (show 0 ≤ q.2.2 by omega)
    have a3 := Int.mul_le_mul_of_nonneg_right (Int.mul_le_mul_of_nonneg_right cq.1 (show 0 ≤ x + W - X by omega)) (show 0 ≤ p.2.2 by omega)
    have a4 := Int.mul_le_mul_of_nonneg_right (Int.mul_le_mul_of_nonneg_right cq.2 (show 0 ≤ X - x by omega)) (show 0 ≤ p.2.2 by omega)
    have pm := Int.mul_nonneg (show 0 ≤ p.2.2 by omega) (show 0 ≤ q.2.2 by omega)
    have b1 := Int.mul_nonneg (Int.mul_nonneg (show 0 ≤ x + W - X by omega) h.g0) pm
    have b2 := Int.mul_nonneg (Int.mul_nonneg (show 0 ≤ X - x by omega) h.g1) pm
    have e : (hh X p * q.2.2 + hh X q * p.2.2) * W = (hh X p * W) * q.2.2 + (hh X q * W) * p.2.2 := by grind
    have e1 : (y + gap) * p.2.2 * (x + W - X) * q.2.2 + (0 - y) * q.2.2 * (x + W - X) * p.2.2 = (x + W - X) * gap * (p.2.2 * q.2.2) := by grind
    have e2 : (y + gap + ht U) * p.2.2 * (X - x) * q.2.2 + (0 - y + (0 - ht V)) * q.2.2 * (X - x) * p.2.2 = (X - x) * (gap + ht U - ht V) * (p.2.2 * q.2.2) := by grind
    have e3 : (hh x p * (x + W - X) + hh (x + W) p * (X - x)) * q.2.2 = hh x p * (x + W - X) * q.2.2 + hh (x + W) p * (X - x) * q.2.2 := Int.add_mul _ _ _
    have e4 : (hh x q * (x + W - X) + hh (x + W) q * (X - x)) * p.2.2 = hh x q * (x + W - X) * p.2.2 + hh (x + W) q * (X - x) * p.2.2 := Int.add_mul _ _ _
    have f : 0 ≤ (hh X p * q.2.2 + hh X q * p.2.2) * W := by rw [e, ip, iq, e3, e4]; omega
    by_cases c : 0 ≤ hh X p * q.2.2 + hh X q * p.2.2
    · exact c
    · have := Int.mul_neg_of_neg_of_pos (show hh X p * q.2.2 + hh X q * p.2.2 < 0 by omega) (show 0 < W by omega)
      omega
  have key2 := part_two mp mq key
  have e1 : mnL X (lnsK f U x (y + gap)) = hh X p / p.2.2 := ep.symm
  have e2 : mnL X (lnsK g (ngS V) x (0 - y)) = hh X q / q.2.2 := eq.symm
  rw [e1, e2]
  omega
theorem Crn.w1 {U V : List Sd} {W gap : Int} (h : Crn U V W gap) : 0 ≤ W := by rw [← h.wu]; exact wd_nn h.u.pos
theorem Crn.last {U V : List Sd} {W gap f g x y : Int} (h : Crn U V W gap) (hf : 0 < f) (hg : 0 < g) : Z.room (lnsK f U x (y + gap)) (lnsK g V x y) (x + W) = gap + (ht U - ht V) + 1 := by
  have w1 := h.w1
  rw [h.room hf hg (by omega) (Int.le_refl _)]
  have e1 := h.u.end' h.u0 (x := x) (y := y + gap) hf
  have e2 := h.v.end' h.ng0 (x := x) (y := 0 - y) hg
  rw [h.wu] at e1
  rw [ng_wd, h.wv, ng_ht] at e2
  rw [e1, e2]; omega
theorem Crn.ahead {U V : List Sd} {W gap f g x y : Int} (h : Crn U V W gap) (hf : 0 < f) (hg : 0 < g) :
    2 * pts (lnsK f U x (y + gap)) (lnsK g V x y) x W.toNat = twK U gap - twK V 0 + rimK U + rimK V - (ht U - ht V) := by
  have w1 := h.w1
  unfold pts
  have e0 : sumZ (fun i => Z.room (lnsK f U x (y + gap)) (lnsK g V x y) (x + (i : Int))) W.toNat = sumZ (fun i => mnL (x + (i : Int)) (lnsK f U x (y + gap)) + mnL (x + (i : Int)) (lnsK g (ngS V) x (0 - y)) + 1) W.toNat := sumZ_congr _ fun i hi => h.room hf hg (by omega) (by omega)
  have s1 := Sds.sum (x := x) (y := y + gap) hf U [] h.u
  have s2 := Sds.sum (x := x) (y := 0 - y) hg (ngS V) [] h.v
  rw [ng_wd, ng_ht, ng_rim, h.wv] at s2
  rw [h.wu] at s1
  have z1 : wd [] = 0 := rfl
  have z2 : ht [] = 0 := rfl
  rw [z1, z2, Int.add_zero, Int.add_zero] at s1 s2
  rw [e0, sumZ_add, sumZ_add, sumZ_const, show ((W.toNat : Nat) : Int) = W by omega]
  have t1 := tw_up y U gap
  have t2 := tw_up y V 0
  have t3 := ng_tw V y
  rw [show gap + y = y + gap by omega] at t1
  rw [Int.zero_add] at t2
  rw [h.wu] at t1
  rw [h.wv] at t2
  simp only [List.nil_append] at s1 s2
  omega
theorem Crn.whole {U V : List Sd} {W gap f g x y : Int} (h : Crn U V W gap) (hf : 0 < f) (hg : 0 < g) :
    pts (lnsK f U x (y + gap)) (lnsK g V x y) x (W + 1).toNat = (twK U gap - twK V 0 + rimK U + rimK V + gap + (gap + ht U - ht V)) / 2 + 1 ∧
    pts (lnsK f U x (y + gap)) (lnsK g V x y) x W.toNat = pts (lnsK f U x (y + gap)) (lnsK g V x y) x (W + 1).toNat - (gap + (ht U - ht V) + 1) := by
  have w1 := h.w1
  have a := h.ahead (x := x) (y := y) hf hg
  have l := h.last (x := x) (y := y) hf hg
  have e : pts (lnsK f U x (y + gap)) (lnsK g V x y) x (W + 1).toNat = pts (lnsK f U x (y + gap)) (lnsK g V x y) x W.toNat + Z.room (lnsK f U x (y + gap)) (lnsK g V x y) (x + W) := by
    rw [show (W + 1).toNat = W.toNat + 1 by omega]
    show pts _ _ x W.toNat + Z.room _ _ (x + ((W.toNat : Nat) : Int)) = _
    rw [show ((W.toNat : Nat) : Int) = W by omega]
  rw [e, l]
  omega
theorem mnL_le {x : Int} {p : L3} {ls : List L3} (hp : p ∈ ls) : mnL x ls ≤ vl x p := (mn_spec _ (by intro e; rw [List.map_eq_nil_iff.mp e] at hp; exact nomatch hp)).2 _ (List.mem_map.mpr ⟨p, hp, rfl⟩)
theorem room_zero {ab be : List L3} {x : Int} {p q : L3} (hp : p ∈ ab) (hq : q ∈ be.map dnP) (mp : 0 < p.2.2) (mq : 0 < q.2.2) (h : hh x p * q.2.2 + hh x q * p.2.2 < 0) : Z.room ab be x = 0 := by
  have h1 := mnL_le (x := x) hp
  have h2 := mnL_le (x := x) hq
  have h3 : vl x p + vl x q ≤ -1 := part_two2 mp mq h
  unfold Z.room
  omega
/-- before the first corner, where it is one -/
theorem Crn.before {s t : Sd} {U V : List Sd} {W gap f g x y X : Int} (h : Crn (s :: U) (t :: V) W gap) (hf : 0 < f) (hg : 0 < g) (g0 : gap = 0) (ne : ¬ s.2 * t.1 = t.2 * s.1) (hX : X < x) : Z.room (lnsK f (s :: U) x (y + gap)) (lnsK g (t :: V) x y) X = 0 := by
  have pu := pos_lnsK hf h.u.pos (x := x) (y := y + gap)
  have pv := pos_lnsK hg h.v.pos (x := x) (y := 0 - y)
  have ps := h.u.pos s List.mem_cons_self
  have pt : 1 ≤ t.1 := h.v.pos (t.1, 0 - t.2) (by unfold ngS; exact List.mem_cons_self)
  have w1 := h.wu
  have w2 := h.wv
  have k1 : ht (s :: U) * s.1 ≤ s.2 * wd (s :: U) := fl_ht fun c hc => by
    rcases List.mem_cons.mp hc with rfl | hc
    · exact Int.le_of_eq rfl
    · exact (List.pairwise_cons.mp h.u.fl).1 c hc
  have fv : (ngS V).Pairwise Fl ∧ ∀ c ∈ ngS V, Fl (t.1, 0 - t.2) c := by
    have := List.pairwise_cons.mp h.v.fl
    exact ⟨this.2, this.1⟩
  have k2 : ht (ngS (t :: V)) * t.1 ≤ (0 - t.2) * wd (ngS (t :: V)) := fl_ht (p := (t.1, 0 - t.2)) fun c hc => by
    rcases List.mem_cons.mp hc with rfl | hc
    · exact Int.le_of_eq rfl
    · exact fv.2 c hc
  rw [ng_ht, ng_wd, w2] at k2
  rw [w1] at k1
  have g1 := h.g1
  rw [g0, Int.zero_add] at g1
  have W1 : 1 ≤ W := by
    have b := wd_nn (S := U) fun c hc => h.u.pos c (List.mem_cons_of_mem _ hc)
    have : s.1 + wd U = W := w1
    omega
  have st : t.2 * s.1 < s.2 * t.1 := by
    refine Int.lt_iff_le_and_ne.mpr ⟨?_, fun e => ne e.symm⟩
    have a1 := Int.mul_le_mul_of_nonneg_right k1 (show 0 ≤ t.1 by omega)
    have a2 := Int.mul_le_mul_of_nonneg_right k2 (show 0 ≤ s.1 by omega)
    have a3 := Int.mul_nonneg (Int.mul_nonneg g1 (show 0 ≤ s.1 by omega)) (show 0 ≤ t.1 by omega)
    have e : s.2 * W * t.1 + (0 - t.2) * W * s.1 - (ht (s :: U) * s.1 * t.1 + (0 - ht (t :: V)) * t.1 * s.1) = (s.2 * t.1 - t.2 * s.1) * W - (ht (s :: U) - ht (t :: V)) * s.1 * t.1 := by grind
    have f : 0 ≤ (s.2 * t.1 - t.2 * s.1) * W := by omega
    by_cases c : t.2 * s.1 ≤ s.2 * t.1
    · exact c
    · have := Int.mul_neg_of_neg_of_pos (show s.2 * t.1 - t.2 * s.1 < 0 by omega) (show 0 < W by omega)
      omega
  refine room_zero (p := lnK f s x (y + gap)) (q := lnK g (t.1, 0 - t.2) x (0 - y)) List.mem_cons_self (by rw [ng_lns]; exact List.mem_cons_self) (pu _ List.mem_cons_self) (pv _ List.mem_cons_self) ?_
  rw [hh_lnK, hh_lnK, g0, Int.add_zero]
  show (s.2 * (X - x) + y * s.1) * f * (t.1 * g) + ((0 - t.2) * (X - x) + (0 - y) * t.1) * g * (s.1 * f) < 0
  rw [show (s.2 * (X - x) + y * s.1) * f * (t.1 * g) + ((0 - t.2) * (X - x) + (0 - y) * t.1) * g * (s.1 * f) = 0 - (s.2 * t.1 - t.2 * s.1) * (x - X) * (f * g) by grind]
  have := Int.mul_pos (Int.mul_pos (show 0 < s.2 * t.1 - t.2 * s.1 by omega) (show 0 < x - X by omega)) (Int.mul_pos hf hg)
  omega
theorem ngS_app (A B : List Sd) : ngS (A ++ B) = ngS A ++ ngS B := List.map_append
/-- behind the last corner, where it is one -/
theorem Crn.behind {s t : Sd} {U V : List Sd} {W gap f g x y X : Int} (h : Crn (U ++ [s]) (V ++ [t]) W gap) (hf : 0 < f) (hg : 0 < g) (g1 : gap + (ht (U ++ [s]) - ht (V ++ [t])) = 0) (ne : ¬ s.2 * t.1 = t.2 * s.1) (hX : x + W < X) : Z.room (lnsK f (U ++ [s]) x (y + gap)) (lnsK g (V ++ [t]) x y) X = 0 := by
  have hu := h.u
  have hv := h.v
  rw [ngS_app] at hv
  have pu := pos_lnsK hf hu.pos (x := x) (y := y + gap)
  have pv := pos_lnsK hg hv.pos (x := x) (y := 0 - y)
  have ps := hu.pos s (by simp)
  have pt : 1 ≤ t.1 := hv.pos (t.1, 0 - t.2) (by unfold ngS; simp)
  have w1 := h.wu
  have w2 := h.wv
  have fu := List.pairwise_append.mp hu.fl
  have fv := List.pairwise_append.mp hv.fl
  have k1 : s.2 * wd (U ++ [s]) ≤ ht (U ++ [s]) * s.1 := fl_ht2 fun c hc => by
    rcases List.mem_append.mp hc with hc | hc
    · exact fu.2.2 c hc s (by simp)
    · rw [List.mem_singleton.mp hc]; exact Int.le_of_eq rfl
  have k2 : (0 - t.2) * wd (ngS V ++ ngS [t]) ≤ ht (ngS V ++ ngS [t]) * t.1 := fl_ht2 (p := (t.1, 0 - t.2)) fun c hc => by
    rcases List.mem_append.mp hc with hc | hc
    · exact fv.2.2 c hc (t.1, 0 - t.2) (by unfold ngS; simp)
    · rw [show c = (t.1, 0 - t.2) from List.mem_singleton.mp hc]; exact Int.le_of_eq rfl
  rw [← ngS_app, ng_ht, ng_wd, w2] at k2
  rw [w1] at k1
  have g0 := h.g0
  have W1 : 1 ≤ W := by
    have b := wd_nn (S := U) fun c hc => hu.pos c (by simp [hc])
    have e : wd (U ++ [s]) = wd U + (s.1 + 0) := wd_app _ _
    omega
  have st : s.2 * t.1 < t.2 * s.1 := by
    refine Int.lt_iff_le_and_ne.mpr ⟨?_, ne⟩
    have a1 := Int.mul_le_mul_of_nonneg_right k1 (show 0 ≤ t.1 by omega)
    have a2 := Int.mul_le_mul_of_nonneg_right k2 (show 0 ≤ s.1 by omega)
    have a3 := Int.mul_nonneg (Int.mul_nonneg (show 0 ≤ ht (V ++ [t]) - ht (U ++ [s]) by omega) (show 0 ≤ s.1 by omega)) (show 0 ≤ t.1 by omega)
    have e : ht (U ++ [s]) * s.1 * t.1 + (0 - ht (V ++ [t])) * t.1 * s.1 - (s.2 * W * t.1 + (0 - t.2) * W * s.1) = (t.2 * s.1 - s.2 * t.1) * W - (ht (V ++ [t]) - ht (U ++ [s])) * s.1 * t.1 := by grind
    have f : 0 ≤ (t.2 * s.1 - s.2 * t.1) * W := by omega
    by_cases c : s.2 * t.1 ≤ t.2 * s.1
    · exact c
    · have := Int.mul_neg_of_neg_of_pos (show t.2 * s.1 - s.2 * t.1 < 0 by omega) (show 0 < W by omega)
      omega
  have i1 := in_lnsK f U s [] x (y + gap)
  have i2 := in_lnsK g (ngS V) (t.1, 0 - t.2) [] x (0 - y)
  refine room_zero (p := lnK f s (x + wd U) (y + gap + ht U)) (q := lnK g (t.1, 0 - t.2) (x + wd (ngS V)) (0 - y + ht (ngS V))) i1 (by rw [ng_lns, ngS_app]; exact i2) (pu _ i1) (pv _ i2) ?_
  rw [hh_lnK, hh_lnK, ng_wd, ng_ht]
  have ew1 : wd (U ++ [s]) = wd U + (s.1 + 0) := wd_app _ _
  have eh1 : ht (U ++ [s]) = ht U + (s.2 + 0) := ht_app _ _
  have ew2 : wd (V ++ [t]) = wd V + (t.1 + 0) := wd_app _ _
  have eh2 : ht (V ++ [t]) = ht V + (t.2 + 0) := ht_app _ _
  have a1 : wd U = W - s.1 := by omega
  have a2 : wd V = W - t.1 := by omega
  have a3 : ht U = ht V + t.2 - s.2 - gap := by omega
  rw [a1, a2, a3]
  show (s.2 * (X - (x + (W - s.1))) + (y + gap + (ht V + t.2 - s.2 - gap)) * s.1) * f * (t.1 * g) + ((0 - t.2) * (X - (x + (W - t.1))) + (0 - y + (0 - ht V)) * t.1) * g * (s.1 * f) < 0
  rw [show (s.2 * (X - (x + (W - s.1))) + (y + gap + (ht V + t.2 - s.2 - gap)) * s.1) * f * (t.1 * g) + ((0 - t.2) * (X - (x + (W - t.1))) + (0 - y + (0 - ht V)) * t.1) * g * (s.1 * f) = 0 - (t.2 * s.1 - s.2 * t.1) * (X - (x + W)) * (f * g) by grind]
  have := Int.mul_pos (Int.mul_pos (show 0 < t.2 * s.1 - s.2 * t.1 by omega) (show 0 < X - (x + W) by omega)) (Int.mul_pos hf hg)
  omega
end Z

namespace Z
open PySem PySem.Spec PyProof.Rows L2
variable {ω : Type}
/-! ### our own list: an item out, an item in; truths told apart by `is` -/
theorem sq_in {n : Nat} {k : Int} (h0 : 0 ≤ k) (h1 : k < n) : seqIndex? k n = some k.toNat := by
  have e1 : ¬ k < 0 := by omega
  unfold seqIndex?
  simp [e1, h0, h1]
def zPopO (i : Nat) (te : TEZ ω) : TSZ ω := fun DE δ w => onOwn δ i fun l => te δ w (fun d w1 => intD d fun k => (0 ≤ k ∧ k < l.length ∧ l.length ≤ 100000) ∧ DE.nx (δ.set i (.own (l.eraseIdx k.toNat))) w1) (fun e w' => DE.ex e δ w')
def zInsO (i : Nat) (tk te : TEZ ω) : TSZ ω := fun DE δ w => onOwn δ i fun l => tk δ w (fun y w1 => te δ w1 (fun d w2 => intD y fun k => (0 ≤ k ∧ k ≤ l.length ∧ l.length < 100000) ∧ DE.nx (δ.set i (.own (l.take k.toNat ++ [d] ++ l.drop k.toNat))) w2) (fun e w' => DE.ex e δ w')) (fun e w' => DE.ex e δ w')
section
variable {X : Cx} {W : Wp ω} {pos pos' p : Pos} {x : Str} {e f : Expr} {te tk : TEZ ω}
theorem z_popO (i : Nat) {pm : Pos} (he : PEZ X W e te) (hN : X.N[i]? = some x := by rfl) (hv : Vis X.env.scope x := by first | exact Or.inl rfl | exact Or.inr (Or.inl rfl) | exact Or.inr (Or.inr rfl)) (hd : (x == ("__debug__" : Str)) = false := by decide)
    (hcd : (x == ("__classdict__" : Str)) = false := by decide) (hs : swapsWith (.Call (.Attribute (.Name x p) "pop" pm) [e] [] pos') none pos.line X.env = pure false := by rfl)
    (hpe : ∀ {t : TE}, PE X e t → PE X (.Call (.Attribute (.Name x p) "pop" pm) [e] [] pos') (tBM X.K "list" rPopAt (tVar i) (tCons t tNil)) := by
      intro t ht
      exact pe_bm PySem.F.plainAttrs_list PySem.F.slot_list_pop PySem.F.type_list_pop mt_popAt (pv _) (pa_cons ht pa_nil)) :
    PSZ X W (.Expr (.Call (.Attribute (.Name x p) "pop" pm) [e] [] pos') pos) (zPopO i te) := fun Z ex tk =>
  psI (ps_expr (hpe (he.run Z ex tk)) hs) fun DE σ H ⟨Dz, hex, EI, G, M, δ, w, a, h⟩ => by
  subst hex
  obtain ⟨l, hl, h⟩ := h.of
  obtain ⟨p, vs, h1, h2, h3, h4⟩ := a.own hl
  refine ⟨.ref p, h1, .inl ⟨rfl, _, SqL.of h2⟩, G, M, δ, w, a, he.mo (fun d w1 q1 v H1 G1 M1 o1 r1 => ?_) h⟩
  obtain ⟨k, rfl, ⟨k0, k1, k2⟩, q⟩ := q1.of
  cases r1
  have a1 := a.go o1
  have r4 := h4.up o1.nx.gg
  have kl : k.toNat < vs.length := by rw [r4.len]; omega
  have k3 : k < vs.length := by rw [r4.len]; omega
  have big : (100000 : Int) < 2 ^ 63 := by decide
  exact ⟨p, vs, k, k.toNat, vs[k.toNat], rfl, rfl, o1.nx.fr p _ h2 h3, by omega, by omega, sq_in k0 k3, List.getElem?_eq_getElem kl, EI.nx _ _ ⟨G1, M1, _, w1, a1.change hl h1 (RepL.erase _ r4), q⟩⟩
theorem z_insO (i : Nat) {pm : Pos} (hk : PEZ X W f tk) (he : PEZ X W e te) (hN : X.N[i]? = some x := by rfl) (hv : Vis X.env.scope x := by first | exact Or.inl rfl | exact Or.inr (Or.inl rfl) | exact Or.inr (Or.inr rfl)) (hd : (x == ("__debug__" : Str)) = false := by decide)
    (hcd : (x == ("__classdict__" : Str)) = false := by decide) (hs : swapsWith (.Call (.Attribute (.Name x p) "insert" pm) [f, e] [] pos') none pos.line X.env = pure false := by rfl)
    (hpe : ∀ {u t : TE}, PE X f u → PE X e t → PE X (.Call (.Attribute (.Name x p) "insert" pm) [f, e] [] pos') (tBM X.K "list" (fun x vs H Q => ∃ (l : Addr) (xs : List V) (i : Int) (y : V), x = .ref l ∧ vs = [.int i, y] ∧ H l = some (.lst xs) ∧ xs.length < sizeLine ∧ 0 ≤ i ∧ i < 2 ^ 63 ∧ Q .non (upd H l (.lst (xs.take i.toNat ++ [y] ++ xs.drop i.toNat)))) (tVar i) (tCons u (tCons t tNil))) := by
      intro u t hu ht
      exact pe_bm PySem.F.plainAttrs_list PySem.F.slot_list_insert PySem.F.type_list_insert mt_insert (pv _) (pa_cons hu (pa_cons ht pa_nil))) :
    PSZ X W (.Expr (.Call (.Attribute (.Name x p) "insert" pm) [f, e] [] pos') pos) (zInsO i tk te) := fun Z ex tk' =>
  psI (ps_expr (hpe (hk.run Z ex tk') (he.run Z ex tk')) hs) fun DE σ H ⟨Dz, hex, EI, G, M, δ, w, a, h⟩ => by
  subst hex
  obtain ⟨l, hl, h⟩ := h.of
  obtain ⟨p, vs, h1, h2, h3, h4⟩ := a.own hl
  refine ⟨.ref p, h1, .inl ⟨rfl, _, SqL.of h2⟩, G, M, δ, w, a, hk.mo (fun y w1 q1 v H1 G1 M1 o1 r1 => ⟨G1, M1, δ, w1, a.go o1, he.mo (fun d w2 q2 v2 H2 G2 M2 o2 r2 => ?_) q1⟩) h⟩
  obtain ⟨k, rfl, ⟨k0, k1, k2⟩, q⟩ := q2.of
  cases r1
  have o := o1.tr o2
  have a1 := a.go o
  have r4 := h4.up o.nx.gg
  have big : (100000 : Int) < 2 ^ 63 := by decide
  exact ⟨p, vs, k, v2, rfl, rfl, o.nx.fr p _ h2 h3, by rw [r4.len, sizeLine_eq]; omega, k0, by omega, EI.nx _ _ ⟨G2, M2, _, w2, a1.change hl h1 (((r4.take _).app (.cons r2 .nil)).app (r4.drop _)), q⟩⟩
end
/-! truths -/
def isBlD (neg : Bool) : OpD := fun x y q => match x, y with | .bl a, .bl b => q (.bl (if neg then !decide (a = b) else decide (a = b))) | _, _ => False
def isBD : OpD := fun x y q => match x, y with | .bl a, .bl b => q (.bl (a == b)) | _, _ => False
def notBD : OpD := fun x y q => match x, y with | .bl a, .bl b => q (.bl (!(a == b))) | _, _ => False
theorem l_isB {K : PySem.W.Frag} : Lnd K rIsB isBD where
  mo := fun {x y q q'} k h => by
    unfold isBD at h ⊢
    split at h
    · exact k _ h
    · exact h.elim
  go := fun H G x y dx dy q Q e rx ry h k _ => by
    unfold isBD at h
    split at h
    · rename_i a b
      cases rx; cases ry
      have z : decide (a = b) = (a == b) := by cases a <;> cases b <;> rfl
      exact ⟨_, _, rfl, rfl, by rw [z]; exact k _ _ h (.bl _)⟩
    · exact h.elim
theorem l_notB {K : PySem.W.Frag} : Lnd K rNotB notBD where
  mo := fun {x y q q'} k h => by
    unfold notBD at h ⊢
    split at h
    · exact k _ h
    · exact h.elim
  go := fun H G x y dx dy q Q e rx ry h k _ => by
    unfold notBD at h
    split at h
    · rename_i a b
      cases rx; cases ry
      have z : decide (a = b) = (a == b) := by cases a <;> cases b <;> rfl
      exact ⟨_, _, rfl, rfl, by rw [z]; exact k _ _ h (.bl _)⟩
    · exact h.elim
end Z

namespace Z
open PySem PySem.Spec PyProof.Rows L2
variable {ω : Type}

/-! ### enumerate of a list, of a tuple -/
theorem mk_enumB {v : Value} {o : Obj} {Hq : Heap → Prop} (B : Begins v o Hq) :
    Meets (Builtin.«enumerate.__new__» ⟨[.type "enumerate", v], []⟩) (fun _ R s => Hq s.heap ∧
      R (.ok (.ret (.ref (s.heap.push o).objs.size))) { s with heap := (s.heap.push o).push { cls := .type "enumerate", data := .fields #[.none, .bool false, .ref s.heap.objs.size, rawInt 0, .none, .none] } }) :=
  .of_wp fun prog w A R s h => by
    obtain ⟨hp, g, dd, tk, ow⟩ := s; obtain ⟨h1, h⟩ := h
    have e1 := sub_enumerate
    have it1 : ∀ {A2 : Around} {E2 : Value → Shared → Prop} {Q2 : Value → Shared → Prop}, Q2 (.ref hp.objs.size) ⟨hp.push o, g, dd, tk, ow⟩ → wpAny (model prog w) A2 (pyIter v) Q2 E2 ⟨hp, g, dd, tk, ow⟩ :=
      fun q2 => B.iter prog w _ _ ⟨hp, g, dd, tk, ow⟩ _ h1 q2
    wp_walk using it1
    refine wpAny_stack_any fun k => wpAny_pure ?_
    split
    · rename_i c _ _ _ _ _
      cases (c == Value.type "enumerate")
      all_goals
        wp_walk using it1
        exact ⟨_, rfl, h⟩
    · wp_walk using it1; exact ⟨_, rfl, h⟩
theorem call_enumB {prog : Program} {w : World} {A : Around} {E : Value → Shared → Prop} {s : Shared} {v : Value} {o : Obj} {Hq : Heap → Prop} {Q : Value → Shared → Prop} (B : Begins v o Hq) (h1 : Hq s.heap)
    (h : ∀ h', IsEnum h' (s.heap.objs.size + 1) s.heap.objs.size 0 .none → h'.get? s.heap.objs.size = some o → (∀ b o2, s.heap.get? b = some o2 → h'.get? b = some o2) → Q (.ref (s.heap.objs.size + 1)) { s with heap := h' }) :
    wpAny (model prog w) A (call (.type "enumerate") [v]) Q E s := by
  refine callType_new F.called_enumerate (by decide) (F.typeCall_enumerate_1 _) (F.newCall_enumerate_1 _) (fun obj => F.args_object_init_2 obj _) F.entry_enumerate_new (mk_enumB B) ⟨h1, ?_⟩
  have hz : (s.heap.push o).objs.size = s.heap.objs.size + 1 := Heap.size_push ..
  show _ ∧ _; rw [hz]
  have he : IsEnum ((s.heap.push o).push { cls := .type "enumerate", data := .fields #[.none, .bool false, .ref s.heap.objs.size, rawInt 0, .none, .none] }) (s.heap.objs.size + 1) s.heap.objs.size 0 .none := by
    have q := Heap.get?_push_size (s.heap.push o) (o := { cls := .type "enumerate", data := .fields #[.none, .bool false, .ref s.heap.objs.size, rawInt 0, .none, .none] }) rfl
    rw [hz] at q; exact q
  exact ⟨⟨_, he, rfl⟩, h _ he (Heap.get?_push_of_some _ (Heap.get?_push_size _ B.free)) fun b o2 x => Heap.get?_push_of_some _ (Heap.get?_push_of_some _ x)⟩
/-- the tuple at a, each item in a new pair with its number -/
def IteT (K : PySem.W.Frag) (a : Addr) : It :=
  ⟨fun i H => ∃ (xs : List V) (x : V), SqT K H a xs ∧ xs[i]? = some x, fun i H v H' => ∃ T x, v = .ref T ∧ H T = none ∧ H' = upd H T (.tup [.int (i : Nat), x]) ∧ ∀ xs, SqT K H a xs → xs[i]? = some x, fun i H => ∃ xs : List V, SqT K H a xs ∧ xs.length = i⟩
theorem turn_enumT {P : Program} {w : World} {K : PySem.W.Frag} {elts : List Expr} {kk : Nat} {tpos : Pos} (a e it : Addr) :
    Turn P w K (.Tuple elts kk tpos) (IteT K a) [e, it] e (fun i h => (∃ old, IsEnum h e it ((i : Nat) : Int) old) ∧ h.IsTupleIter it a i ∧ e ≠ it ∧ e ≠ a ∧ a ≠ it) where
  mem := List.mem_cons_self
  obj := fun i h st b hb => by
    obtain ⟨⟨old, he⟩, ⟨o, ho, hc, hd⟩, _⟩ := st
    rcases List.mem_cons.mp hb with z | hb
    · rw [z]; exact ⟨_, he, fun v q => nomatch q⟩
    · rw [List.mem_singleton.mp hb]; exact ⟨o, ho, fun v q => by rw [hd] at q; cases q⟩
  keep := fun i h h' st k => let ⟨⟨old, he⟩, hi, hne⟩ := st; ⟨⟨old, k e (by simp) _ he⟩, hi.at fun o q => k it (by simp) o q, hne⟩
  item := by
    intro X hP hw hK hc i pins s σ H E I hf st hg; subst hP hw hK
    obtain ⟨⟨old, he⟩, hit, n1, n2, n3⟩ := st
    obtain ⟨xs, x, hq, hx⟩ := hg
    obtain ⟨its, rv, p, hz⟩ := I.tuple hq
    obtain ⟨u, hu, ru⟩ := rv.get hx
    have le : e < s.heap.objs.size := Heap.lt_size he
    have li : it < s.heap.objs.size := by obtain ⟨_, q, _⟩ := hit; exact Heap.lt_size q
    have hlt : i < its.toArray.size := by have := (List.getElem?_eq_some_iff.mp hu).1; simpa using this
    have nm : e ∉ [it, a] := by simp [n1, n2]
    refine wpAny_pyNext_enum_itemC (Draws.tuple (A := X.A.in1) (I.ok.hd hc) it a n3 its.toArray) he ⟨hit, p⟩ hlt n1 nm fun x2 h' tk hx2 ho hst hT hsz hk => ?_
    obtain rfl : u = x2 := by
      have hx2 : its.toArray[i]? = some x2 := hx2
      rw [List.getElem?_toArray, hu] at hx2
      exact Option.some.inj hx2
    refine ⟨_, rfl, wpAny_letOwnedTupleGo_enum (s := { s with heap := h', toks := tk + 1 }) ho fun h2 he2 sb => ?_⟩
    have hT2 : h2.get? s.heap.objs.size = some { cls := .type "tuple", data := .seq #[.int i tk, u] } := (sb.2 _ (Nat.ne_of_gt le)).trans hT
    have nw : ObjOk X.prog X.w (upd H s.heap.objs.size (.tup [.int (i : Nat), x])) h2 s.heap.objs.size (.tup [.int (i : Nat), x]) := ⟨by show 2 ≤ sizeLine; decide, [.int i tk, u], .cons ⟨_, rfl⟩ (.cons ru .nil), ⟨_, hT2, rfl, _, rfl⟩⟩
    have I1 : Inv X pins σ (upd H s.heap.objs.size (.tup [.int (i : Nat), x])) { s with heap := h2, toks := tk + 1 } :=
      I.turnedNew (ch := [e, it]) (fun b ob hb q => (sb.2 b (fun z => hb (by simp [z]))).trans (hk b ob (fun z => hb (by simp [z])) (fun z => hb (by simp [z])) q)) hf (Nat.le_refl _) nw
    refine ⟨.ref s.heap.objs.size, _, I1, rfl, ⟨_, x, rfl, I.hok.fresh (Nat.le_refl _), rfl, fun ys hy => by rw [I.tuple_inj hy hq]; exact hx⟩, ⟨⟨u, ?_⟩, hst.1.at fun o q => (sb.2 it (Ne.symm n1)).trans q, n1, n2, n3⟩, fun b hb => ?_⟩
    · rw [show ((i + 1 : Nat) : Int) = (i : Int) + 1 by omega]; exact he2
    · have hb' : b < s.heap.objs.size := by
        rcases List.mem_cons.mp hb with z | hb
        · rw [z]; exact le
        · rw [List.mem_singleton.mp hb]; exact li
      rw [upd_ne (Nat.ne_of_lt hb')]; exact (hf b hb).1
  done := by
    intro X hP hw hK hc i pins s σ H E I hf st hg; subst hP hw hK
    obtain ⟨⟨old, he⟩, hit, n1, n2, n3⟩ := st
    obtain ⟨xs, hq, hx⟩ := hg
    obtain ⟨its, rv, p, hz⟩ := I.tuple hq
    obtain ⟨f0, f1, f2, f3, f4, f5⟩ := hf it (by simp)
    have hl : its.toArray.size = i := by have := rv.length; simp; omega
    refine wpAny_pyNext_enum_endD (Draws.tuple (A := X.A.in1) (I.ok.hd hc) it a n3 its.toArray) he ⟨?_, p⟩ fun h' eb => ⟨rfl, I.turned (t' := s.toks) (fun b o hb q => eb b o hb q) f0 f1 f3 f4 f5⟩
    rw [hl]; exact hit
  self := fun A i s Q E st h => let ⟨⟨_, he⟩, _⟩ := st; wpAny_pyIter_enum he h
def iEnumA (K : PySem.W.Frag) (ta : TA) : TI := fun σ H R => ta σ H fun vs H1 => ∃ a xs, vs = [.ref a] ∧ ((SqL K H1 a xs ∧ R (Ite K a) H1) ∨ (SqT K H1 a xs ∧ R (IteT K a) H1))
theorem pi_enumA {X : Cx} {e : Expr} {ta : TA} {p pos tpos : Pos} {elts : List Expr} {kk : Nat} (hg : Gl X "enumerate") (hm : X.mg "enumerate" = none) (ha : PA X [e] ta) (hs : starEach [e] X.env = [(false, eval e X.env)] := by rfl) :
    PI X (.Tuple elts kk tpos) (.Call (.Name "enumerate" p) [e] [] pos) (iEnumA X.K ta) := by
  refine ⟨fun pins s σ H R I h => ?_⟩
  refine Call_ (ld_blt I hg hm boot_enumerate (PyProof.Rows.callWith_type1 (thn (ha.run pos pins s σ H _ I h) fun us s1 ⟨vs, H1, I1, r1, a, xs, ex, q1⟩ => ?_) hs rfl)); subst ex
  cases r1 with
  | cons r rr =>
    cases rr; cases r
    have fr : ∀ b ∈ [s1.heap.objs.size + 1, s1.heap.objs.size], FpOk X pins H1 b := fun b hb => by
      have hle : s1.heap.objs.size ≤ b := by
        rcases List.mem_cons.mp hb with z | hb
        · rw [z]; exact Nat.le_add_right _ _
        · rw [List.mem_singleton.mp hb]; exact Nat.le_refl _
      exact I1.fpOk hle (I1.hok.fresh hle)
    rcases q1 with ⟨hq, q⟩ | ⟨hq, q⟩
    · obtain ⟨its, rv, p', hz⟩ := I1.list hq
      refine call_enumerate_list p'.isList fun h' he hit hsz hk => wpAny_pyIter_enum he ?_
      exact ⟨s1.heap.objs.size + 1, [s1.heap.objs.size + 1, s1.heap.objs.size], _, _, H1, rfl, I1.kept (t' := s1.toks) hk, turn_enum a (s1.heap.objs.size + 1) s1.heap.objs.size, ⟨⟨.none, he⟩, hit, Nat.succ_ne_self _⟩, fr, q⟩
    · obtain ⟨its, rv, p', hz⟩ := I1.tuple hq
      obtain ⟨o1, ho1, -⟩ := id p'
      have hl : a < s1.heap.objs.size := Heap.lt_size ho1
      refine call_enumB (begins_tuple a its.toArray) p' fun h' he hit hk => wpAny_pyIter_enum he ?_
      exact ⟨s1.heap.objs.size + 1, [s1.heap.objs.size + 1, s1.heap.objs.size], _, _, H1, rfl, I1.kept (t' := s1.toks) hk, turn_enumT a (s1.heap.objs.size + 1) s1.heap.objs.size, ⟨⟨.none, he⟩, ⟨_, hit, rfl, rfl⟩, Nat.succ_ne_self _, Nat.ne_of_gt (Nat.lt_succ_of_lt hl), Nat.ne_of_lt hl⟩, fr, q⟩
theorem walk_enumT {K : PySem.W.Frag} {a : Addr} {xs : List V} : Walk (IteT K a) xs.length (fun H => SqT K H a xs) (YPair (fun i => some (.int (i : Nat))) (fun i => xs[i]?)) := by
  refine ⟨fun i _ hi q => ⟨xs, xs[i], q, by simp [hi]⟩, fun _ q => ⟨xs, q, rfl⟩, fun i H v H' _ q y => ?_⟩
  obtain ⟨T, x, g1, g2, g3, g4⟩ := y
  exact ⟨T, .int (i : Nat), x, g1, g2, g3, rfl, g4 xs q⟩
def enumL (l : List D) : List D := l.mapIdx fun i d => .tup [.int (i : Nat), d]
theorem enumL_at {l : List D} {i : Nat} {d : D} (h : l[i]? = some d) : (enumL l)[i]? = some (.tup [.int (i : Nat), d]) := by
  unfold enumL; rw [List.getElem?_mapIdx, h]; rfl
theorem enumL_of {l : List D} {i : Nat} {d : D} (h : (enumL l)[i]? = some d) : ∃ x, l[i]? = some x ∧ d = .tup [.int (i : Nat), x] := by
  unfold enumL at h; rw [List.getElem?_mapIdx] at h
  obtain ⟨x, hx, rfl⟩ := Option.map_eq_some_iff.mp h
  exact ⟨x, hx, rfl⟩
theorem enumL_len (l : List D) : (enumL l).length = l.length := by unfold enumL; rw [List.length_mapIdx]
def zEnum (ta : TAZ ω) : TAZ ω := fun δ w Q E => ta δ w (fun l w1 => match l with | [.lst x] => Q (enumL x) w1 | [.arr x] => Q (enumL x) w1 | [.tup x] => Q (enumL x) w1 | _ => False) E
theorem wk_enum {K : PySem.W.Frag} {G : Hp} {J : It} {xs : List V} {l : List D} {Gd : Hp → Prop} (hw : Walk J xs.length Gd (YPair (fun i => some (.int (i : Nat))) (fun i => xs[i]?))) (gd : ∀ H, Ext G H → Gd H) (r : RepL K G xs l) : WkZ K G J (enumL l) := by
  have hl : (enumL l).length = xs.length := by rw [enumL_len, r.len]
  refine ⟨Gd, YPair (fun i => some (.int (i : Nat))) (fun i => xs[i]?), by rw [hl]; exact hw, gd, ?_⟩
  rintro i H x H' hi ⟨T, u, v, e1, e2, e3, e4, e5⟩
  refine .inr ?_
  obtain ⟨d1, f1, r1⟩ := r.getV e5
  cases e4
  exact ⟨T, [.int (i : Nat), v], [.int (i : Nat), d1], e1, e2, e3, .cons (.int _) (.cons r1 .nil), enumL_at f1⟩
theorem i_enum {X : Cx} {W : Wp ω} {e : Expr} {ta : TAZ ω} {p pos tpos : Pos} {elts : List Expr} {kk : Nat} (hm : X.mg "enumerate" = none) (ha : PAZ X W [e] ta) (hg : Gl X "enumerate" := by rfl) (hs : starEach [e] X.env = [(false, eval e X.env)] := by rfl) :
    PIZ X W (.Tuple elts kk tpos) (.Call (.Name "enumerate" p) [e] [] pos) (zEnum ta) := by
  refine ⟨fun {δ w Q Q' E} k h => ha.mo (fun l w1 h1 => ?_) h, fun Z ex tk => piI (pi_enumA hg hm (ha.run Z ex tk) hs) fun σ H R ⟨G, M, δ, w, a, h⟩ => ⟨G, M, δ, w, a, ha.mo (fun l w1 h1 vs H1 G1 M1 o1 r1 => ?_) h⟩⟩
  · split at h1
    · exact k _ _ h1
    · exact k _ _ h1
    · exact k _ _ h1
    · exact h1.elim
  · split at h1
    · obtain ⟨v, rfl, rv⟩ := one_rep r1
      cases rv with
      | @lst q xs _ s1 q1 => exact ⟨q, xs, rfl, .inl ⟨.inl (.inl (o1.pt.gh _ _ s1)), h1 H1 G1 M1 _ o1 (wk_enum walk_enum (fun H2 e2 => .inl (.inl (e2 _ _ s1))) q1)⟩⟩
    · obtain ⟨v, rfl, rv⟩ := one_rep r1
      cases rv with
      | @arr q xs _ s1 q1 => exact ⟨q, xs, rfl, .inl ⟨sqLE o1.pt.gh s1, h1 H1 G1 M1 _ o1 (wk_enum walk_enum (fun H2 e2 => sqLE e2 s1) q1)⟩⟩
    · obtain ⟨v, rfl, rv⟩ := one_rep r1
      cases rv with
      | @tup q xs _ s1 q1 => exact ⟨q, xs, rfl, .inr ⟨sqTE o1.pt.gh s1, h1 H1 G1 M1 _ o1 (wk_enum walk_enumT (fun H2 e2 => sqTE e2 s1) q1)⟩⟩
    · exact h1.elim
end Z

namespace Z
open PySem PySem.Spec PyProof.Rows L2
/-! ### new lists that the world holds from now on -/
def zNewW (tf : TAZ Mst) : TEZ Mst := fun δ w Q E => tf δ w (fun l w1 => ∀ p, wGet w1 p = none → Q (.ref p) ((p, l) :: w1)) E
def zTupW (ta : TEZ Mst) : TEZ Mst := fun δ w Q E => ta δ w (fun x w1 => onRef x fun a => ∃ l, wGet w1 a = some l ∧ Q (.tup l) w1) E
section
variable {X : Cx} {ec : Nat → Addr} {pos p : Pos} {a e : Expr} {ta : TEZ Mst} {tf : TAZ Mst}
theorem z_newW (h : PFZ X (WL X.K ec) e tf) : PEZ X (WL X.K ec) e (zNewW tf) := ⟨fun k q => h.mo (fun _ _ q1 p hp => k _ _ (q1 p hp)) q, fun Z ex tk => peI (h.run Z ex tk) fun σ H Q ⟨G, M, δ, w, s, q⟩ =>
  ⟨G, M, δ, w, s, h.mo (fun l w1 q1 p vs H1 G1 M1 o1 r1 n1 => by
    obtain ⟨o2, hw⟩ := newW (m := l) o1 n1.1 n1.2.1 n1.2.2.1 n1.2.2.2 r1
    exact q1 p hw (.ref p) H1 G1 _ o2 (.ref p)) q⟩⟩
theorem z_tupW (hm : X.mg "tuple" = none) (ha : PEZ X (WL X.K ec) a ta) (hg : Gl X "tuple" := by rfl) (he : starEach [a] X.env = (false, eval a X.env) :: starEach [] X.env := by rfl) (hpl : (backTo pos (starEach [] X.env)).any (·.1) = false := by rfl) : PEZ X (WL X.K ec) (.Call (.Name "tuple" p) [a] [] pos) (zTupW ta) :=
  ⟨fun k h => ha.mo (fun _ _ h1 => h1.imp fun q ⟨l, g1, g2⟩ => ⟨l, g1, k _ _ g2⟩) h, fun Z ex tk => peI (pe_callTy call_tuple_of hg hm (by decide +kernel) (pa_cons (ha.run Z ex tk) pa_nil he) (by decide) (by decide) he hpl) fun σ H Q ⟨G, M, δ, w, s, h⟩ =>
    ⟨G, M, δ, w, s, ha.mo (fun d w1 h1 v H1 G1 M1 o1 r1 => by
      obtain ⟨q, rfl, l, g1, g2⟩ := h1.of
      cases r1
      obtain ⟨vs, m1, m2⟩ := o1.pt.wd.2 q l g1
      exact ⟨q, vs, rfl, .inl ⟨.inl (.inl (o1.pt.mh _ _ m1)), fun p' hp => g2 (.ref p') _ _ _ (o1.new (o := .tup vs) hp) (.tup (SqT.of upd_same) (m2.up (o1.ext hp)))⟩⟩) h⟩⟩
end
end Z

namespace Z
open PySem PySem.Spec PyProof.Rows L2
/-! ### a list of the world: compared, made longer, an item out, gone along with numbers -/
def atRef (δ : List Sl) (i : Nat) (f : Addr → Prop) : Prop := match δ[i]? with | some (.val (.ref p)) => f p | _ => False
theorem atRef.of {δ : List Sl} {i : Nat} {f : Addr → Prop} (h : atRef δ i f) : ∃ p, δ[i]? = some (.val (.ref p)) ∧ f p := by
  unfold atRef at h
  split at h
  · exact ⟨_, by assumption, h⟩
  · exact h.elim
theorem atRef.to {δ : List Sl} {i : Nat} {f : Addr → Prop} {p : Addr} (e : δ[i]? = some (.val (.ref p))) (h : f p) : atRef δ i f := by unfold atRef; rw [e]; exact h
theorem atRef.imp {δ : List Sl} {i : Nat} {f g : Addr → Prop} (k : ∀ l, f l → g l) (h : atRef δ i f) : atRef δ i g := let ⟨_, e, q⟩ := h.of; .to e (k _ q)
theorem goW {K : PySem.W.Frag} {ec : Nat → Addr} {H G M : Hp} {w : Mst} {a : Addr} {l m : List D} {us : List V} (s : Pt (WL K ec) H G M w) (h : wGet w a = some l) (r : RepL K G us m) :
    Go (WL K ec) H G M (upd H a (.lst us)) G (upd M a (.lst us)) (wSet w a m) := by
  have wd : okW K w G M := s.wd
  obtain ⟨vs, h1, h2⟩ := wd.2 a l h
  have hG : G a = none := by
    cases q : G a with
    | none => rfl
    | some x => rw [s.dj a x q] at h1; cases h1
  have hM : ∀ p x, upd M a (.lst us) p = some x → M p ≠ none := fun p x e z => by
    by_cases k : p = a
    · rw [k, h1] at z; cases z
    · rw [upd_ne k, z] at e; cases e
  refine ⟨⟨fun p x e => ?_, fun p x e => ?_, fun p x e => ?_, ⟨fun p o e => ?_, fun p l' e => ?_⟩⟩, ⟨.rfl', fun p x e e' => ?_, fun p x e e' => (by rw [e] at e'; cases e'), fun p x e e' => absurd e' (hM p x e), fun p x e => ?_⟩⟩
  · rw [upd_ne (ne_of_none e hG)]; exact s.gh p x e
  · by_cases k : p = a
    · subst k; rw [upd_same] at e ⊢; exact e
    · rw [upd_ne k] at e ⊢; exact s.mh p x e
  · rw [upd_ne (ne_of_none e hG)]; exact s.dj p x e
  · rw [wGet_set]
    by_cases k : p = a
    · rw [if_pos k, h]; exact ⟨_, rfl⟩
    · rw [if_neg k]; rw [upd_ne k] at e; exact wd.1 p o e
  · rw [wGet_set] at e
    by_cases k : p = a
    · subst k
      rw [if_pos rfl, h] at e
      cases e
      exact ⟨us, upd_same, r⟩
    · rw [if_neg k] at e
      obtain ⟨v2, g1, g2⟩ := wd.2 p l' e
      exact ⟨v2, by rw [upd_ne k]; exact g1, g2⟩
  · rw [upd_ne (fun k => by rw [k, h1] at e'; cases e')]; exact e
  · by_cases k : p = a
    · subst k; exact ⟨_, upd_same⟩
    · rw [upd_ne k]; exact ⟨x, e⟩
theorem inMW {K : PySem.W.Frag} {ec : Nat → Addr} {H G M : Hp} {w : Mst} {p : Addr} {l : List D} (o : Pt (WL K ec) H G M w) (h : wGet w p = some l) : ∃ vs, M p = some (.lst vs) ∧ G p = none ∧ RepL K G vs l := by
  obtain ⟨vs, m1, m2⟩ := (show okW K w G M from o.wd).2 p l h
  refine ⟨vs, m1, ?_, m2⟩
  cases q : G p with
  | none => rfl
  | some y => have := o.dj p y q; rw [m1] at this; cases this
def zCmpW (r : OpD) (ta tb : TEZ Mst) : TEZ Mst := fun δ w Q E => ta δ w (fun x w1 => onRef x fun p => ∃ l, wGet w1 p = some l ∧ tb δ w1 (fun y w2 => wGet w2 p = some l ∧ r (.lst l) y fun z => ∃ b, z = .bl b ∧ Q (.bl b) w2) E) E
def zAppW (i : Nat) (te : TEZ Mst) : TSZ Mst := fun DE δ w => atRef δ i fun p => (∃ l, wGet w p = some l) ∧ te δ w (fun d w1 => ∃ l, wGet w1 p = some l ∧ l.length < 100000 ∧ DE.nx δ (wSet w1 p (l ++ [d]))) (fun e w' => DE.ex e δ w')
def zPopW (i : Nat) (te : TEZ Mst) : TEZ Mst := fun δ w Q E => atRef δ i fun p => (∃ l, wGet w p = some l) ∧ te δ w (fun d w1 => intD d fun k => ∃ l y, wGet w1 p = some l ∧ (0 ≤ k ∧ k < l.length ∧ l.length ≤ 100000) ∧ l[k.toNat]? = some y ∧ Q y (wSet w1 p (l.eraseIdx k.toNat))) E
def zForEW (ta : TEZ Mst) (gz : TGZ) (t : TSZ Mst) : TSZ Mst := fun D δ w => ta δ w (fun x w1 => onRef x fun p => ∃ l, wGet w1 p = some l ∧ ∃ I : Nat → List Sl → Mst → Prop, I 0 δ w1 ∧ (∀ i δ' w', I i δ' w' → wGet w' p = some l) ∧ (∀ i d δ' w', l[i]? = some d → I i δ' w' → gz (.tup [.int (i : Nat), d]) δ' fun δ2 => t { D with nx := I (i + 1), ct := I (i + 1), bk := D.nx } δ2 w') ∧ ∀ δ' w', I l.length δ' w' → D.nx δ' w') (fun e w' => D.ex e δ w')
section
variable {X : Cx} {ec : Nat → Addr} {pos pos' p : Pos} {x : Str} {a b e : Expr} {ta tb te : TEZ Mst} {rv : R2} {r : OpD}
theorem cmpW_mo (hl : Lnd X.K rv r) (ha : PEZ X (WL X.K ec) a ta) (hb : PEZ X (WL X.K ec) b tb) : Mo (zCmpW r ta tb) := fun k h => ha.mo (fun _ _ h1 => h1.imp fun p ⟨l, g1, g2⟩ => ⟨l, g1, hb.mo (fun _ _ ⟨g3, g4⟩ => ⟨g3, hl.mo (fun d ⟨b, e, q⟩ => ⟨b, e, k _ _ q⟩) g4⟩) g2⟩) h
theorem cmpW_core (hl : Lnd X.K rv r) (ha : PEZ X (WL X.K ec) a ta) (hb : PEZ X (WL X.K ec) b tb) {Z : Zx} {ex : Nat → List Sl → Mst → Prop} {σ : L2.St} {H : Hp} {Q : VK} (h : liE X.K (WL X.K ec) Z ex (zCmpW r ta tb) σ H Q) : tOp rv (liE X.K (WL X.K ec) Z ex ta) (liE X.K (WL X.K ec) Z ex tb) σ H Q := by
  obtain ⟨G, M, δ, w, a0, h⟩ := h
  exact ⟨G, M, δ, w, a0, ha.mo (fun d w1 h1 v H1 G1 M1 o1 r1 => by
      obtain ⟨p, rfl, l, g1, h1⟩ := h1.of
      cases r1
      exact ⟨G1, M1, δ, w1, a0.go o1, hb.mo (fun d2 w2 h2 v2 H2 G2 M2 o2 r2 => by
        obtain ⟨g2, h2⟩ := h2
        obtain ⟨vs, m1, hp, m2⟩ := inMW o2.pt g2
        have up : Ext G2 (upd G2 p (.lst vs)) := Ext.new hp
        refine hl.go H2 (upd G2 p (.lst vs)) (.ref p) v2 (.lst l) d2 _ Q (fun q y e => ?_) (.lst upd_same (m2.up up)) (r2.up up) h2 (fun d3 v3 ⟨b, e, q3⟩ r3 => ?_) (fun l vs p ⟨b, e, _⟩ _ _ => nomatch e)
        · by_cases k : q = p
          · subst k; rw [upd_same] at e; cases e; exact o2.pt.mh _ _ m1
          · rw [upd_ne k] at e; exact o2.pt.gh q y e
        · subst e; cases r3; exact q3 (.bl b) H2 G2 M2 (o1.tr o2) (.bl b)) h1⟩) h⟩
theorem z_cmpW {op : CmpOp} (ho : OpR X (compareOp op) rv) (hl : Lnd X.K rv r) (ha : PEZ X (WL X.K ec) a ta) (hb : PEZ X (WL X.K ec) b tb) (hm : behindInMarks op b = false := by first | exact nomark _ | rfl) : PEZ X (WL X.K ec) (.Compare a [op] [b] pos) (zCmpW r ta tb) :=
  ⟨cmpW_mo hl ha hb, fun Z ex tk => peI (pe_cmpR ho (ha.run Z ex tk) (hb.run Z ex tk) hm) fun σ H Q h => cmpW_core hl ha hb h⟩
theorem z_tcmpW {op : CmpOp} (ho : OpR X (compareOp op) rv) (hl : Lnd X.K rv r) (ha : PEZ X (WL X.K ec) a ta) (hb : PEZ X (WL X.K ec) b tb) (hm : behindInMarks op b = false := by first | exact nomark _ | rfl) : PTZ X (WL X.K ec) (.Compare a [op] [b] pos) (zB (zCmpW r ta tb)) :=
  ⟨zB_mo (te := zCmpW r ta tb) (cmpW_mo hl ha hb), fun Z ex tk => ptI (pt_cmpR ho (ha.run Z ex tk) (hb.run Z ex tk) hm) fun σ H Q h => cmpW_core hl ha hb (zB_core (te := zCmpW r ta tb) (cmpW_mo hl ha hb) h)⟩
theorem z_appW (i : Nat) {pm : Pos} (he : PEZ X (WL X.K ec) e te) (hN : X.N[i]? = some x := by rfl) (hv : Vis X.env.scope x := by first | exact Or.inl rfl | exact Or.inr (Or.inl rfl) | exact Or.inr (Or.inr rfl)) (hd : (x == ("__debug__" : Str)) = false := by decide)
    (hcd : (x == ("__classdict__" : Str)) = false := by decide) (hs : swapsWith (.Call (.Attribute (.Name x p) "append" pm) [e] [] pos') none pos.line X.env = pure false := by rfl)
    (hpe : ∀ {t : TE}, PE X e t → PE X (.Call (.Attribute (.Name x p) "append" pm) [e] [] pos') (tBM X.K "list" rAppend (tVar i) (tCons t tNil)) := by
      intro t ht
      exact pe_bm PySem.F.plainAttrs_list PySem.F.slot_list_append PySem.F.type_list_append mt_append (pv _) (pa_cons ht pa_nil)) :
    PSZ X (WL X.K ec) (.Expr (.Call (.Attribute (.Name x p) "append" pm) [e] [] pos') pos) (zAppW i te) := fun Z ex tk =>
  psI (ps_expr (hpe (he.run Z ex tk)) hs) fun DE σ H ⟨Dz, hex, EI, G, M, δ, w, a, h⟩ => by
  subst hex
  obtain ⟨p, hl, ⟨l0, hl0⟩, h⟩ := h.of
  obtain ⟨v0, h1, hr⟩ := a.sl i _ hl
  cases hr
  obtain ⟨vs0, m0, g0, -⟩ := inMW a.pt hl0
  refine ⟨.ref p, h1, .inl ⟨rfl, _, SqL.of (a.pt.mh _ _ m0)⟩, G, M, δ, w, a, he.mo (fun d w1 q1 v H1 G1 M1 o1 r1 => ?_) h⟩
  obtain ⟨l, hl1, hn, q⟩ := q1
  obtain ⟨vs, m1, g1, m2⟩ := inMW o1.pt hl1
  exact ⟨p, vs, v, rfl, rfl, o1.pt.mh _ _ m1, by rw [m2.len, sizeLine_eq]; omega, EI.nx _ _ ⟨G1, _, δ, _, chgW (a.go o1) hl1 (m2.app (.cons r1 .nil)), q⟩⟩
theorem z_popW (i : Nat) {pm : Pos} (he : PEZ X (WL X.K ec) e te) (hN : X.N[i]? = some x := by rfl) (hv : Vis X.env.scope x := by first | exact Or.inl rfl | exact Or.inr (Or.inl rfl) | exact Or.inr (Or.inr rfl)) (hd : (x == ("__debug__" : Str)) = false := by decide)
    (hcd : (x == ("__classdict__" : Str)) = false := by decide)
    (hpe : ∀ {t : TE}, PE X e t → PE X (.Call (.Attribute (.Name x p) "pop" pm) [e] [] pos') (tBM X.K "list" rPopAt (tVar i) (tCons t tNil)) := by
      intro t ht
      exact pe_bm PySem.F.plainAttrs_list PySem.F.slot_list_pop PySem.F.type_list_pop mt_popAt (pv _) (pa_cons ht pa_nil)) :
    PEZ X (WL X.K ec) (.Call (.Attribute (.Name x p) "pop" pm) [e] [] pos') (zPopW i te) :=
  ⟨fun k h => h.imp fun p ⟨h0, h⟩ => ⟨h0, he.mo (fun d w1 h1 => h1.imp fun j ⟨l, y, g1, g2, g3, g4⟩ => ⟨l, y, g1, g2, g3, k _ _ g4⟩) h⟩, fun Z ex tk => peI (hpe (he.run Z ex tk)) fun σ H Q ⟨G, M, δ, w, a, h⟩ => by
  obtain ⟨p, hl, ⟨l0, hl0⟩, h⟩ := h.of
  obtain ⟨v0, h1, hr⟩ := a.sl i _ hl
  cases hr
  obtain ⟨vs0, m0, g0, -⟩ := inMW a.pt hl0
  refine ⟨.ref p, h1, .inl ⟨rfl, _, SqL.of (a.pt.mh _ _ m0)⟩, G, M, δ, w, a, he.mo (fun d w1 q1 v H1 G1 M1 o1 r1 => ?_) h⟩
  obtain ⟨k, rfl, l, y, g1, ⟨k0, k1, k2⟩, g3, q⟩ := q1.of
  cases r1
  obtain ⟨vs, m1, gp, m2⟩ := inMW o1.pt g1
  obtain ⟨u, u1, u2⟩ := m2.get g3
  have k3 : k < vs.length := by rw [m2.len]; omega
  have big : (100000 : Int) < 2 ^ 63 := by decide
  exact ⟨p, vs, k, k.toNat, u, rfl, rfl, o1.pt.mh _ _ m1, by omega, by omega, sq_in k0 k3, u1, q u _ _ _ (o1.tr (goW o1.pt g1 (RepL.erase _ m2))) u2⟩⟩
theorem walk_enumW {K : PySem.W.Frag} {a : Addr} {n : Nat} : Walk (Ite K a) n (fun H => ∃ xs : List V, H a = some (.lst xs) ∧ xs.length = n) (fun i H v H' => ∃ T x, v = .ref T ∧ H T = none ∧ H' = upd H T (.tup [.int (i : Nat), x]) ∧ ∀ xs : List V, H a = some (.lst xs) → xs[i]? = some x) :=
  ⟨fun i _ hi ⟨xs, q, e⟩ => ⟨xs, xs[i], SqL.of q, by simp [show i < xs.length by omega]⟩, fun _ ⟨xs, q, e⟩ => ⟨xs, SqL.of q, Nat.le_of_eq e⟩, fun i H v H' _ _ ⟨T, x, h1, h2, h3, h4⟩ => ⟨T, x, h1, h2, h3, fun xs hx => h4 xs (SqL.of hx)⟩⟩
theorem z_forEW {pc tpos : Pos} {elts : List Expr} {kk : Nat} {g : TG} {gz : TGZ} {body : List Stmt} {t : TSZ Mst} (hm : X.mg "enumerate" = none) (ha : PEZ X (WL X.K ec) e ta) (hg : PGZ X (.Tuple elts kk tpos) g gz) (hb : PBZ X (WL X.K ec) body t) (hgl : Gl X "enumerate" := by rfl) (hst : starEach [e] X.env = [(false, eval e X.env)] := by rfl)
    (hp : PassesOwn (model X.prog X.w) X.A X.env X.xe := by first | exact PassesOwn.leaving | exact PassesOwn.looking | exact PassesOwn.never | assumption) (hc : X.calm = true := by rfl)
    (hs : ∀ x, foldedSetIterable (.Call (.Name "enumerate" p) [e] [] pc) X.env x = pure x := by intro _; rfl) : PSZ X (WL X.K ec) (.For (.Tuple elts kk tpos) (.Call (.Name "enumerate" p) [e] [] pc) body [] pos) (zForEW ta gz t) := fun Z ex tk => psI (ps_for hp hc (pi_enumA hgl hm (pa_cons (ha.run Z ex tk) pa_nil hst) hst) hg.pg (zB_run hb Z ex tk) hs) fun DE σ H ⟨Dz, hex, EI, G, M, δ, w, a, h⟩ => by
  subst hex
  refine ⟨G, M, δ, w, a, ha.mo (fun d w1 h1 v H1 G1 M1 o1 r1 => ?_) h⟩
  obtain ⟨p, rfl, l, g0, I, i0, iw, is, id⟩ := h1.of
  cases r1
  have a1 := a.go o1
  obtain ⟨vs0, m0, -, r0⟩ := inMW o1.pt g0
  refine ⟨p, vs0, rfl, .inl ⟨SqL.of (o1.pt.mh _ _ m0), for_it (walk_enumW (n := l.length)) (fun i => LS X.K (WL X.K ec) ⟨Z.H0, Z.G0, Z.M0, G1⟩ (I i)) ⟨G1, M1, δ, w1, a1.more, i0⟩ ?_ ?_ ?_⟩⟩
  · rintro i σ2 H2 _ ⟨G2, M2, δ2, w2, a2, q2⟩
    obtain ⟨vs, m1, -, r1⟩ := inMW a2.pt (iw i δ2 w2 q2)
    exact ⟨vs, a2.pt.mh _ _ m1, r1.len⟩
  · rintro i x σ2 H2 H3 hi' ⟨G2, M2, δ2, w2, a2, q2⟩ ⟨T, u, rfl, hT, rfl, hu⟩
    obtain ⟨vs, m1, -, r1⟩ := inMW a2.pt (iw i δ2 w2 q2)
    obtain ⟨d, hd, rd⟩ := r1.getV (hu vs (a2.pt.mh _ _ m1))
    have gg : Ext G2 (upd G2 T (.tup [.int (i : Nat), u])) := Ext.new (a2.pt.gh.none' hT)
    refine hg.gg.go (WL X.K ec) _ σ2 _ (upd G2 T (.tup [.int (i : Nat), u])) M2 δ2 w2 (.ref T) (.tup [.int (i : Nat), d]) _ _ (a2.new hT) (.tup (SqT.of upd_same) (.cons (.int _) (.cons (rd.up gg) .nil))) (is i d δ2 w2 hd q2) fun σ3 δ3 q3 a3 => ?_
    exact ⟨G1, a1.st, { Dz with nx := I (i + 1), ct := I (i + 1), bk := Dz.nx }, rfl, EI.loop a1.st (fun _ _ h => h), _, M2, δ3, w2, a3, q3⟩
  · rintro σ2 H2 ⟨G2, M2, δ2, w2, a2, q2⟩
    exact EI.nx _ _ ⟨G2, M2, δ2, w2, a2.le a1.st, id δ2 w2 q2⟩
end
/-! ### our own list searched -/
def zCmpO (r : OpD) (i : Nat) (ta : TEZ ω) : TEZ ω := fun δ w Q E => onOwn δ i fun l => ta δ w (fun x w1 => r x (.lst l) fun z => ∃ b, z = .bl b ∧ Q (.bl b) w1) E
section
variable {ω : Type} {X : Cx} {W : Wp ω} {pos p : Pos} {x : Str} {a : Expr} {ta : TEZ ω} {rv : R2} {r : OpD}
theorem cmpO_mo {i : Nat} (hl : Lnd X.K rv r) (ha : PEZ X W a ta) : Mo (zCmpO r i ta) := fun k h => h.imp fun l h => ha.mo (fun _ _ h1 => hl.mo (fun d ⟨b, e, q⟩ => ⟨b, e, k _ _ q⟩) h1) h
theorem z_tcmpO (i : Nat) {op : CmpOp} (ho : OpR X (compareOp op) rv) (hl : Lnd X.K rv r) (ha : PEZ X W a ta) (hN : X.N[i]? = some x := by rfl) (hv : Vis X.env.scope x := by first | exact Or.inl rfl | exact Or.inr (Or.inl rfl) | exact Or.inr (Or.inr rfl)) (hd : (x == ("__debug__" : Str)) = false := by decide)
    (hcd : (x == ("__classdict__" : Str)) = false := by decide) (hm : behindInMarks op (.Name x p) = false := by first | exact nomark _ | exact nobehind _ (by decide) (by decide) | rfl) : PTZ X W (.Compare a [op] [.Name x p] pos) (zB (zCmpO r i ta)) :=
  ⟨zB_mo (te := zCmpO r i ta) (cmpO_mo hl ha), fun Z ex tk => ptI (pt_cmpR ho (ha.run Z ex tk) (pe_var hN hv hd hcd) hm) fun σ H Q h => by
    obtain ⟨G, M, δ, w, a0, h⟩ := zB_core (te := zCmpO r i ta) (cmpO_mo hl ha) h
    obtain ⟨l, hsl, h⟩ := h.of
    obtain ⟨p, vs, h1, h2, h3, h4⟩ := a0.own hsl
    obtain ⟨p', vs', g1, g2, g3, g4, g5, g7⟩ := a0.sl i _ hsl
    refine ⟨G, M, δ, w, a0, ha.mo (fun d w1 q1 v H1 G1 M1 o1 r1 => ⟨.ref p, h1, ?_⟩) h⟩
    have a1 := a0.go o1
    obtain ⟨p2, vs2, e1, e2, e3, e4, e5, e7⟩ := a1.sl i _ hsl
    have ep : p2 = p := by rw [h1] at e1; cases e1; rfl
    subst ep
    have up : Ext G1 (upd G1 p2 (.lst vs2)) := Ext.new e3
    refine hl.go H1 (upd G1 p2 (.lst vs2)) v (.ref p2) d (.lst l) _ _ (fun q y e => ?_) (r1.up up) (.lst upd_same (e7.up up)) q1 (fun d3 v3 ⟨b, e, q3⟩ r3 => ?_) (fun l vs p ⟨b, e, _⟩ _ _ => nomatch e)
    · by_cases k : q = p2
      · subst k; rw [upd_same] at e; cases e; exact e2
      · rw [upd_ne k] at e; exact o1.pt.gh q y e
    · subst e; cases r3; exact q3 (.bl b) H1 G1 M1 o1 (.bl b)⟩
end
end Z

local macro_rules | `(tactic| kt_chr) => `(tactic| first
  | assumption
  | ((with_reducible show Z.Sm _ (OfNat.ofNat _)); exact Z.Sm.num _)
  | ((with_reducible show Z.Sm _ ((_ : Int) + _)); exact Z.Sm.add (by kt_chr) (by kt_chr))
  | ((with_reducible show Z.Sm _ ((_ : Int) - _)); exact Z.Sm.sub (by kt_chr) (by kt_chr))
  | ((with_reducible show Z.Sm _ ((_ : Int) * _)); exact Z.Sm.mul (by kt_chr) (by kt_chr))
  | ((with_reducible show Z.Sm _ (-(_ : Int))); exact Z.Sm.neg (by kt_chr))
  | ((with_reducible show Z.Sm _ ((_ : Int) % _)); exact Z.Sm.mod (by kt_chr) (by first | omega | decide))
  | ((with_reducible show Z.Sm _ ((_ : Int) / _)); exact Z.Sm.div (by kt_chr) (by first | omega | decide))
  | ((with_reducible show Z.Sm _ ((_ : Int) ^ (_ : Nat))); exact Z.Sm.pow (by kt_chr) _)
  | ((with_reducible show Z.Sm _ (max (_ : Int) _)); exact Z.Sm.max (by kt_chr) (by kt_chr))
  | ((with_reducible show Z.Sm _ (min (_ : Int) _)); exact Z.Sm.min (by kt_chr) (by kt_chr))
  | exact Z.Sm.lt10r (by with_reducible assumption) (by first | with_reducible assumption | omega)
  | exact Z.Sm.lt10s (Int.le_of_lt (by with_reducible assumption)) (Int.le_of_lt (by with_reducible assumption))
  | exact Z.Sm.lt10s (Int.le_of_lt (by with_reducible assumption)) (by with_reducible assumption)
  | exact Z.Sm.near (by omega) (by omega))
local macro_rules | `(tactic| kt_field) => `(tactic| first | exact Z.MulOk.of (by kt_chr) (by kt_chr) (by decide) | exact Z.MulOk.lt (by kt_chr) (by decide) | exact Z.MulOk.rt (by kt_chr) (by decide))
local macro_rules | `(tactic| kt_str) => `(tactic| first | (exfalso; omega) | skip)
local macro_rules | `(tactic| kby_none) => `(tactic| repeat' (first
  | with_reducible assumption
  | with_reducible rfl
  | (with_reducible exact True.intro)
  | ((with_reducible show Z.MulOk _ _); kt_field)
  | ((with_reducible show Z.DivOk _); first | exact Z.DivOk.of (by omega) (by assumption) (by decide) | exact Z.DivOk.of (by decide) (Z.Sm.num _) (by decide))
  | ((with_reducible show Z.Sm _ _); first | exact Z.Sm.le (by kt_chr) (by decide) | exact Z.Sm.le (Z.Sm.near (by omega) (by omega)) (by decide))
  | ((with_reducible show (_ : Int) < _); first | omega | exact Int.emod_lt_of_pos _ (by omega) | decide | (simp only [List.length_map, List.length_append, List.length_cons, List.length_nil]; omega))
  | ((with_reducible show (_ : Int) ≤ _); first | omega | exact Int.emod_nonneg _ (by omega) | decide | (simp only [List.length_map, List.length_append, List.length_cons, List.length_nil]; omega))
  | ((with_reducible show (_ : Nat) < _); first | omega | exact Nat.le_of_ble_eq_true rfl | decide | (simp only [List.length_map, List.length_append, List.length_cons, List.length_nil]; omega))
  | ((with_reducible show (_ : Nat) = _); first | rfl | omega)
  | ((with_reducible show (_ : Nat) ≤ _); first | omega | exact Nat.le_of_ble_eq_true rfl | decide | exact Nat.zero_le _ | (simp only [List.length_map, List.length_append, List.length_cons, List.length_nil]; omega))
  | ((with_reducible show Z.okD _ = true); rfl)
  | ((with_reducible show Z.okF _ = true); rfl)
  | ((with_reducible show Z.okFs _ = true); rfl)
  | (conv => whnf
     try simp only [Z.stZ_len, Z.stZ_len0, Z.stZ_nil, Z.setAll_cons, Z.setAll_nil, List.set_cons_zero, List.set_cons_succ]
     first
       | exact Z.eqI
       | (refine And.intro ?_ ?_)
       | exact ⟨_, rfl⟩
       | exact ⟨_, _, rfl⟩
       | exact ⟨_, _, _, rfl⟩
       | exact ⟨_, _, _, _, rfl⟩
       | exact ⟨_, _, _, _, _, rfl⟩
       | exact ⟨_, _, _, _, _, _, rfl⟩
       | exact ⟨_, _, _, _, _, _, _, rfl⟩
       | exact ⟨_, _, _, _, _, _, _, _, rfl⟩
       | exact ⟨_, _, _, _, _, _, _, _, _, rfl⟩
       | exact ⟨_, _, _, _, _, _, _, _, _, _, rfl⟩
       | exact ⟨_, _, _, _, _, _, _, _, _, _, _, rfl⟩
       | exact ⟨_, _, _, _, _, _, _, _, _, _, _, _, rfl⟩
       | exact ⟨_, _, _, _, _, _, _, _, _, _, _, _, _, rfl⟩
       | exact ⟨_, _, _, _, _, _, _, _, _, _, _, _, _, _, rfl⟩
       | exact ⟨_, _, _, _, _, _, _, _, _, _, _, _, _, _, _, rfl⟩
       | exact ⟨_, _, _, _, _, _, _, _, _, _, _, _, _, _, _, _, rfl⟩
       | (refine ⟨_, rfl, ?_⟩)
       | (refine ⟨_, _, rfl, ?_⟩)
       | (refine ⟨_, _, _, rfl, ?_⟩)
       | (refine ⟨_, _, _, _, rfl, ?_⟩)
       | (refine ⟨_, _, _, _, _, rfl, ?_⟩)
       | (refine ⟨_, _, _, _, _, _, rfl, ?_⟩)
       | (refine ⟨_, _, _, _, _, _, _, rfl, ?_⟩)
       | (refine ⟨_, _, _, _, _, _, _, _, rfl, ?_⟩)
       | (refine ⟨_, _, _, _, _, _, _, _, _, rfl, ?_⟩)
       | (refine ⟨_, _, _, _, _, _, _, _, _, _, rfl, ?_⟩)
       | (refine ⟨_, _, _, _, _, _, _, _, _, _, _, rfl, ?_⟩)
       | (refine ⟨_, _, _, _, _, _, _, _, _, _, _, _, rfl, ?_⟩)
       | (refine ⟨_, _, _, _, _, _, _, _, _, _, _, _, _, rfl, ?_⟩)
       | (refine ⟨_, _, _, _, _, _, _, _, _, _, _, _, _, _, rfl, ?_⟩)
       | (refine ⟨_, _, _, _, _, _, _, _, _, _, _, _, _, _, _, rfl, ?_⟩)
       | (refine ⟨_, _, _, _, _, _, _, _, _, _, _, _, _, _, _, _, rfl, ?_⟩)
       | (refine ⟨_, by with_reducible assumption, ?_⟩)
       | (refine ⟨_, _, by with_reducible assumption, rfl, ?_⟩)
       | (refine ⟨_, _, Z.w_set (by first | with_reducible assumption | exact Z.w_set (by with_reducible assumption) | exact Z.w_set (Z.w_set (by with_reducible assumption))), rfl, ?_⟩)
       | (intro h; first | exact (Bool.false_ne_true h).elim | exact (Bool.false_ne_true h.symm).elim | (replace h := of_decide_eq_true h; kt_str) | (replace h := of_decide_eq_false h; kt_str) | (replace h := Z.deqI h; kt_str) | (replace h := Z.deqI' h; kt_str) | (((with_reducible have := (show Z.deq _ _ = true from h)); clear this); (simp only [Z.deq_lst, Z.deq_tup, Z.deqs_cons, Z.deqs_nil, Z.deqs_nil_cons, Z.deqs_cons_nil, Z.deq_int, Z.deq_bl, Z.deq_non, Z.deq_non_int, Z.deq_int_non, Z.deq_non_tup, Z.deq_tup_non, Bool.and_eq_true, Bool.and_true, and_true, true_and, beq_iff_eq, Bool.false_eq_true, reduceCtorEq, and_false, false_and] at h) <;> kt_str) | (((with_reducible have := (show Z.deq _ _ = false from h)); clear this); (simp only [Z.deq_lst, Z.deq_tup, Z.deqs_cons, Z.deqs_nil, Z.deqs_nil_cons, Z.deqs_cons_nil, Z.deq_int, Z.deq_bl, Z.deq_non, Z.deq_non_int, Z.deq_int_non, Z.deq_non_tup, Z.deq_tup_non, Bool.and_eq_false_iff, Bool.and_true, beq_eq_false_iff_ne, ne_eq, not_true_eq_false, or_false, false_or, Bool.true_eq_false, Bool.false_eq_true, beq_self_eq_true, reduceCtorEq] at h) <;> kt_str) | (((with_reducible have := (show Z.memF _ _ = true from h)); clear this); (simp only [Z.memF_cons, Z.memF_nil, Z.eqF_int, Bool.or_eq_true, Bool.or_false, beq_iff_eq] at h <;> kt_str)) | (((with_reducible have := (show Z.memF _ _ = false from h)); clear this); (simp only [Z.memF_cons, Z.memF_nil, Z.eqF_int, Bool.or_eq_false_iff, Bool.or_false, beq_eq_false_iff_ne, ne_eq] at h <;> kt_str)) | ((with_reducible replace h := Z.nb1 h); revert h) | ((with_reducible replace h := Z.nb2 h); revert h) | ((with_reducible have := (show (_ : Int) < _ from h)); exfalso; first | omega | exact absurd h (by decide)) | ((with_reducible have := (show (_ : Int) ≤ _ from h)); exfalso; first | omega | exact absurd h (by decide)) | skip))))
namespace Lw
open PySem PySem.Spec PyProof.Rows L2 Z
def topS (i : Nat) : Stmt := PySem.Challenge.pw_turnedline_k25_whole_points_of_corners.main.body.getD i (.Pass ⟨0, 0, 0, 0⟩)
abbrev s_need_line : Stmt := topS 6
theorem sc_need_line : FnScope ["line"] ["line"] (defScope s_need_line) := ⟨rfl, rfl, rfl, by decide +kernel, rfl, by decide +kernel, by decide +kernel⟩
abbrev s_height_at : Stmt := topS 7
theorem sc_height_at : FnScope ["line", "place"] ["line", "place"] (defScope s_height_at) := ⟨rfl, rfl, rfl, by decide +kernel, rfl, by decide +kernel, by decide +kernel⟩
abbrev s_part_at : Stmt := topS 8
theorem sc_part_at : FnScope ["line", "place"] ["line", "place"] (defScope s_part_at) := ⟨rfl, rfl, rfl, by decide +kernel, rfl, by decide +kernel, by decide +kernel⟩
abbrev s_rest_at : Stmt := topS 9
theorem sc_rest_at : FnScope ["line", "place"] ["line", "place"] (defScope s_rest_at) := ⟨rfl, rfl, rfl, by decide +kernel, rfl, by decide +kernel, by decide +kernel⟩
abbrev s_laid_off : Stmt := topS 10
theorem sc_laid_off : FnScope ["line", "a", "b", "m"] ["line"] (defScope s_laid_off) := ⟨rfl, rfl, rfl, by decide +kernel, rfl, by decide +kernel, by decide +kernel⟩
abbrev s_turned : Stmt := topS 11
theorem sc_turned : FnScope ["line", "n", "a", "b", "m", "many"] ["line", "n"] (defScope s_turned) := ⟨rfl, rfl, rfl, by decide +kernel, rfl, by decide +kernel, by decide +kernel⟩
abbrev s_sum_parts : Stmt := topS 13
theorem sc_sum_parts : FnScope ["line", "n", "total", "many", "here", "steps", "more"] ["line", "n"] (defScope s_sum_parts) := ⟨rfl, rfl, rfl, by decide +kernel, rfl, by decide +kernel, by decide +kernel⟩
abbrev s_sum_between : Stmt := topS 14
theorem sc_sum_between : FnScope ["line", "low", "high", "a", "b", "m"] ["line", "low", "high"] (defScope s_sum_between) := ⟨rfl, rfl, rfl, by decide +kernel, rfl, by decide +kernel, by decide +kernel⟩
abbrev s_need_all : Stmt := topS 16
theorem sc_need_all : FnScope ["above", "beneath", "low", "high", "line"] ["above", "beneath", "low", "high"] (defScope s_need_all) := ⟨rfl, rfl, rfl, by decide +kernel, rfl, by decide +kernel, by decide +kernel⟩
abbrev s_turned_down : Stmt := topS 17
theorem sc_turned_down : FnScope ["lines", "a", "b", "m"] ["lines"] (defScope s_turned_down) := ⟨rfl, rfl, rfl, by decide +kernel, rfl, by decide +kernel, by decide +kernel⟩
abbrev s_lowest_at : Stmt := topS 18
theorem sc_lowest_at : FnScope ["lines", "place", "found", "line"] ["lines", "place"] (defScope s_lowest_at) := ⟨rfl, rfl, rfl, by decide +kernel, rfl, by decide +kernel, by decide +kernel⟩
abbrev s_cuts_of : Stmt := topS 19
theorem sc_cuts_of : FnScope ["lines", "low", "high", "cuts", "one", "other", "steeper", "place", "cut"] ["lines", "low", "high"] (defScope s_cuts_of) := ⟨rfl, rfl, rfl, by decide +kernel, rfl, by decide +kernel, by decide +kernel⟩
abbrev s_points_between : Stmt := topS 20
theorem sc_points_between : FnScope ["above", "beneath", "low", "high", "down", "total", "cuts", "start", "end", "one", "other"] ["above", "beneath", "low", "high"] (defScope s_points_between) := ⟨rfl, rfl, rfl, by decide +kernel, rfl, by decide +kernel, by decide +kernel⟩
abbrev s__law_number : Stmt := topS 22
theorem sc__law_number : FnScope ["_law_script", "_law_k", "_law_cells", "_law_size", "_law_cell", "_law_turn", "_law_rest", "_law_step", "_law_seed"] ["_law_script", "_law_k"] (defScope s__law_number) := ⟨rfl, rfl, rfl, by decide +kernel, rfl, by decide +kernel, by decide +kernel⟩
abbrev s__law_great : Stmt := topS 23
theorem sc__law_great : FnScope ["_law_script", "_law_k", "_law_groups", "_law_head", "_law_found", "_law_turn"] ["_law_script", "_law_k", "_law_groups"] (defScope s__law_great) := ⟨rfl, rfl, rfl, by decide +kernel, rfl, by decide +kernel, by decide +kernel⟩
abbrev s__law_whole : Stmt := topS 24
theorem sc__law_whole : FnScope ["_law_found"] ["_law_found"] (defScope s__law_whole) := ⟨rfl, rfl, rfl, by decide +kernel, rfl, by decide +kernel, by decide +kernel⟩
abbrev s__law_measure : Stmt := topS 25
theorem sc__law_measure : FnScope ["_law_one", "_law_other"] ["_law_one", "_law_other"] (defScope s__law_measure) := ⟨rfl, rfl, rfl, by decide +kernel, rfl, by decide +kernel, by decide +kernel⟩
abbrev s__law_widths : Stmt := topS 26
theorem sc__law_widths : FnScope ["_law_script", "_law_k", "_law_many", "_law_width", "_law_cuts", "_law_j", "_law_cut", "_law_after"] ["_law_script", "_law_k", "_law_many", "_law_width"] (defScope s__law_widths) := ⟨rfl, rfl, rfl, by decide +kernel, rfl, by decide +kernel, by decide +kernel⟩
abbrev s__law_sides : Stmt := topS 27
theorem sc__law_sides : FnScope ["_law_script", "_law_k", "_law_many", "_law_width", "_law_waiting", "_law_j", "_law_wide", "_law_sign", "_law_height", "_law_whole_here", "_law_found", "_law_at", "_law_side"] ["_law_script", "_law_k", "_law_many", "_law_width"] (defScope s__law_sides) := ⟨rfl, rfl, rfl, by decide +kernel, rfl, by decide +kernel, by decide +kernel⟩
abbrev s__law_lines : Stmt := topS 28
theorem sc__law_lines : FnScope ["_law_sides_here", "_law_place", "_law_height", "_law_factor", "_law_lines_here", "_law_twice", "_law_wide", "_law_high"] ["_law_sides_here", "_law_place", "_law_height", "_law_factor"] (defScope s__law_lines) := ⟨rfl, rfl, rfl, by decide +kernel, rfl, by decide +kernel, by decide +kernel⟩
abbrev s__law_rim : Stmt := topS 29
theorem sc__law_rim : FnScope ["_law_sides_here", "_law_wide", "_law_high"] ["_law_sides_here"] (defScope s__law_rim) := ⟨rfl, rfl, rfl, by decide +kernel, rfl, by decide +kernel, by decide +kernel⟩
abbrev s__law_points : Stmt := topS 30
theorem sc__law_points : FnScope ["_law_upper", "_law_lower", "_law_gap", "_law_end", "_law_twice", "_law_wide", "_law_high"] ["_law_upper", "_law_lower", "_law_gap"] (defScope s__law_points) := ⟨rfl, rfl, rfl, by decide +kernel, rfl, by decide +kernel, by decide +kernel⟩
abbrev s__law_alike : Stmt := topS 31
theorem sc__law_alike : FnScope ["_law_one", "_law_other"] ["_law_one", "_law_other"] (defScope s__law_alike) := ⟨rfl, rfl, rfl, by decide +kernel, rfl, by decide +kernel, by decide +kernel⟩
abbrev s_law : Stmt := topS 32
theorem sc_law : FnScope ["_law_script", "_law_number_here", "_law_width", "_law_place", "_law_height", "_law_upper", "_law_lower", "_law_end", "_law_gap", "_law_above", "_law_beneath", "_law_found", "_law_last", "_law_far", "_law_low", "_law_high", "_law_wide"] ["_law_script"] (defScope s_law) := ⟨rfl, rfl, rfl, by decide +kernel, rfl, by decide +kernel, by decide +kernel⟩
structure Tx (K : PySem.W.Frag) (mg : Str → Option Value) (ec : Nat → Addr) : Prop where
  abs_ : mg "abs" = none
  bool_ : mg "bool" = none
  enumerate_ : mg "enumerate" = none
  int_ : mg "int" = none
  isinstance_ : mg "isinstance" = none
  len_ : mg "len" = none
  list_ : mg "list" = none
  max_ : mg "max" = none
  min_ : mg "min" = none
  range_ : mg "range" = none
  set_ : mg "set" = none
  sorted_ : mg "sorted" = none
  sum_ : mg "sum" = none
  tuple_ : mg "tuple" = none
  zip_ : mg "zip" = none
  e0 : ErrT K mg (ec 0) "NoLine"
  e1 : ErrT K mg (ec 1) "NoTurn"
  e3 : ErrT K mg (ec 3) "NoStretch"
abbrev ln (a b m : Int) : D := .tup [.int a, .int b, .int m]
def sp_need_line : SpZ Unit := fun ds w Q E => ∃ a b m, ds = [ln a b m] ∧ (m < 1 → E 0 w) ∧ (1 ≤ m → Q .non w)
def sp_height_at : SpZ Unit := fun ds w Q E => ∃ a b m x, ds = [ln a b m, .int x] ∧ (m < 1 → E 0 w) ∧ (1 ≤ m → (Sm 3000 a ∧ Sm 3000 x) ∧ Q (.int (a * x + b)) w)
def sp_part_at : SpZ Unit := fun ds w Q E => ∃ a b m x, ds = [ln a b m, .int x] ∧ (m < 1 → E 0 w) ∧ (1 ≤ m → (Sm 3000 a ∧ Sm 3000 x ∧ Sm 3000 m) ∧ Q (.int ((a * x + b) / m)) w)
def sp_rest_at : SpZ Unit := fun ds w Q E => ∃ a b m x, ds = [ln a b m, .int x] ∧ (m < 1 → E 0 w) ∧ (1 ≤ m → (Sm 3000 a ∧ Sm 3000 x ∧ Sm 3000 m) ∧ Q (.int ((a * x + b) % m)) w)
def sp_laid_off : SpZ Unit := fun ds w Q E => ∃ a b m, ds = [ln a b m] ∧ (m < 1 → E 0 w) ∧ (1 ≤ m → Sm 8000 m ∧ Q (.tup [.int (a / m), .int (b / m), ln (a % m) (b % m) m]) w)
def sp_turned : SpZ Unit := fun ds w Q E => ∃ a b m n, ds = [ln a b m, .int n] ∧ (m < 1 → E 0 w) ∧ (1 ≤ m → (¬ (0 ≤ a ∧ a < m ∧ 0 ≤ b ∧ b < m) → E 1 w) ∧ ((0 ≤ a ∧ a < m ∧ 0 ≤ b ∧ b < m) → (Sm 3000 m ∧ Sm 3000 n) ∧ ((a * n + b) / m = 0 → Q (.tup [.int 0, .non]) w) ∧ ((a * n + b) / m ≠ 0 → Q (.tup [.int ((a * n + b) / m), ln m ((a * n + b) % m) a]) w)))
theorem fs_many {a b m k : Int} (ha : 0 ≤ a) (ha1 : a < m) (hb : 0 ≤ b) (hb1 : b < m) (hk : 0 ≤ k) : 0 ≤ (a * k + b) / m ∧ (a * k + b) / m ≤ k := by
  have h1 : a * k ≤ (m - 1) * k := Int.mul_le_mul_of_nonneg_right (by omega) hk
  have h0 : 0 ≤ a * k := Int.mul_nonneg ha hk
  refine ⟨Int.ediv_nonneg (by omega) (by omega), ?_⟩
  have h2 : a * k + b < m * (k + 1) := by
    rw [Int.sub_mul] at h1
    rw [Int.mul_add]
    omega
  have := Int.ediv_lt_of_lt_mul (show 0 < m by omega) (by rw [Int.mul_comm]; exact h2)
  omega
def sp_sum_parts : SpZ Unit := fun ds w Q E => ∃ a b m n, ds = [ln a b m, .int n] ∧ (m < 1 → E 0 w) ∧ (1 ≤ m → (0 ≤ n ∧ Sm 2000 a ∧ Sm 2000 b ∧ Sm 2000 m ∧ Sm 2000 n) ∧ Q (.int (FS a b m n.toNat)) w)
def sp_sum_between : SpZ Unit := fun ds w Q E => ∃ a b m lo hi, ds = [ln a b m, .int lo, .int hi] ∧ (m < 1 → E 0 w) ∧ (1 ≤ m → (hi < lo → E 3 w) ∧ (lo ≤ hi → (Sm 900 a ∧ Sm 900 lo ∧ Sm 1500 b ∧ Sm 2000 m ∧ Sm 1500 hi) ∧ Q (.int (FS a (a * lo + b) m (hi - lo).toNat)) w))
def lnP (p : L3) : D := ln p.1 p.2.1 p.2.2
def ltp (ls : List L3) : D := .tup (ls.map lnP)
def llp (ls : List L3) : D := .lst (ls.map lnP)
structure LsOk (ls : List L3) : Prop where
  l1 : 1 ≤ ls.length
  l8 : ls.length ≤ 8
  ea : ∀ p ∈ ls, 1 ≤ p.2.2 ∧ Sm 800 p.1 ∧ Sm 800 p.2.1 ∧ Sm 800 p.2.2
theorem LsOk.dn {ls : List L3} (h : LsOk ls) : LsOk (ls.map dnP) := ⟨by rw [List.length_map]; exact h.l1, by rw [List.length_map]; exact h.l8, fun p hp => by
  obtain ⟨q, hq, rfl⟩ := List.mem_map.mp hp
  obtain ⟨a, b, c, d⟩ := h.ea q hq
  exact ⟨a, show Sm 800 (0 - q.1) by unfold Sm at *; omega, show Sm 800 (0 - q.2.1) by unfold Sm at *; omega, d⟩⟩
theorem lnP_at {ls : List L3} {i : Nat} {d : D} (h : (ls.map lnP)[i]? = some d) : ∃ p, ls[i]? = some p ∧ p ∈ ls ∧ d = lnP p := by
  rw [List.getElem?_map] at h
  obtain ⟨p, hp, rfl⟩ := Option.map_eq_some_iff.mp h
  exact ⟨p, hp, List.mem_of_getElem? hp, rfl⟩
theorem take_snoc {α β : Type} (f : α → β) {l : List α} {i : Nat} {x : α} (h : l[i]? = some x) : (l.take (i + 1)).map f = (l.take i).map f ++ [f x] := by
  rw [List.take_add_one, h, List.map_append]; rfl
theorem ne_map {ls : List L3} (h : 1 ≤ ls.length) : ls.map lnP ≠ [] := fun e => by
  have := congrArg List.length e
  rw [List.length_map] at this
  rw [this] at h
  exact absurd h (by decide)
theorem at_head {x : Int} {r : List Int} : atI ((x :: r).map D.int) 0 = some (.int x) := by
  unfold atI ixN
  rw [if_pos (by decide), if_pos (by rw [List.length_map, List.length_cons]; omega)]; rfl
theorem at_last {l : List Int} {y : Int} (h : l.getLast? = some y) : atI (l.map D.int) (-1) = some (.int y) := by
  have hl : l ≠ [] := fun e => by rw [e] at h; exact absurd h (by simp)
  have hl2 : 0 < l.length := List.length_pos_iff.mpr hl
  unfold atI ixN
  rw [if_neg (by decide), List.length_map, if_pos (by omega)]
  show (l.map D.int)[_]? = _
  rw [List.getLast?_eq_getElem?] at h
  rw [List.getElem?_map, show (-1 + ((l.length : Nat) : Int)).toNat = l.length - 1 by omega, h]; rfl
theorem ix_menu {l : List D} {n : Nat} (hn : l.length = n) (h0 : 0 < n) {i : Int} {q : D → Prop} (h : ∀ z, z ∈ l → q z) : ixD (.lst l) (.int (i % (n : Int))) q := by
  have m0 := Int.emod_nonneg i (show (n : Int) ≠ 0 by omega)
  have m1 := Int.emod_lt_of_pos i (show 0 < (n : Int) by omega)
  have hv : (i % (n : Int)).toNat < l.length := by omega
  refine ⟨l[(i % (n : Int)).toNat], ?_, h _ (List.getElem_mem hv)⟩
  unfold atI ixN
  rw [if_pos m0, if_pos (by omega)]
  show l[_]? = _
  rw [List.getElem?_eq_getElem hv]
theorem ix_menu2 {x y : D} {i : Int} {q : D → Prop} (h : ∀ z, z = x ∨ z = y → q z) : ixD (.lst [x, y]) (.int (i % 2)) q := ix_menu (n := 2) rfl (by decide) fun z hz => h z (by simpa using hz)
theorem ix_menu4 {x y u v : D} {i : Int} {q : D → Prop} (h : ∀ z, z = x ∨ z = y ∨ z = u ∨ z = v → q z) : ixD (.lst [x, y, u, v]) (.int (i % 4)) q := ix_menu (n := 4) rfl (by decide) fun z hz => h z (by simpa using hz)
theorem ix_menu5 {x y u v r : D} {i : Int} {q : D → Prop} (h : ∀ z, z = x ∨ z = y ∨ z = u ∨ z = v ∨ z = r → q z) : ixD (.lst [x, y, u, v, r]) (.int (i % 5)) q := ix_menu (n := 5) rfl (by decide) fun z hz => h z (by simpa using hz)
theorem ix_menu6 {x y u v r s : D} {i : Int} {q : D → Prop} (h : ∀ z, z = x ∨ z = y ∨ z = u ∨ z = v ∨ z = r ∨ z = s → q z) : ixD (.lst [x, y, u, v, r, s]) (.int (i % 6)) q := ix_menu (n := 6) rfl (by decide) fun z hz => h z (by simpa using hz)
theorem ix_menu8 {a b c d e f g k : Int} {i : Int} {q : D → Prop} {P : Int → Prop} (pa : P a) (pb : P b) (pc : P c) (pd : P d) (pe : P e) (pf : P f) (pg : P g) (pk : P k) (h : ∀ z, P z → q (.int z)) : ixD (.lst [.int a, .int b, .int c, .int d, .int e, .int f, .int g, .int k]) (.int (i % 8)) q := ix_menu (n := 8) rfl (by decide) fun z hz => by
  simp only [List.mem_cons, List.not_mem_nil, or_false] at hz
  rcases hz with rfl | rfl | rfl | rfl | rfl | rfl | rfl | rfl <;> exact h _ (by assumption)
theorem grow {ls : List L3} {i : Nat} {a b m : Int} (hl : ls.length = i) (hp : ∀ p ∈ ls, 1 ≤ p.2.2 ∧ Sm 260 p.1 ∧ Sm 600 p.2.1 ∧ Sm 250 p.2.2) (m1 : 1 ≤ m) (sa : Sm 260 a) (sb : Sm 600 b) (sm : Sm 250 m) : ∃ l2 : List L3, ls.map lnP ++ [ln a b m] = l2.map lnP ∧ l2.length = i + 1 ∧ Stp (∀ p ∈ l2, 1 ≤ p.2.2 ∧ Sm 260 p.1 ∧ Sm 600 p.2.1 ∧ Sm 250 p.2.2) :=
  ⟨ls ++ [(a, b, m)], by rw [List.map_append]; rfl, by rw [List.length_append, hl]; rfl, Stp.mk fun p hq => by
    rcases List.mem_append.mp hq with hq | hq
    · exact hp p hq
    · rw [List.mem_singleton.mp hq]; exact ⟨m1, sa, sb, sm⟩⟩
def LnOk (p : L3) : Prop := 1 ≤ p.2.2 ∧ Sm 800 p.1 ∧ Sm 800 p.2.1 ∧ Sm 800 p.2.2
theorem grow3 {ls : List L3} {i : Nat} {a b m : Int} (hl : ls.length = i) (hp : ∀ p ∈ ls, LnOk p) (h : LnOk (a, b, m)) : ∃ l2 : List L3, ls.map lnP ++ [ln a b m] = l2.map lnP ∧ l2.length = i + 1 ∧ Stp (∀ p ∈ l2, LnOk p) :=
  ⟨ls ++ [(a, b, m)], by rw [List.map_append]; rfl, by rw [List.length_append, hl]; rfl, Stp.mk fun p hq => by
    rcases List.mem_append.mp hq with hq | hq
    · exact hp p hq
    · rw [List.mem_singleton.mp hq]; exact h⟩
theorem at_hd {α : Type} {f : α → D} {x : α} {r : List α} : atI ((x :: r).map f) 0 = some (f x) := by
  unfold atI ixN
  rw [if_pos (by decide), if_pos (by rw [List.length_map, List.length_cons]; omega)]; rfl
theorem ixN_hd {α : Type} {f : α → D} {x : α} {r : List α} : ixN ((x :: r).map f).length 0 = some 0 := by
  unfold ixN
  rw [if_pos (by decide), if_pos (by rw [List.length_map, List.length_cons]; omega)]; rfl
theorem ix_menu3 {x y u : D} {i : Int} {q : D → Prop} (h : ∀ z, z = x ∨ z = y ∨ z = u → q z) : ixD (.lst [x, y, u]) (.int (i % 3)) q := ix_menu (n := 3) rfl (by decide) fun z hz => h z (by simpa using hz)
theorem sm_off {x y : Int} (h : Sm 260 x) (h1 : x - 5000 ≤ y) (h2 : y ≤ x + 5000) : Sm 280 y := by
  have e : y = x + (y - x) := by omega
  rw [e]
  exact (h.add (Z.Sm.near (r := y - x) (by omega) (by omega))).le (by decide)
theorem LsOk.both {ab be : List L3} (h : LsOk ab) (g : LsOk be) : ∀ p ∈ ab ++ be, 1 ≤ p.2.2 := fun p hp => (List.mem_append.mp hp).elim (fun q => (h.ea p q).1) fun q => (g.ea p q).1
theorem LsOk.bothS {ab be : List L3} (h : LsOk ab) (g : LsOk be) : ∀ p ∈ ab ++ be, Sm 800 p.2.2 ∧ Sm 800 p.1 := fun p hp => (List.mem_append.mp hp).elim (fun q => ⟨(h.ea p q).2.2.2, (h.ea p q).2.1⟩) fun q => ⟨(g.ea p q).2.2.2, (g.ea p q).2.1⟩
theorem EL_y2 {ab be : List L3} {lo : Int} {n : Nat} (h : 0 < room ab be (lo + n)) : (EL ab be lo n).map D.int ++ [D.int (lo + (n : Int))] = (EL ab be lo (n + 1)).map D.int := by
  rw [EL_yes (by unfold room at h; omega), List.map_append]; rfl
theorem EL_n2 {ab be : List L3} {lo : Int} {n : Nat} (h : ¬ 0 < room ab be (lo + n)) : (EL ab be lo n).map D.int = (EL ab be lo (n + 1)).map D.int := by
  rw [EL_no (by unfold room at h; omega)]
def sp_need_all : SpZ Unit := fun ds w Q E => ∃ ab be lo hi, ds = [ltp ab, ltp be, .int lo, .int hi] ∧ (1 ≤ ab.length ∧ ab.length ≤ 8 ∧ 1 ≤ be.length ∧ be.length ≤ 8 ∧ ∀ p ∈ ab ++ be, Sm 800 p.2.2 ∧ Sm 800 p.1) ∧ ((∃ p ∈ ab ++ be, p.2.2 < 1) → E 0 w) ∧ ((∀ p ∈ ab ++ be, 1 ≤ p.2.2) → (hi < lo → E 3 w) ∧ (lo ≤ hi → Q .non w))
def sp_turned_down : SpZ Unit := fun ds w Q E => ∃ ls, ds = [ltp ls] ∧ ls.length ≤ 8 ∧ Q (llp (ls.map dnP)) w
theorem LsOk.sms {ls : List L3} (h : LsOk ls) : ∀ p ∈ ls, Sm 800 p.2.2 ∧ Sm 800 p.1 := fun p hp => ⟨(h.ea p hp).2.2.2, (h.ea p hp).2.1⟩
theorem atL {ls : List L3} {j : Nat} {p : L3} (h : ls[j]? = some p) : atI (ls.map lnP) (j : Int) = some (lnP p) := by
  have hl := (List.getElem?_eq_some_iff.mp h).1
  unfold atI ixN
  rw [if_pos (by omega), List.length_map, if_pos (by omega)]
  show (ls.map lnP)[((j : Int)).toNat]? = _
  rw [Int.toNat_natCast, List.getElem?_map, h]; rfl
theorem Sm.btw {n : Nat} {a b x : Int} (ha : Sm n a) (hb : Sm n b) (h1 : a ≤ x) (h2 : x ≤ b) : Sm n x := by unfold Sm at *; omega
theorem cut1 {α : Type} (f : α → D) (x : α) (r : List α) : Z.cutD ((x :: r).map f) (some 1) none = r.map f := by
  unfold Z.cutD
  have e1 : HT.sIx ((x :: r).map f).length 0 (some 1) = 1 := by
    refine (HT.sIx_nat _ _ 1).trans ?_
    rw [List.length_map, List.length_cons]; omega
  rw [e1]
  show ((r.map f).take (((x :: r).map f).length - 1)) = _
  rw [List.length_map, List.length_cons, Nat.add_sub_cancel]
  exact List.take_of_length_le (by rw [List.length_map]; exact Nat.le_refl _)
theorem cut1_ne {α : Type} (f : α → D) (x : α) (r : List α) : ¬ (HT.sIx ((x :: r).map f).length 0 (some 1) = 0 ∧ HT.sIx ((x :: r).map f).length ((x :: r).map f).length none = ((x :: r).map f).length) := fun h => by
  have e1 : HT.sIx ((x :: r).map f).length 0 (some 1) = 1 := by
    refine (HT.sIx_nat _ _ 1).trans ?_
    rw [List.length_map, List.length_cons]; omega
  rw [e1] at h
  exact absurd h.1 (by decide)
theorem zipT_get {cs : List Int} {i : Nat} {d : D} (h : (zipT (cs.map D.int) ((cs.drop 1).map D.int))[i]? = some d) : ∃ s e, cs[i]? = some s ∧ cs[i + 1]? = some e ∧ d = .tup [.int s, .int e] := by
  unfold zipT at h
  rw [List.getElem?_map] at h
  obtain ⟨⟨a, b⟩, hz, rfl⟩ := Option.map_eq_some_iff.mp h
  obtain ⟨h1, h2⟩ := List.getElem?_zip_eq_some.mp hz
  rw [List.getElem?_map] at h1 h2
  obtain ⟨s, hs, rfl⟩ := Option.map_eq_some_iff.mp h1
  obtain ⟨e, he, rfl⟩ := Option.map_eq_some_iff.mp h2
  rw [List.getElem?_drop] at he
  exact ⟨s, e, hs, by rw [Nat.add_comm]; exact he, rfl⟩
theorem zipT_l (cs : List Int) : (zipT (cs.map D.int) ((cs.drop 1).map D.int)).length = cs.length - 1 := by
  rw [zipT_len, List.length_map, List.length_map, List.length_drop]; omega
theorem low_dn {x : Int} {b : L3} {be : List L3} (h : ∀ q ∈ be.map dnP, Lo x (dnP b) q) : ∀ q ∈ be, Lo x q b := fun q hq => by
  have := h _ (List.mem_map.mpr ⟨q, hq, rfl⟩)
  unfold Lo at *
  rw [hh_dn, hh_dn] at this
  have e : (0 - hh x b) * q.2.2 ≤ (0 - hh x q) * b.2.2 := this
  rw [Int.sub_mul, Int.sub_mul] at e
  omega
theorem up_dn' {x : Int} {p b : L3} (h : Lo x b p) : 0 ≤ (p.1 * x + p.2.1) * (dnP b).2.2 + ((dnP b).1 * x + (dnP b).2.1) * p.2.2 := by
  unfold Lo at h
  have e : (dnP b).1 * x + (dnP b).2.1 = 0 - hh x b := hh_dn x b
  rw [e, Int.sub_mul, Int.zero_mul]
  have : hh x b * p.2.2 ≤ (p.1 * x + p.2.1) * b.2.2 := h
  show 0 ≤ (p.1 * x + p.2.1) * b.2.2 + _
  omega
theorem up_dn {x : Int} {p b : L3} (h : 0 ≤ (p.1 * x + p.2.1) * (dnP b).2.2 + ((dnP b).1 * x + (dnP b).2.1) * p.2.2) : Lo x b p := by
  have e : (dnP b).1 * x + (dnP b).2.1 = 0 - hh x b := hh_dn x b
  rw [e, Int.sub_mul, Int.zero_mul] at h
  have h' : 0 ≤ (p.1 * x + p.2.1) * b.2.2 + (0 - hh x b * p.2.2) := h
  show hh x b * p.2.2 ≤ (p.1 * x + p.2.1) * b.2.2
  omega
/-- what is found of the cuts of ps with qs -/
structure CI (lo hi : Int) (P : L3 → L3 → Prop) (cs : List Int) : Prop where
  cl : lo ∈ cs
  ch : hi ∈ cs
  wi : ∀ c ∈ cs, lo ≤ c ∧ c ≤ hi
  cr : ∀ p q, P p q → 0 < st p q → ∀ c, (c = pl p q ∨ c = pl p q + 1) → lo < c → c < hi → c ∈ cs
theorem CI.more {lo hi : Int} {P P' : L3 → L3 → Prop} {cs es : List Int} (h : CI lo hi P cs) (hw : ∀ c ∈ es, lo ≤ c ∧ c ≤ hi) (hp : ∀ p q, P' p q → P p q ∨ (0 < st p q → ∀ c, (c = pl p q ∨ c = pl p q + 1) → lo < c → c < hi → c ∈ es)) : CI lo hi P' (cs ++ es) where
  cl := List.mem_append.mpr (.inl h.cl)
  ch := List.mem_append.mpr (.inl h.ch)
  wi := fun c hc => (List.mem_append.mp hc).elim (h.wi c) (hw c)
  cr := fun p q hq s c hc c0 c1 => (hp p q hq).elim (fun a => List.mem_append.mpr (.inl (h.cr p q a s c hc c0 c1))) fun a => List.mem_append.mpr (.inr (a s c hc c0 c1))
theorem CI.same {lo hi : Int} {P P' : L3 → L3 → Prop} {cs : List Int} (h : CI lo hi P cs) (hp : ∀ p q, P' p q → 0 < st p q → P p q) : CI lo hi P' cs := ⟨h.cl, h.ch, h.wi, fun p q hq s => h.cr p q (hp p q hq s) s⟩
theorem mem_take_snoc {α : Type} {l : List α} {i : Nat} {x y : α} (h : l[i]? = some x) (hy : y ∈ l.take (i + 1)) : y ∈ l.take i ∨ y = x := by
  rw [List.take_add_one, h] at hy
  rcases List.mem_append.mp hy with q | q
  · exact .inl q
  · exact .inr (by simpa using q)
def sp_lowest_at : SpZ Unit := fun ds w Q E => ∃ ls x, ds = [ltp ls, .int x] ∧ (LsOk ls ∧ Sm 310 x) ∧ ∀ p, p ∈ ls → 1 ≤ p.2.2 → Sm 800 p.1 → Sm 800 p.2.1 → Sm 800 p.2.2 → Stp (∀ q ∈ ls, Lo x p q) → Q (lnP p) w
def sp_lowest_at_L : SpZ Unit := fun ds w Q E => ∃ ls x, ds = [llp ls, .int x] ∧ (LsOk ls ∧ Sm 310 x) ∧ ∀ p, p ∈ ls → 1 ≤ p.2.2 → Sm 800 p.1 → Sm 800 p.2.1 → Sm 800 p.2.2 → Stp (∀ q ∈ ls, Lo x p q) → Q (lnP p) w
def sp_cuts_of : SpZ Unit := fun ds w Q E => ∃ ls lo hi, ds = [ltp ls, .int lo, .int hi] ∧ (LsOk ls ∧ lo ≤ hi) ∧ ∀ cs, Stp (Cuts ls lo hi cs) → cs.length < 64 → Q (.lst (cs.map D.int)) w
def sp_points_between : SpZ Unit := fun ds w Q E => ∃ ab be lo hi, ds = [ltp ab, ltp be, .int lo, .int hi] ∧ (LsOk ab ∧ LsOk be ∧ ab.length + be.length ≤ 8 ∧ lo ≤ hi ∧ Sm 300 lo ∧ Sm 300 hi) ∧ Q (.int (pts ab be lo (hi - lo).toNat)) w
def sp__law_number : SpZ Unit := fun ds w Q _ => ∃ (ns : List Int) (k : Int), ds = [.arr (ns.map D.int), .int k] ∧ (ns.length ≤ 63 ∧ 0 ≤ k ∧ k ≤ 100000) ∧ ∀ r, 0 ≤ r → r < 1000000 → Q (.int r) w
def sp__law_great : SpZ Unit := fun ds w Q _ => ∃ (ns : List Int) (k g : Int), ds = [.arr (ns.map D.int), .int k, .int g] ∧ (ns.length ≤ 63 ∧ 0 ≤ k ∧ k ≤ 50000 ∧ 1 ≤ g ∧ g ≤ 10) ∧ Stp (∀ r, 0 ≤ r → r < 10 ^ (6 * g.toNat) → Sm 240 r → Q (.int r) w)
def sp__law_whole : SpZ Unit := fun ds w Q _ => ∃ x, ds = [.int x] ∧ Q (.bl true) w
def sp__law_measure : SpZ Unit := fun ds w Q E => ∃ a m, ds = [.int a, .int m] ∧ Q (.int ((Int.gcd a m : Nat) : Int)) w
theorem rngD_len (lo : Int) (n : Nat) : (rngD lo n).length = n := by unfold rngD; rw [List.length_map, List.length_range]
theorem rng_get {lo : Int} {n i : Nat} {d : D} (h : (rngD lo n)[i]? = some d) : i < n ∧ d = .int (lo + (i : Int)) := by
  have hi : i < n := by
    have := (List.getElem?_eq_some_iff.mp h).1
    rw [rngD_len] at this
    exact this
  rw [rngD_at hi] at h
  exact ⟨hi, (Option.some.inj h).symm⟩
theorem atI_range {f : Nat → D} {n j : Nat} {x : Int} (h : j < n) (e : x = j) : atI ((List.range n).map f) x = some (f j) := by
  subst e
  unfold atI ixN
  rw [List.length_map, List.length_range, if_pos (by omega), if_pos (by omega)]
  show ((List.range n).map f)[((j : Int)).toNat]? = _
  rw [Int.toNat_natCast, List.getElem?_map, List.getElem?_range h]
  rfl
theorem range_snoc {α : Type} (f : Nat → α) (i : Nat) : (List.range (i + 1)).map f = (List.range i).map f ++ [f i] := by
  rw [List.range_succ, List.map_append]; rfl
theorem at_ints (rs : List Int) {v : Int} (v0 : 0 ≤ v) (v1 : v < rs.length) : ∃ u, atI (rs.map D.int) v = some (.int u) ∧ u ∈ rs := by
  have hv : v.toNat < rs.length := by omega
  refine ⟨rs[v.toNat], ?_, List.getElem_mem hv⟩
  unfold atI ixN
  rw [List.length_map, if_pos v0, if_pos v1]
  show (rs.map D.int)[v.toNat]? = _
  rw [List.getElem?_map, List.getElem?_eq_getElem hv]
  rfl
theorem bnd_sm {m z : Int} (x y : Int) (m1 : 1 ≤ m) (ml : m < 10 ^ 60) (z0 : 0 ≤ z) (z1 : z < 1000000) : ∀ q ∈ [0, m, 0 - 1 - x % (10 ^ Int.toNat 60 - 1), 1, m - 1, y % m] ++ [min (10 ^ Int.toNat 60 - 1) (m + z)], Sm 300 q := by
  have e60 : (10 : Int) ^ Int.toNat 60 = 10 ^ 60 := rfl
  have b1 := Int.emod_nonneg x (show (10 : Int) ^ 60 - 1 ≠ 0 by decide)
  have b2 := Int.emod_lt_of_pos x (show 0 < (10 : Int) ^ 60 - 1 by decide)
  have b3 := Int.emod_nonneg y (show m ≠ 0 by omega)
  have b4 := Int.emod_lt_of_pos y (show 0 < m by omega)
  have lim : ∀ q : Int, -(10 ^ 61) < q → q < 10 ^ 61 → Sm 300 q := fun q h1 h2 => Sm.le (n := 245) (Sm.lt10s (Int.le_of_lt h1) (Int.le_of_lt h2)) (by decide)
  rw [e60]
  intro q hq
  simp only [List.cons_append, List.nil_append, List.mem_cons, List.not_mem_nil, or_false] at hq
  rcases hq with rfl | rfl | rfl | rfl | rfl | rfl | rfl <;> exact lim _ (by omega) (by omega)
theorem okL_ints : ∀ rs : List Int, okDs (rs.map D.int) = true
  | [] => rfl
  | r :: rs => by show (okD (.int r) && okDs (rs.map D.int)) = true; rw [okL_ints rs]; rfl
theorem dpLs_ints : ∀ rs : List Int, dpDs (rs.map D.int) = 0
  | [] => rfl
  | r :: rs => by show max (dpD (.int r)) (dpDs (rs.map D.int)) = 0; rw [dpLs_ints rs]; rfl
theorem dpL_ints (rs : List Int) : dpD (.lst (rs.map D.int)) ≤ 64 := by show dpDs (rs.map D.int) + 1 ≤ 64; rw [dpLs_ints]; decide
theorem bl_one {ω : Type} {b : Bool} {w : ω} {Q : D → ω → Prop} (e : b = true) (h : Q (.bl true) w) : Q (.bl b) w := e ▸ h
def SdD (s : Sd) : D := .tup [.int s.1, .int s.2]
structure SdOk (s : Sd) : Prop where
  w1 : 1 ≤ s.1
  sw : Sm 90 s.1
  sh : Sm 90 s.2
theorem SdD_at {S : List Sd} {i : Nat} {d : D} (h : (S.map SdD)[i]? = some d) : ∃ s, S[i]? = some s ∧ s ∈ S ∧ d = SdD s := by
  rw [List.getElem?_map] at h
  obtain ⟨s, hs, rfl⟩ := Option.map_eq_some_iff.mp h
  exact ⟨s, hs, List.mem_of_getElem? hs, rfl⟩
theorem tk1 {α : Type} {l : List α} {i : Nat} {c : α} (h : l[i]? = some c) : l.take (i + 1) = l.take i ++ [c] := by
  rw [List.take_add_one, h]; rfl
theorem sds_b : ∀ {S : List Sd}, (∀ s ∈ S, SdOk s) → (wd S).natAbs ≤ S.length * 2 ^ 90 ∧ (ht S).natAbs ≤ S.length * 2 ^ 90
  | [], _ => ⟨Nat.zero_le _, Nat.zero_le _⟩
  | s :: S, h => by
    have ih := sds_b (S := S) fun t ht => h t (List.mem_cons_of_mem _ ht)
    have h1 : s.1.natAbs < 2 ^ 90 := (h s List.mem_cons_self).sw
    have h2 : s.2.natAbs < 2 ^ 90 := (h s List.mem_cons_self).sh
    have e1 : wd (s :: S) = s.1 + wd S := rfl
    have e2 : ht (s :: S) = s.2 + ht S := rfl
    have a1 := Int.natAbs_add_le s.1 (wd S)
    have a2 := Int.natAbs_add_le s.2 (ht S)
    rw [List.length_cons, e1, e2, Nat.succ_mul]
    omega
theorem sds_sm {S : List Sd} (h : ∀ s ∈ S, SdOk s) (hl : S.length ≤ 4) : Sm 93 (wd S) ∧ Sm 93 (ht S) := by
  have := sds_b h
  have e : S.length * 2 ^ 90 ≤ 4 * 2 ^ 90 := Nat.mul_le_mul_right _ hl
  have e2 : (4 : Nat) * 2 ^ 90 < 2 ^ 93 := by decide
  unfold Sm; omega
theorem take_ok {S : List Sd} (h : ∀ s ∈ S, SdOk s) (hl : S.length ≤ 4) (i : Nat) : Sm 93 (wd (S.take i)) ∧ Sm 93 (ht (S.take i)) := sds_sm (fun s hs => h s (List.mem_of_mem_take hs)) (by rw [List.length_take]; omega)
theorem lnsK_snoc {f x y : Int} {S : List Sd} {i : Nat} {s : Sd} (h : S[i]? = some s) : (lnsK f (S.take i) x y).map lnP ++ [lnP (lnK f s (x + wd (S.take i)) (y + ht (S.take i)))] = (lnsK f (S.take (i + 1)) x y).map lnP := by
  rw [tk1 h, lnsK_app, List.map_append]; rfl
theorem wd_snoc {S : List Sd} {i : Nat} {s : Sd} (h : S[i]? = some s) : wd (S.take (i + 1)) = wd (S.take i) + s.1 := by
  rw [tk1 h, wd_app]; show wd (S.take i) + (s.1 + 0) = _; omega
theorem ht_snoc {S : List Sd} {i : Nat} {s : Sd} (h : S[i]? = some s) : ht (S.take (i + 1)) = ht (S.take i) + s.2 := by
  rw [tk1 h, ht_app]; show ht (S.take i) + (s.2 + 0) = _; omega
theorem tw_app : ∀ (A B : List Sd) (y : Int), twK (A ++ B) y = twK A y + twK B (y + ht A)
  | [], B, y => by show twK B y = 0 + twK B (y + 0); rw [Int.add_zero]; omega
  | s :: A, B, y => by
    have ih := tw_app A B (y + s.2)
    show s.1 * (2 * y + s.2) + twK (A ++ B) (y + s.2) = s.1 * (2 * y + s.2) + twK A (y + s.2) + twK B (y + (s.2 + ht A))
    rw [ih, Int.add_assoc y]; omega
theorem tw_snoc {S : List Sd} {i : Nat} {s : Sd} {y : Int} (h : S[i]? = some s) : twK (S.take (i + 1)) y = twK (S.take i) y + s.1 * (2 * (y + ht (S.take i)) + s.2) := by
  rw [tk1 h, tw_app]; show _ + (s.1 * (2 * (y + ht (S.take i)) + s.2) + 0) = _; omega
theorem ht_sum : ∀ S : List Sd, (S.map fun s => s.2).sum = ht S
  | [] => rfl
  | s :: S => by rw [List.map_cons, List.sum_cons, ht_sum S]; rfl
theorem rim_sum : ∀ S : List Sd, (S.map fun s => ((Int.gcd s.1 s.2 : Nat) : Int)).sum = rimK S
  | [] => rfl
  | s :: S => by rw [List.map_cons, List.sum_cons, rim_sum S, Int.gcd_comm]; rfl
theorem hts_snoc {S : List Sd} {i : Nat} {s : Sd} (h : S[i]? = some s) : ((S.take i).map fun s => s.2).map D.int ++ [D.int s.2] = ((S.take (i + 1)).map fun s => s.2).map D.int := by
  rw [tk1 h, List.map_append, List.map_append]; rfl
theorem rims_snoc {S : List Sd} {i : Nat} {s : Sd} (h : S[i]? = some s) : ((S.take i).map fun s => ((Int.gcd s.1 s.2 : Nat) : Int)).map D.int ++ [D.int ((Int.gcd s.1 s.2 : Nat) : Int)] = ((S.take (i + 1)).map fun s => ((Int.gcd s.1 s.2 : Nat) : Int)).map D.int := by
  rw [tk1 h, List.map_append, List.map_append]; rfl
theorem memF_ints (x : Int) : ∀ l : List Int, memF (.int x) (l.map D.int) = decide (x ∈ l)
  | [] => rfl
  | y :: l => by
    rw [List.map_cons, memF_cons, eqF_int, memF_ints x l]
    by_cases h : y = x
    · subst h; simp
    · have : (y == x) = false := beq_eq_false_iff_ne.mpr h
      rw [this, Bool.false_or]
      apply decide_eq_decide.mpr
      rw [List.mem_cons]
      exact ⟨Or.inr, fun z => z.elim (fun e => absurd e.symm h) id⟩
theorem okFs_ints : ∀ l : List Int, okFs (l.map D.int) = true
  | [] => rfl
  | y :: l => by show (okF (D.int y) && okFs (l.map D.int)) = true; rw [okFs_ints l]; rfl
def gaps : List Int → List Int
  | [] => []
  | [_] => []
  | a :: b :: l => (b - a) :: gaps (b :: l)
theorem gaps_len : ∀ (a : Int) (l : List Int), (gaps (a :: l)).length = l.length
  | _, [] => rfl
  | a, b :: l => by show (gaps (b :: l)).length + 1 = _; rw [gaps_len b l]; rfl
theorem gaps_sum : ∀ (a : Int) (l : List Int), (gaps (a :: l)).sum = (a :: l).getLast (by simp) - a
  | a, [] => by show (0 : Int) = a - a; omega
  | a, b :: l => by
    have := gaps_sum b l
    show (b - a) + (gaps (b :: l)).sum = _
    rw [this, List.getLast_cons_cons]; omega
theorem gaps_pos : ∀ {l : List Int}, l.Pairwise (· < ·) → ∀ x ∈ gaps l, 1 ≤ x
  | [], _, x, h => nomatch h
  | [_], _, x, h => nomatch h
  | a :: b :: l, hp, x, h => by
    have p := List.pairwise_cons.mp hp
    have ab := p.1 b List.mem_cons_self
    rcases List.mem_cons.mp h with rfl | h
    · omega
    · exact gaps_pos p.2 x h
theorem gaps_at : ∀ {l : List Int} {i : Nat} {a b : Int}, l[i]? = some a → l[i + 1]? = some b → (gaps l)[i]? = some (b - a)
  | [], i, a, b, h, _ => by simp at h
  | [x], i, a, b, h, g => by simp at g
  | x :: y :: l, 0, a, b, h, g => by
    rw [List.getElem?_cons_zero] at h
    rw [List.getElem?_cons_succ, List.getElem?_cons_zero] at g
    cases h; cases g; rfl
  | x :: y :: l, i + 1, a, b, h, g => by
    rw [List.getElem?_cons_succ] at h g
    show ((y - x) :: gaps (y :: l))[i + 1]? = _
    rw [List.getElem?_cons_succ]
    exact gaps_at h g
theorem cons_of {α : Type} {l : List α} (h : 1 ≤ l.length) : ∃ a r, l = a :: r := by
  cases l with
  | nil => exact absurd h (Nat.not_succ_le_zero 0)
  | cons a l => exact ⟨a, l, rfl⟩
theorem last_max : ∀ {l : List Int} (h : l ≠ []), l.Pairwise (· ≤ ·) → ∀ x ∈ l, x ≤ l.getLast h
  | [], h, _, _, _ => absurd rfl h
  | [a], _, _, x, hx => by rw [List.mem_singleton.mp hx]; exact Int.le_refl _
  | a :: b :: l, _, hp, x, hx => by
    have p := List.pairwise_cons.mp hp
    have ih := last_max (l := b :: l) (by simp) p.2
    rw [List.getLast_cons_cons]
    rcases List.mem_cons.mp hx with rfl | hx
    · exact p.1 _ (List.getLast_mem _)
    · exact ih x hx
theorem lt_of_le {l : List Int} (h : l.Pairwise (· ≤ ·)) (g : l.Nodup) : l.Pairwise (· < ·) := by
  induction l with
  | nil => exact .nil
  | cons a l ih =>
    have p := List.pairwise_cons.mp h
    have q := List.nodup_cons.mp g
    exact List.pairwise_cons.mpr ⟨fun b hb => by
      have := p.1 b hb
      have ne : a ≠ b := fun e => q.1 (e ▸ hb)
      omega, ih p.2 q.2⟩
theorem sum_le_of {l : List Int} (h : ∀ x ∈ l, 1 ≤ x) : ∀ x ∈ l, x ≤ l.sum := by
  have nn : ∀ {l : List Int}, (∀ x ∈ l, 1 ≤ x) → 0 ≤ l.sum := by
    intro l
    induction l with
    | nil => intro _; exact Int.le_refl 0
    | cons a l ih =>
      intro h
      have := ih fun y hy => h y (List.mem_cons_of_mem _ hy)
      have := h a List.mem_cons_self
      rw [List.sum_cons]; omega
  induction l with
  | nil => intro x hx; exact nomatch hx
  | cons a l ih =>
    intro x hx
    have h2 := nn fun y hy => h y (List.mem_cons_of_mem _ hy)
    have h3 := h a List.mem_cons_self
    rw [List.sum_cons]
    rcases List.mem_cons.mp hx with rfl | hx
    · omega
    · have := ih (fun y hy => h y (List.mem_cons_of_mem _ hy)) x hx; omega
theorem Fl.tr {p q r : Sd} (hq : 1 ≤ q.1) (hp : 1 ≤ p.1) (hr : 1 ≤ r.1) (h : Fl p q) (g : Fl q r) : Fl p r := by
  unfold Fl at *
  have h1 := Int.mul_le_mul_of_nonneg_right h (show 0 ≤ r.1 by omega)
  have h2 := Int.mul_le_mul_of_nonneg_right g (show 0 ≤ p.1 by omega)
  have e1 : r.2 * q.1 * p.1 = r.2 * p.1 * q.1 := Int.mul_right_comm ..
  have e2 : q.2 * r.1 * p.1 = q.2 * p.1 * r.1 := Int.mul_right_comm ..
  have e3 : p.2 * q.1 * r.1 = p.2 * r.1 * q.1 := Int.mul_right_comm ..
  exact Int.le_of_mul_le_mul_right (show r.2 * p.1 * q.1 ≤ p.2 * r.1 * q.1 by omega) (show 0 < q.1 by omega)
theorem Fl.rfl' (p : Sd) : Fl p p := Int.le_refl _
theorem wd_erase : ∀ {l : List Sd} {i : Nat} {s : Sd}, l[i]? = some s → wd (l.eraseIdx i) + s.1 = wd l
  | [], i, s, h => by simp at h
  | a :: l, 0, s, h => by
    rw [List.getElem?_cons_zero] at h
    cases h
    show wd l + a.1 = a.1 + wd l; omega
  | a :: l, i + 1, s, h => by
    rw [List.getElem?_cons_succ] at h
    have := wd_erase h
    show a.1 + wd (l.eraseIdx i) + s.1 = a.1 + wd l; omega
theorem er_mem {α : Type} {l : List α} {i : Nat} {x : α} (h : x ∈ l.eraseIdx i) : x ∈ l := List.mem_of_mem_eraseIdx h
theorem er_len {α : Type} {l : List α} {i : Nat} (h : i < l.length) : (l.eraseIdx i).length + 1 = l.length := by rw [List.length_eraseIdx_of_lt h]; omega
theorem map_er {l : List Sd} (i : Nat) : (l.map SdD).eraseIdx i = (l.eraseIdx i).map SdD := by
  induction l generalizing i with
  | nil => cases i <;> rfl
  | cons a l ih =>
    cases i with
    | zero => rfl
    | succ i => show SdD a :: _ = SdD a :: _; rw [ih]
theorem sd_ix {S : List Sd} {i : Nat} {s : Sd} {k : Int} (h : S[i]? = some s) (e : k = i) : atI (S.map SdD) k = some (SdD s) := by
  subst e
  have hl : i < S.length := (List.getElem?_eq_some_iff.mp h).1
  unfold atI ixN
  rw [if_pos (by omega), if_pos (by rw [List.length_map]; omega)]
  show (S.map SdD)[((i : Int)).toNat]? = _
  rw [Int.toNat_natCast, List.getElem?_map, h]; rfl
theorem ix4 {i : Nat} (h : i < 4) : ∃ z : Int, atI [D.int 2, D.int 4, D.int 8, D.int 16] (i : Int) = some (.int z) ∧ 1 ≤ z ∧ z ≤ 16 := by
  obtain rfl | rfl | rfl | rfl : i = 0 ∨ i = 1 ∨ i = 2 ∨ i = 3 := by omega
  · exact ⟨2, rfl, by decide, by decide⟩
  · exact ⟨4, rfl, by decide, by decide⟩
  · exact ⟨8, rfl, by decide, by decide⟩
  · exact ⟨16, rfl, by decide, by decide⟩
theorem at3 (a b r : Int) : ∃ z : Int, atI [D.int a, D.int a, D.int b] (r % 3) = some (.int z) ∧ (z = a ∨ z = b) := by
  have m0 := Int.emod_nonneg r (show (3 : Int) ≠ 0 by decide)
  have m1 := Int.emod_lt_of_pos r (show (0 : Int) < 3 by decide)
  obtain e | e | e : r % 3 = 0 ∨ r % 3 = 1 ∨ r % 3 = 2 := by omega
  · rw [e]; exact ⟨a, rfl, .inl rfl⟩
  · rw [e]; exact ⟨a, rfl, .inl rfl⟩
  · rw [e]; exact ⟨b, rfl, .inr rfl⟩
theorem wd_fst : ∀ S : List Sd, wd S = (S.map fun s => s.1).sum
  | [] => rfl
  | s :: S => by rw [List.map_cons, List.sum_cons, ← wd_fst S]; rfl
structure SInv (W : Int) (n : Nat) (F Wt : List Sd) : Prop where
  ok : ∀ s ∈ F ++ Wt, SdOk s
  fl : F.Pairwise Fl
  ft : ∀ f ∈ F, ∀ t ∈ Wt, Fl f t
  sm : wd F + wd Wt = W
  ln : F.length + Wt.length = n
theorem SInv.next {W : Int} {n : Nat} {F Wt : List Sd} (h : SInv W n F Wt) {a : Nat} {s : Sd} (hs : Wt[a]? = some s) (hm : ∀ (j : Nat) (t : Sd), Wt[j]? = some t → Fl s t) : SInv W n (F ++ [s]) (Wt.eraseIdx a) := by
  have sm := List.mem_of_getElem? hs
  have hl := (List.getElem?_eq_some_iff.mp hs).1
  refine ⟨fun t ht => ?_, ?_, fun f hf t ht => ?_, ?_, ?_⟩
  · rcases List.mem_append.mp ht with ht | ht
    · rcases List.mem_append.mp ht with ht | ht
      · exact h.ok t (List.mem_append.mpr (.inl ht))
      · rw [List.mem_singleton.mp ht]; exact h.ok s (List.mem_append.mpr (.inr sm))
    · exact h.ok t (List.mem_append.mpr (.inr (er_mem ht)))
  · exact List.pairwise_append.mpr ⟨h.fl, List.pairwise_singleton .., fun f hf t ht => by rw [List.mem_singleton.mp ht]; exact h.ft f hf s sm⟩
  · have tm := er_mem ht
    rcases List.mem_append.mp hf with hf | hf
    · exact h.ft f hf t tm
    · rw [List.mem_singleton.mp hf]
      obtain ⟨j, hj⟩ := List.getElem?_of_mem tm
      exact hm j t hj
  · have := wd_erase hs
    have := h.sm
    rw [wd_app]; show wd F + (s.1 + 0) + _ = W; omega
  · have := er_len hl
    have := h.ln
    rw [List.length_append, List.length_singleton]; omega
theorem okSds : ∀ S : List Sd, okD (D.lst (S.map SdD)) = true
  | [] => rfl
  | s :: S => by
    have h := okSds S
    show (okD (SdD s) && okDs (S.map SdD)) = true
    have e : okDs (S.map SdD) = true := h
    rw [e]; rfl
theorem dpSds (S : List Sd) : dpD (D.lst (S.map SdD)) ≤ 64 := by
  have h : dpDs (S.map SdD) ≤ 1 := by
    induction S with
    | nil => exact Nat.zero_le _
    | cons z l ih =>
      show max (dpD (SdD z)) (dpDs (l.map SdD)) ≤ 1
      have e : dpD (SdD z) = 1 := rfl
      omega
  show dpDs _ + 1 ≤ 64
  omega
theorem deqNil : ∀ {S : List Sd}, deqs (S.map SdD) [] = true → S = []
  | [], _ => rfl
  | s :: S, h => by rw [List.map_cons, Z.deqs_cons_nil] at h; cases h
theorem deqNil' : ∀ {S : List Sd}, deqs (S.map SdD) [] = false → S ≠ []
  | [], h => by rw [List.map_nil, Z.deqs_nil] at h; cases h
  | s :: S, _ => List.cons_ne_nil _ _
theorem ints_ix9 {l : List Int} {i : Nat} {d : D} (h : (l.map D.int)[i]? = some d) : ∃ x, l[i]? = some x ∧ d = .int x := by
  rw [List.getElem?_map] at h
  obtain ⟨z, hz, rfl⟩ := Option.map_eq_some_iff.mp h
  exact ⟨z, hz, rfl⟩
theorem wd_rev : ∀ S : List Sd, wd S.reverse = wd S
  | [] => rfl
  | s :: S => by rw [List.reverse_cons, wd_app, wd_rev S]; show wd S + (s.1 + 0) = s.1 + wd S; omega
theorem rev_sds {S : List Sd} (h : Sds S) : Sds (ngS S.reverse) := by
  refine ⟨fun s hs => ?_, ?_⟩
  · obtain ⟨t, ht, rfl⟩ := List.mem_map.mp hs
    exact h.pos t (List.mem_reverse.mp ht)
  · unfold ngS
    rw [List.pairwise_map, List.pairwise_reverse]
    refine h.fl.imp fun {a b} hab => ?_
    unfold Fl at *
    show (0 - a.2) * b.1 ≤ (0 - b.2) * a.1
    rw [Int.sub_mul, Int.sub_mul, Int.zero_mul, Int.zero_mul]
    omega
theorem lnsK_len (f : Int) : ∀ (S : List Sd) (x y : Int), (lnsK f S x y).length = S.length
  | [], _, _ => rfl
  | s :: S, x, y => by show (lnsK f S _ _).length + 1 = _; rw [lnsK_len f S]; rfl
theorem lnsK_ok {f x y : Int} {S : List Sd} (h : ∀ s ∈ S, SdOk s) (l1 : 1 ≤ S.length) (l4 : S.length ≤ 4) (f1 : 1 ≤ f) (f9 : f ≤ 9) (sx : Sm 100 x) (sy : Sm 100 y) : LsOk (lnsK f S x y) := by
  refine ⟨by rw [lnsK_len]; exact l1, by rw [lnsK_len]; omega, fun p hp => ?_⟩
  obtain ⟨A, t, B, e, rfl⟩ := mem_lnsK hp
  have ho := h t (by rw [e]; simp)
  have hA := sds_sm (S := A) (fun s hs => h s (by rw [e]; simp [hs])) (by have := congrArg List.length e; rw [List.length_append] at this; omega)
  have sf : Sm 4 f := by unfold Sm; omega
  have x1 : Sm 101 (x + wd A) := (sx.add hA.1).le (by decide)
  have y1 : Sm 101 (y + ht A) := (sy.add hA.2).le (by decide)
  refine ⟨?_, (ho.sh.mul sf).le (by decide), (((y1.mul ho.sw).sub (ho.sh.mul x1)).mul sf).le (by decide), (ho.sw.mul sf).le (by decide)⟩
  have := Int.mul_pos (show 0 < t.1 from ho.w1) (show 0 < f by omega)
  show 1 ≤ t.1 * f
  omega
theorem LsOk.rev {ls : List L3} (h : LsOk ls) : LsOk ls.reverse := ⟨by rw [List.length_reverse]; exact h.l1, by rw [List.length_reverse]; exact h.l8, fun p hp => h.ea p (List.mem_reverse.mp hp)⟩
theorem ltp_rev (ls : List L3) : D.tup (ls.map lnP).reverse = ltp ls.reverse := by unfold ltp; rw [List.map_reverse]
theorem LsOk.ne {ls : List L3} (h : LsOk ls) : ls ≠ [] := fun e => by have := h.l1; rw [e] at this; exact absurd this (by decide)
theorem LsOk.pos {ls : List L3} (h : LsOk ls) : ∀ p ∈ ls, 0 < p.2.2 := fun p hp => by have := (h.ea p hp).1; omega
theorem pts_rev2 {ab be : List L3} (ha : LsOk ab) (hb : LsOk be) (lo : Int) (n : Nat) : pts ab be.reverse lo n = pts ab be lo n := pts_set ha.ne hb.ne (fun _ => Iff.rfl) (fun p => List.mem_reverse.symm) lo n
theorem pts_rev1 {ab be : List L3} (ha : LsOk ab) (hb : LsOk be) (lo : Int) (n : Nat) : pts ab.reverse be lo n = pts ab be lo n := pts_set ha.ne hb.ne (fun p => List.mem_reverse.symm) (fun _ => Iff.rfl) lo n
theorem sd_last {S : List Sd} {s : Sd} (h : S.getLast? = some s) : atI (S.map SdD) (-1) = some (SdD s) := by
  have hl : S ≠ [] := fun e => by rw [e] at h; exact absurd h (by simp)
  have hl2 : 0 < S.length := List.length_pos_iff.mpr hl
  unfold atI ixN
  rw [if_neg (by decide), List.length_map, if_pos (by omega)]
  show (S.map SdD)[((S.length : Int) + -1).toNat]? = _
  rw [show ((S.length : Int) + -1).toNat = S.length - 1 by omega, List.getElem?_map, ← List.getLast?_eq_getElem?, h]; rfl
theorem last_of {S : List Sd} (h : 1 ≤ S.length) : ∃ A s, S = A ++ [s] ∧ S.getLast? = some s := by
  have hne : S ≠ [] := fun e => by rw [e] at h; exact absurd h (by decide)
  exact ⟨S.dropLast, S.getLast hne, (List.dropLast_concat_getLast hne).symm, List.getLast?_eq_some_getLast hne⟩
/-- as far as no point lies -/
theorem pts_wide {ab be : List L3} {x e lo hi : Int} (h1 : lo ≤ x) (h2 : x ≤ e) (h3 : e ≤ hi) (z1 : ∀ X, lo ≤ X → X < x → room ab be X = 0) (z2 : ∀ X, e ≤ X → X < hi → room ab be X = 0) : pts ab be lo (hi - lo).toNat = pts ab be x (e - x).toNat := by
  have a := pts_go ab be (show lo ≤ x from h1) (show x ≤ hi by omega)
  have b := pts_go ab be h2 h3
  have c : pts ab be lo (x - lo).toNat = 0 := pts_none fun X X0 X1 => by rw [z1 X X0 (by omega)]; decide
  have d : pts ab be e (hi - e).toNat = 0 := pts_none fun X X0 X1 => by rw [z2 X X0 (by omega)]; decide
  omega
def sp__law_widths : SpZ Unit := fun ds w Q E => ∃ (ns : List Int) (k n W : Int), ds = [.arr (ns.map D.int), .int k, .int n, .int W] ∧ (ns.length ≤ 63 ∧ 0 ≤ k ∧ k ≤ 40000 ∧ 1 ≤ n ∧ n ≤ 4 ∧ 1 ≤ W ∧ Sm 90 W) ∧ ∀ ws : List Int, 1 ≤ ws.length → (ws.length : Int) ≤ n → Stp ((∀ x ∈ ws, 1 ≤ x ∧ x ≤ W) ∧ ws.sum = W) → Q (.lst (ws.map D.int)) w
def sp__law_sides : SpZ Mst := fun ds w Q E => ∃ (ns : List Int) (k n W : Int), ds = [.arr (ns.map D.int), .int k, .int n, .int W] ∧ (ns.length ≤ 63 ∧ 0 ≤ k ∧ k ≤ 30000 ∧ 1 ≤ n ∧ n ≤ 4 ∧ 1 ≤ W ∧ W ≤ 10 ^ 24) ∧ Stp (∀ (S : List Sd) (w' : Mst), 1 ≤ S.length → (S.length : Int) ≤ n → Sds S → wd S = W → (∀ s ∈ S, SdOk s) → Q (.lst (S.map SdD)) w')
def sp__law_lines : SpZ Unit := fun ds w Q E => ∃ (S : List Sd) (x y f : Int), ds = [.lst (S.map SdD), .int x, .int y, .int f] ∧ ((∀ s ∈ S, SdOk s) ∧ S.length ≤ 4 ∧ Sm 100 x ∧ Sm 100 y ∧ 1 ≤ f ∧ f ≤ 9) ∧ Q (.lst [ltp (lnsK f S x y), .int (twK S y)]) w
def sp__law_rim : SpZ Unit := fun ds w Q E => ∃ S : List Sd, ds = [.lst (S.map SdD)] ∧ S.length ≤ 4 ∧ Q (.int (rimK S)) w
def sp__law_points : SpZ Unit := fun ds w Q E => ∃ (U V : List Sd) (g : Int), ds = [.lst (U.map SdD), .lst (V.map SdD), .int g] ∧ ((∀ s ∈ U, SdOk s) ∧ U.length ≤ 4 ∧ (∀ s ∈ V, SdOk s) ∧ V.length ≤ 4 ∧ Sm 100 g) ∧ Q (.int ((twK U g - twK V 0 + rimK U + rimK V + g + (g + ht U - ht V)) / 2 + 1)) w
def sp__law_alike : SpZ Unit := fun ds w Q E => ∃ s t, ds = [SdD s, SdD t] ∧ (SdOk s ∧ SdOk t) ∧ Q (.bl (decide (s.2 * t.1 = t.2 * s.1))) w
abbrev sp_law : SpZ Mst := spLaw []
theorem ok_need_line {P : Program} {w : World} {K : PySem.W.Frag} {mg : Str → Option Value} {base : Heap} {ec : Nat → Addr} (T : Tx K mg ec) {f : Addr} {fd : FuncData} (F : Fun K "need_line" "need_line" s_need_line f fd) (hm : mg "need_line" = some (.ref f)) (hb : Binds K fd ["line"] []) :
    Fd P w K mg base (W0 ec) 1 "need_line" sp_need_line := by
  have nd := sc_need_line.nd
  refine fnz F sc_need_line hm hb (by
    unfold sp_need_line; intro ds w Q Q' E E' k k'
    repeat' (first | exact id | exact k _ _ | exact k' _ _ | refine Exists.imp fun _ => ?_ | refine And.imp ?_ ?_ | refine Or.imp ?_ ?_ | refine Z.impR ?_ | refine Z.allR fun _ => ?_ | refine Z.Stp.imp ?_)) (by
    intro ds w' Q E h; unfold sp_need_line at h; obtain ⟨a, b, m, rfl, -⟩ := h; rfl) (fun cdv A outer s H E hr =>
  (zb_one (z_if (z_tcmp op_lt l_lt (z_ix ix_seq l_ix (z_var 0) z_int) z_int)
  (zb_one (z_raise (c := 0) T.e0))
  zb_nil))) ?_
  intro ds w Q E h
  unfold sp_need_line at h
  clear nd hb hm F T fd f ec base mg K
  obtain ⟨a, b, m, rfl, h1, h2⟩ := h
  kby_none
  · exact h1 (by assumption)
  · exact h2 (by omega)
theorem ok_height_at {P : Program} {w : World} {K : PySem.W.Frag} {mg : Str → Option Value} {base : Heap} {ec : Nat → Addr} (T : Tx K mg ec) {f : Addr} {fd : FuncData} (F : Fun K "height_at" "height_at" s_height_at f fd) (hm : mg "height_at" = some (.ref f)) (hb : Binds K fd ["line", "place"] []) (d_need_line : Fd P w K mg base (W0 ec) 1 "need_line" sp_need_line) :
    Fd P w K mg base (W0 ec) 2 "height_at" sp_height_at := by
  have nd := sc_height_at.nd
  refine fnz F sc_height_at hm hb (by
    unfold sp_height_at; intro ds w Q Q' E E' k k'
    repeat' (first | exact id | exact k _ _ | exact k' _ _ | refine Exists.imp fun _ => ?_ | refine And.imp ?_ ?_ | refine Or.imp ?_ ?_ | refine Z.impR ?_ | refine Z.allR fun _ => ?_ | refine Z.Stp.imp ?_)) (by
    intro ds w' Q E h; unfold sp_height_at at h; obtain ⟨a, b, m, x, rfl, -⟩ := h; rfl) (fun cdv A outer s H E hr =>
  (zb_cons (z_drop (z_callP d_need_line hr (z_cons (z_var 0) z_nil)))
  (zb_one (z_ret (z_op o_add l_add (z_op o_mul l_mul (z_ix ix_seq l_ix (z_var 0) z_int) (z_var 1)) (z_ix ix_seq l_ix (z_var 0) z_int)))))) ?_
  intro ds w Q E h
  unfold sp_height_at at h
  clear nd d_need_line hb hm F T fd f ec base mg K
  obtain ⟨a, b, m, x, rfl, h1, h2⟩ := h
  kby_none
  · exact h1 (by assumption)
  all_goals obtain ⟨⟨q1, q2⟩, q⟩ := h2 (by assumption)
  · kt_field
  · exact q
theorem ok_part_at {P : Program} {w : World} {K : PySem.W.Frag} {mg : Str → Option Value} {base : Heap} {ec : Nat → Addr} (T : Tx K mg ec) {f : Addr} {fd : FuncData} (F : Fun K "part_at" "part_at" s_part_at f fd) (hm : mg "part_at" = some (.ref f)) (hb : Binds K fd ["line", "place"] []) (d_height_at : Fd P w K mg base (W0 ec) 2 "height_at" sp_height_at) :
    Fd P w K mg base (W0 ec) 3 "part_at" sp_part_at := by
  have nd := sc_part_at.nd
  refine fnz F sc_part_at hm hb (by
    unfold sp_part_at; intro ds w Q Q' E E' k k'
    repeat' (first | exact id | exact k _ _ | exact k' _ _ | refine Exists.imp fun _ => ?_ | refine And.imp ?_ ?_ | refine Or.imp ?_ ?_ | refine Z.impR ?_ | refine Z.allR fun _ => ?_ | refine Z.Stp.imp ?_)) (by
    intro ds w' Q E h; unfold sp_part_at at h; obtain ⟨a, b, m, x, rfl, -⟩ := h; rfl) (fun cdv A outer s H E hr =>
  (zb_one (z_ret (z_op o_div l_div (z_callP d_height_at hr (z_cons (z_var 0) (z_cons (z_var 1) z_nil))) (z_ix ix_seq l_ix (z_var 0) z_int))))) ?_
  intro ds w Q E h
  unfold sp_part_at at h
  clear nd d_height_at hb hm F T fd f ec base mg K
  obtain ⟨a, b, m, x, rfl, h1, h2⟩ := h
  kby_none
  · exact h1 (by assumption)
  all_goals obtain ⟨⟨q1, q2, q3⟩, q⟩ := h2 (by assumption)
  all_goals first | assumption | exact q | exact q3.le (by decide)
theorem ok_rest_at {P : Program} {w : World} {K : PySem.W.Frag} {mg : Str → Option Value} {base : Heap} {ec : Nat → Addr} (T : Tx K mg ec) {f : Addr} {fd : FuncData} (F : Fun K "rest_at" "rest_at" s_rest_at f fd) (hm : mg "rest_at" = some (.ref f)) (hb : Binds K fd ["line", "place"] []) (d_height_at : Fd P w K mg base (W0 ec) 2 "height_at" sp_height_at) :
    Fd P w K mg base (W0 ec) 3 "rest_at" sp_rest_at := by
  have nd := sc_rest_at.nd
  refine fnz F sc_rest_at hm hb (by
    unfold sp_rest_at; intro ds w Q Q' E E' k k'
    repeat' (first | exact id | exact k _ _ | exact k' _ _ | refine Exists.imp fun _ => ?_ | refine And.imp ?_ ?_ | refine Or.imp ?_ ?_ | refine Z.impR ?_ | refine Z.allR fun _ => ?_ | refine Z.Stp.imp ?_)) (by
    intro ds w' Q E h; unfold sp_rest_at at h; obtain ⟨a, b, m, x, rfl, -⟩ := h; rfl) (fun cdv A outer s H E hr =>
  (zb_one (z_ret (z_op op_mod l_mod (z_callP d_height_at hr (z_cons (z_var 0) (z_cons (z_var 1) z_nil))) (z_ix ix_seq l_ix (z_var 0) z_int))))) ?_
  intro ds w Q E h
  unfold sp_rest_at at h
  clear nd d_height_at hb hm F T fd f ec base mg K
  obtain ⟨a, b, m, x, rfl, h1, h2⟩ := h
  kby_none
  · exact h1 (by assumption)
  all_goals obtain ⟨⟨q1, q2, q3⟩, q⟩ := h2 (by assumption)
  all_goals first | assumption | exact q | exact q3.le (by decide)
theorem ok_laid_off {P : Program} {w : World} {K : PySem.W.Frag} {mg : Str → Option Value} {base : Heap} {ec : Nat → Addr} (T : Tx K mg ec) {f : Addr} {fd : FuncData} (F : Fun K "laid_off" "laid_off" s_laid_off f fd) (hm : mg "laid_off" = some (.ref f)) (hb : Binds K fd ["line"] []) (d_need_line : Fd P w K mg base (W0 ec) 1 "need_line" sp_need_line) :
    Fd P w K mg base (W0 ec) 2 "laid_off" sp_laid_off := by
  have nd := sc_laid_off.nd
  refine fnz F sc_laid_off hm hb (by
    unfold sp_laid_off; intro ds w Q Q' E E' k k'
    repeat' (first | exact id | exact k _ _ | exact k' _ _ | refine Exists.imp fun _ => ?_ | refine And.imp ?_ ?_ | refine Or.imp ?_ ?_ | refine Z.impR ?_ | refine Z.allR fun _ => ?_ | refine Z.Stp.imp ?_)) (by
    intro ds w' Q E h; unfold sp_laid_off at h; obtain ⟨a, b, m, rfl, -⟩ := h; rfl) (fun cdv A outer s H E hr =>
  (zb_cons (z_drop (z_callP d_need_line hr (z_cons (z_var 0) z_nil)))
  (zb_cons (z_asg (z_var 0) (g_tup (gs_cons 1 nd (gs_cons 2 nd (gs_cons 3 nd gs_nil)))))
  (zb_one (z_ret (z_tup (z_cons (z_op o_div l_div (z_var 1) (z_var 3)) (z_cons (z_op o_div l_div (z_var 2) (z_var 3)) (z_cons (z_tup (z_cons (z_op op_mod l_mod (z_var 1) (z_var 3)) (z_cons (z_op op_mod l_mod (z_var 2) (z_var 3)) (z_cons (z_var 3) z_nil)))) z_nil))))))))) ?_
  intro ds w Q E h
  unfold sp_laid_off at h
  clear nd d_need_line hb hm F T fd f ec base mg K
  obtain ⟨a, b, m, rfl, h1, h2⟩ := h
  kby_none
  · exact h1 (by assumption)
  all_goals obtain ⟨q1, q⟩ := h2 (by assumption)
  all_goals first | assumption | exact q | exact ⟨by omega, q1⟩
theorem ok_turned {P : Program} {w : World} {K : PySem.W.Frag} {mg : Str → Option Value} {base : Heap} {ec : Nat → Addr} (T : Tx K mg ec) {f : Addr} {fd : FuncData} (F : Fun K "turned" "turned" s_turned f fd) (hm : mg "turned" = some (.ref f)) (hb : Binds K fd ["line", "n"] []) (d_need_line : Fd P w K mg base (W0 ec) 1 "need_line" sp_need_line) (d_part_at : Fd P w K mg base (W0 ec) 3 "part_at" sp_part_at) (d_rest_at : Fd P w K mg base (W0 ec) 3 "rest_at" sp_rest_at) :
    Fd P w K mg base (W0 ec) 4 "turned" sp_turned := by
  have nd := sc_turned.nd
  refine fnz F sc_turned hm hb (by
    unfold sp_turned; intro ds w Q Q' E E' k k'
    repeat' (first | exact id | exact k _ _ | exact k' _ _ | refine Exists.imp fun _ => ?_ | refine And.imp ?_ ?_ | refine Or.imp ?_ ?_ | refine Z.impR ?_ | refine Z.allR fun _ => ?_ | refine Z.Stp.imp ?_)) (by
    intro ds w' Q E h; unfold sp_turned at h; obtain ⟨a, b, m, n, rfl, -⟩ := h; rfl) (fun cdv A outer s H E hr =>
  (zb_cons (z_drop (z_callP d_need_line hr (z_cons (z_var 0) z_nil)))
  (zb_cons (z_asg (z_var 0) (g_tup (gs_cons 2 nd (gs_cons 3 nd (gs_cons 4 nd gs_nil)))))
  (zb_cons (z_if (z_pw (z_or (z_not (z_tch op_le op_lt l_le l_lt z_int (z_var 2) (z_var 4))) (z_or1 (z_not (z_tch op_le op_lt l_le l_lt z_int (z_var 3) (z_var 4))))))
  (zb_one (z_raise (c := 1) T.e1))
  zb_nil)
  (zb_cons (z_set 5 (z_callP d_part_at hr (z_cons (z_var 0) (z_cons (z_var 1) z_nil))) nd)
  (zb_cons (z_if (z_tcmp (o_eq hr) l_eq (z_var 5) z_int)
  (zb_one (z_ret (z_tup (z_cons z_int (z_cons z_non z_nil)))))
  zb_nil)
  (zb_one (z_ret (z_tup (z_cons (z_var 5) (z_cons (z_tup (z_cons (z_var 4) (z_cons (z_callP d_rest_at hr (z_cons (z_var 0) (z_cons (z_var 1) z_nil))) (z_cons (z_var 2) z_nil)))) z_nil))))))))))) ?_
  intro ds w Q E h
  unfold sp_turned at h
  clear nd d_need_line d_part_at d_rest_at hb hm F T fd f ec base mg K
  obtain ⟨a, b, m, n, rfl, h1, h2⟩ := h
  kby_none
  · exact h1 (by assumption)
  all_goals have h3 := h2 (by assumption)
  all_goals try exact h3.1 (by omega)
  all_goals obtain ⟨⟨q1, q2⟩, q3, q4⟩ := h3.2 (by omega)
  all_goals first | assumption | exact q3 (by assumption) | exact q4 (by assumption) | exact q1.of_le (by omega) (by omega)
theorem ok_sum_parts {P : Program} {w : World} {K : PySem.W.Frag} {mg : Str → Option Value} {base : Heap} {ec : Nat → Addr} (T : Tx K mg ec) {f : Addr} {fd : FuncData} (F : Fun K "sum_parts" "sum_parts" s_sum_parts f fd) (hm : mg "sum_parts" = some (.ref f)) (hb : Binds K fd ["line", "n"] []) (d_laid_off : Fd P w K mg base (W0 ec) 2 "laid_off" sp_laid_off) (d_turned : Fd P w K mg base (W0 ec) 4 "turned" sp_turned) :
    Fd P w K mg base (W0 ec) 5 "sum_parts" sp_sum_parts := by
  have nd := sc_sum_parts.nd
  refine fnz F sc_sum_parts hm hb (by
    unfold sp_sum_parts; intro ds w Q Q' E E' k k'
    repeat' (first | exact id | exact k _ _ | exact k' _ _ | refine Exists.imp fun _ => ?_ | refine And.imp ?_ ?_ | refine Or.imp ?_ ?_ | refine Z.impR ?_ | refine Z.allR fun _ => ?_ | refine Z.Stp.imp ?_)) (by
    intro ds w' Q E h; unfold sp_sum_parts at h; obtain ⟨a, b, m, n, rfl, -⟩ := h; rfl) (fun cdv A outer s H E hr =>
  (zb_cons (z_set 2 z_int nd)
  (zb_cons (z_set 3 (z_var 1) nd)
  (zb_cons (z_set 4 (z_var 0) nd)
  (zb_cons (z_while (z_tcmp op_notN l_notN (z_var 4) z_non)
  (zb_cons (z_asg (z_callP d_laid_off hr (z_cons (z_var 4) z_nil)) (g_tup (gs_cons 5 nd (gs_cons 6 nd (gs_cons 4 nd gs_nil)))))
  (zb_cons (z_aug 2 (z_op o_add l_add (z_op o_mul l_mul (z_var 5) (z_op o_div l_div (z_op o_mul l_mul (z_var 3) (z_op op_sub l_sub (z_var 3) z_int)) z_int)) (z_op o_mul l_mul (z_var 6) (z_var 3))) nd)
  (zb_one (z_asg (z_callP d_turned hr (z_cons (z_var 4) (z_cons (z_var 3) z_nil))) (g_tup (gs_cons 3 nd (gs_cons 4 nd gs_nil))))))))
  (zb_one (z_ret (z_var 2)))))))) ?_
  intro ds w Q E h
  unfold sp_sum_parts at h
  clear nd d_laid_off d_turned hb hm F T fd f ec base mg K
  obtain ⟨a, b, m, n, rfl, h1, h2⟩ := h
  by_cases c : m < 1
  · kby_none
    refine ⟨fun j δ w' => j = 0 ∧ δ = [.val (ln a b m), .val (.int n), .val (.int 0), .val (.int n), .val (ln a b m), .no, .no], ⟨0, rfl, rfl⟩, ?_⟩
    rintro j δ w' ⟨rfl, rfl⟩
    kby_none
    exact h1 c
  obtain ⟨⟨n0, sa, sb, sm, sn⟩, q⟩ := h2 (by omega)
  kby_none
  refine ⟨fun j δ w' => ∃ (total many : Int) (here : D) (x y : Sl), δ = [.val (ln a b m), .val (.int n), .val (.int total), .val (.int many), .val here, x, y] ∧ ((here = .non ∧ total = FS a b m n.toNat) ∨ ∃ a1 b1 m1, here = ln a1 b1 m1 ∧ j = m1.toNat ∧ 1 ≤ m1 ∧ m1 ≤ m ∧ Sm 2000 a1 ∧ Sm 2000 b1 ∧ 0 ≤ many ∧ Sm 2000 many ∧ total + FS a1 b1 m1 many.toNat = FS a b m n.toNat), ⟨_, 0, n, ln a b m, _, _, rfl, .inr ⟨a, b, m, rfl, rfl, by omega, by omega, sa, sb, n0, sn, by omega⟩⟩, ?_⟩
  rintro j δ w' ⟨total, many, here, x, y, rfl, ⟨rfl, rfl⟩ | ⟨a1, b1, m1, rfl, rfl, h3, h4, sa1, sb1, h5, s5, h6⟩⟩
  · kby_none
    exact q
  · have sm1 : Sm 2000 m1 := sm.of_le (by omega) h4
    have a0 := Int.emod_nonneg a1 (show m1 ≠ 0 by omega)
    have a2 := Int.emod_lt_of_pos a1 (show 0 < m1 by omega)
    have b0 := Int.emod_nonneg b1 (show m1 ≠ 0 by omega)
    have b2 := Int.emod_lt_of_pos b1 (show 0 < m1 by omega)
    have fm := fs_many a0 a2 b0 b2 h5
    have e := FS_laid (show 0 < m1 by omega) a1 b1 many.toNat
    rw [show ((many.toNat : Nat) : Int) = many by omega] at e
    kby_none
    · exfalso; omega
    · rename_i z
      have z0 := FS_none a0 a2 b0 b2 (n := many.toNat) (by rw [show ((many.toNat : Nat) : Int) = many by omega]; exact z)
      exact ⟨0, by omega, _, _, _, _, _, rfl, .inl ⟨rfl, by unfold tri at e; omega⟩⟩
    · rename_i z
      have ap : a1 % m1 ≠ 0 := fun h0 => z (by rw [h0, Int.zero_mul, Int.zero_add]; exact Int.ediv_eq_zero_of_lt b0 b2)
      have z0 := FS_turn (show 0 < a1 % m1 by omega) a2 b0 b2 many.toNat
      rw [show ((many.toNat : Nat) : Int) = many by omega] at z0
      have r0 := Int.emod_nonneg (a1 % m1 * many + b1 % m1) (show m1 ≠ 0 by omega)
      have r2 := Int.emod_lt_of_pos (a1 % m1 * many + b1 % m1) (show 0 < m1 by omega)
      exact ⟨(a1 % m1).toNat, by omega, _, _, _, _, _, rfl, .inr ⟨_, _, _, rfl, rfl, by omega, by omega, sm1, sm1.of_le r0 (by omega), fm.1, s5.of_le fm.1 fm.2, by unfold tri at e; omega⟩⟩
theorem ok_sum_between {P : Program} {w : World} {K : PySem.W.Frag} {mg : Str → Option Value} {base : Heap} {ec : Nat → Addr} (T : Tx K mg ec) {f : Addr} {fd : FuncData} (F : Fun K "sum_between" "sum_between" s_sum_between f fd) (hm : mg "sum_between" = some (.ref f)) (hb : Binds K fd ["line", "low", "high"] []) (d_need_line : Fd P w K mg base (W0 ec) 1 "need_line" sp_need_line) (d_sum_parts : Fd P w K mg base (W0 ec) 5 "sum_parts" sp_sum_parts) :
    Fd P w K mg base (W0 ec) 6 "sum_between" sp_sum_between := by
  have nd := sc_sum_between.nd
  refine fnz F sc_sum_between hm hb (by
    unfold sp_sum_between; intro ds w Q Q' E E' k k'
    repeat' (first | exact id | exact k _ _ | exact k' _ _ | refine Exists.imp fun _ => ?_ | refine And.imp ?_ ?_ | refine Or.imp ?_ ?_ | refine Z.impR ?_ | refine Z.allR fun _ => ?_ | refine Z.Stp.imp ?_)) (by
    intro ds w' Q E h; unfold sp_sum_between at h; obtain ⟨a, b, m, lo, hi, rfl, -⟩ := h; rfl) (fun cdv A outer s H E hr =>
  (zb_cons (z_drop (z_callP d_need_line hr (z_cons (z_var 0) z_nil)))
  (zb_cons (z_if (z_tcmp op_lt l_lt (z_var 2) (z_var 1))
  (zb_one (z_raise (c := 3) T.e3))
  zb_nil)
  (zb_cons (z_asg (z_var 0) (g_tup (gs_cons 3 nd (gs_cons 4 nd (gs_cons 5 nd gs_nil)))))
  (zb_one (z_ret (z_callP d_sum_parts hr (z_cons (z_tup (z_cons (z_var 3) (z_cons (z_op o_add l_add (z_op o_mul l_mul (z_var 3) (z_var 1)) (z_var 4)) (z_cons (z_var 5) z_nil)))) (z_cons (z_op op_sub l_sub (z_var 2) (z_var 1)) z_nil))))))))) ?_
  intro ds w Q E h
  unfold sp_sum_between at h
  clear nd d_need_line d_sum_parts hb hm F T fd f ec base mg K
  obtain ⟨a, b, m, lo, hi, rfl, h1, h2⟩ := h
  by_cases c : m < 1
  · kby_none
    exact h1 c
  by_cases c2 : hi < lo
  · kby_none
    exact (h2 (by omega)).1 c2
  obtain ⟨⟨sa, sl, sb, sm, sh⟩, q⟩ := (h2 (by omega)).2 (by omega)
  kby_none
  exact q
theorem ok_need_all {P : Program} {w : World} {K : PySem.W.Frag} {mg : Str → Option Value} {base : Heap} {ec : Nat → Addr} (T : Tx K mg ec) {f : Addr} {fd : FuncData} (F : Fun K "need_all" "need_all" s_need_all f fd) (hm : mg "need_all" = some (.ref f)) (hb : Binds K fd ["above", "beneath", "low", "high"] []) (d_part_at : Fd P w K mg base (W0 ec) 3 "part_at" sp_part_at) :
    Fd P w K mg base (W0 ec) 4 "need_all" sp_need_all := by
  have nd := sc_need_all.nd
  refine fnz F sc_need_all hm hb (by
    unfold sp_need_all; intro ds w Q Q' E E' k k'
    repeat' (first | exact id | exact k _ _ | exact k' _ _ | refine Exists.imp fun _ => ?_ | refine And.imp ?_ ?_ | refine Or.imp ?_ ?_ | refine Z.impR ?_ | refine Z.allR fun _ => ?_ | refine Z.Stp.imp ?_)) (by
    intro ds w' Q E h; unfold sp_need_all at h; obtain ⟨ab, be, lo, hi, rfl, -⟩ := h; rfl) (fun cdv A outer s H E hr =>
  (zb_cons (z_forT (z_op o_add l_add (z_var 0) (z_var 1)) (g_name 4 nd)
  (zb_one (z_drop (z_callP d_part_at hr (z_cons (z_var 4) (z_cons z_int z_nil))))))
  (zb_one (z_if (z_tcmp op_lt l_lt (z_var 3) (z_var 2))
  (zb_one (z_raise (c := 3) T.e3))
  zb_nil)))) ?_
  intro ds w Q E h
  unfold sp_need_all at h
  clear nd d_part_at hb hm F T fd f ec base mg K
  obtain ⟨ab, be, lo, hi, rfl, ⟨l1, l2, l3, l4, hs⟩, h1, h2⟩ := h
  have n1 := ne_map l1
  have n2 := ne_map l3
  kby_none
  rw [← List.map_append]
  refine ⟨fun i δ w' => ∃ x4, δ = [.val (ltp ab), .val (ltp be), .val (.int lo), .val (.int hi), x4] ∧ Stp (∀ p ∈ (ab ++ be).take i, 1 ≤ p.2.2), ⟨_, rfl, Stp.mk fun p hp => absurd hp (by simp)⟩, ?_, ?_⟩
  · rintro i d δ w' hd ⟨x4, rfl, hh⟩
    obtain ⟨p, hp, pm, rfl⟩ := lnP_at hd
    have hh := hh.out
    have s1 := (hs p pm).1
    have s2 := (hs p pm).2
    kby_none
    · exact h1 ⟨p, pm, by assumption⟩
    · refine Stp.mk fun q hq => ?_
      rw [List.take_add_one, hp] at hq
      rcases List.mem_append.mp hq with hq | hq
      · exact hh q hq
      · have : q = p := by simpa using hq
        subst this
        assumption
  · rintro δ w' ⟨x4, rfl, hh⟩
    have hh := hh.out
    rw [List.length_map, List.take_length] at hh
    obtain ⟨g1, g2⟩ := h2 hh
    kby_none
    · exact g1 (by assumption)
    · exact g2 (by omega)
theorem ok_turned_down {P : Program} {w : World} {K : PySem.W.Frag} {mg : Str → Option Value} {base : Heap} {ec : Nat → Addr} (T : Tx K mg ec) {f : Addr} {fd : FuncData} (F : Fun K "turned_down" "turned_down" s_turned_down f fd) (hm : mg "turned_down" = some (.ref f)) (hb : Binds K fd ["lines"] []) :
    Fd P w K mg base (W0 ec) 1 "turned_down" sp_turned_down := by
  have nd := sc_turned_down.nd
  refine fnz F sc_turned_down hm hb (by
    unfold sp_turned_down; intro ds w Q Q' E E' k k'
    repeat' (first | exact id | exact k _ _ | exact k' _ _ | refine Exists.imp fun _ => ?_ | refine And.imp ?_ ?_ | refine Or.imp ?_ ?_ | refine Z.impR ?_ | refine Z.allR fun _ => ?_ | refine Z.Stp.imp ?_)) (by
    intro ds w' Q E h; unfold sp_turned_down at h; obtain ⟨ls, rfl, -⟩ := h; rfl) (fun cdv A outer s H E hr =>
  (zb_one (z_ret (z_fz (z_lcT (own := [("a", 1), ("b", 2), ("m", 3)]) (hw := wiped_tup (by decide)) (ok := by show blkC ["lines", "a", "b", "m"] (defScope s_turned_down) _ _ = true; decide +kernel) (z_var 0) (c_ok (gzt := (gg_tup [1, 2, 3])) (fun _ _ _ _ _ => (g_tup (gs_cons 1 nd (gs_cons 2 nd (gs_cons 3 nd gs_nil)))).pg) (fun _ _ _ _ _ => (z_tup (z_cons (z_op op_sub l_sub z_int (z_var 1)) (z_cons (z_op op_sub l_sub z_int (z_var 2)) (z_cons (z_var 3) z_nil)))))) nd))))) ?_
  intro ds w Q E h
  unfold sp_turned_down at h
  clear nd hb hm F T fd f ec base mg K
  obtain ⟨ls, rfl, l8, h⟩ := h
  kby_none
  refine ⟨fun i acc w' => acc = (ls.take i).map (fun p => lnP (dnP p)), rfl, ?_, ?_⟩
  · rintro i d acc w' hd rfl
    obtain ⟨p, hp, pm, rfl⟩ := lnP_at hd
    kby_none
    rw [take_snoc _ hp]; rfl
  · rintro acc w' rfl
    rw [List.length_map, List.take_length]
    have e : llp (ls.map dnP) = .lst (ls.map fun p => lnP (dnP p)) := by unfold llp; rw [List.map_map]; rfl
    rw [e] at h
    exact h
theorem ok_lowest_at {P : Program} {w : World} {K : PySem.W.Frag} {mg : Str → Option Value} {base : Heap} {ec : Nat → Addr} (T : Tx K mg ec) {f : Addr} {fd : FuncData} (F : Fun K "lowest_at" "lowest_at" s_lowest_at f fd) (hm : mg "lowest_at" = some (.ref f)) (hb : Binds K fd ["lines", "place"] []) :
    Fd P w K mg base (W0 ec) 1 "lowest_at" sp_lowest_at := by
  have nd := sc_lowest_at.nd
  refine fnz F sc_lowest_at hm hb (by
    unfold sp_lowest_at; intro ds w Q Q' E E' k k'
    repeat' (first | exact id | exact k _ _ | exact k' _ _ | refine Exists.imp fun _ => ?_ | refine And.imp ?_ ?_ | refine Or.imp ?_ ?_ | refine Z.impR ?_ | refine Z.allR fun _ => ?_ | refine Z.Stp.imp ?_)) (by
    intro ds w' Q E h; unfold sp_lowest_at at h; obtain ⟨ls, x, rfl, -⟩ := h; rfl) (fun cdv A outer s H E hr =>
  (zb_cons (z_set 2 (z_ix ix_seq l_ix (z_var 0) z_int) nd)
  (zb_cons (z_forT (z_slT (z_var 0) (z_oS z_int) z_oN) (g_name 3 nd)
  (zb_one (z_if (z_tcmp op_lt l_lt (z_op o_mul l_mul (z_op o_add l_add (z_op o_mul l_mul (z_ix ix_seq l_ix (z_var 3) z_int) (z_var 1)) (z_ix ix_seq l_ix (z_var 3) z_int)) (z_ix ix_seq l_ix (z_var 2) z_int)) (z_op o_mul l_mul (z_op o_add l_add (z_op o_mul l_mul (z_ix ix_seq l_ix (z_var 2) z_int) (z_var 1)) (z_ix ix_seq l_ix (z_var 2) z_int)) (z_ix ix_seq l_ix (z_var 3) z_int)))
  (zb_one (z_set 2 (z_var 3) nd))
  zb_nil)))
  (zb_one (z_ret (z_var 2)))))) ?_
  intro ds w Q E h
  unfold sp_lowest_at at h
  clear nd hb hm F T fd f ec base mg K
  obtain ⟨ls, x, rfl, ⟨hl, sx⟩, h⟩ := h
  have k1 := hl.l1
  have k2 := hl.l8
  rcases ls with _ | ⟨p0, r⟩
  · exact absurd k1 (by decide)
  have hall := hl.ea
  have a0 : atI ((p0 :: r).map lnP) 0 = some (lnP p0) := at_hd
  have hc1 := cut1 lnP p0 r
  have hc2 := cut1_ne lnP p0 r
  have tr : ∀ {p q r : L3}, LnOk p → LnOk q → LnOk r → Lo x p q → Lo x q r → Lo x p r := fun a b c => Lo.trans (by have := a.1; omega) (by have := b.1; omega) (by have := c.1; omega)
  kby_none
  try change zLoop (Z.cutD _ _ _) _ _ _ _ _
  rw [hc1]
  refine ⟨fun i δ w' => ∃ (p : L3) (x3 : Sl), δ = [.val (ltp (p0 :: r)), .val (.int x), .val (lnP p), x3] ∧ Stp (p ∈ p0 :: r ∧ ∀ q ∈ (p0 :: r).take (i + 1), Lo x p q), ⟨p0, _, rfl, Stp.mk ⟨List.mem_cons_self, fun q hq => by rw [List.mem_singleton.mp hq]; exact Lo.refl _ _⟩⟩, ?_, ?_⟩
  · rintro i d δ w' hd ⟨p, x3, rfl, hp⟩
    obtain ⟨pm, pl⟩ := hp.out
    obtain ⟨q, hq, qm, rfl⟩ := lnP_at hd
    obtain ⟨c0, c1, c2, c3⟩ := hall p pm
    obtain ⟨d0, d1, d2, d3⟩ := hall q (List.mem_cons_of_mem _ qm)
    have hq2 : (p0 :: r)[i + 1]? = some q := hq
    clear hall
    kby_none
    · rename_i hlt
      refine Stp.mk ⟨List.mem_cons_of_mem _ qm, fun z hz => ?_⟩
      rcases mem_take_snoc hq2 hz with k | rfl
      · exact tr (hl.ea q (List.mem_cons_of_mem _ qm)) (hl.ea p pm) (hl.ea z (List.mem_of_mem_take k)) (Int.le_of_lt hlt) (pl z k)
      · exact Lo.refl _ _
    · rename_i hlt
      refine Stp.mk ⟨pm, fun z hz => ?_⟩
      rcases mem_take_snoc hq2 hz with k | rfl
      · exact pl z k
      · exact Int.not_lt.mp hlt
  · rintro δ w' ⟨p, x3, rfl, hp⟩
    obtain ⟨pm, pl⟩ := hp.out
    rw [List.length_map, show r.length + 1 = (p0 :: r).length from rfl, List.take_length] at pl
    obtain ⟨c0, c1, c2, c3⟩ := hall p pm
    kby_none
    exact h p pm c0 c1 c2 c3 (Stp.mk pl)
theorem ok_lowest_at_L {P : Program} {w : World} {K : PySem.W.Frag} {mg : Str → Option Value} {base : Heap} {ec : Nat → Addr} (T : Tx K mg ec) {f : Addr} {fd : FuncData} (F : Fun K "lowest_at" "lowest_at" s_lowest_at f fd) (hm : mg "lowest_at" = some (.ref f)) (hb : Binds K fd ["lines", "place"] []) :
    Fd P w K mg base (W0 ec) 1 "lowest_at" sp_lowest_at_L := by
  have nd := sc_lowest_at.nd
  refine fnz F sc_lowest_at hm hb (by
    unfold sp_lowest_at_L; intro ds w Q Q' E E' k k'
    repeat' (first | exact id | exact k _ _ | exact k' _ _ | refine Exists.imp fun _ => ?_ | refine And.imp ?_ ?_ | refine Or.imp ?_ ?_ | refine Z.impR ?_ | refine Z.allR fun _ => ?_ | refine Z.Stp.imp ?_)) (by
    intro ds w' Q E h; unfold sp_lowest_at_L at h; obtain ⟨ls, x, rfl, -⟩ := h; rfl) (fun cdv A outer s H E hr =>
  (zb_cons (z_set 2 (z_ix ix_seq l_ix (z_var 0) z_int) nd)
  (zb_cons (z_forL (z_fz (z_slL (z_var 0) (z_oS z_int) z_oN)) (g_name 3 nd)
  (zb_one (z_if (z_tcmp op_lt l_lt (z_op o_mul l_mul (z_op o_add l_add (z_op o_mul l_mul (z_ix ix_seq l_ix (z_var 3) z_int) (z_var 1)) (z_ix ix_seq l_ix (z_var 3) z_int)) (z_ix ix_seq l_ix (z_var 2) z_int)) (z_op o_mul l_mul (z_op o_add l_add (z_op o_mul l_mul (z_ix ix_seq l_ix (z_var 2) z_int) (z_var 1)) (z_ix ix_seq l_ix (z_var 2) z_int)) (z_ix ix_seq l_ix (z_var 3) z_int)))
  (zb_one (z_set 2 (z_var 3) nd))
  zb_nil)))
  (zb_one (z_ret (z_var 2)))))) ?_
  intro ds w Q E h
  unfold sp_lowest_at_L at h
  clear nd hb hm F T fd f ec base mg K
  obtain ⟨ls, x, rfl, ⟨hl, sx⟩, h⟩ := h
  have k1 := hl.l1
  have k2 := hl.l8
  rcases ls with _ | ⟨p0, r⟩
  · exact absurd k1 (by decide)
  have hall := hl.ea
  have a0 : atI ((p0 :: r).map lnP) 0 = some (lnP p0) := at_hd
  have hc1 := cut1 lnP p0 r
  have hc2 := cut1_ne lnP p0 r
  have tr : ∀ {p q r : L3}, LnOk p → LnOk q → LnOk r → Lo x p q → Lo x q r → Lo x p r := fun a b c => Lo.trans (by have := a.1; omega) (by have := b.1; omega) (by have := c.1; omega)
  kby_none
  try change zLoop (Z.cutD _ _ _) _ _ _ _ _
  rw [hc1]
  refine ⟨fun i δ w' => ∃ (p : L3) (x3 : Sl), δ = [.val (llp (p0 :: r)), .val (.int x), .val (lnP p), x3] ∧ Stp (p ∈ p0 :: r ∧ ∀ q ∈ (p0 :: r).take (i + 1), Lo x p q), ⟨p0, _, rfl, Stp.mk ⟨List.mem_cons_self, fun q hq => by rw [List.mem_singleton.mp hq]; exact Lo.refl _ _⟩⟩, ?_, ?_⟩
  · rintro i d δ w' hd ⟨p, x3, rfl, hp⟩
    obtain ⟨pm, pl⟩ := hp.out
    obtain ⟨q, hq, qm, rfl⟩ := lnP_at hd
    obtain ⟨c0, c1, c2, c3⟩ := hall p pm
    obtain ⟨d0, d1, d2, d3⟩ := hall q (List.mem_cons_of_mem _ qm)
    have hq2 : (p0 :: r)[i + 1]? = some q := hq
    clear hall
    kby_none
    · rename_i hlt
      refine Stp.mk ⟨List.mem_cons_of_mem _ qm, fun z hz => ?_⟩
      rcases mem_take_snoc hq2 hz with k | rfl
      · exact tr (hl.ea q (List.mem_cons_of_mem _ qm)) (hl.ea p pm) (hl.ea z (List.mem_of_mem_take k)) (Int.le_of_lt hlt) (pl z k)
      · exact Lo.refl _ _
    · rename_i hlt
      refine Stp.mk ⟨pm, fun z hz => ?_⟩
      rcases mem_take_snoc hq2 hz with k | rfl
      · exact pl z k
      · exact Int.not_lt.mp hlt
  · rintro δ w' ⟨p, x3, rfl, hp⟩
    obtain ⟨pm, pl⟩ := hp.out
    rw [List.length_map, show r.length + 1 = (p0 :: r).length from rfl, List.take_length] at pl
    obtain ⟨c0, c1, c2, c3⟩ := hall p pm
    kby_none
    exact h p pm c0 c1 c2 c3 (Stp.mk pl)
theorem ok_cuts_of {P : Program} {w : World} {K : PySem.W.Frag} {mg : Str → Option Value} {base : Heap} {ec : Nat → Addr} (T : Tx K mg ec) {f : Addr} {fd : FuncData} (F : Fun K "cuts_of" "cuts_of" s_cuts_of f fd) (hm : mg "cuts_of" = some (.ref f)) (hb : Binds K fd ["lines", "low", "high"] []) :
    Fd P w K mg base (W0 ec) 1 "cuts_of" sp_cuts_of := by
  have nd := sc_cuts_of.nd
  refine fnz F sc_cuts_of hm hb (by
    unfold sp_cuts_of; intro ds w Q Q' E E' k k'
    repeat' (first | exact id | exact k _ _ | exact k' _ _ | refine Exists.imp fun _ => ?_ | refine And.imp ?_ ?_ | refine Or.imp ?_ ?_ | refine Z.impR ?_ | refine Z.allR fun _ => ?_ | refine Z.Stp.imp ?_)) (by
    intro ds w' Q E h; unfold sp_cuts_of at h; obtain ⟨ls, lo, hi, rfl, -⟩ := h; rfl) (fun cdv A outer s H E hr =>
  (zb_cons (z_own 3 (z_lst (z_cons (z_var 1) (z_cons (z_var 2) z_nil))) nd)
  (zb_cons (z_forT (z_var 0) (g_name 4 nd)
  (zb_one (z_forT (z_var 0) (g_name 5 nd)
  (zb_cons (z_set 6 (z_op op_sub l_sub (z_op o_mul l_mul (z_ix ix_seq l_ix (z_var 4) z_int) (z_ix ix_seq l_ix (z_var 5) z_int)) (z_op o_mul l_mul (z_ix ix_seq l_ix (z_var 5) z_int) (z_ix ix_seq l_ix (z_var 4) z_int))) nd)
  (zb_one (z_if (z_tcmp op_gt l_gt (z_var 6) z_int)
  (zb_cons (z_set 7 (z_op o_div l_div (z_op op_sub l_sub (z_op o_mul l_mul (z_ix ix_seq l_ix (z_var 5) z_int) (z_ix ix_seq l_ix (z_var 4) z_int)) (z_op o_mul l_mul (z_ix ix_seq l_ix (z_var 4) z_int) (z_ix ix_seq l_ix (z_var 5) z_int))) (z_var 6)) nd)
  (zb_one (z_extO 3 (z_lcT (own := [("cut", 8)]) (ok := by show blkC ["lines", "low", "high", "cuts", "one", "other", "steeper", "place", "cut"] (defScope s_cuts_of) _ _ = true; decide +kernel) (z_tup (z_cons (z_var 7) (z_cons (z_op o_add l_add (z_var 7) z_int) z_nil))) (c_if (gzt := (gg_name 8)) (fun _ _ _ _ _ => (g_name 8 nd).pg) (fun _ _ _ _ _ => (z_tch op_lt op_lt l_lt l_lt (z_var 1) (z_var 8) (z_var 2))) (fun _ _ _ _ _ => (z_var 8))) nd))))
  zb_nil))))))
  (zb_frz 3 (zb_one (z_ret (z_fz (z_sset T.sorted_ T.set_ (z_cons (z_var 3) z_nil))))))))) ?_
  intro ds w Q E h
  unfold sp_cuts_of at h
  clear nd hb hm F T fd f ec base mg K
  obtain ⟨ls, lo, hi, rfl, ⟨hl, lh⟩, h⟩ := h
  have hT := cT_8 hl.l8
  have hall := hl.ea
  kby_none
  refine ⟨fun i δ w' => ∃ (cs : List Int) (x4 x5 x6 x7 x8 : Sl), δ = [.val (ltp ls), .val (.int lo), .val (.int hi), .own (cs.map D.int), x4, x5, x6, x7, x8] ∧ Stp (CI lo hi (fun p q => p ∈ ls.take i ∧ q ∈ ls) cs ∧ cs.length ≤ 2 + 2 * cT (ls.take i) ls), ⟨[lo, hi], _, _, _, _, _, rfl, Stp.mk ⟨⟨by simp, by simp, fun c hc => ?_, fun p q hq => absurd hq.1 (by simp)⟩, by simp⟩⟩, ?_, ?_⟩
  · simp only [List.mem_cons, List.not_mem_nil, or_false] at hc
    omega
  · rintro i d δ w' hd ⟨cs, x4, x5, x6, x7, x8, rfl, hc⟩
    obtain ⟨ci, cl⟩ := hc.out
    obtain ⟨p, hp, pm, rfl⟩ := lnP_at hd
    obtain ⟨c0, c1, c2, c3⟩ := hall p pm
    have tk := cT_take (ls := ls) hp
    kby_none
    refine ⟨fun j δ w' => ∃ (cs : List Int) (x5 x6 x7 x8 : Sl), δ = [.val (ltp ls), .val (.int lo), .val (.int hi), .own (cs.map D.int), .val (lnP p), x5, x6, x7, x8] ∧ Stp (CI lo hi (fun u q => (u ∈ ls.take i ∧ q ∈ ls) ∨ (u = p ∧ q ∈ ls.take j)) cs ∧ cs.length ≤ 2 + 2 * cT (ls.take i) ls + 2 * cS p (ls.take j)), ⟨cs, _, _, _, _, rfl, Stp.mk ⟨ci.same fun u q hq _ => hq.elim id fun k => absurd k.2 (by simp), by simp; omega⟩⟩, ?_, ?_⟩
    · rintro j d δ w' hd2 ⟨cs, x5, x6, x7, x8, rfl, hc⟩
      obtain ⟨ci, cl⟩ := hc.out
      obtain ⟨q, hq, qm, rfl⟩ := lnP_at hd2
      obtain ⟨d0, d1, d2, d3⟩ := hall q qm
      have ck := cS_take (p := p) hq
      have cb := cS_take_le p ls (j + 1)
      have ct := cT_take_le ls ls (i + 1)
      clear hall
      kby_none
      · rename_i hst
        have hst2 : 0 < Z.st p q := hst
        rw [if_pos hst2] at ck
        obtain ⟨P, hP⟩ : ∃ P, P = pl p q := ⟨_, rfl⟩
        have hP2 : (q.2.1 * p.2.2 - p.2.1 * q.2.2) / (p.1 * q.2.2 - q.1 * p.2.2) = P := hP.symm
        rw [hP2]
        refine ⟨fun k acc w' => ∃ es : List Int, acc = es.map D.int ∧ es.length ≤ k ∧ Stp ((∀ c ∈ es, lo < c ∧ c < hi) ∧ ∀ c, ((1 ≤ k ∧ c = P) ∨ (2 ≤ k ∧ c = P + 1)) → lo < c → c < hi → c ∈ es), ⟨[], rfl, Nat.le_refl _, Stp.mk ⟨fun c hc => absurd hc (by simp), fun c hc => by omega⟩⟩, ?_, ?_⟩
        · rintro k d acc w' hd ⟨es, rfl, hl, he⟩
          obtain ⟨e1, e2⟩ := he.out
          obtain ⟨c, rfl, hk⟩ : ∃ c, d = .int c ∧ ((k = 0 ∧ c = P) ∨ (k = 1 ∧ c = P + 1)) := by
            rcases k with _ | _ | k
            · exact ⟨P, (Option.some.inj hd).symm, .inl ⟨rfl, rfl⟩⟩
            · exact ⟨P + 1, (Option.some.inj hd).symm, .inr ⟨rfl, rfl⟩⟩
            · exact absurd hd (by simp)
          clear hd
          kby_none
          all_goals first
            | (rename_i h1 h2
               refine ⟨es ++ [c], by rw [List.map_append]; rfl, by rw [List.length_append, List.length_singleton]; omega, Stp.mk ⟨fun z hz => ?_, fun z hz z0 z1 => ?_⟩⟩
               · rcases List.mem_append.mp hz with y | y
                 · exact e1 z y
                 · rw [List.mem_singleton.mp y]; omega
               · by_cases zc : z = c
                 · rw [zc]; simp
                 · exact List.mem_append.mpr (.inl (e2 z (by omega) z0 z1)))
            | (refine Stp.mk ⟨e1, fun z hz z0 z1 => ?_⟩
               by_cases zc : z = c
               · subst zc; omega
               · exact e2 z (by omega) z0 z1)
        · rintro acc w' ⟨es, rfl, hl, he⟩
          obtain ⟨e1, e2⟩ := he.out
          have hl' : es.length ≤ 2 := hl
          kby_none
          refine ⟨cs ++ es, _, _, _, _, by rw [List.map_append], Stp.mk ⟨ci.more (fun c hc => by have := e1 c hc; omega) fun u z hz => ?_, by rw [List.length_append]; omega⟩⟩
          rcases hz with hz | ⟨rfl, hz⟩
          · exact .inl (.inl hz)
          · rcases mem_take_snoc hq hz with y | e
            · exact .inl (.inr ⟨rfl, y⟩)
            · subst e
              exact .inr fun _ c hc c0 c1 => e2 c (hc.elim (fun e => .inl ⟨Nat.le_of_ble_eq_true rfl, e.trans hP.symm⟩) (fun e => .inr ⟨Nat.le_of_ble_eq_true rfl, by rw [hP]; exact e⟩)) c0 c1
      · rename_i hst
        have hst2 : ¬ 0 < Z.st p q := hst
        rw [if_neg hst2] at ck
        refine Stp.mk ⟨ci.same fun u z hz sp => ?_, by omega⟩
        rcases hz with hz | ⟨rfl, hz⟩
        · exact .inl hz
        · rcases mem_take_snoc hq hz with y | rfl
          · exact .inr ⟨rfl, y⟩
          · exact absurd sp hst2
    · rintro δ w' ⟨cs, x5, x6, x7, x8, rfl, hc⟩
      obtain ⟨ci, cl⟩ := hc.out
      rw [List.length_map, List.take_length] at *
      kby_none
      refine Stp.mk ⟨ci.same fun u z hz _ => ?_, by omega⟩
      rcases mem_take_snoc hp hz.1 with y | rfl
      · exact .inl ⟨y, hz.2⟩
      · exact .inr ⟨rfl, hz.2⟩
  · rintro δ w' ⟨cs, x4, x5, x6, x7, x8, rfl, hc⟩
    obtain ⟨ci, cl⟩ := hc.out
    rw [List.length_map, List.take_length] at *
    kby_none
    rename_i ns' up mem ln
    exact h ns' (Stp.mk ⟨up, (mem _).mpr ci.cl, (mem _).mpr ci.ch, fun c hc => ci.wi c ((mem c).mp hc), fun p hp q hq s c hc c0 c1 => (mem c).mpr (ci.cr p q ⟨hp, hq⟩ s c hc c0 c1)⟩) ln
theorem ok_points_between {P : Program} {w : World} {K : PySem.W.Frag} {mg : Str → Option Value} {base : Heap} {ec : Nat → Addr} (T : Tx K mg ec) {f : Addr} {fd : FuncData} (F : Fun K "points_between" "points_between" s_points_between f fd) (hm : mg "points_between" = some (.ref f)) (hb : Binds K fd ["above", "beneath", "low", "high"] []) (d_need_all : Fd P w K mg base (W0 ec) 4 "need_all" sp_need_all) (d_turned_down : Fd P w K mg base (W0 ec) 1 "turned_down" sp_turned_down) (d_cuts_of : Fd P w K mg base (W0 ec) 1 "cuts_of" sp_cuts_of) (d_lowest_at : Fd P w K mg base (W0 ec) 1 "lowest_at" sp_lowest_at) (d_lowest_at_L : Fd P w K mg base (W0 ec) 1 "lowest_at" sp_lowest_at_L) (d_sum_between : Fd P w K mg base (W0 ec) 6 "sum_between" sp_sum_between) :
    Fd P w K mg base (W0 ec) 7 "points_between" sp_points_between := by
  have nd := sc_points_between.nd
  refine fnz F sc_points_between hm hb (by
    unfold sp_points_between; intro ds w Q Q' E E' k k'
    repeat' (first | exact id | exact k _ _ | exact k' _ _ | refine Exists.imp fun _ => ?_ | refine And.imp ?_ ?_ | refine Or.imp ?_ ?_ | refine Z.impR ?_ | refine Z.allR fun _ => ?_ | refine Z.Stp.imp ?_)) (by
    intro ds w' Q E h; unfold sp_points_between at h; obtain ⟨ab, be, lo, hi, rfl, -⟩ := h; rfl) (fun cdv A outer s H E hr =>
  (zb_cons (z_drop (z_callP d_need_all hr (z_cons (z_var 0) (z_cons (z_var 1) (z_cons (z_var 2) (z_cons (z_var 3) z_nil))))))
  (zb_cons (z_set 4 (z_callP d_turned_down hr (z_cons (z_var 1) z_nil)) nd)
  (zb_cons (z_set 5 z_int nd)
  (zb_cons (z_set 6 (z_callP d_cuts_of hr (z_cons (z_op o_add l_add (z_var 0) (z_var 1)) (z_cons (z_var 2) (z_cons (z_var 3) z_nil)))) nd)
  (zb_cons (z_forI (i_zip T.zip_ (z_cons (z_var 6) (z_cons (z_fz (z_slL (z_var 6) (z_oS z_int) z_oN)) z_nil))) (g_tup (gs_cons 7 nd (gs_cons 8 nd gs_nil)))
  (zb_cons (z_set 9 (z_callP d_lowest_at hr (z_cons (z_var 0) (z_cons (z_var 7) z_nil))) nd)
  (zb_cons (z_set 10 (z_callP d_lowest_at_L hr (z_cons (z_var 4) (z_cons (z_var 7) z_nil))) nd)
  (zb_one (z_if (z_tcmp op_ge l_ge (z_op o_add l_add (z_op o_mul l_mul (z_op o_add l_add (z_op o_mul l_mul (z_ix ix_seq l_ix (z_var 9) z_int) (z_var 7)) (z_ix ix_seq l_ix (z_var 9) z_int)) (z_ix ix_seq l_ix (z_var 10) z_int)) (z_op o_mul l_mul (z_op o_add l_add (z_op o_mul l_mul (z_ix ix_seq l_ix (z_var 10) z_int) (z_var 7)) (z_ix ix_seq l_ix (z_var 10) z_int)) (z_ix ix_seq l_ix (z_var 9) z_int))) z_int)
  (zb_one (z_aug 5 (z_op op_sub l_sub (z_op o_add l_add (z_op o_add l_add (z_callP d_sum_between hr (z_cons (z_var 9) (z_cons (z_var 7) (z_cons (z_var 8) z_nil)))) (z_callP d_sum_between hr (z_cons (z_var 10) (z_cons (z_var 7) (z_cons (z_var 8) z_nil))))) (z_var 8)) (z_var 7)) nd))
  zb_nil)))))
  (zb_one (z_ret (z_var 5))))))))) ?_
  intro ds w Q E h
  unfold sp_points_between at h
  clear nd d_need_all d_turned_down d_cuts_of d_lowest_at d_lowest_at_L d_sum_between hb hm F T fd f ec base mg K
  obtain ⟨ab, be, lo, hi, rfl, ⟨ga, gb, g8, glh, gsl, gsh⟩, h⟩ := h
  have hc : 1 ≤ ab.length ∧ ab.length ≤ 8 ∧ 1 ≤ be.length ∧ be.length ≤ 8 ∧ ∀ p ∈ ab ++ be, Sm 800 p.2.2 ∧ Sm 800 p.1 := ⟨ga.l1, ga.l8, gb.l1, gb.l8, LsOk.bothS ga gb⟩
  have hok := LsOk.both ga gb
  have h1 : (∃ p ∈ ab ++ be, p.2.2 < 1) → E 0 w := fun ⟨p, hp, q⟩ => absurd (hok p hp) (by omega)
  have h2 : (∀ p ∈ ab ++ be, 1 ≤ p.2.2) → (hi < lo → E 3 w) ∧ (lo ≤ hi → (LsOk ab ∧ LsOk be ∧ ab.length + be.length ≤ 8 ∧ Sm 300 lo ∧ Sm 300 hi) ∧ Q (.int (pts ab be lo (hi - lo).toNat)) w) := fun _ => ⟨fun c => absurd c (by omega), fun _ => ⟨⟨ga, gb, g8, gsl, gsh⟩, h⟩⟩
  clear h ga gb g8 glh gsl gsh hok
  
  have n1 := ne_map hc.1
  have n2 := ne_map hc.2.2.1
  kby_none
  · exact h1 (by assumption)
  · exact (h2 (by assumption)).1 (by assumption)
  rename_i hm lh
  obtain ⟨⟨ha, hb, l8, sl, sh⟩, hq⟩ := (h2 hm).2 lh
  have hm' : ∀ p ∈ ab ++ be, 0 < p.2.2 := fun p hp => by have := hm p hp; omega
  clear h1 h2
  have hbd := hb.dn
  have a1 := ha.l1
  rw [← List.map_append]
  refine ⟨ab ++ be, lo, hi, rfl, ⟨⟨by rw [List.length_append]; omega, by rw [List.length_append]; omega, fun p hp => (List.mem_append.mp hp).elim (ha.ea p) (hb.ea p)⟩, lh⟩, fun cs hcs hlen => ?_⟩
  have hcs := hcs.out
  obtain ⟨c0, cr, rfl⟩ : ∃ c0 cr, cs = c0 :: cr := by
    rcases cs with _ | ⟨c0, cr⟩
    · exact absurd hcs.cl (by simp)
    · exact ⟨_, _, rfl⟩
  kby_none
  try change zLoop _ _ _ _ _ _
  rw [cut1]
  refine ⟨fun i δ w' => ∃ (t : Int) (x7 x8 x9 x10 : Sl), δ = [.val (ltp ab), .val (ltp be), .val (.int lo), .val (.int hi), .val (llp (be.map dnP)), .val (.int t), .val (.lst ((c0 :: cr).map D.int)), x7, x8, x9, x10] ∧ Stp (∃ s, (c0 :: cr)[i]? = some s ∧ t = pts ab be lo (s - lo).toNat), ⟨0, _, _, _, _, rfl, Stp.mk ⟨lo, hcs.head, by rw [Int.sub_self]; rfl⟩⟩, ?_, ?_⟩
  · rintro i d δ w' hd ⟨t, x7, x8, x9, x10, rfl, hI⟩
    obtain ⟨s, hs, rfl⟩ := hI.out
    obtain ⟨s2, e, hs2, he, rfl⟩ := zipT_get (cs := c0 :: cr) hd
    obtain rfl : s2 = s := Option.some.inj (hs2.symm.trans hs)
    obtain ⟨se, ls, eh, nb⟩ := hcs.nb hs he
    have ss : Sm 300 s2 := Sm.btw sl sh ls (by omega)
    have sE : Sm 300 e := Sm.btw sl sh (by omega) eh
    have ss' : Sm 310 s2 := ss.le (by decide)
    have go := pts_go ab be ls (show s2 ≤ e by omega)
    kby_none
    · rename_i p pm p1 sp1 sp2 sp3 pL q qm q1 sq1 sq2 sq3 qL hge _ _ _ _
      obtain ⟨b, bm, rfl⟩ := List.mem_map.mp qm
      have hgo := pts_stretch hm' nb pm bm pL.out (low_dn qL.out) (show s2 ≤ e by omega)
      rw [if_pos (up_dn hge)] at hgo
      refine Stp.mk ⟨e, he, ?_⟩
      omega
    · rename_i p pm p1 sp1 sp2 sp3 pL q qm q1 sq1 sq2 sq3 qL hge
      obtain ⟨b, bm, rfl⟩ := List.mem_map.mp qm
      have hgo := pts_stretch hm' nb pm bm pL.out (low_dn qL.out) (show s2 ≤ e by omega)
      rw [if_neg (fun l => hge (up_dn' l))] at hgo
      refine Stp.mk ⟨e, he, ?_⟩
      omega
  · rintro δ w' ⟨t, x7, x8, x9, x10, rfl, hI⟩
    obtain ⟨s, hs, rfl⟩ := hI.out
    rw [show (zipT (List.map D.int (c0 :: cr)) (List.map D.int cr)).length = (c0 :: cr).length - 1 from zipT_l (c0 :: cr)] at hs
    obtain rfl : hi = s := Option.some.inj (hcs.last.symm.trans hs)
    exact hq
theorem ok__law_number {P : Program} {w : World} {K : PySem.W.Frag} {mg : Str → Option Value} {base : Heap} {ec : Nat → Addr} (T : Tx K mg ec) {f : Addr} {fd : FuncData} (F : Fun K "_law_number" "_law_number" s__law_number f fd) (hm : mg "_law_number" = some (.ref f)) (hb : Binds K fd ["_law_script", "_law_k"] []) :
    Fd P w K mg base (W0 ec) 1 "_law_number" sp__law_number := by
  have nd := sc__law_number.nd
  refine fnz F sc__law_number hm hb (by
    unfold sp__law_number; intro ds w Q Q' E E' k k'
    repeat' (first | exact id | exact k _ _ | exact k' _ _ | refine Exists.imp fun _ => ?_ | refine And.imp ?_ ?_ | refine Or.imp ?_ ?_ | refine Z.impR ?_ | refine Z.allR fun _ => ?_ | refine Z.Stp.imp ?_)) (by
    intro ds w' Q E h; unfold sp__law_number at h; obtain ⟨ns, k, rfl, -⟩ := h; rfl) (fun cdv A outer s H E hr =>
  (zb_cons (z_set 2 (z_fz (z_cat (z_fz (z_lstC T.list_ (z_cons (z_var 0) z_nil))) (z_fz (z_lst (z_cons z_int z_nil))))) nd)
  (zb_cons (z_set 3 (z_max T.max_ (z_cons z_int (z_cons (z_len T.len_ (z_cons (z_var 0) z_nil)) z_nil))) nd)
  (zb_cons (z_set 4 (z_ix ix_seq l_ix (z_var 2) (z_op op_mod l_mod (z_var 1) (z_var 3))) nd)
  (zb_cons (z_set 5 (z_op o_div l_div (z_var 1) (z_var 3)) nd)
  (zb_cons (z_set 6 (z_var 4) nd)
  (zb_cons (z_forR1 7 T.range_ (z_cons (z_min T.min_ (z_cons (z_var 5) (z_cons z_int z_nil))) z_nil)
  (zb_one (z_set 6 (z_op o_div l_div (z_var 6) z_int) nd)) nd)
  (zb_cons (z_if (z_pw (z_and (z_tcmp op_ge l_ge (z_var 4) (z_op op_pow l_pow z_int z_int)) (z_and (z_tcmp op_lt l_lt (z_var 5) z_int) (z_and1 (z_tcmp op_gt l_gt (z_var 6) z_int)))))
  (zb_one (z_ret (z_op op_mod l_mod (z_var 6) z_int)))
  zb_nil)
  (zb_cons (z_set 8 (z_op op_mod l_mod (z_op o_mul l_mul (z_op o_add l_add (z_op o_add l_add (z_op o_add l_add (z_op op_mod l_mod (z_var 4) z_int) z_int) (z_op o_mul l_mul z_int (z_var 5))) (z_op o_mul l_mul z_int (z_var 1))) z_int) z_int) nd)
  (zb_cons (z_set 8 (z_op op_mod l_mod (z_op o_add l_add (z_op o_add l_add (z_op o_mul l_mul (z_var 8) (z_var 8)) (z_op o_mul l_mul z_int (z_var 5))) (z_op o_mul l_mul z_int (z_var 1))) z_int) nd)
  (zb_one (z_ret (z_op op_mod l_mod (z_op o_div l_div (z_op op_mod l_mod (z_op o_mul l_mul (z_var 8) z_int) z_int) z_int) z_int))))))))))))) ?_
  intro ds w Q E h
  unfold sp__law_number at h
  clear nd hb hm F T fd f ec base mg K
  obtain ⟨ns, k, rfl, ⟨hlen, k0, k1⟩, h⟩ := h
  have hl : (ns.map D.int).length ≤ 63 := by rw [List.length_map]; exact hlen
  have s1 : Sm 10 (max 1 ((ns.map D.int).length : Int)) := by unfold Sm; omega
  have sk : Sm 20 k := by unfold Sm; omega
  have m0 := Int.emod_nonneg k (show max 1 ((ns.map D.int).length : Int) ≠ 0 by omega)
  have m1 := Int.emod_lt_of_pos k (show 0 < max 1 ((ns.map D.int).length : Int) by omega)
  obtain ⟨z, hz, -⟩ := atI_int (ns := ns ++ [0]) (k := k % max 1 ((ns.map D.int).length : Int)) m0 (by rw [List.length_append]; rw [List.length_map] at m1 hl ⊢; simp only [List.length_singleton]; omega)
  replace hz : atI (List.map D.int ns ++ [D.int 0]) (k % max 1 ((ns.map D.int).length : Int)) = some (D.int z) := by rw [List.map_append] at hz; exact hz
  have dv : DivOk (max 1 ((ns.map D.int).length : Int)) := ⟨by omega, s1.le (by decide)⟩
  kby_none
  refine ⟨fun i δ w' => ∃ (x2 x7 x8 : Sl) (r : Int), δ = [.val (.arr (ns.map D.int)), .val (.int k), x2, .val (.int (max 1 ((ns.map D.int).length : Int))), .val (.int z), .val (.int (k / max 1 ((ns.map D.int).length : Int))), .val (.int r), x7, x8], ⟨_, _, _, _, rfl⟩, ?_, ?_⟩
  · rintro i δ w' hi ⟨x2, x7, x8, r, rfl⟩
    kby_none
  · rintro δ w' ⟨x2, x7, x8, r, rfl⟩
    have sz := Sm.mod (i := z) (Sm.num 2147483629) (by decide)
    have st : Sm 20 (k / max 1 ((ns.map D.int).length : Int)) := sk.div (by omega)
    kby_none
    all_goals exact h _ (Int.emod_nonneg _ (by decide)) (Int.emod_lt_of_pos _ (by decide))
theorem ok__law_great {P : Program} {w : World} {K : PySem.W.Frag} {mg : Str → Option Value} {base : Heap} {ec : Nat → Addr} (T : Tx K mg ec) {f : Addr} {fd : FuncData} (F : Fun K "_law_great" "_law_great" s__law_great f fd) (hm : mg "_law_great" = some (.ref f)) (hb : Binds K fd ["_law_script", "_law_k", "_law_groups"] []) (d__law_number : Fd P w K mg base (W0 ec) 1 "_law_number" sp__law_number) :
    Fd P w K mg base (W0 ec) 2 "_law_great" sp__law_great := by
  have nd := sc__law_great.nd
  refine fnz F sc__law_great hm hb (by
    unfold sp__law_great; intro ds w Q Q' E E' k k'
    repeat' (first | exact id | exact k _ _ | exact k' _ _ | refine Exists.imp fun _ => ?_ | refine And.imp ?_ ?_ | refine Or.imp ?_ ?_ | refine Z.impR ?_ | refine Z.allR fun _ => ?_ | refine Z.Stp.imp ?_)) (by
    intro ds w' Q E h; unfold sp__law_great at h; obtain ⟨ns, k, g, rfl, -⟩ := h; rfl) (fun cdv A outer s H E hr =>
  (zb_cons (z_set 3 (z_callP d__law_number hr (z_cons (z_var 0) (z_cons (z_var 1) z_nil))) nd)
  (zb_cons (z_if (z_tcmp (o_eq hr) l_eq (z_op op_mod l_mod (z_var 3) z_int) z_int)
  (zb_one (z_ret (z_op op_mod l_mod (z_op o_div l_div (z_var 3) z_int) z_int)))
  zb_nil)
  (zb_cons (z_if (z_tcmp (o_eq hr) l_eq (z_op op_mod l_mod (z_var 3) z_int) z_int)
  (zb_one (z_ret (z_op o_div l_div (z_var 3) z_int)))
  zb_nil)
  (zb_cons (z_set 4 z_int nd)
  (zb_cons (z_forR1 5 T.range_ (z_cons (z_op o_add l_add z_int (z_op op_mod l_mod (z_op o_div l_div (z_var 3) z_int) (z_var 2))) z_nil)
  (zb_one (z_set 4 (z_op o_add l_add (z_op o_mul l_mul (z_var 4) (z_op op_pow l_pow z_int z_int)) (z_callP d__law_number hr (z_cons (z_var 0) (z_cons (z_op o_add l_add (z_op o_add l_add (z_var 1) z_int) (z_var 5)) z_nil)))) nd)) nd)
  (zb_one (z_ret (z_var 4))))))))) ?_
  intro ds w Q E h
  unfold sp__law_great at h
  clear nd d__law_number hb hm F T fd f ec base mg K
  obtain ⟨ns, k, g, rfl, ⟨hlen, k0, k1, g0, g1⟩, h⟩ := h
  have h := h.out
  have p1 : (10 : Int) ^ 6 ≤ 10 ^ (6 * g.toNat) := p10_le (by omega)
  have p2 : (10 : Int) ^ 6 = 1000000 := by decide
  replace h : ∀ r, 0 ≤ r → r < 10 ^ (6 * g.toNat) → Q (.int r) w := fun r h0 h1 => h r h0 h1 ((Sm.lt10 h0 h1).le (by omega))
  kby_none
  · exact h _ (by omega) (by omega)
  · exact h _ (by omega) (by omega)
  · rename_i hd h0 h1 _ _
    have m0 := Int.emod_nonneg (hd / 3) (show g ≠ 0 by omega)
    have m1 := Int.emod_lt_of_pos (hd / 3) (show 0 < g by omega)
    refine ⟨fun i δ w' => ∃ (x5 : Sl) (r : Int), δ = [.val (.arr (ns.map D.int)), .val (.int k), .val (.int g), .val (.int hd), .val (.int r), x5] ∧ 0 ≤ r ∧ r < 10 ^ (6 * i), ⟨_, 0, rfl, by decide, by decide⟩, ?_, ?_⟩
    · rintro i δ w' hi ⟨x5, r, rfl, r0, r1⟩
      have sr : Sm 600 r := (Sm.lt10 r0 r1).le (by omega)
      kby_none
      · exact Int.add_nonneg (Int.mul_nonneg r0 (by decide)) (by assumption)
      rename_i z z0 z1
      have e : (10 : Int) ^ (6 * (i + 1)) = 10 ^ (6 * i) * 10 ^ 6 := by rw [Nat.mul_add, Int.pow_add]
      show r * 10 ^ 6 + z < _
      rw [e]
      have := Int.mul_le_mul_of_nonneg_right (show r + 1 ≤ 10 ^ (6 * i) by omega) (show (0 : Int) ≤ 10 ^ 6 by decide)
      omega
    · rintro δ w' ⟨x5, r, rfl, r0, r1⟩
      have := p10_le (show 6 * (1 + hd / 3 % g).toNat ≤ 6 * g.toNat by omega)
      kby_none
      exact h _ r0 (by omega)
theorem ok__law_whole {P : Program} {w : World} {K : PySem.W.Frag} {mg : Str → Option Value} {base : Heap} {ec : Nat → Addr} (T : Tx K mg ec) {f : Addr} {fd : FuncData} (F : Fun K "_law_whole" "_law_whole" s__law_whole f fd) (hm : mg "_law_whole" = some (.ref f)) (hb : Binds K fd ["_law_found"] []) :
    Fd P w K mg base (W0 ec) 1 "_law_whole" sp__law_whole := by
  have nd := sc__law_whole.nd
  refine fnz F sc__law_whole hm hb (by
    unfold sp__law_whole; intro ds w Q Q' E E' k k'
    repeat' (first | exact id | exact k _ _ | exact k' _ _ | refine Exists.imp fun _ => ?_ | refine And.imp ?_ ?_ | refine Or.imp ?_ ?_ | refine Z.impR ?_ | refine Z.allR fun _ => ?_ | refine Z.Stp.imp ?_)) (by
    intro ds w' Q E h; unfold sp__law_whole at h; obtain ⟨x, rfl, -⟩ := h; rfl) (fun cdv A outer s H E hr =>
  (zb_one (z_ret (z_andV (z_isT isInt_ok T.isinstance_ T.int_ boot_int' (z_var 0)) (z_one (z_notV (z_isT isBool_ok T.isinstance_ T.bool_ boot_bool' (z_var 0)))))))) ?_
  intro ds w Q E h
  unfold sp__law_whole at h
  clear nd hb hm F T fd f ec base mg K
  obtain ⟨x, rfl, h⟩ := h
  exact ⟨fun _ => h, fun hc => nomatch hc⟩
theorem ok__law_measure {P : Program} {w : World} {K : PySem.W.Frag} {mg : Str → Option Value} {base : Heap} {ec : Nat → Addr} (T : Tx K mg ec) {f : Addr} {fd : FuncData} (F : Fun K "_law_measure" "_law_measure" s__law_measure f fd) (hm : mg "_law_measure" = some (.ref f)) (hb : Binds K fd ["_law_one", "_law_other"] []) :
    Fd P w K mg base (W0 ec) 1 "_law_measure" sp__law_measure := by
  have nd := sc__law_measure.nd
  refine fnz F sc__law_measure hm hb (by
    unfold sp__law_measure; intro ds w Q Q' E E' k k'
    repeat' (first | exact id | exact k _ _ | exact k' _ _ | refine Exists.imp fun _ => ?_ | refine And.imp ?_ ?_ | refine Or.imp ?_ ?_ | refine Z.impR ?_ | refine Z.allR fun _ => ?_ | refine Z.Stp.imp ?_)) (by
    intro ds w' Q E h; unfold sp__law_measure at h; obtain ⟨a, m, rfl, -⟩ := h; rfl) (fun cdv A outer s H E hr =>
  (zb_cons (z_set 0 (z_abs T.abs_ (z_cons (z_var 0) z_nil)) nd)
  (zb_cons (z_set 1 (z_abs T.abs_ (z_cons (z_var 1) z_nil)) nd)
  (zb_cons (z_while (z_tcmp op_gt l_gt (z_var 1) z_int)
  (zb_one (z_par 0 1 nd (z_cons (z_var 1) (z_cons (z_op op_mod l_mod (z_var 0) (z_var 1)) z_nil)))))
  (zb_one (z_ret (z_var 0))))))) ?_
  intro ds w Q E h
  unfold sp__law_measure at h
  clear nd hb hm F T fd f ec base mg K
  obtain ⟨a, m, rfl, h⟩ := h
  kby_none
  refine ⟨fun j δ w' => ∃ p q : Nat, δ = [.val (.int p), .val (.int q)] ∧ j = q ∧ Nat.gcd p q = Int.gcd a m, ⟨m.natAbs, a.natAbs, m.natAbs, rfl, rfl, rfl⟩, ?_⟩
  rintro j δ w' ⟨p, q, rfl, rfl, hg⟩
  kby_none
  · exact ⟨p % j, Nat.mod_lt _ (by omega), j, p % j, by rw [Int.natCast_emod], rfl, by rw [← hg, Nat.gcd_comm, ← Nat.gcd_rec, Nat.gcd_comm]⟩
  · have : j = 0 := by omega
    subst this
    rw [Nat.gcd_zero_right] at hg
    kby_none
    rw [hg]
    exact h
theorem ok__law_widths {P : Program} {w : World} {K : PySem.W.Frag} {mg : Str → Option Value} {base : Heap} {ec : Nat → Addr} (T : Tx K mg ec) {f : Addr} {fd : FuncData} (F : Fun K "_law_widths" "_law_widths" s__law_widths f fd) (hm : mg "_law_widths" = some (.ref f)) (hb : Binds K fd ["_law_script", "_law_k", "_law_many", "_law_width"] []) (d__law_great : Fd P w K mg base (W0 ec) 2 "_law_great" sp__law_great) :
    Fd P w K mg base (W0 ec) 3 "_law_widths" sp__law_widths := by
  have nd := sc__law_widths.nd
  refine fnz F sc__law_widths hm hb (by
    unfold sp__law_widths; intro ds w Q Q' E E' k k'
    repeat' (first | exact id | exact k _ _ | exact k' _ _ | refine Exists.imp fun _ => ?_ | refine And.imp ?_ ?_ | refine Or.imp ?_ ?_ | refine Z.impR ?_ | refine Z.allR fun _ => ?_ | refine Z.Stp.imp ?_)) (by
    intro ds w' Q E h; unfold sp__law_widths at h; obtain ⟨ns, k, n, W, rfl, -⟩ := h; rfl) (fun cdv A outer s H E hr =>
  (zb_cons (z_own 4 (z_lst (z_cons z_int (z_cons (z_var 3) z_nil))) nd)
  (zb_cons (z_forR1 5 T.range_ (z_cons (z_op op_sub l_sub (z_var 2) z_int) z_nil)
  (zb_cons (z_set 6 (z_op op_mod l_mod (z_callP d__law_great hr (z_cons (z_var 0) (z_cons (z_op o_add l_add (z_var 1) (z_op o_mul l_mul z_int (z_var 5))) (z_cons z_int z_nil)))) (z_var 3)) nd)
  (zb_one (z_if (z_tcmpO 4 op_notIn_seq l_notIn (z_var 6))
  (zb_one (z_appO 4 (z_var 6)))
  zb_nil))) nd)
  (zb_frz 4 (zb_cons (z_own 4 (z_sort T.sorted_ (z_cons (z_var 4) z_nil)) nd)
  (zb_frz 4 (zb_one (z_ret (z_fz (z_lcI (own := [("_law_cut", 6), ("_law_after", 7)]) (hw := wiped_tup (by decide)) (ok := by show blkC ["_law_script", "_law_k", "_law_many", "_law_width", "_law_cuts", "_law_j", "_law_cut", "_law_after"] (defScope s__law_widths) _ _ = true; decide +kernel) (i_zip T.zip_ (z_cons (z_var 4) (z_cons (z_fz (z_slL (z_var 4) (z_oS z_int) z_oN)) z_nil))) (c_ok (gzt := (gg_tup [6, 7])) (fun _ _ _ _ _ => (g_tup (gs_cons 6 nd (gs_cons 7 nd gs_nil))).pg) (fun _ _ _ _ _ => (z_op op_sub l_sub (z_var 7) (z_var 6)))) nd)))))))))) ?_
  intro ds w Q E h
  unfold sp__law_widths at h
  clear nd d__law_great hb hm F T fd f ec base mg K
  obtain ⟨ns, k, n, W, rfl, ⟨hlen, k0, k1, n1, n4, w1, sw⟩, h⟩ := h
  kby_none
  refine ⟨fun i δ w' => w = w' ∧ ∃ (x5 x6 x7 : Sl) (cs : List Int), δ = [.val (.arr (ns.map D.int)), .val (.int k), .val (.int n), .val (.int W), .own (cs.map D.int), x5, x6, x7] ∧ (2 ≤ cs.length ∧ cs.length ≤ 2 + i) ∧ Stp (cs.Nodup ∧ 0 ∈ cs ∧ W ∈ cs ∧ ∀ c ∈ cs, 0 ≤ c ∧ c ≤ W), ⟨rfl, _, _, _, [0, W], rfl, ⟨Nat.le_refl _, Nat.le_refl _⟩, Stp.mk ⟨by simp; omega, by simp, by simp, fun c hc => by simp only [List.mem_cons, List.not_mem_nil, or_false] at hc; omega⟩⟩, fun i δ w' hi hI => ?_, fun δ w' hI => ?_⟩
  · obtain ⟨rfl, x5, x6, x7, cs, rfl, hcl, hcs⟩ := hI
    obtain ⟨c1, c2, c3, c4⟩ := hcs.out
    have lt : (cs.map D.int).length < 100000 := by rw [List.length_map]; omega
    have okf := okFs_ints cs
    kby_none
    refine Stp.mk fun r r0 r1 sr => ?_
    have m0 := Int.emod_nonneg r (show W ≠ 0 by omega)
    have m1 := Int.emod_lt_of_pos r (show 0 < W by omega)
    have mem := memF_ints (r % W) cs
    kby_none
    all_goals first
      | exact okf
      | skip
    · rename_i hn
      rw [mem] at hn
      have hn : ¬ r % W ∈ cs := by simpa using hn
      exact ⟨_, _, _, cs ++ [r % W], by rw [List.map_append]; rfl, ⟨by rw [List.length_append]; omega, by rw [List.length_append, List.length_singleton]; omega⟩, Stp.mk ⟨List.nodup_append.mpr ⟨c1, by simp, fun x hx y hy e => hn (by rw [← List.mem_singleton.mp hy, ← e]; exact hx)⟩, List.mem_append.mpr (.inl c2), List.mem_append.mpr (.inl c3), fun c hc => by
        rcases List.mem_append.mp hc with hc | hc
        · exact c4 c hc
        · rw [List.mem_singleton.mp hc]; omega⟩⟩
  obtain ⟨rfl, x5, x6, x7, cs, rfl, hcl, hcs⟩ := hI
  obtain ⟨c1, c2, c3, c4⟩ := hcs.out
  have lcs : cs.length ≤ 6 := by omega
  have lcn : (cs.length : Int) ≤ n + 1 := by omega
  have lc2 : 2 ≤ cs.length := hcl.1
  clear hcl
  kby_none
  all_goals rename_i cs2 hperm hsort
  all_goals obtain ⟨c0, cr, rfl⟩ := cons_of (show 1 ≤ cs2.length by have := hperm.length_eq; omega)
  all_goals have hlen2 := hperm.length_eq
  all_goals rw [List.length_cons] at hlen2
  all_goals rw [cut1]
  · rw [zipT_len, List.length_map, List.length_map, List.length_cons]; omega
  have nd := hperm.nodup_iff.mpr c1
  have hlt := lt_of_le hsort nd
  have z0 : c0 = 0 := by
    have := (c4 c0 (hperm.mem_iff.mp List.mem_cons_self)).1
    rcases List.mem_cons.mp (hperm.mem_iff.mpr c2) with e | e
    · omega
    · have := (List.pairwise_cons.mp hsort).1 0 e; omega
  have zl : (c0 :: cr).getLast (by simp) = W := by
    have h1 := last_max (l := c0 :: cr) (by simp) hsort W (hperm.mem_iff.mpr c3)
    have h2 := (c4 _ (hperm.mem_iff.mp (List.getLast_mem (l := c0 :: cr) (by simp)))).2
    omega
  have gs := gaps_sum c0 cr
  rw [zl, z0, Int.sub_zero] at gs
  have gp := gaps_pos hlt
  have gl := gaps_len c0 cr
  refine ⟨fun i acc w' => w = w' ∧ acc = ((gaps (c0 :: cr)).take i).map D.int, ⟨rfl, rfl⟩, fun i d acc w' hd hI => ?_, fun acc w' hI => ?_⟩
  · obtain ⟨rfl, rfl⟩ := hI
    obtain ⟨s2, e, hs2, he, rfl⟩ := zipT_get (cs := c0 :: cr) hd
    have ga := gaps_at hs2 he
    kby_none
    rw [tk1 ga, List.map_append]; rfl
  obtain ⟨rfl, rfl⟩ := hI
  rw [zipT_len, List.length_map, List.length_map, List.length_cons, List.take_of_length_le (by rw [gl]; omega)]
  rw [z0] at gp gl ⊢
  have gb : ∀ x ∈ gaps (0 :: cr), 1 ≤ x ∧ x ≤ W := fun x hx => ⟨gp x hx, by have := sum_le_of gp x hx; omega⟩
  exact h _ (by omega) (by omega) (Stp.mk ⟨gb, gs⟩)
theorem ok__law_sides {P : Program} {w : World} {K : PySem.W.Frag} {mg : Str → Option Value} {base : Heap} {ec : Nat → Addr} (T : Tx K mg ec) {f : Addr} {fd : FuncData} (F : Fun K "_law_sides" "_law_sides" s__law_sides f fd) (hm : mg "_law_sides" = some (.ref f)) (hb : Binds K fd ["_law_script", "_law_k", "_law_many", "_law_width"] []) (d__law_widths : Fd P w K mg base (W0 ec) 3 "_law_widths" sp__law_widths) (d__law_great : Fd P w K mg base (W0 ec) 2 "_law_great" sp__law_great) (d__law_number : Fd P w K mg base (W0 ec) 1 "_law_number" sp__law_number) :
    Fd P w K mg base (WL K ec) 4 "_law_sides" sp__law_sides := by
  have nd := sc__law_sides.nd
  refine fnz F sc__law_sides hm hb (by
    unfold sp__law_sides; intro ds w Q Q' E E' k k'
    repeat' (first | exact id | exact k _ _ | exact k' _ _ | refine Exists.imp fun _ => ?_ | refine And.imp ?_ ?_ | refine Or.imp ?_ ?_ | refine Z.impR ?_ | refine Z.allR fun _ => ?_ | refine Z.Stp.imp ?_)) (by
    intro ds w' Q E h; unfold sp__law_sides at h; obtain ⟨ns, k, n, W, rfl, -⟩ := h; rfl) (fun cdv A outer s H E hr =>
  (zb_cons (z_set 4 (z_newW (z_lst z_nil)) nd)
  (zb_cons (z_forI (i_enum T.enumerate_ (z_cons (z_callP d__law_widths hr (z_cons (z_var 0) (z_cons (z_var 1) (z_cons (z_var 2) (z_cons (z_var 3) z_nil))))) z_nil)) (g_tup (gs_cons 5 nd (gs_cons 6 nd gs_nil)))
  (zb_cons (z_set 7 (z_ix ix_seq l_ix (z_fz (z_lst (z_cons z_int (z_cons (z_un un_neg l_neg z_int) z_nil)))) (z_op op_mod l_mod (z_op o_div l_div (z_callP d__law_number hr (z_cons (z_var 0) (z_cons (z_op o_add l_add (z_var 1) z_int) z_nil))) (z_ix ix_seq l_ix (z_fz (z_lst (z_cons z_int (z_cons z_int (z_cons z_int (z_cons z_int z_nil)))))) (z_var 5))) z_int)) nd)
  (zb_cons (z_set 8 (z_op o_mul l_mul (z_callP d__law_great hr (z_cons (z_var 0) (z_cons (z_op o_add l_add (z_op o_add l_add (z_var 1) z_int) (z_op o_mul l_mul z_int (z_var 5))) (z_cons z_int z_nil)))) (z_var 7)) nd)
  (zb_cons (z_set 9 (z_op o_mul l_mul (z_var 6) (z_op op_sub l_sub (z_op op_mod l_mod (z_var 8) z_int) z_int)) nd)
  (zb_one (z_appW 4 (z_tup (z_cons (z_var 6) (z_cons (z_ix ix_seq l_ix (z_fz (z_lst (z_cons (z_var 8) (z_cons (z_var 8) (z_cons (z_var 9) z_nil))))) (z_op op_mod l_mod (z_callP d__law_number hr (z_cons (z_var 0) (z_cons (z_op o_add l_add (z_var 1) z_int) z_nil))) z_int)) z_nil)))))))))
  (zb_cons (z_own 10 (z_lst z_nil) nd)
  (zb_cons (z_while (z_tcmpW (o_ne hr) l_ne (z_var 4) (z_fz (z_lst z_nil)))
  (zb_cons (z_set 11 z_int nd)
  (zb_cons (z_forEW T.enumerate_ (z_var 4) (g_tup (gs_cons 5 nd (gs_cons 12 nd gs_nil)))
  (zb_one (z_if (z_tcmp op_gt l_gt (z_op o_mul l_mul (z_ix ix_seq l_ix (z_var 12) z_int) (z_ix ix_seq l_ix (z_ixW (z_var 4) (z_var 11)) z_int)) (z_op o_mul l_mul (z_ix ix_seq l_ix (z_ixW (z_var 4) (z_var 11)) z_int) (z_ix ix_seq l_ix (z_var 12) z_int)))
  (zb_one (z_set 11 (z_var 5) nd))
  zb_nil)))
  (zb_one (z_appO 10 (z_popW 4 (z_var 11)))))))
  (zb_frz 10 (zb_one (z_ret (z_var 10))))))))) ?_
  intro ds w Q E h
  unfold sp__law_sides at h
  clear nd d__law_widths d__law_great d__law_number hb hm F T fd f ec base mg K
  obtain ⟨ns, k, n, W, rfl, ⟨hlen, k0, k1, n1, n4, w1, w24⟩, h⟩ := h
  have h := h.out
  have sW : Sm 90 W := by
    have e : (10 : Int) ^ 24 < 2 ^ 90 := by decide
    unfold Sm; omega
  kby_none
  rename_i p hp ws l1 ln hws
  obtain ⟨hws1, hws2⟩ := hws.out
  change zLoop (enumL (List.map D.int ws)) _ _ _ _ _
  refine ⟨fun i δ w' => ∃ (Wt : List Sd) (x5 x6 x7 x8 x9 : Sl), wGet w' p = some (Wt.map SdD) ∧ δ = [.val (.arr (ns.map D.int)), .val (.int k), .val (.int n), .val (.int W), .val (.ref p), x5, x6, x7, x8, x9, .no, .no, .no] ∧ Wt.length = i ∧ Stp ((∀ s ∈ Wt, SdOk s) ∧ Wt.map (fun s => s.1) = ws.take i), ⟨[], _, _, _, _, _, by rw [wGet_cons, if_pos rfl]; rfl, rfl, rfl, Stp.mk ⟨fun s hs => (nomatch hs), by rw [List.take_zero]; rfl⟩⟩, fun i d δ w' hd hI => ?_, fun δ w' hI => ?_⟩
  · obtain ⟨Wt, x5, x6, x7, x8, x9, hg, rfl, hwl, hW⟩ := hI
    obtain ⟨x, hx, rfl⟩ := enumL_of hd
    obtain ⟨wi, hwi, rfl⟩ := ints_ix9 hx
    have hil : i < ws.length := (List.getElem?_eq_some_iff.mp hwi).1
    obtain ⟨swi1, swi2⟩ := hws1 wi (List.mem_of_getElem? hwi)
    have swi : Sm 80 wi := by
      have e : (10 : Int) ^ 24 < 2 ^ 80 := by decide
      unfold Sm; omega
    obtain ⟨z4, hz4, z40, z41⟩ := ix4 (i := i) (by omega)
    kby_none
    rename_i nr _ _
    obtain ⟨s, hs1, hs2, hs3⟩ := Z.sgn_at (nr / z4)
    refine ⟨_, hs1, ?_⟩
    kby_none
    refine Stp.mk fun r r0 r1 sr => ?_
    replace r1 : r < 10 ^ 24 := r1
    have sr8 : Sm 80 r := by
      have e : (10 : Int) ^ 24 < 2 ^ 80 := by decide
      unfold Sm; omega
    have sh8 : Sm 80 (r * s) := Sm.sgn sr8 hs2
    have sc : Sm 3 (r * s % 9 - 4) := by unfold Sm; omega
    kby_none
    · exact ⟨_, hg⟩
    rename_i n3 _ _
    generalize hhe : r * s = hh at *
    have sc : Sm 3 (hh % 9 - 4) := by unfold Sm; omega
    obtain ⟨y, hy, hy2⟩ := at3 hh (wi * (hh % 9 - 4)) n3
    have sy : Sm 90 y := by
      rcases hy2 with rfl | rfl
      · exact sh8.le (by decide)
      · exact (swi.mul sc).le (by decide)
    refine ⟨_, hy, ?_⟩
    kby_none
    refine ⟨Wt ++ [(wi, y)], _, _, _, _, _, (w_set hg).trans (show some (List.map SdD Wt ++ [D.tup [D.int wi, D.int y]]) = some (List.map SdD (Wt ++ [(wi, y)])) by rw [List.map_append]; rfl), rfl, by rw [List.length_append, hwl]; rfl, ?_⟩
    obtain ⟨g1, g2⟩ := hW.out
    refine Stp.mk ⟨fun t ht => ?_, ?_⟩
    · rcases List.mem_append.mp ht with ht | ht
      · exact g1 t ht
      · rw [List.mem_singleton.mp ht]; exact ⟨swi1, swi.le (by decide), sy⟩
    · rw [List.map_append, g2, tk1 hwi]; rfl
  obtain ⟨Wt, x5, x6, x7, x8, x9, hg, rfl, hwl, hW⟩ := hI
  rw [enumL_len, List.length_map] at hwl hW
  obtain ⟨g1, g2⟩ := hW.out
  rw [List.take_length] at g2
  have hinv : SInv W ws.length [] Wt := ⟨g1, .nil, fun f hf => (nomatch hf), by rw [wd_fst Wt, g2, hws2]; show 0 + W = W; omega, by rw [List.length_nil]; omega⟩
  clear hws hws1 hws2 g1 g2 hW
  kby_none
  refine ⟨fun j δ w' => ∃ (Wt F : List Sd) (x5 x11 x12 : Sl), wGet w' p = some (Wt.map SdD) ∧ δ = [.val (.arr (ns.map D.int)), .val (.int k), .val (.int n), .val (.int W), .val (.ref p), x5, x6, x7, x8, x9, .own (F.map SdD), x11, x12] ∧ j = Wt.length ∧ Stp (SInv W ws.length F Wt), ⟨_, Wt, [], _, _, _, hg, rfl, rfl, Stp.mk hinv⟩, ?_⟩
  rintro j δ w' ⟨Wt, F, x5, x11, x12, hg, rfl, rfl, hI⟩
  have okS := okSds Wt
  have dpS := dpSds Wt
  clear hinv
  kby_none
  · rename_i hne
    have hne := deqNil' hne
    have hpos : 0 < Wt.length := List.length_pos_iff.mpr hne
    obtain ⟨iok, -, -, -, -⟩ := id hI.out
    refine ⟨fun i δ' w2 => wGet w2 p = some (Wt.map SdD) ∧ ∃ (a : Nat) (x5 x12 : Sl), δ' = [.val (.arr (ns.map D.int)), .val (.int k), .val (.int n), .val (.int W), .val (.ref p), x5, x6, x7, x8, x9, .own (F.map SdD), .val (.int (a : Int)), x12] ∧ a < Wt.length ∧ Stp (∀ (j : Nat) (s t : Sd), j < i → Wt[a]? = some s → Wt[j]? = some t → Fl s t), ⟨hg, 0, _, _, rfl, hpos, Stp.mk fun j s t hj => absurd hj (Nat.not_lt_zero j)⟩, fun i δ' w2 h => h.1, fun i d δ' w2 hd hI2 => ?_, fun δ' w2 hI2 => ?_⟩
    · obtain ⟨hg2, a, x5', x12', rfl, ha, hmax⟩ := hI2
      obtain ⟨t, ht, tm, rfl⟩ := SdD_at hd
      obtain ⟨s, hs⟩ : ∃ s, Wt[a]? = some s := ⟨_, List.getElem?_eq_getElem ha⟩
      have as := sd_ix (k := (a : Int)) hs rfl
      have il : i < Wt.length := (List.getElem?_eq_some_iff.mp ht).1
      have os := iok s (List.mem_append.mpr (.inr (List.mem_of_getElem? hs)))
      have ot := iok t (List.mem_append.mpr (.inr tm))
      have os1 := os.sw
      have os2 := os.sh
      have ot1 := ot.sw
      have ot2 := ot.sh
      kby_none
      conv => whnf
      refine ⟨_, _, hg2, as, ?_⟩
      kby_none
      conv => whnf
      refine ⟨_, _, hg2, as, ?_⟩
      kby_none
      · rename_i hgt
        have fts : Fl t s := by unfold Fl; omega
        refine Stp.mk fun j s' t' hj h1 h2 => ?_
        obtain rfl : t = s' := Option.some.inj (ht.symm.trans h1)
        by_cases e : j = i
        · subst e
          obtain rfl : t = t' := Option.some.inj (ht.symm.trans h2)
          exact Fl.rfl' t
        · exact Fl.tr os.w1 ot.w1 (iok t' (List.mem_append.mpr (.inr (List.mem_of_getElem? h2)))).w1 fts (hmax.out j s t' (by omega) hs h2)
      · rename_i hgt
        have fst' : Fl s t := by unfold Fl; omega
        refine Stp.mk fun j s' t' hj h1 h2 => ?_
        obtain rfl : s = s' := Option.some.inj (hs.symm.trans h1)
        by_cases e : j = i
        · subst e
          obtain rfl : t = t' := Option.some.inj (ht.symm.trans h2)
          exact fst'
        · exact hmax.out j s t' (by omega) hs h2
    · obtain ⟨hg2, a, x5', x12', rfl, ha, hmax⟩ := hI2
      rw [List.length_map] at hmax
      obtain ⟨s, hs⟩ : ∃ s, Wt[a]? = some s := ⟨_, List.getElem?_eq_getElem ha⟩
      have hlen100 : Wt.length ≤ 100000 := by have := hI.out.ln; omega
      have hlenF : (F.map SdD).length < 100000 := by have := hI.out.ln; rw [List.length_map]; omega
      kby_none
      · exact ⟨_, hg2⟩
      conv => whnf
      refine ⟨_, SdD s, hg2, ⟨by omega, by rw [List.length_map]; omega, by rw [List.length_map]; exact hlen100⟩, ?_, hlenF, (Wt.eraseIdx a).length, ?_, Wt.eraseIdx a, F ++ [s], x5', .val (.int (a : Int)), x12', (w_set hg2).trans (congrArg some (map_er a)), ?_, rfl, Stp.mk (hI.out.next hs fun j t hj => hmax.out j s t (List.getElem?_eq_some_iff.mp hj).1 hs hj)⟩
      · rw [Int.toNat_natCast, List.getElem?_map, hs]; rfl
      · have := er_len ha; omega
      · rw [List.map_append]; rfl
  · rename_i hne
    obtain rfl := deqNil hne
    obtain ⟨iok, ifl, -, ism, iln⟩ := hI.out
    rw [List.append_nil] at iok
    have ism : wd F + 0 = W := ism
    have iln : F.length + 0 = ws.length := iln
    have q := h F w' (by omega) (by omega) ⟨fun s hs => (iok s hs).w1, ifl⟩ (by omega) iok
    kby_none
    exact q
theorem ok__law_lines {P : Program} {w : World} {K : PySem.W.Frag} {mg : Str → Option Value} {base : Heap} {ec : Nat → Addr} (T : Tx K mg ec) {f : Addr} {fd : FuncData} (F : Fun K "_law_lines" "_law_lines" s__law_lines f fd) (hm : mg "_law_lines" = some (.ref f)) (hb : Binds K fd ["_law_sides_here", "_law_place", "_law_height", "_law_factor"] []) :
    Fd P w K mg base (W0 ec) 1 "_law_lines" sp__law_lines := by
  have nd := sc__law_lines.nd
  refine fnz F sc__law_lines hm hb (by
    unfold sp__law_lines; intro ds w Q Q' E E' k k'
    repeat' (first | exact id | exact k _ _ | exact k' _ _ | refine Exists.imp fun _ => ?_ | refine And.imp ?_ ?_ | refine Or.imp ?_ ?_ | refine Z.impR ?_ | refine Z.allR fun _ => ?_ | refine Z.Stp.imp ?_)) (by
    intro ds w' Q E h; unfold sp__law_lines at h; obtain ⟨S, x, y, f, rfl, -⟩ := h; rfl) (fun cdv A outer s H E hr =>
  (zb_cons (z_own 4 (z_lst z_nil) nd)
  (zb_cons (z_set 5 z_int nd)
  (zb_cons (z_forL (z_var 0) (g_tup (gs_cons 6 nd (gs_cons 7 nd gs_nil)))
  (zb_cons (z_appO 4 (z_tup (z_cons (z_op o_mul l_mul (z_var 7) (z_var 3)) (z_cons (z_op o_mul l_mul (z_op op_sub l_sub (z_op o_mul l_mul (z_var 2) (z_var 6)) (z_op o_mul l_mul (z_var 7) (z_var 1))) (z_var 3)) (z_cons (z_op o_mul l_mul (z_var 6) (z_var 3)) z_nil)))))
  (zb_cons (z_set 5 (z_op o_add l_add (z_var 5) (z_op o_mul l_mul (z_var 6) (z_op o_add l_add (z_op o_mul l_mul z_int (z_var 2)) (z_var 7)))) nd)
  (zb_cons (z_set 1 (z_op o_add l_add (z_var 1) (z_var 6)) nd)
  (zb_one (z_set 2 (z_op o_add l_add (z_var 2) (z_var 7)) nd))))))
  (zb_frz 4 (zb_one (z_ret (z_fz (z_lst (z_cons (z_tupC T.tuple_ (z_cons (z_var 4) z_nil)) (z_cons (z_var 5) z_nil))))))))))) ?_
  intro ds w Q E h
  unfold sp__law_lines at h
  clear nd hb hm F T fd f ec base mg K
  obtain ⟨S, x, y, f, rfl, ⟨hS, hl, sx, sy, f1, f9⟩, h⟩ := h
  have sf : Sm 4 f := by unfold Sm; omega
  kby_none
  refine ⟨fun i δ w' => w = w' ∧ ∃ x6 x7, δ = [.val (.lst (S.map SdD)), .val (.int (x + wd (S.take i))), .val (.int (y + ht (S.take i))), .val (.int f), .own ((lnsK f (S.take i) x y).map lnP), .val (.int (twK (S.take i) y)), x6, x7], ⟨rfl, _, _, by rw [List.take_zero, show wd [] = 0 from rfl, show ht [] = 0 from rfl, Int.add_zero, Int.add_zero]; rfl⟩, fun i d δ w' hd hI => ?_, fun δ w' hI => ?_⟩
  · obtain ⟨rfl, x6, x7, rfl⟩ := hI
    obtain ⟨s, hs, sm, rfl⟩ := SdD_at hd
    have ok := hS s sm
    have sw := ok.sw
    have sh := ok.sh
    obtain ⟨t1, t2⟩ := take_ok hS hl i
    have u1 : Sm 101 (x + wd (S.take i)) := (sx.add t1).le (by decide)
    have u2 : Sm 101 (y + ht (S.take i)) := (sy.add t2).le (by decide)
    have lt : ((lnsK f (S.take i) x y).map lnP).length < 100000 := by
      have : ∀ (A : List Sd) (x y : Int), (lnsK f A x y).length = A.length := by
        intro A
        induction A with
        | nil => intro x y; rfl
        | cons a A ih => intro x y; show (lnsK f A _ _).length + 1 = _; rw [ih]; rfl
      rw [List.length_map, this, List.length_take]; omega
    have e1 := wd_snoc hs
    have e2 := ht_snoc hs
    have e3 := tw_snoc (y := y) hs
    have e4 := lnsK_snoc (f := f) (x := x) (y := y) hs
    kby_none
    refine ⟨.val (.int s.1), .val (.int s.2), ?_⟩
    rw [e1, e2, e3, ← e4, ← Int.add_assoc, ← Int.add_assoc]
    rfl
  obtain ⟨rfl, x6, x7, rfl⟩ := hI
  rw [List.length_map, List.take_length]
  kby_none
  exact h
theorem ok__law_rim {P : Program} {w : World} {K : PySem.W.Frag} {mg : Str → Option Value} {base : Heap} {ec : Nat → Addr} (T : Tx K mg ec) {f : Addr} {fd : FuncData} (F : Fun K "_law_rim" "_law_rim" s__law_rim f fd) (hm : mg "_law_rim" = some (.ref f)) (hb : Binds K fd ["_law_sides_here"] []) (d__law_measure : Fd P w K mg base (W0 ec) 1 "_law_measure" sp__law_measure) :
    Fd P w K mg base (W0 ec) 2 "_law_rim" sp__law_rim := by
  have nd := sc__law_rim.nd
  refine fnz F sc__law_rim hm hb (by
    unfold sp__law_rim; intro ds w Q Q' E E' k k'
    repeat' (first | exact id | exact k _ _ | exact k' _ _ | refine Exists.imp fun _ => ?_ | refine And.imp ?_ ?_ | refine Or.imp ?_ ?_ | refine Z.impR ?_ | refine Z.allR fun _ => ?_ | refine Z.Stp.imp ?_)) (by
    intro ds w' Q E h; unfold sp__law_rim at h; obtain ⟨S, rfl, -⟩ := h; rfl) (fun cdv A outer s H E hr =>
  (zb_one (z_ret (z_sum T.sum_ (z_cons (z_fz (z_lcL (own := [("_law_wide", 1), ("_law_high", 2)]) (hw := wiped_tup (by decide)) (ok := by show blkC ["_law_sides_here", "_law_wide", "_law_high"] (defScope s__law_rim) _ _ = true; decide +kernel) (z_var 0) (c_ok (gzt := (gg_tup [1, 2])) (fun _ _ _ _ _ => (g_tup (gs_cons 1 nd (gs_cons 2 nd gs_nil))).pg) (fun _ _ _ _ _ => (z_callP d__law_measure hr (z_cons (z_var 1) (z_cons (z_var 2) z_nil))))) nd)) z_nil))))) ?_
  intro ds w Q E h
  unfold sp__law_rim at h
  clear nd d__law_measure hb hm F T fd f ec base mg K
  obtain ⟨S, rfl, hl, h⟩ := h
  have hl' : (S.map SdD).length ≤ 4 := by rw [List.length_map]; exact hl
  kby_none
  refine ⟨fun i acc w' => w = w' ∧ acc = ((S.take i).map fun s => ((Int.gcd s.1 s.2 : Nat) : Int)).map D.int, ⟨rfl, rfl⟩, fun i d acc w' hd hI => ?_, fun acc w' hI => ?_⟩
  · obtain ⟨rfl, rfl⟩ := hI
    obtain ⟨⟨s1, s2⟩, hs, sm, rfl⟩ := SdD_at hd
    kby_none
    exact rims_snoc hs
  obtain ⟨rfl, rfl⟩ := hI
  rw [List.length_map, List.take_length]
  kby_none
  rw [rim_sum]; exact h
theorem ok__law_points {P : Program} {w : World} {K : PySem.W.Frag} {mg : Str → Option Value} {base : Heap} {ec : Nat → Addr} (T : Tx K mg ec) {f : Addr} {fd : FuncData} (F : Fun K "_law_points" "_law_points" s__law_points f fd) (hm : mg "_law_points" = some (.ref f)) (hb : Binds K fd ["_law_upper", "_law_lower", "_law_gap"] []) (d__law_lines : Fd P w K mg base (W0 ec) 1 "_law_lines" sp__law_lines) (d__law_rim : Fd P w K mg base (W0 ec) 2 "_law_rim" sp__law_rim) :
    Fd P w K mg base (W0 ec) 3 "_law_points" sp__law_points := by
  have nd := sc__law_points.nd
  refine fnz F sc__law_points hm hb (by
    unfold sp__law_points; intro ds w Q Q' E E' k k'
    repeat' (first | exact id | exact k _ _ | exact k' _ _ | refine Exists.imp fun _ => ?_ | refine And.imp ?_ ?_ | refine Or.imp ?_ ?_ | refine Z.impR ?_ | refine Z.allR fun _ => ?_ | refine Z.Stp.imp ?_)) (by
    intro ds w' Q E h; unfold sp__law_points at h; obtain ⟨U, V, g, rfl, -⟩ := h; rfl) (fun cdv A outer s H E hr =>
  (zb_cons (z_set 3 (z_op op_sub l_sub (z_op o_add l_add (z_var 2) (z_sum T.sum_ (z_cons (z_fz (z_lcL (own := [("_law_wide", 5), ("_law_high", 6)]) (hw := wiped_tup (by decide)) (ok := by show blkC ["_law_upper", "_law_lower", "_law_gap", "_law_end", "_law_twice", "_law_wide", "_law_high"] (defScope s__law_points) _ _ = true; decide +kernel) (z_var 0) (c_ok (gzt := (gg_tup [5, 6])) (fun _ _ _ _ _ => (g_tup (gs_cons 5 nd (gs_cons 6 nd gs_nil))).pg) (fun _ _ _ _ _ => (z_var 6))) nd)) z_nil))) (z_sum T.sum_ (z_cons (z_fz (z_lcL (own := [("_law_wide", 5), ("_law_high", 6)]) (hw := wiped_tup (by decide)) (ok := by show blkC ["_law_upper", "_law_lower", "_law_gap", "_law_end", "_law_twice", "_law_wide", "_law_high"] (defScope s__law_points) _ _ = true; decide +kernel) (z_var 1) (c_ok (gzt := (gg_tup [5, 6])) (fun _ _ _ _ _ => (g_tup (gs_cons 5 nd (gs_cons 6 nd gs_nil))).pg) (fun _ _ _ _ _ => (z_var 6))) nd)) z_nil))) nd)
  (zb_cons (z_set 4 (z_op op_sub l_sub (z_ix ix_seq l_ix (z_callP d__law_lines hr (z_cons (z_var 0) (z_cons z_int (z_cons (z_var 2) (z_cons z_int z_nil))))) z_int) (z_ix ix_seq l_ix (z_callP d__law_lines hr (z_cons (z_var 1) (z_cons z_int (z_cons z_int (z_cons z_int z_nil))))) z_int)) nd)
  (zb_one (z_ret (z_op o_add l_add (z_op o_div l_div (z_op o_add l_add (z_op o_add l_add (z_op o_add l_add (z_op o_add l_add (z_var 4) (z_callP d__law_rim hr (z_cons (z_var 0) z_nil))) (z_callP d__law_rim hr (z_cons (z_var 1) z_nil))) (z_var 2)) (z_var 3)) z_int) z_int)))))) ?_
  intro ds w Q E h
  unfold sp__law_points at h
  clear nd d__law_lines d__law_rim hb hm F T fd f ec base mg K
  obtain ⟨U, V, g, rfl, ⟨hU, lU, hV, lV, sg⟩, h⟩ := h
  kby_none
  refine ⟨fun i acc w' => w = w' ∧ acc = ((U.take i).map fun s => s.2).map D.int, ⟨rfl, rfl⟩, fun i d acc w' hd hI => ?_, fun acc w' hI => ?_⟩
  · obtain ⟨rfl, rfl⟩ := hI
    obtain ⟨⟨s1, s2⟩, hs, sm, rfl⟩ := SdD_at hd
    kby_none
    exact hts_snoc hs
  obtain ⟨rfl, rfl⟩ := hI
  rw [List.length_map, List.take_length]
  kby_none
  rw [ht_sum]
  refine ⟨fun i acc w' => w = w' ∧ acc = ((V.take i).map fun s => s.2).map D.int, ⟨rfl, rfl⟩, fun i d acc w' hd hI => ?_, fun acc w' hI => ?_⟩
  · obtain ⟨rfl, rfl⟩ := hI
    obtain ⟨⟨s1, s2⟩, hs, sm, rfl⟩ := SdD_at hd
    kby_none
    exact hts_snoc hs
  obtain ⟨rfl, rfl⟩ := hI
  rw [List.length_map, List.take_length]
  kby_none
  rw [ht_sum]
  kby_none
  exact h
theorem ok__law_alike {P : Program} {w : World} {K : PySem.W.Frag} {mg : Str → Option Value} {base : Heap} {ec : Nat → Addr} (T : Tx K mg ec) {f : Addr} {fd : FuncData} (F : Fun K "_law_alike" "_law_alike" s__law_alike f fd) (hm : mg "_law_alike" = some (.ref f)) (hb : Binds K fd ["_law_one", "_law_other"] []) :
    Fd P w K mg base (W0 ec) 1 "_law_alike" sp__law_alike := by
  have nd := sc__law_alike.nd
  refine fnz F sc__law_alike hm hb (by
    unfold sp__law_alike; intro ds w Q Q' E E' k k'
    repeat' (first | exact id | exact k _ _ | exact k' _ _ | refine Exists.imp fun _ => ?_ | refine And.imp ?_ ?_ | refine Or.imp ?_ ?_ | refine Z.impR ?_ | refine Z.allR fun _ => ?_ | refine Z.Stp.imp ?_)) (by
    intro ds w' Q E h; unfold sp__law_alike at h; obtain ⟨s, t, rfl, -⟩ := h; rfl) (fun cdv A outer s H E hr =>
  (zb_one (z_ret (z_cmp (o_eq hr) l_eq (z_op o_mul l_mul (z_ix ix_seq l_ix (z_var 0) z_int) (z_ix ix_seq l_ix (z_var 1) z_int)) (z_op o_mul l_mul (z_ix ix_seq l_ix (z_var 1) z_int) (z_ix ix_seq l_ix (z_var 0) z_int)))))) ?_
  intro ds w Q E h
  unfold sp__law_alike at h
  clear nd hb hm F T fd f ec base mg K
  obtain ⟨⟨s1, s2⟩, ⟨t1, t2⟩, rfl, ⟨hs, ht⟩, h⟩ := h
  have a1 : Sm 90 s1 := hs.sw
  have a2 : Sm 90 s2 := hs.sh
  have b1 : Sm 90 t1 := ht.sw
  have b2 : Sm 90 t2 := ht.sh
  kby_none
  exact h
theorem ok_law {P : Program} {w : World} {K : PySem.W.Frag} {mg : Str → Option Value} {base : Heap} {ec : Nat → Addr} (T : Tx K mg ec) {f : Addr} {fd : FuncData} (F : Fun K "law" "law" s_law f fd) (hm : mg "law" = some (.ref f)) (hb : Binds K fd ["_law_script"] []) (d__law_number : Fd P w K mg base (W0 ec) 1 "_law_number" sp__law_number) (d__law_sides : Fd P w K mg base (WL K ec) 4 "_law_sides" sp__law_sides) (d_points_between : Fd P w K mg base (W0 ec) 7 "points_between" sp_points_between) (d__law_great : Fd P w K mg base (W0 ec) 2 "_law_great" sp__law_great) (d__law_lines : Fd P w K mg base (W0 ec) 1 "_law_lines" sp__law_lines) (d__law_whole : Fd P w K mg base (W0 ec) 1 "_law_whole" sp__law_whole) (d__law_points : Fd P w K mg base (W0 ec) 3 "_law_points" sp__law_points) (d__law_alike : Fd P w K mg base (W0 ec) 1 "_law_alike" sp__law_alike) :
    FnOk P w K mg base (L2.CX P w) 8 f fd ["_law_script"] (spz K (WL K ec) sp_law) := by
  have nd := sc_law.nd
  refine fnzOk F sc_law (by
    intro ds w' Q E h; obtain ⟨_, _, rfl, -⟩ := h; rfl) (fun cdv A outer s H E hr =>
  (zb_cons (z_set 1 (z_callP d__law_number hr (z_cons (z_var 0) (z_cons z_int z_nil))) nd)
  (zb_cons (z_set 2 (z_op o_add l_add z_int (z_callP d__law_great hr (z_cons (z_var 0) (z_cons z_int (z_cons z_int z_nil))))) nd)
  (zb_cons (z_set 3 (z_op o_mul l_mul (z_callP d__law_great hr (z_cons (z_var 0) (z_cons z_int (z_cons z_int z_nil)))) (z_ix ix_seq l_ix (z_fz (z_lst (z_cons z_int (z_cons (z_un un_neg l_neg z_int) z_nil)))) (z_op op_mod l_mod (z_var 1) z_int))) nd)
  (zb_cons (z_set 4 (z_op o_mul l_mul (z_callP d__law_great hr (z_cons (z_var 0) (z_cons z_int (z_cons z_int z_nil)))) (z_ix ix_seq l_ix (z_fz (z_lst (z_cons z_int (z_cons (z_un un_neg l_neg z_int) z_nil)))) (z_op op_mod l_mod (z_op o_div l_div (z_var 1) z_int) z_int))) nd)
  (zb_cons (z_set 5 (z_call d__law_sides hr (z_cons (z_var 0) (z_cons z_int (z_cons (z_op o_add l_add z_int (z_op op_mod l_mod (z_op o_div l_div (z_var 1) z_int) z_int)) (z_cons (z_var 2) z_nil))))) nd)
  (zb_cons (z_set 6 (z_fz (z_rev (z_call d__law_sides hr (z_cons (z_var 0) (z_cons z_int (z_cons (z_op o_add l_add z_int (z_op op_mod l_mod (z_op o_div l_div (z_var 1) z_int) z_int)) (z_cons (z_var 2) z_nil))))))) nd)
  (zb_cons (z_set 7 (z_op op_sub l_sub (z_sum T.sum_ (z_cons (z_fz (z_lcL (own := [("_law_wide", 16), ("_law_high", 15)]) (hw := wiped_tup (by decide)) (ok := by show blkC ["_law_script", "_law_number_here", "_law_width", "_law_place", "_law_height", "_law_upper", "_law_lower", "_law_end", "_law_gap", "_law_above", "_law_beneath", "_law_found", "_law_last", "_law_far", "_law_low", "_law_high", "_law_wide"] (defScope s_law) _ _ = true; decide +kernel) (z_var 5) (c_ok (gzt := (gg_tup [16, 15])) (fun _ _ _ _ _ => (g_tup (gs_cons 16 nd (gs_cons 15 nd gs_nil))).pg) (fun _ _ _ _ _ => (z_var 15))) nd)) z_nil)) (z_sum T.sum_ (z_cons (z_fz (z_lcL (own := [("_law_wide", 16), ("_law_high", 15)]) (hw := wiped_tup (by decide)) (ok := by show blkC ["_law_script", "_law_number_here", "_law_width", "_law_place", "_law_height", "_law_upper", "_law_lower", "_law_end", "_law_gap", "_law_above", "_law_beneath", "_law_found", "_law_last", "_law_far", "_law_low", "_law_high", "_law_wide"] (defScope s_law) _ _ = true; decide +kernel) (z_var 6) (c_ok (gzt := (gg_tup [16, 15])) (fun _ _ _ _ _ => (g_tup (gs_cons 16 nd (gs_cons 15 nd gs_nil))).pg) (fun _ _ _ _ _ => (z_var 15))) nd)) z_nil))) nd)
  (zb_cons (z_set 8 (z_op o_add l_add (z_max T.max_ (z_cons z_int (z_cons (z_op op_sub l_sub z_int (z_var 7)) z_nil))) (z_ix ix_seq l_ix (z_fz (z_lst (z_cons z_int (z_cons z_int (z_cons (z_callP d__law_great hr (z_cons (z_var 0) (z_cons z_int (z_cons z_int z_nil)))) z_nil))))) (z_op op_mod l_mod (z_op o_div l_div (z_var 1) z_int) z_int))) nd)
  (zb_cons (z_set 9 (z_ix ix_seq l_ix (z_callP d__law_lines hr (z_cons (z_var 5) (z_cons (z_var 3) (z_cons (z_op o_add l_add (z_var 4) (z_var 8)) (z_cons (z_op o_add l_add z_int (z_op op_mod l_mod (z_op o_div l_div (z_var 1) z_int) z_int)) z_nil))))) z_int) nd)
  (zb_cons (z_set 10 (z_ix ix_seq l_ix (z_callP d__law_lines hr (z_cons (z_var 6) (z_cons (z_var 3) (z_cons (z_var 4) (z_cons (z_op o_add l_add z_int (z_op op_mod l_mod (z_op o_div l_div (z_var 1) z_int) z_int)) z_nil))))) z_int) nd)
  (zb_cons (z_set 11 (z_callP d_points_between hr (z_cons (z_var 9) (z_cons (z_revTu (z_var 10)) (z_cons (z_var 3) (z_cons (z_op o_add l_add (z_op o_add l_add (z_var 3) (z_var 2)) z_int) z_nil))))) nd)
  (zb_cons (z_if (z_pw (z_or (z_not (z_tval (z_callP d__law_whole hr (z_cons (z_var 11) z_nil)))) (z_or1 (z_tcmp (o_ne hr) l_ne (z_var 11) (z_callP d__law_points hr (z_cons (z_var 5) (z_cons (z_var 6) (z_cons (z_var 8) z_nil))))))))
  (zb_one (z_ret z_bl))
  zb_nil)
  (zb_cons (z_set 12 (z_op o_add l_add (z_op o_add l_add (z_var 8) (z_var 7)) z_int) nd)
  (zb_cons (z_if (z_tcmp (o_ne hr) l_ne (z_callP d_points_between hr (z_cons (z_revTu (z_var 9)) (z_cons (z_var 10) (z_cons (z_var 3) (z_cons (z_op o_add l_add (z_var 3) (z_var 2)) z_nil))))) (z_op op_sub l_sub (z_var 11) (z_var 12)))
  (zb_one (z_ret z_bl))
  zb_nil)
  (zb_cons (z_set 13 (z_fz (z_lst (z_cons (z_callP d__law_great hr (z_cons (z_var 0) (z_cons z_int (z_cons z_int z_nil)))) (z_cons (z_callP d__law_great hr (z_cons (z_var 0) (z_cons z_int (z_cons z_int z_nil)))) z_nil)))) nd)
  (zb_cons (z_set 14 (z_op op_sub l_sub (z_var 3) (z_op o_mul l_mul (z_ix ix_seq l_ix (z_var 13) z_int) (z_intC T.int_ (z_cons (z_andV (z_cmp (o_eq hr) l_eq (z_var 8) z_int) (z_one (z_notV (z_callP d__law_alike hr (z_cons (z_ix ix_seq l_ix (z_var 5) z_int) (z_cons (z_ix ix_seq l_ix (z_var 6) z_int) z_nil)))))) z_nil)))) nd)
  (zb_cons (z_set 15 (z_op o_add l_add (z_op o_add l_add (z_op o_add l_add (z_var 3) (z_var 2)) z_int) (z_op o_mul l_mul (z_ix ix_seq l_ix (z_var 13) z_int) (z_intC T.int_ (z_cons (z_andV (z_cmp (o_eq hr) l_eq (z_var 12) z_int) (z_one (z_notV (z_callP d__law_alike hr (z_cons (z_ix ix_seq l_ix (z_var 5) (z_un un_neg l_neg z_int)) (z_cons (z_ix ix_seq l_ix (z_var 6) (z_un un_neg l_neg z_int)) z_nil)))))) z_nil)))) nd)
  (zb_one (z_ret (z_cmp (o_eq hr) l_eq (z_callP d_points_between hr (z_cons (z_var 9) (z_cons (z_var 10) (z_cons (z_var 14) (z_cons (z_var 15) z_nil))))) (z_var 11)))))))))))))))))))))) ?_
  intro ds w Q E h
  obtain ⟨rfl, ns, rfl, hlen, hbits, h⟩ := h
  clear nd d__law_number d__law_sides d_points_between d__law_great d__law_lines d__law_whole d__law_points d__law_alike hb hm F T fd f ec base mg K
  have up24 : ∀ {r : Int}, 0 ≤ r → r < 10 ^ 24 → Sm 80 r := fun h0 h1 => by
    have e : (10 : Int) ^ 24 < 2 ^ 80 := by decide
    unfold Sm; omega
  kby_none
  rename_i nh nh0 nh1
  refine Stp.mk fun gw gw0 gw1 sgw => ?_
  replace gw1 : gw < 10 ^ 24 := gw1
  kby_none
  refine Stp.mk fun gp gp0 gp1 sgp => ?_
  have sgp8 : Sm 80 gp := up24 gp0 gp1
  obtain ⟨s1, hs1, ps1, -⟩ := Z.sgn_at nh
  have sx : Sm 80 (gp * s1) := Sm.sgn sgp8 ps1
  kby_none
  refine Stp.mk fun gh gh0 gh1 sgh => ?_
  have sgh8 : Sm 80 gh := up24 gh0 gh1
  obtain ⟨s2, hs2, ps2, -⟩ := Z.sgn_at (nh / 2)
  have sy : Sm 80 (gh * s2) := Sm.sgn sgh8 ps2
  generalize gp * s1 = x at *
  kby_none
  generalize gh * s2 = y at *
  refine Stp.mk fun U w1 hU1 hU4 hUs hUw hUo => ?_
  kby_none
  refine Stp.mk fun V0 w2 hV1 hV4 hVs hVw hVo => ?_
  kby_none
  have hVn := rev_sds hVs
  rw [← wd_rev V0] at hVw
  rw [← List.length_reverse] at hV1 hV4
  replace hVo : ∀ s ∈ V0.reverse, SdOk s := fun s hs => hVo s (List.mem_reverse.mp hs)
  clear hVs
  rw [← List.map_reverse]
  generalize V0.reverse = V at *
  have lU4 : U.length ≤ 4 := by omega
  have lV4 : V.length ≤ 4 := by omega
  obtain ⟨wU, hU⟩ := sds_sm hUo lU4
  obtain ⟨wV, hV⟩ := sds_sm hVo lV4
  refine ⟨fun i acc w' => w2 = w' ∧ acc = ((U.take i).map fun s => s.2).map D.int, ⟨rfl, rfl⟩, fun i d acc w' hd hI => ?_, fun acc w' hI => ?_⟩
  · obtain ⟨rfl, rfl⟩ := hI
    obtain ⟨⟨s1, s2⟩, hs, sm, rfl⟩ := SdD_at hd
    kby_none
    exact hts_snoc hs
  obtain ⟨rfl, rfl⟩ := hI
  rw [List.length_map, List.take_length]
  kby_none
  rw [ht_sum]
  refine ⟨fun i acc w' => w2 = w' ∧ acc = ((V.take i).map fun s => s.2).map D.int, ⟨rfl, rfl⟩, fun i d acc w' hd hI => ?_, fun acc w' hI => ?_⟩
  · obtain ⟨rfl, rfl⟩ := hI
    obtain ⟨⟨s1, s2⟩, hs, sm, rfl⟩ := SdD_at hd
    kby_none
    exact hts_snoc hs
  obtain ⟨rfl, rfl⟩ := hI
  rw [List.length_map, List.take_length]
  kby_none
  rw [ht_sum]
  kby_none
  refine Stp.mk fun gg gg0 gg1 sgg => ?_
  replace gg1 : gg < 10 ^ 18 := gg1
  obtain ⟨z, hz, hz2⟩ := at3 0 gg (nh / 64)
  have z0 : 0 ≤ z ∧ z ≤ gg := by omega
  kby_none
  have gp0 : 0 ≤ max 0 (0 - (ht U - ht V)) + z := by omega
  have gp1 : 0 ≤ max 0 (0 - (ht U - ht V)) + z + ht U - ht V := by omega
  have sgap : Sm 96 (max 0 (0 - (ht U - ht V)) + z) := by
    unfold Sm at hU hV ⊢
    omega
  generalize max 0 (0 - (ht U - ht V)) + z = gap at *
  have C : Crn U V (1 + gw) gap := ⟨hUs, hVn, (fun e => by rw [e] at hU1; exact absurd hU1 (by decide)), (fun e => by rw [e] at hV1; exact absurd hV1 (by decide)), hUw, hVw, gp0, gp1⟩
  have f1b : 1 ≤ 1 + nh / 256 % 9 ∧ 1 + nh / 256 % 9 ≤ 9 := by omega
  have f2b : 1 ≤ 1 + nh / 2560 % 9 ∧ 1 + nh / 2560 % 9 ≤ 9 := by omega
  kby_none
  generalize 1 + nh / 256 % 9 = f at *
  generalize 1 + nh / 2560 % 9 = f2 at *
  have sxh : Sm 100 x := sx.le (by decide)
  have syh : Sm 100 y := sy.le (by decide)
  have sygh : Sm 100 (y + gap) := (sy.add sgap).le (by decide)
  have okA : LsOk (lnsK f U x (y + gap)) := lnsK_ok hUo hU1 lU4 f1b.1 f1b.2 sxh sygh
  have okB : LsOk (lnsK f2 V x y) := lnsK_ok hVo hV1 lV4 f2b.1 f2b.2 sxh syh
  have l8 : (lnsK f U x (y + gap)).length + (lnsK f2 V x y).length ≤ 8 := by rw [lnsK_len, lnsK_len]; omega
  have fp : 0 < f := by omega
  have gp : 0 < f2 := by omega
  obtain ⟨cw1, cw2⟩ := C.whole (f := f) (g := f2) (x := x) (y := y) fp gp
  have swd : Sm 300 (x + (1 + gw) + 1) := by
    have := up24 gw0 gw1
    exact Sm.le ((sx.add ((Sm.num 1).add this)).add (Sm.num 1)) (by decide)
  have swd2 : Sm 300 (x + (1 + gw)) := by
    have := up24 gw0 gw1
    exact Sm.le (sx.add ((Sm.num 1).add this)) (by decide)
  have sx3 : Sm 300 x := sx.le (by decide)
  have e1 : pts (lnsK f U x (y + gap)) (lnsK f2 V x y).reverse x (x + (1 + gw) + 1 - x).toNat = (twK U gap - twK V 0 + rimK U + rimK V + gap + (gap + ht U - ht V)) / 2 + 1 := by
    rw [pts_rev2 okA okB, ← cw1]; congr 2 <;> omega
  have e2 : pts (lnsK f U x (y + gap)).reverse (lnsK f2 V x y) x (x + (1 + gw) - x).toNat = (twK U gap - twK V 0 + rimK U + rimK V + gap + (gap + ht U - ht V)) / 2 + 1 - (gap + (ht U - ht V) + 1) := by
    rw [pts_rev1 okA okB, ← cw1, ← cw2]; congr 2 <;> omega
  obtain ⟨sU, U1, eU⟩ := cons_of hU1
  obtain ⟨sV, V1, eV⟩ := cons_of hV1
  obtain ⟨U2, tU, eU2, lU2⟩ := last_of hU1
  obtain ⟨V2, tV, eV2, lV2⟩ := last_of hV1
  have aU0 : atI (U.map SdD) 0 = some (SdD sU) := by rw [eU]; exact sd_ix (i := 0) rfl rfl
  have aV0 : atI (V.map SdD) 0 = some (SdD sV) := by rw [eV]; exact sd_ix (i := 0) rfl rfl
  have aUl := sd_last lU2
  have aVl := sd_last lV2
  have oU0 := hUo sU (by rw [eU]; exact List.mem_cons_self)
  have oV0 := hVo sV (by rw [eV]; exact List.mem_cons_self)
  have oUl := hUo tU (by rw [eU2]; simp)
  have oVl := hVo tV (by rw [eV2]; simp)
  conv => whnf
  refine ⟨lnsK f U x (y + gap), (lnsK f2 V x y).reverse, x, x + (1 + gw) + 1, by rw [← ltp_rev] <;> rfl, ⟨okA, okB.rev, by rw [List.length_reverse]; exact l8, by omega, sx3, swd⟩, ?_⟩
  rw [e1]
  kby_none
  conv => whnf
  refine ⟨(lnsK f U x (y + gap)).reverse, lnsK f2 V x y, x, x + (1 + gw), by rw [← ltp_rev] <;> rfl, ⟨okA.rev, okB, by rw [List.length_reverse]; exact l8, by omega, sx3, swd2⟩, ?_⟩
  rw [e2]
  kby_none
  refine Stp.mk fun g1 g10 g11 sg1 => ?_
  kby_none
  refine Stp.mk fun g2 g20 g21 sg2 => ?_
  have n0 : Sm 300 (x - g1 * 0) := by rw [Int.mul_zero, Int.sub_zero]; exact sx3
  have n1 : Sm 300 (x - g1 * 1) := by rw [Int.mul_one]; exact (sx.sub (sg1.le (show 240 ≤ 250 by decide))).le (by decide)
  have n2 : Sm 300 (x + (1 + gw) + 1 + g2 * 0) := by rw [Int.mul_zero, Int.add_zero]; exact swd
  have n3 : Sm 300 (x + (1 + gw) + 1 + g2 * 1) := by
    have := up24 gw0 gw1
    rw [Int.mul_one]
    exact Sm.le (((sx.add ((Sm.num 1).add this)).add (Sm.num 1)).add sg2) (by decide)
  have fin : ∀ c d : Int, (c = 0 ∨ (c = 1 ∧ gap = 0 ∧ ¬ sU.2 * sV.1 = sV.2 * sU.1)) → (d = 0 ∨ (d = 1 ∧ gap + (ht U - ht V) + 1 = 1 ∧ ¬ tU.2 * tV.1 = tV.2 * tU.1)) → pts (lnsK f U x (y + gap)) (lnsK f2 V x y) (x - g1 * c) (x + (1 + gw) + 1 + g2 * d - (x - g1 * c)).toNat = (twK U gap - twK V 0 + rimK U + rimK V + gap + (gap + ht U - ht V)) / 2 + 1 := fun c d hc hd => by
    have c0 : 0 ≤ g1 * c := Int.mul_nonneg g10 (by omega)
    have d0 : 0 ≤ g2 * d := Int.mul_nonneg g20 (by omega)
    rw [pts_wide (x := x) (e := x + (1 + gw) + 1) (by omega) (by omega) (by omega) (fun X X0 X1 => ?_) (fun X X0 X1 => ?_)]
    · rw [← cw1]; congr 2 <;> omega
    · rcases hc with rfl | ⟨rfl, hg, hne⟩
      · exfalso; rw [Int.mul_zero] at X0; omega
      · have C' := C
        rw [eU, eV] at C' ⊢
        exact C'.before fp gp hg hne X1
    · rcases hd with rfl | ⟨rfl, hg, hne⟩
      · exfalso; rw [Int.mul_zero] at X1; omega
      · have C' := C
        rw [eU2, eV2] at C' hg ⊢
        exact C'.behind fp gp (by omega) hne (by omega)
  kby_none
  all_goals exact bl_eq (h _) (fin _ _ (by first | exact .inl rfl | exact .inr ⟨rfl, by assumption, by assumption⟩) (by first | exact .inl rfl | exact .inr ⟨rfl, by assumption, by assumption⟩))
theorem all_mk {l : PySem.W.OpenLaw} {w : World} {K : PySem.W.Frag} {h : Heap} {mg : Str → Option Value} {fa : Addr} (X : K.In h) (G : h.Ns mainGlobals mg) (hfa : mg "law" = some (.ref fa))
    {f0 f1 f2 f3 f4 f5 f6 f7 f8 f9 f10 f11 f12 f13 f14 f15 f16 f17 f18 f19 f20 f21 f22 f23 : Addr} {od0 an0 od1 an1 od2 an2 od3 an3 od4 an4 od5 an5 od6 an6 od7 an7 od8 an8 od9 an9 od10 an10 od11 an11 od12 an12 od13 an13 od14 an14 od15 an15 od16 an16 od17 an17 od18 an18 od19 an19 od20 an20 od21 an21 od22 an22 od23 an23 : Option Addr} {sl0 sl1 sl2 sl3 sl4 sl5 sl6 sl7 sl8 sl9 sl10 sl11 sl12 sl13 sl14 sl15 sl16 sl17 sl18 sl19 sl20 sl21 sl22 sl23 : Array (Option Value)} {oc0 kV0 dc0 pm0 cd0 ct0 oc1 kV1 dc1 pm1 cd1 ct1 oc2 kV2 dc2 pm2 cd2 ct2 oc3 kV3 dc3 pm3 cd3 ct3 oc4 kV4 dc4 pm4 cd4 ct4 oc5 kV5 dc5 pm5 cd5 ct5 oc6 kV6 dc6 pm6 cd6 ct6 oc7 kV7 dc7 pm7 cd7 ct7 oc8 kV8 dc8 pm8 cd8 ct8 oc9 kV9 dc9 pm9 cd9 ct9 oc10 kV10 dc10 pm10 cd10 ct10 oc11 kV11 dc11 pm11 cd11 ct11 oc12 kV12 dc12 pm12 cd12 ct12 oc13 kV13 dc13 pm13 cd13 ct13 oc14 kV14 dc14 pm14 cd14 ct14 oc15 kV15 dc15 pm15 cd15 ct15 oc16 kV16 dc16 pm16 cd16 ct16 oc17 kV17 dc17 pm17 cd17 ct17 oc18 kV18 dc18 pm18 cd18 ct18 oc19 kV19 dc19 pm19 cd19 ct19 oc20 kV20 dc20 pm20 cd20 ct20 oc21 kV21 dc21 pm21 cd21 ct21 oc22 kV22 dc22 pm22 cd22 ct22 oc23 kV23 dc23 pm23 cd23 ct23 : Value}
    {C0 C1 C3 : Addr}
    (a0 : PySem.W.nsIn K mainGlobals "need_line" = some (some (.ref f0))) (l0 : K.lookup f0 = some ⟨oc0, od0, .func (PySem.W.fnOf "need_line" "need_line" (defArgs s_need_line) (defBody s_need_line) (defScope s_need_line) .none kV0 dc0 pm0 an0 cd0 ct0), sl0⟩) (c0 : PySem.W.codeIn K cd0 "need_line" = true) (k0 : PySem.W.keepIn K (.ref f0) = true)
    (a1 : PySem.W.nsIn K mainGlobals "height_at" = some (some (.ref f1))) (l1 : K.lookup f1 = some ⟨oc1, od1, .func (PySem.W.fnOf "height_at" "height_at" (defArgs s_height_at) (defBody s_height_at) (defScope s_height_at) .none kV1 dc1 pm1 an1 cd1 ct1), sl1⟩) (c1 : PySem.W.codeIn K cd1 "height_at" = true) (k1 : PySem.W.keepIn K (.ref f1) = true)
    (a2 : PySem.W.nsIn K mainGlobals "part_at" = some (some (.ref f2))) (l2 : K.lookup f2 = some ⟨oc2, od2, .func (PySem.W.fnOf "part_at" "part_at" (defArgs s_part_at) (defBody s_part_at) (defScope s_part_at) .none kV2 dc2 pm2 an2 cd2 ct2), sl2⟩) (c2 : PySem.W.codeIn K cd2 "part_at" = true) (k2 : PySem.W.keepIn K (.ref f2) = true)
    (a3 : PySem.W.nsIn K mainGlobals "rest_at" = some (some (.ref f3))) (l3 : K.lookup f3 = some ⟨oc3, od3, .func (PySem.W.fnOf "rest_at" "rest_at" (defArgs s_rest_at) (defBody s_rest_at) (defScope s_rest_at) .none kV3 dc3 pm3 an3 cd3 ct3), sl3⟩) (c3 : PySem.W.codeIn K cd3 "rest_at" = true) (k3 : PySem.W.keepIn K (.ref f3) = true)
    (a4 : PySem.W.nsIn K mainGlobals "laid_off" = some (some (.ref f4))) (l4 : K.lookup f4 = some ⟨oc4, od4, .func (PySem.W.fnOf "laid_off" "laid_off" (defArgs s_laid_off) (defBody s_laid_off) (defScope s_laid_off) .none kV4 dc4 pm4 an4 cd4 ct4), sl4⟩) (c4 : PySem.W.codeIn K cd4 "laid_off" = true) (k4 : PySem.W.keepIn K (.ref f4) = true)
    (a5 : PySem.W.nsIn K mainGlobals "turned" = some (some (.ref f5))) (l5 : K.lookup f5 = some ⟨oc5, od5, .func (PySem.W.fnOf "turned" "turned" (defArgs s_turned) (defBody s_turned) (defScope s_turned) .none kV5 dc5 pm5 an5 cd5 ct5), sl5⟩) (c5 : PySem.W.codeIn K cd5 "turned" = true) (k5 : PySem.W.keepIn K (.ref f5) = true)
    (a6 : PySem.W.nsIn K mainGlobals "sum_parts" = some (some (.ref f6))) (l6 : K.lookup f6 = some ⟨oc6, od6, .func (PySem.W.fnOf "sum_parts" "sum_parts" (defArgs s_sum_parts) (defBody s_sum_parts) (defScope s_sum_parts) .none kV6 dc6 pm6 an6 cd6 ct6), sl6⟩) (c6 : PySem.W.codeIn K cd6 "sum_parts" = true) (k6 : PySem.W.keepIn K (.ref f6) = true)
    (a7 : PySem.W.nsIn K mainGlobals "sum_between" = some (some (.ref f7))) (l7 : K.lookup f7 = some ⟨oc7, od7, .func (PySem.W.fnOf "sum_between" "sum_between" (defArgs s_sum_between) (defBody s_sum_between) (defScope s_sum_between) .none kV7 dc7 pm7 an7 cd7 ct7), sl7⟩) (c7 : PySem.W.codeIn K cd7 "sum_between" = true) (k7 : PySem.W.keepIn K (.ref f7) = true)
    (a8 : PySem.W.nsIn K mainGlobals "need_all" = some (some (.ref f8))) (l8 : K.lookup f8 = some ⟨oc8, od8, .func (PySem.W.fnOf "need_all" "need_all" (defArgs s_need_all) (defBody s_need_all) (defScope s_need_all) .none kV8 dc8 pm8 an8 cd8 ct8), sl8⟩) (c8 : PySem.W.codeIn K cd8 "need_all" = true) (k8 : PySem.W.keepIn K (.ref f8) = true)
    (a9 : PySem.W.nsIn K mainGlobals "turned_down" = some (some (.ref f9))) (l9 : K.lookup f9 = some ⟨oc9, od9, .func (PySem.W.fnOf "turned_down" "turned_down" (defArgs s_turned_down) (defBody s_turned_down) (defScope s_turned_down) .none kV9 dc9 pm9 an9 cd9 ct9), sl9⟩) (c9 : PySem.W.codeIn K cd9 "turned_down" = true) (k9 : PySem.W.keepIn K (.ref f9) = true)
    (a10 : PySem.W.nsIn K mainGlobals "lowest_at" = some (some (.ref f10))) (l10 : K.lookup f10 = some ⟨oc10, od10, .func (PySem.W.fnOf "lowest_at" "lowest_at" (defArgs s_lowest_at) (defBody s_lowest_at) (defScope s_lowest_at) .none kV10 dc10 pm10 an10 cd10 ct10), sl10⟩) (c10 : PySem.W.codeIn K cd10 "lowest_at" = true) (k10 : PySem.W.keepIn K (.ref f10) = true)
    (a11 : PySem.W.nsIn K mainGlobals "cuts_of" = some (some (.ref f11))) (l11 : K.lookup f11 = some ⟨oc11, od11, .func (PySem.W.fnOf "cuts_of" "cuts_of" (defArgs s_cuts_of) (defBody s_cuts_of) (defScope s_cuts_of) .none kV11 dc11 pm11 an11 cd11 ct11), sl11⟩) (c11 : PySem.W.codeIn K cd11 "cuts_of" = true) (k11 : PySem.W.keepIn K (.ref f11) = true)
    (a12 : PySem.W.nsIn K mainGlobals "points_between" = some (some (.ref f12))) (l12 : K.lookup f12 = some ⟨oc12, od12, .func (PySem.W.fnOf "points_between" "points_between" (defArgs s_points_between) (defBody s_points_between) (defScope s_points_between) .none kV12 dc12 pm12 an12 cd12 ct12), sl12⟩) (c12 : PySem.W.codeIn K cd12 "points_between" = true) (k12 : PySem.W.keepIn K (.ref f12) = true)
    (a13 : PySem.W.nsIn K mainGlobals "_law_number" = some (some (.ref f13))) (l13 : K.lookup f13 = some ⟨oc13, od13, .func (PySem.W.fnOf "_law_number" "_law_number" (defArgs s__law_number) (defBody s__law_number) (defScope s__law_number) .none kV13 dc13 pm13 an13 cd13 ct13), sl13⟩) (c13 : PySem.W.codeIn K cd13 "_law_number" = true) (k13 : PySem.W.keepIn K (.ref f13) = true)
    (a14 : PySem.W.nsIn K mainGlobals "_law_great" = some (some (.ref f14))) (l14 : K.lookup f14 = some ⟨oc14, od14, .func (PySem.W.fnOf "_law_great" "_law_great" (defArgs s__law_great) (defBody s__law_great) (defScope s__law_great) .none kV14 dc14 pm14 an14 cd14 ct14), sl14⟩) (c14 : PySem.W.codeIn K cd14 "_law_great" = true) (k14 : PySem.W.keepIn K (.ref f14) = true)
    (a15 : PySem.W.nsIn K mainGlobals "_law_whole" = some (some (.ref f15))) (l15 : K.lookup f15 = some ⟨oc15, od15, .func (PySem.W.fnOf "_law_whole" "_law_whole" (defArgs s__law_whole) (defBody s__law_whole) (defScope s__law_whole) .none kV15 dc15 pm15 an15 cd15 ct15), sl15⟩) (c15 : PySem.W.codeIn K cd15 "_law_whole" = true) (k15 : PySem.W.keepIn K (.ref f15) = true)
    (a16 : PySem.W.nsIn K mainGlobals "_law_measure" = some (some (.ref f16))) (l16 : K.lookup f16 = some ⟨oc16, od16, .func (PySem.W.fnOf "_law_measure" "_law_measure" (defArgs s__law_measure) (defBody s__law_measure) (defScope s__law_measure) .none kV16 dc16 pm16 an16 cd16 ct16), sl16⟩) (c16 : PySem.W.codeIn K cd16 "_law_measure" = true) (k16 : PySem.W.keepIn K (.ref f16) = true)
    (a17 : PySem.W.nsIn K mainGlobals "_law_widths" = some (some (.ref f17))) (l17 : K.lookup f17 = some ⟨oc17, od17, .func (PySem.W.fnOf "_law_widths" "_law_widths" (defArgs s__law_widths) (defBody s__law_widths) (defScope s__law_widths) .none kV17 dc17 pm17 an17 cd17 ct17), sl17⟩) (c17 : PySem.W.codeIn K cd17 "_law_widths" = true) (k17 : PySem.W.keepIn K (.ref f17) = true)
    (a18 : PySem.W.nsIn K mainGlobals "_law_sides" = some (some (.ref f18))) (l18 : K.lookup f18 = some ⟨oc18, od18, .func (PySem.W.fnOf "_law_sides" "_law_sides" (defArgs s__law_sides) (defBody s__law_sides) (defScope s__law_sides) .none kV18 dc18 pm18 an18 cd18 ct18), sl18⟩) (c18 : PySem.W.codeIn K cd18 "_law_sides" = true) (k18 : PySem.W.keepIn K (.ref f18) = true)
    (a19 : PySem.W.nsIn K mainGlobals "_law_lines" = some (some (.ref f19))) (l19 : K.lookup f19 = some ⟨oc19, od19, .func (PySem.W.fnOf "_law_lines" "_law_lines" (defArgs s__law_lines) (defBody s__law_lines) (defScope s__law_lines) .none kV19 dc19 pm19 an19 cd19 ct19), sl19⟩) (c19 : PySem.W.codeIn K cd19 "_law_lines" = true) (k19 : PySem.W.keepIn K (.ref f19) = true)
    (a20 : PySem.W.nsIn K mainGlobals "_law_rim" = some (some (.ref f20))) (l20 : K.lookup f20 = some ⟨oc20, od20, .func (PySem.W.fnOf "_law_rim" "_law_rim" (defArgs s__law_rim) (defBody s__law_rim) (defScope s__law_rim) .none kV20 dc20 pm20 an20 cd20 ct20), sl20⟩) (c20 : PySem.W.codeIn K cd20 "_law_rim" = true) (k20 : PySem.W.keepIn K (.ref f20) = true)
    (a21 : PySem.W.nsIn K mainGlobals "_law_points" = some (some (.ref f21))) (l21 : K.lookup f21 = some ⟨oc21, od21, .func (PySem.W.fnOf "_law_points" "_law_points" (defArgs s__law_points) (defBody s__law_points) (defScope s__law_points) .none kV21 dc21 pm21 an21 cd21 ct21), sl21⟩) (c21 : PySem.W.codeIn K cd21 "_law_points" = true) (k21 : PySem.W.keepIn K (.ref f21) = true)
    (a22 : PySem.W.nsIn K mainGlobals "_law_alike" = some (some (.ref f22))) (l22 : K.lookup f22 = some ⟨oc22, od22, .func (PySem.W.fnOf "_law_alike" "_law_alike" (defArgs s__law_alike) (defBody s__law_alike) (defScope s__law_alike) .none kV22 dc22 pm22 an22 cd22 ct22), sl22⟩) (c22 : PySem.W.codeIn K cd22 "_law_alike" = true) (k22 : PySem.W.keepIn K (.ref f22) = true)
    (a23 : PySem.W.nsIn K mainGlobals "law" = some (some (.ref f23))) (l23 : K.lookup f23 = some ⟨oc23, od23, .func (PySem.W.fnOf "law" "law" (defArgs s_law) (defBody s_law) (defScope s_law) .none kV23 dc23 pm23 an23 cd23 ct23), sl23⟩) (c23 : PySem.W.codeIn K cd23 "law" = true) (k23 : PySem.W.keepIn K (.ref f23) = true)
    (aE0 : PySem.W.nsIn K mainGlobals "NoLine" = some (some (.ref C0))) (xE0 : PySem.W.excIn K C0 [.type "ValueError", .type "Exception", .type "BaseException", .type "object"] "ValueError.__new__" = true) (kE0 : PySem.W.keepIn K (.ref C0) = true) (bE0 : PySem.W.subIn K (.ref C0) (.type "BaseException") = some true) (tE0 : PySem.W.typeIn K (.ref C0) = some (.type "type"))
    (aE1 : PySem.W.nsIn K mainGlobals "NoTurn" = some (some (.ref C1))) (xE1 : PySem.W.excIn K C1 [.type "ValueError", .type "Exception", .type "BaseException", .type "object"] "ValueError.__new__" = true) (kE1 : PySem.W.keepIn K (.ref C1) = true) (bE1 : PySem.W.subIn K (.ref C1) (.type "BaseException") = some true) (tE1 : PySem.W.typeIn K (.ref C1) = some (.type "type"))
    (aE3 : PySem.W.nsIn K mainGlobals "NoStretch" = some (some (.ref C3))) (xE3 : PySem.W.excIn K C3 [.type "ValueError", .type "Exception", .type "BaseException", .type "object"] "ValueError.__new__" = true) (kE3 : PySem.W.keepIn K (.ref C3) = true) (bE3 : PySem.W.subIn K (.ref C3) (.type "BaseException") = some true) (tE3 : PySem.W.typeIn K (.ref C3) = some (.type "type"))
    (z_abs : PySem.W.nsIn K mainGlobals "abs" = some none)
    (z_bool : PySem.W.nsIn K mainGlobals "bool" = some none)
    (z_enumerate : PySem.W.nsIn K mainGlobals "enumerate" = some none)
    (z_int : PySem.W.nsIn K mainGlobals "int" = some none)
    (z_isinstance : PySem.W.nsIn K mainGlobals "isinstance" = some none)
    (z_len : PySem.W.nsIn K mainGlobals "len" = some none)
    (z_list : PySem.W.nsIn K mainGlobals "list" = some none)
    (z_max : PySem.W.nsIn K mainGlobals "max" = some none)
    (z_min : PySem.W.nsIn K mainGlobals "min" = some none)
    (z_range : PySem.W.nsIn K mainGlobals "range" = some none)
    (z_set : PySem.W.nsIn K mainGlobals "set" = some none)
    (z_sorted : PySem.W.nsIn K mainGlobals "sorted" = some none)
    (z_sum : PySem.W.nsIn K mainGlobals "sum" = some none)
    (z_tuple : PySem.W.nsIn K mainGlobals "tuple" = some none)
    (z_zip : PySem.W.nsIn K mainGlobals "zip" = some none)
    : ∃ fd : FuncData, (∀ (s : Shared) (v : Value), BindsTo s fd ⟨[v], []⟩ [("_law_script", v)]) ∧ ∀ base : Heap, K.In base → base.Ns mainGlobals mg → FnOk l.prog w K mg base (L2.CX l.prog w) 8 fa fd ["_law_script"] (spLawV K) := by
  have e := hfa.symm.trans (PySem.W.mg_of X G a23)
  cases e
  have T : Tx K mg (ecOf [(0, C0), (1, C1), (3, C3)]) := { abs_ := PySem.W.mg_none_of X G z_abs, bool_ := PySem.W.mg_none_of X G z_bool, enumerate_ := PySem.W.mg_none_of X G z_enumerate, int_ := PySem.W.mg_none_of X G z_int, isinstance_ := PySem.W.mg_none_of X G z_isinstance, len_ := PySem.W.mg_none_of X G z_len, list_ := PySem.W.mg_none_of X G z_list, max_ := PySem.W.mg_none_of X G z_max, min_ := PySem.W.mg_none_of X G z_min, range_ := PySem.W.mg_none_of X G z_range, set_ := PySem.W.mg_none_of X G z_set, sorted_ := PySem.W.mg_none_of X G z_sorted, sum_ := PySem.W.mg_none_of X G z_sum, tuple_ := PySem.W.mg_none_of X G z_tuple, zip_ := PySem.W.mg_none_of X G z_zip, e0 := ⟨xE0, PySem.W.mg_of X G aE0, kE0, bE0, tE0⟩, e1 := ⟨xE1, PySem.W.mg_of X G aE1, kE1, bE1, tE1⟩, e3 := ⟨xE3, PySem.W.mg_of X G aE3, kE3, bE3, tE3⟩ }
  have F0 := fun_mk (st := s_need_line) l0 c0 k0
  have b0 := F0.binds (ps := ["line"]) fun _ _ _ _ _ _ us hl => match us, hl with | [_], _ => rfl
  have F1 := fun_mk (st := s_height_at) l1 c1 k1
  have b1 := F1.binds (ps := ["line", "place"]) fun _ _ _ _ _ _ us hl => match us, hl with | [_, _], _ => rfl
  have F2 := fun_mk (st := s_part_at) l2 c2 k2
  have b2 := F2.binds (ps := ["line", "place"]) fun _ _ _ _ _ _ us hl => match us, hl with | [_, _], _ => rfl
  have F3 := fun_mk (st := s_rest_at) l3 c3 k3
  have b3 := F3.binds (ps := ["line", "place"]) fun _ _ _ _ _ _ us hl => match us, hl with | [_, _], _ => rfl
  have F4 := fun_mk (st := s_laid_off) l4 c4 k4
  have b4 := F4.binds (ps := ["line"]) fun _ _ _ _ _ _ us hl => match us, hl with | [_], _ => rfl
  have F5 := fun_mk (st := s_turned) l5 c5 k5
  have b5 := F5.binds (ps := ["line", "n"]) fun _ _ _ _ _ _ us hl => match us, hl with | [_, _], _ => rfl
  have F6 := fun_mk (st := s_sum_parts) l6 c6 k6
  have b6 := F6.binds (ps := ["line", "n"]) fun _ _ _ _ _ _ us hl => match us, hl with | [_, _], _ => rfl
  have F7 := fun_mk (st := s_sum_between) l7 c7 k7
  have b7 := F7.binds (ps := ["line", "low", "high"]) fun _ _ _ _ _ _ us hl => match us, hl with | [_, _, _], _ => rfl
  have F8 := fun_mk (st := s_need_all) l8 c8 k8
  have b8 := F8.binds (ps := ["above", "beneath", "low", "high"]) fun _ _ _ _ _ _ us hl => match us, hl with | [_, _, _, _], _ => rfl
  have F9 := fun_mk (st := s_turned_down) l9 c9 k9
  have b9 := F9.binds (ps := ["lines"]) fun _ _ _ _ _ _ us hl => match us, hl with | [_], _ => rfl
  have F10 := fun_mk (st := s_lowest_at) l10 c10 k10
  have b10 := F10.binds (ps := ["lines", "place"]) fun _ _ _ _ _ _ us hl => match us, hl with | [_, _], _ => rfl
  have F11 := fun_mk (st := s_cuts_of) l11 c11 k11
  have b11 := F11.binds (ps := ["lines", "low", "high"]) fun _ _ _ _ _ _ us hl => match us, hl with | [_, _, _], _ => rfl
  have F12 := fun_mk (st := s_points_between) l12 c12 k12
  have b12 := F12.binds (ps := ["above", "beneath", "low", "high"]) fun _ _ _ _ _ _ us hl => match us, hl with | [_, _, _, _], _ => rfl
  have F13 := fun_mk (st := s__law_number) l13 c13 k13
  have b13 := F13.binds (ps := ["_law_script", "_law_k"]) fun _ _ _ _ _ _ us hl => match us, hl with | [_, _], _ => rfl
  have F14 := fun_mk (st := s__law_great) l14 c14 k14
  have b14 := F14.binds (ps := ["_law_script", "_law_k", "_law_groups"]) fun _ _ _ _ _ _ us hl => match us, hl with | [_, _, _], _ => rfl
  have F15 := fun_mk (st := s__law_whole) l15 c15 k15
  have b15 := F15.binds (ps := ["_law_found"]) fun _ _ _ _ _ _ us hl => match us, hl with | [_], _ => rfl
  have F16 := fun_mk (st := s__law_measure) l16 c16 k16
  have b16 := F16.binds (ps := ["_law_one", "_law_other"]) fun _ _ _ _ _ _ us hl => match us, hl with | [_, _], _ => rfl
  have F17 := fun_mk (st := s__law_widths) l17 c17 k17
  have b17 := F17.binds (ps := ["_law_script", "_law_k", "_law_many", "_law_width"]) fun _ _ _ _ _ _ us hl => match us, hl with | [_, _, _, _], _ => rfl
  have F18 := fun_mk (st := s__law_sides) l18 c18 k18
  have b18 := F18.binds (ps := ["_law_script", "_law_k", "_law_many", "_law_width"]) fun _ _ _ _ _ _ us hl => match us, hl with | [_, _, _, _], _ => rfl
  have F19 := fun_mk (st := s__law_lines) l19 c19 k19
  have b19 := F19.binds (ps := ["_law_sides_here", "_law_place", "_law_height", "_law_factor"]) fun _ _ _ _ _ _ us hl => match us, hl with | [_, _, _, _], _ => rfl
  have F20 := fun_mk (st := s__law_rim) l20 c20 k20
  have b20 := F20.binds (ps := ["_law_sides_here"]) fun _ _ _ _ _ _ us hl => match us, hl with | [_], _ => rfl
  have F21 := fun_mk (st := s__law_points) l21 c21 k21
  have b21 := F21.binds (ps := ["_law_upper", "_law_lower", "_law_gap"]) fun _ _ _ _ _ _ us hl => match us, hl with | [_, _, _], _ => rfl
  have F22 := fun_mk (st := s__law_alike) l22 c22 k22
  have b22 := F22.binds (ps := ["_law_one", "_law_other"]) fun _ _ _ _ _ _ us hl => match us, hl with | [_, _], _ => rfl
  have F23 := fun_mk (st := s_law) l23 c23 k23
  have b23 := F23.binds (ps := ["_law_script"]) fun _ _ _ _ _ _ us hl => match us, hl with | [_], _ => rfl
  refine ⟨PySem.W.fnOf "law" "law" (defArgs s_law) (defBody s_law) (defScope s_law) .none kV23 dc23 pm23 an23 cd23 ct23, fun s v => .of_eq rfl, fun base _ _ => ?_⟩
  have d_need_line := ok_need_line (P := l.prog) (w := w) (base := base) T F0 (PySem.W.mg_of X G a0) b0
  have d_height_at := ok_height_at (P := l.prog) (w := w) (base := base) T F1 (PySem.W.mg_of X G a1) b1 d_need_line
  have d_part_at := ok_part_at (P := l.prog) (w := w) (base := base) T F2 (PySem.W.mg_of X G a2) b2 d_height_at
  have d_rest_at := ok_rest_at (P := l.prog) (w := w) (base := base) T F3 (PySem.W.mg_of X G a3) b3 d_height_at
  have d_laid_off := ok_laid_off (P := l.prog) (w := w) (base := base) T F4 (PySem.W.mg_of X G a4) b4 d_need_line
  have d_turned := ok_turned (P := l.prog) (w := w) (base := base) T F5 (PySem.W.mg_of X G a5) b5 d_need_line d_part_at d_rest_at
  have d_sum_parts := ok_sum_parts (P := l.prog) (w := w) (base := base) T F6 (PySem.W.mg_of X G a6) b6 d_laid_off d_turned
  have d_sum_between := ok_sum_between (P := l.prog) (w := w) (base := base) T F7 (PySem.W.mg_of X G a7) b7 d_need_line d_sum_parts
  have d_need_all := ok_need_all (P := l.prog) (w := w) (base := base) T F8 (PySem.W.mg_of X G a8) b8 d_part_at
  have d_turned_down := ok_turned_down (P := l.prog) (w := w) (base := base) T F9 (PySem.W.mg_of X G a9) b9
  have d_lowest_at := ok_lowest_at (P := l.prog) (w := w) (base := base) T F10 (PySem.W.mg_of X G a10) b10
  have d_lowest_at_L := ok_lowest_at_L (P := l.prog) (w := w) (base := base) T F10 (PySem.W.mg_of X G a10) b10
  have d_cuts_of := ok_cuts_of (P := l.prog) (w := w) (base := base) T F11 (PySem.W.mg_of X G a11) b11
  have d_points_between := ok_points_between (P := l.prog) (w := w) (base := base) T F12 (PySem.W.mg_of X G a12) b12 d_need_all d_turned_down d_cuts_of d_lowest_at d_lowest_at_L d_sum_between
  have d__law_number := ok__law_number (P := l.prog) (w := w) (base := base) T F13 (PySem.W.mg_of X G a13) b13
  have d__law_great := ok__law_great (P := l.prog) (w := w) (base := base) T F14 (PySem.W.mg_of X G a14) b14 d__law_number
  have d__law_whole := ok__law_whole (P := l.prog) (w := w) (base := base) T F15 (PySem.W.mg_of X G a15) b15
  have d__law_measure := ok__law_measure (P := l.prog) (w := w) (base := base) T F16 (PySem.W.mg_of X G a16) b16
  have d__law_widths := ok__law_widths (P := l.prog) (w := w) (base := base) T F17 (PySem.W.mg_of X G a17) b17 d__law_great
  have d__law_sides := ok__law_sides (P := l.prog) (w := w) (base := base) T F18 (PySem.W.mg_of X G a18) b18 d__law_widths d__law_great d__law_number
  have d__law_lines := ok__law_lines (P := l.prog) (w := w) (base := base) T F19 (PySem.W.mg_of X G a19) b19
  have d__law_rim := ok__law_rim (P := l.prog) (w := w) (base := base) T F20 (PySem.W.mg_of X G a20) b20 d__law_measure
  have d__law_points := ok__law_points (P := l.prog) (w := w) (base := base) T F21 (PySem.W.mg_of X G a21) b21 d__law_lines d__law_rim
  have d__law_alike := ok__law_alike (P := l.prog) (w := w) (base := base) T F22 (PySem.W.mg_of X G a22) b22
  have d_law := ok_law (P := l.prog) (w := w) (base := base) T F23 (PySem.W.mg_of X G a23) b23 d__law_number d__law_sides d_points_between d__law_great d__law_lines d__law_whole d__law_points d__law_alike
  exact law_imp [] d_law (fun G => ⟨fun _ _ z => (nomatch z), fun _ _ z => (nomatch z)⟩)
theorem walk {l : PySem.W.OpenLaw} {q : Program} {loose : List Str} {XP : (Str → Option Value) → Heap → Prop} {YP : World → Heap → Prop} {d : DefRec} {K : Params → PySem.W.Frag} (hn : l.most = some 63) (hdf : d.params.defaults = [])
    (hY : ∀ (w : World) (h : Heap), YP w h → (K w.params).In h)
    (F : ∀ (w : World) (mg : Str → Option Value) (fa : Addr) (h : Heap), (K w.params).In h → h.Ns mainGlobals mg → mg d.name = some (.ref fa) →
      ∃ fd : FuncData, (∀ (s : Shared) (u : Value), BindsTo s fd ⟨[u], []⟩ [("_law_script", u)]) ∧ ∀ base : Heap, (K w.params).In base → base.Ns mainGlobals mg → FnOk l.prog w (K w.params) mg base (L2.CX l.prog w) 8 fa fd ["_law_script"] (spLawV (K w.params))) :
    PySem.W.WalkO q loose XP YP l.row.toRowW d [] (fun f vs => PySem.call f vs) :=
  L2.walk_ofB (n := 63) (k := 8) (x := "_law_script") (CX := fun w => L2.CX l.prog w) (sp := fun w => spLawV (K w.params)) hn (by decide) hdf ⟨rfl, by decide, by decide⟩ hY F (fun _ _ a ns hl hb _ hS => ⟨a, ns, rfl, hS, hl, hb, fun _ => rfl⟩) fun _ _ _ _ _ z => cx_none z
end Lw
open PySem PySem.W PyProof.Rows
set_option maxRecDepth 100000 in
set_option maxHeartbeats 0 in
theorem PySem.Challenge.cw_turnedline_k25_whole_points_of_corners_holds : PySem.Challenge.rw_turnedline_k25_whole_points_of_corners.Holds := by
  w_on; o_law; k_head; (case hw => w_witness2)
  k_fill
  refine Lw.walk (l := PySem.Challenge.rw_turnedline_k25_whole_points_of_corners) rfl rfl (fun w h Y => PySem.W.kIn_of Y) ?F
  case F =>
    intro w mg fa h KX G hmg
    refine' Lw.all_mk KX G hmg ?a0 ?l0 ?c0 ?k0 ?a1 ?l1 ?c1 ?k1 ?a2 ?l2 ?c2 ?k2 ?a3 ?l3 ?c3 ?k3 ?a4 ?l4 ?c4 ?k4 ?a5 ?l5 ?c5 ?k5 ?a6 ?l6 ?c6 ?k6 ?a7 ?l7 ?c7 ?k7 ?a8 ?l8 ?c8 ?k8 ?a9 ?l9 ?c9 ?k9 ?a10 ?l10 ?c10 ?k10 ?a11 ?l11 ?c11 ?k11 ?a12 ?l12 ?c12 ?k12 ?a13 ?l13 ?c13 ?k13 ?a14 ?l14 ?c14 ?k14 ?a15 ?l15 ?c15 ?k15 ?a16 ?l16 ?c16 ?k16 ?a17 ?l17 ?c17 ?k17 ?a18 ?l18 ?c18 ?k18 ?a19 ?l19 ?c19 ?k19 ?a20 ?l20 ?c20 ?k20 ?a21 ?l21 ?c21 ?k21 ?a22 ?l22 ?c22 ?k22 ?a23 ?l23 ?c23 ?k23 ?aE0 ?xE0 ?kE0 ?bE0 ?tE0 ?aE1 ?xE1 ?kE1 ?bE1 ?tE1 ?aE3 ?xE3 ?kE3 ?bE3 ?tE3 ?z_abs ?z_bool ?z_enumerate ?z_int ?z_isinstance ?z_len ?z_list ?z_max ?z_min ?z_range ?z_set ?z_sorted ?z_sum ?z_tuple ?z_zip
    (case a0 => k_is)
    (case l0 => k_is)
    (case c0 => k_is)
    (case k0 => k_is)
    (case a1 => k_is)
    (case l1 => k_is)
    (case c1 => k_is)
    (case k1 => k_is)
    (case a2 => k_is)
    (case l2 => k_is)
    (case c2 => k_is)
    (case k2 => k_is)
    (case a3 => k_is)
    (case l3 => k_is)
    (case c3 => k_is)
    (case k3 => k_is)
    (case a4 => k_is)
    (case l4 => k_is)
    (case c4 => k_is)
    (case k4 => k_is)
    (case a5 => k_is)
    (case l5 => k_is)
    (case c5 => k_is)
    (case k5 => k_is)
    (case a6 => k_is)
    (case l6 => k_is)
    (case c6 => k_is)
    (case k6 => k_is)
    (case a7 => k_is)
    (case l7 => k_is)
    (case c7 => k_is)
    (case k7 => k_is)
    (case a8 => k_is)
    (case l8 => k_is)
    (case c8 => k_is)
    (case k8 => k_is)
    (case a9 => k_is)
    (case l9 => k_is)
    (case c9 => k_is)
    (case k9 => k_is)
    (case a10 => k_is)
    (case l10 => k_is)
    (case c10 => k_is)
    (case k10 => k_is)
    (case a11 => k_is)
    (case l11 => k_is)
    (case c11 => k_is)
    (case k11 => k_is)
    (case a12 => k_is)
    (case l12 => k_is)
    (case c12 => k_is)
    (case k12 => k_is)
    (case a13 => k_is)
    (case l13 => k_is)
    (case c13 => k_is)
    (case k13 => k_is)
    (case a14 => k_is)
    (case l14 => k_is)
    (case c14 => k_is)
    (case k14 => k_is)
    (case a15 => k_is)
    (case l15 => k_is)
    (case c15 => k_is)
    (case k15 => k_is)
    (case a16 => k_is)
    (case l16 => k_is)
    (case c16 => k_is)
    (case k16 => k_is)
    (case a17 => k_is)
    (case l17 => k_is)
    (case c17 => k_is)
    (case k17 => k_is)
    (case a18 => k_is)
    (case l18 => k_is)
    (case c18 => k_is)
    (case k18 => k_is)
    (case a19 => k_is)
    (case l19 => k_is)
    (case c19 => k_is)
    (case k19 => k_is)
    (case a20 => k_is)
    (case l20 => k_is)
    (case c20 => k_is)
    (case k20 => k_is)
    (case a21 => k_is)
    (case l21 => k_is)
    (case c21 => k_is)
    (case k21 => k_is)
    (case a22 => k_is)
    (case l22 => k_is)
    (case c22 => k_is)
    (case k22 => k_is)
    (case a23 => k_is)
    (case l23 => k_is)
    (case c23 => k_is)
    (case k23 => k_is)
    (case aE0 => k_is)
    (case xE0 => k_exc)
    (case kE0 => k_is)
    (case bE0 => k_is)
    (case tE0 => k_is)
    (case aE1 => k_is)
    (case xE1 => k_exc)
    (case kE1 => k_is)
    (case bE1 => k_is)
    (case tE1 => k_is)
    (case aE3 => k_is)
    (case xE3 => k_exc)
    (case kE3 => k_is)
    (case bE3 => k_is)
    (case tE3 => k_is)
    (case z_abs => k_is)
    (case z_bool => k_is)
    (case z_enumerate => k_is)
    (case z_int => k_is)
    (case z_isinstance => k_is)
    (case z_len => k_is)
    (case z_list => k_is)
    (case z_max => k_is)
    (case z_min => k_is)
    (case z_range => k_is)
    (case z_set => k_is)
    (case z_sorted => k_is)
    (case z_sum => k_is)
    (case z_tuple => k_is)
    (case z_zip => k_is)
