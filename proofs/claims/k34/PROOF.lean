import PyProof.Rows.All
import Wide.All
import OpenK.AllK
import Wide.FinOn
import HandS.ForMost
import HandS.Exc
import HandS.ExcOwn
import HandS.TryOnly
import HandS.WordsExc
import HandS.Wide
import HandS.EndBits
import PyProof.LongRange
import HandS.IsInst
import HandS.Text
import HandS.Style
import HandS.Walk
import HandS.Zip
import HandS.ExcValue
import HandS.ExcIs
import HandS.SetFor
import HandS.Replace
import HandS.TupAny
import KE.IntTextLaws
import KE.GoesEnum
import HandS.More
import PySem.Challenge.RW_turnedline_k34_papers_looked_at
set_option Elab.async false
set_option linter.all false
set_option maxRecDepth 100000
set_option maxHeartbeats 4000000
namespace Z
open PySem PySem.Spec PyProof.Rows L2

/-! ### plain data, and what a value stands for -/
inductive D where
  | non | bl (b : Bool) | int (i : Int) | str (x : Str) | tup (l : List D) | lst (l : List D) | arr (l : List D) | ref (a : Addr) | exc (C : Addr)
/-- an exception's object of the class C, held by a name -/
def ExA (C a : Addr) : HO := .ext fun h => ∃ (oe : Obj) (vs : Array Value), h.get? a = some oe ∧ Zc (.ref C) none oe ∧ oe.data = .fields vs
def Ext (A B : Hp) : Prop := ∀ p x, A p = some x → B p = some x
theorem Ext.rfl' {A : Hp} : Ext A A := fun _ _ h => h
theorem Ext.tr {A B C : Hp} (f : Ext A B) (g : Ext B C) : Ext A C := fun p x h => g p x (f p x h)
theorem Ext.none' {A B : Hp} (f : Ext A B) {p : Addr} (h : B p = none) : A p = none := by
  cases q : A p with
  | none => rfl
  | some x => rw [f p x q] at h; cases h
theorem Ext.new {A : Hp} {p : Addr} {o : HO} (h : A p = none) : Ext A (upd A p o) := fun q x e => by
  rw [upd_ne (ne_of_none e h)]; exact e
theorem rdE {A B : Hp} (f : Ext A B) {p : Addr} {u : HO} (h : Rd A p u) : Rd B p u := by
  rcases h with h | ⟨o, h⟩
  · exact Or.inl (f _ _ h)
  · exact Or.inr ⟨o, f _ _ h⟩
theorem sqTE {K : PySem.W.Frag} {A B : Hp} (f : Ext A B) {p : Addr} {xs : List V} (h : SqT K A p xs) : SqT K B p xs := h.imp (rdE f) id
theorem sqLE {K : PySem.W.Frag} {A B : Hp} (f : Ext A B) {p : Addr} {xs : List V} (h : SqL K A p xs) : SqL K B p xs := h.imp (rdE f) id

mutual
inductive Rep (K : PySem.W.Frag) (G : Hp) : V → D → Prop
  | non : Rep K G .non .non
  | bl (b : Bool) : Rep K G (.bl b) (.bl b)
  | int (i : Int) : Rep K G (.int i) (.int i)
  | str (x : Str) : Rep K G (.str x) (.str x)
  | tup {p : Addr} {vs : List V} {l : List D} : SqT K G p vs → RepL K G vs l → Rep K G (.ref p) (.tup l)
  | lst {p : Addr} {vs : List V} {l : List D} : G p = some (.lst vs) → RepL K G vs l → Rep K G (.ref p) (.lst l)
  | arr {p : Addr} {vs : List V} {l : List D} : SqL K G p vs → RepL K G vs l → Rep K G (.ref p) (.arr l)
  | ref (p : Addr) : Rep K G (.ref p) (.ref p)
  | exc {p C : Addr} : G p = some (ExA C p) → Rep K G (.ref p) (.exc C)
inductive RepL (K : PySem.W.Frag) (G : Hp) : List V → List D → Prop
  | nil : RepL K G [] []
  | cons {v : V} {vs : List V} {d : D} {l : List D} : Rep K G v d → RepL K G vs l → RepL K G (v :: vs) (d :: l)
end
section
variable {K : PySem.W.Frag} {G G' : Hp}
mutual
theorem Rep.mono (f : Ext G G') : ∀ (d : D) (v : V), Rep K G v d → Rep K G' v d
  | .non, _, h => by cases h; exact .non
  | .bl b, _, h => by cases h; exact .bl b
  | .int i, _, h => by cases h; exact .int i
  | .str x, _, h => by cases h; exact .str x
  | .tup l, _, h => by
    cases h with
    | tup a b => exact .tup (sqTE f a) (RepL.mono f l _ b)
  | .lst l, _, h => by
    cases h with
    | lst a b => exact .lst (f _ _ a) (RepL.mono f l _ b)
  | .arr l, _, h => by
    cases h with
    | arr a b => exact .arr (sqLE f a) (RepL.mono f l _ b)
  | .ref p, _, h => by cases h; exact .ref p
  | .exc C, _, h => by
    cases h with
    | exc a => exact .exc (f _ _ a)
theorem RepL.mono (f : Ext G G') : ∀ (l : List D) (vs : List V), RepL K G vs l → RepL K G' vs l
  | [], _, h => by cases h; exact .nil
  | d :: l, _, h => by
    cases h with
    | cons a b => exact .cons (Rep.mono f d _ a) (RepL.mono f l _ b)
end
theorem Rep.up {v : V} {d : D} (h : Rep K G v d) (f : Ext G G') : Rep K G' v d := Rep.mono f d v h
theorem RepL.up {vs : List V} {l : List D} (h : RepL K G vs l) (f : Ext G G') : RepL K G' vs l := RepL.mono f l vs h
theorem RepL.len : ∀ {vs : List V} {l : List D}, RepL K G vs l → vs.length = l.length
  | _, _, .nil => rfl
  | _, _, .cons _ t => congrArg (· + 1) (RepL.len t)
theorem RepL.get : ∀ {vs : List V} {l : List D} {i : Nat} {d : D}, RepL K G vs l → l[i]? = some d → ∃ v, vs[i]? = some v ∧ Rep K G v d
  | _, _, _, _, .nil, e => by simp at e
  | _, _, 0, _, .cons r _, e => by
    rw [List.getElem?_cons_zero] at e; cases e
    exact ⟨_, rfl, r⟩
  | _, _, i + 1, d, .cons _ t, e => RepL.get (i := i) t (by simpa using e)
theorem RepL.getV : ∀ {vs : List V} {l : List D} {i : Nat} {v : V}, RepL K G vs l → vs[i]? = some v → ∃ d, l[i]? = some d ∧ Rep K G v d
  | _, _, _, _, .nil, e => by simp at e
  | _, _, 0, _, .cons r _, e => by
    rw [List.getElem?_cons_zero] at e; cases e
    exact ⟨_, rfl, r⟩
  | _, _, i + 1, d, .cons _ t, e => RepL.getV (i := i) t (by simpa using e)
theorem RepL.app : ∀ {vs us : List V} {l m : List D}, RepL K G vs l → RepL K G us m → RepL K G (vs ++ us) (l ++ m)
  | _, _, _, _, .nil, s => s
  | _, _, _, _, .cons r t, s => .cons r (RepL.app t s)
theorem RepL.set {v : V} {d : D} (r : Rep K G v d) : ∀ {vs : List V} {l : List D} (i : Nat), RepL K G vs l → RepL K G (vs.set i v) (l.set i d)
  | _, _, _, .nil => .nil
  | _, _, 0, .cons _ t => .cons r t
  | _, _, i + 1, .cons q t => .cons q (RepL.set r i t)
theorem RepL.take : ∀ {vs : List V} {l : List D} (n : Nat), RepL K G vs l → RepL K G (vs.take n) (l.take n)
  | _, _, 0, _ => .nil
  | _, _, _ + 1, .nil => .nil
  | _, _, n + 1, .cons r t => .cons r (RepL.take n t)
theorem RepL.drop : ∀ {vs : List V} {l : List D} (n : Nat), RepL K G vs l → RepL K G (vs.drop n) (l.drop n)
  | _, _, 0, r => r
  | _, _, _ + 1, .nil => .nil
  | _, _, n + 1, .cons _ t => RepL.drop n t
theorem RepL.rev : ∀ {vs : List V} {l : List D}, RepL K G vs l → RepL K G vs.reverse l.reverse
  | _, _, .nil => .nil
  | _, _, .cons r t => by
    rw [List.reverse_cons, List.reverse_cons]
    exact RepL.app (RepL.rev t) (.cons r .nil)
theorem RepL.erase : ∀ {vs : List V} {l : List D} (n : Nat), RepL K G vs l → RepL K G (vs.eraseIdx n) (l.eraseIdx n)
  | _, _, _, .nil => .nil
  | _, _, 0, .cons _ t => t
  | _, _, n + 1, .cons r t => .cons r (RepL.erase n t)
theorem RepL.ints : ∀ {ns : List Int} {vs : List V}, RepL K G vs (ns.map D.int) → vs = ns.map V.int
  | [], _, h => by cases h; rfl
  | n :: ns, _, h => by
    cases h with
    | cons a b => cases a; rw [RepL.ints b]; rfl
theorem RepL.ofInts : ∀ (ns : List Int), RepL K G (ns.map V.int) (ns.map D.int)
  | [] => .nil
  | n :: ns => .cons (.int n) (RepL.ofInts ns)
theorem RepL.strs : ∀ {ns : List Str} {vs : List V}, RepL K G vs (ns.map D.str) → vs = ns.map V.str
  | [], _, h => by cases h; rfl
  | n :: ns, _, h => by
    cases h with
    | cons a b => cases a; rw [RepL.strs b]; rfl
theorem RepL.ofStrs : ∀ (ns : List Str), RepL K G (ns.map V.str) (ns.map D.str)
  | [] => .nil
  | n :: ns => .cons (.str n) (RepL.ofStrs ns)
theorem RepL.bls : ∀ {ns : List Bool} {vs : List V}, RepL K G vs (ns.map D.bl) → vs = ns.map V.bl
  | [], _, h => by cases h; rfl
  | n :: ns, _, h => by
    cases h with
    | cons a b => cases a; rw [RepL.bls b]; rfl
end

/-! ### the heap in parts: what stands still (G), what the world holds (M) -/
structure Wp (ω : Type) where
  ok : ω → Hp → Hp → Prop
  mono : ∀ {w : ω} {G G' M : Hp}, Ext G G' → ok w G M → ok w G' M
  ec : Nat → Addr
section
variable {ω : Type}
structure Pt (W : Wp ω) (H G M : Hp) (w : ω) : Prop where
  gh : Ext G H
  mh : Ext M H
  dj : ∀ p x, G p = some x → M p = none
  wd : W.ok w G M
structure Nx (H G M H' G' M' : Hp) : Prop where
  gg : Ext G G'
  fr : ∀ p x, H p = some x → M p = none → H' p = some x
  gn : ∀ p x, G' p = some x → G p = none → H p = none
  mn : ∀ p x, M' p = some x → M p = none → H p = none
  m0 : ∀ p x, M p = some x → ∃ y, M' p = some y
theorem Nx.rfl' {H G M : Hp} : Nx H G M H G M := ⟨Ext.rfl', fun _ _ h _ => h, fun p x a b => (by rw [a] at b; cases b), fun p x a b => (by rw [a] at b; cases b), fun p x a => ⟨x, a⟩⟩
theorem Nx.back {H G M H' G' M' : Hp} (a : Nx H G M H' G' M') (mh : Ext M' H') {p : Addr} (h : H' p = none) : H p = none := by
  cases q : H p with
  | none => rfl
  | some z =>
    exfalso
    cases r : M p with
    | none => rw [a.fr p z q r] at h; cases h
    | some y =>
      obtain ⟨y', e⟩ := a.m0 p y r
      rw [mh p y' e] at h; cases h
theorem Nx.tr {H G M H' G' M' H2 G2 M2 : Hp} (a : Nx H G M H' G' M') (b : Nx H' G' M' H2 G2 M2) (mh : Ext M' H') : Nx H G M H2 G2 M2 where
  gg := a.gg.tr b.gg
  fr := fun p x h m => b.fr p x (a.fr p x h m) (by
    cases q : M' p with
    | none => rfl
    | some y => rw [a.mn p y q m] at h; cases h)
  gn := fun p x h g => by
    cases q : G' p with
    | some y => exact a.gn p y q g
    | none => exact a.back mh (b.gn p x h q)
  mn := fun p x h g => by
    cases q : M' p with
    | some y => exact a.mn p y q g
    | none => exact a.back mh (b.mn p x h q)
  m0 := fun p x h => by
    obtain ⟨y, e⟩ := a.m0 p x h
    exact b.m0 p y e
theorem Pt.new {W : Wp ω} {H G M : Hp} {w : ω} (a : Pt W H G M w) {p : Addr} {o : HO} (h : H p = none) : Pt W (upd H p o) (upd G p o) M w where
  gh := fun q x e => by
    by_cases z : q = p
    · subst z; rw [upd_same] at e ⊢; exact e
    · rw [upd_ne z] at e ⊢; exact a.gh q x e
  mh := fun q x e => by rw [upd_ne (ne_of_none (a.mh q x e) h)]; exact a.mh q x e
  dj := fun q x e => by
    by_cases z : q = p
    · subst z; exact a.mh.none' h
    · rw [upd_ne z] at e; exact a.dj q x e
  wd := W.mono (Ext.new (a.gh.none' h)) a.wd
theorem Nx.new {W : Wp ω} {H G M : Hp} {w : ω} (a : Pt W H G M w) {p : Addr} {o : HO} (h : H p = none) : Nx H G M (upd H p o) (upd G p o) M where
  gg := Ext.new (a.gh.none' h)
  fr := fun q x e _ => by rw [upd_ne (ne_of_none e h)]; exact e
  gn := fun q x e g => by
    by_cases z : q = p
    · subst z; exact h
    · rw [upd_ne z, g] at e; cases e
  mn := fun q x e g => by rw [e] at g; cases g
  m0 := fun q x e => ⟨x, e⟩

/-! ### slots -/
inductive Sl where
  | no | val (d : D) | own (l : List D)
/-- the entry of the def (H0 G0 M0), what is known to stand (S) -/
structure Zx where
  H0 : Hp
  G0 : Hp
  M0 : Hp
  S : Hp
def SlR (K : PySem.W.Frag) (Z : Zx) (σ : L2.St) (H G M : Hp) (i : Nat) : Sl → Prop
  | .no => True
  | .val d => ∃ v, σ[i]? = some (some v) ∧ Rep K G v d
  | .own l => ∃ p vs, σ[i]? = some (some (.ref p)) ∧ H p = some (.lst vs) ∧ G p = none ∧ M p = none ∧ Z.H0 p = none ∧ RepL K G vs l
structure SR (K : PySem.W.Frag) (W : Wp ω) (Z : Zx) (σ : L2.St) (H G M : Hp) (δ : List Sl) (w : ω) : Prop where
  pt : Pt W H G M w
  nx : Nx Z.H0 Z.G0 Z.M0 H G M
  st : Ext Z.S G
  len : δ.length = σ.length
  sl : ∀ i s, δ[i]? = some s → SlR K Z σ H G M i s
  od : ∀ (i j : Nat) (p : Addr) (l l' : List D), δ[i]? = some (Sl.own l) → δ[j]? = some (Sl.own l') → σ[i]? = some (some (V.ref p)) → σ[j]? = some (some (V.ref p)) → i = j
section
variable {K : PySem.W.Frag} {W : Wp ω} {Z : Zx} {σ : L2.St} {H G M H' G' M' : Hp} {δ : List Sl} {w w' : ω}
theorem SR.next (a : SR K W Z σ H G M δ w) (b : Pt W H' G' M' w') (c : Nx H G M H' G' M') : SR K W Z σ H' G' M' δ w' where
  pt := b
  nx := a.nx.tr c a.pt.mh
  st := a.st.tr c.gg
  len := a.len
  sl := fun i s e => by
    have h := a.sl i s e
    cases s with
    | no => trivial
    | val d => obtain ⟨v, h1, h2⟩ := h; exact ⟨v, h1, h2.up c.gg⟩
    | own l =>
      obtain ⟨p, vs, h1, h2, h3, h4, h5, h7⟩ := h
      refine ⟨p, vs, h1, c.fr p _ h2 h4, ?_, ?_, h5, h7.up c.gg⟩
      · cases q : G' p with
        | none => rfl
        | some y => rw [c.gn p y q h3] at h2; cases h2
      · cases q : M' p with
        | none => rfl
        | some y => rw [c.mn p y q h4] at h2; cases h2
  od := a.od
structure Go (W : Wp ω) (H G M H' G' M' : Hp) (w' : ω) : Prop where
  pt : Pt W H' G' M' w'
  nx : Nx H G M H' G' M'
theorem SR.go (a : SR K W Z σ H G M δ w) (o : Go W H G M H' G' M' w') : SR K W Z σ H' G' M' δ w' := a.next o.pt o.nx
theorem SR.here (a : SR K W Z σ H G M δ w) : Go W H G M H G M w := ⟨a.pt, .rfl'⟩
theorem Go.tr {H2 G2 M2 : Hp} {w2 : ω} (a : Go W H G M H' G' M' w') (b : Go W H' G' M' H2 G2 M2 w2) : Go W H G M H2 G2 M2 w2 := ⟨b.pt, a.nx.tr b.nx a.pt.mh⟩
theorem SR.new (a : SR K W Z σ H G M δ w) {p : Addr} {o : HO} (h : H p = none) : SR K W Z σ (upd H p o) (upd G p o) M δ w := a.next (a.pt.new h) (Nx.new a.pt h)
theorem SR.set (a : SR K W Z σ H G M δ w) {i : Nat} {v : V} {d : D} (r : Rep K G v d) : SR K W Z (σ.set i (some v)) H G M (δ.set i (.val d)) w where
  pt := a.pt
  nx := a.nx
  st := a.st
  len := by rw [List.length_set, List.length_set]; exact a.len
  sl := fun j s e => by
    by_cases z : i = j
    · subst z
      have hl : i < δ.length := by
        have := (List.getElem?_eq_some_iff.mp e).1
        rwa [List.length_set] at this
      rw [List.getElem?_set_self hl] at e
      cases e
      exact ⟨v, List.getElem?_set_self (by rw [← a.len]; exact hl), r⟩
    · rw [List.getElem?_set_ne z] at e
      have h := a.sl j s e
      cases s with
      | no => trivial
      | val d => obtain ⟨u, h1, h2⟩ := h; exact ⟨u, by rw [List.getElem?_set_ne z]; exact h1, h2⟩
      | own l =>
        obtain ⟨p, vs, h1, h2⟩ := h
        exact ⟨p, vs, by rw [List.getElem?_set_ne z]; exact h1, h2⟩
  od := fun j k p l l' e1 e2 e3 e4 => by
    have nj : i ≠ j := fun z => by
      subst z
      have hl : i < δ.length := by
        have := (List.getElem?_eq_some_iff.mp e1).1
        rwa [List.length_set] at this
      rw [List.getElem?_set_self hl] at e1; cases e1
    have nk : i ≠ k := fun z => by
      subst z
      have hl : i < δ.length := by
        have := (List.getElem?_eq_some_iff.mp e2).1
        rwa [List.length_set] at this
      rw [List.getElem?_set_self hl] at e2; cases e2
    rw [List.getElem?_set_ne nj] at e1 e3
    rw [List.getElem?_set_ne nk] at e2 e4
    exact a.od j k p l l' e1 e2 e3 e4
/-- a slot forgotten -/
theorem SR.drop (a : SR K W Z σ H G M δ w) {i : Nat} {x : Option V} : SR K W Z (σ.set i x) H G M (δ.set i .no) w where
  pt := a.pt
  nx := a.nx
  st := a.st
  len := by rw [List.length_set, List.length_set]; exact a.len
  sl := fun j s e => by
    by_cases z : i = j
    · subst z
      have hl : i < δ.length := by
        have := (List.getElem?_eq_some_iff.mp e).1
        rwa [List.length_set] at this
      rw [List.getElem?_set_self hl] at e
      cases e
      trivial
    · rw [List.getElem?_set_ne z] at e
      have h := a.sl j s e
      cases s with
      | no => trivial
      | val d => obtain ⟨u, h1, h2⟩ := h; exact ⟨u, by rw [List.getElem?_set_ne z]; exact h1, h2⟩
      | own l =>
        obtain ⟨p, vs, h1, h2⟩ := h
        exact ⟨p, vs, by rw [List.getElem?_set_ne z]; exact h1, h2⟩
  od := fun j k p l l' e1 e2 e3 e4 => by
    have nj : i ≠ j := fun z => by
      subst z
      have hl : i < δ.length := by
        have := (List.getElem?_eq_some_iff.mp e1).1
        rwa [List.length_set] at this
      rw [List.getElem?_set_self hl] at e1; cases e1
    have nk : i ≠ k := fun z => by
      subst z
      have hl : i < δ.length := by
        have := (List.getElem?_eq_some_iff.mp e2).1
        rwa [List.length_set] at this
      rw [List.getElem?_set_self hl] at e2; cases e2
    rw [List.getElem?_set_ne nj] at e1 e3
    rw [List.getElem?_set_ne nk] at e2 e4
    exact a.od j k p l l' e1 e2 e3 e4
/-- a new list of our own at p, laid into slot i -/
theorem SR.setOwn (a : SR K W Z σ H G M δ w) {i : Nat} {p : Addr} {vs : List V} {l : List D} (hp : H p = some (.lst vs)) (hG : G p = none) (hM : M p = none) (h0 : Z.H0 p = none) (r : RepL K G vs l)
    (hd : ∀ (j : Nat) (m : List D), δ[j]? = some (Sl.own m) → σ[j]? ≠ some (some (V.ref p))) : SR K W Z (σ.set i (some (.ref p))) H G M (δ.set i (.own l)) w where
  pt := a.pt
  nx := a.nx
  st := a.st
  len := by rw [List.length_set, List.length_set]; exact a.len
  sl := fun j s e => by
    by_cases z : i = j
    · subst z
      have hl : i < δ.length := by
        have := (List.getElem?_eq_some_iff.mp e).1
        rwa [List.length_set] at this
      rw [List.getElem?_set_self hl] at e
      cases e
      exact ⟨p, vs, List.getElem?_set_self (by rw [← a.len]; exact hl), hp, hG, hM, h0, r⟩
    · rw [List.getElem?_set_ne z] at e
      have h := a.sl j s e
      cases s with
      | no => trivial
      | val d => obtain ⟨u, h1, h2⟩ := h; exact ⟨u, by rw [List.getElem?_set_ne z]; exact h1, h2⟩
      | own l =>
        obtain ⟨p, vs, h1, h2⟩ := h
        exact ⟨p, vs, by rw [List.getElem?_set_ne z]; exact h1, h2⟩
  od := fun j k q m m' e1 e2 e3 e4 => by
    have at_i : ∀ {n : Nat} {m : List D}, (δ.set i (.own l))[n]? = some (.own m) → n < δ.length := fun e => by
      have := (List.getElem?_eq_some_iff.mp e).1
      rwa [List.length_set] at this
    by_cases zj : i = j
    · by_cases zk : i = k
      · rw [← zj, ← zk]
      · subst zj
        rw [List.getElem?_set_self (by rw [← a.len]; exact at_i e1)] at e3
        cases e3
        rw [List.getElem?_set_ne zk] at e2 e4
        exact absurd e4 (hd k m' e2)
    · rw [List.getElem?_set_ne zj] at e1 e3
      by_cases zk : i = k
      · subst zk
        rw [List.getElem?_set_self (by rw [← a.len]; exact at_i e2)] at e4
        cases e4
        exact absurd e3 (hd j m e1)
      · rw [List.getElem?_set_ne zk] at e2 e4
        exact a.od j k q m m' e1 e2 e3 e4
/-- our own list at slot i is changed -/
theorem SR.change (a : SR K W Z σ H G M δ w) {i : Nat} {p : Addr} {us : List V} {l m : List D} (hi : δ[i]? = some (.own l)) (hs : σ[i]? = some (some (.ref p))) (r : RepL K G us m) : SR K W Z σ (upd H p (.lst us)) G M (δ.set i (.own m)) w := by
  obtain ⟨p', vs', h1, h2, h3, h4, h5, h7⟩ := a.sl i _ hi
  rw [hs] at h1
  cases h1
  have hl : i < δ.length := (List.getElem?_eq_some_iff.mp hi).1
  refine ⟨⟨fun q x e => ?_, fun q x e => ?_, a.pt.dj, a.pt.wd⟩, ⟨a.nx.gg, fun q x e e' => ?_, a.nx.gn, a.nx.mn, a.nx.m0⟩, a.st, by rw [List.length_set]; exact a.len, fun j s e => ?_, fun j k q m1 m2 e1 e2 e3 e4 => ?_⟩
  · rw [upd_ne (ne_of_none e h3)]; exact a.pt.gh q x e
  · rw [upd_ne (ne_of_none e h4)]; exact a.pt.mh q x e
  · rw [upd_ne (ne_of_none e h5)]; exact a.nx.fr q x e e'
  · by_cases z : i = j
    · subst z
      rw [List.getElem?_set_self hl] at e
      cases e
      exact ⟨p, us, hs, upd_same, h3, h4, h5, r⟩
    · rw [List.getElem?_set_ne z] at e
      have h := a.sl j s e
      cases s with
      | no => trivial
      | val d => exact h
      | own l' =>
        obtain ⟨p', vs, g1, g2, g3⟩ := h
        refine ⟨p', vs, g1, ?_, g3⟩
        rw [upd_ne (fun y => z (a.od i j p l l' hi e hs (by rw [← y]; exact g1)))]
        exact g2
  · have same : ∀ {n : Nat} {m' : List D}, (δ.set i (.own m))[n]? = some (.own m') → ∃ l', δ[n]? = some (.own l') := fun {n m'} e => by
      by_cases z : i = n
      · subst z; exact ⟨l, hi⟩
      · rw [List.getElem?_set_ne z] at e; exact ⟨m', e⟩
    obtain ⟨l1, f1⟩ := same e1
    obtain ⟨l2, f2⟩ := same e2
    exact a.od j k q l1 l2 f1 f2 e3 e4
/-- .. stands still from now on -/
theorem SR.freeze (a : SR K W Z σ H G M δ w) {i : Nat} {l : List D} (hi : δ[i]? = some (.own l)) : ∃ G', Ext G G' ∧ SR K W Z σ H G' M (δ.set i (.val (.lst l))) w := by
  obtain ⟨p, vs, h1, h2, h3, h4, h5, h7⟩ := a.sl i _ hi
  have hl : i < δ.length := (List.getElem?_eq_some_iff.mp hi).1
  have gg : Ext G (upd G p (.lst vs)) := Ext.new h3
  refine ⟨upd G p (.lst vs), gg, ⟨⟨fun q x e => ?_, a.pt.mh, fun q x e => ?_, W.mono gg a.pt.wd⟩, ⟨a.nx.gg.tr gg, a.nx.fr, fun q x e e' => ?_, a.nx.mn, a.nx.m0⟩, a.st.tr gg, by rw [List.length_set]; exact a.len, fun j s e => ?_, fun j k q m1 m2 e1 e2 e3 e4 => ?_⟩⟩
  · by_cases z : q = p
    · subst z; rw [upd_same] at e; cases e; exact h2
    · rw [upd_ne z] at e; exact a.pt.gh q x e
  · by_cases z : q = p
    · subst z; exact h4
    · rw [upd_ne z] at e; exact a.pt.dj q x e
  · by_cases z : q = p
    · subst z; exact h5
    · rw [upd_ne z] at e; exact a.nx.gn q x e e'
  · by_cases z : i = j
    · subst z
      rw [List.getElem?_set_self hl] at e
      cases e
      exact ⟨.ref p, h1, .lst upd_same (h7.up gg)⟩
    · rw [List.getElem?_set_ne z] at e
      have h := a.sl j s e
      cases s with
      | no => trivial
      | val d => obtain ⟨u, g1, g2⟩ := h; exact ⟨u, g1, g2.up gg⟩
      | own l' =>
        obtain ⟨p', us, g1, g2, g3, g4, g5, g7⟩ := h
        refine ⟨p', us, g1, g2, ?_, g4, g5, g7.up gg⟩
        rw [upd_ne (fun y => z (a.od i j p l l' hi e h1 (by rw [← y]; exact g1)))]
        exact g3
  · have same : ∀ {n : Nat} {m' : List D}, (δ.set i (.val (.lst l)))[n]? = some (.own m') → δ[n]? = some (.own m') := fun {n m'} e => by
      by_cases z : i = n
      · subst z; rw [List.getElem?_set_self hl] at e; cases e
      · rw [List.getElem?_set_ne z] at e; exact e
    exact a.od j k q m1 m2 (same e1) (same e2) e3 e4
def wipeZ (δ : List Sl) : List Nat → List Sl
  | [] => δ
  | v :: vs => (wipeZ δ vs).set v .no
theorem SR.wipe (a : SR K W Z σ H G M δ w) : ∀ vs : List Nat, SR K W Z (L2.wipe σ vs) H G M (wipeZ δ vs) w
  | [] => a
  | v :: vs => (SR.wipe a vs).drop
/-- more is known to stand -/
theorem SR.more (a : SR K W Z σ H G M δ w) : SR K W ⟨Z.H0, Z.G0, Z.M0, G⟩ σ H G M δ w := ⟨a.pt, a.nx, Ext.rfl', a.len, a.sl, a.od⟩
theorem SR.le {S : Hp} (a : SR K W ⟨Z.H0, Z.G0, Z.M0, S⟩ σ H G M δ w) (hS : Ext Z.S S) : SR K W Z σ H G M δ w := ⟨a.pt, a.nx, hS.tr a.st, a.len, a.sl, a.od⟩
end
end
end Z

namespace Z
open PySem PySem.Spec PyProof.Rows L2
variable {ω : Type}

/-! ### readings over plain data -/
abbrev TEZ (ω : Type) := List Sl → ω → (D → ω → Prop) → (Nat → ω → Prop) → Prop
abbrev TTZ (ω : Type) := List Sl → ω → (Bool → ω → Prop) → (Nat → ω → Prop) → Prop
abbrev TAZ (ω : Type) := List Sl → ω → (List D → ω → Prop) → (Nat → ω → Prop) → Prop
structure EndZ (ω : Type) where
  nx : List Sl → ω → Prop
  rt : D → ω → Prop
  bk : List Sl → ω → Prop
  ct : List Sl → ω → Prop
  ex : Nat → List Sl → ω → Prop
abbrev TSZ (ω : Type) := EndZ ω → List Sl → ω → Prop
/-- what a call of a def asks and gives -/
abbrev SpZ (ω : Type) := List D → ω → (D → ω → Prop) → (Nat → ω → Prop) → Prop
def Mo {α : Type} (t : List Sl → ω → (α → ω → Prop) → (Nat → ω → Prop) → Prop) : Prop := ∀ {δ : List Sl} {w : ω} {Q Q' : α → ω → Prop} {E : Nat → ω → Prop}, (∀ d w', Q d w' → Q' d w') → t δ w Q E → t δ w Q' E

section
variable (K : PySem.W.Frag) (W : Wp ω) (Z : Zx) (ex : Nat → List Sl → ω → Prop)
def liE (te : TEZ ω) : TE := fun σ H Q => ∃ G M δ w, SR K W Z σ H G M δ w ∧ te δ w (fun d w' => ∀ v H' G' M', Go W H G M H' G' M' w' → Rep K G' v d → Q v H') (fun e w' => ex e δ w')
def liT (te : TTZ ω) : TT := fun σ H Q => ∃ G M δ w, SR K W Z σ H G M δ w ∧ te δ w (fun b w' => ∀ H' G' M', Go W H G M H' G' M' w' → Q b H') (fun e w' => ex e δ w')
def liA (te : TAZ ω) : TA := fun σ H Q => ∃ G M δ w, SR K W Z σ H G M δ w ∧ te δ w (fun l w' => ∀ vs H' G' M', Go W H G M H' G' M' w' → RepL K G' vs l → Q vs H') (fun e w' => ex e δ w')
/-- a new list, not yet standing still -/
def NewAt (H H' G' M' : Hp) (p : Addr) (vs : List V) : Prop := H p = none ∧ H' p = some (.lst vs) ∧ G' p = none ∧ M' p = none
def liF (te : TAZ ω) : TE := fun σ H Q => ∃ G M δ w, SR K W Z σ H G M δ w ∧ te δ w (fun l w' => ∀ p vs H' G' M', Go W H G M H' G' M' w' → RepL K G' vs l → NewAt H H' G' M' p vs → Q (.ref p) H') (fun e w' => ex e δ w')
def LS (P : List Sl → ω → Prop) : L2.St → Hp → Prop := fun σ H => ∃ G M δ w, SR K W Z σ H G M δ w ∧ P δ w
def WXz : WX := fun cls d σ H => d = none ∧ ∃ e, cls = .ref (W.ec e) ∧ LS K W Z (ex e) σ H
structure EndI (Dz : EndZ ω) (D : Ends) : Prop where
  nx : ∀ σ H, LS K W Z Dz.nx σ H → D.nx σ H
  bk : ∀ σ H, LS K W Z Dz.bk σ H → D.bk σ H
  ct : ∀ σ H, LS K W Z Dz.ct σ H → D.ct σ H
  rt : ∀ v H G M d w, Pt W H G M w → Nx Z.H0 Z.G0 Z.M0 H G M → Rep K G v d → Dz.rt d w → D.rt v H
def liS (ts : TSZ ω) : TS := fun D σ H => ∃ Dz : EndZ ω, Dz.ex = ex ∧ EndI K W Z Dz D ∧ LS K W Z (ts Dz) σ H
end
section
variable (X : Cx) (W : Wp ω)
structure PEZ (e : Expr) (te : TEZ ω) : Prop where
  mo : Mo te
  run : ∀ (Z : Zx) (ex : Nat → List Sl → ω → Prop), Takes X (WXz X.K W Z ex) → PE X e (liE X.K W Z ex te)
structure PFZ (e : Expr) (te : TAZ ω) : Prop where
  mo : Mo te
  run : ∀ (Z : Zx) (ex : Nat → List Sl → ω → Prop), Takes X (WXz X.K W Z ex) → PE X e (liF X.K W Z ex te)
structure PTZ (e : Expr) (te : TTZ ω) : Prop where
  mo : Mo te
  run : ∀ (Z : Zx) (ex : Nat → List Sl → ω → Prop), Takes X (WXz X.K W Z ex) → PT X e (liT X.K W Z ex te)
structure PWZ (e : Expr) (te : TTZ ω) : Prop where
  mo : Mo te
  run : ∀ (Z : Zx) (ex : Nat → List Sl → ω → Prop), Takes X (WXz X.K W Z ex) → PW X e (liT X.K W Z ex te)
structure PAZ (es : List Expr) (te : TAZ ω) : Prop where
  mo : Mo te
  run : ∀ (Z : Zx) (ex : Nat → List Sl → ω → Prop), Takes X (WXz X.K W Z ex) → PA X es (liA X.K W Z ex te)
def PSZ (st : Stmt) (ts : TSZ ω) : Prop := ∀ (Z : Zx) (ex : Nat → List Sl → ω → Prop), Takes X (WXz X.K W Z ex) → PS X st (liS X.K W Z ex ts)
def PBZ (st : List Stmt) (ts : TSZ ω) : Prop := ∀ (Z : Zx) (ex : Nat → List Sl → ω → Prop), Takes X (WXz X.K W Z ex) → PSs X st (liS X.K W Z ex ts)
end
theorem peI {X : Cx} {e : Expr} {t u : TE} (h : PE X e u) (i : ∀ σ H Q, t σ H Q → u σ H Q) : PE X e t := ⟨fun pins s σ H Q I q => h.run pins s σ H Q I (i _ _ _ q)⟩
theorem ptI {X : Cx} {e : Expr} {t u : TT} (h : PT X e u) (i : ∀ σ H Q, t σ H Q → u σ H Q) : PT X e t := ⟨fun pins s σ H Q I q => h.run pins s σ H Q I (i _ _ _ q)⟩
theorem pwI {X : Cx} {e : Expr} {t u : TT} (h : PW X e u) (i : ∀ σ H Q, t σ H Q → u σ H Q) : PW X e t := ⟨fun wh pins s σ H Q I q => h.run wh pins s σ H Q I (i _ _ _ q)⟩
theorem paI {X : Cx} {e : List Expr} {t u : TA} (h : PA X e u) (i : ∀ σ H Q, t σ H Q → u σ H Q) : PA X e t := ⟨fun pos pins s σ H Q I q => h.run pos pins s σ H Q I (i _ _ _ q)⟩
theorem psI {X : Cx} {e : Stmt} {t u : TS} (h : PS X e u) (i : ∀ D σ H, t D σ H → u D σ H) : PS X e t := ⟨fun pins s σ H D I q => h.run pins s σ H D I (i _ _ _ q)⟩
theorem pbI {X : Cx} {e : List Stmt} {t u : TS} (h : PSs X e u) (i : ∀ D σ H, t D σ H → u D σ H) : PSs X e t := ⟨fun pins s σ H D I q => h.run pins s σ H D I (i _ _ _ q)⟩

/-! ### names, constants -/
def zVar (i : Nat) : TEZ ω := fun δ w Q _ => match δ[i]? with | some (.val d) => Q d w | _ => False
def zK (d : D) : TEZ ω := fun _ w Q _ => Q d w
section
variable {X : Cx} {W : Wp ω} {pos : Pos}
theorem zVar_some {i : Nat} {δ : List Sl} {w : ω} {Q : D → ω → Prop} {E : Nat → ω → Prop} (h : zVar i δ w Q E) : ∃ d, δ[i]? = some (.val d) ∧ Q d w := by
  unfold zVar at h
  split at h
  · rename_i d e; exact ⟨d, e, h⟩
  · exact h.elim
theorem z_var (i : Nat) {x : Str} (hN : X.N[i]? = some x := by rfl) (hv : Vis X.env.scope x := by first | exact Or.inl rfl | exact Or.inr (Or.inl rfl) | exact Or.inr (Or.inr rfl)) (hd : (x == ("__debug__" : Str)) = false := by decide)
    (hcd : (x == ("__classdict__" : Str)) = false := by decide) : PEZ X W (.Name x pos) (zVar i) := ⟨fun k h => by
  obtain ⟨d, e, q⟩ := zVar_some h
  unfold zVar
  rw [e]
  exact k _ _ q, fun Z ex tk => peI (pe_var hN hv hd hcd) fun σ H Q ⟨G, M, δ, w, a, h⟩ => by
  obtain ⟨d, e, q⟩ := zVar_some h
  obtain ⟨v, h1, h2⟩ := a.sl i _ e
  exact ⟨v, h1, q v H G M a.here h2⟩⟩
theorem z_k {e : Expr} {v : V} {d : D} (h : PE X e (tC v)) (r : ∀ G, Rep X.K G v d) : PEZ X W e (zK d) := ⟨fun k h => k _ _ h, fun Z ex tk => peI h fun σ H Q ⟨G, M, δ, w, a, h⟩ => h v H G M a.here (r G)⟩
theorem z_int {i : Int} {j : Nat} : PEZ X W (.Constant (.int i) j pos) (zK (.int i)) := z_k pe_int fun _ => .int i
theorem z_bl {b : Bool} {j : Nat} : PEZ X W (.Constant (.bool b) j pos) (zK (.bl b)) := z_k pe_bl fun _ => .bl b
theorem z_non {j : Nat} : PEZ X W (.Constant .none j pos) (zK .non) := z_k pe_non fun _ => .non
theorem z_str {x : Str} {j : Nat} : PEZ X W (.Constant (.str x) j pos) (zK (.str x)) := z_k pe_str fun _ => .str x
theorem z_globS {x y : Str} {t : Tok} (hm : X.mg x = some (.str y t)) (hg : Gl X x := by rfl) (hd : (x == ("__debug__" : Str)) = false := by decide) : PEZ X W (.Name x pos) (zK (.str y)) := z_k (pe_glob (v := .str y) hg hm ⟨_, rfl⟩ hd) fun _ => .str y
end

/-! ### arguments, displays -/
def zNil : TAZ ω := fun _ w Q _ => Q [] w
def zCons (ta : TEZ ω) (tr : TAZ ω) : TAZ ω := fun δ w Q E => ta δ w (fun x w1 => tr δ w1 (fun l w2 => Q (x :: l) w2) E) E
def zTup (ta : TAZ ω) : TEZ ω := fun δ w Q E => ta δ w (fun l w1 => l.length ≤ 100000 ∧ Q (.tup l) w1) E
def zLst (ta : TAZ ω) : TAZ ω := fun δ w Q E => ta δ w (fun l w1 => l.length ≤ 100000 ∧ Q l w1) E
/-- a new list, standing still from now on -/
def zFz (ta : TAZ ω) : TEZ ω := fun δ w Q E => ta δ w (fun l w1 => Q (.lst l) w1) E
section
variable {X : Cx} {W : Wp ω} {pos : Pos} {e : Expr} {es : List Expr} {ta te : TEZ ω} {tr t : TAZ ω}
theorem sz1 {n : Nat} (h : n ≤ 100000) : n ≤ sizeLine := Nat.le_trans h (by rw [sizeLine_eq]; decide)
theorem z_nil : PAZ X W [] zNil := ⟨fun k h => k _ _ h, fun Z ex tk => paI pa_nil fun σ H Q ⟨G, M, δ, w, a, h⟩ => h [] H G M a.here .nil⟩
theorem z_cons (ha : PEZ X W e ta) (hr : PAZ X W es tr) (hs : starEach (e :: es) X.env = (false, eval e X.env) :: starEach es X.env := by rfl) : PAZ X W (e :: es) (zCons ta tr) :=
  ⟨fun k h => ha.mo (fun _ _ h1 => hr.mo (fun _ _ h2 => k _ _ h2) h1) h, fun Z ex tk => paI (pa_cons (ha.run Z ex tk) (hr.run Z ex tk) hs) fun σ H Q ⟨G, M, δ, w, a, h⟩ =>
    ⟨G, M, δ, w, a, ha.mo (fun d w1 h1 v H1 G1 M1 o1 r1 => ⟨G1, M1, δ, w1, a.go o1, hr.mo (fun l w2 h2 vs H2 G2 M2 o2 r2 => h2 (v :: vs) H2 G2 M2 (o1.tr o2) (.cons (r1.up o2.nx.gg) r2)) h1⟩) h⟩⟩
theorem newOf {K : PySem.W.Frag} {W : Wp ω} {Z : Zx} {σ : L2.St} {H G M : Hp} {δ : List Sl} {w : ω} (a : SR K W Z σ H G M δ w) {p : Addr} (h : H p = none) : Z.H0 p = none ∧ ∀ (j : Nat) (m : List D), δ[j]? = some (Sl.own m) → σ[j]? ≠ some (some (V.ref p)) := by
  refine ⟨a.nx.back a.pt.mh h, fun j m e z => ?_⟩
  obtain ⟨p', vs, h1, h2, _⟩ := a.sl j _ e
  rw [z] at h1
  cases h1
  rw [h] at h2
  cases h2
theorem Go.new {W : Wp ω} {H G M H' G' M' : Hp} {w : ω} (a : Go W H G M H' G' M' w) {p : Addr} {o : HO} (h : H' p = none) : Go W H G M (upd H' p o) (upd G' p o) M' w := ⟨a.pt.new h, a.nx.tr (Nx.new a.pt h) a.pt.mh⟩
theorem Go.ext {W : Wp ω} {H G M H' G' M' : Hp} {w : ω} (a : Go W H G M H' G' M' w) {p : Addr} {o : HO} (h : H' p = none) : Ext G' (upd G' p o) := Ext.new (a.pt.gh.none' h)
/-- a list of our own laid at p: the state knows nothing of it -/
theorem Go.laid {W : Wp ω} {H G M H' G' M' : Hp} {w : ω} (a : Go W H G M H' G' M' w) {p : Addr} {o : HO} (h : H' p = none) : Go W H G M (upd H' p o) G' M' w := by
  have up : ∀ q x, H' q = some x → upd H' p o q = some x := fun q x e => by rw [upd_ne (ne_of_none e h)]; exact e
  exact ⟨⟨fun q x e => up q x (a.pt.gh q x e), fun q x e => up q x (a.pt.mh q x e), a.pt.dj, a.pt.wd⟩, ⟨a.nx.gg, fun q x e m => up q x (a.nx.fr q x e m), a.nx.gn, a.nx.mn, a.nx.m0⟩⟩
theorem NewAt.of {W : Wp ω} {H G M H' G' M' : Hp} {w : ω} (a : Go W H G M H' G' M' w) (b : Ext M H) {p : Addr} {vs : List V} (h : H' p = none) : NewAt H (upd H' p (.lst vs)) G' M' p vs := ⟨a.nx.back a.pt.mh h, upd_same, a.pt.gh.none' h, a.pt.mh.none' h⟩
/-- what is new stands still from now on -/
theorem Go.still {W : Wp ω} {H G M H' G' M' : Hp} {w : ω} (a : Go W H G M H' G' M' w) {p : Addr} {vs : List V} (n : NewAt H H' G' M' p vs) : Go W H G M H' (upd G' p (.lst vs)) M' w ∧ Ext G' (upd G' p (.lst vs)) := by
  obtain ⟨n0, n1, n2, n3⟩ := n
  have gg : Ext G' (upd G' p (.lst vs)) := Ext.new n2
  have cs : ∀ q x, upd G' p (.lst vs) q = some x → (q = p ∧ x = .lst vs) ∨ G' q = some x := fun q x e => by
    by_cases z : q = p
    · subst z; rw [upd_same] at e; cases e; exact .inl ⟨rfl, rfl⟩
    · rw [upd_ne z] at e; exact .inr e
  refine ⟨⟨⟨fun q x e => ?_, a.pt.mh, fun q x e => ?_, W.mono gg a.pt.wd⟩, ⟨a.nx.gg.tr gg, a.nx.fr, fun q x e e' => ?_, a.nx.mn, a.nx.m0⟩⟩, gg⟩
  · rcases cs q x e with ⟨rfl, rfl⟩ | e
    · exact n1
    · exact a.pt.gh q x e
  · rcases cs q x e with ⟨rfl, rfl⟩ | e
    · exact n3
    · exact a.pt.dj q x e
  · rcases cs q x e with ⟨rfl, rfl⟩ | e
    · exact n0
    · exact a.nx.gn q x e e'
theorem z_fz (h : PFZ X W e t) : PEZ X W e (zFz t) := ⟨fun k q => h.mo (fun _ _ q1 => k _ _ q1) q, fun Z ex tk => peI (h.run Z ex tk) fun σ H Q ⟨G, M, δ, w, a, q⟩ =>
  ⟨G, M, δ, w, a, h.mo (fun l w1 q1 p vs H1 G1 M1 o1 r1 n1 => by
    obtain ⟨a2, g2⟩ := o1.still n1
    exact q1 (.ref p) H1 _ M1 a2 (.lst upd_same (r1.up g2))) q⟩⟩
theorem z_tup {j : Nat} (h : PAZ X W es t) : PEZ X W (.Tuple es j pos) (zTup t) := ⟨fun k q => h.mo (fun _ _ ⟨q0, q1⟩ => ⟨q0, k _ _ q1⟩) q, fun Z ex tk => peI (pe_tup (h.run Z ex tk)) fun σ H Q ⟨G, M, δ, w, a, q⟩ =>
  ⟨G, M, δ, w, a, h.mo (fun l w1 ⟨q0, q1⟩ vs H1 G1 M1 o1 r1 => ⟨sz1 (by rw [r1.len]; exact q0), fun p hp =>
    q1 (.ref p) _ _ _ (o1.new (o := .tup vs) hp) (.tup (SqT.of upd_same) (r1.up (o1.ext hp)))⟩) q⟩⟩
theorem z_lst (h : PAZ X W es t) : PFZ X W (.List es pos) (zLst t) := ⟨fun k q => h.mo (fun _ _ ⟨q0, q1⟩ => ⟨q0, k _ _ q1⟩) q, fun Z ex tk => peI (pe_lst (h.run Z ex tk)) fun σ H Q ⟨G, M, δ, w, a, q⟩ =>
  ⟨G, M, δ, w, a, h.mo (fun l w1 ⟨q0, q1⟩ vs H1 G1 M1 o1 r1 => ⟨sz1 (by rw [r1.len]; exact q0), fun p hp => q1 p vs _ _ _ (o1.laid hp) r1 (.of o1 a.pt.mh hp)⟩) q⟩⟩
end

/-! ### operators -/
abbrev OpD := D → D → (D → Prop) → Prop
/-- the operator's rule over values, read over plain data -/
structure Lnd (K : PySem.W.Frag) (rv : R2) (r : OpD) : Prop where
  mo : ∀ {x y : D} {q q' : D → Prop}, (∀ d, q d → q' d) → r x y q → r x y q'
  go : ∀ (H G : Hp) (x y : V) (dx dy : D) (q : D → Prop) (Q : VK), Ext G H → Rep K G x dx → Rep K G y dy → r dx dy q →
    (∀ d v, q d → Rep K G v d → Q v H) → (∀ l vs p, q (.tup l) → H p = none → RepL K G vs l → Q (.ref p) (upd H p (.tup vs))) → rv x y H Q
def zOp (r : OpD) (ta tb : TEZ ω) : TEZ ω := fun δ w Q E => ta δ w (fun x w1 => tb δ w1 (fun y w2 => r x y fun z => Q z w2) E) E
section
variable {X : Cx} {W : Wp ω} {pos : Pos} {a b c : Expr} {ta tb tc : TEZ ω} {rv : R2} {r : OpD}
theorem zop_mo (hl : Lnd X.K rv r) (ha : PEZ X W a ta) (hb : PEZ X W b tb) : Mo (zOp r ta tb) := fun k h => ha.mo (fun _ _ h1 => hb.mo (fun _ _ h2 => hl.mo (fun d q => k d _ q) h2) h1) h
theorem zop_core (hl : Lnd X.K rv r) (ha : PEZ X W a ta) (hb : PEZ X W b tb) {Z : Zx} {ex : Nat → List Sl → ω → Prop} {σ : L2.St} {H : Hp} {Q : VK} (h : liE X.K W Z ex (zOp r ta tb) σ H Q) : tOp rv (liE X.K W Z ex ta) (liE X.K W Z ex tb) σ H Q := by
  obtain ⟨G, M, δ, w, a0, h⟩ := h
  exact ⟨G, M, δ, w, a0, ha.mo (fun d w1 h1 v H1 G1 M1 o1 r1 => ⟨G1, M1, δ, w1, a0.go o1, hb.mo (fun d2 w2 h2 v2 H2 G2 M2 o2 r2 =>
    hl.go H2 G2 v v2 d d2 _ Q o2.pt.gh (r1.up o2.nx.gg) r2 h2 (fun d3 v3 q3 r3 => q3 v3 H2 G2 M2 (o1.tr o2) r3) (fun l vs p q3 hp r3 =>
      q3 (.ref p) _ _ _ ((o1.tr o2).new hp) (.tup (SqT.of upd_same) (r3.up (o2.ext hp))))) h1⟩) h⟩
theorem z_op {op : Operator} (ho : OpR X (binaryOp op) rv) (hl : Lnd X.K rv r) (ha : PEZ X W a ta) (hb : PEZ X W b tb) : PEZ X W (.BinOp a op b pos) (zOp r ta tb) :=
  ⟨zop_mo hl ha hb, fun Z ex tk => peI (pe_op ho (ha.run Z ex tk) (hb.run Z ex tk)) fun σ H Q h => zop_core hl ha hb h⟩
theorem z_ix (ho : IxR X rv) (hl : Lnd X.K rv r) (ha : PEZ X W a ta) (hb : PEZ X W b tb) (hs : PlainIx b := by exact fun _ _ => rfl) : PEZ X W (.Subscript a b pos) (zOp r ta tb) :=
  ⟨zop_mo hl ha hb, fun Z ex tk => peI (pe_ix ho (ha.run Z ex tk) (hb.run Z ex tk) hs) fun σ H Q h => zop_core hl ha hb h⟩
/-- a comparison as a value, as a test -/
theorem z_cmp {op : CmpOp} (ho : OpR X (compareOp op) rv) (hl : Lnd X.K rv r) (ha : PEZ X W a ta) (hb : PEZ X W b tb) (hm : behindInMarks op b = false := by first | exact nomark _ | rfl) : PEZ X W (.Compare a [op] [b] pos) (zOp r ta tb) :=
  ⟨zop_mo hl ha hb, fun Z ex tk => peI (pe_cmpR ho (ha.run Z ex tk) (hb.run Z ex tk) hm) fun σ H Q h => zop_core hl ha hb h⟩
def zB (te : TEZ ω) : TTZ ω := fun δ w Q E => te δ w (fun d w1 => match d with | .bl b => Q b w1 | _ => False) E
theorem zB_mo {te : TEZ ω} (h : Mo te) : Mo (zB te) := fun k q => h (fun d w1 q1 => by
  cases d with
  | bl b => exact k b w1 q1
  | _ => exact False.elim q1) q
theorem zB_core {te : TEZ ω} (h : Mo te) {K : PySem.W.Frag} {Z : Zx} {ex : Nat → List Sl → ω → Prop} {σ : L2.St} {H : Hp} {Q : Bool → Hp → Prop} (q : liT K W Z ex (zB te) σ H Q) : liE K W Z ex te σ H fun x H1 => ∃ k, x = .bl k ∧ Q k H1 := by
  obtain ⟨G, M, δ, w, a, q⟩ := q
  refine ⟨G, M, δ, w, a, h (fun d w1 q1 v H1 G1 M1 o1 r1 => ?_) q⟩
  cases d with
  | bl b =>
    cases r1
    exact ⟨b, rfl, q1 H1 G1 M1 o1⟩
  | _ => exact False.elim q1
theorem z_tcmp {op : CmpOp} (ho : OpR X (compareOp op) rv) (hl : Lnd X.K rv r) (ha : PEZ X W a ta) (hb : PEZ X W b tb) (hm : behindInMarks op b = false := by first | exact nomark _ | rfl) : PTZ X W (.Compare a [op] [b] pos) (zB (zOp r ta tb)) :=
  ⟨zB_mo (te := zOp r ta tb) (zop_mo hl ha hb), fun Z ex tk => ptI (pt_cmpR ho (ha.run Z ex tk) (hb.run Z ex tk) hm) fun σ H Q h => zop_core hl ha hb (zB_core (te := zOp r ta tb) (zop_mo hl ha hb) h)⟩
/-- any expression that gives a truth -/
theorem z_tval (ha : PEZ X W a ta) (he : ∀ whole, isTrue a X.env whole = (do let v ← whole; standAt a.pos; holding [v] (truthy v)) := by intro _; rfl) : PTZ X W a (zB ta) :=
  ⟨zB_mo (te := ta) ha.mo, fun Z ex tk => ptI (pt_val (ha.run Z ex tk) he) fun σ H Q h => zB_core (te := ta) ha.mo h⟩
/-- a op b op c -/
def zCh (r r' : OpD) (ta tb tc : TEZ ω) : TEZ ω := fun δ w Q E => ta δ w (fun x w1 => tb δ w1 (fun y w2 => r x y fun z => match z with
  | .bl k => (k = true → tc δ w2 (fun u w3 => r' y u fun z' => Q z' w3) E) ∧ (k = false → Q (.bl false) w2)
  | _ => False) E) E
theorem zch_mo {rv rv' : R2} {r r' : OpD} (hl : Lnd X.K rv r) (hl' : Lnd X.K rv' r') (ha : PEZ X W a ta) (hb : PEZ X W b tb) (hc : PEZ X W c tc) : Mo (zCh r r' ta tb tc) := fun k h => ha.mo (fun _ _ h1 => hb.mo (fun _ _ h2 => hl.mo (fun d q => by
  cases d with
  | bl b => exact ⟨fun e => hc.mo (fun _ _ h3 => hl'.mo (fun d q => k d _ q) h3) (q.1 e), fun e => k _ _ (q.2 e)⟩
  | _ => exact q) h2) h1) h
theorem zch_core {rv rv' : R2} {r r' : OpD} (hl : Lnd X.K rv r) (hl' : Lnd X.K rv' r') (ha : PEZ X W a ta) (hb : PEZ X W b tb) (hc : PEZ X W c tc) {Z : Zx} {ex : Nat → List Sl → ω → Prop} {σ : L2.St} {H : Hp} {Q : VK} (h : liE X.K W Z ex (zCh r r' ta tb tc) σ H Q) :
    tChain rv rv' (liE X.K W Z ex ta) (liE X.K W Z ex tb) (liE X.K W Z ex tc) σ H Q := by
  obtain ⟨G, M, δ, w, a0, h⟩ := h
  exact ⟨G, M, δ, w, a0, ha.mo (fun d w1 h1 v H1 G1 M1 o1 r1 => ⟨G1, M1, δ, w1, a0.go o1, hb.mo (fun d2 w2 h2 v2 H2 G2 M2 o2 r2 =>
    hl.go H2 G2 v v2 d d2 _ _ o2.pt.gh (r1.up o2.nx.gg) r2 h2 (fun d3 v3 q3 r3 => by
      cases d3 with
      | bl k =>
        cases r3
        refine ⟨k, rfl, ?_⟩
        cases k with
        | true =>
          rw [if_pos rfl]
          exact ⟨G2, M2, δ, w2, a0.go (o1.tr o2), hc.mo (fun d4 w4 h4 v4 H4 G4 M4 o4 r4 => hl'.go H4 G4 v2 v4 d2 d4 _ Q o4.pt.gh (r2.up o4.nx.gg) r4 h4 (fun d5 v5 q5 r5 => q5 v5 H4 G4 M4 ((o1.tr o2).tr o4) r5) (fun l vs p q5 hp r5 =>
            q5 (.ref p) _ _ _ (((o1.tr o2).tr o4).new hp) (.tup (SqT.of upd_same) (r5.up (o4.ext hp))))) (q3.1 rfl)⟩
        | false =>
          rw [if_neg Bool.false_ne_true]
          exact q3.2 rfl (.bl false) H2 G2 M2 (o1.tr o2) (.bl false)
      | _ => exact False.elim q3) (fun l vs p q3 hp r3 => False.elim q3)) h1⟩) h⟩
theorem z_ch {op op' : CmpOp} {rv' : R2} {r' : OpD} (ho : OpR X (compareOp op) rv) (ho' : OpR X (compareOp op') rv') (hl : Lnd X.K rv r) (hl' : Lnd X.K rv' r') (ha : PEZ X W a ta) (hb : PEZ X W b tb) (hc : PEZ X W c tc)
    (hm : lastMarks [op, op'] [b, c] = false := by with_unfolding_all rfl) : PEZ X W (.Compare a [op, op'] [b, c] pos) (zCh r r' ta tb tc) :=
  ⟨zch_mo hl hl' ha hb hc, fun Z ex tk => peI (pe_chain ho ho' (ha.run Z ex tk) (hb.run Z ex tk) (hc.run Z ex tk) hm) fun σ H Q h => zch_core hl hl' ha hb hc h⟩
theorem z_tch {op op' : CmpOp} {rv' : R2} {r' : OpD} (ho : OpR X (compareOp op) rv) (ho' : OpR X (compareOp op') rv') (hl : Lnd X.K rv r) (hl' : Lnd X.K rv' r') (ha : PEZ X W a ta) (hb : PEZ X W b tb) (hc : PEZ X W c tc)
    (hm : lastMarks [op, op'] [b, c] = false := by with_unfolding_all rfl) : PTZ X W (.Compare a [op, op'] [b, c] pos) (zB (zCh r r' ta tb tc)) :=
  ⟨zB_mo (te := zCh r r' ta tb tc) (zch_mo hl hl' ha hb hc), fun Z ex tk => ptI (pt_chain ho ho' (ha.run Z ex tk) (hb.run Z ex tk) (hc.run Z ex tk) hm) fun σ H Q h => zch_core hl hl' ha hb hc (zB_core (te := zCh r r' ta tb tc) (zch_mo hl hl' ha hb hc) h)⟩
/-- one operand -/
structure Lnd1 (K : PySem.W.Frag) (rv : V → Hp → VK → Prop) (r : D → (D → Prop) → Prop) : Prop where
  mo : ∀ {x : D} {q q' : D → Prop}, (∀ d, q d → q' d) → r x q → r x q'
  go : ∀ (H G : Hp) (x : V) (dx : D) (q : D → Prop) (Q : VK), Ext G H → Rep K G x dx → r dx q → (∀ d v, q d → Rep K G v d → Q v H) → rv x H Q
def zUn (r : D → (D → Prop) → Prop) (ta : TEZ ω) : TEZ ω := fun δ w Q E => ta δ w (fun x w1 => r x fun z => Q z w1) E
theorem z_un {op : UnaryOp} {rv : V → Hp → VK → Prop} {r : D → (D → Prop) → Prop} (ho : UnR X (unaryOp op) rv) (hl : Lnd1 X.K rv r) (ha : PEZ X W a ta) : PEZ X W (.UnaryOp op a pos) (zUn r ta) :=
  ⟨fun k h => ha.mo (fun _ _ h1 => hl.mo (fun d q => k d _ q) h1) h, fun Z ex tk => peI (pe_un ho (ha.run Z ex tk)) fun σ H Q ⟨G, M, δ, w, a0, h⟩ =>
    ⟨G, M, δ, w, a0, ha.mo (fun d w1 h1 v H1 G1 M1 o1 r1 => hl.go H1 G1 v d _ Q o1.pt.gh r1 h1 fun d3 v3 q3 r3 => q3 v3 H1 G1 M1 o1 r3) h⟩⟩
end

/-! ### and, or, not, if-else -/
def zAnd (t u : TTZ ω) : TTZ ω := fun δ w Q E => t δ w (fun b w1 => (b = true → u δ w1 Q E) ∧ (b = false → Q false w1)) E
def zOr (t u : TTZ ω) : TTZ ω := fun δ w Q E => t δ w (fun b w1 => (b = true → Q true w1) ∧ (b = false → u δ w1 Q E)) E
def zNot (t : TTZ ω) : TTZ ω := fun δ w Q E => t δ w (fun b w1 => Q (!b) w1) E
def zAndV (t u : TEZ ω) : TEZ ω := fun δ w Q E => t δ w (fun d w1 => match d with | .bl b => (b = true → u δ w1 Q E) ∧ (b = false → Q (.bl false) w1) | _ => False) E
def zOrV (t u : TEZ ω) : TEZ ω := fun δ w Q E => t δ w (fun d w1 => match d with | .bl b => (b = true → Q (.bl true) w1) ∧ (b = false → u δ w1 Q E) | _ => False) E
def zNotV (t : TEZ ω) : TEZ ω := fun δ w Q E => t δ w (fun d w1 => match d with | .bl b => Q (.bl (!b)) w1 | _ => False) E
def zIfE (t : TTZ ω) (ta tb : TEZ ω) : TEZ ω := fun δ w Q E => t δ w (fun b w1 => (b = true → ta δ w1 Q E) ∧ (b = false → tb δ w1 Q E)) E
section
variable {X : Cx} {W : Wp ω} {pos : Pos} {a b c : Expr} {rest : List Expr} {t u : TTZ ω} {ta tb : TEZ ω}
theorem z_and1 (h : PTZ X W a t) : PWZ X W (.BoolOp .And [a] pos) t := ⟨h.mo, fun Z ex tk => pw_and1 (h.run Z ex tk)⟩
theorem z_or1 (h : PTZ X W a t) : PWZ X W (.BoolOp .Or [a] pos) t := ⟨h.mo, fun Z ex tk => pw_or1 (h.run Z ex tk)⟩
theorem z_and (h : PTZ X W a t) (g : PWZ X W (.BoolOp .And (b :: rest) pos) u) : PWZ X W (.BoolOp .And (a :: b :: rest) pos) (zAnd t u) :=
  ⟨fun k q => h.mo (fun _ _ q1 => ⟨fun e => g.mo k (q1.1 e), fun e => k _ _ (q1.2 e)⟩) q, fun Z ex tk => pwI (pw_and (h.run Z ex tk) (g.run Z ex tk)) fun σ H Q ⟨G, M, δ, w, a0, q⟩ =>
    ⟨G, M, δ, w, a0, h.mo (fun k w1 q1 H1 G1 M1 o1 => by
      cases k with
      | true =>
        rw [if_pos rfl]
        exact ⟨G1, M1, δ, w1, a0.go o1, g.mo (fun k2 w2 q2 H2 G2 M2 o2 => q2 H2 G2 M2 (o1.tr o2)) (q1.1 rfl)⟩
      | false =>
        rw [if_neg Bool.false_ne_true]
        exact q1.2 rfl H1 G1 M1 o1) q⟩⟩
theorem z_or (h : PTZ X W a t) (g : PWZ X W (.BoolOp .Or (b :: rest) pos) u) : PWZ X W (.BoolOp .Or (a :: b :: rest) pos) (zOr t u) :=
  ⟨fun k q => h.mo (fun _ _ q1 => ⟨fun e => k _ _ (q1.1 e), fun e => g.mo k (q1.2 e)⟩) q, fun Z ex tk => pwI (pw_or (h.run Z ex tk) (g.run Z ex tk)) fun σ H Q ⟨G, M, δ, w, a0, q⟩ =>
    ⟨G, M, δ, w, a0, h.mo (fun k w1 q1 H1 G1 M1 o1 => by
      cases k with
      | true =>
        rw [if_pos rfl]
        exact q1.1 rfl H1 G1 M1 o1
      | false =>
        rw [if_neg Bool.false_ne_true]
        exact ⟨G1, M1, δ, w1, a0.go o1, g.mo (fun k2 w2 q2 H2 G2 M2 o2 => q2 H2 G2 M2 (o1.tr o2)) (q1.2 rfl)⟩) q⟩⟩
theorem z_pw (h : PWZ X W a t) : PTZ X W a t := ⟨h.mo, fun Z ex tk => (h.run Z ex tk).pt⟩
theorem z_not (h : PTZ X W a t) : PTZ X W (.UnaryOp .Not a pos) (zNot t) :=
  ⟨fun k q => h.mo (fun _ _ q1 => k _ _ q1) q, fun Z ex tk => ptI (pt_not (h.run Z ex tk)) fun σ H Q ⟨G, M, δ, w, a0, q⟩ => ⟨G, M, δ, w, a0, h.mo (fun k w1 q1 H1 G1 M1 o1 => q1 H1 G1 M1 o1) q⟩⟩
theorem blMo {Q Q' : D → ω → Prop} {w : ω} {f g : Bool → ω → Prop} {d : D} (k : ∀ b, f b w → g b w) (h : match d with | .bl b => f b w | _ => False) : match d with | .bl b => g b w | _ => False := by
  cases d with
  | bl b => exact k b h
  | _ => exact h
theorem z_one {op : BoolOp} (h : PEZ X W a ta) : PEZ X W (.BoolOp op [a] pos) ta := ⟨h.mo, fun Z ex tk => pe_one (h.run Z ex tk)⟩
theorem z_andV (h : PEZ X W a ta) (g : PEZ X W (.BoolOp .And (b :: rest) pos) tb) : PEZ X W (.BoolOp .And (a :: b :: rest) pos) (zAndV ta tb) :=
  ⟨fun k q => h.mo (fun d w1 q1 => by
    cases d with
    | bl b => exact ⟨fun e => g.mo k (q1.1 e), fun e => k _ _ (q1.2 e)⟩
    | _ => exact q1) q, fun Z ex tk => peI (pe_and (h.run Z ex tk) (g.run Z ex tk)) fun σ H Q ⟨G, M, δ, w, a0, q⟩ =>
    ⟨G, M, δ, w, a0, h.mo (fun d w1 q1 v H1 G1 M1 o1 r1 => by
      cases d with
      | bl k =>
        cases r1
        refine ⟨k, rfl, ?_⟩
        cases k with
        | true =>
          rw [if_pos rfl]
          exact ⟨G1, M1, δ, w1, a0.go o1, g.mo (fun d2 w2 q2 v2 H2 G2 M2 o2 r2 => q2 v2 H2 G2 M2 (o1.tr o2) r2) (q1.1 rfl)⟩
        | false =>
          rw [if_neg Bool.false_ne_true]
          exact q1.2 rfl (.bl false) H1 G1 M1 o1 (.bl false)
      | _ => exact False.elim q1) q⟩⟩
theorem z_orV (h : PEZ X W a ta) (g : PEZ X W (.BoolOp .Or (b :: rest) pos) tb) : PEZ X W (.BoolOp .Or (a :: b :: rest) pos) (zOrV ta tb) :=
  ⟨fun k q => h.mo (fun d w1 q1 => by
    cases d with
    | bl b => exact ⟨fun e => k _ _ (q1.1 e), fun e => g.mo k (q1.2 e)⟩
    | _ => exact q1) q, fun Z ex tk => peI (pe_or (h.run Z ex tk) (g.run Z ex tk)) fun σ H Q ⟨G, M, δ, w, a0, q⟩ =>
    ⟨G, M, δ, w, a0, h.mo (fun d w1 q1 v H1 G1 M1 o1 r1 => by
      cases d with
      | bl k =>
        cases r1
        refine ⟨k, rfl, ?_⟩
        cases k with
        | true =>
          rw [if_pos rfl]
          exact q1.1 rfl (.bl true) H1 G1 M1 o1 (.bl true)
        | false =>
          rw [if_neg Bool.false_ne_true]
          exact ⟨G1, M1, δ, w1, a0.go o1, g.mo (fun d2 w2 q2 v2 H2 G2 M2 o2 r2 => q2 v2 H2 G2 M2 (o1.tr o2) r2) (q1.2 rfl)⟩
      | _ => exact False.elim q1) q⟩⟩
theorem z_notV (h : PEZ X W a ta) : PEZ X W (.UnaryOp .Not a pos) (zNotV ta) :=
  ⟨fun k q => h.mo (fun d w1 q1 => by
    cases d with
    | bl b => exact k _ _ q1
    | _ => exact q1) q, fun Z ex tk => peI (pe_not (h.run Z ex tk)) fun σ H Q ⟨G, M, δ, w, a0, q⟩ =>
    ⟨G, M, δ, w, a0, h.mo (fun d w1 q1 v H1 G1 M1 o1 r1 => by
      cases d with
      | bl k =>
        cases r1
        exact ⟨k, rfl, q1 (.bl (!k)) H1 G1 M1 o1 (.bl (!k))⟩
      | _ => exact False.elim q1) q⟩⟩
theorem z_ifE (hc : PTZ X W c t) (h : PEZ X W a ta) (g : PEZ X W b tb) : PEZ X W (.IfExp c a b pos) (zIfE t ta tb) :=
  ⟨fun k q => hc.mo (fun _ _ q1 => ⟨fun e => h.mo k (q1.1 e), fun e => g.mo k (q1.2 e)⟩) q, fun Z ex tk => peI (pe_ifExp (hc.run Z ex tk) (h.run Z ex tk) (g.run Z ex tk)) fun σ H Q ⟨G, M, δ, w, a0, q⟩ =>
    ⟨G, M, δ, w, a0, hc.mo (fun k w1 q1 H1 G1 M1 o1 => by
      cases k with
      | true =>
        rw [if_pos rfl]
        exact ⟨G1, M1, δ, w1, a0.go o1, h.mo (fun d2 w2 q2 v2 H2 G2 M2 o2 r2 => q2 v2 H2 G2 M2 (o1.tr o2) r2) (q1.1 rfl)⟩
      | false =>
        rw [if_neg Bool.false_ne_true]
        exact ⟨G1, M1, δ, w1, a0.go o1, g.mo (fun d2 w2 q2 v2 H2 G2 M2 o2 r2 => q2 v2 H2 G2 M2 (o1.tr o2) r2) (q1.2 rfl)⟩) q⟩⟩
end
end Z

namespace Z
open PySem PySem.Spec PyProof.Rows L2
/-! ### range with bounds of any size -/
theorem turn_long {P : Program} {w : World} {K : PySem.W.Frag} {tg : Expr} (it : Addr) (lo : Int) (n : Nat) : Turn P w K tg (Itr lo n) [it] it (fun i h => IsLongIter h it (lo + (i : Nat) * 1) ((n : Int) - (i : Nat)) 1) := by
  refine ⟨by simp, fun i h st b hb => ?_, fun i h h' st k => k it (by simp) _ st, ?_, ?_, fun _ _ _ _ _ st h => wpAny_pyIter_longiter st h⟩
  · have e : b = it := by simpa using hb
    subst e
    refine ⟨_, st, fun v z => ?_⟩
    have z' : Data.fields _ = Data.cell v := z
    cases z'
  · intro X hP hw hK hc i pins s σ H E I hf st hg
    subst hP hw hK
    obtain ⟨f0, f1, f2, f3, f4, f5⟩ := hf it (by simp)
    refine (Walks.longrange (prog := X.prog) (w := X.w) (I.ok.hd hc) it lo 1 n).item i s _ _ hg st fun v h' tk hv st' kk => ?_
    obtain ⟨t, rfl⟩ := hv
    have I1 := I.turned (t' := tk) (h' := h') (fun b o hb e => kk b o (by simpa using hb) e) f0 f1 f3 f4 f5
    refine ⟨_, rfl, go_of (n := "longrange_iterator") st' rfl rfl (by decide) ⟨.int (lo + i), H, I1, ⟨t, by rw [Int.mul_one]⟩, ⟨rfl, rfl⟩, st', fun b hb => (hf b hb).1⟩⟩
  · intro X hP hw hK hc i pins s σ H E I hf st hg
    subst hP hw hK
    obtain ⟨f0, f1, f2, f3, f4, f5⟩ := hf it (by simp)
    exact wpAny_pyNext_long_end (I.ok.hd hc) st (by have : n ≤ i := hg; omega) fun h' eb => ⟨rfl, I.turned (t' := s.toks) (fun b o hb e => eb b o hb e) f0 f1 f3 f4 f5⟩
section
variable {X : Cx} {tg : Expr}
theorem rangeB_it {pins : List (Addr × Obj)} {σ : L2.St} {H : Hp} {s : Shared} {R : It → Hp → Prop} {E : Value → Shared → Prop} {lo hi : Int} {t u v : Tok} {tk : Nat} (I : Inv X pins σ H s)
    (q : R (Itr lo (hi - lo).toNat) H) : wpAny (model X.prog X.w) X.A (pyIter (.ref s.heap.objs.size)) (PIE X pins σ tg R) E { s with heap := s.heap.push { cls := .type "range", data := .fields #[.int lo t, .int hi u, .int 1 v] }, toks := tk } := by
  have I1 := I.kept (h' := s.heap.push { cls := .type "range", data := .fields #[.int lo t, .int hi u, .int 1 v] }) (t' := tk) fun b o e => Heap.get?_push_of_some _ e
  have e1 : lo + ((0 : Nat) : Int) * 1 = lo := by simp
  have e2 : (((hi - lo).toNat : Nat) : Int) - ((0 : Nat) : Int) = Builtin.Range.rangeSize lo hi 1 := by rw [rangeSize_one]; split <;> omega
  cases hs : Builtin.Range.small lo hi 1 with
  | true =>
    refine wpAny_pyIter_range (IsRange.new ..) hs ?_
    refine ⟨_, [_], _, _, H, rfl, I1.kept (t' := tk) fun b o e => Heap.get?_push_of_some _ e, turn_range _ lo (hi - lo).toNat, ?_, fun b hb => ?_, q⟩
    · show IsRangeIter _ _ (lo + ((0 : Nat) : Int) * 1) ((((hi - lo).toNat : Nat) : Int) - ((0 : Nat) : Int)) 1
      rw [e1, e2]
      exact Heap.get?_push_size _ rfl
    · have e := List.mem_singleton.mp hb
      subst e
      exact I1.fpOk (Nat.le_refl _) (I1.hok.fresh (Nat.le_refl _))
  | false =>
    refine wpAny_pyIter_longrange (IsRange.new ..) hs ?_
    refine ⟨_, [_], _, _, H, rfl, I1.kept (t' := tk) fun b o e => Heap.get?_push_of_some _ e, turn_long _ lo (hi - lo).toNat, ?_, fun b hb => ?_, q⟩
    · show IsLongIter _ _ (lo + ((0 : Nat) : Int) * 1) ((((hi - lo).toNat : Nat) : Int) - ((0 : Nat) : Int)) 1
      rw [e1, e2]
      exact Heap.get?_push_size _ rfl
    · have e := List.mem_singleton.mp hb
      subst e
      exact I1.fpOk (Nat.le_refl _) (I1.hok.fresh (Nat.le_refl _))
def iRgB1 (ta : TA) : TI := fun σ H R => ta σ H fun vs H1 => ∃ j : Int, vs = [.int j] ∧ R (Itr 0 j.toNat) H1
def iRgB2 (ta : TA) : TI := fun σ H R => ta σ H fun vs H1 => ∃ i j : Int, vs = [.int i, .int j] ∧ R (Itr i (j - i).toNat) H1
theorem pi_rgB1 {a : Expr} {ta : TA} {p pos : Pos} (hg : Gl X "range") (hm : X.mg "range" = none) (ha : PA X [a] ta) (hs : starEach [a] X.env = [(false, eval a X.env)]) : PI X tg (.Call (.Name "range" p) [a] [] pos) (iRgB1 ta) := by
  refine ⟨fun pins s σ H R I h => Call_ (ld_blt I hg hm boot_range (PyProof.Rows.callWith_type1 (thn (ha.run pos pins s σ H _ I h) fun us s1 ⟨vs, H1, I1, r1, q1⟩ => ?_) hs rfl))⟩
  obtain ⟨j, rfl, q⟩ := q1
  rcases r1 with _ | ⟨⟨t, rfl⟩, _ | _⟩
  exact call_range_1 (rangeB_it I1 (by simpa using q))
theorem pi_rgB2 {a b : Expr} {ta : TA} {p pos : Pos} (hg : Gl X "range") (hm : X.mg "range" = none) (ha : PA X [a, b] ta) (hs : starEach [a, b] X.env = [(false, eval a X.env), (false, eval b X.env)]) (hs2 : starEach [b] X.env = [(false, eval b X.env)]) :
    PI X tg (.Call (.Name "range" p) [a, b] [] pos) (iRgB2 ta) := by
  refine ⟨fun pins s σ H R I h => Call_ (ld_blt I hg hm boot_range (PyProof.Rows.callWith_type1 (thn (ha.run pos pins s σ H _ I h) fun us s1 ⟨vs, H1, I1, r1, q1⟩ => ?_) (by rw [hs, hs2]) (by rw [hs2]; rfl)))⟩
  obtain ⟨i, j, rfl, q⟩ := q1
  rcases r1 with _ | ⟨⟨t, rfl⟩, _ | ⟨⟨t', rfl⟩, _ | _⟩⟩
  exact call_range_2 (rangeB_it I1 q)
end
end Z

namespace Z
open PySem PySem.Spec PyProof.Rows L2
variable {ω : Type}

/-! ### statements -/
def zSeq (t u : TSZ ω) : TSZ ω := fun D δ w => t { D with nx := u D } δ w
def zNx : TSZ ω := fun D δ w => D.nx δ w
def zBk : TSZ ω := fun D δ w => D.bk δ w
def zCt : TSZ ω := fun D δ w => D.ct δ w
def zAsg (i : Nat) (te : TEZ ω) : TSZ ω := fun D δ w => te δ w (fun d w' => D.nx (δ.set i (.val d)) w') (fun e w' => D.ex e δ w')
def zOwn (i : Nat) (te : TAZ ω) : TSZ ω := fun D δ w => te δ w (fun l w' => D.nx (δ.set i (.own l)) w') (fun e w' => D.ex e δ w')
def zFrz (i : Nat) (t : TSZ ω) : TSZ ω := fun D δ w => match δ[i]? with | some (.own l) => t D (δ.set i (.val (.lst l))) w | _ => False
def zRet (te : TEZ ω) : TSZ ω := fun D δ w => te δ w (fun d w' => D.rt d w') (fun e w' => D.ex e δ w')
def zRetN : TSZ ω := fun D _ w => D.rt .non w
def zDrop (te : TEZ ω) : TSZ ω := fun D δ w => te δ w (fun _ w' => D.nx δ w') (fun e w' => D.ex e δ w')
def zIf (c : TTZ ω) (t u : TSZ ω) : TSZ ω := fun D δ w => c δ w (fun b w' => (b = true → t D δ w') ∧ (b = false → u D δ w')) (fun e w' => D.ex e δ w')
def zRaise (e : Nat) : TSZ ω := fun D δ w => D.ex e δ w
def zNever : TSZ ω := fun _ _ _ => False
def zWhile (c : TTZ ω) (t : TSZ ω) : TSZ ω := fun D δ w => ∃ I : Nat → List Sl → ω → Prop, (∃ m, I m δ w) ∧ ∀ m δ w, I m δ w → c δ w (fun b w' =>
  (b = true → t { D with nx := fun δ' w' => ∃ m', m' < m ∧ I m' δ' w', ct := fun δ' w' => ∃ m', m' < m ∧ I m' δ' w', bk := D.nx } δ w') ∧ (b = false → D.nx δ w')) (fun e w' => D.ex e δ w')
section
variable {X : Cx} {W : Wp ω} {pos : Pos} {st : Stmt} {rest : List Stmt} {t u : TSZ ω} {e : Expr} {te : TEZ ω}
theorem zb_nil : PBZ X W [] zNx := fun Z ex tk => pbI pss_nil fun D σ H ⟨Dz, _, EI, h⟩ => EI.nx _ _ h
theorem zb_cons (h : PSZ X W st t) (g : PBZ X W rest u) : PBZ X W (st :: rest) (zSeq t u) := fun Z ex tk => pbI (pss_cons (h Z ex tk) (g Z ex tk)) fun D σ H ⟨Dz, e, EI, h⟩ =>
  ⟨{ Dz with nx := u Dz }, e, ⟨fun σ' H' h' => ⟨Dz, e, EI, h'⟩, EI.bk, EI.ct, EI.rt⟩, h⟩
theorem zb_one (h : PSZ X W st t) : PBZ X W [st] t := fun Z ex tk => pss_one (h Z ex tk)
theorem z_pass : PSZ X W (.Pass pos) zNx := fun Z ex tk => psI ps_pass fun D σ H ⟨Dz, _, EI, h⟩ => EI.nx _ _ h
theorem z_break : PSZ X W (.Break pos) zBk := fun Z ex tk => psI ps_break fun D σ H ⟨Dz, _, EI, h⟩ => EI.bk _ _ h
theorem z_cont : PSZ X W (.Continue pos) zCt := fun Z ex tk => psI ps_continue fun D σ H ⟨Dz, _, EI, h⟩ => EI.ct _ _ h
theorem z_never : PSZ X W st zNever := fun Z ex tk => psI ps_never fun D σ H ⟨Dz, _, EI, G, M, δ, w, a, h⟩ => h
theorem z_set (i : Nat) {x : Str} {pos' : Pos} (he : PEZ X W e te) (hN : X.N.Nodup) (hi : X.N[i]? = some x := by rfl) (hx : Loc X.env.scope x := by first | exact Or.inl rfl | exact Or.inr rfl)
    (hs : swapsWith e (some (.Name x pos')) pos.line X.env = pure false := by rfl) (hf : X.fn x = true ∨ X.env.scope.names.lookup x = some .local := by first | exact .inl rfl | exact .inr rfl) :
    PSZ X W (.Assign [.Name x pos'] e pos) (zAsg i te) := fun Z ex tk => psI (ps_set hN hi hx (he.run Z ex tk) hs hf) fun D σ H ⟨Dz, hex, EI, G, M, δ, w, a, h⟩ => by
  subst hex
  exact ⟨G, M, δ, w, a, he.mo (fun d w1 h1 v H1 G1 M1 o1 r1 => EI.nx _ _ ⟨G1, M1, _, w1, (a.go o1).set r1, h1⟩) h⟩
theorem z_own (i : Nat) {x : Str} {pos' : Pos} {ta : TAZ ω} (he : PFZ X W e ta) (hN : X.N.Nodup) (hi : X.N[i]? = some x := by rfl) (hx : Loc X.env.scope x := by first | exact Or.inl rfl | exact Or.inr rfl)
    (hs : swapsWith e (some (.Name x pos')) pos.line X.env = pure false := by rfl) (hf : X.fn x = true ∨ X.env.scope.names.lookup x = some .local := by first | exact .inl rfl | exact .inr rfl) :
    PSZ X W (.Assign [.Name x pos'] e pos) (zOwn i ta) := fun Z ex tk => psI (ps_set hN hi hx (he.run Z ex tk) hs hf) fun D σ H ⟨Dz, hex, EI, G, M, δ, w, a, h⟩ => by
  subst hex
  exact ⟨G, M, δ, w, a, he.mo (fun l w1 h1 p vs H1 G1 M1 o1 r1 n1 => EI.nx _ _ ⟨G1, M1, _, w1, (a.go o1).setOwn n1.2.1 n1.2.2.1 n1.2.2.2 (newOf a n1.1).1 r1 (newOf a n1.1).2, h1⟩) h⟩
theorem zb_frz (i : Nat) {sts : List Stmt} (h : PBZ X W sts t) : PBZ X W sts (zFrz i t) := fun Z ex tk => pbI (h Z ex tk) fun D σ H ⟨Dz, hex, EI, G, M, δ, w, a, q⟩ => by
  unfold zFrz at q
  split at q
  · rename_i l e
    obtain ⟨G', gg, a'⟩ := a.freeze e
    exact ⟨Dz, hex, EI, G', M, _, w, a', q⟩
  · exact q.elim
theorem z_ret (he : PEZ X W e te) : PSZ X W (.Return (some e) pos) (zRet te) := fun Z ex tk => psI (ps_ret (he.run Z ex tk)) fun D σ H ⟨Dz, hex, EI, G, M, δ, w, a, h⟩ => by
  subst hex
  exact ⟨G, M, δ, w, a, he.mo (fun d w1 h1 v H1 G1 M1 o1 r1 => EI.rt v H1 G1 M1 d w1 o1.pt (a.go o1).nx r1 h1) h⟩
theorem z_retN : PSZ X W (.Return none pos) zRetN := fun Z ex tk => psI ps_retN fun D σ H ⟨Dz, hex, EI, G, M, δ, w, a, h⟩ => EI.rt .non H G M .non w a.pt a.nx .non h
theorem z_drop (he : PEZ X W e te) (hs : swapsWith e none pos.line X.env = pure false := by rfl) : PSZ X W (.Expr e pos) (zDrop te) := fun Z ex tk => psI (ps_expr (he.run Z ex tk) hs) fun D σ H ⟨Dz, hex, EI, G, M, δ, w, a, h⟩ => by
  subst hex
  exact ⟨G, M, δ, w, a, he.mo (fun d w1 h1 v H1 G1 M1 o1 r1 => EI.nx _ _ ⟨G1, M1, δ, w1, a.go o1, h1⟩) h⟩
theorem z_if {c : Expr} {a b : List Stmt} {tc : TTZ ω} (hc : PTZ X W c tc) (ha : PBZ X W a t) (hb : PBZ X W b u) : PSZ X W (.If c a b pos) (zIf tc t u) := fun Z ex tk => psI (ps_if (hc.run Z ex tk) (ha Z ex tk) (hb Z ex tk)) fun D σ H ⟨Dz, hex, EI, G, M, δ, w, a, h⟩ => by
  subst hex
  exact ⟨G, M, δ, w, a, hc.mo (fun k w1 h1 H1 G1 M1 o1 => by
    cases k with
    | true => rw [if_pos rfl]; exact ⟨Dz, rfl, EI, G1, M1, δ, w1, a.go o1, h1.1 rfl⟩
    | false => rw [if_neg Bool.false_ne_true]; exact ⟨Dz, rfl, EI, G1, M1, δ, w1, a.go o1, h1.2 rfl⟩) h⟩
theorem z_while {c : Expr} {body : List Stmt} {tc : TTZ ω} (hc : PTZ X W c tc) (hb : PBZ X W body t) (hp : PassesOwn (model X.prog X.w) X.A X.env X.xe := by first | exact PassesOwn.leaving | exact PassesOwn.looking | exact PassesOwn.never | assumption) :
    PSZ X W (.While c body [] pos) (zWhile tc t) := fun Z ex tk => psI (ps_while hp (hc.run Z ex tk) (hb Z ex tk)) fun D σ H ⟨Dz, hex, EI, G, M, δ, w, a, I, ⟨m0, h0⟩, hs⟩ => by
  subst hex
  refine ⟨fun m => LS X.K W Z (I m), ⟨m0, G, M, δ, w, a, h0⟩, ?_⟩
  rintro m σ1 H1 ⟨G1, M1, δ1, w1, a1, h1⟩
  refine ⟨G1, M1, δ1, w1, a1, hc.mo (fun k w2 h2 H2 G2 M2 o2 => ?_) (hs m δ1 w1 h1)⟩
  cases k with
  | true =>
    rw [if_pos rfl]
    refine ⟨LS X.K W Z fun δ' w' => ∃ m', m' < m ∧ I m' δ' w', ?_, { Dz with nx := fun δ' w' => ∃ m', m' < m ∧ I m' δ' w', ct := fun δ' w' => ∃ m', m' < m ∧ I m' δ' w', bk := Dz.nx }, rfl, ⟨fun σ3 H3 h3 => h3, EI.nx, fun σ3 H3 h3 => h3, EI.rt⟩, G2, M2, δ1, w2, a1.go o2, h2.1 rfl⟩
    rintro σ3 H3 ⟨G3, M3, δ3, w3, a3, m', hm, h3⟩
    exact ⟨m', hm, G3, M3, δ3, w3, a3, h3⟩
  | false =>
    rw [if_neg Bool.false_ne_true]
    exact EI.nx _ _ ⟨G2, M2, δ1, w2, a1.go o2, h2.2 rfl⟩
end

/-! ### targets -/
abbrev TGZ := D → List Sl → (List Sl → Prop) → Prop
def gN (i : Nat) : TGZ := fun d δ k => k (δ.set i (.val d))
def setAll (δ : List Sl) : List Nat → List D → List Sl
  | i :: is, d :: ds => setAll (δ.set i (.val d)) is ds
  | _, _ => δ
def gU (is : List Nat) : TGZ := fun d δ k => match d with | .tup l => l.length = is.length ∧ k (setAll δ is l) | _ => False
structure GoG (K : PySem.W.Frag) (g : TG) (gz : TGZ) : Prop where
  mo : ∀ {d : D} {δ : List Sl} {k k' : List Sl → Prop}, (∀ δ', k δ' → k' δ') → gz d δ k → gz d δ k'
  go : ∀ {ω : Type} (W : Wp ω) (Z : Zx) (σ : L2.St) (H G M : Hp) (δ : List Sl) (w : ω) (v : V) (d : D) (q : List Sl → Prop) (Q : L2.St → Hp → Prop), SR K W Z σ H G M δ w → Rep K G v d → gz d δ q →
    (∀ σ' δ', q δ' → SR K W Z σ' H G M δ' w → Q σ' H) → g v σ H Q
structure PGZ (X : Cx) (tg : Expr) (g : TG) (gz : TGZ) : Prop where
  gg : GoG X.K g gz
  pg : PG X tg g
def gNs : List Nat → TGs
  | [] => gNil
  | i :: is => gCons (gName i) (gNs is)
theorem gNs_go {K : PySem.W.Frag} {W : Wp ω} {Z : Zx} {H G M : Hp} {w : ω} {Q : L2.St → Hp → Prop} : ∀ (is : List Nat) (vs : List V) (l : List D) (σ : L2.St) (δ : List Sl), SR K W Z σ H G M δ w → RepL K G vs l → l.length = is.length →
    (∀ σ', SR K W Z σ' H G M (setAll δ is l) w → Q σ' H) → gNs is vs σ H Q
  | [], _, _, σ, δ, a, r, hl, k => by
    cases r with
    | nil => exact ⟨rfl, k σ a⟩
    | cons _ _ => cases hl
  | i :: is, _, _, σ, δ, a, r, hl, k => by
    cases r with
    | nil => cases hl
    | cons r1 r2 =>
      exact ⟨_, _, rfl, gNs_go is _ _ _ _ (a.set r1) r2 (Nat.succ.inj hl) k⟩
theorem gg_name {K : PySem.W.Frag} (i : Nat) : GoG K (gName i) (gN i) := ⟨fun k h => k _ h, fun W Z σ H G M δ w v d q Q a r h k => k _ _ h (a.set r)⟩
theorem gg_tup {K : PySem.W.Frag} (is : List Nat) : GoG K (gTup K is.length (gNs is)) (gU is) := ⟨fun k h => by
  unfold gU at h ⊢
  split at h
  · exact ⟨h.1, k _ h.2⟩
  · exact h.elim, fun W Z σ H G M δ w v d q Q a r h k => by
  cases d with
  | tup l =>
    cases r with
    | tup s r =>
      exact ⟨_, _, rfl, sqTE a.pt.gh s, by rw [r.len]; exact h.1, gNs_go is _ _ _ _ a r h.1 fun σ' a' => k σ' _ h.2 a'⟩
  | _ => exact h.elim⟩
section
variable {X : Cx} {W : Wp ω} {pos : Pos} {e : Expr} {te : TEZ ω} {es : List Expr}
theorem g_name (i : Nat) {x : Str} (hN : X.N.Nodup) (hi : X.N[i]? = some x := by rfl) (hx : Loc X.env.scope x := by first | exact Or.inl rfl | exact Or.inr rfl) (hf : X.fn x = true ∨ X.env.scope.names.lookup x = some .local := by first | exact .inl rfl | exact .inr rfl) :
    PGZ X (.Name x pos) (gName i) (gN i) := ⟨gg_name i, pg_name hN hi hx hf⟩
theorem gs_nil : PGs X [] (gNs []) := pgs_nil
theorem gs_cons (i : Nat) {x : Str} {is : List Nat} (hN : X.N.Nodup) (h2 : PGs X es (gNs is)) (hi : X.N[i]? = some x := by rfl) (hx : Loc X.env.scope x := by first | exact Or.inl rfl | exact Or.inr rfl) (hf : X.fn x = true ∨ X.env.scope.names.lookup x = some .local := by first | exact .inl rfl | exact .inr rfl)
    (hs : (assignEach (.Name x pos :: es) X.env).map (·.2) = assign (.Name x pos) X.env :: (assignEach es X.env).map (·.2) := by rfl) : PGs X (.Name x pos :: es) (gNs (i :: is)) := pgs_cons (pg_name hN hi hx hf) h2 hs
theorem g_tup {k : Nat} {is : List Nat} (h : PGs X es (gNs is)) (hc : X.calm = true := by rfl) (hn : (assignEach es X.env).length = is.length := by rfl) (hst : (assignEach es X.env).findIdx? (·.1) = none := by rfl) :
    PGZ X (.Tuple es k pos) (gTup X.K is.length (gNs is)) (gU is) := ⟨gg_tup is, pg_tup hc h hn hst⟩
/-- target = value -/
def zAsgG (te : TEZ ω) (gz : TGZ) : TSZ ω := fun D δ w => te δ w (fun d w' => gz d δ fun δ' => D.nx δ' w') (fun e w' => D.ex e δ w')
theorem z_asg {tg : Expr} {g : TG} {gz : TGZ} (he : PEZ X W e te) (hg : PGZ X tg g gz) (hs : swapsWithSole [tg] e pos.line X.env = pure false := by rfl) (hw : swappedStores [tg] e X.env = pure none := by rfl)
    (h1 : (assignEach [tg] X.env).map (·.2) = [assign tg X.env] := by rfl) : PSZ X W (.Assign [tg] e pos) (zAsgG te gz) := fun Z ex tk => psI (ps_asg (he.run Z ex tk) hg.pg hs hw h1) fun D σ H ⟨Dz, hex, EI, G, M, δ, w, a, h⟩ => by
  subst hex
  exact ⟨G, M, δ, w, a, he.mo (fun d w1 h1 v H1 G1 M1 o1 r1 => hg.gg.go W Z σ H1 G1 M1 δ w1 v d _ _ (a.go o1) r1 h1 fun σ' δ' q a' => EI.nx _ _ ⟨G1, M1, δ', w1, a', q⟩) h⟩
/-- a, b = x, y -/
def zPar (i j : Nat) (ta : TAZ ω) : TSZ ω := fun D δ w => ta δ w (fun l w' => match l with | [x, y] => D.nx ((δ.set i (.val x)).set j (.val y)) w' | _ => False) (fun e w' => D.ex e δ w')
theorem z_par (i j : Nat) {x y : Str} {a b : Expr} {ta : TAZ ω} {px py pt : Pos} {kt k2 : Nat} {pt2 : Pos} (hN : X.N.Nodup) (ha : PAZ X W [a, b] ta) (hc : X.calm = true := by rfl) (hi : X.N[i]? = some x := by rfl) (hj : X.N[j]? = some y := by rfl) (hij : i ≠ j := by decide)
    (hx : X.env.scope.names.lookup x = some .local := by rfl) (hy : X.env.scope.names.lookup y = some .local := by rfl)
    (hw : swappedStores [.Tuple [.Name x px, .Name y py] kt pt] (.Tuple [a, b] k2 pt2) X.env = pure (some [x, y]) := by rfl)
    (hs : swapsWithSole [.Tuple [.Name x px, .Name y py] kt pt] (.Tuple [a, b] k2 pt2) pos.line X.env = pure false := by rfl) :
    PSZ X W (.Assign [.Tuple [.Name x px, .Name y py] kt pt] (.Tuple [a, b] k2 pt2) pos) (zPar i j ta) := fun Z ex tk => psI (ps_par hc hN hi hj hij hx hy (ha.run Z ex tk) hw hs) fun D σ H ⟨Dz, hex, EI, G, M, δ, w, a, h⟩ => by
  subst hex
  refine ⟨G, M, δ, w, a, ha.mo (fun l w1 h1 vs H1 G1 M1 o1 r1 => ?_) h⟩
  have a1 := a.go o1
  split at h1
  · cases r1 with
    | cons r1 r2 =>
      cases r2 with
      | cons r2 r3 =>
        cases r3
        exact ⟨_, _, rfl, EI.nx _ _ ⟨G1, M1, _, w1, (a1.set r1).set r2, h1⟩⟩
  · exact h1.elim
end

/-! ### for -/
def liB (K : PySem.W.Frag) (W : Wp ω) (Z : Zx) (ex : Nat → List Sl → ω → Prop) (ts : TSZ ω) : TS := fun D σ H => ∃ S, Ext Z.S S ∧ liS K W ⟨Z.H0, Z.G0, Z.M0, S⟩ ex ts D σ H
theorem tkLe {X : Cx} {W : Wp ω} {Z : Zx} {ex : Nat → List Sl → ω → Prop} {S : Hp} (tk : Takes X (WXz X.K W Z ex)) (hS : Ext Z.S S) : Takes X (WXz X.K W ⟨Z.H0, Z.G0, Z.M0, S⟩ ex) :=
  tk.imp fun c d σ H ⟨h1, e, h2, G, M, δ, w, a, h3⟩ => ⟨h1, e, h2, G, M, δ, w, a.le hS, h3⟩
theorem zB_run {X : Cx} {W : Wp ω} {sts : List Stmt} {t : TSZ ω} (h : PBZ X W sts t) (Z : Zx) (ex : Nat → List Sl → ω → Prop) (tk : Takes X (WXz X.K W Z ex)) : PSs X sts (liB X.K W Z ex t) :=
  ⟨fun pins s σ H D I ⟨S, hS, q⟩ => (h ⟨Z.H0, Z.G0, Z.M0, S⟩ ex (tkLe tk hS)).run pins s σ H D I q⟩
theorem EndI.loop {K : PySem.W.Frag} {W : Wp ω} {Z : Zx} {S : Hp} {Dz : EndZ ω} {D : Ends} (EI : EndI K W Z Dz D) (hS : Ext Z.S S) {I : List Sl → ω → Prop} {Pv : L2.St → Hp → Prop} (h : ∀ σ H, LS K W ⟨Z.H0, Z.G0, Z.M0, S⟩ I σ H → Pv σ H) :
    EndI K W ⟨Z.H0, Z.G0, Z.M0, S⟩ { Dz with nx := I, ct := I, bk := Dz.nx } { D with nx := Pv, ct := Pv, bk := D.nx } :=
  ⟨h, fun σ H ⟨G, M, δ, w, a, q⟩ => EI.nx σ H ⟨G, M, δ, w, a.le hS, q⟩, h, EI.rt⟩
/-- a loop over given data -/
def zLoop (l : List D) (gz : TGZ) (t : TSZ ω) : TSZ ω := fun D δ w => ∃ I : Nat → List Sl → ω → Prop, I 0 δ w ∧ (∀ i d δ' w', l[i]? = some d → I i δ' w' → gz d δ' fun δ2 => t { D with nx := I (i + 1), ct := I (i + 1), bk := D.nx } δ2 w') ∧ ∀ δ' w', I l.length δ' w' → D.nx δ' w'
def zForL (te : TEZ ω) (gz : TGZ) (t : TSZ ω) : TSZ ω := fun D δ w => te δ w (fun d w1 => match d with | .lst l => zLoop l gz t D δ w1 | .arr l => zLoop l gz t D δ w1 | _ => False) (fun e w' => D.ex e δ w')
def zForT (te : TEZ ω) (gz : TGZ) (t : TSZ ω) : TSZ ω := fun D δ w => te δ w (fun d w1 => match d with | .tup l => zLoop l gz t D δ w1 | _ => False) (fun e w' => D.ex e δ w')
def zLoopR (lo : Int) (n : Nat) (j : Nat) (t : TSZ ω) : TSZ ω := fun D δ w => ∃ I : Nat → List Sl → ω → Prop, I 0 δ w ∧ (∀ (i : Nat) δ' w', i < n → I i δ' w' → t { D with nx := I (i + 1), ct := I (i + 1), bk := D.nx } (δ'.set j (.val (.int (lo + i)))) w') ∧ ∀ δ' w', I n δ' w' → D.nx δ' w'
def zForR1 (ta : TAZ ω) (j : Nat) (t : TSZ ω) : TSZ ω := fun D δ w => ta δ w (fun l w1 => match l with | [.int n] => zLoopR 0 n.toNat j t D δ w1 | _ => False) (fun e w' => D.ex e δ w')
def zForR2 (ta : TAZ ω) (j : Nat) (t : TSZ ω) : TSZ ω := fun D δ w => ta δ w (fun l w1 => match l with | [.int m, .int n] => zLoopR m (n - m).toNat j t D δ w1 | _ => False) (fun e w' => D.ex e δ w')
section
variable {X : Cx} {W : Wp ω} {pos : Pos} {e : Expr} {te : TEZ ω} {es : List Expr} {tg : Expr} {g : TG} {gz : TGZ} {body : List Stmt} {t : TSZ ω}
theorem z_forL (he : PEZ X W e te) (hg : PGZ X tg g gz) (hb : PBZ X W body t) (hp : PassesOwn (model X.prog X.w) X.A X.env X.xe := by first | exact PassesOwn.leaving | exact PassesOwn.looking | exact PassesOwn.never | assumption) (hc : X.calm = true := by rfl)
    (hs : ∀ x, foldedSetIterable e X.env x = pure x := by intro _; rfl) : PSZ X W (.For tg e body [] pos) (zForL te gz t) := fun Z ex tk => psI (ps_for hp hc (pi_list (he.run Z ex tk)) hg.pg (zB_run hb Z ex tk) hs) fun DE σ H ⟨Dz, hex, EI, G, M, δ, w, a, h⟩ => by
  subst hex
  have key : ∀ {p : Addr} {vs : List V} {l : List D} {G1 M1 H1 : Hp} {w1 : ω}, SR X.K W Z σ H1 G1 M1 δ w1 → SqL X.K G1 p vs → RepL X.K G1 vs l → zLoop l gz t Dz δ w1 → ∃ a, V.ref p = .ref a ∧ (∃ xs, SqL X.K H1 a xs) ∧ (∃ W' : Nat → Nat → L2.St → Hp → Prop, (∃ m, W' 0 m σ H1) ∧ ∀ i m σ H, W' i m σ H →
      ((Itl X.K a).stop i H ∧ DE.nx σ H) ∨ ((Itl X.K a).go i H ∧ ∃ N : L2.St → Hp → Prop, (∀ σ' H', N σ' H' → ∃ m', m' < m ∧ W' (i + 1) m' σ' H') ∧ ∀ x H', (Itl X.K a).yld i H x H' → g x σ H' fun σ2 H2 => liB X.K W Z Dz.ex t { DE with nx := N, ct := N, bk := DE.nx } σ2 H2)) := by
    intro p vs l G1 M1 H1 w1 a1 hs r1 h1
    refine ⟨p, rfl, ⟨vs, sqLE a1.pt.gh hs⟩, ?_⟩
    obtain ⟨I, i0, is, id⟩ := h1
    have hl := r1.len
    refine for_list (K := X.K) (a := p) (xs := vs) (fun i => LS X.K W ⟨Z.H0, Z.G0, Z.M0, G1⟩ (I i)) ⟨G1, M1, δ, w1, a1.more, i0⟩ ?_ ?_ ?_
    · rintro i σ2 H2 _ ⟨G2, M2, δ2, w2, a2, _⟩
      exact sqLE (a2.st.tr a2.pt.gh) hs
    · rintro i x σ2 H2 hx ⟨G2, M2, δ2, w2, a2, q2⟩
      obtain ⟨d, hd, rd⟩ := r1.getV hx
      refine hg.gg.go W _ σ2 H2 G2 M2 δ2 w2 x d _ _ a2 (rd.up a2.st) (is i d δ2 w2 hd q2) fun σ3 δ3 q3 a3 => ?_
      exact ⟨G1, a1.st, { Dz with nx := I (i + 1), ct := I (i + 1), bk := Dz.nx }, rfl, EI.loop a1.st (fun _ _ h => h), G2, M2, δ3, w2, a3, q3⟩
    · rintro σ2 H2 ⟨G2, M2, δ2, w2, a2, q2⟩
      rw [hl] at q2
      exact EI.nx _ _ ⟨G2, M2, δ2, w2, a2.le a1.st, id δ2 w2 q2⟩
  refine ⟨G, M, δ, w, a, he.mo (fun d w1 h1 v H1 G1 M1 o1 r1 => ?_) h⟩
  have a1 := a.go o1
  cases d with
  | lst l =>
    cases r1 with
    | lst s r => exact key a1 (.inl (.inl s)) r h1
  | arr l =>
    cases r1 with
    | arr s r => exact key a1 s r h1
  | _ => exact False.elim h1
theorem z_forT (he : PEZ X W e te) (hg : PGZ X tg g gz) (hb : PBZ X W body t) (hp : PassesOwn (model X.prog X.w) X.A X.env X.xe := by first | exact PassesOwn.leaving | exact PassesOwn.looking | exact PassesOwn.never | assumption) (hc : X.calm = true := by rfl)
    (hs : ∀ x, foldedSetIterable e X.env x = pure x := by intro _; rfl) : PSZ X W (.For tg e body [] pos) (zForT te gz t) := fun Z ex tk => psI (ps_for hp hc (pi_tup (he.run Z ex tk)) hg.pg (zB_run hb Z ex tk) hs) fun DE σ H ⟨Dz, hex, EI, G, M, δ, w, a, h⟩ => by
  subst hex
  refine ⟨G, M, δ, w, a, he.mo (fun d w1 h1 v H1 G1 M1 o1 r1 => ?_) h⟩
  have a1 := a.go o1
  cases d with
  | tup l =>
    cases r1 with
    | @tup p vs _ hs r1 =>
      refine ⟨p, rfl, ⟨vs, sqTE a1.pt.gh hs⟩, ?_⟩
      obtain ⟨I, i0, is, id⟩ := h1
      have hl := r1.len
      refine for_tup (K := X.K) (a := p) (xs := vs) (fun i => LS X.K W ⟨Z.H0, Z.G0, Z.M0, G1⟩ (I i)) ⟨G1, M1, δ, w1, a1.more, i0⟩ ?_ ?_ ?_
      · rintro i σ2 H2 _ ⟨G2, M2, δ2, w2, a2, _⟩
        exact sqTE (a2.st.tr a2.pt.gh) hs
      · rintro i x σ2 H2 hx ⟨G2, M2, δ2, w2, a2, q2⟩
        obtain ⟨d, hd, rd⟩ := r1.getV hx
        refine hg.gg.go W _ σ2 H2 G2 M2 δ2 w2 x d _ _ a2 (rd.up a2.st) (is i d δ2 w2 hd q2) fun σ3 δ3 q3 a3 => ?_
        exact ⟨G1, a1.st, { Dz with nx := I (i + 1), ct := I (i + 1), bk := Dz.nx }, rfl, EI.loop a1.st (fun _ _ h => h), G2, M2, δ3, w2, a3, q3⟩
      · rintro σ2 H2 ⟨G2, M2, δ2, w2, a2, q2⟩
        rw [hl] at q2
        exact EI.nx _ _ ⟨G2, M2, δ2, w2, a2.le a1.st, id δ2 w2 q2⟩
  | _ => exact False.elim h1
theorem loop_range {Z : Zx} {Dz : EndZ ω} {DE : Ends} {σ : L2.St} {H G M : Hp} {δ : List Sl} {w : ω} {lo : Int} {n j : Nat} (EI : EndI X.K W Z Dz DE) (a : SR X.K W Z σ H G M δ w) (h : zLoopR lo n j t Dz δ w) :
    ∃ W' : Nat → Nat → L2.St → Hp → Prop, (∃ m, W' 0 m σ H) ∧ ∀ i m σ H, W' i m σ H →
      ((Itr lo n).stop i H ∧ DE.nx σ H) ∨ ((Itr lo n).go i H ∧ ∃ N : L2.St → Hp → Prop, (∀ σ' H', N σ' H' → ∃ m', m' < m ∧ W' (i + 1) m' σ' H') ∧ ∀ x H', (Itr lo n).yld i H x H' → gName j x σ H' fun σ2 H2 => liB X.K W Z Dz.ex t { DE with nx := N, ct := N, bk := DE.nx } σ2 H2) := by
  obtain ⟨I, i0, is, id⟩ := h
  refine for_range (fun i => LS X.K W ⟨Z.H0, Z.G0, Z.M0, G⟩ (I i)) ⟨G, M, δ, w, a.more, i0⟩ ?_ ?_
  · rintro i σ2 H2 hx ⟨G2, M2, δ2, w2, a2, q2⟩
    exact ⟨G, a.st, { Dz with nx := I (i + 1), ct := I (i + 1), bk := Dz.nx }, rfl, EI.loop a.st (fun _ _ h => h), G2, M2, _, w2, a2.set (.int _), is i δ2 w2 hx q2⟩
  · rintro σ2 H2 ⟨G2, M2, δ2, w2, a2, q2⟩
    exact EI.nx _ _ ⟨G2, M2, δ2, w2, a2.le a.st, id δ2 w2 q2⟩
theorem z_forR1 (j : Nat) {x : Str} {ea : Expr} {ta : TAZ ω} {px p : Pos} {pc : Pos} (hm : X.mg "range" = none) (ha : PAZ X W [ea] ta) (hb : PBZ X W body t) (hN : X.N.Nodup) (hi : X.N[j]? = some x := by rfl) (hx : Loc X.env.scope x := by first | exact Or.inl rfl | exact Or.inr rfl)
    (hf : X.fn x = true ∨ X.env.scope.names.lookup x = some .local := by first | exact .inl rfl | exact .inr rfl) (hgl : Gl X "range" := by rfl) (hp : PassesOwn (model X.prog X.w) X.A X.env X.xe := by first | exact PassesOwn.leaving | exact PassesOwn.looking | exact PassesOwn.never | assumption) (hc : X.calm = true := by rfl)
    (hse : starEach [ea] X.env = [(false, eval ea X.env)] := by rfl) (hs : ∀ x, foldedSetIterable (.Call (.Name "range" p) [ea] [] pc) X.env x = pure x := by intro _; rfl) : PSZ X W (.For (.Name x px) (.Call (.Name "range" p) [ea] [] pc) body [] pos) (zForR1 ta j t) := fun Z ex tk =>
  psI (ps_for hp hc (pi_rgB1 hgl hm (ha.run Z ex tk) hse) (pg_name hN hi hx hf) (zB_run hb Z ex tk) hs) fun DE σ H ⟨Dz, hex, EI, G, M, δ, w, a, h⟩ => by
  subst hex
  refine ⟨G, M, δ, w, a, ha.mo (fun l w1 h1 vs H1 G1 M1 o1 r1 => ?_) h⟩
  have a1 := a.go o1
  split at h1
  · rename_i n
    cases r1 with
    | cons r1 r2 =>
      cases r1
      cases r2
      exact ⟨n, rfl, loop_range EI a1 h1⟩
  · exact h1.elim
theorem z_forR2 (j : Nat) {x : Str} {ea eb : Expr} {ta : TAZ ω} {px p : Pos} {pc : Pos} (hm : X.mg "range" = none) (ha : PAZ X W [ea, eb] ta) (hb : PBZ X W body t) (hN : X.N.Nodup) (hi : X.N[j]? = some x := by rfl) (hx : Loc X.env.scope x := by first | exact Or.inl rfl | exact Or.inr rfl)
    (hf : X.fn x = true ∨ X.env.scope.names.lookup x = some .local := by first | exact .inl rfl | exact .inr rfl) (hgl : Gl X "range" := by rfl) (hp : PassesOwn (model X.prog X.w) X.A X.env X.xe := by first | exact PassesOwn.leaving | exact PassesOwn.looking | exact PassesOwn.never | assumption) (hc : X.calm = true := by rfl)
    (hse : starEach [ea, eb] X.env = [(false, eval ea X.env), (false, eval eb X.env)] := by rfl) (hse2 : starEach [eb] X.env = [(false, eval eb X.env)] := by rfl) (hs : ∀ x, foldedSetIterable (.Call (.Name "range" p) [ea, eb] [] pc) X.env x = pure x := by intro _; rfl) : PSZ X W (.For (.Name x px) (.Call (.Name "range" p) [ea, eb] [] pc) body [] pos) (zForR2 ta j t) := fun Z ex tk =>
  psI (ps_for hp hc (pi_rgB2 hgl hm (ha.run Z ex tk) hse hse2) (pg_name hN hi hx hf) (zB_run hb Z ex tk) hs) fun DE σ H ⟨Dz, hex, EI, G, M, δ, w, a, h⟩ => by
  subst hex
  refine ⟨G, M, δ, w, a, ha.mo (fun l w1 h1 vs H1 G1 M1 o1 r1 => ?_) h⟩
  have a1 := a.go o1
  split at h1
  · rename_i m n
    cases r1 with
    | cons r1 r2 =>
      cases r1
      cases r2 with
      | cons r2 r3 =>
        cases r2
        cases r3
        exact ⟨m, n, rfl, loop_range EI a1 h1⟩
  · exact h1.elim
end
end Z

namespace Z
open PySem PySem.Spec PyProof.Rows L2
variable {ω : Type}

/-! ### defs: what they promise -/
def MoS (sp : SpZ ω) : Prop := ∀ {ds : List D} {w : ω} {Q Q' : D → ω → Prop} {E E' : Nat → ω → Prop}, (∀ d w', Q d w' → Q' d w') → (∀ e w', E e w' → E' e w') → sp ds w Q E → sp ds w Q' E'
def spz (K : PySem.W.Frag) (W : Wp ω) (sp : SpZ ω) : Sp := fun vs H Q E => ∃ G M ds w, Pt W H G M w ∧ RepL K G vs ds ∧ sp ds w (fun d w' => ∀ v H' G' M', Pt W H' G' M' w' → Nx H G M H' G' M' → Rep K G' v d → Q v H')
  (fun e w' => ∀ H' G' M', Pt W H' G' M' w' → Nx H G M H' G' M' → E (.ref (W.ec e)) none H')
structure Fd (P : Program) (w : World) (K : PySem.W.Frag) (mg : Str → Option Value) (base : Heap) (W : Wp ω) (k : Nat) (x : Str) (sp : SpZ ω) : Prop where
  mo : MoS sp
  ex : ∃ f fd ps, FnOk P w K mg base (L2.CX P w) k f fd ps (spz K W sp) ∧ mg x = some (.ref f) ∧ PySem.W.keepIn K (.ref f) = true ∧ Binds K fd ps []
/-- no world -/
def W0 (ec : Nat → Addr) : Wp Unit := ⟨fun _ _ M => ∀ p, M p = none, fun _ h => h, ec⟩
def zCall (sp : SpZ ω) (ta : TAZ ω) : TEZ ω := fun δ w Q E => ta δ w (fun ds w1 => sp ds w1 Q E) E
def zCallP (sp : SpZ Unit) (ta : TAZ ω) : TEZ ω := fun δ w Q E => ta δ w (fun ds w1 => sp ds () (fun d _ => Q d w1) (fun e _ => E e w1)) E
section
variable {X : Cx} {W : Wp ω} {pos p : Pos} {x : Str} {e : Expr} {es : List Expr} {ta : TAZ ω} {k j : Nat}
theorem Pt.pure {W : Wp ω} {ec : Nat → Addr} {H G M H' G' M' : Hp} {w : ω} (a : Pt W H G M w) (b : Pt (W0 ec) H' G' M' ()) (c : Nx H G (fun _ => none) H' G' M') : Pt W H' G' M w ∧ Nx H G M H' G' M := by
  have up : ∀ q z, H q = some z → H' q = some z := fun q z h => c.fr q z h rfl
  refine ⟨⟨b.gh, fun q z h => up q z (a.mh q z h), fun q z h => ?_, W.mono c.gg a.wd⟩, ⟨c.gg, fun q z h _ => up q z h, c.gn, fun q z h g => (by rw [h] at g; cases g), fun q z h => ⟨z, h⟩⟩⟩
  cases r : G q with
  | some y => exact a.dj q y r
  | none => exact a.mh.none' (c.gn q z h r)
theorem z_call {sp : SpZ ω} (d : Fd X.prog X.w X.K X.mg X.base W k x sp) (hr : Room j X.A) (ha : PAZ X W (e :: es) ta) (hj : k ≤ j := by decide) (hg : Gl X x := by rfl) (hdb : (x == ("__debug__" : Str)) = false := by decide)
    (he : starEach (e :: es) X.env = (false, eval e X.env) :: starEach es X.env := by rfl) (hpl : (backTo pos (starEach es X.env)).any (·.1) = false := by rfl) : PEZ X W (.Call (.Name x p) (e :: es) [] pos) (zCall sp ta) :=
  ⟨fun k h => ha.mo (fun _ _ h1 => d.mo k (fun _ _ q => q) h1) h, fun Z ex tk => by
    obtain ⟨f, fd, ps, F, hm, hk, hb⟩ := d.ex
    refine peI (pe_callS F (hr.mono hj) hg hm hk hb (fun σ => passAt tk σ) (ha.run Z ex tk) hdb he hpl) fun σ H Q ⟨G, M, δ, w, a, h⟩ => ?_
    refine ⟨G, M, δ, w, a, ha.mo (fun ds w1 h1 vs H1 G1 M1 o1 r1 => ⟨G1, M1, ds, w1, o1.pt, r1, d.mo (fun d2 w2 q2 v H2 G2 M2 b2 c2 r2 => q2 v H2 G2 M2 (o1.tr ⟨b2, c2⟩) r2) (fun e2 w2 q2 H2 G2 M2 b2 c2 => ?_) h1⟩) h⟩
    exact ⟨rfl, e2, rfl, G2, M2, δ, w2, (a.go o1).next b2 c2, q2⟩⟩
theorem z_callP {sp : SpZ Unit} (d : Fd X.prog X.w X.K X.mg X.base (W0 W.ec) k x sp) (hr : Room j X.A) (ha : PAZ X W (e :: es) ta) (hj : k ≤ j := by decide) (hg : Gl X x := by rfl) (hdb : (x == ("__debug__" : Str)) = false := by decide)
    (he : starEach (e :: es) X.env = (false, eval e X.env) :: starEach es X.env := by rfl) (hpl : (backTo pos (starEach es X.env)).any (·.1) = false := by rfl) : PEZ X W (.Call (.Name x p) (e :: es) [] pos) (zCallP sp ta) :=
  ⟨fun k h => ha.mo (fun _ _ h1 => d.mo (fun d _ q => k d _ q) (fun _ _ q => q) h1) h, fun Z ex tk => by
    obtain ⟨f, fd, ps, F, hm, hk, hb⟩ := d.ex
    refine peI (pe_callS F (hr.mono hj) hg hm hk hb (fun σ => passAt tk σ) (ha.run Z ex tk) hdb he hpl) fun σ H Q ⟨G, M, δ, w, a, h⟩ => ?_
    refine ⟨G, M, δ, w, a, ha.mo (fun ds w1 h1 vs H1 G1 M1 o1 r1 => ?_) h⟩
    refine ⟨G1, fun _ => none, ds, (), ⟨o1.pt.gh, fun _ _ z => (nomatch z), fun _ _ _ => rfl, fun _ => rfl⟩, r1, d.mo (fun d2 _ q2 v H2 G2 M2 b2 c2 r2 => ?_) (fun e2 _ q2 H2 G2 M2 b2 c2 => ?_) h1⟩
    · obtain ⟨b, c⟩ := o1.pt.pure b2 c2
      exact q2 v H2 G2 M1 (o1.tr ⟨b, c⟩) r2
    · obtain ⟨b, c⟩ := o1.pt.pure b2 c2
      exact ⟨rfl, e2, rfl, G2, M1, δ, w1, (a.go o1).next b c, q2⟩⟩
end
/-- the slots at a def's entry -/
def stZ (n : Nat) (ds : List D) : List Sl := ds.map .val ++ List.replicate (n - ds.length) .no
def endZ (Q : D → ω → Prop) (E : Nat → ω → Prop) : EndZ ω := ⟨fun _ w => Q .non w, Q, fun _ _ => False, fun _ _ => False, fun e _ w => E e w⟩
section
variable {P : Program} {w : World} {K : PySem.W.Frag} {mg : Str → Option Value} {base : Heap} {W : Wp ω}
theorem sr_start {Z : Zx} {N : List Str} {vs : List V} {ds : List D} {H G M : Hp} {w : ω} (pt : Pt W H G M w) (r : RepL K G vs ds) : SR K W ⟨H, G, M, fun _ => none⟩ (L2.start N vs) H G M (stZ N.length ds) w := by
  have hl := r.len
  refine ⟨pt, .rfl', fun _ _ z => (nomatch z), ?_, fun i s e => ?_, fun i j p l l' e1 e2 e3 e4 => ?_⟩
  · unfold stZ L2.start
    rw [List.length_append, List.length_append, List.length_map, List.length_map, List.length_replicate, List.length_replicate, hl]
  · unfold stZ at e
    by_cases hi : i < ds.length
    · rw [List.getElem?_append_left (by simpa using hi), List.getElem?_map] at e
      cases q : ds[i]? with
      | none => rw [q] at e; cases e
      | some d =>
        rw [q] at e
        cases e
        obtain ⟨v, h1, h2⟩ := r.get q
        refine ⟨v, ?_, h2⟩
        unfold L2.start
        rw [List.getElem?_append_left (by simpa [hl] using hi), List.getElem?_map, h1]
        rfl
    · rw [List.getElem?_append_right (by simpa using Nat.le_of_not_lt hi), List.getElem?_replicate] at e
      split at e
      · cases e; trivial
      · cases e
  · exfalso
    unfold stZ at e1
    by_cases hi : i < ds.length
    · rw [List.getElem?_append_left (by simpa using hi), List.getElem?_map] at e1
      cases q : ds[i]? with
      | none => rw [q] at e1; cases e1
      | some d => rw [q] at e1; cases e1
    · rw [List.getElem?_append_right (by simpa using Nat.le_of_not_lt hi), List.getElem?_replicate] at e1
      split at e1 <;> cases e1
theorem fnzOk {x qual : Str} {st : Stmt} {f : Addr} {fd : FuncData} {N ps : List Str} {k : Nat} {sp : SpZ ω} {tz : TSZ ω} (F : Fun K x qual st f fd) (S : FnScope N ps (defScope st))
    (len : ∀ {ds : List D} {w' : ω} {Q : D → ω → Prop} {E : Nat → ω → Prop}, sp ds w' Q E → ds.length = ps.length)
    (der : ∀ (cdv : Value) (A : Around) (outer : List Env) (s : Shared) (H : Hp) (E : XK), Room k (A.deeper (envOfC qual (defScope st) s.heap.objs.size f cdv)) →
      PBZ (cxOf (L2.CX P w) P w K mg base N qual (defScope st) f cdv A outer s H E) W (defBody st) tz)
    (go : ∀ (ds : List D) (w' : ω) (Q : D → ω → Prop) (E : Nat → ω → Prop), sp ds w' Q E → tz (endZ Q E) (stZ N.length ds) w') : FnOk P w K mg base (L2.CX P w) (k + 1) f fd ps (spz K W sp) := by
  refine F.okX S (fun vs H Q E h => ?_) (fun cdv A outer s H vs Q E hr h => ?_)
  · obtain ⟨G, M, ds, w', _, r, h⟩ := h
    rw [r.len]
    exact len h
  · obtain ⟨G, M, ds, w', pt, r, h⟩ := h
    refine ⟨_, der cdv A outer s H E hr ⟨H, G, M, fun _ => none⟩ (fun e _ w2 => ∀ H' G' M', Pt W H' G' M' w2 → Nx H G M H' G' M' → E (.ref (W.ec e)) none H') ?_, ?_⟩
    · refine (takes_of rfl rfl rfl rfl).imp fun c d σ H' ⟨h1, e, h2, G', M', δ, w2, a, h3⟩ => ?_
      subst h1 h2
      exact h3 H' G' M' a.pt a.nx
    · exact ⟨endZ (fun d w2 => ∀ v H' G' M', Pt W H' G' M' w2 → Nx H G M H' G' M' → Rep K G' v d → Q v H') _, rfl, ⟨fun σ H' ⟨G', M', δ, w2, a, q⟩ => q .non H' G' M' a.pt a.nx .non, fun _ _ ⟨_, _, _, _, _, q⟩ => q.elim, fun _ _ ⟨_, _, _, _, _, q⟩ => q.elim, fun v H' G' M' d w2 b c rv q => q v H' G' M' b c rv⟩,
        G, M, _, w', sr_start (Z := ⟨H, G, M, fun _ => none⟩) pt r, go ds w' _ _ h⟩
/-- THE RULE for a def -/
theorem fnz {x qual : Str} {st : Stmt} {f : Addr} {fd : FuncData} {N ps : List Str} {k : Nat} {sp : SpZ ω} {tz : TSZ ω} (F : Fun K x qual st f fd) (S : FnScope N ps (defScope st)) (hm : mg x = some (.ref f)) (hb : Binds K fd ps []) (mo : MoS sp)
    (len : ∀ {ds : List D} {w' : ω} {Q : D → ω → Prop} {E : Nat → ω → Prop}, sp ds w' Q E → ds.length = ps.length)
    (der : ∀ (cdv : Value) (A : Around) (outer : List Env) (s : Shared) (H : Hp) (E : XK), Room k (A.deeper (envOfC qual (defScope st) s.heap.objs.size f cdv)) →
      PBZ (cxOf (L2.CX P w) P w K mg base N qual (defScope st) f cdv A outer s H E) W (defBody st) tz)
    (go : ∀ (ds : List D) (w' : ω) (Q : D → ω → Prop) (E : Nat → ω → Prop), sp ds w' Q E → tz (endZ Q E) (stZ N.length ds) w') : Fd P w K mg base W (k + 1) x sp :=
  ⟨mo, f, fd, ps, fnzOk F S len der go, hm, F.kp, hb⟩
end

/-! ### the law's own def -/
/-- what `law` promises, from the world that is none yet -/
def spLaw {ω : Type} (w0 : ω) : SpZ ω := fun ds w Q _ => w = w0 ∧ ∃ ns : List Int, ds = [.arr (ns.map D.int)] ∧ ns.length ≤ 63 ∧ (∀ z ∈ ns, Builtin.Int.intBits z ≤ 1048576) ∧ ∀ w', Q (.bl true) w'
def spLawV (K : PySem.W.Frag) : Sp := fun vs H Q _ => ∃ (a : Addr) (ns : List Int), vs = [.ref a] ∧ SqL K H a (ns.map V.int) ∧ ns.length ≤ 63 ∧ (∀ z ∈ ns, Builtin.Int.intBits z ≤ 1048576) ∧ ∀ H', Q (.bl true) H'
def ecOf (l : List (Nat × Addr)) (n : Nat) : Addr := (l.lookup n).getD 0
theorem law_imp {ω : Type} {P : Program} {w : World} {K : PySem.W.Frag} {mg : Str → Option Value} {base : Heap} {W : Wp ω} {f : Addr} {fd : FuncData} {x : Str} {k : Nat} (w0 : ω) (F : FnOk P w K mg base (L2.CX P w) k f fd [x] (spz K W (spLaw w0)))
    (h0 : ∀ G : Hp, W.ok w0 G fun _ => none) : FnOk P w K mg base (L2.CX P w) k f fd [x] (spLawV K) :=
  F.imp fun vs H Q E ⟨a, ns, e, hs, hl, hb, q⟩ => ⟨H, fun _ => none, [.arr (ns.map D.int)], w0, ⟨.rfl', fun _ _ z => (nomatch z), fun _ _ _ => rfl, h0 H⟩, by rw [e]; exact .cons (.arr hs (RepL.ofInts ns)) .nil, rfl, ns, rfl, hl, hb, fun w' v H' G' M' _ _ r => by
    cases r
    exact q H'⟩
theorem cx_none {P : Program} {w : World} {H : Hp} {s : Shared} {e : Value} {s' : Shared} (h : L2.CX P w [] H s (fun _ _ _ => False) e s') : False := by
  obtain ⟨_, _, _, _, _, _, _, _, _, _, _, _, z⟩ := h
  exact z

/-! ### raise -/
/-- what the top says of an own error class -/
structure ErrT (K : PySem.W.Frag) (mg : Str → Option Value) (C : Addr) (x : Str) : Prop where
  xF : PySem.W.excIn K C [.type "ValueError", .type "Exception", .type "BaseException", .type "object"] "ValueError.__new__" = true
  gF : mg x = some (.ref C)
  kF : PySem.W.keepIn K (.ref C) = true
  bF : PySem.W.subIn K (.ref C) (.type "BaseException") = some true
  tF : PySem.W.typeIn K (.ref C) = some (.type "type")
theorem z_raise {X : Cx} {W : Wp ω} {pos p p2 pos2 : Pos} {x m : Str} {j : Nat} {c : Nat} (T : ErrT X.K X.mg (W.ec c) x) (hc : X.calm = true := by rfl) (hg : Gl X x := by rfl) (hdb : (x == ("__debug__" : Str)) = false := by decide) :
    PSZ X W (.Raise (some (.Call (.Name x p) [.Constant (.str m) j p2] [] pos2)) none pos) (zRaise c) := fun Z ex tk =>
  psI (ps_raise hc tk (pmk_own PySem.F.excBase_ValueError T.xF T.gF T.kF (raises_own T.bF T.tF) hg hdb)) fun DE σ H ⟨Dz, hex, EI, G, M, δ, w, a, h⟩ => by
  subst hex
  exact ⟨rfl, c, rfl, G, M, δ, w, a, h⟩
end Z

namespace Z
open PySem PySem.Spec PyProof.Rows L2
variable {ω : Type}

/-! ### sizes of numbers -/
def Sm (n : Nat) (i : Int) : Prop := i.natAbs < 2 ^ n
theorem Sm.le {n m : Nat} {i : Int} (h : Sm n i) (l : n ≤ m) : Sm m i := Nat.lt_of_lt_of_le h (Nat.pow_le_pow_right (by decide) l)
theorem two_pos (n : Nat) : 0 < 2 ^ n := Nat.pos_of_ne_zero (by simp)
theorem Sm.add {n m : Nat} {i j : Int} (h : Sm n i) (g : Sm m j) : Sm (max n m + 1) (i + j) := by
  have h1 := Sm.le h (Nat.le_max_left n m)
  have h2 := Sm.le g (Nat.le_max_right n m)
  unfold Sm at *
  rw [Nat.pow_succ]
  omega
theorem Sm.neg {n : Nat} {i : Int} (h : Sm n i) : Sm n (-i) := by unfold Sm at *; omega
theorem Sm.sub {n m : Nat} {i j : Int} (h : Sm n i) (g : Sm m j) : Sm (max n m + 1) (i - j) := by
  have h1 := Sm.le h (Nat.le_max_left n m)
  have h2 := Sm.le g (Nat.le_max_right n m)
  unfold Sm at *
  rw [Nat.pow_succ]
  omega
theorem Sm.mul {n m : Nat} {i j : Int} (h : Sm n i) (g : Sm m j) : Sm (n + m) (i * j) := wide_lt h g
theorem Sm.of_le {n : Nat} {i j : Int} (h : Sm n j) (h0 : 0 ≤ i) (l : i ≤ j) : Sm n i := Nat.lt_of_le_of_lt (by omega) h
theorem Sm.of_abs {n : Nat} {i j : Int} (h : Sm n j) (l : i.natAbs ≤ j.natAbs) : Sm n i := Nat.lt_of_le_of_lt l h
theorem Sm.mod {n : Nat} {i j : Int} (h : Sm n j) (h0 : 0 < j) : Sm n (i % j) := h.of_le (Int.emod_nonneg _ (by omega)) (Int.le_of_lt (Int.emod_lt_of_pos _ h0))
theorem Sm.div {n : Nat} {i j : Int} (h : Sm n i) (h0 : 0 < j) : Sm n (i / j) := by
  refine h.of_abs ?_
  by_cases hi : 0 ≤ i
  · have h1 : 0 ≤ i / j := Int.ediv_nonneg hi (by omega)
    have h2 : i / j ≤ i := Int.ediv_le_self j hi
    omega
  · have h1 : i / j < 0 := Int.ediv_neg_of_neg_of_pos (by omega) h0
    have h2 : i ≤ i / j := by
      have e := Int.mul_ediv_add_emod i j
      have h4 := Int.emod_lt_of_pos i h0
      have h5 : j * (i / j + 1) ≤ 1 * (i / j + 1) := Int.mul_le_mul_of_nonpos_right (by omega) (by omega)
      rw [Int.mul_add, Int.mul_one, Int.one_mul] at h5
      omega
    omega
theorem Sm.lit {n : Nat} {i : Int} (h : decide (i.natAbs < 2 ^ n) = true) : Sm n i := by unfold Sm; exact of_decide_eq_true h
theorem Sm.pow {n : Nat} {i : Int} (h : Sm n i) (k : Nat) : Sm (n * k + 1) (i ^ k) := by
  induction k with
  | zero => unfold Sm; rw [Int.pow_zero]; exact Nat.one_lt_two_pow (by omega)
  | succ k ih =>
    rw [Int.pow_succ]
    exact (ih.mul h).le (by rw [Nat.mul_succ]; omega)
theorem Sm.max {n m : Nat} {i j : Int} (h : Sm n i) (g : Sm m j) : Sm (Nat.max n m) (max i j) := by
  have h1 := Sm.le h (Nat.le_max_left n m)
  have h2 := Sm.le g (Nat.le_max_right n m)
  rcases Int.le_total i j with l | l
  · rw [Int.max_eq_right l]; exact h2
  · rw [Int.max_eq_left l]; exact h1
theorem Sm.min {n m : Nat} {i j : Int} (h : Sm n i) (g : Sm m j) : Sm (Nat.max n m) (min i j) := by
  have h1 := Sm.le h (Nat.le_max_left n m)
  have h2 := Sm.le g (Nat.le_max_right n m)
  rcases Int.le_total i j with l | l
  · rw [Int.min_eq_left l]; exact h1
  · rw [Int.min_eq_right l]; exact h2
/-- what * asks, what // asks -/
def MulOk (i j : Int) : Prop := CMulW i j ∨ CMul i j
theorem MulOk.ok {i j : Int} (h : MulOk i j) : IntMulOk i j := h.elim CMulW.ok CMul.ok
theorem MulOk.of {n m : Nat} {i j : Int} (h : Sm n i) (g : Sm m j) (l : n + m + 2 ≤ 1000000) : MulOk i j := .inl (wide_mul (h.le (Nat.le_succ n)) (g.le (Nat.le_succ m)) (Nat.succ_pos _) (Nat.succ_pos _) (by omega))
theorem MulOk.lt {n : Nat} {i j : Int} (h : Sm n i) (l : n ≤ 63) : MulOk i j := by
  have h1 := h.le l
  unfold Sm at h1
  have e : (2 : Nat) ^ 63 = 9223372036854775808 := by decide
  have e' : (2 : Int) ^ 64 = 18446744073709551616 := by decide
  rw [e] at h1
  refine .inr (.inl ?_)
  rw [e']
  omega
theorem MulOk.rt {n : Nat} {i j : Int} (h : Sm n j) (l : n ≤ 63) : MulOk i j := by
  have h1 := h.le l
  unfold Sm at h1
  have e : (2 : Nat) ^ 63 = 9223372036854775808 := by decide
  have e' : (2 : Int) ^ 64 = 18446744073709551616 := by decide
  rw [e] at h1
  refine .inr (.inr ?_)
  rw [e']
  omega
def DivOk (j : Int) : Prop := 0 < j ∧ Sm 8000 j

/-! ### operators -/
section
variable {K : PySem.W.Frag}
theorem lndI {rv : R2} {r : OpD} {C : Int → Int → Prop} {g : Int → Int → D} {gv : Int → Int → V} (hr : ∀ {x y : D} {q : D → Prop}, r x y q → ∃ i j, x = .int i ∧ y = .int j ∧ C i j ∧ q (g i j)) (hr' : ∀ {i j : Int} {q : D → Prop}, C i j → q (g i j) → r (.int i) (.int j) q)
    (hv : ∀ {i j : Int} {H : Hp} {Q : VK}, C i j → Q (gv i j) H → rv (.int i) (.int j) H Q) (hg : ∀ i j G, Rep K G (gv i j) (g i j)) : Lnd K rv r where
  mo := fun k h => by
    obtain ⟨i, j, rfl, rfl, c, q⟩ := hr h
    exact hr' c (k _ q)
  go := fun H G x y dx dy q Q e rx ry h k _ => by
    obtain ⟨i, j, rfl, rfl, c, q⟩ := hr h
    cases rx
    cases ry
    exact hv c (k _ _ q (hg i j G))
def addD : OpD := fun x y q => match x, y with
  | .int i, .int j => q (.int (i + j))
  | .str i, .str j => i.length + j.length ≤ 16777216 ∧ q (.str (i ++ j))
  | .tup l, .tup m => l ≠ [] ∧ m ≠ [] ∧ l.length + m.length ≤ 100000 ∧ q (.tup (l ++ m))
  | _, _ => False
def subD : OpD := fun x y q => match x, y with | .int i, .int j => q (.int (i - j)) | _, _ => False
def mulD : OpD := fun x y q => match x, y with
  | .int i, .int j => MulOk i j ∧ q (.int (i * j))
  | .str x, .int n => PySem.MulOk x n ∧ q (.str (Txt.mul x n))
  | _, _ => False
def divD : OpD := fun x y q => match x, y with | .int i, .int j => DivOk j ∧ q (.int (i / j)) | _, _ => False
def modD : OpD := fun x y q => match x, y with | .int i, .int j => 0 < j ∧ q (.int (i % j)) | _, _ => False
def powD : OpD := fun x y q => match x, y with | .int i, .int j => (0 ≤ j ∧ j ≤ 1000000 ∧ Sm 63 i) ∧ q (.int (i ^ j.toNat)) | _, _ => False
def ltD : OpD := fun x y q => match x, y with | .int i, .int j => q (.bl (decide (i < j))) | _, _ => False
def leD : OpD := fun x y q => match x, y with | .int i, .int j => q (.bl (decide (i ≤ j))) | _, _ => False
def gtD : OpD := fun x y q => match x, y with | .int i, .int j => q (.bl (decide (j < i))) | _, _ => False
def geD : OpD := fun x y q => match x, y with | .int i, .int j => q (.bl (decide (j ≤ i))) | _, _ => False
def rAddZ (K : PySem.W.Frag) : R2 := fun x y H Q => rI0 (fun i j => .int (i + j)) x y H Q ∨ (∃ i j, x = .str i ∧ y = .str j ∧ i.length + j.length ≤ sizeLine ∧ Q (.str (i ++ j)) H) ∨ rCatT K x y H Q
theorem o_add {X : Cx} : OpR X (binaryOp .Add) (rAddZ X.K) := OpR.or op_add (OpR.or op_add_str op_catT)
theorem RepL.nil_iff {G : Hp} {vs : List V} {l : List D} (r : RepL K G vs l) : vs = [] ↔ l = [] := by cases r <;> simp
theorem l_add : Lnd K (rAddZ K) addD where
  mo := fun {x y q q'} k h => by
    unfold addD at h ⊢
    split at h
    · exact k _ h
    · exact ⟨h.1, k _ h.2⟩
    · exact ⟨h.1, h.2.1, h.2.2.1, k _ h.2.2.2⟩
    · exact h.elim
  go := fun H G x y dx dy q Q e rx ry h k k' => by
    unfold addD at h
    split at h
    · cases rx; cases ry
      exact .inl ⟨_, _, rfl, rfl, k _ _ h (.int _)⟩
    · cases rx; cases ry
      exact .inr (.inl ⟨_, _, rfl, rfl, by rw [sizeLine_eq]; exact h.1, k _ _ h.2 (.str _)⟩)
    · cases rx with
      | tup sx rx =>
        cases ry with
        | tup sy ry =>
          refine .inr (.inr ⟨_, _, _, _, rfl, rfl, sqTE e sx, sqTE e sy, fun z => h.1 (rx.nil_iff.mp z), sz1 (by rw [rx.len, ry.len]; exact h.2.2.1), fun z => absurd (ry.nil_iff.mp z) h.2.1, fun _ p hp => k' _ _ p h.2.2.2 hp (rx.app ry)⟩)
    · exact h.elim
theorem l_sub : Lnd K (rI0 fun i j => .int (i - j)) subD := lndI (C := fun _ _ => True) (g := fun i j => .int (i - j)) (gv := fun i j => .int (i - j)) (fun {x y q} h => by unfold subD at h; split at h; exact ⟨_, _, rfl, rfl, trivial, h⟩; exact h.elim) (fun _ h => h) (fun _ h => ⟨_, _, rfl, rfl, h⟩) (fun _ _ _ => .int _)
theorem o_mulStr {X : Cx} : OpR X (binaryOp .Mult) (fun x y H Q => ∃ z n, x = .str z ∧ y = .int n ∧ PySem.MulOk z n ∧ Q (.str (Txt.mul z n)) H) := by
  intro pins s σ H x y v u Q I rx ry h
  obtain ⟨z, n, rfl, rfl, hc, q⟩ := h
  obtain ⟨t, rfl⟩ := rx
  obtain ⟨t', rfl⟩ := ry
  exact SB.mul hc fun t2 k2 => ⟨.str _, H, I.tok _, ⟨_, rfl⟩, q⟩
theorem o_mulI {X : Cx} : OpR X (binaryOp .Mult) (rI MulOk fun i j => .int (i * j)) := opI fun _ _ _ _ _ _ _ hc q => mul_int q hc.ok
def rMulZ : R2 := fun x y H Q => rI MulOk (fun i j => .int (i * j)) x y H Q ∨ ∃ z n, x = .str z ∧ y = .int n ∧ PySem.MulOk z n ∧ Q (.str (Txt.mul z n)) H
theorem o_mul {X : Cx} : OpR X (binaryOp .Mult) rMulZ := OpR.or o_mulI o_mulStr
theorem l_mul : Lnd K rMulZ mulD where
  mo := fun {x y q q'} k h => by
    unfold mulD at h ⊢
    split at h
    · exact ⟨h.1, k _ h.2⟩
    · exact ⟨h.1, k _ h.2⟩
    · exact h.elim
  go := fun H G x y dx dy q Q e rx ry h k k' => by
    unfold mulD at h
    split at h
    · cases rx; cases ry
      exact .inl ⟨_, _, rfl, rfl, h.1, k _ _ h.2 (.int _)⟩
    · cases rx; cases ry
      exact .inr ⟨_, _, rfl, rfl, h.1, k _ _ h.2 (.str _)⟩
    · exact h.elim
theorem o_div {X : Cx} : OpR X (binaryOp .FloorDiv) (rI (fun _ j => DivOk j) fun i j => .int (i / j)) := opI fun i j _ _ _ _ _ hc q => by
  have h1 : (0 : Int) < j := hc.1
  exact floordiv_int (by omega) (by rw [Int.fdiv_eq_ediv_of_nonneg i (by omega)]; exact q) (.inl (PyProof.noPylong_of_log2 (Nat.lt_of_lt_of_le (PySem.Flt.log2_lt_of (by decide) hc.2) (by decide))))
theorem l_div : Lnd K (rI (fun _ j => DivOk j) fun i j => .int (i / j)) divD := lndI (C := fun _ j => DivOk j) (g := fun i j => .int (i / j)) (gv := fun i j => .int (i / j)) (fun {x y q} h => by unfold divD at h; split at h; exact ⟨_, _, rfl, rfl, h.1, h.2⟩; exact h.elim) (fun c h => ⟨c, h⟩) (fun c h => ⟨_, _, rfl, rfl, c, h⟩) (fun _ _ _ => .int _)
theorem l_mod : Lnd K (rI (fun _ j => 0 < j) fun i j => .int (i % j)) modD := lndI (C := fun _ j => 0 < j) (g := fun i j => .int (i % j)) (gv := fun i j => .int (i % j)) (fun {x y q} h => by unfold modD at h; split at h; exact ⟨_, _, rfl, rfl, h.1, h.2⟩; exact h.elim) (fun c h => ⟨c, h⟩) (fun c h => ⟨_, _, rfl, rfl, c, h⟩) (fun _ _ _ => .int _)
theorem l_pow : Lnd K (rI CPow fun i j => .int (i ^ j.toNat)) powD := lndI (C := fun i j => 0 ≤ j ∧ j ≤ 1000000 ∧ Sm 63 i) (g := fun i j => .int (i ^ j.toNat)) (gv := fun i j => .int (i ^ j.toNat)) (fun {x y q} h => by unfold powD at h; split at h; exact ⟨_, _, rfl, rfl, h.1, h.2⟩; exact h.elim) (fun c h => ⟨c, h⟩) (fun c h => ⟨_, _, rfl, rfl, ⟨c.1, c.2.1, Sm.le c.2.2 (by decide)⟩, h⟩) (fun _ _ _ => .int _)
theorem l_lt : Lnd K (rI0 fun i j => .bl (decide (i < j))) ltD := lndI (C := fun _ _ => True) (g := fun i j => .bl (decide (i < j))) (gv := fun i j => .bl (decide (i < j))) (fun {x y q} h => by unfold ltD at h; split at h; exact ⟨_, _, rfl, rfl, trivial, h⟩; exact h.elim) (fun _ h => h) (fun _ h => ⟨_, _, rfl, rfl, h⟩) (fun _ _ _ => .bl _)
theorem l_le : Lnd K (rI0 fun i j => .bl (decide (i ≤ j))) leD := lndI (C := fun _ _ => True) (g := fun i j => .bl (decide (i ≤ j))) (gv := fun i j => .bl (decide (i ≤ j))) (fun {x y q} h => by unfold leD at h; split at h; exact ⟨_, _, rfl, rfl, trivial, h⟩; exact h.elim) (fun _ h => h) (fun _ h => ⟨_, _, rfl, rfl, h⟩) (fun _ _ _ => .bl _)
theorem l_gt : Lnd K (rI0 fun i j => .bl (decide (j < i))) gtD := lndI (C := fun _ _ => True) (g := fun i j => .bl (decide (j < i))) (gv := fun i j => .bl (decide (j < i))) (fun {x y q} h => by unfold gtD at h; split at h; exact ⟨_, _, rfl, rfl, trivial, h⟩; exact h.elim) (fun _ h => h) (fun _ h => ⟨_, _, rfl, rfl, h⟩) (fun _ _ _ => .bl _)
theorem l_ge : Lnd K (rI0 fun i j => .bl (decide (j ≤ i))) geD := lndI (C := fun _ _ => True) (g := fun i j => .bl (decide (j ≤ i))) (gv := fun i j => .bl (decide (j ≤ i))) (fun {x y q} h => by unfold geD at h; split at h; exact ⟨_, _, rfl, rfl, trivial, h⟩; exact h.elim) (fun _ h => h) (fun _ h => ⟨_, _, rfl, rfl, h⟩) (fun _ _ _ => .bl _)

/-! ### equality -/
mutual
def py : D → PyData
  | .non => .none
  | .bl b => .bool b
  | .int i => .int i
  | .str x => .str x
  | .tup l => .tuple (pys l)
  | .lst l => .list (pys l)
  | .arr l => .list (pys l)
  | .ref _ => .none
  | .exc _ => .none
def pys : List D → List PyData
  | [] => []
  | d :: l => py d :: pys l
end
mutual
def okD : D → Bool
  | .non => true
  | .bl _ => true
  | .int _ => true
  | .str x => PyData.strOk x
  | .tup l => okDs l
  | .lst l => okDs l
  | .arr l => okDs l
  | .ref _ => false
  | .exc _ => false
def okDs : List D → Bool
  | [] => true
  | d :: l => okD d && okDs l
end
mutual
def dpD : D → Nat
  | .tup l => dpDs l + 1
  | .lst l => dpDs l + 1
  | .arr l => dpDs l + 1
  | .non => 0
  | .bl _ => 0
  | .int _ => 0
  | .str _ => 0
  | .ref _ => 0
  | .exc _ => 0
def dpDs : List D → Nat
  | [] => 0
  | d :: l => max (dpD d) (dpDs l)
end
mutual
theorem dp_of {G H : Hp} (e : Ext G H) : ∀ (d : D) (v : V), Rep K G v d → okD d = true → Dp K H v (py d)
  | .non, _, h, _ => by cases h; exact .non
  | .bl b, _, h, _ => by cases h; exact .bl b
  | .int i, _, h, _ => by cases h; exact .int i
  | .str x, _, h, _ => by cases h; exact .str x
  | .tup l, _, h, o => by
    cases h with
    | tup a b => exact .tup (sqTE e a) (dps_of e l _ b (by simpa [okD] using o))
  | .lst l, _, h, o => by
    cases h with
    | lst a b => exact .lst (.inl (.inl (e _ _ a))) (dps_of e l _ b (by simpa [okD] using o))
  | .arr l, _, h, o => by
    cases h with
    | arr a b => exact .lst (sqLE e a) (dps_of e l _ b (by simpa [okD] using o))
  | .ref p, _, _, o => by simp [okD] at o
  | .exc p, _, _, o => by simp [okD] at o
theorem dps_of {G H : Hp} (e : Ext G H) : ∀ (l : List D) (vs : List V), RepL K G vs l → okDs l = true → DpAll K H vs (pys l)
  | [], _, h, _ => by cases h; exact .nil
  | d :: l, _, h, o => by
    cases h with
    | cons a b =>
      have o' : okD d = true ∧ okDs l = true := by simpa [okDs] using o
      exact .cons (dp_of e d _ a o'.1) (dps_of e l _ b o'.2)
end
mutual
theorem can_of : ∀ d : D, okD d = true → PyData.canLay0 (py d) = true ∧ PyData.depth (py d) = dpD d
  | .non, _ => ⟨by simp [py, PyData.canLay0], by simp [py, PyData.depth, dpD]⟩
  | .bl b, _ => ⟨by simp [py, PyData.canLay0], by simp [py, PyData.depth, dpD]⟩
  | .int i, _ => ⟨by simp [py, PyData.canLay0], by simp [py, PyData.depth, dpD]⟩
  | .str x, o => ⟨by simpa [py, PyData.canLay0, okD] using o, by simp [py, PyData.depth, dpD]⟩
  | .tup l, o => by
    have q := cans_of l (by simpa [okD] using o)
    exact ⟨by simpa [py, PyData.canLay0] using q.1, by simp [py, PyData.depth, dpD, q.2]⟩
  | .lst l, o => by
    have q := cans_of l (by simpa [okD] using o)
    exact ⟨by simpa [py, PyData.canLay0] using q.1, by simp [py, PyData.depth, dpD, q.2]⟩
  | .arr l, o => by
    have q := cans_of l (by simpa [okD] using o)
    exact ⟨by simpa [py, PyData.canLay0] using q.1, by simp [py, PyData.depth, dpD, q.2]⟩
  | .ref p, o => by simp [okD] at o
  | .exc p, o => by simp [okD] at o
theorem cans_of : ∀ l : List D, okDs l = true → PyData.canLayAll0 (pys l) = true ∧ PyData.depthAll (pys l) = dpDs l
  | [], _ => ⟨by simp [pys, PyData.canLayAll0], by simp [pys, PyData.depthAll, dpDs]⟩
  | d :: l, o => by
    have o' : okD d = true ∧ okDs l = true := by simpa [okDs] using o
    have q1 := can_of d o'.1
    have q2 := cans_of l o'.2
    exact ⟨by simp [pys, PyData.canLayAll0, q1.1, q2.1], by simp [pys, PyData.depthAll, dpDs, q1.2, q2.2]⟩
end
def deq (x y : D) : Bool := PyData.eqv (py x) (py y)
def deqs (x y : List D) : Bool := PyData.eqvAll (pys x) (pys y)
def eqD : OpD := fun x y q => match x, y with
  | .str i, .str j => q (.bl (decide (i = j)))
  | .str _, .non => q (.bl false)
  | .non, .str _ => q (.bl false)
  | x, y => (okD x = true ∧ okD y = true ∧ dpD x ≤ 64 ∧ dpD y ≤ 64) ∧ q (.bl (deq x y))
def neD : OpD := fun x y q => eqD x y fun d => match d with | .bl b => q (.bl (!b)) | _ => False
def rEqZ (K : PySem.W.Frag) : R2 := fun x y H Q => rEq x y H Q ∨ rEqD K x y H Q
def rNeZ (K : PySem.W.Frag) : R2 := fun x y H Q => rNe x y H Q ∨ rNeD K x y H Q
theorem o_eq {X : Cx} {k : Nat} (hr : Room k X.A) : OpR X (compareOp .Eq) (rEqZ X.K) := OpR.or op_eq (op_eqD hr.units)
theorem o_ne {X : Cx} {k : Nat} (hr : Room k X.A) : OpR X (compareOp .NotEq) (rNeZ X.K) := OpR.or op_ne (op_neD hr.units)
theorem shp {d : D} (h : okD d = true) (h2 : dpD d ≤ 64) : SeqAt.shaped (py d) = true := by
  have q := can_of d h
  unfold SeqAt.shaped
  rw [q.1, q.2, decide_eq_true h2]
  rfl
theorem l_eq : Lnd K (rEqZ K) eqD where
  mo := fun {x y q q'} k h => by
    unfold eqD at h ⊢
    split at h
    · exact k _ h
    · exact k _ h
    · exact k _ h
    · exact ⟨h.1, k _ h.2⟩
  go := fun H G x y dx dy q Q e rx ry h k _ => by
    unfold eqD at h
    split at h
    · cases rx; cases ry
      rename_i i j
      refine .inl ⟨rfl, ?_⟩
      have z : decide (V.str i = V.str j) = decide (i = j) := by
        by_cases z : i = j
        · subst z; simp
        · rw [decide_eq_false z]; simp [z]
      show Q (.bl (decide (V.str i = V.str j))) H
      rw [z]
      exact k _ _ h (.bl _)
    · cases rx; cases ry
      exact .inl ⟨rfl, k _ _ h (.bl _)⟩
    · cases rx; cases ry
      exact .inl ⟨rfl, k _ _ h (.bl _)⟩
    · exact .inr ⟨_, _, dp_of e _ _ rx h.1.1, dp_of e _ _ ry h.1.2.1, shp h.1.1 h.1.2.2.1, shp h.1.2.1 h.1.2.2.2, k _ _ h.2 (.bl _)⟩
theorem l_ne : Lnd K (rNeZ K) neD where
  mo := fun {x y q q'} k h => l_eq (K := K).mo (fun d h => by
    cases d with
    | bl b => exact k _ h
    | _ => exact h) h
  go := fun H G x y dx dy q Q e rx ry h k _ => by
    unfold neD eqD at h
    split at h
    · cases rx; cases ry
      rename_i i j
      refine .inl ⟨rfl, ?_⟩
      have z : decide (V.str i = V.str j) = decide (i = j) := by
        by_cases z : i = j
        · subst z; simp
        · rw [decide_eq_false z]; simp [z]
      show Q (.bl (!decide (V.str i = V.str j))) H
      rw [z]
      exact k _ _ h (.bl _)
    · cases rx; cases ry
      exact .inl ⟨rfl, k _ _ h (.bl _)⟩
    · cases rx; cases ry
      exact .inl ⟨rfl, k _ _ h (.bl _)⟩
    · exact .inr ⟨_, _, dp_of e _ _ rx h.1.1, dp_of e _ _ ry h.1.2.1, shp h.1.1 h.1.2.2.1, shp h.1.2.1 h.1.2.2.2, k _ _ h.2 (.bl _)⟩
end
end Z

namespace Z
open PySem PySem.Spec PyProof.Rows L2
variable {ω : Type}

/-! ### subscripts -/
section
variable {K : PySem.W.Frag} {G : Hp}
theorem RepL.at {vs : List V} {l : List D} {i : Int} {d : D} (r : RepL K G vs l) (h : atI l i = some d) : ∃ v, atI vs i = some v ∧ Rep K G v d := by
  unfold atI at h ⊢
  rw [r.len]
  cases q : ixN l.length i with
  | none => rw [q] at h; cases h
  | some j =>
    rw [q] at h
    obtain ⟨v, h1, h2⟩ := r.get (i := j) h
    exact ⟨v, h1, h2⟩
def ixD : OpD := fun x y q => match x, y with
  | .tup l, .int i => ∃ d, atI l i = some d ∧ q d
  | .lst l, .int i => ∃ d, atI l i = some d ∧ q d
  | .arr l, .int i => ∃ d, atI l i = some d ∧ q d
  | .str s, .int i => s.length ≤ 16777216 ∧ ∃ c, atI s.cps.toList i = some c ∧ q (.str ⟨#[c]⟩)
  | _, _ => False
theorem l_ix : Lnd K (rIx K) ixD where
  mo := fun {x y q q'} k h => by
    unfold ixD at h ⊢
    split at h
    · obtain ⟨d, h1, h2⟩ := h; exact ⟨d, h1, k _ h2⟩
    · obtain ⟨d, h1, h2⟩ := h; exact ⟨d, h1, k _ h2⟩
    · obtain ⟨d, h1, h2⟩ := h; exact ⟨d, h1, k _ h2⟩
    · obtain ⟨h0, d, h1, h2⟩ := h; exact ⟨h0, d, h1, k _ h2⟩
    · exact h.elim
  go := fun H G x y dx dy q Q e rx ry h k _ => by
    unfold ixD at h
    split at h
    · obtain ⟨d, h1, h2⟩ := h
      cases rx with
      | tup s r =>
        cases ry
        obtain ⟨v, g1, g2⟩ := r.at h1
        exact .inr (.inl ⟨_, _, _, v, rfl, rfl, sqTE e s, g1, k d v h2 g2⟩)
    · obtain ⟨d, h1, h2⟩ := h
      cases rx with
      | lst s r =>
        cases ry
        obtain ⟨v, g1, g2⟩ := r.at h1
        exact .inl ⟨_, _, _, v, rfl, rfl, .inl (.inl (e _ _ s)), g1, k d v h2 g2⟩
    · obtain ⟨d, h1, h2⟩ := h
      cases rx with
      | arr s r =>
        cases ry
        obtain ⟨v, g1, g2⟩ := r.at h1
        exact .inl ⟨_, _, _, v, rfl, rfl, sqLE e s, g1, k d v h2 g2⟩
    · obtain ⟨h0, c, h1, h2⟩ := h
      cases rx
      cases ry
      exact .inr (.inr ⟨_, _, c, rfl, rfl, by rw [sizeLine_eq]; exact h0, h1, k _ _ h2 (.str _)⟩)
    · exact h.elim
end
/-! our own list: an item, the length, a store, append -/
def onOwn (δ : List Sl) (i : Nat) (f : List D → Prop) : Prop := match δ[i]? with | some (.own l) => f l | _ => False
theorem onOwn.of {δ : List Sl} {i : Nat} {f : List D → Prop} (h : onOwn δ i f) : ∃ l, δ[i]? = some (.own l) ∧ f l := by
  unfold onOwn at h
  split at h
  · exact ⟨_, by assumption, h⟩
  · exact h.elim
theorem onOwn.to {δ : List Sl} {i : Nat} {f : List D → Prop} {l : List D} (e : δ[i]? = some (.own l)) (h : f l) : onOwn δ i f := by unfold onOwn; rw [e]; exact h
theorem onOwn.imp {δ : List Sl} {i : Nat} {f g : List D → Prop} (k : ∀ l, f l → g l) (h : onOwn δ i f) : onOwn δ i g := let ⟨_, e, q⟩ := h.of; .to e (k _ q)
def intD (d : D) (f : Int → Prop) : Prop := match d with | .int k => f k | _ => False
theorem intD.of {d : D} {f : Int → Prop} (h : intD d f) : ∃ k, d = .int k ∧ f k := by
  unfold intD at h
  split at h
  · exact ⟨_, rfl, h⟩
  · exact h.elim
theorem intD.imp {d : D} {f g : Int → Prop} (k : ∀ l, f l → g l) (h : intD d f) : intD d g := by obtain ⟨j, rfl, q⟩ := h.of; exact k _ q
def zIxO (i : Nat) (te : TEZ ω) : TEZ ω := fun δ w Q E => onOwn δ i fun l => te δ w (fun d w1 => intD d fun k => ∃ x, atI l k = some x ∧ Q x w1) E
def zLenO (i : Nat) : TEZ ω := fun δ w Q _ => onOwn δ i fun l => Q (.int l.length) w
def zSetO (i : Nat) (tk te : TEZ ω) : TSZ ω := fun DE δ w => te δ w (fun d w1 => onOwn δ i fun l => tk δ w1 (fun k w2 => intD k fun k => ∃ j, ixN l.length k = some j ∧ DE.nx (δ.set i (.own (l.set j d))) w2) (fun e w' => DE.ex e δ w')) (fun e w' => DE.ex e δ w')
def zAppO (i : Nat) (te : TEZ ω) : TSZ ω := fun DE δ w => onOwn δ i fun l => te δ w (fun d w1 => l.length < 100000 ∧ DE.nx (δ.set i (.own (l ++ [d]))) w1) (fun e w' => DE.ex e δ w')
section
variable {X : Cx} {W : Wp ω} {pos pos' p : Pos} {x : Str} {e a : Expr} {te tk : TEZ ω}
theorem SR.own {K : PySem.W.Frag} {Z : Zx} {σ : L2.St} {H G M : Hp} {δ : List Sl} {w : ω} {i : Nat} {l : List D} (a : SR K W Z σ H G M δ w) (e : δ[i]? = some (.own l)) : ∃ p vs, σ[i]? = some (some (.ref p)) ∧ H p = some (.lst vs) ∧ M p = none ∧ RepL K G vs l := by
  obtain ⟨p, vs, h1, h2, h3, h4, h5, h7⟩ := a.sl i _ e
  exact ⟨p, vs, h1, h2, h4, h7⟩
theorem z_ixO (i : Nat) (he : PEZ X W e te) (hN : X.N[i]? = some x := by rfl) (hv : Vis X.env.scope x := by first | exact Or.inl rfl | exact Or.inr (Or.inl rfl) | exact Or.inr (Or.inr rfl)) (hd : (x == ("__debug__" : Str)) = false := by decide)
    (hcd : (x == ("__classdict__" : Str)) = false := by decide) (hs : PlainIx e := by exact fun _ _ => rfl) : PEZ X W (.Subscript (.Name x p) e pos) (zIxO i te) :=
  ⟨fun k h => h.imp fun l h => he.mo (fun d w1 h1 => h1.imp fun j ⟨y, g1, g2⟩ => ⟨y, g1, k _ _ g2⟩) h, fun Z ex tk => peI (pe_ix ix_list (pe_var hN hv hd hcd) (he.run Z ex tk) hs) fun σ H Q ⟨G, M, δ, w, a, h⟩ => by
    obtain ⟨l, hl, h⟩ := h.of
    obtain ⟨p, vs, h1, h2, h3, h4⟩ := a.own hl
    refine ⟨.ref p, h1, G, M, δ, w, a, he.mo (fun d w1 q1 v H1 G1 M1 o1 r1 => ?_) h⟩
    obtain ⟨k, rfl, y, g1, g2⟩ := q1.of
    cases r1
    obtain ⟨u, u1, u2⟩ := (h4.up o1.nx.gg).at g1
    exact ⟨p, vs, k, u, rfl, rfl, .inl (.inl (o1.nx.fr p _ h2 h3)), u1, g2 u H1 G1 M1 o1 u2⟩⟩
theorem z_lenO (i : Nat) {pc : Pos} (hm : X.mg "len" = none) (hN : X.N[i]? = some x := by rfl) (hv : Vis X.env.scope x := by first | exact Or.inl rfl | exact Or.inr (Or.inl rfl) | exact Or.inr (Or.inr rfl)) (hd : (x == ("__debug__" : Str)) = false := by decide)
    (hcd : (x == ("__classdict__" : Str)) = false := by decide) (hg : Gl X "len" := by rfl) : PEZ X W (.Call (.Name "len" pc) [.Name x p] [] pos) (zLenO i) :=
  ⟨fun k h => h.imp fun l h => k _ _ h, fun Z ex tk => peI (pe_callB call_len_seq hg hm PySem.boot_len (pa_cons (pe_var hN hv hd hcd) pa_nil)) fun σ H Q ⟨G, M, δ, w, a, h⟩ => by
    obtain ⟨l, hl, h⟩ := h.of
    obtain ⟨p, vs, h1, h2, h3, h4⟩ := a.own hl
    refine ⟨.ref p, h1, p, vs, rfl, .inl (.inl (.inl h2)), ?_⟩
    rw [h4.len]
    exact h _ H G M a.here (.int _)⟩
theorem z_setO (i : Nat) (hk : PEZ X W e tk) (he : PEZ X W a te) (hN : X.N[i]? = some x := by rfl) (hv : Vis X.env.scope x := by first | exact Or.inl rfl | exact Or.inr (Or.inl rfl) | exact Or.inr (Or.inr rfl)) (hd : (x == ("__debug__" : Str)) = false := by decide)
    (hcd : (x == ("__classdict__" : Str)) = false := by decide) (hs : swapsWithSole [.Subscript (.Name x p) e pos'] a pos.line X.env = pure false := by rfl) (hw : swappedStores [.Subscript (.Name x p) e pos'] a X.env = pure none := by rfl)
    (h1 : (assignEach [.Subscript (.Name x p) e pos'] X.env).map (·.2) = [assign (.Subscript (.Name x p) e pos') X.env] := by rfl)
    (ha : ∀ v, assign (.Subscript (.Name x p) e pos') X.env v = (do
      let ov ← holding [v] (eval (.Name x p) X.env)
      let iv ← holding [v, ov] (eval e X.env)
      standAt pos'
      holding [v, ov, iv] (setItem ov iv v)
      release [v, ov, iv] []) := by intro _; rfl) : PSZ X W (.Assign [.Subscript (.Name x p) e pos'] a pos) (zSetO i tk te) := fun Z ex tk' =>
  psI (ps_asg (he.run Z ex tk') (pg_sub (pe_var hN hv hd hcd) (hk.run Z ex tk') set_list ha) hs hw h1) fun DE σ H ⟨Dz, hex, EI, G, M, δ, w, a, h⟩ => by
  subst hex
  refine ⟨G, M, δ, w, a, he.mo (fun d w1 q1 v H1 G1 M1 o1 r1 => ?_) h⟩
  have a1 := a.go o1
  obtain ⟨l, hl, q⟩ := q1.of
  obtain ⟨p, vs, h1, h2, h3, h4⟩ := a1.own hl
  refine ⟨.ref p, h1, G1, M1, δ, w1, a1, hk.mo (fun d2 w2 q2 v2 H2 G2 M2 o2 r2 => ?_) q⟩
  obtain ⟨k, rfl, j, g1, g2⟩ := q2.of
  cases r2
  have r4 := h4.up o2.nx.gg
  exact ⟨p, vs, k, j, rfl, rfl, o2.nx.fr p _ h2 h3, by rw [r4.len]; exact g1, EI.nx _ _ ⟨G2, M2, _, w2, (a1.go o2).change hl h1 (RepL.set (r1.up o2.nx.gg) j r4), g2⟩⟩
theorem z_appO (i : Nat) {pm : Pos} (he : PEZ X W e te) (hN : X.N[i]? = some x := by rfl) (hv : Vis X.env.scope x := by first | exact Or.inl rfl | exact Or.inr (Or.inl rfl) | exact Or.inr (Or.inr rfl)) (hd : (x == ("__debug__" : Str)) = false := by decide)
    (hcd : (x == ("__classdict__" : Str)) = false := by decide) (hs : swapsWith (.Call (.Attribute (.Name x p) "append" pm) [e] [] pos') none pos.line X.env = pure false := by rfl)
    (hpe : ∀ {t : TE}, PE X e t → PE X (.Call (.Attribute (.Name x p) "append" pm) [e] [] pos') (tBM X.K "list" rAppend (tVar i) (tCons t tNil)) := by
      intro t ht
      exact pe_bm PySem.F.plainAttrs_list PySem.F.slot_list_append PySem.F.type_list_append mt_append (pv _) (pa_cons ht pa_nil)) :
    PSZ X W (.Expr (.Call (.Attribute (.Name x p) "append" pm) [e] [] pos') pos) (zAppO i te) := fun Z ex tk =>
  psI (ps_expr (hpe (he.run Z ex tk)) hs) fun DE σ H ⟨Dz, hex, EI, G, M, δ, w, a, h⟩ => by
  subst hex
  obtain ⟨l, hl, h⟩ := h.of
  obtain ⟨p, vs, h1, h2, h3, h4⟩ := a.own hl
  refine ⟨.ref p, h1, .inl ⟨rfl, _, SqL.of h2⟩, G, M, δ, w, a, he.mo (fun d w1 q1 v H1 G1 M1 o1 r1 => ?_) h⟩
  have a1 := a.go o1
  have r4 := h4.up o1.nx.gg
  refine ⟨p, vs, v, rfl, rfl, o1.nx.fr p _ h2 h3, by rw [r4.len, sizeLine_eq]; omega, EI.nx _ _ ⟨G1, M1, _, w1, a1.change hl h1 (r4.app (.cons r1 .nil)), q1.2⟩⟩
end
end Z

namespace Z
open PySem PySem.Spec PyProof.Rows L2
variable {ω : Type}

/-! ### calls of what is built in -/
structure LndC (K : PySem.W.Frag) (rc : List V → Hp → VK → Prop) (r : List D → (D → Prop) → Prop) : Prop where
  mo : ∀ {l : List D} {q q' : D → Prop}, (∀ d, q d → q' d) → r l q → r l q'
  go : ∀ (H G : Hp) (vs : List V) (l : List D) (q : D → Prop) (Q : VK), Ext G H → RepL K G vs l → r l q → (∀ d v, q d → Rep K G v d → Q v H) → (∀ m us p, q (.tup m) → H p = none → RepL K G us m → Q (.ref p) (upd H p (.tup us))) → rc vs H Q
structure LndF (K : PySem.W.Frag) (rc : List V → Hp → VK → Prop) (r : List D → (List D → Prop) → Prop) : Prop where
  mo : ∀ {l : List D} {q q' : List D → Prop}, (∀ d, q d → q' d) → r l q → r l q'
  go : ∀ (H G : Hp) (vs : List V) (l : List D) (q : List D → Prop) (Q : VK), Ext G H → RepL K G vs l → r l q → (∀ m us p, q m → H p = none → RepL K G us m → Q (.ref p) (upd H p (.lst us))) → rc vs H Q
def zB1 (r : List D → (D → Prop) → Prop) (ta : TAZ ω) : TEZ ω := fun δ w Q E => ta δ w (fun l w1 => r l fun d => Q d w1) E
def zBF (r : List D → (List D → Prop) → Prop) (ta : TAZ ω) : TAZ ω := fun δ w Q E => ta δ w (fun l w1 => r l fun m => Q m w1) E
section
variable {X : Cx} {W : Wp ω} {pos p : Pos} {x : Str} {e : Expr} {es : List Expr} {ta : TAZ ω} {rc : List V → Hp → VK → Prop} {r : List D → (D → Prop) → Prop} {rf : List D → (List D → Prop) → Prop}
theorem zb1_core (hl : LndC X.K rc r) (ha : PAZ X W (e :: es) ta) {Z : Zx} {ex : Nat → List Sl → ω → Prop} {σ : L2.St} {H : Hp} {Q : VK} (h : liE X.K W Z ex (zB1 r ta) σ H Q) : tCB rc (liA X.K W Z ex ta) σ H Q := by
  obtain ⟨G, M, δ, w, a, h⟩ := h
  exact ⟨G, M, δ, w, a, ha.mo (fun l w1 h1 vs H1 G1 M1 o1 r1 => hl.go H1 G1 vs l _ Q o1.pt.gh r1 h1 (fun d v q rv => q v H1 G1 M1 o1 rv) (fun m us p q hp ru => q (.ref p) _ _ _ (o1.new hp) (.tup (SqT.of upd_same) (ru.up (o1.ext hp))))) h⟩
theorem zbf_core (hl : LndF X.K rc rf) (ha : PAZ X W (e :: es) ta) {Z : Zx} {ex : Nat → List Sl → ω → Prop} {σ : L2.St} {H : Hp} {Q : VK} (h : liF X.K W Z ex (zBF rf ta) σ H Q) : tCB rc (liA X.K W Z ex ta) σ H Q := by
  obtain ⟨G, M, δ, w, a, h⟩ := h
  exact ⟨G, M, δ, w, a, ha.mo (fun l w1 h1 vs H1 G1 M1 o1 r1 => hl.go H1 G1 vs l _ Q o1.pt.gh r1 h1 (fun m us p q hp ru => q p us _ _ _ (o1.laid hp) ru (.of o1 a.pt.mh hp))) h⟩
theorem z_bi {id : String} (hc : CallR X (.builtin id) rc) (hl : LndC X.K rc r) (hm : X.mg x = none) (hv : bootBuiltins x = some (.builtin id)) (ha : PAZ X W (e :: es) ta) (hg : Gl X x := by rfl) (hn : x ≠ "__name__" := by decide) (hdb : (x == ("__debug__" : Str)) = false := by decide)
    (he : starEach (e :: es) X.env = (false, eval e X.env) :: starEach es X.env := by rfl) (hpl : (backTo pos (starEach es X.env)).any (·.1) = false := by rfl) : PEZ X W (.Call (.Name x p) (e :: es) [] pos) (zB1 r ta) :=
  ⟨fun k h => ha.mo (fun l w1 h1 => hl.mo (fun d q => k d _ q) h1) h, fun Z ex tk => peI (pe_callB hc hg hm hv (ha.run Z ex tk) hn hdb he hpl) fun σ H Q h => zb1_core hl ha h⟩
theorem z_bt {id : String} (hc : CallR X (.type id) rc) (hl : LndC X.K rc r) (hm : X.mg x = none) (hv : bootBuiltins x = some (.type id)) (ha : PAZ X W (e :: es) ta) (hg : Gl X x := by rfl) (hn : x ≠ "__name__" := by decide) (hdb : (x == ("__debug__" : Str)) = false := by decide)
    (he : starEach (e :: es) X.env = (false, eval e X.env) :: starEach es X.env := by rfl) (hpl : (backTo pos (starEach es X.env)).any (·.1) = false := by rfl) : PEZ X W (.Call (.Name x p) (e :: es) [] pos) (zB1 r ta) :=
  ⟨fun k h => ha.mo (fun l w1 h1 => hl.mo (fun d q => k d _ q) h1) h, fun Z ex tk => peI (pe_callTy hc hg hm hv (ha.run Z ex tk) hn hdb he hpl) fun σ H Q h => zb1_core hl ha h⟩
theorem z_bif {id : String} (hc : CallR X (.builtin id) rc) (hl : LndF X.K rc rf) (hm : X.mg x = none) (hv : bootBuiltins x = some (.builtin id)) (ha : PAZ X W (e :: es) ta) (hg : Gl X x := by rfl) (hn : x ≠ "__name__" := by decide) (hdb : (x == ("__debug__" : Str)) = false := by decide)
    (he : starEach (e :: es) X.env = (false, eval e X.env) :: starEach es X.env := by rfl) (hpl : (backTo pos (starEach es X.env)).any (·.1) = false := by rfl) : PFZ X W (.Call (.Name x p) (e :: es) [] pos) (zBF rf ta) :=
  ⟨fun k h => ha.mo (fun l w1 h1 => hl.mo (fun d q => k d _ q) h1) h, fun Z ex tk => peI (pe_callB hc hg hm hv (ha.run Z ex tk) hn hdb he hpl) fun σ H Q h => zbf_core hl ha h⟩
theorem z_btf {id : String} (hc : CallR X (.type id) rc) (hl : LndF X.K rc rf) (hm : X.mg x = none) (hv : bootBuiltins x = some (.type id)) (ha : PAZ X W (e :: es) ta) (hg : Gl X x := by rfl) (hn : x ≠ "__name__" := by decide) (hdb : (x == ("__debug__" : Str)) = false := by decide)
    (he : starEach (e :: es) X.env = (false, eval e X.env) :: starEach es X.env := by rfl) (hpl : (backTo pos (starEach es X.env)).any (·.1) = false := by rfl) : PFZ X W (.Call (.Name x p) (e :: es) [] pos) (zBF rf ta) :=
  ⟨fun k h => ha.mo (fun l w1 h1 => hl.mo (fun d q => k d _ q) h1) h, fun Z ex tk => peI (pe_callTy hc hg hm hv (ha.run Z ex tk) hn hdb he hpl) fun σ H Q h => zbf_core hl ha h⟩
end
/-! what they ask and give -/
def oneD (l : List D) (f : D → Prop) : Prop := match l with | [d] => f d | _ => False
def twoI (l : List D) (f : Int → Int → Prop) : Prop := match l with | [.int i, .int j] => f i j | _ => False
theorem oneD.of {l : List D} {f : D → Prop} (h : oneD l f) : ∃ d, l = [d] ∧ f d := by
  unfold oneD at h
  split at h
  · exact ⟨_, rfl, h⟩
  · exact h.elim
theorem twoI.of {l : List D} {f : Int → Int → Prop} (h : twoI l f) : ∃ i j, l = [.int i, .int j] ∧ f i j := by
  unfold twoI at h
  split at h
  · exact ⟨_, _, rfl, h⟩
  · exact h.elim
def lenD (l : List D) (q : D → Prop) : Prop := oneD l fun d => match d with
  | .tup m => q (.int m.length) | .lst m => q (.int m.length) | .arr m => q (.int m.length) | .str s => s.length ≤ 16777216 ∧ q (.int s.length) | _ => False
def absD (l : List D) (q : D → Prop) : Prop := oneD l fun d => intD d fun i => q (.int i.natAbs)
def maxD (l : List D) (q : D → Prop) : Prop := twoI l fun i j => q (.int (max i j))
def minD (l : List D) (q : D → Prop) : Prop := twoI l fun i j => q (.int (min i j))
def intC (l : List D) (q : D → Prop) : Prop := oneD l fun d => match d with
  | .int i => q (.int i) | .bl b => (b = true → q (.int 1)) ∧ (b = false → q (.int 0)) | .str s => ∃ n, PySem.intText? s = some n ∧ s.length ≤ 640 ∧ q (.int n) | _ => False
def strC (l : List D) (q : D → Prop) : Prop := oneD l fun d => intD d fun i => Sm 1900 i ∧ q (.str (toString i))
def sumC (l : List D) (q : D → Prop) : Prop := oneD l fun d => match d with | .lst m => ∃ ns : List Int, m = ns.map D.int ∧ q (.int ns.sum) | .arr m => ∃ ns : List Int, m = ns.map D.int ∧ q (.int ns.sum) | _ => False
def tupC (l : List D) (q : D → Prop) : Prop := oneD l fun d => match d with | .lst m => q (.tup m) | .tup m => q (.tup m) | _ => False
def lstC (l : List D) (q : List D → Prop) : Prop := oneD l fun d => match d with | .lst m => q m | .tup m => q m | .arr m => q m | _ => False
def maxC (l : List D) (q : D → Prop) : Prop := oneD l fun d => match d with | .lst m => ∃ ns : List Int, m = ns.map D.int ∧ 0 < ns.length ∧ ∀ m, m ∈ ns → (∀ y, y ∈ ns → y ≤ m) → q (.int m) | _ => False
def minC (l : List D) (q : D → Prop) : Prop := oneD l fun d => match d with | .lst m => ∃ ns : List Int, m = ns.map D.int ∧ 0 < ns.length ∧ ∀ m, m ∈ ns → (∀ y, y ∈ ns → m ≤ y) → q (.int m) | _ => False
def sortC (l : List D) (q : List D → Prop) : Prop := oneD l fun d => match d with | .lst m => ∃ ns : List Int, m = ns.map D.int ∧ ns.length < 64 ∧ ∀ ns' : List Int, ns'.Perm ns → ns'.Pairwise (· ≤ ·) → q (ns'.map D.int) | _ => False
section
variable {K : PySem.W.Frag}
theorem one_rep {G : Hp} {vs : List V} {d : D} (r : RepL K G vs [d]) : ∃ v, vs = [v] ∧ Rep K G v d := by
  cases r with
  | cons a b => cases b; exact ⟨_, rfl, a⟩
theorem two_rep {G : Hp} {vs : List V} {i j : Int} (r : RepL K G vs [.int i, .int j]) : vs = [.int i, .int j] := by
  cases r with
  | cons a b =>
    cases a
    cases b with
    | cons a b => cases a; cases b; rfl
theorem oneD.imp {l : List D} {f g : D → Prop} (k : ∀ d, f d → g d) (h : oneD l f) : oneD l g := by obtain ⟨d, rfl, q⟩ := h.of; exact k d q
theorem twoI.imp {l : List D} {f g : Int → Int → Prop} (k : ∀ i j, f i j → g i j) (h : twoI l f) : twoI l g := by obtain ⟨i, j, rfl, q⟩ := h.of; exact k i j q
theorem lc_len : LndC K (fun xs H Q => ∃ x n, xs = [x] ∧ LenV K x H n ∧ Q (.int n) H) lenD where
  mo := fun k h => h.imp fun d h => by
    split at h
    · exact k _ h
    · exact k _ h
    · exact k _ h
    · exact ⟨h.1, k _ h.2⟩
    · exact h.elim
  go := fun H G vs l q Q e r h k _ => by
    have hh := h.of; clear h; obtain ⟨d, rfl, h⟩ := hh
    have rr := one_rep r; clear r; obtain ⟨v, rfl, r⟩ := rr
    split at h
    · cases r with
      | tup s r => exact ⟨_, _, rfl, .inr ⟨_, sqTE e s, rfl⟩, by rw [r.len]; exact k _ _ h (.int _)⟩
    · cases r with
      | lst s r => exact ⟨_, _, rfl, .inl ⟨_, .inl (.inl (e _ _ s)), rfl⟩, by rw [r.len]; exact k _ _ h (.int _)⟩
    · cases r with
      | arr s r => exact ⟨_, _, rfl, .inl ⟨_, sqLE e s, rfl⟩, by rw [r.len]; exact k _ _ h (.int _)⟩
    · cases r
      exact ⟨_, _, rfl, ⟨by rw [sizeLine_eq]; exact h.1, rfl⟩, k _ _ h.2 (.int _)⟩
    · exact h.elim
theorem lc_abs : LndC K (fun xs H Q => ∃ i, xs = [.int i] ∧ Q (.int (if i < 0 then -i else i)) H) absD where
  mo := fun k h => h.imp fun d h => h.imp fun i h => k _ h
  go := fun H G vs l q Q e r h k _ => by
    have hh := h.of; clear h; obtain ⟨d, rfl, h⟩ := hh
    have hh := h.of; clear h; obtain ⟨i, rfl, h⟩ := hh
    have rr := one_rep r; clear r; obtain ⟨v, rfl, r⟩ := rr
    cases r
    refine ⟨i, rfl, ?_⟩
    have z : (if i < 0 then -i else i) = (i.natAbs : Int) := by split <;> omega
    rw [z]
    exact k _ _ h (.int _)
theorem lc_max : LndC K (fun xs H Q => ∃ i j, xs = [.int i, .int j] ∧ Q (.int (if j > i then j else i)) H) maxD where
  mo := fun k h => h.imp fun i j h => k _ h
  go := fun H G vs l q Q e r h k _ => by
    have hh := h.of; clear h; obtain ⟨i, j, rfl, h⟩ := hh
    obtain rfl := two_rep r
    refine ⟨i, j, rfl, ?_⟩
    have z : (if j > i then j else i) = max i j := by split <;> omega
    rw [z]
    exact k _ _ h (.int _)
theorem lc_min : LndC K (fun xs H Q => ∃ i j, xs = [.int i, .int j] ∧ Q (.int (if j < i then j else i)) H) minD where
  mo := fun k h => h.imp fun i j h => k _ h
  go := fun H G vs l q Q e r h k _ => by
    have hh := h.of; clear h; obtain ⟨i, j, rfl, h⟩ := hh
    obtain rfl := two_rep r
    refine ⟨i, j, rfl, ?_⟩
    have z : (if j < i then j else i) = min i j := by split <;> omega
    rw [z]
    exact k _ _ h (.int _)
theorem lc_int : LndC K (fun xs H Q => ((∃ i, xs = [.int i] ∧ Q (.int i) H) ∨ ∃ k, xs = [.bl k] ∧ Q (.int (if k then 1 else 0)) H) ∨ (∃ a n, xs = [.str a] ∧ PySem.intText? a = some n ∧ a.length ≤ 640 ∧ Q (.int n) H)) intC where
  mo := fun k h => h.imp fun d h => by
    split at h
    · exact k _ h
    · exact ⟨fun e => k _ (h.1 e), fun e => k _ (h.2 e)⟩
    · obtain ⟨n, h1, h2, h3⟩ := h; exact ⟨n, h1, h2, k _ h3⟩
    · exact h.elim
  go := fun H G vs l q Q e r h k _ => by
    have hh := h.of; clear h; obtain ⟨d, rfl, h⟩ := hh
    have rr := one_rep r; clear r; obtain ⟨v, rfl, r⟩ := rr
    split at h
    · cases r; exact .inl (.inl ⟨_, rfl, k _ _ h (.int _)⟩)
    · rename_i b
      cases r
      refine .inl (.inr ⟨_, rfl, ?_⟩)
      cases b with
      | true => exact k _ _ (h.1 rfl) (.int _)
      | false => exact k _ _ (h.2 rfl) (.int _)
    · cases r
      obtain ⟨n, h1, h2, h3⟩ := h
      exact .inr ⟨_, n, rfl, h1, h2, k _ _ h3 (.int _)⟩
    · exact h.elim
theorem lc_str : LndC K (fun xs H Q => ∃ i, xs = [.int i] ∧ i.natAbs.log2 < 1920 ∧ Q (.str (toString i)) H) strC where
  mo := fun k h => h.imp fun d h => h.imp fun i h => ⟨h.1, k _ h.2⟩
  go := fun H G vs l q Q e r h k _ => by
    have hh := h.of; clear h; obtain ⟨d, rfl, h⟩ := hh
    have hh := h.of; clear h; obtain ⟨i, rfl, h⟩ := hh
    have rr := one_rep r; clear r; obtain ⟨v, rfl, r⟩ := rr
    cases r
    exact ⟨i, rfl, Nat.lt_of_lt_of_le (PySem.Flt.log2_lt_of (by decide) h.1) (by decide), k _ _ h.2 (.str _)⟩
theorem lc_sum : LndC K (rSum K) sumC where
  mo := fun k h => h.imp fun d h => by
    split at h
    · obtain ⟨ns, h1, h2⟩ := h; exact ⟨ns, h1, k _ h2⟩
    · obtain ⟨ns, h1, h2⟩ := h; exact ⟨ns, h1, k _ h2⟩
    · exact h.elim
  go := fun H G vs l q Q e r h k _ => by
    have hh := h.of; clear h; obtain ⟨d, rfl, h⟩ := hh
    have rr := one_rep r; clear r; obtain ⟨v, rfl, r⟩ := rr
    split at h
    · obtain ⟨ns, rfl, h⟩ := h
      cases r with
      | lst s r =>
        obtain rfl := r.ints
        exact ⟨_, ns, rfl, .inl (.inl (e _ _ s)), k _ _ h (.int _)⟩
    · obtain ⟨ns, rfl, h⟩ := h
      cases r with
      | arr s r =>
        obtain rfl := r.ints
        exact ⟨_, ns, rfl, sqLE e s, k _ _ h (.int _)⟩
    · exact h.elim
theorem lc_tup : LndC K (fun xs H Q => ∃ p ys, xs = [.ref p] ∧ ((SqL K H p ys ∧ ∀ l, H l = none → Q (.ref l) (upd H l (.tup ys))) ∨ (SqT K H p ys ∧ Q (.ref p) H))) tupC where
  mo := fun k h => h.imp fun d h => by
    split at h
    · exact k _ h
    · exact k _ h
    · exact h.elim
  go := fun H G vs l q Q e r h k k' => by
    have hh := h.of; clear h; obtain ⟨d, rfl, h⟩ := hh
    have rr := one_rep r; clear r; obtain ⟨v, rfl, r⟩ := rr
    split at h
    · cases r with
      | lst s r => exact ⟨_, _, rfl, .inl ⟨.inl (.inl (e _ _ s)), fun p hp => k' _ _ p h hp r⟩⟩
    · cases r with
      | tup s r => exact ⟨_, _, rfl, .inr ⟨sqTE e s, k _ _ h (.tup s r)⟩⟩
    · exact h.elim
theorem lf_list : LndF K (fun xs H Q => ∃ p ys, xs = [.ref p] ∧ (SqL K H p ys ∨ SqT K H p ys) ∧ ∀ l, H l = none → Q (.ref l) (upd H l (.lst ys))) lstC where
  mo := fun k h => h.imp fun d h => by
    split at h
    · exact k _ h
    · exact k _ h
    · exact k _ h
    · exact h.elim
  go := fun H G vs l q Q e r h k => by
    have hh := h.of; clear h; obtain ⟨d, rfl, h⟩ := hh
    have rr := one_rep r; clear r; obtain ⟨v, rfl, r⟩ := rr
    split at h
    · cases r with
      | lst s r => exact ⟨_, _, rfl, .inl (.inl (.inl (e _ _ s))), fun p hp => k _ _ p h hp r⟩
    · cases r with
      | tup s r => exact ⟨_, _, rfl, .inr (sqTE e s), fun p hp => k _ _ p h hp r⟩
    · cases r with
      | arr s r => exact ⟨_, _, rfl, .inl (sqLE e s), fun p hp => k _ _ p h hp r⟩
    · exact h.elim
theorem lc_maxL : LndC K (rMax K) maxC where
  mo := fun k h => h.imp fun d h => by
    split at h
    · obtain ⟨ns, h1, h2, h3⟩ := h; exact ⟨ns, h1, h2, fun m a b => k _ (h3 m a b)⟩
    · exact h.elim
  go := fun H G vs l q Q e r h k _ => by
    have hh := h.of; clear h; obtain ⟨d, rfl, h⟩ := hh
    have rr := one_rep r; clear r; obtain ⟨v, rfl, r⟩ := rr
    split at h
    · obtain ⟨ns, rfl, h0, h⟩ := h
      cases r with
      | lst s r =>
        obtain rfl := r.ints
        exact ⟨_, ns, rfl, .inl (.inl (e _ _ s)), h0, fun m a b => k _ _ (h m a b) (.int _)⟩
    · exact h.elim
theorem lc_minL : LndC K (rMin K) minC where
  mo := fun k h => h.imp fun d h => by
    split at h
    · obtain ⟨ns, h1, h2, h3⟩ := h; exact ⟨ns, h1, h2, fun m a b => k _ (h3 m a b)⟩
    · exact h.elim
  go := fun H G vs l q Q e r h k _ => by
    have hh := h.of; clear h; obtain ⟨d, rfl, h⟩ := hh
    have rr := one_rep r; clear r; obtain ⟨v, rfl, r⟩ := rr
    split at h
    · obtain ⟨ns, rfl, h0, h⟩ := h
      cases r with
      | lst s r =>
        obtain rfl := r.ints
        exact ⟨_, ns, rfl, .inl (.inl (e _ _ s)), h0, fun m a b => k _ _ (h m a b) (.int _)⟩
    · exact h.elim
theorem lf_sort : LndF K (rSorted K) sortC where
  mo := fun k h => h.imp fun d h => by
    split at h
    · obtain ⟨ns, h1, h2, h3⟩ := h; exact ⟨ns, h1, h2, fun m a b => k _ (h3 m a b)⟩
    · exact h.elim
  go := fun H G vs l q Q e r h k => by
    have hh := h.of; clear h; obtain ⟨d, rfl, h⟩ := hh
    have rr := one_rep r; clear r; obtain ⟨v, rfl, r⟩ := rr
    split at h
    · obtain ⟨ns, rfl, h0, h⟩ := h
      cases r with
      | lst s r =>
        obtain rfl := r.ints
        exact ⟨_, ns, rfl, .inl (.inl (e _ _ s)), h0, fun ns' p a b hp => k _ _ p (h ns' a b) hp (.ofInts _)⟩
    · exact h.elim
end
section
variable {X : Cx} {W : Wp ω} {pos p : Pos} {e e2 : Expr} {ta : TAZ ω}
theorem z_len (hm : X.mg "len" = none) (ha : PAZ X W [e] ta) (hg : Gl X "len" := by rfl) (he : starEach [e] X.env = [(false, eval e X.env)] := by rfl) : PEZ X W (.Call (.Name "len" p) [e] [] pos) (zB1 lenD ta) := z_bi call_len lc_len hm PySem.boot_len ha hg (by decide) (by decide) he rfl
theorem z_abs (hm : X.mg "abs" = none) (ha : PAZ X W [e] ta) (hg : Gl X "abs" := by rfl) (he : starEach [e] X.env = [(false, eval e X.env)] := by rfl) : PEZ X W (.Call (.Name "abs" p) [e] [] pos) (zB1 absD ta) := z_bi call_abs lc_abs hm (by decide +kernel) ha hg (by decide) (by decide) he rfl
theorem z_max (hm : X.mg "max" = none) (ha : PAZ X W [e, e2] ta) (hc : X.calm = true := by rfl) (hg : Gl X "max" := by rfl) (he : starEach [e, e2] X.env = (false, eval e X.env) :: starEach [e2] X.env := by rfl) (hpl : (backTo pos (starEach [e2] X.env)).any (·.1) = false := by rfl) :
    PEZ X W (.Call (.Name "max" p) [e, e2] [] pos) (zB1 maxD ta) := z_bi (call_max2 hc) lc_max hm (by decide +kernel) ha hg (by decide) (by decide) he hpl
theorem z_min (hm : X.mg "min" = none) (ha : PAZ X W [e, e2] ta) (hc : X.calm = true := by rfl) (hg : Gl X "min" := by rfl) (he : starEach [e, e2] X.env = (false, eval e X.env) :: starEach [e2] X.env := by rfl) (hpl : (backTo pos (starEach [e2] X.env)).any (·.1) = false := by rfl) :
    PEZ X W (.Call (.Name "min" p) [e, e2] [] pos) (zB1 minD ta) := z_bi (call_min2 hc) lc_min hm (by decide +kernel) ha hg (by decide) (by decide) he hpl
theorem z_intC (hm : X.mg "int" = none) (ha : PAZ X W [e] ta) (hg : Gl X "int" := by rfl) (he : starEach [e] X.env = [(false, eval e X.env)] := by rfl) : PEZ X W (.Call (.Name "int" p) [e] [] pos) (zB1 intC ta) := z_bt (CallR.or call_int1 call_int_str) lc_int hm (by decide +kernel) ha hg (by decide) (by decide) he rfl
theorem z_strC (hm : X.mg "str" = none) (ha : PAZ X W [e] ta) (hg : Gl X "str" := by rfl) (he : starEach [e] X.env = [(false, eval e X.env)] := by rfl) : PEZ X W (.Call (.Name "str" p) [e] [] pos) (zB1 strC ta) := z_bt call_str_int lc_str hm (by decide +kernel) ha hg (by decide) (by decide) he rfl
theorem z_sum (hm : X.mg "sum" = none) (ha : PAZ X W [e] ta) (hc : X.calm = true := by rfl) (hg : Gl X "sum" := by rfl) (he : starEach [e] X.env = [(false, eval e X.env)] := by rfl) : PEZ X W (.Call (.Name "sum" p) [e] [] pos) (zB1 sumC ta) := z_bi (cr_sum hc) lc_sum hm (by decide +kernel) ha hg (by decide) (by decide) he rfl
theorem z_tupC (hm : X.mg "tuple" = none) (ha : PAZ X W [e] ta) (hg : Gl X "tuple" := by rfl) (he : starEach [e] X.env = [(false, eval e X.env)] := by rfl) : PEZ X W (.Call (.Name "tuple" p) [e] [] pos) (zB1 tupC ta) := z_bt call_tuple_of lc_tup hm (by decide +kernel) ha hg (by decide) (by decide) he rfl
theorem z_lstC (hm : X.mg "list" = none) (ha : PAZ X W [e] ta) (hg : Gl X "list" := by rfl) (he : starEach [e] X.env = [(false, eval e X.env)] := by rfl) : PFZ X W (.Call (.Name "list" p) [e] [] pos) (zBF lstC ta) := z_btf call_list_of lf_list hm (by decide +kernel) ha hg (by decide) (by decide) he rfl
theorem z_maxC (hm : X.mg "max" = none) (ha : PAZ X W [e] ta) (hc : X.calm = true := by rfl) (hg : Gl X "max" := by rfl) (he : starEach [e] X.env = [(false, eval e X.env)] := by rfl) : PEZ X W (.Call (.Name "max" p) [e] [] pos) (zB1 maxC ta) := z_bi (cr_max hc) lc_maxL hm (by decide +kernel) ha hg (by decide) (by decide) he rfl
theorem z_minC (hm : X.mg "min" = none) (ha : PAZ X W [e] ta) (hc : X.calm = true := by rfl) (hg : Gl X "min" := by rfl) (he : starEach [e] X.env = [(false, eval e X.env)] := by rfl) : PEZ X W (.Call (.Name "min" p) [e] [] pos) (zB1 minC ta) := z_bi (cr_min hc) lc_minL hm (by decide +kernel) ha hg (by decide) (by decide) he rfl
theorem z_sort (hm : X.mg "sorted" = none) (ha : PAZ X W [e] ta) (hg : Gl X "sorted" := by rfl) (he : starEach [e] X.env = [(false, eval e X.env)] := by rfl) : PFZ X W (.Call (.Name "sorted" p) [e] [] pos) (zBF sortC ta) := z_bif cr_sorted lf_sort hm (by decide +kernel) ha hg (by decide) (by decide) he rfl
end

/-! ### is None, isinstance -/
def isNon : D → Bool | .non => true | _ => false
def isND : OpD := fun x y q => match y with | .non => q (.bl (isNon x)) | _ => False
def notND : OpD := fun x y q => match y with | .non => q (.bl (!isNon x)) | _ => False
theorem isNon_rep {K : PySem.W.Frag} {G : Hp} {v : V} {d : D} (r : Rep K G v d) : decide (v = .non) = isNon d := by cases r <;> rfl
section
variable {K : PySem.W.Frag}
theorem l_isN : Lnd K (fun x y H Q => y = .non ∧ Q (.bl (decide (x = .non))) H) isND where
  mo := fun {x y q q'} k h => by
    unfold isND at h ⊢
    split at h
    · exact k _ h
    · exact h.elim
  go := fun H G x y dx dy q Q e rx ry h k _ => by
    unfold isND at h
    split at h
    · cases ry
      exact ⟨rfl, by rw [isNon_rep rx]; exact k _ _ h (.bl _)⟩
    · exact h.elim
theorem l_notN : Lnd K (fun x y H Q => y = .non ∧ Q (.bl (!decide (x = .non))) H) notND where
  mo := fun {x y q q'} k h => by
    unfold notND at h ⊢
    split at h
    · exact k _ h
    · exact h.elim
  go := fun H G x y dx dy q Q e rx ry h k _ => by
    unfold notND at h
    split at h
    · cases ry
      exact ⟨rfl, by rw [isNon_rep rx]; exact k _ _ h (.bl _)⟩
    · exact h.elim
end
def tyN : D → Option String
  | .non => some "NoneType" | .bl _ => some "bool" | .int _ => some "int" | .str _ => some "str" | .tup _ => some "tuple" | .lst _ => some "list" | .arr _ => some "list" | .ref _ => none | .exc _ => none
theorem tyX_of {K : PySem.W.Frag} {G H : Hp} (e : Ext G H) {v : V} {d : D} (r : Rep K G v d) {t : String} (h : tyN d = some t) : TyX K H v (.type t) := by
  cases r with
  | non => cases h; exact .base .non
  | bl b => cases h; exact .base (.bl b)
  | int i => cases h; exact .base (.int i)
  | str x => cases h; exact .base (.str x)
  | tup s r =>
    cases h
    rcases s with (s | ⟨o, s⟩) | ⟨o, its, n, s, c, _⟩
    · exact .base (.tup (e _ _ s))
    · exact .fTuple (e _ _ s)
    · exact .kTuple s c
  | lst s r => cases h; exact .base (.lst (e _ _ s))
  | arr s r =>
    cases h
    rcases s with (s | ⟨o, s⟩) | ⟨o, its, n, s, c, _⟩
    · exact .base (.lst (e _ _ s))
    · exact .base (.frz (e _ _ s))
    · exact .kList s c
  | ref p => cases h
  | exc _ => cases h
/-- isinstance(x, T), T built in; f its answer -/
def zIs (f : D → Option Bool) (te : TEZ ω) : TEZ ω := fun δ w Q E => te δ w (fun d w1 => match f d with | some b => Q (.bl b) w1 | none => False) E
section
variable {X : Cx} {W : Wp ω} {pos p p2 : Pos} {e : Expr} {te : TEZ ω}
theorem z_isT {x : Str} {T : String} {f : D → Option Bool} (hf : ∀ d b, f d = some b → ∃ t, tyN d = some t ∧ kitB t T = some b) (hm : X.mg "isinstance" = none) (hm2 : X.mg x = none) (hv : bootBuiltins x = some (.type T)) (he : PEZ X W e te) (hg : Gl X "isinstance" := by rfl) (hg2 : Gl X x := by rfl)
    (hn : x ≠ "__name__" := by decide) (hdb : (x == ("__debug__" : Str)) = false := by decide) (hs : starEach [e, .Name x p2] X.env = (false, eval e X.env) :: starEach [.Name x p2] X.env := by rfl) (hs2 : starEach [.Name x p2] X.env = (false, eval (.Name x p2) X.env) :: starEach [] X.env := by rfl)
    (hpl : (backTo pos (starEach [.Name x p2] X.env)).any (·.1) = false := by rfl) : PEZ X W (.Call (.Name "isinstance" p) [e, .Name x p2] [] pos) (zIs f te) :=
  ⟨fun k h => he.mo (fun d w1 h1 => by
    split at h1
    · exact k _ _ h1
    · exact h1.elim) h, fun Z ex tk => peI (pe_callB call_isi hg hm (by decide +kernel) (pa_cons (he.run Z ex tk) (pa_cons (pe_bltn (v := .ty T) hg2 hm2 hv rfl hn hdb) pa_nil hs2) hs) (by decide) (by decide) hs hpl) fun σ H Q ⟨G, M, δ, w, a, h⟩ =>
    ⟨G, M, δ, w, a, he.mo (fun d w1 h1 v H1 G1 M1 o1 r1 => by
      split at h1
      · rename_i b hb
        obtain ⟨t, h2, h3⟩ := hf d b hb
        exact ⟨v, .ty T, .type t, .type T, b, rfl, .ty T, tyX_of o1.pt.gh r1 h2, kit_ty h3, h1 _ H1 G1 M1 o1 (.bl b)⟩
      · exact h1.elim) h⟩⟩
def isInt : D → Option Bool | .int _ => some true | .bl _ => some true | .ref _ => none | .exc _ => none | _ => some false
def isBool : D → Option Bool | .bl _ => some true | .ref _ => none | .exc _ => none | _ => some false
def isStr : D → Option Bool | .str _ => some true | .ref _ => none | .exc _ => none | _ => some false
def isTup : D → Option Bool | .tup _ => some true | .ref _ => none | .exc _ => none | _ => some false
def isLst : D → Option Bool | .lst _ => some true | .arr _ => some true | .ref _ => none | .exc _ => none | _ => some false
theorem isInt_ok (d : D) (b : Bool) (h : isInt d = some b) : ∃ t, tyN d = some t ∧ kitB t "int" = some b := by
  cases d <;> cases h <;> exact ⟨_, rfl, by decide +kernel⟩
theorem isBool_ok (d : D) (b : Bool) (h : isBool d = some b) : ∃ t, tyN d = some t ∧ kitB t "bool" = some b := by
  cases d <;> cases h <;> exact ⟨_, rfl, by decide +kernel⟩
theorem isStr_ok (d : D) (b : Bool) (h : isStr d = some b) : ∃ t, tyN d = some t ∧ kitB t "str" = some b := by
  cases d <;> cases h <;> exact ⟨_, rfl, by decide +kernel⟩
theorem isTup_ok (d : D) (b : Bool) (h : isTup d = some b) : ∃ t, tyN d = some t ∧ kitB t "tuple" = some b := by
  cases d <;> cases h <;> exact ⟨_, rfl, by decide +kernel⟩
theorem isLst_ok (d : D) (b : Bool) (h : isLst d = some b) : ∃ t, tyN d = some t ∧ kitB t "list" = some b := by
  cases d <;> cases h <;> exact ⟨_, rfl, by decide +kernel⟩
theorem boot_int' : bootBuiltins "int" = some (.type "int") := by decide +kernel
theorem boot_bool' : bootBuiltins "bool" = some (.type "bool") := by decide +kernel
theorem boot_str' : bootBuiltins "str" = some (.type "str") := by decide +kernel
theorem boot_tuple' : bootBuiltins "tuple" = some (.type "tuple") := by decide +kernel
theorem boot_list' : bootBuiltins "list" = some (.type "list") := by decide +kernel
end

/-! ### slices -/
abbrev TOZ (ω : Type) := List Sl → ω → (Option Int → ω → Prop) → (Nat → ω → Prop) → Prop
def zON : TOZ ω := fun _ w Q _ => Q none w
def zOS (te : TEZ ω) : TOZ ω := fun δ w Q E => te δ w (fun d w1 => intD d fun k => Q (some k) w1) E
def liO (K : PySem.W.Frag) (W : Wp ω) (Z : Zx) (ex : Nat → List Sl → ω → Prop) (te : TOZ ω) : TO := fun σ H Q => ∃ G M δ w, SR K W Z σ H G M δ w ∧ te δ w (fun b w' => ∀ H' G' M', Go W H G M H' G' M' w' → Q b H') (fun e w' => ex e δ w')
structure POZ (X : Cx) (W : Wp ω) (e : Option Expr) (te : TOZ ω) : Prop where
  mo : Mo te
  run : ∀ (Z : Zx) (ex : Nat → List Sl → ω → Prop), Takes X (WXz X.K W Z ex) → PO X e (liO X.K W Z ex te)
theorem poI {X : Cx} {e : Option Expr} {t u : TO} (h : PO X e u) (i : ∀ σ H Q, t σ H Q → u σ H Q) : PO X e t := ⟨fun pins s σ H Q I q => h.run pins s σ H Q I (i _ _ _ q)⟩
section
variable {X : Cx} {W : Wp ω} {pos p p2 : Pos} {e : Expr} {te : TEZ ω} {lo hi : Option Expr} {tl th : TOZ ω}
theorem z_oN : POZ X W none zON := ⟨fun k h => k _ _ h, fun Z ex tk => poI po_none fun σ H Q ⟨G, M, δ, w, a, h⟩ => h H G M a.here⟩
theorem z_oS (h : PEZ X W e te) : POZ X W (some e) (zOS te) := ⟨fun k q => h.mo (fun d w1 q1 => q1.imp fun i q2 => k _ _ q2) q, fun Z ex tk => poI (po_some (h.run Z ex tk)) fun σ H Q ⟨G, M, δ, w, a, q⟩ =>
  ⟨G, M, δ, w, a, h.mo (fun d w1 q1 v H1 G1 M1 o1 r1 => by
    obtain ⟨i, rfl, q2⟩ := q1.of
    cases r1
    exact ⟨i, rfl, q2 H1 G1 M1 o1⟩) q⟩⟩
def cutD (l : List D) (lo hi : Option Int) : List D := (l.drop (HT.sIx l.length 0 lo)).take (HT.sIx l.length l.length hi - HT.sIx l.length 0 lo)
def seqD (d : D) (f : List D → Prop) : Prop := match d with | .lst l => f l | .arr l => f l | _ => False
theorem seqD.imp {d : D} {f g : List D → Prop} (k : ∀ l, f l → g l) (h : seqD d f) : seqD d g := by cases d <;> first | exact k _ h | exact h
theorem seqD.of {K : PySem.W.Frag} {G : Hp} {v : V} {d : D} {f : List D → Prop} (h : seqD d f) (r : Rep K G v d) : ∃ p vs l, v = .ref p ∧ SqL K G p vs ∧ RepL K G vs l ∧ f l := by
  cases d with
  | lst l => cases r with | lst s r => exact ⟨_, _, _, rfl, .inl (.inl s), r, h⟩
  | arr l => cases r with | arr s r => exact ⟨_, _, _, rfl, s, r, h⟩
  | _ => exact False.elim h
/-- xs[lo:hi], a new list -/
def zSlL (te : TEZ ω) (tl th : TOZ ω) : TAZ ω := fun δ w Q E => te δ w (fun d w1 => tl δ w1 (fun a w2 => th δ w2 (fun b w3 => seqD d fun l => Q (cutD l a b) w3) E) E) E
theorem z_slL (he : PEZ X W e te) (hl : POZ X W lo tl) (hu : POZ X W hi th) : PFZ X W (.Subscript e (.Slice lo hi none p2) pos) (zSlL te tl th) :=
  ⟨fun k h => he.mo (fun _ _ h1 => hl.mo (fun _ _ h2 => hu.mo (fun _ _ h3 => h3.imp fun l q => k _ _ q) h2) h1) h, fun Z ex tk => peI (pe_slice sl_list (he.run Z ex tk) (hl.run Z ex tk) (hu.run Z ex tk)) fun σ H Q ⟨G, M, δ, w, a, h⟩ =>
    ⟨G, M, δ, w, a, he.mo (fun d w1 h1 v H1 G1 M1 o1 r1 => ⟨G1, M1, δ, w1, a.go o1, hl.mo (fun lo w2 h2 H2 G2 M2 o2 => ⟨G2, M2, δ, w2, a.go (o1.tr o2), hu.mo (fun hi w3 h3 H3 G3 M3 o3 => by
      obtain ⟨p, vs, l, rfl, s, r, q⟩ := h3.of r1
      have e3 := (o2.tr o3).nx.gg
      refine ⟨p, vs, rfl, sqLE (e3.tr o3.pt.gh) s, fun p' hp => ?_⟩
      have r3 : RepL X.K G3 (cutV vs lo hi) (cutD l lo hi) := by
        unfold cutV cutD
        rw [r.len]
        exact (((r.up e3).drop _).take _)
      exact q p' _ _ _ _ ((((o1.tr o2).tr o3)).laid hp) r3 (.of ((o1.tr o2).tr o3) a.pt.mh hp)) h2⟩) h1⟩) h⟩⟩
/-- s[lo:hi], a text -/
def zSlS (te : TEZ ω) (tl th : TOZ ω) : TEZ ω := fun δ w Q E => te δ w (fun d w1 => tl δ w1 (fun a w2 => th δ w2 (fun b w3 => match d with | .str z => z.length ≤ 16777216 ∧ Q (.str (cutS z a b)) w3 | _ => False) E) E) E
theorem z_slS (he : PEZ X W e te) (hl : POZ X W lo tl) (hu : POZ X W hi th) : PEZ X W (.Subscript e (.Slice lo hi none p2) pos) (zSlS te tl th) :=
  ⟨fun k h => he.mo (fun d _ h1 => hl.mo (fun _ _ h2 => hu.mo (fun _ _ h3 => by
    split at h3
    · exact ⟨h3.1, k _ _ h3.2⟩
    · exact h3.elim) h2) h1) h, fun Z ex tk => peI (pe_slice sl_str (he.run Z ex tk) (hl.run Z ex tk) (hu.run Z ex tk)) fun σ H Q ⟨G, M, δ, w, a, h⟩ =>
    ⟨G, M, δ, w, a, he.mo (fun d w1 h1 v H1 G1 M1 o1 r1 => ⟨G1, M1, δ, w1, a.go o1, hl.mo (fun lo w2 h2 H2 G2 M2 o2 => ⟨G2, M2, δ, w2, a.go (o1.tr o2), hu.mo (fun hi w3 h3 H3 G3 M3 o3 => by
      split at h3
      · cases r1
        exact ⟨_, rfl, by rw [sizeLine_eq]; exact h3.1, h3.2 _ H3 G3 M3 ((o1.tr o2).tr o3) (.str _)⟩
      · exact h3.elim) h2⟩) h1⟩) h⟩⟩
/-- t[lo:hi], a tuple, not the whole of it -/
def zSlT (te : TEZ ω) (tl th : TOZ ω) : TEZ ω := fun δ w Q E => te δ w (fun d w1 => tl δ w1 (fun a w2 => th δ w2 (fun b w3 => match d with | .tup l => ¬ (HT.sIx l.length 0 a = 0 ∧ HT.sIx l.length l.length b = l.length) ∧ Q (.tup (cutD l a b)) w3 | _ => False) E) E) E
theorem z_slT (he : PEZ X W e te) (hl : POZ X W lo tl) (hu : POZ X W hi th) : PEZ X W (.Subscript e (.Slice lo hi none p2) pos) (zSlT te tl th) :=
  ⟨fun k h => he.mo (fun d _ h1 => hl.mo (fun _ _ h2 => hu.mo (fun _ _ h3 => by
    split at h3
    · exact ⟨h3.1, k _ _ h3.2⟩
    · exact h3.elim) h2) h1) h, fun Z ex tk => peI (pe_slice sl_tup (he.run Z ex tk) (hl.run Z ex tk) (hu.run Z ex tk)) fun σ H Q ⟨G, M, δ, w, a, h⟩ =>
    ⟨G, M, δ, w, a, he.mo (fun d w1 h1 v H1 G1 M1 o1 r1 => ⟨G1, M1, δ, w1, a.go o1, hl.mo (fun lo w2 h2 H2 G2 M2 o2 => ⟨G2, M2, δ, w2, a.go (o1.tr o2), hu.mo (fun hi w3 h3 H3 G3 M3 o3 => by
      cases d with
      | tup l =>
        cases r1 with
        | @tup p vs _ s r =>
          have e3 := (o2.tr o3).nx.gg
          refine ⟨p, vs, rfl, sqTE (e3.tr o3.pt.gh) s, by rw [r.len]; exact h3.1, fun p' hp => ?_⟩
          have r3 : RepL X.K G3 (cutV vs lo hi) (cutD l lo hi) := by
            unfold cutV cutD
            rw [r.len]
            exact (((r.up e3).drop _).take _)
          exact h3.2 (.ref p') _ _ _ (((o1.tr o2).tr o3).new hp) (.tup (SqT.of upd_same) (r3.up (o3.ext hp)))
      | _ => exact False.elim h3) h2⟩) h1⟩) h⟩⟩
/-- xs[::-1] -/
def zRev (te : TEZ ω) : TAZ ω := fun δ w Q E => te δ w (fun d w1 => seqD d fun l => Q l.reverse w1) E
theorem z_rev {k : Nat} {p1 p3 : Pos} (he : PEZ X W e te) : PFZ X W (.Subscript e (.Slice none none (some (.UnaryOp .USub (.Constant (.int 1) k p1) p2)) p3) pos) (zRev te) :=
  ⟨fun k h => he.mo (fun d w1 h1 => h1.imp fun l q => k _ _ q) h, fun Z ex tk => peI (pe_revL (he.run Z ex tk)) fun σ H Q ⟨G, M, δ, w, a, h⟩ =>
    ⟨G, M, δ, w, a, he.mo (fun d w1 h1 v H1 G1 M1 o1 r1 => by
      obtain ⟨p, vs, l, rfl, s, r, q⟩ := h1.of r1
      exact ⟨p, vs, rfl, sqLE o1.pt.gh s, fun p' hp => q p' _ _ _ _ (o1.laid hp) r.rev (.of o1 a.pt.mh hp)⟩) h⟩⟩
/-- xs + ys, a new list -/
def zCat (ta tb : TEZ ω) : TAZ ω := fun δ w Q E => ta δ w (fun x w1 => tb δ w1 (fun y w2 => match x, y with | .lst l, .lst m => l.length + m.length ≤ 100000 ∧ Q (l ++ m) w2 | _, _ => False) E) E
theorem z_cat {a b : Expr} {ta tb : TEZ ω} (ha : PEZ X W a ta) (hb : PEZ X W b tb) : PFZ X W (.BinOp a .Add b pos) (zCat ta tb) :=
  ⟨fun k h => ha.mo (fun _ _ h1 => hb.mo (fun _ _ h2 => by
    split at h2
    · exact ⟨h2.1, k _ _ h2.2⟩
    · exact h2.elim) h1) h, fun Z ex tk => peI (pe_op op_cat (ha.run Z ex tk) (hb.run Z ex tk)) fun σ H Q ⟨G, M, δ, w, a0, h⟩ =>
    ⟨G, M, δ, w, a0, ha.mo (fun d w1 h1 v H1 G1 M1 o1 r1 => ⟨G1, M1, δ, w1, a0.go o1, hb.mo (fun d2 w2 h2 v2 H2 G2 M2 o2 r2 => by
      split at h2
      · cases r1 with
        | lst s r =>
          cases r2 with
          | lst s2 r2 =>
            refine ⟨_, _, _, _, rfl, rfl, o2.pt.gh _ _ (o2.nx.gg _ _ s), o2.pt.gh _ _ s2, sz1 (by rw [r.len, r2.len]; exact h2.1), fun p hp => ?_⟩
            exact h2.2 p _ _ _ _ ((o1.tr o2).laid hp) ((r.up o2.nx.gg).app r2) (.of (o1.tr o2) a0.pt.mh hp)
      · exact h2.elim) h1⟩) h⟩⟩
end
end Z

namespace Z
open PySem PySem.Spec PyProof.Rows L2
variable {ω : Type}

/-! ### comprehensions -/
def NoE : Nat → ω → Prop := fun _ _ => False
/-- no test -/
def zYes : TTZ ω := fun _ w Q _ => Q true w
/-- one turn after another; vs: the comprehension's own slots -/
def zComp (l : List D) (gz : TGZ) (tt : TTZ ω) (te : TEZ ω) (vs : List Nat) (δ : List Sl) (w : ω) (Q : List D → ω → Prop) : Prop :=
  l.length ≤ 100000 ∧ ∃ I : Nat → List D → ω → Prop, I 0 [] w ∧ (∀ i d acc w', l[i]? = some d → I i acc w' → gz d (wipeZ δ vs) fun δ2 => tt δ2 w' (fun b w2 => (b = true → te δ2 w2 (fun y w3 => I (i + 1) (acc ++ [y]) w3) NoE) ∧ (b = false → I (i + 1) acc w2)) NoE) ∧
    ∀ acc w', I l.length acc w' → Q acc w'
theorem zComp.imp {l : List D} {gz : TGZ} {tt : TTZ ω} {te : TEZ ω} {vs : List Nat} {δ : List Sl} {w : ω} {Q Q' : List D → ω → Prop} (k : ∀ l w, Q l w → Q' l w) (h : zComp l gz tt te vs δ w Q) : zComp l gz tt te vs δ w Q' := by
  obtain ⟨h0, I, h1, h2, h3⟩ := h
  exact ⟨h0, I, h1, h2, fun acc w' q => k _ _ (h3 acc w' q)⟩
def rngD (lo : Int) (n : Nat) : List D := (List.range n).map fun (i : Nat) => .int (lo + (i : Int))
theorem rngD_at {lo : Int} {n i : Nat} (h : i < n) : (rngD lo n)[i]? = some (.int (lo + (i : Int))) := by
  unfold rngD
  rw [List.getElem?_map, List.getElem?_range h]
  rfl
theorem rngD_len (lo : Int) (n : Nat) : (rngD lo n).length = n := by unfold rngD; rw [List.length_map, List.length_range]
/-- a target whose slots are wiped behind it -/
def Wiped (g : TG) (vs : List Nat) : Prop := ∀ (x : V) (σ : L2.St) (H : Hp) (Q : L2.St → Hp → Prop), g x (L2.wipe σ vs) H Q → g x (L2.wipe σ vs) H fun σ2 H2 => L2.wipe σ2 vs = L2.wipe σ vs ∧ Q σ2 H2
theorem wiped_name (j : Nat) : Wiped (gName j) [j] := fun x σ H Q h => ⟨by show ((σ.set j none).set j (some x)).set j none = σ.set j none; rw [List.set_set, List.set_set], h⟩
/-- the context of a comprehension's block lets nothing out -/
theorem tkN {Y : Cx} {W : Wp ω} {Z : Zx} : Takes Y (WXz Y.K W Z fun _ _ _ => False) := takes0.imp fun c d σ H ⟨_, e, _, G, M, δ, w, a, q⟩ => q.elim
structure CompOk (X : Cx) (W : Wp ω) (scope : Scope) (tg elt : Expr) (ifs : List Expr) (g : TG) (gz : TGZ) (tt : TTZ ω) (te : TEZ ω) : Prop where
  hg : ∀ (s : Shared) (H : Hp) (C : Addr) (cl : List (Str × Addr)) (fp : List Addr), PG (X.blk s H scope (compEnvC scope cl C X.env) fp) tg g
  gg : GoG X.K g gz
  ht : ∀ (s : Shared) (H : Hp) (C : Addr) (cl : List (Str × Addr)) (fp : List Addr) (Z : Zx), PTs (X.blk s H scope (compEnvC scope cl C X.env) fp) ifs (liT X.K W Z (fun _ _ _ => False) tt)
  mt : Shared → Mo tt
  he : ∀ (s : Shared) (H : Hp) (C : Addr) (cl : List (Str × Addr)) (fp : List Addr), PEZ (X.blk s H scope (compEnvC scope cl C X.env) fp) W elt te
  mo : Shared → Mo te
def liN (K : PySem.W.Frag) (W : Wp ω) (te : TEZ ω) : TE := fun σ H Q => ∃ Z, liE K W Z (fun _ _ _ => False) te σ H Q
def liNT (K : PySem.W.Frag) (W : Wp ω) (te : TTZ ω) : TT := fun σ H Q => ∃ Z, liT K W Z (fun _ _ _ => False) te σ H Q
section
variable {X : Cx} {W : Wp ω} {pos : Pos} {scope : Scope} {tg elt iter : Expr} {ifs : List Expr} {g : TG} {gz : TGZ} {tt : TTZ ω} {te : TEZ ω} {own : List (Str × Nat)}
theorem CompOk.pe (C : CompOk X W scope tg elt ifs g gz tt te) (s : Shared) (H : Hp) (Ca : Addr) (cl : List (Str × Addr)) (fp : List Addr) : PE (X.blk s H scope (compEnvC scope cl Ca X.env) fp) elt (liN X.K W te) :=
  ⟨fun pins s' σ H' Q I ⟨Z, q⟩ => ((C.he s H Ca cl fp).run Z _ tkN).run pins s' σ H' Q I q⟩
theorem CompOk.pt (C : CompOk X W scope tg elt ifs g gz tt te) (s : Shared) (H : Hp) (Ca : Addr) (cl : List (Str × Addr)) (fp : List Addr) : PTs (X.blk s H scope (compEnvC scope cl Ca X.env) fp) ifs (liNT X.K W tt) :=
  ⟨fun pins s' σ H' Q I ⟨Z, q⟩ => (C.ht s H Ca cl fp Z).run pins s' σ H' Q I q⟩
/-- the list at D grows; all else stands -/
def CInv (K : PySem.W.Frag) (W : Wp ω) (H G M : Hp) (Dl : Addr) (I : Nat → List D → ω → Prop) (i : Nat) (H' : Hp) : Prop :=
  ∃ G' M' w' vs acc, Go W H G M H' G' M' w' ∧ NewAt H H' G' M' Dl vs ∧ RepL K G' vs acc ∧ acc.length ≤ i ∧ I i acc w'
theorem comp_turn {Z : Zx} {σ : L2.St} {H G M : Hp} {δ : List Sl} {w : ω} {Dl : Addr} {I : Nat → List D → ω → Prop} {i : Nat} {H' : Hp} {d : D} {v : V} {vs : List Nat} (hgz : GoG X.K g gz) (mt : Mo tt) (mo : Mo te) (hw : Wiped g vs) (a : SR X.K W Z σ H G M δ w) (hi : i < 100000) (rv : Rep X.K G v d) (c : CInv X.K W H G M Dl I i H')
    (hs : ∀ acc w', I i acc w' → gz d (wipeZ δ vs) fun δ2 => tt δ2 w' (fun b w2 => (b = true → te δ2 w2 (fun y w3 => I (i + 1) (acc ++ [y]) w3) NoE) ∧ (b = false → I (i + 1) acc w2)) NoE) :
    g v (L2.wipe σ vs) H' fun σ2 H2 => L2.wipe σ2 vs = L2.wipe σ vs ∧ liNT X.K W tt σ2 H2 fun b H3 =>
      if b = true then liN X.K W te σ2 H3 fun y H4 => ∃ acc, H4 Dl = some (.lst acc) ∧ acc.length < sizeLine ∧ CInv X.K W H G M Dl I (i + 1) (upd H4 Dl (.lst (acc ++ [y]))) else CInv X.K W H G M Dl I (i + 1) H3 := by
  obtain ⟨G1, M1, w1, us, acc, o1, n1, r1, hl, q⟩ := c
  refine hw v σ H' _ ?_
  have a1 := (a.go o1).wipe vs
  refine hgz.go W Z (L2.wipe σ vs) H' G1 M1 (wipeZ δ vs) w1 v d _ _ a1 (rv.up o1.nx.gg) (hs acc w1 q) fun σ2 δ2 q2 a2 => ?_
  -- what grows is changed at Dl alone
  have grow : ∀ {H3 G3 M3 : Hp} {w3 : ω} {u : V} {y : D}, Go W H' G1 M1 H3 G3 M3 w3 → Rep X.K G3 u y → I (i + 1) (acc ++ [y]) w3 → ∃ acc, H3 Dl = some (.lst acc) ∧ acc.length < sizeLine ∧ CInv X.K W H G M Dl I (i + 1) (upd H3 Dl (.lst (acc ++ [u]))) := by
    intro H3 G3 M3 w3 u y o3 ru qi
    obtain ⟨m1, m2, m3, m4⟩ := n1
    have h3 := o3.nx.fr Dl _ m2 m4
    have g3 : G3 Dl = none := by
      cases z : G3 Dl with
      | none => rfl
      | some t => rw [o3.nx.gn Dl t z m3] at m2; cases m2
    have k3 : M3 Dl = none := by
      cases z : M3 Dl with
      | none => rfl
      | some t => rw [o3.nx.mn Dl t z m4] at m2; cases m2
    have r3 := r1.up o3.nx.gg
    have o := o1.tr o3
    refine ⟨us, h3, by rw [r1.len, sizeLine_eq]; omega, G3, M3, w3, us ++ [u], acc ++ [y], ⟨⟨fun p x e => ?_, fun p x e => ?_, o.pt.dj, o.pt.wd⟩, ⟨o.nx.gg, fun p x e e' => ?_, o.nx.gn, o.nx.mn, o.nx.m0⟩⟩, ⟨m1, upd_same, g3, k3⟩, r3.app (.cons ru .nil), by rw [List.length_append]; exact Nat.succ_le_succ hl, qi⟩
    · rw [upd_ne (ne_of_none e g3)]; exact o.pt.gh p x e
    · rw [upd_ne (ne_of_none e k3)]; exact o.pt.mh p x e
    · rw [upd_ne (ne_of_none e m1)]; exact o.nx.fr p x e e'
  refine ⟨Z, G1, M1, δ2, w1, a2, mt (fun b w2 q3 H3 G3 M3 o3 => ?_) q2⟩
  cases b with
  | true =>
    rw [if_pos rfl]
    refine ⟨Z, G3, M3, δ2, w2, a2.go o3, mo (fun y w4 q4 u H4 G4 M4 o4 r4 => grow (o3.tr o4) r4 q4) (q3.1 rfl)⟩
  | false =>
    rw [if_neg Bool.false_ne_true]
    obtain ⟨m1, m2, m3, m4⟩ := n1
    refine ⟨G3, M3, w2, us, acc, o1.tr o3, ⟨m1, o3.nx.fr Dl _ m2 m4, ?_, ?_⟩, r1.up o3.nx.gg, Nat.le_succ_of_le hl, q3.2 rfl⟩
    · cases z : G3 Dl with
      | none => rfl
      | some t => rw [o3.nx.gn Dl t z m3] at m2; cases m2
    · cases z : M3 Dl with
      | none => rfl
      | some t => rw [o3.nx.mn Dl t z m4] at m2; cases m2
theorem c_start {K : PySem.W.Frag} {W : Wp ω} {H G M : Hp} {w : ω} {Dl : Addr} {I : Nat → List D → ω → Prop} (p : Pt W H G M w) (hD : H Dl = none) (h : I 0 [] w) : CInv K W H G M Dl I 0 (upd H Dl (.lst [])) := by
  have o : Go W H G M H G M w := ⟨p, .rfl'⟩
  exact ⟨G, M, w, [], [], o.laid hD, .of o p.mh hD, .nil, Nat.le_refl _, h⟩
/-- [elt for x in xs if ..], xs a list; a tuple; a range -/
def zLcL (ti : TEZ ω) (gz : TGZ) (tt : TTZ ω) (te : TEZ ω) (vs : List Nat) : TAZ ω := fun δ w Q E => ti δ w (fun d w1 => seqD d fun l => zComp l gz tt te vs δ w1 Q) E
def zLcT (ti : TEZ ω) (gz : TGZ) (tt : TTZ ω) (te : TEZ ω) (vs : List Nat) : TAZ ω := fun δ w Q E => ti δ w (fun d w1 => match d with | .tup l => zComp l gz tt te vs δ w1 Q | _ => False) E
def zLcR1 (ta : TAZ ω) (gz : TGZ) (tt : TTZ ω) (te : TEZ ω) (vs : List Nat) : TAZ ω := fun δ w Q E => ta δ w (fun l w1 => oneD l fun d => intD d fun n => zComp (rngD 0 n.toNat) gz tt te vs δ w1 Q) E
def zLcR2 (ta : TAZ ω) (gz : TGZ) (tt : TTZ ω) (te : TEZ ω) (vs : List Nat) : TAZ ω := fun δ w Q E => ta δ w (fun l w1 => twoI l fun m n => zComp (rngD m (n - m).toNat) gz tt te vs δ w1 Q) E
theorem imp_lcL {ti : TEZ ω} {vs : List Nat} {Z : Zx} {ex : Nat → List Sl → ω → Prop} (hi : PEZ X W iter ti) (s0 : Shared) (C : CompOk X W scope tg elt ifs g gz tt te) (hw : Wiped g vs) {σ : L2.St} {H : Hp} {Q : VK} (h : liF X.K W Z ex (zLcL ti gz tt te vs) σ H Q) :
    tLc (iList X.K (liE X.K W Z ex ti)) g (liNT X.K W tt) (liN X.K W te) vs σ H Q := by
  obtain ⟨G, M, δ, w, a, h⟩ := h
  refine ⟨G, M, δ, w, a, hi.mo (fun d w1 h1 v H1 G1 M1 o1 r1 => ?_) h⟩
  obtain ⟨p, us, l, rfl, s, r, hlen, I, i0, is, id⟩ := h1.of r1
  have a1 := a.go o1
  refine ⟨p, rfl, ⟨us, sqLE o1.pt.gh s⟩, fun Dl hD => ?_⟩
  refine lc_list (K := X.K) (a := p) (xs := us) (CInv X.K W H1 G1 M1 Dl I) (c_start o1.pt hD i0) ?_ ?_ ?_
  · rintro i H2 _ ⟨G2, M2, w2, us2, acc, o2, n2, r2, q2⟩
    exact sqLE (o2.nx.gg.tr o2.pt.gh) s
  · intro i x H2 hx c
    obtain ⟨d2, hd, rd⟩ := r.getV hx
    exact comp_turn C.gg (C.mt s0) (C.mo s0) hw a1 (by have := (List.getElem?_eq_some_iff.mp hd).1; omega) rd c fun acc w' q => is i d2 acc w' hd q
  · rintro H2 ⟨G2, M2, w2, us2, acc, o2, n2, r2, hl2, q2⟩
    rw [r.len] at q2
    exact id acc w2 q2 Dl us2 H2 G2 M2 (o1.tr o2) r2 ⟨o1.nx.back o1.pt.mh hD, n2.2⟩
theorem imp_lcT {ti : TEZ ω} {vs : List Nat} {Z : Zx} {ex : Nat → List Sl → ω → Prop} (hi : PEZ X W iter ti) (s0 : Shared) (C : CompOk X W scope tg elt ifs g gz tt te) (hw : Wiped g vs) {σ : L2.St} {H : Hp} {Q : VK} (h : liF X.K W Z ex (zLcT ti gz tt te vs) σ H Q) :
    tLc (iTup X.K (liE X.K W Z ex ti)) g (liNT X.K W tt) (liN X.K W te) vs σ H Q := by
  obtain ⟨G, M, δ, w, a, h⟩ := h
  refine ⟨G, M, δ, w, a, hi.mo (fun d w1 h1 v H1 G1 M1 o1 r1 => ?_) h⟩
  cases d with
  | tup l =>
    cases r1 with
    | @tup p us _ s r =>
      obtain ⟨hlen, I, i0, is, id⟩ := h1
      have a1 := a.go o1
      refine ⟨p, rfl, ⟨us, sqTE o1.pt.gh s⟩, fun Dl hD => ?_⟩
      refine L2.lc_tup (K := X.K) (a := p) (xs := us) (CInv X.K W H1 G1 M1 Dl I) (c_start o1.pt hD i0) ?_ ?_ ?_
      · rintro i H2 _ ⟨G2, M2, w2, us2, acc, o2, n2, r2, q2⟩
        exact sqTE (o2.nx.gg.tr o2.pt.gh) s
      · intro i x H2 hx c
        obtain ⟨d2, hd, rd⟩ := r.getV hx
        exact comp_turn C.gg (C.mt s0) (C.mo s0) hw a1 (by have := (List.getElem?_eq_some_iff.mp hd).1; omega) rd c fun acc w' q => is i d2 acc w' hd q
      · rintro H2 ⟨G2, M2, w2, us2, acc, o2, n2, r2, hl2, q2⟩
        rw [r.len] at q2
        exact id acc w2 q2 Dl us2 H2 G2 M2 (o1.tr o2) r2 ⟨o1.nx.back o1.pt.mh hD, n2.2⟩
  | _ => exact False.elim h1
theorem comp_range {Z : Zx} {σ : L2.St} {H0 H G M : Hp} {δ : List Sl} {w : ω} {vs : List Nat} {lo : Int} {n : Nat} {Q : VK} {Dl : Addr} (s0 : Shared) (C : CompOk X W scope tg elt ifs g gz tt te) (hw : Wiped g vs) (a : SR X.K W Z σ H G M δ w) (pt : Pt W H G M w) (hD : H Dl = none) {Qz : List D → ω → Prop} (h : zComp (rngD lo n) gz tt te vs δ w Qz)
    (k : ∀ acc w2 us2 H2 G2 M2, Qz acc w2 → Go W H G M H2 G2 M2 w2 → RepL X.K G2 us2 acc → NewAt H H2 G2 M2 Dl us2 → Q (.ref Dl) H2) : ∃ W' : Nat → Nat → Hp → Prop, (∃ m, W' 0 m (upd H Dl (.lst []))) ∧ ∀ i m H, W' i m H →
      ((Itr lo n).stop i H ∧ Q (.ref Dl) H) ∨ ((Itr lo n).go i H ∧ ∃ Nx : Hp → Prop, (∀ H', Nx H' → ∃ m', m' < m ∧ W' (i + 1) m' H') ∧ ∀ x H', (Itr lo n).yld i H x H' → g x (L2.wipe σ vs) H' fun σ2 H2 => L2.wipe σ2 vs = L2.wipe σ vs ∧ liNT X.K W tt σ2 H2 fun b H3 =>
        if b = true then liN X.K W te σ2 H3 fun y H4 => ∃ acc, H4 Dl = some (.lst acc) ∧ acc.length < sizeLine ∧ Nx (upd H4 Dl (.lst (acc ++ [y]))) else Nx H3) := by
  obtain ⟨hlen, I, i0, is, id⟩ := h
  rw [rngD_len] at hlen id
  refine lc_range (Qd := fun H => Q (.ref Dl) H) (CInv X.K W H G M Dl I) (c_start pt hD i0) ?_ ?_
  · intro i H2 hx c
    exact comp_turn C.gg (C.mt s0) (C.mo s0) hw a (by omega) (.int _) c fun acc w' q => is i _ acc w' (rngD_at hx) q
  · rintro H2 ⟨G2, M2, w2, us2, acc, o2, n2, r2, hl2, q2⟩
    exact k acc w2 us2 H2 G2 M2 (id acc w2 q2) o2 r2 n2
theorem imp_lcR1 {ea : Expr} {ta : TAZ ω} {vs : List Nat} {Z : Zx} {ex : Nat → List Sl → ω → Prop} (hi : PAZ X W [ea] ta) (s0 : Shared) (C : CompOk X W scope tg elt ifs g gz tt te) (hw : Wiped g vs) {σ : L2.St} {H : Hp} {Q : VK} (h : liF X.K W Z ex (zLcR1 ta gz tt te vs) σ H Q) :
    tLc (iRgB1 (liA X.K W Z ex ta)) g (liNT X.K W tt) (liN X.K W te) vs σ H Q := by
  obtain ⟨G, M, δ, w, a, h⟩ := h
  refine ⟨G, M, δ, w, a, hi.mo (fun l w1 h1 us H1 G1 M1 o1 r1 => ?_) h⟩
  obtain ⟨d, rfl, h2⟩ := h1.of
  obtain ⟨n, rfl, h5⟩ := h2.of
  obtain ⟨u, rfl, ru⟩ := one_rep r1
  cases ru
  exact ⟨n, rfl, fun Dl hD => comp_range (H0 := H) s0 C hw (a.go o1) o1.pt hD h5 fun acc w2 us2 H2 G2 M2 q o2 r2 n2 => q Dl us2 H2 G2 M2 (o1.tr o2) r2 ⟨o1.nx.back o1.pt.mh hD, n2.2⟩⟩
theorem imp_lcR2 {ea eb : Expr} {ta : TAZ ω} {vs : List Nat} {Z : Zx} {ex : Nat → List Sl → ω → Prop} (hi : PAZ X W [ea, eb] ta) (s0 : Shared) (C : CompOk X W scope tg elt ifs g gz tt te) (hw : Wiped g vs) {σ : L2.St} {H : Hp} {Q : VK} (h : liF X.K W Z ex (zLcR2 ta gz tt te vs) σ H Q) :
    tLc (iRgB2 (liA X.K W Z ex ta)) g (liNT X.K W tt) (liN X.K W te) vs σ H Q := by
  obtain ⟨G, M, δ, w, a, h⟩ := h
  refine ⟨G, M, δ, w, a, hi.mo (fun l w1 h1 us H1 G1 M1 o1 r1 => ?_) h⟩
  obtain ⟨m, n, rfl, h5⟩ := h1.of
  obtain rfl := two_rep r1
  exact ⟨m, n, rfl, fun Dl hD => comp_range (H0 := H) s0 C hw (a.go o1) o1.pt hD h5 fun acc w2 us2 H2 G2 M2 q o2 r2 n2 => q Dl us2 H2 G2 M2 (o1.tr o2) r2 ⟨o1.nx.back o1.pt.mh hD, n2.2⟩⟩
theorem mo_lcL {ti : TEZ ω} {vs : List Nat} (hi : PEZ X W iter ti) : Mo (zLcL ti gz tt te vs) := fun k h => hi.mo (fun d w1 h1 => h1.imp fun l h2 => h2.imp k) h
theorem mo_lcT {ti : TEZ ω} {vs : List Nat} (hi : PEZ X W iter ti) : Mo (zLcT ti gz tt te vs) := fun k h => hi.mo (fun d w1 h1 => by
  cases d with
  | tup l => exact zComp.imp k h1
  | _ => exact h1) h
theorem mo_lcR1 {ea : List Expr} {ti : TAZ ω} {vs : List Nat} (hi : PAZ X W ea ti) : Mo (zLcR1 ti gz tt te vs) := fun k h => hi.mo (fun l w1 h1 => h1.imp fun d h2 => h2.imp fun n h3 => h3.imp k) h
theorem mo_lcR2 {ea : List Expr} {ti : TAZ ω} {vs : List Nat} (hi : PAZ X W ea ti) : Mo (zLcR2 ti gz tt te vs) := fun k h => hi.mo (fun l w1 h1 => h1.imp fun i j h3 => h3.imp k) h
/-! as values -/
theorem z_lcL {ti : TEZ ω} (hi : PEZ X W iter ti) (C : CompOk X W scope tg elt ifs g gz tt te) (hN : X.N.Nodup) (ok : blkC X.N X.env.scope scope own = true := by decide +kernel) (hw : Wiped g (own.map (·.2)) := by exact wiped_name _) (hc : X.calm = true := by rfl)
    (hs : ∀ x, foldedSetIterable iter X.env x = pure x := by intro _; rfl) : PFZ X W (.ListComp elt [⟨tg, iter, ifs, 0⟩] scope pos) (zLcL ti gz tt te (own.map (·.2))) :=
  ⟨mo_lcL hi, fun Z ex tk => ⟨fun pins s σ H Q I h => (pe_lc hc hN (pi_list (hi.run Z ex tk)) (blkOk_by ok) C.hg C.pt C.pe hs).run pins s σ H Q I (imp_lcL hi s C hw h)⟩⟩
theorem z_lcT {ti : TEZ ω} (hi : PEZ X W iter ti) (C : CompOk X W scope tg elt ifs g gz tt te) (hN : X.N.Nodup) (ok : blkC X.N X.env.scope scope own = true := by decide +kernel) (hw : Wiped g (own.map (·.2)) := by exact wiped_name _) (hc : X.calm = true := by rfl)
    (hs : ∀ x, foldedSetIterable iter X.env x = pure x := by intro _; rfl) : PFZ X W (.ListComp elt [⟨tg, iter, ifs, 0⟩] scope pos) (zLcT ti gz tt te (own.map (·.2))) :=
  ⟨mo_lcT hi, fun Z ex tk => ⟨fun pins s σ H Q I h => (pe_lc hc hN (pi_tup (hi.run Z ex tk)) (blkOk_by ok) C.hg C.pt C.pe hs).run pins s σ H Q I (imp_lcT hi s C hw h)⟩⟩
theorem z_lcR1 {ea : Expr} {ta : TAZ ω} {p pc : Pos} (hm : X.mg "range" = none) (hi : PAZ X W [ea] ta) (C : CompOk X W scope tg elt ifs g gz tt te) (hN : X.N.Nodup) (ok : blkC X.N X.env.scope scope own = true := by decide +kernel) (hw : Wiped g (own.map (·.2)) := by exact wiped_name _) (hc : X.calm = true := by rfl)
    (hgl : Gl X "range" := by rfl) (hse : starEach [ea] X.env = [(false, eval ea X.env)] := by rfl) (hs : ∀ x, foldedSetIterable (.Call (.Name "range" p) [ea] [] pc) X.env x = pure x := by intro _; rfl) : PFZ X W (.ListComp elt [⟨tg, .Call (.Name "range" p) [ea] [] pc, ifs, 0⟩] scope pos) (zLcR1 ta gz tt te (own.map (·.2))) :=
  ⟨mo_lcR1 hi, fun Z ex tk => ⟨fun pins s σ H Q I h => (pe_lc hc hN (pi_rgB1 hgl hm (hi.run Z ex tk) hse) (blkOk_by ok) C.hg C.pt C.pe hs).run pins s σ H Q I (imp_lcR1 hi s C hw h)⟩⟩
theorem z_lcR2 {ea eb : Expr} {ta : TAZ ω} {p pc : Pos} (hm : X.mg "range" = none) (hi : PAZ X W [ea, eb] ta) (C : CompOk X W scope tg elt ifs g gz tt te) (hN : X.N.Nodup) (ok : blkC X.N X.env.scope scope own = true := by decide +kernel) (hw : Wiped g (own.map (·.2)) := by exact wiped_name _) (hc : X.calm = true := by rfl)
    (hgl : Gl X "range" := by rfl) (hse : starEach [ea, eb] X.env = [(false, eval ea X.env), (false, eval eb X.env)] := by rfl) (hse2 : starEach [eb] X.env = [(false, eval eb X.env)] := by rfl) (hs : ∀ x, foldedSetIterable (.Call (.Name "range" p) [ea, eb] [] pc) X.env x = pure x := by intro _; rfl) :
    PFZ X W (.ListComp elt [⟨tg, .Call (.Name "range" p) [ea, eb] [] pc, ifs, 0⟩] scope pos) (zLcR2 ta gz tt te (own.map (·.2))) :=
  ⟨mo_lcR2 hi, fun Z ex tk => ⟨fun pins s σ H Q I h => (pe_lc hc hN (pi_rgB2 hgl hm (hi.run Z ex tk) hse hse2) (blkOk_by ok) C.hg C.pt C.pe hs).run pins s σ H Q I (imp_lcR2 hi s C hw h)⟩⟩
/-! name = [..] -/
theorem asg_own {st : Stmt} {i : Nat} {tr : TE} {tf : TAZ ω} {Z : Zx} {ex : Nat → List Sl → ω → Prop} (h : PS X st (tAsg tr (gName i))) (mo : Mo tf) (k : Shared → ∀ {σ : L2.St} {H : Hp} {Q : VK}, liF X.K W Z ex tf σ H Q → tr σ H Q) : PS X st (liS X.K W Z ex (zOwn i tf)) := ⟨fun pins s σ H DE I ⟨Dz, hex, EI, G, M, δ, w, a, q⟩ => h.run pins s σ H DE I (by
  subst hex
  exact k s ⟨G, M, δ, w, a, mo (fun l w1 h1 p vs H1 G1 M1 o1 r1 n1 => EI.nx _ _ ⟨G1, M1, _, w1, (a.go o1).setOwn n1.2.1 n1.2.2.1 n1.2.2.2 (newOf a n1.1).1 r1 (newOf a n1.1).2, h1⟩) q⟩)⟩
theorem asg_fz {st : Stmt} {i : Nat} {tr : TE} {tf : TAZ ω} {Z : Zx} {ex : Nat → List Sl → ω → Prop} (h : PS X st (tAsg tr (gName i))) (mo : Mo tf) (k : Shared → ∀ {σ : L2.St} {H : Hp} {Q : VK}, liF X.K W Z ex tf σ H Q → tr σ H Q) : PS X st (liS X.K W Z ex (zAsg i (zFz tf))) := ⟨fun pins s σ H DE I ⟨Dz, hex, EI, G, M, δ, w, a, q⟩ => h.run pins s σ H DE I (by
  subst hex
  exact k s ⟨G, M, δ, w, a, mo (fun l w1 h1 p vs H1 G1 M1 o1 r1 n1 => by
    obtain ⟨o2, g2⟩ := o1.still n1
    exact EI.nx _ _ ⟨_, M1, _, w1, (a.go o2).set (.lst upd_same (r1.up g2)), h1⟩) q⟩)⟩
/-- what a rule for name = [..] gives -/
def SetsTo (X : Cx) (W : Wp ω) (st : Stmt) (i : Nat) (tf : TAZ ω) : Prop := PSZ X W st (zOwn i tf) ∧ PSZ X W st (zAsg i (zFz tf))
theorem s_lcL (i : Nat) {y : Str} {py spos : Pos} {ti : TEZ ω} (hi : PEZ X W iter ti) (C : CompOk X W scope tg elt ifs g gz tt te) (hN : X.N.Nodup) (hy : X.N[i]? = some y := by rfl) (hyl : X.env.scope.names.lookup y = some .local := by rfl) (hsw : swapsWith (.ListComp elt [⟨tg, iter, ifs, 0⟩] scope pos) (some (.Name y py)) spos.line X.env = pure true := by exact sw_true rfl rfl rfl (by decide +kernel))
    (ok : blkC X.N X.env.scope scope own = true := by decide +kernel) (hw : Wiped g (own.map (·.2)) := by exact wiped_name _) (hc : X.calm = true := by rfl) (hs : ∀ x, foldedSetIterable iter X.env x = pure x := by intro _; rfl) : SetsTo X W (.Assign [.Name y py] (.ListComp elt [⟨tg, iter, ifs, 0⟩] scope pos) spos) i (zLcL ti gz tt te (own.map (·.2))) := by
  have key := fun Z ex (tk : Takes X (WXz X.K W Z ex)) => ps_setLc hc hN hy hyl hsw (pi_list (hi.run Z ex tk)) (blkOk_by ok) C.hg C.pt C.pe hs
  exact ⟨fun Z ex tk => asg_own (key Z ex tk) (mo_lcL hi) (fun s => imp_lcL hi s C hw), fun Z ex tk => asg_fz (key Z ex tk) (mo_lcL hi) (fun s => imp_lcL hi s C hw)⟩
theorem s_lcT (i : Nat) {y : Str} {py spos : Pos} {ti : TEZ ω} (hi : PEZ X W iter ti) (C : CompOk X W scope tg elt ifs g gz tt te) (hN : X.N.Nodup) (hy : X.N[i]? = some y := by rfl) (hyl : X.env.scope.names.lookup y = some .local := by rfl) (hsw : swapsWith (.ListComp elt [⟨tg, iter, ifs, 0⟩] scope pos) (some (.Name y py)) spos.line X.env = pure true := by exact sw_true rfl rfl rfl (by decide +kernel))
    (ok : blkC X.N X.env.scope scope own = true := by decide +kernel) (hw : Wiped g (own.map (·.2)) := by exact wiped_name _) (hc : X.calm = true := by rfl) (hs : ∀ x, foldedSetIterable iter X.env x = pure x := by intro _; rfl) : SetsTo X W (.Assign [.Name y py] (.ListComp elt [⟨tg, iter, ifs, 0⟩] scope pos) spos) i (zLcT ti gz tt te (own.map (·.2))) := by
  have key := fun Z ex (tk : Takes X (WXz X.K W Z ex)) => ps_setLc hc hN hy hyl hsw (pi_tup (hi.run Z ex tk)) (blkOk_by ok) C.hg C.pt C.pe hs
  exact ⟨fun Z ex tk => asg_own (key Z ex tk) (mo_lcT hi) (fun s => imp_lcT hi s C hw), fun Z ex tk => asg_fz (key Z ex tk) (mo_lcT hi) (fun s => imp_lcT hi s C hw)⟩
theorem s_lcR1 (i : Nat) {y : Str} {py spos p pc : Pos} {ea : Expr} {ta : TAZ ω} (hm : X.mg "range" = none) (hi : PAZ X W [ea] ta) (C : CompOk X W scope tg elt ifs g gz tt te) (hN : X.N.Nodup) (hy : X.N[i]? = some y := by rfl) (hyl : X.env.scope.names.lookup y = some .local := by rfl)
    (hsw : swapsWith (.ListComp elt [⟨tg, .Call (.Name "range" p) [ea] [] pc, ifs, 0⟩] scope pos) (some (.Name y py)) spos.line X.env = pure true := by exact sw_true rfl rfl rfl (by decide +kernel)) (ok : blkC X.N X.env.scope scope own = true := by decide +kernel) (hw : Wiped g (own.map (·.2)) := by exact wiped_name _) (hc : X.calm = true := by rfl)
    (hgl : Gl X "range" := by rfl) (hse : starEach [ea] X.env = [(false, eval ea X.env)] := by rfl) (hs : ∀ x, foldedSetIterable (.Call (.Name "range" p) [ea] [] pc) X.env x = pure x := by intro _; rfl) : SetsTo X W (.Assign [.Name y py] (.ListComp elt [⟨tg, .Call (.Name "range" p) [ea] [] pc, ifs, 0⟩] scope pos) spos) i (zLcR1 ta gz tt te (own.map (·.2))) := by
  have key := fun Z ex (tk : Takes X (WXz X.K W Z ex)) => ps_setLc hc hN hy hyl hsw (pi_rgB1 hgl hm (hi.run Z ex tk) hse) (blkOk_by ok) C.hg C.pt C.pe hs
  exact ⟨fun Z ex tk => asg_own (key Z ex tk) (mo_lcR1 hi) (fun s => imp_lcR1 hi s C hw), fun Z ex tk => asg_fz (key Z ex tk) (mo_lcR1 hi) (fun s => imp_lcR1 hi s C hw)⟩
theorem s_lcR2 (i : Nat) {y : Str} {py spos p pc : Pos} {ea eb : Expr} {ta : TAZ ω} (hm : X.mg "range" = none) (hi : PAZ X W [ea, eb] ta) (C : CompOk X W scope tg elt ifs g gz tt te) (hN : X.N.Nodup) (hy : X.N[i]? = some y := by rfl) (hyl : X.env.scope.names.lookup y = some .local := by rfl)
    (hsw : swapsWith (.ListComp elt [⟨tg, .Call (.Name "range" p) [ea, eb] [] pc, ifs, 0⟩] scope pos) (some (.Name y py)) spos.line X.env = pure true := by exact sw_true rfl rfl rfl (by decide +kernel)) (ok : blkC X.N X.env.scope scope own = true := by decide +kernel) (hw : Wiped g (own.map (·.2)) := by exact wiped_name _) (hc : X.calm = true := by rfl)
    (hgl : Gl X "range" := by rfl) (hse : starEach [ea, eb] X.env = [(false, eval ea X.env), (false, eval eb X.env)] := by rfl) (hse2 : starEach [eb] X.env = [(false, eval eb X.env)] := by rfl) (hs : ∀ x, foldedSetIterable (.Call (.Name "range" p) [ea, eb] [] pc) X.env x = pure x := by intro _; rfl) :
    SetsTo X W (.Assign [.Name y py] (.ListComp elt [⟨tg, .Call (.Name "range" p) [ea, eb] [] pc, ifs, 0⟩] scope pos) spos) i (zLcR2 ta gz tt te (own.map (·.2))) := by
  have key := fun Z ex (tk : Takes X (WXz X.K W Z ex)) => ps_setLc hc hN hy hyl hsw (pi_rgB2 hgl hm (hi.run Z ex tk) hse hse2) (blkOk_by ok) C.hg C.pt C.pe hs
  exact ⟨fun Z ex tk => asg_own (key Z ex tk) (mo_lcR2 hi) (fun s => imp_lcR2 hi s C hw), fun Z ex tk => asg_fz (key Z ex tk) (mo_lcR2 hi) (fun s => imp_lcR2 hi s C hw)⟩
/-- the parts of a comprehension -/
theorem c_ok {gzt : GoG X.K g gz} (hg : ∀ (s : Shared) (H : Hp) (C : Addr) (cl : List (Str × Addr)) (fp : List Addr), PG (X.blk s H scope (compEnvC scope cl C X.env) fp) tg g) (he : ∀ (s : Shared) (H : Hp) (C : Addr) (cl : List (Str × Addr)) (fp : List Addr), PEZ (X.blk s H scope (compEnvC scope cl C X.env) fp) W elt te) : CompOk X W scope tg elt [] g gz zYes te :=
  ⟨hg, gzt, fun s H C cl fp Z => ⟨fun pins s' σ H' Q I ⟨G, M, δ, w, a, q⟩ => pts_nil.run pins s' σ H' Q I (q H' G M a.here)⟩, fun _ => fun k h => k _ _ h, he, fun s => (he s (fun _ => none) 0 [] []).mo⟩
theorem c_if {c : Expr} {tc : TTZ ω} {gzt : GoG X.K g gz} (hg : ∀ (s : Shared) (H : Hp) (C : Addr) (cl : List (Str × Addr)) (fp : List Addr), PG (X.blk s H scope (compEnvC scope cl C X.env) fp) tg g) (ht : ∀ (s : Shared) (H : Hp) (C : Addr) (cl : List (Str × Addr)) (fp : List Addr), PTZ (X.blk s H scope (compEnvC scope cl C X.env) fp) W c tc)
    (he : ∀ (s : Shared) (H : Hp) (C : Addr) (cl : List (Str × Addr)) (fp : List Addr), PEZ (X.blk s H scope (compEnvC scope cl C X.env) fp) W elt te) : CompOk X W scope tg elt [c] g gz tc te :=
  ⟨hg, gzt, fun s H C cl fp Z => pts_one ((ht s H C cl fp).run Z _ tkN), fun s => (ht s (fun _ => none) 0 [] []).mo, he, fun s => (he s (fun _ => none) 0 [] []).mo⟩
end
end Z

namespace Z
open PySem PySem.Spec PyProof.Rows L2
variable {ω : Type}
def negD : D → (D → Prop) → Prop := fun d q => intD d fun i => q (.int (-i))
theorem l_neg {K : PySem.W.Frag} : Lnd1 K (rU fun i => .int (-i)) negD where
  mo := fun k h => h.imp fun i h => k _ h
  go := fun H G x dx q Q e rx h k => by
    obtain ⟨i, rfl, q2⟩ := h.of
    cases rx
    exact ⟨i, rfl, k _ _ q2 (.int _)⟩
/-- n += e -/
def zAug (i : Nat) (te : TEZ ω) : TSZ ω := fun DE δ w => match δ[i]? with
  | some (.val (.int a)) => te δ w (fun d w1 => intD d fun b => DE.nx (δ.set i (.val (.int (a + b)))) w1) (fun e w' => DE.ex e δ w')
  | _ => False
section
variable {X : Cx} {W : Wp ω} {pos pos' p : Pos} {x : Str} {e : Expr} {te : TEZ ω}
theorem z_aug (i : Nat) (he : PEZ X W e te) (hN : X.N.Nodup) (hi : X.N[i]? = some x := by rfl) (hx : Loc X.env.scope x := by first | exact Or.inl rfl | exact Or.inr rfl) (hf : X.fn x = true ∨ X.env.scope.names.lookup x = some .local := by first | exact .inl rfl | exact .inr rfl) :
    PSZ X W (.AugAssign (.Name x pos') .Add e pos) (zAug i te) := fun Z ex tk => psI (ps_aug hN hi hx (he.run Z ex tk) ip_add hf) fun DE σ H ⟨Dz, hex, EI, G, M, δ, w, a, h⟩ => by
  subst hex
  unfold zAug at h
  split at h
  · rename_i n hn
    obtain ⟨v, h1, h2⟩ := a.sl i _ hn
    cases h2
    refine ⟨_, h1, G, M, δ, w, a, he.mo (fun d w1 q1 v H1 G1 M1 o1 r1 => ?_) h⟩
    obtain ⟨b, rfl, q2⟩ := q1.of
    cases r1
    exact ⟨n, b, rfl, rfl, EI.nx _ _ ⟨G1, M1, _, w1, (a.go o1).set (.int _), q2⟩⟩
  · exact h.elim
end
/-! ### short forms for specifications -/
/-- a def that gives f of its arguments where pre holds -/
def spP {α : Type} (args : α → List D) (pre : α → Prop) (f : α → D) : SpZ Unit := fun ds w Q _ => ∃ x, ds = args x ∧ pre x ∧ Q (f x) w
theorem spP_mo {α : Type} {args : α → List D} {pre : α → Prop} {f : α → D} : MoS (spP args pre f) := fun k _ ⟨x, h1, h2, h3⟩ => ⟨x, h1, h2, k _ _ h3⟩
/-- .. that refuses by e where ref holds -/
def spE {α : Type} (args : α → List D) (ref : α → Option Nat → Prop) (f : α → D) : SpZ Unit := fun ds w Q E => ∃ x, ds = args x ∧ ((∃ e, ref x (some e) ∧ E e w) ∨ (ref x none ∧ Q (f x) w))
theorem spE_mo {α : Type} {args : α → List D} {ref : α → Option Nat → Prop} {f : α → D} : MoS (spE args ref f) := fun k k' ⟨x, h1, h⟩ => ⟨x, h1, h.elim (fun ⟨e, h2, h3⟩ => .inl ⟨e, h2, k' _ _ h3⟩) fun ⟨h2, h3⟩ => .inr ⟨h2, k _ _ h3⟩⟩
/-- .. by what it gives -/
def spR {ω α : Type} (args : α → List D) (pre : α → ω → Prop) (post : α → ω → D → ω → Prop) : SpZ ω := fun ds w Q _ => ∃ x, ds = args x ∧ pre x w ∧ ∀ d w', post x w d w' → Q d w'
theorem spR_mo {ω α : Type} {args : α → List D} {pre : α → ω → Prop} {post : α → ω → D → ω → Prop} : MoS (spR args pre post) := fun k _ ⟨x, h1, h2, h3⟩ => ⟨x, h1, h2, fun d w' h => k _ _ (h3 d w' h)⟩
end Z

namespace Z
open PySem PySem.Spec PyProof.Rows L2
variable {ω : Type}

/-! ### what a loop goes over, in general -/
/-- what a walk gives, over plain data: data that stand, or new pairs of such -/
structure WkZ (K : PySem.W.Frag) (G : Hp) (J : It) (l : List D) : Prop where
  ex : ∃ (Gd : Hp → Prop) (Y : Nat → Hp → V → Hp → Prop), Walk J l.length Gd Y ∧ (∀ H, Ext G H → Gd H) ∧
    ∀ i H x H', i < l.length → Y i H x H' → (H' = H ∧ ∃ d, l[i]? = some d ∧ Rep K G x d) ∨ ∃ T vs ds, x = .ref T ∧ H T = none ∧ H' = upd H T (.tup vs) ∧ RepL K G vs ds ∧ l[i]? = some (.tup ds)
def liI (K : PySem.W.Frag) (W : Wp ω) (Z : Zx) (ex : Nat → List Sl → ω → Prop) (tz : TAZ ω) : TI := fun σ H R => ∃ G M δ w, SR K W Z σ H G M δ w ∧ tz δ w (fun l w' => ∀ H' G' M' J, Go W H G M H' G' M' w' → WkZ K G' J l → R J H') (fun e w' => ex e δ w')
structure PIZ (X : Cx) (W : Wp ω) (tg iter : Expr) (tz : TAZ ω) : Prop where
  mo : Mo tz
  run : ∀ (Z : Zx) (ex : Nat → List Sl → ω → Prop), Takes X (WXz X.K W Z ex) → PI X tg iter (liI X.K W Z ex tz)
theorem piI {X : Cx} {tg e : Expr} {t u : TI} (h : PI X tg e u) (i : ∀ σ H R, t σ H R → u σ H R) : PI X tg e t := ⟨fun pins s σ H R I q => h.run pins s σ H R I (i _ _ _ q)⟩
def zForI (tz : TAZ ω) (gz : TGZ) (t : TSZ ω) : TSZ ω := fun D δ w => tz δ w (fun l w1 => zLoop l gz t D δ w1) (fun e w' => D.ex e δ w')
section
variable {X : Cx} {W : Wp ω} {pos : Pos} {e : Expr} {tz : TAZ ω} {tg : Expr} {g : TG} {gz : TGZ} {body : List Stmt} {t : TSZ ω}
theorem z_forI (hi : PIZ X W tg e tz) (hg : PGZ X tg g gz) (hb : PBZ X W body t) (hp : PassesOwn (model X.prog X.w) X.A X.env X.xe := by first | exact PassesOwn.leaving | exact PassesOwn.looking | exact PassesOwn.never | assumption) (hc : X.calm = true := by rfl)
    (hs : ∀ x, foldedSetIterable e X.env x = pure x := by intro _; rfl) : PSZ X W (.For tg e body [] pos) (zForI tz gz t) := fun Z ex tk => psI (ps_for hp hc (hi.run Z ex tk) hg.pg (zB_run hb Z ex tk) hs) fun DE σ H ⟨Dz, hex, EI, G, M, δ, w, a, h⟩ => by
  subst hex
  refine ⟨G, M, δ, w, a, hi.mo (fun l w1 h1 H1 G1 M1 J o1 wk => ?_) h⟩
  obtain ⟨Gd, Y, wk, gd, yl⟩ := wk.ex
  obtain ⟨I, i0, is, id⟩ := h1
  have a1 := a.go o1
  refine for_it wk (fun i => LS X.K W ⟨Z.H0, Z.G0, Z.M0, G1⟩ (I i)) ⟨G1, M1, δ, w1, a1.more, i0⟩ ?_ ?_ ?_
  · rintro i σ2 H2 _ ⟨G2, M2, δ2, w2, a2, _⟩
    exact gd H2 (a2.st.tr a2.pt.gh)
  · rintro i x σ2 H2 H3 hi' ⟨G2, M2, δ2, w2, a2, q2⟩ hy
    rcases yl i H2 x H3 hi' hy with ⟨rfl, d, hd, rd⟩ | ⟨T, vs, ds, rfl, hT, rfl, r, hd⟩
    · refine hg.gg.go W _ σ2 H3 G2 M2 δ2 w2 x d _ _ a2 (rd.up a2.st) (is i d δ2 w2 hd q2) fun σ3 δ3 q3 a3 => ?_
      exact ⟨G1, a1.st, { Dz with nx := I (i + 1), ct := I (i + 1), bk := Dz.nx }, rfl, EI.loop a1.st (fun _ _ h => h), G2, M2, δ3, w2, a3, q3⟩
    · have gg : Ext G2 (upd G2 T (.tup vs)) := Ext.new (a2.pt.gh.none' hT)
      refine hg.gg.go W _ σ2 _ (upd G2 T (.tup vs)) M2 δ2 w2 (.ref T) (.tup ds) _ _ (a2.new hT) (.tup (SqT.of upd_same) ((r.up a2.st).up gg)) (is i _ δ2 w2 hd q2) fun σ3 δ3 q3 a3 => ?_
      exact ⟨G1, a1.st, { Dz with nx := I (i + 1), ct := I (i + 1), bk := Dz.nx }, rfl, EI.loop a1.st (fun _ _ h => h), _, M2, δ3, w2, a3, q3⟩
  · rintro σ2 H2 ⟨G2, M2, δ2, w2, a2, q2⟩
    exact EI.nx _ _ ⟨G2, M2, δ2, w2, a2.le a1.st, id δ2 w2 q2⟩
end
/-! comprehensions over it -/
section
variable {X : Cx} {W : Wp ω} {pos : Pos} {scope : Scope} {tg elt iter : Expr} {ifs : List Expr} {g : TG} {gz : TGZ} {tt : TTZ ω} {te : TEZ ω} {own : List (Str × Nat)}
theorem comp_turn2 {Z : Zx} {σ : L2.St} {H G M : Hp} {δ : List Sl} {w : ω} {Dl : Addr} {I : Nat → List D → ω → Prop} {i : Nat} {H' G1 M1 : Hp} {w1 : ω} {us : List V} {acc : List D} {d : D} {v : V} {vs : List Nat} (hgz : GoG X.K g gz) (mt : Mo tt) (mo : Mo te) (hw : Wiped g vs) (a : SR X.K W Z σ H G M δ w) (hi : i < 100000) (rv : Rep X.K G1 v d)
    (o1 : Go W H G M H' G1 M1 w1) (n1 : NewAt H H' G1 M1 Dl us) (r1 : RepL X.K G1 us acc) (hl : acc.length ≤ i) (q : I i acc w1)
    (hs : gz d (wipeZ δ vs) fun δ2 => tt δ2 w1 (fun b w2 => (b = true → te δ2 w2 (fun y w3 => I (i + 1) (acc ++ [y]) w3) NoE) ∧ (b = false → I (i + 1) acc w2)) NoE) :
    g v (L2.wipe σ vs) H' fun σ2 H2 => L2.wipe σ2 vs = L2.wipe σ vs ∧ liNT X.K W tt σ2 H2 fun b H3 =>
      if b = true then liN X.K W te σ2 H3 fun y H4 => ∃ acc, H4 Dl = some (.lst acc) ∧ acc.length < sizeLine ∧ CInv X.K W H G M Dl I (i + 1) (upd H4 Dl (.lst (acc ++ [y]))) else CInv X.K W H G M Dl I (i + 1) H3 := by
  refine hw v σ H' _ ?_
  have a1 := (a.go o1).wipe vs
  refine hgz.go W Z (L2.wipe σ vs) H' G1 M1 (wipeZ δ vs) w1 v d _ _ a1 rv hs fun σ2 δ2 q2 a2 => ?_
  have grow : ∀ {H3 G3 M3 : Hp} {w3 : ω} {u : V} {y : D}, Go W H' G1 M1 H3 G3 M3 w3 → Rep X.K G3 u y → I (i + 1) (acc ++ [y]) w3 → ∃ acc, H3 Dl = some (.lst acc) ∧ acc.length < sizeLine ∧ CInv X.K W H G M Dl I (i + 1) (upd H3 Dl (.lst (acc ++ [u]))) := by
    intro H3 G3 M3 w3 u y o3 ru qi
    obtain ⟨m1, m2, m3, m4⟩ := n1
    have h3 := o3.nx.fr Dl _ m2 m4
    have g3 : G3 Dl = none := by
      cases z : G3 Dl with
      | none => rfl
      | some t => rw [o3.nx.gn Dl t z m3] at m2; cases m2
    have k3 : M3 Dl = none := by
      cases z : M3 Dl with
      | none => rfl
      | some t => rw [o3.nx.mn Dl t z m4] at m2; cases m2
    have r3 := r1.up o3.nx.gg
    have o := o1.tr o3
    refine ⟨us, h3, by rw [r1.len, sizeLine_eq]; omega, G3, M3, w3, us ++ [u], acc ++ [y], ⟨⟨fun p x e => ?_, fun p x e => ?_, o.pt.dj, o.pt.wd⟩, ⟨o.nx.gg, fun p x e e' => ?_, o.nx.gn, o.nx.mn, o.nx.m0⟩⟩, ⟨m1, upd_same, g3, k3⟩, r3.app (.cons ru .nil), by rw [List.length_append]; exact Nat.succ_le_succ hl, qi⟩
    · rw [upd_ne (ne_of_none e g3)]; exact o.pt.gh p x e
    · rw [upd_ne (ne_of_none e k3)]; exact o.pt.mh p x e
    · rw [upd_ne (ne_of_none e m1)]; exact o.nx.fr p x e e'
  refine ⟨Z, G1, M1, δ2, w1, a2, mt (fun b w2 q3 H3 G3 M3 o3 => ?_) q2⟩
  cases b with
  | true =>
    rw [if_pos rfl]
    refine ⟨Z, G3, M3, δ2, w2, a2.go o3, mo (fun y w4 q4 u H4 G4 M4 o4 r4 => grow (o3.tr o4) r4 q4) (q3.1 rfl)⟩
  | false =>
    rw [if_neg Bool.false_ne_true]
    obtain ⟨m1, m2, m3, m4⟩ := n1
    refine ⟨G3, M3, w2, us, acc, o1.tr o3, ⟨m1, o3.nx.fr Dl _ m2 m4, ?_, ?_⟩, r1.up o3.nx.gg, Nat.le_succ_of_le hl, q3.2 rfl⟩
    · cases z : G3 Dl with
      | none => rfl
      | some t => rw [o3.nx.gn Dl t z m3] at m2; cases m2
    · cases z : M3 Dl with
      | none => rfl
      | some t => rw [o3.nx.mn Dl t z m4] at m2; cases m2
def zLcI (tz : TAZ ω) (gz : TGZ) (tt : TTZ ω) (te : TEZ ω) (vs : List Nat) : TAZ ω := fun δ w Q E => tz δ w (fun l w1 => zComp l gz tt te vs δ w1 Q) E
theorem imp_lcI {tz : TAZ ω} {vs : List Nat} {Z : Zx} {ex : Nat → List Sl → ω → Prop} (hi : PIZ X W tg iter tz) (s0 : Shared) (C : CompOk X W scope tg elt ifs g gz tt te) (hw : Wiped g vs) {σ : L2.St} {H : Hp} {Q : VK} (h : liF X.K W Z ex (zLcI tz gz tt te vs) σ H Q) :
    tLc (liI X.K W Z ex tz) g (liNT X.K W tt) (liN X.K W te) vs σ H Q := by
  obtain ⟨G, M, δ, w, a, h⟩ := h
  refine ⟨G, M, δ, w, a, hi.mo (fun l w1 h1 H1 G1 M1 J o1 wk => ?_) h⟩
  obtain ⟨hlen, I, i0, is, id⟩ := h1
  obtain ⟨Gd, Y, wk, gd, yl⟩ := wk.ex
  have a1 := a.go o1
  intro Dl hD
  refine lc_it wk (CInv X.K W H1 G1 M1 Dl I) (c_start o1.pt hD i0) ?_ ?_ ?_
  · rintro i H2 _ ⟨G2, M2, w2, us2, acc, o2, n2, r2, q2⟩
    exact gd H2 (o2.nx.gg.tr o2.pt.gh)
  · rintro i x H2 H3 hi' ⟨G2, M2, w2, us2, acc, o2, n2, r2, hl2, q2⟩ hy
    rcases yl i H2 x H3 hi' hy with ⟨rfl, d, hd, rd⟩ | ⟨T, vs2, ds, rfl, hT, rfl, r, hd⟩
    · exact comp_turn2 C.gg (C.mt s0) (C.mo s0) hw a1 (by omega) (rd.up o2.nx.gg) o2 n2 r2 hl2 q2 (is i d acc w2 hd q2)
    · have gg : Ext G2 (upd G2 T (.tup vs2)) := Ext.new (o2.pt.gh.none' hT)
      obtain ⟨m1, m2, m3, m4⟩ := n2
      have ne : Dl ≠ T := ne_of_none m2 hT
      exact comp_turn2 C.gg (C.mt s0) (C.mo s0) hw a1 (by omega) (.tup (SqT.of upd_same) ((r.up o2.nx.gg).up gg)) (o2.new hT) ⟨m1, by rw [upd_ne ne]; exact m2, by rw [upd_ne ne]; exact m3, m4⟩ (r2.up gg) hl2 q2 (is i _ acc w2 hd q2)
  · rintro H2 ⟨G2, M2, w2, us2, acc, o2, n2, r2, hl2, q2⟩
    exact id acc w2 q2 Dl us2 H2 G2 M2 (o1.tr o2) r2 ⟨o1.nx.back o1.pt.mh hD, n2.2⟩
theorem mo_lcI {tz : TAZ ω} {vs : List Nat} (hi : PIZ X W tg iter tz) : Mo (zLcI tz gz tt te vs) := fun k h => hi.mo (fun d w1 h1 => h1.imp k) h
theorem z_lcI {tz : TAZ ω} (hi : PIZ X W tg iter tz) (C : CompOk X W scope tg elt ifs g gz tt te) (hN : X.N.Nodup) (ok : blkC X.N X.env.scope scope own = true := by decide +kernel) (hw : Wiped g (own.map (·.2)) := by exact wiped_name _) (hc : X.calm = true := by rfl)
    (hs : ∀ x, foldedSetIterable iter X.env x = pure x := by intro _; rfl) : PFZ X W (.ListComp elt [⟨tg, iter, ifs, 0⟩] scope pos) (zLcI tz gz tt te (own.map (·.2))) :=
  ⟨mo_lcI hi, fun Z ex tk => ⟨fun pins s σ H Q I h => (pe_lc hc hN (hi.run Z ex tk) (blkOk_by ok) C.hg C.pt C.pe hs).run pins s σ H Q I (imp_lcI hi s C hw h)⟩⟩
theorem s_lcI (i : Nat) {y : Str} {py spos : Pos} {tz : TAZ ω} (hi : PIZ X W tg iter tz) (C : CompOk X W scope tg elt ifs g gz tt te) (hN : X.N.Nodup) (hy : X.N[i]? = some y := by rfl) (hyl : X.env.scope.names.lookup y = some .local := by rfl) (hsw : swapsWith (.ListComp elt [⟨tg, iter, ifs, 0⟩] scope pos) (some (.Name y py)) spos.line X.env = pure true := by exact sw_true rfl rfl rfl (by decide +kernel))
    (ok : blkC X.N X.env.scope scope own = true := by decide +kernel) (hw : Wiped g (own.map (·.2)) := by exact wiped_name _) (hc : X.calm = true := by rfl) (hs : ∀ x, foldedSetIterable iter X.env x = pure x := by intro _; rfl) : SetsTo X W (.Assign [.Name y py] (.ListComp elt [⟨tg, iter, ifs, 0⟩] scope pos) spos) i (zLcI tz gz tt te (own.map (·.2))) := by
  have key := fun Z ex (tk : Takes X (WXz X.K W Z ex)) => ps_setLc hc hN hy hyl hsw (hi.run Z ex tk) (blkOk_by ok) C.hg C.pt C.pe hs
  exact ⟨fun Z ex tk => asg_own (key Z ex tk) (mo_lcI hi) (fun s => imp_lcI hi s C hw), fun Z ex tk => asg_fz (key Z ex tk) (mo_lcI hi) (fun s => imp_lcI hi s C hw)⟩
end
/-! targets of several names, wiped behind -/
theorem wipe_comm {σ : L2.St} {i : Nat} {x : Option V} : ∀ {vs : List Nat}, i ∉ vs → L2.wipe (σ.set i x) vs = (L2.wipe σ vs).set i x
  | [], _ => rfl
  | v :: vs, h => by
    show (L2.wipe (σ.set i x) vs).set v none = ((L2.wipe σ vs).set v none).set i x
    rw [wipe_comm (fun q => h (List.mem_cons_of_mem _ q))]
    exact List.set_comm _ _ (fun q => h (by rw [q]; exact List.mem_cons_self))
theorem wipe_in {σ : L2.St} {i : Nat} {x : Option V} : ∀ {vs : List Nat}, i ∈ vs → L2.wipe (σ.set i x) vs = L2.wipe σ vs
  | v :: vs, h => by
    show (L2.wipe (σ.set i x) vs).set v none = (L2.wipe σ vs).set v none
    by_cases q : i ∈ vs
    · rw [wipe_in q]
    · have e : i = v := (List.mem_cons.mp h).resolve_right q
      rw [wipe_comm q, e, List.set_set]
theorem wipe_wipe {σ : L2.St} : ∀ {vs us : List Nat}, (∀ i ∈ vs, i ∈ us) → L2.wipe (L2.wipe σ vs) us = L2.wipe σ us
  | [], _, _ => rfl
  | v :: vs, us, h => by
    show L2.wipe ((L2.wipe σ vs).set v none) us = _
    rw [wipe_in (h v List.mem_cons_self), wipe_wipe fun i hi => h i (List.mem_cons_of_mem _ hi)]
theorem wiped_gNs {us : List Nat} {H : Hp} {Q : L2.St → Hp → Prop} : ∀ {is : List Nat} {xs : List V} {σ : L2.St}, (∀ i ∈ is, i ∈ us) → gNs is xs σ H Q → gNs is xs σ H fun σ2 H2 => L2.wipe σ2 us = L2.wipe σ us ∧ Q σ2 H2
  | [], xs, σ, _, h => ⟨h.1, rfl, h.2⟩
  | i :: is, xs, σ, hm, h => by
    obtain ⟨x, ys, e, h⟩ := h
    refine ⟨x, ys, e, ?_⟩
    have q := wiped_gNs (us := us) (fun j hj => hm j (List.mem_cons_of_mem _ hj)) h
    rw [wipe_in (hm i List.mem_cons_self)] at q
    exact q
theorem wiped_tup {K : PySem.W.Frag} {n : Nat} {is vs : List Nat} (h : ∀ i ∈ is, i ∈ vs) : Wiped (gTup K n (gNs is)) vs := fun x σ H Q ⟨a, xs, e, s, l, q⟩ => by
  have r := wiped_gNs (us := vs) h q
  rw [wipe_wipe fun i hi => hi] at r
  exact ⟨a, xs, e, s, l, r⟩
/-! ### zip -/
def zipT (a b : List D) : List D := (a.zip b).map fun p => .tup [p.1, p.2]
def zipD : D → D → Option (List D)
  | .lst a, .lst b => some (zipT a b)
  | .lst a, .arr b => some (zipT a b)
  | .arr a, .lst b => some (zipT a b)
  | .arr a, .arr b => some (zipT a b)
  | .tup a, .tup b => some (zipT a b)
  | _, _ => none
def zZip (ta : TAZ ω) : TAZ ω := fun δ w Q E => ta δ w (fun l w1 => match l with | [x, y] => (match zipD x y with | some m => Q m w1 | none => False) | _ => False) E
theorem zipT_at {a b : List D} {i : Nat} {x y : D} (h : a[i]? = some x) (g : b[i]? = some y) : (zipT a b)[i]? = some (.tup [x, y]) := by
  unfold zipT
  rw [List.getElem?_map, List.getElem?_zip_eq_some (z := (x, y)) |>.mpr ⟨h, g⟩]; rfl
theorem zipT_len (a b : List D) : (zipT a b).length = min a.length b.length := by unfold zipT; rw [List.length_map, List.length_zip]
theorem walk_zipT {K : PySem.W.Frag} {a b : Addr} {xs ys : List V} {n : Nat} (hn : n = min xs.length ys.length) : Walk (RZ.ItzT K a b) n (fun H => SqT K H a xs ∧ SqT K H b ys) (YPair (fun i => xs[i]?) (fun i => ys[i]?)) := by
  subst hn
  refine ⟨fun i _ hi q => ?_, fun _ q => ⟨xs, ys, q.1, q.2, by omega⟩, fun i H v H' _ q y => ?_⟩
  · have h1 : i < xs.length := by omega
    have h2 : i < ys.length := by omega
    exact ⟨xs, ys, xs[i], ys[i], q.1, q.2, by simp [h1], by simp [h2]⟩
  · obtain ⟨T, x, z, h1, h2, h3, h4, h5⟩ := y
    exact ⟨T, x, z, h1, h2, h3, h4 xs q.1, h5 ys q.2⟩
theorem wk_pair {K : PySem.W.Frag} {G : Hp} {J : It} {xs ys : List V} {a b : List D} {Gd : Hp → Prop} (hw : ∀ n, n = min xs.length ys.length → Walk J n Gd (YPair (fun i => xs[i]?) (fun i => ys[i]?))) (gd : ∀ H, Ext G H → Gd H) (ra : RepL K G xs a) (rb : RepL K G ys b) : WkZ K G J (zipT a b) := by
  refine ⟨Gd, _, hw _ (by rw [zipT_len, ra.len, rb.len]), gd, fun i H x H' hi ⟨T, u, v, e1, e2, e3, e4, e5⟩ => .inr ?_⟩
  obtain ⟨d1, f1, r1⟩ := ra.getV e4
  obtain ⟨d2, f2, r2⟩ := rb.getV e5
  exact ⟨T, [u, v], [d1, d2], e1, e2, e3, .cons r1 (.cons r2 .nil), zipT_at f1 f2⟩
section
variable {X : Cx} {W : Wp ω} {e e2 : Expr} {ta : TAZ ω} {p pos tpos : Pos} {elts : List Expr} {kk : Nat}
theorem i_zip (hm : X.mg "zip" = none) (ha : PAZ X W [e, e2] ta) (hg : Gl X "zip" := by rfl) (hs : starEach [e, e2] X.env = (false, eval e X.env) :: starEach [e2] X.env := by rfl) (hpl : (backTo pos (starEach [e2] X.env)).any (·.1) = false := by rfl) :
    PIZ X W (.Tuple elts kk tpos) (.Call (.Name "zip" p) [e, e2] [] pos) (zZip ta) := by
  refine ⟨fun {δ w Q Q' E} k h => ha.mo (fun l w1 h1 => ?_) h, fun Z ex tk => piI (RZ.pi_zipA hg hm (ha.run Z ex tk) hs hpl) fun σ H R ⟨G, M, δ, w, a, h⟩ => ⟨G, M, δ, w, a, ha.mo (fun l w1 h1 vs H1 G1 M1 o1 r1 => ?_) h⟩⟩
  · split at h1
    · split at h1
      · exact k _ _ h1
      · exact h1.elim
    · exact h1.elim
  · split at h1
    · rename_i x y
      split at h1
      · rename_i m hm2
        obtain ⟨u, v, rfl, ru, rv⟩ : ∃ u v, vs = [u, v] ∧ Rep X.K G1 u x ∧ Rep X.K G1 v y := by
          cases r1 with
          | cons r1 r2 =>
            cases r2 with
            | cons r2 r3 =>
              cases r3
              exact ⟨_, _, rfl, r1, r2⟩
        have lst : ∀ {pa pb : Addr} {xs ys : List V} {la lb : List D}, SqL X.K G1 pa xs → SqL X.K G1 pb ys → RepL X.K G1 xs la → RepL X.K G1 ys lb → m = zipT la lb → ∃ a b xs ys, [V.ref pa, .ref pb] = [.ref a, .ref b] ∧ ((SqL X.K H1 a xs ∧ SqL X.K H1 b ys ∧ R (Itz X.K a b) H1) ∨ (SqT X.K H1 a xs ∧ SqT X.K H1 b ys ∧ R (RZ.ItzT X.K a b) H1)) := by
          intro pa pb xs ys la lb s1 s2 q1 q2 em
          refine ⟨pa, pb, xs, ys, rfl, .inl ⟨sqLE o1.pt.gh s1, sqLE o1.pt.gh s2, h1 H1 G1 M1 _ o1 ?_⟩⟩
          rw [em]
          exact wk_pair (fun n hn => walk_zip hn) (fun H2 e2 => ⟨sqLE e2 s1, sqLE e2 s2⟩) q1 q2
        unfold zipD at hm2
        split at hm2 <;> first | (cases hm2; done) | skip
        · cases hm2
          cases ru with | lst s1 q1 => cases rv with | lst s2 q2 => exact lst (.inl (.inl s1)) (.inl (.inl s2)) q1 q2 rfl
        · cases hm2
          cases ru with | lst s1 q1 => cases rv with | arr s2 q2 => exact lst (.inl (.inl s1)) s2 q1 q2 rfl
        · cases hm2
          cases ru with | arr s1 q1 => cases rv with | lst s2 q2 => exact lst s1 (.inl (.inl s2)) q1 q2 rfl
        · cases hm2
          cases ru with | arr s1 q1 => cases rv with | arr s2 q2 => exact lst s1 s2 q1 q2 rfl
        · cases hm2
          cases ru with
          | @tup pa xs _ s1 q1 =>
            cases rv with
            | @tup pb ys _ s2 q2 =>
              exact ⟨pa, pb, xs, ys, rfl, .inr ⟨sqTE o1.pt.gh s1, sqTE o1.pt.gh s2, h1 H1 G1 M1 _ o1 (wk_pair (fun n hn => walk_zipT hn) (fun H2 e2 => ⟨sqTE e2 s1, sqTE e2 s2⟩) q1 q2)⟩⟩
      · exact h1.elim
    · exact h1.elim
end
/-! ### a text, sign by sign -/
def sgnD (x : Str) : List D := x.cps.toList.map fun c => .str ⟨#[c]⟩
def zSgn (te : TEZ ω) : TAZ ω := fun δ w Q E => te δ w (fun d w1 => match d with | .str x => Q (sgnD x) w1 | _ => False) E
theorem i_str {X : Cx} {W : Wp ω} {tg e : Expr} {te : TEZ ω} (he : PEZ X W e te) : PIZ X W tg e (zSgn te) := by
  refine ⟨fun {δ w Q Q' E} k h => he.mo (fun d w1 h1 => ?_) h, fun Z ex tk => piI (pi_str (he.run Z ex tk)) fun σ H R ⟨G, M, δ, w, a, h⟩ => ⟨G, M, δ, w, a, he.mo (fun d w1 h1 v H1 G1 M1 o1 r1 => ?_) h⟩⟩
  · split at h1
    · exact k _ _ h1
    · exact h1.elim
  · split at h1
    · rename_i x
      cases r1
      refine ⟨x, rfl, h1 H1 G1 M1 _ o1 ⟨fun _ => True, fun i H v H' => H' = H ∧ ∃ c, x.cps[i]? = some c ∧ v = .str ⟨#[c]⟩, ?_, fun _ _ => trivial, fun i H x' H' hi hy => .inl ?_⟩⟩
      · have e : (sgnD x).length = x.cps.size := by unfold sgnD; rw [List.length_map, Array.length_toList]
        rw [e]
        exact walk_str
      · obtain ⟨h1, c, h2, h3⟩ := hy
        refine ⟨h1, .str ⟨#[c]⟩, ?_, by rw [h3]; exact .str _⟩
        unfold sgnD
        rw [List.getElem?_map, Array.getElem?_toList, h2]; rfl
    · exact h1.elim
/-! ### several names from a list -/
def gUL (is : List Nat) : TGZ := fun d δ k => match d with | .lst l => l.length = is.length ∧ k (setAll δ is l) | _ => False
theorem gg_lst {K : PySem.W.Frag} (is : List Nat) : GoG K (gLst K is.length (gNs is)) (gUL is) := ⟨fun k h => by
  unfold gUL at h ⊢
  split at h
  · exact ⟨h.1, k _ h.2⟩
  · exact h.elim, fun W Z σ H G M δ w v d q Q a r h k => by
  cases d with
  | lst l =>
    cases r with
    | lst s r =>
      exact ⟨_, _, rfl, .inl (.inl (a.pt.gh _ _ s)), by rw [r.len]; exact h.1, gNs_go is _ _ _ _ a r h.1 fun σ' a' => k σ' _ h.2 a'⟩
  | _ => exact h.elim⟩
theorem g_lst {X : Cx} {es : List Expr} {k : Nat} {is : List Nat} {pos : Pos} (h : PGs X es (gNs is)) (hc : X.calm = true := by rfl) (hn : (assignEach es X.env).length = is.length := by rfl) (hst : (assignEach es X.env).findIdx? (·.1) = none := by rfl) :
    PGZ X (.Tuple es k pos) (gLst X.K is.length (gNs is)) (gUL is) := ⟨gg_lst is, pg_lst hc h hn hst⟩
end Z

namespace Z
open PySem PySem.Spec PyProof.Rows L2

/-! ### a world of lists that may change -/
abbrev Mst := List (Addr × List D)
def wGet (w : Mst) (a : Addr) : Option (List D) := List.lookup a w
def wSet (w : Mst) (a : Addr) (l : List D) : Mst := w.map fun p => if p.1 = a then (a, l) else p
theorem wGet_cons {w : Mst} {a b : Addr} {l : List D} : wGet ((b, l) :: w) a = if a = b then some l else wGet w a := by
  unfold wGet
  by_cases h : a = b
  · have e : (a == b) = true := beq_iff_eq.mpr h
    simp only [List.lookup, e, if_pos h]
  · have e : (a == b) = false := beq_eq_false_iff_ne.mpr h
    simp only [List.lookup, e, if_neg h]
theorem wGet_set (a b : Addr) (l : List D) : ∀ w : Mst, wGet (wSet w a l) b = if b = a then (wGet w a).map fun _ => l else wGet w b
  | [] => by
    by_cases h : b = a
    · rw [if_pos h]; rfl
    · rw [if_neg h]; rfl
  | (c, m) :: w => by
    have ih := wGet_set a b l w
    have e : wSet ((c, m) :: w) a l = (if c = a then (a, l) else (c, m)) :: wSet w a l := rfl
    rw [e]
    by_cases h : c = a
    · subst h
      rw [if_pos rfl, wGet_cons, wGet_cons, wGet_cons, ih]
      by_cases k : b = c
      · rw [if_pos k, if_pos k, if_pos rfl]; rfl
      · rw [if_neg k, if_neg k, if_neg k, if_neg k]
    · rw [if_neg h, wGet_cons, wGet_cons, wGet_cons, ih]
      by_cases k : b = a
      · subst k
        rw [if_neg (Ne.symm h), if_pos rfl, if_pos rfl, if_neg (Ne.symm h)]
      · rw [if_neg k, if_neg k]
def okW (K : PySem.W.Frag) (w : Mst) (G M : Hp) : Prop := (∀ a o, M a = some o → ∃ l, wGet w a = some l) ∧ ∀ a l, wGet w a = some l → ∃ vs, M a = some (.lst vs) ∧ RepL K G vs l
def WL (K : PySem.W.Frag) (ec : Nat → Addr) : Wp Mst := ⟨okW K, fun e h => ⟨h.1, fun a l g => let ⟨vs, h1, h2⟩ := h.2 a l g; ⟨vs, h1, h2.up e⟩⟩, ec⟩
theorem okW.none {K : PySem.W.Frag} {w : Mst} {G M : Hp} (h : okW K w G M) {a : Addr} (e : M a = none) : wGet w a = none := by
  cases q : wGet w a with
  | none => rfl
  | some l =>
    obtain ⟨vs, h1, _⟩ := h.2 a l q
    rw [e] at h1; cases h1
/-- a list of the world changed -/
theorem chgW {K : PySem.W.Frag} {ec : Nat → Addr} {Z : Zx} {σ : L2.St} {H G M : Hp} {δ : List Sl} {w : Mst} {a : Addr} {l m : List D} {us : List V} (s : SR K (WL K ec) Z σ H G M δ w) (h : wGet w a = some l) (r : RepL K G us m) :
    SR K (WL K ec) Z σ (upd H a (.lst us)) G (upd M a (.lst us)) δ (wSet w a m) := by
  obtain ⟨vs, h1, h2⟩ := s.pt.wd.2 a l h
  have hG : G a = none := by
    cases q : G a with
    | none => rfl
    | some x => rw [s.pt.dj a x q] at h1; cases h1
  have hM : ∀ p x, upd M a (.lst us) p = some x → M p ≠ none := fun p x e z => by
    by_cases k : p = a
    · rw [k, h1] at z; cases z
    · rw [upd_ne k, z] at e; cases e
  refine s.next ⟨fun p x e => ?_, fun p x e => ?_, fun p x e => ?_, ⟨fun p o e => ?_, fun p l' e => ?_⟩⟩ ⟨.rfl', fun p x e e' => ?_, fun p x e e' => (by rw [e] at e'; cases e'), fun p x e e' => absurd e' (hM p x e), fun p x e => ?_⟩
  · rw [upd_ne (ne_of_none e hG)]; exact s.pt.gh p x e
  · by_cases k : p = a
    · subst k; rw [upd_same] at e ⊢; exact e
    · rw [upd_ne k] at e ⊢; exact s.pt.mh p x e
  · rw [upd_ne (ne_of_none e hG)]; exact s.pt.dj p x e
  · rw [wGet_set]
    by_cases k : p = a
    · rw [if_pos k, h]; exact ⟨_, rfl⟩
    · rw [if_neg k]; rw [upd_ne k] at e; exact s.pt.wd.1 p o e
  · rw [wGet_set] at e
    by_cases k : p = a
    · subst k
      rw [if_pos rfl, h] at e
      cases e
      exact ⟨us, upd_same, r⟩
    · rw [if_neg k] at e
      obtain ⟨v2, g1, g2⟩ := s.pt.wd.2 p l' e
      exact ⟨v2, by rw [upd_ne k]; exact g1, g2⟩
  · rw [upd_ne (fun k => by rw [k, h1] at e'; cases e')]; exact e
  · by_cases k : p = a
    · subst k; exact ⟨_, upd_same⟩
    · rw [upd_ne k]; exact ⟨x, e⟩
/-- a new list of the world -/
theorem newW {K : PySem.W.Frag} {ec : Nat → Addr} {H0 G0 M0 H G M : Hp} {w : Mst} {a : Addr} {m : List D} {us : List V} (o : Go (WL K ec) H0 G0 M0 H G M w) (h0 : H0 a = none) (h1 : H a = some (.lst us)) (hG : G a = none) (hM : M a = none) (r : RepL K G us m) :
    Go (WL K ec) H0 G0 M0 H G (upd M a (.lst us)) ((a, m) :: w) ∧ wGet w a = none := by
  have hw := o.pt.wd.none hM
  refine ⟨⟨⟨o.pt.gh, fun p x e => ?_, fun p x e => ?_, ⟨fun p x e => ?_, fun p l e => ?_⟩⟩, ⟨o.nx.gg, o.nx.fr, o.nx.gn, fun p x e e' => ?_, fun p x e => ?_⟩⟩, hw⟩
  · by_cases k : p = a
    · subst k; rw [upd_same] at e; rw [h1]; exact e
    · rw [upd_ne k] at e; exact o.pt.mh p x e
  · rw [upd_ne (ne_of_none e hG)]; exact o.pt.dj p x e
  · rw [wGet_cons]
    by_cases k : p = a
    · rw [if_pos k]; exact ⟨_, rfl⟩
    · rw [if_neg k]; rw [upd_ne k] at e; exact o.pt.wd.1 p x e
  · rw [wGet_cons] at e
    by_cases k : p = a
    · subst k
      rw [if_pos rfl] at e
      cases e
      exact ⟨us, upd_same, r⟩
    · rw [if_neg k] at e
      obtain ⟨vs, g1, g2⟩ := o.pt.wd.2 p l e
      exact ⟨vs, by rw [upd_ne k]; exact g1, g2⟩
  · by_cases k : p = a
    · subst k; exact h0
    · rw [upd_ne k] at e; exact o.nx.mn p x e e'
  · obtain ⟨y, e1⟩ := o.nx.m0 p x e
    by_cases k : p = a
    · subst k; exact ⟨_, upd_same⟩
    · exact ⟨y, by rw [upd_ne k]; exact e1⟩
/-! rules -/
def onRef (d : D) (f : Addr → Prop) : Prop := match d with | .ref a => f a | _ => False
theorem onRef.of {d : D} {f : Addr → Prop} (h : onRef d f) : ∃ a, d = .ref a ∧ f a := by
  unfold onRef at h
  split at h
  · exact ⟨_, rfl, h⟩
  · exact h.elim
theorem onRef.imp {d : D} {f g : Addr → Prop} (k : ∀ a, f a → g a) (h : onRef d f) : onRef d g := by obtain ⟨a, rfl, q⟩ := h.of; exact k a q
def zIxW (ta tb : TEZ Mst) : TEZ Mst := fun δ w Q E => ta δ w (fun x w1 => tb δ w1 (fun y w2 => onRef x fun a => intD y fun k => ∃ l v, wGet w2 a = some l ∧ atI l k = some v ∧ Q v w2) E) E
def zLenW (ta : TEZ Mst) : TEZ Mst := fun δ w Q E => ta δ w (fun x w1 => onRef x fun a => ∃ l, wGet w1 a = some l ∧ Q (.int l.length) w1) E
def zSetW (to tk te : TEZ Mst) : TSZ Mst := fun DE δ w => te δ w (fun d w1 => to δ w1 (fun x w2 => tk δ w2 (fun y w3 => onRef x fun a => intD y fun k => ∃ l j, wGet w3 a = some l ∧ ixN l.length k = some j ∧ DE.nx δ (wSet w3 a (l.set j d))) (fun e w' => DE.ex e δ w')) (fun e w' => DE.ex e δ w')) (fun e w' => DE.ex e δ w')
def zRetW (ta : TAZ Mst) : TSZ Mst := fun DE δ w => ta δ w (fun l w1 => l.length ≤ 100000 ∧ ∀ p, wGet w1 p = none → DE.rt (.ref p) ((p, l) :: w1)) (fun e w' => DE.ex e δ w')
def zToW (i : Nat) (t : TSZ Mst) : TSZ Mst := fun DE δ w => onOwn δ i fun l => ∀ c, wGet w c = none → t DE (δ.set i (.val (.ref c))) ((c, l) :: w)
section
variable {X : Cx} {ec : Nat → Addr} {pos pos' p : Pos} {a b e : Expr} {ta tb te to tk : TEZ Mst}
theorem z_ixW (ha : PEZ X (WL X.K ec) a ta) (hb : PEZ X (WL X.K ec) b tb) (hs : PlainIx b := by exact fun _ _ => rfl) : PEZ X (WL X.K ec) (.Subscript a b pos) (zIxW ta tb) :=
  ⟨fun k h => ha.mo (fun _ _ h1 => hb.mo (fun _ _ h2 => h2.imp fun a h3 => h3.imp fun n ⟨l, v, g1, g2, g3⟩ => ⟨l, v, g1, g2, k _ _ g3⟩) h1) h, fun Z ex tk => peI (pe_ix ix_list (ha.run Z ex tk) (hb.run Z ex tk) hs) fun σ H Q ⟨G, M, δ, w, s, h⟩ =>
    ⟨G, M, δ, w, s, ha.mo (fun d w1 h1 v H1 G1 M1 o1 r1 => ⟨G1, M1, δ, w1, s.go o1, hb.mo (fun d2 w2 h2 v2 H2 G2 M2 o2 r2 => by
      obtain ⟨q, rfl, h3⟩ := h2.of
      obtain ⟨k, rfl, l, d, g1, g2, g3⟩ := h3.of
      cases r1
      cases r2
      obtain ⟨vs, m1, m2⟩ := o2.pt.wd.2 q l g1
      obtain ⟨u, u1, u2⟩ := m2.at g2
      exact ⟨q, vs, k, u, rfl, rfl, .inl (.inl (o2.pt.mh _ _ m1)), u1, g3 u H2 G2 M2 (o1.tr o2) u2⟩) h1⟩) h⟩⟩
theorem z_lenW (hm : X.mg "len" = none) (ha : PEZ X (WL X.K ec) a ta) (hg : Gl X "len" := by rfl) (he : starEach [a] X.env = (false, eval a X.env) :: starEach [] X.env := by rfl) (hpl : (backTo pos (starEach [] X.env)).any (·.1) = false := by rfl) : PEZ X (WL X.K ec) (.Call (.Name "len" p) [a] [] pos) (zLenW ta) :=
  ⟨fun k h => ha.mo (fun _ _ h1 => h1.imp fun q ⟨l, g1, g2⟩ => ⟨l, g1, k _ _ g2⟩) h, fun Z ex tk => peI (pe_callB call_len_seq hg hm PySem.boot_len (pa_cons (ha.run Z ex tk) pa_nil he) (by decide) (by decide) he hpl) fun σ H Q ⟨G, M, δ, w, s, h⟩ =>
    ⟨G, M, δ, w, s, ha.mo (fun d w1 h1 v H1 G1 M1 o1 r1 => by
      obtain ⟨q, rfl, l, g1, g2⟩ := h1.of
      cases r1
      obtain ⟨vs, m1, m2⟩ := o1.pt.wd.2 q l g1
      refine ⟨q, vs, rfl, .inl (.inl (.inl (o1.pt.mh _ _ m1))), ?_⟩
      rw [m2.len]
      exact g2 _ H1 G1 M1 o1 (.int _)) h⟩⟩
theorem z_setW (ho : PEZ X (WL X.K ec) a to) (hk : PEZ X (WL X.K ec) b tk) (he : PEZ X (WL X.K ec) e te) (hs : swapsWithSole [.Subscript a b pos'] e pos.line X.env = pure false := by rfl) (hw : swappedStores [.Subscript a b pos'] e X.env = pure none := by rfl)
    (h1 : (assignEach [.Subscript a b pos'] X.env).map (·.2) = [assign (.Subscript a b pos') X.env] := by rfl)
    (ha : ∀ v, assign (.Subscript a b pos') X.env v = (do
      let ov ← holding [v] (eval a X.env)
      let iv ← holding [v, ov] (eval b X.env)
      standAt pos'
      holding [v, ov, iv] (setItem ov iv v)
      release [v, ov, iv] []) := by intro _; rfl) : PSZ X (WL X.K ec) (.Assign [.Subscript a b pos'] e pos) (zSetW to tk te) := fun Z ex tk' =>
  psI (ps_asg (he.run Z ex tk') (pg_sub (ho.run Z ex tk') (hk.run Z ex tk') set_list ha) hs hw h1) fun DE σ H ⟨Dz, hex, EI, G, M, δ, w, s, h⟩ => by
  subst hex
  refine ⟨G, M, δ, w, s, he.mo (fun d w1 q1 v H1 G1 M1 o1 r1 => ⟨G1, M1, δ, w1, s.go o1, ho.mo (fun x w2 q2 v2 H2 G2 M2 o2 r2 => ⟨G2, M2, δ, w2, s.go (o1.tr o2), hk.mo (fun y w3 q3 v3 H3 G3 M3 o3 r3 => ?_) q2⟩) q1⟩) h⟩
  obtain ⟨q, rfl, h3⟩ := q3.of
  obtain ⟨k, rfl, l, j, g1, g2, g3⟩ := h3.of
  cases r2
  cases r3
  obtain ⟨vs, m1, m2⟩ := o3.pt.wd.2 q l g1
  have s3 := s.go ((o1.tr o2).tr o3)
  exact ⟨q, vs, k, j, rfl, rfl, o3.pt.mh _ _ m1, by rw [m2.len]; exact g2, EI.nx _ _ ⟨G3, _, δ, _, chgW s3 g1 (RepL.set (r1.up ((o2.tr o3).nx.gg)) j m2), g3⟩⟩
theorem z_retW {es : List Expr} {t : TAZ Mst} (h : PAZ X (WL X.K ec) es t) : PSZ X (WL X.K ec) (.Return (some (.List es pos')) pos) (zRetW t) := fun Z ex tk => psI (ps_ret (pe_lst (h.run Z ex tk))) fun DE σ H ⟨Dz, hex, EI, G, M, δ, w, s, q⟩ => by
  subst hex
  refine ⟨G, M, δ, w, s, h.mo (fun l w1 ⟨q0, q1⟩ vs H1 G1 M1 o1 r1 => ⟨sz1 (by rw [r1.len]; exact q0), fun p hp => ?_⟩) q⟩
  have n := NewAt.of (vs := vs) o1 s.pt.mh hp
  obtain ⟨o2, hw⟩ := newW (m := l) (o1.laid hp) n.1 n.2.1 n.2.2.1 n.2.2.2 r1
  exact EI.rt (.ref p) _ G1 _ (.ref p) _ o2.pt (s.go o2).nx (.ref p) (q1 p hw)
theorem zb_toW (i : Nat) {sts : List Stmt} {t : TSZ Mst} (h : PBZ X (WL X.K ec) sts t) : PBZ X (WL X.K ec) sts (zToW i t) := fun Z ex tk => pbI (h Z ex tk) fun DE σ H ⟨Dz, hex, EI, G, M, δ, w, s, q⟩ => by
  obtain ⟨l, hl, q⟩ := q.of
  obtain ⟨p, vs, h1, h2, h3, h4, h5, h7⟩ := s.sl i _ hl
  have hi : i < δ.length := (List.getElem?_eq_some_iff.mp hl).1
  have hw := s.pt.wd.none h4
  have own : ∀ {n : Nat} {m' : List D}, (δ.set i (.val (.ref p)))[n]? = some (.own m') → δ[n]? = some (.own m') ∧ i ≠ n := fun {n m'} e => by
    by_cases z : i = n
    · subst z; rw [List.getElem?_set_self hi] at e; cases e
    · rw [List.getElem?_set_ne z] at e; exact ⟨e, z⟩
  refine ⟨Dz, hex, EI, G, upd M p (.lst vs), _, _, ⟨⟨s.pt.gh, fun q x e => ?_, fun q x e => ?_, ⟨fun q x e => ?_, fun q l' e => ?_⟩⟩, ⟨s.nx.gg, s.nx.fr, s.nx.gn, fun q x e e' => ?_, fun q x e => ?_⟩, s.st, by rw [List.length_set]; exact s.len, fun j sl e => ?_, fun j k q m1 m2 e1 e2 e3 e4 => s.od j k q m1 m2 (own e1).1 (own e2).1 e3 e4⟩, q p hw⟩
  · by_cases k : q = p
    · subst k; rw [upd_same] at e; rw [h2]; exact e
    · rw [upd_ne k] at e; exact s.pt.mh q x e
  · rw [upd_ne (ne_of_none e h3)]; exact s.pt.dj q x e
  · rw [wGet_cons]
    by_cases k : q = p
    · rw [if_pos k]; exact ⟨_, rfl⟩
    · rw [if_neg k]; rw [upd_ne k] at e; exact s.pt.wd.1 q x e
  · rw [wGet_cons] at e
    by_cases k : q = p
    · subst k
      rw [if_pos rfl] at e
      cases e
      exact ⟨vs, upd_same, h7⟩
    · rw [if_neg k] at e
      obtain ⟨us, g1, g2⟩ := s.pt.wd.2 q l' e
      exact ⟨us, by rw [upd_ne k]; exact g1, g2⟩
  · by_cases k : q = p
    · subst k; exact h5
    · rw [upd_ne k] at e; exact s.nx.mn q x e e'
  · obtain ⟨y, e1⟩ := s.nx.m0 q x e
    by_cases k : q = p
    · subst k; exact ⟨_, upd_same⟩
    · exact ⟨y, by rw [upd_ne k]; exact e1⟩
  · by_cases z : i = j
    · subst z
      rw [List.getElem?_set_self hi] at e
      cases e
      exact ⟨.ref p, h1, .ref p⟩
    · have e' : δ[j]? = some sl := by rw [List.getElem?_set_ne z] at e; exact e
      have g := s.sl j sl e'
      cases sl with
      | no => trivial
      | val d => exact g
      | own l' =>
        obtain ⟨p', us, g1, g2, g3, g4, g5, g6⟩ := g
        refine ⟨p', us, g1, g2, g3, ?_, g5, g6⟩
        rw [upd_ne (fun y => z (s.od i j p l l' hl e' h1 (by rw [← y]; exact g1)))]
        exact g4
end
end Z

namespace Z
open PySem PySem.Spec PyProof.Rows L2
theorem Sm.num (i : Int) : Sm (i.natAbs.log2 + 1) i := by
  unfold Sm
  by_cases h : i.natAbs = 0
  · rw [h]; decide
  · exact Nat.lt_log2_self
theorem DivOk.of {n : Nat} {j : Int} (h : 0 < j) (s : Sm n j) (l : n ≤ 8000) : DivOk j := ⟨h, s.le l⟩
theorem Sm.ofNat {n : Nat} {k : Nat} (h : k < 2 ^ n) : Sm n (k : Int) := by unfold Sm; omega
theorem Sm.lt10 {r : Int} {k : Nat} (h0 : 0 ≤ r) (h1 : r < 10 ^ k) : Sm (4 * k) r := by
  unfold Sm
  have e : (10 : Int) ^ k = ((10 ^ k : Nat) : Int) := by simp
  rw [e] at h1
  have h2 : r.natAbs < 10 ^ k := by omega
  refine Nat.lt_of_lt_of_le h2 ?_
  rw [Nat.pow_mul]
  exact Nat.pow_le_pow_left (by decide) k
theorem Sm.lt10s {r : Int} {k : Nat} (h0 : -(10 ^ k) ≤ r) (h1 : r ≤ 10 ^ k) : Sm (4 * k + 1) r := by
  unfold Sm
  have e : (10 : Int) ^ k = ((10 ^ k : Nat) : Int) := by simp
  rw [e] at h0 h1
  have h2 : r.natAbs ≤ 10 ^ k := by omega
  refine Nat.lt_of_le_of_lt h2 ?_
  rw [Nat.pow_succ, Nat.pow_mul]
  have := Nat.pow_le_pow_left (show 10 ≤ 2 ^ 4 by decide) k
  have := Nat.pos_of_ne_zero (show (2 ^ 4) ^ k ≠ 0 by simp)
  omega
theorem atI_at {l : List D} {k : Int} (h0 : 0 ≤ k) (h1 : k < l.length) : ∃ d, atI l k = some d ∧ l[k.toNat]? = some d := by
  have h2 : k.toNat < l.length := by omega
  refine ⟨l[k.toNat], ?_, List.getElem?_eq_getElem h2⟩
  unfold atI ixN
  rw [if_pos h0, if_pos h1]
  exact List.getElem?_eq_getElem h2
theorem atI_int {ns : List Int} {k : Int} (h0 : 0 ≤ k) (h1 : k < ns.length) : ∃ z, atI (ns.map D.int) k = some (.int z) ∧ ns[k.toNat]? = some z := by
  obtain ⟨d, e1, e2⟩ := atI_at (l := ns.map D.int) h0 (by rw [List.length_map]; exact h1)
  rw [List.getElem?_map] at e2
  cases q : ns[k.toNat]? with
  | none => rw [q] at e2; cases e2
  | some z => rw [q] at e2; cases e2; exact ⟨z, e1, rfl⟩
theorem ixN_in {n : Nat} {k : Int} (h0 : 0 ≤ k) (h1 : k < n) : ixN n k = some k.toNat := by
  unfold ixN
  rw [if_pos h0, if_pos h1]
theorem deq_int (i j : Int) : deq (.int i) (.int j) = (i == j) := by unfold deq; simp only [py, PyData.eqv]
theorem deq_bl (i j : Bool) : deq (.bl i) (.bl j) = (i == j) := by unfold deq; simp only [py, PyData.eqv]
theorem deq_tup (l m : List D) : deq (.tup l) (.tup m) = deqs l m := by unfold deq deqs; simp only [py, PyData.eqv]
theorem deq_lst (l m : List D) : deq (.lst l) (.lst m) = deqs l m := by unfold deq deqs; simp only [py, PyData.eqv]
theorem deq_non : deq .non .non = true := by unfold deq; simp only [py, PyData.eqv]
theorem deq_non_int (i : Int) : deq .non (.int i) = false := by unfold deq; simp only [py, PyData.eqv]
theorem deq_int_non (i : Int) : deq (.int i) .non = false := by unfold deq; simp only [py, PyData.eqv]
theorem deq_non_tup (i : List D) : deq .non (.tup i) = false := by unfold deq; simp only [py, PyData.eqv]
theorem deq_tup_non (i : List D) : deq (.tup i) .non = false := by unfold deq; simp only [py, PyData.eqv]
theorem deqs_nil : deqs [] [] = true := by unfold deqs; simp only [pys, PyData.eqvAll]
theorem deqs_cons (a b : D) (l m : List D) : deqs (a :: l) (b :: m) = (deq a b && deqs l m) := by unfold deqs deq; simp only [pys, PyData.eqvAll]
theorem deqs_nil_cons (b : D) (m : List D) : deqs [] (b :: m) = false := by unfold deqs; simp only [pys, PyData.eqvAll]
theorem deqs_cons_nil (b : D) (m : List D) : deqs (b :: m) [] = false := by unfold deqs; simp only [pys, PyData.eqvAll]
theorem deqI {i j : Int} (h : deq (.int i) (.int j) = true) : i = j := by rw [deq_int] at h; exact beq_iff_eq.mp h
theorem deqI' {i j : Int} (h : deq (.int i) (.int j) = false) : i ≠ j := by rw [deq_int] at h; exact beq_eq_false_iff_ne.mp h
/-- the conditions of == on two whole numbers -/
theorem eqI {i j : Int} : okD (.int i) = true ∧ okD (.int j) = true ∧ dpD (.int i) ≤ 64 ∧ dpD (.int j) ≤ 64 := ⟨rfl, rfl, Nat.zero_le _, Nat.zero_le _⟩
end Z

namespace Z
open PySem PySem.Spec PyProof.Rows L2
/-- the texts of nines and of one with noughts behind, to sixty-four signs -/
theorem p10_le {a b : Nat} (h : a ≤ b) : (10 : Int) ^ a ≤ 10 ^ b := by
  have := Nat.pow_le_pow_right (show 0 < 10 by decide) h
  have e : ∀ n : Nat, (10 : Int) ^ n = ((10 ^ n : Nat) : Int) := fun n => by simp
  rw [e, e]; omega
theorem p10_pos (a : Nat) : (0 : Int) < 10 ^ a := by
  have := Nat.pow_pos (n := a) (show 0 < 10 by decide)
  have e : ∀ n : Nat, (10 : Int) ^ n = ((10 ^ n : Nat) : Int) := fun n => by simp
  rw [e]; omega
theorem impR {a b c : Prop} (h : b → c) : (a → b) → a → c := fun f x => h (f x)
theorem allR {α : Sort _} {p q : α → Prop} (h : ∀ x, p x → q x) : (∀ x, p x) → ∀ x, q x := fun f x => h x (f x)
theorem nb1 {b : Bool} (h : (!b) = true) : b = false := by cases b; rfl; cases h
theorem nb2 {b : Bool} (h : (!b) = false) : b = true := by cases b; cases h; rfl
/-! the entry's slots, one after the other -/
theorem stZ_len {a : Str} {N : List Str} {d : D} {ds : List D} : stZ (a :: N).length (d :: ds) = .val d :: stZ N.length ds := by
  unfold stZ
  rw [List.length_cons, List.length_cons, Nat.add_sub_add_right]; rfl
theorem stZ_len0 {a : Str} {N : List Str} : stZ (a :: N).length [] = .no :: stZ N.length [] := rfl
theorem stZ_nil : stZ ([] : List Str).length [] = [] := rfl
theorem setAll_cons {δ : List Sl} {i : Nat} {is : List Nat} {d : D} {ds : List D} : setAll δ (i :: is) (d :: ds) = setAll (δ.set i (.val d)) is ds := rfl
theorem setAll_nil {δ : List Sl} {ds : List D} : setAll δ [] ds = δ := rfl
/-! menus -/
theorem at_mem {l : List D} {k : Int} (h0 : 0 ≤ k) (h1 : k < l.length) : ∃ d, atI l k = some d ∧ d ∈ l := by
  obtain ⟨d, h2, h3⟩ := atI_at h0 h1
  exact ⟨d, h2, List.mem_of_getElem? h3⟩
theorem sgn_at (r : Int) : ∃ s, atI [D.int 1, D.int (-1)] (r % 2) = some (.int s) ∧ (s = 1 ∨ s = -1) ∧ Sm 1 s := by
  have : r % 2 = 0 ∨ r % 2 = 1 := by omega
  rcases this with e | e
  · rw [e]; exact ⟨1, rfl, .inl rfl, by unfold Sm; decide⟩
  · rw [e]; exact ⟨-1, rfl, .inr rfl, by unfold Sm; decide⟩
theorem Sm.sgn {n : Nat} {a s : Int} (h : Sm n a) (hs : s = 1 ∨ s = -1) : Sm n (a * s) := by
  rcases hs with rfl | rfl
  · rw [Int.mul_one]; exact h
  · unfold Sm at *; omega
end Z

namespace Z
open PySem PySem.Spec PyProof.Rows L2
variable {ω : Type}
theorem z_globE {X : Cx} {W : Wp ω} {pos : Pos} {x y : Str} (hm : ∃ t, X.mg x = some (.str y t)) (hg : Gl X x := by rfl) (hd : (x == ("__debug__" : Str)) = false := by decide) : PEZ X W (.Name x pos) (zK (.str y)) :=
  have ⟨_, h⟩ := hm
  z_globS h hg hd
/-! ### loops over a short list, turn by turn -/
def zUnC (gz : TGZ) (tt : TTZ ω) (te : TEZ ω) (vs : List Nat) (δ : List Sl) : List D → ω → (List D → ω → Prop) → Prop
  | [], w, Q => Q [] w
  | d :: l, w, Q => gz d (wipeZ δ vs) fun δ2 => tt δ2 w (fun b w2 => (b = true → te δ2 w2 (fun y w3 => zUnC gz tt te vs δ l w3 fun acc w4 => Q (y :: acc) w4) NoE) ∧ (b = false → zUnC gz tt te vs δ l w2 Q)) NoE
theorem un_comp {l : List D} {gz : TGZ} {tt : TTZ ω} {te : TEZ ω} {vs : List Nat} {δ : List Sl} {w : ω} {Q : List D → ω → Prop} (h : zUnC gz tt te vs δ l w Q) :
    ∃ I : Nat → List D → ω → Prop, I 0 [] w ∧ (∀ i d acc w', l[i]? = some d → I i acc w' → gz d (wipeZ δ vs) fun δ2 => tt δ2 w' (fun b w2 => (b = true → te δ2 w2 (fun y w3 => I (i + 1) (acc ++ [y]) w3) NoE) ∧ (b = false → I (i + 1) acc w2)) NoE) ∧
      ∀ acc w', I l.length acc w' → Q acc w' := by
  refine ⟨fun i acc w' => zUnC gz tt te vs δ (l.drop i) w' fun a w2 => Q (acc ++ a) w2, h, fun i d acc w' hd q => ?_, fun acc w' q => ?_⟩
  · have hl := (List.getElem?_eq_some_iff.mp hd)
    obtain ⟨h1, h2⟩ := hl
    dsimp only at q ⊢
    rw [List.drop_eq_getElem_cons h1, h2] at q
    simp only [List.append_assoc, List.singleton_append]
    exact q
  · dsimp only at q
    rw [List.drop_length] at q
    have q : Q (acc ++ []) w' := q
    rwa [List.append_nil] at q
def zUnS (gz : TGZ) (t : TSZ ω) (DE : EndZ ω) : List D → List Sl → ω → Prop
  | [], δ, w => DE.nx δ w
  | d :: l, δ, w => gz d δ fun δ2 => t { DE with nx := zUnS gz t DE l, ct := zUnS gz t DE l, bk := DE.nx } δ2 w
theorem un_loop {l : List D} {gz : TGZ} {t : TSZ ω} {DE : EndZ ω} {δ : List Sl} {w : ω} (h : zUnS gz t DE l δ w) : zLoop l gz t DE δ w := by
  refine ⟨fun i => zUnS gz t DE (l.drop i), h, fun i d δ' w' hd q => ?_, fun δ' w' q => ?_⟩
  · obtain ⟨h1, h2⟩ := List.getElem?_eq_some_iff.mp hd
    dsimp only at q
    rw [List.drop_eq_getElem_cons h1, h2] at q
    exact q
  · dsimp only at q
    rw [List.drop_length] at q
    exact q
/-! ### x in a list of flat data -/
def okF : D → Bool
  | .non => true
  | .bl _ => true
  | .int _ => true
  | .str _ => true
  | _ => false
def okFs : List D → Bool
  | [] => true
  | d :: l => okF d && okFs l
def eqF : D → D → Bool
  | .non, .non => true
  | .bl a, .bl b => a == b
  | .bl a, .int b => (if a then 1 else 0) == b
  | .int a, .bl b => a == (if b then 1 else 0)
  | .int a, .int b => a == b
  | .str a, .str b => a == b
  | _, _ => false
def memF (x : D) : List D → Bool
  | [] => false
  | y :: l => eqF y x || memF x l
theorem eqF_int (i j : Int) : eqF (.int i) (.int j) = (i == j) := rfl
theorem memF_nil (x : D) : memF x [] = false := rfl
theorem memF_cons (x y : D) (l : List D) : memF x (y :: l) = (eqF y x || memF x l) := rfl
section
variable {K : PySem.W.Frag} {G : Hp}
theorem okF_flat {v : V} {d : D} (r : Rep K G v d) (h : okF d = true) : flatV v = true := by
  cases r <;> first | rfl | cases h
theorem okFs_flat : ∀ {vs : List V} {l : List D}, RepL K G vs l → okFs l = true → vs.all flatV = true
  | _, _, .nil, _ => rfl
  | _, _, .cons r t, h => by
    unfold okFs at h
    rw [Bool.and_eq_true] at h
    rw [List.all_cons, okF_flat r h.1, okFs_flat t h.2]; rfl
theorem eqF_eqV {v u : V} {d e : D} (r : Rep K G v d) (s : Rep K G u e) (h : okF d = true) (g : okF e = true) : eqV v u = eqF d e := by
  cases r <;> first | (cases h; done) | (cases s <;> first | (cases g; done) | rfl)
theorem memF_inV {v : V} {d : D} (r : Rep K G v d) (h : okF d = true) : ∀ {vs : List V} {l : List D}, RepL K G vs l → okFs l = true → inV v vs = memF d l
  | _, _, .nil, _ => rfl
  | _, _, .cons s t, g => by
    unfold okFs at g
    rw [Bool.and_eq_true] at g
    have ih := memF_inV r h t g.2
    unfold inV at ih ⊢
    rw [List.any_cons, eqF_eqV s r g.1 h, ih]; rfl
end
def inD (neg : Bool) : OpD := fun x y q => match y with
  | .lst l => okF x = true ∧ okFs l = true ∧ q (.bl (if neg then !memF x l else memF x l))
  | .arr l => okF x = true ∧ okFs l = true ∧ q (.bl (if neg then !memF x l else memF x l))
  | .tup l => okF x = true ∧ okFs l = true ∧ q (.bl (if neg then !memF x l else memF x l))
  | _ => False
theorem l_inA {K : PySem.W.Frag} (neg : Bool) : Lnd K (rIn K neg) (inD neg) where
  mo := fun {x y q q'} k h => by
    unfold inD at h ⊢
    split at h
    · exact ⟨h.1, h.2.1, k _ h.2.2⟩
    · exact ⟨h.1, h.2.1, k _ h.2.2⟩
    · exact ⟨h.1, h.2.1, k _ h.2.2⟩
    · exact h.elim
  go := fun H G x y dx dy q Q e rx ry h k _ => by
    unfold inD at h
    split at h
    · obtain ⟨h1, h2, h3⟩ := h
      cases ry with
      | @lst p vs _ s r =>
        refine ⟨p, vs, rfl, .inl (.inl (.inl (e _ _ s))), okF_flat rx h1, okFs_flat r h2, ?_⟩
        rw [memF_inV rx h1 r h2]
        exact k _ _ h3 (.bl _)
    · obtain ⟨h1, h2, h3⟩ := h
      cases ry with
      | @arr p vs _ s r =>
        refine ⟨p, vs, rfl, .inl (sqLE e s), okF_flat rx h1, okFs_flat r h2, ?_⟩
        rw [memF_inV rx h1 r h2]
        exact k _ _ h3 (.bl _)
    · obtain ⟨h1, h2, h3⟩ := h
      cases ry with
      | @tup p vs _ s r =>
        refine ⟨p, vs, rfl, .inr (sqTE e s), okF_flat rx h1, okFs_flat r h2, ?_⟩
        rw [memF_inV rx h1 r h2]
        exact k _ _ h3 (.bl _)
    · exact h.elim
def inY : OpD := fun x y q => match y with
  | .lst l => okF x = true ∧ okFs l = true ∧ q (.bl (memF x l))
  | .arr l => okF x = true ∧ okFs l = true ∧ q (.bl (memF x l))
  | .tup l => okF x = true ∧ okFs l = true ∧ q (.bl (memF x l))
  | _ => False
def inN : OpD := fun x y q => match y with
  | .lst l => okF x = true ∧ okFs l = true ∧ q (.bl (!memF x l))
  | .arr l => okF x = true ∧ okFs l = true ∧ q (.bl (!memF x l))
  | .tup l => okF x = true ∧ okFs l = true ∧ q (.bl (!memF x l))
  | _ => False
theorem l_in {K : PySem.W.Frag} : Lnd K (rIn K false) inY := l_inA false
theorem l_notIn {K : PySem.W.Frag} : Lnd K (rIn K true) inN := l_inA true
theorem bl_eq4 {Q : D → ω → Prop} {w : ω} {a b c d e f g i : Int} (h : Q (.bl true) w) (e1 : a = e) (e2 : b = f) (e3 : c = g) (e4 : d = i) : Q (.bl (deq (.lst [.int a, .int b, .int c, .int d]) (.lst [.int e, .int f, .int g, .int i]))) w := by
  rw [deq_lst, deqs_cons, deqs_cons, deqs_cons, deqs_cons, deqs_nil, deq_int, deq_int, deq_int, deq_int, beq_iff_eq.mpr e1, beq_iff_eq.mpr e2, beq_iff_eq.mpr e3, beq_iff_eq.mpr e4]
  exact h
theorem w_set {w : Mst} {d : Addr} {l m : List D} (h : wGet w d = some l) : wGet (wSet w d m) d = some m := by rw [wGet_set, if_pos rfl, h]; rfl
theorem near7 {m r : Int} (hm : 1 ≤ m) (h0 : 0 ≤ r) (h1 : r < 7) : ∃ x, atI [D.int 0, D.int 1, D.int (m - 1), D.int m, D.int (m / 2 + 1), D.int (-1), D.int (0 - m)] r = some (.int x) ∧ -m ≤ x ∧ x ≤ m := by
  have : r = 0 ∨ r = 1 ∨ r = 2 ∨ r = 3 ∨ r = 4 ∨ r = 5 ∨ r = 6 := by omega
  rcases this with rfl | rfl | rfl | rfl | rfl | rfl | rfl
  · exact ⟨0, rfl, by omega, by omega⟩
  · exact ⟨1, rfl, by omega, by omega⟩
  · exact ⟨m - 1, rfl, by omega, by omega⟩
  · exact ⟨m, rfl, by omega, by omega⟩
  · exact ⟨m / 2 + 1, rfl, by omega, by omega⟩
  · exact ⟨-1, rfl, by omega, by omega⟩
  · exact ⟨0 - m, rfl, by omega, by omega⟩
/-! a place at which the walk stops and asks -/
@[irreducible] def Stp (p : Prop) : Prop := p
theorem Stp.mk {p : Prop} (h : p) : Stp p := by unfold Stp; exact h
theorem Stp.out {p : Prop} (h : Stp p) : p := by unfold Stp at h; exact h
theorem Stp.imp {p q : Prop} (f : p → q) (h : Stp p) : Stp q := .mk (f h.out)
theorem bl_dec {Q : D → ω → Prop} {w : ω} {p : Prop} [Decidable p] (h : Q (.bl true) w) (hp : p) : Q (.bl (decide p)) w := by
  rw [decide_eq_true hp]; exact h
theorem bl_eqp {Q : D → ω → Prop} {w : ω} {a b c d : Int} (h : Q (.bl true) w) (e1 : a = c) (e2 : b = d) : Q (.bl (deq (.tup [.int a, .int b]) (.tup [.int c, .int d]))) w := by
  rw [deq_tup, deqs_cons, deqs_cons, deqs_nil, deq_int, deq_int, beq_iff_eq.mpr e1, beq_iff_eq.mpr e2]
  exact h
theorem bl_decF {Q : D → ω → Prop} {w : ω} {p : Prop} [Decidable p] (h : Q (.bl false) w) (hp : ¬ p) : Q (.bl (decide p)) w := by
  rw [decide_eq_false hp]; exact h
theorem bl_nil {Q : D → ω → Prop} {w : ω} (h : Q (.bl true) w) : Q (.bl (deq (.lst []) (.lst []))) w := by
  rw [deq_lst, deqs_nil]; exact h
end Z

namespace Z
open PySem
/-! ### plain sums -/
def sumZ (f : Nat → Int) : Nat → Int
  | 0 => 0
  | n + 1 => sumZ f n + f n
theorem sumZ_congr {f g : Nat → Int} : ∀ n, (∀ i, i < n → f i = g i) → sumZ f n = sumZ g n
  | 0, _ => rfl
  | n + 1, h => by
    show sumZ f n + f n = sumZ g n + g n
    rw [sumZ_congr n fun i hi => h i (by omega), h n (by omega)]
theorem sumZ_add (f g : Nat → Int) : ∀ n, sumZ (fun i => f i + g i) n = sumZ f n + sumZ g n
  | 0 => rfl
  | n + 1 => by
    show sumZ (fun i => f i + g i) n + (f n + g n) = sumZ f n + f n + (sumZ g n + g n)
    rw [sumZ_add f g n]; omega
theorem sumZ_sub (f g : Nat → Int) : ∀ n, sumZ (fun i => f i - g i) n = sumZ f n - sumZ g n
  | 0 => rfl
  | n + 1 => by
    show sumZ (fun i => f i - g i) n + (f n - g n) = sumZ f n + f n - (sumZ g n + g n)
    rw [sumZ_sub f g n]; omega
theorem sumZ_mul (c : Int) (f : Nat → Int) : ∀ n, sumZ (fun i => c * f i) n = c * sumZ f n
  | 0 => by show (0 : Int) = c * 0; omega
  | n + 1 => by
    show sumZ (fun i => c * f i) n + c * f n = c * (sumZ f n + f n)
    rw [sumZ_mul c f n, Int.mul_add]
theorem sumZ_const (c : Int) : ∀ n, sumZ (fun _ => c) n = c * (n : Int)
  | 0 => by show (0 : Int) = c * 0; omega
  | n + 1 => by
    show sumZ (fun _ => c) n + c = c * ((n + 1 : Nat) : Int)
    rw [sumZ_const c n, Int.natCast_add, Int.mul_add]; omega
theorem sumZ_split (f : Nat → Int) (n : Nat) : ∀ k, sumZ f (n + k) = sumZ f n + sumZ (fun i => f (n + i)) k
  | 0 => by show sumZ f n = sumZ f n + 0; omega
  | k + 1 => by
    show sumZ f (n + k) + f (n + k) = sumZ f n + (sumZ (fun i => f (n + i)) k + f (n + k))
    rw [sumZ_split f n k]; omega
theorem sumZ_first (f : Nat → Int) (n : Nat) : sumZ f (n + 1) = f 0 + sumZ (fun i => f (i + 1)) n := by
  have h := sumZ_split f 1 n
  rw [Nat.add_comm 1 n] at h
  rw [h, sumZ_congr (f := fun i => f (1 + i)) (g := fun i => f (i + 1)) n fun i _ => by rw [Nat.add_comm]]
  show 0 + f 0 + _ = _
  omega
theorem sumZ_rev (f : Nat → Int) : ∀ n, sumZ (fun i => f (n - 1 - i)) n = sumZ f n
  | 0 => rfl
  | n + 1 => by
    rw [sumZ_first]
    show f (n + 1 - 1 - 0) + _ = sumZ f n + f n
    rw [← sumZ_rev f n, sumZ_congr (f := fun i => f (n + 1 - 1 - (i + 1))) (g := fun i => f (n - 1 - i)) n fun i _ => by rw [show n + 1 - 1 - (i + 1) = n - 1 - i by omega], show n + 1 - 1 - 0 = n by omega]
    omega
/-- the sum of the places -/
def tri (n : Int) : Int := n * (n - 1) / 2
theorem tri_two (n : Int) : 2 * tri n = n * (n - 1) := by
  unfold tri
  have h : n * (n - 1) % 2 = 0 := by
    have e : n % 2 = 0 ∨ n % 2 = 1 := by omega
    rcases e with e | e
    · rw [Int.mul_emod, e]; simp
    · have : (n - 1) % 2 = 0 := by omega
      rw [Int.mul_emod, this]; simp
  omega
theorem sumZ_id : ∀ n : Nat, sumZ (fun i => (i : Int)) n = tri n
  | 0 => rfl
  | n + 1 => by
    show sumZ (fun i => (i : Int)) n + (n : Int) = tri ((n + 1 : Nat) : Int)
    rw [sumZ_id n]
    have h1 := tri_two (n : Int)
    have h2 := tri_two ((n + 1 : Nat) : Int)
    have e : ((n + 1 : Nat) : Int) * (((n + 1 : Nat) : Int) - 1) = (n : Int) * ((n : Int) - 1) + 2 * (n : Int) := by
      rw [Int.natCast_add]; simp only [Int.natCast_one]
      rw [show (n : Int) + 1 - 1 = (n : Int) by omega, Int.add_mul, Int.mul_sub]; omega
    omega
/-- parts and rests at the first n places -/
def FS (a b m : Int) (n : Nat) : Int := sumZ (fun i => (a * (i : Int) + b) / m) n
def RS (a b m : Int) (n : Nat) : Int := sumZ (fun i => (a * (i : Int) + b) % m) n
theorem sum_line (a b : Int) (n : Nat) : sumZ (fun i => a * (i : Int) + b) n = a * tri n + b * n := by
  rw [sumZ_add (fun i => a * (i : Int)) (fun _ => b), sumZ_mul, sumZ_const, sumZ_id]
theorem FS_RS (a b m : Int) (n : Nat) : m * FS a b m n + RS a b m n = a * tri n + b * n := by
  unfold FS RS
  rw [← sum_line, ← sumZ_mul, ← sumZ_add]
  exact sumZ_congr n fun i _ => Int.mul_ediv_add_emod _ _
theorem FS_laid {m : Int} (hm : 0 < m) (a b : Int) (n : Nat) : FS a b m n = a / m * tri n + b / m * n + FS (a % m) (b % m) m n := by
  unfold FS
  rw [← sum_line, ← sumZ_add]
  refine sumZ_congr n fun i _ => ?_
  have ha := Int.mul_ediv_add_emod a m
  have hb := Int.mul_ediv_add_emod b m
  have e : a * (i : Int) + b = (a % m * (i : Int) + b % m) + m * (a / m * (i : Int) + b / m) := by
    conv => lhs; rw [← ha, ← hb]
    rw [Int.add_mul, Int.mul_add, Int.mul_assoc]
    omega
  rw [e, Int.add_mul_ediv_left _ _ (by omega : m ≠ 0)]
  omega
/-- a line and its turned one -/
theorem FS_turn {a b m : Int} (ha : 0 < a) (hm : a < m) (hb : 0 ≤ b) (hb2 : b < m) : ∀ n : Nat, FS a b m n = FS m ((a * n + b) % m) a ((a * n + b) / m).toNat
  | 0 => by
    have e : (a * ((0 : Nat) : Int) + b) / m = 0 := by simp; exact Int.ediv_eq_zero_of_lt hb hb2
    rw [e]; rfl
  | n + 1 => by
    have ih := FS_turn ha hm hb hb2 n
    have hN : 0 ≤ (a * (n : Int) + b) / m := Int.ediv_nonneg (Int.add_nonneg (Int.mul_nonneg (by omega) (by omega)) hb) (by omega)
    have e0 : FS a b m (n + 1) = FS a b m n + (a * (n : Int) + b) / m := rfl
    have r0 := Int.emod_nonneg (a * (n : Int) + b) (show m ≠ 0 by omega)
    have r1 := Int.emod_lt_of_pos (a * (n : Int) + b) (show 0 < m by omega)
    have hd := Int.mul_ediv_add_emod (a * (n : Int) + b) m
    have e1 : a * ((n + 1 : Nat) : Int) + b = (a * (n : Int) + b) + a := by rw [Int.natCast_add, Int.mul_add]; simp; omega
    rw [e0, ih, e1]
    generalize hq : (a * (n : Int) + b) / m = q at *
    generalize hr : (a * (n : Int) + b) % m = r at *
    generalize a * (n : Int) + b = t at *
    obtain ⟨k, rfl⟩ : ∃ k : Nat, q = k := ⟨q.toNat, by omega⟩
    by_cases c : r + a < m
    · have d1 : (t + a) / m = k := by rw [← hd, Int.add_assoc, Int.mul_add_ediv_left _ _ (by omega : m ≠ 0), Int.ediv_eq_zero_of_lt (by omega) c]; omega
      have d2 : (t + a) % m = r + a := by rw [← hd, Int.add_assoc, Int.mul_add_emod_self_left]; exact Int.emod_eq_of_lt (by omega) c
      rw [d1, d2, Int.toNat_natCast]
      unfold FS
      rw [show (k : Int) = 1 * (k : Int) by omega, ← sumZ_const, ← sumZ_add]
      refine sumZ_congr k fun i _ => ?_
      rw [show m * (i : Int) + (r + a) = m * (i : Int) + r + a * 1 by omega, Int.add_mul_ediv_left _ _ (by omega : a ≠ 0)]
    · have d1 : (t + a) / m = k + 1 := by rw [← hd, show m * (k : Int) + r + a = (r + a - m) + m * ((k : Int) + 1) by rw [Int.mul_add]; omega, Int.add_mul_ediv_left _ _ (by omega : m ≠ 0), Int.ediv_eq_zero_of_lt (by omega) (by omega)]; omega
      have d2 : (t + a) % m = r + a - m := by rw [← hd, show m * (k : Int) + r + a = (r + a - m) + m * ((k : Int) + 1) by rw [Int.mul_add]; omega, Int.add_mul_emod_self_left]; exact Int.emod_eq_of_lt (by omega) (by omega)
      rw [d1, d2, show ((k : Int) + 1).toNat = k + 1 by omega, Int.toNat_natCast]
      unfold FS
      rw [sumZ_first, show (m * ((0 : Nat) : Int) + (r + a - m)) / a = 0 by simp; exact Int.ediv_eq_zero_of_lt (by omega) (by omega), Int.zero_add]
      have hk : sumZ (fun _ => (1 : Int)) k = k := by rw [sumZ_const]; omega
      rw [show sumZ (fun i => (m * (i : Int) + r) / a) k + (k : Int) = sumZ (fun i => (m * (i : Int) + r) / a) k + sumZ (fun _ => 1) k by rw [hk], ← sumZ_add]
      refine sumZ_congr k fun i _ => ?_
      rw [show m * ((i + 1 : Nat) : Int) + (r + a - m) = m * (i : Int) + r + a * 1 by rw [Int.natCast_add, Int.mul_add]; simp; omega, Int.add_mul_ediv_left _ _ (by omega : a ≠ 0)]
theorem FS_none {a b m : Int} (ha : 0 ≤ a) (hm : a < m) (hb : 0 ≤ b) (hb2 : b < m) {n : Nat} (h : (a * n + b) / m = 0) : FS a b m n = 0 := by
  by_cases h0 : a = 0
  · subst h0
    unfold FS
    rw [sumZ_congr (g := fun _ => 0) n fun i _ => by rw [Int.zero_mul, Int.zero_add]; exact Int.ediv_eq_zero_of_lt hb hb2, sumZ_const]
    omega
  · rw [FS_turn (by omega) hm hb hb2, h]; rfl
theorem RS_le {m : Int} (hm : 1 ≤ m) (a b : Int) : ∀ n : Nat, 0 ≤ RS a b m n ∧ RS a b m n ≤ m * n
  | 0 => by show (0 : Int) ≤ 0 ∧ (0 : Int) ≤ m * 0; omega
  | n + 1 => by
    have ih := RS_le hm a b n
    have h0 := Int.emod_nonneg (a * (n : Int) + b) (show m ≠ 0 by omega)
    have h1 := Int.emod_lt_of_pos (a * (n : Int) + b) (show 0 < m by omega)
    have e : m * ((n + 1 : Nat) : Int) = m * (n : Int) + m := by rw [Int.natCast_add, Int.mul_add]; simp
    show 0 ≤ RS a b m n + (a * (n : Int) + b) % m ∧ RS a b m n + (a * (n : Int) + b) % m ≤ m * ((n + 1 : Nat) : Int)
    rw [e]; omega
theorem tri_sm {k : Nat} {n : Int} (h : Sm k n) : Sm (2 * k + 2) (tri n) := by
  have h1 : Sm (k + (max k 1 + 1)) (n * (n - 1)) := Sm.mul h (Sm.sub h (Sm.lit (by decide)))
  have h2 : Sm (k + (max k 1 + 1)) (n * (n - 1) / 2) := Sm.div h1 (by decide)
  by_cases hk : k = 0
  · subst hk
    have : n = 0 := by unfold Sm at h; omega
    subst this
    exact Sm.le (n := 1) (by show (tri 0).natAbs < 2 ^ 1; decide) (by omega)
  · exact h2.le (by omega)
theorem FS_sm {k : Nat} {a b m n : Int} (hm : 1 ≤ m) (hn : 0 ≤ n) (sa : Sm k a) (sb : Sm k b) (sm : Sm k m) (sn : Sm k n) : Sm (4 * k + 20) (FS a b m n.toNat) := by
  have e := FS_RS a b m n.toNat
  have r := RS_le hm a b n.toNat
  rw [show ((n.toNat : Nat) : Int) = n by omega] at e r
  have s1 : Sm (k + (2 * k + 2)) (a * tri n) := Sm.mul sa (tri_sm sn)
  have s2 : Sm (k + k) (b * n) := Sm.mul sb sn
  have s3 : Sm (k + k) (RS a b m n.toNat) := (Sm.mul sm sn).of_le r.1 r.2
  have s4 := Sm.sub (Sm.add s1 s2) s3
  rw [show a * tri n + b * n - RS a b m n.toNat = m * FS a b m n.toNat by omega] at s4
  refine Sm.le (s4.of_abs ?_) (by omega)
  rw [Int.natAbs_mul]
  exact Nat.le_mul_of_pos_left _ (by omega)
end Z

namespace Z
open PySem
/-! ### sums of parts and rests: laws with Int counts -/
theorem toNat_add' {n k : Int} (hn : 0 ≤ n) (hk : 0 ≤ k) : (n + k).toNat = n.toNat + k.toNat := by omega
theorem FS_join (a b m : Int) {n k : Int} (hn : 0 ≤ n) (hk : 0 ≤ k) : FS a b m (n + k).toNat = FS a b m n.toNat + FS a (a * n + b) m k.toNat := by
  rw [toNat_add' hn hk]
  unfold FS
  rw [sumZ_split]
  congr 1
  refine sumZ_congr _ fun i _ => ?_
  rw [Int.natCast_add, Int.mul_add, show ((n.toNat : Nat) : Int) = n by omega, Int.add_comm (a * n), Int.add_assoc]
theorem RS_join (a b m : Int) {n k : Int} (hn : 0 ≤ n) (hk : 0 ≤ k) : RS a b m (n + k).toNat = RS a b m n.toNat + RS a (a * n + b) m k.toNat := by
  rw [toNat_add' hn hk]
  unfold RS
  rw [sumZ_split]
  congr 1
  refine sumZ_congr _ fun i _ => ?_
  rw [Int.natCast_add, Int.mul_add, show ((n.toNat : Nat) : Int) = n by omega, Int.add_comm (a * n), Int.add_assoc]
theorem line_rev (a b : Int) {n : Int} (hn : 0 ≤ n) {i : Nat} (hi : i < n.toNat) : (0 - a) * (i : Int) + (a * (n - 1) + b) = a * ((n.toNat - 1 - i : Nat) : Int) + b := by
  rw [show ((n.toNat - 1 - i : Nat) : Int) = n - 1 - i by omega, Int.mul_sub a (n - 1) i, Int.sub_mul, Int.zero_mul]; omega
theorem FS_rev (a b m : Int) {n : Int} (hn : 0 ≤ n) : FS (0 - a) (a * (n - 1) + b) m n.toNat = FS a b m n.toNat := by
  unfold FS
  rw [← sumZ_rev (fun i => (a * (i : Int) + b) / m)]
  exact sumZ_congr _ fun i hi => by rw [line_rev a b hn hi]
theorem RS_rev (a b m : Int) {n : Int} (hn : 0 ≤ n) : RS (0 - a) (a * (n - 1) + b) m n.toNat = RS a b m n.toNat := by
  unfold RS
  rw [← sumZ_rev (fun i => (a * (i : Int) + b) % m)]
  exact sumZ_congr _ fun i hi => by rw [line_rev a b hn hi]
theorem FS_one (a b m : Int) {n : Int} (hn : 0 ≤ n) : FS a b m (n + 1).toNat = FS a b m n.toNat + (a * n + b) / m := by
  rw [show (n + 1).toNat = n.toNat + 1 by omega]
  show FS a b m n.toNat + (a * ((n.toNat : Nat) : Int) + b) / m = _
  rw [show ((n.toNat : Nat) : Int) = n by omega]
theorem RS_one (a b m : Int) {n : Int} (hn : 0 ≤ n) : RS a b m (n + 1).toNat = RS a b m n.toNat + (a * n + b) % m := by
  rw [show (n + 1).toNat = n.toNat + 1 by omega]
  show RS a b m n.toNat + (a * ((n.toNat : Nat) : Int) + b) % m = _
  rw [show ((n.toNat : Nat) : Int) = n by omega]
theorem line_times (a b t : Int) (i : Nat) : a * t * (i : Int) + b * t = (a * (i : Int) + b) * t := by
  rw [Int.add_mul, Int.mul_right_comm]
theorem FS_times (a b m : Int) {t : Int} (ht : 0 < t) (n : Nat) : FS (a * t) (b * t) (m * t) n = FS a b m n := by
  unfold FS
  refine sumZ_congr _ fun i _ => ?_
  rw [line_times, Int.mul_ediv_mul_of_pos_left _ _ ht]
theorem RS_times (a b m : Int) {t : Int} (ht : 0 < t) (n : Nat) : RS (a * t) (b * t) (m * t) n = RS a b m n * t := by
  unfold RS
  rw [Int.mul_comm (sumZ _ n) t, ← sumZ_mul]
  refine sumZ_congr _ fun i _ => ?_
  rw [line_times, Int.mul_comm _ t, Int.mul_comm m t, Int.mul_emod_mul_of_pos _ _ ht]
theorem FS_upA (a b : Int) {m : Int} (hm : m ≠ 0) (k : Int) (n : Nat) : FS (a + k * m) b m n = FS a b m n + k * tri n := by
  unfold FS
  rw [← sumZ_id, ← sumZ_mul, ← sumZ_add]
  refine sumZ_congr _ fun i _ => ?_
  rw [Int.add_mul, show a * (i : Int) + k * m * (i : Int) + b = a * (i : Int) + b + m * (k * (i : Int)) by rw [Int.mul_comm k m, Int.mul_assoc]; omega, Int.add_mul_ediv_left _ _ hm]
theorem FS_upB (a b : Int) {m : Int} (hm : m ≠ 0) (k : Int) (n : Nat) : FS a (b + k * m) m n = FS a b m n + k * n := by
  unfold FS
  rw [← sumZ_const, ← sumZ_add]
  refine sumZ_congr _ fun i _ => ?_
  rw [show a * (i : Int) + (b + k * m) = a * (i : Int) + b + m * k by rw [Int.mul_comm k m]; omega, Int.add_mul_ediv_left _ _ hm]
theorem RS_upA (a b : Int) (m : Int) (k : Int) (n : Nat) : RS (a + k * m) b m n = RS a b m n := by
  unfold RS
  refine sumZ_congr _ fun i _ => ?_
  rw [Int.add_mul, show a * (i : Int) + k * m * (i : Int) + b = a * (i : Int) + b + m * (k * (i : Int)) by rw [Int.mul_comm k m, Int.mul_assoc]; omega, Int.add_mul_emod_self_left]
theorem RS_upB (a b : Int) (m : Int) (k : Int) (n : Nat) : RS a (b + k * m) m n = RS a b m n := by
  unfold RS
  refine sumZ_congr _ fun i _ => ?_
  rw [show a * (i : Int) + (b + k * m) = a * (i : Int) + b + m * k by rw [Int.mul_comm k m]; omega, Int.add_mul_emod_self_left]
theorem bl_eq {ω : Type} {Q : D → ω → Prop} {w : ω} {x y : Int} (h : Q (.bl true) w) (e : x = y) : Q (.bl (deq (.int x) (.int y))) w := by
  rw [deq_int, beq_iff_eq.mpr e]
  exact h
end Z

namespace Z
open PySem
/-! ### sums by periods and by full turns -/
theorem sumZ_single (c : Int) (r : Nat) : ∀ m, sumZ (fun x => if x = r then c else 0) m = if r < m then c else 0
  | 0 => by rw [if_neg (by omega)]; rfl
  | m + 1 => by
    show sumZ (fun x => if x = r then c else 0) m + (if m = r then c else 0) = _
    rw [sumZ_single c r m]
    by_cases h : m = r
    · rw [if_pos h, if_neg (by omega), if_pos (by omega)]; omega
    · rw [if_neg h]
      by_cases h2 : r < m
      · rw [if_pos h2, if_pos (by omega)]; omega
      · rw [if_neg h2, if_neg (by omega)]; omega
theorem sumZ_zero {f : Nat → Int} {m : Nat} (h : ∀ i, i < m → f i = 0) : sumZ f m = 0 := by
  rw [sumZ_congr (g := fun _ => 0) m h, sumZ_const]; omega
def cnt (n m x : Nat) : Nat := n / m + if x < n % m then 1 else 0
theorem cnt_next {n m x : Nat} (hm : 0 < m) (hx : x < m) : cnt (n + 1) m x = cnt n m x + if x = n % m then 1 else 0 := by
  unfold cnt
  have hr := Nat.mod_lt n hm
  have hd := Nat.div_add_mod n m
  by_cases c : n % m + 1 < m
  · have e1 : (n + 1) / m = n / m := by
      rw [← hd, Nat.add_assoc, Nat.mul_add_div hm, Nat.div_eq_of_lt c, Nat.mul_add_div hm, Nat.div_eq_of_lt hr]
    have e2 : (n + 1) % m = n % m + 1 := by
      conv => lhs; rw [← hd]
      rw [Nat.add_assoc, Nat.mul_add_mod, Nat.mod_eq_of_lt c]
    rw [e1, e2]
    by_cases h1 : x < n % m
    · rw [if_pos (by omega), if_pos h1, if_neg (by omega)]
    · by_cases h2 : x = n % m
      · rw [if_pos (by omega), if_neg h1, if_pos h2]
      · rw [if_neg (by omega), if_neg h1, if_neg h2]
  · have hk : n % m + 1 = m := by omega
    have hn : n + 1 = m * (n / m + 1) := by rw [Nat.mul_add, Nat.mul_one]; omega
    have e1 : (n + 1) / m = n / m + 1 := by rw [hn]; exact Nat.mul_div_cancel_left _ hm
    have e2 : (n + 1) % m = 0 := by rw [hn]; exact Nat.mul_mod_right _ _
    rw [e1, e2, if_neg (by omega)]
    by_cases h1 : x < n % m
    · rw [if_pos h1, if_neg (by omega)]
    · rw [if_neg h1, if_pos (by omega)]
theorem sumZ_periods (f : Nat → Int) {m : Nat} (hm : 0 < m) : ∀ n, sumZ f n = sumZ (fun x => sumZ (fun j => f (x + j * m)) (cnt n m x)) m
  | 0 => by
    refine (sumZ_zero fun x _ => ?_).symm
    have : cnt 0 m x = 0 := by unfold cnt; rw [Nat.zero_div, Nat.zero_mod, if_neg (by omega)]
    rw [this]; rfl
  | n + 1 => by
    show sumZ f n + f n = _
    rw [sumZ_periods f hm n]
    have hr := Nat.mod_lt n hm
    have e : sumZ (fun x => sumZ (fun j => f (x + j * m)) (cnt (n + 1) m x)) m = sumZ (fun x => sumZ (fun j => f (x + j * m)) (cnt n m x) + if x = n % m then f n else 0) m := by
      refine sumZ_congr m fun x hx => ?_
      rw [cnt_next hm hx]
      by_cases h : x = n % m
      · rw [if_pos h, if_pos h]
        show sumZ (fun j => f (x + j * m)) (cnt n m x) + f (x + cnt n m x * m) = _
        have : x + cnt n m x * m = n := by
          have hd := Nat.div_add_mod n m
          unfold cnt
          rw [if_neg (by omega), Nat.add_zero, Nat.mul_comm]; omega
        rw [this]
      · rw [if_neg h, if_neg h, Nat.add_zero, Int.add_zero]
    rw [e, sumZ_add, sumZ_single, if_pos hr]
theorem part_far (a b : Int) {m : Nat} (hm : 0 < m) (x j : Nat) : (a * ((x + j * m : Nat) : Int) + b) / (m : Int) = (a * (x : Int) + b) / (m : Int) + a * (j : Int) := by
  rw [Int.natCast_add, Int.natCast_mul, Int.mul_add, show a * (x : Int) + a * ((j : Int) * (m : Int)) + b = a * (x : Int) + b + (m : Int) * (a * (j : Int)) by rw [← Int.mul_assoc, Int.mul_comm (m : Int)]; omega, Int.add_mul_ediv_left _ _ (by omega)]
theorem rest_far (a b : Int) {m : Nat} (x j : Nat) : (a * ((x + j * m : Nat) : Int) + b) % (m : Int) = (a * (x : Int) + b) % (m : Int) := by
  rw [Int.natCast_add, Int.natCast_mul, Int.mul_add, show a * (x : Int) + a * ((j : Int) * (m : Int)) + b = a * (x : Int) + b + (m : Int) * (a * (j : Int)) by rw [← Int.mul_assoc, Int.mul_comm (m : Int)]; omega, Int.add_mul_emod_self_left]
/-- how often the place x below m comes among n -/
def comes (n m : Int) (x : Nat) : Int := n / m + if (x : Int) < n % m then 1 else 0
theorem comes_eq {n m : Nat} (x : Nat) : comes (n : Int) (m : Int) x = (cnt n m x : Nat) := by
  unfold comes cnt
  rw [← Int.natCast_ediv, ← Int.natCast_emod, Int.natCast_add]
  by_cases h : x < n % m
  · rw [if_pos h, if_pos (by omega)]; rfl
  · rw [if_neg h, if_neg (by omega)]; rfl
theorem FS_periods (a b : Int) {m n : Int} (hm : 0 < m) (hn : 0 ≤ n) : FS a b m n.toNat = sumZ (fun x => (a * (x : Int) + b) / m * comes n m x + a * tri (comes n m x)) m.toNat := by
  obtain ⟨M, rfl⟩ : ∃ k : Nat, m = k := ⟨m.toNat, by omega⟩
  obtain ⟨N, rfl⟩ : ∃ k : Nat, n = k := ⟨n.toNat, by omega⟩
  unfold FS
  rw [Int.toNat_natCast, Int.toNat_natCast, sumZ_periods _ (show 0 < M by omega)]
  refine sumZ_congr M fun x _ => ?_
  rw [comes_eq, ← sumZ_id, ← sumZ_mul, ← sumZ_const, ← sumZ_add]
  exact sumZ_congr _ fun j _ => part_far a b (by omega) x j
theorem RS_periods (a b : Int) {m n : Int} (hm : 0 < m) (hn : 0 ≤ n) : RS a b m n.toNat = sumZ (fun x => (a * (x : Int) + b) % m * comes n m x) m.toNat := by
  obtain ⟨M, rfl⟩ : ∃ k : Nat, m = k := ⟨m.toNat, by omega⟩
  obtain ⟨N, rfl⟩ : ∃ k : Nat, n = k := ⟨n.toNat, by omega⟩
  unfold RS
  rw [Int.toNat_natCast, Int.toNat_natCast, sumZ_periods _ (show 0 < M by omega)]
  refine sumZ_congr M fun x _ => ?_
  rw [comes_eq, ← sumZ_const]
  exact sumZ_congr _ fun j _ => rest_far a b x j
/-! full turns -/
theorem emod_gcd (a b : Int) (m : Int) : b % m % (Int.gcd a m : Int) = b % (Int.gcd a m : Int) := Int.emod_emod_of_dvd b (Int.gcd_dvd_right a m)
theorem gcd_emod_left (a m : Int) : Int.gcd m (a % m) = Int.gcd a m := by
  rw [Int.gcd_comm]
  have h := Int.mul_ediv_add_emod a m
  apply Nat.dvd_antisymm
  · refine Int.dvd_gcd ?_ (Int.gcd_dvd_right _ _)
    have q := Int.dvd_add (Int.dvd_mul_of_dvd_left (b := m) (c := a / m) (Int.gcd_dvd_right (a % m) m)) (Int.gcd_dvd_left (a % m) m)
    rw [h] at q
    exact q
  · refine Int.dvd_gcd ?_ (Int.gcd_dvd_right _ _)
    rw [show a % m = a - m * (a / m) by omega]
    exact Int.dvd_sub (Int.gcd_dvd_left _ _) (Int.dvd_mul_of_dvd_left (Int.gcd_dvd_right _ _))
theorem FS_round (k : Nat) : ∀ (a b m : Int), 0 < m → m ≤ k → 2 * FS a b m m.toNat = (a - 1) * (m - 1) + (Int.gcd a m : Int) - 1 + 2 * (b - b % (Int.gcd a m : Int)) := by
  induction k with
  | zero => intro a b m h1 h2; omega
  | succ k ih =>
    intro a b m h1 h2
    have hm : ((m.toNat : Nat) : Int) = m := by omega
    have e := FS_laid h1 a b m.toNat
    rw [hm] at e
    have t2 := tri_two m
    have ha := Int.mul_ediv_add_emod a m
    have hb := Int.mul_ediv_add_emod b m
    have a0 := Int.emod_nonneg a (show m ≠ 0 by omega)
    have a1 := Int.emod_lt_of_pos a h1
    have b0 := Int.emod_nonneg b (show m ≠ 0 by omega)
    have b1 := Int.emod_lt_of_pos b h1
    have q2 : 2 * (a / m * tri m) = (a - a % m) * (m - 1) := by
      rw [show 2 * (a / m * tri m) = a / m * (2 * tri m) by rw [← Int.mul_assoc, ← Int.mul_assoc, Int.mul_comm 2], t2, ← Int.mul_assoc, show a / m * m = a - a % m by rw [Int.mul_comm]; omega]
    have q3 : 2 * (b / m * m) = 2 * (b - b % m) := by rw [Int.mul_comm (b / m)]; omega
    have x1 : (a - a % m) * (m - 1) = a * (m - 1) - a % m * (m - 1) := Int.sub_mul _ _ _
    have x2 : (a - 1) * (m - 1) = a * (m - 1) - (m - 1) := by rw [Int.sub_mul]; omega
    by_cases hz : a % m = 0
    · have g1 : Int.gcd a m = m.toNat := by
        rw [← gcd_emod_left, hz, Int.gcd_zero_right]; omega
      have z : FS 0 (b % m) m m.toNat = 0 := by
        refine FS_none (Int.le_refl 0) h1 b0 b1 ?_
        rw [Int.zero_mul, Int.zero_add]; exact Int.ediv_eq_zero_of_lt b0 b1
      rw [g1, hm]
      rw [hz] at e q2 x1
      rw [Int.zero_mul] at x1
      rw [z] at e
      omega
    · have tn := FS_turn (show 0 < a % m by omega) a1 b0 b1 m.toNat
      rw [hm, show (a % m * m + b % m) % m = b % m by rw [Int.add_comm, Int.add_mul_emod_self_right, Int.emod_emod_of_dvd _ (Int.dvd_refl m)], show (a % m * m + b % m) / m = a % m by rw [Int.add_comm, Int.add_mul_ediv_right _ _ (by omega), Int.ediv_eq_zero_of_lt b0 b1]; omega] at tn
      have i2 := ih m (b % m) (a % m) (by omega) (by omega)
      rw [gcd_emod_left, emod_gcd] at i2
      have x3 : (m - 1) * (a % m - 1) = a % m * (m - 1) - (m - 1) := by rw [Int.mul_comm, Int.sub_mul]; omega
      omega
theorem RS_round {a b m : Int} (hm : 0 < m) : 2 * RS a b m m.toNat = m * (m - (Int.gcd a m : Int)) + 2 * (m * (b % (Int.gcd a m : Int))) := by
  have e := FS_RS a b m m.toNat
  have s := FS_round m.toNat a b m hm (by omega)
  have t2 := tri_two m
  rw [show ((m.toNat : Nat) : Int) = m by omega] at e
  have h1 : 2 * (m * FS a b m m.toNat) = m * (2 * FS a b m m.toNat) := by rw [← Int.mul_assoc, ← Int.mul_assoc, Int.mul_comm 2]
  rw [s] at h1
  have h2 : 2 * (a * tri m) = a * (m * (m - 1)) := by rw [← t2, ← Int.mul_assoc, ← Int.mul_assoc, Int.mul_comm 2]
  have h3 : m * ((a - 1) * (m - 1) + (Int.gcd a m : Int) - 1 + 2 * (b - b % (Int.gcd a m : Int))) = a * (m * (m - 1)) - m * (m - 1) + m * (Int.gcd a m : Int) - m + 2 * (b * m) - 2 * (m * (b % (Int.gcd a m : Int))) := by
    rw [Int.mul_add, Int.mul_sub, Int.mul_add, Int.mul_one, ← Int.mul_assoc m (a - 1), Int.mul_comm m (a - 1), Int.mul_assoc, Int.sub_mul, Int.one_mul, Int.mul_left_comm m 2, Int.mul_sub m b, Int.mul_comm m b]; omega
  have h4 : m * (m - (Int.gcd a m : Int)) = m * (m - 1) + m - m * (Int.gcd a m : Int) := by rw [Int.mul_sub, Int.mul_sub]; omega
  omega
theorem FS_turns (a b : Int) {m : Int} (hm : 0 < m) : ∀ t : Nat, FS a b m (m * (t : Int)).toNat = FS a b m m.toNat * (t : Int) + a * m * tri (t : Int)
  | 0 => by
    rw [show (m * ((0 : Nat) : Int)).toNat = 0 by simp]
    show (0 : Int) = FS a b m m.toNat * 0 + a * m * 0
    omega
  | t + 1 => by
    have e : m * ((t + 1 : Nat) : Int) = m * (t : Int) + m := by rw [Int.natCast_add, Int.mul_add]; simp
    have h0 : 0 ≤ m * (t : Int) := Int.mul_nonneg (by omega) (by omega)
    rw [e, FS_join a b m h0 (by omega), FS_turns a b hm t, show a * (m * (t : Int)) + b = b + a * (t : Int) * m by rw [Int.mul_comm m, Int.mul_assoc]; omega, FS_upB a b (by omega), show ((m.toNat : Nat) : Int) = m by omega]
    have s : tri ((t + 1 : Nat) : Int) = tri (t : Int) + t := by rw [← sumZ_id, ← sumZ_id]; rfl
    rw [s, Int.natCast_add, Int.mul_add (FS a b m m.toNat), Int.mul_add (a * m), Int.mul_right_comm a (t : Int) m]
    simp only [Int.natCast_one, Int.mul_one]
    omega
theorem RS_turns (a b : Int) {m : Int} (hm : 0 < m) : ∀ t : Nat, RS a b m (m * (t : Int)).toNat = RS a b m m.toNat * (t : Int)
  | 0 => by
    rw [show (m * ((0 : Nat) : Int)).toNat = 0 by simp]
    show (0 : Int) = RS a b m m.toNat * 0
    omega
  | t + 1 => by
    have e : m * ((t + 1 : Nat) : Int) = m * (t : Int) + m := by rw [Int.natCast_add, Int.mul_add]; simp
    have h0 : 0 ≤ m * (t : Int) := Int.mul_nonneg (by omega) (by omega)
    rw [e, RS_join a b m h0 (by omega), RS_turns a b hm t, show a * (m * (t : Int)) + b = b + a * (t : Int) * m by rw [Int.mul_comm m, Int.mul_assoc]; omega, RS_upB a b, Int.natCast_add, Int.mul_add]
    simp
theorem FS_whole (k b : Int) {m : Int} (hm : m ≠ 0) (n : Nat) : FS (k * m) b m n = k * tri n + b / m * n := by
  have h := FS_upA 0 b hm k n
  rw [Int.zero_add] at h
  have z : FS 0 b m n = b / m * n := by
    unfold FS
    rw [← sumZ_const]
    exact sumZ_congr n fun i _ => by rw [Int.zero_mul, Int.zero_add]
  omega
theorem RS_whole (k b : Int) (m : Int) (n : Nat) : RS (k * m) b m n = b % m * n := by
  have h := RS_upA 0 b m k n
  rw [Int.zero_add] at h
  rw [h]
  unfold RS
  rw [← sumZ_const]
  exact sumZ_congr n fun i _ => by rw [Int.zero_mul, Int.zero_add]
theorem part_less {t m : Int} (hm : m ≠ 0) : (t - t % m) / m = t / m := by
  have := Int.mul_ediv_add_emod t m
  rw [show t - t % m = m * (t / m) by omega, Int.mul_ediv_cancel_left _ hm]
/-- the sums of k full turns, in the words of a common measure -/
theorem FS_byturns {a b m t : Int} (hm : 0 < m) (ht : 0 ≤ t) : FS a b m (m * t).toNat = (((a - 1) * (m - 1) + (Int.gcd a m : Int) - 1) / 2 + b - b % (Int.gcd a m : Int)) * t + a * m * (t * (t - 1) / 2) := by
  have h := FS_turns a b hm t.toNat
  have r := FS_round m.toNat a b m hm (by omega)
  rw [show ((t.toNat : Nat) : Int) = t by omega] at h
  have e : ((a - 1) * (m - 1) + (Int.gcd a m : Int) - 1) / 2 + b - b % (Int.gcd a m : Int) = FS a b m m.toNat := by omega
  rw [e, h]
  rfl
theorem RS_byturns {a b m t : Int} (hm : 0 < m) (ht : 0 ≤ t) : RS a b m (m * t).toNat = t * (m * (b % (Int.gcd a m : Int)) + m * (m - (Int.gcd a m : Int)) / 2) := by
  have h := RS_turns a b hm t.toNat
  have r := RS_round (a := a) (b := b) hm
  rw [show ((t.toNat : Nat) : Int) = t by omega] at h
  have e : m * (b % (Int.gcd a m : Int)) + m * (m - (Int.gcd a m : Int)) / 2 = RS a b m m.toNat := by omega
  rw [e, h, Int.mul_comm]
/-- places put to a sum one by one -/
theorem FS_on {a b m lo : Int} (h : 0 ≤ lo) (i : Nat) : FS a b m (lo + (i + 1 : Nat)).toNat = FS a b m (lo + i).toNat + (a * (lo + i) + b) / m := by
  rw [show lo + ((i + 1 : Nat) : Int) = lo + i + 1 by omega, FS_one a b m (by omega)]
theorem RS_on {a b m lo : Int} (h : 0 ≤ lo) (i : Nat) : RS a b m (lo + (i + 1 : Nat)).toNat = RS a b m (lo + i).toNat + (a * (lo + i) + b) % m := by
  rw [show lo + ((i + 1 : Nat) : Int) = lo + i + 1 by omega, RS_one a b m (by omega)]
theorem gcd_sm {k : Nat} {a m : Int} (hm : 0 < m) (sm : Sm k m) : 0 < ((Int.gcd a m : Nat) : Int) ∧ ((Int.gcd a m : Nat) : Int) ≤ m ∧ Sm k ((Int.gcd a m : Nat) : Int) := by
  have h1 : 0 < Int.gcd a m := Int.gcd_pos_of_ne_zero_right _ (by omega)
  have h2 : ((Int.gcd a m : Nat) : Int) ≤ m := Int.le_of_dvd hm (Int.gcd_dvd_right a m)
  exact ⟨by omega, h2, sm.of_le (by omega) h2⟩
theorem bl_eq2 {ω : Type} {Q : D → ω → Prop} {w : ω} {x y z u : Int} (h : Q (.bl true) w) (e : x = z) (e2 : y = u) : Q (.bl (deq (.lst [.int x, .int y]) (.lst [.int z, .int u]))) w := by
  rw [deq_lst, deqs_cons, deqs_cons, deqs_nil, deq_int, deq_int, beq_iff_eq.mpr e, beq_iff_eq.mpr e2]
  exact h
theorem Sm.lt10r {r : Int} {k : Nat} (h1 : r < 10 ^ k) (h0 : 0 ≤ r) : Sm (4 * k) r := Sm.lt10 h0 h1
theorem Sm.near {r : Int} (h0 : -4611686018427387904 ≤ r) (h1 : r ≤ 4611686018427387904) : Sm 63 r := by unfold Sm; omega
/-! bounds of the number of levels -/
theorem lev_len {k : Nat} {m p : Int} (h : 2 ^ k * p ≤ 2 * (m * m)) (hp : 1 ≤ p) (sm : Sm 2000 m) : k ≤ 4001 := by
  have h1 : (2 : Int) ^ k ≤ 2 ^ k * p := by
    have : (0 : Int) ≤ 2 ^ k := Int.pow_nonneg (by decide)
    have := Int.mul_le_mul_of_nonneg_left hp this
    omega
  have h2 : Sm 4000 (m * m) := Sm.mul sm sm
  have h3 : ((m * m).natAbs : Int) < ((2 ^ 4000 : Nat) : Int) := by unfold Sm at h2; omega
  have h4 : m * m ≤ ((m * m).natAbs : Int) := by omega
  have h5 : ((2 ^ k : Nat) : Int) < ((2 ^ 4001 : Nat) : Int) := by
    rw [show (2 : Nat) ^ 4001 = 2 * 2 ^ 4000 from by rw [Nat.pow_succ, Nat.mul_comm]]
    rw [Int.natCast_mul]
    have : ((2 ^ k : Nat) : Int) = 2 ^ k := Int.natCast_pow 2 k
    rw [this]
    generalize ((2 ^ 4000 : Nat) : Int) = X at *
    omega
  have h6 : 2 ^ k < 2 ^ 4001 := Int.ofNat_lt.mp h5
  have := (Nat.pow_lt_pow_iff_right (by decide : 1 < 2)).mp h6
  omega
theorem lev_step {k : Nat} {m a1 m1 : Int} (h : 2 ^ k * (a1 * m1) ≤ 2 * (m * m)) (h1 : 0 < m1) (h2 : m1 < a1) : 2 ^ (k + 1) * (m1 * (a1 % m1)) ≤ 2 * (m * m) := by
  have r0 := Int.emod_nonneg a1 (show m1 ≠ 0 by omega)
  have r1 := Int.emod_lt_of_pos a1 h1
  have hd := Int.mul_ediv_add_emod a1 m1
  have q1 : 1 ≤ a1 / m1 := (Int.le_ediv_iff_mul_le h1).mpr (by omega)
  have q2 : m1 ≤ m1 * (a1 / m1) := by have := Int.mul_le_mul_of_nonneg_left q1 (show 0 ≤ m1 by omega); omega
  have q3 : m1 * (2 * (a1 % m1)) ≤ m1 * a1 := Int.mul_le_mul_of_nonneg_left (by omega) (by omega)
  have p : (0 : Int) ≤ 2 ^ k := Int.pow_nonneg (by decide)
  have q4 := Int.mul_le_mul_of_nonneg_left q3 p
  have e : 2 ^ (k + 1) * (m1 * (a1 % m1)) = 2 ^ k * (m1 * (2 * (a1 % m1))) := by
    rw [Int.pow_succ]; grind
  rw [Int.mul_comm a1 m1] at h
  omega
end Z

namespace Z
open PySem PySem.Spec PyProof.Rows L2
section
variable {X : Cx} {pins : List (Addr × Obj)} {σ σ' : L2.St} {H H' : Hp} {s sI : Shared}
/-- an object that stands and isn't ours may be tracked, if it wasn't there at a state of before -/
theorem track {a : Addr} {φ : Heap → Prop} (I : Inv X pins σ H s) (J : Inv X pins σ' H' sI) (ne : sI.heap.get? a = none) (hn : H a = none) (nL : a ≠ X.env.locals) (hx : X.ex = []) (new : ObjOk X.prog X.w (upd H a (.ext φ)) s.heap a (.ext φ)) : Inv X pins σ (upd H a (.ext φ)) s := by
  have nx : ∀ b o, X.s_0.heap.get? b = some o → b ≠ a := fun b o e z => by
    obtain ⟨o', e'⟩ := J.base.there b o e (by rw [hx]; exact fun z => nomatch z)
    rw [z, ne] at e'
    cases e'
  refine ⟨I.ok, I.os, I.bare, ⟨I.base.keep, I.base.slot, fun b o e n q => ?_, I.base.there, fun b xs e => ?_, fun b o u e => ?_, fun b ps e => ?_⟩, I.loc, I.cell, ?_, fun x c e => ?_, fun p hp => ?_, ?_, I.len⟩
  · rw [upd_ne (nx b o e)]; exact I.base.free b o e n q
  · have q := I.base.tups b xs e
    rw [upd_ne (ne_of_none q hn)]; exact q
  · have q := I.base.frzs b o u e
    rw [upd_ne (ne_of_none q hn)]; exact q
  · obtain ⟨m, q⟩ := I.base.tbls b ps e
    exact ⟨m, by rw [upd_ne (ne_of_none q hn)]; exact q⟩
  · rw [upd_ne (Ne.symm nL)]; exact I.free
  · have : c ≠ a := fun z => by
      obtain ⟨v, o, q, _⟩ := J.cell x c e
      rw [z, ne] at q
      cases q
    rw [upd_ne this]; exact I.freeC x c e
  · obtain ⟨h1, h2, h3⟩ := I.pin p hp
    have : p.1 ≠ a := fun z => by
      have q := (J.pin p hp).1
      rw [z, ne] at q
      cases q
    exact ⟨h1, by rw [upd_ne this]; exact h2, h3⟩
  · exact HOk.laidN I.hok (fun _ _ q => q) hn new
end
/-- what `except x as n: y = n` wishes of an exception of the body -/
def wKeep (K : PySem.W.Frag) (c : Value) (i j : Nat) (Wo : WX) (DE : Ends) : WX := fun cl d σ H =>
  ∃ b, PySem.W.exmOne K cl c = some b ∧ (b = true → d = none ∧ ∃ C : Addr, cl = .ref C ∧ ∀ p, H p = none → DE.nx (((σ.set i (some (.ref p))).set j (some (.ref p))).set i none) (upd H p (ExA C p))) ∧ (b = false → Wo cl d σ H)
section
variable {X : Cx}
theorem ps_try_keep {x n y : Str} {c : Value} {i j : Nat} {body : List Stmt} {np pn py sp pos pos' : Pos} {tb : WX → TS} {Wo : WX} (h1 : X.stack = X.env :: X.outer) (h2 : X.env.frame = some X.env.locals) (h3 : X.ex = []) (hN : X.N.Nodup)
    (hi : X.N[i]? = some n) (hj : X.N[j]? = some y) (hn : X.env.kindOf n = some .local) (hy : X.env.kindOf y = some .local) (hc : Names X x c) (tk : Takes X Wo)
    (hdb : (n == ("__debug__" : Str)) = false) (hcd : (n == ("__classdict__" : Str)) = false) (hsw : swapsWith (.Name n pn) (some (.Name y py)) sp.line X.env = pure false)
    (hb : ∀ (Wx : WX) (l : List (Addr × Obj)) (k : Value → Shared → Prop), Takes (X.tr l k) Wx → PassesOwn (model X.prog X.w) X.A X.env k → PSs (X.tr l k) body (tb Wx)) :
    PS X (.Try body [.ExceptHandler (some (.Name x np)) (some n) [.Assign [.Name y py] (.Name n pn) sp] pos'] [] [] pos) (fun DE σ H => tb (wKeep X.K c i j Wo DE) DE σ H) := by
  refine ⟨fun pins s σ H DE I hwish => ?_⟩
  have ok := I.ok
  have frA : X.A.frames = some (X.env :: X.outer) := by rw [ok.frames, h1]
  have back : ∀ {f : Flow} {t : Shared}, SP (X.tr (X.pn ++ pins) fun e t1 => wpAny (model X.prog X.w) X.A (noteFrame e X.env) (fun _ t2 => wpAny (model X.prog X.w) X.A (setFlight e none) (fun _ t3 =>
      wpAny (model X.prog X.w) X.A (handleBy e X.env [.ExceptHandler (some (.Name x np)) (some n) [.Assign [.Name y py] (.Name n pn) sp] pos']) (SP X pins DE) X.xe t3) X.xe t2) X.xe t1) [] DE f t → SP X pins DE f t := fun {f t} q => by
    cases f with
    | ret u => exact q.imp fun _ q => q.imp fun _ q => q.imp fun _ q => ⟨q.1.ofTry ok, q.2⟩
    | next => exact q.imp fun _ q => q.imp fun _ q => ⟨q.1.ofTry ok, q.2⟩
    | brk => exact q.imp fun _ q => q.imp fun _ q => ⟨q.1.ofTry ok, q.2⟩
    | cont => exact q.imp fun _ q => q.imp fun _ q => ⟨q.1.ofTry ok, q.2⟩
  refine wpAny_Try_except (wpAny_mono ((hb (wKeep X.K c i j Wo DE) (X.pn ++ pins) _ (fun u t hit => ?_) PassesOwn.looking).run [] s σ H DE (I.toTry _) hwish) (fun f t q => ?_) fun e t q => q)
  · obtain ⟨p, B, t0, pins1, σ1, H1, cl, d, rfl, J0, nb, up, sky, np0, os, ag, b, hb1, yes, no⟩ := hit
    have J : Inv X pins σ1 H1 t0 := J0.ofTry ok
    rw [show (X.tr (X.pn ++ pins) _).stack = X.env :: X.outer from h1] at sky
    show wpAny (model X.prog X.w) X.A (noteFrame (.ref p) X.env) _ _ _
    refine Sky.land Zc.steady frA h2 sky fun g f3 up3 => ?_
    have J3 : Inv X pins σ1 H1 { t with heap := g } := J.landed nb f3.1 (up.trans up3) os ag
    obtain ⟨oe, vs, he, hz, hd⟩ := f3.there
    have nfr : p ∉ frs (X.env :: X.outer) := fun hm => by
      obtain ⟨_, o', e', q⟩ := f3.2.2.1.mem hm
      rw [he] at e'
      cases e'
      exact q _ hd
    have nL : p ≠ X.env.locals := fun z => nfr (List.mem_filterMap.mpr ⟨X.env, List.mem_cons_self, by rw [h2, z]⟩)
    have nF : p ∉ X.fs := fun hm => by
      obtain ⟨v, hv, q⟩ := List.mem_filterMap.mp hm
      exact nfr (List.mem_filterMap.mpr ⟨v, List.mem_cons_of_mem _ hv, q⟩)
    have n0 : t0.heap.get? p = none := by
      cases e : t0.heap.get? p with
      | none => rfl
      | some o =>
        have z := nb p o e (by rw [show (X.tr (X.pn ++ pins) _).stack = X.env :: X.outer from h1]; exact nfr)
        rw [f3.2.1] at z
        cases z
    have S3 := J3.suite he hd np0 nL nF
    refine wpAny_handleBy_cons (codeAny_handlers_test ?_) (by intro q; cases q)
    have LT : PySem.W.Looks (model X.prog X.w) g (typeOf (.ref p)) cl := fun A Q E z k q => wpAny_typeOf_ref (k _ _ he) (by rw [hz.1]; exact q)
    have LM := PySem.W.exm_one (M := model X.prog X.w) (J3.kIn) LT hb1
    have asked : ∀ {Q : Value → Shared → Prop} {E : Value → Shared → Prop}, Q c { t with heap := g } → wpAny (model X.prog X.w) (X.A.mark (some (.ref p))) (eval (.Name x np) X.env) Q E { t with heap := g } := fun {Q E} q => by
      obtain ⟨hg, hdbg, hm | ⟨hm, hv, hnn⟩⟩ := hc
      · exact ld_glob (X := X.suite p ((p, oe) :: (X.pn ++ pins))) S3 hg hm q hdbg
      · exact ld_blt (X := X.suite p ((p, oe) :: (X.pn ++ pins))) S3 hg hm hv q hnn hdbg
    refine asked (LM.here ?_)
    cases b with
    | true =>
      obtain ⟨rfl, C, rfl, q⟩ := yes rfl
      refine codeAny_handlers_suite_as ?_
      refine HandSPX.lands_againZ f3 fun g4 f4 up4 => ?_
      have J4 : Inv X pins σ1 H1 { t with heap := g4 } := J.landed nb f4.1 ((up.trans up3).trans up4) os ag
      obtain ⟨o4, v4, he4, hz4, hd4⟩ := f4.there
      have S4 := J4.suite he4 hd4 np0 nL nF
      refine store_ok (X := X.suite p ((p, o4) :: (X.pn ++ pins))) (v := .ref p) S4 hN hi (.inl hn) rfl (fun t5 S5 => ?_) (.inr hn)
      have li : i < σ1.length := by rw [J.len]; exact (List.getElem?_eq_some_iff.mp hi).1
      have suite : PSs (X.suite p ((p, o4) :: (X.pn ++ pins))) [.Assign [.Name y py] (.Name n pn) sp] (tAsg (tVar i) (gName j)) := pss_one (ps_set hN hj (.inl hy) (pe_var hi (.inl hn) hdb hcd) hsw (.inr hy))
      refine wpAny_mono (suite.run [] t5 _ H1 ⟨fun σ6 H6 => σ6 = (σ1.set i (some (.ref p))).set j (some (.ref p)) ∧ H6 = H1, fun _ _ => False, fun _ _ => False, fun _ _ => False⟩ S5 ⟨.ref p, by rw [List.getElem?_set_self li], rfl, rfl⟩) (fun f t6 q6 => ?_) (fun _ _ z => False.elim z)
      cases f with
      | next =>
        obtain ⟨σ6, H6, S6, e1, e2⟩ := q6
        rw [e1, e2] at S6
        have keep : ∀ r ∈ (p, o4) :: (X.pn ++ pins), t6.heap.get? r.1 = some r.2 ∧ H1 r.1 = none ∧ r.1 ≠ X.env.locals ∧ r.1 ∉ X.fs ∧ ∀ v, r.2.data ≠ .cell v := fun r hr => S6.pin r (List.mem_append_left _ hr)
        have I6 : Inv X ((p, o4) :: pins) _ H1 t6 := (S6.unsuite (pins := pins) ok).pins_of fun r hr => by
          rcases List.mem_cons.mp hr with z | z
          · exact keep r (by rw [z]; exact List.mem_cons_self)
          · exact keep r (List.mem_cons_of_mem _ (List.mem_append_right _ z))
        refine gone_ok I6 hN hi hn fun t7 I7 => ?_
        obtain ⟨e7, n7, l7, _, _⟩ := I7.pin (p, o4) (List.mem_append_right _ List.mem_cons_self)
        have J7 : Inv X pins _ H1 t7 := I7.pins_of fun r hr => I7.pin r (List.mem_append_right _ (List.mem_cons_of_mem _ hr))
        exact ⟨_, _, track J7 J n0 np0 nL h3 ⟨⟨o4, v4, e7, hz4, hd4⟩, ⟨o4, e7⟩, fun _ _ ⟨o, v, a1, a2⟩ k => ⟨o, v, k o a1, a2⟩⟩, q p np0⟩
      | ret u => obtain ⟨_, _, _, _, _, z⟩ := q6; exact z.elim
      | brk => obtain ⟨_, _, _, z⟩ := q6; exact z.elim
      | cont => obtain ⟨_, _, _, z⟩ := q6; exact z.elim
    | false =>
      show wpAny _ X.A (handleBy (.ref p) X.env []) _ _ _
      refine wpAny_handleBy_nil ?_
      obtain ⟨_, _, _, ob, ws, T, oT, ts, eb, zb, db, w1, _⟩ := id f3
      unfold PySem.passOn
      refine wpAny_bind (wpAny_field eb db w1 ?_)
      rw [if_neg (show ¬ ((Value.ref T == Value.none) = true) from by simp)]
      have go : wpAny (model X.prog X.w) X.A (setFlight (.ref p) X.env.frame) (fun _ t4 => wpAny (model X.prog X.w) X.A (throw (.ref p) : Sem Flow) (SP X pins DE) X.xe t4) X.xe { t with heap := g } := by
        rw [h2]
        refine HandSPX.setFlight_upZ f3 fun g4 hh4 up4 => wpAny_throw (tk _ _ ?_)
        exact ⟨p, B, t0, pins, σ1, H1, cl, d, rfl, J, by rw [h1]; rw [show (X.tr (X.pn ++ pins) _).stack = X.env :: X.outer from h1] at nb; exact nb, (up.trans up3).trans up4, .inr (.inr (by rw [h1]; exact hh4)), np0, os, ag, no rfl⟩
      first
        | exact wpAny_bind (wpAny_pure (wpAny_bind go))
        | exact wpAny_bind go
  · have q := back q
    cases f with
    | next => obtain ⟨a1, a2, a3, a4⟩ := q; exact wpAny_execs_nil ⟨a1, a2, a3, a4⟩
    | ret u => exact q
    | brk => exact q
    | cont => exact q
end
end Z

namespace Z
open PySem PySem.Spec PyProof.Rows L2
variable {ω : Type}
/-! ### try: body; except LineError as n: y = n -/
def zTry (ec : Nat → Addr) (i j : Nat) (t : TSZ ω) : TSZ ω := fun D δ w => t { D with ex := fun e δ' w' => e < 7 ∧ D.nx (((δ'.set i (.val (.exc (ec e)))).set j (.val (.exc (ec e)))).set i .no) w' } δ w
section
variable {X : Cx} {W : Wp ω} {x n y : Str} {c : Value} {body : List Stmt} {np pn py sp pos pos' : Pos} {t : TSZ ω}
theorem z_try (i j : Nat) (hN : X.N.Nodup) (hc : Names X x c) (hcat : ∀ e, e < 7 → PySem.W.exmOne X.K (.ref (W.ec e)) c = some true)
    (hb : ∀ (l : List (Addr × Obj)) (k : Value → Shared → Prop), PassesOwn (model X.prog X.w) X.A X.env k → PBZ (X.tr l k) W body t)
    (h1 : X.stack = X.env :: X.outer := by rfl) (h2 : X.env.frame = some X.env.locals := by rfl) (h3 : X.ex = [] := by rfl)
    (hi : X.N[i]? = some n := by rfl) (hj : X.N[j]? = some y := by rfl) (hn : X.env.kindOf n = some .local := by rfl) (hy : X.env.kindOf y = some .local := by rfl)
    (hdb : (n == ("__debug__" : Str)) = false := by decide) (hcd : (n == ("__classdict__" : Str)) = false := by decide)
    (hsw : swapsWith (.Name n pn) (some (.Name y py)) sp.line X.env = pure false := by rfl) :
    PSZ X W (.Try body [.ExceptHandler (some (.Name x np)) (some n) [.Assign [.Name y py] (.Name n pn) sp] pos'] [] [] pos) (zTry W.ec i j t) := fun Z ex tk =>
  psI (ps_try_keep (tb := fun Wx D σ H => ∃ ex', (∀ cl d σ H, WXz X.K W Z ex' cl d σ H → Wx cl d σ H) ∧ liS X.K W Z ex' t D σ H) (i := i) (j := j) h1 h2 h3 hN hi hj hn hy hc tk hdb hcd hsw
    (fun Wx l k tk' po => ⟨fun pins s σ H DE I h => by
      obtain ⟨ex', im, h⟩ := h
      exact ((hb l k po) Z ex' (tk'.imp im)).run pins s σ H DE I h⟩)) fun D σ H h => by
    obtain ⟨Dz, hex, EI, G, M, δ, w, a, h⟩ := h
    refine ⟨fun e δ' w' => e < 7 ∧ Dz.nx (((δ'.set i (.val (.exc (W.ec e)))).set j (.val (.exc (W.ec e)))).set i .no) w', fun cl d σ' H' q => ?_, { Dz with ex := fun e δ' w' => e < 7 ∧ Dz.nx (((δ'.set i (.val (.exc (W.ec e)))).set j (.val (.exc (W.ec e)))).set i .no) w' }, rfl, ⟨EI.nx, EI.bk, EI.ct, EI.rt⟩, G, M, δ, w, a, h⟩
    obtain ⟨rfl, e, rfl, G', M', δ', w', a', l7, q⟩ := q
    refine ⟨true, hcat e l7, fun _ => ⟨rfl, W.ec e, rfl, fun p hp => ?_⟩, fun z => nomatch z⟩
    have an := a'.new (o := ExA (W.ec e) p) hp
    have r : Rep X.K (upd G' p (ExA (W.ec e) p)) (.ref p) (.exc (W.ec e)) := .exc upd_same
    exact EI.nx _ _ ⟨_, _, _, _, ((an.set r).set r).drop, q⟩
end
end Z

namespace Z
open PySem PySem.Spec PyProof.Rows L2
variable {ω : Type}
/-! ### isinstance of an exception that is kept -/
def rIsX (K : PySem.W.Frag) : List V → Hp → VK → Prop := fun xs H Q => ∃ (p D : Addr) (c : V) (cv : Value) (b : Bool), xs = [.ref p, c] ∧ H p = some (ExA D p) ∧ ExcC K D ∧ (∀ u, RelV c u → u = cv) ∧ PySem.W.kitOne K (.ref D) cv = some b ∧ Q (.bl b) H
theorem call_isX {X : Cx} : CallR X (.builtin "isinstance") (rIsX X.K) := by
  intro pins s σ H xs us Q I r h
  obtain ⟨p, D, c, cv, b, rfl, hp, C, hcv, e, q⟩ := h
  cases r with
  | cons rx rr =>
    cases rr with
    | cons rt rr =>
      cases rr
      cases rx
      have ec := hcv _ rt
      subst ec
      obtain ⟨⟨oe, vs, hget, hz, hv⟩, _⟩ := I.hok p _ hp
      have J : PySem.W.InstAt s.heap p oe D none := by
        obtain ⟨oc, od, oda, osl⟩ := oe
        obtain ⟨h1, h2⟩ := hz
        dsimp only at h1 h2 hv
        subst h1 h2 hv
        exact ⟨hget, rfl, rfl, trivial⟩
      exact PySem.W.kia_one (PySem.W.handS_kitx_exc C.hg C.hk C.hs C.hd C.ha C.hn C.ht C.hm) I.kIn J e (fun z => nomatch z) fun tk => ⟨.bl b, H, I.kept (t' := tk) fun _ _ z => z, rfl, q⟩
def zIsX (ec : Nat → Addr) (f : Nat → Bool) (te : TEZ ω) : TEZ ω := fun δ w Q E => te δ w (fun d w1 => match d with | .exc C => ∃ e, C = ec e ∧ e < 7 ∧ Q (.bl (f e)) w1 | .non => Q (.bl false) w1 | _ => False) E
def rIsXN (K : PySem.W.Frag) : List V → Hp → VK → Prop := fun xs H Q => rIsX K xs H Q ∨ rIsi K xs H Q
section
variable {X : Cx} {W : Wp ω} {pos p p2 : Pos} {e : Expr} {te : TEZ ω}
theorem zisx_mo {f : Nat → Bool} (he : PEZ X W e te) : Mo (zIsX W.ec f te) := fun k h => he.mo (fun d w1 h1 => by
  split at h1
  · obtain ⟨e', a, b, q⟩ := h1; exact ⟨e', a, b, k _ _ q⟩
  · exact k _ _ h1
  · exact h1.elim) h
theorem zisx_core {x : Str} {f : Nat → Bool} {c : V} {cv : Value} {tn : TE} (hk : ∀ e, e < 7 → ExcC X.K (W.ec e) ∧ PySem.W.kitOne X.K (.ref (W.ec e)) cv = some (f e)) (hn : PySem.W.kitOne X.K (.type "NoneType") cv = some false) (hcv : ClsV c cv) (hc : ∀ u, RelV c u → u = cv) (he : PEZ X W e te) {Z : Zx} {ex : Nat → List Sl → ω → Prop} {σ : L2.St} {H : Hp} {Q : VK} (h : liE X.K W Z ex (zIsX W.ec f te) σ H Q) :
    liE X.K W Z ex te σ H fun v H1 => rIsXN X.K [v, c] H1 Q := by
  obtain ⟨G, M, δ, w, a, h⟩ := h
  refine ⟨G, M, δ, w, a, he.mo (fun d w1 h1 v H1 G1 M1 o1 r1 => ?_) h⟩
  split at h1
  · obtain ⟨e', rfl, l, q⟩ := h1
    cases r1 with
    | exc g =>
      obtain ⟨k1, k2⟩ := hk e' l
      exact .inl ⟨_, _, c, cv, _, rfl, o1.pt.gh _ _ g, k1, hc, k2, q _ H1 G1 M1 o1 (.bl _)⟩
  · cases r1
    exact .inr ⟨.non, c, .type "NoneType", cv, false, rfl, hcv, .base .non, hn, h1 _ H1 G1 M1 o1 (.bl _)⟩
  · exact h1.elim
/-- against an own class -/
theorem z_isX {x : Str} {C : Addr} {f : Nat → Bool} (hk : ∀ e, e < 7 → ExcC X.K (W.ec e) ∧ PySem.W.kitOne X.K (.ref (W.ec e)) (.ref C) = some (f e)) (hno : PySem.W.kitOne X.K (.type "NoneType") (.ref C) = some false) (hm : X.mg "isinstance" = none) (hm2 : X.mg x = some (.ref C)) (he : PEZ X W e te) (hg : Gl X "isinstance" := by rfl) (hg2 : Gl X x := by rfl)
    (hdb : (x == ("__debug__" : Str)) = false := by decide) (hs : starEach [e, .Name x p2] X.env = (false, eval e X.env) :: starEach [.Name x p2] X.env := by rfl) (hs2 : starEach [.Name x p2] X.env = (false, eval (.Name x p2) X.env) :: starEach [] X.env := by rfl)
    (hpl : (backTo pos (starEach [.Name x p2] X.env)).any (·.1) = false := by rfl) : PEZ X W (.Call (.Name "isinstance" p) [e, .Name x p2] [] pos) (zIsX W.ec f te) :=
  ⟨zisx_mo he, fun Z ex tk => peI (pe_callB (CallR.or call_isX call_isi) hg hm (by decide +kernel) (pa_cons (he.run Z ex tk) (pa_cons (pe_glob (v := .ref C) hg2 hm2 rfl hdb) pa_nil hs2) hs) (by decide) (by decide) hs hpl) fun σ H Q h => zisx_core (c := .ref C) (x := x) (tn := fun _ _ _ => True) hk hno (.own _) (fun u r => r) he h⟩
/-- against a built-in one -/
theorem z_isXB {x : Str} {T : String} {f : Nat → Bool} (hk : ∀ e, e < 7 → ExcC X.K (W.ec e) ∧ PySem.W.kitOne X.K (.ref (W.ec e)) (.type T) = some (f e)) (hno : PySem.W.kitOne X.K (.type "NoneType") (.type T) = some false) (hm : X.mg "isinstance" = none) (hm2 : X.mg x = none) (hv : bootBuiltins x = some (.type T)) (he : PEZ X W e te) (hg : Gl X "isinstance" := by rfl) (hg2 : Gl X x := by rfl)
    (hn : x ≠ "__name__" := by decide) (hdb : (x == ("__debug__" : Str)) = false := by decide) (hs : starEach [e, .Name x p2] X.env = (false, eval e X.env) :: starEach [.Name x p2] X.env := by rfl) (hs2 : starEach [.Name x p2] X.env = (false, eval (.Name x p2) X.env) :: starEach [] X.env := by rfl)
    (hpl : (backTo pos (starEach [.Name x p2] X.env)).any (·.1) = false := by rfl) : PEZ X W (.Call (.Name "isinstance" p) [e, .Name x p2] [] pos) (zIsX W.ec f te) :=
  ⟨zisx_mo he, fun Z ex tk => peI (pe_callB (CallR.or call_isX call_isi) hg hm (by decide +kernel) (pa_cons (he.run Z ex tk) (pa_cons (pe_bltn (v := .ty T) hg2 hm2 hv rfl hn hdb) pa_nil hs2) hs) (by decide) (by decide) hs hpl) fun σ H Q h => zisx_core (c := .ty T) (x := x) (tn := fun _ _ _ => True) hk hno (.ty _) (fun u r => r) he h⟩
theorem z_trye {ec : Nat → Addr} {n y : Str} {x : Str} {c : Value} {body : List Stmt} {np pn py sp pos' : Pos} {t : TSZ ω} (i j : Nat) (hN : X.N.Nodup) (hc : Names X x c) (hcat : ∀ e, e < 7 → PySem.W.exmOne X.K (.ref (ec e)) c = some true)
    (hb : ∀ (l : List (Addr × Obj)) (k : Value → Shared → Prop), PassesOwn (model X.prog X.w) X.A X.env k → PBZ (X.tr l k) W body t) (hec : W.ec = ec := by rfl)
    (h1 : X.stack = X.env :: X.outer := by rfl) (h2 : X.env.frame = some X.env.locals := by rfl) (h3 : X.ex = [] := by rfl)
    (hi : X.N[i]? = some n := by rfl) (hj : X.N[j]? = some y := by rfl) (hn : X.env.kindOf n = some .local := by rfl) (hy : X.env.kindOf y = some .local := by rfl)
    (hdb : (n == ("__debug__" : Str)) = false := by decide) (hcd : (n == ("__classdict__" : Str)) = false := by decide)
    (hsw : swapsWith (.Name n pn) (some (.Name y py)) sp.line X.env = pure false := by rfl) :
    PSZ X W (.Try body [.ExceptHandler (some (.Name x np)) (some n) [.Assign [.Name y py] (.Name n pn) sp] pos'] [] [] pos) (zTry ec i j t) := by
  subst hec
  exact z_try i j hN hc hcat hb h1 h2 h3 hi hj hn hy hdb hcd hsw
theorem z_isXe {ec : Nat → Addr} {x : Str} {C : Addr} {f : Nat → Bool} (hk : ∀ e, e < 7 → ExcC X.K (ec e) ∧ PySem.W.kitOne X.K (.ref (ec e)) (.ref C) = some (f e)) (hno : PySem.W.kitOne X.K (.type "NoneType") (.ref C) = some false) (hm : X.mg "isinstance" = none) (hm2 : X.mg x = some (.ref C)) (he : PEZ X W e te) (hec : W.ec = ec := by rfl) (hg : Gl X "isinstance" := by rfl) (hg2 : Gl X x := by rfl)
    (hdb : (x == ("__debug__" : Str)) = false := by decide) (hs : starEach [e, .Name x p2] X.env = (false, eval e X.env) :: starEach [.Name x p2] X.env := by rfl) (hs2 : starEach [.Name x p2] X.env = (false, eval (.Name x p2) X.env) :: starEach [] X.env := by rfl)
    (hpl : (backTo pos (starEach [.Name x p2] X.env)).any (·.1) = false := by rfl) : PEZ X W (.Call (.Name "isinstance" p) [e, .Name x p2] [] pos) (zIsX ec f te) := by
  subst hec
  exact z_isX hk hno hm hm2 he hg hg2 hdb hs hs2 hpl
theorem z_isXBe {ec : Nat → Addr} {x : Str} {T : String} {f : Nat → Bool} (hk : ∀ e, e < 7 → ExcC X.K (ec e) ∧ PySem.W.kitOne X.K (.ref (ec e)) (.type T) = some (f e)) (hno : PySem.W.kitOne X.K (.type "NoneType") (.type T) = some false) (hm : X.mg "isinstance" = none) (hm2 : X.mg x = none) (hv : bootBuiltins x = some (.type T)) (he : PEZ X W e te) (hec : W.ec = ec := by rfl) (hg : Gl X "isinstance" := by rfl) (hg2 : Gl X x := by rfl)
    (hn : x ≠ "__name__" := by decide) (hdb : (x == ("__debug__" : Str)) = false := by decide) (hs : starEach [e, .Name x p2] X.env = (false, eval e X.env) :: starEach [.Name x p2] X.env := by rfl) (hs2 : starEach [.Name x p2] X.env = (false, eval (.Name x p2) X.env) :: starEach [] X.env := by rfl)
    (hpl : (backTo pos (starEach [.Name x p2] X.env)).any (·.1) = false := by rfl) : PEZ X W (.Call (.Name "isinstance" p) [e, .Name x p2] [] pos) (zIsX ec f te) := by
  subst hec
  exact z_isXB hk hno hm hm2 hv he hg hg2 hn hdb hs hs2 hpl
end
end Z

namespace Z
open PySem PySem.Spec PyProof.Rows L2
variable {ω : Type}
/-- the scope of a block within a block -/
def cScope (scope sc : Scope) : Scope := { scope with names := scope.names.map fun (n, k) => if (k == .free && sc.kind == .function && sc.names.lookup n == some .cell) then (n, .cell) else (n, k) }
theorem nest_ok {N : List Str} {scope scope' sc : Scope} {own : List (Str × Nat)} {cl : List (Str × Addr)} {C : Addr} {env : Env} (hsc : env.scope = sc) (h : blkC N (cScope scope sc) scope' own = true) : blkC N (compEnvC scope cl C env).scope scope' own = true := by
  subst hsc
  exact h
/-! ### an exception made and held -/
theorem pe_excA {X : Cx} {C : Addr} {bmB : List Value} {B newId initId : String} {x : Str} {e : Expr} {ta : TE} {p pos : Pos} (F : ExcBaseFacts B newId initId bmB) (q : PySem.W.excIn X.K C bmB newId = true) (gC : X.mg x = some (.ref C)) (kC : PySem.W.keepIn X.K (.ref C) = true) (hg : Gl X x)
    (he : PE X e ta) (hs : starEach [e] X.env = (false, eval e X.env) :: starEach [] X.env := by rfl) (hdb : (x == ("__debug__" : Str)) = false := by decide) :
    PE X (.Call (.Name x p) [e] [] pos) (fun σ H Q => ta σ H fun _ H1 => ∀ a, H1 a = none → Q (.ref a) (upd H1 a (ExA C a))) := by
  refine ⟨fun pins s σ H Q I h => ?_⟩
  refine wpAny_Call_Name_kw (ld_glob I hg gC ?_ hdb)
  refine PySem.W.callWith_K (h₀ := X.base) I.ok.mod.kin kC ?_ hs (by rfl)
  rw [hs]
  show wpAny _ _ (spliced ((false, eval e X.env) :: backTo pos (starEach [] X.env))) _ _ s
  refine Calls.spliced_cons (thn (he.run pins s σ H _ I h) fun u s1 ⟨v, H1, I1, r1, q1⟩ => ?_)
  refine Calls.spliced_nil ⟨I1.kIn, ?_⟩
  show wpAny _ _ (call (.ref C) [u]) _ _ _
  obtain ⟨bm, N, nm, qn, bs, hdct, sn, sub, ab, col, dd, k0, k1, k2, k3, k5, mN, hC, hN, hni, T⟩ := exc_obj I1.kIn q
  refine wpAny_call_exc_subT F T hC hN hni (fun h' a hm => ?_) (by show 1 ≤ sizeLine; rw [sizeLine_eq]; omega)
  have hn : H1 a = none := I1.hok.gone hm.new
  obtain ⟨t, ht, _, _⟩ := hm.there
  exact ⟨.ref a, upd H1 a (ExA C a), I1.laidN hm.keeps hm.new hn ⟨⟨_, _, ht, ⟨rfl, rfl⟩, rfl⟩, ⟨_, ht⟩, fun _ _ ⟨o, v, a1, a2⟩ k => ⟨o, v, k o a1, a2⟩⟩, rfl, q1 a hn⟩
def zExc (ec : Nat → Addr) (c : Nat) : TEZ ω := fun _ w Q _ => Q (.exc (ec c)) w
theorem z_exc {X : Cx} {W : Wp ω} {ec : Nat → Addr} {c : Nat} {pos p p2 : Pos} {x m : Str} {j : Nat} (T : ErrT X.K X.mg (ec c) x) (hec : W.ec = ec := by rfl) (hg : Gl X x := by rfl) (hdb : (x == ("__debug__" : Str)) = false := by decide) : PEZ X W (.Call (.Name x p) [.Constant (.str m) j p2] [] pos) (zExc ec c) :=
  ⟨fun k h => k _ _ h, fun Z ex tk => peI (pe_excA PySem.F.excBase_ValueError T.xF T.gF T.kF hg pe_str rfl hdb) fun σ H Q ⟨G, M, δ, w, a, h⟩ => fun p hp =>
    h (.ref p) _ _ M (a.here.new (o := ExA (ec c) p) hp) (.exc upd_same)⟩

/-! ### try: body; except X [as n]: suite -/
/-- the suite's ends: no exception leaves, slot i is gone behind it -/
def suD (i : Nat) (D : EndZ ω) : EndZ ω := ⟨fun δ w => D.nx (δ.set i .no) w, D.rt, fun δ w => D.bk (δ.set i .no) w, fun δ w => D.ct (δ.set i .no) w, fun _ _ _ => False⟩
def zTryS (i : Nat) (t : TSZ ω) (tz : Addr → Nat → TSZ ω) : TSZ ω := fun D δ w => t { D with ex := fun e δ' w' => e < 7 ∧ ∀ a, tz a e (suD i D) (δ'.set i (.val (.ref a))) w' } δ w
def zTryO (t : TSZ ω) (tz : TSZ ω) : TSZ ω := fun D δ w => t { D with ex := fun e δ' w' => e < 7 ∧ tz { D with ex := fun _ _ _ => False } δ' w' } δ w
section
variable {X : Cx} {W : Wp ω} {x n : Str} {c : Value} {body suite : List Stmt} {b0 : Stmt} {np pos pos' : Pos} {t : TSZ ω} {tz : Addr → Nat → TSZ ω} {tzo : TSZ ω} {ec : Nat → Addr}
theorem z_tryS (i : Nat) (hN : X.N.Nodup) (hc : Names X x c) (hcat : ∀ e, e < 7 → PySem.W.exmOne X.K (.ref (ec e)) c = some true)
    (hb : ∀ (l : List (Addr × Obj)) (k : Value → Shared → Prop), PassesOwn (model X.prog X.w) X.A X.env k → PBZ (X.tr l k) W body t)
    (hsu : ∀ (a : Addr) (oe : Obj) (e : Nat) (pn : List (Addr × Obj)), e < 7 → Zc (.ref (ec e)) none oe → (∃ vs, oe.data = .fields vs) → PBZ (X.suite a ((a, oe) :: pn)) W (b0 :: suite) (tz a e))
    (hec : W.ec = ec := by rfl) (h1 : X.stack = X.env :: X.outer := by rfl) (h2 : X.env.frame = some X.env.locals := by rfl) (hi : X.N[i]? = some n := by rfl) (hn : X.env.kindOf n = some .local := by rfl) :
    PSZ X W (.Try body [.ExceptHandler (some (.Name x np)) (some n) (b0 :: suite) pos'] [] [] pos) (zTryS i t tz) := fun Z ex tk => by
  subst hec
  refine psI (ps_try_as (i := i) (tb := fun Wx D σ H => ∃ ex', (∀ cl d σ H, WXz X.K W Z ex' cl d σ H → Wx cl d σ H) ∧ liS X.K W Z ex' t D σ H)
    (ts := fun a cl d D σ H => d = none ∧ ∃ e, e < 7 ∧ cl = .ref (W.ec e) ∧ liS X.K W Z (fun _ _ _ => False) (tz a e) D σ H) h1 h2 hN hi hn hc tk
    (fun Wx l k tk' po => ⟨fun pins s σ H DE I h => by
      obtain ⟨ex', im, h⟩ := h
      exact ((hb l k po) Z ex' (tk'.imp im)).run pins s σ H DE I h⟩)
    (fun a oe cl d pn hz hf => ⟨fun pins s σ H DE I h => by
      obtain ⟨rfl, e, l7, rfl, h⟩ := h
      exact ((hsu a oe e pn l7 hz hf) Z _ tkN).run pins s σ H DE I h⟩)) fun D σ H h => ?_
  obtain ⟨Dz, hex, EI, G, M, δ, w, a, h⟩ := h
  refine ⟨fun e δ' w' => e < 7 ∧ ∀ a, tz a e (suD i Dz) (δ'.set i (.val (.ref a))) w', fun cl d σ' H' q => ?_, { Dz with ex := fun e δ' w' => e < 7 ∧ ∀ a, tz a e (suD i Dz) (δ'.set i (.val (.ref a))) w' }, rfl, ⟨EI.nx, EI.bk, EI.ct, EI.rt⟩, G, M, δ, w, a, h⟩
  obtain ⟨rfl, e, rfl, G', M', δ', w', a', l7, q⟩ := q
  refine ⟨true, hcat e l7, fun _ p hp => ⟨rfl, e, l7, rfl, suD i Dz, rfl, ⟨fun σ2 H2 q2 => ?_, fun σ2 H2 q2 => ?_, fun σ2 H2 q2 => ?_, EI.rt⟩, G', M', _, w', a'.set (.ref p), q p⟩, fun z => nomatch z⟩
  · obtain ⟨G2, M2, δ2, w2, a2, q2⟩ := q2
    exact EI.nx _ _ ⟨G2, M2, _, w2, a2.drop, q2⟩
  · obtain ⟨G2, M2, δ2, w2, a2, q2⟩ := q2
    exact EI.bk _ _ ⟨G2, M2, _, w2, a2.drop, q2⟩
  · obtain ⟨G2, M2, δ2, w2, a2, q2⟩ := q2
    exact EI.ct _ _ ⟨G2, M2, _, w2, a2.drop, q2⟩
theorem z_tryO (hc : Names X x c) (hcat : ∀ e, e < 7 → PySem.W.exmOne X.K (.ref (ec e)) c = some true)
    (hb : ∀ (l : List (Addr × Obj)) (k : Value → Shared → Prop), PassesOwn (model X.prog X.w) X.A X.env k → PBZ (X.tr l k) W body t)
    (hsu : ∀ (a : Addr) (oe : Obj) (pn : List (Addr × Obj)), PBZ (X.suite a ((a, oe) :: pn)) W (b0 :: suite) tzo)
    (hec : W.ec = ec := by rfl) (h1 : X.stack = X.env :: X.outer := by rfl) (h2 : X.env.frame = some X.env.locals := by rfl) :
    PSZ X W (.Try body [.ExceptHandler (some (.Name x np)) none (b0 :: suite) pos'] [] [] pos) (zTryO t tzo) := fun Z ex tk => by
  subst hec
  refine psI (ps_try_only (tb := fun Wx D σ H => ∃ ex', (∀ cl d σ H, WXz X.K W Z ex' cl d σ H → Wx cl d σ H) ∧ liS X.K W Z ex' t D σ H)
    (ts := fun a cl d D σ H => liS X.K W Z (fun _ _ _ => False) tzo D σ H) h1 h2 hc tk
    (fun Wx l k tk' po => ⟨fun pins s σ H DE I h => by
      obtain ⟨ex', im, h⟩ := h
      exact ((hb l k po) Z ex' (tk'.imp im)).run pins s σ H DE I h⟩)
    (fun a oe cl d pn hz hf => ⟨fun pins s σ H DE I h => ((hsu a oe pn) Z _ tkN).run pins s σ H DE I h⟩)) fun D σ H h => ?_
  obtain ⟨Dz, hex, EI, G, M, δ, w, a, h⟩ := h
  refine ⟨fun e δ' w' => e < 7 ∧ tzo { Dz with ex := fun _ _ _ => False } δ' w', fun cl d σ' H' q => ?_, { Dz with ex := fun e δ' w' => e < 7 ∧ tzo { Dz with ex := fun _ _ _ => False } δ' w' }, rfl, ⟨EI.nx, EI.bk, EI.ct, EI.rt⟩, G, M, δ, w, a, h⟩
  obtain ⟨rfl, e, rfl, G', M', δ', w', a', l7, q⟩ := q
  exact ⟨true, hcat e l7, fun _ p hp => ⟨{ Dz with ex := fun _ _ _ => False }, rfl, ⟨EI.nx, EI.bk, EI.ct, EI.rt⟩, G', M', δ', w', a', q⟩, fun z => nomatch z⟩
end

/-! ### isinstance: the suite's own exception; one that is kept, or None -/
/-- the suite's exception (of the class of e) at a -/
def zIsS (a : Addr) (b : Bool) (te : TEZ ω) : TEZ ω := fun δ w Q E => te δ w (fun d w1 => match d with | .ref p => p = a ∧ Q (.bl b) w1 | _ => False) E
section
variable {X : Cx} {W : Wp ω} {pos p p2 : Pos} {e : Expr} {te : TEZ ω} {a : Addr} {oe : Obj} {pn : List (Addr × Obj)} {D : Addr}
theorem ziss_mo {X : Cx} {b : Bool} (he : PEZ X W e te) : Mo (zIsS a b te) := fun k h => he.mo (fun d w1 h1 => by
  split at h1
  · exact ⟨h1.1, k _ _ h1.2⟩
  · exact h1.elim) h
theorem ziss_core {X : Cx} {b : Bool} {c : V} {cv : Value} (hk : PySem.W.kitOne X.K (.ref D) cv = some b) (hc : ∀ u, RelV c u → u = cv) (he : PEZ X W e te) {Z : Zx} {ex : Nat → List Sl → ω → Prop} {σ : L2.St} {H : Hp} {Q : VK} (h : liE X.K W Z ex (zIsS a b te) σ H Q) :
    liE X.K W Z ex te σ H fun v H1 => rIsE X.K D a [v, c] H1 Q := by
  obtain ⟨G, M, δ, w, s, h⟩ := h
  refine ⟨G, M, δ, w, s, he.mo (fun d w1 h1 v H1 G1 M1 o1 r1 => ?_) h⟩
  split at h1
  · obtain ⟨rfl, q⟩ := h1
    cases r1
    exact ⟨c, cv, b, rfl, hc, hk, q _ H1 G1 M1 o1 (.bl _)⟩
  · exact h1.elim
theorem z_isS {x : Str} {C : Addr} {b : Bool} (ED : ExcC X.K D) (hz : Zc (.ref D) none oe) (hf : ∃ vs, oe.data = .fields vs) (hk : PySem.W.kitOne X.K (.ref D) (.ref C) = some b) (hm : X.mg "isinstance" = none) (hm2 : X.mg x = some (.ref C)) (he : PEZ (X.suite a ((a, oe) :: pn)) W e te) (hg : Gl (X.suite a ((a, oe) :: pn)) "isinstance" := by rfl) (hg2 : Gl (X.suite a ((a, oe) :: pn)) x := by rfl)
    (hdb : (x == ("__debug__" : Str)) = false := by decide) (hs : starEach [e, .Name x p2] X.env = (false, eval e X.env) :: starEach [.Name x p2] X.env := by rfl) (hs2 : starEach [.Name x p2] X.env = (false, eval (.Name x p2) X.env) :: starEach [] X.env := by rfl)
    (hpl : (backTo pos (starEach [.Name x p2] X.env)).any (·.1) = false := by rfl) : PEZ (X.suite a ((a, oe) :: pn)) W (.Call (.Name "isinstance" p) [e, .Name x p2] [] pos) (zIsS a b te) :=
  ⟨ziss_mo he, fun Z ex tk => peI (pe_callB (call_isE ED hz hf) hg hm (by decide +kernel) (pa_cons (he.run Z ex tk) (pa_cons (pe_glob (v := .ref C) hg2 hm2 rfl hdb) pa_nil hs2) hs) (by decide) (by decide) hs hpl) fun σ H Q h => ziss_core (X := X.suite a ((a, oe) :: pn)) (c := .ref C) hk (fun u r => r) he h⟩
theorem z_isSB {x : Str} {T : String} {b : Bool} (ED : ExcC X.K D) (hz : Zc (.ref D) none oe) (hf : ∃ vs, oe.data = .fields vs) (hk : PySem.W.kitOne X.K (.ref D) (.type T) = some b) (hm : X.mg "isinstance" = none) (hm2 : X.mg x = none) (hv : bootBuiltins x = some (.type T)) (he : PEZ (X.suite a ((a, oe) :: pn)) W e te) (hg : Gl (X.suite a ((a, oe) :: pn)) "isinstance" := by rfl) (hg2 : Gl (X.suite a ((a, oe) :: pn)) x := by rfl)
    (hn : x ≠ "__name__" := by decide) (hdb : (x == ("__debug__" : Str)) = false := by decide) (hs : starEach [e, .Name x p2] X.env = (false, eval e X.env) :: starEach [.Name x p2] X.env := by rfl) (hs2 : starEach [.Name x p2] X.env = (false, eval (.Name x p2) X.env) :: starEach [] X.env := by rfl)
    (hpl : (backTo pos (starEach [.Name x p2] X.env)).any (·.1) = false := by rfl) : PEZ (X.suite a ((a, oe) :: pn)) W (.Call (.Name "isinstance" p) [e, .Name x p2] [] pos) (zIsS a b te) :=
  ⟨ziss_mo he, fun Z ex tk => peI (pe_callB (call_isE ED hz hf) hg hm (by decide +kernel) (pa_cons (he.run Z ex tk) (pa_cons (pe_bltn (v := .ty T) hg2 hm2 hv rfl hn hdb) pa_nil hs2) hs) (by decide) (by decide) hs hpl) fun σ H Q h => ziss_core (X := X.suite a ((a, oe) :: pn)) (c := .ty T) hk (fun u r => r) he h⟩
end
/-! .. against several own classes -/
structure ClsA (X : Cx) (es : List Expr) (cs : List Addr) : Prop where
  pa : PA X es (fun _ H Q => Q (cs.map V.ref) H)
section
variable {X : Cx} {es : List Expr} {cs : List Addr}
theorem cl_nil : ClsA X [] [] := ⟨paI pa_nil fun σ H Q h => h⟩
theorem cl_cons {C : Addr} {x : Str} {p : Pos} (hm : X.mg x = some (.ref C)) (h : ClsA X es cs) (hg : Gl X x := by rfl) (hdb : (x == ("__debug__" : Str)) = false := by decide) (hs : starEach (.Name x p :: es) X.env = (false, eval (.Name x p) X.env) :: starEach es X.env := by rfl) : ClsA X (.Name x p :: es) (C :: cs) :=
  ⟨paI (pa_cons (pe_glob (v := .ref C) hg hm rfl hdb) h.pa hs) fun σ H Q h => h⟩
theorem any_of {K : PySem.W.Frag} {ec : Nat → Addr} {t : Value} {e : Nat} : ∀ {cs : List Nat}, (∀ c ∈ cs, PySem.W.kitOne K t (.ref (ec c)) = some (decide (e = c))) → PySem.W.kitAny K t ((cs.map ec).map Value.ref) = some (cs.any fun c => decide (e = c))
  | [], _ => rfl
  | c :: cs, h => by
    rw [List.any_cons, List.map_cons, List.map_cons]
    refine kitAny_cons (h c List.mem_cons_self) (fun q => ?_) (fun q => ?_)
    · rw [q, Bool.false_or]
      exact any_of fun c hc => h c (List.mem_cons_of_mem _ hc)
    · rw [q, Bool.true_or]
theorem any_no {K : PySem.W.Frag} {ec : Nat → Addr} {t : Value} : ∀ {cs : List Nat}, (∀ c ∈ cs, PySem.W.kitOne K t (.ref (ec c)) = some false) → PySem.W.kitAny K t ((cs.map ec).map Value.ref) = some false
  | [], _ => rfl
  | c :: cs, h => kitAny_cons (h c List.mem_cons_self) (fun _ => any_no fun c hc => h c (List.mem_cons_of_mem _ hc)) (fun q => nomatch q)
theorem pairedC : ∀ cs : List Addr, Paired ClsV (cs.map V.ref) (cs.map Value.ref)
  | [] => .nil
  | C :: cs => .cons (.own C) (pairedC cs)
def rIsET (K : PySem.W.Frag) (D a : Addr) : List V → Hp → VK → Prop := fun xs H Q => ∃ (tp : Addr) (cs : List Addr) (b : Bool), xs = [.ref a, .ref tp] ∧ H tp = some (.tup (cs.map V.ref)) ∧ PySem.W.kitAny K (.ref D) (cs.map Value.ref) = some b ∧ Q (.bl b) H
theorem call_isET {a D : Addr} {oe : Obj} {pn : List (Addr × Obj)} (C : ExcC X.K D) (hz : Zc (.ref D) none oe) (hf : ∃ vs, oe.data = .fields vs) : CallR (X.suite a ((a, oe) :: pn)) (.builtin "isinstance") (rIsET X.K D a) := by
  intro pins s σ H xs us Q I r h
  obtain ⟨tp, cs, b, rfl, hT, e, q⟩ := h
  obtain ⟨u1, u2, rfl, r1, r2⟩ := vals2 r
  cases (show u2 = Value.ref tp from r2)
  cases (show u1 = Value.ref a from r1)
  obtain ⟨hget, _⟩ := I.pin (a, oe) (List.mem_append.mpr (.inl List.mem_cons_self))
  obtain ⟨vs, hv⟩ := hf
  have J : PySem.W.InstAt s.heap a oe D none := by
    obtain ⟨oc, od, oda, osl⟩ := oe
    obtain ⟨h1, h2⟩ := hz
    dsimp only at h1 h2 hv
    subst h1 h2 hv
    exact ⟨hget, rfl, rfl, trivial⟩
  obtain ⟨_, its, rv, o, h1, h2, n, h3⟩ := (show ObjOk X.prog X.w H s.heap tp (.tup (cs.map V.ref)) from I.hok tp _ hT)
  have e3 := ClsV.all (pairedC cs) rv
  subst e3
  obtain ⟨oc, od, dt, sl⟩ := o
  simp only at h2 h3
  subst h2 h3
  exact PySem.W.kia_tup (PySem.W.handS_kitx_exc C.hg C.hk C.hs C.hd C.ha C.hn C.ht C.hm) I.kIn J h1 e (fun z => nomatch z) fun tk => ⟨.bl b, H, I.tok tk, rfl, q⟩
def rIsXT (K : PySem.W.Frag) : List V → Hp → VK → Prop := fun xs H Q => ∃ (p D tp : Addr) (cs : List Addr) (b : Bool), xs = [.ref p, .ref tp] ∧ H p = some (ExA D p) ∧ ExcC K D ∧ H tp = some (.tup (cs.map V.ref)) ∧ PySem.W.kitAny K (.ref D) (cs.map Value.ref) = some b ∧ Q (.bl b) H
theorem call_isXT : CallR X (.builtin "isinstance") (rIsXT X.K) := by
  intro pins s σ H xs us Q I r h
  obtain ⟨p, D, tp, cs, b, rfl, hp, C, hT, e, q⟩ := h
  obtain ⟨u1, u2, rfl, r1, r2⟩ := vals2 r
  cases (show u2 = Value.ref tp from r2)
  cases (show u1 = Value.ref p from r1)
  obtain ⟨⟨oe, vs, hget, hz, hv⟩, _⟩ := I.hok p _ hp
  have J : PySem.W.InstAt s.heap p oe D none := by
    obtain ⟨oc, od, oda, osl⟩ := oe
    obtain ⟨h1, h2⟩ := hz
    dsimp only at h1 h2 hv
    subst h1 h2 hv
    exact ⟨hget, rfl, rfl, trivial⟩
  obtain ⟨_, its, rv, o, h1, h2, n, h3⟩ := (show ObjOk X.prog X.w H s.heap tp (.tup (cs.map V.ref)) from I.hok tp _ hT)
  have e3 := ClsV.all (pairedC cs) rv
  subst e3
  obtain ⟨oc, od, dt, sl⟩ := o
  simp only at h2 h3
  subst h2 h3
  exact PySem.W.kia_tup (PySem.W.handS_kitx_exc C.hg C.hk C.hs C.hd C.ha C.hn C.ht C.hm) I.kIn J h1 e (fun z => nomatch z) fun tk => ⟨.bl b, H, I.tok tk, rfl, q⟩
def rIsXTN (K : PySem.W.Frag) : List V → Hp → VK → Prop := fun xs H Q => rIsXT K xs H Q ∨ rIsiT K xs H Q
end
section
variable {X : Cx} {W : Wp ω} {pos p tpos : Pos} {e : Expr} {te : TEZ ω} {a : Addr} {oe : Obj} {pn : List (Addr × Obj)} {D : Addr} {es : List Expr} {cs : List Addr} {k : Nat}
theorem z_isST {b : Bool} (ED : ExcC X.K D) (hz : Zc (.ref D) none oe) (hf : ∃ vs, oe.data = .fields vs) (hk : PySem.W.kitAny X.K (.ref D) (cs.map Value.ref) = some b) (hl : cs.length ≤ 100000) (hm : X.mg "isinstance" = none) (he : PEZ (X.suite a ((a, oe) :: pn)) W e te) (ht : ClsA (X.suite a ((a, oe) :: pn)) es cs) (hg : Gl (X.suite a ((a, oe) :: pn)) "isinstance" := by rfl)
    (hs : starEach [e, .Tuple es k tpos] X.env = (false, eval e X.env) :: starEach [.Tuple es k tpos] X.env := by rfl) (hs2 : starEach [.Tuple es k tpos] X.env = (false, eval (.Tuple es k tpos) X.env) :: starEach [] X.env := by rfl)
    (hpl : (backTo pos (starEach [.Tuple es k tpos] X.env)).any (·.1) = false := by rfl) : PEZ (X.suite a ((a, oe) :: pn)) W (.Call (.Name "isinstance" p) [e, .Tuple es k tpos] [] pos) (zIsS a b te) :=
  ⟨ziss_mo he, fun Z ex tk => peI (pe_callB (call_isET ED hz hf) hg hm (by decide +kernel) (pa_cons (he.run Z ex tk) (pa_cons (pe_tup ht.pa) pa_nil hs2) hs) (by decide) (by decide) hs hpl) fun σ H Q ⟨G, M, δ, w, s, h⟩ => by
    refine ⟨G, M, δ, w, s, he.mo (fun d w1 h1 v H1 G1 M1 o1 r1 => ?_) h⟩
    split at h1
    · obtain ⟨rfl, q⟩ := h1
      cases r1
      exact ⟨sz1 (by rw [List.length_map]; exact hl), fun tp hp => ⟨tp, cs, b, rfl, upd_same, hk, q _ _ _ M1 (o1.new (o := .tup (cs.map V.ref)) hp) (.bl _)⟩⟩
    · exact h1.elim⟩
theorem z_isXT {ec : Nat → Addr} {f : Nat → Bool} (hk : ∀ e, e < 7 → ExcC X.K (ec e) ∧ PySem.W.kitAny X.K (.ref (ec e)) (cs.map Value.ref) = some (f e)) (hno : PySem.W.kitAny X.K (.type "NoneType") (cs.map Value.ref) = some false) (hl : cs.length ≤ 100000) (hm : X.mg "isinstance" = none) (he : PEZ X W e te) (ht : ClsA X es cs) (hec : W.ec = ec := by rfl) (hg : Gl X "isinstance" := by rfl)
    (hs : starEach [e, .Tuple es k tpos] X.env = (false, eval e X.env) :: starEach [.Tuple es k tpos] X.env := by rfl) (hs2 : starEach [.Tuple es k tpos] X.env = (false, eval (.Tuple es k tpos) X.env) :: starEach [] X.env := by rfl)
    (hpl : (backTo pos (starEach [.Tuple es k tpos] X.env)).any (·.1) = false := by rfl) : PEZ X W (.Call (.Name "isinstance" p) [e, .Tuple es k tpos] [] pos) (zIsX ec f te) := by
  subst hec
  refine ⟨zisx_mo he, fun Z ex tk => peI (pe_callB (CallR.or call_isXT call_isiT) hg hm (by decide +kernel) (pa_cons (he.run Z ex tk) (pa_cons (pe_tup ht.pa) pa_nil hs2) hs) (by decide) (by decide) hs hpl) fun σ H Q ⟨G, M, δ, w, s, h⟩ => ?_⟩
  refine ⟨G, M, δ, w, s, he.mo (fun d w1 h1 v H1 G1 M1 o1 r1 => ?_) h⟩
  split at h1
  · obtain ⟨e', rfl, l, q⟩ := h1
    cases r1 with
    | exc g =>
      obtain ⟨k1, k2⟩ := hk e' l
      refine ⟨sz1 (by rw [List.length_map]; exact hl), fun tp hp => .inl ⟨_, _, tp, cs, _, rfl, ?_, k1, upd_same, k2, q _ _ _ M1 (o1.new (o := .tup (cs.map V.ref)) hp) (.bl _)⟩⟩
      rw [upd_ne (ne_of_none (o1.pt.gh _ _ g) hp)]
      exact o1.pt.gh _ _ g
  · cases r1
    exact ⟨sz1 (by rw [List.length_map]; exact hl), fun tp hp => .inr ⟨.non, tp, cs.map V.ref, .type "NoneType", cs.map Value.ref, false, rfl, upd_same, pairedC cs, .base .non, hno, h1 _ _ _ M1 (o1.new (o := .tup (cs.map V.ref)) hp) (.bl _)⟩⟩
  · exact h1.elim
end

/-! ### methods of a list that stands: count, index of flat data -/
def rCntF (K : PySem.W.Frag) : V → List V → Hp → VK → Prop := fun x xs H Q => ∃ (p : Addr) (ys : List V) (y : V), x = .ref p ∧ xs = [y] ∧ SqL K H p ys ∧ flatV y = true ∧ ys.all flatV = true ∧ Q (.int (ys.countP fun z => eqV z y : Nat)) H
theorem countF {y : V} : ∀ {ys : List V} {us : List Value}, Vals ys us → ys.all flatV = true → us.countP (eqU y) = ys.countP fun z => eqV z y
  | _, _, .nil, _ => rfl
  | z :: ys, u :: us, .cons r t, f => by
    rw [List.all_cons, Bool.and_eq_true] at f
    rw [List.countP_cons, List.countP_cons, countF t f.2, eqU_of r f.1]
theorem mt_countF {X : Cx} : MtR X "list.count" (rCntF X.K) := by
  intro pins s σ H x xs v us Q I rx rxs h
  obtain ⟨p, ys, y, rfl, rfl, hs, fy, fys, q⟩ := h
  cases rx
  obtain ⟨u, rfl, ru⟩ := rxs.one
  obtain ⟨its, rv, ⟨⟨cls, dd, data, sl⟩, n, ho, hc, hdn, hd⟩, hlen⟩ := I.list hs
  simp only at hc hd
  subst hc hd
  refine call_meets PySem.F.slot_list_count ⟨_, ho, rfl⟩ PySem.F.entry_list_count (PySem.F.args_list_count_2 _ _)
    (SeqAt.list_countAt p its.toArray n dd sl u (eqU y)) ⟨ho, fun u' hu' => mem_eqAt ru fy rv fys u' (by simpa using hu'), ?_⟩
  refine ⟨.int (ys.countP fun z => eqV z y : Nat), H, I.tok _, ⟨s.toks, ?_⟩, q⟩
  show Value.int ((its.toArray.toList.countP (eqU y) : Nat) : Int) s.toks = Value.int ((ys.countP fun z => eqV z y : Nat) : Int) s.toks
  rw [show its.toArray.toList = its from rfl, countF rv fys]
def lcntD (l : List D) (m : List D) (q : D → Prop) : Prop := oneD m fun y => (okF y = true ∧ okFs l = true) ∧ q (.int (l.countP fun z => eqF z y : Nat))
def lidxD (l : List D) (m : List D) (q : D → Prop) : Prop := oneD m fun y => (okF y = true ∧ okFs l = true) ∧ ∃ (j : Nat) (z : D), l[j]? = some z ∧ eqF z y = true ∧ (∀ i z', i < j → l[i]? = some z' → eqF z' y = false) ∧ q (.int (j : Nat))
def zML (r : List D → List D → (D → Prop) → Prop) (te : TEZ ω) (ta : TAZ ω) : TEZ ω := fun δ w Q E => te δ w (fun x w1 => seqD x fun l => ta δ w1 (fun m w2 => r l m fun z => Q z w2) E) E
structure LndL (K : PySem.W.Frag) (rm : V → List V → Hp → VK → Prop) (r : List D → List D → (D → Prop) → Prop) : Prop where
  mo : ∀ {l m : List D} {q q' : D → Prop}, (∀ d, q d → q' d) → r l m q → r l m q'
  go : ∀ (H G : Hp) (p : Addr) (xs vs : List V) (l m : List D) (q : D → Prop) (Q : VK), Ext G H → SqL K H p xs → RepL K G xs l → RepL K G vs m → r l m q → (∀ d v, q d → Rep K G v d → Q v H) → rm (.ref p) vs H Q
theorem okFs_at {l : List D} (h : okFs l = true) : ∀ {j : Nat} {z : D}, l[j]? = some z → okF z = true := by
  induction l with
  | nil => intro j z e; simp at e
  | cons d l ih =>
    intro j z e
    unfold okFs at h
    rw [Bool.and_eq_true] at h
    cases j with
    | zero => rw [List.getElem?_cons_zero] at e; cases e; exact h.1
    | succ j => rw [List.getElem?_cons_succ] at e; exact ih h.2 e
section
variable {K : PySem.W.Frag} {G : Hp}
theorem countP_rep {v : V} {d : D} (r : Rep K G v d) (h : okF d = true) : ∀ {vs : List V} {l : List D}, RepL K G vs l → okFs l = true → (vs.countP fun z => eqV z v) = l.countP fun z => eqF z d
  | _, _, .nil, _ => rfl
  | _, _, .cons s t, g => by
    unfold okFs at g
    rw [Bool.and_eq_true] at g
    rw [List.countP_cons, List.countP_cons, countP_rep r h t g.2, eqF_eqV s r g.1 h]
theorem ll_cnt : LndL K (rCntF K) lcntD where
  mo := fun k h => h.imp fun d h => ⟨h.1, k _ h.2⟩
  go := fun H G p xs vs l m q Q e s rl rm h k => by
    have hh := h.of; clear h; obtain ⟨d, rfl, ⟨h1, h2⟩, h⟩ := hh
    obtain ⟨v, rfl, rv⟩ := one_rep rm
    exact ⟨p, xs, v, rfl, rfl, s, okF_flat rv h1, okFs_flat rl h2, by rw [countP_rep rv h1 rl h2]; exact k _ _ h (.int _)⟩
theorem ll_idx : LndL K (rIndex K) lidxD where
  mo := fun k h => h.imp fun d ⟨h0, j, z, h1, h2, h3, h4⟩ => ⟨h0, j, z, h1, h2, h3, k _ h4⟩
  go := fun H G p xs vs l m q Q e s rl rm h k => by
    have hh := h.of; clear h; obtain ⟨d, rfl, ⟨h1, h2⟩, j, z, hj, hz, hno, h⟩ := hh
    obtain ⟨v, rfl, rv⟩ := one_rep rm
    obtain ⟨u, hu, ru⟩ := rl.get hj
    refine ⟨p, xs, v, j, u, rfl, rfl, s, okF_flat rv h1, okFs_flat rl h2, hu, by rw [eqF_eqV ru rv (okFs_at h2 hj) h1]; exact hz, fun i z' hi hz' => ?_, k _ _ h (.int _)⟩
    obtain ⟨d', hd', rd'⟩ := rl.getV hz'
    rw [eqF_eqV rd' rv (okFs_at h2 hd') h1]
    exact hno i d' hi hd'
end
section
variable {X : Cx} {W : Wp ω} {apos pos : Pos} {o e : Expr} {es : List Expr} {to : TEZ ω} {ta : TAZ ω} {rm : V → List V → Hp → VK → Prop} {r : List D → List D → (D → Prop) → Prop} {name : Str} {id : String}
theorem zML_mo (hl : LndL X.K rm r) (ho : PEZ X W o to) (ha : PAZ X W es ta) : Mo (zML r to ta) := fun k h => ho.mo (fun x w1 h1 => h1.imp fun l h2 => ha.mo (fun m w2 h3 => hl.mo (fun d q => k d _ q) h3) h2) h
theorem z_lm (hl : LndL X.K rm r) (hm : MtR X id rm) (slot : Slot "list" name id) (hty : typeOf (.builtin id) = pure (.type "method_descriptor")) (ho : PEZ X W o to) (ha : PAZ X W (e :: es) ta)
    (hbase : attributeBase o name X.env (eval o X.env) = eval o X.env := by rfl)
    (hfew : ((backTo pos (starEach (e :: es) X.env)).all (fun x => !x.1) && (backToKw pos (keywordEach [] X.env)).all (fun x => x.1.isSome)
      && decide ((e :: es).length + ([] : List Keyword).length + (if ([] : List Keyword).isEmpty then 0 else 1) < 30)) = true := by rfl)
    (hline : (apos.endLine == pos.line) = true := by rfl) (hs : starEach (e :: es) X.env = (false, eval e X.env) :: starEach es X.env := by rfl) (hpl : (backTo pos (starEach es X.env)).any (·.1) = false := by rfl) :
    PEZ X W (.Call (.Attribute o name apos) (e :: es) [] pos) (zML r to ta) :=
  ⟨zML_mo hl ho ha, fun Z ex tk => peI (pe_bm PySem.F.plainAttrs_list slot hty hm (ho.run Z ex tk) (ha.run Z ex tk) hbase hfew hline hs hpl) fun σ H Q ⟨G, M, δ, w, a0, h⟩ => by
    refine ⟨G, M, δ, w, a0, ho.mo (fun d w1 h1 v H1 G1 M1 o1 r1 => ?_) h⟩
    obtain ⟨p, xs, l, rfl, s, rl, h2⟩ := h1.of r1
    refine ⟨.inl ⟨rfl, _, sqLE o1.pt.gh s⟩, G1, M1, δ, w1, a0.go o1, ha.mo (fun m w2 h3 vs H2 G2 M2 o2 r2 => ?_) h2⟩
    exact hl.go H2 G2 p xs vs l m _ Q o2.pt.gh (sqLE (o2.nx.gg.tr o2.pt.gh) s) (rl.up o2.nx.gg) r2 h3 fun d3 v3 q3 r3 => q3 v3 H2 G2 M2 (o1.tr o2) r3⟩
theorem z_lcnt (ho : PEZ X W o to) (ha : PAZ X W [e] ta) (hbase : attributeBase o "count" X.env (eval o X.env) = eval o X.env := by rfl)
    (hfew : ((backTo pos (starEach [e] X.env)).all (fun x => !x.1) && (backToKw pos (keywordEach [] X.env)).all (fun x => x.1.isSome) && decide ([e].length + ([] : List Keyword).length + (if ([] : List Keyword).isEmpty then 0 else 1) < 30)) = true := by rfl)
    (hline : (apos.endLine == pos.line) = true := by rfl) (hs : starEach [e] X.env = (false, eval e X.env) :: starEach [] X.env := by rfl) (hpl : (backTo pos (starEach [] X.env)).any (·.1) = false := by rfl) : PEZ X W (.Call (.Attribute o "count" apos) [e] [] pos) (zML lcntD to ta) :=
  z_lm ll_cnt mt_countF PySem.F.slot_list_count PySem.F.type_list_count ho ha hbase hfew hline hs hpl
theorem z_lidx (ho : PEZ X W o to) (ha : PAZ X W [e] ta) (hbase : attributeBase o "index" X.env (eval o X.env) = eval o X.env := by rfl)
    (hfew : ((backTo pos (starEach [e] X.env)).all (fun x => !x.1) && (backToKw pos (keywordEach [] X.env)).all (fun x => x.1.isSome) && decide ([e].length + ([] : List Keyword).length + (if ([] : List Keyword).isEmpty then 0 else 1) < 30)) = true := by rfl)
    (hline : (apos.endLine == pos.line) = true := by rfl) (hs : starEach [e] X.env = (false, eval e X.env) :: starEach [] X.env := by rfl) (hpl : (backTo pos (starEach [] X.env)).any (·.1) = false := by rfl) : PEZ X W (.Call (.Attribute o "index" apos) [e] [] pos) (zML lidxD to ta) :=
  z_lm ll_idx mt_index PySem.F.slot_list_index PySem.F.type_list_index ho ha hbase hfew hline hs hpl
end
end Z

namespace Z
open PySem PySem.Spec PyProof.Rows L2
theorem nines_tab : ∀ n : Nat, n < 61 → PySem.MulOk (Str.ofString "9") (n : Int) ∧ (n ≠ 0 → PySem.intText? (Txt.mul (Str.ofString "9") (n : Int)) = some ((10 : Int) ^ n - 1)) ∧ (Txt.mul (Str.ofString "9") (n : Int)).length ≤ 640 := by
  unfold PySem.MulOk
  decide +kernel
theorem noughts_tab : ∀ n : Nat, n < 61 → PySem.MulOk (Str.ofString "0") (n : Int) ∧ PySem.intText? (Str.ofString "1" ++ Txt.mul (Str.ofString "0") (n : Int)) = some ((10 : Int) ^ n) ∧ (Str.ofString "1" ++ Txt.mul (Str.ofString "0") (n : Int)).length ≤ 640 ∧ (Str.ofString "1").length + (Txt.mul (Str.ofString "0") (n : Int)).length ≤ 16777216 := by
  unfold PySem.MulOk
  decide +kernel
theorem nines {n : Int} (h0 : 1 ≤ n) (h1 : n ≤ 60) : PySem.MulOk (Str.ofString "9") n ∧ ∃ v, PySem.intText? (Txt.mul (Str.ofString "9") n) = some v ∧ v = (10 : Int) ^ n.toNat - 1 ∧ (Txt.mul (Str.ofString "9") n).length ≤ 640 := by
  obtain ⟨k, rfl⟩ : ∃ k : Nat, n = k := ⟨n.toNat, by omega⟩
  obtain ⟨a, b, c⟩ := nines_tab k (by omega)
  exact ⟨a, _, b (by omega), rfl, c⟩
theorem noughts {n : Int} (h0 : 0 ≤ n) (h1 : n ≤ 60) : PySem.MulOk (Str.ofString "0") n ∧ ∃ v, PySem.intText? (Str.ofString "1" ++ Txt.mul (Str.ofString "0") n) = some v ∧ v = (10 : Int) ^ n.toNat ∧ (Str.ofString "1" ++ Txt.mul (Str.ofString "0") n).length ≤ 640 ∧ (Str.ofString "1").length + (Txt.mul (Str.ofString "0") n).length ≤ 16777216 := by
  obtain ⟨k, rfl⟩ : ∃ k : Nat, n = k := ⟨n.toNat, by omega⟩
  obtain ⟨a, b, c, d⟩ := noughts_tab k (by omega)
  exact ⟨a, _, b, rfl, c, d⟩
end Z

namespace Z
open PySem PySem.Spec PyProof.Rows L2
variable {ω : Type}
/-! ### methods of a text -/
def zM (r : Str → List D → (D → Prop) → Prop) (te : TEZ ω) (ta : TAZ ω) : TEZ ω := fun δ w Q E => te δ w (fun x w1 => match x with | .str a => ta δ w1 (fun l w2 => r a l fun z => Q z w2) E | _ => False) E
structure LndM (K : PySem.W.Frag) (rm : V → List V → Hp → VK → Prop) (r : Str → List D → (D → Prop) → Prop) : Prop where
  mo : ∀ {a : Str} {l : List D} {q q' : D → Prop}, (∀ d, q d → q' d) → r a l q → r a l q'
  go : ∀ (H G : Hp) (a : Str) (vs : List V) (l : List D) (q : D → Prop) (Q : VK), Ext G H → RepL K G vs l → r a l q → (∀ d v, q d → Rep K G v d → Q v H) → rm (.str a) vs H Q
section
variable {X : Cx} {W : Wp ω} {apos pos : Pos} {o e : Expr} {es : List Expr} {to : TEZ ω} {ta : TAZ ω} {rm : V → List V → Hp → VK → Prop} {r : Str → List D → (D → Prop) → Prop} {name : Str} {id : String}
theorem zM_mo (hl : LndM X.K rm r) (ho : PEZ X W o to) (ha : PAZ X W es ta) : Mo (zM r to ta) := fun k h => ho.mo (fun x w1 h1 => by
  cases x with
  | str a => exact ha.mo (fun l w2 h2 => hl.mo (fun d q => k d _ q) h2) h1
  | _ => exact False.elim h1) h
theorem zM_core (hl : LndM X.K rm r) (ho : PEZ X W o to) (ha : PAZ X W es ta) {Z : Zx} {ex : Nat → List Sl → ω → Prop} {σ : L2.St} {H : Hp} {Q : VK} (h : liE X.K W Z ex (zM r to ta) σ H Q) : tBM X.K "str" rm (liE X.K W Z ex to) (liA X.K W Z ex ta) σ H Q := by
  obtain ⟨G, M, δ, w, a0, h⟩ := h
  refine ⟨G, M, δ, w, a0, ho.mo (fun d w1 h1 v H1 G1 M1 o1 r1 => ?_) h⟩
  cases d with
  | str a =>
    cases r1
    exact ⟨rfl, G1, M1, δ, w1, a0.go o1, ha.mo (fun l w2 h2 vs H2 G2 M2 o2 r2 => hl.go H2 G2 a vs l _ Q o2.pt.gh r2 h2 (fun d3 v3 q3 r3 => q3 v3 H2 G2 M2 (o1.tr o2) r3)) h1⟩
  | _ => exact False.elim h1
theorem z_tm (hl : LndM X.K rm r) (hm : MtR X id rm) (slot : Slot "str" name id) (hty : typeOf (.builtin id) = pure (.type "method_descriptor")) (pa : PlainAttrs "str") (ho : PEZ X W o to) (ha : PAZ X W (e :: es) ta)
    (hbase : attributeBase o name X.env (eval o X.env) = eval o X.env := by rfl)
    (hfew : ((backTo pos (starEach (e :: es) X.env)).all (fun x => !x.1) && (backToKw pos (keywordEach [] X.env)).all (fun x => x.1.isSome)
      && decide ((e :: es).length + ([] : List Keyword).length + (if ([] : List Keyword).isEmpty then 0 else 1) < 30)) = true := by rfl)
    (hline : (apos.endLine == pos.line) = true := by rfl) (hs : starEach (e :: es) X.env = (false, eval e X.env) :: starEach es X.env := by rfl) (hpl : (backTo pos (starEach es X.env)).any (·.1) = false := by rfl) :
    PEZ X W (.Call (.Attribute o name apos) (e :: es) [] pos) (zM r to ta) :=
  ⟨zM_mo hl ho ha, fun Z ex tk => peI (pe_bm pa slot hty hm (ho.run Z ex tk) (ha.run Z ex tk) hbase hfew hline hs hpl) fun σ H Q h => zM_core hl ho ha h⟩
end
/-! index, count, join -/
def TxI (a b : Str) (i : Nat) : Prop := ∃ rest, Builtin.Str.occurrences a b 0 a.length 1 = i :: rest
def idxD (a : Str) (l : List D) (q : D → Prop) : Prop := match l with | [.str b] => ∃ i : Nat, TxI a b i ∧ q (.int i) | _ => False
def cntD (a : Str) (l : List D) (q : D → Prop) : Prop := match l with | [.str b] => q (.int (Txt.count a b)) | _ => False
/-- a list of texts -/
def Txs (l : List D) (ys : List Str) : Prop := l = ys.map D.str
def joinD (a : Str) (l : List D) (q : D → Prop) : Prop := match l with | [.lst l] => ∃ ys : List Str, Txs l ys ∧ (ys.map (·.length)).sum + ys.length * a.length ≤ 16777216 ∧ q (.str (Txt.join a ys)) | _ => False
section
variable {K : PySem.W.Frag}
theorem one_repM {G : Hp} {vs : List V} {d : D} (r : RepL K G vs [d]) : ∃ v, vs = [v] ∧ Rep K G v d := by
  cases r with
  | cons a b => cases b; exact ⟨_, rfl, a⟩
theorem lm_idx : LndM K (fun x xs H Q => ∃ a b i rest, x = .str a ∧ xs = [.str b] ∧ Builtin.Str.occurrences a b 0 a.length 1 = i :: rest ∧ Q (.int (i : Nat)) H) idxD where
  mo := fun {a l q q'} k h => by
    unfold idxD at h ⊢
    split at h
    · obtain ⟨i, h1, h2⟩ := h; exact ⟨i, h1, k _ h2⟩
    · exact h.elim
  go := fun H G a vs l q Q e r h k => by
    unfold idxD at h
    split at h
    · rename_i b
      obtain ⟨i, ⟨rest, ho⟩, hq⟩ := h
      obtain ⟨v, rfl, rv⟩ := one_repM r
      cases rv
      exact ⟨a, b, i, rest, rfl, rfl, ho, k _ _ hq (.int _)⟩
    · exact h.elim
theorem lm_cnt : LndM K (fun x xs H Q => ∃ a b, x = .str a ∧ xs = [.str b] ∧ Q (.int (Txt.count a b)) H) cntD where
  mo := fun {a l q q'} k h => by
    unfold cntD at h ⊢
    split at h
    · exact k _ h
    · exact h.elim
  go := fun H G a vs l q Q e r h k => by
    unfold cntD at h
    split at h
    · rename_i b
      obtain ⟨v, rfl, rv⟩ := one_repM r
      cases rv
      exact ⟨a, b, rfl, rfl, k _ _ h (.int _)⟩
    · exact h.elim
theorem lm_join : LndM K (fun x xs H Q => ∃ a p, ∃ ys : List Str, x = .str a ∧ xs = [.ref p] ∧ (SqL K H p (ys.map V.str) ∨ SqT K H p (ys.map V.str)) ∧
    (ys.map (·.length)).sum + ys.length * a.length ≤ 16777216 ∧ Q (.str (Txt.join a ys)) H) joinD where
  mo := fun {a l q q'} k h => by
    unfold joinD at h ⊢
    split at h
    · obtain ⟨ys, h1, h2, h3⟩ := h; exact ⟨ys, h1, h2, k _ h3⟩
    · exact h.elim
  go := fun H G a vs l q Q e r h k => by
    unfold joinD at h
    split at h
    · rename_i l'
      obtain ⟨ys, rfl, hz, hq⟩ := h
      obtain ⟨v, rfl, rv⟩ := one_repM r
      cases rv with
      | @lst p us _ s r =>
        have e2 := RepL.strs (ns := ys) r
        rw [e2] at s
        exact ⟨a, p, ys, rfl, rfl, .inl (sqLE e (.inl (.inl s))), hz, k _ _ hq (.str _)⟩
    · exact h.elim
end
section
variable {X : Cx} {W : Wp ω} {apos pos : Pos} {o e : Expr} {to : TEZ ω} {ta : TAZ ω}
theorem z_tidx (ho : PEZ X W o to) (ha : PAZ X W [e] ta) (hbase : attributeBase o "index" X.env (eval o X.env) = eval o X.env := by rfl)
    (hfew : ((backTo pos (starEach [e] X.env)).all (fun x => !x.1) && (backToKw pos (keywordEach [] X.env)).all (fun x => x.1.isSome) && decide ([e].length + ([] : List Keyword).length + (if ([] : List Keyword).isEmpty then 0 else 1) < 30)) = true := by rfl)
    (hline : (apos.endLine == pos.line) = true := by rfl) (hs : starEach [e] X.env = (false, eval e X.env) :: starEach [] X.env := by rfl) (hpl : (backTo pos (starEach [] X.env)).any (·.1) = false := by rfl) : PEZ X W (.Call (.Attribute o "index" apos) [e] [] pos) (zM idxD to ta) :=
  z_tm lm_idx mt_sindex F.slot_str_index F.type_str_index F.plainAttrs_str ho ha hbase hfew hline hs hpl
theorem z_tcnt (ho : PEZ X W o to) (ha : PAZ X W [e] ta) (hbase : attributeBase o "count" X.env (eval o X.env) = eval o X.env := by rfl)
    (hfew : ((backTo pos (starEach [e] X.env)).all (fun x => !x.1) && (backToKw pos (keywordEach [] X.env)).all (fun x => x.1.isSome) && decide ([e].length + ([] : List Keyword).length + (if ([] : List Keyword).isEmpty then 0 else 1) < 30)) = true := by rfl)
    (hline : (apos.endLine == pos.line) = true := by rfl) (hs : starEach [e] X.env = (false, eval e X.env) :: starEach [] X.env := by rfl) (hpl : (backTo pos (starEach [] X.env)).any (·.1) = false := by rfl) : PEZ X W (.Call (.Attribute o "count" apos) [e] [] pos) (zM cntD to ta) :=
  z_tm lm_cnt mt_count F.slot_str_count F.type_str_count F.plainAttrs_str ho ha hbase hfew hline hs hpl
theorem z_tjoin (ho : PEZ X W o to) (ha : PAZ X W [e] ta) (hbase : attributeBase o "join" X.env (eval o X.env) = eval o X.env := by rfl)
    (hfew : ((backTo pos (starEach [e] X.env)).all (fun x => !x.1) && (backToKw pos (keywordEach [] X.env)).all (fun x => x.1.isSome) && decide ([e].length + ([] : List Keyword).length + (if ([] : List Keyword).isEmpty then 0 else 1) < 30)) = true := by rfl)
    (hline : (apos.endLine == pos.line) = true := by rfl) (hs : starEach [e] X.env = (false, eval e X.env) :: starEach [] X.env := by rfl) (hpl : (backTo pos (starEach [] X.env)).any (·.1) = false := by rfl) : PEZ X W (.Call (.Attribute o "join" apos) [e] [] pos) (zM joinD to ta) :=
  z_tm lm_join mt_join F.slot_str_join F.type_str_join F.plainAttrs_str ho ha hbase hfew hline hs hpl
end
end Z

namespace Z
open PySem PySem.Spec PyProof.Rows L2 TL
variable {ω : Type}
/-! ### one sign in a text -/
def inS1 : OpD := fun x y q => match x, y with | .str x, .str z => ∃ c, x = ⟨#[c]⟩ ∧ q (.bl (decide (c ∈ z.cps.toList))) | _, _ => False
def notInS1 : OpD := fun x y q => match x, y with | .str x, .str z => ∃ c, x = ⟨#[c]⟩ ∧ q (.bl (!decide (c ∈ z.cps.toList))) | _, _ => False
section
variable {K : PySem.W.Frag}
theorem l_inS1 : Lnd K (fun x y H Q => ∃ (c : Nat) (z : Str), x = .str ⟨#[c]⟩ ∧ y = .str z ∧ Q (.bl (decide (c ∈ z.cps.toList))) H) inS1 where
  mo := fun {x y q q'} k h => by
    unfold inS1 at h ⊢
    split at h
    · obtain ⟨c, h1, h2⟩ := h; exact ⟨c, h1, k _ h2⟩
    · exact h.elim
  go := fun H G x y dx dy q Q e rx ry h k _ => by
    unfold inS1 at h
    split at h
    · obtain ⟨c, rfl, h2⟩ := h
      cases rx; cases ry
      exact ⟨c, _, rfl, rfl, k _ _ h2 (.bl _)⟩
    · exact h.elim
theorem l_notInS1 : Lnd K (fun x y H Q => ∃ (c : Nat) (z : Str), x = .str ⟨#[c]⟩ ∧ y = .str z ∧ Q (.bl (!decide (c ∈ z.cps.toList))) H) notInS1 where
  mo := fun {x y q q'} k h => by
    unfold notInS1 at h ⊢
    split at h
    · obtain ⟨c, h1, h2⟩ := h; exact ⟨c, h1, k _ h2⟩
    · exact h.elim
  go := fun H G x y dx dy q Q e rx ry h k _ => by
    unfold notInS1 at h
    split at h
    · obtain ⟨c, rfl, h2⟩ := h
      cases rx; cases ry
      exact ⟨c, _, rfl, rfl, k _ _ h2 (.bl _)⟩
    · exact h.elim
end
/-! ### split -/
def zSplit (to : TEZ ω) (ta : TAZ ω) : TAZ ω := fun δ w Q E => to δ w (fun x w1 => match x with
  | .str a => ta δ w1 (fun l w2 => match l with | [.str b] => ((b.length == 0) = false ∧ a.length ≤ 1000000) ∧ Q ((Txt.split a b).map D.str) w2 | _ => False) E
  | _ => False) E
theorem repL_str {K : PySem.W.Frag} {G : Hp} : ∀ ys : List Str, RepL K G (ys.map V.str) (ys.map D.str) := RepL.ofStrs
section
variable {X : Cx} {W : Wp ω} {apos pos : Pos} {o e : Expr} {to : TEZ ω} {ta : TAZ ω}
theorem zsplit_mo (ho : PEZ X W o to) (ha : PAZ X W [e] ta) : Mo (zSplit to ta) := fun k h => ho.mo (fun x w1 h1 => by
  cases x with
  | str a => exact ha.mo (fun l w2 h2 => by
      split at h2
      · exact ⟨h2.1, k _ _ h2.2⟩
      · exact h2.elim) h1
  | _ => exact False.elim h1) h
theorem z_tsplit (ho : PEZ X W o to) (ha : PAZ X W [e] ta) (hbase : attributeBase o "split" X.env (eval o X.env) = eval o X.env := by rfl)
    (hfew : ((backTo pos (starEach [e] X.env)).all (fun x => !x.1) && (backToKw pos (keywordEach [] X.env)).all (fun x => x.1.isSome) && decide ([e].length + ([] : List Keyword).length + (if ([] : List Keyword).isEmpty then 0 else 1) < 30)) = true := by rfl)
    (hline : (apos.endLine == pos.line) = true := by rfl) (hs : starEach [e] X.env = (false, eval e X.env) :: starEach [] X.env := by rfl) (hpl : (backTo pos (starEach [] X.env)).any (·.1) = false := by rfl) : PFZ X W (.Call (.Attribute o "split" apos) [e] [] pos) (zSplit to ta) :=
  ⟨zsplit_mo ho ha, fun Z ex tk => peI (pe_bm F.plainAttrs_str F.slot_str_split F.type_str_split mt_split (ho.run Z ex tk) (ha.run Z ex tk) hbase hfew hline hs hpl) fun σ H Q ⟨G, M, δ, w, a0, h⟩ => by
    refine ⟨G, M, δ, w, a0, ho.mo (fun d w1 h1 v H1 G1 M1 o1 r1 => ?_) h⟩
    cases d with
    | str a =>
      cases r1
      refine ⟨rfl, G1, M1, δ, w1, a0.go o1, ha.mo (fun l w2 h2 vs H2 G2 M2 o2 r2 => ?_) h1⟩
      split at h2
      · rename_i b
        obtain ⟨v, rfl, rv⟩ := one_repM r2
        cases rv
        exact ⟨a, b, rfl, rfl, h2.1.1, by rw [sizeLine_eq]; omega, fun p hp => h2.2 p _ _ _ _ ((o1.tr o2).laid hp) (RepL.ofStrs _) (.of (o1.tr o2) a0.pt.mh hp)⟩
      · exact h2.elim
    | _ => exact False.elim h1⟩
end
/-! ### parts of a text -/
theorem tl_cut0 (z : Str) : tl (cutS z none (some 1)) = (tl z).take 1 := by
  have e : HT.sIx z.length z.length (some 1) = min 1 z.length := HT.sIx_nat z.length z.length 1
  unfold cutS
  rw [e]
  show ((tl z).drop 0).take (min 1 z.length - 0) = _
  rw [List.drop_zero, Nat.sub_zero, len_tl]
  cases tl z with
  | nil => rfl
  | cons c r => rw [List.length_cons, show min 1 (r.length + 1) = 1 by omega]
theorem tl_cut1 (z : Str) : tl (cutS z (some 1) none) = (tl z).drop 1 := by
  have e : HT.sIx z.length 0 (some 1) = min 1 z.length := HT.sIx_nat z.length 0 1
  unfold cutS
  rw [e]
  show ((tl z).drop (min 1 z.length)).take (z.length - min 1 z.length) = _
  rw [len_tl]
  cases tl z with
  | nil => rfl
  | cons c r =>
    rw [List.length_cons, show min 1 (r.length + 1) = 1 by omega]
    show List.take (r.length + 1 - 1) r = r
    exact List.take_of_length_le (by omega)
/-! ### the text of a whole number -/
def tx (i : Int) : Str := Str.ofString (toString i)
/-- its figures -/
def fg (i : Int) : Str := ⟨(numL i.natAbs).toArray⟩
theorem tl_fg (i : Int) : tl (fg i) = numL i.natAbs := rfl
theorem tx_nn {i : Int} (h : 0 ≤ i) : tx i = fg i := ext_tl (by
  obtain ⟨n, rfl⟩ := Int.eq_ofNat_of_zero_le h
  exact tl_num n)
theorem tl_tx_neg {i : Int} (h : i < 0) : tl (tx i) = 45 :: numL i.natAbs := by
  unfold tx
  rw [PyProof.Rows.toString_neg h, tl_ofString, String.toList_append, List.map_append]
  have e : (0 - i) = ((i.natAbs : Nat) : Int) := by omega
  have e2 := tl_num i.natAbs
  rw [tl_ofString] at e2
  rw [e, e2]
  rfl
theorem tx_cut0 (i : Int) : cutS (tx i) none (some 1) = Str.ofString "-" ↔ i < 0 := by
  constructor
  · intro h
    refine Int.lt_of_not_ge fun c => ?_
    have e := congrArg tl h
    rw [tl_cut0, tx_nn c, tl_fg] at e
    have e : (numL i.natAbs).take 1 = [45] := e
    have hm : 45 ∈ numL i.natAbs := List.mem_of_mem_take (by rw [e]; exact List.mem_singleton.mpr rfl)
    exact numL_free (by decide) hm
  · intro h
    refine ext_tl ?_
    rw [tl_cut0, tl_tx_neg h]
    rfl
theorem tx_cut1 {i : Int} (h : i < 0) : cutS (tx i) (some 1) none = fg i := ext_tl (by rw [tl_cut1, tl_tx_neg h]; rfl)
theorem numL_len2 {n k : Nat} (h : n < 2 ^ (3 * k)) (hk : 0 < k) : (numL n).length ≤ k := numL_len hk (Nat.lt_of_lt_of_le h (by
  rw [Nat.pow_mul]
  exact Nat.pow_le_pow_left (by decide) k))
theorem fg_len {i : Int} (h : Sm 1900 i) : (numL i.natAbs).length ≤ 634 := numL_len2 (Nat.lt_of_lt_of_le h (Nat.pow_le_pow_right (by decide) (by decide))) (by decide)
theorem tx_length {i : Int} (h : Sm 1900 i) : (tx i).length ≤ 635 := by
  have := fg_len h
  rw [len_tl]
  by_cases c : i < 0
  · rw [tl_tx_neg c, List.length_cons]; omega
  · rw [tx_nn (by omega), tl_fg]; omega
theorem tx_int {i : Int} (h : Sm 1900 i) : PySem.intText? (tx i) = some i := by
  have hl := fg_len h
  by_cases c : i < 0
  · have e := intText_neg (x := tx i) (cs := numL i.natAbs) (tl_tx_neg c) (numL_digits _) (numL_ne _) (by have := tx_length h; omega)
    rw [numL_val] at e
    rw [e, show -((i.natAbs : Nat) : Int) = i by omega]
  · have e := int_num (n := i.natAbs) (by omega)
    rw [show ((i.natAbs : Nat) : Int) = i by omega] at e
    exact e
theorem fg_ne (i : Int) : fg i ≠ Str.ofString "" := fun h => numL_ne i.natAbs (congrArg tl h)
theorem numL_head : ∀ (n : Nat), ∃ c r, numL n = c :: r ∧ (c = 48 → n = 0) := by
  intro n
  induction n using Nat.strongRecOn with
  | _ n ih =>
    by_cases h : n < 10
    · exact ⟨48 + n, [], numL_lt h, fun e => by omega⟩
    · obtain ⟨c, r, e1, e2⟩ := ih (n / 10) (by omega)
      refine ⟨c, r ++ [48 + n % 10], by rw [numL_step (by omega), e1]; rfl, fun e => ?_⟩
      have := e2 e
      omega
theorem fg_at (i : Int) : ∃ c, atI (fg i).cps.toList 0 = some c ∧ (c = 48 → i = 0) := by
  obtain ⟨c, r, e1, e2⟩ := numL_head i.natAbs
  refine ⟨c, ?_, fun e => by have := e2 e; omega⟩
  show atI (numL i.natAbs) 0 = some c
  rw [e1]
  unfold atI ixN
  rw [if_pos (Int.le_refl 0), if_pos (by rw [List.length_cons]; omega)]
  rfl
theorem tx_free {i : Int} {c : Nat} (h : c ≠ 45 ∧ (c < 48 ∨ 57 < c)) : c ∉ tl (tx i) := PyProof.Rows.int_text_free' c h i
/-- texts of whole numbers, put together by blanks and split again -/
theorem split_nums {is : List Int} (h : is ≠ []) : Txt.split (Txt.join (Str.ofString " ") (is.map tx)) (Str.ofString " ") = is.map tx :=
  split_join (s := 32) (S := []) rfl (by decide +kernel) (fun e => h (List.map_eq_nil_iff.mp e)) fun p hp => by
    obtain ⟨i, _, rfl⟩ := List.mem_map.mp hp
    exact tx_free ⟨by decide, by decide⟩
end Z

namespace Z
open PySem PySem.Spec PyProof.Rows L2
variable {ω : Type}
/-! ### t + u and t[lo:hi], tuples of any length -/
def catD : OpD := fun x y q => match x, y with
  | .tup l, .tup m => l.length + m.length ≤ 100000 ∧ q (.tup (l ++ m))
  | _, _ => False
theorem l_catA {K : PySem.W.Frag} : Lnd K (rCatA K) catD where
  mo := fun {x y q q'} k h => by
    unfold catD at h ⊢
    split at h
    · exact ⟨h.1, k _ h.2⟩
    · exact h.elim
  go := fun H G x y dx dy q Q e rx ry h k k' => by
    unfold catD at h
    split at h
    · cases rx with
      | tup sx rx =>
        cases ry with
        | tup sy ry =>
          refine ⟨_, _, _, _, rfl, rfl, sqTE e sx, sqTE e sy, sz1 (by rw [rx.len, ry.len]; exact h.1), fun z => ?_, fun _ z => ?_, fun _ _ p hp => k' _ _ p h.2 hp (rx.app ry)⟩
          · have := rx.nil_iff.mp z
            subst this
            exact k _ _ h.2 (.tup sy ry)
          · have := ry.nil_iff.mp z
            subst this
            rw [List.append_nil] at h
            exact k _ _ h.2 (.tup sx rx)
    · exact h.elim
section
variable {X : Cx} {W : Wp ω} {pos p2 : Pos} {e : Expr} {lo hi : Option Expr} {te : TEZ ω} {tl th : TOZ ω}
def zSlTA (te : TEZ ω) (tl th : TOZ ω) : TEZ ω := fun δ w Q E => te δ w (fun d w1 => tl δ w1 (fun a w2 => th δ w2 (fun b w3 => match d with | .tup l => Q (.tup (cutD l a b)) w3 | _ => False) E) E) E
theorem cut_whole {α : Type} {l : List α} {lo hi : Option Int} (h : HT.sIx l.length 0 lo = 0 ∧ HT.sIx l.length l.length hi = l.length) : (l.drop (HT.sIx l.length 0 lo)).take (HT.sIx l.length l.length hi - HT.sIx l.length 0 lo) = l := by
  rw [h.1, h.2]
  show l.take (l.length - 0) = l
  rw [Nat.sub_zero, List.take_length]
theorem z_slTA (he : PEZ X W e te) (hl : POZ X W lo tl) (hu : POZ X W hi th) : PEZ X W (.Subscript e (.Slice lo hi none p2) pos) (zSlTA te tl th) :=
  ⟨fun k h => he.mo (fun d _ h1 => hl.mo (fun _ _ h2 => hu.mo (fun _ _ h3 => by
    split at h3
    · exact k _ _ h3
    · exact h3.elim) h2) h1) h, fun Z ex tk => peI (pe_slice sl_tupA (he.run Z ex tk) (hl.run Z ex tk) (hu.run Z ex tk)) fun σ H Q ⟨G, M, δ, w, a, h⟩ =>
    ⟨G, M, δ, w, a, he.mo (fun d w1 h1 v H1 G1 M1 o1 r1 => ⟨G1, M1, δ, w1, a.go o1, hl.mo (fun lo w2 h2 H2 G2 M2 o2 => ⟨G2, M2, δ, w2, a.go (o1.tr o2), hu.mo (fun hi w3 h3 H3 G3 M3 o3 => by
      cases d with
      | tup l =>
        cases r1 with
        | @tup p vs _ s r =>
          have e3 := (o2.tr o3).nx.gg
          refine ⟨p, vs, rfl, sqTE (e3.tr o3.pt.gh) s, fun hw => ?_, fun _ p' hp => ?_⟩
          · rw [r.len] at hw
            have h4 : Q (.ref p) H3 := by
              have := h3 (.ref p) H3 G3 M3 ((o1.tr o2).tr o3)
              have e4 : cutD l lo hi = l := cut_whole hw
              rw [e4] at this
              exact this (.tup (sqTE e3 s) (r.up e3))
            exact h4
          · have r3 : RepL X.K G3 (cutV vs lo hi) (cutD l lo hi) := by
              unfold cutV cutD
              rw [r.len]
              exact (((r.up e3).drop _).take _)
            exact h3 (.ref p') _ _ _ (((o1.tr o2).tr o3).new hp) (.tup (SqT.of upd_same) (r3.up (o3.ext hp)))
      | _ => exact h3.elim) h2⟩) h1⟩) h⟩⟩
end
end Z

namespace Z
open PySem PySem.Spec PyProof.Rows L2 TL
/-! ### a number out of single figures -/
theorem dg1 {i : Int} (h0 : 0 ≤ i) (h1 : i < 10) : TL.tl (tx i) = [48 + i.toNat] := by
  have : i = 0 ∨ i = 1 ∨ i = 2 ∨ i = 3 ∨ i = 4 ∨ i = 5 ∨ i = 6 ∨ i = 7 ∨ i = 8 ∨ i = 9 := by omega
  rcases this with rfl | rfl | rfl | rfl | rfl | rfl | rfl | rfl | rfl | rfl <;> decide +kernel
theorem joinL_nil : ∀ ps : List (List Nat), TL.joinL [] ps = ps.flatten
  | [] => rfl
  | [p] => by show p = _; simp
  | p :: q :: ps => by
    show p ++ ([] ++ TL.joinL [] (q :: ps)) = _
    rw [joinL_nil (q :: ps)]
    rfl
theorem tl_digits : ∀ {is : List Int}, (∀ x ∈ is, 0 ≤ x ∧ x < 10) → ((is.map tx).map TL.tl).flatten = is.map fun i => 48 + i.toNat
  | [], _ => rfl
  | i :: is, h => by
    have ih := tl_digits (is := is) fun x hx => h x (List.mem_cons_of_mem _ hx)
    have hi := h i List.mem_cons_self
    rw [List.map_cons, List.map_cons, List.flatten_cons, ih, dg1 hi.1 hi.2]; rfl
theorem digs_sum : ∀ {is : List Int}, (∀ x ∈ is, 0 ≤ x ∧ x < 10) → ((is.map tx).map (·.length)).sum = is.length
  | [], _ => rfl
  | i :: is, h => by
    have ih := digs_sum (is := is) fun x hx => h x (List.mem_cons_of_mem _ hx)
    have hi := h i List.mem_cons_self
    have e : (tx i).length = 1 := by rw [TL.len_tl, dg1 hi.1 hi.2]; rfl
    rw [List.map_cons, List.map_cons, List.sum_cons, ih, e, List.length_cons]; omega
theorem dv_lt : ∀ (cs : List Nat) (acc : Nat), (∀ c ∈ cs, 48 ≤ c ∧ c ≤ 57) → cs.foldl (fun acc c => acc * 10 + (c - 48)) acc < (acc + 1) * 10 ^ cs.length
  | [], acc, _ => by show acc < (acc + 1) * 1; omega
  | c :: cs, acc, h => by
    have ih := dv_lt cs (acc * 10 + (c - 48)) fun x hx => h x (List.mem_cons_of_mem _ hx)
    have hc := h c List.mem_cons_self
    show cs.foldl _ (acc * 10 + (c - 48)) < _
    refine Nat.lt_of_lt_of_le ih ?_
    rw [List.length_cons, Nat.pow_succ, Nat.mul_comm (10 ^ cs.length) 10, ← Nat.mul_assoc]
    exact Nat.mul_le_mul_right _ (by omega)
theorem join_digits {is : List Int} (hne : is ≠ []) (h : ∀ x ∈ is, 0 ≤ x ∧ x < 10) (h60 : is.length ≤ 60) : ∃ v : Int, PySem.intText? (Txt.join ("" : Str) (is.map tx)) = some v ∧ (Txt.join ("" : Str) (is.map tx)).length ≤ 640 ∧ (0 ≤ v ∧ v < 10 ^ 60) := by
  have e : TL.tl (Txt.join ("" : Str) (is.map tx)) = is.map fun i => 48 + i.toNat := by
    rw [TL.join_eq, TL.tl_join, show TL.tl ("" : Str) = [] by decide, joinL_nil, tl_digits h]
  have hl : (Txt.join ("" : Str) (is.map tx)).length = is.length := by rw [TL.len_tl, e, List.length_map]
  have hd : ∀ c ∈ TL.tl (Txt.join ("" : Str) (is.map tx)), 48 ≤ c ∧ c ≤ 57 := fun c hc => by
    rw [e] at hc
    obtain ⟨i, hi, rfl⟩ := List.mem_map.mp hc
    have := h i hi
    omega
  refine ⟨_, PySem.intText_digits hd (fun z => ?_) (by rw [hl]; omega), by rw [hl]; omega, Int.natCast_nonneg _, ?_⟩
  · have z2 : TL.tl (Txt.join ("" : Str) (is.map tx)) = [] := z
    rw [e] at z2
    exact hne (List.map_eq_nil_iff.mp z2)
  · have b := dv_lt _ 0 hd
    have e2 : (TL.tl (Txt.join ("" : Str) (is.map tx))).length = is.length := by rw [e, List.length_map]
    rw [e2] at b
    have b2 : (10 : Nat) ^ is.length ≤ 10 ^ 60 := Nat.pow_le_pow_right (by decide) h60
    have b3 : NumText.digitsVal (TL.tl (Txt.join ("" : Str) (is.map tx))) < 10 ^ 60 := Nat.lt_of_lt_of_le b (by omega)
    show ((NumText.digitsVal (TL.tl (Txt.join ("" : Str) (is.map tx))) : Nat) : Int) < 10 ^ 60
    exact_mod_cast b3
end Z

namespace Z
/-! ### papers: the rows of a sum -/
abbrev Rw := Int × Int × Int × Int
/-- how many turned places row r has -/
def manyR (r : Rw) : Int := (r.2.1 % r.2.2.2 * r.1 + r.2.2.1 % r.2.2.2) / r.2.2.2
/-- the row behind r -/
def nextR (r : Rw) : Rw := (manyR r, (r.2.2.2, (r.2.1 % r.2.2.2 * r.1 + r.2.2.1 % r.2.2.2) % r.2.2.2, r.2.1 % r.2.2.2))
def ownR (r : Rw) : Int := r.2.1 / r.2.2.2 * tri r.1 + r.2.2.1 / r.2.2.2 * r.1
def sumR (r : Rw) : Int := FS r.2.1 r.2.2.1 r.2.2.2 r.1.toNat
inductive Chain : Rw → List Rw → Prop
  | last {r : Rw} : manyR r = 0 → Chain r [r]
  | more {r : Rw} {l : List Rw} : manyR r ≠ 0 → Chain (nextR r) l → Chain r (r :: l)
structure RwOk (s : Nat) (r : Rw) : Prop where
  m1 : 1 ≤ r.2.2.2
  n0 : 0 ≤ r.1
  sa : Sm s r.2.1
  sb : Sm s r.2.2.1
  sm : Sm s r.2.2.2
  sn : Sm s r.1
section
variable {s : Nat} {r : Rw}
theorem RwOk.rests (h : RwOk s r) : (0 ≤ r.2.1 % r.2.2.2 ∧ r.2.1 % r.2.2.2 < r.2.2.2) ∧ (0 ≤ r.2.2.1 % r.2.2.2 ∧ r.2.2.1 % r.2.2.2 < r.2.2.2) := by
  have := h.m1
  exact ⟨⟨Int.emod_nonneg _ (by omega), Int.emod_lt_of_pos _ (by omega)⟩, Int.emod_nonneg _ (by omega), Int.emod_lt_of_pos _ (by omega)⟩
theorem RwOk.many (h : RwOk s r) : 0 ≤ manyR r ∧ manyR r ≤ r.1 := by
  obtain ⟨⟨a0, a1⟩, b0, b1⟩ := h.rests
  have m1 := h.m1
  have n0 := h.n0
  unfold manyR
  have p0 : 0 ≤ r.2.1 % r.2.2.2 * r.1 := Int.mul_nonneg a0 n0
  refine ⟨Int.ediv_nonneg (by omega) (by omega), ?_⟩
  have h1 : r.2.1 % r.2.2.2 * r.1 ≤ (r.2.2.2 - 1) * r.1 := Int.mul_le_mul_of_nonneg_right (by omega) n0
  rw [Int.sub_mul, Int.one_mul] at h1
  have h2 : (r.2.1 % r.2.2.2 * r.1 + r.2.2.1 % r.2.2.2) < (r.1 + 1) * r.2.2.2 := by
    rw [Int.add_mul, Int.one_mul, Int.mul_comm r.1]; omega
  have := (Int.ediv_lt_iff_lt_mul (show 0 < r.2.2.2 by omega)).mpr h2
  omega
theorem RwOk.pos (h : RwOk s r) (hm : manyR r ≠ 0) : 1 ≤ r.2.1 % r.2.2.2 := by
  obtain ⟨⟨a0, a1⟩, b0, b1⟩ := h.rests
  rcases Int.lt_or_eq_of_le a0 with q | q
  · omega
  · refine absurd ?_ hm
    unfold manyR
    rw [← q, Int.zero_mul, Int.zero_add]
    exact Int.ediv_eq_zero_of_lt b0 b1
theorem RwOk.next (h : RwOk s r) (hm : manyR r ≠ 0) : RwOk s (nextR r) := by
  obtain ⟨⟨a0, a1⟩, b0, b1⟩ := h.rests
  have m1 := h.m1
  have r0 := Int.emod_nonneg (r.2.1 % r.2.2.2 * r.1 + r.2.2.1 % r.2.2.2) (show r.2.2.2 ≠ 0 by omega)
  have r1 := Int.emod_lt_of_pos (r.2.1 % r.2.2.2 * r.1 + r.2.2.1 % r.2.2.2) (show 0 < r.2.2.2 by omega)
  exact ⟨h.pos hm, h.many.1, h.sm, h.sm.of_le r0 (Int.le_of_lt r1), h.sm.of_le a0 (Int.le_of_lt a1), h.sn.of_le h.many.1 h.many.2⟩
theorem RwOk.sum_last (h : RwOk s r) (hm : manyR r = 0) : sumR r = ownR r := by
  obtain ⟨⟨a0, a1⟩, b0, b1⟩ := h.rests
  have e := FS_laid (show 0 < r.2.2.2 by have := h.m1; omega) r.2.1 r.2.2.1 r.1.toNat
  have hn : ((r.1.toNat : Nat) : Int) = r.1 := by have := h.n0; omega
  rw [FS_none a0 a1 b0 b1 (by rw [hn]; exact hm), hn] at e
  unfold sumR ownR
  omega
theorem RwOk.sum_more (h : RwOk s r) (hm : manyR r ≠ 0) : sumR r = ownR r + sumR (nextR r) := by
  obtain ⟨⟨a0, a1⟩, b0, b1⟩ := h.rests
  have e := FS_laid (show 0 < r.2.2.2 by have := h.m1; omega) r.2.1 r.2.2.1 r.1.toNat
  have hn : ((r.1.toNat : Nat) : Int) = r.1 := by have := h.n0; omega
  have t := FS_turn (show 0 < r.2.1 % r.2.2.2 by have := h.pos hm; omega) a1 b0 b1 r.1.toNat
  rw [hn] at e t
  have t2 : sumR (nextR r) = FS r.2.2.2 ((r.2.1 % r.2.2.2 * r.1 + r.2.2.1 % r.2.2.2) % r.2.2.2) (r.2.1 % r.2.2.2) ((r.2.1 % r.2.2.2 * r.1 + r.2.2.1 % r.2.2.2) / r.2.2.2).toNat := rfl
  rw [t2, ← t]
  unfold sumR ownR
  omega
end
theorem chain_ex {s : Nat} : ∀ (k : Nat) (r : Rw), RwOk s r → r.2.2.2 ≤ k → ∃ l, Chain r l ∧ ∀ q ∈ l, RwOk s q
  | 0, r, h, hk => by have := h.m1; omega
  | k + 1, r, h, hk => by
    by_cases hm : manyR r = 0
    · exact ⟨[r], .last hm, fun q hq => by rw [List.mem_singleton.mp hq]; exact h⟩
    · have h2 := h.next hm
      have lt : (nextR r).2.2.2 ≤ k := by have := h.rests.1.2; show r.2.1 % r.2.2.2 ≤ k; omega
      obtain ⟨l, hl, hq⟩ := chain_ex k (nextR r) h2 lt
      exact ⟨r :: l, .more hm hl, fun q hq2 => (List.mem_cons.mp hq2).elim (fun e => e ▸ h) (hq q)⟩
theorem Chain.uniq {r : Rw} {l : List Rw} (h : Chain r l) : ∀ {k : List Rw}, Chain r k → l = k := by
  induction h with
  | last hm =>
    intro k hk
    cases hk with
    | last _ => rfl
    | more hm2 _ => exact absurd hm hm2
  | more hm _ ih =>
    intro k hk
    cases hk with
    | last hm2 => exact absurd hm2 hm
    | more _ hk2 => rw [ih hk2]
/-- the sum of a row, told by the rows behind it -/
theorem Chain.sums {s : Nat} {r : Rw} {l : List Rw} (h : Chain r l) : (∀ q ∈ l, RwOk s q) → ∀ (i : Nat) (q : Rw), l[i]? = some q → sumR q = ownR q + (match l[i + 1]? with | some p => sumR p | none => 0) := by
  induction h with
  | @last r hm =>
    intro hq i q hi
    cases i with
    | zero =>
      cases hi
      show sumR r = ownR r + 0
      rw [(hq r List.mem_cons_self).sum_last hm]; omega
    | succ i => exact absurd hi (by simp)
  | @more r l hm hc ih =>
    intro hq i q hi
    cases i with
    | zero =>
      cases hi
      rw [(hq r List.mem_cons_self).sum_more hm]
      cases hc with
      | last _ => rfl
      | more _ _ => rfl
    | succ i => exact ih (fun q hq2 => hq q (List.mem_cons_of_mem _ hq2)) i q hi
theorem Chain.len {s : Nat} : ∀ (k : Nat) {r : Rw} {l : List Rw}, Chain r l → (∀ q ∈ l, RwOk s q) → r.2.2.2 < 2 ^ k → l.length ≤ 2 * k
  | 0, r, l, h, hq, hk => by
    have hk : r.2.2.2 < 1 := hk
    have hr : r ∈ l := by cases h <;> exact List.mem_cons_self
    have := (hq r hr).m1
    omega
  | k + 1, r, l, h, hq, hk => by
    cases h with
    | last _ => simp only [List.length_cons, List.length_nil]; omega
    | more hm h1 =>
      cases h1 with
      | last _ => simp only [List.length_cons, List.length_nil]; omega
      | more hm2 h2 =>
        have h0 := hq r List.mem_cons_self
        have p := h0.pos hm
        have lt := h0.rests.1.2
        have e : (nextR (nextR r)).2.2.2 = r.2.2.2 % (r.2.1 % r.2.2.2) := rfl
        have d := Int.mul_ediv_add_emod r.2.2.2 (r.2.1 % r.2.2.2)
        have m1 := Int.emod_lt_of_pos r.2.2.2 (show 0 < r.2.1 % r.2.2.2 by omega)
        have g : 1 ≤ r.2.2.2 / (r.2.1 % r.2.2.2) := Int.le_ediv_of_mul_le (by omega) (by omega)
        have g2 := Int.mul_le_mul_of_nonneg_left g (show 0 ≤ r.2.1 % r.2.2.2 by omega)
        rw [Int.mul_one] at g2
        have ih := Chain.len k h2 (fun q hq2 => hq q (List.mem_cons_of_mem _ (List.mem_cons_of_mem _ hq2))) (by
          rw [e]
          have : (2 : Int) ^ (k + 1) = 2 * 2 ^ k := by rw [Int.pow_succ, Int.mul_comm]
          omega)
        simp only [List.length_cons]
        omega
def headS (l : List Rw) : Int := match l[0]? with | some p => sumR p | none => 0
theorem Chain.head {r : Rw} {l : List Rw} (h : Chain r l) : l[0]? = some r := by cases h <;> rfl
end Z

namespace Z
/-! ### papers looked at -/
abbrev Rx := Rw × Int
def pxs (L : List Rw) : List Rx := L.map fun r => (r, sumR r)
inductive Chk : List Rx → Prop
  | last {r : Rw} {s : Int} : 1 ≤ r.2.2.2 → 0 ≤ r.1 → manyR r = 0 → s - ownR r = 0 → Chk [(r, s)]
  | more {r : Rw} {s : Int} {l : List Rx} : 1 ≤ r.2.2.2 → 0 ≤ r.1 → manyR r ≠ 0 → Chk ((nextR r, s - ownR r) :: l) → Chk ((r, s) :: (nextR r, s - ownR r) :: l)
theorem Chk.nil : ¬ Chk [] := fun h => nomatch h
theorem Chk.pos {x : Rx} {l : List Rx} (h : Chk (x :: l)) : 1 ≤ x.1.2.2.2 ∧ 0 ≤ x.1.1 := by cases h <;> exact ⟨by assumption, by assumption⟩
theorem Chk.end {x : Rx} {l : List Rx} (h1 : 1 ≤ x.1.2.2.2) (h2 : 0 ≤ x.1.1) (hm : manyR x.1 = 0) : Chk (x :: l) ↔ l = [] ∧ x.2 - ownR x.1 = 0 := by
  refine ⟨fun h => ?_, fun ⟨e, h⟩ => ?_⟩
  · cases h with
    | last _ _ _ g => exact ⟨rfl, g⟩
    | more _ _ g _ => exact absurd hm g
  · subst e; exact .last h1 h2 hm h
theorem Chk.on {x : Rx} {l : List Rx} (h1 : 1 ≤ x.1.2.2.2) (h2 : 0 ≤ x.1.1) (hm : manyR x.1 ≠ 0) : Chk (x :: l) ↔ l[0]? = some (nextR x.1, x.2 - ownR x.1) ∧ Chk l := by
  refine ⟨fun h => ?_, fun ⟨e, h⟩ => ?_⟩
  · cases h with
    | last _ _ g _ => exact absurd g hm
    | more _ _ _ g => exact ⟨rfl, g⟩
  · cases l with
    | nil => cases e
    | cons y l => cases e; exact .more h1 h2 hm h
theorem Chk.told {s : Nat} {r : Rw} {L : List Rw} (h : Chain r L) : (∀ q ∈ L, RwOk s q) → ∀ {t : Int} {rows : List Rx}, Chk rows → rows[0]? = some (r, t) → rows = pxs L ∧ t = sumR r := by
  induction h with
  | @last r hm =>
    intro hq t rows hc h0
    have ok := hq r List.mem_cons_self
    cases hc with
    | last _ _ _ g => cases h0; have := ok.sum_last hm; exact ⟨by unfold pxs; rw [List.map_cons, show t = sumR r by omega]; rfl, by omega⟩
    | more _ _ g _ => cases h0; exact absurd hm g
  | @more r l hm hn ih =>
    intro hq t rows hc h0
    have ok := hq r List.mem_cons_self
    cases hc with
    | last _ _ g _ => cases h0; exact absurd g hm
    | more _ _ _ g =>
      cases h0
      obtain ⟨e, f⟩ := ih (fun q hq2 => hq q (List.mem_cons_of_mem _ hq2)) g rfl
      have := ok.sum_more hm
      have et : t = sumR r := by omega
      refine ⟨?_, et⟩
      rw [e, et]; rfl
theorem Chk.paper {s : Nat} {r : Rw} {L : List Rw} (h : Chain r L) : (∀ q ∈ L, RwOk s q) → Chk (pxs L) := by
  induction h with
  | @last r hm =>
    intro hq
    have ok := hq r List.mem_cons_self
    exact .last ok.m1 ok.n0 hm (by have := ok.sum_last hm; omega)
  | @more r l hm hn ih =>
    intro hq
    have ok := hq r List.mem_cons_self
    have g := ih fun q hq2 => hq q (List.mem_cons_of_mem _ hq2)
    have e : sumR (nextR r) = sumR r - ownR r := by have := ok.sum_more hm; omega
    have hd := hn.head
    unfold pxs at g ⊢
    rw [List.map_cons, Chk.on ok.m1 ok.n0 hm]
    exact ⟨by rw [List.getElem?_map, hd, Option.map_some, e], g⟩
theorem Chk.iff {s : Nat} {r : Rw} {L : List Rw} (h : Chain r L) (hq : ∀ q ∈ L, RwOk s q) {t : Int} {rows : List Rx} : (Chk rows ∧ rows[0]? = some (r, t)) ↔ rows = pxs L ∧ t = sumR r := by
  refine ⟨fun ⟨g, e⟩ => Chk.told h hq g e, fun ⟨e, f⟩ => ?_⟩
  subst e f
  refine ⟨Chk.paper h hq, ?_⟩
  unfold pxs
  rw [List.getElem?_map, h.head]; rfl
theorem Chain.drop {r : Rw} {L : List Rw} (h : Chain r L) : ∀ (k : Nat) (q : Rw), L[k]? = some q → Chain q (L.drop k) := by
  induction h with
  | @last r hm =>
    intro k q hk
    cases k with
    | zero => cases hk; exact .last hm
    | succ k => exact absurd hk (by simp)
  | @more r l hm hc ih =>
    intro k q hk
    cases k with
    | zero => cases hk; exact .more hm hc
    | succ k => exact ih k q hk
end Z

namespace Z
open PySem PySem.Spec PyProof.Rows L2
variable {ω : Type}

/-! ### enumerate of a list, of a tuple -/
theorem mk_enumB {v : Value} {o : Obj} {Hq : Heap → Prop} (B : Begins v o Hq) :
    Meets (Builtin.«enumerate.__new__» ⟨[.type "enumerate", v], []⟩) (fun _ R s => Hq s.heap ∧
      R (.ok (.ret (.ref (s.heap.push o).objs.size))) { s with heap := (s.heap.push o).push { cls := .type "enumerate", data := .fields #[.none, .bool false, .ref s.heap.objs.size, rawInt 0, .none, .none] } }) :=
  .of_wp fun prog w A R s h => by
    obtain ⟨hp, g, dd, tk, ow⟩ := s; obtain ⟨h1, h⟩ := h
    have e1 := sub_enumerate
    have it1 : ∀ {A2 : Around} {E2 : Value → Shared → Prop} {Q2 : Value → Shared → Prop}, Q2 (.ref hp.objs.size) ⟨hp.push o, g, dd, tk, ow⟩ → wpAny (model prog w) A2 (pyIter v) Q2 E2 ⟨hp, g, dd, tk, ow⟩ :=
      fun q2 => B.iter prog w _ _ ⟨hp, g, dd, tk, ow⟩ _ h1 q2
    wp_walk using it1
    refine wpAny_stack_any fun k => wpAny_pure ?_
    split
    · rename_i c _ _ _ _ _
      cases (c == Value.type "enumerate")
      all_goals
        wp_walk using it1
        exact ⟨_, rfl, h⟩
    · wp_walk using it1; exact ⟨_, rfl, h⟩
theorem call_enumB {prog : Program} {w : World} {A : Around} {E : Value → Shared → Prop} {s : Shared} {v : Value} {o : Obj} {Hq : Heap → Prop} {Q : Value → Shared → Prop} (B : Begins v o Hq) (h1 : Hq s.heap)
    (h : ∀ h', IsEnum h' (s.heap.objs.size + 1) s.heap.objs.size 0 .none → h'.get? s.heap.objs.size = some o → (∀ b o2, s.heap.get? b = some o2 → h'.get? b = some o2) → Q (.ref (s.heap.objs.size + 1)) { s with heap := h' }) :
    wpAny (model prog w) A (call (.type "enumerate") [v]) Q E s := by
  refine callType_new F.called_enumerate (by decide) (F.typeCall_enumerate_1 _) (F.newCall_enumerate_1 _) (fun obj => F.args_object_init_2 obj _) F.entry_enumerate_new (mk_enumB B) ⟨h1, ?_⟩
  have hz : (s.heap.push o).objs.size = s.heap.objs.size + 1 := Heap.size_push ..
  show _ ∧ _; rw [hz]
  have he : IsEnum ((s.heap.push o).push { cls := .type "enumerate", data := .fields #[.none, .bool false, .ref s.heap.objs.size, rawInt 0, .none, .none] }) (s.heap.objs.size + 1) s.heap.objs.size 0 .none := by
    have q := Heap.get?_push_size (s.heap.push o) (o := { cls := .type "enumerate", data := .fields #[.none, .bool false, .ref s.heap.objs.size, rawInt 0, .none, .none] }) rfl
    rw [hz] at q; exact q
  exact ⟨⟨_, he, rfl⟩, h _ he (Heap.get?_push_of_some _ (Heap.get?_push_size _ B.free)) fun b o2 x => Heap.get?_push_of_some _ (Heap.get?_push_of_some _ x)⟩
/-- the tuple at a, each item in a new pair with its number -/
def IteT (K : PySem.W.Frag) (a : Addr) : It :=
  ⟨fun i H => ∃ (xs : List V) (x : V), SqT K H a xs ∧ xs[i]? = some x, fun i H v H' => ∃ T x, v = .ref T ∧ H T = none ∧ H' = upd H T (.tup [.int (i : Nat), x]) ∧ ∀ xs, SqT K H a xs → xs[i]? = some x, fun i H => ∃ xs : List V, SqT K H a xs ∧ xs.length = i⟩
theorem turn_enumT {P : Program} {w : World} {K : PySem.W.Frag} {elts : List Expr} {kk : Nat} {tpos : Pos} (a e it : Addr) :
    Turn P w K (.Tuple elts kk tpos) (IteT K a) [e, it] e (fun i h => (∃ old, IsEnum h e it ((i : Nat) : Int) old) ∧ h.IsTupleIter it a i ∧ e ≠ it ∧ e ≠ a ∧ a ≠ it) where
  mem := List.mem_cons_self
  obj := fun i h st b hb => by
    obtain ⟨⟨old, he⟩, ⟨o, ho, hc, hd⟩, _⟩ := st
    rcases List.mem_cons.mp hb with z | hb
    · rw [z]; exact ⟨_, he, fun v q => nomatch q⟩
    · rw [List.mem_singleton.mp hb]; exact ⟨o, ho, fun v q => by rw [hd] at q; cases q⟩
  keep := fun i h h' st k => let ⟨⟨old, he⟩, hi, hne⟩ := st; ⟨⟨old, k e (by simp) _ he⟩, hi.at fun o q => k it (by simp) o q, hne⟩
  item := by
    intro X hP hw hK hc i pins s σ H E I hf st hg; subst hP hw hK
    obtain ⟨⟨old, he⟩, hit, n1, n2, n3⟩ := st
    obtain ⟨xs, x, hq, hx⟩ := hg
    obtain ⟨its, rv, p, hz⟩ := I.tuple hq
    obtain ⟨u, hu, ru⟩ := rv.get hx
    have le : e < s.heap.objs.size := Heap.lt_size he
    have li : it < s.heap.objs.size := by obtain ⟨_, q, _⟩ := hit; exact Heap.lt_size q
    have hlt : i < its.toArray.size := by have := (List.getElem?_eq_some_iff.mp hu).1; simpa using this
    have nm : e ∉ [it, a] := by simp [n1, n2]
    refine wpAny_pyNext_enum_itemC (Draws.tuple (A := X.A.in1) (I.ok.hd hc) it a n3 its.toArray) he ⟨hit, p⟩ hlt n1 nm fun x2 h' tk hx2 ho hst hT hsz hk => ?_
    obtain rfl : u = x2 := by
      have hx2 : its.toArray[i]? = some x2 := hx2
      rw [List.getElem?_toArray, hu] at hx2
      exact Option.some.inj hx2
    refine ⟨_, rfl, wpAny_letOwnedTupleGo_enum (s := { s with heap := h', toks := tk + 1 }) ho fun h2 he2 sb => ?_⟩
    have hT2 : h2.get? s.heap.objs.size = some { cls := .type "tuple", data := .seq #[.int i tk, u] } := (sb.2 _ (Nat.ne_of_gt le)).trans hT
    have nw : ObjOk X.prog X.w (upd H s.heap.objs.size (.tup [.int (i : Nat), x])) h2 s.heap.objs.size (.tup [.int (i : Nat), x]) := ⟨by show 2 ≤ sizeLine; decide, [.int i tk, u], .cons ⟨_, rfl⟩ (.cons ru .nil), ⟨_, hT2, rfl, _, rfl⟩⟩
    have I1 : Inv X pins σ (upd H s.heap.objs.size (.tup [.int (i : Nat), x])) { s with heap := h2, toks := tk + 1 } :=
      I.turnedNew (ch := [e, it]) (fun b ob hb q => (sb.2 b (fun z => hb (by simp [z]))).trans (hk b ob (fun z => hb (by simp [z])) (fun z => hb (by simp [z])) q)) hf (Nat.le_refl _) nw
    refine ⟨.ref s.heap.objs.size, _, I1, rfl, ⟨_, x, rfl, I.hok.fresh (Nat.le_refl _), rfl, fun ys hy => by rw [I.tuple_inj hy hq]; exact hx⟩, ⟨⟨u, ?_⟩, hst.1.at fun o q => (sb.2 it (Ne.symm n1)).trans q, n1, n2, n3⟩, fun b hb => ?_⟩
    · rw [show ((i + 1 : Nat) : Int) = (i : Int) + 1 by omega]; exact he2
    · have hb' : b < s.heap.objs.size := by
        rcases List.mem_cons.mp hb with z | hb
        · rw [z]; exact le
        · rw [List.mem_singleton.mp hb]; exact li
      rw [upd_ne (Nat.ne_of_lt hb')]; exact (hf b hb).1
  done := by
    intro X hP hw hK hc i pins s σ H E I hf st hg; subst hP hw hK
    obtain ⟨⟨old, he⟩, hit, n1, n2, n3⟩ := st
    obtain ⟨xs, hq, hx⟩ := hg
    obtain ⟨its, rv, p, hz⟩ := I.tuple hq
    obtain ⟨f0, f1, f2, f3, f4, f5⟩ := hf it (by simp)
    have hl : its.toArray.size = i := by have := rv.length; simp; omega
    refine wpAny_pyNext_enum_endD (Draws.tuple (A := X.A.in1) (I.ok.hd hc) it a n3 its.toArray) he ⟨?_, p⟩ fun h' eb => ⟨rfl, I.turned (t' := s.toks) (fun b o hb q => eb b o hb q) f0 f1 f3 f4 f5⟩
    rw [hl]; exact hit
  self := fun A i s Q E st h => let ⟨⟨_, he⟩, _⟩ := st; wpAny_pyIter_enum he h
def iEnumA (K : PySem.W.Frag) (ta : TA) : TI := fun σ H R => ta σ H fun vs H1 => ∃ a xs, vs = [.ref a] ∧ ((SqL K H1 a xs ∧ R (Ite K a) H1) ∨ (SqT K H1 a xs ∧ R (IteT K a) H1))
theorem pi_enumA {X : Cx} {e : Expr} {ta : TA} {p pos tpos : Pos} {elts : List Expr} {kk : Nat} (hg : Gl X "enumerate") (hm : X.mg "enumerate" = none) (ha : PA X [e] ta) (hs : starEach [e] X.env = [(false, eval e X.env)] := by rfl) :
    PI X (.Tuple elts kk tpos) (.Call (.Name "enumerate" p) [e] [] pos) (iEnumA X.K ta) := by
  refine ⟨fun pins s σ H R I h => ?_⟩
  refine Call_ (ld_blt I hg hm boot_enumerate (PyProof.Rows.callWith_type1 (thn (ha.run pos pins s σ H _ I h) fun us s1 ⟨vs, H1, I1, r1, a, xs, ex, q1⟩ => ?_) hs rfl)); subst ex
  cases r1 with
  | cons r rr =>
    cases rr; cases r
    have fr : ∀ b ∈ [s1.heap.objs.size + 1, s1.heap.objs.size], FpOk X pins H1 b := fun b hb => by
      have hle : s1.heap.objs.size ≤ b := by
        rcases List.mem_cons.mp hb with z | hb
        · rw [z]; exact Nat.le_add_right _ _
        · rw [List.mem_singleton.mp hb]; exact Nat.le_refl _
      exact I1.fpOk hle (I1.hok.fresh hle)
    rcases q1 with ⟨hq, q⟩ | ⟨hq, q⟩
    · obtain ⟨its, rv, p', hz⟩ := I1.list hq
      refine call_enumerate_list p'.isList fun h' he hit hsz hk => wpAny_pyIter_enum he ?_
      exact ⟨s1.heap.objs.size + 1, [s1.heap.objs.size + 1, s1.heap.objs.size], _, _, H1, rfl, I1.kept (t' := s1.toks) hk, turn_enum a (s1.heap.objs.size + 1) s1.heap.objs.size, ⟨⟨.none, he⟩, hit, Nat.succ_ne_self _⟩, fr, q⟩
    · obtain ⟨its, rv, p', hz⟩ := I1.tuple hq
      obtain ⟨o1, ho1, -⟩ := id p'
      have hl : a < s1.heap.objs.size := Heap.lt_size ho1
      refine call_enumB (begins_tuple a its.toArray) p' fun h' he hit hk => wpAny_pyIter_enum he ?_
      exact ⟨s1.heap.objs.size + 1, [s1.heap.objs.size + 1, s1.heap.objs.size], _, _, H1, rfl, I1.kept (t' := s1.toks) hk, turn_enumT a (s1.heap.objs.size + 1) s1.heap.objs.size, ⟨⟨.none, he⟩, ⟨_, hit, rfl, rfl⟩, Nat.succ_ne_self _, Nat.ne_of_gt (Nat.lt_succ_of_lt hl), Nat.ne_of_lt hl⟩, fr, q⟩
theorem walk_enumT {K : PySem.W.Frag} {a : Addr} {xs : List V} : Walk (IteT K a) xs.length (fun H => SqT K H a xs) (YPair (fun i => some (.int (i : Nat))) (fun i => xs[i]?)) := by
  refine ⟨fun i _ hi q => ⟨xs, xs[i], q, by simp [hi]⟩, fun _ q => ⟨xs, q, rfl⟩, fun i H v H' _ q y => ?_⟩
  obtain ⟨T, x, g1, g2, g3, g4⟩ := y
  exact ⟨T, .int (i : Nat), x, g1, g2, g3, rfl, g4 xs q⟩
def enumL (l : List D) : List D := l.mapIdx fun i d => .tup [.int (i : Nat), d]
theorem enumL_at {l : List D} {i : Nat} {d : D} (h : l[i]? = some d) : (enumL l)[i]? = some (.tup [.int (i : Nat), d]) := by
  unfold enumL; rw [List.getElem?_mapIdx, h]; rfl
theorem enumL_of {l : List D} {i : Nat} {d : D} (h : (enumL l)[i]? = some d) : ∃ x, l[i]? = some x ∧ d = .tup [.int (i : Nat), x] := by
  unfold enumL at h; rw [List.getElem?_mapIdx] at h
  obtain ⟨x, hx, rfl⟩ := Option.map_eq_some_iff.mp h
  exact ⟨x, hx, rfl⟩
theorem enumL_len (l : List D) : (enumL l).length = l.length := by unfold enumL; rw [List.length_mapIdx]
def zEnum (ta : TAZ ω) : TAZ ω := fun δ w Q E => ta δ w (fun l w1 => match l with | [.lst x] => Q (enumL x) w1 | [.arr x] => Q (enumL x) w1 | [.tup x] => Q (enumL x) w1 | _ => False) E
theorem wk_enum {K : PySem.W.Frag} {G : Hp} {J : It} {xs : List V} {l : List D} {Gd : Hp → Prop} (hw : Walk J xs.length Gd (YPair (fun i => some (.int (i : Nat))) (fun i => xs[i]?))) (gd : ∀ H, Ext G H → Gd H) (r : RepL K G xs l) : WkZ K G J (enumL l) := by
  have hl : (enumL l).length = xs.length := by rw [enumL_len, r.len]
  refine ⟨Gd, YPair (fun i => some (.int (i : Nat))) (fun i => xs[i]?), by rw [hl]; exact hw, gd, ?_⟩
  rintro i H x H' hi ⟨T, u, v, e1, e2, e3, e4, e5⟩
  refine .inr ?_
  obtain ⟨d1, f1, r1⟩ := r.getV e5
  cases e4
  exact ⟨T, [.int (i : Nat), v], [.int (i : Nat), d1], e1, e2, e3, .cons (.int _) (.cons r1 .nil), enumL_at f1⟩
theorem i_enum {X : Cx} {W : Wp ω} {e : Expr} {ta : TAZ ω} {p pos tpos : Pos} {elts : List Expr} {kk : Nat} (hm : X.mg "enumerate" = none) (ha : PAZ X W [e] ta) (hg : Gl X "enumerate" := by rfl) (hs : starEach [e] X.env = [(false, eval e X.env)] := by rfl) :
    PIZ X W (.Tuple elts kk tpos) (.Call (.Name "enumerate" p) [e] [] pos) (zEnum ta) := by
  refine ⟨fun {δ w Q Q' E} k h => ha.mo (fun l w1 h1 => ?_) h, fun Z ex tk => piI (pi_enumA hg hm (ha.run Z ex tk) hs) fun σ H R ⟨G, M, δ, w, a, h⟩ => ⟨G, M, δ, w, a, ha.mo (fun l w1 h1 vs H1 G1 M1 o1 r1 => ?_) h⟩⟩
  · split at h1
    · exact k _ _ h1
    · exact k _ _ h1
    · exact k _ _ h1
    · exact h1.elim
  · split at h1
    · obtain ⟨v, rfl, rv⟩ := one_rep r1
      cases rv with
      | @lst q xs _ s1 q1 => exact ⟨q, xs, rfl, .inl ⟨.inl (.inl (o1.pt.gh _ _ s1)), h1 H1 G1 M1 _ o1 (wk_enum walk_enum (fun H2 e2 => .inl (.inl (e2 _ _ s1))) q1)⟩⟩
    · obtain ⟨v, rfl, rv⟩ := one_rep r1
      cases rv with
      | @arr q xs _ s1 q1 => exact ⟨q, xs, rfl, .inl ⟨sqLE o1.pt.gh s1, h1 H1 G1 M1 _ o1 (wk_enum walk_enum (fun H2 e2 => sqLE e2 s1) q1)⟩⟩
    · obtain ⟨v, rfl, rv⟩ := one_rep r1
      cases rv with
      | @tup q xs _ s1 q1 => exact ⟨q, xs, rfl, .inr ⟨sqTE o1.pt.gh s1, h1 H1 G1 M1 _ o1 (wk_enum walk_enumT (fun H2 e2 => sqTE e2 s1) q1)⟩⟩
    · exact h1.elim
end Z

namespace Z
open PySem PySem.Spec PyProof.Rows L2
variable {ω : Type}
/-! ### our own list: an item out, an item in; truths told apart by `is` -/
theorem sq_in {n : Nat} {k : Int} (h0 : 0 ≤ k) (h1 : k < n) : seqIndex? k n = some k.toNat := by
  have e1 : ¬ k < 0 := by omega
  unfold seqIndex?
  simp [e1, h0, h1]
def zPopO (i : Nat) (te : TEZ ω) : TSZ ω := fun DE δ w => onOwn δ i fun l => te δ w (fun d w1 => intD d fun k => (0 ≤ k ∧ k < l.length ∧ l.length ≤ 100000) ∧ DE.nx (δ.set i (.own (l.eraseIdx k.toNat))) w1) (fun e w' => DE.ex e δ w')
def zInsO (i : Nat) (tk te : TEZ ω) : TSZ ω := fun DE δ w => onOwn δ i fun l => tk δ w (fun y w1 => te δ w1 (fun d w2 => intD y fun k => (0 ≤ k ∧ k ≤ l.length ∧ l.length < 100000) ∧ DE.nx (δ.set i (.own (l.take k.toNat ++ [d] ++ l.drop k.toNat))) w2) (fun e w' => DE.ex e δ w')) (fun e w' => DE.ex e δ w')
section
variable {X : Cx} {W : Wp ω} {pos pos' p : Pos} {x : Str} {e f : Expr} {te tk : TEZ ω}
theorem z_popO (i : Nat) {pm : Pos} (he : PEZ X W e te) (hN : X.N[i]? = some x := by rfl) (hv : Vis X.env.scope x := by first | exact Or.inl rfl | exact Or.inr (Or.inl rfl) | exact Or.inr (Or.inr rfl)) (hd : (x == ("__debug__" : Str)) = false := by decide)
    (hcd : (x == ("__classdict__" : Str)) = false := by decide) (hs : swapsWith (.Call (.Attribute (.Name x p) "pop" pm) [e] [] pos') none pos.line X.env = pure false := by rfl)
    (hpe : ∀ {t : TE}, PE X e t → PE X (.Call (.Attribute (.Name x p) "pop" pm) [e] [] pos') (tBM X.K "list" rPopAt (tVar i) (tCons t tNil)) := by
      intro t ht
      exact pe_bm PySem.F.plainAttrs_list PySem.F.slot_list_pop PySem.F.type_list_pop mt_popAt (pv _) (pa_cons ht pa_nil)) :
    PSZ X W (.Expr (.Call (.Attribute (.Name x p) "pop" pm) [e] [] pos') pos) (zPopO i te) := fun Z ex tk =>
  psI (ps_expr (hpe (he.run Z ex tk)) hs) fun DE σ H ⟨Dz, hex, EI, G, M, δ, w, a, h⟩ => by
  subst hex
  obtain ⟨l, hl, h⟩ := h.of
  obtain ⟨p, vs, h1, h2, h3, h4⟩ := a.own hl
  refine ⟨.ref p, h1, .inl ⟨rfl, _, SqL.of h2⟩, G, M, δ, w, a, he.mo (fun d w1 q1 v H1 G1 M1 o1 r1 => ?_) h⟩
  obtain ⟨k, rfl, ⟨k0, k1, k2⟩, q⟩ := q1.of
  cases r1
  have a1 := a.go o1
  have r4 := h4.up o1.nx.gg
  have kl : k.toNat < vs.length := by rw [r4.len]; omega
  have k3 : k < vs.length := by rw [r4.len]; omega
  have big : (100000 : Int) < 2 ^ 63 := by decide
  exact ⟨p, vs, k, k.toNat, vs[k.toNat], rfl, rfl, o1.nx.fr p _ h2 h3, by omega, by omega, sq_in k0 k3, List.getElem?_eq_getElem kl, EI.nx _ _ ⟨G1, M1, _, w1, a1.change hl h1 (RepL.erase _ r4), q⟩⟩
theorem z_insO (i : Nat) {pm : Pos} (hk : PEZ X W f tk) (he : PEZ X W e te) (hN : X.N[i]? = some x := by rfl) (hv : Vis X.env.scope x := by first | exact Or.inl rfl | exact Or.inr (Or.inl rfl) | exact Or.inr (Or.inr rfl)) (hd : (x == ("__debug__" : Str)) = false := by decide)
    (hcd : (x == ("__classdict__" : Str)) = false := by decide) (hs : swapsWith (.Call (.Attribute (.Name x p) "insert" pm) [f, e] [] pos') none pos.line X.env = pure false := by rfl)
    (hpe : ∀ {u t : TE}, PE X f u → PE X e t → PE X (.Call (.Attribute (.Name x p) "insert" pm) [f, e] [] pos') (tBM X.K "list" (fun x vs H Q => ∃ (l : Addr) (xs : List V) (i : Int) (y : V), x = .ref l ∧ vs = [.int i, y] ∧ H l = some (.lst xs) ∧ xs.length < sizeLine ∧ 0 ≤ i ∧ i < 2 ^ 63 ∧ Q .non (upd H l (.lst (xs.take i.toNat ++ [y] ++ xs.drop i.toNat)))) (tVar i) (tCons u (tCons t tNil))) := by
      intro u t hu ht
      exact pe_bm PySem.F.plainAttrs_list PySem.F.slot_list_insert PySem.F.type_list_insert mt_insert (pv _) (pa_cons hu (pa_cons ht pa_nil))) :
    PSZ X W (.Expr (.Call (.Attribute (.Name x p) "insert" pm) [f, e] [] pos') pos) (zInsO i tk te) := fun Z ex tk' =>
  psI (ps_expr (hpe (hk.run Z ex tk') (he.run Z ex tk')) hs) fun DE σ H ⟨Dz, hex, EI, G, M, δ, w, a, h⟩ => by
  subst hex
  obtain ⟨l, hl, h⟩ := h.of
  obtain ⟨p, vs, h1, h2, h3, h4⟩ := a.own hl
  refine ⟨.ref p, h1, .inl ⟨rfl, _, SqL.of h2⟩, G, M, δ, w, a, hk.mo (fun y w1 q1 v H1 G1 M1 o1 r1 => ⟨G1, M1, δ, w1, a.go o1, he.mo (fun d w2 q2 v2 H2 G2 M2 o2 r2 => ?_) q1⟩) h⟩
  obtain ⟨k, rfl, ⟨k0, k1, k2⟩, q⟩ := q2.of
  cases r1
  have o := o1.tr o2
  have a1 := a.go o
  have r4 := h4.up o.nx.gg
  have big : (100000 : Int) < 2 ^ 63 := by decide
  exact ⟨p, vs, k, v2, rfl, rfl, o.nx.fr p _ h2 h3, by rw [r4.len, sizeLine_eq]; omega, k0, by omega, EI.nx _ _ ⟨G2, M2, _, w2, a1.change hl h1 (((r4.take _).app (.cons r2 .nil)).app (r4.drop _)), q⟩⟩
end
/-! truths -/
def isBlD (neg : Bool) : OpD := fun x y q => match x, y with | .bl a, .bl b => q (.bl (if neg then !decide (a = b) else decide (a = b))) | _, _ => False
def isBD : OpD := fun x y q => match x, y with | .bl a, .bl b => q (.bl (a == b)) | _, _ => False
def notBD : OpD := fun x y q => match x, y with | .bl a, .bl b => q (.bl (!(a == b))) | _, _ => False
theorem l_isB {K : PySem.W.Frag} : Lnd K rIsB isBD where
  mo := fun {x y q q'} k h => by
    unfold isBD at h ⊢
    split at h
    · exact k _ h
    · exact h.elim
  go := fun H G x y dx dy q Q e rx ry h k _ => by
    unfold isBD at h
    split at h
    · rename_i a b
      cases rx; cases ry
      have z : decide (a = b) = (a == b) := by cases a <;> cases b <;> rfl
      exact ⟨_, _, rfl, rfl, by rw [z]; exact k _ _ h (.bl _)⟩
    · exact h.elim
theorem l_notB {K : PySem.W.Frag} : Lnd K rNotB notBD where
  mo := fun {x y q q'} k h => by
    unfold notBD at h ⊢
    split at h
    · exact k _ h
    · exact h.elim
  go := fun H G x y dx dy q Q e rx ry h k _ => by
    unfold notBD at h
    split at h
    · rename_i a b
      cases rx; cases ry
      have z : decide (a = b) = (a == b) := by cases a <;> cases b <;> rfl
      exact ⟨_, _, rfl, rfl, by rw [z]; exact k _ _ h (.bl _)⟩
    · exact h.elim
end Z

namespace Z
open PySem PySem.Spec PyProof.Rows L2
variable {ω : Type}
/-! ### t[::-1], t a tuple -/
section
variable {prog : Program} {w : World} {A : Around} {E : Value → Shared → Prop} {s : Shared}
theorem applied_rev {sl : Addr} {vl vu vs : Value} {n : Nat} {Q : Int × Int × Nat → Shared → Prop} (hs : s.heap.IsSliceOf sl vl vu vs) (pl : IsPart vl none) (pu : IsPart vu none) (ps : IsPart vs (some (-1)))
    (h : Q ((n : Int) - 1, -1, n) s) : wpAny (model prog w) A (Builtin.Slice.sliceApplied (.ref sl) (pure (n : Int))) Q E s := by
  obtain ⟨os, hos, hcs, hds⟩ := id hs
  unfold Builtin.Slice.sliceApplied Builtin.Slice.sliceFields
  refine wpAny_bind (wpAny_bind (wpAny_field hos hds (x := vl) rfl (wpAny_bind (wpAny_field hos hds (x := vu) rfl (wpAny_bind (wpAny_field hos hds (x := vs) rfl (wpAny_pure ?_)))))))
  refine wpAny_bind (HT.slicePart_ ps ?_)
  show wpAny _ _ (if ((-1 : Int) == 0) = true then _ else _) _ _ s
  rw [if_neg (by decide)]
  refine wpAny_bind (HT.slicePart_ pl (wpAny_bind (HT.slicePart_ pu (wpAny_bind (wpAny_pure ?_)))))
  have e : Builtin.Slice.sliceAdjust none none (-1) (n : Int) = ((n : Int) - 1, -1) := rfl
  have e2 : Builtin.Slice.slicePlaces ((n : Int) - 1) (-1) (-1) = n := by
    show (if (n : Int) - 1 > -1 then ((n : Int) - 1 - -1 - 1) / 1 + 1 else 0).toNat = n
    rw [Int.ediv_one]
    split <;> omega
  show wpAny _ _ (match Builtin.Slice.sliceAdjust none none (-1) (n : Int) with | (lo, hi) => pure (lo, (-1 : Int), Builtin.Slice.slicePlaces lo hi (-1))) _ _ s
  rw [e]
  show wpAny _ _ (pure ((n : Int) - 1, (-1 : Int), Builtin.Slice.slicePlaces ((n : Int) - 1) (-1) (-1))) _ _ s
  rw [e2]
  exact wpAny_pure h
theorem fm_congr {α β : Type} {f g : α → Option β} : ∀ {l : List α}, (∀ x ∈ l, f x = g x) → l.filterMap f = l.filterMap g
  | [], _ => rfl
  | a :: l, h => by
    rw [List.filterMap_cons, List.filterMap_cons, h a List.mem_cons_self, fm_congr fun x hx => h x (List.mem_cons_of_mem _ hx)]
theorem pick_back (xs : Array Value) : ((List.range xs.size).filterMap fun (m : Nat) => xs[((xs.size : Int) - 1 + (m : Int) * (-1)).toNat]?).toArray = xs.toList.reverse.toArray := by
  have e : (List.range xs.size).filterMap (fun (m : Nat) => xs[((xs.size : Int) - 1 + (m : Int) * (-1)).toNat]?) = (List.range xs.size).filterMap (fun m => xs.reverse[0 + m]?) := by
    refine fm_congr fun m hm => ?_
    have hl := List.mem_range.mp hm
    rw [Nat.zero_add, Array.getElem?_reverse hl]
    congr 1
    omega
  have h := HT.pick_gen xs.reverse 0 xs.size
  have e2 : (fun (m : Nat) => xs.reverse[((0 : Nat) : Int).toNat + m]?) = fun m => xs.reverse[0 + m]? := rfl
  have e3 : (fun (m : Nat) => xs.reverse[(((0 : Nat) : Int) + (m : Int) * 1).toNat]?) = fun m => xs.reverse[0 + m]? := by
    funext m
    have : ((((0 : Nat) : Int) + (m : Int) * 1).toNat) = 0 + m := by omega
    rw [this]
  rw [e3] at h
  rw [e, h, List.drop_zero, Array.toList_reverse]
  congr 1
  exact List.take_of_length_le (by rw [List.length_reverse, Array.length_toList]; exact Nat.le_refl _)
theorem getItem_back {t sl : Addr} {items : Array Value} {vl vu vs : Value} {Q : Value → Shared → Prop} (ht : IsTup s.heap t items) (hs : s.heap.IsSliceOf sl vl vu vs) (pl : IsPart vl none) (pu : IsPart vu none) (ps : IsPart vs (some (-1)))
    (h : Q (.ref s.heap.objs.size) { s with heap := s.heap.push { cls := .type "tuple", data := .seq items.toList.reverse.toArray } }) (hsz : items.size ≤ sizeLine) : wpAny (model prog w) A (getItem (.ref t) (.ref sl)) Q E s := by
  have hk : sizeOk (.seq items.toList.reverse.toArray) := by
    show items.toList.reverse.toArray.size ≤ sizeLine
    rw [List.size_toArray, List.length_reverse, Array.length_toList]; exact hsz
  obtain ⟨os, hos, hcs, hds⟩ := id hs
  have hTs : s.TypeIs (.ref sl) "slice" := ⟨os, hos, hcs⟩
  unfold getItem
  try with_reducible refine wpAny_holding ?_
  first | refine wpAny_bind (wpAny_pure ?_) | skip
  refine wpAny_bind (wpAny_sequenceKey ht.typeIs (by decide) ?_)
  refine wpAny_bind (wpAny_callSpecial?_slot (name := Str.ofString "__getitem__") ht.typeIs PyProof.Rows.slot_tuple_getitem
    (wpAny_call_entry PyProof.Rows.slot_tuple_getitem ht.typeIs entry_tuple_getitem ?_ (args_tuple_getitem _ _)))
  show wpAny _ _ (Builtin.Tuple.tupleItemsOf (.ref t) >>= _) _ _ s
  refine wpAny_bind (tupleItemsOf_ ht ?_)
  refine wpAny_bind (wpAny_typeOf hTs ?_)
  rw [if_pos (by decide)]
  refine wpAny_bind (applied_rev hs pl pu ps ?_)
  have hno : ¬ (((items.size : Int) - 1 == 0 && (-1 : Int) == 1 && items.size == items.size) = true) := by
    intro q
    rw [Bool.and_eq_true, Bool.and_eq_true] at q
    exact absurd (eq_of_beq q.1.2) (by decide)
  show wpAny _ _ (if ((items.size : Int) - 1 == 0 && (-1 : Int) == 1 && items.size == items.size) = true then _ else _) _ _ s
  rw [if_neg hno, pick_back]
  first
    | exact wpAny_bind (m := Builtin.Tuple.tupleExact _) (wpAny_newObj_type (wpAny_pure ⟨_, rfl, wpAny_pure h⟩) hk)
    | exact wpAny_bind (m := Builtin.Tuple.tupleExact _) (wpAny_newObj_type (wpAny_bind (wpAny_pure (wpAny_pure ⟨_, rfl, wpAny_pure h⟩))) hk)
    | exact wpAny_bind (wpAny_bind (m := Builtin.Tuple.tupleExact _) (wpAny_newObj_type (wpAny_pure (wpAny_pure ⟨_, rfl, wpAny_pure h⟩)) hk))
    | exact wpAny_bind (wpAny_bind (m := Builtin.Tuple.tupleExact _) (wpAny_newObj_type (wpAny_pure ⟨_, rfl, wpAny_pure h⟩) hk))
end
section
variable {X : Cx} {W : Wp ω} {pos : Pos} {e : Expr} {te : TE} {tz : TEZ ω}
def tRevTu (K : PySem.W.Frag) (te : TE) : TE := fun σ H Q => te σ H fun x H1 => ∃ a xs, x = .ref a ∧ SqT K H1 a xs ∧ ∀ p, H1 p = none → Q (.ref p) (upd H1 p (.tup xs.reverse))
theorem pe_revTu {k : Nat} {p1 p2 p3 : Pos} (he : PE X e te) : PE X (.Subscript e (.Slice none none (some (.UnaryOp .USub (.Constant (.int 1) k p1) p2)) p3) pos) (tRevTu X.K te) := by
  refine ⟨fun pins s σ H Q I h => ?_⟩
  refine Subscript_ (thn (he.run pins s σ H _ I h) fun v s1 ⟨x, H1, I1, r1, a, xs, ex, hx, q⟩ => ?_)
  subst ex
  cases r1
  refine wpAny_Slice (thn (po_none.run pins s1 σ H1 (fun o H2 => o = none ∧ H2 = H1) I1 ⟨rfl, rfl⟩) fun vl s2 ⟨l, H2, I2, pl, el, e2⟩ => ?_)
  subst el e2
  refine thn (po_none.run pins s2 σ H2 (fun o H3 => o = none ∧ H3 = H2) I2 ⟨rfl, rfl⟩) fun vu s3 ⟨u, H3, I3, pu, eu, e3⟩ => ?_
  subst eu e3
  refine thn ((po_some (pe_un un_neg pe_int)).run pins s3 σ H3 (fun o H4 => o = some (-1) ∧ H4 = H3) I3 ⟨1, rfl, -1, rfl, rfl, rfl⟩) fun vs s4 ⟨o, H4, I4, ps, eo, e4⟩ => ?_
  subst eo e4
  have I5 : Inv X pins σ H4 { s4 with heap := s4.heap.push { cls := .type "slice", data := .fields #[vl, vu, vs] } } := I4.kept (t' := s4.toks) fun b ob q => Heap.get?_push_of_some _ q
  obtain ⟨its, r, ht, hz⟩ := I5.tuple hx
  have hlen := r.length
  show wpAny (model X.prog X.w) X.A (subscriptTail e (.Slice none none (some (.UnaryOp .USub (.Constant (.int 1) k p1) p2)) p3) (.ref a) (.ref s4.heap.objs.size)) (EP X pins σ Q) X.xe { s4 with heap := s4.heap.push { cls := .type "slice", data := .fields #[vl, vu, vs] } }
  refine tail_any (ops := [.ref a, .ref s4.heap.objs.size]) ht.typeIs (PyProof.Rows.slot_tuple_getitem.lookup) ?_ (by with_unfolding_all rfl)
  refine getItem_back ht (Heap.IsSliceOf.new _ vl vu vs) pl pu ps ?_ (by rw [List.size_toArray]; omega)
  refine ⟨.ref _, _, I5.laid (t' := s4.toks) (o := .tup xs.reverse) (fun b ob q => Heap.get?_push_of_some _ q) (Nat.le_refl _) ?_, rfl, q _ (I5.hok.fresh (Nat.le_refl _))⟩
  exact ⟨by rw [List.length_reverse]; exact hz, _, r.reverse, IsTup.new _ _⟩
def zRevTu (te : TEZ ω) : TEZ ω := fun δ w Q E => te δ w (fun d w1 => match d with | .tup l => Q (.tup l.reverse) w1 | _ => False) E
theorem z_revTu {k : Nat} {p1 p2 p3 : Pos} (he : PEZ X W e tz) : PEZ X W (.Subscript e (.Slice none none (some (.UnaryOp .USub (.Constant (.int 1) k p1) p2)) p3) pos) (zRevTu tz) :=
  ⟨fun k h => he.mo (fun d w1 h1 => by
    split at h1
    · exact k _ _ h1
    · exact h1.elim) h, fun Z ex tk => peI (pe_revTu (he.run Z ex tk)) fun σ H Q ⟨G, M, δ, w, a, h⟩ =>
    ⟨G, M, δ, w, a, he.mo (fun d w1 h1 v H1 G1 M1 o1 r1 => by
      cases d with
      | tup l =>
        cases r1 with
        | @tup p vs _ s r =>
          exact ⟨p, vs, rfl, sqTE o1.pt.gh s, fun p' hp => h1 (.ref p') _ _ _ (o1.new hp) (.tup (SqT.of upd_same) (r.rev.up (o1.ext hp)))⟩
      | _ => exact h1.elim) h⟩⟩
end
end Z

local macro_rules | `(tactic| kt_chr) => `(tactic| first
  | assumption
  | ((with_reducible show Z.Sm _ (OfNat.ofNat _)); exact Z.Sm.num _)
  | ((with_reducible show Z.Sm _ ((_ : Int) + _)); exact Z.Sm.add (by kt_chr) (by kt_chr))
  | ((with_reducible show Z.Sm _ ((_ : Int) - _)); exact Z.Sm.sub (by kt_chr) (by kt_chr))
  | ((with_reducible show Z.Sm _ ((_ : Int) * _)); exact Z.Sm.mul (by kt_chr) (by kt_chr))
  | ((with_reducible show Z.Sm _ (-(_ : Int))); exact Z.Sm.neg (by kt_chr))
  | ((with_reducible show Z.Sm _ ((_ : Int) % _)); exact Z.Sm.mod (by kt_chr) (by first | omega | decide))
  | ((with_reducible show Z.Sm _ ((_ : Int) / _)); exact Z.Sm.div (by kt_chr) (by first | omega | decide))
  | ((with_reducible show Z.Sm _ ((_ : Int) ^ (_ : Nat))); exact Z.Sm.pow (by kt_chr) _)
  | ((with_reducible show Z.Sm _ (max (_ : Int) _)); exact Z.Sm.max (by kt_chr) (by kt_chr))
  | ((with_reducible show Z.Sm _ (min (_ : Int) _)); exact Z.Sm.min (by kt_chr) (by kt_chr))
  | exact Z.Sm.lt10r (by with_reducible assumption) (by first | with_reducible assumption | omega)
  | exact Z.Sm.lt10s (Int.le_of_lt (by with_reducible assumption)) (Int.le_of_lt (by with_reducible assumption))
  | exact Z.Sm.lt10s (Int.le_of_lt (by with_reducible assumption)) (by with_reducible assumption)
  | exact Z.Sm.near (by omega) (by omega))
local macro_rules | `(tactic| kt_field) => `(tactic| first | exact Z.MulOk.of (by kt_chr) (by kt_chr) (by decide) | exact Z.MulOk.lt (by kt_chr) (by decide) | exact Z.MulOk.rt (by kt_chr) (by decide))
local macro_rules | `(tactic| kt_str) => `(tactic| first | (exfalso; omega) | skip)
local macro_rules | `(tactic| kby_none) => `(tactic| repeat' (first
  | with_reducible assumption
  | with_reducible rfl
  | (with_reducible exact True.intro)
  | ((with_reducible show Z.MulOk _ _); kt_field)
  | ((with_reducible show Z.DivOk _); first | exact Z.DivOk.of (by omega) (by assumption) (by decide) | exact Z.DivOk.of (by decide) (Z.Sm.num _) (by decide))
  | ((with_reducible show Z.Sm _ _); first | exact Z.Sm.le (by kt_chr) (by decide) | exact Z.Sm.le (Z.Sm.near (by omega) (by omega)) (by decide))
  | ((with_reducible show (_ : Int) < _); first | omega | exact Int.emod_lt_of_pos _ (by omega) | decide | (simp only [List.length_map, List.length_append, List.length_cons, List.length_nil]; omega))
  | ((with_reducible show (_ : Int) ≤ _); first | omega | exact Int.emod_nonneg _ (by omega) | decide | (simp only [List.length_map, List.length_append, List.length_cons, List.length_nil]; omega))
  | ((with_reducible show (_ : Nat) < _); first | omega | exact Nat.le_of_ble_eq_true rfl | decide | (simp only [List.length_map, List.length_append, List.length_cons, List.length_nil]; omega))
  | ((with_reducible show (_ : Nat) = _); first | rfl | omega)
  | ((with_reducible show (_ : Nat) ≤ _); first | omega | exact Nat.le_of_ble_eq_true rfl | decide | exact Nat.zero_le _ | (simp only [List.length_map, List.length_append, List.length_cons, List.length_nil]; omega))
  | ((with_reducible show Z.okD _ = true); rfl)
  | ((with_reducible show Z.okF _ = true); rfl)
  | ((with_reducible show Z.okFs _ = true); rfl)
  | (conv => whnf
     try simp only [Z.stZ_len, Z.stZ_len0, Z.stZ_nil, Z.setAll_cons, Z.setAll_nil, List.set_cons_zero, List.set_cons_succ]
     first
       | exact Z.eqI
       | (refine And.intro ?_ ?_)
       | exact ⟨_, rfl⟩
       | exact ⟨_, _, rfl⟩
       | exact ⟨_, _, _, rfl⟩
       | exact ⟨_, _, _, _, rfl⟩
       | exact ⟨_, _, _, _, _, rfl⟩
       | exact ⟨_, _, _, _, _, _, rfl⟩
       | exact ⟨_, _, _, _, _, _, _, rfl⟩
       | exact ⟨_, _, _, _, _, _, _, _, rfl⟩
       | exact ⟨_, _, _, _, _, _, _, _, _, rfl⟩
       | exact ⟨_, _, _, _, _, _, _, _, _, _, rfl⟩
       | exact ⟨_, _, _, _, _, _, _, _, _, _, _, rfl⟩
       | exact ⟨_, _, _, _, _, _, _, _, _, _, _, _, rfl⟩
       | exact ⟨_, _, _, _, _, _, _, _, _, _, _, _, _, rfl⟩
       | exact ⟨_, _, _, _, _, _, _, _, _, _, _, _, _, _, rfl⟩
       | exact ⟨_, _, _, _, _, _, _, _, _, _, _, _, _, _, _, rfl⟩
       | exact ⟨_, _, _, _, _, _, _, _, _, _, _, _, _, _, _, _, rfl⟩
       | (refine ⟨_, rfl, ?_⟩)
       | (refine ⟨_, _, rfl, ?_⟩)
       | (refine ⟨_, _, _, rfl, ?_⟩)
       | (refine ⟨_, _, _, _, rfl, ?_⟩)
       | (refine ⟨_, _, _, _, _, rfl, ?_⟩)
       | (refine ⟨_, _, _, _, _, _, rfl, ?_⟩)
       | (refine ⟨_, _, _, _, _, _, _, rfl, ?_⟩)
       | (refine ⟨_, _, _, _, _, _, _, _, rfl, ?_⟩)
       | (refine ⟨_, _, _, _, _, _, _, _, _, rfl, ?_⟩)
       | (refine ⟨_, _, _, _, _, _, _, _, _, _, rfl, ?_⟩)
       | (refine ⟨_, _, _, _, _, _, _, _, _, _, _, rfl, ?_⟩)
       | (refine ⟨_, _, _, _, _, _, _, _, _, _, _, _, rfl, ?_⟩)
       | (refine ⟨_, _, _, _, _, _, _, _, _, _, _, _, _, rfl, ?_⟩)
       | (refine ⟨_, _, _, _, _, _, _, _, _, _, _, _, _, _, rfl, ?_⟩)
       | (refine ⟨_, _, _, _, _, _, _, _, _, _, _, _, _, _, _, rfl, ?_⟩)
       | (refine ⟨_, _, _, _, _, _, _, _, _, _, _, _, _, _, _, _, rfl, ?_⟩)
       | (refine ⟨_, by with_reducible assumption, ?_⟩)
       | (refine ⟨_, _, by with_reducible assumption, rfl, ?_⟩)
       | (refine ⟨_, _, Z.w_set (by first | with_reducible assumption | exact Z.w_set (by with_reducible assumption) | exact Z.w_set (Z.w_set (by with_reducible assumption))), rfl, ?_⟩)
       | (intro h; first | exact (Bool.false_ne_true h).elim | exact (Bool.false_ne_true h.symm).elim | (replace h := of_decide_eq_true h; kt_str) | (replace h := of_decide_eq_false h; kt_str) | (replace h := Z.deqI h; kt_str) | (replace h := Z.deqI' h; kt_str) | (((with_reducible have := (show Z.deq _ _ = true from h)); clear this); (simp only [Z.deq_lst, Z.deq_tup, Z.deqs_cons, Z.deqs_nil, Z.deqs_nil_cons, Z.deqs_cons_nil, Z.deq_int, Z.deq_bl, Z.deq_non, Z.deq_non_int, Z.deq_int_non, Z.deq_non_tup, Z.deq_tup_non, Bool.and_eq_true, Bool.and_true, and_true, true_and, beq_iff_eq, Bool.false_eq_true, reduceCtorEq, and_false, false_and] at h) <;> kt_str) | (((with_reducible have := (show Z.deq _ _ = false from h)); clear this); (simp only [Z.deq_lst, Z.deq_tup, Z.deqs_cons, Z.deqs_nil, Z.deqs_nil_cons, Z.deqs_cons_nil, Z.deq_int, Z.deq_bl, Z.deq_non, Z.deq_non_int, Z.deq_int_non, Z.deq_non_tup, Z.deq_tup_non, Bool.and_eq_false_iff, Bool.and_true, beq_eq_false_iff_ne, ne_eq, not_true_eq_false, or_false, false_or, Bool.true_eq_false, Bool.false_eq_true, beq_self_eq_true, reduceCtorEq] at h) <;> kt_str) | (((with_reducible have := (show Z.memF _ _ = true from h)); clear this); (simp only [Z.memF_cons, Z.memF_nil, Z.eqF_int, Bool.or_eq_true, Bool.or_false, beq_iff_eq] at h <;> kt_str)) | (((with_reducible have := (show Z.memF _ _ = false from h)); clear this); (simp only [Z.memF_cons, Z.memF_nil, Z.eqF_int, Bool.or_eq_false_iff, Bool.or_false, beq_eq_false_iff_ne, ne_eq] at h <;> kt_str)) | ((with_reducible replace h := Z.nb1 h); revert h) | ((with_reducible replace h := Z.nb2 h); revert h) | ((with_reducible have := (show (_ : Int) < _ from h)); exfalso; first | omega | exact absurd h (by decide)) | ((with_reducible have := (show (_ : Int) ≤ _ from h)); exfalso; first | omega | exact absurd h (by decide)) | skip))))
namespace Lw
open PySem PySem.Spec PyProof.Rows L2 Z
def topS (i : Nat) : Stmt := PySem.Challenge.pw_turnedline_k34_papers_looked_at.main.body.getD i (.Pass ⟨0, 0, 0, 0⟩)
abbrev s_need_line : Stmt := topS 10
theorem sc_need_line : FnScope ["line"] ["line"] (defScope s_need_line) := ⟨rfl, rfl, rfl, by decide +kernel, rfl, by decide +kernel, by decide +kernel⟩
abbrev s_height_at : Stmt := topS 11
theorem sc_height_at : FnScope ["line", "place"] ["line", "place"] (defScope s_height_at) := ⟨rfl, rfl, rfl, by decide +kernel, rfl, by decide +kernel, by decide +kernel⟩
abbrev s_part_at : Stmt := topS 12
theorem sc_part_at : FnScope ["line", "place"] ["line", "place"] (defScope s_part_at) := ⟨rfl, rfl, rfl, by decide +kernel, rfl, by decide +kernel, by decide +kernel⟩
abbrev s_rest_at : Stmt := topS 13
theorem sc_rest_at : FnScope ["line", "place"] ["line", "place"] (defScope s_rest_at) := ⟨rfl, rfl, rfl, by decide +kernel, rfl, by decide +kernel, by decide +kernel⟩
abbrev s_laid_off : Stmt := topS 14
theorem sc_laid_off : FnScope ["line", "a", "b", "m"] ["line"] (defScope s_laid_off) := ⟨rfl, rfl, rfl, by decide +kernel, rfl, by decide +kernel, by decide +kernel⟩
abbrev s_turned : Stmt := topS 15
theorem sc_turned : FnScope ["line", "n", "a", "b", "m", "many"] ["line", "n"] (defScope s_turned) := ⟨rfl, rfl, rfl, by decide +kernel, rfl, by decide +kernel, by decide +kernel⟩
abbrev s_own_part : Stmt := topS 18
theorem sc_own_part : FnScope ["line", "n", "more", "height", "rest"] ["line", "n"] (defScope s_own_part) := ⟨rfl, rfl, rfl, by decide +kernel, rfl, by decide +kernel, by decide +kernel⟩
abbrev s_sum_paper : Stmt := topS 17
theorem sc_sum_paper : FnScope ["line", "n", "kept", "found", "total"] ["line", "n"] (defScope s_sum_paper) := ⟨rfl, rfl, rfl, by decide +kernel, rfl, by decide +kernel, by decide +kernel⟩
abbrev s_sum_shown : Stmt := topS 19
theorem sc_sum_shown : FnScope ["line", "n", "total", "paper", "k", "row", "count", "there", "sum_there", "many", "after", "rest"] ["line", "n", "total", "paper"] (defScope s_sum_shown) := ⟨rfl, rfl, rfl, by decide +kernel, rfl, by decide +kernel, by decide +kernel⟩
abbrev s__law_draw : Stmt := topS 21
theorem sc__law_draw : FnScope ["_law_script", "_law_k", "_law_many", "_law_cell", "_law_turn", "_law_mixed"] ["_law_script", "_law_k"] (defScope s__law_draw) := ⟨rfl, rfl, rfl, by decide +kernel, rfl, by decide +kernel, by decide +kernel⟩
abbrev s__law_number : Stmt := topS 22
theorem sc__law_number : FnScope ["_law_script", "_law_at", "_law_most", "_law_figures", "_law_k"] ["_law_script", "_law_at", "_law_most"] (defScope s__law_number) := ⟨rfl, rfl, rfl, by decide +kernel, rfl, by decide +kernel, by decide +kernel⟩
abbrev s__law_line : Stmt := topS 23
theorem sc__law_line : FnScope ["_law_script", "_law_at", "_law_most", "_law_sizes", "_law_a", "_law_b", "_law_m"] ["_law_script", "_law_at", "_law_most"] (defScope s__law_line) := ⟨rfl, rfl, rfl, by decide +kernel, rfl, by decide +kernel, by decide +kernel⟩
abbrev s__law_paper : Stmt := topS 24
theorem sc__law_paper : FnScope ["_law_line_here", "_law_n", "_law_rows", "_law_a", "_law_b", "_law_m", "_law_own", "_law_many", "_law_found", "_law_total", "_law_count", "_law_there"] ["_law_line_here", "_law_n"] (defScope s__law_paper) := ⟨rfl, rfl, rfl, by decide +kernel, rfl, by decide +kernel, by decide +kernel⟩
abbrev s__law_within : Stmt := topS 25
theorem sc__law_within : FnScope ["_law_number_here", "_law_step"] ["_law_number_here", "_law_step"] (defScope s__law_within) := ⟨rfl, rfl, rfl, by decide +kernel, rfl, by decide +kernel, by decide +kernel⟩
abbrev s__law_row_spoilt : Stmt := topS 26
theorem sc__law_row_spoilt : FnScope ["_law_row", "_law_draw_here", "_law_step", "_law_count", "_law_line_here", "_law_total", "_law_part", "_law_numbers"] ["_law_row", "_law_draw_here"] (defScope s__law_row_spoilt) := ⟨rfl, rfl, rfl, by decide +kernel, rfl, by decide +kernel, by decide +kernel⟩
abbrev s__law_spoilt : Stmt := topS 27
theorem sc__law_spoilt : FnScope ["_law_paper_here", "_law_draw_here", "_law_at", "_law_rows", "_law_place", "_law_kind", "_law_rest", "_law_row", "_law_step", "_law_k", "_law_count", "_law_line_here", "_law_total"] ["_law_paper_here", "_law_draw_here", "_law_at"] (defScope s__law_spoilt) := ⟨rfl, rfl, rfl, by decide +kernel, rfl, by decide +kernel, by decide +kernel⟩
abbrev s__law_fitted : Stmt := topS 28
theorem sc__law_fitted : FnScope ["_law_rows", "_law_found", "_law_total", "_law_count", "_law_line_here", "_law_told", "_law_a", "_law_b", "_law_m", "_law_steps"] ["_law_rows"] (defScope s__law_fitted) := ⟨rfl, rfl, rfl, by decide +kernel, rfl, by decide +kernel, by decide +kernel⟩
abbrev s__law_no_line : Stmt := topS 29
theorem sc__law_no_line : FnScope ["_law_line_here", "_law_n", "_law_caught", "e"] ["_law_line_here", "_law_n"] (defScope s__law_no_line) := ⟨rfl, rfl, rfl, by decide +kernel, rfl, by decide +kernel, by decide +kernel⟩
abbrev s_law : Stmt := topS 30
theorem sc_law : FnScope ["_law_script", "_law_turn", "_law_most", "_law_line_here", "_law_n", "_law_paper_here", "_law_total", "_law_drawn", "_law_step", "_law_k", "_law_at", "_law_handed", "_law_asked", "_law_due", "_law_told", "_law_none"] ["_law_script"] (defScope s_law) := ⟨rfl, rfl, rfl, by decide +kernel, rfl, by decide +kernel, by decide +kernel⟩
structure Tx (K : PySem.W.Frag) (mg : Str → Option Value) (ec : Nat → Addr) (CL : Addr) : Prop where
  nmL : mg "LineError" = some (.ref CL)
  exm : ∀ e, e < 7 → PySem.W.exmOne K (.ref (ec e)) (.ref CL) = some true
  exk : ∀ e, e < 7 → L2.ExcC K (ec e)
  isEL : ∀ e, e < 7 → PySem.W.kitOne K (.ref (ec e)) (.ref CL) = some ((fun _ => true) e)
  noEL : PySem.W.kitOne K (.type "NoneType") (.ref CL) = some false
  isEV : ∀ e, e < 7 → PySem.W.kitOne K (.ref (ec e)) (.type "ValueError") = some ((fun _ => true) e)
  isE0 : ∀ e, e < 7 → PySem.W.kitOne K (.ref (ec e)) (.ref (ec 0)) = some (decide (e = 0))
  noE0 : PySem.W.kitOne K (.type "NoneType") (.ref (ec 0)) = some false
  isE1 : ∀ e, e < 7 → PySem.W.kitOne K (.ref (ec e)) (.ref (ec 1)) = some (decide (e = 1))
  noE1 : PySem.W.kitOne K (.type "NoneType") (.ref (ec 1)) = some false
  isE2 : ∀ e, e < 7 → PySem.W.kitOne K (.ref (ec e)) (.ref (ec 2)) = some (decide (e = 2))
  noE2 : PySem.W.kitOne K (.type "NoneType") (.ref (ec 2)) = some false
  isE3 : ∀ e, e < 7 → PySem.W.kitOne K (.ref (ec e)) (.ref (ec 3)) = some (decide (e = 3))
  noE3 : PySem.W.kitOne K (.type "NoneType") (.ref (ec 3)) = some false
  isE4 : ∀ e, e < 7 → PySem.W.kitOne K (.ref (ec e)) (.ref (ec 4)) = some (decide (e = 4))
  noE4 : PySem.W.kitOne K (.type "NoneType") (.ref (ec 4)) = some false
  isE5 : ∀ e, e < 7 → PySem.W.kitOne K (.ref (ec e)) (.ref (ec 5)) = some (decide (e = 5))
  noE5 : PySem.W.kitOne K (.type "NoneType") (.ref (ec 5)) = some false
  isE6 : ∀ e, e < 7 → PySem.W.kitOne K (.ref (ec e)) (.ref (ec 6)) = some (decide (e = 6))
  noE6 : PySem.W.kitOne K (.type "NoneType") (.ref (ec 6)) = some false
  ValueError_ : mg "ValueError" = none
  abs_ : mg "abs" = none
  bool_ : mg "bool" = none
  enumerate_ : mg "enumerate" = none
  int_ : mg "int" = none
  isinstance_ : mg "isinstance" = none
  len_ : mg "len" = none
  list_ : mg "list" = none
  max_ : mg "max" = none
  min_ : mg "min" = none
  range_ : mg "range" = none
  str_ : mg "str" = none
  tuple_ : mg "tuple" = none
  e0 : ErrT K mg (ec 0) "NoLine"
  e1 : ErrT K mg (ec 1) "NoTurn"
  e2 : ErrT K mg (ec 2) "NoText"
  e3 : ErrT K mg (ec 3) "NoStretch"
  e4 : ErrT K mg (ec 4) "NoPlace"
  e5 : ErrT K mg (ec 5) "NoMap"
  e6 : ErrT K mg (ec 6) "NoAsk"
abbrev ln (a b m : Int) : D := .tup [.int a, .int b, .int m]
def sp_need_line : SpZ Unit := fun ds w Q E => ∃ a b m, ds = [ln a b m] ∧ (m < 1 → E 0 w) ∧ (1 ≤ m → Q .non w)
def sp_height_at : SpZ Unit := fun ds w Q E => ∃ a b m x, ds = [ln a b m, .int x] ∧ (m < 1 → E 0 w) ∧ (1 ≤ m → (Sm 3000 a ∧ Sm 3000 x) ∧ Q (.int (a * x + b)) w)
def sp_part_at : SpZ Unit := fun ds w Q E => ∃ a b m x, ds = [ln a b m, .int x] ∧ (m < 1 → E 0 w) ∧ (1 ≤ m → (Sm 3000 a ∧ Sm 3000 x ∧ Sm 3000 m) ∧ Q (.int ((a * x + b) / m)) w)
def sp_rest_at : SpZ Unit := fun ds w Q E => ∃ a b m x, ds = [ln a b m, .int x] ∧ (m < 1 → E 0 w) ∧ (1 ≤ m → (Sm 3000 a ∧ Sm 3000 x ∧ Sm 3000 m) ∧ Q (.int ((a * x + b) % m)) w)
def sp_laid_off : SpZ Unit := fun ds w Q E => ∃ a b m, ds = [ln a b m] ∧ (m < 1 → E 0 w) ∧ (1 ≤ m → Sm 8000 m ∧ Q (.tup [.int (a / m), .int (b / m), ln (a % m) (b % m) m]) w)
def sp_turned : SpZ Unit := fun ds w Q E => ∃ a b m n, ds = [ln a b m, .int n] ∧ (m < 1 → E 0 w) ∧ (1 ≤ m → (¬ (0 ≤ a ∧ a < m ∧ 0 ≤ b ∧ b < m) → E 1 w) ∧ ((0 ≤ a ∧ a < m ∧ 0 ≤ b ∧ b < m) → (Sm 3000 m ∧ Sm 3000 n) ∧ ((a * n + b) / m = 0 → Q (.tup [.int 0, .non]) w) ∧ ((a * n + b) / m ≠ 0 → Q (.tup [.int ((a * n + b) / m), ln m ((a * n + b) % m) a]) w)))
def sp_own_part : SpZ Unit := fun ds w Q E => ∃ a b m n, ds = [ln a b m, .int n] ∧ (m < 1 → E 0 w) ∧ (1 ≤ m → (Sm 2000 a ∧ Sm 2000 b ∧ Sm 2000 m ∧ Sm 2000 n) ∧ Q (.int (a / m * tri n + b / m * n)) w)
def kD (r : Rw) : D := .tup [.int r.1, ln r.2.1 r.2.2.1 r.2.2.2]
def oD (r : Rw) : D := .tup [.int r.1, ln r.2.1 r.2.2.1 r.2.2.2, .int (ownR r)]
def rowD (r : Rw) : D := .tup [.int r.1, ln r.2.1 r.2.2.1 r.2.2.2, .int (sumR r)]
structure Pap (r : Rw) (l : List Rw) : Prop where
  ch : Chain r l
  ok : ∀ q ∈ l, RwOk 1000 q
theorem Pap.ex {r : Rw} (h : RwOk 1000 r) : ∃ l, Pap r l := by
  obtain ⟨l, a, b⟩ := chain_ex r.2.2.2.toNat r h (by have := h.m1; omega)
  exact ⟨l, a, b⟩
theorem deq_row (r : Rw) : deq (rowD r) (rowD r) = true := by
  unfold rowD ln
  simp [Z.deq_tup, Z.deqs_cons, Z.deqs_nil, Z.deq_int]
theorem deqs_rows : ∀ l : List Rw, deqs (l.map rowD) (l.map rowD) = true
  | [] => Z.deqs_nil
  | r :: l => by rw [List.map_cons, Z.deqs_cons, deq_row, deqs_rows l]; rfl
theorem okD_rows : ∀ l : List Rw, okDs (l.map rowD) = true
  | [] => rfl
  | r :: l => by show (okD (rowD r) && okDs (l.map rowD)) = true; rw [okD_rows l]; rfl
theorem dpD_rows : ∀ l : List Rw, dpDs (l.map rowD) ≤ 2
  | [] => by decide
  | r :: l => by show max (dpD (rowD r)) (dpDs (l.map rowD)) ≤ 2; have := dpD_rows l; have e : dpD (rowD r) = 2 := rfl; omega
theorem row_hd {l : List Rw} {r : Rw} (h : l[0]? = some r) : atI (l.map rowD) 0 = some (rowD r) := by
  have hl := (List.getElem?_eq_some_iff.mp h).1
  unfold atI ixN
  rw [if_pos (by decide), List.length_map, if_pos (by omega)]
  show (l.map rowD)[(0 : Int).toNat]? = _
  rw [List.getElem?_map]
  show Option.map rowD (l[0]?) = _
  rw [h]; rfl
theorem Rw.lt {s k : Nat} {r : Rw} (h : RwOk s r) (sk : s ≤ k) : r.2.2.2 < 2 ^ k := by
  have h1 := h.sm.le sk
  unfold Sm at h1
  have h2 : (((2 : Nat) ^ k : Nat) : Int) = (2 : Int) ^ k := by rw [Int.natCast_pow]; rfl
  omega
theorem rev_at {α : Type} {f : α → D} {L : List α} {i : Nat} {d : D} (h : (L.map f).reverse[i]? = some d) : ∃ q, L[L.length - 1 - i]? = some q ∧ i < L.length ∧ d = f q := by
  have hi : i < (L.map f).reverse.length := (List.getElem?_eq_some_iff.mp h).1
  rw [List.length_reverse, List.length_map] at hi
  rw [List.getElem?_reverse (by rw [List.length_map]; exact hi), List.length_map, List.getElem?_map] at h
  obtain ⟨q, hq, rfl⟩ := Option.map_eq_some_iff.mp h
  exact ⟨q, hq, hi, rfl⟩
theorem drop_at {α : Type} {L : List α} {i : Nat} {q : α} (h : L[i]? = some q) : L.drop i = q :: L.drop (i + 1) := by
  obtain ⟨hl, e⟩ := List.getElem?_eq_some_iff.mp h
  rw [List.drop_eq_getElem_cons hl, e]
def sp_sum_paper : SpZ Unit := fun ds w Q E => ∃ a b m n, ds = [ln a b m, .int n] ∧ (m < 1 → E 0 w) ∧ (1 ≤ m → ∃ l, Pap (n, a, b, m) l ∧ Q (.tup (l.map rowD)) w)
def rxD (x : Rx) : D := .tup [.int x.1.1, ln x.1.2.1 x.1.2.2.1 x.1.2.2.2, .int x.2]
theorem rows_px (L : List Rw) : L.map rowD = (pxs L).map rxD := by unfold pxs; rw [List.map_map]; rfl
structure RxOk (x : Rx) : Prop where
  sa : Sm 1100 x.1.2.1
  sb : Sm 1100 x.1.2.2.1
  sm : Sm 1100 x.1.2.2.2
  sn : Sm 1100 x.1.1
theorem deq_rx (x y : Rx) : deq (rxD x) (rxD y) = decide (x = y) := by
  obtain ⟨⟨n, a, b, m⟩, s⟩ := x
  obtain ⟨⟨n', a', b', m'⟩, s'⟩ := y
  have e : deq (rxD ((n, a, b, m), s)) (rxD ((n', a', b', m'), s')) = ((n == n') && (((a == a') && ((b == b') && ((m == m') && true))) && ((s == s') && true))) := by
    unfold rxD ln
    simp only [Z.deq_tup, Z.deqs_cons, Z.deqs_nil, Z.deq_int]
  rw [e]
  by_cases h : (((n, a, b, m), s) : Rx) = ((n', a', b', m'), s')
  · rw [decide_eq_true h]
    simp only [Prod.mk.injEq] at h
    obtain ⟨⟨rfl, rfl, rfl, rfl⟩, rfl⟩ := h
    simp
  · rw [decide_eq_false h]
    simp only [Prod.mk.injEq, not_and] at h
    simp only [Bool.and_true, Bool.and_eq_false_iff, beq_eq_false_iff_ne]
    by_cases h1 : n = n' <;> by_cases h2 : a = a' <;> by_cases h3 : b = b' <;> by_cases h4 : m = m' <;> simp_all
theorem deqs_rx : ∀ l k : List Rx, deqs (l.map rxD) (k.map rxD) = decide (l = k)
  | [], [] => by rw [decide_eq_true rfl]; exact Z.deqs_nil
  | [], y :: k => by rw [decide_eq_false (by simp)]; exact Z.deqs_nil_cons _ _
  | x :: l, [] => by rw [decide_eq_false (by simp)]; exact Z.deqs_cons_nil _ _
  | x :: l, y :: k => by
    rw [List.map_cons, List.map_cons, Z.deqs_cons, deq_rx, deqs_rx l k]
    by_cases h1 : x = y <;> by_cases h2 : l = k <;> simp [h1, h2]
theorem okD_rx : ∀ l : List Rx, okDs (l.map rxD) = true
  | [] => rfl
  | r :: l => by show (okD (rxD r) && okDs (l.map rxD)) = true; rw [okD_rx l]; rfl
theorem dpD_rx : ∀ l : List Rx, dpDs (l.map rxD) ≤ 2
  | [] => by decide
  | r :: l => by show max (dpD (rxD r)) (dpDs (l.map rxD)) ≤ 2; have := dpD_rx l; have e : dpD (rxD r) = 2 := rfl; omega
theorem rx_at {l : List Rx} {r : Rx} {k : Int} (h0 : 0 ≤ k) (h : l[k.toNat]? = some r) : atI (l.map rxD) k = some (rxD r) := by
  have hl := (List.getElem?_eq_some_iff.mp h).1
  unfold atI ixN
  rw [if_pos h0, List.length_map, if_pos (by omega)]
  show (l.map rxD)[k.toNat]? = _
  rw [List.getElem?_map, h]; rfl
theorem FS_back (a b m : Int) {n : Int} (hn : 0 ≤ n) : FS a (a * (0 - n) + b) m (0 - (0 - n)).toNat = FS (-a) b m n.toNat - b / m + (b - a * n) / m := by
  have h1 := Z.FS_rev a (a * (0 - n) + b) m hn
  have h2 := Z.FS_join (-a) b m (n := 1) (k := n) (by decide) hn
  have h3 := Z.FS_one (-a) b m hn
  have e1 : 0 - a = -a := by omega
  have e2 : a * (n - 1) + (a * (0 - n) + b) = -a * 1 + b := by rw [Int.mul_sub, Int.mul_sub]; omega
  have e3 : (0 - (0 - n)) = n := by omega
  have e4 : -a * n + b = b - a * n := by rw [Int.neg_mul]; omega
  have e5 : FS (-a) b m (1 : Int).toNat = b / m := by
    have : FS (-a) b m 1 = 0 + (-a * ((0 : Nat) : Int) + b) / m := rfl
    rw [show (1 : Int).toNat = 1 from rfl, this]
    simp
  rw [e3, ← h1, e1, e2]
  rw [Int.add_comm 1 n, h3, e5, e4] at h2
  omega
theorem cutF {α : Type} (f : α → D) (l : List α) {j : Nat} (h : j ≤ l.length) : Z.cutD (l.map f) (some (j : Int)) none = (l.drop j).map f := by
  unfold Z.cutD
  rw [HT.sIx_nat, HT.sIx_none, List.length_map, Nat.min_eq_left h, ← List.map_drop]
  exact List.take_of_length_le (by rw [List.length_map, List.length_drop]; exact Nat.le_refl _)
def sp_sum_shown : SpZ Unit := fun ds w Q E => ∃ a b m n t rows, ds = [ln a b m, .int n, .int t, .tup (rows.map rxD)] ∧ ((∀ x ∈ rows, RxOk x) ∧ rows.length ≤ 100000) ∧ Stp (∀ v : Bool, (v = true ↔ 1 ≤ m ∧ Chk rows ∧ rows[0]? = some ((n, a, b, m), t)) → Q (.bl v) w)
def sp__law_draw : SpZ Unit := fun ds w Q _ => ∃ (ns : List Int) (k : Int), ds = [.arr (ns.map D.int), .int k] ∧ (ns.length ≤ 63 ∧ 0 ≤ k ∧ k ≤ 100000) ∧ ∀ r, 0 ≤ r → r < 2147483579 → Q (.int r) w
theorem rngD_len (lo : Int) (n : Nat) : (rngD lo n).length = n := by unfold rngD; rw [List.length_map, List.length_range]
theorem rng_get {lo : Int} {n i : Nat} {d : D} (h : (rngD lo n)[i]? = some d) : i < n ∧ d = .int (lo + (i : Int)) := by
  have hi : i < n := by
    have := (List.getElem?_eq_some_iff.mp h).1
    rw [rngD_len] at this
    exact this
  rw [rngD_at hi] at h
  exact ⟨hi, (Option.some.inj h).symm⟩
theorem atI_range {f : Nat → D} {n j : Nat} {x : Int} (h : j < n) (e : x = j) : atI ((List.range n).map f) x = some (f j) := by
  subst e
  unfold atI ixN
  rw [List.length_map, List.length_range, if_pos (by omega), if_pos (by omega)]
  show ((List.range n).map f)[((j : Int)).toNat]? = _
  rw [Int.toNat_natCast, List.getElem?_map, List.getElem?_range h]
  rfl
theorem range_snoc {α : Type} (f : Nat → α) (i : Nat) : (List.range (i + 1)).map f = (List.range i).map f ++ [f i] := by
  rw [List.range_succ, List.map_append]; rfl
def sp__law_number : SpZ Unit := fun ds w Q _ => ∃ (ns : List Int) (k g : Int), ds = [.arr (ns.map D.int), .int k, .int g] ∧ (ns.length ≤ 63 ∧ 0 ≤ k ∧ k ≤ 90000 ∧ 1 ≤ g ∧ g ≤ 60) ∧ ∀ r, 0 ≤ r → r < 10 ^ 60 → Sm 241 r → Q (.int r) w
theorem ixT {l : List D} {n : Nat} (hn : l.length = n) (h0 : 0 < n) {i : Int} {q : D → Prop} (h : ∀ z, z ∈ l → q z) : ixD (.tup l) (.int (i % (n : Int))) q := by
  have m0 := Int.emod_nonneg i (show (n : Int) ≠ 0 by omega)
  have m1 := Int.emod_lt_of_pos i (show 0 < (n : Int) by omega)
  have hv : (i % (n : Int)).toNat < l.length := by omega
  refine ⟨l[(i % (n : Int)).toNat], ?_, h _ (List.getElem_mem hv)⟩
  unfold atI ixN
  rw [if_pos m0, if_pos (by omega)]
  show l[_]? = _
  rw [List.getElem?_eq_getElem hv]
theorem ixT4 {a b c d : Int} {i : Int} {q : D → Prop} {P : Int → Prop} (pa : P a) (pb : P b) (pc : P c) (pd : P d) (h : ∀ z, P z → q (.int z)) : ixD (.tup [.int a, .int b, .int c, .int d]) (.int (i % 4)) q := ixT (n := 4) rfl (by decide) fun z hz => by
  simp only [List.mem_cons, List.not_mem_nil, or_false] at hz
  rcases hz with rfl | rfl | rfl | rfl <;> exact h _ (by assumption)
theorem ixT3 {a b c : Int} {i : Int} {q : D → Prop} {P : Int → Prop} (pa : P a) (pb : P b) (pc : P c) (h : ∀ z, P z → q (.int z)) : ixD (.tup [.int a, .int b, .int c]) (.int (i % 3)) q := ixT (n := 3) rfl (by decide) fun z hz => by
  simp only [List.mem_cons, List.not_mem_nil, or_false] at hz
  rcases hz with rfl | rfl | rfl <;> exact h _ (by assumption)
def sp__law_line : SpZ Unit := fun ds w Q _ => ∃ (ns : List Int) (k g : Int), ds = [.arr (ns.map D.int), .int k, .int g] ∧ (ns.length ≤ 63 ∧ 0 ≤ k ∧ k ≤ 80000 ∧ 1 ≤ g ∧ g ≤ 60) ∧ ∀ a b m, 1 ≤ m → Sm 250 a → Sm 250 b → Sm 250 m → Q (ln a b m) w
def sp__law_paper : SpZ Unit := fun ds w Q E => ∃ a b m n, ds = [ln a b m, .int n] ∧ ∃ l, Pap (n, a, b, m) l ∧ Q (.tup (l.map rowD)) w
def sp__law_within : SpZ Unit := fun ds w Q E => ∃ x s, ds = [.int x, .int s] ∧ (Sm 1010 x ∧ Sm 20 s) ∧ Q (.int x) w ∧ Q (.int (x - 2 * s)) w
structure RxG (s : Nat) (x : Rx) : Prop where
  m1 : 1 ≤ x.1.2.2.2
  sa : Sm s x.1.2.1
  sb : Sm s x.1.2.2.1
  sm : Sm s x.1.2.2.2
  sn : Sm s x.1.1
theorem RxG.le {s t : Nat} {x : Rx} (h : RxG s x) (l : s ≤ t) : RxG t x := ⟨h.m1, h.sa.le l, h.sb.le l, h.sm.le l, h.sn.le l⟩
theorem RxG.ok {x : Rx} (h : RxG 1100 x) : RxOk x := ⟨h.sa, h.sb, h.sm, h.sn⟩
theorem pxs_g {r : Rw} {L : List Rw} (h : Pap r L) : ∀ x ∈ pxs L, RxG 1000 x := fun x hx => by
  unfold pxs at hx
  obtain ⟨q, hq, rfl⟩ := List.mem_map.mp hx
  have o := h.ok q hq
  exact ⟨o.m1, o.sa, o.sb, o.sm, o.sn⟩
theorem ixT2 {a b : Int} {i : Int} {q : D → Prop} {P : Int → Prop} (pa : P a) (pb : P b) (h : ∀ z, P z → q (.int z)) : ixD (.tup [.int a, .int b]) (.int (i % 2)) q := ixT (n := 2) rfl (by decide) fun z hz => by
  simp only [List.mem_cons, List.not_mem_nil, or_false] at hz
  rcases hz with rfl | rfl <;> exact h _ (by assumption)
theorem erase_map {α β : Type} (f : α → β) : ∀ (l : List α) (k : Nat), (l.map f).eraseIdx k = (l.eraseIdx k).map f
  | [], _ => rfl
  | _ :: _, 0 => rfl
  | x :: l, k + 1 => by show f x :: (l.map f).eraseIdx k = f x :: (l.eraseIdx k).map f; rw [erase_map f l k]
theorem rx_of {rows : List Rx} {k : Int} (h0 : 0 ≤ k) (h1 : k < rows.length) : ∃ x, atI (rows.map rxD) k = some (rxD x) ∧ x ∈ rows ∧ rows[k.toNat]? = some x := by
  have h2 : k.toNat < rows.length := by omega
  exact ⟨rows[k.toNat], rx_at h0 (List.getElem?_eq_getElem h2), List.getElem_mem h2, List.getElem?_eq_getElem h2⟩
def sp__law_row_spoilt : SpZ Unit := fun ds w Q E => ∃ x d, ds = [rxD x, .int d] ∧ (RxG 1000 x ∧ 0 ≤ d ∧ Sm 63 d) ∧ ∀ y, RxG 1050 y → Q (rxD y) w
theorem cutD_map {α : Type} (f : α → D) (l : List α) (a b : Option Int) : Z.cutD (l.map f) a b = ((l.drop (HT.sIx l.length 0 a)).take (HT.sIx l.length l.length b - HT.sIx l.length 0 a)).map f := by
  unfold Z.cutD
  rw [List.length_map, List.map_take, List.map_drop]
def sp__law_spoilt : SpZ Unit := fun ds w Q E => ∃ (rows : List Rx) (d k : Int), ds = [.tup (rows.map rxD), .int d, .int k] ∧ ((∀ x ∈ rows, RxG 1000 x) ∧ rows ≠ [] ∧ rows.length ≤ 3000 ∧ 0 ≤ d ∧ Sm 63 d ∧ 0 ≤ k) ∧ Stp (∀ l : List Rx, (∀ x ∈ l, RxG 1050 x) → l.length ≤ 3001 → Q (.tup (l.map rxD)) w)
def sp__law_fitted : SpZ Unit := fun ds w Q E => ∃ rows : List Rx, ds = [.tup (rows.map rxD)] ∧ ((∀ x ∈ rows, RxG 1050 x) ∧ rows.length ≤ 3001) ∧ Stp (∀ l : List Rx, (∀ x ∈ l, RxG 1050 x) → l.length ≤ 3001 → Q (.tup (l.map rxD)) w)
def sp__law_no_line : SpZ Unit := fun ds w Q E => ∃ a b m n, ds = [ln a b m, .int n] ∧ m < 1 ∧ Q (.bl true) w
theorem sum_range (f : Nat → Int) : ∀ n : Nat, ((List.range n).map f).sum = Z.sumZ f n
  | 0 => rfl
  | n + 1 => by rw [range_snoc, List.sum_append, sum_range f n]; simp [Z.sumZ]
abbrev sp_law : SpZ Unit := spLaw ()
theorem ok_need_line {P : Program} {w : World} {K : PySem.W.Frag} {mg : Str → Option Value} {base : Heap} {ec : Nat → Addr} {CL : Addr} (T : Tx K mg ec CL) {f : Addr} {fd : FuncData} (F : Fun K "need_line" "need_line" s_need_line f fd) (hm : mg "need_line" = some (.ref f)) (hb : Binds K fd ["line"] []) :
    Fd P w K mg base (W0 ec) 1 "need_line" sp_need_line := by
  have nd := sc_need_line.nd
  refine fnz F sc_need_line hm hb (by
    unfold sp_need_line; intro ds w Q Q' E E' k k'
    repeat' (first | exact id | exact k _ _ | exact k' _ _ | refine Exists.imp fun _ => ?_ | refine And.imp ?_ ?_ | refine Or.imp ?_ ?_ | refine Z.impR ?_ | refine Z.allR fun _ => ?_ | refine Z.Stp.imp ?_)) (by
    intro ds w' Q E h; unfold sp_need_line at h; obtain ⟨a, b, m, rfl, -⟩ := h; rfl) (fun cdv A outer s H E hr =>
  (zb_one (z_if (z_tcmp op_lt l_lt (z_ix ix_seq l_ix (z_var 0) z_int) z_int)
  (zb_one (z_raise (c := 0) T.e0))
  zb_nil))) ?_
  intro ds w Q E h
  unfold sp_need_line at h
  clear nd hb hm F T fd f base mg K CL
  obtain ⟨a, b, m, rfl, h1, h2⟩ := h
  kby_none
  · exact h1 (by assumption)
  · exact h2 (by omega)
theorem ok_height_at {P : Program} {w : World} {K : PySem.W.Frag} {mg : Str → Option Value} {base : Heap} {ec : Nat → Addr} {CL : Addr} (T : Tx K mg ec CL) {f : Addr} {fd : FuncData} (F : Fun K "height_at" "height_at" s_height_at f fd) (hm : mg "height_at" = some (.ref f)) (hb : Binds K fd ["line", "place"] []) (d_need_line : Fd P w K mg base (W0 ec) 1 "need_line" sp_need_line) :
    Fd P w K mg base (W0 ec) 2 "height_at" sp_height_at := by
  have nd := sc_height_at.nd
  refine fnz F sc_height_at hm hb (by
    unfold sp_height_at; intro ds w Q Q' E E' k k'
    repeat' (first | exact id | exact k _ _ | exact k' _ _ | refine Exists.imp fun _ => ?_ | refine And.imp ?_ ?_ | refine Or.imp ?_ ?_ | refine Z.impR ?_ | refine Z.allR fun _ => ?_ | refine Z.Stp.imp ?_)) (by
    intro ds w' Q E h; unfold sp_height_at at h; obtain ⟨a, b, m, x, rfl, -⟩ := h; rfl) (fun cdv A outer s H E hr =>
  (zb_cons (z_drop (z_callP d_need_line hr (z_cons (z_var 0) z_nil)))
  (zb_one (z_ret (z_op o_add l_add (z_op o_mul l_mul (z_ix ix_seq l_ix (z_var 0) z_int) (z_var 1)) (z_ix ix_seq l_ix (z_var 0) z_int)))))) ?_
  intro ds w Q E h
  unfold sp_height_at at h
  clear nd d_need_line hb hm F T fd f ec base mg K CL
  obtain ⟨a, b, m, x, rfl, h1, h2⟩ := h
  kby_none
  · exact h1 (by assumption)
  all_goals obtain ⟨⟨q1, q2⟩, q⟩ := h2 (by assumption)
  · kt_field
  · exact q
theorem ok_part_at {P : Program} {w : World} {K : PySem.W.Frag} {mg : Str → Option Value} {base : Heap} {ec : Nat → Addr} {CL : Addr} (T : Tx K mg ec CL) {f : Addr} {fd : FuncData} (F : Fun K "part_at" "part_at" s_part_at f fd) (hm : mg "part_at" = some (.ref f)) (hb : Binds K fd ["line", "place"] []) (d_height_at : Fd P w K mg base (W0 ec) 2 "height_at" sp_height_at) :
    Fd P w K mg base (W0 ec) 3 "part_at" sp_part_at := by
  have nd := sc_part_at.nd
  refine fnz F sc_part_at hm hb (by
    unfold sp_part_at; intro ds w Q Q' E E' k k'
    repeat' (first | exact id | exact k _ _ | exact k' _ _ | refine Exists.imp fun _ => ?_ | refine And.imp ?_ ?_ | refine Or.imp ?_ ?_ | refine Z.impR ?_ | refine Z.allR fun _ => ?_ | refine Z.Stp.imp ?_)) (by
    intro ds w' Q E h; unfold sp_part_at at h; obtain ⟨a, b, m, x, rfl, -⟩ := h; rfl) (fun cdv A outer s H E hr =>
  (zb_one (z_ret (z_op o_div l_div (z_callP d_height_at hr (z_cons (z_var 0) (z_cons (z_var 1) z_nil))) (z_ix ix_seq l_ix (z_var 0) z_int))))) ?_
  intro ds w Q E h
  unfold sp_part_at at h
  clear nd d_height_at hb hm F T fd f ec base mg K CL
  obtain ⟨a, b, m, x, rfl, h1, h2⟩ := h
  kby_none
  · exact h1 (by assumption)
  all_goals obtain ⟨⟨q1, q2, q3⟩, q⟩ := h2 (by assumption)
  all_goals first | assumption | exact q | exact q3.le (by decide)
theorem ok_rest_at {P : Program} {w : World} {K : PySem.W.Frag} {mg : Str → Option Value} {base : Heap} {ec : Nat → Addr} {CL : Addr} (T : Tx K mg ec CL) {f : Addr} {fd : FuncData} (F : Fun K "rest_at" "rest_at" s_rest_at f fd) (hm : mg "rest_at" = some (.ref f)) (hb : Binds K fd ["line", "place"] []) (d_height_at : Fd P w K mg base (W0 ec) 2 "height_at" sp_height_at) :
    Fd P w K mg base (W0 ec) 3 "rest_at" sp_rest_at := by
  have nd := sc_rest_at.nd
  refine fnz F sc_rest_at hm hb (by
    unfold sp_rest_at; intro ds w Q Q' E E' k k'
    repeat' (first | exact id | exact k _ _ | exact k' _ _ | refine Exists.imp fun _ => ?_ | refine And.imp ?_ ?_ | refine Or.imp ?_ ?_ | refine Z.impR ?_ | refine Z.allR fun _ => ?_ | refine Z.Stp.imp ?_)) (by
    intro ds w' Q E h; unfold sp_rest_at at h; obtain ⟨a, b, m, x, rfl, -⟩ := h; rfl) (fun cdv A outer s H E hr =>
  (zb_one (z_ret (z_op op_mod l_mod (z_callP d_height_at hr (z_cons (z_var 0) (z_cons (z_var 1) z_nil))) (z_ix ix_seq l_ix (z_var 0) z_int))))) ?_
  intro ds w Q E h
  unfold sp_rest_at at h
  clear nd d_height_at hb hm F T fd f ec base mg K CL
  obtain ⟨a, b, m, x, rfl, h1, h2⟩ := h
  kby_none
  · exact h1 (by assumption)
  all_goals obtain ⟨⟨q1, q2, q3⟩, q⟩ := h2 (by assumption)
  all_goals first | assumption | exact q | exact q3.le (by decide)
theorem ok_laid_off {P : Program} {w : World} {K : PySem.W.Frag} {mg : Str → Option Value} {base : Heap} {ec : Nat → Addr} {CL : Addr} (T : Tx K mg ec CL) {f : Addr} {fd : FuncData} (F : Fun K "laid_off" "laid_off" s_laid_off f fd) (hm : mg "laid_off" = some (.ref f)) (hb : Binds K fd ["line"] []) (d_need_line : Fd P w K mg base (W0 ec) 1 "need_line" sp_need_line) :
    Fd P w K mg base (W0 ec) 2 "laid_off" sp_laid_off := by
  have nd := sc_laid_off.nd
  refine fnz F sc_laid_off hm hb (by
    unfold sp_laid_off; intro ds w Q Q' E E' k k'
    repeat' (first | exact id | exact k _ _ | exact k' _ _ | refine Exists.imp fun _ => ?_ | refine And.imp ?_ ?_ | refine Or.imp ?_ ?_ | refine Z.impR ?_ | refine Z.allR fun _ => ?_ | refine Z.Stp.imp ?_)) (by
    intro ds w' Q E h; unfold sp_laid_off at h; obtain ⟨a, b, m, rfl, -⟩ := h; rfl) (fun cdv A outer s H E hr =>
  (zb_cons (z_drop (z_callP d_need_line hr (z_cons (z_var 0) z_nil)))
  (zb_cons (z_asg (z_var 0) (g_tup (gs_cons 1 nd (gs_cons 2 nd (gs_cons 3 nd gs_nil)))))
  (zb_one (z_ret (z_tup (z_cons (z_op o_div l_div (z_var 1) (z_var 3)) (z_cons (z_op o_div l_div (z_var 2) (z_var 3)) (z_cons (z_tup (z_cons (z_op op_mod l_mod (z_var 1) (z_var 3)) (z_cons (z_op op_mod l_mod (z_var 2) (z_var 3)) (z_cons (z_var 3) z_nil)))) z_nil))))))))) ?_
  intro ds w Q E h
  unfold sp_laid_off at h
  clear nd d_need_line hb hm F T fd f ec base mg K CL
  obtain ⟨a, b, m, rfl, h1, h2⟩ := h
  kby_none
  · exact h1 (by assumption)
  all_goals obtain ⟨q1, q⟩ := h2 (by assumption)
  all_goals first | assumption | exact q | exact ⟨by omega, q1⟩
theorem ok_turned {P : Program} {w : World} {K : PySem.W.Frag} {mg : Str → Option Value} {base : Heap} {ec : Nat → Addr} {CL : Addr} (T : Tx K mg ec CL) {f : Addr} {fd : FuncData} (F : Fun K "turned" "turned" s_turned f fd) (hm : mg "turned" = some (.ref f)) (hb : Binds K fd ["line", "n"] []) (d_need_line : Fd P w K mg base (W0 ec) 1 "need_line" sp_need_line) (d_part_at : Fd P w K mg base (W0 ec) 3 "part_at" sp_part_at) (d_rest_at : Fd P w K mg base (W0 ec) 3 "rest_at" sp_rest_at) :
    Fd P w K mg base (W0 ec) 4 "turned" sp_turned := by
  have nd := sc_turned.nd
  refine fnz F sc_turned hm hb (by
    unfold sp_turned; intro ds w Q Q' E E' k k'
    repeat' (first | exact id | exact k _ _ | exact k' _ _ | refine Exists.imp fun _ => ?_ | refine And.imp ?_ ?_ | refine Or.imp ?_ ?_ | refine Z.impR ?_ | refine Z.allR fun _ => ?_ | refine Z.Stp.imp ?_)) (by
    intro ds w' Q E h; unfold sp_turned at h; obtain ⟨a, b, m, n, rfl, -⟩ := h; rfl) (fun cdv A outer s H E hr =>
  (zb_cons (z_drop (z_callP d_need_line hr (z_cons (z_var 0) z_nil)))
  (zb_cons (z_asg (z_var 0) (g_tup (gs_cons 2 nd (gs_cons 3 nd (gs_cons 4 nd gs_nil)))))
  (zb_cons (z_if (z_pw (z_or (z_not (z_tch op_le op_lt l_le l_lt z_int (z_var 2) (z_var 4))) (z_or1 (z_not (z_tch op_le op_lt l_le l_lt z_int (z_var 3) (z_var 4))))))
  (zb_one (z_raise (c := 1) T.e1))
  zb_nil)
  (zb_cons (z_set 5 (z_callP d_part_at hr (z_cons (z_var 0) (z_cons (z_var 1) z_nil))) nd)
  (zb_cons (z_if (z_tcmp (o_eq hr) l_eq (z_var 5) z_int)
  (zb_one (z_ret (z_tup (z_cons z_int (z_cons z_non z_nil)))))
  zb_nil)
  (zb_one (z_ret (z_tup (z_cons (z_var 5) (z_cons (z_tup (z_cons (z_var 4) (z_cons (z_callP d_rest_at hr (z_cons (z_var 0) (z_cons (z_var 1) z_nil))) (z_cons (z_var 2) z_nil)))) z_nil))))))))))) ?_
  intro ds w Q E h
  unfold sp_turned at h
  clear nd d_need_line d_part_at d_rest_at hb hm F T fd f base mg K CL
  obtain ⟨a, b, m, n, rfl, h1, h2⟩ := h
  kby_none
  · exact h1 (by assumption)
  all_goals have h3 := h2 (by assumption)
  all_goals try exact h3.1 (by omega)
  all_goals obtain ⟨⟨q1, q2⟩, q3, q4⟩ := h3.2 (by omega)
  all_goals first | assumption | exact q3 (by assumption) | exact q4 (by assumption) | exact q1.of_le (by omega) (by omega)
theorem ok_own_part {P : Program} {w : World} {K : PySem.W.Frag} {mg : Str → Option Value} {base : Heap} {ec : Nat → Addr} {CL : Addr} (T : Tx K mg ec CL) {f : Addr} {fd : FuncData} (F : Fun K "own_part" "own_part" s_own_part f fd) (hm : mg "own_part" = some (.ref f)) (hb : Binds K fd ["line", "n"] []) (d_laid_off : Fd P w K mg base (W0 ec) 2 "laid_off" sp_laid_off) :
    Fd P w K mg base (W0 ec) 3 "own_part" sp_own_part := by
  have nd := sc_own_part.nd
  refine fnz F sc_own_part hm hb (by
    unfold sp_own_part; intro ds w Q Q' E E' k k'
    repeat' (first | exact id | exact k _ _ | exact k' _ _ | refine Exists.imp fun _ => ?_ | refine And.imp ?_ ?_ | refine Or.imp ?_ ?_ | refine Z.impR ?_ | refine Z.allR fun _ => ?_ | refine Z.Stp.imp ?_)) (by
    intro ds w' Q E h; unfold sp_own_part at h; obtain ⟨a, b, m, n, rfl, -⟩ := h; rfl) (fun cdv A outer s H E hr =>
  (zb_cons (z_asg (z_callP d_laid_off hr (z_cons (z_var 0) z_nil)) (g_tup (gs_cons 2 nd (gs_cons 3 nd (gs_cons 4 nd gs_nil)))))
  (zb_one (z_ret (z_op o_add l_add (z_op o_mul l_mul (z_var 2) (z_op o_div l_div (z_op o_mul l_mul (z_var 1) (z_op op_sub l_sub (z_var 1) z_int)) z_int)) (z_op o_mul l_mul (z_var 3) (z_var 1))))))) ?_
  intro ds w Q E h
  unfold sp_own_part at h
  clear nd d_laid_off hb hm F T fd f ec base mg K CL
  obtain ⟨a, b, m, n, rfl, h1, h2⟩ := h
  by_cases c : m < 1
  · kby_none
    exact h1 c
  obtain ⟨⟨sa, sb, sm, sn⟩, q⟩ := h2 (by omega)
  kby_none
  exact q
theorem ok_sum_paper {P : Program} {w : World} {K : PySem.W.Frag} {mg : Str → Option Value} {base : Heap} {ec : Nat → Addr} {CL : Addr} (T : Tx K mg ec CL) {f : Addr} {fd : FuncData} (F : Fun K "sum_paper" "sum_paper" s_sum_paper f fd) (hm : mg "sum_paper" = some (.ref f)) (hb : Binds K fd ["line", "n"] []) (d_turned : Fd P w K mg base (W0 ec) 4 "turned" sp_turned) (d_own_part : Fd P w K mg base (W0 ec) 3 "own_part" sp_own_part) (d_laid_off : Fd P w K mg base (W0 ec) 2 "laid_off" sp_laid_off) :
    Fd P w K mg base (W0 ec) 5 "sum_paper" sp_sum_paper := by
  have nd := sc_sum_paper.nd
  refine fnz F sc_sum_paper hm hb (by
    unfold sp_sum_paper; intro ds w Q Q' E E' k k'
    repeat' (first | exact id | exact k _ _ | exact k' _ _ | refine Exists.imp fun _ => ?_ | refine And.imp ?_ ?_ | refine Or.imp ?_ ?_ | refine Z.impR ?_ | refine Z.allR fun _ => ?_ | refine Z.Stp.imp ?_)) (by
    intro ds w' Q E h; unfold sp_sum_paper at h; obtain ⟨a, b, m, n, rfl, -⟩ := h; rfl) (fun cdv A outer s H E hr =>
  (zb_cons (z_own 2 (z_lst z_nil) nd)
  (zb_cons (z_while (z_tcmp op_notN l_notN (z_var 0) z_non)
  (zb_cons (z_appO 2 (z_tup (z_cons (z_var 1) (z_cons (z_var 0) z_nil))))
  (zb_one (z_asg (z_callP d_turned hr (z_cons (z_ix ix_seq l_ix (z_callP d_laid_off hr (z_cons (z_var 0) z_nil)) z_int) (z_cons (z_var 1) z_nil))) (g_tup (gs_cons 1 nd (gs_cons 0 nd gs_nil)))))))
  (zb_cons (z_own 3 (z_lst z_nil) nd)
  (zb_cons (z_set 4 z_int nd)
  (zb_frz 2 (zb_cons (z_forL (z_fz (z_rev (z_var 2))) (g_tup (gs_cons 1 nd (gs_cons 0 nd gs_nil)))
  (zb_cons (z_set 4 (z_op o_add l_add (z_var 4) (z_callP d_own_part hr (z_cons (z_var 0) (z_cons (z_var 1) z_nil)))) nd)
  (zb_one (z_appO 3 (z_tup (z_cons (z_var 1) (z_cons (z_var 0) (z_cons (z_var 4) z_nil))))))))
  (zb_frz 3 (zb_one (z_ret (z_tupC T.tuple_ (z_cons (z_fz (z_rev (z_var 3))) z_nil)))))))))))) ?_
  intro ds w Q E h
  unfold sp_sum_paper at h
  clear nd d_turned d_own_part d_laid_off hb hm F T fd f ec base mg K CL
  obtain ⟨a, b, m, n, rfl, h1, h2⟩ := h
  by_cases c : m < 1
  · kby_none
    refine ⟨fun j δ w' => j = 0 ∧ δ = [.val (ln a b m), .val (.int n), .own [], .no, .no], ⟨0, rfl, rfl⟩, ?_⟩
    rintro j δ w' ⟨rfl, rfl⟩
    kby_none
    exact h1 c
  obtain ⟨L, ⟨hL, hok⟩, q⟩ := h2 (by omega)
  have hr := hok _ (List.mem_of_getElem? hL.head)
  have hl : L.length ≤ 2 * 1000 := hL.len 1000 hok (Rw.lt hr (Nat.le_refl _))
  have hL0 := hL.head
  clear h1 h2
  kby_none
  refine ⟨fun j δ w' => ∃ (pre : List Rw) (x0 x1 : D), δ = [.val x0, .val x1, .own (pre.map kD), .no, .no] ∧ Stp ((x0 = .non ∧ pre = L) ∨ ∃ (r : Rw) (rest : List Rw), x0 = ln r.2.1 r.2.2.1 r.2.2.2 ∧ x1 = .int r.1 ∧ j = r.2.2.2.toNat ∧ L = pre ++ rest ∧ Chain r rest ∧ RwOk 1000 r), ⟨m.toNat, [], _, _, rfl, Stp.mk (.inr ⟨(n, a, b, m), L, rfl, rfl, rfl, rfl, hL, hr⟩)⟩, ?_⟩
  rintro j δ w' ⟨pre, x0, x1, rfl, hI⟩
  rcases hI.out with ⟨rfl, rfl⟩ | ⟨r, rest, rfl, rfl, hj, hpre, hc, hro⟩
  · clear hI hL0 hr
    rename_i q0
    clear q0
    kby_none
    refine ⟨fun i δ w' => ∃ (x0 x1 : Sl) (t : Int), δ = [x0, x1, .val (.lst (pre.map kD)), .own (((pre.drop (pre.length - i)).map rowD).reverse), .val (.int t)] ∧ Stp (t = headS (pre.drop (pre.length - i))), ⟨_, _, 0, by rw [Nat.sub_zero, List.drop_length]; rfl, Stp.mk (by rw [Nat.sub_zero, List.drop_length]; rfl)⟩, ?_, ?_⟩
    · rintro i d δ w' hd ⟨x0, x1, t, rfl, ht⟩
      obtain ⟨q', hq, hi, rfl⟩ := rev_at hd
      obtain ⟨m1, n0, sa, sb, sm, sn⟩ := hok q' (List.mem_of_getElem? hq)
      have e1 : pre.drop (pre.length - (i + 1)) = q' :: pre.drop (pre.length - i) := by
        have := drop_at hq
        rw [show pre.length - 1 - i + 1 = pre.length - i by omega, show pre.length - 1 - i = pre.length - (i + 1) by omega] at this
        exact this
      have hs := hL.sums hok _ q' hq
      rw [show pre.length - 1 - i + 1 = pre.length - i by omega] at hs
      have ht2 : t + ownR q' = sumR q' := by
        rw [hs, ht.out]
        unfold headS
        rw [List.getElem?_drop, Nat.add_zero]; omega
      have hlen : (((pre.drop (pre.length - i)).map rowD).reverse).length ≤ 2000 := by rw [List.length_reverse, List.length_map, List.length_drop]; omega
      have s1 : Sm 2000 q'.2.1 := sa.le (by decide)
      have s2 : Sm 2000 q'.2.2.1 := sb.le (by decide)
      have s3 : Sm 2000 q'.2.2.2 := sm.le (by decide)
      have s4 : Sm 2000 q'.1 := sn.le (by decide)
      clear hs ht hok hL
      kby_none
      have rowE : rowD q' = D.tup [.int q'.1, ln q'.2.1 q'.2.2.1 q'.2.2.2, .int (t + ownR q')] := by unfold rowD; rw [← ht2]
      exact ⟨.val (ln q'.2.1 q'.2.2.1 q'.2.2.2), .val (.int q'.1), t + ownR q', by rw [e1, List.map_cons, List.reverse_cons, rowE]; rfl, Stp.mk (by rw [e1, ht2]; rfl)⟩
    · rintro δ w' ⟨x0, x1, t, rfl, ht⟩
      rw [List.length_reverse, List.length_map, Nat.sub_self, List.drop_zero]
      have q2 : Q (.tup ((pre.map rowD).reverse.reverse)) w := by rw [List.reverse_reverse]; exact q
      exact q2
  · have hn := hro.next
    obtain ⟨m1, n0, sa, sb, sm, sn⟩ := id hro
    obtain ⟨⟨a0, a1⟩, b0, b1⟩ := hro.rests
    have lp : pre.length ≤ 2000 := by have := congrArg List.length hpre; rw [List.length_append] at this; omega
    have ty : 0 ≤ r.2.1 % r.2.2.2 ∧ r.2.1 % r.2.2.2 < r.2.2.2 ∧ 0 ≤ r.2.2.1 % r.2.2.2 ∧ r.2.2.1 % r.2.2.2 < r.2.2.2 := ⟨a0, a1, b0, b1⟩
    clear hI
    kby_none
    · exact absurd ty (by assumption)
    · rename_i hz
      have e := hc.uniq (.last hz)
      exact ⟨0, by omega, pre ++ [r], _, _, by rw [List.map_append]; rfl, Stp.mk (.inl ⟨rfl, by rw [hpre, e]⟩)⟩
    · rename_i hz
      cases hc with
      | last hm => exact absurd hm hz
      | more hm h2 => exact ⟨(r.2.1 % r.2.2.2).toNat, by omega, pre ++ [r], _, _, by rw [List.map_append]; rfl, Stp.mk (.inr ⟨nextR r, _, rfl, rfl, rfl, by rw [hpre, List.append_assoc]; rfl, h2, hn hm⟩)⟩
theorem ok_sum_shown {P : Program} {w : World} {K : PySem.W.Frag} {mg : Str → Option Value} {base : Heap} {ec : Nat → Addr} {CL : Addr} (T : Tx K mg ec CL) {f : Addr} {fd : FuncData} (F : Fun K "sum_shown" "sum_shown" s_sum_shown f fd) (hm : mg "sum_shown" = some (.ref f)) (hb : Binds K fd ["line", "n", "total", "paper"] []) (d_turned : Fd P w K mg base (W0 ec) 4 "turned" sp_turned) (d_own_part : Fd P w K mg base (W0 ec) 3 "own_part" sp_own_part) (d_laid_off : Fd P w K mg base (W0 ec) 2 "laid_off" sp_laid_off) :
    Fd P w K mg base (W0 ec) 5 "sum_shown" sp_sum_shown := by
  have nd := sc_sum_shown.nd
  refine fnz F sc_sum_shown hm hb (by
    unfold sp_sum_shown; intro ds w Q Q' E E' k k'
    repeat' (first | exact id | exact k _ _ | exact k' _ _ | refine Exists.imp fun _ => ?_ | refine And.imp ?_ ?_ | refine Or.imp ?_ ?_ | refine Z.impR ?_ | refine Z.allR fun _ => ?_ | refine Z.Stp.imp ?_)) (by
    intro ds w' Q E h; unfold sp_sum_shown at h; obtain ⟨a, b, m, n, t, rows, rfl, -⟩ := h; rfl) (fun cdv A outer s H E hr =>
  (zb_cons (z_if (z_pw (z_or (z_tcmp op_lt l_lt (z_ix ix_seq l_ix (z_var 0) z_int) z_int) (z_or (z_tcmp (o_eq hr) l_eq (z_var 3) (z_tup z_nil)) (z_or1 (z_tcmp (o_ne hr) l_ne (z_ix ix_seq l_ix (z_var 3) z_int) (z_tup (z_cons (z_var 1) (z_cons (z_var 0) (z_cons (z_var 2) z_nil)))))))))
  (zb_one (z_ret z_bl))
  zb_nil)
  (zb_cons (z_forI (i_enum T.enumerate_ (z_cons (z_var 3) z_nil)) (g_tup (gs_cons 4 nd (gs_cons 5 nd gs_nil)))
  (zb_cons (z_if (z_tcmp (o_ne hr) l_ne (z_len T.len_ (z_cons (z_var 5) z_nil)) z_int)
  (zb_one (z_ret z_bl))
  zb_nil)
  (zb_cons (z_asg (z_var 5) (g_tup (gs_cons 6 nd (gs_cons 7 nd (gs_cons 8 nd gs_nil)))))
  (zb_cons (z_if (z_pw (z_or (z_tcmp (o_ne hr) l_ne (z_len T.len_ (z_cons (z_var 7) z_nil)) z_int) (z_or (z_tcmp op_lt l_lt (z_ix ix_seq l_ix (z_var 7) z_int) z_int) (z_or1 (z_tcmp op_lt l_lt (z_var 6) z_int)))))
  (zb_one (z_ret z_bl))
  zb_nil)
  (zb_cons (z_asg (z_callP d_turned hr (z_cons (z_ix ix_seq l_ix (z_callP d_laid_off hr (z_cons (z_var 7) z_nil)) z_int) (z_cons (z_var 6) z_nil))) (g_tup (gs_cons 9 nd (gs_cons 10 nd gs_nil))))
  (zb_cons (z_set 11 (z_op op_sub l_sub (z_var 8) (z_callP d_own_part hr (z_cons (z_var 7) (z_cons (z_var 6) z_nil)))) nd)
  (zb_cons (z_if (z_tcmp op_isN l_isN (z_var 10) z_non)
  (zb_one (z_ret (z_andV (z_cmp (o_eq hr) l_eq (z_var 4) (z_op op_sub l_sub (z_len T.len_ (z_cons (z_var 3) z_nil)) z_int)) (z_one (z_cmp (o_eq hr) l_eq (z_var 11) z_int)))))
  zb_nil)
  (zb_one (z_if (z_pw (z_or (z_tcmp (o_eq hr) l_eq (z_var 4) (z_op op_sub l_sub (z_len T.len_ (z_cons (z_var 3) z_nil)) z_int)) (z_or1 (z_tcmp (o_ne hr) l_ne (z_ix ix_seq l_ix (z_var 3) (z_op o_add l_add (z_var 4) z_int)) (z_tup (z_cons (z_var 9) (z_cons (z_var 10) (z_cons (z_var 11) z_nil))))))))
  (zb_one (z_ret z_bl))
  zb_nil)))))))))
  (zb_one (z_ret z_bl))))) ?_
  intro ds w Q E h
  unfold sp_sum_shown at h
  clear nd d_turned d_own_part d_laid_off hb hm F T fd f ec base mg K CL
  obtain ⟨a, b, m, n, t, rows, rfl, ⟨hok, hlen⟩, q⟩ := h
  have q := q.out
  by_cases c : m < 1
  · kby_none
    exact q false ⟨fun h => absurd h (by decide), fun h => absurd h.1 (by omega)⟩
  by_cases c2 : rows = []
  · subst c2
    have q := q false ⟨fun h => absurd h (by decide), fun h => absurd h.2.1 Chk.nil⟩
    kby_none
    all_goals kby_none
    all_goals exact q
  obtain ⟨x, hx⟩ : ∃ x, rows[0]? = some x := by cases rows with | nil => exact absurd rfl c2 | cons x l => exact ⟨x, rfl⟩
  have a0 : atI (rows.map rxD) 0 = some (rxD x) := rx_at (by omega) hx
  have ok : okD (.tup (rows.map rxD)) = true := okD_rx rows
  have dp : dpD (.tup (rows.map rxD)) ≤ 64 := by show dpDs (rows.map rxD) + 1 ≤ 64; have := dpD_rx rows; omega
  have dn : deqs (rows.map rxD) [] = false := by have := deqs_rx rows []; rw [decide_eq_false c2] at this; exact this
  have dx : deq (rxD x) (.tup [.int n, ln a b m, .int t]) = decide (x = ((n, a, b, m), t)) := deq_rx x ((n, a, b, m), t)
  kby_none
  · exact absurd (dn.symm.trans (by assumption)) (by decide)
  · rename_i hf
    rw [dx] at hf
    have hf := of_decide_eq_false hf
    kby_none
    exact q false ⟨fun h => absurd h (by decide), fun h => absurd (Option.some.inj (hx.symm.trans h.2.2)) hf⟩
  rename_i hf
  rw [dx] at hf
  obtain rfl := of_decide_eq_true hf
  clear hf dx a0 dn c2
  have q : ∀ v : Bool, (v = true ↔ Chk rows) → Q (.bl v) w := fun v h => q v (h.trans ⟨fun g => ⟨by omega, g, hx⟩, fun g => g.2.1⟩)
  kby_none
  refine ⟨fun i δ w' => ∃ (x4 x5 x6 x7 x8 x9 x10 x11 : Sl), δ = [.val (ln a b m), .val (.int n), .val (.int t), .val (.tup (rows.map rxD)), x4, x5, x6, x7, x8, x9, x10, x11] ∧ Stp (Chk rows ↔ Chk (rows.drop i)), ⟨_, _, _, _, _, _, _, _, rfl, Stp.mk (by rw [List.drop_zero])⟩, ?_, ?_⟩
  · rintro i d δ w' hd ⟨x4, x5, x6, x7, x8, x9, x10, x11, rfl, hI⟩
    obtain ⟨d1, hd1, rfl⟩ := enumL_of hd
    rw [List.getElem?_map] at hd1
    obtain ⟨y, hy, rfl⟩ := Option.map_eq_some_iff.mp hd1
    have hdr := drop_at hy
    have hI := hI.out
    rw [hdr] at hI
    have hil := (List.getElem?_eq_some_iff.mp hy).1
    obtain ⟨sa, sb, sm, sn⟩ := hok y (List.mem_of_getElem? hy)
    have s1 : Sm 2000 y.1.2.1 := sa.le (by decide)
    have s2 : Sm 2000 y.1.2.2.1 := sb.le (by decide)
    have s3 : Sm 2000 y.1.2.2.2 := sm.le (by decide)
    have s4 : Sm 2000 y.1.1 := sn.le (by decide)
    by_cases c1 : y.1.2.2.2 < 1
    · have q := q false ⟨fun h => absurd h (by decide), fun h => absurd (hI.mp h).pos.1 (by omega)⟩
      kby_none
      all_goals first | exact q | exact absurd (by assumption) (by decide) | omega
    by_cases c2 : y.1.1 < 0
    · have q := q false ⟨fun h => absurd h (by decide), fun h => absurd (hI.mp h).pos.2 (by omega)⟩
      kby_none
      all_goals first | exact q | exact absurd (by assumption) (by decide) | omega
    have a0 := Int.emod_nonneg y.1.2.1 (show y.1.2.2.2 ≠ 0 by omega)
    have a1 := Int.emod_lt_of_pos y.1.2.1 (show 0 < y.1.2.2.2 by omega)
    have b0 := Int.emod_nonneg y.1.2.2.1 (show y.1.2.2.2 ≠ 0 by omega)
    have b1 := Int.emod_lt_of_pos y.1.2.2.1 (show 0 < y.1.2.2.2 by omega)
    have ty : 0 ≤ y.1.2.1 % y.1.2.2.2 ∧ y.1.2.1 % y.1.2.2.2 < y.1.2.2.2 ∧ 0 ≤ y.1.2.2.1 % y.1.2.2.2 ∧ y.1.2.2.1 % y.1.2.2.2 < y.1.2.2.2 := ⟨a0, a1, b0, b1⟩
    have rl : (rows.drop (i + 1)).length = rows.length - (i + 1) := List.length_drop
    by_cases hm : manyR y.1 = 0
    · have hm2 : (y.1.2.1 % y.1.2.2.2 * y.1.1 + y.1.2.2.1 % y.1.2.2.2) / y.1.2.2.2 = 0 := hm
      rw [Chk.end (by omega) (by omega) hm] at hI
      by_cases cl : (i : Int) = (rows.length : Int) - 1
      · have q := q (deq (.int (y.2 - (y.1.2.1 / y.1.2.2.2 * tri y.1.1 + y.1.2.2.1 / y.1.2.2.2 * y.1.1))) (.int 0)) (by
          rw [hI, Z.deq_int, beq_iff_eq]
          exact ⟨fun h => ⟨List.eq_nil_of_length_eq_zero (by omega), h⟩, fun h => h.2⟩)
        kby_none
        all_goals first | exact q | (rename_i g; exact absurd ty g) | (rename_i g; rw [List.length_map] at g; exact absurd cl g) | (exfalso; exact absurd hm2 (by assumption))
      · have q := q false ⟨fun h => absurd h (by decide), fun h => by
          have := congrArg List.length (hI.mp h).1
          rw [rl, List.length_nil] at this
          omega⟩
        kby_none
        all_goals first | exact q | (rename_i g; exact absurd ty g) | (rename_i g; rw [List.length_map] at g; exact absurd g cl) | (exfalso; exact absurd hm2 (by assumption))
    · have hm2 : (y.1.2.1 % y.1.2.2.2 * y.1.1 + y.1.2.2.1 % y.1.2.2.2) / y.1.2.2.2 ≠ 0 := hm
      rw [Chk.on (by omega) (by omega) hm] at hI
      by_cases cl : (i : Int) = (rows.length : Int) - 1
      · have e : rows.drop (i + 1) = [] := List.eq_nil_of_length_eq_zero (by omega)
        rw [e] at hI
        have q := q false ⟨fun h => absurd h (by decide), fun h => absurd (hI.mp h).2 Chk.nil⟩
        kby_none
        all_goals first | (exfalso; exact absurd ty (by assumption)) | (exfalso; exact absurd (by assumption) hm2) | (exfalso; rename_i g; rw [List.length_map] at g; exact absurd cl g) | exact q
      · obtain ⟨z, hz⟩ : ∃ z, rows[i + 1]? = some z := ⟨_, List.getElem?_eq_getElem (show i + 1 < rows.length by omega)⟩
        have z0 : atI (rows.map rxD) ((i : Int) + 1) = some (rxD z) := rx_at (by omega) hz
        have zd : deq (rxD z) (.tup [.int ((y.1.2.1 % y.1.2.2.2 * y.1.1 + y.1.2.2.1 % y.1.2.2.2) / y.1.2.2.2), ln y.1.2.2.2 ((y.1.2.1 % y.1.2.2.2 * y.1.1 + y.1.2.2.1 % y.1.2.2.2) % y.1.2.2.2) (y.1.2.1 % y.1.2.2.2), .int (y.2 - (y.1.2.1 / y.1.2.2.2 * tri y.1.1 + y.1.2.2.1 / y.1.2.2.2 * y.1.1))]) = decide (z = (nextR y.1, y.2 - ownR y.1)) := deq_rx z (nextR y.1, y.2 - ownR y.1)
        have h0 : (rows.drop (i + 1))[0]? = some z := by rw [List.getElem?_drop]; exact hz
        rw [h0] at hI
        by_cases ce : z = (nextR y.1, y.2 - ownR y.1)
        · rw [decide_eq_true ce] at zd
          have hI2 : Stp (Chk rows ↔ Chk (rows.drop (i + 1))) := Stp.mk (hI.trans ⟨fun h => h.2, fun h => ⟨by rw [ce], h⟩⟩)
          clear hI
          kby_none
          all_goals first | (exfalso; exact absurd ty (by assumption)) | (exfalso; exact absurd (by assumption) hm2) | exact hI2 | (exfalso; rename_i g _; rw [List.length_map] at g; exact absurd g cl) | (exfalso; rename_i g; exact absurd (zd.symm.trans g) (by decide))
        · rw [decide_eq_false ce] at zd
          have q := q false ⟨fun h => absurd h (by decide), fun h => absurd (Option.some.inj (hI.mp h).1) ce⟩
          kby_none
          all_goals first | (exfalso; exact absurd ty (by assumption)) | (exfalso; exact absurd (by assumption) hm2) | exact q | (exfalso; rename_i g _; rw [List.length_map] at g; exact absurd g cl) | (exfalso; rename_i g; exact absurd (zd.symm.trans g) (by decide))
  · rintro δ w' ⟨x4, x5, x6, x7, x8, x9, x10, x11, rfl, hI⟩
    have hI := hI.out
    rw [enumL_len, List.length_map, List.drop_length] at hI
    have q := q false ⟨fun h => absurd h (by decide), fun h => absurd (hI.mp h) Chk.nil⟩
    kby_none
    all_goals kby_none
    all_goals exact q
theorem ok__law_draw {P : Program} {w : World} {K : PySem.W.Frag} {mg : Str → Option Value} {base : Heap} {ec : Nat → Addr} {CL : Addr} (T : Tx K mg ec CL) {f : Addr} {fd : FuncData} (F : Fun K "_law_draw" "_law_draw" s__law_draw f fd) (hm : mg "_law_draw" = some (.ref f)) (hb : Binds K fd ["_law_script", "_law_k"] []) :
    Fd P w K mg base (W0 ec) 1 "_law_draw" sp__law_draw := by
  have nd := sc__law_draw.nd
  refine fnz F sc__law_draw hm hb (by
    unfold sp__law_draw; intro ds w Q Q' E E' k k'
    repeat' (first | exact id | exact k _ _ | exact k' _ _ | refine Exists.imp fun _ => ?_ | refine And.imp ?_ ?_ | refine Or.imp ?_ ?_ | refine Z.impR ?_ | refine Z.allR fun _ => ?_ | refine Z.Stp.imp ?_)) (by
    intro ds w' Q E h; unfold sp__law_draw at h; obtain ⟨ns, k, rfl, -⟩ := h; rfl) (fun cdv A outer s H E hr =>
  (zb_cons (z_set 2 (z_max T.max_ (z_cons z_int (z_cons (z_len T.len_ (z_cons (z_var 0) z_nil)) z_nil))) nd)
  (zb_cons (z_set 3 (z_ix ix_seq l_ix (z_fz (z_cat (z_fz (z_lstC T.list_ (z_cons (z_var 0) z_nil))) (z_fz (z_lst (z_cons z_int z_nil))))) (z_op op_mod l_mod (z_var 1) (z_var 2))) nd)
  (zb_cons (z_if (z_pw (z_or (z_tcmp op_ge l_ge (z_var 3) (z_op op_pow l_pow z_int z_int)) (z_or1 (z_tcmp op_le l_le (z_var 3) (z_un un_neg l_neg (z_op op_pow l_pow z_int z_int))))))
  (zb_cons (z_forR1 4 T.range_ (z_cons (z_min T.min_ (z_cons (z_op o_div l_div (z_var 1) (z_var 2)) (z_cons z_int z_nil))) z_nil)
  (zb_one (z_set 3 (z_op o_div l_div (z_var 3) z_int) nd)) nd)
  (zb_one (z_ret (z_op op_mod l_mod (z_var 3) z_int))))
  zb_nil)
  (zb_cons (z_set 5 (z_op op_mod l_mod (z_op o_mul l_mul (z_op o_add l_add (z_op o_add l_add (z_op op_mod l_mod (z_var 3) z_int) z_int) (z_op o_mul l_mul z_int (z_op o_div l_div (z_var 1) (z_var 2)))) z_int) z_int) nd)
  (zb_cons (z_set 5 (z_op op_mod l_mod (z_op o_mul l_mul (z_var 5) (z_var 5)) z_int) nd)
  (zb_one (z_ret (z_op op_mod l_mod (z_op o_mul l_mul (z_var 5) z_int) z_int))))))))) ?_
  intro ds w Q E h
  unfold sp__law_draw at h
  clear nd hb hm F T fd f ec base mg K CL
  obtain ⟨ns, k, rfl, ⟨hlen, k0, k1⟩, h⟩ := h
  have hl : (ns.map D.int).length ≤ 63 := by rw [List.length_map]; exact hlen
  have s1 : Sm 10 (max 1 ((ns.map D.int).length : Int)) := by unfold Sm; omega
  have sk : Sm 20 k := by unfold Sm; omega
  have m0 := Int.emod_nonneg k (show max 1 ((ns.map D.int).length : Int) ≠ 0 by omega)
  have m1 := Int.emod_lt_of_pos k (show 0 < max 1 ((ns.map D.int).length : Int) by omega)
  obtain ⟨z, hz, -⟩ := atI_int (ns := ns ++ [0]) (k := k % max 1 ((ns.map D.int).length : Int)) m0 (by rw [List.length_append]; rw [List.length_map] at m1 hl ⊢; simp only [List.length_singleton]; omega)
  replace hz : atI (List.map D.int ns ++ [D.int 0]) (k % max 1 ((ns.map D.int).length : Int)) = some (D.int z) := by rw [List.map_append] at hz; exact hz
  have dv : DivOk (max 1 ((ns.map D.int).length : Int)) := ⟨by omega, s1.le (by decide)⟩
  have sz := Sm.mod (i := z) (Sm.num 2147483629) (by decide)
  have st : Sm 20 (k / max 1 ((ns.map D.int).length : Int)) := sk.div (by omega)
  have em : ∀ x : Int, 0 ≤ x % 1000003 ∧ x % 1000003 < 2147483579 := fun x => ⟨Int.emod_nonneg _ (by decide), by have := Int.emod_lt_of_pos x (show (0 : Int) < 1000003 by decide); omega⟩
  kby_none
  all_goals first
    | exact h _ (Int.emod_nonneg _ (by decide)) (Int.emod_lt_of_pos _ (by decide))
    | (refine ⟨fun i δ w' => ∃ (x4 x5 : Sl) (r : Int), δ = [.val (.arr (ns.map D.int)), .val (.int k), .val (.int (max 1 ((ns.map D.int).length : Int))), .val (.int r), x4, x5], ⟨_, _, z, rfl⟩, fun i δ w' hi hI => ?_, fun δ w' hI => ?_⟩
       · obtain ⟨x4, x5, r, rfl⟩ := hI
         kby_none
       · obtain ⟨x4, x5, r, rfl⟩ := hI
         kby_none
         exact h _ (em r).1 (em r).2)
theorem ok__law_number {P : Program} {w : World} {K : PySem.W.Frag} {mg : Str → Option Value} {base : Heap} {ec : Nat → Addr} {CL : Addr} (T : Tx K mg ec CL) {f : Addr} {fd : FuncData} (F : Fun K "_law_number" "_law_number" s__law_number f fd) (hm : mg "_law_number" = some (.ref f)) (hb : Binds K fd ["_law_script", "_law_at", "_law_most"] []) (d__law_draw : Fd P w K mg base (W0 ec) 1 "_law_draw" sp__law_draw) :
    Fd P w K mg base (W0 ec) 2 "_law_number" sp__law_number := by
  have nd := sc__law_number.nd
  refine fnz F sc__law_number hm hb (by
    unfold sp__law_number; intro ds w Q Q' E E' k k'
    repeat' (first | exact id | exact k _ _ | exact k' _ _ | refine Exists.imp fun _ => ?_ | refine And.imp ?_ ?_ | refine Or.imp ?_ ?_ | refine Z.impR ?_ | refine Z.allR fun _ => ?_ | refine Z.Stp.imp ?_)) (by
    intro ds w' Q E h; unfold sp__law_number at h; obtain ⟨ns, k, g, rfl, -⟩ := h; rfl) (fun cdv A outer s H E hr =>
  (zb_cons (z_set 3 (z_op o_add l_add z_int (z_op op_mod l_mod (z_callP d__law_draw hr (z_cons (z_var 0) (z_cons (z_var 1) z_nil))) (z_var 2))) nd)
  (zb_one (z_ret (z_intC T.int_ (z_cons (z_tjoin z_str (z_cons (z_fz (z_lcR1 (own := [("_law_k", 4)]) (ok := by show blkC ["_law_script", "_law_at", "_law_most", "_law_figures", "_law_k"] (defScope s__law_number) _ _ = true; decide +kernel) T.range_ (z_cons (z_var 3) z_nil) (c_ok (gzt := (gg_name 4)) (fun _ _ _ _ _ => (g_name 4 nd).pg) (fun _ _ _ _ _ => (z_strC T.str_ (z_cons (z_op op_mod l_mod (z_callP d__law_draw hr (z_cons (z_var 0) (z_cons (z_op o_add l_add (z_op o_add l_add (z_var 1) z_int) (z_var 4)) z_nil))) z_int) z_nil)))) nd)) z_nil)) z_nil)))))) ?_
  intro ds w Q E h
  unfold sp__law_number at h
  clear nd d__law_draw hb hm F T fd f ec base mg K CL
  obtain ⟨ns, k, g, rfl, ⟨hlen, k0, k1, g0, g1⟩, h⟩ := h
  kby_none
  all_goals rename_i r r0 r1
  all_goals have m0 := Int.emod_nonneg r (show g ≠ 0 by omega)
  all_goals have m1 := Int.emod_lt_of_pos r (show 0 < g by omega)
  · rw [rngD_len]; omega
  refine ⟨fun i acc w' => ∃ is : List Int, acc = (is.map tx).map D.str ∧ is.length = i ∧ Stp (∀ x ∈ is, 0 ≤ x ∧ x < 10), ⟨[], rfl, rfl, Stp.mk fun x hx => nomatch hx⟩, fun i d acc w' hd hI => ?_, fun acc w' hI => ?_⟩
  · obtain ⟨is, rfl, hl, hp⟩ := hI
    obtain ⟨hi, rfl⟩ := rng_get hd
    have sd : ∀ x : Int, Sm 1900 (x % 10) := fun x => Z.Sm.le (n := 63) (Z.Sm.near (by omega) (by omega)) (by decide)
    kby_none
    rename_i q q0 q1
    exact ⟨is ++ [q % 10], by rw [List.map_append, List.map_append]; rfl, by rw [List.length_append, hl]; rfl, Stp.mk fun x hx => (List.mem_append.mp hx).elim (hp.out x) fun e => by rw [List.mem_singleton.mp e]; omega⟩
  · obtain ⟨is, rfl, hl, hp⟩ := hI
    rw [rngD_len] at hl
    obtain ⟨v, v1, v2, v3⟩ := join_digits (is := is) (fun e => by rw [e] at hl; simp only [List.length_nil] at hl; omega) hp.out (by omega)
    have v4 := digs_sum hp.out
    have hs : ((is.map tx).map (·.length)).sum + (is.map tx).length * ("" : Str).length ≤ 16777216 := by
      have : ("" : Str).length = 0 := rfl
      rw [v4, this]; omega
    kby_none
    exact h _ v3.1 v3.2 (Z.Sm.lt10s (k := 60) (by omega) (by omega))
theorem ok__law_line {P : Program} {w : World} {K : PySem.W.Frag} {mg : Str → Option Value} {base : Heap} {ec : Nat → Addr} {CL : Addr} (T : Tx K mg ec CL) {f : Addr} {fd : FuncData} (F : Fun K "_law_line" "_law_line" s__law_line f fd) (hm : mg "_law_line" = some (.ref f)) (hb : Binds K fd ["_law_script", "_law_at", "_law_most"] []) (d__law_number : Fd P w K mg base (W0 ec) 2 "_law_number" sp__law_number) (d__law_draw : Fd P w K mg base (W0 ec) 1 "_law_draw" sp__law_draw) :
    Fd P w K mg base (W0 ec) 3 "_law_line" sp__law_line := by
  have nd := sc__law_line.nd
  refine fnz F sc__law_line hm hb (by
    unfold sp__law_line; intro ds w Q Q' E E' k k'
    repeat' (first | exact id | exact k _ _ | exact k' _ _ | refine Exists.imp fun _ => ?_ | refine And.imp ?_ ?_ | refine Or.imp ?_ ?_ | refine Z.impR ?_ | refine Z.allR fun _ => ?_ | refine Z.Stp.imp ?_)) (by
    intro ds w' Q E h; unfold sp__law_line at h; obtain ⟨ns, k, g, rfl, -⟩ := h; rfl) (fun cdv A outer s H E hr =>
  (zb_cons (z_set 3 (z_tup (z_cons z_int (z_cons z_int (z_cons z_int (z_cons (z_var 2) z_nil))))) nd)
  (zb_cons (z_set 4 (z_callP d__law_number hr (z_cons (z_var 0) (z_cons (z_op o_add l_add (z_var 1) z_int) (z_cons (z_ix ix_seq l_ix (z_var 3) (z_op op_mod l_mod (z_callP d__law_draw hr (z_cons (z_var 0) (z_cons (z_var 1) z_nil))) z_int)) z_nil)))) nd)
  (zb_cons (z_set 5 (z_callP d__law_number hr (z_cons (z_var 0) (z_cons (z_op o_add l_add (z_var 1) z_int) (z_cons (z_ix ix_seq l_ix (z_var 3) (z_op op_mod l_mod (z_callP d__law_draw hr (z_cons (z_var 0) (z_cons (z_op o_add l_add (z_var 1) z_int) z_nil))) z_int)) z_nil)))) nd)
  (zb_cons (z_set 6 (z_max T.max_ (z_cons z_int (z_cons (z_callP d__law_number hr (z_cons (z_var 0) (z_cons (z_op o_add l_add (z_var 1) z_int) (z_cons (z_ix ix_seq l_ix (z_var 3) (z_op op_mod l_mod (z_callP d__law_draw hr (z_cons (z_var 0) (z_cons (z_op o_add l_add (z_var 1) z_int) z_nil))) z_int)) z_nil)))) z_nil))) nd)
  (zb_cons (z_if (z_tcmp (o_eq hr) l_eq (z_op op_mod l_mod (z_callP d__law_draw hr (z_cons (z_var 0) (z_cons (z_op o_add l_add (z_var 1) z_int) z_nil))) z_int) z_int)
  (zb_one (z_set 4 (z_un un_neg l_neg (z_var 4)) nd))
  zb_nil)
  (zb_cons (z_if (z_tcmp (o_eq hr) l_eq (z_op op_mod l_mod (z_callP d__law_draw hr (z_cons (z_var 0) (z_cons (z_op o_add l_add (z_var 1) z_int) z_nil))) z_int) z_int)
  (zb_one (z_set 5 (z_un un_neg l_neg (z_var 5)) nd))
  zb_nil)
  (zb_one (z_ret (z_tup (z_cons (z_var 4) (z_cons (z_var 5) (z_cons (z_var 6) z_nil))))))))))))) ?_
  intro ds w Q E h
  unfold sp__law_line at h
  clear nd d__law_number d__law_draw hb hm F T fd f ec base mg K CL
  obtain ⟨ns, k, g, rfl, ⟨hlen, k0, k1, g0, g1⟩, h⟩ := h
  kby_none
  refine ixT4 (P := fun z => 1 ≤ z ∧ z ≤ 60) ⟨by omega, by omega⟩ ⟨by omega, by omega⟩ ⟨by omega, by omega⟩ ⟨by omega, by omega⟩ fun z1 hz => ?_
  obtain ⟨z10, z11⟩ := hz
  kby_none
  refine ixT4 (P := fun z => 1 ≤ z ∧ z ≤ 60) ⟨by omega, by omega⟩ ⟨by omega, by omega⟩ ⟨by omega, by omega⟩ ⟨by omega, by omega⟩ fun z2 hz => ?_
  obtain ⟨z20, z21⟩ := hz
  kby_none
  refine ixT4 (P := fun z => 1 ≤ z ∧ z ≤ 60) ⟨by omega, by omega⟩ ⟨by omega, by omega⟩ ⟨by omega, by omega⟩ ⟨by omega, by omega⟩ fun z3 hz => ?_
  obtain ⟨z30, z31⟩ := hz
  kby_none
  all_goals exact h _ _ _ (by omega) (Z.Sm.le (by kt_chr) (by decide)) (Z.Sm.le (by kt_chr) (by decide)) (Z.Sm.le (by kt_chr) (by decide))
theorem ok__law_paper {P : Program} {w : World} {K : PySem.W.Frag} {mg : Str → Option Value} {base : Heap} {ec : Nat → Addr} {CL : Addr} (T : Tx K mg ec CL) {f : Addr} {fd : FuncData} (F : Fun K "_law_paper" "_law_paper" s__law_paper f fd) (hm : mg "_law_paper" = some (.ref f)) (hb : Binds K fd ["_law_line_here", "_law_n"] []) :
    Fd P w K mg base (W0 ec) 1 "_law_paper" sp__law_paper := by
  have nd := sc__law_paper.nd
  refine fnz F sc__law_paper hm hb (by
    unfold sp__law_paper; intro ds w Q Q' E E' k k'
    repeat' (first | exact id | exact k _ _ | exact k' _ _ | refine Exists.imp fun _ => ?_ | refine And.imp ?_ ?_ | refine Or.imp ?_ ?_ | refine Z.impR ?_ | refine Z.allR fun _ => ?_ | refine Z.Stp.imp ?_)) (by
    intro ds w' Q E h; unfold sp__law_paper at h; obtain ⟨a, b, m, n, rfl, -⟩ := h; rfl) (fun cdv A outer s H E hr =>
  (zb_cons (z_own 2 (z_lst z_nil) nd)
  (zb_cons (z_while (z_tval z_bl)
  (zb_cons (z_asg (z_var 0) (g_tup (gs_cons 3 nd (gs_cons 4 nd (gs_cons 5 nd gs_nil)))))
  (zb_cons (z_set 6 (z_op o_add l_add (z_op o_mul l_mul (z_op o_div l_div (z_var 3) (z_var 5)) (z_op o_div l_div (z_op o_mul l_mul (z_var 1) (z_op op_sub l_sub (z_var 1) z_int)) z_int)) (z_op o_mul l_mul (z_op o_div l_div (z_var 4) (z_var 5)) (z_var 1))) nd)
  (zb_cons (z_appO 2 (z_tup (z_cons (z_var 1) (z_cons (z_var 0) (z_cons (z_var 6) z_nil)))))
  (zb_cons (z_set 3 (z_op op_mod l_mod (z_var 3) (z_var 5)) nd)
  (zb_cons (z_set 4 (z_op op_mod l_mod (z_var 4) (z_var 5)) nd)
  (zb_cons (z_set 7 (z_op o_div l_div (z_op o_add l_add (z_op o_mul l_mul (z_var 3) (z_var 1)) (z_var 4)) (z_var 5)) nd)
  (zb_cons (z_if (z_tcmp (o_eq hr) l_eq (z_var 7) z_int)
  (zb_one z_break)
  zb_nil)
  (zb_cons (z_set 0 (z_tup (z_cons (z_var 5) (z_cons (z_op op_mod l_mod (z_op o_add l_add (z_op o_mul l_mul (z_var 3) (z_var 1)) (z_var 4)) (z_var 5)) (z_cons (z_var 3) z_nil)))) nd)
  (zb_one (z_set 1 (z_var 7) nd)))))))))))
  (zb_cons (z_own 8 (z_lst z_nil) nd)
  (zb_cons (z_set 9 z_int nd)
  (zb_frz 2 (zb_cons (z_forL (z_fz (z_rev (z_var 2))) (g_tup (gs_cons 10 nd (gs_cons 11 nd (gs_cons 6 nd gs_nil))))
  (zb_cons (z_set 9 (z_op o_add l_add (z_var 9) (z_var 6)) nd)
  (zb_one (z_appO 8 (z_tup (z_cons (z_var 10) (z_cons (z_var 11) (z_cons (z_var 9) z_nil))))))))
  (zb_frz 8 (zb_one (z_ret (z_tupC T.tuple_ (z_cons (z_fz (z_rev (z_var 8))) z_nil)))))))))))) ?_
  intro ds w Q E h
  unfold sp__law_paper at h
  clear nd hb hm F T fd f ec base mg K CL
  obtain ⟨a, b, m, n, rfl, L, ⟨hL, hok⟩, q⟩ := h
  have hr := hok _ (List.mem_of_getElem? hL.head)
  have hl : L.length ≤ 2 * 1000 := hL.len 1000 hok (Rw.lt hr (Nat.le_refl _))
  kby_none
  refine ⟨fun j δ w' => ∃ (pre : List Rw) (x0 x1 : D) (x3 x4 x5 x6 x7 : Sl), δ = [.val x0, .val x1, .own (pre.map oD), x3, x4, x5, x6, x7, .no, .no, .no, .no] ∧ Stp (∃ (r : Rw) (rest : List Rw), x0 = ln r.2.1 r.2.2.1 r.2.2.2 ∧ x1 = .int r.1 ∧ j = r.2.2.2.toNat ∧ L = pre ++ rest ∧ Chain r rest ∧ RwOk 1000 r), ⟨m.toNat, [], _, _, _, _, _, _, _, rfl, Stp.mk ⟨(n, a, b, m), L, rfl, rfl, rfl, rfl, hL, hr⟩⟩, ?_⟩
  rintro j δ w' ⟨pre, x0, x1, x3, x4, x5, x6, x7, rfl, hI⟩
  obtain ⟨r, rest, rfl, rfl, hj, hpre, hc, hro⟩ := hI.out
  have hn := hro.next
  obtain ⟨m1, n0, sa, sb, sm, sn⟩ := id hro
  obtain ⟨⟨a0, a1⟩, b0, b1⟩ := hro.rests
  have lp : pre.length ≤ 2000 := by have := congrArg List.length hpre; rw [List.length_append] at this; omega
  clear hI
  kby_none
  · rename_i hz
    have eL : L = pre ++ [r] := by rw [hpre, hc.uniq (.last hz)]
    rw [show (List.map oD pre ++ [D.tup [.int r.1, ln r.2.1 r.2.2.1 r.2.2.2, .int (r.2.1 / r.2.2.2 * (r.1 * (r.1 - 1) / 2) + r.2.2.1 / r.2.2.2 * r.1)]]) = L.map oD from by rw [eL, List.map_append]; rfl]
    clear hpre hc hn eL lp
    kby_none
    refine ⟨fun i δ w' => ∃ (t : Int) (x0 x1 x3 x4 x5 x6 x7 x10 x11 : Sl), δ = [x0, x1, .val (.lst (L.map oD)), x3, x4, x5, x6, x7, .own (((L.drop (L.length - i)).map rowD).reverse), .val (.int t), x10, x11] ∧ Stp (t = headS (L.drop (L.length - i))), ⟨0, _, _, _, _, _, _, _, _, _, by rw [Nat.sub_zero, List.drop_length]; rfl, Stp.mk (by rw [Nat.sub_zero, List.drop_length]; rfl)⟩, ?_, ?_⟩
    · rintro i d δ w' hd ⟨t, x0, x1, x3, x4, x5, x6, x7, x10, x11, rfl, ht⟩
      obtain ⟨q', hq, hi, rfl⟩ := rev_at hd
      have e1 : L.drop (L.length - (i + 1)) = q' :: L.drop (L.length - i) := by
        have := drop_at hq
        rw [show L.length - 1 - i + 1 = L.length - i by omega, show L.length - 1 - i = L.length - (i + 1) by omega] at this
        exact this
      have hs := hL.sums hok _ q' hq
      rw [show L.length - 1 - i + 1 = L.length - i by omega] at hs
      have ht2 : t + ownR q' = sumR q' := by
        rw [hs, ht.out]
        unfold headS
        rw [List.getElem?_drop, Nat.add_zero]; omega
      have hlen : (((L.drop (L.length - i)).map rowD).reverse).length ≤ 2000 := by rw [List.length_reverse, List.length_map, List.length_drop]; omega
      clear hs ht hok hL
      kby_none
      have rowE : rowD q' = D.tup [.int q'.1, ln q'.2.1 q'.2.2.1 q'.2.2.2, .int (t + ownR q')] := by unfold rowD; rw [← ht2]
      exact ⟨t + ownR q', _, _, _, _, _, _, _, _, _, by rw [e1, List.map_cons, List.reverse_cons, rowE], Stp.mk (by rw [e1, ht2]; rfl)⟩
    · rintro δ w' ⟨t, x0, x1, x3, x4, x5, x6, x7, x10, x11, rfl, ht⟩
      rw [List.length_reverse, List.length_map, Nat.sub_self, List.drop_zero]
      have q2 : Q (.tup ((L.map rowD).reverse.reverse)) w := by rw [List.reverse_reverse]; exact q
      exact q2
  · rename_i hz
    cases hc with
    | last hm => exact absurd hm hz
    | more hm h2 => exact ⟨(r.2.1 % r.2.2.2).toNat, by omega, pre ++ [r], _, _, _, _, _, _, _, by rw [List.map_append]; rfl, Stp.mk ⟨nextR r, _, rfl, rfl, rfl, by rw [hpre, List.append_assoc]; rfl, h2, hn hm⟩⟩
theorem ok__law_within {P : Program} {w : World} {K : PySem.W.Frag} {mg : Str → Option Value} {base : Heap} {ec : Nat → Addr} {CL : Addr} (T : Tx K mg ec CL) {f : Addr} {fd : FuncData} (F : Fun K "_law_within" "_law_within" s__law_within f fd) (hm : mg "_law_within" = some (.ref f)) (hb : Binds K fd ["_law_number_here", "_law_step"] []) :
    Fd P w K mg base (W0 ec) 1 "_law_within" sp__law_within := by
  have nd := sc__law_within.nd
  refine fnz F sc__law_within hm hb (by
    unfold sp__law_within; intro ds w Q Q' E E' k k'
    repeat' (first | exact id | exact k _ _ | exact k' _ _ | refine Exists.imp fun _ => ?_ | refine And.imp ?_ ?_ | refine Or.imp ?_ ?_ | refine Z.impR ?_ | refine Z.allR fun _ => ?_ | refine Z.Stp.imp ?_)) (by
    intro ds w' Q E h; unfold sp__law_within at h; obtain ⟨x, s, rfl, -⟩ := h; rfl) (fun cdv A outer s H E hr =>
  (zb_cons (z_if (z_tcmp op_gt l_gt (z_len T.len_ (z_cons (z_strC T.str_ (z_cons (z_abs T.abs_ (z_cons (z_var 0) z_nil)) z_nil)) z_nil)) z_int)
  (zb_one (z_ret (z_op op_sub l_sub (z_var 0) (z_op o_mul l_mul z_int (z_var 1)))))
  zb_nil)
  (zb_one (z_ret (z_var 0))))) ?_
  intro ds w Q E h
  unfold sp__law_within at h
  clear nd hb hm F T fd f ec base mg K CL
  obtain ⟨x, s, rfl, ⟨sx, ss⟩, q1, q2⟩ := h
  have sa : Sm 1900 (x.natAbs : Int) := by have := sx.le (show 1010 ≤ 1900 by decide); unfold Sm at this ⊢; omega
  have hl : (tx (x.natAbs : Int)).length ≤ 16777216 := by have := tx_length sa; omega
  kby_none
  all_goals first | exact hl | exact q2 | exact q1
theorem ok__law_row_spoilt {P : Program} {w : World} {K : PySem.W.Frag} {mg : Str → Option Value} {base : Heap} {ec : Nat → Addr} {CL : Addr} (T : Tx K mg ec CL) {f : Addr} {fd : FuncData} (F : Fun K "_law_row_spoilt" "_law_row_spoilt" s__law_row_spoilt f fd) (hm : mg "_law_row_spoilt" = some (.ref f)) (hb : Binds K fd ["_law_row", "_law_draw_here"] []) (d__law_within : Fd P w K mg base (W0 ec) 1 "_law_within" sp__law_within) :
    Fd P w K mg base (W0 ec) 2 "_law_row_spoilt" sp__law_row_spoilt := by
  have nd := sc__law_row_spoilt.nd
  refine fnz F sc__law_row_spoilt hm hb (by
    unfold sp__law_row_spoilt; intro ds w Q Q' E E' k k'
    repeat' (first | exact id | exact k _ _ | exact k' _ _ | refine Exists.imp fun _ => ?_ | refine And.imp ?_ ?_ | refine Or.imp ?_ ?_ | refine Z.impR ?_ | refine Z.allR fun _ => ?_ | refine Z.Stp.imp ?_)) (by
    intro ds w' Q E h; unfold sp__law_row_spoilt at h; obtain ⟨x, d, rfl, -⟩ := h; rfl) (fun cdv A outer s H E hr =>
  (zb_cons (z_set 2 (z_op o_mul l_mul (z_ix ix_seq l_ix (z_tup (z_cons z_int (z_cons (z_un un_neg l_neg z_int) z_nil))) (z_op op_mod l_mod (z_var 1) z_int)) (z_op o_add l_add z_int (z_op op_mod l_mod (z_op o_div l_div (z_var 1) z_int) z_int))) nd)
  (zb_cons (z_asg (z_var 0) (g_tup (gs_cons 3 nd (gs_cons 4 nd (gs_cons 5 nd gs_nil)))))
  (zb_cons (z_set 6 (z_op op_mod l_mod (z_op o_div l_div (z_var 1) z_int) z_int) nd)
  (zb_cons (z_if (z_tcmp (o_eq hr) l_eq (z_var 6) z_int)
  (zb_one (z_ret (z_tup (z_cons (z_callP d__law_within hr (z_cons (z_op o_add l_add (z_var 3) (z_var 2)) (z_cons (z_var 2) z_nil))) (z_cons (z_var 4) (z_cons (z_var 5) z_nil))))))
  zb_nil)
  (zb_cons (z_if (z_tcmp (o_eq hr) l_eq (z_var 6) z_int)
  (zb_one (z_ret (z_tup (z_cons (z_var 3) (z_cons (z_var 4) (z_cons (z_op o_add l_add (z_var 5) (z_var 2)) z_nil))))))
  zb_nil)
  (zb_cons (z_own 7 (z_lstC T.list_ (z_cons (z_var 4) z_nil)) nd)
  (zb_cons (z_setO 7 (z_op op_sub l_sub (z_var 6) z_int) (z_callP d__law_within hr (z_cons (z_op o_add l_add (z_ixO 7 (z_op op_sub l_sub (z_var 6) z_int)) (z_var 2)) (z_cons (z_var 2) z_nil))))
  (zb_cons (z_if (z_tcmp op_lt l_lt (z_ixO 7 z_int) z_int)
  (zb_one (z_setO 7 z_int z_int))
  zb_nil)
  (zb_frz 7 (zb_one (z_ret (z_tup (z_cons (z_var 3) (z_cons (z_tupC T.tuple_ (z_cons (z_var 7) z_nil)) (z_cons (z_var 5) z_nil)))))))))))))))) ?_
  intro ds w Q E h
  unfold sp__law_row_spoilt at h
  clear nd d__law_within hb hm F T fd f ec base mg K CL
  obtain ⟨x, d, rfl, ⟨⟨hm1, sa, sb, sm, sn⟩, d0, sd⟩, q⟩ := h
  kby_none
  refine ixT2 (P := fun z => z = 1 ∨ z = -1) (.inl rfl) (.inr rfl) fun z hz => ?_
  have s0 := Int.emod_nonneg (d / 2) (show (999 : Int) ≠ 0 by decide)
  have s1 := Int.emod_lt_of_pos (d / 2) (show (0 : Int) < 999 by decide)
  have sz : Sm 1 z := by unfold Sm; rcases hz with rfl | rfl <;> decide
  have ss : Sm 20 (z * (1 + d / 2 % 999)) := by unfold Sm; rcases hz with rfl | rfl <;> omega
  have hp : d / 1998 % 5 = 0 ∨ d / 1998 % 5 = 1 ∨ d / 1998 % 5 = 2 ∨ d / 1998 % 5 = 3 ∨ d / 1998 % 5 = 4 := by omega
  have two : Sm 2 2 := by unfold Sm; decide
  have r0 : ∀ v : Int, Sm 1000 v → Sm 1010 (v + z * (1 + d / 2 % 999)) := fun v h => (h.add ss).le (by decide)
  have r1 : ∀ v : Int, Sm 1000 v → Sm 1050 (v + z * (1 + d / 2 % 999)) := fun v h => (h.add ss).le (by decide)
  have r2 : ∀ v : Int, Sm 1000 v → Sm 1050 (v + z * (1 + d / 2 % 999) - 2 * (z * (1 + d / 2 % 999))) := fun v h => ((h.add ss).sub (two.mul ss)).le (by decide)
  have ra := r0 _ sa
  have rb := r0 _ sb
  have rm := r0 _ sm
  have rn := r0 _ sn
  have t1 := sa.le (show 1000 ≤ 1050 by decide)
  have t2 := sb.le (show 1000 ≤ 1050 by decide)
  have t3 := sm.le (show 1000 ≤ 1050 by decide)
  have t4 := sn.le (show 1000 ≤ 1050 by decide)
  rcases hp with e | e | e | e | e
  · kby_none
    · exact q ((x.1.1 + z * (1 + d / 2 % 999), x.1.2), x.2) ⟨hm1, t1, t2, t3, r1 _ sn⟩
    · exact q ((x.1.1 + z * (1 + d / 2 % 999) - 2 * (z * (1 + d / 2 % 999)), x.1.2), x.2) ⟨hm1, t1, t2, t3, r2 _ sn⟩
  · kby_none
    exact q (x.1, x.2 + z * (1 + d / 2 % 999)) ⟨hm1, t1, t2, t3, t4⟩
  · kby_none
    rw [e]
    kby_none
    all_goals first | (exfalso; omega) | skip
    · exact q ((x.1.1, x.1.2.1 + z * (1 + d / 2 % 999), x.1.2.2.1, x.1.2.2.2), x.2) ⟨hm1, r1 _ sa, t2, t3, t4⟩
    · exact q ((x.1.1, x.1.2.1 + z * (1 + d / 2 % 999) - 2 * (z * (1 + d / 2 % 999)), x.1.2.2.1, x.1.2.2.2), x.2) ⟨hm1, r2 _ sa, t2, t3, t4⟩
  · kby_none
    rw [e]
    kby_none
    all_goals first | (exfalso; omega) | skip
    · exact q ((x.1.1, x.1.2.1, x.1.2.2.1 + z * (1 + d / 2 % 999), x.1.2.2.2), x.2) ⟨hm1, t1, r1 _ sb, t3, t4⟩
    · exact q ((x.1.1, x.1.2.1, x.1.2.2.1 + z * (1 + d / 2 % 999) - 2 * (z * (1 + d / 2 % 999)), x.1.2.2.2), x.2) ⟨hm1, t1, r2 _ sb, t3, t4⟩
  · kby_none
    rw [e]
    kby_none
    all_goals first | (exfalso; omega) | skip
    · exact q ((x.1.1, x.1.2.1, x.1.2.2.1, 1), x.2) ⟨Int.le_refl 1, t1, t2, (Z.Sm.num 1).le (by decide), t4⟩
    · exact q ((x.1.1, x.1.2.1, x.1.2.2.1, x.1.2.2.2 + z * (1 + d / 2 % 999)), x.2) ⟨by rename_i g; exact Int.not_lt.mp g, t1, t2, r1 _ sm, t4⟩
    · exact q ((x.1.1, x.1.2.1, x.1.2.2.1, 1), x.2) ⟨Int.le_refl 1, t1, t2, (Z.Sm.num 1).le (by decide), t4⟩
    · exact q ((x.1.1, x.1.2.1, x.1.2.2.1, x.1.2.2.2 + z * (1 + d / 2 % 999) - 2 * (z * (1 + d / 2 % 999))), x.2) ⟨by rename_i g; exact Int.not_lt.mp g, t1, t2, r2 _ sm, t4⟩
theorem ok__law_spoilt {P : Program} {w : World} {K : PySem.W.Frag} {mg : Str → Option Value} {base : Heap} {ec : Nat → Addr} {CL : Addr} (T : Tx K mg ec CL) {f : Addr} {fd : FuncData} (F : Fun K "_law_spoilt" "_law_spoilt" s__law_spoilt f fd) (hm : mg "_law_spoilt" = some (.ref f)) (hb : Binds K fd ["_law_paper_here", "_law_draw_here", "_law_at"] []) (d__law_row_spoilt : Fd P w K mg base (W0 ec) 2 "_law_row_spoilt" sp__law_row_spoilt) :
    Fd P w K mg base (W0 ec) 3 "_law_spoilt" sp__law_spoilt := by
  have nd := sc__law_spoilt.nd
  refine fnz F sc__law_spoilt hm hb (by
    unfold sp__law_spoilt; intro ds w Q Q' E E' k k'
    repeat' (first | exact id | exact k _ _ | exact k' _ _ | refine Exists.imp fun _ => ?_ | refine And.imp ?_ ?_ | refine Or.imp ?_ ?_ | refine Z.impR ?_ | refine Z.allR fun _ => ?_ | refine Z.Stp.imp ?_)) (by
    intro ds w' Q E h; unfold sp__law_spoilt at h; obtain ⟨rows, d, k, rfl, -⟩ := h; rfl) (fun cdv A outer s H E hr =>
  (zb_cons (z_own 3 (z_lstC T.list_ (z_cons (z_var 0) z_nil)) nd)
  (zb_cons (z_set 4 (z_op op_mod l_mod (z_var 2) (z_lenO 3 T.len_)) nd)
  (zb_cons (z_set 5 (z_op op_mod l_mod (z_var 1) z_int) nd)
  (zb_cons (z_set 6 (z_op o_div l_div (z_var 1) z_int) nd)
  (zb_cons (z_if (z_tcmp op_lt l_lt (z_var 5) z_int)
  (zb_one (z_setO 3 (z_var 4) (z_callP d__law_row_spoilt hr (z_cons (z_ixO 3 (z_var 4)) (z_cons (z_var 6) z_nil)))))
  (zb_one (z_if (z_tcmp (o_eq hr) l_eq (z_var 5) z_int)
  (zb_one (z_popO 3 (z_var 4)))
  (zb_one (z_if (z_tcmp (o_eq hr) l_eq (z_var 5) z_int)
  (zb_one (z_insO 3 (z_var 4) (z_ixO 3 (z_op op_mod l_mod (z_var 6) (z_lenO 3 T.len_)))))
  (zb_one (z_if (z_tcmp (o_eq hr) l_eq (z_var 5) z_int)
  (zb_cons (z_set 7 (z_ixO 3 (z_var 4)) nd)
  (zb_cons (z_setO 3 (z_var 4) (z_ixO 3 (z_op op_mod l_mod (z_var 6) (z_lenO 3 T.len_))))
  (zb_one (z_setO 3 (z_op op_mod l_mod (z_var 6) (z_lenO 3 T.len_)) (z_var 7)))))
  (zb_one (z_if (z_tcmp (o_eq hr) l_eq (z_var 5) z_int)
  (zb_cons (z_set 8 (z_op o_mul l_mul (z_ix ix_seq l_ix (z_tup (z_cons z_int (z_cons (z_un un_neg l_neg z_int) z_nil))) (z_op op_mod l_mod (z_var 6) z_int)) (z_op o_add l_add z_int (z_op op_mod l_mod (z_op o_div l_div (z_var 6) z_int) z_int))) nd)
  (zb_one (z_forR1 9 T.range_ (z_cons (z_op o_add l_add (z_var 4) z_int) z_nil)
  (zb_cons (z_asg (z_ixO 3 (z_var 9)) (g_tup (gs_cons 10 nd (gs_cons 11 nd (gs_cons 12 nd gs_nil)))))
  (zb_one (z_setO 3 (z_var 9) (z_tup (z_cons (z_var 10) (z_cons (z_var 11) (z_cons (z_op o_add l_add (z_var 12) (z_var 8)) z_nil))))))) nd)))
  (zb_one (z_if (z_tcmp (o_eq hr) l_eq (z_var 5) z_int)
  (zb_frz 3 (zb_one (z_own 3 (z_slL (z_var 3) z_oN (z_oS (z_op o_add l_add (z_var 4) z_int))) nd)))
  (zb_one (z_appO 3 (z_tup (z_cons (z_op op_mod l_mod (z_var 6) z_int) (z_cons (z_tup (z_cons (z_op op_mod l_mod (z_op o_div l_div (z_var 6) z_int) z_int) (z_cons (z_op op_mod l_mod (z_op o_div l_div (z_var 6) z_int) z_int) (z_cons (z_op o_add l_add z_int (z_op op_mod l_mod (z_op o_div l_div (z_var 6) z_int) z_int)) z_nil)))) (z_cons (z_op op_mod l_mod (z_op o_div l_div (z_var 6) z_int) z_int) z_nil)))))))))))))))))
  (zb_frz 3 (zb_one (z_ret (z_tupC T.tuple_ (z_cons (z_var 3) z_nil))))))))))) ?_
  intro ds w Q E h
  unfold sp__law_spoilt at h
  clear nd d__law_row_spoilt hb hm F T fd f ec base mg K CL
  obtain ⟨rows, d, k, rfl, ⟨hx, hn, hl, d0, sd, k0⟩, q⟩ := h
  have q := q.out
  have lm : ((rows.map rxD).length : Int) = rows.length := by rw [List.length_map]
  have lp : 0 < rows.length := List.length_pos_iff.mpr hn
  have lp2 : 0 < ((rows.map rxD).length : Int) := by omega
  have p0 := Int.emod_nonneg k (show ((rows.map rxD).length : Int) ≠ 0 by omega)
  have p1 := Int.emod_lt_of_pos k lp2
  have e0 := Int.emod_nonneg (d / 9) (show ((rows.map rxD).length : Int) ≠ 0 by omega)
  have e1 := Int.emod_lt_of_pos (d / 9) lp2
  obtain ⟨x, ax, mx, gx⟩ := rx_of (rows := rows) p0 (by omega)
  obtain ⟨y, ay, my, gy⟩ := rx_of (rows := rows) e0 (by omega)
  have ix := ixN_in p0 p1
  have hx2 : ∀ x ∈ rows, RxG 1050 x := fun z hz => (hx z hz).le (by decide)
  have gx1 := hx x mx
  have d90 : 0 ≤ d / 9 := by omega
  have sd9 : Sm 63 (d / 9) := sd.div (by decide)
  have iy := ixN_in e0 e1
  have l2 : ((rows.map rxD).set (k % ((rows.map rxD).length : Int)).toNat (rxD y)).length = (rows.map rxD).length := List.length_set
  have l3 : (0 : Int) < (((rows.map rxD).set (k % ((rows.map rxD).length : Int)).toNat (rxD y)).length : Int) := by rw [l2]; exact lp2
  have f3 : Q (.tup ((rows.map rxD).eraseIdx (k % ((rows.map rxD).length : Int)).toNat)) w := by
    rw [erase_map]; exact q _ (fun z hz => hx2 z (List.mem_of_mem_eraseIdx hz)) (Nat.le_trans (List.length_eraseIdx_le ..) (by omega))
  have f4 : Q (.tup ((rows.map rxD).take (k % ((rows.map rxD).length : Int)).toNat ++ [rxD y] ++ (rows.map rxD).drop (k % ((rows.map rxD).length : Int)).toNat)) w := by
    rw [← List.map_take, ← List.map_drop, show [rxD y] = [y].map rxD from rfl, ← List.map_append, ← List.map_append]
    refine q _ (fun z hz => ?_) (by rw [List.length_append, List.length_append, List.length_take, List.length_drop, List.length_singleton]; omega)
    rcases List.mem_append.mp hz with hz | hz
    · rcases List.mem_append.mp hz with hz | hz
      · exact hx2 z (List.mem_of_mem_take hz)
      · rw [List.mem_singleton.mp hz]; exact hx2 y my
    · exact hx2 z (List.mem_of_mem_drop hz)
  have f5 : Q (.tup (((rows.map rxD).set (k % ((rows.map rxD).length : Int)).toNat (rxD y)).set (d / 9 % ((rows.map rxD).length : Int)).toNat (rxD x))) w := by
    rw [← List.map_set, ← List.map_set]
    refine q _ (fun z hz => ?_) (by rw [List.length_set, List.length_set]; omega)
    rcases List.mem_or_eq_of_mem_set hz with hz | rfl
    · rcases List.mem_or_eq_of_mem_set hz with hz | rfl
      · exact hx2 z hz
      · exact hx2 _ my
    · exact hx2 _ mx
  have f8 : Q (.tup (Z.cutD (rows.map rxD) none (some (k % ((rows.map rxD).length : Int) + 1)))) w := by
    rw [cutD_map]
    exact q _ (fun z hz => hx2 z (List.mem_of_mem_drop (List.mem_of_mem_take hz))) (by rw [List.length_take, List.length_drop]; omega)
  have f9 : Q (.tup (rows.map rxD ++ [rxD ((d / 9 % 3, d / 9 / 3 % 5, d / 9 / 15 % 5, 1 + d / 9 / 75 % 5), d / 9 / 375 % 3)])) w := by
    rw [show rows.map rxD ++ [rxD ((d / 9 % 3, d / 9 / 3 % 5, d / 9 / 15 % 5, 1 + d / 9 / 75 % 5), d / 9 / 375 % 3)] = (rows ++ [((d / 9 % 3, d / 9 / 3 % 5, d / 9 / 15 % 5, 1 + d / 9 / 75 % 5), d / 9 / 375 % 3)]).map rxD from by rw [List.map_append]; rfl]
    refine q _ (fun z hz => ?_) (by rw [List.length_append, List.length_singleton]; omega)
    rcases List.mem_append.mp hz with hz | hz
    · exact hx2 z hz
    · rw [List.mem_singleton.mp hz]
      exact ⟨by show 1 ≤ 1 + d / 9 / 75 % 5; omega, (Z.Sm.mod (Z.Sm.num 5) (by decide)).le (by decide), (Z.Sm.mod (Z.Sm.num 5) (by decide)).le (by decide), ((Z.Sm.num 1).add (Z.Sm.mod (Z.Sm.num 5) (by decide))).le (by decide), (Z.Sm.mod (Z.Sm.num 3) (by decide)).le (by decide)⟩
  kby_none
  all_goals try first
    | exact f3
    | exact f4
    | exact f8
    | exact f9
    | (rename_i v hv
       rw [← List.map_set]
       refine q (rows.set _ v) (fun z hz => ?_) (by rw [List.length_set]; omega)
       rcases List.mem_or_eq_of_mem_set hz with hz | rfl
       · exact hx2 z hz
       · exact hv)
  · rw [l2]
    kby_none
    exact f5
  refine ixT2 (P := fun z => z = 1 ∨ z = -1) (.inl rfl) (.inr rfl) fun z hz => ?_
  have sz : Sm 1 z := by unfold Sm; rcases hz with rfl | rfl <;> decide
  have hp : (k % ((rows.map rxD).length : Int) + 1).toNat ≤ rows.length := by omega
  clear f3 f4 f5 f8 f9 ax ay gx gy ix iy l2 l3
  kby_none
  refine ⟨fun i δ w' => ∃ (l : List Rx) (x7 x9 x10 x11 x12 : Sl), δ = [.val (.tup (rows.map rxD)), .val (.int d), .val (.int k), .own (l.map rxD), .val (.int (k % ((rows.map rxD).length : Int))), .val (.int (d % 9)), .val (.int (d / 9)), x7, .val (.int (z * (1 + d / 9 / 2 % 999))), x9, x10, x11, x12] ∧ l.length = rows.length ∧ Stp (∀ x ∈ l, RxG 1050 x), ⟨rows, _, _, _, _, _, rfl, rfl, Stp.mk hx2⟩, ?_, ?_⟩
  · rintro i δ w' hi ⟨l, x7, x9, x10, x11, x12, rfl, hli, hI⟩
    have h0 : (0 : Int) ≤ 0 + (i : Int) := by omega
    have h1 : 0 + (i : Int) < l.length := by omega
    obtain ⟨u, au, mu, gu⟩ := rx_of (rows := l) h0 h1
    have iu := ixN_in (n := (l.map rxD).length) h0 (by rw [List.length_map]; exact h1)
    have hu := hI.out u mu
    kby_none
    refine ⟨l.set (0 + (i : Int)).toNat (u.1, u.2 + z * (1 + d / 9 / 2 % 999)), _, _, _, _, _, by rw [List.map_set]; rfl, by rw [List.length_set]; exact hli, Stp.mk fun x hx => ?_⟩
    rcases List.mem_or_eq_of_mem_set hx with hx | rfl
    · exact hI.out x hx
    · exact ⟨hu.m1, hu.sa, hu.sb, hu.sm, hu.sn⟩
  · rintro δ w' ⟨l, x7, x9, x10, x11, x12, rfl, hli, hI⟩
    exact q l hI.out (by omega)
theorem ok__law_fitted {P : Program} {w : World} {K : PySem.W.Frag} {mg : Str → Option Value} {base : Heap} {ec : Nat → Addr} {CL : Addr} (T : Tx K mg ec CL) {f : Addr} {fd : FuncData} (F : Fun K "_law_fitted" "_law_fitted" s__law_fitted f fd) (hm : mg "_law_fitted" = some (.ref f)) (hb : Binds K fd ["_law_rows"] []) :
    Fd P w K mg base (W0 ec) 1 "_law_fitted" sp__law_fitted := by
  have nd := sc__law_fitted.nd
  refine fnz F sc__law_fitted hm hb (by
    unfold sp__law_fitted; intro ds w Q Q' E E' k k'
    repeat' (first | exact id | exact k _ _ | exact k' _ _ | refine Exists.imp fun _ => ?_ | refine And.imp ?_ ?_ | refine Or.imp ?_ ?_ | refine Z.impR ?_ | refine Z.allR fun _ => ?_ | refine Z.Stp.imp ?_)) (by
    intro ds w' Q E h; unfold sp__law_fitted at h; obtain ⟨rows, rfl, -⟩ := h; rfl) (fun cdv A outer s H E hr =>
  (zb_cons (z_own 1 (z_lst z_nil) nd)
  (zb_cons (z_set 2 z_int nd)
  (zb_cons (z_forT (z_revTu (z_var 0)) (g_tup (gs_cons 3 nd (gs_cons 4 nd (gs_cons 5 nd gs_nil))))
  (zb_cons (z_asg (z_var 4) (g_tup (gs_cons 6 nd (gs_cons 7 nd (gs_cons 8 nd gs_nil)))))
  (zb_cons (z_set 9 (z_op o_div l_div (z_op o_mul l_mul (z_var 3) (z_op op_sub l_sub (z_var 3) z_int)) z_int) nd)
  (zb_cons (z_set 2 (z_op o_add l_add (z_op o_add l_add (z_var 2) (z_op o_mul l_mul (z_op o_div l_div (z_var 6) (z_var 8)) (z_var 9))) (z_op o_mul l_mul (z_op o_div l_div (z_var 7) (z_var 8)) (z_var 3))) nd)
  (zb_one (z_appO 1 (z_tup (z_cons (z_var 3) (z_cons (z_var 4) (z_cons (z_var 2) z_nil))))))))))
  (zb_frz 1 (zb_one (z_ret (z_tupC T.tuple_ (z_cons (z_fz (z_rev (z_var 1))) z_nil))))))))) ?_
  intro ds w Q E h
  unfold sp__law_fitted at h
  clear nd hb hm F T fd f ec base mg K CL
  obtain ⟨rows, rfl, ⟨hx, hl⟩, q⟩ := h
  have q := q.out
  kby_none
  refine ⟨fun i δ w' => ∃ (l : List Rx) (t : Int) (x3 x4 x5 x6 x7 x8 x9 : Sl), δ = [.val (.tup (rows.map rxD)), .own (l.map rxD), .val (.int t), x3, x4, x5, x6, x7, x8, x9] ∧ l.length = i ∧ Stp (∀ x ∈ l, RxG 1050 x), ⟨[], _, _, _, _, _, _, _, _, rfl, rfl, Stp.mk fun x hx => nomatch hx⟩, ?_, ?_⟩
  · rintro i d δ w' hd ⟨l, t, x3, x4, x5, x6, x7, x8, x9, rfl, hli, hI⟩
    obtain ⟨r, hr, hi, rfl⟩ := rev_at hd
    have hg := hx r (List.mem_of_getElem? hr)
    obtain ⟨m1, sa, sb, sm, sn⟩ := id hg
    have ll : (l.map rxD).length ≤ 3001 := by rw [List.length_map]; omega
    kby_none
    exact ⟨l ++ [(r.1, t + r.1.2.1 / r.1.2.2.2 * (r.1.1 * (r.1.1 - 1) / 2) + r.1.2.2.1 / r.1.2.2.2 * r.1.1)], _, _, _, _, _, _, _, _, by rw [List.map_append]; rfl, by rw [List.length_append, hli]; rfl, Stp.mk fun x hx => (List.mem_append.mp hx).elim (hI.out x) fun e => by rw [List.mem_singleton.mp e]; exact ⟨m1, sa, sb, sm, sn⟩⟩
  · rintro δ w' ⟨l, t, x3, x4, x5, x6, x7, x8, x9, rfl, hli, hI⟩
    rw [List.length_reverse, List.length_map] at hli
    have fin : Q (.tup (l.map rxD).reverse) w' := by
      rw [← List.map_reverse]
      exact q l.reverse (fun x hx => hI.out x (List.mem_reverse.mp hx)) (by rw [List.length_reverse]; omega)
    kby_none
    all_goals exact fin
theorem ok__law_no_line {P : Program} {w : World} {K : PySem.W.Frag} {mg : Str → Option Value} {base : Heap} {ec : Nat → Addr} {CL : Addr} (T : Tx K mg ec CL) {f : Addr} {fd : FuncData} (F : Fun K "_law_no_line" "_law_no_line" s__law_no_line f fd) (hm : mg "_law_no_line" = some (.ref f)) (hb : Binds K fd ["_law_line_here", "_law_n"] []) (d_sum_paper : Fd P w K mg base (W0 ec) 5 "sum_paper" sp_sum_paper) :
    Fd P w K mg base (W0 ec) 6 "_law_no_line" sp__law_no_line := by
  have nd := sc__law_no_line.nd
  refine fnz F sc__law_no_line hm hb (by
    unfold sp__law_no_line; intro ds w Q Q' E E' k k'
    repeat' (first | exact id | exact k _ _ | exact k' _ _ | refine Exists.imp fun _ => ?_ | refine And.imp ?_ ?_ | refine Or.imp ?_ ?_ | refine Z.impR ?_ | refine Z.allR fun _ => ?_ | refine Z.Stp.imp ?_)) (by
    intro ds w' Q E h; unfold sp__law_no_line at h; obtain ⟨a, b, m, n, rfl, -⟩ := h; rfl) (fun cdv A outer s H E hr =>
  (zb_cons (z_set 2 z_non nd)
  (zb_cons (z_trye (ec := ec) 3 2 nd ⟨rfl, by decide, .inl T.nmL⟩ (fun e he => T.exm e he) (fun l k po => (zb_one (z_drop (z_callP d_sum_paper hr (z_cons (z_var 0) (z_cons (z_var 1) z_nil)))))))
  (zb_cons (z_if (z_tval (z_isXT (ec := ec) (fun e he => ⟨T.exk e he, (any_of (ec := ec) (cs := [6, 5, 4, 3, 2, 1]) (by intro c hc; simp only [List.mem_cons, List.not_mem_nil, or_false] at hc; rcases hc with rfl | rfl | rfl | rfl | rfl | rfl <;> first | exact T.isE6 e he | exact T.isE5 e he | exact T.isE4 e he | exact T.isE3 e he | exact T.isE2 e he | exact T.isE1 e he))⟩) (any_no (ec := ec) (cs := [6, 5, 4, 3, 2, 1]) (by intro c hc; simp only [List.mem_cons, List.not_mem_nil, or_false] at hc; rcases hc with rfl | rfl | rfl | rfl | rfl | rfl <;> first | exact T.noE6 | exact T.noE5 | exact T.noE4 | exact T.noE3 | exact T.noE2 | exact T.noE1)) (Nat.le_of_ble_eq_true rfl) T.isinstance_ (z_var 2) (cl_cons T.e6.gF (cl_cons T.e5.gF (cl_cons T.e4.gF (cl_cons T.e3.gF (cl_cons T.e2.gF (cl_cons T.e1.gF cl_nil))))))))
  (zb_one (z_ret z_bl))
  zb_nil)
  (zb_one (z_ret (z_andV (z_isXe (ec := ec) (fun e he => ⟨T.exk e he, T.isE0 e he⟩) T.noE0 T.isinstance_ T.e0.gF (z_var 2)) (z_one (z_isXBe (ec := ec) (fun e he => ⟨T.exk e he, T.isEV e he⟩) (kit_ty (by decide +kernel)) T.isinstance_ T.ValueError_ (by decide +kernel) (z_var 2)))))))))) ?_
  intro ds w Q E h
  unfold sp__law_no_line at h
  clear nd d_sum_paper hb hm F T fd f base mg K CL
  obtain ⟨a, b, m, n, rfl, m1, q⟩ := h
  kby_none
  exact q
theorem ok_law {P : Program} {w : World} {K : PySem.W.Frag} {mg : Str → Option Value} {base : Heap} {ec : Nat → Addr} {CL : Addr} (T : Tx K mg ec CL) {f : Addr} {fd : FuncData} (F : Fun K "law" "law" s_law f fd) (hm : mg "law" = some (.ref f)) (hb : Binds K fd ["_law_script"] []) (d__law_line : Fd P w K mg base (W0 ec) 3 "_law_line" sp__law_line) (d__law_number : Fd P w K mg base (W0 ec) 2 "_law_number" sp__law_number) (d__law_paper : Fd P w K mg base (W0 ec) 1 "_law_paper" sp__law_paper) (d__law_draw : Fd P w K mg base (W0 ec) 1 "_law_draw" sp__law_draw) (d__law_spoilt : Fd P w K mg base (W0 ec) 3 "_law_spoilt" sp__law_spoilt) (d_sum_shown : Fd P w K mg base (W0 ec) 5 "sum_shown" sp_sum_shown) (d__law_fitted : Fd P w K mg base (W0 ec) 1 "_law_fitted" sp__law_fitted) (d__law_no_line : Fd P w K mg base (W0 ec) 6 "_law_no_line" sp__law_no_line) :
    FnOk P w K mg base (L2.CX P w) 7 f fd ["_law_script"] (spz K (W0 ec) sp_law) := by
  have nd := sc_law.nd
  refine fnzOk F sc_law (by
    intro ds w' Q E h; obtain ⟨_, _, rfl, -⟩ := h; rfl) (fun cdv A outer s H E hr =>
  (zb_cons (z_forR1 1 T.range_ (z_cons z_int z_nil)
  (zb_cons (z_set 2 (z_ix ix_seq l_ix (z_tup (z_cons z_int (z_cons z_int (z_cons z_int z_nil)))) (z_op op_mod l_mod (z_callP d__law_draw hr (z_cons (z_var 0) (z_cons (z_op o_add l_add z_int (z_var 1)) z_nil))) z_int)) nd)
  (zb_cons (z_set 3 (z_callP d__law_line hr (z_cons (z_var 0) (z_cons (z_op o_add l_add (z_op o_mul l_mul z_int (z_var 1)) z_int) (z_cons (z_var 2) z_nil)))) nd)
  (zb_cons (z_set 4 (z_callP d__law_number hr (z_cons (z_var 0) (z_cons (z_op o_add l_add (z_op o_mul l_mul z_int (z_var 1)) z_int) (z_cons (z_var 2) z_nil)))) nd)
  (zb_cons (z_set 5 (z_callP d__law_paper hr (z_cons (z_var 3) (z_cons (z_var 4) z_nil))) nd)
  (zb_cons (z_set 6 (z_ix ix_seq l_ix (z_ix ix_seq l_ix (z_var 5) z_int) z_int) nd)
  (zb_cons (z_if (z_pw (z_or (z_tcmp op_notBl l_notB (z_callP d_sum_shown hr (z_cons (z_var 3) (z_cons (z_var 4) (z_cons (z_var 6) (z_cons (z_var 5) z_nil))))) z_bl) (z_or1 (z_tcmp op_notBl l_notB (z_callP d_sum_shown hr (z_cons (z_var 3) (z_cons (z_var 4) (z_cons (z_var 6) (z_cons (z_tup z_nil) z_nil))))) z_bl))))
  (zb_one (z_ret z_bl))
  zb_nil)
  (zb_cons (z_set 7 (z_op o_add l_add z_int (z_callP d__law_draw hr (z_cons (z_var 0) (z_cons (z_op o_add l_add z_int (z_var 1)) z_nil)))) nd)
  (zb_cons (z_forT (z_tup (z_cons z_int (z_cons (z_un un_neg l_neg z_int) (z_cons z_int (z_cons (z_un un_neg l_neg z_int) (z_cons z_int (z_cons (z_ix ix_seq l_ix (z_var 3) z_int) (z_cons (z_un un_neg l_neg (z_ix ix_seq l_ix (z_var 3) z_int)) (z_cons (z_op op_sub l_sub (z_op op_sub l_sub (z_un un_neg l_neg (z_var 6)) (z_var 6)) z_int) (z_cons (z_op op_pow l_pow z_int z_int) (z_cons (z_op o_mul l_mul z_int (z_var 7)) (z_cons (z_un un_neg l_neg (z_var 7)) z_nil)))))))))))) (g_name 8 nd)
  (zb_one (z_if (z_tcmp op_notBl l_notB (z_callP d_sum_shown hr (z_cons (z_var 3) (z_cons (z_var 4) (z_cons (z_op o_add l_add (z_var 6) (z_var 8)) (z_cons (z_var 5) z_nil))))) z_bl)
  (zb_one (z_ret z_bl))
  zb_nil)))
  (zb_cons (z_forR1 9 T.range_ (z_cons z_int z_nil)
  (zb_cons (z_set 10 (z_op o_add l_add (z_op o_add l_add z_int (z_op o_mul l_mul z_int (z_var 1))) (z_var 9)) nd)
  (zb_cons (z_set 11 (z_callP d__law_spoilt hr (z_cons (z_var 5) (z_cons (z_callP d__law_draw hr (z_cons (z_var 0) (z_cons (z_var 10) z_nil))) (z_cons (z_callP d__law_draw hr (z_cons (z_var 0) (z_cons (z_op o_add l_add (z_var 10) z_int) z_nil))) z_nil)))) nd)
  (zb_cons (z_if (z_tcmp (o_eq hr) l_eq (z_op op_mod l_mod (z_callP d__law_draw hr (z_cons (z_var 0) (z_cons (z_op o_add l_add (z_var 10) z_int) z_nil))) z_int) z_int)
  (zb_one (z_set 11 (z_callP d__law_fitted hr (z_cons (z_var 11) z_nil)) nd))
  zb_nil)
  (zb_cons (z_set 12 (z_var 6) nd)
  (zb_cons (z_if (z_pw (z_and (z_tcmp (o_eq hr) l_eq (z_op op_mod l_mod (z_callP d__law_draw hr (z_cons (z_var 0) (z_cons (z_op o_add l_add (z_var 10) z_int) z_nil))) z_int) z_int) (z_and1 (z_tcmp (o_ne hr) l_ne (z_var 11) (z_tup z_nil)))))
  (zb_one (z_set 12 (z_ix ix_seq l_ix (z_ix ix_seq l_ix (z_var 11) z_int) z_int) nd))
  zb_nil)
  (zb_cons (z_set 13 (z_andV (z_cmp (o_eq hr) l_eq (z_var 11) (z_var 5)) (z_one (z_cmp (o_eq hr) l_eq (z_var 12) (z_var 6)))) nd)
  (zb_cons (z_set 14 (z_callP d_sum_shown hr (z_cons (z_var 3) (z_cons (z_var 4) (z_cons (z_var 12) (z_cons (z_var 11) z_nil))))) nd)
  (zb_one (z_if (z_pw (z_or (z_not (z_tval (z_isT isBool_ok T.isinstance_ T.bool_ boot_bool' (z_var 14)))) (z_or1 (z_tcmp (o_ne hr) l_ne (z_var 14) (z_var 13)))))
  (zb_one (z_ret z_bl))
  zb_nil))))))))) nd)
  (zb_cons (z_set 15 (z_tup (z_cons (z_ix ix_seq l_ix (z_var 3) z_int) (z_cons (z_ix ix_seq l_ix (z_var 3) z_int) (z_cons (z_ix ix_seq l_ix (z_tup (z_cons z_int (z_cons (z_un un_neg l_neg z_int) (z_cons (z_un un_neg l_neg (z_ix ix_seq l_ix (z_var 3) z_int)) z_nil)))) (z_op op_mod l_mod (z_callP d__law_draw hr (z_cons (z_var 0) (z_cons (z_op o_add l_add z_int (z_var 1)) z_nil))) z_int)) z_nil)))) nd)
  (zb_cons (z_if (z_pw (z_or (z_not (z_tval (z_callP d__law_no_line hr (z_cons (z_var 15) (z_cons (z_var 4) z_nil))))) (z_or1 (z_not (z_tval (z_callP d__law_no_line hr (z_cons (z_var 15) (z_cons z_int z_nil))))))))
  (zb_one (z_ret z_bl))
  zb_nil)
  (zb_cons (z_if (z_tcmp op_notBl l_notB (z_callP d_sum_shown hr (z_cons (z_var 15) (z_cons (z_var 4) (z_cons (z_var 6) (z_cons (z_var 5) z_nil))))) z_bl)
  (zb_one (z_ret z_bl))
  zb_nil)
  (zb_one (z_if (z_pw (z_or (z_tcmp op_notBl l_notB (z_callP d_sum_shown hr (z_cons (z_var 15) (z_cons (z_var 4) (z_cons z_int (z_cons (z_tup (z_cons (z_tup (z_cons (z_var 4) (z_cons (z_var 15) (z_cons z_int z_nil)))) z_nil)) z_nil))))) z_bl) (z_or1 (z_tcmp op_notBl l_notB (z_callP d_sum_shown hr (z_cons (z_var 15) (z_cons (z_var 4) (z_cons z_int (z_cons (z_tup z_nil) z_nil))))) z_bl))))
  (zb_one (z_ret z_bl))
  zb_nil)))))))))))))) nd)
  (zb_one (z_ret z_bl)))) ?_
  intro ds w Q E h
  obtain ⟨rfl, ns, rfl, hlen, hbits, h⟩ := h
  clear nd d__law_line d__law_number d__law_paper d__law_draw d__law_spoilt d_sum_shown d__law_fitted d__law_no_line hb hm F T fd f ec base mg K CL
  kby_none
  refine ⟨fun i δ w' => ∃ (x1 x2 x3 x4 x5 x6 x7 x8 x9 x10 x11 x12 x13 x14 x15 : Sl), δ = [.val (.arr (ns.map D.int)), x1, x2, x3, x4, x5, x6, x7, x8, x9, x10, x11, x12, x13, x14, x15], ⟨_, _, _, _, _, _, _, _, _, _, _, _, _, _, _, rfl⟩, ?_, ?_⟩
  rotate_left
  · rintro δ w' ⟨x1, x2, x3, x4, x5, x6, x7, x8, x9, x10, x11, x12, x13, x14, x15, rfl⟩
    kby_none
    exact h _
  rintro i δ w' hi ⟨x1, x2, x3, x4, x5, x6, x7, x8, x9, x10, x11, x12, x13, x14, x15, rfl⟩
  replace hi : i < 2 := hi
  kby_none
  refine ixT3 (P := fun z => 1 ≤ z ∧ z ≤ 60) ⟨by omega, by omega⟩ ⟨by omega, by omega⟩ ⟨by omega, by omega⟩ fun g hg => ?_
  obtain ⟨g0, g1⟩ := hg
  kby_none
  rename_i a b m m1 sa sb sm n n0 n1 sn
  obtain ⟨L, hP⟩ := Pap.ex (r := (n, a, b, m)) ⟨m1, n0, sa.le (by decide), sb.le (by decide), sm.le (by decide), sn.le (by decide)⟩
  refine ⟨L, hP, ?_⟩
  rw [rows_px]
  have hR := pxs_g hP
  have rl : (pxs L).length ≤ 3000 := by unfold pxs; rw [List.length_map]; have := hP.ch.len 1000 hP.ok (Rw.lt (hP.ok _ (List.mem_of_getElem? hP.ch.head)) (Nat.le_refl _)); omega
  have r0 : (pxs L)[0]? = some ((n, a, b, m), sumR (n, a, b, m)) := by unfold pxs; rw [List.getElem?_map, hP.ch.head]; rfl
  have key : ∀ (t : Int) (rows : List Rx), (1 ≤ m ∧ Chk rows ∧ rows[0]? = some ((n, a, b, m), t)) ↔ rows = pxs L ∧ t = sumR (n, a, b, m) := fun t rows => ⟨fun h => (Chk.iff hP.ch hP.ok).mp h.2, fun h => ⟨m1, (Chk.iff hP.ch hP.ok).mpr h⟩⟩
  clear hP
  generalize pxs L = R at hR rl r0 key ⊢
  generalize sumR (n, a, b, m) = T at r0 key ⊢
  have a0 : atI (R.map rxD) 0 = some (rxD ((n, a, b, m), T)) := rx_at (by omega) r0
  have rok : ∀ x ∈ R, RxOk x := fun x hx => ((hR x hx).le (by decide)).ok
  have rl5 : R.length ≤ 100000 := by omega
  have rn : R ≠ [] := fun e => by rw [e] at r0; cases r0
  kby_none
  refine Stp.mk fun v hv => ?_
  obtain rfl : v = true := hv.mpr ((key T R).mpr ⟨rfl, rfl⟩)
  kby_none
  conv => whnf
  refine ⟨a, b, m, n, T, [], rfl, ⟨fun x hx => (nomatch hx), Nat.zero_le _⟩, Stp.mk fun v hv => ?_⟩
  obtain rfl : v = false := by
    cases v with
    | false => rfl
    | true => exact absurd ((hv.mp rfl).2.1) Chk.nil
  kby_none
  rename_i dr dr0 dr1
  refine ⟨fun j δ w' => ∃ (x8 x9 x10 x11 x12 x13 x14 x15 : Sl), δ = [.val (.arr (ns.map D.int)), .val (.int (0 + (i : Int))), .val (.int g), .val (ln a b m), .val (.int n), .val (.tup (R.map rxD)), .val (.int T), .val (.int (1 + dr)), x8, x9, x10, x11, x12, x13, x14, x15], ⟨_, _, _, _, _, _, _, _, rfl⟩, ?_, ?_⟩
  · rintro j d δ w' hd ⟨x8, x9, x10, x11, x12, x13, x14, x15, rfl⟩
    obtain ⟨st, rfl, s0⟩ : ∃ st, d = .int st ∧ st ≠ 0 := by
      have hd := List.mem_of_getElem? hd
      simp only [List.mem_cons, List.not_mem_nil, or_false] at hd
      rcases hd with rfl | rfl | rfl | rfl | rfl | rfl | rfl | rfl | rfl | rfl | rfl
      all_goals exact ⟨_, rfl, by first | omega | decide⟩
    kby_none
    refine Stp.mk fun v hv => ?_
    obtain rfl : v = false := by
      cases v with
      | false => rfl
      | true => exact absurd ((key _ _).mp (hv.mp rfl)).2 (by omega)
    kby_none
  rintro δ w' ⟨x8, x9, x10, x11, x12, x13, x14, x15, rfl⟩
  kby_none
  refine ⟨fun j δ w' => ∃ (x8 x9 x10 x11 x12 x13 x14 x15 : Sl), δ = [.val (.arr (ns.map D.int)), .val (.int (0 + (i : Int))), .val (.int g), .val (ln a b m), .val (.int n), .val (.tup (R.map rxD)), .val (.int T), .val (.int (1 + dr)), x8, x9, x10, x11, x12, x13, x14, x15], ⟨_, _, _, _, _, _, _, _, rfl⟩, ?_, ?_⟩
  · rintro j δ w' hj ⟨x8, x9, x10, x11, x12, x13, x14, x15, rfl⟩
    replace hj : j < 40 := hj
    have okR : okD (.tup (R.map rxD)) = true := okD_rx R
    have dpR : dpD (.tup (R.map rxD)) ≤ 64 := by show dpDs (R.map rxD) + 1 ≤ 64; have := dpD_rx R; omega
    kby_none
    refine Stp.mk fun l hl ll => ?_
    have okl : okD (.tup (l.map rxD)) = true := okD_rx l
    have dpl : dpD (.tup (l.map rxD)) ≤ 64 := by show dpDs (l.map rxD) + 1 ≤ 64; have := dpD_rx l; omega
    have dn := deqs_rx l []
    have dr := deqs_rx l R
    have lok : ∀ x ∈ l, RxOk x := fun x hx => ((hl x hx).le (by decide)).ok
    have ll5 : l.length ≤ 100000 := by omega
    have vfalse : l ≠ R → ∀ (t : Int) (v : Bool), (v = true ↔ 1 ≤ m ∧ Chk l ∧ l[0]? = some ((n, a, b, m), t)) → v = false := fun cr t v hv => by
      cases v with
      | false => rfl
      | true => exact absurd ((key _ _).mp (hv.mp rfl)).1 cr
    by_cases cl : l = []
    · have cr : l ≠ R := fun e => rn (e.symm.trans cl)
      have vf := vfalse cr
      rw [decide_eq_true cl] at dn
      rw [decide_eq_false cr] at dr
      kby_none
      all_goals try (exfalso; exact absurd (dr.symm.trans (by assumption)) (by decide))
      all_goals try (exfalso; exact absurd (dn.symm.trans (by assumption)) (by decide))
      all_goals try (refine Stp.mk fun v hv => ?_; obtain rfl := vf _ v hv; kby_none)
      · refine Stp.mk fun l hl ll => ?_
        have okl : okD (.tup (l.map rxD)) = true := okD_rx l
        have dpl : dpD (.tup (l.map rxD)) ≤ 64 := by show dpDs (l.map rxD) + 1 ≤ 64; have := dpD_rx l; omega
        have dn := deqs_rx l []
        have dr := deqs_rx l R
        have lok : ∀ x ∈ l, RxOk x := fun x hx => ((hl x hx).le (by decide)).ok
        have ll5 : l.length ≤ 100000 := by omega
        have vfalse : l ≠ R → ∀ (t : Int) (v : Bool), (v = true ↔ 1 ≤ m ∧ Chk l ∧ l[0]? = some ((n, a, b, m), t)) → v = false := fun cr t v hv => by
          cases v with
          | false => rfl
          | true => exact absurd ((key _ _).mp (hv.mp rfl)).1 cr
        by_cases cl : l = []
        · have cr : l ≠ R := fun e => rn (e.symm.trans cl)
          have vf := vfalse cr
          rw [decide_eq_true cl] at dn
          rw [decide_eq_false cr] at dr
          kby_none
          all_goals try (exfalso; exact absurd (dr.symm.trans (by assumption)) (by decide))
          all_goals try (exfalso; exact absurd (dn.symm.trans (by assumption)) (by decide))
          all_goals try (refine Stp.mk fun v hv => ?_; obtain rfl := vf _ v hv; kby_none)
        rw [decide_eq_false cl] at dn
        obtain ⟨y, hy⟩ : ∃ y, l[0]? = some y := by
          cases l with
          | nil => exact absurd rfl cl
          | cons y l => exact ⟨y, rfl⟩
        have al : atI (l.map rxD) 0 = some (rxD y) := rx_at (by omega) hy
        by_cases cr : l = R
        · rw [decide_eq_true cr] at dr
          obtain rfl : y = ((n, a, b, m), T) := by rw [cr, r0] at hy; exact (Option.some.inj hy).symm
          kby_none
          all_goals try (exfalso; exact absurd (dr.symm.trans (by assumption)) (by decide))
          all_goals try (exfalso; exact absurd (dn.symm.trans (by assumption)) (by decide))
          all_goals try (refine Stp.mk fun v hv => ?_; obtain rfl : v = true := hv.mpr ((key _ _).mpr ⟨cr, rfl⟩); kby_none)
          all_goals try (exfalso; rename_i g; exact g (by rw [Z.deq_int]; exact (beq_self_eq_true _).symm))
        · rw [decide_eq_false cr] at dr
          have vf := vfalse cr
          kby_none
          all_goals try (exfalso; exact absurd (dr.symm.trans (by assumption)) (by decide))
          all_goals try (exfalso; exact absurd (dn.symm.trans (by assumption)) (by decide))
          all_goals try (refine Stp.mk fun v hv => ?_; obtain rfl := vf _ v hv; kby_none)
    rw [decide_eq_false cl] at dn
    obtain ⟨y, hy⟩ : ∃ y, l[0]? = some y := by
      cases l with
      | nil => exact absurd rfl cl
      | cons y l => exact ⟨y, rfl⟩
    have al : atI (l.map rxD) 0 = some (rxD y) := rx_at (by omega) hy
    by_cases cr : l = R
    · rw [decide_eq_true cr] at dr
      obtain rfl : y = ((n, a, b, m), T) := by rw [cr, r0] at hy; exact (Option.some.inj hy).symm
      kby_none
      all_goals try (exfalso; exact absurd (dr.symm.trans (by assumption)) (by decide))
      all_goals try (exfalso; exact absurd (dn.symm.trans (by assumption)) (by decide))
      all_goals try (refine Stp.mk fun v hv => ?_; obtain rfl : v = true := hv.mpr ((key _ _).mpr ⟨cr, rfl⟩); kby_none)
      all_goals try (exfalso; rename_i g; exact g (by rw [Z.deq_int]; exact (beq_self_eq_true _).symm))
      · refine Stp.mk fun l hl ll => ?_
        have okl : okD (.tup (l.map rxD)) = true := okD_rx l
        have dpl : dpD (.tup (l.map rxD)) ≤ 64 := by show dpDs (l.map rxD) + 1 ≤ 64; have := dpD_rx l; omega
        have dn := deqs_rx l []
        have dr := deqs_rx l R
        have lok : ∀ x ∈ l, RxOk x := fun x hx => ((hl x hx).le (by decide)).ok
        have ll5 : l.length ≤ 100000 := by omega
        have vfalse : l ≠ R → ∀ (t : Int) (v : Bool), (v = true ↔ 1 ≤ m ∧ Chk l ∧ l[0]? = some ((n, a, b, m), t)) → v = false := fun cr t v hv => by
          cases v with
          | false => rfl
          | true => exact absurd ((key _ _).mp (hv.mp rfl)).1 cr
        by_cases cl : l = []
        · have cr : l ≠ R := fun e => rn (e.symm.trans cl)
          have vf := vfalse cr
          rw [decide_eq_true cl] at dn
          rw [decide_eq_false cr] at dr
          kby_none
          all_goals try (exfalso; exact absurd (dr.symm.trans (by assumption)) (by decide))
          all_goals try (exfalso; exact absurd (dn.symm.trans (by assumption)) (by decide))
          all_goals try (refine Stp.mk fun v hv => ?_; obtain rfl := vf _ v hv; kby_none)
        rw [decide_eq_false cl] at dn
        obtain ⟨y, hy⟩ : ∃ y, l[0]? = some y := by
          cases l with
          | nil => exact absurd rfl cl
          | cons y l => exact ⟨y, rfl⟩
        have al : atI (l.map rxD) 0 = some (rxD y) := rx_at (by omega) hy
        by_cases cr : l = R
        · rw [decide_eq_true cr] at dr
          obtain rfl : y = ((n, a, b, m), T) := by rw [cr, r0] at hy; exact (Option.some.inj hy).symm
          kby_none
          all_goals try (exfalso; exact absurd (dr.symm.trans (by assumption)) (by decide))
          all_goals try (exfalso; exact absurd (dn.symm.trans (by assumption)) (by decide))
          all_goals try (refine Stp.mk fun v hv => ?_; obtain rfl : v = true := hv.mpr ((key _ _).mpr ⟨cr, rfl⟩); kby_none)
          all_goals try (exfalso; rename_i g; exact g (by rw [Z.deq_int]; exact (beq_self_eq_true _).symm))
        · rw [decide_eq_false cr] at dr
          have vf := vfalse cr
          kby_none
          all_goals try (exfalso; exact absurd (dr.symm.trans (by assumption)) (by decide))
          all_goals try (exfalso; exact absurd (dn.symm.trans (by assumption)) (by decide))
          all_goals try (refine Stp.mk fun v hv => ?_; obtain rfl := vf _ v hv; kby_none)
    · rw [decide_eq_false cr] at dr
      have vf := vfalse cr
      kby_none
      all_goals try (exfalso; exact absurd (dr.symm.trans (by assumption)) (by decide))
      all_goals try (exfalso; exact absurd (dn.symm.trans (by assumption)) (by decide))
      all_goals try (refine Stp.mk fun v hv => ?_; obtain rfl := vf _ v hv; kby_none)
      · refine Stp.mk fun l hl ll => ?_
        have okl : okD (.tup (l.map rxD)) = true := okD_rx l
        have dpl : dpD (.tup (l.map rxD)) ≤ 64 := by show dpDs (l.map rxD) + 1 ≤ 64; have := dpD_rx l; omega
        have dn := deqs_rx l []
        have dr := deqs_rx l R
        have lok : ∀ x ∈ l, RxOk x := fun x hx => ((hl x hx).le (by decide)).ok
        have ll5 : l.length ≤ 100000 := by omega
        have vfalse : l ≠ R → ∀ (t : Int) (v : Bool), (v = true ↔ 1 ≤ m ∧ Chk l ∧ l[0]? = some ((n, a, b, m), t)) → v = false := fun cr t v hv => by
          cases v with
          | false => rfl
          | true => exact absurd ((key _ _).mp (hv.mp rfl)).1 cr
        by_cases cl : l = []
        · have cr : l ≠ R := fun e => rn (e.symm.trans cl)
          have vf := vfalse cr
          rw [decide_eq_true cl] at dn
          rw [decide_eq_false cr] at dr
          kby_none
          all_goals try (exfalso; exact absurd (dr.symm.trans (by assumption)) (by decide))
          all_goals try (exfalso; exact absurd (dn.symm.trans (by assumption)) (by decide))
          all_goals try (refine Stp.mk fun v hv => ?_; obtain rfl := vf _ v hv; kby_none)
        rw [decide_eq_false cl] at dn
        obtain ⟨y, hy⟩ : ∃ y, l[0]? = some y := by
          cases l with
          | nil => exact absurd rfl cl
          | cons y l => exact ⟨y, rfl⟩
        have al : atI (l.map rxD) 0 = some (rxD y) := rx_at (by omega) hy
        by_cases cr : l = R
        · rw [decide_eq_true cr] at dr
          obtain rfl : y = ((n, a, b, m), T) := by rw [cr, r0] at hy; exact (Option.some.inj hy).symm
          kby_none
          all_goals try (exfalso; exact absurd (dr.symm.trans (by assumption)) (by decide))
          all_goals try (exfalso; exact absurd (dn.symm.trans (by assumption)) (by decide))
          all_goals try (refine Stp.mk fun v hv => ?_; obtain rfl : v = true := hv.mpr ((key _ _).mpr ⟨cr, rfl⟩); kby_none)
          all_goals try (exfalso; rename_i g; exact g (by rw [Z.deq_int]; exact (beq_self_eq_true _).symm))
        · rw [decide_eq_false cr] at dr
          have vf := vfalse cr
          kby_none
          all_goals try (exfalso; exact absurd (dr.symm.trans (by assumption)) (by decide))
          all_goals try (exfalso; exact absurd (dn.symm.trans (by assumption)) (by decide))
          all_goals try (refine Stp.mk fun v hv => ?_; obtain rfl := vf _ v hv; kby_none)
  rintro δ w' ⟨x8, x9, x10, x11, x12, x13, x14, x15, rfl⟩
  kby_none
  refine ixT3 (P := fun z => z < 1 ∧ Sm 260 z) ⟨by omega, (Z.Sm.num 0).le (by decide)⟩ ⟨by omega, (Z.Sm.num (-1)).le (by decide)⟩ ⟨by omega, sm.neg.le (by decide)⟩ fun c hc => ?_
  obtain ⟨c1, sc⟩ := hc
  kby_none
  refine Stp.mk fun v hv => ?_
  obtain rfl : v = false := by
    cases v with
    | false => rfl
    | true => exact absurd (hv.mp rfl).1 (by omega)
  kby_none
  conv => whnf
  refine ⟨a, b, c, n, 0, [((n, a, b, c), 0)], rfl, ⟨fun x hx => ?_, by show 1 ≤ 100000; decide⟩, Stp.mk fun v hv => ?_⟩
  · rw [List.mem_singleton.mp hx]
    exact ⟨sa.le (by decide), sb.le (by decide), sc.le (by decide), sn.le (by decide)⟩
  obtain rfl : v = false := by
    cases v with
    | false => rfl
    | true => exact absurd (hv.mp rfl).1 (by omega)
  kby_none
  conv => whnf
  refine ⟨a, b, c, n, 0, [], rfl, ⟨fun x hx => (nomatch hx), Nat.zero_le _⟩, Stp.mk fun v hv => ?_⟩
  obtain rfl : v = false := by
    cases v with
    | false => rfl
    | true => exact absurd (hv.mp rfl).1 (by omega)
  kby_none
theorem all_mk {l : PySem.W.OpenLaw} {w : World} {K : PySem.W.Frag} {h : Heap} {mg : Str → Option Value} {fa : Addr} (X : K.In h) (G : h.Ns mainGlobals mg) (hfa : mg "law" = some (.ref fa))
    {f0 f1 f2 f3 f4 f5 f6 f7 f8 f9 f10 f11 f12 f13 f14 f15 f16 f17 f18 : Addr} {od0 an0 od1 an1 od2 an2 od3 an3 od4 an4 od5 an5 od6 an6 od7 an7 od8 an8 od9 an9 od10 an10 od11 an11 od12 an12 od13 an13 od14 an14 od15 an15 od16 an16 od17 an17 od18 an18 : Option Addr} {sl0 sl1 sl2 sl3 sl4 sl5 sl6 sl7 sl8 sl9 sl10 sl11 sl12 sl13 sl14 sl15 sl16 sl17 sl18 : Array (Option Value)} {oc0 kV0 dc0 pm0 cd0 ct0 oc1 kV1 dc1 pm1 cd1 ct1 oc2 kV2 dc2 pm2 cd2 ct2 oc3 kV3 dc3 pm3 cd3 ct3 oc4 kV4 dc4 pm4 cd4 ct4 oc5 kV5 dc5 pm5 cd5 ct5 oc6 kV6 dc6 pm6 cd6 ct6 oc7 kV7 dc7 pm7 cd7 ct7 oc8 kV8 dc8 pm8 cd8 ct8 oc9 kV9 dc9 pm9 cd9 ct9 oc10 kV10 dc10 pm10 cd10 ct10 oc11 kV11 dc11 pm11 cd11 ct11 oc12 kV12 dc12 pm12 cd12 ct12 oc13 kV13 dc13 pm13 cd13 ct13 oc14 kV14 dc14 pm14 cd14 ct14 oc15 kV15 dc15 pm15 cd15 ct15 oc16 kV16 dc16 pm16 cd16 ct16 oc17 kV17 dc17 pm17 cd17 ct17 oc18 kV18 dc18 pm18 cd18 ct18 : Value}
    {C0 C1 C2 C3 C4 C5 C6 : Addr}
    (a0 : PySem.W.nsIn K mainGlobals "need_line" = some (some (.ref f0))) (l0 : K.lookup f0 = some ⟨oc0, od0, .func (PySem.W.fnOf "need_line" "need_line" (defArgs s_need_line) (defBody s_need_line) (defScope s_need_line) .none kV0 dc0 pm0 an0 cd0 ct0), sl0⟩) (c0 : PySem.W.codeIn K cd0 "need_line" = true) (k0 : PySem.W.keepIn K (.ref f0) = true)
    (a1 : PySem.W.nsIn K mainGlobals "height_at" = some (some (.ref f1))) (l1 : K.lookup f1 = some ⟨oc1, od1, .func (PySem.W.fnOf "height_at" "height_at" (defArgs s_height_at) (defBody s_height_at) (defScope s_height_at) .none kV1 dc1 pm1 an1 cd1 ct1), sl1⟩) (c1 : PySem.W.codeIn K cd1 "height_at" = true) (k1 : PySem.W.keepIn K (.ref f1) = true)
    (a2 : PySem.W.nsIn K mainGlobals "part_at" = some (some (.ref f2))) (l2 : K.lookup f2 = some ⟨oc2, od2, .func (PySem.W.fnOf "part_at" "part_at" (defArgs s_part_at) (defBody s_part_at) (defScope s_part_at) .none kV2 dc2 pm2 an2 cd2 ct2), sl2⟩) (c2 : PySem.W.codeIn K cd2 "part_at" = true) (k2 : PySem.W.keepIn K (.ref f2) = true)
    (a3 : PySem.W.nsIn K mainGlobals "rest_at" = some (some (.ref f3))) (l3 : K.lookup f3 = some ⟨oc3, od3, .func (PySem.W.fnOf "rest_at" "rest_at" (defArgs s_rest_at) (defBody s_rest_at) (defScope s_rest_at) .none kV3 dc3 pm3 an3 cd3 ct3), sl3⟩) (c3 : PySem.W.codeIn K cd3 "rest_at" = true) (k3 : PySem.W.keepIn K (.ref f3) = true)
    (a4 : PySem.W.nsIn K mainGlobals "laid_off" = some (some (.ref f4))) (l4 : K.lookup f4 = some ⟨oc4, od4, .func (PySem.W.fnOf "laid_off" "laid_off" (defArgs s_laid_off) (defBody s_laid_off) (defScope s_laid_off) .none kV4 dc4 pm4 an4 cd4 ct4), sl4⟩) (c4 : PySem.W.codeIn K cd4 "laid_off" = true) (k4 : PySem.W.keepIn K (.ref f4) = true)
    (a5 : PySem.W.nsIn K mainGlobals "turned" = some (some (.ref f5))) (l5 : K.lookup f5 = some ⟨oc5, od5, .func (PySem.W.fnOf "turned" "turned" (defArgs s_turned) (defBody s_turned) (defScope s_turned) .none kV5 dc5 pm5 an5 cd5 ct5), sl5⟩) (c5 : PySem.W.codeIn K cd5 "turned" = true) (k5 : PySem.W.keepIn K (.ref f5) = true)
    (a6 : PySem.W.nsIn K mainGlobals "own_part" = some (some (.ref f6))) (l6 : K.lookup f6 = some ⟨oc6, od6, .func (PySem.W.fnOf "own_part" "own_part" (defArgs s_own_part) (defBody s_own_part) (defScope s_own_part) .none kV6 dc6 pm6 an6 cd6 ct6), sl6⟩) (c6 : PySem.W.codeIn K cd6 "own_part" = true) (k6 : PySem.W.keepIn K (.ref f6) = true)
    (a7 : PySem.W.nsIn K mainGlobals "sum_paper" = some (some (.ref f7))) (l7 : K.lookup f7 = some ⟨oc7, od7, .func (PySem.W.fnOf "sum_paper" "sum_paper" (defArgs s_sum_paper) (defBody s_sum_paper) (defScope s_sum_paper) .none kV7 dc7 pm7 an7 cd7 ct7), sl7⟩) (c7 : PySem.W.codeIn K cd7 "sum_paper" = true) (k7 : PySem.W.keepIn K (.ref f7) = true)
    (a8 : PySem.W.nsIn K mainGlobals "sum_shown" = some (some (.ref f8))) (l8 : K.lookup f8 = some ⟨oc8, od8, .func (PySem.W.fnOf "sum_shown" "sum_shown" (defArgs s_sum_shown) (defBody s_sum_shown) (defScope s_sum_shown) .none kV8 dc8 pm8 an8 cd8 ct8), sl8⟩) (c8 : PySem.W.codeIn K cd8 "sum_shown" = true) (k8 : PySem.W.keepIn K (.ref f8) = true)
    (a9 : PySem.W.nsIn K mainGlobals "_law_draw" = some (some (.ref f9))) (l9 : K.lookup f9 = some ⟨oc9, od9, .func (PySem.W.fnOf "_law_draw" "_law_draw" (defArgs s__law_draw) (defBody s__law_draw) (defScope s__law_draw) .none kV9 dc9 pm9 an9 cd9 ct9), sl9⟩) (c9 : PySem.W.codeIn K cd9 "_law_draw" = true) (k9 : PySem.W.keepIn K (.ref f9) = true)
    (a10 : PySem.W.nsIn K mainGlobals "_law_number" = some (some (.ref f10))) (l10 : K.lookup f10 = some ⟨oc10, od10, .func (PySem.W.fnOf "_law_number" "_law_number" (defArgs s__law_number) (defBody s__law_number) (defScope s__law_number) .none kV10 dc10 pm10 an10 cd10 ct10), sl10⟩) (c10 : PySem.W.codeIn K cd10 "_law_number" = true) (k10 : PySem.W.keepIn K (.ref f10) = true)
    (a11 : PySem.W.nsIn K mainGlobals "_law_line" = some (some (.ref f11))) (l11 : K.lookup f11 = some ⟨oc11, od11, .func (PySem.W.fnOf "_law_line" "_law_line" (defArgs s__law_line) (defBody s__law_line) (defScope s__law_line) .none kV11 dc11 pm11 an11 cd11 ct11), sl11⟩) (c11 : PySem.W.codeIn K cd11 "_law_line" = true) (k11 : PySem.W.keepIn K (.ref f11) = true)
    (a12 : PySem.W.nsIn K mainGlobals "_law_paper" = some (some (.ref f12))) (l12 : K.lookup f12 = some ⟨oc12, od12, .func (PySem.W.fnOf "_law_paper" "_law_paper" (defArgs s__law_paper) (defBody s__law_paper) (defScope s__law_paper) .none kV12 dc12 pm12 an12 cd12 ct12), sl12⟩) (c12 : PySem.W.codeIn K cd12 "_law_paper" = true) (k12 : PySem.W.keepIn K (.ref f12) = true)
    (a13 : PySem.W.nsIn K mainGlobals "_law_within" = some (some (.ref f13))) (l13 : K.lookup f13 = some ⟨oc13, od13, .func (PySem.W.fnOf "_law_within" "_law_within" (defArgs s__law_within) (defBody s__law_within) (defScope s__law_within) .none kV13 dc13 pm13 an13 cd13 ct13), sl13⟩) (c13 : PySem.W.codeIn K cd13 "_law_within" = true) (k13 : PySem.W.keepIn K (.ref f13) = true)
    (a14 : PySem.W.nsIn K mainGlobals "_law_row_spoilt" = some (some (.ref f14))) (l14 : K.lookup f14 = some ⟨oc14, od14, .func (PySem.W.fnOf "_law_row_spoilt" "_law_row_spoilt" (defArgs s__law_row_spoilt) (defBody s__law_row_spoilt) (defScope s__law_row_spoilt) .none kV14 dc14 pm14 an14 cd14 ct14), sl14⟩) (c14 : PySem.W.codeIn K cd14 "_law_row_spoilt" = true) (k14 : PySem.W.keepIn K (.ref f14) = true)
    (a15 : PySem.W.nsIn K mainGlobals "_law_spoilt" = some (some (.ref f15))) (l15 : K.lookup f15 = some ⟨oc15, od15, .func (PySem.W.fnOf "_law_spoilt" "_law_spoilt" (defArgs s__law_spoilt) (defBody s__law_spoilt) (defScope s__law_spoilt) .none kV15 dc15 pm15 an15 cd15 ct15), sl15⟩) (c15 : PySem.W.codeIn K cd15 "_law_spoilt" = true) (k15 : PySem.W.keepIn K (.ref f15) = true)
    (a16 : PySem.W.nsIn K mainGlobals "_law_fitted" = some (some (.ref f16))) (l16 : K.lookup f16 = some ⟨oc16, od16, .func (PySem.W.fnOf "_law_fitted" "_law_fitted" (defArgs s__law_fitted) (defBody s__law_fitted) (defScope s__law_fitted) .none kV16 dc16 pm16 an16 cd16 ct16), sl16⟩) (c16 : PySem.W.codeIn K cd16 "_law_fitted" = true) (k16 : PySem.W.keepIn K (.ref f16) = true)
    (a17 : PySem.W.nsIn K mainGlobals "_law_no_line" = some (some (.ref f17))) (l17 : K.lookup f17 = some ⟨oc17, od17, .func (PySem.W.fnOf "_law_no_line" "_law_no_line" (defArgs s__law_no_line) (defBody s__law_no_line) (defScope s__law_no_line) .none kV17 dc17 pm17 an17 cd17 ct17), sl17⟩) (c17 : PySem.W.codeIn K cd17 "_law_no_line" = true) (k17 : PySem.W.keepIn K (.ref f17) = true)
    (a18 : PySem.W.nsIn K mainGlobals "law" = some (some (.ref f18))) (l18 : K.lookup f18 = some ⟨oc18, od18, .func (PySem.W.fnOf "law" "law" (defArgs s_law) (defBody s_law) (defScope s_law) .none kV18 dc18 pm18 an18 cd18 ct18), sl18⟩) (c18 : PySem.W.codeIn K cd18 "law" = true) (k18 : PySem.W.keepIn K (.ref f18) = true)
    (aE0 : PySem.W.nsIn K mainGlobals "NoLine" = some (some (.ref C0))) (xE0 : PySem.W.excIn K C0 [.type "ValueError", .type "Exception", .type "BaseException", .type "object"] "ValueError.__new__" = true) (kE0 : PySem.W.keepIn K (.ref C0) = true) (bE0 : PySem.W.subIn K (.ref C0) (.type "BaseException") = some true) (tE0 : PySem.W.typeIn K (.ref C0) = some (.type "type"))
    (aE1 : PySem.W.nsIn K mainGlobals "NoTurn" = some (some (.ref C1))) (xE1 : PySem.W.excIn K C1 [.type "ValueError", .type "Exception", .type "BaseException", .type "object"] "ValueError.__new__" = true) (kE1 : PySem.W.keepIn K (.ref C1) = true) (bE1 : PySem.W.subIn K (.ref C1) (.type "BaseException") = some true) (tE1 : PySem.W.typeIn K (.ref C1) = some (.type "type"))
    (aE2 : PySem.W.nsIn K mainGlobals "NoText" = some (some (.ref C2))) (xE2 : PySem.W.excIn K C2 [.type "ValueError", .type "Exception", .type "BaseException", .type "object"] "ValueError.__new__" = true) (kE2 : PySem.W.keepIn K (.ref C2) = true) (bE2 : PySem.W.subIn K (.ref C2) (.type "BaseException") = some true) (tE2 : PySem.W.typeIn K (.ref C2) = some (.type "type"))
    (aE3 : PySem.W.nsIn K mainGlobals "NoStretch" = some (some (.ref C3))) (xE3 : PySem.W.excIn K C3 [.type "ValueError", .type "Exception", .type "BaseException", .type "object"] "ValueError.__new__" = true) (kE3 : PySem.W.keepIn K (.ref C3) = true) (bE3 : PySem.W.subIn K (.ref C3) (.type "BaseException") = some true) (tE3 : PySem.W.typeIn K (.ref C3) = some (.type "type"))
    (aE4 : PySem.W.nsIn K mainGlobals "NoPlace" = some (some (.ref C4))) (xE4 : PySem.W.excIn K C4 [.type "ValueError", .type "Exception", .type "BaseException", .type "object"] "ValueError.__new__" = true) (kE4 : PySem.W.keepIn K (.ref C4) = true) (bE4 : PySem.W.subIn K (.ref C4) (.type "BaseException") = some true) (tE4 : PySem.W.typeIn K (.ref C4) = some (.type "type"))
    (aE5 : PySem.W.nsIn K mainGlobals "NoMap" = some (some (.ref C5))) (xE5 : PySem.W.excIn K C5 [.type "ValueError", .type "Exception", .type "BaseException", .type "object"] "ValueError.__new__" = true) (kE5 : PySem.W.keepIn K (.ref C5) = true) (bE5 : PySem.W.subIn K (.ref C5) (.type "BaseException") = some true) (tE5 : PySem.W.typeIn K (.ref C5) = some (.type "type"))
    (aE6 : PySem.W.nsIn K mainGlobals "NoAsk" = some (some (.ref C6))) (xE6 : PySem.W.excIn K C6 [.type "ValueError", .type "Exception", .type "BaseException", .type "object"] "ValueError.__new__" = true) (kE6 : PySem.W.keepIn K (.ref C6) = true) (bE6 : PySem.W.subIn K (.ref C6) (.type "BaseException") = some true) (tE6 : PySem.W.typeIn K (.ref C6) = some (.type "type"))
    {CL : Addr} (aL : PySem.W.nsIn K mainGlobals "LineError" = some (some (.ref CL))) (n0 : PySem.W.specialIn K (.builtin "object.__class__") "__get__" = some (some (.builtin "getset_descriptor.__get__"))) (n1 : PySem.W.takesIn K (.builtin "object.__class__") = some true)
    (noL : PySem.W.kitOne K (.type "NoneType") (.ref CL) = some false) (no0 : PySem.W.kitOne K (.type "NoneType") (.ref C0) = some false) (no1 : PySem.W.kitOne K (.type "NoneType") (.ref C1) = some false) (no2 : PySem.W.kitOne K (.type "NoneType") (.ref C2) = some false) (no3 : PySem.W.kitOne K (.type "NoneType") (.ref C3) = some false) (no4 : PySem.W.kitOne K (.type "NoneType") (.ref C4) = some false) (no5 : PySem.W.kitOne K (.type "NoneType") (.ref C5) = some false) (no6 : PySem.W.kitOne K (.type "NoneType") (.ref C6) = some false)
    (xm0 : PySem.W.exmOne K (.ref C0) (.ref CL) = some true) (il0 : PySem.W.kitOne K (.ref C0) (.ref CL) = some true) (iv0 : PySem.W.kitOne K (.ref C0) (.type "ValueError") = some true) (hg0 : PySem.W.findIn K (.ref C0) "__getattribute__" = some (some (.builtin "BaseException.__getattribute__"))) (hk0 : PySem.W.findIn K (.ref C0) "__getattr__" = some none) (hd0 : PySem.W.hasDictIn K C0 = true) (ha0 : PySem.W.findIn K (.ref C0) "__class__" = some (some (.builtin "object.__class__"))) (hm0 : PySem.W.mroIn K C0 (.type "object") = some true)
    (is0_0 : PySem.W.kitOne K (.ref C0) (.ref C0) = some true)
    (is0_1 : PySem.W.kitOne K (.ref C0) (.ref C1) = some false)
    (is0_2 : PySem.W.kitOne K (.ref C0) (.ref C2) = some false)
    (is0_3 : PySem.W.kitOne K (.ref C0) (.ref C3) = some false)
    (is0_4 : PySem.W.kitOne K (.ref C0) (.ref C4) = some false)
    (is0_5 : PySem.W.kitOne K (.ref C0) (.ref C5) = some false)
    (is0_6 : PySem.W.kitOne K (.ref C0) (.ref C6) = some false)
    (xm1 : PySem.W.exmOne K (.ref C1) (.ref CL) = some true) (il1 : PySem.W.kitOne K (.ref C1) (.ref CL) = some true) (iv1 : PySem.W.kitOne K (.ref C1) (.type "ValueError") = some true) (hg1 : PySem.W.findIn K (.ref C1) "__getattribute__" = some (some (.builtin "BaseException.__getattribute__"))) (hk1 : PySem.W.findIn K (.ref C1) "__getattr__" = some none) (hd1 : PySem.W.hasDictIn K C1 = true) (ha1 : PySem.W.findIn K (.ref C1) "__class__" = some (some (.builtin "object.__class__"))) (hm1 : PySem.W.mroIn K C1 (.type "object") = some true)
    (is1_0 : PySem.W.kitOne K (.ref C1) (.ref C0) = some false)
    (is1_1 : PySem.W.kitOne K (.ref C1) (.ref C1) = some true)
    (is1_2 : PySem.W.kitOne K (.ref C1) (.ref C2) = some false)
    (is1_3 : PySem.W.kitOne K (.ref C1) (.ref C3) = some false)
    (is1_4 : PySem.W.kitOne K (.ref C1) (.ref C4) = some false)
    (is1_5 : PySem.W.kitOne K (.ref C1) (.ref C5) = some false)
    (is1_6 : PySem.W.kitOne K (.ref C1) (.ref C6) = some false)
    (xm2 : PySem.W.exmOne K (.ref C2) (.ref CL) = some true) (il2 : PySem.W.kitOne K (.ref C2) (.ref CL) = some true) (iv2 : PySem.W.kitOne K (.ref C2) (.type "ValueError") = some true) (hg2 : PySem.W.findIn K (.ref C2) "__getattribute__" = some (some (.builtin "BaseException.__getattribute__"))) (hk2 : PySem.W.findIn K (.ref C2) "__getattr__" = some none) (hd2 : PySem.W.hasDictIn K C2 = true) (ha2 : PySem.W.findIn K (.ref C2) "__class__" = some (some (.builtin "object.__class__"))) (hm2 : PySem.W.mroIn K C2 (.type "object") = some true)
    (is2_0 : PySem.W.kitOne K (.ref C2) (.ref C0) = some false)
    (is2_1 : PySem.W.kitOne K (.ref C2) (.ref C1) = some false)
    (is2_2 : PySem.W.kitOne K (.ref C2) (.ref C2) = some true)
    (is2_3 : PySem.W.kitOne K (.ref C2) (.ref C3) = some false)
    (is2_4 : PySem.W.kitOne K (.ref C2) (.ref C4) = some false)
    (is2_5 : PySem.W.kitOne K (.ref C2) (.ref C5) = some false)
    (is2_6 : PySem.W.kitOne K (.ref C2) (.ref C6) = some false)
    (xm3 : PySem.W.exmOne K (.ref C3) (.ref CL) = some true) (il3 : PySem.W.kitOne K (.ref C3) (.ref CL) = some true) (iv3 : PySem.W.kitOne K (.ref C3) (.type "ValueError") = some true) (hg3 : PySem.W.findIn K (.ref C3) "__getattribute__" = some (some (.builtin "BaseException.__getattribute__"))) (hk3 : PySem.W.findIn K (.ref C3) "__getattr__" = some none) (hd3 : PySem.W.hasDictIn K C3 = true) (ha3 : PySem.W.findIn K (.ref C3) "__class__" = some (some (.builtin "object.__class__"))) (hm3 : PySem.W.mroIn K C3 (.type "object") = some true)
    (is3_0 : PySem.W.kitOne K (.ref C3) (.ref C0) = some false)
    (is3_1 : PySem.W.kitOne K (.ref C3) (.ref C1) = some false)
    (is3_2 : PySem.W.kitOne K (.ref C3) (.ref C2) = some false)
    (is3_3 : PySem.W.kitOne K (.ref C3) (.ref C3) = some true)
    (is3_4 : PySem.W.kitOne K (.ref C3) (.ref C4) = some false)
    (is3_5 : PySem.W.kitOne K (.ref C3) (.ref C5) = some false)
    (is3_6 : PySem.W.kitOne K (.ref C3) (.ref C6) = some false)
    (xm4 : PySem.W.exmOne K (.ref C4) (.ref CL) = some true) (il4 : PySem.W.kitOne K (.ref C4) (.ref CL) = some true) (iv4 : PySem.W.kitOne K (.ref C4) (.type "ValueError") = some true) (hg4 : PySem.W.findIn K (.ref C4) "__getattribute__" = some (some (.builtin "BaseException.__getattribute__"))) (hk4 : PySem.W.findIn K (.ref C4) "__getattr__" = some none) (hd4 : PySem.W.hasDictIn K C4 = true) (ha4 : PySem.W.findIn K (.ref C4) "__class__" = some (some (.builtin "object.__class__"))) (hm4 : PySem.W.mroIn K C4 (.type "object") = some true)
    (is4_0 : PySem.W.kitOne K (.ref C4) (.ref C0) = some false)
    (is4_1 : PySem.W.kitOne K (.ref C4) (.ref C1) = some false)
    (is4_2 : PySem.W.kitOne K (.ref C4) (.ref C2) = some false)
    (is4_3 : PySem.W.kitOne K (.ref C4) (.ref C3) = some false)
    (is4_4 : PySem.W.kitOne K (.ref C4) (.ref C4) = some true)
    (is4_5 : PySem.W.kitOne K (.ref C4) (.ref C5) = some false)
    (is4_6 : PySem.W.kitOne K (.ref C4) (.ref C6) = some false)
    (xm5 : PySem.W.exmOne K (.ref C5) (.ref CL) = some true) (il5 : PySem.W.kitOne K (.ref C5) (.ref CL) = some true) (iv5 : PySem.W.kitOne K (.ref C5) (.type "ValueError") = some true) (hg5 : PySem.W.findIn K (.ref C5) "__getattribute__" = some (some (.builtin "BaseException.__getattribute__"))) (hk5 : PySem.W.findIn K (.ref C5) "__getattr__" = some none) (hd5 : PySem.W.hasDictIn K C5 = true) (ha5 : PySem.W.findIn K (.ref C5) "__class__" = some (some (.builtin "object.__class__"))) (hm5 : PySem.W.mroIn K C5 (.type "object") = some true)
    (is5_0 : PySem.W.kitOne K (.ref C5) (.ref C0) = some false)
    (is5_1 : PySem.W.kitOne K (.ref C5) (.ref C1) = some false)
    (is5_2 : PySem.W.kitOne K (.ref C5) (.ref C2) = some false)
    (is5_3 : PySem.W.kitOne K (.ref C5) (.ref C3) = some false)
    (is5_4 : PySem.W.kitOne K (.ref C5) (.ref C4) = some false)
    (is5_5 : PySem.W.kitOne K (.ref C5) (.ref C5) = some true)
    (is5_6 : PySem.W.kitOne K (.ref C5) (.ref C6) = some false)
    (xm6 : PySem.W.exmOne K (.ref C6) (.ref CL) = some true) (il6 : PySem.W.kitOne K (.ref C6) (.ref CL) = some true) (iv6 : PySem.W.kitOne K (.ref C6) (.type "ValueError") = some true) (hg6 : PySem.W.findIn K (.ref C6) "__getattribute__" = some (some (.builtin "BaseException.__getattribute__"))) (hk6 : PySem.W.findIn K (.ref C6) "__getattr__" = some none) (hd6 : PySem.W.hasDictIn K C6 = true) (ha6 : PySem.W.findIn K (.ref C6) "__class__" = some (some (.builtin "object.__class__"))) (hm6 : PySem.W.mroIn K C6 (.type "object") = some true)
    (is6_0 : PySem.W.kitOne K (.ref C6) (.ref C0) = some false)
    (is6_1 : PySem.W.kitOne K (.ref C6) (.ref C1) = some false)
    (is6_2 : PySem.W.kitOne K (.ref C6) (.ref C2) = some false)
    (is6_3 : PySem.W.kitOne K (.ref C6) (.ref C3) = some false)
    (is6_4 : PySem.W.kitOne K (.ref C6) (.ref C4) = some false)
    (is6_5 : PySem.W.kitOne K (.ref C6) (.ref C5) = some false)
    (is6_6 : PySem.W.kitOne K (.ref C6) (.ref C6) = some true)
    (z_ValueError : PySem.W.nsIn K mainGlobals "ValueError" = some none)
    (z_abs : PySem.W.nsIn K mainGlobals "abs" = some none)
    (z_bool : PySem.W.nsIn K mainGlobals "bool" = some none)
    (z_enumerate : PySem.W.nsIn K mainGlobals "enumerate" = some none)
    (z_int : PySem.W.nsIn K mainGlobals "int" = some none)
    (z_isinstance : PySem.W.nsIn K mainGlobals "isinstance" = some none)
    (z_len : PySem.W.nsIn K mainGlobals "len" = some none)
    (z_list : PySem.W.nsIn K mainGlobals "list" = some none)
    (z_max : PySem.W.nsIn K mainGlobals "max" = some none)
    (z_min : PySem.W.nsIn K mainGlobals "min" = some none)
    (z_range : PySem.W.nsIn K mainGlobals "range" = some none)
    (z_str : PySem.W.nsIn K mainGlobals "str" = some none)
    (z_tuple : PySem.W.nsIn K mainGlobals "tuple" = some none)
    : ∃ fd : FuncData, (∀ (s : Shared) (v : Value), BindsTo s fd ⟨[v], []⟩ [("_law_script", v)]) ∧ ∀ base : Heap, K.In base → base.Ns mainGlobals mg → FnOk l.prog w K mg base (L2.CX l.prog w) 7 fa fd ["_law_script"] (spLawV K) := by
  have e := hfa.symm.trans (PySem.W.mg_of X G a18)
  cases e
  have T : Tx K mg (ecOf [(0, C0), (1, C1), (2, C2), (3, C3), (4, C4), (5, C5), (6, C6)]) CL := { nmL := PySem.W.mg_of X G aL, exm := fun e he => match e, he with | 0, _ => xm0 | 1, _ => xm1 | 2, _ => xm2 | 3, _ => xm3 | 4, _ => xm4 | 5, _ => xm5 | 6, _ => xm6 | n + 7, h => absurd h (by omega), isEL := fun e he => match e, he with | 0, _ => il0 | 1, _ => il1 | 2, _ => il2 | 3, _ => il3 | 4, _ => il4 | 5, _ => il5 | 6, _ => il6 | n + 7, h => absurd h (by omega), isEV := fun e he => match e, he with | 0, _ => iv0 | 1, _ => iv1 | 2, _ => iv2 | 3, _ => iv3 | 4, _ => iv4 | 5, _ => iv5 | 6, _ => iv6 | n + 7, h => absurd h (by omega), exk := fun e he => match e, he with | 0, _ => ⟨hg0, hk0, bE0, hd0, ha0, n0, n1, hm0⟩ | 1, _ => ⟨hg1, hk1, bE1, hd1, ha1, n0, n1, hm1⟩ | 2, _ => ⟨hg2, hk2, bE2, hd2, ha2, n0, n1, hm2⟩ | 3, _ => ⟨hg3, hk3, bE3, hd3, ha3, n0, n1, hm3⟩ | 4, _ => ⟨hg4, hk4, bE4, hd4, ha4, n0, n1, hm4⟩ | 5, _ => ⟨hg5, hk5, bE5, hd5, ha5, n0, n1, hm5⟩ | 6, _ => ⟨hg6, hk6, bE6, hd6, ha6, n0, n1, hm6⟩ | n + 7, h => absurd h (by omega), isE0 := fun e he => match e, he with | 0, _ => is0_0 | 1, _ => is1_0 | 2, _ => is2_0 | 3, _ => is3_0 | 4, _ => is4_0 | 5, _ => is5_0 | 6, _ => is6_0 | n + 7, h => absurd h (by omega), isE1 := fun e he => match e, he with | 0, _ => is0_1 | 1, _ => is1_1 | 2, _ => is2_1 | 3, _ => is3_1 | 4, _ => is4_1 | 5, _ => is5_1 | 6, _ => is6_1 | n + 7, h => absurd h (by omega), isE2 := fun e he => match e, he with | 0, _ => is0_2 | 1, _ => is1_2 | 2, _ => is2_2 | 3, _ => is3_2 | 4, _ => is4_2 | 5, _ => is5_2 | 6, _ => is6_2 | n + 7, h => absurd h (by omega), isE3 := fun e he => match e, he with | 0, _ => is0_3 | 1, _ => is1_3 | 2, _ => is2_3 | 3, _ => is3_3 | 4, _ => is4_3 | 5, _ => is5_3 | 6, _ => is6_3 | n + 7, h => absurd h (by omega), isE4 := fun e he => match e, he with | 0, _ => is0_4 | 1, _ => is1_4 | 2, _ => is2_4 | 3, _ => is3_4 | 4, _ => is4_4 | 5, _ => is5_4 | 6, _ => is6_4 | n + 7, h => absurd h (by omega), isE5 := fun e he => match e, he with | 0, _ => is0_5 | 1, _ => is1_5 | 2, _ => is2_5 | 3, _ => is3_5 | 4, _ => is4_5 | 5, _ => is5_5 | 6, _ => is6_5 | n + 7, h => absurd h (by omega), isE6 := fun e he => match e, he with | 0, _ => is0_6 | 1, _ => is1_6 | 2, _ => is2_6 | 3, _ => is3_6 | 4, _ => is4_6 | 5, _ => is5_6 | 6, _ => is6_6 | n + 7, h => absurd h (by omega), noEL := noL, noE0 := no0, noE1 := no1, noE2 := no2, noE3 := no3, noE4 := no4, noE5 := no5, noE6 := no6, ValueError_ := PySem.W.mg_none_of X G z_ValueError, abs_ := PySem.W.mg_none_of X G z_abs, bool_ := PySem.W.mg_none_of X G z_bool, enumerate_ := PySem.W.mg_none_of X G z_enumerate, int_ := PySem.W.mg_none_of X G z_int, isinstance_ := PySem.W.mg_none_of X G z_isinstance, len_ := PySem.W.mg_none_of X G z_len, list_ := PySem.W.mg_none_of X G z_list, max_ := PySem.W.mg_none_of X G z_max, min_ := PySem.W.mg_none_of X G z_min, range_ := PySem.W.mg_none_of X G z_range, str_ := PySem.W.mg_none_of X G z_str, tuple_ := PySem.W.mg_none_of X G z_tuple, e0 := ⟨xE0, PySem.W.mg_of X G aE0, kE0, bE0, tE0⟩, e1 := ⟨xE1, PySem.W.mg_of X G aE1, kE1, bE1, tE1⟩, e2 := ⟨xE2, PySem.W.mg_of X G aE2, kE2, bE2, tE2⟩, e3 := ⟨xE3, PySem.W.mg_of X G aE3, kE3, bE3, tE3⟩, e4 := ⟨xE4, PySem.W.mg_of X G aE4, kE4, bE4, tE4⟩, e5 := ⟨xE5, PySem.W.mg_of X G aE5, kE5, bE5, tE5⟩, e6 := ⟨xE6, PySem.W.mg_of X G aE6, kE6, bE6, tE6⟩ }
  have F0 := fun_mk (st := s_need_line) l0 c0 k0
  have b0 := F0.binds (ps := ["line"]) fun _ _ _ _ _ _ us hl => match us, hl with | [_], _ => rfl
  have F1 := fun_mk (st := s_height_at) l1 c1 k1
  have b1 := F1.binds (ps := ["line", "place"]) fun _ _ _ _ _ _ us hl => match us, hl with | [_, _], _ => rfl
  have F2 := fun_mk (st := s_part_at) l2 c2 k2
  have b2 := F2.binds (ps := ["line", "place"]) fun _ _ _ _ _ _ us hl => match us, hl with | [_, _], _ => rfl
  have F3 := fun_mk (st := s_rest_at) l3 c3 k3
  have b3 := F3.binds (ps := ["line", "place"]) fun _ _ _ _ _ _ us hl => match us, hl with | [_, _], _ => rfl
  have F4 := fun_mk (st := s_laid_off) l4 c4 k4
  have b4 := F4.binds (ps := ["line"]) fun _ _ _ _ _ _ us hl => match us, hl with | [_], _ => rfl
  have F5 := fun_mk (st := s_turned) l5 c5 k5
  have b5 := F5.binds (ps := ["line", "n"]) fun _ _ _ _ _ _ us hl => match us, hl with | [_, _], _ => rfl
  have F6 := fun_mk (st := s_own_part) l6 c6 k6
  have b6 := F6.binds (ps := ["line", "n"]) fun _ _ _ _ _ _ us hl => match us, hl with | [_, _], _ => rfl
  have F7 := fun_mk (st := s_sum_paper) l7 c7 k7
  have b7 := F7.binds (ps := ["line", "n"]) fun _ _ _ _ _ _ us hl => match us, hl with | [_, _], _ => rfl
  have F8 := fun_mk (st := s_sum_shown) l8 c8 k8
  have b8 := F8.binds (ps := ["line", "n", "total", "paper"]) fun _ _ _ _ _ _ us hl => match us, hl with | [_, _, _, _], _ => rfl
  have F9 := fun_mk (st := s__law_draw) l9 c9 k9
  have b9 := F9.binds (ps := ["_law_script", "_law_k"]) fun _ _ _ _ _ _ us hl => match us, hl with | [_, _], _ => rfl
  have F10 := fun_mk (st := s__law_number) l10 c10 k10
  have b10 := F10.binds (ps := ["_law_script", "_law_at", "_law_most"]) fun _ _ _ _ _ _ us hl => match us, hl with | [_, _, _], _ => rfl
  have F11 := fun_mk (st := s__law_line) l11 c11 k11
  have b11 := F11.binds (ps := ["_law_script", "_law_at", "_law_most"]) fun _ _ _ _ _ _ us hl => match us, hl with | [_, _, _], _ => rfl
  have F12 := fun_mk (st := s__law_paper) l12 c12 k12
  have b12 := F12.binds (ps := ["_law_line_here", "_law_n"]) fun _ _ _ _ _ _ us hl => match us, hl with | [_, _], _ => rfl
  have F13 := fun_mk (st := s__law_within) l13 c13 k13
  have b13 := F13.binds (ps := ["_law_number_here", "_law_step"]) fun _ _ _ _ _ _ us hl => match us, hl with | [_, _], _ => rfl
  have F14 := fun_mk (st := s__law_row_spoilt) l14 c14 k14
  have b14 := F14.binds (ps := ["_law_row", "_law_draw_here"]) fun _ _ _ _ _ _ us hl => match us, hl with | [_, _], _ => rfl
  have F15 := fun_mk (st := s__law_spoilt) l15 c15 k15
  have b15 := F15.binds (ps := ["_law_paper_here", "_law_draw_here", "_law_at"]) fun _ _ _ _ _ _ us hl => match us, hl with | [_, _, _], _ => rfl
  have F16 := fun_mk (st := s__law_fitted) l16 c16 k16
  have b16 := F16.binds (ps := ["_law_rows"]) fun _ _ _ _ _ _ us hl => match us, hl with | [_], _ => rfl
  have F17 := fun_mk (st := s__law_no_line) l17 c17 k17
  have b17 := F17.binds (ps := ["_law_line_here", "_law_n"]) fun _ _ _ _ _ _ us hl => match us, hl with | [_, _], _ => rfl
  have F18 := fun_mk (st := s_law) l18 c18 k18
  have b18 := F18.binds (ps := ["_law_script"]) fun _ _ _ _ _ _ us hl => match us, hl with | [_], _ => rfl
  refine ⟨PySem.W.fnOf "law" "law" (defArgs s_law) (defBody s_law) (defScope s_law) .none kV18 dc18 pm18 an18 cd18 ct18, fun s v => .of_eq rfl, fun base _ _ => ?_⟩
  have d_need_line := ok_need_line (P := l.prog) (w := w) (base := base) T F0 (PySem.W.mg_of X G a0) b0
  have d_height_at := ok_height_at (P := l.prog) (w := w) (base := base) T F1 (PySem.W.mg_of X G a1) b1 d_need_line
  have d_part_at := ok_part_at (P := l.prog) (w := w) (base := base) T F2 (PySem.W.mg_of X G a2) b2 d_height_at
  have d_rest_at := ok_rest_at (P := l.prog) (w := w) (base := base) T F3 (PySem.W.mg_of X G a3) b3 d_height_at
  have d_laid_off := ok_laid_off (P := l.prog) (w := w) (base := base) T F4 (PySem.W.mg_of X G a4) b4 d_need_line
  have d_turned := ok_turned (P := l.prog) (w := w) (base := base) T F5 (PySem.W.mg_of X G a5) b5 d_need_line d_part_at d_rest_at
  have d_own_part := ok_own_part (P := l.prog) (w := w) (base := base) T F6 (PySem.W.mg_of X G a6) b6 d_laid_off
  have d_sum_paper := ok_sum_paper (P := l.prog) (w := w) (base := base) T F7 (PySem.W.mg_of X G a7) b7 d_turned d_own_part d_laid_off
  have d_sum_shown := ok_sum_shown (P := l.prog) (w := w) (base := base) T F8 (PySem.W.mg_of X G a8) b8 d_turned d_own_part d_laid_off
  have d__law_draw := ok__law_draw (P := l.prog) (w := w) (base := base) T F9 (PySem.W.mg_of X G a9) b9
  have d__law_number := ok__law_number (P := l.prog) (w := w) (base := base) T F10 (PySem.W.mg_of X G a10) b10 d__law_draw
  have d__law_line := ok__law_line (P := l.prog) (w := w) (base := base) T F11 (PySem.W.mg_of X G a11) b11 d__law_number d__law_draw
  have d__law_paper := ok__law_paper (P := l.prog) (w := w) (base := base) T F12 (PySem.W.mg_of X G a12) b12
  have d__law_within := ok__law_within (P := l.prog) (w := w) (base := base) T F13 (PySem.W.mg_of X G a13) b13
  have d__law_row_spoilt := ok__law_row_spoilt (P := l.prog) (w := w) (base := base) T F14 (PySem.W.mg_of X G a14) b14 d__law_within
  have d__law_spoilt := ok__law_spoilt (P := l.prog) (w := w) (base := base) T F15 (PySem.W.mg_of X G a15) b15 d__law_row_spoilt
  have d__law_fitted := ok__law_fitted (P := l.prog) (w := w) (base := base) T F16 (PySem.W.mg_of X G a16) b16
  have d__law_no_line := ok__law_no_line (P := l.prog) (w := w) (base := base) T F17 (PySem.W.mg_of X G a17) b17 d_sum_paper
  have d_law := ok_law (P := l.prog) (w := w) (base := base) T F18 (PySem.W.mg_of X G a18) b18 d__law_line d__law_number d__law_paper d__law_draw d__law_spoilt d_sum_shown d__law_fitted d__law_no_line
  exact law_imp () d_law (fun G => fun _ => rfl)
theorem walk {l : PySem.W.OpenLaw} {q : Program} {loose : List Str} {XP : (Str → Option Value) → Heap → Prop} {YP : World → Heap → Prop} {d : DefRec} {K : Params → PySem.W.Frag} (hn : l.most = some 63) (hdf : d.params.defaults = [])
    (hY : ∀ (w : World) (h : Heap), YP w h → (K w.params).In h)
    (F : ∀ (w : World) (mg : Str → Option Value) (fa : Addr) (h : Heap), (K w.params).In h → h.Ns mainGlobals mg → mg d.name = some (.ref fa) →
      ∃ fd : FuncData, (∀ (s : Shared) (u : Value), BindsTo s fd ⟨[u], []⟩ [("_law_script", u)]) ∧ ∀ base : Heap, (K w.params).In base → base.Ns mainGlobals mg → FnOk l.prog w (K w.params) mg base (L2.CX l.prog w) 7 fa fd ["_law_script"] (spLawV (K w.params))) :
    PySem.W.WalkO q loose XP YP l.row.toRowW d [] (fun f vs => PySem.call f vs) :=
  L2.walk_ofB (n := 63) (k := 7) (x := "_law_script") (CX := fun w => L2.CX l.prog w) (sp := fun w => spLawV (K w.params)) hn (by decide) hdf ⟨rfl, by decide, by decide⟩ hY F (fun _ _ a ns hl hb _ hS => ⟨a, ns, rfl, hS, hl, hb, fun _ => rfl⟩) fun _ _ _ _ _ z => cx_none z
end Lw
open PySem PySem.W PyProof.Rows
set_option maxRecDepth 100000 in
set_option maxHeartbeats 0 in
theorem PySem.Challenge.cw_turnedline_k34_papers_looked_at_holds : PySem.Challenge.rw_turnedline_k34_papers_looked_at.Holds := by
  w_on; o_law; k_head; (case hw => w_witness2)
  k_fill
  refine Lw.walk (l := PySem.Challenge.rw_turnedline_k34_papers_looked_at) rfl rfl (fun w h Y => PySem.W.kIn_of Y) ?F
  case F =>
    intro w mg fa h KX G hmg
    refine' Lw.all_mk KX G hmg ?a0 ?l0 ?c0 ?k0 ?a1 ?l1 ?c1 ?k1 ?a2 ?l2 ?c2 ?k2 ?a3 ?l3 ?c3 ?k3 ?a4 ?l4 ?c4 ?k4 ?a5 ?l5 ?c5 ?k5 ?a6 ?l6 ?c6 ?k6 ?a7 ?l7 ?c7 ?k7 ?a8 ?l8 ?c8 ?k8 ?a9 ?l9 ?c9 ?k9 ?a10 ?l10 ?c10 ?k10 ?a11 ?l11 ?c11 ?k11 ?a12 ?l12 ?c12 ?k12 ?a13 ?l13 ?c13 ?k13 ?a14 ?l14 ?c14 ?k14 ?a15 ?l15 ?c15 ?k15 ?a16 ?l16 ?c16 ?k16 ?a17 ?l17 ?c17 ?k17 ?a18 ?l18 ?c18 ?k18 ?aE0 ?xE0 ?kE0 ?bE0 ?tE0 ?aE1 ?xE1 ?kE1 ?bE1 ?tE1 ?aE2 ?xE2 ?kE2 ?bE2 ?tE2 ?aE3 ?xE3 ?kE3 ?bE3 ?tE3 ?aE4 ?xE4 ?kE4 ?bE4 ?tE4 ?aE5 ?xE5 ?kE5 ?bE5 ?tE5 ?aE6 ?xE6 ?kE6 ?bE6 ?tE6 ?aL ?n0 ?n1 ?noL ?no0 ?no1 ?no2 ?no3 ?no4 ?no5 ?no6 ?xm0 ?il0 ?iv0 ?hg0 ?hk0 ?hd0 ?ha0 ?hm0 ?is0_0 ?is0_1 ?is0_2 ?is0_3 ?is0_4 ?is0_5 ?is0_6 ?xm1 ?il1 ?iv1 ?hg1 ?hk1 ?hd1 ?ha1 ?hm1 ?is1_0 ?is1_1 ?is1_2 ?is1_3 ?is1_4 ?is1_5 ?is1_6 ?xm2 ?il2 ?iv2 ?hg2 ?hk2 ?hd2 ?ha2 ?hm2 ?is2_0 ?is2_1 ?is2_2 ?is2_3 ?is2_4 ?is2_5 ?is2_6 ?xm3 ?il3 ?iv3 ?hg3 ?hk3 ?hd3 ?ha3 ?hm3 ?is3_0 ?is3_1 ?is3_2 ?is3_3 ?is3_4 ?is3_5 ?is3_6 ?xm4 ?il4 ?iv4 ?hg4 ?hk4 ?hd4 ?ha4 ?hm4 ?is4_0 ?is4_1 ?is4_2 ?is4_3 ?is4_4 ?is4_5 ?is4_6 ?xm5 ?il5 ?iv5 ?hg5 ?hk5 ?hd5 ?ha5 ?hm5 ?is5_0 ?is5_1 ?is5_2 ?is5_3 ?is5_4 ?is5_5 ?is5_6 ?xm6 ?il6 ?iv6 ?hg6 ?hk6 ?hd6 ?ha6 ?hm6 ?is6_0 ?is6_1 ?is6_2 ?is6_3 ?is6_4 ?is6_5 ?is6_6 ?z_ValueError ?z_abs ?z_bool ?z_enumerate ?z_int ?z_isinstance ?z_len ?z_list ?z_max ?z_min ?z_range ?z_str ?z_tuple
    (case a0 => k_is)
    (case l0 => k_is)
    (case c0 => k_is)
    (case k0 => k_is)
    (case a1 => k_is)
    (case l1 => k_is)
    (case c1 => k_is)
    (case k1 => k_is)
    (case a2 => k_is)
    (case l2 => k_is)
    (case c2 => k_is)
    (case k2 => k_is)
    (case a3 => k_is)
    (case l3 => k_is)
    (case c3 => k_is)
    (case k3 => k_is)
    (case a4 => k_is)
    (case l4 => k_is)
    (case c4 => k_is)
    (case k4 => k_is)
    (case a5 => k_is)
    (case l5 => k_is)
    (case c5 => k_is)
    (case k5 => k_is)
    (case a6 => k_is)
    (case l6 => k_is)
    (case c6 => k_is)
    (case k6 => k_is)
    (case a7 => k_is)
    (case l7 => k_is)
    (case c7 => k_is)
    (case k7 => k_is)
    (case a8 => k_is)
    (case l8 => k_is)
    (case c8 => k_is)
    (case k8 => k_is)
    (case a9 => k_is)
    (case l9 => k_is)
    (case c9 => k_is)
    (case k9 => k_is)
    (case a10 => k_is)
    (case l10 => k_is)
    (case c10 => k_is)
    (case k10 => k_is)
    (case a11 => k_is)
    (case l11 => k_is)
    (case c11 => k_is)
    (case k11 => k_is)
    (case a12 => k_is)
    (case l12 => k_is)
    (case c12 => k_is)
    (case k12 => k_is)
    (case a13 => k_is)
    (case l13 => k_is)
    (case c13 => k_is)
    (case k13 => k_is)
    (case a14 => k_is)
    (case l14 => k_is)
    (case c14 => k_is)
    (case k14 => k_is)
    (case a15 => k_is)
    (case l15 => k_is)
    (case c15 => k_is)
    (case k15 => k_is)
    (case a16 => k_is)
    (case l16 => k_is)
    (case c16 => k_is)
    (case k16 => k_is)
    (case a17 => k_is)
    (case l17 => k_is)
    (case c17 => k_is)
    (case k17 => k_is)
    (case a18 => k_is)
    (case l18 => k_is)
    (case c18 => k_is)
    (case k18 => k_is)
    (case aE0 => k_is)
    (case xE0 => k_exc)
    (case kE0 => k_is)
    (case bE0 => k_is)
    (case tE0 => k_is)
    (case aE1 => k_is)
    (case xE1 => k_exc)
    (case kE1 => k_is)
    (case bE1 => k_is)
    (case tE1 => k_is)
    (case aE2 => k_is)
    (case xE2 => k_exc)
    (case kE2 => k_is)
    (case bE2 => k_is)
    (case tE2 => k_is)
    (case aE3 => k_is)
    (case xE3 => k_exc)
    (case kE3 => k_is)
    (case bE3 => k_is)
    (case tE3 => k_is)
    (case aE4 => k_is)
    (case xE4 => k_exc)
    (case kE4 => k_is)
    (case bE4 => k_is)
    (case tE4 => k_is)
    (case aE5 => k_is)
    (case xE5 => k_exc)
    (case kE5 => k_is)
    (case bE5 => k_is)
    (case tE5 => k_is)
    (case aE6 => k_is)
    (case xE6 => k_exc)
    (case kE6 => k_is)
    (case bE6 => k_is)
    (case tE6 => k_is)
    (case aL => k_is)
    (case n0 => k_is)
    (case n1 => k_is)
    (case noL => kit_is)
    (case no0 => kit_is)
    (case no1 => kit_is)
    (case no2 => kit_is)
    (case no3 => kit_is)
    (case no4 => kit_is)
    (case no5 => kit_is)
    (case no6 => kit_is)
    (case xm0 => kts_exm)
    (case il0 => kit_is)
    (case iv0 => kit_is)
    (case hg0 => k_is)
    (case hk0 => k_is)
    (case hd0 => k_is)
    (case ha0 => k_is)
    (case hm0 => k_is)
    (case is0_0 => kit_is)
    (case is0_1 => kit_is)
    (case is0_2 => kit_is)
    (case is0_3 => kit_is)
    (case is0_4 => kit_is)
    (case is0_5 => kit_is)
    (case is0_6 => kit_is)
    (case xm1 => kts_exm)
    (case il1 => kit_is)
    (case iv1 => kit_is)
    (case hg1 => k_is)
    (case hk1 => k_is)
    (case hd1 => k_is)
    (case ha1 => k_is)
    (case hm1 => k_is)
    (case is1_0 => kit_is)
    (case is1_1 => kit_is)
    (case is1_2 => kit_is)
    (case is1_3 => kit_is)
    (case is1_4 => kit_is)
    (case is1_5 => kit_is)
    (case is1_6 => kit_is)
    (case xm2 => kts_exm)
    (case il2 => kit_is)
    (case iv2 => kit_is)
    (case hg2 => k_is)
    (case hk2 => k_is)
    (case hd2 => k_is)
    (case ha2 => k_is)
    (case hm2 => k_is)
    (case is2_0 => kit_is)
    (case is2_1 => kit_is)
    (case is2_2 => kit_is)
    (case is2_3 => kit_is)
    (case is2_4 => kit_is)
    (case is2_5 => kit_is)
    (case is2_6 => kit_is)
    (case xm3 => kts_exm)
    (case il3 => kit_is)
    (case iv3 => kit_is)
    (case hg3 => k_is)
    (case hk3 => k_is)
    (case hd3 => k_is)
    (case ha3 => k_is)
    (case hm3 => k_is)
    (case is3_0 => kit_is)
    (case is3_1 => kit_is)
    (case is3_2 => kit_is)
    (case is3_3 => kit_is)
    (case is3_4 => kit_is)
    (case is3_5 => kit_is)
    (case is3_6 => kit_is)
    (case xm4 => kts_exm)
    (case il4 => kit_is)
    (case iv4 => kit_is)
    (case hg4 => k_is)
    (case hk4 => k_is)
    (case hd4 => k_is)
    (case ha4 => k_is)
    (case hm4 => k_is)
    (case is4_0 => kit_is)
    (case is4_1 => kit_is)
    (case is4_2 => kit_is)
    (case is4_3 => kit_is)
    (case is4_4 => kit_is)
    (case is4_5 => kit_is)
    (case is4_6 => kit_is)
    (case xm5 => kts_exm)
    (case il5 => kit_is)
    (case iv5 => kit_is)
    (case hg5 => k_is)
    (case hk5 => k_is)
    (case hd5 => k_is)
    (case ha5 => k_is)
    (case hm5 => k_is)
    (case is5_0 => kit_is)
    (case is5_1 => kit_is)
    (case is5_2 => kit_is)
    (case is5_3 => kit_is)
    (case is5_4 => kit_is)
    (case is5_5 => kit_is)
    (case is5_6 => kit_is)
    (case xm6 => kts_exm)
    (case il6 => kit_is)
    (case iv6 => kit_is)
    (case hg6 => k_is)
    (case hk6 => k_is)
    (case hd6 => k_is)
    (case ha6 => k_is)
    (case hm6 => k_is)
    (case is6_0 => kit_is)
    (case is6_1 => kit_is)
    (case is6_2 => kit_is)
    (case is6_3 => kit_is)
    (case is6_4 => kit_is)
    (case is6_5 => kit_is)
    (case is6_6 => kit_is)
    (case z_ValueError => k_is)
    (case z_abs => k_is)
    (case z_bool => k_is)
    (case z_enumerate => k_is)
    (case z_int => k_is)
    (case z_isinstance => k_is)
    (case z_len => k_is)
    (case z_list => k_is)
    (case z_max => k_is)
    (case z_min => k_is)
    (case z_range => k_is)
    (case z_str => k_is)
    (case z_tuple => k_is)
