import PyProof.Rows.All
import Wide.All
import OpenK.AllK
import Wide.FinOn
import HandS.ForMost
import HandS.Exc
import HandS.ExcOwn
import HandS.TryOnly
import HandS.WordsExc
import HandS.Wide
import HandS.EndBits
import PyProof.LongRange
import HandS.IsInst
import HandS.Text
import HandS.Style
import HandS.Walk
import HandS.Zip
import HandS.ExcValue
import HandS.ExcIs
import HandS.SetFor
import HandS.Replace
import HandS.More
import KE.GoesEnum
import PySem.Challenge.RW_turnedline_k04_lines_written_and_read
set_option Elab.async false
set_option linter.all false
set_option maxRecDepth 100000
set_option maxHeartbeats 4000000
namespace Z
open PySem PySem.Spec PyProof.Rows L2

/-! ### plain data, and what a value stands for -/
inductive D where
  | non | bl (b : Bool) | int (i : Int) | str (x : Str) | tup (l : List D) | lst (l : List D) | arr (l : List D) | ref (a : Addr) | exc (C : Addr)
/-- an exception's object of the class C, held by a name -/
def ExA (C a : Addr) : HO := .ext fun h => ∃ (oe : Obj) (vs : Array Value), h.get? a = some oe ∧ Zc (.ref C) none oe ∧ oe.data = .fields vs
def Ext (A B : Hp) : Prop := ∀ p x, A p = some x → B p = some x
theorem Ext.rfl' {A : Hp} : Ext A A := fun _ _ h => h
theorem Ext.tr {A B C : Hp} (f : Ext A B) (g : Ext B C) : Ext A C := fun p x h => g p x (f p x h)
theorem Ext.none' {A B : Hp} (f : Ext A B) {p : Addr} (h : B p = none) : A p = none := by
  cases q : A p with
  | none => rfl
  | some x => rw [f p x q] at h; cases h
theorem Ext.new {A : Hp} {p : Addr} {o : HO} (h : A p = none) : Ext A (upd A p o) := fun q x e => by
  rw [upd_ne (ne_of_none e h)]; exact e
theorem rdE {A B : Hp} (f : Ext A B) {p : Addr} {u : HO} (h : Rd A p u) : Rd B p u := by
  rcases h with h | ⟨o, h⟩
  · exact Or.inl (f _ _ h)
  · exact Or.inr ⟨o, f _ _ h⟩
theorem sqTE {K : PySem.W.Frag} {A B : Hp} (f : Ext A B) {p : Addr} {xs : List V} (h : SqT K A p xs) : SqT K B p xs := h.imp (rdE f) id
theorem sqLE {K : PySem.W.Frag} {A B : Hp} (f : Ext A B) {p : Addr} {xs : List V} (h : SqL K A p xs) : SqL K B p xs := h.imp (rdE f) id

mutual
inductive Rep (K : PySem.W.Frag) (G : Hp) : V → D → Prop
  | non : Rep K G .non .non
  | bl (b : Bool) : Rep K G (.bl b) (.bl b)
  | int (i : Int) : Rep K G (.int i) (.int i)
  | str (x : Str) : Rep K G (.str x) (.str x)
  | tup {p : Addr} {vs : List V} {l : List D} : SqT K G p vs → RepL K G vs l → Rep K G (.ref p) (.tup l)
  | lst {p : Addr} {vs : List V} {l : List D} : G p = some (.lst vs) → RepL K G vs l → Rep K G (.ref p) (.lst l)
  | arr {p : Addr} {vs : List V} {l : List D} : SqL K G p vs → RepL K G vs l → Rep K G (.ref p) (.arr l)
  | ref (p : Addr) : Rep K G (.ref p) (.ref p)
  | exc {p C : Addr} : G p = some (ExA C p) → Rep K G (.ref p) (.exc C)
inductive RepL (K : PySem.W.Frag) (G : Hp) : List V → List D → Prop
  | nil : RepL K G [] []
  | cons {v : V} {vs : List V} {d : D} {l : List D} : Rep K G v d → RepL K G vs l → RepL K G (v :: vs) (d :: l)
end
section
variable {K : PySem.W.Frag} {G G' : Hp}
mutual
theorem Rep.mono (f : Ext G G') : ∀ (d : D) (v : V), Rep K G v d → Rep K G' v d
  | .non, _, h => by cases h; exact .non
  | .bl b, _, h => by cases h; exact .bl b
  | .int i, _, h => by cases h; exact .int i
  | .str x, _, h => by cases h; exact .str x
  | .tup l, _, h => by
    cases h with
    | tup a b => exact .tup (sqTE f a) (RepL.mono f l _ b)
  | .lst l, _, h => by
    cases h with
    | lst a b => exact .lst (f _ _ a) (RepL.mono f l _ b)
  | .arr l, _, h => by
    cases h with
    | arr a b => exact .arr (sqLE f a) (RepL.mono f l _ b)
  | .ref p, _, h => by cases h; exact .ref p
  | .exc C, _, h => by
    cases h with
    | exc a => exact .exc (f _ _ a)
theorem RepL.mono (f : Ext G G') : ∀ (l : List D) (vs : List V), RepL K G vs l → RepL K G' vs l
  | [], _, h => by cases h; exact .nil
  | d :: l, _, h => by
    cases h with
    | cons a b => exact .cons (Rep.mono f d _ a) (RepL.mono f l _ b)
end
theorem Rep.up {v : V} {d : D} (h : Rep K G v d) (f : Ext G G') : Rep K G' v d := Rep.mono f d v h
theorem RepL.up {vs : List V} {l : List D} (h : RepL K G vs l) (f : Ext G G') : RepL K G' vs l := RepL.mono f l vs h
theorem RepL.len : ∀ {vs : List V} {l : List D}, RepL K G vs l → vs.length = l.length
  | _, _, .nil => rfl
  | _, _, .cons _ t => congrArg (· + 1) (RepL.len t)
theorem RepL.get : ∀ {vs : List V} {l : List D} {i : Nat} {d : D}, RepL K G vs l → l[i]? = some d → ∃ v, vs[i]? = some v ∧ Rep K G v d
  | _, _, _, _, .nil, e => by simp at e
  | _, _, 0, _, .cons r _, e => by
    rw [List.getElem?_cons_zero] at e; cases e
    exact ⟨_, rfl, r⟩
  | _, _, i + 1, d, .cons _ t, e => RepL.get (i := i) t (by simpa using e)
theorem RepL.getV : ∀ {vs : List V} {l : List D} {i : Nat} {v : V}, RepL K G vs l → vs[i]? = some v → ∃ d, l[i]? = some d ∧ Rep K G v d
  | _, _, _, _, .nil, e => by simp at e
  | _, _, 0, _, .cons r _, e => by
    rw [List.getElem?_cons_zero] at e; cases e
    exact ⟨_, rfl, r⟩
  | _, _, i + 1, d, .cons _ t, e => RepL.getV (i := i) t (by simpa using e)
theorem RepL.app : ∀ {vs us : List V} {l m : List D}, RepL K G vs l → RepL K G us m → RepL K G (vs ++ us) (l ++ m)
  | _, _, _, _, .nil, s => s
  | _, _, _, _, .cons r t, s => .cons r (RepL.app t s)
theorem RepL.set {v : V} {d : D} (r : Rep K G v d) : ∀ {vs : List V} {l : List D} (i : Nat), RepL K G vs l → RepL K G (vs.set i v) (l.set i d)
  | _, _, _, .nil => .nil
  | _, _, 0, .cons _ t => .cons r t
  | _, _, i + 1, .cons q t => .cons q (RepL.set r i t)
theorem RepL.take : ∀ {vs : List V} {l : List D} (n : Nat), RepL K G vs l → RepL K G (vs.take n) (l.take n)
  | _, _, 0, _ => .nil
  | _, _, _ + 1, .nil => .nil
  | _, _, n + 1, .cons r t => .cons r (RepL.take n t)
theorem RepL.drop : ∀ {vs : List V} {l : List D} (n : Nat), RepL K G vs l → RepL K G (vs.drop n) (l.drop n)
  | _, _, 0, r => r
  | _, _, _ + 1, .nil => .nil
  | _, _, n + 1, .cons _ t => RepL.drop n t
theorem RepL.rev : ∀ {vs : List V} {l : List D}, RepL K G vs l → RepL K G vs.reverse l.reverse
  | _, _, .nil => .nil
  | _, _, .cons r t => by
    rw [List.reverse_cons, List.reverse_cons]
    exact RepL.app (RepL.rev t) (.cons r .nil)
theorem RepL.erase : ∀ {vs : List V} {l : List D} (n : Nat), RepL K G vs l → RepL K G (vs.eraseIdx n) (l.eraseIdx n)
  | _, _, _, .nil => .nil
  | _, _, 0, .cons _ t => t
  | _, _, n + 1, .cons r t => .cons r (RepL.erase n t)
theorem RepL.ints : ∀ {ns : List Int} {vs : List V}, RepL K G vs (ns.map D.int) → vs = ns.map V.int
  | [], _, h => by cases h; rfl
  | n :: ns, _, h => by
    cases h with
    | cons a b => cases a; rw [RepL.ints b]; rfl
theorem RepL.ofInts : ∀ (ns : List Int), RepL K G (ns.map V.int) (ns.map D.int)
  | [] => .nil
  | n :: ns => .cons (.int n) (RepL.ofInts ns)
theorem RepL.strs : ∀ {ns : List Str} {vs : List V}, RepL K G vs (ns.map D.str) → vs = ns.map V.str
  | [], _, h => by cases h; rfl
  | n :: ns, _, h => by
    cases h with
    | cons a b => cases a; rw [RepL.strs b]; rfl
theorem RepL.ofStrs : ∀ (ns : List Str), RepL K G (ns.map V.str) (ns.map D.str)
  | [] => .nil
  | n :: ns => .cons (.str n) (RepL.ofStrs ns)
theorem RepL.bls : ∀ {ns : List Bool} {vs : List V}, RepL K G vs (ns.map D.bl) → vs = ns.map V.bl
  | [], _, h => by cases h; rfl
  | n :: ns, _, h => by
    cases h with
    | cons a b => cases a; rw [RepL.bls b]; rfl
end

/-! ### the heap in parts: what stands still (G), what the world holds (M) -/
structure Wp (ω : Type) where
  ok : ω → Hp → Hp → Prop
  mono : ∀ {w : ω} {G G' M : Hp}, Ext G G' → ok w G M → ok w G' M
  ec : Nat → Addr
section
variable {ω : Type}
structure Pt (W : Wp ω) (H G M : Hp) (w : ω) : Prop where
  gh : Ext G H
  mh : Ext M H
  dj : ∀ p x, G p = some x → M p = none
  wd : W.ok w G M
structure Nx (H G M H' G' M' : Hp) : Prop where
  gg : Ext G G'
  fr : ∀ p x, H p = some x → M p = none → H' p = some x
  gn : ∀ p x, G' p = some x → G p = none → H p = none
  mn : ∀ p x, M' p = some x → M p = none → H p = none
  m0 : ∀ p x, M p = some x → ∃ y, M' p = some y
theorem Nx.rfl' {H G M : Hp} : Nx H G M H G M := ⟨Ext.rfl', fun _ _ h _ => h, fun p x a b => (by rw [a] at b; cases b), fun p x a b => (by rw [a] at b; cases b), fun p x a => ⟨x, a⟩⟩
theorem Nx.back {H G M H' G' M' : Hp} (a : Nx H G M H' G' M') (mh : Ext M' H') {p : Addr} (h : H' p = none) : H p = none := by
  cases q : H p with
  | none => rfl
  | some z =>
    exfalso
    cases r : M p with
    | none => rw [a.fr p z q r] at h; cases h
    | some y =>
      obtain ⟨y', e⟩ := a.m0 p y r
      rw [mh p y' e] at h; cases h
theorem Nx.tr {H G M H' G' M' H2 G2 M2 : Hp} (a : Nx H G M H' G' M') (b : Nx H' G' M' H2 G2 M2) (mh : Ext M' H') : Nx H G M H2 G2 M2 where
  gg := a.gg.tr b.gg
  fr := fun p x h m => b.fr p x (a.fr p x h m) (by
    cases q : M' p with
    | none => rfl
    | some y => rw [a.mn p y q m] at h; cases h)
  gn := fun p x h g => by
    cases q : G' p with
    | some y => exact a.gn p y q g
    | none => exact a.back mh (b.gn p x h q)
  mn := fun p x h g => by
    cases q : M' p with
    | some y => exact a.mn p y q g
    | none => exact a.back mh (b.mn p x h q)
  m0 := fun p x h => by
    obtain ⟨y, e⟩ := a.m0 p x h
    exact b.m0 p y e
theorem Pt.new {W : Wp ω} {H G M : Hp} {w : ω} (a : Pt W H G M w) {p : Addr} {o : HO} (h : H p = none) : Pt W (upd H p o) (upd G p o) M w where
  gh := fun q x e => by
    by_cases z : q = p
    · subst z; rw [upd_same] at e ⊢; exact e
    · rw [upd_ne z] at e ⊢; exact a.gh q x e
  mh := fun q x e => by rw [upd_ne (ne_of_none (a.mh q x e) h)]; exact a.mh q x e
  dj := fun q x e => by
    by_cases z : q = p
    · subst z; exact a.mh.none' h
    · rw [upd_ne z] at e; exact a.dj q x e
  wd := W.mono (Ext.new (a.gh.none' h)) a.wd
theorem Nx.new {W : Wp ω} {H G M : Hp} {w : ω} (a : Pt W H G M w) {p : Addr} {o : HO} (h : H p = none) : Nx H G M (upd H p o) (upd G p o) M where
  gg := Ext.new (a.gh.none' h)
  fr := fun q x e _ => by rw [upd_ne (ne_of_none e h)]; exact e
  gn := fun q x e g => by
    by_cases z : q = p
    · subst z; exact h
    · rw [upd_ne z, g] at e; cases e
  mn := fun q x e g => by rw [e] at g; cases g
  m0 := fun q x e => ⟨x, e⟩

/-! ### slots -/
inductive Sl where
  | no | val (d : D) | own (l : List D)
/-- the entry of the def (H0 G0 M0), what is known to stand (S) -/
structure Zx where
  H0 : Hp
  G0 : Hp
  M0 : Hp
  S : Hp
def SlR (K : PySem.W.Frag) (Z : Zx) (σ : L2.St) (H G M : Hp) (i : Nat) : Sl → Prop
  | .no => True
  | .val d => ∃ v, σ[i]? = some (some v) ∧ Rep K G v d
  | .own l => ∃ p vs, σ[i]? = some (some (.ref p)) ∧ H p = some (.lst vs) ∧ G p = none ∧ M p = none ∧ Z.H0 p = none ∧ RepL K G vs l
structure SR (K : PySem.W.Frag) (W : Wp ω) (Z : Zx) (σ : L2.St) (H G M : Hp) (δ : List Sl) (w : ω) : Prop where
  pt : Pt W H G M w
  nx : Nx Z.H0 Z.G0 Z.M0 H G M
  st : Ext Z.S G
  len : δ.length = σ.length
  sl : ∀ i s, δ[i]? = some s → SlR K Z σ H G M i s
  od : ∀ (i j : Nat) (p : Addr) (l l' : List D), δ[i]? = some (Sl.own l) → δ[j]? = some (Sl.own l') → σ[i]? = some (some (V.ref p)) → σ[j]? = some (some (V.ref p)) → i = j
section
variable {K : PySem.W.Frag} {W : Wp ω} {Z : Zx} {σ : L2.St} {H G M H' G' M' : Hp} {δ : List Sl} {w w' : ω}
theorem SR.next (a : SR K W Z σ H G M δ w) (b : Pt W H' G' M' w') (c : Nx H G M H' G' M') : SR K W Z σ H' G' M' δ w' where
  pt := b
  nx := a.nx.tr c a.pt.mh
  st := a.st.tr c.gg
  len := a.len
  sl := fun i s e => by
    have h := a.sl i s e
    cases s with
    | no => trivial
    | val d => obtain ⟨v, h1, h2⟩ := h; exact ⟨v, h1, h2.up c.gg⟩
    | own l =>
      obtain ⟨p, vs, h1, h2, h3, h4, h5, h7⟩ := h
      refine ⟨p, vs, h1, c.fr p _ h2 h4, ?_, ?_, h5, h7.up c.gg⟩
      · cases q : G' p with
        | none => rfl
        | some y => rw [c.gn p y q h3] at h2; cases h2
      · cases q : M' p with
        | none => rfl
        | some y => rw [c.mn p y q h4] at h2; cases h2
  od := a.od
structure Go (W : Wp ω) (H G M H' G' M' : Hp) (w' : ω) : Prop where
  pt : Pt W H' G' M' w'
  nx : Nx H G M H' G' M'
theorem SR.go (a : SR K W Z σ H G M δ w) (o : Go W H G M H' G' M' w') : SR K W Z σ H' G' M' δ w' := a.next o.pt o.nx
theorem SR.here (a : SR K W Z σ H G M δ w) : Go W H G M H G M w := ⟨a.pt, .rfl'⟩
theorem Go.tr {H2 G2 M2 : Hp} {w2 : ω} (a : Go W H G M H' G' M' w') (b : Go W H' G' M' H2 G2 M2 w2) : Go W H G M H2 G2 M2 w2 := ⟨b.pt, a.nx.tr b.nx a.pt.mh⟩
theorem SR.new (a : SR K W Z σ H G M δ w) {p : Addr} {o : HO} (h : H p = none) : SR K W Z σ (upd H p o) (upd G p o) M δ w := a.next (a.pt.new h) (Nx.new a.pt h)
theorem SR.set (a : SR K W Z σ H G M δ w) {i : Nat} {v : V} {d : D} (r : Rep K G v d) : SR K W Z (σ.set i (some v)) H G M (δ.set i (.val d)) w where
  pt := a.pt
  nx := a.nx
  st := a.st
  len := by rw [List.length_set, List.length_set]; exact a.len
  sl := fun j s e => by
    by_cases z : i = j
    · subst z
      have hl : i < δ.length := by
        have := (List.getElem?_eq_some_iff.mp e).1
        rwa [List.length_set] at this
      rw [List.getElem?_set_self hl] at e
      cases e
      exact ⟨v, List.getElem?_set_self (by rw [← a.len]; exact hl), r⟩
    · rw [List.getElem?_set_ne z] at e
      have h := a.sl j s e
      cases s with
      | no => trivial
      | val d => obtain ⟨u, h1, h2⟩ := h; exact ⟨u, by rw [List.getElem?_set_ne z]; exact h1, h2⟩
      | own l =>
        obtain ⟨p, vs, h1, h2⟩ := h
        exact ⟨p, vs, by rw [List.getElem?_set_ne z]; exact h1, h2⟩
  od := fun j k p l l' e1 e2 e3 e4 => by
    have nj : i ≠ j := fun z => by
      subst z
      have hl : i < δ.length := by
        have := (List.getElem?_eq_some_iff.mp e1).1
        rwa [List.length_set] at this
      rw [List.getElem?_set_self hl] at e1; cases e1
    have nk : i ≠ k := fun z => by
      subst z
      have hl : i < δ.length := by
        have := (List.getElem?_eq_some_iff.mp e2).1
        rwa [List.length_set] at this
      rw [List.getElem?_set_self hl] at e2; cases e2
    rw [List.getElem?_set_ne nj] at e1 e3
    rw [List.getElem?_set_ne nk] at e2 e4
    exact a.od j k p l l' e1 e2 e3 e4
/-- a slot forgotten -/
theorem SR.drop (a : SR K W Z σ H G M δ w) {i : Nat} {x : Option V} : SR K W Z (σ.set i x) H G M (δ.set i .no) w where
  pt := a.pt
  nx := a.nx
  st := a.st
  len := by rw [List.length_set, List.length_set]; exact a.len
  sl := fun j s e => by
    by_cases z : i = j
    · subst z
      have hl : i < δ.length := by
        have := (List.getElem?_eq_some_iff.mp e).1
        rwa [List.length_set] at this
      rw [List.getElem?_set_self hl] at e
      cases e
      trivial
    · rw [List.getElem?_set_ne z] at e
      have h := a.sl j s e
      cases s with
      | no => trivial
      | val d => obtain ⟨u, h1, h2⟩ := h; exact ⟨u, by rw [List.getElem?_set_ne z]; exact h1, h2⟩
      | own l =>
        obtain ⟨p, vs, h1, h2⟩ := h
        exact ⟨p, vs, by rw [List.getElem?_set_ne z]; exact h1, h2⟩
  od := fun j k p l l' e1 e2 e3 e4 => by
    have nj : i ≠ j := fun z => by
      subst z
      have hl : i < δ.length := by
        have := (List.getElem?_eq_some_iff.mp e1).1
        rwa [List.length_set] at this
      rw [List.getElem?_set_self hl] at e1; cases e1
    have nk : i ≠ k := fun z => by
      subst z
      have hl : i < δ.length := by
        have := (List.getElem?_eq_some_iff.mp e2).1
        rwa [List.length_set] at this
      rw [List.getElem?_set_self hl] at e2; cases e2
    rw [List.getElem?_set_ne nj] at e1 e3
    rw [List.getElem?_set_ne nk] at e2 e4
    exact a.od j k p l l' e1 e2 e3 e4
/-- a new list of our own at p, laid into slot i -/
theorem SR.setOwn (a : SR K W Z σ H G M δ w) {i : Nat} {p : Addr} {vs : List V} {l : List D} (hp : H p = some (.lst vs)) (hG : G p = none) (hM : M p = none) (h0 : Z.H0 p = none) (r : RepL K G vs l)
    (hd : ∀ (j : Nat) (m : List D), δ[j]? = some (Sl.own m) → σ[j]? ≠ some (some (V.ref p))) : SR K W Z (σ.set i (some (.ref p))) H G M (δ.set i (.own l)) w where
  pt := a.pt
  nx := a.nx
  st := a.st
  len := by rw [List.length_set, List.length_set]; exact a.len
  sl := fun j s e => by
    by_cases z : i = j
    · subst z
      have hl : i < δ.length := by
        have := (List.getElem?_eq_some_iff.mp e).1
        rwa [List.length_set] at this
      rw [List.getElem?_set_self hl] at e
      cases e
      exact ⟨p, vs, List.getElem?_set_self (by rw [← a.len]; exact hl), hp, hG, hM, h0, r⟩
    · rw [List.getElem?_set_ne z] at e
      have h := a.sl j s e
      cases s with
      | no => trivial
      | val d => obtain ⟨u, h1, h2⟩ := h; exact ⟨u, by rw [List.getElem?_set_ne z]; exact h1, h2⟩
      | own l =>
        obtain ⟨p, vs, h1, h2⟩ := h
        exact ⟨p, vs, by rw [List.getElem?_set_ne z]; exact h1, h2⟩
  od := fun j k q m m' e1 e2 e3 e4 => by
    have at_i : ∀ {n : Nat} {m : List D}, (δ.set i (.own l))[n]? = some (.own m) → n < δ.length := fun e => by
      have := (List.getElem?_eq_some_iff.mp e).1
      rwa [List.length_set] at this
    by_cases zj : i = j
    · by_cases zk : i = k
      · rw [← zj, ← zk]
      · subst zj
        rw [List.getElem?_set_self (by rw [← a.len]; exact at_i e1)] at e3
        cases e3
        rw [List.getElem?_set_ne zk] at e2 e4
        exact absurd e4 (hd k m' e2)
    · rw [List.getElem?_set_ne zj] at e1 e3
      by_cases zk : i = k
      · subst zk
        rw [List.getElem?_set_self (by rw [← a.len]; exact at_i e2)] at e4
        cases e4
        exact absurd e3 (hd j m e1)
      · rw [List.getElem?_set_ne zk] at e2 e4
        exact a.od j k q m m' e1 e2 e3 e4
/-- our own list at slot i is changed -/
theorem SR.change (a : SR K W Z σ H G M δ w) {i : Nat} {p : Addr} {us : List V} {l m : List D} (hi : δ[i]? = some (.own l)) (hs : σ[i]? = some (some (.ref p))) (r : RepL K G us m) : SR K W Z σ (upd H p (.lst us)) G M (δ.set i (.own m)) w := by
  obtain ⟨p', vs', h1, h2, h3, h4, h5, h7⟩ := a.sl i _ hi
  rw [hs] at h1
  cases h1
  have hl : i < δ.length := (List.getElem?_eq_some_iff.mp hi).1
  refine ⟨⟨fun q x e => ?_, fun q x e => ?_, a.pt.dj, a.pt.wd⟩, ⟨a.nx.gg, fun q x e e' => ?_, a.nx.gn, a.nx.mn, a.nx.m0⟩, a.st, by rw [List.length_set]; exact a.len, fun j s e => ?_, fun j k q m1 m2 e1 e2 e3 e4 => ?_⟩
  · rw [upd_ne (ne_of_none e h3)]; exact a.pt.gh q x e
  · rw [upd_ne (ne_of_none e h4)]; exact a.pt.mh q x e
  · rw [upd_ne (ne_of_none e h5)]; exact a.nx.fr q x e e'
  · by_cases z : i = j
    · subst z
      rw [List.getElem?_set_self hl] at e
      cases e
      exact ⟨p, us, hs, upd_same, h3, h4, h5, r⟩
    · rw [List.getElem?_set_ne z] at e
      have h := a.sl j s e
      cases s with
      | no => trivial
      | val d => exact h
      | own l' =>
        obtain ⟨p', vs, g1, g2, g3⟩ := h
        refine ⟨p', vs, g1, ?_, g3⟩
        rw [upd_ne (fun y => z (a.od i j p l l' hi e hs (by rw [← y]; exact g1)))]
        exact g2
  · have same : ∀ {n : Nat} {m' : List D}, (δ.set i (.own m))[n]? = some (.own m') → ∃ l', δ[n]? = some (.own l') := fun {n m'} e => by
      by_cases z : i = n
      · subst z; exact ⟨l, hi⟩
      · rw [List.getElem?_set_ne z] at e; exact ⟨m', e⟩
    obtain ⟨l1, f1⟩ := same e1
    obtain ⟨l2, f2⟩ := same e2
    exact a.od j k q l1 l2 f1 f2 e3 e4
/-- .. stands still from now on -/
theorem SR.freeze (a : SR K W Z σ H G M δ w) {i : Nat} {l : List D} (hi : δ[i]? = some (.own l)) : ∃ G', Ext G G' ∧ SR K W Z σ H G' M (δ.set i (.val (.lst l))) w := by
  obtain ⟨p, vs, h1, h2, h3, h4, h5, h7⟩ := a.sl i _ hi
  have hl : i < δ.length := (List.getElem?_eq_some_iff.mp hi).1
  have gg : Ext G (upd G p (.lst vs)) := Ext.new h3
  refine ⟨upd G p (.lst vs), gg, ⟨⟨fun q x e => ?_, a.pt.mh, fun q x e => ?_, W.mono gg a.pt.wd⟩, ⟨a.nx.gg.tr gg, a.nx.fr, fun q x e e' => ?_, a.nx.mn, a.nx.m0⟩, a.st.tr gg, by rw [List.length_set]; exact a.len, fun j s e => ?_, fun j k q m1 m2 e1 e2 e3 e4 => ?_⟩⟩
  · by_cases z : q = p
    · subst z; rw [upd_same] at e; cases e; exact h2
    · rw [upd_ne z] at e; exact a.pt.gh q x e
  · by_cases z : q = p
    · subst z; exact h4
    · rw [upd_ne z] at e; exact a.pt.dj q x e
  · by_cases z : q = p
    · subst z; exact h5
    · rw [upd_ne z] at e; exact a.nx.gn q x e e'
  · by_cases z : i = j
    · subst z
      rw [List.getElem?_set_self hl] at e
      cases e
      exact ⟨.ref p, h1, .lst upd_same (h7.up gg)⟩
    · rw [List.getElem?_set_ne z] at e
      have h := a.sl j s e
      cases s with
      | no => trivial
      | val d => obtain ⟨u, g1, g2⟩ := h; exact ⟨u, g1, g2.up gg⟩
      | own l' =>
        obtain ⟨p', us, g1, g2, g3, g4, g5, g7⟩ := h
        refine ⟨p', us, g1, g2, ?_, g4, g5, g7.up gg⟩
        rw [upd_ne (fun y => z (a.od i j p l l' hi e h1 (by rw [← y]; exact g1)))]
        exact g3
  · have same : ∀ {n : Nat} {m' : List D}, (δ.set i (.val (.lst l)))[n]? = some (.own m') → δ[n]? = some (.own m') := fun {n m'} e => by
      by_cases z : i = n
      · subst z; rw [List.getElem?_set_self hl] at e; cases e
      · rw [List.getElem?_set_ne z] at e; exact e
    exact a.od j k q m1 m2 (same e1) (same e2) e3 e4
def wipeZ (δ : List Sl) : List Nat → List Sl
  | [] => δ
  | v :: vs => (wipeZ δ vs).set v .no
theorem SR.wipe (a : SR K W Z σ H G M δ w) : ∀ vs : List Nat, SR K W Z (L2.wipe σ vs) H G M (wipeZ δ vs) w
  | [] => a
  | v :: vs => (SR.wipe a vs).drop
/-- more is known to stand -/
theorem SR.more (a : SR K W Z σ H G M δ w) : SR K W ⟨Z.H0, Z.G0, Z.M0, G⟩ σ H G M δ w := ⟨a.pt, a.nx, Ext.rfl', a.len, a.sl, a.od⟩
theorem SR.le {S : Hp} (a : SR K W ⟨Z.H0, Z.G0, Z.M0, S⟩ σ H G M δ w) (hS : Ext Z.S S) : SR K W Z σ H G M δ w := ⟨a.pt, a.nx, hS.tr a.st, a.len, a.sl, a.od⟩
end
end
end Z

namespace Z
open PySem PySem.Spec PyProof.Rows L2
variable {ω : Type}

/-! ### readings over plain data -/
abbrev TEZ (ω : Type) := List Sl → ω → (D → ω → Prop) → (Nat → ω → Prop) → Prop
abbrev TTZ (ω : Type) := List Sl → ω → (Bool → ω → Prop) → (Nat → ω → Prop) → Prop
abbrev TAZ (ω : Type) := List Sl → ω → (List D → ω → Prop) → (Nat → ω → Prop) → Prop
structure EndZ (ω : Type) where
  nx : List Sl → ω → Prop
  rt : D → ω → Prop
  bk : List Sl → ω → Prop
  ct : List Sl → ω → Prop
  ex : Nat → List Sl → ω → Prop
abbrev TSZ (ω : Type) := EndZ ω → List Sl → ω → Prop
/-- what a call of a def asks and gives -/
abbrev SpZ (ω : Type) := List D → ω → (D → ω → Prop) → (Nat → ω → Prop) → Prop
def Mo {α : Type} (t : List Sl → ω → (α → ω → Prop) → (Nat → ω → Prop) → Prop) : Prop := ∀ {δ : List Sl} {w : ω} {Q Q' : α → ω → Prop} {E : Nat → ω → Prop}, (∀ d w', Q d w' → Q' d w') → t δ w Q E → t δ w Q' E

section
variable (K : PySem.W.Frag) (W : Wp ω) (Z : Zx) (ex : Nat → List Sl → ω → Prop)
def liE (te : TEZ ω) : TE := fun σ H Q => ∃ G M δ w, SR K W Z σ H G M δ w ∧ te δ w (fun d w' => ∀ v H' G' M', Go W H G M H' G' M' w' → Rep K G' v d → Q v H') (fun e w' => ex e δ w')
def liT (te : TTZ ω) : TT := fun σ H Q => ∃ G M δ w, SR K W Z σ H G M δ w ∧ te δ w (fun b w' => ∀ H' G' M', Go W H G M H' G' M' w' → Q b H') (fun e w' => ex e δ w')
def liA (te : TAZ ω) : TA := fun σ H Q => ∃ G M δ w, SR K W Z σ H G M δ w ∧ te δ w (fun l w' => ∀ vs H' G' M', Go W H G M H' G' M' w' → RepL K G' vs l → Q vs H') (fun e w' => ex e δ w')
/-- a new list, not yet standing still -/
def NewAt (H H' G' M' : Hp) (p : Addr) (vs : List V) : Prop := H p = none ∧ H' p = some (.lst vs) ∧ G' p = none ∧ M' p = none
def liF (te : TAZ ω) : TE := fun σ H Q => ∃ G M δ w, SR K W Z σ H G M δ w ∧ te δ w (fun l w' => ∀ p vs H' G' M', Go W H G M H' G' M' w' → RepL K G' vs l → NewAt H H' G' M' p vs → Q (.ref p) H') (fun e w' => ex e δ w')
def LS (P : List Sl → ω → Prop) : L2.St → Hp → Prop := fun σ H => ∃ G M δ w, SR K W Z σ H G M δ w ∧ P δ w
def WXz : WX := fun cls d σ H => d = none ∧ ∃ e, cls = .ref (W.ec e) ∧ LS K W Z (ex e) σ H
structure EndI (Dz : EndZ ω) (D : Ends) : Prop where
  nx : ∀ σ H, LS K W Z Dz.nx σ H → D.nx σ H
  bk : ∀ σ H, LS K W Z Dz.bk σ H → D.bk σ H
  ct : ∀ σ H, LS K W Z Dz.ct σ H → D.ct σ H
  rt : ∀ v H G M d w, Pt W H G M w → Nx Z.H0 Z.G0 Z.M0 H G M → Rep K G v d → Dz.rt d w → D.rt v H
def liS (ts : TSZ ω) : TS := fun D σ H => ∃ Dz : EndZ ω, Dz.ex = ex ∧ EndI K W Z Dz D ∧ LS K W Z (ts Dz) σ H
end
section
variable (X : Cx) (W : Wp ω)
structure PEZ (e : Expr) (te : TEZ ω) : Prop where
  mo : Mo te
  run : ∀ (Z : Zx) (ex : Nat → List Sl → ω → Prop), Takes X (WXz X.K W Z ex) → PE X e (liE X.K W Z ex te)
structure PFZ (e : Expr) (te : TAZ ω) : Prop where
  mo : Mo te
  run : ∀ (Z : Zx) (ex : Nat → List Sl → ω → Prop), Takes X (WXz X.K W Z ex) → PE X e (liF X.K W Z ex te)
structure PTZ (e : Expr) (te : TTZ ω) : Prop where
  mo : Mo te
  run : ∀ (Z : Zx) (ex : Nat → List Sl → ω → Prop), Takes X (WXz X.K W Z ex) → PT X e (liT X.K W Z ex te)
structure PWZ (e : Expr) (te : TTZ ω) : Prop where
  mo : Mo te
  run : ∀ (Z : Zx) (ex : Nat → List Sl → ω → Prop), Takes X (WXz X.K W Z ex) → PW X e (liT X.K W Z ex te)
structure PAZ (es : List Expr) (te : TAZ ω) : Prop where
  mo : Mo te
  run : ∀ (Z : Zx) (ex : Nat → List Sl → ω → Prop), Takes X (WXz X.K W Z ex) → PA X es (liA X.K W Z ex te)
def PSZ (st : Stmt) (ts : TSZ ω) : Prop := ∀ (Z : Zx) (ex : Nat → List Sl → ω → Prop), Takes X (WXz X.K W Z ex) → PS X st (liS X.K W Z ex ts)
def PBZ (st : List Stmt) (ts : TSZ ω) : Prop := ∀ (Z : Zx) (ex : Nat → List Sl → ω → Prop), Takes X (WXz X.K W Z ex) → PSs X st (liS X.K W Z ex ts)
end
theorem peI {X : Cx} {e : Expr} {t u : TE} (h : PE X e u) (i : ∀ σ H Q, t σ H Q → u σ H Q) : PE X e t := ⟨fun pins s σ H Q I q => h.run pins s σ H Q I (i _ _ _ q)⟩
theorem ptI {X : Cx} {e : Expr} {t u : TT} (h : PT X e u) (i : ∀ σ H Q, t σ H Q → u σ H Q) : PT X e t := ⟨fun pins s σ H Q I q => h.run pins s σ H Q I (i _ _ _ q)⟩
theorem pwI {X : Cx} {e : Expr} {t u : TT} (h : PW X e u) (i : ∀ σ H Q, t σ H Q → u σ H Q) : PW X e t := ⟨fun wh pins s σ H Q I q => h.run wh pins s σ H Q I (i _ _ _ q)⟩
theorem paI {X : Cx} {e : List Expr} {t u : TA} (h : PA X e u) (i : ∀ σ H Q, t σ H Q → u σ H Q) : PA X e t := ⟨fun pos pins s σ H Q I q => h.run pos pins s σ H Q I (i _ _ _ q)⟩
theorem psI {X : Cx} {e : Stmt} {t u : TS} (h : PS X e u) (i : ∀ D σ H, t D σ H → u D σ H) : PS X e t := ⟨fun pins s σ H D I q => h.run pins s σ H D I (i _ _ _ q)⟩
theorem pbI {X : Cx} {e : List Stmt} {t u : TS} (h : PSs X e u) (i : ∀ D σ H, t D σ H → u D σ H) : PSs X e t := ⟨fun pins s σ H D I q => h.run pins s σ H D I (i _ _ _ q)⟩

/-! ### names, constants -/
def zVar (i : Nat) : TEZ ω := fun δ w Q _ => match δ[i]? with | some (.val d) => Q d w | _ => False
def zK (d : D) : TEZ ω := fun _ w Q _ => Q d w
section
variable {X : Cx} {W : Wp ω} {pos : Pos}
theorem zVar_some {i : Nat} {δ : List Sl} {w : ω} {Q : D → ω → Prop} {E : Nat → ω → Prop} (h : zVar i δ w Q E) : ∃ d, δ[i]? = some (.val d) ∧ Q d w := by
  unfold zVar at h
  split at h
  · rename_i d e; exact ⟨d, e, h⟩
  · exact h.elim
theorem z_var (i : Nat) {x : Str} (hN : X.N[i]? = some x := by rfl) (hv : Vis X.env.scope x := by first | exact Or.inl rfl | exact Or.inr (Or.inl rfl) | exact Or.inr (Or.inr rfl)) (hd : (x == ("__debug__" : Str)) = false := by decide)
    (hcd : (x == ("__classdict__" : Str)) = false := by decide) : PEZ X W (.Name x pos) (zVar i) := ⟨fun k h => by
  obtain ⟨d, e, q⟩ := zVar_some h
  unfold zVar
  rw [e]
  exact k _ _ q, fun Z ex tk => peI (pe_var hN hv hd hcd) fun σ H Q ⟨G, M, δ, w, a, h⟩ => by
  obtain ⟨d, e, q⟩ := zVar_some h
  obtain ⟨v, h1, h2⟩ := a.sl i _ e
  exact ⟨v, h1, q v H G M a.here h2⟩⟩
theorem z_k {e : Expr} {v : V} {d : D} (h : PE X e (tC v)) (r : ∀ G, Rep X.K G v d) : PEZ X W e (zK d) := ⟨fun k h => k _ _ h, fun Z ex tk => peI h fun σ H Q ⟨G, M, δ, w, a, h⟩ => h v H G M a.here (r G)⟩
theorem z_int {i : Int} {j : Nat} : PEZ X W (.Constant (.int i) j pos) (zK (.int i)) := z_k pe_int fun _ => .int i
theorem z_bl {b : Bool} {j : Nat} : PEZ X W (.Constant (.bool b) j pos) (zK (.bl b)) := z_k pe_bl fun _ => .bl b
theorem z_non {j : Nat} : PEZ X W (.Constant .none j pos) (zK .non) := z_k pe_non fun _ => .non
theorem z_str {x : Str} {j : Nat} : PEZ X W (.Constant (.str x) j pos) (zK (.str x)) := z_k pe_str fun _ => .str x
theorem z_globS {x y : Str} {t : Tok} (hm : X.mg x = some (.str y t)) (hg : Gl X x := by rfl) (hd : (x == ("__debug__" : Str)) = false := by decide) : PEZ X W (.Name x pos) (zK (.str y)) := z_k (pe_glob (v := .str y) hg hm ⟨_, rfl⟩ hd) fun _ => .str y
end

/-! ### arguments, displays -/
def zNil : TAZ ω := fun _ w Q _ => Q [] w
def zCons (ta : TEZ ω) (tr : TAZ ω) : TAZ ω := fun δ w Q E => ta δ w (fun x w1 => tr δ w1 (fun l w2 => Q (x :: l) w2) E) E
def zTup (ta : TAZ ω) : TEZ ω := fun δ w Q E => ta δ w (fun l w1 => l.length ≤ 100000 ∧ Q (.tup l) w1) E
def zLst (ta : TAZ ω) : TAZ ω := fun δ w Q E => ta δ w (fun l w1 => l.length ≤ 100000 ∧ Q l w1) E
/-- a new list, standing still from now on -/
def zFz (ta : TAZ ω) : TEZ ω := fun δ w Q E => ta δ w (fun l w1 => Q (.lst l) w1) E
section
variable {X : Cx} {W : Wp ω} {pos : Pos} {e : Expr} {es : List Expr} {ta te : TEZ ω} {tr t : TAZ ω}
theorem sz1 {n : Nat} (h : n ≤ 100000) : n ≤ sizeLine := Nat.le_trans h (by rw [sizeLine_eq]; decide)
theorem z_nil : PAZ X W [] zNil := ⟨fun k h => k _ _ h, fun Z ex tk => paI pa_nil fun σ H Q ⟨G, M, δ, w, a, h⟩ => h [] H G M a.here .nil⟩
theorem z_cons (ha : PEZ X W e ta) (hr : PAZ X W es tr) (hs : starEach (e :: es) X.env = (false, eval e X.env) :: starEach es X.env := by rfl) : PAZ X W (e :: es) (zCons ta tr) :=
  ⟨fun k h => ha.mo (fun _ _ h1 => hr.mo (fun _ _ h2 => k _ _ h2) h1) h, fun Z ex tk => paI (pa_cons (ha.run Z ex tk) (hr.run Z ex tk) hs) fun σ H Q ⟨G, M, δ, w, a, h⟩ =>
    ⟨G, M, δ, w, a, ha.mo (fun d w1 h1 v H1 G1 M1 o1 r1 => ⟨G1, M1, δ, w1, a.go o1, hr.mo (fun l w2 h2 vs H2 G2 M2 o2 r2 => h2 (v :: vs) H2 G2 M2 (o1.tr o2) (.cons (r1.up o2.nx.gg) r2)) h1⟩) h⟩⟩
theorem newOf {K : PySem.W.Frag} {W : Wp ω} {Z : Zx} {σ : L2.St} {H G M : Hp} {δ : List Sl} {w : ω} (a : SR K W Z σ H G M δ w) {p : Addr} (h : H p = none) : Z.H0 p = none ∧ ∀ (j : Nat) (m : List D), δ[j]? = some (Sl.own m) → σ[j]? ≠ some (some (V.ref p)) := by
  refine ⟨a.nx.back a.pt.mh h, fun j m e z => ?_⟩
  obtain ⟨p', vs, h1, h2, _⟩ := a.sl j _ e
  rw [z] at h1
  cases h1
  rw [h] at h2
  cases h2
theorem Go.new {W : Wp ω} {H G M H' G' M' : Hp} {w : ω} (a : Go W H G M H' G' M' w) {p : Addr} {o : HO} (h : H' p = none) : Go W H G M (upd H' p o) (upd G' p o) M' w := ⟨a.pt.new h, a.nx.tr (Nx.new a.pt h) a.pt.mh⟩
theorem Go.ext {W : Wp ω} {H G M H' G' M' : Hp} {w : ω} (a : Go W H G M H' G' M' w) {p : Addr} {o : HO} (h : H' p = none) : Ext G' (upd G' p o) := Ext.new (a.pt.gh.none' h)
/-- a list of our own laid at p: the state knows nothing of it -/
theorem Go.laid {W : Wp ω} {H G M H' G' M' : Hp} {w : ω} (a : Go W H G M H' G' M' w) {p : Addr} {o : HO} (h : H' p = none) : Go W H G M (upd H' p o) G' M' w := by
  have up : ∀ q x, H' q = some x → upd H' p o q = some x := fun q x e => by rw [upd_ne (ne_of_none e h)]; exact e
  exact ⟨⟨fun q x e => up q x (a.pt.gh q x e), fun q x e => up q x (a.pt.mh q x e), a.pt.dj, a.pt.wd⟩, ⟨a.nx.gg, fun q x e m => up q x (a.nx.fr q x e m), a.nx.gn, a.nx.mn, a.nx.m0⟩⟩
theorem NewAt.of {W : Wp ω} {H G M H' G' M' : Hp} {w : ω} (a : Go W H G M H' G' M' w) (b : Ext M H) {p : Addr} {vs : List V} (h : H' p = none) : NewAt H (upd H' p (.lst vs)) G' M' p vs := ⟨a.nx.back a.pt.mh h, upd_same, a.pt.gh.none' h, a.pt.mh.none' h⟩
/-- what is new stands still from now on -/
theorem Go.still {W : Wp ω} {H G M H' G' M' : Hp} {w : ω} (a : Go W H G M H' G' M' w) {p : Addr} {vs : List V} (n : NewAt H H' G' M' p vs) : Go W H G M H' (upd G' p (.lst vs)) M' w ∧ Ext G' (upd G' p (.lst vs)) := by
  obtain ⟨n0, n1, n2, n3⟩ := n
  have gg : Ext G' (upd G' p (.lst vs)) := Ext.new n2
  have cs : ∀ q x, upd G' p (.lst vs) q = some x → (q = p ∧ x = .lst vs) ∨ G' q = some x := fun q x e => by
    by_cases z : q = p
    · subst z; rw [upd_same] at e; cases e; exact .inl ⟨rfl, rfl⟩
    · rw [upd_ne z] at e; exact .inr e
  refine ⟨⟨⟨fun q x e => ?_, a.pt.mh, fun q x e => ?_, W.mono gg a.pt.wd⟩, ⟨a.nx.gg.tr gg, a.nx.fr, fun q x e e' => ?_, a.nx.mn, a.nx.m0⟩⟩, gg⟩
  · rcases cs q x e with ⟨rfl, rfl⟩ | e
    · exact n1
    · exact a.pt.gh q x e
  · rcases cs q x e with ⟨rfl, rfl⟩ | e
    · exact n3
    · exact a.pt.dj q x e
  · rcases cs q x e with ⟨rfl, rfl⟩ | e
    · exact n0
    · exact a.nx.gn q x e e'
theorem z_fz (h : PFZ X W e t) : PEZ X W e (zFz t) := ⟨fun k q => h.mo (fun _ _ q1 => k _ _ q1) q, fun Z ex tk => peI (h.run Z ex tk) fun σ H Q ⟨G, M, δ, w, a, q⟩ =>
  ⟨G, M, δ, w, a, h.mo (fun l w1 q1 p vs H1 G1 M1 o1 r1 n1 => by
    obtain ⟨a2, g2⟩ := o1.still n1
    exact q1 (.ref p) H1 _ M1 a2 (.lst upd_same (r1.up g2))) q⟩⟩
theorem z_tup {j : Nat} (h : PAZ X W es t) : PEZ X W (.Tuple es j pos) (zTup t) := ⟨fun k q => h.mo (fun _ _ ⟨q0, q1⟩ => ⟨q0, k _ _ q1⟩) q, fun Z ex tk => peI (pe_tup (h.run Z ex tk)) fun σ H Q ⟨G, M, δ, w, a, q⟩ =>
  ⟨G, M, δ, w, a, h.mo (fun l w1 ⟨q0, q1⟩ vs H1 G1 M1 o1 r1 => ⟨sz1 (by rw [r1.len]; exact q0), fun p hp =>
    q1 (.ref p) _ _ _ (o1.new (o := .tup vs) hp) (.tup (SqT.of upd_same) (r1.up (o1.ext hp)))⟩) q⟩⟩
theorem z_lst (h : PAZ X W es t) : PFZ X W (.List es pos) (zLst t) := ⟨fun k q => h.mo (fun _ _ ⟨q0, q1⟩ => ⟨q0, k _ _ q1⟩) q, fun Z ex tk => peI (pe_lst (h.run Z ex tk)) fun σ H Q ⟨G, M, δ, w, a, q⟩ =>
  ⟨G, M, δ, w, a, h.mo (fun l w1 ⟨q0, q1⟩ vs H1 G1 M1 o1 r1 => ⟨sz1 (by rw [r1.len]; exact q0), fun p hp => q1 p vs _ _ _ (o1.laid hp) r1 (.of o1 a.pt.mh hp)⟩) q⟩⟩
end

/-! ### operators -/
abbrev OpD := D → D → (D → Prop) → Prop
/-- the operator's rule over values, read over plain data -/
structure Lnd (K : PySem.W.Frag) (rv : R2) (r : OpD) : Prop where
  mo : ∀ {x y : D} {q q' : D → Prop}, (∀ d, q d → q' d) → r x y q → r x y q'
  go : ∀ (H G : Hp) (x y : V) (dx dy : D) (q : D → Prop) (Q : VK), Ext G H → Rep K G x dx → Rep K G y dy → r dx dy q →
    (∀ d v, q d → Rep K G v d → Q v H) → (∀ l vs p, q (.tup l) → H p = none → RepL K G vs l → Q (.ref p) (upd H p (.tup vs))) → rv x y H Q
def zOp (r : OpD) (ta tb : TEZ ω) : TEZ ω := fun δ w Q E => ta δ w (fun x w1 => tb δ w1 (fun y w2 => r x y fun z => Q z w2) E) E
section
variable {X : Cx} {W : Wp ω} {pos : Pos} {a b c : Expr} {ta tb tc : TEZ ω} {rv : R2} {r : OpD}
theorem zop_mo (hl : Lnd X.K rv r) (ha : PEZ X W a ta) (hb : PEZ X W b tb) : Mo (zOp r ta tb) := fun k h => ha.mo (fun _ _ h1 => hb.mo (fun _ _ h2 => hl.mo (fun d q => k d _ q) h2) h1) h
theorem zop_core (hl : Lnd X.K rv r) (ha : PEZ X W a ta) (hb : PEZ X W b tb) {Z : Zx} {ex : Nat → List Sl → ω → Prop} {σ : L2.St} {H : Hp} {Q : VK} (h : liE X.K W Z ex (zOp r ta tb) σ H Q) : tOp rv (liE X.K W Z ex ta) (liE X.K W Z ex tb) σ H Q := by
  obtain ⟨G, M, δ, w, a0, h⟩ := h
  exact ⟨G, M, δ, w, a0, ha.mo (fun d w1 h1 v H1 G1 M1 o1 r1 => ⟨G1, M1, δ, w1, a0.go o1, hb.mo (fun d2 w2 h2 v2 H2 G2 M2 o2 r2 =>
    hl.go H2 G2 v v2 d d2 _ Q o2.pt.gh (r1.up o2.nx.gg) r2 h2 (fun d3 v3 q3 r3 => q3 v3 H2 G2 M2 (o1.tr o2) r3) (fun l vs p q3 hp r3 =>
      q3 (.ref p) _ _ _ ((o1.tr o2).new hp) (.tup (SqT.of upd_same) (r3.up (o2.ext hp))))) h1⟩) h⟩
theorem z_op {op : Operator} (ho : OpR X (binaryOp op) rv) (hl : Lnd X.K rv r) (ha : PEZ X W a ta) (hb : PEZ X W b tb) : PEZ X W (.BinOp a op b pos) (zOp r ta tb) :=
  ⟨zop_mo hl ha hb, fun Z ex tk => peI (pe_op ho (ha.run Z ex tk) (hb.run Z ex tk)) fun σ H Q h => zop_core hl ha hb h⟩
theorem z_ix (ho : IxR X rv) (hl : Lnd X.K rv r) (ha : PEZ X W a ta) (hb : PEZ X W b tb) (hs : PlainIx b := by exact fun _ _ => rfl) : PEZ X W (.Subscript a b pos) (zOp r ta tb) :=
  ⟨zop_mo hl ha hb, fun Z ex tk => peI (pe_ix ho (ha.run Z ex tk) (hb.run Z ex tk) hs) fun σ H Q h => zop_core hl ha hb h⟩
/-- a comparison as a value, as a test -/
theorem z_cmp {op : CmpOp} (ho : OpR X (compareOp op) rv) (hl : Lnd X.K rv r) (ha : PEZ X W a ta) (hb : PEZ X W b tb) (hm : behindInMarks op b = false := by first | exact nomark _ | rfl) : PEZ X W (.Compare a [op] [b] pos) (zOp r ta tb) :=
  ⟨zop_mo hl ha hb, fun Z ex tk => peI (pe_cmpR ho (ha.run Z ex tk) (hb.run Z ex tk) hm) fun σ H Q h => zop_core hl ha hb h⟩
def zB (te : TEZ ω) : TTZ ω := fun δ w Q E => te δ w (fun d w1 => match d with | .bl b => Q b w1 | _ => False) E
theorem zB_mo {te : TEZ ω} (h : Mo te) : Mo (zB te) := fun k q => h (fun d w1 q1 => by
  cases d with
  | bl b => exact k b w1 q1
  | _ => exact False.elim q1) q
theorem zB_core {te : TEZ ω} (h : Mo te) {K : PySem.W.Frag} {Z : Zx} {ex : Nat → List Sl → ω → Prop} {σ : L2.St} {H : Hp} {Q : Bool → Hp → Prop} (q : liT K W Z ex (zB te) σ H Q) : liE K W Z ex te σ H fun x H1 => ∃ k, x = .bl k ∧ Q k H1 := by
  obtain ⟨G, M, δ, w, a, q⟩ := q
  refine ⟨G, M, δ, w, a, h (fun d w1 q1 v H1 G1 M1 o1 r1 => ?_) q⟩
  cases d with
  | bl b =>
    cases r1
    exact ⟨b, rfl, q1 H1 G1 M1 o1⟩
  | _ => exact False.elim q1
theorem z_tcmp {op : CmpOp} (ho : OpR X (compareOp op) rv) (hl : Lnd X.K rv r) (ha : PEZ X W a ta) (hb : PEZ X W b tb) (hm : behindInMarks op b = false := by first | exact nomark _ | rfl) : PTZ X W (.Compare a [op] [b] pos) (zB (zOp r ta tb)) :=
  ⟨zB_mo (te := zOp r ta tb) (zop_mo hl ha hb), fun Z ex tk => ptI (pt_cmpR ho (ha.run Z ex tk) (hb.run Z ex tk) hm) fun σ H Q h => zop_core hl ha hb (zB_core (te := zOp r ta tb) (zop_mo hl ha hb) h)⟩
/-- any expression that gives a truth -/
theorem z_tval (ha : PEZ X W a ta) (he : ∀ whole, isTrue a X.env whole = (do let v ← whole; standAt a.pos; holding [v] (truthy v)) := by intro _; rfl) : PTZ X W a (zB ta) :=
  ⟨zB_mo (te := ta) ha.mo, fun Z ex tk => ptI (pt_val (ha.run Z ex tk) he) fun σ H Q h => zB_core (te := ta) ha.mo h⟩
/-- a op b op c -/
def zCh (r r' : OpD) (ta tb tc : TEZ ω) : TEZ ω := fun δ w Q E => ta δ w (fun x w1 => tb δ w1 (fun y w2 => r x y fun z => match z with
  | .bl k => (k = true → tc δ w2 (fun u w3 => r' y u fun z' => Q z' w3) E) ∧ (k = false → Q (.bl false) w2)
  | _ => False) E) E
theorem zch_mo {rv rv' : R2} {r r' : OpD} (hl : Lnd X.K rv r) (hl' : Lnd X.K rv' r') (ha : PEZ X W a ta) (hb : PEZ X W b tb) (hc : PEZ X W c tc) : Mo (zCh r r' ta tb tc) := fun k h => ha.mo (fun _ _ h1 => hb.mo (fun _ _ h2 => hl.mo (fun d q => by
  cases d with
  | bl b => exact ⟨fun e => hc.mo (fun _ _ h3 => hl'.mo (fun d q => k d _ q) h3) (q.1 e), fun e => k _ _ (q.2 e)⟩
  | _ => exact q) h2) h1) h
theorem zch_core {rv rv' : R2} {r r' : OpD} (hl : Lnd X.K rv r) (hl' : Lnd X.K rv' r') (ha : PEZ X W a ta) (hb : PEZ X W b tb) (hc : PEZ X W c tc) {Z : Zx} {ex : Nat → List Sl → ω → Prop} {σ : L2.St} {H : Hp} {Q : VK} (h : liE X.K W Z ex (zCh r r' ta tb tc) σ H Q) :
    tChain rv rv' (liE X.K W Z ex ta) (liE X.K W Z ex tb) (liE X.K W Z ex tc) σ H Q := by
  obtain ⟨G, M, δ, w, a0, h⟩ := h
  exact ⟨G, M, δ, w, a0, ha.mo (fun d w1 h1 v H1 G1 M1 o1 r1 => ⟨G1, M1, δ, w1, a0.go o1, hb.mo (fun d2 w2 h2 v2 H2 G2 M2 o2 r2 =>
    hl.go H2 G2 v v2 d d2 _ _ o2.pt.gh (r1.up o2.nx.gg) r2 h2 (fun d3 v3 q3 r3 => by
      cases d3 with
      | bl k =>
        cases r3
        refine ⟨k, rfl, ?_⟩
        cases k with
        | true =>
          rw [if_pos rfl]
          exact ⟨G2, M2, δ, w2, a0.go (o1.tr o2), hc.mo (fun d4 w4 h4 v4 H4 G4 M4 o4 r4 => hl'.go H4 G4 v2 v4 d2 d4 _ Q o4.pt.gh (r2.up o4.nx.gg) r4 h4 (fun d5 v5 q5 r5 => q5 v5 H4 G4 M4 ((o1.tr o2).tr o4) r5) (fun l vs p q5 hp r5 =>
            q5 (.ref p) _ _ _ (((o1.tr o2).tr o4).new hp) (.tup (SqT.of upd_same) (r5.up (o4.ext hp))))) (q3.1 rfl)⟩
        | false =>
          rw [if_neg Bool.false_ne_true]
          exact q3.2 rfl (.bl false) H2 G2 M2 (o1.tr o2) (.bl false)
      | _ => exact False.elim q3) (fun l vs p q3 hp r3 => False.elim q3)) h1⟩) h⟩
theorem z_ch {op op' : CmpOp} {rv' : R2} {r' : OpD} (ho : OpR X (compareOp op) rv) (ho' : OpR X (compareOp op') rv') (hl : Lnd X.K rv r) (hl' : Lnd X.K rv' r') (ha : PEZ X W a ta) (hb : PEZ X W b tb) (hc : PEZ X W c tc)
    (hm : lastMarks [op, op'] [b, c] = false := by with_unfolding_all rfl) : PEZ X W (.Compare a [op, op'] [b, c] pos) (zCh r r' ta tb tc) :=
  ⟨zch_mo hl hl' ha hb hc, fun Z ex tk => peI (pe_chain ho ho' (ha.run Z ex tk) (hb.run Z ex tk) (hc.run Z ex tk) hm) fun σ H Q h => zch_core hl hl' ha hb hc h⟩
theorem z_tch {op op' : CmpOp} {rv' : R2} {r' : OpD} (ho : OpR X (compareOp op) rv) (ho' : OpR X (compareOp op') rv') (hl : Lnd X.K rv r) (hl' : Lnd X.K rv' r') (ha : PEZ X W a ta) (hb : PEZ X W b tb) (hc : PEZ X W c tc)
    (hm : lastMarks [op, op'] [b, c] = false := by with_unfolding_all rfl) : PTZ X W (.Compare a [op, op'] [b, c] pos) (zB (zCh r r' ta tb tc)) :=
  ⟨zB_mo (te := zCh r r' ta tb tc) (zch_mo hl hl' ha hb hc), fun Z ex tk => ptI (pt_chain ho ho' (ha.run Z ex tk) (hb.run Z ex tk) (hc.run Z ex tk) hm) fun σ H Q h => zch_core hl hl' ha hb hc (zB_core (te := zCh r r' ta tb tc) (zch_mo hl hl' ha hb hc) h)⟩
/-- one operand -/
structure Lnd1 (K : PySem.W.Frag) (rv : V → Hp → VK → Prop) (r : D → (D → Prop) → Prop) : Prop where
  mo : ∀ {x : D} {q q' : D → Prop}, (∀ d, q d → q' d) → r x q → r x q'
  go : ∀ (H G : Hp) (x : V) (dx : D) (q : D → Prop) (Q : VK), Ext G H → Rep K G x dx → r dx q → (∀ d v, q d → Rep K G v d → Q v H) → rv x H Q
def zUn (r : D → (D → Prop) → Prop) (ta : TEZ ω) : TEZ ω := fun δ w Q E => ta δ w (fun x w1 => r x fun z => Q z w1) E
theorem z_un {op : UnaryOp} {rv : V → Hp → VK → Prop} {r : D → (D → Prop) → Prop} (ho : UnR X (unaryOp op) rv) (hl : Lnd1 X.K rv r) (ha : PEZ X W a ta) : PEZ X W (.UnaryOp op a pos) (zUn r ta) :=
  ⟨fun k h => ha.mo (fun _ _ h1 => hl.mo (fun d q => k d _ q) h1) h, fun Z ex tk => peI (pe_un ho (ha.run Z ex tk)) fun σ H Q ⟨G, M, δ, w, a0, h⟩ =>
    ⟨G, M, δ, w, a0, ha.mo (fun d w1 h1 v H1 G1 M1 o1 r1 => hl.go H1 G1 v d _ Q o1.pt.gh r1 h1 fun d3 v3 q3 r3 => q3 v3 H1 G1 M1 o1 r3) h⟩⟩
end

/-! ### and, or, not, if-else -/
def zAnd (t u : TTZ ω) : TTZ ω := fun δ w Q E => t δ w (fun b w1 => (b = true → u δ w1 Q E) ∧ (b = false → Q false w1)) E
def zOr (t u : TTZ ω) : TTZ ω := fun δ w Q E => t δ w (fun b w1 => (b = true → Q true w1) ∧ (b = false → u δ w1 Q E)) E
def zNot (t : TTZ ω) : TTZ ω := fun δ w Q E => t δ w (fun b w1 => Q (!b) w1) E
def zAndV (t u : TEZ ω) : TEZ ω := fun δ w Q E => t δ w (fun d w1 => match d with | .bl b => (b = true → u δ w1 Q E) ∧ (b = false → Q (.bl false) w1) | _ => False) E
def zOrV (t u : TEZ ω) : TEZ ω := fun δ w Q E => t δ w (fun d w1 => match d with | .bl b => (b = true → Q (.bl true) w1) ∧ (b = false → u δ w1 Q E) | _ => False) E
def zNotV (t : TEZ ω) : TEZ ω := fun δ w Q E => t δ w (fun d w1 => match d with | .bl b => Q (.bl (!b)) w1 | _ => False) E
def zIfE (t : TTZ ω) (ta tb : TEZ ω) : TEZ ω := fun δ w Q E => t δ w (fun b w1 => (b = true → ta δ w1 Q E) ∧ (b = false → tb δ w1 Q E)) E
section
variable {X : Cx} {W : Wp ω} {pos : Pos} {a b c : Expr} {rest : List Expr} {t u : TTZ ω} {ta tb : TEZ ω}
theorem z_and1 (h : PTZ X W a t) : PWZ X W (.BoolOp .And [a] pos) t := ⟨h.mo, fun Z ex tk => pw_and1 (h.run Z ex tk)⟩
theorem z_or1 (h : PTZ X W a t) : PWZ X W (.BoolOp .Or [a] pos) t := ⟨h.mo, fun Z ex tk => pw_or1 (h.run Z ex tk)⟩
theorem z_and (h : PTZ X W a t) (g : PWZ X W (.BoolOp .And (b :: rest) pos) u) : PWZ X W (.BoolOp .And (a :: b :: rest) pos) (zAnd t u) :=
  ⟨fun k q => h.mo (fun _ _ q1 => ⟨fun e => g.mo k (q1.1 e), fun e => k _ _ (q1.2 e)⟩) q, fun Z ex tk => pwI (pw_and (h.run Z ex tk) (g.run Z ex tk)) fun σ H Q ⟨G, M, δ, w, a0, q⟩ =>
    ⟨G, M, δ, w, a0, h.mo (fun k w1 q1 H1 G1 M1 o1 => by
      cases k with
      | true =>
        rw [if_pos rfl]
        exact ⟨G1, M1, δ, w1, a0.go o1, g.mo (fun k2 w2 q2 H2 G2 M2 o2 => q2 H2 G2 M2 (o1.tr o2)) (q1.1 rfl)⟩
      | false =>
        rw [if_neg Bool.false_ne_true]
        exact q1.2 rfl H1 G1 M1 o1) q⟩⟩
theorem z_or (h : PTZ X W a t) (g : PWZ X W (.BoolOp .Or (b :: rest) pos) u) : PWZ X W (.BoolOp .Or (a :: b :: rest) pos) (zOr t u) :=
  ⟨fun k q => h.mo (fun _ _ q1 => ⟨fun e => k _ _ (q1.1 e), fun e => g.mo k (q1.2 e)⟩) q, fun Z ex tk => pwI (pw_or (h.run Z ex tk) (g.run Z ex tk)) fun σ H Q ⟨G, M, δ, w, a0, q⟩ =>
    ⟨G, M, δ, w, a0, h.mo (fun k w1 q1 H1 G1 M1 o1 => by
      cases k with
      | true =>
        rw [if_pos rfl]
        exact q1.1 rfl H1 G1 M1 o1
      | false =>
        rw [if_neg Bool.false_ne_true]
        exact ⟨G1, M1, δ, w1, a0.go o1, g.mo (fun k2 w2 q2 H2 G2 M2 o2 => q2 H2 G2 M2 (o1.tr o2)) (q1.2 rfl)⟩) q⟩⟩
theorem z_pw (h : PWZ X W a t) : PTZ X W a t := ⟨h.mo, fun Z ex tk => (h.run Z ex tk).pt⟩
theorem z_not (h : PTZ X W a t) : PTZ X W (.UnaryOp .Not a pos) (zNot t) :=
  ⟨fun k q => h.mo (fun _ _ q1 => k _ _ q1) q, fun Z ex tk => ptI (pt_not (h.run Z ex tk)) fun σ H Q ⟨G, M, δ, w, a0, q⟩ => ⟨G, M, δ, w, a0, h.mo (fun k w1 q1 H1 G1 M1 o1 => q1 H1 G1 M1 o1) q⟩⟩
theorem blMo {Q Q' : D → ω → Prop} {w : ω} {f g : Bool → ω → Prop} {d : D} (k : ∀ b, f b w → g b w) (h : match d with | .bl b => f b w | _ => False) : match d with | .bl b => g b w | _ => False := by
  cases d with
  | bl b => exact k b h
  | _ => exact h
theorem z_one {op : BoolOp} (h : PEZ X W a ta) : PEZ X W (.BoolOp op [a] pos) ta := ⟨h.mo, fun Z ex tk => pe_one (h.run Z ex tk)⟩
theorem z_andV (h : PEZ X W a ta) (g : PEZ X W (.BoolOp .And (b :: rest) pos) tb) : PEZ X W (.BoolOp .And (a :: b :: rest) pos) (zAndV ta tb) :=
  ⟨fun k q => h.mo (fun d w1 q1 => by
    cases d with
    | bl b => exact ⟨fun e => g.mo k (q1.1 e), fun e => k _ _ (q1.2 e)⟩
    | _ => exact q1) q, fun Z ex tk => peI (pe_and (h.run Z ex tk) (g.run Z ex tk)) fun σ H Q ⟨G, M, δ, w, a0, q⟩ =>
    ⟨G, M, δ, w, a0, h.mo (fun d w1 q1 v H1 G1 M1 o1 r1 => by
      cases d with
      | bl k =>
        cases r1
        refine ⟨k, rfl, ?_⟩
        cases k with
        | true =>
          rw [if_pos rfl]
          exact ⟨G1, M1, δ, w1, a0.go o1, g.mo (fun d2 w2 q2 v2 H2 G2 M2 o2 r2 => q2 v2 H2 G2 M2 (o1.tr o2) r2) (q1.1 rfl)⟩
        | false =>
          rw [if_neg Bool.false_ne_true]
          exact q1.2 rfl (.bl false) H1 G1 M1 o1 (.bl false)
      | _ => exact False.elim q1) q⟩⟩
theorem z_orV (h : PEZ X W a ta) (g : PEZ X W (.BoolOp .Or (b :: rest) pos) tb) : PEZ X W (.BoolOp .Or (a :: b :: rest) pos) (zOrV ta tb) :=
  ⟨fun k q => h.mo (fun d w1 q1 => by
    cases d with
    | bl b => exact ⟨fun e => k _ _ (q1.1 e), fun e => g.mo k (q1.2 e)⟩
    | _ => exact q1) q, fun Z ex tk => peI (pe_or (h.run Z ex tk) (g.run Z ex tk)) fun σ H Q ⟨G, M, δ, w, a0, q⟩ =>
    ⟨G, M, δ, w, a0, h.mo (fun d w1 q1 v H1 G1 M1 o1 r1 => by
      cases d with
      | bl k =>
        cases r1
        refine ⟨k, rfl, ?_⟩
        cases k with
        | true =>
          rw [if_pos rfl]
          exact q1.1 rfl (.bl true) H1 G1 M1 o1 (.bl true)
        | false =>
          rw [if_neg Bool.false_ne_true]
          exact ⟨G1, M1, δ, w1, a0.go o1, g.mo (fun d2 w2 q2 v2 H2 G2 M2 o2 r2 => q2 v2 H2 G2 M2 (o1.tr o2) r2) (q1.2 rfl)⟩
      | _ => exact False.elim q1) q⟩⟩
theorem z_notV (h : PEZ X W a ta) : PEZ X W (.UnaryOp .Not a pos) (zNotV ta) :=
  ⟨fun k q => h.mo (fun d w1 q1 => by
    cases d with
    | bl b => exact k _ _ q1
    | _ => exact q1) q, fun Z ex tk => peI (pe_not (h.run Z ex tk)) fun σ H Q ⟨G, M, δ, w, a0, q⟩ =>
    ⟨G, M, δ, w, a0, h.mo (fun d w1 q1 v H1 G1 M1 o1 r1 => by
      cases d with
      | bl k =>
        cases r1
        exact ⟨k, rfl, q1 (.bl (!k)) H1 G1 M1 o1 (.bl (!k))⟩
      | _ => exact False.elim q1) q⟩⟩
theorem z_ifE (hc : PTZ X W c t) (h : PEZ X W a ta) (g : PEZ X W b tb) : PEZ X W (.IfExp c a b pos) (zIfE t ta tb) :=
  ⟨fun k q => hc.mo (fun _ _ q1 => ⟨fun e => h.mo k (q1.1 e), fun e => g.mo k (q1.2 e)⟩) q, fun Z ex tk => peI (pe_ifExp (hc.run Z ex tk) (h.run Z ex tk) (g.run Z ex tk)) fun σ H Q ⟨G, M, δ, w, a0, q⟩ =>
    ⟨G, M, δ, w, a0, hc.mo (fun k w1 q1 H1 G1 M1 o1 => by
      cases k with
      | true =>
        rw [if_pos rfl]
        exact ⟨G1, M1, δ, w1, a0.go o1, h.mo (fun d2 w2 q2 v2 H2 G2 M2 o2 r2 => q2 v2 H2 G2 M2 (o1.tr o2) r2) (q1.1 rfl)⟩
      | false =>
        rw [if_neg Bool.false_ne_true]
        exact ⟨G1, M1, δ, w1, a0.go o1, g.mo (fun d2 w2 q2 v2 H2 G2 M2 o2 r2 => q2 v2 H2 G2 M2 (o1.tr o2) r2) (q1.2 rfl)⟩) q⟩⟩
end
end Z

namespace Z
open PySem PySem.Spec PyProof.Rows L2
/-! ### range with bounds of any size -/
theorem turn_long {P : Program} {w : World} {K : PySem.W.Frag} {tg : Expr} (it : Addr) (lo : Int) (n : Nat) : Turn P w K tg (Itr lo n) [it] it (fun i h => IsLongIter h it (lo + (i : Nat) * 1) ((n : Int) - (i : Nat)) 1) := by
  refine ⟨by simp, fun i h st b hb => ?_, fun i h h' st k => k it (by simp) _ st, ?_, ?_, fun _ _ _ _ _ st h => wpAny_pyIter_longiter st h⟩
  · have e : b = it := by simpa using hb
    subst e
    refine ⟨_, st, fun v z => ?_⟩
    have z' : Data.fields _ = Data.cell v := z
    cases z'
  · intro X hP hw hK hc i pins s σ H E I hf st hg
    subst hP hw hK
    obtain ⟨f0, f1, f2, f3, f4, f5⟩ := hf it (by simp)
    refine (Walks.longrange (prog := X.prog) (w := X.w) (I.ok.hd hc) it lo 1 n).item i s _ _ hg st fun v h' tk hv st' kk => ?_
    obtain ⟨t, rfl⟩ := hv
    have I1 := I.turned (t' := tk) (h' := h') (fun b o hb e => kk b o (by simpa using hb) e) f0 f1 f3 f4 f5
    refine ⟨_, rfl, go_of (n := "longrange_iterator") st' rfl rfl (by decide) ⟨.int (lo + i), H, I1, ⟨t, by rw [Int.mul_one]⟩, ⟨rfl, rfl⟩, st', fun b hb => (hf b hb).1⟩⟩
  · intro X hP hw hK hc i pins s σ H E I hf st hg
    subst hP hw hK
    obtain ⟨f0, f1, f2, f3, f4, f5⟩ := hf it (by simp)
    exact wpAny_pyNext_long_end (I.ok.hd hc) st (by have : n ≤ i := hg; omega) fun h' eb => ⟨rfl, I.turned (t' := s.toks) (fun b o hb e => eb b o hb e) f0 f1 f3 f4 f5⟩
section
variable {X : Cx} {tg : Expr}
theorem rangeB_it {pins : List (Addr × Obj)} {σ : L2.St} {H : Hp} {s : Shared} {R : It → Hp → Prop} {E : Value → Shared → Prop} {lo hi : Int} {t u v : Tok} {tk : Nat} (I : Inv X pins σ H s)
    (q : R (Itr lo (hi - lo).toNat) H) : wpAny (model X.prog X.w) X.A (pyIter (.ref s.heap.objs.size)) (PIE X pins σ tg R) E { s with heap := s.heap.push { cls := .type "range", data := .fields #[.int lo t, .int hi u, .int 1 v] }, toks := tk } := by
  have I1 := I.kept (h' := s.heap.push { cls := .type "range", data := .fields #[.int lo t, .int hi u, .int 1 v] }) (t' := tk) fun b o e => Heap.get?_push_of_some _ e
  have e1 : lo + ((0 : Nat) : Int) * 1 = lo := by simp
  have e2 : (((hi - lo).toNat : Nat) : Int) - ((0 : Nat) : Int) = Builtin.Range.rangeSize lo hi 1 := by rw [rangeSize_one]; split <;> omega
  cases hs : Builtin.Range.small lo hi 1 with
  | true =>
    refine wpAny_pyIter_range (IsRange.new ..) hs ?_
    refine ⟨_, [_], _, _, H, rfl, I1.kept (t' := tk) fun b o e => Heap.get?_push_of_some _ e, turn_range _ lo (hi - lo).toNat, ?_, fun b hb => ?_, q⟩
    · show IsRangeIter _ _ (lo + ((0 : Nat) : Int) * 1) ((((hi - lo).toNat : Nat) : Int) - ((0 : Nat) : Int)) 1
      rw [e1, e2]
      exact Heap.get?_push_size _ rfl
    · have e := List.mem_singleton.mp hb
      subst e
      exact I1.fpOk (Nat.le_refl _) (I1.hok.fresh (Nat.le_refl _))
  | false =>
    refine wpAny_pyIter_longrange (IsRange.new ..) hs ?_
    refine ⟨_, [_], _, _, H, rfl, I1.kept (t' := tk) fun b o e => Heap.get?_push_of_some _ e, turn_long _ lo (hi - lo).toNat, ?_, fun b hb => ?_, q⟩
    · show IsLongIter _ _ (lo + ((0 : Nat) : Int) * 1) ((((hi - lo).toNat : Nat) : Int) - ((0 : Nat) : Int)) 1
      rw [e1, e2]
      exact Heap.get?_push_size _ rfl
    · have e := List.mem_singleton.mp hb
      subst e
      exact I1.fpOk (Nat.le_refl _) (I1.hok.fresh (Nat.le_refl _))
def iRgB1 (ta : TA) : TI := fun σ H R => ta σ H fun vs H1 => ∃ j : Int, vs = [.int j] ∧ R (Itr 0 j.toNat) H1
def iRgB2 (ta : TA) : TI := fun σ H R => ta σ H fun vs H1 => ∃ i j : Int, vs = [.int i, .int j] ∧ R (Itr i (j - i).toNat) H1
theorem pi_rgB1 {a : Expr} {ta : TA} {p pos : Pos} (hg : Gl X "range") (hm : X.mg "range" = none) (ha : PA X [a] ta) (hs : starEach [a] X.env = [(false, eval a X.env)]) : PI X tg (.Call (.Name "range" p) [a] [] pos) (iRgB1 ta) := by
  refine ⟨fun pins s σ H R I h => Call_ (ld_blt I hg hm boot_range (PyProof.Rows.callWith_type1 (thn (ha.run pos pins s σ H _ I h) fun us s1 ⟨vs, H1, I1, r1, q1⟩ => ?_) hs rfl))⟩
  obtain ⟨j, rfl, q⟩ := q1
  rcases r1 with _ | ⟨⟨t, rfl⟩, _ | _⟩
  exact call_range_1 (rangeB_it I1 (by simpa using q))
theorem pi_rgB2 {a b : Expr} {ta : TA} {p pos : Pos} (hg : Gl X "range") (hm : X.mg "range" = none) (ha : PA X [a, b] ta) (hs : starEach [a, b] X.env = [(false, eval a X.env), (false, eval b X.env)]) (hs2 : starEach [b] X.env = [(false, eval b X.env)]) :
    PI X tg (.Call (.Name "range" p) [a, b] [] pos) (iRgB2 ta) := by
  refine ⟨fun pins s σ H R I h => Call_ (ld_blt I hg hm boot_range (PyProof.Rows.callWith_type1 (thn (ha.run pos pins s σ H _ I h) fun us s1 ⟨vs, H1, I1, r1, q1⟩ => ?_) (by rw [hs, hs2]) (by rw [hs2]; rfl)))⟩
  obtain ⟨i, j, rfl, q⟩ := q1
  rcases r1 with _ | ⟨⟨t, rfl⟩, _ | ⟨⟨t', rfl⟩, _ | _⟩⟩
  exact call_range_2 (rangeB_it I1 q)
end
end Z

namespace Z
open PySem PySem.Spec PyProof.Rows L2
variable {ω : Type}

/-! ### statements -/
def zSeq (t u : TSZ ω) : TSZ ω := fun D δ w => t { D with nx := u D } δ w
def zNx : TSZ ω := fun D δ w => D.nx δ w
def zBk : TSZ ω := fun D δ w => D.bk δ w
def zCt : TSZ ω := fun D δ w => D.ct δ w
def zAsg (i : Nat) (te : TEZ ω) : TSZ ω := fun D δ w => te δ w (fun d w' => D.nx (δ.set i (.val d)) w') (fun e w' => D.ex e δ w')
def zOwn (i : Nat) (te : TAZ ω) : TSZ ω := fun D δ w => te δ w (fun l w' => D.nx (δ.set i (.own l)) w') (fun e w' => D.ex e δ w')
def zFrz (i : Nat) (t : TSZ ω) : TSZ ω := fun D δ w => match δ[i]? with | some (.own l) => t D (δ.set i (.val (.lst l))) w | _ => False
def zRet (te : TEZ ω) : TSZ ω := fun D δ w => te δ w (fun d w' => D.rt d w') (fun e w' => D.ex e δ w')
def zRetN : TSZ ω := fun D _ w => D.rt .non w
def zDrop (te : TEZ ω) : TSZ ω := fun D δ w => te δ w (fun _ w' => D.nx δ w') (fun e w' => D.ex e δ w')
def zIf (c : TTZ ω) (t u : TSZ ω) : TSZ ω := fun D δ w => c δ w (fun b w' => (b = true → t D δ w') ∧ (b = false → u D δ w')) (fun e w' => D.ex e δ w')
def zRaise (e : Nat) : TSZ ω := fun D δ w => D.ex e δ w
def zNever : TSZ ω := fun _ _ _ => False
def zWhile (c : TTZ ω) (t : TSZ ω) : TSZ ω := fun D δ w => ∃ I : Nat → List Sl → ω → Prop, (∃ m, I m δ w) ∧ ∀ m δ w, I m δ w → c δ w (fun b w' =>
  (b = true → t { D with nx := fun δ' w' => ∃ m', m' < m ∧ I m' δ' w', ct := fun δ' w' => ∃ m', m' < m ∧ I m' δ' w', bk := D.nx } δ w') ∧ (b = false → D.nx δ w')) (fun e w' => D.ex e δ w')
section
variable {X : Cx} {W : Wp ω} {pos : Pos} {st : Stmt} {rest : List Stmt} {t u : TSZ ω} {e : Expr} {te : TEZ ω}
theorem zb_nil : PBZ X W [] zNx := fun Z ex tk => pbI pss_nil fun D σ H ⟨Dz, _, EI, h⟩ => EI.nx _ _ h
theorem zb_cons (h : PSZ X W st t) (g : PBZ X W rest u) : PBZ X W (st :: rest) (zSeq t u) := fun Z ex tk => pbI (pss_cons (h Z ex tk) (g Z ex tk)) fun D σ H ⟨Dz, e, EI, h⟩ =>
  ⟨{ Dz with nx := u Dz }, e, ⟨fun σ' H' h' => ⟨Dz, e, EI, h'⟩, EI.bk, EI.ct, EI.rt⟩, h⟩
theorem zb_one (h : PSZ X W st t) : PBZ X W [st] t := fun Z ex tk => pss_one (h Z ex tk)
theorem z_pass : PSZ X W (.Pass pos) zNx := fun Z ex tk => psI ps_pass fun D σ H ⟨Dz, _, EI, h⟩ => EI.nx _ _ h
theorem z_break : PSZ X W (.Break pos) zBk := fun Z ex tk => psI ps_break fun D σ H ⟨Dz, _, EI, h⟩ => EI.bk _ _ h
theorem z_cont : PSZ X W (.Continue pos) zCt := fun Z ex tk => psI ps_continue fun D σ H ⟨Dz, _, EI, h⟩ => EI.ct _ _ h
theorem z_never : PSZ X W st zNever := fun Z ex tk => psI ps_never fun D σ H ⟨Dz, _, EI, G, M, δ, w, a, h⟩ => h
theorem z_set (i : Nat) {x : Str} {pos' : Pos} (he : PEZ X W e te) (hN : X.N.Nodup) (hi : X.N[i]? = some x := by rfl) (hx : Loc X.env.scope x := by first | exact Or.inl rfl | exact Or.inr rfl)
    (hs : swapsWith e (some (.Name x pos')) pos.line X.env = pure false := by rfl) (hf : X.fn x = true ∨ X.env.scope.names.lookup x = some .local := by first | exact .inl rfl | exact .inr rfl) :
    PSZ X W (.Assign [.Name x pos'] e pos) (zAsg i te) := fun Z ex tk => psI (ps_set hN hi hx (he.run Z ex tk) hs hf) fun D σ H ⟨Dz, hex, EI, G, M, δ, w, a, h⟩ => by
  subst hex
  exact ⟨G, M, δ, w, a, he.mo (fun d w1 h1 v H1 G1 M1 o1 r1 => EI.nx _ _ ⟨G1, M1, _, w1, (a.go o1).set r1, h1⟩) h⟩
theorem z_own (i : Nat) {x : Str} {pos' : Pos} {ta : TAZ ω} (he : PFZ X W e ta) (hN : X.N.Nodup) (hi : X.N[i]? = some x := by rfl) (hx : Loc X.env.scope x := by first | exact Or.inl rfl | exact Or.inr rfl)
    (hs : swapsWith e (some (.Name x pos')) pos.line X.env = pure false := by rfl) (hf : X.fn x = true ∨ X.env.scope.names.lookup x = some .local := by first | exact .inl rfl | exact .inr rfl) :
    PSZ X W (.Assign [.Name x pos'] e pos) (zOwn i ta) := fun Z ex tk => psI (ps_set hN hi hx (he.run Z ex tk) hs hf) fun D σ H ⟨Dz, hex, EI, G, M, δ, w, a, h⟩ => by
  subst hex
  exact ⟨G, M, δ, w, a, he.mo (fun l w1 h1 p vs H1 G1 M1 o1 r1 n1 => EI.nx _ _ ⟨G1, M1, _, w1, (a.go o1).setOwn n1.2.1 n1.2.2.1 n1.2.2.2 (newOf a n1.1).1 r1 (newOf a n1.1).2, h1⟩) h⟩
theorem zb_frz (i : Nat) {sts : List Stmt} (h : PBZ X W sts t) : PBZ X W sts (zFrz i t) := fun Z ex tk => pbI (h Z ex tk) fun D σ H ⟨Dz, hex, EI, G, M, δ, w, a, q⟩ => by
  unfold zFrz at q
  split at q
  · rename_i l e
    obtain ⟨G', gg, a'⟩ := a.freeze e
    exact ⟨Dz, hex, EI, G', M, _, w, a', q⟩
  · exact q.elim
theorem z_ret (he : PEZ X W e te) : PSZ X W (.Return (some e) pos) (zRet te) := fun Z ex tk => psI (ps_ret (he.run Z ex tk)) fun D σ H ⟨Dz, hex, EI, G, M, δ, w, a, h⟩ => by
  subst hex
  exact ⟨G, M, δ, w, a, he.mo (fun d w1 h1 v H1 G1 M1 o1 r1 => EI.rt v H1 G1 M1 d w1 o1.pt (a.go o1).nx r1 h1) h⟩
theorem z_retN : PSZ X W (.Return none pos) zRetN := fun Z ex tk => psI ps_retN fun D σ H ⟨Dz, hex, EI, G, M, δ, w, a, h⟩ => EI.rt .non H G M .non w a.pt a.nx .non h
theorem z_drop (he : PEZ X W e te) (hs : swapsWith e none pos.line X.env = pure false := by rfl) : PSZ X W (.Expr e pos) (zDrop te) := fun Z ex tk => psI (ps_expr (he.run Z ex tk) hs) fun D σ H ⟨Dz, hex, EI, G, M, δ, w, a, h⟩ => by
  subst hex
  exact ⟨G, M, δ, w, a, he.mo (fun d w1 h1 v H1 G1 M1 o1 r1 => EI.nx _ _ ⟨G1, M1, δ, w1, a.go o1, h1⟩) h⟩
theorem z_if {c : Expr} {a b : List Stmt} {tc : TTZ ω} (hc : PTZ X W c tc) (ha : PBZ X W a t) (hb : PBZ X W b u) : PSZ X W (.If c a b pos) (zIf tc t u) := fun Z ex tk => psI (ps_if (hc.run Z ex tk) (ha Z ex tk) (hb Z ex tk)) fun D σ H ⟨Dz, hex, EI, G, M, δ, w, a, h⟩ => by
  subst hex
  exact ⟨G, M, δ, w, a, hc.mo (fun k w1 h1 H1 G1 M1 o1 => by
    cases k with
    | true => rw [if_pos rfl]; exact ⟨Dz, rfl, EI, G1, M1, δ, w1, a.go o1, h1.1 rfl⟩
    | false => rw [if_neg Bool.false_ne_true]; exact ⟨Dz, rfl, EI, G1, M1, δ, w1, a.go o1, h1.2 rfl⟩) h⟩
theorem z_while {c : Expr} {body : List Stmt} {tc : TTZ ω} (hc : PTZ X W c tc) (hb : PBZ X W body t) (hp : PassesOwn (model X.prog X.w) X.A X.env X.xe := by first | exact PassesOwn.leaving | exact PassesOwn.looking | exact PassesOwn.never | assumption) :
    PSZ X W (.While c body [] pos) (zWhile tc t) := fun Z ex tk => psI (ps_while hp (hc.run Z ex tk) (hb Z ex tk)) fun D σ H ⟨Dz, hex, EI, G, M, δ, w, a, I, ⟨m0, h0⟩, hs⟩ => by
  subst hex
  refine ⟨fun m => LS X.K W Z (I m), ⟨m0, G, M, δ, w, a, h0⟩, ?_⟩
  rintro m σ1 H1 ⟨G1, M1, δ1, w1, a1, h1⟩
  refine ⟨G1, M1, δ1, w1, a1, hc.mo (fun k w2 h2 H2 G2 M2 o2 => ?_) (hs m δ1 w1 h1)⟩
  cases k with
  | true =>
    rw [if_pos rfl]
    refine ⟨LS X.K W Z fun δ' w' => ∃ m', m' < m ∧ I m' δ' w', ?_, { Dz with nx := fun δ' w' => ∃ m', m' < m ∧ I m' δ' w', ct := fun δ' w' => ∃ m', m' < m ∧ I m' δ' w', bk := Dz.nx }, rfl, ⟨fun σ3 H3 h3 => h3, EI.nx, fun σ3 H3 h3 => h3, EI.rt⟩, G2, M2, δ1, w2, a1.go o2, h2.1 rfl⟩
    rintro σ3 H3 ⟨G3, M3, δ3, w3, a3, m', hm, h3⟩
    exact ⟨m', hm, G3, M3, δ3, w3, a3, h3⟩
  | false =>
    rw [if_neg Bool.false_ne_true]
    exact EI.nx _ _ ⟨G2, M2, δ1, w2, a1.go o2, h2.2 rfl⟩
end

/-! ### targets -/
abbrev TGZ := D → List Sl → (List Sl → Prop) → Prop
def gN (i : Nat) : TGZ := fun d δ k => k (δ.set i (.val d))
def setAll (δ : List Sl) : List Nat → List D → List Sl
  | i :: is, d :: ds => setAll (δ.set i (.val d)) is ds
  | _, _ => δ
def gU (is : List Nat) : TGZ := fun d δ k => match d with | .tup l => l.length = is.length ∧ k (setAll δ is l) | _ => False
structure GoG (K : PySem.W.Frag) (g : TG) (gz : TGZ) : Prop where
  mo : ∀ {d : D} {δ : List Sl} {k k' : List Sl → Prop}, (∀ δ', k δ' → k' δ') → gz d δ k → gz d δ k'
  go : ∀ {ω : Type} (W : Wp ω) (Z : Zx) (σ : L2.St) (H G M : Hp) (δ : List Sl) (w : ω) (v : V) (d : D) (q : List Sl → Prop) (Q : L2.St → Hp → Prop), SR K W Z σ H G M δ w → Rep K G v d → gz d δ q →
    (∀ σ' δ', q δ' → SR K W Z σ' H G M δ' w → Q σ' H) → g v σ H Q
structure PGZ (X : Cx) (tg : Expr) (g : TG) (gz : TGZ) : Prop where
  gg : GoG X.K g gz
  pg : PG X tg g
def gNs : List Nat → TGs
  | [] => gNil
  | i :: is => gCons (gName i) (gNs is)
theorem gNs_go {K : PySem.W.Frag} {W : Wp ω} {Z : Zx} {H G M : Hp} {w : ω} {Q : L2.St → Hp → Prop} : ∀ (is : List Nat) (vs : List V) (l : List D) (σ : L2.St) (δ : List Sl), SR K W Z σ H G M δ w → RepL K G vs l → l.length = is.length →
    (∀ σ', SR K W Z σ' H G M (setAll δ is l) w → Q σ' H) → gNs is vs σ H Q
  | [], _, _, σ, δ, a, r, hl, k => by
    cases r with
    | nil => exact ⟨rfl, k σ a⟩
    | cons _ _ => cases hl
  | i :: is, _, _, σ, δ, a, r, hl, k => by
    cases r with
    | nil => cases hl
    | cons r1 r2 =>
      exact ⟨_, _, rfl, gNs_go is _ _ _ _ (a.set r1) r2 (Nat.succ.inj hl) k⟩
theorem gg_name {K : PySem.W.Frag} (i : Nat) : GoG K (gName i) (gN i) := ⟨fun k h => k _ h, fun W Z σ H G M δ w v d q Q a r h k => k _ _ h (a.set r)⟩
theorem gg_tup {K : PySem.W.Frag} (is : List Nat) : GoG K (gTup K is.length (gNs is)) (gU is) := ⟨fun k h => by
  unfold gU at h ⊢
  split at h
  · exact ⟨h.1, k _ h.2⟩
  · exact h.elim, fun W Z σ H G M δ w v d q Q a r h k => by
  cases d with
  | tup l =>
    cases r with
    | tup s r =>
      exact ⟨_, _, rfl, sqTE a.pt.gh s, by rw [r.len]; exact h.1, gNs_go is _ _ _ _ a r h.1 fun σ' a' => k σ' _ h.2 a'⟩
  | _ => exact h.elim⟩
section
variable {X : Cx} {W : Wp ω} {pos : Pos} {e : Expr} {te : TEZ ω} {es : List Expr}
theorem g_name (i : Nat) {x : Str} (hN : X.N.Nodup) (hi : X.N[i]? = some x := by rfl) (hx : Loc X.env.scope x := by first | exact Or.inl rfl | exact Or.inr rfl) (hf : X.fn x = true ∨ X.env.scope.names.lookup x = some .local := by first | exact .inl rfl | exact .inr rfl) :
    PGZ X (.Name x pos) (gName i) (gN i) := ⟨gg_name i, pg_name hN hi hx hf⟩
theorem gs_nil : PGs X [] (gNs []) := pgs_nil
theorem gs_cons (i : Nat) {x : Str} {is : List Nat} (hN : X.N.Nodup) (h2 : PGs X es (gNs is)) (hi : X.N[i]? = some x := by rfl) (hx : Loc X.env.scope x := by first | exact Or.inl rfl | exact Or.inr rfl) (hf : X.fn x = true ∨ X.env.scope.names.lookup x = some .local := by first | exact .inl rfl | exact .inr rfl)
    (hs : (assignEach (.Name x pos :: es) X.env).map (·.2) = assign (.Name x pos) X.env :: (assignEach es X.env).map (·.2) := by rfl) : PGs X (.Name x pos :: es) (gNs (i :: is)) := pgs_cons (pg_name hN hi hx hf) h2 hs
theorem g_tup {k : Nat} {is : List Nat} (h : PGs X es (gNs is)) (hc : X.calm = true := by rfl) (hn : (assignEach es X.env).length = is.length := by rfl) (hst : (assignEach es X.env).findIdx? (·.1) = none := by rfl) :
    PGZ X (.Tuple es k pos) (gTup X.K is.length (gNs is)) (gU is) := ⟨gg_tup is, pg_tup hc h hn hst⟩
/-- target = value -/
def zAsgG (te : TEZ ω) (gz : TGZ) : TSZ ω := fun D δ w => te δ w (fun d w' => gz d δ fun δ' => D.nx δ' w') (fun e w' => D.ex e δ w')
theorem z_asg {tg : Expr} {g : TG} {gz : TGZ} (he : PEZ X W e te) (hg : PGZ X tg g gz) (hs : swapsWithSole [tg] e pos.line X.env = pure false := by rfl) (hw : swappedStores [tg] e X.env = pure none := by rfl)
    (h1 : (assignEach [tg] X.env).map (·.2) = [assign tg X.env] := by rfl) : PSZ X W (.Assign [tg] e pos) (zAsgG te gz) := fun Z ex tk => psI (ps_asg (he.run Z ex tk) hg.pg hs hw h1) fun D σ H ⟨Dz, hex, EI, G, M, δ, w, a, h⟩ => by
  subst hex
  exact ⟨G, M, δ, w, a, he.mo (fun d w1 h1 v H1 G1 M1 o1 r1 => hg.gg.go W Z σ H1 G1 M1 δ w1 v d _ _ (a.go o1) r1 h1 fun σ' δ' q a' => EI.nx _ _ ⟨G1, M1, δ', w1, a', q⟩) h⟩
/-- a, b = x, y -/
def zPar (i j : Nat) (ta : TAZ ω) : TSZ ω := fun D δ w => ta δ w (fun l w' => match l with | [x, y] => D.nx ((δ.set i (.val x)).set j (.val y)) w' | _ => False) (fun e w' => D.ex e δ w')
theorem z_par (i j : Nat) {x y : Str} {a b : Expr} {ta : TAZ ω} {px py pt : Pos} {kt k2 : Nat} {pt2 : Pos} (hN : X.N.Nodup) (ha : PAZ X W [a, b] ta) (hc : X.calm = true := by rfl) (hi : X.N[i]? = some x := by rfl) (hj : X.N[j]? = some y := by rfl) (hij : i ≠ j := by decide)
    (hx : X.env.scope.names.lookup x = some .local := by rfl) (hy : X.env.scope.names.lookup y = some .local := by rfl)
    (hw : swappedStores [.Tuple [.Name x px, .Name y py] kt pt] (.Tuple [a, b] k2 pt2) X.env = pure (some [x, y]) := by rfl)
    (hs : swapsWithSole [.Tuple [.Name x px, .Name y py] kt pt] (.Tuple [a, b] k2 pt2) pos.line X.env = pure false := by rfl) :
    PSZ X W (.Assign [.Tuple [.Name x px, .Name y py] kt pt] (.Tuple [a, b] k2 pt2) pos) (zPar i j ta) := fun Z ex tk => psI (ps_par hc hN hi hj hij hx hy (ha.run Z ex tk) hw hs) fun D σ H ⟨Dz, hex, EI, G, M, δ, w, a, h⟩ => by
  subst hex
  refine ⟨G, M, δ, w, a, ha.mo (fun l w1 h1 vs H1 G1 M1 o1 r1 => ?_) h⟩
  have a1 := a.go o1
  split at h1
  · cases r1 with
    | cons r1 r2 =>
      cases r2 with
      | cons r2 r3 =>
        cases r3
        exact ⟨_, _, rfl, EI.nx _ _ ⟨G1, M1, _, w1, (a1.set r1).set r2, h1⟩⟩
  · exact h1.elim
end

/-! ### for -/
def liB (K : PySem.W.Frag) (W : Wp ω) (Z : Zx) (ex : Nat → List Sl → ω → Prop) (ts : TSZ ω) : TS := fun D σ H => ∃ S, Ext Z.S S ∧ liS K W ⟨Z.H0, Z.G0, Z.M0, S⟩ ex ts D σ H
theorem tkLe {X : Cx} {W : Wp ω} {Z : Zx} {ex : Nat → List Sl → ω → Prop} {S : Hp} (tk : Takes X (WXz X.K W Z ex)) (hS : Ext Z.S S) : Takes X (WXz X.K W ⟨Z.H0, Z.G0, Z.M0, S⟩ ex) :=
  tk.imp fun c d σ H ⟨h1, e, h2, G, M, δ, w, a, h3⟩ => ⟨h1, e, h2, G, M, δ, w, a.le hS, h3⟩
theorem zB_run {X : Cx} {W : Wp ω} {sts : List Stmt} {t : TSZ ω} (h : PBZ X W sts t) (Z : Zx) (ex : Nat → List Sl → ω → Prop) (tk : Takes X (WXz X.K W Z ex)) : PSs X sts (liB X.K W Z ex t) :=
  ⟨fun pins s σ H D I ⟨S, hS, q⟩ => (h ⟨Z.H0, Z.G0, Z.M0, S⟩ ex (tkLe tk hS)).run pins s σ H D I q⟩
theorem EndI.loop {K : PySem.W.Frag} {W : Wp ω} {Z : Zx} {S : Hp} {Dz : EndZ ω} {D : Ends} (EI : EndI K W Z Dz D) (hS : Ext Z.S S) {I : List Sl → ω → Prop} {Pv : L2.St → Hp → Prop} (h : ∀ σ H, LS K W ⟨Z.H0, Z.G0, Z.M0, S⟩ I σ H → Pv σ H) :
    EndI K W ⟨Z.H0, Z.G0, Z.M0, S⟩ { Dz with nx := I, ct := I, bk := Dz.nx } { D with nx := Pv, ct := Pv, bk := D.nx } :=
  ⟨h, fun σ H ⟨G, M, δ, w, a, q⟩ => EI.nx σ H ⟨G, M, δ, w, a.le hS, q⟩, h, EI.rt⟩
/-- a loop over given data -/
def zLoop (l : List D) (gz : TGZ) (t : TSZ ω) : TSZ ω := fun D δ w => ∃ I : Nat → List Sl → ω → Prop, I 0 δ w ∧ (∀ i d δ' w', l[i]? = some d → I i δ' w' → gz d δ' fun δ2 => t { D with nx := I (i + 1), ct := I (i + 1), bk := D.nx } δ2 w') ∧ ∀ δ' w', I l.length δ' w' → D.nx δ' w'
def zForL (te : TEZ ω) (gz : TGZ) (t : TSZ ω) : TSZ ω := fun D δ w => te δ w (fun d w1 => match d with | .lst l => zLoop l gz t D δ w1 | .arr l => zLoop l gz t D δ w1 | _ => False) (fun e w' => D.ex e δ w')
def zForT (te : TEZ ω) (gz : TGZ) (t : TSZ ω) : TSZ ω := fun D δ w => te δ w (fun d w1 => match d with | .tup l => zLoop l gz t D δ w1 | _ => False) (fun e w' => D.ex e δ w')
def zLoopR (lo : Int) (n : Nat) (j : Nat) (t : TSZ ω) : TSZ ω := fun D δ w => ∃ I : Nat → List Sl → ω → Prop, I 0 δ w ∧ (∀ (i : Nat) δ' w', i < n → I i δ' w' → t { D with nx := I (i + 1), ct := I (i + 1), bk := D.nx } (δ'.set j (.val (.int (lo + i)))) w') ∧ ∀ δ' w', I n δ' w' → D.nx δ' w'
def zForR1 (ta : TAZ ω) (j : Nat) (t : TSZ ω) : TSZ ω := fun D δ w => ta δ w (fun l w1 => match l with | [.int n] => zLoopR 0 n.toNat j t D δ w1 | _ => False) (fun e w' => D.ex e δ w')
def zForR2 (ta : TAZ ω) (j : Nat) (t : TSZ ω) : TSZ ω := fun D δ w => ta δ w (fun l w1 => match l with | [.int m, .int n] => zLoopR m (n - m).toNat j t D δ w1 | _ => False) (fun e w' => D.ex e δ w')
section
variable {X : Cx} {W : Wp ω} {pos : Pos} {e : Expr} {te : TEZ ω} {es : List Expr} {tg : Expr} {g : TG} {gz : TGZ} {body : List Stmt} {t : TSZ ω}
theorem z_forL (he : PEZ X W e te) (hg : PGZ X tg g gz) (hb : PBZ X W body t) (hp : PassesOwn (model X.prog X.w) X.A X.env X.xe := by first | exact PassesOwn.leaving | exact PassesOwn.looking | exact PassesOwn.never | assumption) (hc : X.calm = true := by rfl)
    (hs : ∀ x, foldedSetIterable e X.env x = pure x := by intro _; rfl) : PSZ X W (.For tg e body [] pos) (zForL te gz t) := fun Z ex tk => psI (ps_for hp hc (pi_list (he.run Z ex tk)) hg.pg (zB_run hb Z ex tk) hs) fun DE σ H ⟨Dz, hex, EI, G, M, δ, w, a, h⟩ => by
  subst hex
  have key : ∀ {p : Addr} {vs : List V} {l : List D} {G1 M1 H1 : Hp} {w1 : ω}, SR X.K W Z σ H1 G1 M1 δ w1 → SqL X.K G1 p vs → RepL X.K G1 vs l → zLoop l gz t Dz δ w1 → ∃ a, V.ref p = .ref a ∧ (∃ xs, SqL X.K H1 a xs) ∧ (∃ W' : Nat → Nat → L2.St → Hp → Prop, (∃ m, W' 0 m σ H1) ∧ ∀ i m σ H, W' i m σ H →
      ((Itl X.K a).stop i H ∧ DE.nx σ H) ∨ ((Itl X.K a).go i H ∧ ∃ N : L2.St → Hp → Prop, (∀ σ' H', N σ' H' → ∃ m', m' < m ∧ W' (i + 1) m' σ' H') ∧ ∀ x H', (Itl X.K a).yld i H x H' → g x σ H' fun σ2 H2 => liB X.K W Z Dz.ex t { DE with nx := N, ct := N, bk := DE.nx } σ2 H2)) := by
    intro p vs l G1 M1 H1 w1 a1 hs r1 h1
    refine ⟨p, rfl, ⟨vs, sqLE a1.pt.gh hs⟩, ?_⟩
    obtain ⟨I, i0, is, id⟩ := h1
    have hl := r1.len
    refine for_list (K := X.K) (a := p) (xs := vs) (fun i => LS X.K W ⟨Z.H0, Z.G0, Z.M0, G1⟩ (I i)) ⟨G1, M1, δ, w1, a1.more, i0⟩ ?_ ?_ ?_
    · rintro i σ2 H2 _ ⟨G2, M2, δ2, w2, a2, _⟩
      exact sqLE (a2.st.tr a2.pt.gh) hs
    · rintro i x σ2 H2 hx ⟨G2, M2, δ2, w2, a2, q2⟩
      obtain ⟨d, hd, rd⟩ := r1.getV hx
      refine hg.gg.go W _ σ2 H2 G2 M2 δ2 w2 x d _ _ a2 (rd.up a2.st) (is i d δ2 w2 hd q2) fun σ3 δ3 q3 a3 => ?_
      exact ⟨G1, a1.st, { Dz with nx := I (i + 1), ct := I (i + 1), bk := Dz.nx }, rfl, EI.loop a1.st (fun _ _ h => h), G2, M2, δ3, w2, a3, q3⟩
    · rintro σ2 H2 ⟨G2, M2, δ2, w2, a2, q2⟩
      rw [hl] at q2
      exact EI.nx _ _ ⟨G2, M2, δ2, w2, a2.le a1.st, id δ2 w2 q2⟩
  refine ⟨G, M, δ, w, a, he.mo (fun d w1 h1 v H1 G1 M1 o1 r1 => ?_) h⟩
  have a1 := a.go o1
  cases d with
  | lst l =>
    cases r1 with
    | lst s r => exact key a1 (.inl (.inl s)) r h1
  | arr l =>
    cases r1 with
    | arr s r => exact key a1 s r h1
  | _ => exact False.elim h1
theorem z_forT (he : PEZ X W e te) (hg : PGZ X tg g gz) (hb : PBZ X W body t) (hp : PassesOwn (model X.prog X.w) X.A X.env X.xe := by first | exact PassesOwn.leaving | exact PassesOwn.looking | exact PassesOwn.never | assumption) (hc : X.calm = true := by rfl)
    (hs : ∀ x, foldedSetIterable e X.env x = pure x := by intro _; rfl) : PSZ X W (.For tg e body [] pos) (zForT te gz t) := fun Z ex tk => psI (ps_for hp hc (pi_tup (he.run Z ex tk)) hg.pg (zB_run hb Z ex tk) hs) fun DE σ H ⟨Dz, hex, EI, G, M, δ, w, a, h⟩ => by
  subst hex
  refine ⟨G, M, δ, w, a, he.mo (fun d w1 h1 v H1 G1 M1 o1 r1 => ?_) h⟩
  have a1 := a.go o1
  cases d with
  | tup l =>
    cases r1 with
    | @tup p vs _ hs r1 =>
      refine ⟨p, rfl, ⟨vs, sqTE a1.pt.gh hs⟩, ?_⟩
      obtain ⟨I, i0, is, id⟩ := h1
      have hl := r1.len
      refine for_tup (K := X.K) (a := p) (xs := vs) (fun i => LS X.K W ⟨Z.H0, Z.G0, Z.M0, G1⟩ (I i)) ⟨G1, M1, δ, w1, a1.more, i0⟩ ?_ ?_ ?_
      · rintro i σ2 H2 _ ⟨G2, M2, δ2, w2, a2, _⟩
        exact sqTE (a2.st.tr a2.pt.gh) hs
      · rintro i x σ2 H2 hx ⟨G2, M2, δ2, w2, a2, q2⟩
        obtain ⟨d, hd, rd⟩ := r1.getV hx
        refine hg.gg.go W _ σ2 H2 G2 M2 δ2 w2 x d _ _ a2 (rd.up a2.st) (is i d δ2 w2 hd q2) fun σ3 δ3 q3 a3 => ?_
        exact ⟨G1, a1.st, { Dz with nx := I (i + 1), ct := I (i + 1), bk := Dz.nx }, rfl, EI.loop a1.st (fun _ _ h => h), G2, M2, δ3, w2, a3, q3⟩
      · rintro σ2 H2 ⟨G2, M2, δ2, w2, a2, q2⟩
        rw [hl] at q2
        exact EI.nx _ _ ⟨G2, M2, δ2, w2, a2.le a1.st, id δ2 w2 q2⟩
  | _ => exact False.elim h1
theorem loop_range {Z : Zx} {Dz : EndZ ω} {DE : Ends} {σ : L2.St} {H G M : Hp} {δ : List Sl} {w : ω} {lo : Int} {n j : Nat} (EI : EndI X.K W Z Dz DE) (a : SR X.K W Z σ H G M δ w) (h : zLoopR lo n j t Dz δ w) :
    ∃ W' : Nat → Nat → L2.St → Hp → Prop, (∃ m, W' 0 m σ H) ∧ ∀ i m σ H, W' i m σ H →
      ((Itr lo n).stop i H ∧ DE.nx σ H) ∨ ((Itr lo n).go i H ∧ ∃ N : L2.St → Hp → Prop, (∀ σ' H', N σ' H' → ∃ m', m' < m ∧ W' (i + 1) m' σ' H') ∧ ∀ x H', (Itr lo n).yld i H x H' → gName j x σ H' fun σ2 H2 => liB X.K W Z Dz.ex t { DE with nx := N, ct := N, bk := DE.nx } σ2 H2) := by
  obtain ⟨I, i0, is, id⟩ := h
  refine for_range (fun i => LS X.K W ⟨Z.H0, Z.G0, Z.M0, G⟩ (I i)) ⟨G, M, δ, w, a.more, i0⟩ ?_ ?_
  · rintro i σ2 H2 hx ⟨G2, M2, δ2, w2, a2, q2⟩
    exact ⟨G, a.st, { Dz with nx := I (i + 1), ct := I (i + 1), bk := Dz.nx }, rfl, EI.loop a.st (fun _ _ h => h), G2, M2, _, w2, a2.set (.int _), is i δ2 w2 hx q2⟩
  · rintro σ2 H2 ⟨G2, M2, δ2, w2, a2, q2⟩
    exact EI.nx _ _ ⟨G2, M2, δ2, w2, a2.le a.st, id δ2 w2 q2⟩
theorem z_forR1 (j : Nat) {x : Str} {ea : Expr} {ta : TAZ ω} {px p : Pos} {pc : Pos} (hm : X.mg "range" = none) (ha : PAZ X W [ea] ta) (hb : PBZ X W body t) (hN : X.N.Nodup) (hi : X.N[j]? = some x := by rfl) (hx : Loc X.env.scope x := by first | exact Or.inl rfl | exact Or.inr rfl)
    (hf : X.fn x = true ∨ X.env.scope.names.lookup x = some .local := by first | exact .inl rfl | exact .inr rfl) (hgl : Gl X "range" := by rfl) (hp : PassesOwn (model X.prog X.w) X.A X.env X.xe := by first | exact PassesOwn.leaving | exact PassesOwn.looking | exact PassesOwn.never | assumption) (hc : X.calm = true := by rfl)
    (hse : starEach [ea] X.env = [(false, eval ea X.env)] := by rfl) (hs : ∀ x, foldedSetIterable (.Call (.Name "range" p) [ea] [] pc) X.env x = pure x := by intro _; rfl) : PSZ X W (.For (.Name x px) (.Call (.Name "range" p) [ea] [] pc) body [] pos) (zForR1 ta j t) := fun Z ex tk =>
  psI (ps_for hp hc (pi_rgB1 hgl hm (ha.run Z ex tk) hse) (pg_name hN hi hx hf) (zB_run hb Z ex tk) hs) fun DE σ H ⟨Dz, hex, EI, G, M, δ, w, a, h⟩ => by
  subst hex
  refine ⟨G, M, δ, w, a, ha.mo (fun l w1 h1 vs H1 G1 M1 o1 r1 => ?_) h⟩
  have a1 := a.go o1
  split at h1
  · rename_i n
    cases r1 with
    | cons r1 r2 =>
      cases r1
      cases r2
      exact ⟨n, rfl, loop_range EI a1 h1⟩
  · exact h1.elim
theorem z_forR2 (j : Nat) {x : Str} {ea eb : Expr} {ta : TAZ ω} {px p : Pos} {pc : Pos} (hm : X.mg "range" = none) (ha : PAZ X W [ea, eb] ta) (hb : PBZ X W body t) (hN : X.N.Nodup) (hi : X.N[j]? = some x := by rfl) (hx : Loc X.env.scope x := by first | exact Or.inl rfl | exact Or.inr rfl)
    (hf : X.fn x = true ∨ X.env.scope.names.lookup x = some .local := by first | exact .inl rfl | exact .inr rfl) (hgl : Gl X "range" := by rfl) (hp : PassesOwn (model X.prog X.w) X.A X.env X.xe := by first | exact PassesOwn.leaving | exact PassesOwn.looking | exact PassesOwn.never | assumption) (hc : X.calm = true := by rfl)
    (hse : starEach [ea, eb] X.env = [(false, eval ea X.env), (false, eval eb X.env)] := by rfl) (hse2 : starEach [eb] X.env = [(false, eval eb X.env)] := by rfl) (hs : ∀ x, foldedSetIterable (.Call (.Name "range" p) [ea, eb] [] pc) X.env x = pure x := by intro _; rfl) : PSZ X W (.For (.Name x px) (.Call (.Name "range" p) [ea, eb] [] pc) body [] pos) (zForR2 ta j t) := fun Z ex tk =>
  psI (ps_for hp hc (pi_rgB2 hgl hm (ha.run Z ex tk) hse hse2) (pg_name hN hi hx hf) (zB_run hb Z ex tk) hs) fun DE σ H ⟨Dz, hex, EI, G, M, δ, w, a, h⟩ => by
  subst hex
  refine ⟨G, M, δ, w, a, ha.mo (fun l w1 h1 vs H1 G1 M1 o1 r1 => ?_) h⟩
  have a1 := a.go o1
  split at h1
  · rename_i m n
    cases r1 with
    | cons r1 r2 =>
      cases r1
      cases r2 with
      | cons r2 r3 =>
        cases r2
        cases r3
        exact ⟨m, n, rfl, loop_range EI a1 h1⟩
  · exact h1.elim
end
end Z

namespace Z
open PySem PySem.Spec PyProof.Rows L2
variable {ω : Type}

/-! ### defs: what they promise -/
def MoS (sp : SpZ ω) : Prop := ∀ {ds : List D} {w : ω} {Q Q' : D → ω → Prop} {E E' : Nat → ω → Prop}, (∀ d w', Q d w' → Q' d w') → (∀ e w', E e w' → E' e w') → sp ds w Q E → sp ds w Q' E'
def spz (K : PySem.W.Frag) (W : Wp ω) (sp : SpZ ω) : Sp := fun vs H Q E => ∃ G M ds w, Pt W H G M w ∧ RepL K G vs ds ∧ sp ds w (fun d w' => ∀ v H' G' M', Pt W H' G' M' w' → Nx H G M H' G' M' → Rep K G' v d → Q v H')
  (fun e w' => ∀ H' G' M', Pt W H' G' M' w' → Nx H G M H' G' M' → E (.ref (W.ec e)) none H')
structure Fd (P : Program) (w : World) (K : PySem.W.Frag) (mg : Str → Option Value) (base : Heap) (W : Wp ω) (k : Nat) (x : Str) (sp : SpZ ω) : Prop where
  mo : MoS sp
  ex : ∃ f fd ps, FnOk P w K mg base (L2.CX P w) k f fd ps (spz K W sp) ∧ mg x = some (.ref f) ∧ PySem.W.keepIn K (.ref f) = true ∧ Binds K fd ps []
/-- no world -/
def W0 (ec : Nat → Addr) : Wp Unit := ⟨fun _ _ M => ∀ p, M p = none, fun _ h => h, ec⟩
def zCall (sp : SpZ ω) (ta : TAZ ω) : TEZ ω := fun δ w Q E => ta δ w (fun ds w1 => sp ds w1 Q E) E
def zCallP (sp : SpZ Unit) (ta : TAZ ω) : TEZ ω := fun δ w Q E => ta δ w (fun ds w1 => sp ds () (fun d _ => Q d w1) (fun e _ => E e w1)) E
section
variable {X : Cx} {W : Wp ω} {pos p : Pos} {x : Str} {e : Expr} {es : List Expr} {ta : TAZ ω} {k j : Nat}
theorem Pt.pure {W : Wp ω} {ec : Nat → Addr} {H G M H' G' M' : Hp} {w : ω} (a : Pt W H G M w) (b : Pt (W0 ec) H' G' M' ()) (c : Nx H G (fun _ => none) H' G' M') : Pt W H' G' M w ∧ Nx H G M H' G' M := by
  have up : ∀ q z, H q = some z → H' q = some z := fun q z h => c.fr q z h rfl
  refine ⟨⟨b.gh, fun q z h => up q z (a.mh q z h), fun q z h => ?_, W.mono c.gg a.wd⟩, ⟨c.gg, fun q z h _ => up q z h, c.gn, fun q z h g => (by rw [h] at g; cases g), fun q z h => ⟨z, h⟩⟩⟩
  cases r : G q with
  | some y => exact a.dj q y r
  | none => exact a.mh.none' (c.gn q z h r)
theorem z_call {sp : SpZ ω} (d : Fd X.prog X.w X.K X.mg X.base W k x sp) (hr : Room j X.A) (ha : PAZ X W (e :: es) ta) (hj : k ≤ j := by decide) (hg : Gl X x := by rfl) (hdb : (x == ("__debug__" : Str)) = false := by decide)
    (he : starEach (e :: es) X.env = (false, eval e X.env) :: starEach es X.env := by rfl) (hpl : (backTo pos (starEach es X.env)).any (·.1) = false := by rfl) : PEZ X W (.Call (.Name x p) (e :: es) [] pos) (zCall sp ta) :=
  ⟨fun k h => ha.mo (fun _ _ h1 => d.mo k (fun _ _ q => q) h1) h, fun Z ex tk => by
    obtain ⟨f, fd, ps, F, hm, hk, hb⟩ := d.ex
    refine peI (pe_callS F (hr.mono hj) hg hm hk hb (fun σ => passAt tk σ) (ha.run Z ex tk) hdb he hpl) fun σ H Q ⟨G, M, δ, w, a, h⟩ => ?_
    refine ⟨G, M, δ, w, a, ha.mo (fun ds w1 h1 vs H1 G1 M1 o1 r1 => ⟨G1, M1, ds, w1, o1.pt, r1, d.mo (fun d2 w2 q2 v H2 G2 M2 b2 c2 r2 => q2 v H2 G2 M2 (o1.tr ⟨b2, c2⟩) r2) (fun e2 w2 q2 H2 G2 M2 b2 c2 => ?_) h1⟩) h⟩
    exact ⟨rfl, e2, rfl, G2, M2, δ, w2, (a.go o1).next b2 c2, q2⟩⟩
theorem z_callP {sp : SpZ Unit} (d : Fd X.prog X.w X.K X.mg X.base (W0 W.ec) k x sp) (hr : Room j X.A) (ha : PAZ X W (e :: es) ta) (hj : k ≤ j := by decide) (hg : Gl X x := by rfl) (hdb : (x == ("__debug__" : Str)) = false := by decide)
    (he : starEach (e :: es) X.env = (false, eval e X.env) :: starEach es X.env := by rfl) (hpl : (backTo pos (starEach es X.env)).any (·.1) = false := by rfl) : PEZ X W (.Call (.Name x p) (e :: es) [] pos) (zCallP sp ta) :=
  ⟨fun k h => ha.mo (fun _ _ h1 => d.mo (fun d _ q => k d _ q) (fun _ _ q => q) h1) h, fun Z ex tk => by
    obtain ⟨f, fd, ps, F, hm, hk, hb⟩ := d.ex
    refine peI (pe_callS F (hr.mono hj) hg hm hk hb (fun σ => passAt tk σ) (ha.run Z ex tk) hdb he hpl) fun σ H Q ⟨G, M, δ, w, a, h⟩ => ?_
    refine ⟨G, M, δ, w, a, ha.mo (fun ds w1 h1 vs H1 G1 M1 o1 r1 => ?_) h⟩
    refine ⟨G1, fun _ => none, ds, (), ⟨o1.pt.gh, fun _ _ z => (nomatch z), fun _ _ _ => rfl, fun _ => rfl⟩, r1, d.mo (fun d2 _ q2 v H2 G2 M2 b2 c2 r2 => ?_) (fun e2 _ q2 H2 G2 M2 b2 c2 => ?_) h1⟩
    · obtain ⟨b, c⟩ := o1.pt.pure b2 c2
      exact q2 v H2 G2 M1 (o1.tr ⟨b, c⟩) r2
    · obtain ⟨b, c⟩ := o1.pt.pure b2 c2
      exact ⟨rfl, e2, rfl, G2, M1, δ, w1, (a.go o1).next b c, q2⟩⟩
end
/-- the slots at a def's entry -/
def stZ (n : Nat) (ds : List D) : List Sl := ds.map .val ++ List.replicate (n - ds.length) .no
def endZ (Q : D → ω → Prop) (E : Nat → ω → Prop) : EndZ ω := ⟨fun _ w => Q .non w, Q, fun _ _ => False, fun _ _ => False, fun e _ w => E e w⟩
section
variable {P : Program} {w : World} {K : PySem.W.Frag} {mg : Str → Option Value} {base : Heap} {W : Wp ω}
theorem sr_start {Z : Zx} {N : List Str} {vs : List V} {ds : List D} {H G M : Hp} {w : ω} (pt : Pt W H G M w) (r : RepL K G vs ds) : SR K W ⟨H, G, M, fun _ => none⟩ (L2.start N vs) H G M (stZ N.length ds) w := by
  have hl := r.len
  refine ⟨pt, .rfl', fun _ _ z => (nomatch z), ?_, fun i s e => ?_, fun i j p l l' e1 e2 e3 e4 => ?_⟩
  · unfold stZ L2.start
    rw [List.length_append, List.length_append, List.length_map, List.length_map, List.length_replicate, List.length_replicate, hl]
  · unfold stZ at e
    by_cases hi : i < ds.length
    · rw [List.getElem?_append_left (by simpa using hi), List.getElem?_map] at e
      cases q : ds[i]? with
      | none => rw [q] at e; cases e
      | some d =>
        rw [q] at e
        cases e
        obtain ⟨v, h1, h2⟩ := r.get q
        refine ⟨v, ?_, h2⟩
        unfold L2.start
        rw [List.getElem?_append_left (by simpa [hl] using hi), List.getElem?_map, h1]
        rfl
    · rw [List.getElem?_append_right (by simpa using Nat.le_of_not_lt hi), List.getElem?_replicate] at e
      split at e
      · cases e; trivial
      · cases e
  · exfalso
    unfold stZ at e1
    by_cases hi : i < ds.length
    · rw [List.getElem?_append_left (by simpa using hi), List.getElem?_map] at e1
      cases q : ds[i]? with
      | none => rw [q] at e1; cases e1
      | some d => rw [q] at e1; cases e1
    · rw [List.getElem?_append_right (by simpa using Nat.le_of_not_lt hi), List.getElem?_replicate] at e1
      split at e1 <;> cases e1
theorem fnzOk {x qual : Str} {st : Stmt} {f : Addr} {fd : FuncData} {N ps : List Str} {k : Nat} {sp : SpZ ω} {tz : TSZ ω} (F : Fun K x qual st f fd) (S : FnScope N ps (defScope st))
    (len : ∀ {ds : List D} {w' : ω} {Q : D → ω → Prop} {E : Nat → ω → Prop}, sp ds w' Q E → ds.length = ps.length)
    (der : ∀ (cdv : Value) (A : Around) (outer : List Env) (s : Shared) (H : Hp) (E : XK), Room k (A.deeper (envOfC qual (defScope st) s.heap.objs.size f cdv)) →
      PBZ (cxOf (L2.CX P w) P w K mg base N qual (defScope st) f cdv A outer s H E) W (defBody st) tz)
    (go : ∀ (ds : List D) (w' : ω) (Q : D → ω → Prop) (E : Nat → ω → Prop), sp ds w' Q E → tz (endZ Q E) (stZ N.length ds) w') : FnOk P w K mg base (L2.CX P w) (k + 1) f fd ps (spz K W sp) := by
  refine F.okX S (fun vs H Q E h => ?_) (fun cdv A outer s H vs Q E hr h => ?_)
  · obtain ⟨G, M, ds, w', _, r, h⟩ := h
    rw [r.len]
    exact len h
  · obtain ⟨G, M, ds, w', pt, r, h⟩ := h
    refine ⟨_, der cdv A outer s H E hr ⟨H, G, M, fun _ => none⟩ (fun e _ w2 => ∀ H' G' M', Pt W H' G' M' w2 → Nx H G M H' G' M' → E (.ref (W.ec e)) none H') ?_, ?_⟩
    · refine (takes_of rfl rfl rfl rfl).imp fun c d σ H' ⟨h1, e, h2, G', M', δ, w2, a, h3⟩ => ?_
      subst h1 h2
      exact h3 H' G' M' a.pt a.nx
    · exact ⟨endZ (fun d w2 => ∀ v H' G' M', Pt W H' G' M' w2 → Nx H G M H' G' M' → Rep K G' v d → Q v H') _, rfl, ⟨fun σ H' ⟨G', M', δ, w2, a, q⟩ => q .non H' G' M' a.pt a.nx .non, fun _ _ ⟨_, _, _, _, _, q⟩ => q.elim, fun _ _ ⟨_, _, _, _, _, q⟩ => q.elim, fun v H' G' M' d w2 b c rv q => q v H' G' M' b c rv⟩,
        G, M, _, w', sr_start (Z := ⟨H, G, M, fun _ => none⟩) pt r, go ds w' _ _ h⟩
/-- THE RULE for a def -/
theorem fnz {x qual : Str} {st : Stmt} {f : Addr} {fd : FuncData} {N ps : List Str} {k : Nat} {sp : SpZ ω} {tz : TSZ ω} (F : Fun K x qual st f fd) (S : FnScope N ps (defScope st)) (hm : mg x = some (.ref f)) (hb : Binds K fd ps []) (mo : MoS sp)
    (len : ∀ {ds : List D} {w' : ω} {Q : D → ω → Prop} {E : Nat → ω → Prop}, sp ds w' Q E → ds.length = ps.length)
    (der : ∀ (cdv : Value) (A : Around) (outer : List Env) (s : Shared) (H : Hp) (E : XK), Room k (A.deeper (envOfC qual (defScope st) s.heap.objs.size f cdv)) →
      PBZ (cxOf (L2.CX P w) P w K mg base N qual (defScope st) f cdv A outer s H E) W (defBody st) tz)
    (go : ∀ (ds : List D) (w' : ω) (Q : D → ω → Prop) (E : Nat → ω → Prop), sp ds w' Q E → tz (endZ Q E) (stZ N.length ds) w') : Fd P w K mg base W (k + 1) x sp :=
  ⟨mo, f, fd, ps, fnzOk F S len der go, hm, F.kp, hb⟩
end

/-! ### the law's own def -/
/-- what `law` promises, from the world that is none yet -/
def spLaw {ω : Type} (w0 : ω) : SpZ ω := fun ds w Q _ => w = w0 ∧ ∃ ns : List Int, ds = [.arr (ns.map D.int)] ∧ ns.length ≤ 63 ∧ (∀ z ∈ ns, Builtin.Int.intBits z ≤ 1048576) ∧ ∀ w', Q (.bl true) w'
def spLawV (K : PySem.W.Frag) : Sp := fun vs H Q _ => ∃ (a : Addr) (ns : List Int), vs = [.ref a] ∧ SqL K H a (ns.map V.int) ∧ ns.length ≤ 63 ∧ (∀ z ∈ ns, Builtin.Int.intBits z ≤ 1048576) ∧ ∀ H', Q (.bl true) H'
def ecOf (l : List (Nat × Addr)) (n : Nat) : Addr := (l.lookup n).getD 0
theorem law_imp {ω : Type} {P : Program} {w : World} {K : PySem.W.Frag} {mg : Str → Option Value} {base : Heap} {W : Wp ω} {f : Addr} {fd : FuncData} {x : Str} {k : Nat} (w0 : ω) (F : FnOk P w K mg base (L2.CX P w) k f fd [x] (spz K W (spLaw w0)))
    (h0 : ∀ G : Hp, W.ok w0 G fun _ => none) : FnOk P w K mg base (L2.CX P w) k f fd [x] (spLawV K) :=
  F.imp fun vs H Q E ⟨a, ns, e, hs, hl, hb, q⟩ => ⟨H, fun _ => none, [.arr (ns.map D.int)], w0, ⟨.rfl', fun _ _ z => (nomatch z), fun _ _ _ => rfl, h0 H⟩, by rw [e]; exact .cons (.arr hs (RepL.ofInts ns)) .nil, rfl, ns, rfl, hl, hb, fun w' v H' G' M' _ _ r => by
    cases r
    exact q H'⟩
theorem cx_none {P : Program} {w : World} {H : Hp} {s : Shared} {e : Value} {s' : Shared} (h : L2.CX P w [] H s (fun _ _ _ => False) e s') : False := by
  obtain ⟨_, _, _, _, _, _, _, _, _, _, _, _, z⟩ := h
  exact z

/-! ### raise -/
/-- what the top says of an own error class -/
structure ErrT (K : PySem.W.Frag) (mg : Str → Option Value) (C : Addr) (x : Str) : Prop where
  xF : PySem.W.excIn K C [.type "ValueError", .type "Exception", .type "BaseException", .type "object"] "ValueError.__new__" = true
  gF : mg x = some (.ref C)
  kF : PySem.W.keepIn K (.ref C) = true
  bF : PySem.W.subIn K (.ref C) (.type "BaseException") = some true
  tF : PySem.W.typeIn K (.ref C) = some (.type "type")
theorem z_raise {X : Cx} {W : Wp ω} {pos p p2 pos2 : Pos} {x m : Str} {j : Nat} {c : Nat} (T : ErrT X.K X.mg (W.ec c) x) (hc : X.calm = true := by rfl) (hg : Gl X x := by rfl) (hdb : (x == ("__debug__" : Str)) = false := by decide) :
    PSZ X W (.Raise (some (.Call (.Name x p) [.Constant (.str m) j p2] [] pos2)) none pos) (zRaise c) := fun Z ex tk =>
  psI (ps_raise hc tk (pmk_own PySem.F.excBase_ValueError T.xF T.gF T.kF (raises_own T.bF T.tF) hg hdb)) fun DE σ H ⟨Dz, hex, EI, G, M, δ, w, a, h⟩ => by
  subst hex
  exact ⟨rfl, c, rfl, G, M, δ, w, a, h⟩
end Z

namespace Z
open PySem PySem.Spec PyProof.Rows L2
variable {ω : Type}

/-! ### sizes of numbers -/
def Sm (n : Nat) (i : Int) : Prop := i.natAbs < 2 ^ n
theorem Sm.le {n m : Nat} {i : Int} (h : Sm n i) (l : n ≤ m) : Sm m i := Nat.lt_of_lt_of_le h (Nat.pow_le_pow_right (by decide) l)
theorem two_pos (n : Nat) : 0 < 2 ^ n := Nat.pos_of_ne_zero (by simp)
theorem Sm.add {n m : Nat} {i j : Int} (h : Sm n i) (g : Sm m j) : Sm (max n m + 1) (i + j) := by
  have h1 := Sm.le h (Nat.le_max_left n m)
  have h2 := Sm.le g (Nat.le_max_right n m)
  unfold Sm at *
  rw [Nat.pow_succ]
  omega
theorem Sm.neg {n : Nat} {i : Int} (h : Sm n i) : Sm n (-i) := by unfold Sm at *; omega
theorem Sm.sub {n m : Nat} {i j : Int} (h : Sm n i) (g : Sm m j) : Sm (max n m + 1) (i - j) := by
  have h1 := Sm.le h (Nat.le_max_left n m)
  have h2 := Sm.le g (Nat.le_max_right n m)
  unfold Sm at *
  rw [Nat.pow_succ]
  omega
theorem Sm.mul {n m : Nat} {i j : Int} (h : Sm n i) (g : Sm m j) : Sm (n + m) (i * j) := wide_lt h g
theorem Sm.of_le {n : Nat} {i j : Int} (h : Sm n j) (h0 : 0 ≤ i) (l : i ≤ j) : Sm n i := Nat.lt_of_le_of_lt (by omega) h
theorem Sm.of_abs {n : Nat} {i j : Int} (h : Sm n j) (l : i.natAbs ≤ j.natAbs) : Sm n i := Nat.lt_of_le_of_lt l h
theorem Sm.mod {n : Nat} {i j : Int} (h : Sm n j) (h0 : 0 < j) : Sm n (i % j) := h.of_le (Int.emod_nonneg _ (by omega)) (Int.le_of_lt (Int.emod_lt_of_pos _ h0))
theorem Sm.div {n : Nat} {i j : Int} (h : Sm n i) (h0 : 0 < j) : Sm n (i / j) := by
  refine h.of_abs ?_
  by_cases hi : 0 ≤ i
  · have h1 : 0 ≤ i / j := Int.ediv_nonneg hi (by omega)
    have h2 : i / j ≤ i := Int.ediv_le_self j hi
    omega
  · have h1 : i / j < 0 := Int.ediv_neg_of_neg_of_pos (by omega) h0
    have h2 : i ≤ i / j := by
      have e := Int.mul_ediv_add_emod i j
      have h4 := Int.emod_lt_of_pos i h0
      have h5 : j * (i / j + 1) ≤ 1 * (i / j + 1) := Int.mul_le_mul_of_nonpos_right (by omega) (by omega)
      rw [Int.mul_add, Int.mul_one, Int.one_mul] at h5
      omega
    omega
theorem Sm.lit {n : Nat} {i : Int} (h : decide (i.natAbs < 2 ^ n) = true) : Sm n i := by unfold Sm; exact of_decide_eq_true h
theorem Sm.pow {n : Nat} {i : Int} (h : Sm n i) (k : Nat) : Sm (n * k + 1) (i ^ k) := by
  induction k with
  | zero => unfold Sm; rw [Int.pow_zero]; exact Nat.one_lt_two_pow (by omega)
  | succ k ih =>
    rw [Int.pow_succ]
    exact (ih.mul h).le (by rw [Nat.mul_succ]; omega)
theorem Sm.max {n m : Nat} {i j : Int} (h : Sm n i) (g : Sm m j) : Sm (Nat.max n m) (max i j) := by
  have h1 := Sm.le h (Nat.le_max_left n m)
  have h2 := Sm.le g (Nat.le_max_right n m)
  rcases Int.le_total i j with l | l
  · rw [Int.max_eq_right l]; exact h2
  · rw [Int.max_eq_left l]; exact h1
theorem Sm.min {n m : Nat} {i j : Int} (h : Sm n i) (g : Sm m j) : Sm (Nat.max n m) (min i j) := by
  have h1 := Sm.le h (Nat.le_max_left n m)
  have h2 := Sm.le g (Nat.le_max_right n m)
  rcases Int.le_total i j with l | l
  · rw [Int.min_eq_left l]; exact h1
  · rw [Int.min_eq_right l]; exact h2
/-- what * asks, what // asks -/
def MulOk (i j : Int) : Prop := CMulW i j ∨ CMul i j
theorem MulOk.ok {i j : Int} (h : MulOk i j) : IntMulOk i j := h.elim CMulW.ok CMul.ok
theorem MulOk.of {n m : Nat} {i j : Int} (h : Sm n i) (g : Sm m j) (l : n + m + 2 ≤ 1000000) : MulOk i j := .inl (wide_mul (h.le (Nat.le_succ n)) (g.le (Nat.le_succ m)) (Nat.succ_pos _) (Nat.succ_pos _) (by omega))
theorem MulOk.lt {n : Nat} {i j : Int} (h : Sm n i) (l : n ≤ 63) : MulOk i j := by
  have h1 := h.le l
  unfold Sm at h1
  have e : (2 : Nat) ^ 63 = 9223372036854775808 := by decide
  have e' : (2 : Int) ^ 64 = 18446744073709551616 := by decide
  rw [e] at h1
  refine .inr (.inl ?_)
  rw [e']
  omega
theorem MulOk.rt {n : Nat} {i j : Int} (h : Sm n j) (l : n ≤ 63) : MulOk i j := by
  have h1 := h.le l
  unfold Sm at h1
  have e : (2 : Nat) ^ 63 = 9223372036854775808 := by decide
  have e' : (2 : Int) ^ 64 = 18446744073709551616 := by decide
  rw [e] at h1
  refine .inr (.inr ?_)
  rw [e']
  omega
def DivOk (j : Int) : Prop := 0 < j ∧ Sm 8000 j

/-! ### operators -/
section
variable {K : PySem.W.Frag}
theorem lndI {rv : R2} {r : OpD} {C : Int → Int → Prop} {g : Int → Int → D} {gv : Int → Int → V} (hr : ∀ {x y : D} {q : D → Prop}, r x y q → ∃ i j, x = .int i ∧ y = .int j ∧ C i j ∧ q (g i j)) (hr' : ∀ {i j : Int} {q : D → Prop}, C i j → q (g i j) → r (.int i) (.int j) q)
    (hv : ∀ {i j : Int} {H : Hp} {Q : VK}, C i j → Q (gv i j) H → rv (.int i) (.int j) H Q) (hg : ∀ i j G, Rep K G (gv i j) (g i j)) : Lnd K rv r where
  mo := fun k h => by
    obtain ⟨i, j, rfl, rfl, c, q⟩ := hr h
    exact hr' c (k _ q)
  go := fun H G x y dx dy q Q e rx ry h k _ => by
    obtain ⟨i, j, rfl, rfl, c, q⟩ := hr h
    cases rx
    cases ry
    exact hv c (k _ _ q (hg i j G))
def addD : OpD := fun x y q => match x, y with
  | .int i, .int j => q (.int (i + j))
  | .str i, .str j => i.length + j.length ≤ 16777216 ∧ q (.str (i ++ j))
  | .tup l, .tup m => l ≠ [] ∧ m ≠ [] ∧ l.length + m.length ≤ 100000 ∧ q (.tup (l ++ m))
  | _, _ => False
def subD : OpD := fun x y q => match x, y with | .int i, .int j => q (.int (i - j)) | _, _ => False
def mulD : OpD := fun x y q => match x, y with
  | .int i, .int j => MulOk i j ∧ q (.int (i * j))
  | .str x, .int n => PySem.MulOk x n ∧ q (.str (Txt.mul x n))
  | _, _ => False
def divD : OpD := fun x y q => match x, y with | .int i, .int j => DivOk j ∧ q (.int (i / j)) | _, _ => False
def modD : OpD := fun x y q => match x, y with | .int i, .int j => 0 < j ∧ q (.int (i % j)) | _, _ => False
def powD : OpD := fun x y q => match x, y with | .int i, .int j => (0 ≤ j ∧ j ≤ 1000000 ∧ Sm 63 i) ∧ q (.int (i ^ j.toNat)) | _, _ => False
def ltD : OpD := fun x y q => match x, y with | .int i, .int j => q (.bl (decide (i < j))) | _, _ => False
def leD : OpD := fun x y q => match x, y with | .int i, .int j => q (.bl (decide (i ≤ j))) | _, _ => False
def gtD : OpD := fun x y q => match x, y with | .int i, .int j => q (.bl (decide (j < i))) | _, _ => False
def geD : OpD := fun x y q => match x, y with | .int i, .int j => q (.bl (decide (j ≤ i))) | _, _ => False
def rAddZ (K : PySem.W.Frag) : R2 := fun x y H Q => rI0 (fun i j => .int (i + j)) x y H Q ∨ (∃ i j, x = .str i ∧ y = .str j ∧ i.length + j.length ≤ sizeLine ∧ Q (.str (i ++ j)) H) ∨ rCatT K x y H Q
theorem o_add {X : Cx} : OpR X (binaryOp .Add) (rAddZ X.K) := OpR.or op_add (OpR.or op_add_str op_catT)
theorem RepL.nil_iff {G : Hp} {vs : List V} {l : List D} (r : RepL K G vs l) : vs = [] ↔ l = [] := by cases r <;> simp
theorem l_add : Lnd K (rAddZ K) addD where
  mo := fun {x y q q'} k h => by
    unfold addD at h ⊢
    split at h
    · exact k _ h
    · exact ⟨h.1, k _ h.2⟩
    · exact ⟨h.1, h.2.1, h.2.2.1, k _ h.2.2.2⟩
    · exact h.elim
  go := fun H G x y dx dy q Q e rx ry h k k' => by
    unfold addD at h
    split at h
    · cases rx; cases ry
      exact .inl ⟨_, _, rfl, rfl, k _ _ h (.int _)⟩
    · cases rx; cases ry
      exact .inr (.inl ⟨_, _, rfl, rfl, by rw [sizeLine_eq]; exact h.1, k _ _ h.2 (.str _)⟩)
    · cases rx with
      | tup sx rx =>
        cases ry with
        | tup sy ry =>
          refine .inr (.inr ⟨_, _, _, _, rfl, rfl, sqTE e sx, sqTE e sy, fun z => h.1 (rx.nil_iff.mp z), sz1 (by rw [rx.len, ry.len]; exact h.2.2.1), fun z => absurd (ry.nil_iff.mp z) h.2.1, fun _ p hp => k' _ _ p h.2.2.2 hp (rx.app ry)⟩)
    · exact h.elim
theorem l_sub : Lnd K (rI0 fun i j => .int (i - j)) subD := lndI (C := fun _ _ => True) (g := fun i j => .int (i - j)) (gv := fun i j => .int (i - j)) (fun {x y q} h => by unfold subD at h; split at h; exact ⟨_, _, rfl, rfl, trivial, h⟩; exact h.elim) (fun _ h => h) (fun _ h => ⟨_, _, rfl, rfl, h⟩) (fun _ _ _ => .int _)
theorem o_mulStr {X : Cx} : OpR X (binaryOp .Mult) (fun x y H Q => ∃ z n, x = .str z ∧ y = .int n ∧ PySem.MulOk z n ∧ Q (.str (Txt.mul z n)) H) := by
  intro pins s σ H x y v u Q I rx ry h
  obtain ⟨z, n, rfl, rfl, hc, q⟩ := h
  obtain ⟨t, rfl⟩ := rx
  obtain ⟨t', rfl⟩ := ry
  exact SB.mul hc fun t2 k2 => ⟨.str _, H, I.tok _, ⟨_, rfl⟩, q⟩
theorem o_mulI {X : Cx} : OpR X (binaryOp .Mult) (rI MulOk fun i j => .int (i * j)) := opI fun _ _ _ _ _ _ _ hc q => mul_int q hc.ok
def rMulZ : R2 := fun x y H Q => rI MulOk (fun i j => .int (i * j)) x y H Q ∨ ∃ z n, x = .str z ∧ y = .int n ∧ PySem.MulOk z n ∧ Q (.str (Txt.mul z n)) H
theorem o_mul {X : Cx} : OpR X (binaryOp .Mult) rMulZ := OpR.or o_mulI o_mulStr
theorem l_mul : Lnd K rMulZ mulD where
  mo := fun {x y q q'} k h => by
    unfold mulD at h ⊢
    split at h
    · exact ⟨h.1, k _ h.2⟩
    · exact ⟨h.1, k _ h.2⟩
    · exact h.elim
  go := fun H G x y dx dy q Q e rx ry h k k' => by
    unfold mulD at h
    split at h
    · cases rx; cases ry
      exact .inl ⟨_, _, rfl, rfl, h.1, k _ _ h.2 (.int _)⟩
    · cases rx; cases ry
      exact .inr ⟨_, _, rfl, rfl, h.1, k _ _ h.2 (.str _)⟩
    · exact h.elim
theorem o_div {X : Cx} : OpR X (binaryOp .FloorDiv) (rI (fun _ j => DivOk j) fun i j => .int (i / j)) := opI fun i j _ _ _ _ _ hc q => by
  have h1 : (0 : Int) < j := hc.1
  exact floordiv_int (by omega) (by rw [Int.fdiv_eq_ediv_of_nonneg i (by omega)]; exact q) (.inl (PyProof.noPylong_of_log2 (Nat.lt_of_lt_of_le (PySem.Flt.log2_lt_of (by decide) hc.2) (by decide))))
theorem l_div : Lnd K (rI (fun _ j => DivOk j) fun i j => .int (i / j)) divD := lndI (C := fun _ j => DivOk j) (g := fun i j => .int (i / j)) (gv := fun i j => .int (i / j)) (fun {x y q} h => by unfold divD at h; split at h; exact ⟨_, _, rfl, rfl, h.1, h.2⟩; exact h.elim) (fun c h => ⟨c, h⟩) (fun c h => ⟨_, _, rfl, rfl, c, h⟩) (fun _ _ _ => .int _)
theorem l_mod : Lnd K (rI (fun _ j => 0 < j) fun i j => .int (i % j)) modD := lndI (C := fun _ j => 0 < j) (g := fun i j => .int (i % j)) (gv := fun i j => .int (i % j)) (fun {x y q} h => by unfold modD at h; split at h; exact ⟨_, _, rfl, rfl, h.1, h.2⟩; exact h.elim) (fun c h => ⟨c, h⟩) (fun c h => ⟨_, _, rfl, rfl, c, h⟩) (fun _ _ _ => .int _)
theorem l_pow : Lnd K (rI CPow fun i j => .int (i ^ j.toNat)) powD := lndI (C := fun i j => 0 ≤ j ∧ j ≤ 1000000 ∧ Sm 63 i) (g := fun i j => .int (i ^ j.toNat)) (gv := fun i j => .int (i ^ j.toNat)) (fun {x y q} h => by unfold powD at h; split at h; exact ⟨_, _, rfl, rfl, h.1, h.2⟩; exact h.elim) (fun c h => ⟨c, h⟩) (fun c h => ⟨_, _, rfl, rfl, ⟨c.1, c.2.1, Sm.le c.2.2 (by decide)⟩, h⟩) (fun _ _ _ => .int _)
theorem l_lt : Lnd K (rI0 fun i j => .bl (decide (i < j))) ltD := lndI (C := fun _ _ => True) (g := fun i j => .bl (decide (i < j))) (gv := fun i j => .bl (decide (i < j))) (fun {x y q} h => by unfold ltD at h; split at h; exact ⟨_, _, rfl, rfl, trivial, h⟩; exact h.elim) (fun _ h => h) (fun _ h => ⟨_, _, rfl, rfl, h⟩) (fun _ _ _ => .bl _)
theorem l_le : Lnd K (rI0 fun i j => .bl (decide (i ≤ j))) leD := lndI (C := fun _ _ => True) (g := fun i j => .bl (decide (i ≤ j))) (gv := fun i j => .bl (decide (i ≤ j))) (fun {x y q} h => by unfold leD at h; split at h; exact ⟨_, _, rfl, rfl, trivial, h⟩; exact h.elim) (fun _ h => h) (fun _ h => ⟨_, _, rfl, rfl, h⟩) (fun _ _ _ => .bl _)
theorem l_gt : Lnd K (rI0 fun i j => .bl (decide (j < i))) gtD := lndI (C := fun _ _ => True) (g := fun i j => .bl (decide (j < i))) (gv := fun i j => .bl (decide (j < i))) (fun {x y q} h => by unfold gtD at h; split at h; exact ⟨_, _, rfl, rfl, trivial, h⟩; exact h.elim) (fun _ h => h) (fun _ h => ⟨_, _, rfl, rfl, h⟩) (fun _ _ _ => .bl _)
theorem l_ge : Lnd K (rI0 fun i j => .bl (decide (j ≤ i))) geD := lndI (C := fun _ _ => True) (g := fun i j => .bl (decide (j ≤ i))) (gv := fun i j => .bl (decide (j ≤ i))) (fun {x y q} h => by unfold geD at h; split at h; exact ⟨_, _, rfl, rfl, trivial, h⟩; exact h.elim) (fun _ h => h) (fun _ h => ⟨_, _, rfl, rfl, h⟩) (fun _ _ _ => .bl _)

/-! ### equality -/
mutual
def py : D → PyData
  | .non => .none
  | .bl b => .bool b
  | .int i => .int i
  | .str x => .str x
  | .tup l => .tuple (pys l)
  | .lst l => .list (pys l)
  | .arr l => .list (pys l)
  | .ref _ => .none
  | .exc _ => .none
def pys : List D → List PyData
  | [] => []
  | d :: l => py d :: pys l
end
mutual
def okD : D → Bool
  | .non => true
  | .bl _ => true
  | .int _ => true
  | .str x => PyData.strOk x
  | .tup l => okDs l
  | .lst l => okDs l
  | .arr l => okDs l
  | .ref _ => false
  | .exc _ => false
def okDs : List D → Bool
  | [] => true
  | d :: l => okD d && okDs l
end
mutual
def dpD : D → Nat
  | .tup l => dpDs l + 1
  | .lst l => dpDs l + 1
  | .arr l => dpDs l + 1
  | .non => 0
  | .bl _ => 0
  | .int _ => 0
  | .str _ => 0
  | .ref _ => 0
  | .exc _ => 0
def dpDs : List D → Nat
  | [] => 0
  | d :: l => max (dpD d) (dpDs l)
end
mutual
theorem dp_of {G H : Hp} (e : Ext G H) : ∀ (d : D) (v : V), Rep K G v d → okD d = true → Dp K H v (py d)
  | .non, _, h, _ => by cases h; exact .non
  | .bl b, _, h, _ => by cases h; exact .bl b
  | .int i, _, h, _ => by cases h; exact .int i
  | .str x, _, h, _ => by cases h; exact .str x
  | .tup l, _, h, o => by
    cases h with
    | tup a b => exact .tup (sqTE e a) (dps_of e l _ b (by simpa [okD] using o))
  | .lst l, _, h, o => by
    cases h with
    | lst a b => exact .lst (.inl (.inl (e _ _ a))) (dps_of e l _ b (by simpa [okD] using o))
  | .arr l, _, h, o => by
    cases h with
    | arr a b => exact .lst (sqLE e a) (dps_of e l _ b (by simpa [okD] using o))
  | .ref p, _, _, o => by simp [okD] at o
  | .exc p, _, _, o => by simp [okD] at o
theorem dps_of {G H : Hp} (e : Ext G H) : ∀ (l : List D) (vs : List V), RepL K G vs l → okDs l = true → DpAll K H vs (pys l)
  | [], _, h, _ => by cases h; exact .nil
  | d :: l, _, h, o => by
    cases h with
    | cons a b =>
      have o' : okD d = true ∧ okDs l = true := by simpa [okDs] using o
      exact .cons (dp_of e d _ a o'.1) (dps_of e l _ b o'.2)
end
mutual
theorem can_of : ∀ d : D, okD d = true → PyData.canLay0 (py d) = true ∧ PyData.depth (py d) = dpD d
  | .non, _ => ⟨by simp [py, PyData.canLay0], by simp [py, PyData.depth, dpD]⟩
  | .bl b, _ => ⟨by simp [py, PyData.canLay0], by simp [py, PyData.depth, dpD]⟩
  | .int i, _ => ⟨by simp [py, PyData.canLay0], by simp [py, PyData.depth, dpD]⟩
  | .str x, o => ⟨by simpa [py, PyData.canLay0, okD] using o, by simp [py, PyData.depth, dpD]⟩
  | .tup l, o => by
    have q := cans_of l (by simpa [okD] using o)
    exact ⟨by simpa [py, PyData.canLay0] using q.1, by simp [py, PyData.depth, dpD, q.2]⟩
  | .lst l, o => by
    have q := cans_of l (by simpa [okD] using o)
    exact ⟨by simpa [py, PyData.canLay0] using q.1, by simp [py, PyData.depth, dpD, q.2]⟩
  | .arr l, o => by
    have q := cans_of l (by simpa [okD] using o)
    exact ⟨by simpa [py, PyData.canLay0] using q.1, by simp [py, PyData.depth, dpD, q.2]⟩
  | .ref p, o => by simp [okD] at o
  | .exc p, o => by simp [okD] at o
theorem cans_of : ∀ l : List D, okDs l = true → PyData.canLayAll0 (pys l) = true ∧ PyData.depthAll (pys l) = dpDs l
  | [], _ => ⟨by simp [pys, PyData.canLayAll0], by simp [pys, PyData.depthAll, dpDs]⟩
  | d :: l, o => by
    have o' : okD d = true ∧ okDs l = true := by simpa [okDs] using o
    have q1 := can_of d o'.1
    have q2 := cans_of l o'.2
    exact ⟨by simp [pys, PyData.canLayAll0, q1.1, q2.1], by simp [pys, PyData.depthAll, dpDs, q1.2, q2.2]⟩
end
def deq (x y : D) : Bool := PyData.eqv (py x) (py y)
def deqs (x y : List D) : Bool := PyData.eqvAll (pys x) (pys y)
def eqD : OpD := fun x y q => match x, y with
  | .str i, .str j => q (.bl (decide (i = j)))
  | .str _, .non => q (.bl false)
  | .non, .str _ => q (.bl false)
  | x, y => (okD x = true ∧ okD y = true ∧ dpD x ≤ 64 ∧ dpD y ≤ 64) ∧ q (.bl (deq x y))
def neD : OpD := fun x y q => eqD x y fun d => match d with | .bl b => q (.bl (!b)) | _ => False
def rEqZ (K : PySem.W.Frag) : R2 := fun x y H Q => rEq x y H Q ∨ rEqD K x y H Q
def rNeZ (K : PySem.W.Frag) : R2 := fun x y H Q => rNe x y H Q ∨ rNeD K x y H Q
theorem o_eq {X : Cx} {k : Nat} (hr : Room k X.A) : OpR X (compareOp .Eq) (rEqZ X.K) := OpR.or op_eq (op_eqD hr.units)
theorem o_ne {X : Cx} {k : Nat} (hr : Room k X.A) : OpR X (compareOp .NotEq) (rNeZ X.K) := OpR.or op_ne (op_neD hr.units)
theorem shp {d : D} (h : okD d = true) (h2 : dpD d ≤ 64) : SeqAt.shaped (py d) = true := by
  have q := can_of d h
  unfold SeqAt.shaped
  rw [q.1, q.2, decide_eq_true h2]
  rfl
theorem l_eq : Lnd K (rEqZ K) eqD where
  mo := fun {x y q q'} k h => by
    unfold eqD at h ⊢
    split at h
    · exact k _ h
    · exact k _ h
    · exact k _ h
    · exact ⟨h.1, k _ h.2⟩
  go := fun H G x y dx dy q Q e rx ry h k _ => by
    unfold eqD at h
    split at h
    · cases rx; cases ry
      rename_i i j
      refine .inl ⟨rfl, ?_⟩
      have z : decide (V.str i = V.str j) = decide (i = j) := by
        by_cases z : i = j
        · subst z; simp
        · rw [decide_eq_false z]; simp [z]
      show Q (.bl (decide (V.str i = V.str j))) H
      rw [z]
      exact k _ _ h (.bl _)
    · cases rx; cases ry
      exact .inl ⟨rfl, k _ _ h (.bl _)⟩
    · cases rx; cases ry
      exact .inl ⟨rfl, k _ _ h (.bl _)⟩
    · exact .inr ⟨_, _, dp_of e _ _ rx h.1.1, dp_of e _ _ ry h.1.2.1, shp h.1.1 h.1.2.2.1, shp h.1.2.1 h.1.2.2.2, k _ _ h.2 (.bl _)⟩
theorem l_ne : Lnd K (rNeZ K) neD where
  mo := fun {x y q q'} k h => l_eq (K := K).mo (fun d h => by
    cases d with
    | bl b => exact k _ h
    | _ => exact h) h
  go := fun H G x y dx dy q Q e rx ry h k _ => by
    unfold neD eqD at h
    split at h
    · cases rx; cases ry
      rename_i i j
      refine .inl ⟨rfl, ?_⟩
      have z : decide (V.str i = V.str j) = decide (i = j) := by
        by_cases z : i = j
        · subst z; simp
        · rw [decide_eq_false z]; simp [z]
      show Q (.bl (!decide (V.str i = V.str j))) H
      rw [z]
      exact k _ _ h (.bl _)
    · cases rx; cases ry
      exact .inl ⟨rfl, k _ _ h (.bl _)⟩
    · cases rx; cases ry
      exact .inl ⟨rfl, k _ _ h (.bl _)⟩
    · exact .inr ⟨_, _, dp_of e _ _ rx h.1.1, dp_of e _ _ ry h.1.2.1, shp h.1.1 h.1.2.2.1, shp h.1.2.1 h.1.2.2.2, k _ _ h.2 (.bl _)⟩
end
end Z

namespace Z
open PySem PySem.Spec PyProof.Rows L2
variable {ω : Type}

/-! ### subscripts -/
section
variable {K : PySem.W.Frag} {G : Hp}
theorem RepL.at {vs : List V} {l : List D} {i : Int} {d : D} (r : RepL K G vs l) (h : atI l i = some d) : ∃ v, atI vs i = some v ∧ Rep K G v d := by
  unfold atI at h ⊢
  rw [r.len]
  cases q : ixN l.length i with
  | none => rw [q] at h; cases h
  | some j =>
    rw [q] at h
    obtain ⟨v, h1, h2⟩ := r.get (i := j) h
    exact ⟨v, h1, h2⟩
def ixD : OpD := fun x y q => match x, y with
  | .tup l, .int i => ∃ d, atI l i = some d ∧ q d
  | .lst l, .int i => ∃ d, atI l i = some d ∧ q d
  | .arr l, .int i => ∃ d, atI l i = some d ∧ q d
  | .str s, .int i => s.length ≤ 16777216 ∧ ∃ c, atI s.cps.toList i = some c ∧ q (.str ⟨#[c]⟩)
  | _, _ => False
theorem l_ix : Lnd K (rIx K) ixD where
  mo := fun {x y q q'} k h => by
    unfold ixD at h ⊢
    split at h
    · obtain ⟨d, h1, h2⟩ := h; exact ⟨d, h1, k _ h2⟩
    · obtain ⟨d, h1, h2⟩ := h; exact ⟨d, h1, k _ h2⟩
    · obtain ⟨d, h1, h2⟩ := h; exact ⟨d, h1, k _ h2⟩
    · obtain ⟨h0, d, h1, h2⟩ := h; exact ⟨h0, d, h1, k _ h2⟩
    · exact h.elim
  go := fun H G x y dx dy q Q e rx ry h k _ => by
    unfold ixD at h
    split at h
    · obtain ⟨d, h1, h2⟩ := h
      cases rx with
      | tup s r =>
        cases ry
        obtain ⟨v, g1, g2⟩ := r.at h1
        exact .inr (.inl ⟨_, _, _, v, rfl, rfl, sqTE e s, g1, k d v h2 g2⟩)
    · obtain ⟨d, h1, h2⟩ := h
      cases rx with
      | lst s r =>
        cases ry
        obtain ⟨v, g1, g2⟩ := r.at h1
        exact .inl ⟨_, _, _, v, rfl, rfl, .inl (.inl (e _ _ s)), g1, k d v h2 g2⟩
    · obtain ⟨d, h1, h2⟩ := h
      cases rx with
      | arr s r =>
        cases ry
        obtain ⟨v, g1, g2⟩ := r.at h1
        exact .inl ⟨_, _, _, v, rfl, rfl, sqLE e s, g1, k d v h2 g2⟩
    · obtain ⟨h0, c, h1, h2⟩ := h
      cases rx
      cases ry
      exact .inr (.inr ⟨_, _, c, rfl, rfl, by rw [sizeLine_eq]; exact h0, h1, k _ _ h2 (.str _)⟩)
    · exact h.elim
end
/-! our own list: an item, the length, a store, append -/
def onOwn (δ : List Sl) (i : Nat) (f : List D → Prop) : Prop := match δ[i]? with | some (.own l) => f l | _ => False
theorem onOwn.of {δ : List Sl} {i : Nat} {f : List D → Prop} (h : onOwn δ i f) : ∃ l, δ[i]? = some (.own l) ∧ f l := by
  unfold onOwn at h
  split at h
  · exact ⟨_, by assumption, h⟩
  · exact h.elim
theorem onOwn.to {δ : List Sl} {i : Nat} {f : List D → Prop} {l : List D} (e : δ[i]? = some (.own l)) (h : f l) : onOwn δ i f := by unfold onOwn; rw [e]; exact h
theorem onOwn.imp {δ : List Sl} {i : Nat} {f g : List D → Prop} (k : ∀ l, f l → g l) (h : onOwn δ i f) : onOwn δ i g := let ⟨_, e, q⟩ := h.of; .to e (k _ q)
def intD (d : D) (f : Int → Prop) : Prop := match d with | .int k => f k | _ => False
theorem intD.of {d : D} {f : Int → Prop} (h : intD d f) : ∃ k, d = .int k ∧ f k := by
  unfold intD at h
  split at h
  · exact ⟨_, rfl, h⟩
  · exact h.elim
theorem intD.imp {d : D} {f g : Int → Prop} (k : ∀ l, f l → g l) (h : intD d f) : intD d g := by obtain ⟨j, rfl, q⟩ := h.of; exact k _ q
def zIxO (i : Nat) (te : TEZ ω) : TEZ ω := fun δ w Q E => onOwn δ i fun l => te δ w (fun d w1 => intD d fun k => ∃ x, atI l k = some x ∧ Q x w1) E
def zLenO (i : Nat) : TEZ ω := fun δ w Q _ => onOwn δ i fun l => Q (.int l.length) w
def zSetO (i : Nat) (tk te : TEZ ω) : TSZ ω := fun DE δ w => te δ w (fun d w1 => onOwn δ i fun l => tk δ w1 (fun k w2 => intD k fun k => ∃ j, ixN l.length k = some j ∧ DE.nx (δ.set i (.own (l.set j d))) w2) (fun e w' => DE.ex e δ w')) (fun e w' => DE.ex e δ w')
def zAppO (i : Nat) (te : TEZ ω) : TSZ ω := fun DE δ w => onOwn δ i fun l => te δ w (fun d w1 => l.length < 100000 ∧ DE.nx (δ.set i (.own (l ++ [d]))) w1) (fun e w' => DE.ex e δ w')
section
variable {X : Cx} {W : Wp ω} {pos pos' p : Pos} {x : Str} {e a : Expr} {te tk : TEZ ω}
theorem SR.own {K : PySem.W.Frag} {Z : Zx} {σ : L2.St} {H G M : Hp} {δ : List Sl} {w : ω} {i : Nat} {l : List D} (a : SR K W Z σ H G M δ w) (e : δ[i]? = some (.own l)) : ∃ p vs, σ[i]? = some (some (.ref p)) ∧ H p = some (.lst vs) ∧ M p = none ∧ RepL K G vs l := by
  obtain ⟨p, vs, h1, h2, h3, h4, h5, h7⟩ := a.sl i _ e
  exact ⟨p, vs, h1, h2, h4, h7⟩
theorem z_ixO (i : Nat) (he : PEZ X W e te) (hN : X.N[i]? = some x := by rfl) (hv : Vis X.env.scope x := by first | exact Or.inl rfl | exact Or.inr (Or.inl rfl) | exact Or.inr (Or.inr rfl)) (hd : (x == ("__debug__" : Str)) = false := by decide)
    (hcd : (x == ("__classdict__" : Str)) = false := by decide) (hs : PlainIx e := by exact fun _ _ => rfl) : PEZ X W (.Subscript (.Name x p) e pos) (zIxO i te) :=
  ⟨fun k h => h.imp fun l h => he.mo (fun d w1 h1 => h1.imp fun j ⟨y, g1, g2⟩ => ⟨y, g1, k _ _ g2⟩) h, fun Z ex tk => peI (pe_ix ix_list (pe_var hN hv hd hcd) (he.run Z ex tk) hs) fun σ H Q ⟨G, M, δ, w, a, h⟩ => by
    obtain ⟨l, hl, h⟩ := h.of
    obtain ⟨p, vs, h1, h2, h3, h4⟩ := a.own hl
    refine ⟨.ref p, h1, G, M, δ, w, a, he.mo (fun d w1 q1 v H1 G1 M1 o1 r1 => ?_) h⟩
    obtain ⟨k, rfl, y, g1, g2⟩ := q1.of
    cases r1
    obtain ⟨u, u1, u2⟩ := (h4.up o1.nx.gg).at g1
    exact ⟨p, vs, k, u, rfl, rfl, .inl (.inl (o1.nx.fr p _ h2 h3)), u1, g2 u H1 G1 M1 o1 u2⟩⟩
theorem z_lenO (i : Nat) {pc : Pos} (hm : X.mg "len" = none) (hN : X.N[i]? = some x := by rfl) (hv : Vis X.env.scope x := by first | exact Or.inl rfl | exact Or.inr (Or.inl rfl) | exact Or.inr (Or.inr rfl)) (hd : (x == ("__debug__" : Str)) = false := by decide)
    (hcd : (x == ("__classdict__" : Str)) = false := by decide) (hg : Gl X "len" := by rfl) : PEZ X W (.Call (.Name "len" pc) [.Name x p] [] pos) (zLenO i) :=
  ⟨fun k h => h.imp fun l h => k _ _ h, fun Z ex tk => peI (pe_callB call_len_seq hg hm PySem.boot_len (pa_cons (pe_var hN hv hd hcd) pa_nil)) fun σ H Q ⟨G, M, δ, w, a, h⟩ => by
    obtain ⟨l, hl, h⟩ := h.of
    obtain ⟨p, vs, h1, h2, h3, h4⟩ := a.own hl
    refine ⟨.ref p, h1, p, vs, rfl, .inl (.inl (.inl h2)), ?_⟩
    rw [h4.len]
    exact h _ H G M a.here (.int _)⟩
theorem z_setO (i : Nat) (hk : PEZ X W e tk) (he : PEZ X W a te) (hN : X.N[i]? = some x := by rfl) (hv : Vis X.env.scope x := by first | exact Or.inl rfl | exact Or.inr (Or.inl rfl) | exact Or.inr (Or.inr rfl)) (hd : (x == ("__debug__" : Str)) = false := by decide)
    (hcd : (x == ("__classdict__" : Str)) = false := by decide) (hs : swapsWithSole [.Subscript (.Name x p) e pos'] a pos.line X.env = pure false := by rfl) (hw : swappedStores [.Subscript (.Name x p) e pos'] a X.env = pure none := by rfl)
    (h1 : (assignEach [.Subscript (.Name x p) e pos'] X.env).map (·.2) = [assign (.Subscript (.Name x p) e pos') X.env] := by rfl)
    (ha : ∀ v, assign (.Subscript (.Name x p) e pos') X.env v = (do
      let ov ← holding [v] (eval (.Name x p) X.env)
      let iv ← holding [v, ov] (eval e X.env)
      standAt pos'
      holding [v, ov, iv] (setItem ov iv v)
      release [v, ov, iv] []) := by intro _; rfl) : PSZ X W (.Assign [.Subscript (.Name x p) e pos'] a pos) (zSetO i tk te) := fun Z ex tk' =>
  psI (ps_asg (he.run Z ex tk') (pg_sub (pe_var hN hv hd hcd) (hk.run Z ex tk') set_list ha) hs hw h1) fun DE σ H ⟨Dz, hex, EI, G, M, δ, w, a, h⟩ => by
  subst hex
  refine ⟨G, M, δ, w, a, he.mo (fun d w1 q1 v H1 G1 M1 o1 r1 => ?_) h⟩
  have a1 := a.go o1
  obtain ⟨l, hl, q⟩ := q1.of
  obtain ⟨p, vs, h1, h2, h3, h4⟩ := a1.own hl
  refine ⟨.ref p, h1, G1, M1, δ, w1, a1, hk.mo (fun d2 w2 q2 v2 H2 G2 M2 o2 r2 => ?_) q⟩
  obtain ⟨k, rfl, j, g1, g2⟩ := q2.of
  cases r2
  have r4 := h4.up o2.nx.gg
  exact ⟨p, vs, k, j, rfl, rfl, o2.nx.fr p _ h2 h3, by rw [r4.len]; exact g1, EI.nx _ _ ⟨G2, M2, _, w2, (a1.go o2).change hl h1 (RepL.set (r1.up o2.nx.gg) j r4), g2⟩⟩
theorem z_appO (i : Nat) {pm : Pos} (he : PEZ X W e te) (hN : X.N[i]? = some x := by rfl) (hv : Vis X.env.scope x := by first | exact Or.inl rfl | exact Or.inr (Or.inl rfl) | exact Or.inr (Or.inr rfl)) (hd : (x == ("__debug__" : Str)) = false := by decide)
    (hcd : (x == ("__classdict__" : Str)) = false := by decide) (hs : swapsWith (.Call (.Attribute (.Name x p) "append" pm) [e] [] pos') none pos.line X.env = pure false := by rfl)
    (hpe : ∀ {t : TE}, PE X e t → PE X (.Call (.Attribute (.Name x p) "append" pm) [e] [] pos') (tBM X.K "list" rAppend (tVar i) (tCons t tNil)) := by
      intro t ht
      exact pe_bm PySem.F.plainAttrs_list PySem.F.slot_list_append PySem.F.type_list_append mt_append (pv _) (pa_cons ht pa_nil)) :
    PSZ X W (.Expr (.Call (.Attribute (.Name x p) "append" pm) [e] [] pos') pos) (zAppO i te) := fun Z ex tk =>
  psI (ps_expr (hpe (he.run Z ex tk)) hs) fun DE σ H ⟨Dz, hex, EI, G, M, δ, w, a, h⟩ => by
  subst hex
  obtain ⟨l, hl, h⟩ := h.of
  obtain ⟨p, vs, h1, h2, h3, h4⟩ := a.own hl
  refine ⟨.ref p, h1, .inl ⟨rfl, _, SqL.of h2⟩, G, M, δ, w, a, he.mo (fun d w1 q1 v H1 G1 M1 o1 r1 => ?_) h⟩
  have a1 := a.go o1
  have r4 := h4.up o1.nx.gg
  refine ⟨p, vs, v, rfl, rfl, o1.nx.fr p _ h2 h3, by rw [r4.len, sizeLine_eq]; omega, EI.nx _ _ ⟨G1, M1, _, w1, a1.change hl h1 (r4.app (.cons r1 .nil)), q1.2⟩⟩
end
end Z

namespace Z
open PySem PySem.Spec PyProof.Rows L2
variable {ω : Type}

/-! ### calls of what is built in -/
structure LndC (K : PySem.W.Frag) (rc : List V → Hp → VK → Prop) (r : List D → (D → Prop) → Prop) : Prop where
  mo : ∀ {l : List D} {q q' : D → Prop}, (∀ d, q d → q' d) → r l q → r l q'
  go : ∀ (H G : Hp) (vs : List V) (l : List D) (q : D → Prop) (Q : VK), Ext G H → RepL K G vs l → r l q → (∀ d v, q d → Rep K G v d → Q v H) → (∀ m us p, q (.tup m) → H p = none → RepL K G us m → Q (.ref p) (upd H p (.tup us))) → rc vs H Q
structure LndF (K : PySem.W.Frag) (rc : List V → Hp → VK → Prop) (r : List D → (List D → Prop) → Prop) : Prop where
  mo : ∀ {l : List D} {q q' : List D → Prop}, (∀ d, q d → q' d) → r l q → r l q'
  go : ∀ (H G : Hp) (vs : List V) (l : List D) (q : List D → Prop) (Q : VK), Ext G H → RepL K G vs l → r l q → (∀ m us p, q m → H p = none → RepL K G us m → Q (.ref p) (upd H p (.lst us))) → rc vs H Q
def zB1 (r : List D → (D → Prop) → Prop) (ta : TAZ ω) : TEZ ω := fun δ w Q E => ta δ w (fun l w1 => r l fun d => Q d w1) E
def zBF (r : List D → (List D → Prop) → Prop) (ta : TAZ ω) : TAZ ω := fun δ w Q E => ta δ w (fun l w1 => r l fun m => Q m w1) E
section
variable {X : Cx} {W : Wp ω} {pos p : Pos} {x : Str} {e : Expr} {es : List Expr} {ta : TAZ ω} {rc : List V → Hp → VK → Prop} {r : List D → (D → Prop) → Prop} {rf : List D → (List D → Prop) → Prop}
theorem zb1_core (hl : LndC X.K rc r) (ha : PAZ X W (e :: es) ta) {Z : Zx} {ex : Nat → List Sl → ω → Prop} {σ : L2.St} {H : Hp} {Q : VK} (h : liE X.K W Z ex (zB1 r ta) σ H Q) : tCB rc (liA X.K W Z ex ta) σ H Q := by
  obtain ⟨G, M, δ, w, a, h⟩ := h
  exact ⟨G, M, δ, w, a, ha.mo (fun l w1 h1 vs H1 G1 M1 o1 r1 => hl.go H1 G1 vs l _ Q o1.pt.gh r1 h1 (fun d v q rv => q v H1 G1 M1 o1 rv) (fun m us p q hp ru => q (.ref p) _ _ _ (o1.new hp) (.tup (SqT.of upd_same) (ru.up (o1.ext hp))))) h⟩
theorem zbf_core (hl : LndF X.K rc rf) (ha : PAZ X W (e :: es) ta) {Z : Zx} {ex : Nat → List Sl → ω → Prop} {σ : L2.St} {H : Hp} {Q : VK} (h : liF X.K W Z ex (zBF rf ta) σ H Q) : tCB rc (liA X.K W Z ex ta) σ H Q := by
  obtain ⟨G, M, δ, w, a, h⟩ := h
  exact ⟨G, M, δ, w, a, ha.mo (fun l w1 h1 vs H1 G1 M1 o1 r1 => hl.go H1 G1 vs l _ Q o1.pt.gh r1 h1 (fun m us p q hp ru => q p us _ _ _ (o1.laid hp) ru (.of o1 a.pt.mh hp))) h⟩
theorem z_bi {id : String} (hc : CallR X (.builtin id) rc) (hl : LndC X.K rc r) (hm : X.mg x = none) (hv : bootBuiltins x = some (.builtin id)) (ha : PAZ X W (e :: es) ta) (hg : Gl X x := by rfl) (hn : x ≠ "__name__" := by decide) (hdb : (x == ("__debug__" : Str)) = false := by decide)
    (he : starEach (e :: es) X.env = (false, eval e X.env) :: starEach es X.env := by rfl) (hpl : (backTo pos (starEach es X.env)).any (·.1) = false := by rfl) : PEZ X W (.Call (.Name x p) (e :: es) [] pos) (zB1 r ta) :=
  ⟨fun k h => ha.mo (fun l w1 h1 => hl.mo (fun d q => k d _ q) h1) h, fun Z ex tk => peI (pe_callB hc hg hm hv (ha.run Z ex tk) hn hdb he hpl) fun σ H Q h => zb1_core hl ha h⟩
theorem z_bt {id : String} (hc : CallR X (.type id) rc) (hl : LndC X.K rc r) (hm : X.mg x = none) (hv : bootBuiltins x = some (.type id)) (ha : PAZ X W (e :: es) ta) (hg : Gl X x := by rfl) (hn : x ≠ "__name__" := by decide) (hdb : (x == ("__debug__" : Str)) = false := by decide)
    (he : starEach (e :: es) X.env = (false, eval e X.env) :: starEach es X.env := by rfl) (hpl : (backTo pos (starEach es X.env)).any (·.1) = false := by rfl) : PEZ X W (.Call (.Name x p) (e :: es) [] pos) (zB1 r ta) :=
  ⟨fun k h => ha.mo (fun l w1 h1 => hl.mo (fun d q => k d _ q) h1) h, fun Z ex tk => peI (pe_callTy hc hg hm hv (ha.run Z ex tk) hn hdb he hpl) fun σ H Q h => zb1_core hl ha h⟩
theorem z_bif {id : String} (hc : CallR X (.builtin id) rc) (hl : LndF X.K rc rf) (hm : X.mg x = none) (hv : bootBuiltins x = some (.builtin id)) (ha : PAZ X W (e :: es) ta) (hg : Gl X x := by rfl) (hn : x ≠ "__name__" := by decide) (hdb : (x == ("__debug__" : Str)) = false := by decide)
    (he : starEach (e :: es) X.env = (false, eval e X.env) :: starEach es X.env := by rfl) (hpl : (backTo pos (starEach es X.env)).any (·.1) = false := by rfl) : PFZ X W (.Call (.Name x p) (e :: es) [] pos) (zBF rf ta) :=
  ⟨fun k h => ha.mo (fun l w1 h1 => hl.mo (fun d q => k d _ q) h1) h, fun Z ex tk => peI (pe_callB hc hg hm hv (ha.run Z ex tk) hn hdb he hpl) fun σ H Q h => zbf_core hl ha h⟩
theorem z_btf {id : String} (hc : CallR X (.type id) rc) (hl : LndF X.K rc rf) (hm : X.mg x = none) (hv : bootBuiltins x = some (.type id)) (ha : PAZ X W (e :: es) ta) (hg : Gl X x := by rfl) (hn : x ≠ "__name__" := by decide) (hdb : (x == ("__debug__" : Str)) = false := by decide)
    (he : starEach (e :: es) X.env = (false, eval e X.env) :: starEach es X.env := by rfl) (hpl : (backTo pos (starEach es X.env)).any (·.1) = false := by rfl) : PFZ X W (.Call (.Name x p) (e :: es) [] pos) (zBF rf ta) :=
  ⟨fun k h => ha.mo (fun l w1 h1 => hl.mo (fun d q => k d _ q) h1) h, fun Z ex tk => peI (pe_callTy hc hg hm hv (ha.run Z ex tk) hn hdb he hpl) fun σ H Q h => zbf_core hl ha h⟩
end
/-! what they ask and give -/
def oneD (l : List D) (f : D → Prop) : Prop := match l with | [d] => f d | _ => False
def twoI (l : List D) (f : Int → Int → Prop) : Prop := match l with | [.int i, .int j] => f i j | _ => False
theorem oneD.of {l : List D} {f : D → Prop} (h : oneD l f) : ∃ d, l = [d] ∧ f d := by
  unfold oneD at h
  split at h
  · exact ⟨_, rfl, h⟩
  · exact h.elim
theorem twoI.of {l : List D} {f : Int → Int → Prop} (h : twoI l f) : ∃ i j, l = [.int i, .int j] ∧ f i j := by
  unfold twoI at h
  split at h
  · exact ⟨_, _, rfl, h⟩
  · exact h.elim
def lenD (l : List D) (q : D → Prop) : Prop := oneD l fun d => match d with
  | .tup m => q (.int m.length) | .lst m => q (.int m.length) | .arr m => q (.int m.length) | .str s => s.length ≤ 16777216 ∧ q (.int s.length) | _ => False
def absD (l : List D) (q : D → Prop) : Prop := oneD l fun d => intD d fun i => q (.int i.natAbs)
def maxD (l : List D) (q : D → Prop) : Prop := twoI l fun i j => q (.int (max i j))
def minD (l : List D) (q : D → Prop) : Prop := twoI l fun i j => q (.int (min i j))
def intC (l : List D) (q : D → Prop) : Prop := oneD l fun d => match d with
  | .int i => q (.int i) | .bl b => (b = true → q (.int 1)) ∧ (b = false → q (.int 0)) | .str s => ∃ n, PySem.intText? s = some n ∧ s.length ≤ 640 ∧ q (.int n) | _ => False
def strC (l : List D) (q : D → Prop) : Prop := oneD l fun d => intD d fun i => Sm 1900 i ∧ q (.str (toString i))
def sumC (l : List D) (q : D → Prop) : Prop := oneD l fun d => match d with | .lst m => ∃ ns : List Int, m = ns.map D.int ∧ q (.int ns.sum) | .arr m => ∃ ns : List Int, m = ns.map D.int ∧ q (.int ns.sum) | _ => False
def tupC (l : List D) (q : D → Prop) : Prop := oneD l fun d => match d with | .lst m => q (.tup m) | .tup m => q (.tup m) | _ => False
def lstC (l : List D) (q : List D → Prop) : Prop := oneD l fun d => match d with | .lst m => q m | .tup m => q m | .arr m => q m | _ => False
def maxC (l : List D) (q : D → Prop) : Prop := oneD l fun d => match d with | .lst m => ∃ ns : List Int, m = ns.map D.int ∧ 0 < ns.length ∧ ∀ m, m ∈ ns → (∀ y, y ∈ ns → y ≤ m) → q (.int m) | _ => False
def minC (l : List D) (q : D → Prop) : Prop := oneD l fun d => match d with | .lst m => ∃ ns : List Int, m = ns.map D.int ∧ 0 < ns.length ∧ ∀ m, m ∈ ns → (∀ y, y ∈ ns → m ≤ y) → q (.int m) | _ => False
def sortC (l : List D) (q : List D → Prop) : Prop := oneD l fun d => match d with | .lst m => ∃ ns : List Int, m = ns.map D.int ∧ ns.length < 64 ∧ ∀ ns' : List Int, ns'.Perm ns → ns'.Pairwise (· ≤ ·) → q (ns'.map D.int) | _ => False
section
variable {K : PySem.W.Frag}
theorem one_rep {G : Hp} {vs : List V} {d : D} (r : RepL K G vs [d]) : ∃ v, vs = [v] ∧ Rep K G v d := by
  cases r with
  | cons a b => cases b; exact ⟨_, rfl, a⟩
theorem two_rep {G : Hp} {vs : List V} {i j : Int} (r : RepL K G vs [.int i, .int j]) : vs = [.int i, .int j] := by
  cases r with
  | cons a b =>
    cases a
    cases b with
    | cons a b => cases a; cases b; rfl
theorem oneD.imp {l : List D} {f g : D → Prop} (k : ∀ d, f d → g d) (h : oneD l f) : oneD l g := by obtain ⟨d, rfl, q⟩ := h.of; exact k d q
theorem twoI.imp {l : List D} {f g : Int → Int → Prop} (k : ∀ i j, f i j → g i j) (h : twoI l f) : twoI l g := by obtain ⟨i, j, rfl, q⟩ := h.of; exact k i j q
theorem lc_len : LndC K (fun xs H Q => ∃ x n, xs = [x] ∧ LenV K x H n ∧ Q (.int n) H) lenD where
  mo := fun k h => h.imp fun d h => by
    split at h
    · exact k _ h
    · exact k _ h
    · exact k _ h
    · exact ⟨h.1, k _ h.2⟩
    · exact h.elim
  go := fun H G vs l q Q e r h k _ => by
    have hh := h.of; clear h; obtain ⟨d, rfl, h⟩ := hh
    have rr := one_rep r; clear r; obtain ⟨v, rfl, r⟩ := rr
    split at h
    · cases r with
      | tup s r => exact ⟨_, _, rfl, .inr ⟨_, sqTE e s, rfl⟩, by rw [r.len]; exact k _ _ h (.int _)⟩
    · cases r with
      | lst s r => exact ⟨_, _, rfl, .inl ⟨_, .inl (.inl (e _ _ s)), rfl⟩, by rw [r.len]; exact k _ _ h (.int _)⟩
    · cases r with
      | arr s r => exact ⟨_, _, rfl, .inl ⟨_, sqLE e s, rfl⟩, by rw [r.len]; exact k _ _ h (.int _)⟩
    · cases r
      exact ⟨_, _, rfl, ⟨by rw [sizeLine_eq]; exact h.1, rfl⟩, k _ _ h.2 (.int _)⟩
    · exact h.elim
theorem lc_abs : LndC K (fun xs H Q => ∃ i, xs = [.int i] ∧ Q (.int (if i < 0 then -i else i)) H) absD where
  mo := fun k h => h.imp fun d h => h.imp fun i h => k _ h
  go := fun H G vs l q Q e r h k _ => by
    have hh := h.of; clear h; obtain ⟨d, rfl, h⟩ := hh
    have hh := h.of; clear h; obtain ⟨i, rfl, h⟩ := hh
    have rr := one_rep r; clear r; obtain ⟨v, rfl, r⟩ := rr
    cases r
    refine ⟨i, rfl, ?_⟩
    have z : (if i < 0 then -i else i) = (i.natAbs : Int) := by split <;> omega
    rw [z]
    exact k _ _ h (.int _)
theorem lc_max : LndC K (fun xs H Q => ∃ i j, xs = [.int i, .int j] ∧ Q (.int (if j > i then j else i)) H) maxD where
  mo := fun k h => h.imp fun i j h => k _ h
  go := fun H G vs l q Q e r h k _ => by
    have hh := h.of; clear h; obtain ⟨i, j, rfl, h⟩ := hh
    obtain rfl := two_rep r
    refine ⟨i, j, rfl, ?_⟩
    have z : (if j > i then j else i) = max i j := by split <;> omega
    rw [z]
    exact k _ _ h (.int _)
theorem lc_min : LndC K (fun xs H Q => ∃ i j, xs = [.int i, .int j] ∧ Q (.int (if j < i then j else i)) H) minD where
  mo := fun k h => h.imp fun i j h => k _ h
  go := fun H G vs l q Q e r h k _ => by
    have hh := h.of; clear h; obtain ⟨i, j, rfl, h⟩ := hh
    obtain rfl := two_rep r
    refine ⟨i, j, rfl, ?_⟩
    have z : (if j < i then j else i) = min i j := by split <;> omega
    rw [z]
    exact k _ _ h (.int _)
theorem lc_int : LndC K (fun xs H Q => ((∃ i, xs = [.int i] ∧ Q (.int i) H) ∨ ∃ k, xs = [.bl k] ∧ Q (.int (if k then 1 else 0)) H) ∨ (∃ a n, xs = [.str a] ∧ PySem.intText? a = some n ∧ a.length ≤ 640 ∧ Q (.int n) H)) intC where
  mo := fun k h => h.imp fun d h => by
    split at h
    · exact k _ h
    · exact ⟨fun e => k _ (h.1 e), fun e => k _ (h.2 e)⟩
    · obtain ⟨n, h1, h2, h3⟩ := h; exact ⟨n, h1, h2, k _ h3⟩
    · exact h.elim
  go := fun H G vs l q Q e r h k _ => by
    have hh := h.of; clear h; obtain ⟨d, rfl, h⟩ := hh
    have rr := one_rep r; clear r; obtain ⟨v, rfl, r⟩ := rr
    split at h
    · cases r; exact .inl (.inl ⟨_, rfl, k _ _ h (.int _)⟩)
    · rename_i b
      cases r
      refine .inl (.inr ⟨_, rfl, ?_⟩)
      cases b with
      | true => exact k _ _ (h.1 rfl) (.int _)
      | false => exact k _ _ (h.2 rfl) (.int _)
    · cases r
      obtain ⟨n, h1, h2, h3⟩ := h
      exact .inr ⟨_, n, rfl, h1, h2, k _ _ h3 (.int _)⟩
    · exact h.elim
theorem lc_str : LndC K (fun xs H Q => ∃ i, xs = [.int i] ∧ i.natAbs.log2 < 1920 ∧ Q (.str (toString i)) H) strC where
  mo := fun k h => h.imp fun d h => h.imp fun i h => ⟨h.1, k _ h.2⟩
  go := fun H G vs l q Q e r h k _ => by
    have hh := h.of; clear h; obtain ⟨d, rfl, h⟩ := hh
    have hh := h.of; clear h; obtain ⟨i, rfl, h⟩ := hh
    have rr := one_rep r; clear r; obtain ⟨v, rfl, r⟩ := rr
    cases r
    exact ⟨i, rfl, Nat.lt_of_lt_of_le (PySem.Flt.log2_lt_of (by decide) h.1) (by decide), k _ _ h.2 (.str _)⟩
theorem lc_sum : LndC K (rSum K) sumC where
  mo := fun k h => h.imp fun d h => by
    split at h
    · obtain ⟨ns, h1, h2⟩ := h; exact ⟨ns, h1, k _ h2⟩
    · obtain ⟨ns, h1, h2⟩ := h; exact ⟨ns, h1, k _ h2⟩
    · exact h.elim
  go := fun H G vs l q Q e r h k _ => by
    have hh := h.of; clear h; obtain ⟨d, rfl, h⟩ := hh
    have rr := one_rep r; clear r; obtain ⟨v, rfl, r⟩ := rr
    split at h
    · obtain ⟨ns, rfl, h⟩ := h
      cases r with
      | lst s r =>
        obtain rfl := r.ints
        exact ⟨_, ns, rfl, .inl (.inl (e _ _ s)), k _ _ h (.int _)⟩
    · obtain ⟨ns, rfl, h⟩ := h
      cases r with
      | arr s r =>
        obtain rfl := r.ints
        exact ⟨_, ns, rfl, sqLE e s, k _ _ h (.int _)⟩
    · exact h.elim
theorem lc_tup : LndC K (fun xs H Q => ∃ p ys, xs = [.ref p] ∧ ((SqL K H p ys ∧ ∀ l, H l = none → Q (.ref l) (upd H l (.tup ys))) ∨ (SqT K H p ys ∧ Q (.ref p) H))) tupC where
  mo := fun k h => h.imp fun d h => by
    split at h
    · exact k _ h
    · exact k _ h
    · exact h.elim
  go := fun H G vs l q Q e r h k k' => by
    have hh := h.of; clear h; obtain ⟨d, rfl, h⟩ := hh
    have rr := one_rep r; clear r; obtain ⟨v, rfl, r⟩ := rr
    split at h
    · cases r with
      | lst s r => exact ⟨_, _, rfl, .inl ⟨.inl (.inl (e _ _ s)), fun p hp => k' _ _ p h hp r⟩⟩
    · cases r with
      | tup s r => exact ⟨_, _, rfl, .inr ⟨sqTE e s, k _ _ h (.tup s r)⟩⟩
    · exact h.elim
theorem lf_list : LndF K (fun xs H Q => ∃ p ys, xs = [.ref p] ∧ (SqL K H p ys ∨ SqT K H p ys) ∧ ∀ l, H l = none → Q (.ref l) (upd H l (.lst ys))) lstC where
  mo := fun k h => h.imp fun d h => by
    split at h
    · exact k _ h
    · exact k _ h
    · exact k _ h
    · exact h.elim
  go := fun H G vs l q Q e r h k => by
    have hh := h.of; clear h; obtain ⟨d, rfl, h⟩ := hh
    have rr := one_rep r; clear r; obtain ⟨v, rfl, r⟩ := rr
    split at h
    · cases r with
      | lst s r => exact ⟨_, _, rfl, .inl (.inl (.inl (e _ _ s))), fun p hp => k _ _ p h hp r⟩
    · cases r with
      | tup s r => exact ⟨_, _, rfl, .inr (sqTE e s), fun p hp => k _ _ p h hp r⟩
    · cases r with
      | arr s r => exact ⟨_, _, rfl, .inl (sqLE e s), fun p hp => k _ _ p h hp r⟩
    · exact h.elim
theorem lc_maxL : LndC K (rMax K) maxC where
  mo := fun k h => h.imp fun d h => by
    split at h
    · obtain ⟨ns, h1, h2, h3⟩ := h; exact ⟨ns, h1, h2, fun m a b => k _ (h3 m a b)⟩
    · exact h.elim
  go := fun H G vs l q Q e r h k _ => by
    have hh := h.of; clear h; obtain ⟨d, rfl, h⟩ := hh
    have rr := one_rep r; clear r; obtain ⟨v, rfl, r⟩ := rr
    split at h
    · obtain ⟨ns, rfl, h0, h⟩ := h
      cases r with
      | lst s r =>
        obtain rfl := r.ints
        exact ⟨_, ns, rfl, .inl (.inl (e _ _ s)), h0, fun m a b => k _ _ (h m a b) (.int _)⟩
    · exact h.elim
theorem lc_minL : LndC K (rMin K) minC where
  mo := fun k h => h.imp fun d h => by
    split at h
    · obtain ⟨ns, h1, h2, h3⟩ := h; exact ⟨ns, h1, h2, fun m a b => k _ (h3 m a b)⟩
    · exact h.elim
  go := fun H G vs l q Q e r h k _ => by
    have hh := h.of; clear h; obtain ⟨d, rfl, h⟩ := hh
    have rr := one_rep r; clear r; obtain ⟨v, rfl, r⟩ := rr
    split at h
    · obtain ⟨ns, rfl, h0, h⟩ := h
      cases r with
      | lst s r =>
        obtain rfl := r.ints
        exact ⟨_, ns, rfl, .inl (.inl (e _ _ s)), h0, fun m a b => k _ _ (h m a b) (.int _)⟩
    · exact h.elim
theorem lf_sort : LndF K (rSorted K) sortC where
  mo := fun k h => h.imp fun d h => by
    split at h
    · obtain ⟨ns, h1, h2, h3⟩ := h; exact ⟨ns, h1, h2, fun m a b => k _ (h3 m a b)⟩
    · exact h.elim
  go := fun H G vs l q Q e r h k => by
    have hh := h.of; clear h; obtain ⟨d, rfl, h⟩ := hh
    have rr := one_rep r; clear r; obtain ⟨v, rfl, r⟩ := rr
    split at h
    · obtain ⟨ns, rfl, h0, h⟩ := h
      cases r with
      | lst s r =>
        obtain rfl := r.ints
        exact ⟨_, ns, rfl, .inl (.inl (e _ _ s)), h0, fun ns' p a b hp => k _ _ p (h ns' a b) hp (.ofInts _)⟩
    · exact h.elim
end
section
variable {X : Cx} {W : Wp ω} {pos p : Pos} {e e2 : Expr} {ta : TAZ ω}
theorem z_len (hm : X.mg "len" = none) (ha : PAZ X W [e] ta) (hg : Gl X "len" := by rfl) (he : starEach [e] X.env = [(false, eval e X.env)] := by rfl) : PEZ X W (.Call (.Name "len" p) [e] [] pos) (zB1 lenD ta) := z_bi call_len lc_len hm PySem.boot_len ha hg (by decide) (by decide) he rfl
theorem z_abs (hm : X.mg "abs" = none) (ha : PAZ X W [e] ta) (hg : Gl X "abs" := by rfl) (he : starEach [e] X.env = [(false, eval e X.env)] := by rfl) : PEZ X W (.Call (.Name "abs" p) [e] [] pos) (zB1 absD ta) := z_bi call_abs lc_abs hm (by decide +kernel) ha hg (by decide) (by decide) he rfl
theorem z_max (hm : X.mg "max" = none) (ha : PAZ X W [e, e2] ta) (hc : X.calm = true := by rfl) (hg : Gl X "max" := by rfl) (he : starEach [e, e2] X.env = (false, eval e X.env) :: starEach [e2] X.env := by rfl) (hpl : (backTo pos (starEach [e2] X.env)).any (·.1) = false := by rfl) :
    PEZ X W (.Call (.Name "max" p) [e, e2] [] pos) (zB1 maxD ta) := z_bi (call_max2 hc) lc_max hm (by decide +kernel) ha hg (by decide) (by decide) he hpl
theorem z_min (hm : X.mg "min" = none) (ha : PAZ X W [e, e2] ta) (hc : X.calm = true := by rfl) (hg : Gl X "min" := by rfl) (he : starEach [e, e2] X.env = (false, eval e X.env) :: starEach [e2] X.env := by rfl) (hpl : (backTo pos (starEach [e2] X.env)).any (·.1) = false := by rfl) :
    PEZ X W (.Call (.Name "min" p) [e, e2] [] pos) (zB1 minD ta) := z_bi (call_min2 hc) lc_min hm (by decide +kernel) ha hg (by decide) (by decide) he hpl
theorem z_intC (hm : X.mg "int" = none) (ha : PAZ X W [e] ta) (hg : Gl X "int" := by rfl) (he : starEach [e] X.env = [(false, eval e X.env)] := by rfl) : PEZ X W (.Call (.Name "int" p) [e] [] pos) (zB1 intC ta) := z_bt (CallR.or call_int1 call_int_str) lc_int hm (by decide +kernel) ha hg (by decide) (by decide) he rfl
theorem z_strC (hm : X.mg "str" = none) (ha : PAZ X W [e] ta) (hg : Gl X "str" := by rfl) (he : starEach [e] X.env = [(false, eval e X.env)] := by rfl) : PEZ X W (.Call (.Name "str" p) [e] [] pos) (zB1 strC ta) := z_bt call_str_int lc_str hm (by decide +kernel) ha hg (by decide) (by decide) he rfl
theorem z_sum (hm : X.mg "sum" = none) (ha : PAZ X W [e] ta) (hc : X.calm = true := by rfl) (hg : Gl X "sum" := by rfl) (he : starEach [e] X.env = [(false, eval e X.env)] := by rfl) : PEZ X W (.Call (.Name "sum" p) [e] [] pos) (zB1 sumC ta) := z_bi (cr_sum hc) lc_sum hm (by decide +kernel) ha hg (by decide) (by decide) he rfl
theorem z_tupC (hm : X.mg "tuple" = none) (ha : PAZ X W [e] ta) (hg : Gl X "tuple" := by rfl) (he : starEach [e] X.env = [(false, eval e X.env)] := by rfl) : PEZ X W (.Call (.Name "tuple" p) [e] [] pos) (zB1 tupC ta) := z_bt call_tuple_of lc_tup hm (by decide +kernel) ha hg (by decide) (by decide) he rfl
theorem z_lstC (hm : X.mg "list" = none) (ha : PAZ X W [e] ta) (hg : Gl X "list" := by rfl) (he : starEach [e] X.env = [(false, eval e X.env)] := by rfl) : PFZ X W (.Call (.Name "list" p) [e] [] pos) (zBF lstC ta) := z_btf call_list_of lf_list hm (by decide +kernel) ha hg (by decide) (by decide) he rfl
theorem z_maxC (hm : X.mg "max" = none) (ha : PAZ X W [e] ta) (hc : X.calm = true := by rfl) (hg : Gl X "max" := by rfl) (he : starEach [e] X.env = [(false, eval e X.env)] := by rfl) : PEZ X W (.Call (.Name "max" p) [e] [] pos) (zB1 maxC ta) := z_bi (cr_max hc) lc_maxL hm (by decide +kernel) ha hg (by decide) (by decide) he rfl
theorem z_minC (hm : X.mg "min" = none) (ha : PAZ X W [e] ta) (hc : X.calm = true := by rfl) (hg : Gl X "min" := by rfl) (he : starEach [e] X.env = [(false, eval e X.env)] := by rfl) : PEZ X W (.Call (.Name "min" p) [e] [] pos) (zB1 minC ta) := z_bi (cr_min hc) lc_minL hm (by decide +kernel) ha hg (by decide) (by decide) he rfl
theorem z_sort (hm : X.mg "sorted" = none) (ha : PAZ X W [e] ta) (hg : Gl X "sorted" := by rfl) (he : starEach [e] X.env = [(false, eval e X.env)] := by rfl) : PFZ X W (.Call (.Name "sorted" p) [e] [] pos) (zBF sortC ta) := z_bif cr_sorted lf_sort hm (by decide +kernel) ha hg (by decide) (by decide) he rfl
end

/-! ### is None, isinstance -/
def isNon : D → Bool | .non => true | _ => false
def isND : OpD := fun x y q => match y with | .non => q (.bl (isNon x)) | _ => False
def notND : OpD := fun x y q => match y with | .non => q (.bl (!isNon x)) | _ => False
theorem isNon_rep {K : PySem.W.Frag} {G : Hp} {v : V} {d : D} (r : Rep K G v d) : decide (v = .non) = isNon d := by cases r <;> rfl
section
variable {K : PySem.W.Frag}
theorem l_isN : Lnd K (fun x y H Q => y = .non ∧ Q (.bl (decide (x = .non))) H) isND where
  mo := fun {x y q q'} k h => by
    unfold isND at h ⊢
    split at h
    · exact k _ h
    · exact h.elim
  go := fun H G x y dx dy q Q e rx ry h k _ => by
    unfold isND at h
    split at h
    · cases ry
      exact ⟨rfl, by rw [isNon_rep rx]; exact k _ _ h (.bl _)⟩
    · exact h.elim
theorem l_notN : Lnd K (fun x y H Q => y = .non ∧ Q (.bl (!decide (x = .non))) H) notND where
  mo := fun {x y q q'} k h => by
    unfold notND at h ⊢
    split at h
    · exact k _ h
    · exact h.elim
  go := fun H G x y dx dy q Q e rx ry h k _ => by
    unfold notND at h
    split at h
    · cases ry
      exact ⟨rfl, by rw [isNon_rep rx]; exact k _ _ h (.bl _)⟩
    · exact h.elim
end
def tyN : D → Option String
  | .non => some "NoneType" | .bl _ => some "bool" | .int _ => some "int" | .str _ => some "str" | .tup _ => some "tuple" | .lst _ => some "list" | .arr _ => some "list" | .ref _ => none | .exc _ => none
theorem tyX_of {K : PySem.W.Frag} {G H : Hp} (e : Ext G H) {v : V} {d : D} (r : Rep K G v d) {t : String} (h : tyN d = some t) : TyX K H v (.type t) := by
  cases r with
  | non => cases h; exact .base .non
  | bl b => cases h; exact .base (.bl b)
  | int i => cases h; exact .base (.int i)
  | str x => cases h; exact .base (.str x)
  | tup s r =>
    cases h
    rcases s with (s | ⟨o, s⟩) | ⟨o, its, n, s, c, _⟩
    · exact .base (.tup (e _ _ s))
    · exact .fTuple (e _ _ s)
    · exact .kTuple s c
  | lst s r => cases h; exact .base (.lst (e _ _ s))
  | arr s r =>
    cases h
    rcases s with (s | ⟨o, s⟩) | ⟨o, its, n, s, c, _⟩
    · exact .base (.lst (e _ _ s))
    · exact .base (.frz (e _ _ s))
    · exact .kList s c
  | ref p => cases h
  | exc _ => cases h
/-- isinstance(x, T), T built in; f its answer -/
def zIs (f : D → Option Bool) (te : TEZ ω) : TEZ ω := fun δ w Q E => te δ w (fun d w1 => match f d with | some b => Q (.bl b) w1 | none => False) E
section
variable {X : Cx} {W : Wp ω} {pos p p2 : Pos} {e : Expr} {te : TEZ ω}
theorem z_isT {x : Str} {T : String} {f : D → Option Bool} (hf : ∀ d b, f d = some b → ∃ t, tyN d = some t ∧ kitB t T = some b) (hm : X.mg "isinstance" = none) (hm2 : X.mg x = none) (hv : bootBuiltins x = some (.type T)) (he : PEZ X W e te) (hg : Gl X "isinstance" := by rfl) (hg2 : Gl X x := by rfl)
    (hn : x ≠ "__name__" := by decide) (hdb : (x == ("__debug__" : Str)) = false := by decide) (hs : starEach [e, .Name x p2] X.env = (false, eval e X.env) :: starEach [.Name x p2] X.env := by rfl) (hs2 : starEach [.Name x p2] X.env = (false, eval (.Name x p2) X.env) :: starEach [] X.env := by rfl)
    (hpl : (backTo pos (starEach [.Name x p2] X.env)).any (·.1) = false := by rfl) : PEZ X W (.Call (.Name "isinstance" p) [e, .Name x p2] [] pos) (zIs f te) :=
  ⟨fun k h => he.mo (fun d w1 h1 => by
    split at h1
    · exact k _ _ h1
    · exact h1.elim) h, fun Z ex tk => peI (pe_callB call_isi hg hm (by decide +kernel) (pa_cons (he.run Z ex tk) (pa_cons (pe_bltn (v := .ty T) hg2 hm2 hv rfl hn hdb) pa_nil hs2) hs) (by decide) (by decide) hs hpl) fun σ H Q ⟨G, M, δ, w, a, h⟩ =>
    ⟨G, M, δ, w, a, he.mo (fun d w1 h1 v H1 G1 M1 o1 r1 => by
      split at h1
      · rename_i b hb
        obtain ⟨t, h2, h3⟩ := hf d b hb
        exact ⟨v, .ty T, .type t, .type T, b, rfl, .ty T, tyX_of o1.pt.gh r1 h2, kit_ty h3, h1 _ H1 G1 M1 o1 (.bl b)⟩
      · exact h1.elim) h⟩⟩
def isInt : D → Option Bool | .int _ => some true | .bl _ => some true | .ref _ => none | .exc _ => none | _ => some false
def isBool : D → Option Bool | .bl _ => some true | .ref _ => none | .exc _ => none | _ => some false
def isStr : D → Option Bool | .str _ => some true | .ref _ => none | .exc _ => none | _ => some false
def isTup : D → Option Bool | .tup _ => some true | .ref _ => none | .exc _ => none | _ => some false
def isLst : D → Option Bool | .lst _ => some true | .arr _ => some true | .ref _ => none | .exc _ => none | _ => some false
theorem isInt_ok (d : D) (b : Bool) (h : isInt d = some b) : ∃ t, tyN d = some t ∧ kitB t "int" = some b := by
  cases d <;> cases h <;> exact ⟨_, rfl, by decide +kernel⟩
theorem isBool_ok (d : D) (b : Bool) (h : isBool d = some b) : ∃ t, tyN d = some t ∧ kitB t "bool" = some b := by
  cases d <;> cases h <;> exact ⟨_, rfl, by decide +kernel⟩
theorem isStr_ok (d : D) (b : Bool) (h : isStr d = some b) : ∃ t, tyN d = some t ∧ kitB t "str" = some b := by
  cases d <;> cases h <;> exact ⟨_, rfl, by decide +kernel⟩
theorem isTup_ok (d : D) (b : Bool) (h : isTup d = some b) : ∃ t, tyN d = some t ∧ kitB t "tuple" = some b := by
  cases d <;> cases h <;> exact ⟨_, rfl, by decide +kernel⟩
theorem isLst_ok (d : D) (b : Bool) (h : isLst d = some b) : ∃ t, tyN d = some t ∧ kitB t "list" = some b := by
  cases d <;> cases h <;> exact ⟨_, rfl, by decide +kernel⟩
theorem boot_int' : bootBuiltins "int" = some (.type "int") := by decide +kernel
theorem boot_bool' : bootBuiltins "bool" = some (.type "bool") := by decide +kernel
theorem boot_str' : bootBuiltins "str" = some (.type "str") := by decide +kernel
theorem boot_tuple' : bootBuiltins "tuple" = some (.type "tuple") := by decide +kernel
theorem boot_list' : bootBuiltins "list" = some (.type "list") := by decide +kernel
end

/-! ### slices -/
abbrev TOZ (ω : Type) := List Sl → ω → (Option Int → ω → Prop) → (Nat → ω → Prop) → Prop
def zON : TOZ ω := fun _ w Q _ => Q none w
def zOS (te : TEZ ω) : TOZ ω := fun δ w Q E => te δ w (fun d w1 => intD d fun k => Q (some k) w1) E
def liO (K : PySem.W.Frag) (W : Wp ω) (Z : Zx) (ex : Nat → List Sl → ω → Prop) (te : TOZ ω) : TO := fun σ H Q => ∃ G M δ w, SR K W Z σ H G M δ w ∧ te δ w (fun b w' => ∀ H' G' M', Go W H G M H' G' M' w' → Q b H') (fun e w' => ex e δ w')
structure POZ (X : Cx) (W : Wp ω) (e : Option Expr) (te : TOZ ω) : Prop where
  mo : Mo te
  run : ∀ (Z : Zx) (ex : Nat → List Sl → ω → Prop), Takes X (WXz X.K W Z ex) → PO X e (liO X.K W Z ex te)
theorem poI {X : Cx} {e : Option Expr} {t u : TO} (h : PO X e u) (i : ∀ σ H Q, t σ H Q → u σ H Q) : PO X e t := ⟨fun pins s σ H Q I q => h.run pins s σ H Q I (i _ _ _ q)⟩
section
variable {X : Cx} {W : Wp ω} {pos p p2 : Pos} {e : Expr} {te : TEZ ω} {lo hi : Option Expr} {tl th : TOZ ω}
theorem z_oN : POZ X W none zON := ⟨fun k h => k _ _ h, fun Z ex tk => poI po_none fun σ H Q ⟨G, M, δ, w, a, h⟩ => h H G M a.here⟩
theorem z_oS (h : PEZ X W e te) : POZ X W (some e) (zOS te) := ⟨fun k q => h.mo (fun d w1 q1 => q1.imp fun i q2 => k _ _ q2) q, fun Z ex tk => poI (po_some (h.run Z ex tk)) fun σ H Q ⟨G, M, δ, w, a, q⟩ =>
  ⟨G, M, δ, w, a, h.mo (fun d w1 q1 v H1 G1 M1 o1 r1 => by
    obtain ⟨i, rfl, q2⟩ := q1.of
    cases r1
    exact ⟨i, rfl, q2 H1 G1 M1 o1⟩) q⟩⟩
def cutD (l : List D) (lo hi : Option Int) : List D := (l.drop (HT.sIx l.length 0 lo)).take (HT.sIx l.length l.length hi - HT.sIx l.length 0 lo)
def seqD (d : D) (f : List D → Prop) : Prop := match d with | .lst l => f l | .arr l => f l | _ => False
theorem seqD.imp {d : D} {f g : List D → Prop} (k : ∀ l, f l → g l) (h : seqD d f) : seqD d g := by cases d <;> first | exact k _ h | exact h
theorem seqD.of {K : PySem.W.Frag} {G : Hp} {v : V} {d : D} {f : List D → Prop} (h : seqD d f) (r : Rep K G v d) : ∃ p vs l, v = .ref p ∧ SqL K G p vs ∧ RepL K G vs l ∧ f l := by
  cases d with
  | lst l => cases r with | lst s r => exact ⟨_, _, _, rfl, .inl (.inl s), r, h⟩
  | arr l => cases r with | arr s r => exact ⟨_, _, _, rfl, s, r, h⟩
  | _ => exact False.elim h
/-- xs[lo:hi], a new list -/
def zSlL (te : TEZ ω) (tl th : TOZ ω) : TAZ ω := fun δ w Q E => te δ w (fun d w1 => tl δ w1 (fun a w2 => th δ w2 (fun b w3 => seqD d fun l => Q (cutD l a b) w3) E) E) E
theorem z_slL (he : PEZ X W e te) (hl : POZ X W lo tl) (hu : POZ X W hi th) : PFZ X W (.Subscript e (.Slice lo hi none p2) pos) (zSlL te tl th) :=
  ⟨fun k h => he.mo (fun _ _ h1 => hl.mo (fun _ _ h2 => hu.mo (fun _ _ h3 => h3.imp fun l q => k _ _ q) h2) h1) h, fun Z ex tk => peI (pe_slice sl_list (he.run Z ex tk) (hl.run Z ex tk) (hu.run Z ex tk)) fun σ H Q ⟨G, M, δ, w, a, h⟩ =>
    ⟨G, M, δ, w, a, he.mo (fun d w1 h1 v H1 G1 M1 o1 r1 => ⟨G1, M1, δ, w1, a.go o1, hl.mo (fun lo w2 h2 H2 G2 M2 o2 => ⟨G2, M2, δ, w2, a.go (o1.tr o2), hu.mo (fun hi w3 h3 H3 G3 M3 o3 => by
      obtain ⟨p, vs, l, rfl, s, r, q⟩ := h3.of r1
      have e3 := (o2.tr o3).nx.gg
      refine ⟨p, vs, rfl, sqLE (e3.tr o3.pt.gh) s, fun p' hp => ?_⟩
      have r3 : RepL X.K G3 (cutV vs lo hi) (cutD l lo hi) := by
        unfold cutV cutD
        rw [r.len]
        exact (((r.up e3).drop _).take _)
      exact q p' _ _ _ _ ((((o1.tr o2).tr o3)).laid hp) r3 (.of ((o1.tr o2).tr o3) a.pt.mh hp)) h2⟩) h1⟩) h⟩⟩
/-- s[lo:hi], a text -/
def zSlS (te : TEZ ω) (tl th : TOZ ω) : TEZ ω := fun δ w Q E => te δ w (fun d w1 => tl δ w1 (fun a w2 => th δ w2 (fun b w3 => match d with | .str z => z.length ≤ 16777216 ∧ Q (.str (cutS z a b)) w3 | _ => False) E) E) E
theorem z_slS (he : PEZ X W e te) (hl : POZ X W lo tl) (hu : POZ X W hi th) : PEZ X W (.Subscript e (.Slice lo hi none p2) pos) (zSlS te tl th) :=
  ⟨fun k h => he.mo (fun d _ h1 => hl.mo (fun _ _ h2 => hu.mo (fun _ _ h3 => by
    split at h3
    · exact ⟨h3.1, k _ _ h3.2⟩
    · exact h3.elim) h2) h1) h, fun Z ex tk => peI (pe_slice sl_str (he.run Z ex tk) (hl.run Z ex tk) (hu.run Z ex tk)) fun σ H Q ⟨G, M, δ, w, a, h⟩ =>
    ⟨G, M, δ, w, a, he.mo (fun d w1 h1 v H1 G1 M1 o1 r1 => ⟨G1, M1, δ, w1, a.go o1, hl.mo (fun lo w2 h2 H2 G2 M2 o2 => ⟨G2, M2, δ, w2, a.go (o1.tr o2), hu.mo (fun hi w3 h3 H3 G3 M3 o3 => by
      split at h3
      · cases r1
        exact ⟨_, rfl, by rw [sizeLine_eq]; exact h3.1, h3.2 _ H3 G3 M3 ((o1.tr o2).tr o3) (.str _)⟩
      · exact h3.elim) h2⟩) h1⟩) h⟩⟩
/-- t[lo:hi], a tuple, not the whole of it -/
def zSlT (te : TEZ ω) (tl th : TOZ ω) : TEZ ω := fun δ w Q E => te δ w (fun d w1 => tl δ w1 (fun a w2 => th δ w2 (fun b w3 => match d with | .tup l => ¬ (HT.sIx l.length 0 a = 0 ∧ HT.sIx l.length l.length b = l.length) ∧ Q (.tup (cutD l a b)) w3 | _ => False) E) E) E
theorem z_slT (he : PEZ X W e te) (hl : POZ X W lo tl) (hu : POZ X W hi th) : PEZ X W (.Subscript e (.Slice lo hi none p2) pos) (zSlT te tl th) :=
  ⟨fun k h => he.mo (fun d _ h1 => hl.mo (fun _ _ h2 => hu.mo (fun _ _ h3 => by
    split at h3
    · exact ⟨h3.1, k _ _ h3.2⟩
    · exact h3.elim) h2) h1) h, fun Z ex tk => peI (pe_slice sl_tup (he.run Z ex tk) (hl.run Z ex tk) (hu.run Z ex tk)) fun σ H Q ⟨G, M, δ, w, a, h⟩ =>
    ⟨G, M, δ, w, a, he.mo (fun d w1 h1 v H1 G1 M1 o1 r1 => ⟨G1, M1, δ, w1, a.go o1, hl.mo (fun lo w2 h2 H2 G2 M2 o2 => ⟨G2, M2, δ, w2, a.go (o1.tr o2), hu.mo (fun hi w3 h3 H3 G3 M3 o3 => by
      cases d with
      | tup l =>
        cases r1 with
        | @tup p vs _ s r =>
          have e3 := (o2.tr o3).nx.gg
          refine ⟨p, vs, rfl, sqTE (e3.tr o3.pt.gh) s, by rw [r.len]; exact h3.1, fun p' hp => ?_⟩
          have r3 : RepL X.K G3 (cutV vs lo hi) (cutD l lo hi) := by
            unfold cutV cutD
            rw [r.len]
            exact (((r.up e3).drop _).take _)
          exact h3.2 (.ref p') _ _ _ (((o1.tr o2).tr o3).new hp) (.tup (SqT.of upd_same) (r3.up (o3.ext hp)))
      | _ => exact False.elim h3) h2⟩) h1⟩) h⟩⟩
/-- xs[::-1] -/
def zRev (te : TEZ ω) : TAZ ω := fun δ w Q E => te δ w (fun d w1 => seqD d fun l => Q l.reverse w1) E
theorem z_rev {k : Nat} {p1 p3 : Pos} (he : PEZ X W e te) : PFZ X W (.Subscript e (.Slice none none (some (.UnaryOp .USub (.Constant (.int 1) k p1) p2)) p3) pos) (zRev te) :=
  ⟨fun k h => he.mo (fun d w1 h1 => h1.imp fun l q => k _ _ q) h, fun Z ex tk => peI (pe_revL (he.run Z ex tk)) fun σ H Q ⟨G, M, δ, w, a, h⟩ =>
    ⟨G, M, δ, w, a, he.mo (fun d w1 h1 v H1 G1 M1 o1 r1 => by
      obtain ⟨p, vs, l, rfl, s, r, q⟩ := h1.of r1
      exact ⟨p, vs, rfl, sqLE o1.pt.gh s, fun p' hp => q p' _ _ _ _ (o1.laid hp) r.rev (.of o1 a.pt.mh hp)⟩) h⟩⟩
/-- xs + ys, a new list -/
def zCat (ta tb : TEZ ω) : TAZ ω := fun δ w Q E => ta δ w (fun x w1 => tb δ w1 (fun y w2 => match x, y with | .lst l, .lst m => l.length + m.length ≤ 100000 ∧ Q (l ++ m) w2 | _, _ => False) E) E
theorem z_cat {a b : Expr} {ta tb : TEZ ω} (ha : PEZ X W a ta) (hb : PEZ X W b tb) : PFZ X W (.BinOp a .Add b pos) (zCat ta tb) :=
  ⟨fun k h => ha.mo (fun _ _ h1 => hb.mo (fun _ _ h2 => by
    split at h2
    · exact ⟨h2.1, k _ _ h2.2⟩
    · exact h2.elim) h1) h, fun Z ex tk => peI (pe_op op_cat (ha.run Z ex tk) (hb.run Z ex tk)) fun σ H Q ⟨G, M, δ, w, a0, h⟩ =>
    ⟨G, M, δ, w, a0, ha.mo (fun d w1 h1 v H1 G1 M1 o1 r1 => ⟨G1, M1, δ, w1, a0.go o1, hb.mo (fun d2 w2 h2 v2 H2 G2 M2 o2 r2 => by
      split at h2
      · cases r1 with
        | lst s r =>
          cases r2 with
          | lst s2 r2 =>
            refine ⟨_, _, _, _, rfl, rfl, o2.pt.gh _ _ (o2.nx.gg _ _ s), o2.pt.gh _ _ s2, sz1 (by rw [r.len, r2.len]; exact h2.1), fun p hp => ?_⟩
            exact h2.2 p _ _ _ _ ((o1.tr o2).laid hp) ((r.up o2.nx.gg).app r2) (.of (o1.tr o2) a0.pt.mh hp)
      · exact h2.elim) h1⟩) h⟩⟩
end
end Z

namespace Z
open PySem PySem.Spec PyProof.Rows L2
variable {ω : Type}

/-! ### comprehensions -/
def NoE : Nat → ω → Prop := fun _ _ => False
/-- no test -/
def zYes : TTZ ω := fun _ w Q _ => Q true w
/-- one turn after another; vs: the comprehension's own slots -/
def zComp (l : List D) (gz : TGZ) (tt : TTZ ω) (te : TEZ ω) (vs : List Nat) (δ : List Sl) (w : ω) (Q : List D → ω → Prop) : Prop :=
  l.length ≤ 100000 ∧ ∃ I : Nat → List D → ω → Prop, I 0 [] w ∧ (∀ i d acc w', l[i]? = some d → I i acc w' → gz d (wipeZ δ vs) fun δ2 => tt δ2 w' (fun b w2 => (b = true → te δ2 w2 (fun y w3 => I (i + 1) (acc ++ [y]) w3) NoE) ∧ (b = false → I (i + 1) acc w2)) NoE) ∧
    ∀ acc w', I l.length acc w' → Q acc w'
theorem zComp.imp {l : List D} {gz : TGZ} {tt : TTZ ω} {te : TEZ ω} {vs : List Nat} {δ : List Sl} {w : ω} {Q Q' : List D → ω → Prop} (k : ∀ l w, Q l w → Q' l w) (h : zComp l gz tt te vs δ w Q) : zComp l gz tt te vs δ w Q' := by
  obtain ⟨h0, I, h1, h2, h3⟩ := h
  exact ⟨h0, I, h1, h2, fun acc w' q => k _ _ (h3 acc w' q)⟩
def rngD (lo : Int) (n : Nat) : List D := (List.range n).map fun (i : Nat) => .int (lo + (i : Int))
theorem rngD_at {lo : Int} {n i : Nat} (h : i < n) : (rngD lo n)[i]? = some (.int (lo + (i : Int))) := by
  unfold rngD
  rw [List.getElem?_map, List.getElem?_range h]
  rfl
theorem rngD_len (lo : Int) (n : Nat) : (rngD lo n).length = n := by unfold rngD; rw [List.length_map, List.length_range]
/-- a target whose slots are wiped behind it -/
def Wiped (g : TG) (vs : List Nat) : Prop := ∀ (x : V) (σ : L2.St) (H : Hp) (Q : L2.St → Hp → Prop), g x (L2.wipe σ vs) H Q → g x (L2.wipe σ vs) H fun σ2 H2 => L2.wipe σ2 vs = L2.wipe σ vs ∧ Q σ2 H2
theorem wiped_name (j : Nat) : Wiped (gName j) [j] := fun x σ H Q h => ⟨by show ((σ.set j none).set j (some x)).set j none = σ.set j none; rw [List.set_set, List.set_set], h⟩
/-- the context of a comprehension's block lets nothing out -/
theorem tkN {Y : Cx} {W : Wp ω} {Z : Zx} : Takes Y (WXz Y.K W Z fun _ _ _ => False) := takes0.imp fun c d σ H ⟨_, e, _, G, M, δ, w, a, q⟩ => q.elim
structure CompOk (X : Cx) (W : Wp ω) (scope : Scope) (tg elt : Expr) (ifs : List Expr) (g : TG) (gz : TGZ) (tt : TTZ ω) (te : TEZ ω) : Prop where
  hg : ∀ (s : Shared) (H : Hp) (C : Addr) (cl : List (Str × Addr)) (fp : List Addr), PG (X.blk s H scope (compEnvC scope cl C X.env) fp) tg g
  gg : GoG X.K g gz
  ht : ∀ (s : Shared) (H : Hp) (C : Addr) (cl : List (Str × Addr)) (fp : List Addr) (Z : Zx), PTs (X.blk s H scope (compEnvC scope cl C X.env) fp) ifs (liT X.K W Z (fun _ _ _ => False) tt)
  mt : Shared → Mo tt
  he : ∀ (s : Shared) (H : Hp) (C : Addr) (cl : List (Str × Addr)) (fp : List Addr), PEZ (X.blk s H scope (compEnvC scope cl C X.env) fp) W elt te
  mo : Shared → Mo te
def liN (K : PySem.W.Frag) (W : Wp ω) (te : TEZ ω) : TE := fun σ H Q => ∃ Z, liE K W Z (fun _ _ _ => False) te σ H Q
def liNT (K : PySem.W.Frag) (W : Wp ω) (te : TTZ ω) : TT := fun σ H Q => ∃ Z, liT K W Z (fun _ _ _ => False) te σ H Q
section
variable {X : Cx} {W : Wp ω} {pos : Pos} {scope : Scope} {tg elt iter : Expr} {ifs : List Expr} {g : TG} {gz : TGZ} {tt : TTZ ω} {te : TEZ ω} {own : List (Str × Nat)}
theorem CompOk.pe (C : CompOk X W scope tg elt ifs g gz tt te) (s : Shared) (H : Hp) (Ca : Addr) (cl : List (Str × Addr)) (fp : List Addr) : PE (X.blk s H scope (compEnvC scope cl Ca X.env) fp) elt (liN X.K W te) :=
  ⟨fun pins s' σ H' Q I ⟨Z, q⟩ => ((C.he s H Ca cl fp).run Z _ tkN).run pins s' σ H' Q I q⟩
theorem CompOk.pt (C : CompOk X W scope tg elt ifs g gz tt te) (s : Shared) (H : Hp) (Ca : Addr) (cl : List (Str × Addr)) (fp : List Addr) : PTs (X.blk s H scope (compEnvC scope cl Ca X.env) fp) ifs (liNT X.K W tt) :=
  ⟨fun pins s' σ H' Q I ⟨Z, q⟩ => (C.ht s H Ca cl fp Z).run pins s' σ H' Q I q⟩
/-- the list at D grows; all else stands -/
def CInv (K : PySem.W.Frag) (W : Wp ω) (H G M : Hp) (Dl : Addr) (I : Nat → List D → ω → Prop) (i : Nat) (H' : Hp) : Prop :=
  ∃ G' M' w' vs acc, Go W H G M H' G' M' w' ∧ NewAt H H' G' M' Dl vs ∧ RepL K G' vs acc ∧ acc.length ≤ i ∧ I i acc w'
theorem comp_turn {Z : Zx} {σ : L2.St} {H G M : Hp} {δ : List Sl} {w : ω} {Dl : Addr} {I : Nat → List D → ω → Prop} {i : Nat} {H' : Hp} {d : D} {v : V} {vs : List Nat} (hgz : GoG X.K g gz) (mt : Mo tt) (mo : Mo te) (hw : Wiped g vs) (a : SR X.K W Z σ H G M δ w) (hi : i < 100000) (rv : Rep X.K G v d) (c : CInv X.K W H G M Dl I i H')
    (hs : ∀ acc w', I i acc w' → gz d (wipeZ δ vs) fun δ2 => tt δ2 w' (fun b w2 => (b = true → te δ2 w2 (fun y w3 => I (i + 1) (acc ++ [y]) w3) NoE) ∧ (b = false → I (i + 1) acc w2)) NoE) :
    g v (L2.wipe σ vs) H' fun σ2 H2 => L2.wipe σ2 vs = L2.wipe σ vs ∧ liNT X.K W tt σ2 H2 fun b H3 =>
      if b = true then liN X.K W te σ2 H3 fun y H4 => ∃ acc, H4 Dl = some (.lst acc) ∧ acc.length < sizeLine ∧ CInv X.K W H G M Dl I (i + 1) (upd H4 Dl (.lst (acc ++ [y]))) else CInv X.K W H G M Dl I (i + 1) H3 := by
  obtain ⟨G1, M1, w1, us, acc, o1, n1, r1, hl, q⟩ := c
  refine hw v σ H' _ ?_
  have a1 := (a.go o1).wipe vs
  refine hgz.go W Z (L2.wipe σ vs) H' G1 M1 (wipeZ δ vs) w1 v d _ _ a1 (rv.up o1.nx.gg) (hs acc w1 q) fun σ2 δ2 q2 a2 => ?_
  -- what grows is changed at Dl alone
  have grow : ∀ {H3 G3 M3 : Hp} {w3 : ω} {u : V} {y : D}, Go W H' G1 M1 H3 G3 M3 w3 → Rep X.K G3 u y → I (i + 1) (acc ++ [y]) w3 → ∃ acc, H3 Dl = some (.lst acc) ∧ acc.length < sizeLine ∧ CInv X.K W H G M Dl I (i + 1) (upd H3 Dl (.lst (acc ++ [u]))) := by
    intro H3 G3 M3 w3 u y o3 ru qi
    obtain ⟨m1, m2, m3, m4⟩ := n1
    have h3 := o3.nx.fr Dl _ m2 m4
    have g3 : G3 Dl = none := by
      cases z : G3 Dl with
      | none => rfl
      | some t => rw [o3.nx.gn Dl t z m3] at m2; cases m2
    have k3 : M3 Dl = none := by
      cases z : M3 Dl with
      | none => rfl
      | some t => rw [o3.nx.mn Dl t z m4] at m2; cases m2
    have r3 := r1.up o3.nx.gg
    have o := o1.tr o3
    refine ⟨us, h3, by rw [r1.len, sizeLine_eq]; omega, G3, M3, w3, us ++ [u], acc ++ [y], ⟨⟨fun p x e => ?_, fun p x e => ?_, o.pt.dj, o.pt.wd⟩, ⟨o.nx.gg, fun p x e e' => ?_, o.nx.gn, o.nx.mn, o.nx.m0⟩⟩, ⟨m1, upd_same, g3, k3⟩, r3.app (.cons ru .nil), by rw [List.length_append]; exact Nat.succ_le_succ hl, qi⟩
    · rw [upd_ne (ne_of_none e g3)]; exact o.pt.gh p x e
    · rw [upd_ne (ne_of_none e k3)]; exact o.pt.mh p x e
    · rw [upd_ne (ne_of_none e m1)]; exact o.nx.fr p x e e'
  refine ⟨Z, G1, M1, δ2, w1, a2, mt (fun b w2 q3 H3 G3 M3 o3 => ?_) q2⟩
  cases b with
  | true =>
    rw [if_pos rfl]
    refine ⟨Z, G3, M3, δ2, w2, a2.go o3, mo (fun y w4 q4 u H4 G4 M4 o4 r4 => grow (o3.tr o4) r4 q4) (q3.1 rfl)⟩
  | false =>
    rw [if_neg Bool.false_ne_true]
    obtain ⟨m1, m2, m3, m4⟩ := n1
    refine ⟨G3, M3, w2, us, acc, o1.tr o3, ⟨m1, o3.nx.fr Dl _ m2 m4, ?_, ?_⟩, r1.up o3.nx.gg, Nat.le_succ_of_le hl, q3.2 rfl⟩
    · cases z : G3 Dl with
      | none => rfl
      | some t => rw [o3.nx.gn Dl t z m3] at m2; cases m2
    · cases z : M3 Dl with
      | none => rfl
      | some t => rw [o3.nx.mn Dl t z m4] at m2; cases m2
theorem c_start {K : PySem.W.Frag} {W : Wp ω} {H G M : Hp} {w : ω} {Dl : Addr} {I : Nat → List D → ω → Prop} (p : Pt W H G M w) (hD : H Dl = none) (h : I 0 [] w) : CInv K W H G M Dl I 0 (upd H Dl (.lst [])) := by
  have o : Go W H G M H G M w := ⟨p, .rfl'⟩
  exact ⟨G, M, w, [], [], o.laid hD, .of o p.mh hD, .nil, Nat.le_refl _, h⟩
/-- [elt for x in xs if ..], xs a list; a tuple; a range -/
def zLcL (ti : TEZ ω) (gz : TGZ) (tt : TTZ ω) (te : TEZ ω) (vs : List Nat) : TAZ ω := fun δ w Q E => ti δ w (fun d w1 => seqD d fun l => zComp l gz tt te vs δ w1 Q) E
def zLcT (ti : TEZ ω) (gz : TGZ) (tt : TTZ ω) (te : TEZ ω) (vs : List Nat) : TAZ ω := fun δ w Q E => ti δ w (fun d w1 => match d with | .tup l => zComp l gz tt te vs δ w1 Q | _ => False) E
def zLcR1 (ta : TAZ ω) (gz : TGZ) (tt : TTZ ω) (te : TEZ ω) (vs : List Nat) : TAZ ω := fun δ w Q E => ta δ w (fun l w1 => oneD l fun d => intD d fun n => zComp (rngD 0 n.toNat) gz tt te vs δ w1 Q) E
def zLcR2 (ta : TAZ ω) (gz : TGZ) (tt : TTZ ω) (te : TEZ ω) (vs : List Nat) : TAZ ω := fun δ w Q E => ta δ w (fun l w1 => twoI l fun m n => zComp (rngD m (n - m).toNat) gz tt te vs δ w1 Q) E
theorem imp_lcL {ti : TEZ ω} {vs : List Nat} {Z : Zx} {ex : Nat → List Sl → ω → Prop} (hi : PEZ X W iter ti) (s0 : Shared) (C : CompOk X W scope tg elt ifs g gz tt te) (hw : Wiped g vs) {σ : L2.St} {H : Hp} {Q : VK} (h : liF X.K W Z ex (zLcL ti gz tt te vs) σ H Q) :
    tLc (iList X.K (liE X.K W Z ex ti)) g (liNT X.K W tt) (liN X.K W te) vs σ H Q := by
  obtain ⟨G, M, δ, w, a, h⟩ := h
  refine ⟨G, M, δ, w, a, hi.mo (fun d w1 h1 v H1 G1 M1 o1 r1 => ?_) h⟩
  obtain ⟨p, us, l, rfl, s, r, hlen, I, i0, is, id⟩ := h1.of r1
  have a1 := a.go o1
  refine ⟨p, rfl, ⟨us, sqLE o1.pt.gh s⟩, fun Dl hD => ?_⟩
  refine lc_list (K := X.K) (a := p) (xs := us) (CInv X.K W H1 G1 M1 Dl I) (c_start o1.pt hD i0) ?_ ?_ ?_
  · rintro i H2 _ ⟨G2, M2, w2, us2, acc, o2, n2, r2, q2⟩
    exact sqLE (o2.nx.gg.tr o2.pt.gh) s
  · intro i x H2 hx c
    obtain ⟨d2, hd, rd⟩ := r.getV hx
    exact comp_turn C.gg (C.mt s0) (C.mo s0) hw a1 (by have := (List.getElem?_eq_some_iff.mp hd).1; omega) rd c fun acc w' q => is i d2 acc w' hd q
  · rintro H2 ⟨G2, M2, w2, us2, acc, o2, n2, r2, hl2, q2⟩
    rw [r.len] at q2
    exact id acc w2 q2 Dl us2 H2 G2 M2 (o1.tr o2) r2 ⟨o1.nx.back o1.pt.mh hD, n2.2⟩
theorem imp_lcT {ti : TEZ ω} {vs : List Nat} {Z : Zx} {ex : Nat → List Sl → ω → Prop} (hi : PEZ X W iter ti) (s0 : Shared) (C : CompOk X W scope tg elt ifs g gz tt te) (hw : Wiped g vs) {σ : L2.St} {H : Hp} {Q : VK} (h : liF X.K W Z ex (zLcT ti gz tt te vs) σ H Q) :
    tLc (iTup X.K (liE X.K W Z ex ti)) g (liNT X.K W tt) (liN X.K W te) vs σ H Q := by
  obtain ⟨G, M, δ, w, a, h⟩ := h
  refine ⟨G, M, δ, w, a, hi.mo (fun d w1 h1 v H1 G1 M1 o1 r1 => ?_) h⟩
  cases d with
  | tup l =>
    cases r1 with
    | @tup p us _ s r =>
      obtain ⟨hlen, I, i0, is, id⟩ := h1
      have a1 := a.go o1
      refine ⟨p, rfl, ⟨us, sqTE o1.pt.gh s⟩, fun Dl hD => ?_⟩
      refine L2.lc_tup (K := X.K) (a := p) (xs := us) (CInv X.K W H1 G1 M1 Dl I) (c_start o1.pt hD i0) ?_ ?_ ?_
      · rintro i H2 _ ⟨G2, M2, w2, us2, acc, o2, n2, r2, q2⟩
        exact sqTE (o2.nx.gg.tr o2.pt.gh) s
      · intro i x H2 hx c
        obtain ⟨d2, hd, rd⟩ := r.getV hx
        exact comp_turn C.gg (C.mt s0) (C.mo s0) hw a1 (by have := (List.getElem?_eq_some_iff.mp hd).1; omega) rd c fun acc w' q => is i d2 acc w' hd q
      · rintro H2 ⟨G2, M2, w2, us2, acc, o2, n2, r2, hl2, q2⟩
        rw [r.len] at q2
        exact id acc w2 q2 Dl us2 H2 G2 M2 (o1.tr o2) r2 ⟨o1.nx.back o1.pt.mh hD, n2.2⟩
  | _ => exact False.elim h1
theorem comp_range {Z : Zx} {σ : L2.St} {H0 H G M : Hp} {δ : List Sl} {w : ω} {vs : List Nat} {lo : Int} {n : Nat} {Q : VK} {Dl : Addr} (s0 : Shared) (C : CompOk X W scope tg elt ifs g gz tt te) (hw : Wiped g vs) (a : SR X.K W Z σ H G M δ w) (pt : Pt W H G M w) (hD : H Dl = none) {Qz : List D → ω → Prop} (h : zComp (rngD lo n) gz tt te vs δ w Qz)
    (k : ∀ acc w2 us2 H2 G2 M2, Qz acc w2 → Go W H G M H2 G2 M2 w2 → RepL X.K G2 us2 acc → NewAt H H2 G2 M2 Dl us2 → Q (.ref Dl) H2) : ∃ W' : Nat → Nat → Hp → Prop, (∃ m, W' 0 m (upd H Dl (.lst []))) ∧ ∀ i m H, W' i m H →
      ((Itr lo n).stop i H ∧ Q (.ref Dl) H) ∨ ((Itr lo n).go i H ∧ ∃ Nx : Hp → Prop, (∀ H', Nx H' → ∃ m', m' < m ∧ W' (i + 1) m' H') ∧ ∀ x H', (Itr lo n).yld i H x H' → g x (L2.wipe σ vs) H' fun σ2 H2 => L2.wipe σ2 vs = L2.wipe σ vs ∧ liNT X.K W tt σ2 H2 fun b H3 =>
        if b = true then liN X.K W te σ2 H3 fun y H4 => ∃ acc, H4 Dl = some (.lst acc) ∧ acc.length < sizeLine ∧ Nx (upd H4 Dl (.lst (acc ++ [y]))) else Nx H3) := by
  obtain ⟨hlen, I, i0, is, id⟩ := h
  rw [rngD_len] at hlen id
  refine lc_range (Qd := fun H => Q (.ref Dl) H) (CInv X.K W H G M Dl I) (c_start pt hD i0) ?_ ?_
  · intro i H2 hx c
    exact comp_turn C.gg (C.mt s0) (C.mo s0) hw a (by omega) (.int _) c fun acc w' q => is i _ acc w' (rngD_at hx) q
  · rintro H2 ⟨G2, M2, w2, us2, acc, o2, n2, r2, hl2, q2⟩
    exact k acc w2 us2 H2 G2 M2 (id acc w2 q2) o2 r2 n2
theorem imp_lcR1 {ea : Expr} {ta : TAZ ω} {vs : List Nat} {Z : Zx} {ex : Nat → List Sl → ω → Prop} (hi : PAZ X W [ea] ta) (s0 : Shared) (C : CompOk X W scope tg elt ifs g gz tt te) (hw : Wiped g vs) {σ : L2.St} {H : Hp} {Q : VK} (h : liF X.K W Z ex (zLcR1 ta gz tt te vs) σ H Q) :
    tLc (iRgB1 (liA X.K W Z ex ta)) g (liNT X.K W tt) (liN X.K W te) vs σ H Q := by
  obtain ⟨G, M, δ, w, a, h⟩ := h
  refine ⟨G, M, δ, w, a, hi.mo (fun l w1 h1 us H1 G1 M1 o1 r1 => ?_) h⟩
  obtain ⟨d, rfl, h2⟩ := h1.of
  obtain ⟨n, rfl, h5⟩ := h2.of
  obtain ⟨u, rfl, ru⟩ := one_rep r1
  cases ru
  exact ⟨n, rfl, fun Dl hD => comp_range (H0 := H) s0 C hw (a.go o1) o1.pt hD h5 fun acc w2 us2 H2 G2 M2 q o2 r2 n2 => q Dl us2 H2 G2 M2 (o1.tr o2) r2 ⟨o1.nx.back o1.pt.mh hD, n2.2⟩⟩
theorem imp_lcR2 {ea eb : Expr} {ta : TAZ ω} {vs : List Nat} {Z : Zx} {ex : Nat → List Sl → ω → Prop} (hi : PAZ X W [ea, eb] ta) (s0 : Shared) (C : CompOk X W scope tg elt ifs g gz tt te) (hw : Wiped g vs) {σ : L2.St} {H : Hp} {Q : VK} (h : liF X.K W Z ex (zLcR2 ta gz tt te vs) σ H Q) :
    tLc (iRgB2 (liA X.K W Z ex ta)) g (liNT X.K W tt) (liN X.K W te) vs σ H Q := by
  obtain ⟨G, M, δ, w, a, h⟩ := h
  refine ⟨G, M, δ, w, a, hi.mo (fun l w1 h1 us H1 G1 M1 o1 r1 => ?_) h⟩
  obtain ⟨m, n, rfl, h5⟩ := h1.of
  obtain rfl := two_rep r1
  exact ⟨m, n, rfl, fun Dl hD => comp_range (H0 := H) s0 C hw (a.go o1) o1.pt hD h5 fun acc w2 us2 H2 G2 M2 q o2 r2 n2 => q Dl us2 H2 G2 M2 (o1.tr o2) r2 ⟨o1.nx.back o1.pt.mh hD, n2.2⟩⟩
theorem mo_lcL {ti : TEZ ω} {vs : List Nat} (hi : PEZ X W iter ti) : Mo (zLcL ti gz tt te vs) := fun k h => hi.mo (fun d w1 h1 => h1.imp fun l h2 => h2.imp k) h
theorem mo_lcT {ti : TEZ ω} {vs : List Nat} (hi : PEZ X W iter ti) : Mo (zLcT ti gz tt te vs) := fun k h => hi.mo (fun d w1 h1 => by
  cases d with
  | tup l => exact zComp.imp k h1
  | _ => exact h1) h
theorem mo_lcR1 {ea : List Expr} {ti : TAZ ω} {vs : List Nat} (hi : PAZ X W ea ti) : Mo (zLcR1 ti gz tt te vs) := fun k h => hi.mo (fun l w1 h1 => h1.imp fun d h2 => h2.imp fun n h3 => h3.imp k) h
theorem mo_lcR2 {ea : List Expr} {ti : TAZ ω} {vs : List Nat} (hi : PAZ X W ea ti) : Mo (zLcR2 ti gz tt te vs) := fun k h => hi.mo (fun l w1 h1 => h1.imp fun i j h3 => h3.imp k) h
/-! as values -/
theorem z_lcL {ti : TEZ ω} (hi : PEZ X W iter ti) (C : CompOk X W scope tg elt ifs g gz tt te) (hN : X.N.Nodup) (ok : blkC X.N X.env.scope scope own = true := by decide +kernel) (hw : Wiped g (own.map (·.2)) := by exact wiped_name _) (hc : X.calm = true := by rfl)
    (hs : ∀ x, foldedSetIterable iter X.env x = pure x := by intro _; rfl) : PFZ X W (.ListComp elt [⟨tg, iter, ifs, 0⟩] scope pos) (zLcL ti gz tt te (own.map (·.2))) :=
  ⟨mo_lcL hi, fun Z ex tk => ⟨fun pins s σ H Q I h => (pe_lc hc hN (pi_list (hi.run Z ex tk)) (blkOk_by ok) C.hg C.pt C.pe hs).run pins s σ H Q I (imp_lcL hi s C hw h)⟩⟩
theorem z_lcT {ti : TEZ ω} (hi : PEZ X W iter ti) (C : CompOk X W scope tg elt ifs g gz tt te) (hN : X.N.Nodup) (ok : blkC X.N X.env.scope scope own = true := by decide +kernel) (hw : Wiped g (own.map (·.2)) := by exact wiped_name _) (hc : X.calm = true := by rfl)
    (hs : ∀ x, foldedSetIterable iter X.env x = pure x := by intro _; rfl) : PFZ X W (.ListComp elt [⟨tg, iter, ifs, 0⟩] scope pos) (zLcT ti gz tt te (own.map (·.2))) :=
  ⟨mo_lcT hi, fun Z ex tk => ⟨fun pins s σ H Q I h => (pe_lc hc hN (pi_tup (hi.run Z ex tk)) (blkOk_by ok) C.hg C.pt C.pe hs).run pins s σ H Q I (imp_lcT hi s C hw h)⟩⟩
theorem z_lcR1 {ea : Expr} {ta : TAZ ω} {p pc : Pos} (hm : X.mg "range" = none) (hi : PAZ X W [ea] ta) (C : CompOk X W scope tg elt ifs g gz tt te) (hN : X.N.Nodup) (ok : blkC X.N X.env.scope scope own = true := by decide +kernel) (hw : Wiped g (own.map (·.2)) := by exact wiped_name _) (hc : X.calm = true := by rfl)
    (hgl : Gl X "range" := by rfl) (hse : starEach [ea] X.env = [(false, eval ea X.env)] := by rfl) (hs : ∀ x, foldedSetIterable (.Call (.Name "range" p) [ea] [] pc) X.env x = pure x := by intro _; rfl) : PFZ X W (.ListComp elt [⟨tg, .Call (.Name "range" p) [ea] [] pc, ifs, 0⟩] scope pos) (zLcR1 ta gz tt te (own.map (·.2))) :=
  ⟨mo_lcR1 hi, fun Z ex tk => ⟨fun pins s σ H Q I h => (pe_lc hc hN (pi_rgB1 hgl hm (hi.run Z ex tk) hse) (blkOk_by ok) C.hg C.pt C.pe hs).run pins s σ H Q I (imp_lcR1 hi s C hw h)⟩⟩
theorem z_lcR2 {ea eb : Expr} {ta : TAZ ω} {p pc : Pos} (hm : X.mg "range" = none) (hi : PAZ X W [ea, eb] ta) (C : CompOk X W scope tg elt ifs g gz tt te) (hN : X.N.Nodup) (ok : blkC X.N X.env.scope scope own = true := by decide +kernel) (hw : Wiped g (own.map (·.2)) := by exact wiped_name _) (hc : X.calm = true := by rfl)
    (hgl : Gl X "range" := by rfl) (hse : starEach [ea, eb] X.env = [(false, eval ea X.env), (false, eval eb X.env)] := by rfl) (hse2 : starEach [eb] X.env = [(false, eval eb X.env)] := by rfl) (hs : ∀ x, foldedSetIterable (.Call (.Name "range" p) [ea, eb] [] pc) X.env x = pure x := by intro _; rfl) :
    PFZ X W (.ListComp elt [⟨tg, .Call (.Name "range" p) [ea, eb] [] pc, ifs, 0⟩] scope pos) (zLcR2 ta gz tt te (own.map (·.2))) :=
  ⟨mo_lcR2 hi, fun Z ex tk => ⟨fun pins s σ H Q I h => (pe_lc hc hN (pi_rgB2 hgl hm (hi.run Z ex tk) hse hse2) (blkOk_by ok) C.hg C.pt C.pe hs).run pins s σ H Q I (imp_lcR2 hi s C hw h)⟩⟩
/-! name = [..] -/
theorem asg_own {st : Stmt} {i : Nat} {tr : TE} {tf : TAZ ω} {Z : Zx} {ex : Nat → List Sl → ω → Prop} (h : PS X st (tAsg tr (gName i))) (mo : Mo tf) (k : Shared → ∀ {σ : L2.St} {H : Hp} {Q : VK}, liF X.K W Z ex tf σ H Q → tr σ H Q) : PS X st (liS X.K W Z ex (zOwn i tf)) := ⟨fun pins s σ H DE I ⟨Dz, hex, EI, G, M, δ, w, a, q⟩ => h.run pins s σ H DE I (by
  subst hex
  exact k s ⟨G, M, δ, w, a, mo (fun l w1 h1 p vs H1 G1 M1 o1 r1 n1 => EI.nx _ _ ⟨G1, M1, _, w1, (a.go o1).setOwn n1.2.1 n1.2.2.1 n1.2.2.2 (newOf a n1.1).1 r1 (newOf a n1.1).2, h1⟩) q⟩)⟩
theorem asg_fz {st : Stmt} {i : Nat} {tr : TE} {tf : TAZ ω} {Z : Zx} {ex : Nat → List Sl → ω → Prop} (h : PS X st (tAsg tr (gName i))) (mo : Mo tf) (k : Shared → ∀ {σ : L2.St} {H : Hp} {Q : VK}, liF X.K W Z ex tf σ H Q → tr σ H Q) : PS X st (liS X.K W Z ex (zAsg i (zFz tf))) := ⟨fun pins s σ H DE I ⟨Dz, hex, EI, G, M, δ, w, a, q⟩ => h.run pins s σ H DE I (by
  subst hex
  exact k s ⟨G, M, δ, w, a, mo (fun l w1 h1 p vs H1 G1 M1 o1 r1 n1 => by
    obtain ⟨o2, g2⟩ := o1.still n1
    exact EI.nx _ _ ⟨_, M1, _, w1, (a.go o2).set (.lst upd_same (r1.up g2)), h1⟩) q⟩)⟩
/-- what a rule for name = [..] gives -/
def SetsTo (X : Cx) (W : Wp ω) (st : Stmt) (i : Nat) (tf : TAZ ω) : Prop := PSZ X W st (zOwn i tf) ∧ PSZ X W st (zAsg i (zFz tf))
theorem s_lcL (i : Nat) {y : Str} {py spos : Pos} {ti : TEZ ω} (hi : PEZ X W iter ti) (C : CompOk X W scope tg elt ifs g gz tt te) (hN : X.N.Nodup) (hy : X.N[i]? = some y := by rfl) (hyl : X.env.scope.names.lookup y = some .local := by rfl) (hsw : swapsWith (.ListComp elt [⟨tg, iter, ifs, 0⟩] scope pos) (some (.Name y py)) spos.line X.env = pure true := by exact sw_true rfl rfl rfl (by decide +kernel))
    (ok : blkC X.N X.env.scope scope own = true := by decide +kernel) (hw : Wiped g (own.map (·.2)) := by exact wiped_name _) (hc : X.calm = true := by rfl) (hs : ∀ x, foldedSetIterable iter X.env x = pure x := by intro _; rfl) : SetsTo X W (.Assign [.Name y py] (.ListComp elt [⟨tg, iter, ifs, 0⟩] scope pos) spos) i (zLcL ti gz tt te (own.map (·.2))) := by
  have key := fun Z ex (tk : Takes X (WXz X.K W Z ex)) => ps_setLc hc hN hy hyl hsw (pi_list (hi.run Z ex tk)) (blkOk_by ok) C.hg C.pt C.pe hs
  exact ⟨fun Z ex tk => asg_own (key Z ex tk) (mo_lcL hi) (fun s => imp_lcL hi s C hw), fun Z ex tk => asg_fz (key Z ex tk) (mo_lcL hi) (fun s => imp_lcL hi s C hw)⟩
theorem s_lcT (i : Nat) {y : Str} {py spos : Pos} {ti : TEZ ω} (hi : PEZ X W iter ti) (C : CompOk X W scope tg elt ifs g gz tt te) (hN : X.N.Nodup) (hy : X.N[i]? = some y := by rfl) (hyl : X.env.scope.names.lookup y = some .local := by rfl) (hsw : swapsWith (.ListComp elt [⟨tg, iter, ifs, 0⟩] scope pos) (some (.Name y py)) spos.line X.env = pure true := by exact sw_true rfl rfl rfl (by decide +kernel))
    (ok : blkC X.N X.env.scope scope own = true := by decide +kernel) (hw : Wiped g (own.map (·.2)) := by exact wiped_name _) (hc : X.calm = true := by rfl) (hs : ∀ x, foldedSetIterable iter X.env x = pure x := by intro _; rfl) : SetsTo X W (.Assign [.Name y py] (.ListComp elt [⟨tg, iter, ifs, 0⟩] scope pos) spos) i (zLcT ti gz tt te (own.map (·.2))) := by
  have key := fun Z ex (tk : Takes X (WXz X.K W Z ex)) => ps_setLc hc hN hy hyl hsw (pi_tup (hi.run Z ex tk)) (blkOk_by ok) C.hg C.pt C.pe hs
  exact ⟨fun Z ex tk => asg_own (key Z ex tk) (mo_lcT hi) (fun s => imp_lcT hi s C hw), fun Z ex tk => asg_fz (key Z ex tk) (mo_lcT hi) (fun s => imp_lcT hi s C hw)⟩
theorem s_lcR1 (i : Nat) {y : Str} {py spos p pc : Pos} {ea : Expr} {ta : TAZ ω} (hm : X.mg "range" = none) (hi : PAZ X W [ea] ta) (C : CompOk X W scope tg elt ifs g gz tt te) (hN : X.N.Nodup) (hy : X.N[i]? = some y := by rfl) (hyl : X.env.scope.names.lookup y = some .local := by rfl)
    (hsw : swapsWith (.ListComp elt [⟨tg, .Call (.Name "range" p) [ea] [] pc, ifs, 0⟩] scope pos) (some (.Name y py)) spos.line X.env = pure true := by exact sw_true rfl rfl rfl (by decide +kernel)) (ok : blkC X.N X.env.scope scope own = true := by decide +kernel) (hw : Wiped g (own.map (·.2)) := by exact wiped_name _) (hc : X.calm = true := by rfl)
    (hgl : Gl X "range" := by rfl) (hse : starEach [ea] X.env = [(false, eval ea X.env)] := by rfl) (hs : ∀ x, foldedSetIterable (.Call (.Name "range" p) [ea] [] pc) X.env x = pure x := by intro _; rfl) : SetsTo X W (.Assign [.Name y py] (.ListComp elt [⟨tg, .Call (.Name "range" p) [ea] [] pc, ifs, 0⟩] scope pos) spos) i (zLcR1 ta gz tt te (own.map (·.2))) := by
  have key := fun Z ex (tk : Takes X (WXz X.K W Z ex)) => ps_setLc hc hN hy hyl hsw (pi_rgB1 hgl hm (hi.run Z ex tk) hse) (blkOk_by ok) C.hg C.pt C.pe hs
  exact ⟨fun Z ex tk => asg_own (key Z ex tk) (mo_lcR1 hi) (fun s => imp_lcR1 hi s C hw), fun Z ex tk => asg_fz (key Z ex tk) (mo_lcR1 hi) (fun s => imp_lcR1 hi s C hw)⟩
theorem s_lcR2 (i : Nat) {y : Str} {py spos p pc : Pos} {ea eb : Expr} {ta : TAZ ω} (hm : X.mg "range" = none) (hi : PAZ X W [ea, eb] ta) (C : CompOk X W scope tg elt ifs g gz tt te) (hN : X.N.Nodup) (hy : X.N[i]? = some y := by rfl) (hyl : X.env.scope.names.lookup y = some .local := by rfl)
    (hsw : swapsWith (.ListComp elt [⟨tg, .Call (.Name "range" p) [ea, eb] [] pc, ifs, 0⟩] scope pos) (some (.Name y py)) spos.line X.env = pure true := by exact sw_true rfl rfl rfl (by decide +kernel)) (ok : blkC X.N X.env.scope scope own = true := by decide +kernel) (hw : Wiped g (own.map (·.2)) := by exact wiped_name _) (hc : X.calm = true := by rfl)
    (hgl : Gl X "range" := by rfl) (hse : starEach [ea, eb] X.env = [(false, eval ea X.env), (false, eval eb X.env)] := by rfl) (hse2 : starEach [eb] X.env = [(false, eval eb X.env)] := by rfl) (hs : ∀ x, foldedSetIterable (.Call (.Name "range" p) [ea, eb] [] pc) X.env x = pure x := by intro _; rfl) :
    SetsTo X W (.Assign [.Name y py] (.ListComp elt [⟨tg, .Call (.Name "range" p) [ea, eb] [] pc, ifs, 0⟩] scope pos) spos) i (zLcR2 ta gz tt te (own.map (·.2))) := by
  have key := fun Z ex (tk : Takes X (WXz X.K W Z ex)) => ps_setLc hc hN hy hyl hsw (pi_rgB2 hgl hm (hi.run Z ex tk) hse hse2) (blkOk_by ok) C.hg C.pt C.pe hs
  exact ⟨fun Z ex tk => asg_own (key Z ex tk) (mo_lcR2 hi) (fun s => imp_lcR2 hi s C hw), fun Z ex tk => asg_fz (key Z ex tk) (mo_lcR2 hi) (fun s => imp_lcR2 hi s C hw)⟩
/-- the parts of a comprehension -/
theorem c_ok {gzt : GoG X.K g gz} (hg : ∀ (s : Shared) (H : Hp) (C : Addr) (cl : List (Str × Addr)) (fp : List Addr), PG (X.blk s H scope (compEnvC scope cl C X.env) fp) tg g) (he : ∀ (s : Shared) (H : Hp) (C : Addr) (cl : List (Str × Addr)) (fp : List Addr), PEZ (X.blk s H scope (compEnvC scope cl C X.env) fp) W elt te) : CompOk X W scope tg elt [] g gz zYes te :=
  ⟨hg, gzt, fun s H C cl fp Z => ⟨fun pins s' σ H' Q I ⟨G, M, δ, w, a, q⟩ => pts_nil.run pins s' σ H' Q I (q H' G M a.here)⟩, fun _ => fun k h => k _ _ h, he, fun s => (he s (fun _ => none) 0 [] []).mo⟩
theorem c_if {c : Expr} {tc : TTZ ω} {gzt : GoG X.K g gz} (hg : ∀ (s : Shared) (H : Hp) (C : Addr) (cl : List (Str × Addr)) (fp : List Addr), PG (X.blk s H scope (compEnvC scope cl C X.env) fp) tg g) (ht : ∀ (s : Shared) (H : Hp) (C : Addr) (cl : List (Str × Addr)) (fp : List Addr), PTZ (X.blk s H scope (compEnvC scope cl C X.env) fp) W c tc)
    (he : ∀ (s : Shared) (H : Hp) (C : Addr) (cl : List (Str × Addr)) (fp : List Addr), PEZ (X.blk s H scope (compEnvC scope cl C X.env) fp) W elt te) : CompOk X W scope tg elt [c] g gz tc te :=
  ⟨hg, gzt, fun s H C cl fp Z => pts_one ((ht s H C cl fp).run Z _ tkN), fun s => (ht s (fun _ => none) 0 [] []).mo, he, fun s => (he s (fun _ => none) 0 [] []).mo⟩
end
end Z

namespace Z
open PySem PySem.Spec PyProof.Rows L2
variable {ω : Type}
def negD : D → (D → Prop) → Prop := fun d q => intD d fun i => q (.int (-i))
theorem l_neg {K : PySem.W.Frag} : Lnd1 K (rU fun i => .int (-i)) negD where
  mo := fun k h => h.imp fun i h => k _ h
  go := fun H G x dx q Q e rx h k => by
    obtain ⟨i, rfl, q2⟩ := h.of
    cases rx
    exact ⟨i, rfl, k _ _ q2 (.int _)⟩
/-- n += e -/
def zAug (i : Nat) (te : TEZ ω) : TSZ ω := fun DE δ w => match δ[i]? with
  | some (.val (.int a)) => te δ w (fun d w1 => intD d fun b => DE.nx (δ.set i (.val (.int (a + b)))) w1) (fun e w' => DE.ex e δ w')
  | _ => False
section
variable {X : Cx} {W : Wp ω} {pos pos' p : Pos} {x : Str} {e : Expr} {te : TEZ ω}
theorem z_aug (i : Nat) (he : PEZ X W e te) (hN : X.N.Nodup) (hi : X.N[i]? = some x := by rfl) (hx : Loc X.env.scope x := by first | exact Or.inl rfl | exact Or.inr rfl) (hf : X.fn x = true ∨ X.env.scope.names.lookup x = some .local := by first | exact .inl rfl | exact .inr rfl) :
    PSZ X W (.AugAssign (.Name x pos') .Add e pos) (zAug i te) := fun Z ex tk => psI (ps_aug hN hi hx (he.run Z ex tk) ip_add hf) fun DE σ H ⟨Dz, hex, EI, G, M, δ, w, a, h⟩ => by
  subst hex
  unfold zAug at h
  split at h
  · rename_i n hn
    obtain ⟨v, h1, h2⟩ := a.sl i _ hn
    cases h2
    refine ⟨_, h1, G, M, δ, w, a, he.mo (fun d w1 q1 v H1 G1 M1 o1 r1 => ?_) h⟩
    obtain ⟨b, rfl, q2⟩ := q1.of
    cases r1
    exact ⟨n, b, rfl, rfl, EI.nx _ _ ⟨G1, M1, _, w1, (a.go o1).set (.int _), q2⟩⟩
  · exact h.elim
end
/-! ### short forms for specifications -/
/-- a def that gives f of its arguments where pre holds -/
def spP {α : Type} (args : α → List D) (pre : α → Prop) (f : α → D) : SpZ Unit := fun ds w Q _ => ∃ x, ds = args x ∧ pre x ∧ Q (f x) w
theorem spP_mo {α : Type} {args : α → List D} {pre : α → Prop} {f : α → D} : MoS (spP args pre f) := fun k _ ⟨x, h1, h2, h3⟩ => ⟨x, h1, h2, k _ _ h3⟩
/-- .. that refuses by e where ref holds -/
def spE {α : Type} (args : α → List D) (ref : α → Option Nat → Prop) (f : α → D) : SpZ Unit := fun ds w Q E => ∃ x, ds = args x ∧ ((∃ e, ref x (some e) ∧ E e w) ∨ (ref x none ∧ Q (f x) w))
theorem spE_mo {α : Type} {args : α → List D} {ref : α → Option Nat → Prop} {f : α → D} : MoS (spE args ref f) := fun k k' ⟨x, h1, h⟩ => ⟨x, h1, h.elim (fun ⟨e, h2, h3⟩ => .inl ⟨e, h2, k' _ _ h3⟩) fun ⟨h2, h3⟩ => .inr ⟨h2, k _ _ h3⟩⟩
/-- .. by what it gives -/
def spR {ω α : Type} (args : α → List D) (pre : α → ω → Prop) (post : α → ω → D → ω → Prop) : SpZ ω := fun ds w Q _ => ∃ x, ds = args x ∧ pre x w ∧ ∀ d w', post x w d w' → Q d w'
theorem spR_mo {ω α : Type} {args : α → List D} {pre : α → ω → Prop} {post : α → ω → D → ω → Prop} : MoS (spR args pre post) := fun k _ ⟨x, h1, h2, h3⟩ => ⟨x, h1, h2, fun d w' h => k _ _ (h3 d w' h)⟩
end Z

namespace Z
open PySem PySem.Spec PyProof.Rows L2
variable {ω : Type}

/-! ### what a loop goes over, in general -/
/-- what a walk gives, over plain data: data that stand, or new pairs of such -/
structure WkZ (K : PySem.W.Frag) (G : Hp) (J : It) (l : List D) : Prop where
  ex : ∃ (Gd : Hp → Prop) (Y : Nat → Hp → V → Hp → Prop), Walk J l.length Gd Y ∧ (∀ H, Ext G H → Gd H) ∧
    ∀ i H x H', i < l.length → Y i H x H' → (H' = H ∧ ∃ d, l[i]? = some d ∧ Rep K G x d) ∨ ∃ T vs ds, x = .ref T ∧ H T = none ∧ H' = upd H T (.tup vs) ∧ RepL K G vs ds ∧ l[i]? = some (.tup ds)
def liI (K : PySem.W.Frag) (W : Wp ω) (Z : Zx) (ex : Nat → List Sl → ω → Prop) (tz : TAZ ω) : TI := fun σ H R => ∃ G M δ w, SR K W Z σ H G M δ w ∧ tz δ w (fun l w' => ∀ H' G' M' J, Go W H G M H' G' M' w' → WkZ K G' J l → R J H') (fun e w' => ex e δ w')
structure PIZ (X : Cx) (W : Wp ω) (tg iter : Expr) (tz : TAZ ω) : Prop where
  mo : Mo tz
  run : ∀ (Z : Zx) (ex : Nat → List Sl → ω → Prop), Takes X (WXz X.K W Z ex) → PI X tg iter (liI X.K W Z ex tz)
theorem piI {X : Cx} {tg e : Expr} {t u : TI} (h : PI X tg e u) (i : ∀ σ H R, t σ H R → u σ H R) : PI X tg e t := ⟨fun pins s σ H R I q => h.run pins s σ H R I (i _ _ _ q)⟩
def zForI (tz : TAZ ω) (gz : TGZ) (t : TSZ ω) : TSZ ω := fun D δ w => tz δ w (fun l w1 => zLoop l gz t D δ w1) (fun e w' => D.ex e δ w')
section
variable {X : Cx} {W : Wp ω} {pos : Pos} {e : Expr} {tz : TAZ ω} {tg : Expr} {g : TG} {gz : TGZ} {body : List Stmt} {t : TSZ ω}
theorem z_forI (hi : PIZ X W tg e tz) (hg : PGZ X tg g gz) (hb : PBZ X W body t) (hp : PassesOwn (model X.prog X.w) X.A X.env X.xe := by first | exact PassesOwn.leaving | exact PassesOwn.looking | exact PassesOwn.never | assumption) (hc : X.calm = true := by rfl)
    (hs : ∀ x, foldedSetIterable e X.env x = pure x := by intro _; rfl) : PSZ X W (.For tg e body [] pos) (zForI tz gz t) := fun Z ex tk => psI (ps_for hp hc (hi.run Z ex tk) hg.pg (zB_run hb Z ex tk) hs) fun DE σ H ⟨Dz, hex, EI, G, M, δ, w, a, h⟩ => by
  subst hex
  refine ⟨G, M, δ, w, a, hi.mo (fun l w1 h1 H1 G1 M1 J o1 wk => ?_) h⟩
  obtain ⟨Gd, Y, wk, gd, yl⟩ := wk.ex
  obtain ⟨I, i0, is, id⟩ := h1
  have a1 := a.go o1
  refine for_it wk (fun i => LS X.K W ⟨Z.H0, Z.G0, Z.M0, G1⟩ (I i)) ⟨G1, M1, δ, w1, a1.more, i0⟩ ?_ ?_ ?_
  · rintro i σ2 H2 _ ⟨G2, M2, δ2, w2, a2, _⟩
    exact gd H2 (a2.st.tr a2.pt.gh)
  · rintro i x σ2 H2 H3 hi' ⟨G2, M2, δ2, w2, a2, q2⟩ hy
    rcases yl i H2 x H3 hi' hy with ⟨rfl, d, hd, rd⟩ | ⟨T, vs, ds, rfl, hT, rfl, r, hd⟩
    · refine hg.gg.go W _ σ2 H3 G2 M2 δ2 w2 x d _ _ a2 (rd.up a2.st) (is i d δ2 w2 hd q2) fun σ3 δ3 q3 a3 => ?_
      exact ⟨G1, a1.st, { Dz with nx := I (i + 1), ct := I (i + 1), bk := Dz.nx }, rfl, EI.loop a1.st (fun _ _ h => h), G2, M2, δ3, w2, a3, q3⟩
    · have gg : Ext G2 (upd G2 T (.tup vs)) := Ext.new (a2.pt.gh.none' hT)
      refine hg.gg.go W _ σ2 _ (upd G2 T (.tup vs)) M2 δ2 w2 (.ref T) (.tup ds) _ _ (a2.new hT) (.tup (SqT.of upd_same) ((r.up a2.st).up gg)) (is i _ δ2 w2 hd q2) fun σ3 δ3 q3 a3 => ?_
      exact ⟨G1, a1.st, { Dz with nx := I (i + 1), ct := I (i + 1), bk := Dz.nx }, rfl, EI.loop a1.st (fun _ _ h => h), _, M2, δ3, w2, a3, q3⟩
  · rintro σ2 H2 ⟨G2, M2, δ2, w2, a2, q2⟩
    exact EI.nx _ _ ⟨G2, M2, δ2, w2, a2.le a1.st, id δ2 w2 q2⟩
end
/-! comprehensions over it -/
section
variable {X : Cx} {W : Wp ω} {pos : Pos} {scope : Scope} {tg elt iter : Expr} {ifs : List Expr} {g : TG} {gz : TGZ} {tt : TTZ ω} {te : TEZ ω} {own : List (Str × Nat)}
theorem comp_turn2 {Z : Zx} {σ : L2.St} {H G M : Hp} {δ : List Sl} {w : ω} {Dl : Addr} {I : Nat → List D → ω → Prop} {i : Nat} {H' G1 M1 : Hp} {w1 : ω} {us : List V} {acc : List D} {d : D} {v : V} {vs : List Nat} (hgz : GoG X.K g gz) (mt : Mo tt) (mo : Mo te) (hw : Wiped g vs) (a : SR X.K W Z σ H G M δ w) (hi : i < 100000) (rv : Rep X.K G1 v d)
    (o1 : Go W H G M H' G1 M1 w1) (n1 : NewAt H H' G1 M1 Dl us) (r1 : RepL X.K G1 us acc) (hl : acc.length ≤ i) (q : I i acc w1)
    (hs : gz d (wipeZ δ vs) fun δ2 => tt δ2 w1 (fun b w2 => (b = true → te δ2 w2 (fun y w3 => I (i + 1) (acc ++ [y]) w3) NoE) ∧ (b = false → I (i + 1) acc w2)) NoE) :
    g v (L2.wipe σ vs) H' fun σ2 H2 => L2.wipe σ2 vs = L2.wipe σ vs ∧ liNT X.K W tt σ2 H2 fun b H3 =>
      if b = true then liN X.K W te σ2 H3 fun y H4 => ∃ acc, H4 Dl = some (.lst acc) ∧ acc.length < sizeLine ∧ CInv X.K W H G M Dl I (i + 1) (upd H4 Dl (.lst (acc ++ [y]))) else CInv X.K W H G M Dl I (i + 1) H3 := by
  refine hw v σ H' _ ?_
  have a1 := (a.go o1).wipe vs
  refine hgz.go W Z (L2.wipe σ vs) H' G1 M1 (wipeZ δ vs) w1 v d _ _ a1 rv hs fun σ2 δ2 q2 a2 => ?_
  have grow : ∀ {H3 G3 M3 : Hp} {w3 : ω} {u : V} {y : D}, Go W H' G1 M1 H3 G3 M3 w3 → Rep X.K G3 u y → I (i + 1) (acc ++ [y]) w3 → ∃ acc, H3 Dl = some (.lst acc) ∧ acc.length < sizeLine ∧ CInv X.K W H G M Dl I (i + 1) (upd H3 Dl (.lst (acc ++ [u]))) := by
    intro H3 G3 M3 w3 u y o3 ru qi
    obtain ⟨m1, m2, m3, m4⟩ := n1
    have h3 := o3.nx.fr Dl _ m2 m4
    have g3 : G3 Dl = none := by
      cases z : G3 Dl with
      | none => rfl
      | some t => rw [o3.nx.gn Dl t z m3] at m2; cases m2
    have k3 : M3 Dl = none := by
      cases z : M3 Dl with
      | none => rfl
      | some t => rw [o3.nx.mn Dl t z m4] at m2; cases m2
    have r3 := r1.up o3.nx.gg
    have o := o1.tr o3
    refine ⟨us, h3, by rw [r1.len, sizeLine_eq]; omega, G3, M3, w3, us ++ [u], acc ++ [y], ⟨⟨fun p x e => ?_, fun p x e => ?_, o.pt.dj, o.pt.wd⟩, ⟨o.nx.gg, fun p x e e' => ?_, o.nx.gn, o.nx.mn, o.nx.m0⟩⟩, ⟨m1, upd_same, g3, k3⟩, r3.app (.cons ru .nil), by rw [List.length_append]; exact Nat.succ_le_succ hl, qi⟩
    · rw [upd_ne (ne_of_none e g3)]; exact o.pt.gh p x e
    · rw [upd_ne (ne_of_none e k3)]; exact o.pt.mh p x e
    · rw [upd_ne (ne_of_none e m1)]; exact o.nx.fr p x e e'
  refine ⟨Z, G1, M1, δ2, w1, a2, mt (fun b w2 q3 H3 G3 M3 o3 => ?_) q2⟩
  cases b with
  | true =>
    rw [if_pos rfl]
    refine ⟨Z, G3, M3, δ2, w2, a2.go o3, mo (fun y w4 q4 u H4 G4 M4 o4 r4 => grow (o3.tr o4) r4 q4) (q3.1 rfl)⟩
  | false =>
    rw [if_neg Bool.false_ne_true]
    obtain ⟨m1, m2, m3, m4⟩ := n1
    refine ⟨G3, M3, w2, us, acc, o1.tr o3, ⟨m1, o3.nx.fr Dl _ m2 m4, ?_, ?_⟩, r1.up o3.nx.gg, Nat.le_succ_of_le hl, q3.2 rfl⟩
    · cases z : G3 Dl with
      | none => rfl
      | some t => rw [o3.nx.gn Dl t z m3] at m2; cases m2
    · cases z : M3 Dl with
      | none => rfl
      | some t => rw [o3.nx.mn Dl t z m4] at m2; cases m2
def zLcI (tz : TAZ ω) (gz : TGZ) (tt : TTZ ω) (te : TEZ ω) (vs : List Nat) : TAZ ω := fun δ w Q E => tz δ w (fun l w1 => zComp l gz tt te vs δ w1 Q) E
theorem imp_lcI {tz : TAZ ω} {vs : List Nat} {Z : Zx} {ex : Nat → List Sl → ω → Prop} (hi : PIZ X W tg iter tz) (s0 : Shared) (C : CompOk X W scope tg elt ifs g gz tt te) (hw : Wiped g vs) {σ : L2.St} {H : Hp} {Q : VK} (h : liF X.K W Z ex (zLcI tz gz tt te vs) σ H Q) :
    tLc (liI X.K W Z ex tz) g (liNT X.K W tt) (liN X.K W te) vs σ H Q := by
  obtain ⟨G, M, δ, w, a, h⟩ := h
  refine ⟨G, M, δ, w, a, hi.mo (fun l w1 h1 H1 G1 M1 J o1 wk => ?_) h⟩
  obtain ⟨hlen, I, i0, is, id⟩ := h1
  obtain ⟨Gd, Y, wk, gd, yl⟩ := wk.ex
  have a1 := a.go o1
  intro Dl hD
  refine lc_it wk (CInv X.K W H1 G1 M1 Dl I) (c_start o1.pt hD i0) ?_ ?_ ?_
  · rintro i H2 _ ⟨G2, M2, w2, us2, acc, o2, n2, r2, q2⟩
    exact gd H2 (o2.nx.gg.tr o2.pt.gh)
  · rintro i x H2 H3 hi' ⟨G2, M2, w2, us2, acc, o2, n2, r2, hl2, q2⟩ hy
    rcases yl i H2 x H3 hi' hy with ⟨rfl, d, hd, rd⟩ | ⟨T, vs2, ds, rfl, hT, rfl, r, hd⟩
    · exact comp_turn2 C.gg (C.mt s0) (C.mo s0) hw a1 (by omega) (rd.up o2.nx.gg) o2 n2 r2 hl2 q2 (is i d acc w2 hd q2)
    · have gg : Ext G2 (upd G2 T (.tup vs2)) := Ext.new (o2.pt.gh.none' hT)
      obtain ⟨m1, m2, m3, m4⟩ := n2
      have ne : Dl ≠ T := ne_of_none m2 hT
      exact comp_turn2 C.gg (C.mt s0) (C.mo s0) hw a1 (by omega) (.tup (SqT.of upd_same) ((r.up o2.nx.gg).up gg)) (o2.new hT) ⟨m1, by rw [upd_ne ne]; exact m2, by rw [upd_ne ne]; exact m3, m4⟩ (r2.up gg) hl2 q2 (is i _ acc w2 hd q2)
  · rintro H2 ⟨G2, M2, w2, us2, acc, o2, n2, r2, hl2, q2⟩
    exact id acc w2 q2 Dl us2 H2 G2 M2 (o1.tr o2) r2 ⟨o1.nx.back o1.pt.mh hD, n2.2⟩
theorem mo_lcI {tz : TAZ ω} {vs : List Nat} (hi : PIZ X W tg iter tz) : Mo (zLcI tz gz tt te vs) := fun k h => hi.mo (fun d w1 h1 => h1.imp k) h
theorem z_lcI {tz : TAZ ω} (hi : PIZ X W tg iter tz) (C : CompOk X W scope tg elt ifs g gz tt te) (hN : X.N.Nodup) (ok : blkC X.N X.env.scope scope own = true := by decide +kernel) (hw : Wiped g (own.map (·.2)) := by exact wiped_name _) (hc : X.calm = true := by rfl)
    (hs : ∀ x, foldedSetIterable iter X.env x = pure x := by intro _; rfl) : PFZ X W (.ListComp elt [⟨tg, iter, ifs, 0⟩] scope pos) (zLcI tz gz tt te (own.map (·.2))) :=
  ⟨mo_lcI hi, fun Z ex tk => ⟨fun pins s σ H Q I h => (pe_lc hc hN (hi.run Z ex tk) (blkOk_by ok) C.hg C.pt C.pe hs).run pins s σ H Q I (imp_lcI hi s C hw h)⟩⟩
theorem s_lcI (i : Nat) {y : Str} {py spos : Pos} {tz : TAZ ω} (hi : PIZ X W tg iter tz) (C : CompOk X W scope tg elt ifs g gz tt te) (hN : X.N.Nodup) (hy : X.N[i]? = some y := by rfl) (hyl : X.env.scope.names.lookup y = some .local := by rfl) (hsw : swapsWith (.ListComp elt [⟨tg, iter, ifs, 0⟩] scope pos) (some (.Name y py)) spos.line X.env = pure true := by exact sw_true rfl rfl rfl (by decide +kernel))
    (ok : blkC X.N X.env.scope scope own = true := by decide +kernel) (hw : Wiped g (own.map (·.2)) := by exact wiped_name _) (hc : X.calm = true := by rfl) (hs : ∀ x, foldedSetIterable iter X.env x = pure x := by intro _; rfl) : SetsTo X W (.Assign [.Name y py] (.ListComp elt [⟨tg, iter, ifs, 0⟩] scope pos) spos) i (zLcI tz gz tt te (own.map (·.2))) := by
  have key := fun Z ex (tk : Takes X (WXz X.K W Z ex)) => ps_setLc hc hN hy hyl hsw (hi.run Z ex tk) (blkOk_by ok) C.hg C.pt C.pe hs
  exact ⟨fun Z ex tk => asg_own (key Z ex tk) (mo_lcI hi) (fun s => imp_lcI hi s C hw), fun Z ex tk => asg_fz (key Z ex tk) (mo_lcI hi) (fun s => imp_lcI hi s C hw)⟩
end
/-! targets of several names, wiped behind -/
theorem wipe_comm {σ : L2.St} {i : Nat} {x : Option V} : ∀ {vs : List Nat}, i ∉ vs → L2.wipe (σ.set i x) vs = (L2.wipe σ vs).set i x
  | [], _ => rfl
  | v :: vs, h => by
    show (L2.wipe (σ.set i x) vs).set v none = ((L2.wipe σ vs).set v none).set i x
    rw [wipe_comm (fun q => h (List.mem_cons_of_mem _ q))]
    exact List.set_comm _ _ (fun q => h (by rw [q]; exact List.mem_cons_self))
theorem wipe_in {σ : L2.St} {i : Nat} {x : Option V} : ∀ {vs : List Nat}, i ∈ vs → L2.wipe (σ.set i x) vs = L2.wipe σ vs
  | v :: vs, h => by
    show (L2.wipe (σ.set i x) vs).set v none = (L2.wipe σ vs).set v none
    by_cases q : i ∈ vs
    · rw [wipe_in q]
    · have e : i = v := (List.mem_cons.mp h).resolve_right q
      rw [wipe_comm q, e, List.set_set]
theorem wipe_wipe {σ : L2.St} : ∀ {vs us : List Nat}, (∀ i ∈ vs, i ∈ us) → L2.wipe (L2.wipe σ vs) us = L2.wipe σ us
  | [], _, _ => rfl
  | v :: vs, us, h => by
    show L2.wipe ((L2.wipe σ vs).set v none) us = _
    rw [wipe_in (h v List.mem_cons_self), wipe_wipe fun i hi => h i (List.mem_cons_of_mem _ hi)]
theorem wiped_gNs {us : List Nat} {H : Hp} {Q : L2.St → Hp → Prop} : ∀ {is : List Nat} {xs : List V} {σ : L2.St}, (∀ i ∈ is, i ∈ us) → gNs is xs σ H Q → gNs is xs σ H fun σ2 H2 => L2.wipe σ2 us = L2.wipe σ us ∧ Q σ2 H2
  | [], xs, σ, _, h => ⟨h.1, rfl, h.2⟩
  | i :: is, xs, σ, hm, h => by
    obtain ⟨x, ys, e, h⟩ := h
    refine ⟨x, ys, e, ?_⟩
    have q := wiped_gNs (us := us) (fun j hj => hm j (List.mem_cons_of_mem _ hj)) h
    rw [wipe_in (hm i List.mem_cons_self)] at q
    exact q
theorem wiped_tup {K : PySem.W.Frag} {n : Nat} {is vs : List Nat} (h : ∀ i ∈ is, i ∈ vs) : Wiped (gTup K n (gNs is)) vs := fun x σ H Q ⟨a, xs, e, s, l, q⟩ => by
  have r := wiped_gNs (us := vs) h q
  rw [wipe_wipe fun i hi => hi] at r
  exact ⟨a, xs, e, s, l, r⟩
/-! ### zip -/
def zipT (a b : List D) : List D := (a.zip b).map fun p => .tup [p.1, p.2]
def zipD : D → D → Option (List D)
  | .lst a, .lst b => some (zipT a b)
  | .lst a, .arr b => some (zipT a b)
  | .arr a, .lst b => some (zipT a b)
  | .arr a, .arr b => some (zipT a b)
  | .tup a, .tup b => some (zipT a b)
  | _, _ => none
def zZip (ta : TAZ ω) : TAZ ω := fun δ w Q E => ta δ w (fun l w1 => match l with | [x, y] => (match zipD x y with | some m => Q m w1 | none => False) | _ => False) E
theorem zipT_at {a b : List D} {i : Nat} {x y : D} (h : a[i]? = some x) (g : b[i]? = some y) : (zipT a b)[i]? = some (.tup [x, y]) := by
  unfold zipT
  rw [List.getElem?_map, List.getElem?_zip_eq_some (z := (x, y)) |>.mpr ⟨h, g⟩]; rfl
theorem zipT_len (a b : List D) : (zipT a b).length = min a.length b.length := by unfold zipT; rw [List.length_map, List.length_zip]
theorem walk_zipT {K : PySem.W.Frag} {a b : Addr} {xs ys : List V} {n : Nat} (hn : n = min xs.length ys.length) : Walk (RZ.ItzT K a b) n (fun H => SqT K H a xs ∧ SqT K H b ys) (YPair (fun i => xs[i]?) (fun i => ys[i]?)) := by
  subst hn
  refine ⟨fun i _ hi q => ?_, fun _ q => ⟨xs, ys, q.1, q.2, by omega⟩, fun i H v H' _ q y => ?_⟩
  · have h1 : i < xs.length := by omega
    have h2 : i < ys.length := by omega
    exact ⟨xs, ys, xs[i], ys[i], q.1, q.2, by simp [h1], by simp [h2]⟩
  · obtain ⟨T, x, z, h1, h2, h3, h4, h5⟩ := y
    exact ⟨T, x, z, h1, h2, h3, h4 xs q.1, h5 ys q.2⟩
theorem wk_pair {K : PySem.W.Frag} {G : Hp} {J : It} {xs ys : List V} {a b : List D} {Gd : Hp → Prop} (hw : ∀ n, n = min xs.length ys.length → Walk J n Gd (YPair (fun i => xs[i]?) (fun i => ys[i]?))) (gd : ∀ H, Ext G H → Gd H) (ra : RepL K G xs a) (rb : RepL K G ys b) : WkZ K G J (zipT a b) := by
  refine ⟨Gd, _, hw _ (by rw [zipT_len, ra.len, rb.len]), gd, fun i H x H' hi ⟨T, u, v, e1, e2, e3, e4, e5⟩ => .inr ?_⟩
  obtain ⟨d1, f1, r1⟩ := ra.getV e4
  obtain ⟨d2, f2, r2⟩ := rb.getV e5
  exact ⟨T, [u, v], [d1, d2], e1, e2, e3, .cons r1 (.cons r2 .nil), zipT_at f1 f2⟩
section
variable {X : Cx} {W : Wp ω} {e e2 : Expr} {ta : TAZ ω} {p pos tpos : Pos} {elts : List Expr} {kk : Nat}
theorem i_zip (hm : X.mg "zip" = none) (ha : PAZ X W [e, e2] ta) (hg : Gl X "zip" := by rfl) (hs : starEach [e, e2] X.env = (false, eval e X.env) :: starEach [e2] X.env := by rfl) (hpl : (backTo pos (starEach [e2] X.env)).any (·.1) = false := by rfl) :
    PIZ X W (.Tuple elts kk tpos) (.Call (.Name "zip" p) [e, e2] [] pos) (zZip ta) := by
  refine ⟨fun {δ w Q Q' E} k h => ha.mo (fun l w1 h1 => ?_) h, fun Z ex tk => piI (RZ.pi_zipA hg hm (ha.run Z ex tk) hs hpl) fun σ H R ⟨G, M, δ, w, a, h⟩ => ⟨G, M, δ, w, a, ha.mo (fun l w1 h1 vs H1 G1 M1 o1 r1 => ?_) h⟩⟩
  · split at h1
    · split at h1
      · exact k _ _ h1
      · exact h1.elim
    · exact h1.elim
  · split at h1
    · rename_i x y
      split at h1
      · rename_i m hm2
        obtain ⟨u, v, rfl, ru, rv⟩ : ∃ u v, vs = [u, v] ∧ Rep X.K G1 u x ∧ Rep X.K G1 v y := by
          cases r1 with
          | cons r1 r2 =>
            cases r2 with
            | cons r2 r3 =>
              cases r3
              exact ⟨_, _, rfl, r1, r2⟩
        have lst : ∀ {pa pb : Addr} {xs ys : List V} {la lb : List D}, SqL X.K G1 pa xs → SqL X.K G1 pb ys → RepL X.K G1 xs la → RepL X.K G1 ys lb → m = zipT la lb → ∃ a b xs ys, [V.ref pa, .ref pb] = [.ref a, .ref b] ∧ ((SqL X.K H1 a xs ∧ SqL X.K H1 b ys ∧ R (Itz X.K a b) H1) ∨ (SqT X.K H1 a xs ∧ SqT X.K H1 b ys ∧ R (RZ.ItzT X.K a b) H1)) := by
          intro pa pb xs ys la lb s1 s2 q1 q2 em
          refine ⟨pa, pb, xs, ys, rfl, .inl ⟨sqLE o1.pt.gh s1, sqLE o1.pt.gh s2, h1 H1 G1 M1 _ o1 ?_⟩⟩
          rw [em]
          exact wk_pair (fun n hn => walk_zip hn) (fun H2 e2 => ⟨sqLE e2 s1, sqLE e2 s2⟩) q1 q2
        unfold zipD at hm2
        split at hm2 <;> first | (cases hm2; done) | skip
        · cases hm2
          cases ru with | lst s1 q1 => cases rv with | lst s2 q2 => exact lst (.inl (.inl s1)) (.inl (.inl s2)) q1 q2 rfl
        · cases hm2
          cases ru with | lst s1 q1 => cases rv with | arr s2 q2 => exact lst (.inl (.inl s1)) s2 q1 q2 rfl
        · cases hm2
          cases ru with | arr s1 q1 => cases rv with | lst s2 q2 => exact lst s1 (.inl (.inl s2)) q1 q2 rfl
        · cases hm2
          cases ru with | arr s1 q1 => cases rv with | arr s2 q2 => exact lst s1 s2 q1 q2 rfl
        · cases hm2
          cases ru with
          | @tup pa xs _ s1 q1 =>
            cases rv with
            | @tup pb ys _ s2 q2 =>
              exact ⟨pa, pb, xs, ys, rfl, .inr ⟨sqTE o1.pt.gh s1, sqTE o1.pt.gh s2, h1 H1 G1 M1 _ o1 (wk_pair (fun n hn => walk_zipT hn) (fun H2 e2 => ⟨sqTE e2 s1, sqTE e2 s2⟩) q1 q2)⟩⟩
      · exact h1.elim
    · exact h1.elim
end
/-! ### a text, sign by sign -/
def sgnD (x : Str) : List D := x.cps.toList.map fun c => .str ⟨#[c]⟩
def zSgn (te : TEZ ω) : TAZ ω := fun δ w Q E => te δ w (fun d w1 => match d with | .str x => Q (sgnD x) w1 | _ => False) E
theorem i_str {X : Cx} {W : Wp ω} {tg e : Expr} {te : TEZ ω} (he : PEZ X W e te) : PIZ X W tg e (zSgn te) := by
  refine ⟨fun {δ w Q Q' E} k h => he.mo (fun d w1 h1 => ?_) h, fun Z ex tk => piI (pi_str (he.run Z ex tk)) fun σ H R ⟨G, M, δ, w, a, h⟩ => ⟨G, M, δ, w, a, he.mo (fun d w1 h1 v H1 G1 M1 o1 r1 => ?_) h⟩⟩
  · split at h1
    · exact k _ _ h1
    · exact h1.elim
  · split at h1
    · rename_i x
      cases r1
      refine ⟨x, rfl, h1 H1 G1 M1 _ o1 ⟨fun _ => True, fun i H v H' => H' = H ∧ ∃ c, x.cps[i]? = some c ∧ v = .str ⟨#[c]⟩, ?_, fun _ _ => trivial, fun i H x' H' hi hy => .inl ?_⟩⟩
      · have e : (sgnD x).length = x.cps.size := by unfold sgnD; rw [List.length_map, Array.length_toList]
        rw [e]
        exact walk_str
      · obtain ⟨h1, c, h2, h3⟩ := hy
        refine ⟨h1, .str ⟨#[c]⟩, ?_, by rw [h3]; exact .str _⟩
        unfold sgnD
        rw [List.getElem?_map, Array.getElem?_toList, h2]; rfl
    · exact h1.elim
/-! ### several names from a list -/
def gUL (is : List Nat) : TGZ := fun d δ k => match d with | .lst l => l.length = is.length ∧ k (setAll δ is l) | _ => False
theorem gg_lst {K : PySem.W.Frag} (is : List Nat) : GoG K (gLst K is.length (gNs is)) (gUL is) := ⟨fun k h => by
  unfold gUL at h ⊢
  split at h
  · exact ⟨h.1, k _ h.2⟩
  · exact h.elim, fun W Z σ H G M δ w v d q Q a r h k => by
  cases d with
  | lst l =>
    cases r with
    | lst s r =>
      exact ⟨_, _, rfl, .inl (.inl (a.pt.gh _ _ s)), by rw [r.len]; exact h.1, gNs_go is _ _ _ _ a r h.1 fun σ' a' => k σ' _ h.2 a'⟩
  | _ => exact h.elim⟩
theorem g_lst {X : Cx} {es : List Expr} {k : Nat} {is : List Nat} {pos : Pos} (h : PGs X es (gNs is)) (hc : X.calm = true := by rfl) (hn : (assignEach es X.env).length = is.length := by rfl) (hst : (assignEach es X.env).findIdx? (·.1) = none := by rfl) :
    PGZ X (.Tuple es k pos) (gLst X.K is.length (gNs is)) (gUL is) := ⟨gg_lst is, pg_lst hc h hn hst⟩
end Z

namespace Z
open PySem PySem.Spec PyProof.Rows L2

/-! ### a world of lists that may change -/
abbrev Mst := List (Addr × List D)
def wGet (w : Mst) (a : Addr) : Option (List D) := List.lookup a w
def wSet (w : Mst) (a : Addr) (l : List D) : Mst := w.map fun p => if p.1 = a then (a, l) else p
theorem wGet_cons {w : Mst} {a b : Addr} {l : List D} : wGet ((b, l) :: w) a = if a = b then some l else wGet w a := by
  unfold wGet
  by_cases h : a = b
  · have e : (a == b) = true := beq_iff_eq.mpr h
    simp only [List.lookup, e, if_pos h]
  · have e : (a == b) = false := beq_eq_false_iff_ne.mpr h
    simp only [List.lookup, e, if_neg h]
theorem wGet_set (a b : Addr) (l : List D) : ∀ w : Mst, wGet (wSet w a l) b = if b = a then (wGet w a).map fun _ => l else wGet w b
  | [] => by
    by_cases h : b = a
    · rw [if_pos h]; rfl
    · rw [if_neg h]; rfl
  | (c, m) :: w => by
    have ih := wGet_set a b l w
    have e : wSet ((c, m) :: w) a l = (if c = a then (a, l) else (c, m)) :: wSet w a l := rfl
    rw [e]
    by_cases h : c = a
    · subst h
      rw [if_pos rfl, wGet_cons, wGet_cons, wGet_cons, ih]
      by_cases k : b = c
      · rw [if_pos k, if_pos k, if_pos rfl]; rfl
      · rw [if_neg k, if_neg k, if_neg k, if_neg k]
    · rw [if_neg h, wGet_cons, wGet_cons, wGet_cons, ih]
      by_cases k : b = a
      · subst k
        rw [if_neg (Ne.symm h), if_pos rfl, if_pos rfl, if_neg (Ne.symm h)]
      · rw [if_neg k, if_neg k]
def okW (K : PySem.W.Frag) (w : Mst) (G M : Hp) : Prop := (∀ a o, M a = some o → ∃ l, wGet w a = some l) ∧ ∀ a l, wGet w a = some l → ∃ vs, M a = some (.lst vs) ∧ RepL K G vs l
def WL (K : PySem.W.Frag) (ec : Nat → Addr) : Wp Mst := ⟨okW K, fun e h => ⟨h.1, fun a l g => let ⟨vs, h1, h2⟩ := h.2 a l g; ⟨vs, h1, h2.up e⟩⟩, ec⟩
theorem okW.none {K : PySem.W.Frag} {w : Mst} {G M : Hp} (h : okW K w G M) {a : Addr} (e : M a = none) : wGet w a = none := by
  cases q : wGet w a with
  | none => rfl
  | some l =>
    obtain ⟨vs, h1, _⟩ := h.2 a l q
    rw [e] at h1; cases h1
/-- a list of the world changed -/
theorem chgW {K : PySem.W.Frag} {ec : Nat → Addr} {Z : Zx} {σ : L2.St} {H G M : Hp} {δ : List Sl} {w : Mst} {a : Addr} {l m : List D} {us : List V} (s : SR K (WL K ec) Z σ H G M δ w) (h : wGet w a = some l) (r : RepL K G us m) :
    SR K (WL K ec) Z σ (upd H a (.lst us)) G (upd M a (.lst us)) δ (wSet w a m) := by
  obtain ⟨vs, h1, h2⟩ := s.pt.wd.2 a l h
  have hG : G a = none := by
    cases q : G a with
    | none => rfl
    | some x => rw [s.pt.dj a x q] at h1; cases h1
  have hM : ∀ p x, upd M a (.lst us) p = some x → M p ≠ none := fun p x e z => by
    by_cases k : p = a
    · rw [k, h1] at z; cases z
    · rw [upd_ne k, z] at e; cases e
  refine s.next ⟨fun p x e => ?_, fun p x e => ?_, fun p x e => ?_, ⟨fun p o e => ?_, fun p l' e => ?_⟩⟩ ⟨.rfl', fun p x e e' => ?_, fun p x e e' => (by rw [e] at e'; cases e'), fun p x e e' => absurd e' (hM p x e), fun p x e => ?_⟩
  · rw [upd_ne (ne_of_none e hG)]; exact s.pt.gh p x e
  · by_cases k : p = a
    · subst k; rw [upd_same] at e ⊢; exact e
    · rw [upd_ne k] at e ⊢; exact s.pt.mh p x e
  · rw [upd_ne (ne_of_none e hG)]; exact s.pt.dj p x e
  · rw [wGet_set]
    by_cases k : p = a
    · rw [if_pos k, h]; exact ⟨_, rfl⟩
    · rw [if_neg k]; rw [upd_ne k] at e; exact s.pt.wd.1 p o e
  · rw [wGet_set] at e
    by_cases k : p = a
    · subst k
      rw [if_pos rfl, h] at e
      cases e
      exact ⟨us, upd_same, r⟩
    · rw [if_neg k] at e
      obtain ⟨v2, g1, g2⟩ := s.pt.wd.2 p l' e
      exact ⟨v2, by rw [upd_ne k]; exact g1, g2⟩
  · rw [upd_ne (fun k => by rw [k, h1] at e'; cases e')]; exact e
  · by_cases k : p = a
    · subst k; exact ⟨_, upd_same⟩
    · rw [upd_ne k]; exact ⟨x, e⟩
/-- a new list of the world -/
theorem newW {K : PySem.W.Frag} {ec : Nat → Addr} {H0 G0 M0 H G M : Hp} {w : Mst} {a : Addr} {m : List D} {us : List V} (o : Go (WL K ec) H0 G0 M0 H G M w) (h0 : H0 a = none) (h1 : H a = some (.lst us)) (hG : G a = none) (hM : M a = none) (r : RepL K G us m) :
    Go (WL K ec) H0 G0 M0 H G (upd M a (.lst us)) ((a, m) :: w) ∧ wGet w a = none := by
  have hw := o.pt.wd.none hM
  refine ⟨⟨⟨o.pt.gh, fun p x e => ?_, fun p x e => ?_, ⟨fun p x e => ?_, fun p l e => ?_⟩⟩, ⟨o.nx.gg, o.nx.fr, o.nx.gn, fun p x e e' => ?_, fun p x e => ?_⟩⟩, hw⟩
  · by_cases k : p = a
    · subst k; rw [upd_same] at e; rw [h1]; exact e
    · rw [upd_ne k] at e; exact o.pt.mh p x e
  · rw [upd_ne (ne_of_none e hG)]; exact o.pt.dj p x e
  · rw [wGet_cons]
    by_cases k : p = a
    · rw [if_pos k]; exact ⟨_, rfl⟩
    · rw [if_neg k]; rw [upd_ne k] at e; exact o.pt.wd.1 p x e
  · rw [wGet_cons] at e
    by_cases k : p = a
    · subst k
      rw [if_pos rfl] at e
      cases e
      exact ⟨us, upd_same, r⟩
    · rw [if_neg k] at e
      obtain ⟨vs, g1, g2⟩ := o.pt.wd.2 p l e
      exact ⟨vs, by rw [upd_ne k]; exact g1, g2⟩
  · by_cases k : p = a
    · subst k; exact h0
    · rw [upd_ne k] at e; exact o.nx.mn p x e e'
  · obtain ⟨y, e1⟩ := o.nx.m0 p x e
    by_cases k : p = a
    · subst k; exact ⟨_, upd_same⟩
    · exact ⟨y, by rw [upd_ne k]; exact e1⟩
/-! rules -/
def onRef (d : D) (f : Addr → Prop) : Prop := match d with | .ref a => f a | _ => False
theorem onRef.of {d : D} {f : Addr → Prop} (h : onRef d f) : ∃ a, d = .ref a ∧ f a := by
  unfold onRef at h
  split at h
  · exact ⟨_, rfl, h⟩
  · exact h.elim
theorem onRef.imp {d : D} {f g : Addr → Prop} (k : ∀ a, f a → g a) (h : onRef d f) : onRef d g := by obtain ⟨a, rfl, q⟩ := h.of; exact k a q
def zIxW (ta tb : TEZ Mst) : TEZ Mst := fun δ w Q E => ta δ w (fun x w1 => tb δ w1 (fun y w2 => onRef x fun a => intD y fun k => ∃ l v, wGet w2 a = some l ∧ atI l k = some v ∧ Q v w2) E) E
def zLenW (ta : TEZ Mst) : TEZ Mst := fun δ w Q E => ta δ w (fun x w1 => onRef x fun a => ∃ l, wGet w1 a = some l ∧ Q (.int l.length) w1) E
def zSetW (to tk te : TEZ Mst) : TSZ Mst := fun DE δ w => te δ w (fun d w1 => to δ w1 (fun x w2 => tk δ w2 (fun y w3 => onRef x fun a => intD y fun k => ∃ l j, wGet w3 a = some l ∧ ixN l.length k = some j ∧ DE.nx δ (wSet w3 a (l.set j d))) (fun e w' => DE.ex e δ w')) (fun e w' => DE.ex e δ w')) (fun e w' => DE.ex e δ w')
def zRetW (ta : TAZ Mst) : TSZ Mst := fun DE δ w => ta δ w (fun l w1 => l.length ≤ 100000 ∧ ∀ p, wGet w1 p = none → DE.rt (.ref p) ((p, l) :: w1)) (fun e w' => DE.ex e δ w')
def zToW (i : Nat) (t : TSZ Mst) : TSZ Mst := fun DE δ w => onOwn δ i fun l => ∀ c, wGet w c = none → t DE (δ.set i (.val (.ref c))) ((c, l) :: w)
section
variable {X : Cx} {ec : Nat → Addr} {pos pos' p : Pos} {a b e : Expr} {ta tb te to tk : TEZ Mst}
theorem z_ixW (ha : PEZ X (WL X.K ec) a ta) (hb : PEZ X (WL X.K ec) b tb) (hs : PlainIx b := by exact fun _ _ => rfl) : PEZ X (WL X.K ec) (.Subscript a b pos) (zIxW ta tb) :=
  ⟨fun k h => ha.mo (fun _ _ h1 => hb.mo (fun _ _ h2 => h2.imp fun a h3 => h3.imp fun n ⟨l, v, g1, g2, g3⟩ => ⟨l, v, g1, g2, k _ _ g3⟩) h1) h, fun Z ex tk => peI (pe_ix ix_list (ha.run Z ex tk) (hb.run Z ex tk) hs) fun σ H Q ⟨G, M, δ, w, s, h⟩ =>
    ⟨G, M, δ, w, s, ha.mo (fun d w1 h1 v H1 G1 M1 o1 r1 => ⟨G1, M1, δ, w1, s.go o1, hb.mo (fun d2 w2 h2 v2 H2 G2 M2 o2 r2 => by
      obtain ⟨q, rfl, h3⟩ := h2.of
      obtain ⟨k, rfl, l, d, g1, g2, g3⟩ := h3.of
      cases r1
      cases r2
      obtain ⟨vs, m1, m2⟩ := o2.pt.wd.2 q l g1
      obtain ⟨u, u1, u2⟩ := m2.at g2
      exact ⟨q, vs, k, u, rfl, rfl, .inl (.inl (o2.pt.mh _ _ m1)), u1, g3 u H2 G2 M2 (o1.tr o2) u2⟩) h1⟩) h⟩⟩
theorem z_lenW (hm : X.mg "len" = none) (ha : PEZ X (WL X.K ec) a ta) (hg : Gl X "len" := by rfl) (he : starEach [a] X.env = (false, eval a X.env) :: starEach [] X.env := by rfl) (hpl : (backTo pos (starEach [] X.env)).any (·.1) = false := by rfl) : PEZ X (WL X.K ec) (.Call (.Name "len" p) [a] [] pos) (zLenW ta) :=
  ⟨fun k h => ha.mo (fun _ _ h1 => h1.imp fun q ⟨l, g1, g2⟩ => ⟨l, g1, k _ _ g2⟩) h, fun Z ex tk => peI (pe_callB call_len_seq hg hm PySem.boot_len (pa_cons (ha.run Z ex tk) pa_nil he) (by decide) (by decide) he hpl) fun σ H Q ⟨G, M, δ, w, s, h⟩ =>
    ⟨G, M, δ, w, s, ha.mo (fun d w1 h1 v H1 G1 M1 o1 r1 => by
      obtain ⟨q, rfl, l, g1, g2⟩ := h1.of
      cases r1
      obtain ⟨vs, m1, m2⟩ := o1.pt.wd.2 q l g1
      refine ⟨q, vs, rfl, .inl (.inl (.inl (o1.pt.mh _ _ m1))), ?_⟩
      rw [m2.len]
      exact g2 _ H1 G1 M1 o1 (.int _)) h⟩⟩
theorem z_setW (ho : PEZ X (WL X.K ec) a to) (hk : PEZ X (WL X.K ec) b tk) (he : PEZ X (WL X.K ec) e te) (hs : swapsWithSole [.Subscript a b pos'] e pos.line X.env = pure false := by rfl) (hw : swappedStores [.Subscript a b pos'] e X.env = pure none := by rfl)
    (h1 : (assignEach [.Subscript a b pos'] X.env).map (·.2) = [assign (.Subscript a b pos') X.env] := by rfl)
    (ha : ∀ v, assign (.Subscript a b pos') X.env v = (do
      let ov ← holding [v] (eval a X.env)
      let iv ← holding [v, ov] (eval b X.env)
      standAt pos'
      holding [v, ov, iv] (setItem ov iv v)
      release [v, ov, iv] []) := by intro _; rfl) : PSZ X (WL X.K ec) (.Assign [.Subscript a b pos'] e pos) (zSetW to tk te) := fun Z ex tk' =>
  psI (ps_asg (he.run Z ex tk') (pg_sub (ho.run Z ex tk') (hk.run Z ex tk') set_list ha) hs hw h1) fun DE σ H ⟨Dz, hex, EI, G, M, δ, w, s, h⟩ => by
  subst hex
  refine ⟨G, M, δ, w, s, he.mo (fun d w1 q1 v H1 G1 M1 o1 r1 => ⟨G1, M1, δ, w1, s.go o1, ho.mo (fun x w2 q2 v2 H2 G2 M2 o2 r2 => ⟨G2, M2, δ, w2, s.go (o1.tr o2), hk.mo (fun y w3 q3 v3 H3 G3 M3 o3 r3 => ?_) q2⟩) q1⟩) h⟩
  obtain ⟨q, rfl, h3⟩ := q3.of
  obtain ⟨k, rfl, l, j, g1, g2, g3⟩ := h3.of
  cases r2
  cases r3
  obtain ⟨vs, m1, m2⟩ := o3.pt.wd.2 q l g1
  have s3 := s.go ((o1.tr o2).tr o3)
  exact ⟨q, vs, k, j, rfl, rfl, o3.pt.mh _ _ m1, by rw [m2.len]; exact g2, EI.nx _ _ ⟨G3, _, δ, _, chgW s3 g1 (RepL.set (r1.up ((o2.tr o3).nx.gg)) j m2), g3⟩⟩
theorem z_retW {es : List Expr} {t : TAZ Mst} (h : PAZ X (WL X.K ec) es t) : PSZ X (WL X.K ec) (.Return (some (.List es pos')) pos) (zRetW t) := fun Z ex tk => psI (ps_ret (pe_lst (h.run Z ex tk))) fun DE σ H ⟨Dz, hex, EI, G, M, δ, w, s, q⟩ => by
  subst hex
  refine ⟨G, M, δ, w, s, h.mo (fun l w1 ⟨q0, q1⟩ vs H1 G1 M1 o1 r1 => ⟨sz1 (by rw [r1.len]; exact q0), fun p hp => ?_⟩) q⟩
  have n := NewAt.of (vs := vs) o1 s.pt.mh hp
  obtain ⟨o2, hw⟩ := newW (m := l) (o1.laid hp) n.1 n.2.1 n.2.2.1 n.2.2.2 r1
  exact EI.rt (.ref p) _ G1 _ (.ref p) _ o2.pt (s.go o2).nx (.ref p) (q1 p hw)
theorem zb_toW (i : Nat) {sts : List Stmt} {t : TSZ Mst} (h : PBZ X (WL X.K ec) sts t) : PBZ X (WL X.K ec) sts (zToW i t) := fun Z ex tk => pbI (h Z ex tk) fun DE σ H ⟨Dz, hex, EI, G, M, δ, w, s, q⟩ => by
  obtain ⟨l, hl, q⟩ := q.of
  obtain ⟨p, vs, h1, h2, h3, h4, h5, h7⟩ := s.sl i _ hl
  have hi : i < δ.length := (List.getElem?_eq_some_iff.mp hl).1
  have hw := s.pt.wd.none h4
  have own : ∀ {n : Nat} {m' : List D}, (δ.set i (.val (.ref p)))[n]? = some (.own m') → δ[n]? = some (.own m') ∧ i ≠ n := fun {n m'} e => by
    by_cases z : i = n
    · subst z; rw [List.getElem?_set_self hi] at e; cases e
    · rw [List.getElem?_set_ne z] at e; exact ⟨e, z⟩
  refine ⟨Dz, hex, EI, G, upd M p (.lst vs), _, _, ⟨⟨s.pt.gh, fun q x e => ?_, fun q x e => ?_, ⟨fun q x e => ?_, fun q l' e => ?_⟩⟩, ⟨s.nx.gg, s.nx.fr, s.nx.gn, fun q x e e' => ?_, fun q x e => ?_⟩, s.st, by rw [List.length_set]; exact s.len, fun j sl e => ?_, fun j k q m1 m2 e1 e2 e3 e4 => s.od j k q m1 m2 (own e1).1 (own e2).1 e3 e4⟩, q p hw⟩
  · by_cases k : q = p
    · subst k; rw [upd_same] at e; rw [h2]; exact e
    · rw [upd_ne k] at e; exact s.pt.mh q x e
  · rw [upd_ne (ne_of_none e h3)]; exact s.pt.dj q x e
  · rw [wGet_cons]
    by_cases k : q = p
    · rw [if_pos k]; exact ⟨_, rfl⟩
    · rw [if_neg k]; rw [upd_ne k] at e; exact s.pt.wd.1 q x e
  · rw [wGet_cons] at e
    by_cases k : q = p
    · subst k
      rw [if_pos rfl] at e
      cases e
      exact ⟨vs, upd_same, h7⟩
    · rw [if_neg k] at e
      obtain ⟨us, g1, g2⟩ := s.pt.wd.2 q l' e
      exact ⟨us, by rw [upd_ne k]; exact g1, g2⟩
  · by_cases k : q = p
    · subst k; exact h5
    · rw [upd_ne k] at e; exact s.nx.mn q x e e'
  · obtain ⟨y, e1⟩ := s.nx.m0 q x e
    by_cases k : q = p
    · subst k; exact ⟨_, upd_same⟩
    · exact ⟨y, by rw [upd_ne k]; exact e1⟩
  · by_cases z : i = j
    · subst z
      rw [List.getElem?_set_self hi] at e
      cases e
      exact ⟨.ref p, h1, .ref p⟩
    · have e' : δ[j]? = some sl := by rw [List.getElem?_set_ne z] at e; exact e
      have g := s.sl j sl e'
      cases sl with
      | no => trivial
      | val d => exact g
      | own l' =>
        obtain ⟨p', us, g1, g2, g3, g4, g5, g6⟩ := g
        refine ⟨p', us, g1, g2, g3, ?_, g5, g6⟩
        rw [upd_ne (fun y => z (s.od i j p l l' hl e' h1 (by rw [← y]; exact g1)))]
        exact g4
end
end Z

namespace Z
open PySem PySem.Spec PyProof.Rows L2
theorem Sm.num (i : Int) : Sm (i.natAbs.log2 + 1) i := by
  unfold Sm
  by_cases h : i.natAbs = 0
  · rw [h]; decide
  · exact Nat.lt_log2_self
theorem DivOk.of {n : Nat} {j : Int} (h : 0 < j) (s : Sm n j) (l : n ≤ 8000) : DivOk j := ⟨h, s.le l⟩
theorem Sm.ofNat {n : Nat} {k : Nat} (h : k < 2 ^ n) : Sm n (k : Int) := by unfold Sm; omega
theorem Sm.lt10 {r : Int} {k : Nat} (h0 : 0 ≤ r) (h1 : r < 10 ^ k) : Sm (4 * k) r := by
  unfold Sm
  have e : (10 : Int) ^ k = ((10 ^ k : Nat) : Int) := by simp
  rw [e] at h1
  have h2 : r.natAbs < 10 ^ k := by omega
  refine Nat.lt_of_lt_of_le h2 ?_
  rw [Nat.pow_mul]
  exact Nat.pow_le_pow_left (by decide) k
theorem Sm.lt10s {r : Int} {k : Nat} (h0 : -(10 ^ k) ≤ r) (h1 : r ≤ 10 ^ k) : Sm (4 * k + 1) r := by
  unfold Sm
  have e : (10 : Int) ^ k = ((10 ^ k : Nat) : Int) := by simp
  rw [e] at h0 h1
  have h2 : r.natAbs ≤ 10 ^ k := by omega
  refine Nat.lt_of_le_of_lt h2 ?_
  rw [Nat.pow_succ, Nat.pow_mul]
  have := Nat.pow_le_pow_left (show 10 ≤ 2 ^ 4 by decide) k
  have := Nat.pos_of_ne_zero (show (2 ^ 4) ^ k ≠ 0 by simp)
  omega
theorem atI_at {l : List D} {k : Int} (h0 : 0 ≤ k) (h1 : k < l.length) : ∃ d, atI l k = some d ∧ l[k.toNat]? = some d := by
  have h2 : k.toNat < l.length := by omega
  refine ⟨l[k.toNat], ?_, List.getElem?_eq_getElem h2⟩
  unfold atI ixN
  rw [if_pos h0, if_pos h1]
  exact List.getElem?_eq_getElem h2
theorem atI_int {ns : List Int} {k : Int} (h0 : 0 ≤ k) (h1 : k < ns.length) : ∃ z, atI (ns.map D.int) k = some (.int z) ∧ ns[k.toNat]? = some z := by
  obtain ⟨d, e1, e2⟩ := atI_at (l := ns.map D.int) h0 (by rw [List.length_map]; exact h1)
  rw [List.getElem?_map] at e2
  cases q : ns[k.toNat]? with
  | none => rw [q] at e2; cases e2
  | some z => rw [q] at e2; cases e2; exact ⟨z, e1, rfl⟩
theorem ixN_in {n : Nat} {k : Int} (h0 : 0 ≤ k) (h1 : k < n) : ixN n k = some k.toNat := by
  unfold ixN
  rw [if_pos h0, if_pos h1]
theorem deq_int (i j : Int) : deq (.int i) (.int j) = (i == j) := by unfold deq; simp only [py, PyData.eqv]
theorem deq_bl (i j : Bool) : deq (.bl i) (.bl j) = (i == j) := by unfold deq; simp only [py, PyData.eqv]
theorem deq_tup (l m : List D) : deq (.tup l) (.tup m) = deqs l m := by unfold deq deqs; simp only [py, PyData.eqv]
theorem deq_lst (l m : List D) : deq (.lst l) (.lst m) = deqs l m := by unfold deq deqs; simp only [py, PyData.eqv]
theorem deq_non : deq .non .non = true := by unfold deq; simp only [py, PyData.eqv]
theorem deq_non_int (i : Int) : deq .non (.int i) = false := by unfold deq; simp only [py, PyData.eqv]
theorem deq_int_non (i : Int) : deq (.int i) .non = false := by unfold deq; simp only [py, PyData.eqv]
theorem deq_non_tup (i : List D) : deq .non (.tup i) = false := by unfold deq; simp only [py, PyData.eqv]
theorem deq_tup_non (i : List D) : deq (.tup i) .non = false := by unfold deq; simp only [py, PyData.eqv]
theorem deqs_nil : deqs [] [] = true := by unfold deqs; simp only [pys, PyData.eqvAll]
theorem deqs_cons (a b : D) (l m : List D) : deqs (a :: l) (b :: m) = (deq a b && deqs l m) := by unfold deqs deq; simp only [pys, PyData.eqvAll]
theorem deqs_nil_cons (b : D) (m : List D) : deqs [] (b :: m) = false := by unfold deqs; simp only [pys, PyData.eqvAll]
theorem deqs_cons_nil (b : D) (m : List D) : deqs (b :: m) [] = false := by unfold deqs; simp only [pys, PyData.eqvAll]
theorem deqI {i j : Int} (h : deq (.int i) (.int j) = true) : i = j := by rw [deq_int] at h; exact beq_iff_eq.mp h
theorem deqI' {i j : Int} (h : deq (.int i) (.int j) = false) : i ≠ j := by rw [deq_int] at h; exact beq_eq_false_iff_ne.mp h
/-- the conditions of == on two whole numbers -/
theorem eqI {i j : Int} : okD (.int i) = true ∧ okD (.int j) = true ∧ dpD (.int i) ≤ 64 ∧ dpD (.int j) ≤ 64 := ⟨rfl, rfl, Nat.zero_le _, Nat.zero_le _⟩
end Z

namespace Z
open PySem PySem.Spec PyProof.Rows L2
/-- the texts of nines and of one with noughts behind, to sixty-four signs -/
theorem p10_le {a b : Nat} (h : a ≤ b) : (10 : Int) ^ a ≤ 10 ^ b := by
  have := Nat.pow_le_pow_right (show 0 < 10 by decide) h
  have e : ∀ n : Nat, (10 : Int) ^ n = ((10 ^ n : Nat) : Int) := fun n => by simp
  rw [e, e]; omega
theorem p10_pos (a : Nat) : (0 : Int) < 10 ^ a := by
  have := Nat.pow_pos (n := a) (show 0 < 10 by decide)
  have e : ∀ n : Nat, (10 : Int) ^ n = ((10 ^ n : Nat) : Int) := fun n => by simp
  rw [e]; omega
theorem impR {a b c : Prop} (h : b → c) : (a → b) → a → c := fun f x => h (f x)
theorem allR {α : Sort _} {p q : α → Prop} (h : ∀ x, p x → q x) : (∀ x, p x) → ∀ x, q x := fun f x => h x (f x)
theorem nb1 {b : Bool} (h : (!b) = true) : b = false := by cases b; rfl; cases h
theorem nb2 {b : Bool} (h : (!b) = false) : b = true := by cases b; cases h; rfl
/-! the entry's slots, one after the other -/
theorem stZ_len {a : Str} {N : List Str} {d : D} {ds : List D} : stZ (a :: N).length (d :: ds) = .val d :: stZ N.length ds := by
  unfold stZ
  rw [List.length_cons, List.length_cons, Nat.add_sub_add_right]; rfl
theorem stZ_len0 {a : Str} {N : List Str} : stZ (a :: N).length [] = .no :: stZ N.length [] := rfl
theorem stZ_nil : stZ ([] : List Str).length [] = [] := rfl
theorem setAll_cons {δ : List Sl} {i : Nat} {is : List Nat} {d : D} {ds : List D} : setAll δ (i :: is) (d :: ds) = setAll (δ.set i (.val d)) is ds := rfl
theorem setAll_nil {δ : List Sl} {ds : List D} : setAll δ [] ds = δ := rfl
/-! menus -/
theorem at_mem {l : List D} {k : Int} (h0 : 0 ≤ k) (h1 : k < l.length) : ∃ d, atI l k = some d ∧ d ∈ l := by
  obtain ⟨d, h2, h3⟩ := atI_at h0 h1
  exact ⟨d, h2, List.mem_of_getElem? h3⟩
theorem sgn_at (r : Int) : ∃ s, atI [D.int 1, D.int (-1)] (r % 2) = some (.int s) ∧ (s = 1 ∨ s = -1) ∧ Sm 1 s := by
  have : r % 2 = 0 ∨ r % 2 = 1 := by omega
  rcases this with e | e
  · rw [e]; exact ⟨1, rfl, .inl rfl, by unfold Sm; decide⟩
  · rw [e]; exact ⟨-1, rfl, .inr rfl, by unfold Sm; decide⟩
theorem Sm.sgn {n : Nat} {a s : Int} (h : Sm n a) (hs : s = 1 ∨ s = -1) : Sm n (a * s) := by
  rcases hs with rfl | rfl
  · rw [Int.mul_one]; exact h
  · unfold Sm at *; omega
end Z

namespace Z
open PySem PySem.Spec PyProof.Rows L2
variable {ω : Type}
theorem z_globE {X : Cx} {W : Wp ω} {pos : Pos} {x y : Str} (hm : ∃ t, X.mg x = some (.str y t)) (hg : Gl X x := by rfl) (hd : (x == ("__debug__" : Str)) = false := by decide) : PEZ X W (.Name x pos) (zK (.str y)) :=
  have ⟨_, h⟩ := hm
  z_globS h hg hd
/-! ### loops over a short list, turn by turn -/
def zUnC (gz : TGZ) (tt : TTZ ω) (te : TEZ ω) (vs : List Nat) (δ : List Sl) : List D → ω → (List D → ω → Prop) → Prop
  | [], w, Q => Q [] w
  | d :: l, w, Q => gz d (wipeZ δ vs) fun δ2 => tt δ2 w (fun b w2 => (b = true → te δ2 w2 (fun y w3 => zUnC gz tt te vs δ l w3 fun acc w4 => Q (y :: acc) w4) NoE) ∧ (b = false → zUnC gz tt te vs δ l w2 Q)) NoE
theorem un_comp {l : List D} {gz : TGZ} {tt : TTZ ω} {te : TEZ ω} {vs : List Nat} {δ : List Sl} {w : ω} {Q : List D → ω → Prop} (h : zUnC gz tt te vs δ l w Q) :
    ∃ I : Nat → List D → ω → Prop, I 0 [] w ∧ (∀ i d acc w', l[i]? = some d → I i acc w' → gz d (wipeZ δ vs) fun δ2 => tt δ2 w' (fun b w2 => (b = true → te δ2 w2 (fun y w3 => I (i + 1) (acc ++ [y]) w3) NoE) ∧ (b = false → I (i + 1) acc w2)) NoE) ∧
      ∀ acc w', I l.length acc w' → Q acc w' := by
  refine ⟨fun i acc w' => zUnC gz tt te vs δ (l.drop i) w' fun a w2 => Q (acc ++ a) w2, h, fun i d acc w' hd q => ?_, fun acc w' q => ?_⟩
  · have hl := (List.getElem?_eq_some_iff.mp hd)
    obtain ⟨h1, h2⟩ := hl
    dsimp only at q ⊢
    rw [List.drop_eq_getElem_cons h1, h2] at q
    simp only [List.append_assoc, List.singleton_append]
    exact q
  · dsimp only at q
    rw [List.drop_length] at q
    have q : Q (acc ++ []) w' := q
    rwa [List.append_nil] at q
def zUnS (gz : TGZ) (t : TSZ ω) (DE : EndZ ω) : List D → List Sl → ω → Prop
  | [], δ, w => DE.nx δ w
  | d :: l, δ, w => gz d δ fun δ2 => t { DE with nx := zUnS gz t DE l, ct := zUnS gz t DE l, bk := DE.nx } δ2 w
theorem un_loop {l : List D} {gz : TGZ} {t : TSZ ω} {DE : EndZ ω} {δ : List Sl} {w : ω} (h : zUnS gz t DE l δ w) : zLoop l gz t DE δ w := by
  refine ⟨fun i => zUnS gz t DE (l.drop i), h, fun i d δ' w' hd q => ?_, fun δ' w' q => ?_⟩
  · obtain ⟨h1, h2⟩ := List.getElem?_eq_some_iff.mp hd
    dsimp only at q
    rw [List.drop_eq_getElem_cons h1, h2] at q
    exact q
  · dsimp only at q
    rw [List.drop_length] at q
    exact q
/-! ### x in a list of flat data -/
def okF : D → Bool
  | .non => true
  | .bl _ => true
  | .int _ => true
  | .str _ => true
  | _ => false
def okFs : List D → Bool
  | [] => true
  | d :: l => okF d && okFs l
def eqF : D → D → Bool
  | .non, .non => true
  | .bl a, .bl b => a == b
  | .bl a, .int b => (if a then 1 else 0) == b
  | .int a, .bl b => a == (if b then 1 else 0)
  | .int a, .int b => a == b
  | .str a, .str b => a == b
  | _, _ => false
def memF (x : D) : List D → Bool
  | [] => false
  | y :: l => eqF y x || memF x l
theorem eqF_int (i j : Int) : eqF (.int i) (.int j) = (i == j) := rfl
theorem memF_nil (x : D) : memF x [] = false := rfl
theorem memF_cons (x y : D) (l : List D) : memF x (y :: l) = (eqF y x || memF x l) := rfl
section
variable {K : PySem.W.Frag} {G : Hp}
theorem okF_flat {v : V} {d : D} (r : Rep K G v d) (h : okF d = true) : flatV v = true := by
  cases r <;> first | rfl | cases h
theorem okFs_flat : ∀ {vs : List V} {l : List D}, RepL K G vs l → okFs l = true → vs.all flatV = true
  | _, _, .nil, _ => rfl
  | _, _, .cons r t, h => by
    unfold okFs at h
    rw [Bool.and_eq_true] at h
    rw [List.all_cons, okF_flat r h.1, okFs_flat t h.2]; rfl
theorem eqF_eqV {v u : V} {d e : D} (r : Rep K G v d) (s : Rep K G u e) (h : okF d = true) (g : okF e = true) : eqV v u = eqF d e := by
  cases r <;> first | (cases h; done) | (cases s <;> first | (cases g; done) | rfl)
theorem memF_inV {v : V} {d : D} (r : Rep K G v d) (h : okF d = true) : ∀ {vs : List V} {l : List D}, RepL K G vs l → okFs l = true → inV v vs = memF d l
  | _, _, .nil, _ => rfl
  | _, _, .cons s t, g => by
    unfold okFs at g
    rw [Bool.and_eq_true] at g
    have ih := memF_inV r h t g.2
    unfold inV at ih ⊢
    rw [List.any_cons, eqF_eqV s r g.1 h, ih]; rfl
end
def inD (neg : Bool) : OpD := fun x y q => match y with
  | .lst l => okF x = true ∧ okFs l = true ∧ q (.bl (if neg then !memF x l else memF x l))
  | .arr l => okF x = true ∧ okFs l = true ∧ q (.bl (if neg then !memF x l else memF x l))
  | .tup l => okF x = true ∧ okFs l = true ∧ q (.bl (if neg then !memF x l else memF x l))
  | _ => False
theorem l_inA {K : PySem.W.Frag} (neg : Bool) : Lnd K (rIn K neg) (inD neg) where
  mo := fun {x y q q'} k h => by
    unfold inD at h ⊢
    split at h
    · exact ⟨h.1, h.2.1, k _ h.2.2⟩
    · exact ⟨h.1, h.2.1, k _ h.2.2⟩
    · exact ⟨h.1, h.2.1, k _ h.2.2⟩
    · exact h.elim
  go := fun H G x y dx dy q Q e rx ry h k _ => by
    unfold inD at h
    split at h
    · obtain ⟨h1, h2, h3⟩ := h
      cases ry with
      | @lst p vs _ s r =>
        refine ⟨p, vs, rfl, .inl (.inl (.inl (e _ _ s))), okF_flat rx h1, okFs_flat r h2, ?_⟩
        rw [memF_inV rx h1 r h2]
        exact k _ _ h3 (.bl _)
    · obtain ⟨h1, h2, h3⟩ := h
      cases ry with
      | @arr p vs _ s r =>
        refine ⟨p, vs, rfl, .inl (sqLE e s), okF_flat rx h1, okFs_flat r h2, ?_⟩
        rw [memF_inV rx h1 r h2]
        exact k _ _ h3 (.bl _)
    · obtain ⟨h1, h2, h3⟩ := h
      cases ry with
      | @tup p vs _ s r =>
        refine ⟨p, vs, rfl, .inr (sqTE e s), okF_flat rx h1, okFs_flat r h2, ?_⟩
        rw [memF_inV rx h1 r h2]
        exact k _ _ h3 (.bl _)
    · exact h.elim
def inY : OpD := fun x y q => match y with
  | .lst l => okF x = true ∧ okFs l = true ∧ q (.bl (memF x l))
  | .arr l => okF x = true ∧ okFs l = true ∧ q (.bl (memF x l))
  | .tup l => okF x = true ∧ okFs l = true ∧ q (.bl (memF x l))
  | _ => False
def inN : OpD := fun x y q => match y with
  | .lst l => okF x = true ∧ okFs l = true ∧ q (.bl (!memF x l))
  | .arr l => okF x = true ∧ okFs l = true ∧ q (.bl (!memF x l))
  | .tup l => okF x = true ∧ okFs l = true ∧ q (.bl (!memF x l))
  | _ => False
theorem l_in {K : PySem.W.Frag} : Lnd K (rIn K false) inY := l_inA false
theorem l_notIn {K : PySem.W.Frag} : Lnd K (rIn K true) inN := l_inA true
theorem bl_eq4 {Q : D → ω → Prop} {w : ω} {a b c d e f g i : Int} (h : Q (.bl true) w) (e1 : a = e) (e2 : b = f) (e3 : c = g) (e4 : d = i) : Q (.bl (deq (.lst [.int a, .int b, .int c, .int d]) (.lst [.int e, .int f, .int g, .int i]))) w := by
  rw [deq_lst, deqs_cons, deqs_cons, deqs_cons, deqs_cons, deqs_nil, deq_int, deq_int, deq_int, deq_int, beq_iff_eq.mpr e1, beq_iff_eq.mpr e2, beq_iff_eq.mpr e3, beq_iff_eq.mpr e4]
  exact h
theorem w_set {w : Mst} {d : Addr} {l m : List D} (h : wGet w d = some l) : wGet (wSet w d m) d = some m := by rw [wGet_set, if_pos rfl, h]; rfl
theorem near7 {m r : Int} (hm : 1 ≤ m) (h0 : 0 ≤ r) (h1 : r < 7) : ∃ x, atI [D.int 0, D.int 1, D.int (m - 1), D.int m, D.int (m / 2 + 1), D.int (-1), D.int (0 - m)] r = some (.int x) ∧ -m ≤ x ∧ x ≤ m := by
  have : r = 0 ∨ r = 1 ∨ r = 2 ∨ r = 3 ∨ r = 4 ∨ r = 5 ∨ r = 6 := by omega
  rcases this with rfl | rfl | rfl | rfl | rfl | rfl | rfl
  · exact ⟨0, rfl, by omega, by omega⟩
  · exact ⟨1, rfl, by omega, by omega⟩
  · exact ⟨m - 1, rfl, by omega, by omega⟩
  · exact ⟨m, rfl, by omega, by omega⟩
  · exact ⟨m / 2 + 1, rfl, by omega, by omega⟩
  · exact ⟨-1, rfl, by omega, by omega⟩
  · exact ⟨0 - m, rfl, by omega, by omega⟩
/-! a place at which the walk stops and asks -/
@[irreducible] def Stp (p : Prop) : Prop := p
theorem Stp.mk {p : Prop} (h : p) : Stp p := by unfold Stp; exact h
theorem Stp.out {p : Prop} (h : Stp p) : p := by unfold Stp at h; exact h
theorem Stp.imp {p q : Prop} (f : p → q) (h : Stp p) : Stp q := .mk (f h.out)
theorem bl_dec {Q : D → ω → Prop} {w : ω} {p : Prop} [Decidable p] (h : Q (.bl true) w) (hp : p) : Q (.bl (decide p)) w := by
  rw [decide_eq_true hp]; exact h
theorem bl_eqp {Q : D → ω → Prop} {w : ω} {a b c d : Int} (h : Q (.bl true) w) (e1 : a = c) (e2 : b = d) : Q (.bl (deq (.tup [.int a, .int b]) (.tup [.int c, .int d]))) w := by
  rw [deq_tup, deqs_cons, deqs_cons, deqs_nil, deq_int, deq_int, beq_iff_eq.mpr e1, beq_iff_eq.mpr e2]
  exact h
theorem bl_decF {Q : D → ω → Prop} {w : ω} {p : Prop} [Decidable p] (h : Q (.bl false) w) (hp : ¬ p) : Q (.bl (decide p)) w := by
  rw [decide_eq_false hp]; exact h
theorem bl_nil {Q : D → ω → Prop} {w : ω} (h : Q (.bl true) w) : Q (.bl (deq (.lst []) (.lst []))) w := by
  rw [deq_lst, deqs_nil]; exact h
end Z

namespace Z
open PySem
/-! ### plain sums -/
def sumZ (f : Nat → Int) : Nat → Int
  | 0 => 0
  | n + 1 => sumZ f n + f n
theorem sumZ_congr {f g : Nat → Int} : ∀ n, (∀ i, i < n → f i = g i) → sumZ f n = sumZ g n
  | 0, _ => rfl
  | n + 1, h => by
    show sumZ f n + f n = sumZ g n + g n
    rw [sumZ_congr n fun i hi => h i (by omega), h n (by omega)]
theorem sumZ_add (f g : Nat → Int) : ∀ n, sumZ (fun i => f i + g i) n = sumZ f n + sumZ g n
  | 0 => rfl
  | n + 1 => by
    show sumZ (fun i => f i + g i) n + (f n + g n) = sumZ f n + f n + (sumZ g n + g n)
    rw [sumZ_add f g n]; omega
theorem sumZ_sub (f g : Nat → Int) : ∀ n, sumZ (fun i => f i - g i) n = sumZ f n - sumZ g n
  | 0 => rfl
  | n + 1 => by
    show sumZ (fun i => f i - g i) n + (f n - g n) = sumZ f n + f n - (sumZ g n + g n)
    rw [sumZ_sub f g n]; omega
theorem sumZ_mul (c : Int) (f : Nat → Int) : ∀ n, sumZ (fun i => c * f i) n = c * sumZ f n
  | 0 => by show (0 : Int) = c * 0; omega
  | n + 1 => by
    show sumZ (fun i => c * f i) n + c * f n = c * (sumZ f n + f n)
    rw [sumZ_mul c f n, Int.mul_add]
theorem sumZ_const (c : Int) : ∀ n, sumZ (fun _ => c) n = c * (n : Int)
  | 0 => by show (0 : Int) = c * 0; omega
  | n + 1 => by
    show sumZ (fun _ => c) n + c = c * ((n + 1 : Nat) : Int)
    rw [sumZ_const c n, Int.natCast_add, Int.mul_add]; omega
theorem sumZ_split (f : Nat → Int) (n : Nat) : ∀ k, sumZ f (n + k) = sumZ f n + sumZ (fun i => f (n + i)) k
  | 0 => by show sumZ f n = sumZ f n + 0; omega
  | k + 1 => by
    show sumZ f (n + k) + f (n + k) = sumZ f n + (sumZ (fun i => f (n + i)) k + f (n + k))
    rw [sumZ_split f n k]; omega
theorem sumZ_first (f : Nat → Int) (n : Nat) : sumZ f (n + 1) = f 0 + sumZ (fun i => f (i + 1)) n := by
  have h := sumZ_split f 1 n
  rw [Nat.add_comm 1 n] at h
  rw [h, sumZ_congr (f := fun i => f (1 + i)) (g := fun i => f (i + 1)) n fun i _ => by rw [Nat.add_comm]]
  show 0 + f 0 + _ = _
  omega
theorem sumZ_rev (f : Nat → Int) : ∀ n, sumZ (fun i => f (n - 1 - i)) n = sumZ f n
  | 0 => rfl
  | n + 1 => by
    rw [sumZ_first]
    show f (n + 1 - 1 - 0) + _ = sumZ f n + f n
    rw [← sumZ_rev f n, sumZ_congr (f := fun i => f (n + 1 - 1 - (i + 1))) (g := fun i => f (n - 1 - i)) n fun i _ => by rw [show n + 1 - 1 - (i + 1) = n - 1 - i by omega], show n + 1 - 1 - 0 = n by omega]
    omega
/-- the sum of the places -/
def tri (n : Int) : Int := n * (n - 1) / 2
theorem tri_two (n : Int) : 2 * tri n = n * (n - 1) := by
  unfold tri
  have h : n * (n - 1) % 2 = 0 := by
    have e : n % 2 = 0 ∨ n % 2 = 1 := by omega
    rcases e with e | e
    · rw [Int.mul_emod, e]; simp
    · have : (n - 1) % 2 = 0 := by omega
      rw [Int.mul_emod, this]; simp
  omega
theorem sumZ_id : ∀ n : Nat, sumZ (fun i => (i : Int)) n = tri n
  | 0 => rfl
  | n + 1 => by
    show sumZ (fun i => (i : Int)) n + (n : Int) = tri ((n + 1 : Nat) : Int)
    rw [sumZ_id n]
    have h1 := tri_two (n : Int)
    have h2 := tri_two ((n + 1 : Nat) : Int)
    have e : ((n + 1 : Nat) : Int) * (((n + 1 : Nat) : Int) - 1) = (n : Int) * ((n : Int) - 1) + 2 * (n : Int) := by
      rw [Int.natCast_add]; simp only [Int.natCast_one]
      rw [show (n : Int) + 1 - 1 = (n : Int) by omega, Int.add_mul, Int.mul_sub]; omega
    omega
/-- parts and rests at the first n places -/
def FS (a b m : Int) (n : Nat) : Int := sumZ (fun i => (a * (i : Int) + b) / m) n
def RS (a b m : Int) (n : Nat) : Int := sumZ (fun i => (a * (i : Int) + b) % m) n
theorem sum_line (a b : Int) (n : Nat) : sumZ (fun i => a * (i : Int) + b) n = a * tri n + b * n := by
  rw [sumZ_add (fun i => a * (i : Int)) (fun _ => b), sumZ_mul, sumZ_const, sumZ_id]
theorem FS_RS (a b m : Int) (n : Nat) : m * FS a b m n + RS a b m n = a * tri n + b * n := by
  unfold FS RS
  rw [← sum_line, ← sumZ_mul, ← sumZ_add]
  exact sumZ_congr n fun i _ => Int.mul_ediv_add_emod _ _
theorem FS_laid {m : Int} (hm : 0 < m) (a b : Int) (n : Nat) : FS a b m n = a / m * tri n + b / m * n + FS (a % m) (b % m) m n := by
  unfold FS
  rw [← sum_line, ← sumZ_add]
  refine sumZ_congr n fun i _ => ?_
  have ha := Int.mul_ediv_add_emod a m
  have hb := Int.mul_ediv_add_emod b m
  have e : a * (i : Int) + b = (a % m * (i : Int) + b % m) + m * (a / m * (i : Int) + b / m) := by
    conv => lhs; rw [← ha, ← hb]
    rw [Int.add_mul, Int.mul_add, Int.mul_assoc]
    omega
  rw [e, Int.add_mul_ediv_left _ _ (by omega : m ≠ 0)]
  omega
/-- a line and its turned one -/
theorem FS_turn {a b m : Int} (ha : 0 < a) (hm : a < m) (hb : 0 ≤ b) (hb2 : b < m) : ∀ n : Nat, FS a b m n = FS m ((a * n + b) % m) a ((a * n + b) / m).toNat
  | 0 => by
    have e : (a * ((0 : Nat) : Int) + b) / m = 0 := by simp; exact Int.ediv_eq_zero_of_lt hb hb2
    rw [e]; rfl
  | n + 1 => by
    have ih := FS_turn ha hm hb hb2 n
    have hN : 0 ≤ (a * (n : Int) + b) / m := Int.ediv_nonneg (Int.add_nonneg (Int.mul_nonneg (by omega) (by omega)) hb) (by omega)
    have e0 : FS a b m (n + 1) = FS a b m n + (a * (n : Int) + b) / m := rfl
    have r0 := Int.emod_nonneg (a * (n : Int) + b) (show m ≠ 0 by omega)
    have r1 := Int.emod_lt_of_pos (a * (n : Int) + b) (show 0 < m by omega)
    have hd := Int.mul_ediv_add_emod (a * (n : Int) + b) m
    have e1 : a * ((n + 1 : Nat) : Int) + b = (a * (n : Int) + b) + a := by rw [Int.natCast_add, Int.mul_add]; simp; omega
    rw [e0, ih, e1]
    generalize hq : (a * (n : Int) + b) / m = q at *
    generalize hr : (a * (n : Int) + b) % m = r at *
    generalize a * (n : Int) + b = t at *
    obtain ⟨k, rfl⟩ : ∃ k : Nat, q = k := ⟨q.toNat, by omega⟩
    by_cases c : r + a < m
    · have d1 : (t + a) / m = k := by rw [← hd, Int.add_assoc, Int.mul_add_ediv_left _ _ (by omega : m ≠ 0), Int.ediv_eq_zero_of_lt (by omega) c]; omega
      have d2 : (t + a) % m = r + a := by rw [← hd, Int.add_assoc, Int.mul_add_emod_self_left]; exact Int.emod_eq_of_lt (by omega) c
      rw [d1, d2, Int.toNat_natCast]
      unfold FS
      rw [show (k : Int) = 1 * (k : Int) by omega, ← sumZ_const, ← sumZ_add]
      refine sumZ_congr k fun i _ => ?_
      rw [show m * (i : Int) + (r + a) = m * (i : Int) + r + a * 1 by omega, Int.add_mul_ediv_left _ _ (by omega : a ≠ 0)]
    · have d1 : (t + a) / m = k + 1 := by rw [← hd, show m * (k : Int) + r + a = (r + a - m) + m * ((k : Int) + 1) by rw [Int.mul_add]; omega, Int.add_mul_ediv_left _ _ (by omega : m ≠ 0), Int.ediv_eq_zero_of_lt (by omega) (by omega)]; omega
      have d2 : (t + a) % m = r + a - m := by rw [← hd, show m * (k : Int) + r + a = (r + a - m) + m * ((k : Int) + 1) by rw [Int.mul_add]; omega, Int.add_mul_emod_self_left]; exact Int.emod_eq_of_lt (by omega) (by omega)
      rw [d1, d2, show ((k : Int) + 1).toNat = k + 1 by omega, Int.toNat_natCast]
      unfold FS
      rw [sumZ_first, show (m * ((0 : Nat) : Int) + (r + a - m)) / a = 0 by simp; exact Int.ediv_eq_zero_of_lt (by omega) (by omega), Int.zero_add]
      have hk : sumZ (fun _ => (1 : Int)) k = k := by rw [sumZ_const]; omega
      rw [show sumZ (fun i => (m * (i : Int) + r) / a) k + (k : Int) = sumZ (fun i => (m * (i : Int) + r) / a) k + sumZ (fun _ => 1) k by rw [hk], ← sumZ_add]
      refine sumZ_congr k fun i _ => ?_
      rw [show m * ((i + 1 : Nat) : Int) + (r + a - m) = m * (i : Int) + r + a * 1 by rw [Int.natCast_add, Int.mul_add]; simp; omega, Int.add_mul_ediv_left _ _ (by omega : a ≠ 0)]
theorem FS_none {a b m : Int} (ha : 0 ≤ a) (hm : a < m) (hb : 0 ≤ b) (hb2 : b < m) {n : Nat} (h : (a * n + b) / m = 0) : FS a b m n = 0 := by
  by_cases h0 : a = 0
  · subst h0
    unfold FS
    rw [sumZ_congr (g := fun _ => 0) n fun i _ => by rw [Int.zero_mul, Int.zero_add]; exact Int.ediv_eq_zero_of_lt hb hb2, sumZ_const]
    omega
  · rw [FS_turn (by omega) hm hb hb2, h]; rfl
theorem RS_le {m : Int} (hm : 1 ≤ m) (a b : Int) : ∀ n : Nat, 0 ≤ RS a b m n ∧ RS a b m n ≤ m * n
  | 0 => by show (0 : Int) ≤ 0 ∧ (0 : Int) ≤ m * 0; omega
  | n + 1 => by
    have ih := RS_le hm a b n
    have h0 := Int.emod_nonneg (a * (n : Int) + b) (show m ≠ 0 by omega)
    have h1 := Int.emod_lt_of_pos (a * (n : Int) + b) (show 0 < m by omega)
    have e : m * ((n + 1 : Nat) : Int) = m * (n : Int) + m := by rw [Int.natCast_add, Int.mul_add]; simp
    show 0 ≤ RS a b m n + (a * (n : Int) + b) % m ∧ RS a b m n + (a * (n : Int) + b) % m ≤ m * ((n + 1 : Nat) : Int)
    rw [e]; omega
theorem tri_sm {k : Nat} {n : Int} (h : Sm k n) : Sm (2 * k + 2) (tri n) := by
  have h1 : Sm (k + (max k 1 + 1)) (n * (n - 1)) := Sm.mul h (Sm.sub h (Sm.lit (by decide)))
  have h2 : Sm (k + (max k 1 + 1)) (n * (n - 1) / 2) := Sm.div h1 (by decide)
  by_cases hk : k = 0
  · subst hk
    have : n = 0 := by unfold Sm at h; omega
    subst this
    exact Sm.le (n := 1) (by show (tri 0).natAbs < 2 ^ 1; decide) (by omega)
  · exact h2.le (by omega)
theorem FS_sm {k : Nat} {a b m n : Int} (hm : 1 ≤ m) (hn : 0 ≤ n) (sa : Sm k a) (sb : Sm k b) (sm : Sm k m) (sn : Sm k n) : Sm (4 * k + 20) (FS a b m n.toNat) := by
  have e := FS_RS a b m n.toNat
  have r := RS_le hm a b n.toNat
  rw [show ((n.toNat : Nat) : Int) = n by omega] at e r
  have s1 : Sm (k + (2 * k + 2)) (a * tri n) := Sm.mul sa (tri_sm sn)
  have s2 : Sm (k + k) (b * n) := Sm.mul sb sn
  have s3 : Sm (k + k) (RS a b m n.toNat) := (Sm.mul sm sn).of_le r.1 r.2
  have s4 := Sm.sub (Sm.add s1 s2) s3
  rw [show a * tri n + b * n - RS a b m n.toNat = m * FS a b m n.toNat by omega] at s4
  refine Sm.le (s4.of_abs ?_) (by omega)
  rw [Int.natAbs_mul]
  exact Nat.le_mul_of_pos_left _ (by omega)
end Z

namespace Z
open PySem
/-! ### sums of parts and rests: laws with Int counts -/
theorem toNat_add' {n k : Int} (hn : 0 ≤ n) (hk : 0 ≤ k) : (n + k).toNat = n.toNat + k.toNat := by omega
theorem FS_join (a b m : Int) {n k : Int} (hn : 0 ≤ n) (hk : 0 ≤ k) : FS a b m (n + k).toNat = FS a b m n.toNat + FS a (a * n + b) m k.toNat := by
  rw [toNat_add' hn hk]
  unfold FS
  rw [sumZ_split]
  congr 1
  refine sumZ_congr _ fun i _ => ?_
  rw [Int.natCast_add, Int.mul_add, show ((n.toNat : Nat) : Int) = n by omega, Int.add_comm (a * n), Int.add_assoc]
theorem RS_join (a b m : Int) {n k : Int} (hn : 0 ≤ n) (hk : 0 ≤ k) : RS a b m (n + k).toNat = RS a b m n.toNat + RS a (a * n + b) m k.toNat := by
  rw [toNat_add' hn hk]
  unfold RS
  rw [sumZ_split]
  congr 1
  refine sumZ_congr _ fun i _ => ?_
  rw [Int.natCast_add, Int.mul_add, show ((n.toNat : Nat) : Int) = n by omega, Int.add_comm (a * n), Int.add_assoc]
theorem line_rev (a b : Int) {n : Int} (hn : 0 ≤ n) {i : Nat} (hi : i < n.toNat) : (0 - a) * (i : Int) + (a * (n - 1) + b) = a * ((n.toNat - 1 - i : Nat) : Int) + b := by
  rw [show ((n.toNat - 1 - i : Nat) : Int) = n - 1 - i by omega, Int.mul_sub a (n - 1) i, Int.sub_mul, Int.zero_mul]; omega
theorem FS_rev (a b m : Int) {n : Int} (hn : 0 ≤ n) : FS (0 - a) (a * (n - 1) + b) m n.toNat = FS a b m n.toNat := by
  unfold FS
  rw [← sumZ_rev (fun i => (a * (i : Int) + b) / m)]
  exact sumZ_congr _ fun i hi => by rw [line_rev a b hn hi]
theorem RS_rev (a b m : Int) {n : Int} (hn : 0 ≤ n) : RS (0 - a) (a * (n - 1) + b) m n.toNat = RS a b m n.toNat := by
  unfold RS
  rw [← sumZ_rev (fun i => (a * (i : Int) + b) % m)]
  exact sumZ_congr _ fun i hi => by rw [line_rev a b hn hi]
theorem FS_one (a b m : Int) {n : Int} (hn : 0 ≤ n) : FS a b m (n + 1).toNat = FS a b m n.toNat + (a * n + b) / m := by
  rw [show (n + 1).toNat = n.toNat + 1 by omega]
  show FS a b m n.toNat + (a * ((n.toNat : Nat) : Int) + b) / m = _
  rw [show ((n.toNat : Nat) : Int) = n by omega]
theorem RS_one (a b m : Int) {n : Int} (hn : 0 ≤ n) : RS a b m (n + 1).toNat = RS a b m n.toNat + (a * n + b) % m := by
  rw [show (n + 1).toNat = n.toNat + 1 by omega]
  show RS a b m n.toNat + (a * ((n.toNat : Nat) : Int) + b) % m = _
  rw [show ((n.toNat : Nat) : Int) = n by omega]
theorem line_times (a b t : Int) (i : Nat) : a * t * (i : Int) + b * t = (a * (i : Int) + b) * t := by
  rw [Int.add_mul, Int.mul_right_comm]
theorem FS_times (a b m : Int) {t : Int} (ht : 0 < t) (n : Nat) : FS (a * t) (b * t) (m * t) n = FS a b m n := by
  unfold FS
  refine sumZ_congr _ fun i _ => ?_
  rw [line_times, Int.mul_ediv_mul_of_pos_left _ _ ht]
theorem RS_times (a b m : Int) {t : Int} (ht : 0 < t) (n : Nat) : RS (a * t) (b * t) (m * t) n = RS a b m n * t := by
  unfold RS
  rw [Int.mul_comm (sumZ _ n) t, ← sumZ_mul]
  refine sumZ_congr _ fun i _ => ?_
  rw [line_times, Int.mul_comm _ t, Int.mul_comm m t, Int.mul_emod_mul_of_pos _ _ ht]
theorem FS_upA (a b : Int) {m : Int} (hm : m ≠ 0) (k : Int) (n : Nat) : FS (a + k * m) b m n = FS a b m n + k * tri n := by
  unfold FS
  rw [← sumZ_id, ← sumZ_mul, ← sumZ_add]
  refine sumZ_congr _ fun i _ => ?_
  rw [Int.add_mul, show a * (i : Int) + k * m * (i : Int) + b = a * (i : Int) + b + m * (k * (i : Int)) by rw [Int.mul_comm k m, Int.mul_assoc]; omega, Int.add_mul_ediv_left _ _ hm]
theorem FS_upB (a b : Int) {m : Int} (hm : m ≠ 0) (k : Int) (n : Nat) : FS a (b + k * m) m n = FS a b m n + k * n := by
  unfold FS
  rw [← sumZ_const, ← sumZ_add]
  refine sumZ_congr _ fun i _ => ?_
  rw [show a * (i : Int) + (b + k * m) = a * (i : Int) + b + m * k by rw [Int.mul_comm k m]; omega, Int.add_mul_ediv_left _ _ hm]
theorem RS_upA (a b : Int) (m : Int) (k : Int) (n : Nat) : RS (a + k * m) b m n = RS a b m n := by
  unfold RS
  refine sumZ_congr _ fun i _ => ?_
  rw [Int.add_mul, show a * (i : Int) + k * m * (i : Int) + b = a * (i : Int) + b + m * (k * (i : Int)) by rw [Int.mul_comm k m, Int.mul_assoc]; omega, Int.add_mul_emod_self_left]
theorem RS_upB (a b : Int) (m : Int) (k : Int) (n : Nat) : RS a (b + k * m) m n = RS a b m n := by
  unfold RS
  refine sumZ_congr _ fun i _ => ?_
  rw [show a * (i : Int) + (b + k * m) = a * (i : Int) + b + m * k by rw [Int.mul_comm k m]; omega, Int.add_mul_emod_self_left]
theorem bl_eq {ω : Type} {Q : D → ω → Prop} {w : ω} {x y : Int} (h : Q (.bl true) w) (e : x = y) : Q (.bl (deq (.int x) (.int y))) w := by
  rw [deq_int, beq_iff_eq.mpr e]
  exact h
end Z

namespace Z
open PySem
/-! ### sums by periods and by full turns -/
theorem sumZ_single (c : Int) (r : Nat) : ∀ m, sumZ (fun x => if x = r then c else 0) m = if r < m then c else 0
  | 0 => by rw [if_neg (by omega)]; rfl
  | m + 1 => by
    show sumZ (fun x => if x = r then c else 0) m + (if m = r then c else 0) = _
    rw [sumZ_single c r m]
    by_cases h : m = r
    · rw [if_pos h, if_neg (by omega), if_pos (by omega)]; omega
    · rw [if_neg h]
      by_cases h2 : r < m
      · rw [if_pos h2, if_pos (by omega)]; omega
      · rw [if_neg h2, if_neg (by omega)]; omega
theorem sumZ_zero {f : Nat → Int} {m : Nat} (h : ∀ i, i < m → f i = 0) : sumZ f m = 0 := by
  rw [sumZ_congr (g := fun _ => 0) m h, sumZ_const]; omega
def cnt (n m x : Nat) : Nat := n / m + if x < n % m then 1 else 0
theorem cnt_next {n m x : Nat} (hm : 0 < m) (hx : x < m) : cnt (n + 1) m x = cnt n m x + if x = n % m then 1 else 0 := by
  unfold cnt
  have hr := Nat.mod_lt n hm
  have hd := Nat.div_add_mod n m
  by_cases c : n % m + 1 < m
  · have e1 : (n + 1) / m = n / m := by
      rw [← hd, Nat.add_assoc, Nat.mul_add_div hm, Nat.div_eq_of_lt c, Nat.mul_add_div hm, Nat.div_eq_of_lt hr]
    have e2 : (n + 1) % m = n % m + 1 := by
      conv => lhs; rw [← hd]
      rw [Nat.add_assoc, Nat.mul_add_mod, Nat.mod_eq_of_lt c]
    rw [e1, e2]
    by_cases h1 : x < n % m
    · rw [if_pos (by omega), if_pos h1, if_neg (by omega)]
    · by_cases h2 : x = n % m
      · rw [if_pos (by omega), if_neg h1, if_pos h2]
      · rw [if_neg (by omega), if_neg h1, if_neg h2]
  · have hk : n % m + 1 = m := by omega
    have hn : n + 1 = m * (n / m + 1) := by rw [Nat.mul_add, Nat.mul_one]; omega
    have e1 : (n + 1) / m = n / m + 1 := by rw [hn]; exact Nat.mul_div_cancel_left _ hm
    have e2 : (n + 1) % m = 0 := by rw [hn]; exact Nat.mul_mod_right _ _
    rw [e1, e2, if_neg (by omega)]
    by_cases h1 : x < n % m
    · rw [if_pos h1, if_neg (by omega)]
    · rw [if_neg h1, if_pos (by omega)]
theorem sumZ_periods (f : Nat → Int) {m : Nat} (hm : 0 < m) : ∀ n, sumZ f n = sumZ (fun x => sumZ (fun j => f (x + j * m)) (cnt n m x)) m
  | 0 => by
    refine (sumZ_zero fun x _ => ?_).symm
    have : cnt 0 m x = 0 := by unfold cnt; rw [Nat.zero_div, Nat.zero_mod, if_neg (by omega)]
    rw [this]; rfl
  | n + 1 => by
    show sumZ f n + f n = _
    rw [sumZ_periods f hm n]
    have hr := Nat.mod_lt n hm
    have e : sumZ (fun x => sumZ (fun j => f (x + j * m)) (cnt (n + 1) m x)) m = sumZ (fun x => sumZ (fun j => f (x + j * m)) (cnt n m x) + if x = n % m then f n else 0) m := by
      refine sumZ_congr m fun x hx => ?_
      rw [cnt_next hm hx]
      by_cases h : x = n % m
      · rw [if_pos h, if_pos h]
        show sumZ (fun j => f (x + j * m)) (cnt n m x) + f (x + cnt n m x * m) = _
        have : x + cnt n m x * m = n := by
          have hd := Nat.div_add_mod n m
          unfold cnt
          rw [if_neg (by omega), Nat.add_zero, Nat.mul_comm]; omega
        rw [this]
      · rw [if_neg h, if_neg h, Nat.add_zero, Int.add_zero]
    rw [e, sumZ_add, sumZ_single, if_pos hr]
theorem part_far (a b : Int) {m : Nat} (hm : 0 < m) (x j : Nat) : (a * ((x + j * m : Nat) : Int) + b) / (m : Int) = (a * (x : Int) + b) / (m : Int) + a * (j : Int) := by
  rw [Int.natCast_add, Int.natCast_mul, Int.mul_add, show a * (x : Int) + a * ((j : Int) * (m : Int)) + b = a * (x : Int) + b + (m : Int) * (a * (j : Int)) by rw [← Int.mul_assoc, Int.mul_comm (m : Int)]; omega, Int.add_mul_ediv_left _ _ (by omega)]
theorem rest_far (a b : Int) {m : Nat} (x j : Nat) : (a * ((x + j * m : Nat) : Int) + b) % (m : Int) = (a * (x : Int) + b) % (m : Int) := by
  rw [Int.natCast_add, Int.natCast_mul, Int.mul_add, show a * (x : Int) + a * ((j : Int) * (m : Int)) + b = a * (x : Int) + b + (m : Int) * (a * (j : Int)) by rw [← Int.mul_assoc, Int.mul_comm (m : Int)]; omega, Int.add_mul_emod_self_left]
/-- how often the place x below m comes among n -/
def comes (n m : Int) (x : Nat) : Int := n / m + if (x : Int) < n % m then 1 else 0
theorem comes_eq {n m : Nat} (x : Nat) : comes (n : Int) (m : Int) x = (cnt n m x : Nat) := by
  unfold comes cnt
  rw [← Int.natCast_ediv, ← Int.natCast_emod, Int.natCast_add]
  by_cases h : x < n % m
  · rw [if_pos h, if_pos (by omega)]; rfl
  · rw [if_neg h, if_neg (by omega)]; rfl
theorem FS_periods (a b : Int) {m n : Int} (hm : 0 < m) (hn : 0 ≤ n) : FS a b m n.toNat = sumZ (fun x => (a * (x : Int) + b) / m * comes n m x + a * tri (comes n m x)) m.toNat := by
  obtain ⟨M, rfl⟩ : ∃ k : Nat, m = k := ⟨m.toNat, by omega⟩
  obtain ⟨N, rfl⟩ : ∃ k : Nat, n = k := ⟨n.toNat, by omega⟩
  unfold FS
  rw [Int.toNat_natCast, Int.toNat_natCast, sumZ_periods _ (show 0 < M by omega)]
  refine sumZ_congr M fun x _ => ?_
  rw [comes_eq, ← sumZ_id, ← sumZ_mul, ← sumZ_const, ← sumZ_add]
  exact sumZ_congr _ fun j _ => part_far a b (by omega) x j
theorem RS_periods (a b : Int) {m n : Int} (hm : 0 < m) (hn : 0 ≤ n) : RS a b m n.toNat = sumZ (fun x => (a * (x : Int) + b) % m * comes n m x) m.toNat := by
  obtain ⟨M, rfl⟩ : ∃ k : Nat, m = k := ⟨m.toNat, by omega⟩
  obtain ⟨N, rfl⟩ : ∃ k : Nat, n = k := ⟨n.toNat, by omega⟩
  unfold RS
  rw [Int.toNat_natCast, Int.toNat_natCast, sumZ_periods _ (show 0 < M by omega)]
  refine sumZ_congr M fun x _ => ?_
  rw [comes_eq, ← sumZ_const]
  exact sumZ_congr _ fun j _ => rest_far a b x j
/-! full turns -/
theorem emod_gcd (a b : Int) (m : Int) : b % m % (Int.gcd a m : Int) = b % (Int.gcd a m : Int) := Int.emod_emod_of_dvd b (Int.gcd_dvd_right a m)
theorem gcd_emod_left (a m : Int) : Int.gcd m (a % m) = Int.gcd a m := by
  rw [Int.gcd_comm]
  have h := Int.mul_ediv_add_emod a m
  apply Nat.dvd_antisymm
  · refine Int.dvd_gcd ?_ (Int.gcd_dvd_right _ _)
    have q := Int.dvd_add (Int.dvd_mul_of_dvd_left (b := m) (c := a / m) (Int.gcd_dvd_right (a % m) m)) (Int.gcd_dvd_left (a % m) m)
    rw [h] at q
    exact q
  · refine Int.dvd_gcd ?_ (Int.gcd_dvd_right _ _)
    rw [show a % m = a - m * (a / m) by omega]
    exact Int.dvd_sub (Int.gcd_dvd_left _ _) (Int.dvd_mul_of_dvd_left (Int.gcd_dvd_right _ _))
theorem FS_round (k : Nat) : ∀ (a b m : Int), 0 < m → m ≤ k → 2 * FS a b m m.toNat = (a - 1) * (m - 1) + (Int.gcd a m : Int) - 1 + 2 * (b - b % (Int.gcd a m : Int)) := by
  induction k with
  | zero => intro a b m h1 h2; omega
  | succ k ih =>
    intro a b m h1 h2
    have hm : ((m.toNat : Nat) : Int) = m := by omega
    have e := FS_laid h1 a b m.toNat
    rw [hm] at e
    have t2 := tri_two m
    have ha := Int.mul_ediv_add_emod a m
    have hb := Int.mul_ediv_add_emod b m
    have a0 := Int.emod_nonneg a (show m ≠ 0 by omega)
    have a1 := Int.emod_lt_of_pos a h1
    have b0 := Int.emod_nonneg b (show m ≠ 0 by omega)
    have b1 := Int.emod_lt_of_pos b h1
    have q2 : 2 * (a / m * tri m) = (a - a % m) * (m - 1) := by
      rw [show 2 * (a / m * tri m) = a / m * (2 * tri m) by rw [← Int.mul_assoc, ← Int.mul_assoc, Int.mul_comm 2], t2, ← Int.mul_assoc, show a / m * m = a - a % m by rw [Int.mul_comm]; omega]
    have q3 : 2 * (b / m * m) = 2 * (b - b % m) := by rw [Int.mul_comm (b / m)]; omega
    have x1 : (a - a % m) * (m - 1) = a * (m - 1) - a % m * (m - 1) := Int.sub_mul _ _ _
    have x2 : (a - 1) * (m - 1) = a * (m - 1) - (m - 1) := by rw [Int.sub_mul]; omega
    by_cases hz : a % m = 0
    · have g1 : Int.gcd a m = m.toNat := by
        rw [← gcd_emod_left, hz, Int.gcd_zero_right]; omega
      have z : FS 0 (b % m) m m.toNat = 0 := by
        refine FS_none (Int.le_refl 0) h1 b0 b1 ?_
        rw [Int.zero_mul, Int.zero_add]; exact Int.ediv_eq_zero_of_lt b0 b1
      rw [g1, hm]
      rw [hz] at e q2 x1
      rw [Int.zero_mul] at x1
      rw [z] at e
      omega
    · have tn := FS_turn (show 0 < a % m by omega) a1 b0 b1 m.toNat
      rw [hm, show (a % m * m + b % m) % m = b % m by rw [Int.add_comm, Int.add_mul_emod_self_right, Int.emod_emod_of_dvd _ (Int.dvd_refl m)], show (a % m * m + b % m) / m = a % m by rw [Int.add_comm, Int.add_mul_ediv_right _ _ (by omega), Int.ediv_eq_zero_of_lt b0 b1]; omega] at tn
      have i2 := ih m (b % m) (a % m) (by omega) (by omega)
      rw [gcd_emod_left, emod_gcd] at i2
      have x3 : (m - 1) * (a % m - 1) = a % m * (m - 1) - (m - 1) := by rw [Int.mul_comm, Int.sub_mul]; omega
      omega
theorem RS_round {a b m : Int} (hm : 0 < m) : 2 * RS a b m m.toNat = m * (m - (Int.gcd a m : Int)) + 2 * (m * (b % (Int.gcd a m : Int))) := by
  have e := FS_RS a b m m.toNat
  have s := FS_round m.toNat a b m hm (by omega)
  have t2 := tri_two m
  rw [show ((m.toNat : Nat) : Int) = m by omega] at e
  have h1 : 2 * (m * FS a b m m.toNat) = m * (2 * FS a b m m.toNat) := by rw [← Int.mul_assoc, ← Int.mul_assoc, Int.mul_comm 2]
  rw [s] at h1
  have h2 : 2 * (a * tri m) = a * (m * (m - 1)) := by rw [← t2, ← Int.mul_assoc, ← Int.mul_assoc, Int.mul_comm 2]
  have h3 : m * ((a - 1) * (m - 1) + (Int.gcd a m : Int) - 1 + 2 * (b - b % (Int.gcd a m : Int))) = a * (m * (m - 1)) - m * (m - 1) + m * (Int.gcd a m : Int) - m + 2 * (b * m) - 2 * (m * (b % (Int.gcd a m : Int))) := by
    rw [Int.mul_add, Int.mul_sub, Int.mul_add, Int.mul_one, ← Int.mul_assoc m (a - 1), Int.mul_comm m (a - 1), Int.mul_assoc, Int.sub_mul, Int.one_mul, Int.mul_left_comm m 2, Int.mul_sub m b, Int.mul_comm m b]; omega
  have h4 : m * (m - (Int.gcd a m : Int)) = m * (m - 1) + m - m * (Int.gcd a m : Int) := by rw [Int.mul_sub, Int.mul_sub]; omega
  omega
theorem FS_turns (a b : Int) {m : Int} (hm : 0 < m) : ∀ t : Nat, FS a b m (m * (t : Int)).toNat = FS a b m m.toNat * (t : Int) + a * m * tri (t : Int)
  | 0 => by
    rw [show (m * ((0 : Nat) : Int)).toNat = 0 by simp]
    show (0 : Int) = FS a b m m.toNat * 0 + a * m * 0
    omega
  | t + 1 => by
    have e : m * ((t + 1 : Nat) : Int) = m * (t : Int) + m := by rw [Int.natCast_add, Int.mul_add]; simp
    have h0 : 0 ≤ m * (t : Int) := Int.mul_nonneg (by omega) (by omega)
    rw [e, FS_join a b m h0 (by omega), FS_turns a b hm t, show a * (m * (t : Int)) + b = b + a * (t : Int) * m by rw [Int.mul_comm m, Int.mul_assoc]; omega, FS_upB a b (by omega), show ((m.toNat : Nat) : Int) = m by omega]
    have s : tri ((t + 1 : Nat) : Int) = tri (t : Int) + t := by rw [← sumZ_id, ← sumZ_id]; rfl
    rw [s, Int.natCast_add, Int.mul_add (FS a b m m.toNat), Int.mul_add (a * m), Int.mul_right_comm a (t : Int) m]
    simp only [Int.natCast_one, Int.mul_one]
    omega
theorem RS_turns (a b : Int) {m : Int} (hm : 0 < m) : ∀ t : Nat, RS a b m (m * (t : Int)).toNat = RS a b m m.toNat * (t : Int)
  | 0 => by
    rw [show (m * ((0 : Nat) : Int)).toNat = 0 by simp]
    show (0 : Int) = RS a b m m.toNat * 0
    omega
  | t + 1 => by
    have e : m * ((t + 1 : Nat) : Int) = m * (t : Int) + m := by rw [Int.natCast_add, Int.mul_add]; simp
    have h0 : 0 ≤ m * (t : Int) := Int.mul_nonneg (by omega) (by omega)
    rw [e, RS_join a b m h0 (by omega), RS_turns a b hm t, show a * (m * (t : Int)) + b = b + a * (t : Int) * m by rw [Int.mul_comm m, Int.mul_assoc]; omega, RS_upB a b, Int.natCast_add, Int.mul_add]
    simp
theorem FS_whole (k b : Int) {m : Int} (hm : m ≠ 0) (n : Nat) : FS (k * m) b m n = k * tri n + b / m * n := by
  have h := FS_upA 0 b hm k n
  rw [Int.zero_add] at h
  have z : FS 0 b m n = b / m * n := by
    unfold FS
    rw [← sumZ_const]
    exact sumZ_congr n fun i _ => by rw [Int.zero_mul, Int.zero_add]
  omega
theorem RS_whole (k b : Int) (m : Int) (n : Nat) : RS (k * m) b m n = b % m * n := by
  have h := RS_upA 0 b m k n
  rw [Int.zero_add] at h
  rw [h]
  unfold RS
  rw [← sumZ_const]
  exact sumZ_congr n fun i _ => by rw [Int.zero_mul, Int.zero_add]
theorem part_less {t m : Int} (hm : m ≠ 0) : (t - t % m) / m = t / m := by
  have := Int.mul_ediv_add_emod t m
  rw [show t - t % m = m * (t / m) by omega, Int.mul_ediv_cancel_left _ hm]
/-- the sums of k full turns, in the words of a common measure -/
theorem FS_byturns {a b m t : Int} (hm : 0 < m) (ht : 0 ≤ t) : FS a b m (m * t).toNat = (((a - 1) * (m - 1) + (Int.gcd a m : Int) - 1) / 2 + b - b % (Int.gcd a m : Int)) * t + a * m * (t * (t - 1) / 2) := by
  have h := FS_turns a b hm t.toNat
  have r := FS_round m.toNat a b m hm (by omega)
  rw [show ((t.toNat : Nat) : Int) = t by omega] at h
  have e : ((a - 1) * (m - 1) + (Int.gcd a m : Int) - 1) / 2 + b - b % (Int.gcd a m : Int) = FS a b m m.toNat := by omega
  rw [e, h]
  rfl
theorem RS_byturns {a b m t : Int} (hm : 0 < m) (ht : 0 ≤ t) : RS a b m (m * t).toNat = t * (m * (b % (Int.gcd a m : Int)) + m * (m - (Int.gcd a m : Int)) / 2) := by
  have h := RS_turns a b hm t.toNat
  have r := RS_round (a := a) (b := b) hm
  rw [show ((t.toNat : Nat) : Int) = t by omega] at h
  have e : m * (b % (Int.gcd a m : Int)) + m * (m - (Int.gcd a m : Int)) / 2 = RS a b m m.toNat := by omega
  rw [e, h, Int.mul_comm]
/-- places put to a sum one by one -/
theorem FS_on {a b m lo : Int} (h : 0 ≤ lo) (i : Nat) : FS a b m (lo + (i + 1 : Nat)).toNat = FS a b m (lo + i).toNat + (a * (lo + i) + b) / m := by
  rw [show lo + ((i + 1 : Nat) : Int) = lo + i + 1 by omega, FS_one a b m (by omega)]
theorem RS_on {a b m lo : Int} (h : 0 ≤ lo) (i : Nat) : RS a b m (lo + (i + 1 : Nat)).toNat = RS a b m (lo + i).toNat + (a * (lo + i) + b) % m := by
  rw [show lo + ((i + 1 : Nat) : Int) = lo + i + 1 by omega, RS_one a b m (by omega)]
theorem gcd_sm {k : Nat} {a m : Int} (hm : 0 < m) (sm : Sm k m) : 0 < ((Int.gcd a m : Nat) : Int) ∧ ((Int.gcd a m : Nat) : Int) ≤ m ∧ Sm k ((Int.gcd a m : Nat) : Int) := by
  have h1 : 0 < Int.gcd a m := Int.gcd_pos_of_ne_zero_right _ (by omega)
  have h2 : ((Int.gcd a m : Nat) : Int) ≤ m := Int.le_of_dvd hm (Int.gcd_dvd_right a m)
  exact ⟨by omega, h2, sm.of_le (by omega) h2⟩
theorem bl_eq2 {ω : Type} {Q : D → ω → Prop} {w : ω} {x y z u : Int} (h : Q (.bl true) w) (e : x = z) (e2 : y = u) : Q (.bl (deq (.lst [.int x, .int y]) (.lst [.int z, .int u]))) w := by
  rw [deq_lst, deqs_cons, deqs_cons, deqs_nil, deq_int, deq_int, beq_iff_eq.mpr e, beq_iff_eq.mpr e2]
  exact h
theorem Sm.lt10r {r : Int} {k : Nat} (h1 : r < 10 ^ k) (h0 : 0 ≤ r) : Sm (4 * k) r := Sm.lt10 h0 h1
theorem Sm.near {r : Int} (h0 : -4611686018427387904 ≤ r) (h1 : r ≤ 4611686018427387904) : Sm 63 r := by unfold Sm; omega
/-! bounds of the number of levels -/
theorem lev_len {k : Nat} {m p : Int} (h : 2 ^ k * p ≤ 2 * (m * m)) (hp : 1 ≤ p) (sm : Sm 2000 m) : k ≤ 4001 := by
  have h1 : (2 : Int) ^ k ≤ 2 ^ k * p := by
    have : (0 : Int) ≤ 2 ^ k := Int.pow_nonneg (by decide)
    have := Int.mul_le_mul_of_nonneg_left hp this
    omega
  have h2 : Sm 4000 (m * m) := Sm.mul sm sm
  have h3 : ((m * m).natAbs : Int) < ((2 ^ 4000 : Nat) : Int) := by unfold Sm at h2; omega
  have h4 : m * m ≤ ((m * m).natAbs : Int) := by omega
  have h5 : ((2 ^ k : Nat) : Int) < ((2 ^ 4001 : Nat) : Int) := by
    rw [show (2 : Nat) ^ 4001 = 2 * 2 ^ 4000 from by rw [Nat.pow_succ, Nat.mul_comm]]
    rw [Int.natCast_mul]
    have : ((2 ^ k : Nat) : Int) = 2 ^ k := Int.natCast_pow 2 k
    rw [this]
    generalize ((2 ^ 4000 : Nat) : Int) = X at *
    omega
  have h6 : 2 ^ k < 2 ^ 4001 := Int.ofNat_lt.mp h5
  have := (Nat.pow_lt_pow_iff_right (by decide : 1 < 2)).mp h6
  omega
theorem lev_step {k : Nat} {m a1 m1 : Int} (h : 2 ^ k * (a1 * m1) ≤ 2 * (m * m)) (h1 : 0 < m1) (h2 : m1 < a1) : 2 ^ (k + 1) * (m1 * (a1 % m1)) ≤ 2 * (m * m) := by
  have r0 := Int.emod_nonneg a1 (show m1 ≠ 0 by omega)
  have r1 := Int.emod_lt_of_pos a1 h1
  have hd := Int.mul_ediv_add_emod a1 m1
  have q1 : 1 ≤ a1 / m1 := (Int.le_ediv_iff_mul_le h1).mpr (by omega)
  have q2 : m1 ≤ m1 * (a1 / m1) := by have := Int.mul_le_mul_of_nonneg_left q1 (show 0 ≤ m1 by omega); omega
  have q3 : m1 * (2 * (a1 % m1)) ≤ m1 * a1 := Int.mul_le_mul_of_nonneg_left (by omega) (by omega)
  have p : (0 : Int) ≤ 2 ^ k := Int.pow_nonneg (by decide)
  have q4 := Int.mul_le_mul_of_nonneg_left q3 p
  have e : 2 ^ (k + 1) * (m1 * (a1 % m1)) = 2 ^ k * (m1 * (2 * (a1 % m1))) := by
    rw [Int.pow_succ]; grind
  rw [Int.mul_comm a1 m1] at h
  omega
end Z

namespace Z
open PySem PySem.Spec PyProof.Rows L2
section
variable {X : Cx} {pins : List (Addr × Obj)} {σ σ' : L2.St} {H H' : Hp} {s sI : Shared}
/-- an object that stands and isn't ours may be tracked, if it wasn't there at a state of before -/
theorem track {a : Addr} {φ : Heap → Prop} (I : Inv X pins σ H s) (J : Inv X pins σ' H' sI) (ne : sI.heap.get? a = none) (hn : H a = none) (nL : a ≠ X.env.locals) (hx : X.ex = []) (new : ObjOk X.prog X.w (upd H a (.ext φ)) s.heap a (.ext φ)) : Inv X pins σ (upd H a (.ext φ)) s := by
  have nx : ∀ b o, X.s_0.heap.get? b = some o → b ≠ a := fun b o e z => by
    obtain ⟨o', e'⟩ := J.base.there b o e (by rw [hx]; exact fun z => nomatch z)
    rw [z, ne] at e'
    cases e'
  refine ⟨I.ok, I.os, I.bare, ⟨I.base.keep, I.base.slot, fun b o e n q => ?_, I.base.there, fun b xs e => ?_, fun b o u e => ?_, fun b ps e => ?_⟩, I.loc, I.cell, ?_, fun x c e => ?_, fun p hp => ?_, ?_, I.len⟩
  · rw [upd_ne (nx b o e)]; exact I.base.free b o e n q
  · have q := I.base.tups b xs e
    rw [upd_ne (ne_of_none q hn)]; exact q
  · have q := I.base.frzs b o u e
    rw [upd_ne (ne_of_none q hn)]; exact q
  · obtain ⟨m, q⟩ := I.base.tbls b ps e
    exact ⟨m, by rw [upd_ne (ne_of_none q hn)]; exact q⟩
  · rw [upd_ne (Ne.symm nL)]; exact I.free
  · have : c ≠ a := fun z => by
      obtain ⟨v, o, q, _⟩ := J.cell x c e
      rw [z, ne] at q
      cases q
    rw [upd_ne this]; exact I.freeC x c e
  · obtain ⟨h1, h2, h3⟩ := I.pin p hp
    have : p.1 ≠ a := fun z => by
      have q := (J.pin p hp).1
      rw [z, ne] at q
      cases q
    exact ⟨h1, by rw [upd_ne this]; exact h2, h3⟩
  · exact HOk.laidN I.hok (fun _ _ q => q) hn new
end
/-- what `except x as n: y = n` wishes of an exception of the body -/
def wKeep (K : PySem.W.Frag) (c : Value) (i j : Nat) (Wo : WX) (DE : Ends) : WX := fun cl d σ H =>
  ∃ b, PySem.W.exmOne K cl c = some b ∧ (b = true → d = none ∧ ∃ C : Addr, cl = .ref C ∧ ∀ p, H p = none → DE.nx (((σ.set i (some (.ref p))).set j (some (.ref p))).set i none) (upd H p (ExA C p))) ∧ (b = false → Wo cl d σ H)
section
variable {X : Cx}
theorem ps_try_keep {x n y : Str} {c : Value} {i j : Nat} {body : List Stmt} {np pn py sp pos pos' : Pos} {tb : WX → TS} {Wo : WX} (h1 : X.stack = X.env :: X.outer) (h2 : X.env.frame = some X.env.locals) (h3 : X.ex = []) (hN : X.N.Nodup)
    (hi : X.N[i]? = some n) (hj : X.N[j]? = some y) (hn : X.env.kindOf n = some .local) (hy : X.env.kindOf y = some .local) (hc : Names X x c) (tk : Takes X Wo)
    (hdb : (n == ("__debug__" : Str)) = false) (hcd : (n == ("__classdict__" : Str)) = false) (hsw : swapsWith (.Name n pn) (some (.Name y py)) sp.line X.env = pure false)
    (hb : ∀ (Wx : WX) (l : List (Addr × Obj)) (k : Value → Shared → Prop), Takes (X.tr l k) Wx → PassesOwn (model X.prog X.w) X.A X.env k → PSs (X.tr l k) body (tb Wx)) :
    PS X (.Try body [.ExceptHandler (some (.Name x np)) (some n) [.Assign [.Name y py] (.Name n pn) sp] pos'] [] [] pos) (fun DE σ H => tb (wKeep X.K c i j Wo DE) DE σ H) := by
  refine ⟨fun pins s σ H DE I hwish => ?_⟩
  have ok := I.ok
  have frA : X.A.frames = some (X.env :: X.outer) := by rw [ok.frames, h1]
  have back : ∀ {f : Flow} {t : Shared}, SP (X.tr (X.pn ++ pins) fun e t1 => wpAny (model X.prog X.w) X.A (noteFrame e X.env) (fun _ t2 => wpAny (model X.prog X.w) X.A (setFlight e none) (fun _ t3 =>
      wpAny (model X.prog X.w) X.A (handleBy e X.env [.ExceptHandler (some (.Name x np)) (some n) [.Assign [.Name y py] (.Name n pn) sp] pos']) (SP X pins DE) X.xe t3) X.xe t2) X.xe t1) [] DE f t → SP X pins DE f t := fun {f t} q => by
    cases f with
    | ret u => exact q.imp fun _ q => q.imp fun _ q => q.imp fun _ q => ⟨q.1.ofTry ok, q.2⟩
    | next => exact q.imp fun _ q => q.imp fun _ q => ⟨q.1.ofTry ok, q.2⟩
    | brk => exact q.imp fun _ q => q.imp fun _ q => ⟨q.1.ofTry ok, q.2⟩
    | cont => exact q.imp fun _ q => q.imp fun _ q => ⟨q.1.ofTry ok, q.2⟩
  refine wpAny_Try_except (wpAny_mono ((hb (wKeep X.K c i j Wo DE) (X.pn ++ pins) _ (fun u t hit => ?_) PassesOwn.looking).run [] s σ H DE (I.toTry _) hwish) (fun f t q => ?_) fun e t q => q)
  · obtain ⟨p, B, t0, pins1, σ1, H1, cl, d, rfl, J0, nb, up, sky, np0, os, ag, b, hb1, yes, no⟩ := hit
    have J : Inv X pins σ1 H1 t0 := J0.ofTry ok
    rw [show (X.tr (X.pn ++ pins) _).stack = X.env :: X.outer from h1] at sky
    show wpAny (model X.prog X.w) X.A (noteFrame (.ref p) X.env) _ _ _
    refine Sky.land Zc.steady frA h2 sky fun g f3 up3 => ?_
    have J3 : Inv X pins σ1 H1 { t with heap := g } := J.landed nb f3.1 (up.trans up3) os ag
    obtain ⟨oe, vs, he, hz, hd⟩ := f3.there
    have nfr : p ∉ frs (X.env :: X.outer) := fun hm => by
      obtain ⟨_, o', e', q⟩ := f3.2.2.1.mem hm
      rw [he] at e'
      cases e'
      exact q _ hd
    have nL : p ≠ X.env.locals := fun z => nfr (List.mem_filterMap.mpr ⟨X.env, List.mem_cons_self, by rw [h2, z]⟩)
    have nF : p ∉ X.fs := fun hm => by
      obtain ⟨v, hv, q⟩ := List.mem_filterMap.mp hm
      exact nfr (List.mem_filterMap.mpr ⟨v, List.mem_cons_of_mem _ hv, q⟩)
    have n0 : t0.heap.get? p = none := by
      cases e : t0.heap.get? p with
      | none => rfl
      | some o =>
        have z := nb p o e (by rw [show (X.tr (X.pn ++ pins) _).stack = X.env :: X.outer from h1]; exact nfr)
        rw [f3.2.1] at z
        cases z
    have S3 := J3.suite he hd np0 nL nF
    refine wpAny_handleBy_cons (codeAny_handlers_test ?_) (by intro q; cases q)
    have LT : PySem.W.Looks (model X.prog X.w) g (typeOf (.ref p)) cl := fun A Q E z k q => wpAny_typeOf_ref (k _ _ he) (by rw [hz.1]; exact q)
    have LM := PySem.W.exm_one (M := model X.prog X.w) (J3.kIn) LT hb1
    have asked : ∀ {Q : Value → Shared → Prop} {E : Value → Shared → Prop}, Q c { t with heap := g } → wpAny (model X.prog X.w) (X.A.mark (some (.ref p))) (eval (.Name x np) X.env) Q E { t with heap := g } := fun {Q E} q => by
      obtain ⟨hg, hdbg, hm | ⟨hm, hv, hnn⟩⟩ := hc
      · exact ld_glob (X := X.suite p ((p, oe) :: (X.pn ++ pins))) S3 hg hm q hdbg
      · exact ld_blt (X := X.suite p ((p, oe) :: (X.pn ++ pins))) S3 hg hm hv q hnn hdbg
    refine asked (LM.here ?_)
    cases b with
    | true =>
      obtain ⟨rfl, C, rfl, q⟩ := yes rfl
      refine codeAny_handlers_suite_as ?_
      refine HandSPX.lands_againZ f3 fun g4 f4 up4 => ?_
      have J4 : Inv X pins σ1 H1 { t with heap := g4 } := J.landed nb f4.1 ((up.trans up3).trans up4) os ag
      obtain ⟨o4, v4, he4, hz4, hd4⟩ := f4.there
      have S4 := J4.suite he4 hd4 np0 nL nF
      refine store_ok (X := X.suite p ((p, o4) :: (X.pn ++ pins))) (v := .ref p) S4 hN hi (.inl hn) rfl (fun t5 S5 => ?_) (.inr hn)
      have li : i < σ1.length := by rw [J.len]; exact (List.getElem?_eq_some_iff.mp hi).1
      have suite : PSs (X.suite p ((p, o4) :: (X.pn ++ pins))) [.Assign [.Name y py] (.Name n pn) sp] (tAsg (tVar i) (gName j)) := pss_one (ps_set hN hj (.inl hy) (pe_var hi (.inl hn) hdb hcd) hsw (.inr hy))
      refine wpAny_mono (suite.run [] t5 _ H1 ⟨fun σ6 H6 => σ6 = (σ1.set i (some (.ref p))).set j (some (.ref p)) ∧ H6 = H1, fun _ _ => False, fun _ _ => False, fun _ _ => False⟩ S5 ⟨.ref p, by rw [List.getElem?_set_self li], rfl, rfl⟩) (fun f t6 q6 => ?_) (fun _ _ z => False.elim z)
      cases f with
      | next =>
        obtain ⟨σ6, H6, S6, e1, e2⟩ := q6
        rw [e1, e2] at S6
        have keep : ∀ r ∈ (p, o4) :: (X.pn ++ pins), t6.heap.get? r.1 = some r.2 ∧ H1 r.1 = none ∧ r.1 ≠ X.env.locals ∧ r.1 ∉ X.fs ∧ ∀ v, r.2.data ≠ .cell v := fun r hr => S6.pin r (List.mem_append_left _ hr)
        have I6 : Inv X ((p, o4) :: pins) _ H1 t6 := (S6.unsuite (pins := pins) ok).pins_of fun r hr => by
          rcases List.mem_cons.mp hr with z | z
          · exact keep r (by rw [z]; exact List.mem_cons_self)
          · exact keep r (List.mem_cons_of_mem _ (List.mem_append_right _ z))
        refine gone_ok I6 hN hi hn fun t7 I7 => ?_
        obtain ⟨e7, n7, l7, _, _⟩ := I7.pin (p, o4) (List.mem_append_right _ List.mem_cons_self)
        have J7 : Inv X pins _ H1 t7 := I7.pins_of fun r hr => I7.pin r (List.mem_append_right _ (List.mem_cons_of_mem _ hr))
        exact ⟨_, _, track J7 J n0 np0 nL h3 ⟨⟨o4, v4, e7, hz4, hd4⟩, ⟨o4, e7⟩, fun _ _ ⟨o, v, a1, a2⟩ k => ⟨o, v, k o a1, a2⟩⟩, q p np0⟩
      | ret u => obtain ⟨_, _, _, _, _, z⟩ := q6; exact z.elim
      | brk => obtain ⟨_, _, _, z⟩ := q6; exact z.elim
      | cont => obtain ⟨_, _, _, z⟩ := q6; exact z.elim
    | false =>
      show wpAny _ X.A (handleBy (.ref p) X.env []) _ _ _
      refine wpAny_handleBy_nil ?_
      obtain ⟨_, _, _, ob, ws, T, oT, ts, eb, zb, db, w1, _⟩ := id f3
      unfold PySem.passOn
      refine wpAny_bind (wpAny_field eb db w1 ?_)
      rw [if_neg (show ¬ ((Value.ref T == Value.none) = true) from by simp)]
      have go : wpAny (model X.prog X.w) X.A (setFlight (.ref p) X.env.frame) (fun _ t4 => wpAny (model X.prog X.w) X.A (throw (.ref p) : Sem Flow) (SP X pins DE) X.xe t4) X.xe { t with heap := g } := by
        rw [h2]
        refine HandSPX.setFlight_upZ f3 fun g4 hh4 up4 => wpAny_throw (tk _ _ ?_)
        exact ⟨p, B, t0, pins, σ1, H1, cl, d, rfl, J, by rw [h1]; rw [show (X.tr (X.pn ++ pins) _).stack = X.env :: X.outer from h1] at nb; exact nb, (up.trans up3).trans up4, .inr (.inr (by rw [h1]; exact hh4)), np0, os, ag, no rfl⟩
      first
        | exact wpAny_bind (wpAny_pure (wpAny_bind go))
        | exact wpAny_bind go
  · have q := back q
    cases f with
    | next => obtain ⟨a1, a2, a3, a4⟩ := q; exact wpAny_execs_nil ⟨a1, a2, a3, a4⟩
    | ret u => exact q
    | brk => exact q
    | cont => exact q
end
end Z

namespace Z
open PySem PySem.Spec PyProof.Rows L2
variable {ω : Type}
/-! ### try: body; except LineError as n: y = n -/
def zTry (ec : Nat → Addr) (i j : Nat) (t : TSZ ω) : TSZ ω := fun D δ w => t { D with ex := fun e δ' w' => e < 7 ∧ D.nx (((δ'.set i (.val (.exc (ec e)))).set j (.val (.exc (ec e)))).set i .no) w' } δ w
section
variable {X : Cx} {W : Wp ω} {x n y : Str} {c : Value} {body : List Stmt} {np pn py sp pos pos' : Pos} {t : TSZ ω}
theorem z_try (i j : Nat) (hN : X.N.Nodup) (hc : Names X x c) (hcat : ∀ e, e < 7 → PySem.W.exmOne X.K (.ref (W.ec e)) c = some true)
    (hb : ∀ (l : List (Addr × Obj)) (k : Value → Shared → Prop), PassesOwn (model X.prog X.w) X.A X.env k → PBZ (X.tr l k) W body t)
    (h1 : X.stack = X.env :: X.outer := by rfl) (h2 : X.env.frame = some X.env.locals := by rfl) (h3 : X.ex = [] := by rfl)
    (hi : X.N[i]? = some n := by rfl) (hj : X.N[j]? = some y := by rfl) (hn : X.env.kindOf n = some .local := by rfl) (hy : X.env.kindOf y = some .local := by rfl)
    (hdb : (n == ("__debug__" : Str)) = false := by decide) (hcd : (n == ("__classdict__" : Str)) = false := by decide)
    (hsw : swapsWith (.Name n pn) (some (.Name y py)) sp.line X.env = pure false := by rfl) :
    PSZ X W (.Try body [.ExceptHandler (some (.Name x np)) (some n) [.Assign [.Name y py] (.Name n pn) sp] pos'] [] [] pos) (zTry W.ec i j t) := fun Z ex tk =>
  psI (ps_try_keep (tb := fun Wx D σ H => ∃ ex', (∀ cl d σ H, WXz X.K W Z ex' cl d σ H → Wx cl d σ H) ∧ liS X.K W Z ex' t D σ H) (i := i) (j := j) h1 h2 h3 hN hi hj hn hy hc tk hdb hcd hsw
    (fun Wx l k tk' po => ⟨fun pins s σ H DE I h => by
      obtain ⟨ex', im, h⟩ := h
      exact ((hb l k po) Z ex' (tk'.imp im)).run pins s σ H DE I h⟩)) fun D σ H h => by
    obtain ⟨Dz, hex, EI, G, M, δ, w, a, h⟩ := h
    refine ⟨fun e δ' w' => e < 7 ∧ Dz.nx (((δ'.set i (.val (.exc (W.ec e)))).set j (.val (.exc (W.ec e)))).set i .no) w', fun cl d σ' H' q => ?_, { Dz with ex := fun e δ' w' => e < 7 ∧ Dz.nx (((δ'.set i (.val (.exc (W.ec e)))).set j (.val (.exc (W.ec e)))).set i .no) w' }, rfl, ⟨EI.nx, EI.bk, EI.ct, EI.rt⟩, G, M, δ, w, a, h⟩
    obtain ⟨rfl, e, rfl, G', M', δ', w', a', l7, q⟩ := q
    refine ⟨true, hcat e l7, fun _ => ⟨rfl, W.ec e, rfl, fun p hp => ?_⟩, fun z => nomatch z⟩
    have an := a'.new (o := ExA (W.ec e) p) hp
    have r : Rep X.K (upd G' p (ExA (W.ec e) p)) (.ref p) (.exc (W.ec e)) := .exc upd_same
    exact EI.nx _ _ ⟨_, _, _, _, ((an.set r).set r).drop, q⟩
end
end Z

namespace Z
open PySem PySem.Spec PyProof.Rows L2
variable {ω : Type}
/-! ### isinstance of an exception that is kept -/
def rIsX (K : PySem.W.Frag) : List V → Hp → VK → Prop := fun xs H Q => ∃ (p D : Addr) (c : V) (cv : Value) (b : Bool), xs = [.ref p, c] ∧ H p = some (ExA D p) ∧ ExcC K D ∧ (∀ u, RelV c u → u = cv) ∧ PySem.W.kitOne K (.ref D) cv = some b ∧ Q (.bl b) H
theorem call_isX {X : Cx} : CallR X (.builtin "isinstance") (rIsX X.K) := by
  intro pins s σ H xs us Q I r h
  obtain ⟨p, D, c, cv, b, rfl, hp, C, hcv, e, q⟩ := h
  cases r with
  | cons rx rr =>
    cases rr with
    | cons rt rr =>
      cases rr
      cases rx
      have ec := hcv _ rt
      subst ec
      obtain ⟨⟨oe, vs, hget, hz, hv⟩, _⟩ := I.hok p _ hp
      have J : PySem.W.InstAt s.heap p oe D none := by
        obtain ⟨oc, od, oda, osl⟩ := oe
        obtain ⟨h1, h2⟩ := hz
        dsimp only at h1 h2 hv
        subst h1 h2 hv
        exact ⟨hget, rfl, rfl, trivial⟩
      exact PySem.W.kia_one (PySem.W.handS_kitx_exc C.hg C.hk C.hs C.hd C.ha C.hn C.ht C.hm) I.kIn J e (fun z => nomatch z) fun tk => ⟨.bl b, H, I.kept (t' := tk) fun _ _ z => z, rfl, q⟩
def zIsX (ec : Nat → Addr) (f : Nat → Bool) (te : TEZ ω) : TEZ ω := fun δ w Q E => te δ w (fun d w1 => match d with | .exc C => ∃ e, C = ec e ∧ e < 7 ∧ Q (.bl (f e)) w1 | .non => Q (.bl false) w1 | _ => False) E
def rIsXN (K : PySem.W.Frag) : List V → Hp → VK → Prop := fun xs H Q => rIsX K xs H Q ∨ rIsi K xs H Q
section
variable {X : Cx} {W : Wp ω} {pos p p2 : Pos} {e : Expr} {te : TEZ ω}
theorem zisx_mo {f : Nat → Bool} (he : PEZ X W e te) : Mo (zIsX W.ec f te) := fun k h => he.mo (fun d w1 h1 => by
  split at h1
  · obtain ⟨e', a, b, q⟩ := h1; exact ⟨e', a, b, k _ _ q⟩
  · exact k _ _ h1
  · exact h1.elim) h
theorem zisx_core {x : Str} {f : Nat → Bool} {c : V} {cv : Value} {tn : TE} (hk : ∀ e, e < 7 → ExcC X.K (W.ec e) ∧ PySem.W.kitOne X.K (.ref (W.ec e)) cv = some (f e)) (hn : PySem.W.kitOne X.K (.type "NoneType") cv = some false) (hcv : ClsV c cv) (hc : ∀ u, RelV c u → u = cv) (he : PEZ X W e te) {Z : Zx} {ex : Nat → List Sl → ω → Prop} {σ : L2.St} {H : Hp} {Q : VK} (h : liE X.K W Z ex (zIsX W.ec f te) σ H Q) :
    liE X.K W Z ex te σ H fun v H1 => rIsXN X.K [v, c] H1 Q := by
  obtain ⟨G, M, δ, w, a, h⟩ := h
  refine ⟨G, M, δ, w, a, he.mo (fun d w1 h1 v H1 G1 M1 o1 r1 => ?_) h⟩
  split at h1
  · obtain ⟨e', rfl, l, q⟩ := h1
    cases r1 with
    | exc g =>
      obtain ⟨k1, k2⟩ := hk e' l
      exact .inl ⟨_, _, c, cv, _, rfl, o1.pt.gh _ _ g, k1, hc, k2, q _ H1 G1 M1 o1 (.bl _)⟩
  · cases r1
    exact .inr ⟨.non, c, .type "NoneType", cv, false, rfl, hcv, .base .non, hn, h1 _ H1 G1 M1 o1 (.bl _)⟩
  · exact h1.elim
/-- against an own class -/
theorem z_isX {x : Str} {C : Addr} {f : Nat → Bool} (hk : ∀ e, e < 7 → ExcC X.K (W.ec e) ∧ PySem.W.kitOne X.K (.ref (W.ec e)) (.ref C) = some (f e)) (hno : PySem.W.kitOne X.K (.type "NoneType") (.ref C) = some false) (hm : X.mg "isinstance" = none) (hm2 : X.mg x = some (.ref C)) (he : PEZ X W e te) (hg : Gl X "isinstance" := by rfl) (hg2 : Gl X x := by rfl)
    (hdb : (x == ("__debug__" : Str)) = false := by decide) (hs : starEach [e, .Name x p2] X.env = (false, eval e X.env) :: starEach [.Name x p2] X.env := by rfl) (hs2 : starEach [.Name x p2] X.env = (false, eval (.Name x p2) X.env) :: starEach [] X.env := by rfl)
    (hpl : (backTo pos (starEach [.Name x p2] X.env)).any (·.1) = false := by rfl) : PEZ X W (.Call (.Name "isinstance" p) [e, .Name x p2] [] pos) (zIsX W.ec f te) :=
  ⟨zisx_mo he, fun Z ex tk => peI (pe_callB (CallR.or call_isX call_isi) hg hm (by decide +kernel) (pa_cons (he.run Z ex tk) (pa_cons (pe_glob (v := .ref C) hg2 hm2 rfl hdb) pa_nil hs2) hs) (by decide) (by decide) hs hpl) fun σ H Q h => zisx_core (c := .ref C) (x := x) (tn := fun _ _ _ => True) hk hno (.own _) (fun u r => r) he h⟩
/-- against a built-in one -/
theorem z_isXB {x : Str} {T : String} {f : Nat → Bool} (hk : ∀ e, e < 7 → ExcC X.K (W.ec e) ∧ PySem.W.kitOne X.K (.ref (W.ec e)) (.type T) = some (f e)) (hno : PySem.W.kitOne X.K (.type "NoneType") (.type T) = some false) (hm : X.mg "isinstance" = none) (hm2 : X.mg x = none) (hv : bootBuiltins x = some (.type T)) (he : PEZ X W e te) (hg : Gl X "isinstance" := by rfl) (hg2 : Gl X x := by rfl)
    (hn : x ≠ "__name__" := by decide) (hdb : (x == ("__debug__" : Str)) = false := by decide) (hs : starEach [e, .Name x p2] X.env = (false, eval e X.env) :: starEach [.Name x p2] X.env := by rfl) (hs2 : starEach [.Name x p2] X.env = (false, eval (.Name x p2) X.env) :: starEach [] X.env := by rfl)
    (hpl : (backTo pos (starEach [.Name x p2] X.env)).any (·.1) = false := by rfl) : PEZ X W (.Call (.Name "isinstance" p) [e, .Name x p2] [] pos) (zIsX W.ec f te) :=
  ⟨zisx_mo he, fun Z ex tk => peI (pe_callB (CallR.or call_isX call_isi) hg hm (by decide +kernel) (pa_cons (he.run Z ex tk) (pa_cons (pe_bltn (v := .ty T) hg2 hm2 hv rfl hn hdb) pa_nil hs2) hs) (by decide) (by decide) hs hpl) fun σ H Q h => zisx_core (c := .ty T) (x := x) (tn := fun _ _ _ => True) hk hno (.ty _) (fun u r => r) he h⟩
theorem z_trye {ec : Nat → Addr} {n y : Str} {x : Str} {c : Value} {body : List Stmt} {np pn py sp pos' : Pos} {t : TSZ ω} (i j : Nat) (hN : X.N.Nodup) (hc : Names X x c) (hcat : ∀ e, e < 7 → PySem.W.exmOne X.K (.ref (ec e)) c = some true)
    (hb : ∀ (l : List (Addr × Obj)) (k : Value → Shared → Prop), PassesOwn (model X.prog X.w) X.A X.env k → PBZ (X.tr l k) W body t) (hec : W.ec = ec := by rfl)
    (h1 : X.stack = X.env :: X.outer := by rfl) (h2 : X.env.frame = some X.env.locals := by rfl) (h3 : X.ex = [] := by rfl)
    (hi : X.N[i]? = some n := by rfl) (hj : X.N[j]? = some y := by rfl) (hn : X.env.kindOf n = some .local := by rfl) (hy : X.env.kindOf y = some .local := by rfl)
    (hdb : (n == ("__debug__" : Str)) = false := by decide) (hcd : (n == ("__classdict__" : Str)) = false := by decide)
    (hsw : swapsWith (.Name n pn) (some (.Name y py)) sp.line X.env = pure false := by rfl) :
    PSZ X W (.Try body [.ExceptHandler (some (.Name x np)) (some n) [.Assign [.Name y py] (.Name n pn) sp] pos'] [] [] pos) (zTry ec i j t) := by
  subst hec
  exact z_try i j hN hc hcat hb h1 h2 h3 hi hj hn hy hdb hcd hsw
theorem z_isXe {ec : Nat → Addr} {x : Str} {C : Addr} {f : Nat → Bool} (hk : ∀ e, e < 7 → ExcC X.K (ec e) ∧ PySem.W.kitOne X.K (.ref (ec e)) (.ref C) = some (f e)) (hno : PySem.W.kitOne X.K (.type "NoneType") (.ref C) = some false) (hm : X.mg "isinstance" = none) (hm2 : X.mg x = some (.ref C)) (he : PEZ X W e te) (hec : W.ec = ec := by rfl) (hg : Gl X "isinstance" := by rfl) (hg2 : Gl X x := by rfl)
    (hdb : (x == ("__debug__" : Str)) = false := by decide) (hs : starEach [e, .Name x p2] X.env = (false, eval e X.env) :: starEach [.Name x p2] X.env := by rfl) (hs2 : starEach [.Name x p2] X.env = (false, eval (.Name x p2) X.env) :: starEach [] X.env := by rfl)
    (hpl : (backTo pos (starEach [.Name x p2] X.env)).any (·.1) = false := by rfl) : PEZ X W (.Call (.Name "isinstance" p) [e, .Name x p2] [] pos) (zIsX ec f te) := by
  subst hec
  exact z_isX hk hno hm hm2 he hg hg2 hdb hs hs2 hpl
theorem z_isXBe {ec : Nat → Addr} {x : Str} {T : String} {f : Nat → Bool} (hk : ∀ e, e < 7 → ExcC X.K (ec e) ∧ PySem.W.kitOne X.K (.ref (ec e)) (.type T) = some (f e)) (hno : PySem.W.kitOne X.K (.type "NoneType") (.type T) = some false) (hm : X.mg "isinstance" = none) (hm2 : X.mg x = none) (hv : bootBuiltins x = some (.type T)) (he : PEZ X W e te) (hec : W.ec = ec := by rfl) (hg : Gl X "isinstance" := by rfl) (hg2 : Gl X x := by rfl)
    (hn : x ≠ "__name__" := by decide) (hdb : (x == ("__debug__" : Str)) = false := by decide) (hs : starEach [e, .Name x p2] X.env = (false, eval e X.env) :: starEach [.Name x p2] X.env := by rfl) (hs2 : starEach [.Name x p2] X.env = (false, eval (.Name x p2) X.env) :: starEach [] X.env := by rfl)
    (hpl : (backTo pos (starEach [.Name x p2] X.env)).any (·.1) = false := by rfl) : PEZ X W (.Call (.Name "isinstance" p) [e, .Name x p2] [] pos) (zIsX ec f te) := by
  subst hec
  exact z_isXB hk hno hm hm2 hv he hg hg2 hn hdb hs hs2 hpl
end
end Z

namespace Z
open PySem PySem.Spec PyProof.Rows L2
variable {ω : Type}
/-- the scope of a block within a block -/
def cScope (scope sc : Scope) : Scope := { scope with names := scope.names.map fun (n, k) => if (k == .free && sc.kind == .function && sc.names.lookup n == some .cell) then (n, .cell) else (n, k) }
theorem nest_ok {N : List Str} {scope scope' sc : Scope} {own : List (Str × Nat)} {cl : List (Str × Addr)} {C : Addr} {env : Env} (hsc : env.scope = sc) (h : blkC N (cScope scope sc) scope' own = true) : blkC N (compEnvC scope cl C env).scope scope' own = true := by
  subst hsc
  exact h
/-! ### an exception made and held -/
theorem pe_excA {X : Cx} {C : Addr} {bmB : List Value} {B newId initId : String} {x : Str} {e : Expr} {ta : TE} {p pos : Pos} (F : ExcBaseFacts B newId initId bmB) (q : PySem.W.excIn X.K C bmB newId = true) (gC : X.mg x = some (.ref C)) (kC : PySem.W.keepIn X.K (.ref C) = true) (hg : Gl X x)
    (he : PE X e ta) (hs : starEach [e] X.env = (false, eval e X.env) :: starEach [] X.env := by rfl) (hdb : (x == ("__debug__" : Str)) = false := by decide) :
    PE X (.Call (.Name x p) [e] [] pos) (fun σ H Q => ta σ H fun _ H1 => ∀ a, H1 a = none → Q (.ref a) (upd H1 a (ExA C a))) := by
  refine ⟨fun pins s σ H Q I h => ?_⟩
  refine wpAny_Call_Name_kw (ld_glob I hg gC ?_ hdb)
  refine PySem.W.callWith_K (h₀ := X.base) I.ok.mod.kin kC ?_ hs (by rfl)
  rw [hs]
  show wpAny _ _ (spliced ((false, eval e X.env) :: backTo pos (starEach [] X.env))) _ _ s
  refine Calls.spliced_cons (thn (he.run pins s σ H _ I h) fun u s1 ⟨v, H1, I1, r1, q1⟩ => ?_)
  refine Calls.spliced_nil ⟨I1.kIn, ?_⟩
  show wpAny _ _ (call (.ref C) [u]) _ _ _
  obtain ⟨bm, N, nm, qn, bs, hdct, sn, sub, ab, col, dd, k0, k1, k2, k3, k5, mN, hC, hN, hni, T⟩ := exc_obj I1.kIn q
  refine wpAny_call_exc_subT F T hC hN hni (fun h' a hm => ?_) (by show 1 ≤ sizeLine; rw [sizeLine_eq]; omega)
  have hn : H1 a = none := I1.hok.gone hm.new
  obtain ⟨t, ht, _, _⟩ := hm.there
  exact ⟨.ref a, upd H1 a (ExA C a), I1.laidN hm.keeps hm.new hn ⟨⟨_, _, ht, ⟨rfl, rfl⟩, rfl⟩, ⟨_, ht⟩, fun _ _ ⟨o, v, a1, a2⟩ k => ⟨o, v, k o a1, a2⟩⟩, rfl, q1 a hn⟩
def zExc (ec : Nat → Addr) (c : Nat) : TEZ ω := fun _ w Q _ => Q (.exc (ec c)) w
theorem z_exc {X : Cx} {W : Wp ω} {ec : Nat → Addr} {c : Nat} {pos p p2 : Pos} {x m : Str} {j : Nat} (T : ErrT X.K X.mg (ec c) x) (hec : W.ec = ec := by rfl) (hg : Gl X x := by rfl) (hdb : (x == ("__debug__" : Str)) = false := by decide) : PEZ X W (.Call (.Name x p) [.Constant (.str m) j p2] [] pos) (zExc ec c) :=
  ⟨fun k h => k _ _ h, fun Z ex tk => peI (pe_excA PySem.F.excBase_ValueError T.xF T.gF T.kF hg pe_str rfl hdb) fun σ H Q ⟨G, M, δ, w, a, h⟩ => fun p hp =>
    h (.ref p) _ _ M (a.here.new (o := ExA (ec c) p) hp) (.exc upd_same)⟩

/-! ### try: body; except X [as n]: suite -/
/-- the suite's ends: no exception leaves, slot i is gone behind it -/
def suD (i : Nat) (D : EndZ ω) : EndZ ω := ⟨fun δ w => D.nx (δ.set i .no) w, D.rt, fun δ w => D.bk (δ.set i .no) w, fun δ w => D.ct (δ.set i .no) w, fun _ _ _ => False⟩
def zTryS (i : Nat) (t : TSZ ω) (tz : Addr → Nat → TSZ ω) : TSZ ω := fun D δ w => t { D with ex := fun e δ' w' => e < 7 ∧ ∀ a, tz a e (suD i D) (δ'.set i (.val (.ref a))) w' } δ w
def zTryO (t : TSZ ω) (tz : TSZ ω) : TSZ ω := fun D δ w => t { D with ex := fun e δ' w' => e < 7 ∧ tz { D with ex := fun _ _ _ => False } δ' w' } δ w
section
variable {X : Cx} {W : Wp ω} {x n : Str} {c : Value} {body suite : List Stmt} {b0 : Stmt} {np pos pos' : Pos} {t : TSZ ω} {tz : Addr → Nat → TSZ ω} {tzo : TSZ ω} {ec : Nat → Addr}
theorem z_tryS (i : Nat) (hN : X.N.Nodup) (hc : Names X x c) (hcat : ∀ e, e < 7 → PySem.W.exmOne X.K (.ref (ec e)) c = some true)
    (hb : ∀ (l : List (Addr × Obj)) (k : Value → Shared → Prop), PassesOwn (model X.prog X.w) X.A X.env k → PBZ (X.tr l k) W body t)
    (hsu : ∀ (a : Addr) (oe : Obj) (e : Nat) (pn : List (Addr × Obj)), e < 7 → Zc (.ref (ec e)) none oe → (∃ vs, oe.data = .fields vs) → PBZ (X.suite a ((a, oe) :: pn)) W (b0 :: suite) (tz a e))
    (hec : W.ec = ec := by rfl) (h1 : X.stack = X.env :: X.outer := by rfl) (h2 : X.env.frame = some X.env.locals := by rfl) (hi : X.N[i]? = some n := by rfl) (hn : X.env.kindOf n = some .local := by rfl) :
    PSZ X W (.Try body [.ExceptHandler (some (.Name x np)) (some n) (b0 :: suite) pos'] [] [] pos) (zTryS i t tz) := fun Z ex tk => by
  subst hec
  refine psI (ps_try_as (i := i) (tb := fun Wx D σ H => ∃ ex', (∀ cl d σ H, WXz X.K W Z ex' cl d σ H → Wx cl d σ H) ∧ liS X.K W Z ex' t D σ H)
    (ts := fun a cl d D σ H => d = none ∧ ∃ e, e < 7 ∧ cl = .ref (W.ec e) ∧ liS X.K W Z (fun _ _ _ => False) (tz a e) D σ H) h1 h2 hN hi hn hc tk
    (fun Wx l k tk' po => ⟨fun pins s σ H DE I h => by
      obtain ⟨ex', im, h⟩ := h
      exact ((hb l k po) Z ex' (tk'.imp im)).run pins s σ H DE I h⟩)
    (fun a oe cl d pn hz hf => ⟨fun pins s σ H DE I h => by
      obtain ⟨rfl, e, l7, rfl, h⟩ := h
      exact ((hsu a oe e pn l7 hz hf) Z _ tkN).run pins s σ H DE I h⟩)) fun D σ H h => ?_
  obtain ⟨Dz, hex, EI, G, M, δ, w, a, h⟩ := h
  refine ⟨fun e δ' w' => e < 7 ∧ ∀ a, tz a e (suD i Dz) (δ'.set i (.val (.ref a))) w', fun cl d σ' H' q => ?_, { Dz with ex := fun e δ' w' => e < 7 ∧ ∀ a, tz a e (suD i Dz) (δ'.set i (.val (.ref a))) w' }, rfl, ⟨EI.nx, EI.bk, EI.ct, EI.rt⟩, G, M, δ, w, a, h⟩
  obtain ⟨rfl, e, rfl, G', M', δ', w', a', l7, q⟩ := q
  refine ⟨true, hcat e l7, fun _ p hp => ⟨rfl, e, l7, rfl, suD i Dz, rfl, ⟨fun σ2 H2 q2 => ?_, fun σ2 H2 q2 => ?_, fun σ2 H2 q2 => ?_, EI.rt⟩, G', M', _, w', a'.set (.ref p), q p⟩, fun z => nomatch z⟩
  · obtain ⟨G2, M2, δ2, w2, a2, q2⟩ := q2
    exact EI.nx _ _ ⟨G2, M2, _, w2, a2.drop, q2⟩
  · obtain ⟨G2, M2, δ2, w2, a2, q2⟩ := q2
    exact EI.bk _ _ ⟨G2, M2, _, w2, a2.drop, q2⟩
  · obtain ⟨G2, M2, δ2, w2, a2, q2⟩ := q2
    exact EI.ct _ _ ⟨G2, M2, _, w2, a2.drop, q2⟩
theorem z_tryO (hc : Names X x c) (hcat : ∀ e, e < 7 → PySem.W.exmOne X.K (.ref (ec e)) c = some true)
    (hb : ∀ (l : List (Addr × Obj)) (k : Value → Shared → Prop), PassesOwn (model X.prog X.w) X.A X.env k → PBZ (X.tr l k) W body t)
    (hsu : ∀ (a : Addr) (oe : Obj) (pn : List (Addr × Obj)), PBZ (X.suite a ((a, oe) :: pn)) W (b0 :: suite) tzo)
    (hec : W.ec = ec := by rfl) (h1 : X.stack = X.env :: X.outer := by rfl) (h2 : X.env.frame = some X.env.locals := by rfl) :
    PSZ X W (.Try body [.ExceptHandler (some (.Name x np)) none (b0 :: suite) pos'] [] [] pos) (zTryO t tzo) := fun Z ex tk => by
  subst hec
  refine psI (ps_try_only (tb := fun Wx D σ H => ∃ ex', (∀ cl d σ H, WXz X.K W Z ex' cl d σ H → Wx cl d σ H) ∧ liS X.K W Z ex' t D σ H)
    (ts := fun a cl d D σ H => liS X.K W Z (fun _ _ _ => False) tzo D σ H) h1 h2 hc tk
    (fun Wx l k tk' po => ⟨fun pins s σ H DE I h => by
      obtain ⟨ex', im, h⟩ := h
      exact ((hb l k po) Z ex' (tk'.imp im)).run pins s σ H DE I h⟩)
    (fun a oe cl d pn hz hf => ⟨fun pins s σ H DE I h => ((hsu a oe pn) Z _ tkN).run pins s σ H DE I h⟩)) fun D σ H h => ?_
  obtain ⟨Dz, hex, EI, G, M, δ, w, a, h⟩ := h
  refine ⟨fun e δ' w' => e < 7 ∧ tzo { Dz with ex := fun _ _ _ => False } δ' w', fun cl d σ' H' q => ?_, { Dz with ex := fun e δ' w' => e < 7 ∧ tzo { Dz with ex := fun _ _ _ => False } δ' w' }, rfl, ⟨EI.nx, EI.bk, EI.ct, EI.rt⟩, G, M, δ, w, a, h⟩
  obtain ⟨rfl, e, rfl, G', M', δ', w', a', l7, q⟩ := q
  exact ⟨true, hcat e l7, fun _ p hp => ⟨{ Dz with ex := fun _ _ _ => False }, rfl, ⟨EI.nx, EI.bk, EI.ct, EI.rt⟩, G', M', δ', w', a', q⟩, fun z => nomatch z⟩
end

/-! ### isinstance: the suite's own exception; one that is kept, or None -/
/-- the suite's exception (of the class of e) at a -/
def zIsS (a : Addr) (b : Bool) (te : TEZ ω) : TEZ ω := fun δ w Q E => te δ w (fun d w1 => match d with | .ref p => p = a ∧ Q (.bl b) w1 | _ => False) E
section
variable {X : Cx} {W : Wp ω} {pos p p2 : Pos} {e : Expr} {te : TEZ ω} {a : Addr} {oe : Obj} {pn : List (Addr × Obj)} {D : Addr}
theorem ziss_mo {X : Cx} {b : Bool} (he : PEZ X W e te) : Mo (zIsS a b te) := fun k h => he.mo (fun d w1 h1 => by
  split at h1
  · exact ⟨h1.1, k _ _ h1.2⟩
  · exact h1.elim) h
theorem ziss_core {X : Cx} {b : Bool} {c : V} {cv : Value} (hk : PySem.W.kitOne X.K (.ref D) cv = some b) (hc : ∀ u, RelV c u → u = cv) (he : PEZ X W e te) {Z : Zx} {ex : Nat → List Sl → ω → Prop} {σ : L2.St} {H : Hp} {Q : VK} (h : liE X.K W Z ex (zIsS a b te) σ H Q) :
    liE X.K W Z ex te σ H fun v H1 => rIsE X.K D a [v, c] H1 Q := by
  obtain ⟨G, M, δ, w, s, h⟩ := h
  refine ⟨G, M, δ, w, s, he.mo (fun d w1 h1 v H1 G1 M1 o1 r1 => ?_) h⟩
  split at h1
  · obtain ⟨rfl, q⟩ := h1
    cases r1
    exact ⟨c, cv, b, rfl, hc, hk, q _ H1 G1 M1 o1 (.bl _)⟩
  · exact h1.elim
theorem z_isS {x : Str} {C : Addr} {b : Bool} (ED : ExcC X.K D) (hz : Zc (.ref D) none oe) (hf : ∃ vs, oe.data = .fields vs) (hk : PySem.W.kitOne X.K (.ref D) (.ref C) = some b) (hm : X.mg "isinstance" = none) (hm2 : X.mg x = some (.ref C)) (he : PEZ (X.suite a ((a, oe) :: pn)) W e te) (hg : Gl (X.suite a ((a, oe) :: pn)) "isinstance" := by rfl) (hg2 : Gl (X.suite a ((a, oe) :: pn)) x := by rfl)
    (hdb : (x == ("__debug__" : Str)) = false := by decide) (hs : starEach [e, .Name x p2] X.env = (false, eval e X.env) :: starEach [.Name x p2] X.env := by rfl) (hs2 : starEach [.Name x p2] X.env = (false, eval (.Name x p2) X.env) :: starEach [] X.env := by rfl)
    (hpl : (backTo pos (starEach [.Name x p2] X.env)).any (·.1) = false := by rfl) : PEZ (X.suite a ((a, oe) :: pn)) W (.Call (.Name "isinstance" p) [e, .Name x p2] [] pos) (zIsS a b te) :=
  ⟨ziss_mo he, fun Z ex tk => peI (pe_callB (call_isE ED hz hf) hg hm (by decide +kernel) (pa_cons (he.run Z ex tk) (pa_cons (pe_glob (v := .ref C) hg2 hm2 rfl hdb) pa_nil hs2) hs) (by decide) (by decide) hs hpl) fun σ H Q h => ziss_core (X := X.suite a ((a, oe) :: pn)) (c := .ref C) hk (fun u r => r) he h⟩
theorem z_isSB {x : Str} {T : String} {b : Bool} (ED : ExcC X.K D) (hz : Zc (.ref D) none oe) (hf : ∃ vs, oe.data = .fields vs) (hk : PySem.W.kitOne X.K (.ref D) (.type T) = some b) (hm : X.mg "isinstance" = none) (hm2 : X.mg x = none) (hv : bootBuiltins x = some (.type T)) (he : PEZ (X.suite a ((a, oe) :: pn)) W e te) (hg : Gl (X.suite a ((a, oe) :: pn)) "isinstance" := by rfl) (hg2 : Gl (X.suite a ((a, oe) :: pn)) x := by rfl)
    (hn : x ≠ "__name__" := by decide) (hdb : (x == ("__debug__" : Str)) = false := by decide) (hs : starEach [e, .Name x p2] X.env = (false, eval e X.env) :: starEach [.Name x p2] X.env := by rfl) (hs2 : starEach [.Name x p2] X.env = (false, eval (.Name x p2) X.env) :: starEach [] X.env := by rfl)
    (hpl : (backTo pos (starEach [.Name x p2] X.env)).any (·.1) = false := by rfl) : PEZ (X.suite a ((a, oe) :: pn)) W (.Call (.Name "isinstance" p) [e, .Name x p2] [] pos) (zIsS a b te) :=
  ⟨ziss_mo he, fun Z ex tk => peI (pe_callB (call_isE ED hz hf) hg hm (by decide +kernel) (pa_cons (he.run Z ex tk) (pa_cons (pe_bltn (v := .ty T) hg2 hm2 hv rfl hn hdb) pa_nil hs2) hs) (by decide) (by decide) hs hpl) fun σ H Q h => ziss_core (X := X.suite a ((a, oe) :: pn)) (c := .ty T) hk (fun u r => r) he h⟩
end
/-! .. against several own classes -/
structure ClsA (X : Cx) (es : List Expr) (cs : List Addr) : Prop where
  pa : PA X es (fun _ H Q => Q (cs.map V.ref) H)
section
variable {X : Cx} {es : List Expr} {cs : List Addr}
theorem cl_nil : ClsA X [] [] := ⟨paI pa_nil fun σ H Q h => h⟩
theorem cl_cons {C : Addr} {x : Str} {p : Pos} (hm : X.mg x = some (.ref C)) (h : ClsA X es cs) (hg : Gl X x := by rfl) (hdb : (x == ("__debug__" : Str)) = false := by decide) (hs : starEach (.Name x p :: es) X.env = (false, eval (.Name x p) X.env) :: starEach es X.env := by rfl) : ClsA X (.Name x p :: es) (C :: cs) :=
  ⟨paI (pa_cons (pe_glob (v := .ref C) hg hm rfl hdb) h.pa hs) fun σ H Q h => h⟩
theorem any_of {K : PySem.W.Frag} {ec : Nat → Addr} {t : Value} {e : Nat} : ∀ {cs : List Nat}, (∀ c ∈ cs, PySem.W.kitOne K t (.ref (ec c)) = some (decide (e = c))) → PySem.W.kitAny K t ((cs.map ec).map Value.ref) = some (cs.any fun c => decide (e = c))
  | [], _ => rfl
  | c :: cs, h => by
    rw [List.any_cons, List.map_cons, List.map_cons]
    refine kitAny_cons (h c List.mem_cons_self) (fun q => ?_) (fun q => ?_)
    · rw [q, Bool.false_or]
      exact any_of fun c hc => h c (List.mem_cons_of_mem _ hc)
    · rw [q, Bool.true_or]
theorem any_no {K : PySem.W.Frag} {ec : Nat → Addr} {t : Value} : ∀ {cs : List Nat}, (∀ c ∈ cs, PySem.W.kitOne K t (.ref (ec c)) = some false) → PySem.W.kitAny K t ((cs.map ec).map Value.ref) = some false
  | [], _ => rfl
  | c :: cs, h => kitAny_cons (h c List.mem_cons_self) (fun _ => any_no fun c hc => h c (List.mem_cons_of_mem _ hc)) (fun q => nomatch q)
theorem pairedC : ∀ cs : List Addr, Paired ClsV (cs.map V.ref) (cs.map Value.ref)
  | [] => .nil
  | C :: cs => .cons (.own C) (pairedC cs)
def rIsET (K : PySem.W.Frag) (D a : Addr) : List V → Hp → VK → Prop := fun xs H Q => ∃ (tp : Addr) (cs : List Addr) (b : Bool), xs = [.ref a, .ref tp] ∧ H tp = some (.tup (cs.map V.ref)) ∧ PySem.W.kitAny K (.ref D) (cs.map Value.ref) = some b ∧ Q (.bl b) H
theorem call_isET {a D : Addr} {oe : Obj} {pn : List (Addr × Obj)} (C : ExcC X.K D) (hz : Zc (.ref D) none oe) (hf : ∃ vs, oe.data = .fields vs) : CallR (X.suite a ((a, oe) :: pn)) (.builtin "isinstance") (rIsET X.K D a) := by
  intro pins s σ H xs us Q I r h
  obtain ⟨tp, cs, b, rfl, hT, e, q⟩ := h
  obtain ⟨u1, u2, rfl, r1, r2⟩ := vals2 r
  cases (show u2 = Value.ref tp from r2)
  cases (show u1 = Value.ref a from r1)
  obtain ⟨hget, _⟩ := I.pin (a, oe) (List.mem_append.mpr (.inl List.mem_cons_self))
  obtain ⟨vs, hv⟩ := hf
  have J : PySem.W.InstAt s.heap a oe D none := by
    obtain ⟨oc, od, oda, osl⟩ := oe
    obtain ⟨h1, h2⟩ := hz
    dsimp only at h1 h2 hv
    subst h1 h2 hv
    exact ⟨hget, rfl, rfl, trivial⟩
  obtain ⟨_, its, rv, o, h1, h2, n, h3⟩ := (show ObjOk X.prog X.w H s.heap tp (.tup (cs.map V.ref)) from I.hok tp _ hT)
  have e3 := ClsV.all (pairedC cs) rv
  subst e3
  obtain ⟨oc, od, dt, sl⟩ := o
  simp only at h2 h3
  subst h2 h3
  exact PySem.W.kia_tup (PySem.W.handS_kitx_exc C.hg C.hk C.hs C.hd C.ha C.hn C.ht C.hm) I.kIn J h1 e (fun z => nomatch z) fun tk => ⟨.bl b, H, I.tok tk, rfl, q⟩
def rIsXT (K : PySem.W.Frag) : List V → Hp → VK → Prop := fun xs H Q => ∃ (p D tp : Addr) (cs : List Addr) (b : Bool), xs = [.ref p, .ref tp] ∧ H p = some (ExA D p) ∧ ExcC K D ∧ H tp = some (.tup (cs.map V.ref)) ∧ PySem.W.kitAny K (.ref D) (cs.map Value.ref) = some b ∧ Q (.bl b) H
theorem call_isXT : CallR X (.builtin "isinstance") (rIsXT X.K) := by
  intro pins s σ H xs us Q I r h
  obtain ⟨p, D, tp, cs, b, rfl, hp, C, hT, e, q⟩ := h
  obtain ⟨u1, u2, rfl, r1, r2⟩ := vals2 r
  cases (show u2 = Value.ref tp from r2)
  cases (show u1 = Value.ref p from r1)
  obtain ⟨⟨oe, vs, hget, hz, hv⟩, _⟩ := I.hok p _ hp
  have J : PySem.W.InstAt s.heap p oe D none := by
    obtain ⟨oc, od, oda, osl⟩ := oe
    obtain ⟨h1, h2⟩ := hz
    dsimp only at h1 h2 hv
    subst h1 h2 hv
    exact ⟨hget, rfl, rfl, trivial⟩
  obtain ⟨_, its, rv, o, h1, h2, n, h3⟩ := (show ObjOk X.prog X.w H s.heap tp (.tup (cs.map V.ref)) from I.hok tp _ hT)
  have e3 := ClsV.all (pairedC cs) rv
  subst e3
  obtain ⟨oc, od, dt, sl⟩ := o
  simp only at h2 h3
  subst h2 h3
  exact PySem.W.kia_tup (PySem.W.handS_kitx_exc C.hg C.hk C.hs C.hd C.ha C.hn C.ht C.hm) I.kIn J h1 e (fun z => nomatch z) fun tk => ⟨.bl b, H, I.tok tk, rfl, q⟩
def rIsXTN (K : PySem.W.Frag) : List V → Hp → VK → Prop := fun xs H Q => rIsXT K xs H Q ∨ rIsiT K xs H Q
end
section
variable {X : Cx} {W : Wp ω} {pos p tpos : Pos} {e : Expr} {te : TEZ ω} {a : Addr} {oe : Obj} {pn : List (Addr × Obj)} {D : Addr} {es : List Expr} {cs : List Addr} {k : Nat}
theorem z_isST {b : Bool} (ED : ExcC X.K D) (hz : Zc (.ref D) none oe) (hf : ∃ vs, oe.data = .fields vs) (hk : PySem.W.kitAny X.K (.ref D) (cs.map Value.ref) = some b) (hl : cs.length ≤ 100000) (hm : X.mg "isinstance" = none) (he : PEZ (X.suite a ((a, oe) :: pn)) W e te) (ht : ClsA (X.suite a ((a, oe) :: pn)) es cs) (hg : Gl (X.suite a ((a, oe) :: pn)) "isinstance" := by rfl)
    (hs : starEach [e, .Tuple es k tpos] X.env = (false, eval e X.env) :: starEach [.Tuple es k tpos] X.env := by rfl) (hs2 : starEach [.Tuple es k tpos] X.env = (false, eval (.Tuple es k tpos) X.env) :: starEach [] X.env := by rfl)
    (hpl : (backTo pos (starEach [.Tuple es k tpos] X.env)).any (·.1) = false := by rfl) : PEZ (X.suite a ((a, oe) :: pn)) W (.Call (.Name "isinstance" p) [e, .Tuple es k tpos] [] pos) (zIsS a b te) :=
  ⟨ziss_mo he, fun Z ex tk => peI (pe_callB (call_isET ED hz hf) hg hm (by decide +kernel) (pa_cons (he.run Z ex tk) (pa_cons (pe_tup ht.pa) pa_nil hs2) hs) (by decide) (by decide) hs hpl) fun σ H Q ⟨G, M, δ, w, s, h⟩ => by
    refine ⟨G, M, δ, w, s, he.mo (fun d w1 h1 v H1 G1 M1 o1 r1 => ?_) h⟩
    split at h1
    · obtain ⟨rfl, q⟩ := h1
      cases r1
      exact ⟨sz1 (by rw [List.length_map]; exact hl), fun tp hp => ⟨tp, cs, b, rfl, upd_same, hk, q _ _ _ M1 (o1.new (o := .tup (cs.map V.ref)) hp) (.bl _)⟩⟩
    · exact h1.elim⟩
theorem z_isXT {ec : Nat → Addr} {f : Nat → Bool} (hk : ∀ e, e < 7 → ExcC X.K (ec e) ∧ PySem.W.kitAny X.K (.ref (ec e)) (cs.map Value.ref) = some (f e)) (hno : PySem.W.kitAny X.K (.type "NoneType") (cs.map Value.ref) = some false) (hl : cs.length ≤ 100000) (hm : X.mg "isinstance" = none) (he : PEZ X W e te) (ht : ClsA X es cs) (hec : W.ec = ec := by rfl) (hg : Gl X "isinstance" := by rfl)
    (hs : starEach [e, .Tuple es k tpos] X.env = (false, eval e X.env) :: starEach [.Tuple es k tpos] X.env := by rfl) (hs2 : starEach [.Tuple es k tpos] X.env = (false, eval (.Tuple es k tpos) X.env) :: starEach [] X.env := by rfl)
    (hpl : (backTo pos (starEach [.Tuple es k tpos] X.env)).any (·.1) = false := by rfl) : PEZ X W (.Call (.Name "isinstance" p) [e, .Tuple es k tpos] [] pos) (zIsX ec f te) := by
  subst hec
  refine ⟨zisx_mo he, fun Z ex tk => peI (pe_callB (CallR.or call_isXT call_isiT) hg hm (by decide +kernel) (pa_cons (he.run Z ex tk) (pa_cons (pe_tup ht.pa) pa_nil hs2) hs) (by decide) (by decide) hs hpl) fun σ H Q ⟨G, M, δ, w, s, h⟩ => ?_⟩
  refine ⟨G, M, δ, w, s, he.mo (fun d w1 h1 v H1 G1 M1 o1 r1 => ?_) h⟩
  split at h1
  · obtain ⟨e', rfl, l, q⟩ := h1
    cases r1 with
    | exc g =>
      obtain ⟨k1, k2⟩ := hk e' l
      refine ⟨sz1 (by rw [List.length_map]; exact hl), fun tp hp => .inl ⟨_, _, tp, cs, _, rfl, ?_, k1, upd_same, k2, q _ _ _ M1 (o1.new (o := .tup (cs.map V.ref)) hp) (.bl _)⟩⟩
      rw [upd_ne (ne_of_none (o1.pt.gh _ _ g) hp)]
      exact o1.pt.gh _ _ g
  · cases r1
    exact ⟨sz1 (by rw [List.length_map]; exact hl), fun tp hp => .inr ⟨.non, tp, cs.map V.ref, .type "NoneType", cs.map Value.ref, false, rfl, upd_same, pairedC cs, .base .non, hno, h1 _ _ _ M1 (o1.new (o := .tup (cs.map V.ref)) hp) (.bl _)⟩⟩
  · exact h1.elim
end

/-! ### methods of a list that stands: count, index of flat data -/
def rCntF (K : PySem.W.Frag) : V → List V → Hp → VK → Prop := fun x xs H Q => ∃ (p : Addr) (ys : List V) (y : V), x = .ref p ∧ xs = [y] ∧ SqL K H p ys ∧ flatV y = true ∧ ys.all flatV = true ∧ Q (.int (ys.countP fun z => eqV z y : Nat)) H
theorem countF {y : V} : ∀ {ys : List V} {us : List Value}, Vals ys us → ys.all flatV = true → us.countP (eqU y) = ys.countP fun z => eqV z y
  | _, _, .nil, _ => rfl
  | z :: ys, u :: us, .cons r t, f => by
    rw [List.all_cons, Bool.and_eq_true] at f
    rw [List.countP_cons, List.countP_cons, countF t f.2, eqU_of r f.1]
theorem mt_countF {X : Cx} : MtR X "list.count" (rCntF X.K) := by
  intro pins s σ H x xs v us Q I rx rxs h
  obtain ⟨p, ys, y, rfl, rfl, hs, fy, fys, q⟩ := h
  cases rx
  obtain ⟨u, rfl, ru⟩ := rxs.one
  obtain ⟨its, rv, ⟨⟨cls, dd, data, sl⟩, n, ho, hc, hdn, hd⟩, hlen⟩ := I.list hs
  simp only at hc hd
  subst hc hd
  refine call_meets PySem.F.slot_list_count ⟨_, ho, rfl⟩ PySem.F.entry_list_count (PySem.F.args_list_count_2 _ _)
    (SeqAt.list_countAt p its.toArray n dd sl u (eqU y)) ⟨ho, fun u' hu' => mem_eqAt ru fy rv fys u' (by simpa using hu'), ?_⟩
  refine ⟨.int (ys.countP fun z => eqV z y : Nat), H, I.tok _, ⟨s.toks, ?_⟩, q⟩
  show Value.int ((its.toArray.toList.countP (eqU y) : Nat) : Int) s.toks = Value.int ((ys.countP fun z => eqV z y : Nat) : Int) s.toks
  rw [show its.toArray.toList = its from rfl, countF rv fys]
def lcntD (l : List D) (m : List D) (q : D → Prop) : Prop := oneD m fun y => (okF y = true ∧ okFs l = true) ∧ q (.int (l.countP fun z => eqF z y : Nat))
def lidxD (l : List D) (m : List D) (q : D → Prop) : Prop := oneD m fun y => (okF y = true ∧ okFs l = true) ∧ ∃ (j : Nat) (z : D), l[j]? = some z ∧ eqF z y = true ∧ (∀ i z', i < j → l[i]? = some z' → eqF z' y = false) ∧ q (.int (j : Nat))
def zML (r : List D → List D → (D → Prop) → Prop) (te : TEZ ω) (ta : TAZ ω) : TEZ ω := fun δ w Q E => te δ w (fun x w1 => seqD x fun l => ta δ w1 (fun m w2 => r l m fun z => Q z w2) E) E
structure LndL (K : PySem.W.Frag) (rm : V → List V → Hp → VK → Prop) (r : List D → List D → (D → Prop) → Prop) : Prop where
  mo : ∀ {l m : List D} {q q' : D → Prop}, (∀ d, q d → q' d) → r l m q → r l m q'
  go : ∀ (H G : Hp) (p : Addr) (xs vs : List V) (l m : List D) (q : D → Prop) (Q : VK), Ext G H → SqL K H p xs → RepL K G xs l → RepL K G vs m → r l m q → (∀ d v, q d → Rep K G v d → Q v H) → rm (.ref p) vs H Q
theorem okFs_at {l : List D} (h : okFs l = true) : ∀ {j : Nat} {z : D}, l[j]? = some z → okF z = true := by
  induction l with
  | nil => intro j z e; simp at e
  | cons d l ih =>
    intro j z e
    unfold okFs at h
    rw [Bool.and_eq_true] at h
    cases j with
    | zero => rw [List.getElem?_cons_zero] at e; cases e; exact h.1
    | succ j => rw [List.getElem?_cons_succ] at e; exact ih h.2 e
section
variable {K : PySem.W.Frag} {G : Hp}
theorem countP_rep {v : V} {d : D} (r : Rep K G v d) (h : okF d = true) : ∀ {vs : List V} {l : List D}, RepL K G vs l → okFs l = true → (vs.countP fun z => eqV z v) = l.countP fun z => eqF z d
  | _, _, .nil, _ => rfl
  | _, _, .cons s t, g => by
    unfold okFs at g
    rw [Bool.and_eq_true] at g
    rw [List.countP_cons, List.countP_cons, countP_rep r h t g.2, eqF_eqV s r g.1 h]
theorem ll_cnt : LndL K (rCntF K) lcntD where
  mo := fun k h => h.imp fun d h => ⟨h.1, k _ h.2⟩
  go := fun H G p xs vs l m q Q e s rl rm h k => by
    have hh := h.of; clear h; obtain ⟨d, rfl, ⟨h1, h2⟩, h⟩ := hh
    obtain ⟨v, rfl, rv⟩ := one_rep rm
    exact ⟨p, xs, v, rfl, rfl, s, okF_flat rv h1, okFs_flat rl h2, by rw [countP_rep rv h1 rl h2]; exact k _ _ h (.int _)⟩
theorem ll_idx : LndL K (rIndex K) lidxD where
  mo := fun k h => h.imp fun d ⟨h0, j, z, h1, h2, h3, h4⟩ => ⟨h0, j, z, h1, h2, h3, k _ h4⟩
  go := fun H G p xs vs l m q Q e s rl rm h k => by
    have hh := h.of; clear h; obtain ⟨d, rfl, ⟨h1, h2⟩, j, z, hj, hz, hno, h⟩ := hh
    obtain ⟨v, rfl, rv⟩ := one_rep rm
    obtain ⟨u, hu, ru⟩ := rl.get hj
    refine ⟨p, xs, v, j, u, rfl, rfl, s, okF_flat rv h1, okFs_flat rl h2, hu, by rw [eqF_eqV ru rv (okFs_at h2 hj) h1]; exact hz, fun i z' hi hz' => ?_, k _ _ h (.int _)⟩
    obtain ⟨d', hd', rd'⟩ := rl.getV hz'
    rw [eqF_eqV rd' rv (okFs_at h2 hd') h1]
    exact hno i d' hi hd'
end
section
variable {X : Cx} {W : Wp ω} {apos pos : Pos} {o e : Expr} {es : List Expr} {to : TEZ ω} {ta : TAZ ω} {rm : V → List V → Hp → VK → Prop} {r : List D → List D → (D → Prop) → Prop} {name : Str} {id : String}
theorem zML_mo (hl : LndL X.K rm r) (ho : PEZ X W o to) (ha : PAZ X W es ta) : Mo (zML r to ta) := fun k h => ho.mo (fun x w1 h1 => h1.imp fun l h2 => ha.mo (fun m w2 h3 => hl.mo (fun d q => k d _ q) h3) h2) h
theorem z_lm (hl : LndL X.K rm r) (hm : MtR X id rm) (slot : Slot "list" name id) (hty : typeOf (.builtin id) = pure (.type "method_descriptor")) (ho : PEZ X W o to) (ha : PAZ X W (e :: es) ta)
    (hbase : attributeBase o name X.env (eval o X.env) = eval o X.env := by rfl)
    (hfew : ((backTo pos (starEach (e :: es) X.env)).all (fun x => !x.1) && (backToKw pos (keywordEach [] X.env)).all (fun x => x.1.isSome)
      && decide ((e :: es).length + ([] : List Keyword).length + (if ([] : List Keyword).isEmpty then 0 else 1) < 30)) = true := by rfl)
    (hline : (apos.endLine == pos.line) = true := by rfl) (hs : starEach (e :: es) X.env = (false, eval e X.env) :: starEach es X.env := by rfl) (hpl : (backTo pos (starEach es X.env)).any (·.1) = false := by rfl) :
    PEZ X W (.Call (.Attribute o name apos) (e :: es) [] pos) (zML r to ta) :=
  ⟨zML_mo hl ho ha, fun Z ex tk => peI (pe_bm PySem.F.plainAttrs_list slot hty hm (ho.run Z ex tk) (ha.run Z ex tk) hbase hfew hline hs hpl) fun σ H Q ⟨G, M, δ, w, a0, h⟩ => by
    refine ⟨G, M, δ, w, a0, ho.mo (fun d w1 h1 v H1 G1 M1 o1 r1 => ?_) h⟩
    obtain ⟨p, xs, l, rfl, s, rl, h2⟩ := h1.of r1
    refine ⟨.inl ⟨rfl, _, sqLE o1.pt.gh s⟩, G1, M1, δ, w1, a0.go o1, ha.mo (fun m w2 h3 vs H2 G2 M2 o2 r2 => ?_) h2⟩
    exact hl.go H2 G2 p xs vs l m _ Q o2.pt.gh (sqLE (o2.nx.gg.tr o2.pt.gh) s) (rl.up o2.nx.gg) r2 h3 fun d3 v3 q3 r3 => q3 v3 H2 G2 M2 (o1.tr o2) r3⟩
theorem z_lcnt (ho : PEZ X W o to) (ha : PAZ X W [e] ta) (hbase : attributeBase o "count" X.env (eval o X.env) = eval o X.env := by rfl)
    (hfew : ((backTo pos (starEach [e] X.env)).all (fun x => !x.1) && (backToKw pos (keywordEach [] X.env)).all (fun x => x.1.isSome) && decide ([e].length + ([] : List Keyword).length + (if ([] : List Keyword).isEmpty then 0 else 1) < 30)) = true := by rfl)
    (hline : (apos.endLine == pos.line) = true := by rfl) (hs : starEach [e] X.env = (false, eval e X.env) :: starEach [] X.env := by rfl) (hpl : (backTo pos (starEach [] X.env)).any (·.1) = false := by rfl) : PEZ X W (.Call (.Attribute o "count" apos) [e] [] pos) (zML lcntD to ta) :=
  z_lm ll_cnt mt_countF PySem.F.slot_list_count PySem.F.type_list_count ho ha hbase hfew hline hs hpl
theorem z_lidx (ho : PEZ X W o to) (ha : PAZ X W [e] ta) (hbase : attributeBase o "index" X.env (eval o X.env) = eval o X.env := by rfl)
    (hfew : ((backTo pos (starEach [e] X.env)).all (fun x => !x.1) && (backToKw pos (keywordEach [] X.env)).all (fun x => x.1.isSome) && decide ([e].length + ([] : List Keyword).length + (if ([] : List Keyword).isEmpty then 0 else 1) < 30)) = true := by rfl)
    (hline : (apos.endLine == pos.line) = true := by rfl) (hs : starEach [e] X.env = (false, eval e X.env) :: starEach [] X.env := by rfl) (hpl : (backTo pos (starEach [] X.env)).any (·.1) = false := by rfl) : PEZ X W (.Call (.Attribute o "index" apos) [e] [] pos) (zML lidxD to ta) :=
  z_lm ll_idx mt_index PySem.F.slot_list_index PySem.F.type_list_index ho ha hbase hfew hline hs hpl
end
end Z

namespace Z
open PySem PySem.Spec PyProof.Rows L2
theorem nines_tab : ∀ n : Nat, n < 61 → PySem.MulOk (Str.ofString "9") (n : Int) ∧ (n ≠ 0 → PySem.intText? (Txt.mul (Str.ofString "9") (n : Int)) = some ((10 : Int) ^ n - 1)) ∧ (Txt.mul (Str.ofString "9") (n : Int)).length ≤ 640 := by
  unfold PySem.MulOk
  decide +kernel
theorem noughts_tab : ∀ n : Nat, n < 61 → PySem.MulOk (Str.ofString "0") (n : Int) ∧ PySem.intText? (Str.ofString "1" ++ Txt.mul (Str.ofString "0") (n : Int)) = some ((10 : Int) ^ n) ∧ (Str.ofString "1" ++ Txt.mul (Str.ofString "0") (n : Int)).length ≤ 640 ∧ (Str.ofString "1").length + (Txt.mul (Str.ofString "0") (n : Int)).length ≤ 16777216 := by
  unfold PySem.MulOk
  decide +kernel
theorem nines {n : Int} (h0 : 1 ≤ n) (h1 : n ≤ 60) : PySem.MulOk (Str.ofString "9") n ∧ ∃ v, PySem.intText? (Txt.mul (Str.ofString "9") n) = some v ∧ v = (10 : Int) ^ n.toNat - 1 ∧ (Txt.mul (Str.ofString "9") n).length ≤ 640 := by
  obtain ⟨k, rfl⟩ : ∃ k : Nat, n = k := ⟨n.toNat, by omega⟩
  obtain ⟨a, b, c⟩ := nines_tab k (by omega)
  exact ⟨a, _, b (by omega), rfl, c⟩
theorem noughts {n : Int} (h0 : 0 ≤ n) (h1 : n ≤ 60) : PySem.MulOk (Str.ofString "0") n ∧ ∃ v, PySem.intText? (Str.ofString "1" ++ Txt.mul (Str.ofString "0") n) = some v ∧ v = (10 : Int) ^ n.toNat ∧ (Str.ofString "1" ++ Txt.mul (Str.ofString "0") n).length ≤ 640 ∧ (Str.ofString "1").length + (Txt.mul (Str.ofString "0") n).length ≤ 16777216 := by
  obtain ⟨k, rfl⟩ : ∃ k : Nat, n = k := ⟨n.toNat, by omega⟩
  obtain ⟨a, b, c, d⟩ := noughts_tab k (by omega)
  exact ⟨a, _, b, rfl, c, d⟩
end Z

namespace Z
open PySem PySem.Spec PyProof.Rows L2
variable {ω : Type}
/-! ### a def that calls itself: nothing is promised at depth 0 -/
theorem fd_none {P : Program} {w : World} {K : PySem.W.Frag} {mg : Str → Option Value} {base : Heap} {W : Wp ω} {x qual : Str} {st : Stmt} {f : Addr} {fd : FuncData} {ps : List Str} {sp : SpZ ω} (F : Fun K x qual st f fd) (hm : mg x = some (.ref f)) (hb : Binds K fd ps [])
    (h : ∀ ds w Q E, ¬ sp ds w Q E) : Fd P w K mg base W 0 x sp :=
  ⟨fun _ _ q => (h _ _ _ _ q).elim, f, fd, ps, ⟨fun vs H Q E ⟨_, _, _, _, _, _, q⟩ => (h _ _ _ _ q).elim, fun A outer s H args us vs Q E _ _ _ _ ⟨_, _, _, _, _, _, q⟩ => (h _ _ _ _ q).elim⟩, hm, F.kp, hb⟩
end Z

namespace Z
open PySem PySem.Spec PyProof.Rows L2
variable {ω : Type}
/-! ### methods of a text -/
def zM (r : Str → List D → (D → Prop) → Prop) (te : TEZ ω) (ta : TAZ ω) : TEZ ω := fun δ w Q E => te δ w (fun x w1 => match x with | .str a => ta δ w1 (fun l w2 => r a l fun z => Q z w2) E | _ => False) E
structure LndM (K : PySem.W.Frag) (rm : V → List V → Hp → VK → Prop) (r : Str → List D → (D → Prop) → Prop) : Prop where
  mo : ∀ {a : Str} {l : List D} {q q' : D → Prop}, (∀ d, q d → q' d) → r a l q → r a l q'
  go : ∀ (H G : Hp) (a : Str) (vs : List V) (l : List D) (q : D → Prop) (Q : VK), Ext G H → RepL K G vs l → r a l q → (∀ d v, q d → Rep K G v d → Q v H) → rm (.str a) vs H Q
section
variable {X : Cx} {W : Wp ω} {apos pos : Pos} {o e : Expr} {es : List Expr} {to : TEZ ω} {ta : TAZ ω} {rm : V → List V → Hp → VK → Prop} {r : Str → List D → (D → Prop) → Prop} {name : Str} {id : String}
theorem zM_mo (hl : LndM X.K rm r) (ho : PEZ X W o to) (ha : PAZ X W es ta) : Mo (zM r to ta) := fun k h => ho.mo (fun x w1 h1 => by
  cases x with
  | str a => exact ha.mo (fun l w2 h2 => hl.mo (fun d q => k d _ q) h2) h1
  | _ => exact False.elim h1) h
theorem zM_core (hl : LndM X.K rm r) (ho : PEZ X W o to) (ha : PAZ X W es ta) {Z : Zx} {ex : Nat → List Sl → ω → Prop} {σ : L2.St} {H : Hp} {Q : VK} (h : liE X.K W Z ex (zM r to ta) σ H Q) : tBM X.K "str" rm (liE X.K W Z ex to) (liA X.K W Z ex ta) σ H Q := by
  obtain ⟨G, M, δ, w, a0, h⟩ := h
  refine ⟨G, M, δ, w, a0, ho.mo (fun d w1 h1 v H1 G1 M1 o1 r1 => ?_) h⟩
  cases d with
  | str a =>
    cases r1
    exact ⟨rfl, G1, M1, δ, w1, a0.go o1, ha.mo (fun l w2 h2 vs H2 G2 M2 o2 r2 => hl.go H2 G2 a vs l _ Q o2.pt.gh r2 h2 (fun d3 v3 q3 r3 => q3 v3 H2 G2 M2 (o1.tr o2) r3)) h1⟩
  | _ => exact False.elim h1
theorem z_tm (hl : LndM X.K rm r) (hm : MtR X id rm) (slot : Slot "str" name id) (hty : typeOf (.builtin id) = pure (.type "method_descriptor")) (pa : PlainAttrs "str") (ho : PEZ X W o to) (ha : PAZ X W (e :: es) ta)
    (hbase : attributeBase o name X.env (eval o X.env) = eval o X.env := by rfl)
    (hfew : ((backTo pos (starEach (e :: es) X.env)).all (fun x => !x.1) && (backToKw pos (keywordEach [] X.env)).all (fun x => x.1.isSome)
      && decide ((e :: es).length + ([] : List Keyword).length + (if ([] : List Keyword).isEmpty then 0 else 1) < 30)) = true := by rfl)
    (hline : (apos.endLine == pos.line) = true := by rfl) (hs : starEach (e :: es) X.env = (false, eval e X.env) :: starEach es X.env := by rfl) (hpl : (backTo pos (starEach es X.env)).any (·.1) = false := by rfl) :
    PEZ X W (.Call (.Attribute o name apos) (e :: es) [] pos) (zM r to ta) :=
  ⟨zM_mo hl ho ha, fun Z ex tk => peI (pe_bm pa slot hty hm (ho.run Z ex tk) (ha.run Z ex tk) hbase hfew hline hs hpl) fun σ H Q h => zM_core hl ho ha h⟩
end
/-! index, count, join -/
def TxI (a b : Str) (i : Nat) : Prop := ∃ rest, Builtin.Str.occurrences a b 0 a.length 1 = i :: rest
def idxD (a : Str) (l : List D) (q : D → Prop) : Prop := match l with | [.str b] => ∃ i : Nat, TxI a b i ∧ q (.int i) | _ => False
def cntD (a : Str) (l : List D) (q : D → Prop) : Prop := match l with | [.str b] => q (.int (Txt.count a b)) | _ => False
/-- a list of texts -/
def Txs (l : List D) (ys : List Str) : Prop := l = ys.map D.str
def joinD (a : Str) (l : List D) (q : D → Prop) : Prop := match l with | [.lst l] => ∃ ys : List Str, Txs l ys ∧ (ys.map (·.length)).sum + ys.length * a.length ≤ 16777216 ∧ q (.str (Txt.join a ys)) | _ => False
section
variable {K : PySem.W.Frag}
theorem one_repM {G : Hp} {vs : List V} {d : D} (r : RepL K G vs [d]) : ∃ v, vs = [v] ∧ Rep K G v d := by
  cases r with
  | cons a b => cases b; exact ⟨_, rfl, a⟩
theorem lm_idx : LndM K (fun x xs H Q => ∃ a b i rest, x = .str a ∧ xs = [.str b] ∧ Builtin.Str.occurrences a b 0 a.length 1 = i :: rest ∧ Q (.int (i : Nat)) H) idxD where
  mo := fun {a l q q'} k h => by
    unfold idxD at h ⊢
    split at h
    · obtain ⟨i, h1, h2⟩ := h; exact ⟨i, h1, k _ h2⟩
    · exact h.elim
  go := fun H G a vs l q Q e r h k => by
    unfold idxD at h
    split at h
    · rename_i b
      obtain ⟨i, ⟨rest, ho⟩, hq⟩ := h
      obtain ⟨v, rfl, rv⟩ := one_repM r
      cases rv
      exact ⟨a, b, i, rest, rfl, rfl, ho, k _ _ hq (.int _)⟩
    · exact h.elim
theorem lm_cnt : LndM K (fun x xs H Q => ∃ a b, x = .str a ∧ xs = [.str b] ∧ Q (.int (Txt.count a b)) H) cntD where
  mo := fun {a l q q'} k h => by
    unfold cntD at h ⊢
    split at h
    · exact k _ h
    · exact h.elim
  go := fun H G a vs l q Q e r h k => by
    unfold cntD at h
    split at h
    · rename_i b
      obtain ⟨v, rfl, rv⟩ := one_repM r
      cases rv
      exact ⟨a, b, rfl, rfl, k _ _ h (.int _)⟩
    · exact h.elim
theorem lm_join : LndM K (fun x xs H Q => ∃ a p, ∃ ys : List Str, x = .str a ∧ xs = [.ref p] ∧ (SqL K H p (ys.map V.str) ∨ SqT K H p (ys.map V.str)) ∧
    (ys.map (·.length)).sum + ys.length * a.length ≤ 16777216 ∧ Q (.str (Txt.join a ys)) H) joinD where
  mo := fun {a l q q'} k h => by
    unfold joinD at h ⊢
    split at h
    · obtain ⟨ys, h1, h2, h3⟩ := h; exact ⟨ys, h1, h2, k _ h3⟩
    · exact h.elim
  go := fun H G a vs l q Q e r h k => by
    unfold joinD at h
    split at h
    · rename_i l'
      obtain ⟨ys, rfl, hz, hq⟩ := h
      obtain ⟨v, rfl, rv⟩ := one_repM r
      cases rv with
      | @lst p us _ s r =>
        have e2 := RepL.strs (ns := ys) r
        rw [e2] at s
        exact ⟨a, p, ys, rfl, rfl, .inl (sqLE e (.inl (.inl s))), hz, k _ _ hq (.str _)⟩
    · exact h.elim
end
section
variable {X : Cx} {W : Wp ω} {apos pos : Pos} {o e : Expr} {to : TEZ ω} {ta : TAZ ω}
theorem z_tidx (ho : PEZ X W o to) (ha : PAZ X W [e] ta) (hbase : attributeBase o "index" X.env (eval o X.env) = eval o X.env := by rfl)
    (hfew : ((backTo pos (starEach [e] X.env)).all (fun x => !x.1) && (backToKw pos (keywordEach [] X.env)).all (fun x => x.1.isSome) && decide ([e].length + ([] : List Keyword).length + (if ([] : List Keyword).isEmpty then 0 else 1) < 30)) = true := by rfl)
    (hline : (apos.endLine == pos.line) = true := by rfl) (hs : starEach [e] X.env = (false, eval e X.env) :: starEach [] X.env := by rfl) (hpl : (backTo pos (starEach [] X.env)).any (·.1) = false := by rfl) : PEZ X W (.Call (.Attribute o "index" apos) [e] [] pos) (zM idxD to ta) :=
  z_tm lm_idx mt_sindex F.slot_str_index F.type_str_index F.plainAttrs_str ho ha hbase hfew hline hs hpl
theorem z_tcnt (ho : PEZ X W o to) (ha : PAZ X W [e] ta) (hbase : attributeBase o "count" X.env (eval o X.env) = eval o X.env := by rfl)
    (hfew : ((backTo pos (starEach [e] X.env)).all (fun x => !x.1) && (backToKw pos (keywordEach [] X.env)).all (fun x => x.1.isSome) && decide ([e].length + ([] : List Keyword).length + (if ([] : List Keyword).isEmpty then 0 else 1) < 30)) = true := by rfl)
    (hline : (apos.endLine == pos.line) = true := by rfl) (hs : starEach [e] X.env = (false, eval e X.env) :: starEach [] X.env := by rfl) (hpl : (backTo pos (starEach [] X.env)).any (·.1) = false := by rfl) : PEZ X W (.Call (.Attribute o "count" apos) [e] [] pos) (zM cntD to ta) :=
  z_tm lm_cnt mt_count F.slot_str_count F.type_str_count F.plainAttrs_str ho ha hbase hfew hline hs hpl
theorem z_tjoin (ho : PEZ X W o to) (ha : PAZ X W [e] ta) (hbase : attributeBase o "join" X.env (eval o X.env) = eval o X.env := by rfl)
    (hfew : ((backTo pos (starEach [e] X.env)).all (fun x => !x.1) && (backToKw pos (keywordEach [] X.env)).all (fun x => x.1.isSome) && decide ([e].length + ([] : List Keyword).length + (if ([] : List Keyword).isEmpty then 0 else 1) < 30)) = true := by rfl)
    (hline : (apos.endLine == pos.line) = true := by rfl) (hs : starEach [e] X.env = (false, eval e X.env) :: starEach [] X.env := by rfl) (hpl : (backTo pos (starEach [] X.env)).any (·.1) = false := by rfl) : PEZ X W (.Call (.Attribute o "join" apos) [e] [] pos) (zM joinD to ta) :=
  z_tm lm_join mt_join F.slot_str_join F.type_str_join F.plainAttrs_str ho ha hbase hfew hline hs hpl
end
end Z

namespace Z
open PySem PySem.Spec PyProof.Rows L2 TL
variable {ω : Type}
/-! ### one sign in a text -/
def inS1 : OpD := fun x y q => match x, y with | .str x, .str z => ∃ c, x = ⟨#[c]⟩ ∧ q (.bl (decide (c ∈ z.cps.toList))) | _, _ => False
def notInS1 : OpD := fun x y q => match x, y with | .str x, .str z => ∃ c, x = ⟨#[c]⟩ ∧ q (.bl (!decide (c ∈ z.cps.toList))) | _, _ => False
section
variable {K : PySem.W.Frag}
theorem l_inS1 : Lnd K (fun x y H Q => ∃ (c : Nat) (z : Str), x = .str ⟨#[c]⟩ ∧ y = .str z ∧ Q (.bl (decide (c ∈ z.cps.toList))) H) inS1 where
  mo := fun {x y q q'} k h => by
    unfold inS1 at h ⊢
    split at h
    · obtain ⟨c, h1, h2⟩ := h; exact ⟨c, h1, k _ h2⟩
    · exact h.elim
  go := fun H G x y dx dy q Q e rx ry h k _ => by
    unfold inS1 at h
    split at h
    · obtain ⟨c, rfl, h2⟩ := h
      cases rx; cases ry
      exact ⟨c, _, rfl, rfl, k _ _ h2 (.bl _)⟩
    · exact h.elim
theorem l_notInS1 : Lnd K (fun x y H Q => ∃ (c : Nat) (z : Str), x = .str ⟨#[c]⟩ ∧ y = .str z ∧ Q (.bl (!decide (c ∈ z.cps.toList))) H) notInS1 where
  mo := fun {x y q q'} k h => by
    unfold notInS1 at h ⊢
    split at h
    · obtain ⟨c, h1, h2⟩ := h; exact ⟨c, h1, k _ h2⟩
    · exact h.elim
  go := fun H G x y dx dy q Q e rx ry h k _ => by
    unfold notInS1 at h
    split at h
    · obtain ⟨c, rfl, h2⟩ := h
      cases rx; cases ry
      exact ⟨c, _, rfl, rfl, k _ _ h2 (.bl _)⟩
    · exact h.elim
end
/-! ### split -/
def zSplit (to : TEZ ω) (ta : TAZ ω) : TAZ ω := fun δ w Q E => to δ w (fun x w1 => match x with
  | .str a => ta δ w1 (fun l w2 => match l with | [.str b] => ((b.length == 0) = false ∧ a.length ≤ 1000000) ∧ Q ((Txt.split a b).map D.str) w2 | _ => False) E
  | _ => False) E
theorem repL_str {K : PySem.W.Frag} {G : Hp} : ∀ ys : List Str, RepL K G (ys.map V.str) (ys.map D.str) := RepL.ofStrs
section
variable {X : Cx} {W : Wp ω} {apos pos : Pos} {o e : Expr} {to : TEZ ω} {ta : TAZ ω}
theorem zsplit_mo (ho : PEZ X W o to) (ha : PAZ X W [e] ta) : Mo (zSplit to ta) := fun k h => ho.mo (fun x w1 h1 => by
  cases x with
  | str a => exact ha.mo (fun l w2 h2 => by
      split at h2
      · exact ⟨h2.1, k _ _ h2.2⟩
      · exact h2.elim) h1
  | _ => exact False.elim h1) h
theorem z_tsplit (ho : PEZ X W o to) (ha : PAZ X W [e] ta) (hbase : attributeBase o "split" X.env (eval o X.env) = eval o X.env := by rfl)
    (hfew : ((backTo pos (starEach [e] X.env)).all (fun x => !x.1) && (backToKw pos (keywordEach [] X.env)).all (fun x => x.1.isSome) && decide ([e].length + ([] : List Keyword).length + (if ([] : List Keyword).isEmpty then 0 else 1) < 30)) = true := by rfl)
    (hline : (apos.endLine == pos.line) = true := by rfl) (hs : starEach [e] X.env = (false, eval e X.env) :: starEach [] X.env := by rfl) (hpl : (backTo pos (starEach [] X.env)).any (·.1) = false := by rfl) : PFZ X W (.Call (.Attribute o "split" apos) [e] [] pos) (zSplit to ta) :=
  ⟨zsplit_mo ho ha, fun Z ex tk => peI (pe_bm F.plainAttrs_str F.slot_str_split F.type_str_split mt_split (ho.run Z ex tk) (ha.run Z ex tk) hbase hfew hline hs hpl) fun σ H Q ⟨G, M, δ, w, a0, h⟩ => by
    refine ⟨G, M, δ, w, a0, ho.mo (fun d w1 h1 v H1 G1 M1 o1 r1 => ?_) h⟩
    cases d with
    | str a =>
      cases r1
      refine ⟨rfl, G1, M1, δ, w1, a0.go o1, ha.mo (fun l w2 h2 vs H2 G2 M2 o2 r2 => ?_) h1⟩
      split at h2
      · rename_i b
        obtain ⟨v, rfl, rv⟩ := one_repM r2
        cases rv
        exact ⟨a, b, rfl, rfl, h2.1.1, by rw [sizeLine_eq]; omega, fun p hp => h2.2 p _ _ _ _ ((o1.tr o2).laid hp) (RepL.ofStrs _) (.of (o1.tr o2) a0.pt.mh hp)⟩
      · exact h2.elim
    | _ => exact False.elim h1⟩
end
/-! ### parts of a text -/
theorem tl_cut0 (z : Str) : tl (cutS z none (some 1)) = (tl z).take 1 := by
  have e : HT.sIx z.length z.length (some 1) = min 1 z.length := HT.sIx_nat z.length z.length 1
  unfold cutS
  rw [e]
  show ((tl z).drop 0).take (min 1 z.length - 0) = _
  rw [List.drop_zero, Nat.sub_zero, len_tl]
  cases tl z with
  | nil => rfl
  | cons c r => rw [List.length_cons, show min 1 (r.length + 1) = 1 by omega]
theorem tl_cut1 (z : Str) : tl (cutS z (some 1) none) = (tl z).drop 1 := by
  have e : HT.sIx z.length 0 (some 1) = min 1 z.length := HT.sIx_nat z.length 0 1
  unfold cutS
  rw [e]
  show ((tl z).drop (min 1 z.length)).take (z.length - min 1 z.length) = _
  rw [len_tl]
  cases tl z with
  | nil => rfl
  | cons c r =>
    rw [List.length_cons, show min 1 (r.length + 1) = 1 by omega]
    show List.take (r.length + 1 - 1) r = r
    exact List.take_of_length_le (by omega)
/-! ### the text of a whole number -/
def tx (i : Int) : Str := Str.ofString (toString i)
/-- its figures -/
def fg (i : Int) : Str := ⟨(numL i.natAbs).toArray⟩
theorem tl_fg (i : Int) : tl (fg i) = numL i.natAbs := rfl
theorem tx_nn {i : Int} (h : 0 ≤ i) : tx i = fg i := ext_tl (by
  obtain ⟨n, rfl⟩ := Int.eq_ofNat_of_zero_le h
  exact tl_num n)
theorem tl_tx_neg {i : Int} (h : i < 0) : tl (tx i) = 45 :: numL i.natAbs := by
  unfold tx
  rw [PyProof.Rows.toString_neg h, tl_ofString, String.toList_append, List.map_append]
  have e : (0 - i) = ((i.natAbs : Nat) : Int) := by omega
  have e2 := tl_num i.natAbs
  rw [tl_ofString] at e2
  rw [e, e2]
  rfl
theorem tx_cut0 (i : Int) : cutS (tx i) none (some 1) = Str.ofString "-" ↔ i < 0 := by
  constructor
  · intro h
    refine Int.lt_of_not_ge fun c => ?_
    have e := congrArg tl h
    rw [tl_cut0, tx_nn c, tl_fg] at e
    have e : (numL i.natAbs).take 1 = [45] := e
    have hm : 45 ∈ numL i.natAbs := List.mem_of_mem_take (by rw [e]; exact List.mem_singleton.mpr rfl)
    exact numL_free (by decide) hm
  · intro h
    refine ext_tl ?_
    rw [tl_cut0, tl_tx_neg h]
    rfl
theorem tx_cut1 {i : Int} (h : i < 0) : cutS (tx i) (some 1) none = fg i := ext_tl (by rw [tl_cut1, tl_tx_neg h]; rfl)
theorem numL_len2 {n k : Nat} (h : n < 2 ^ (3 * k)) (hk : 0 < k) : (numL n).length ≤ k := numL_len hk (Nat.lt_of_lt_of_le h (by
  rw [Nat.pow_mul]
  exact Nat.pow_le_pow_left (by decide) k))
theorem fg_len {i : Int} (h : Sm 1900 i) : (numL i.natAbs).length ≤ 634 := numL_len2 (Nat.lt_of_lt_of_le h (Nat.pow_le_pow_right (by decide) (by decide))) (by decide)
theorem tx_length {i : Int} (h : Sm 1900 i) : (tx i).length ≤ 635 := by
  have := fg_len h
  rw [len_tl]
  by_cases c : i < 0
  · rw [tl_tx_neg c, List.length_cons]; omega
  · rw [tx_nn (by omega), tl_fg]; omega
theorem tx_int {i : Int} (h : Sm 1900 i) : PySem.intText? (tx i) = some i := by
  have hl := fg_len h
  by_cases c : i < 0
  · have e := intText_neg (x := tx i) (cs := numL i.natAbs) (tl_tx_neg c) (numL_digits _) (numL_ne _) (by have := tx_length h; omega)
    rw [numL_val] at e
    rw [e, show -((i.natAbs : Nat) : Int) = i by omega]
  · have e := int_num (n := i.natAbs) (by omega)
    rw [show ((i.natAbs : Nat) : Int) = i by omega] at e
    exact e
theorem fg_ne (i : Int) : fg i ≠ Str.ofString "" := fun h => numL_ne i.natAbs (congrArg tl h)
theorem numL_head : ∀ (n : Nat), ∃ c r, numL n = c :: r ∧ (c = 48 → n = 0) := by
  intro n
  induction n using Nat.strongRecOn with
  | _ n ih =>
    by_cases h : n < 10
    · exact ⟨48 + n, [], numL_lt h, fun e => by omega⟩
    · obtain ⟨c, r, e1, e2⟩ := ih (n / 10) (by omega)
      refine ⟨c, r ++ [48 + n % 10], by rw [numL_step (by omega), e1]; rfl, fun e => ?_⟩
      have := e2 e
      omega
theorem fg_at (i : Int) : ∃ c, atI (fg i).cps.toList 0 = some c ∧ (c = 48 → i = 0) := by
  obtain ⟨c, r, e1, e2⟩ := numL_head i.natAbs
  refine ⟨c, ?_, fun e => by have := e2 e; omega⟩
  show atI (numL i.natAbs) 0 = some c
  rw [e1]
  unfold atI ixN
  rw [if_pos (Int.le_refl 0), if_pos (by rw [List.length_cons]; omega)]
  rfl
theorem tx_free {i : Int} {c : Nat} (h : c ≠ 45 ∧ (c < 48 ∨ 57 < c)) : c ∉ tl (tx i) := PyProof.Rows.int_text_free' c h i
/-- texts of whole numbers, put together by blanks and split again -/
theorem split_nums {is : List Int} (h : is ≠ []) : Txt.split (Txt.join (Str.ofString " ") (is.map tx)) (Str.ofString " ") = is.map tx :=
  split_join (s := 32) (S := []) rfl (by decide +kernel) (fun e => h (List.map_eq_nil_iff.mp e)) fun p hp => by
    obtain ⟨i, _, rfl⟩ := List.mem_map.mp hp
    exact tx_free ⟨by decide, by decide⟩
end Z

namespace Z
open PySem PySem.Spec PyProof.Rows L2 TL
open PySem.NumText (AllDigits digitsVal)
/-! ### which texts write whole numbers -/
theorem dv_snoc (g : List Nat) (c : Nat) : digitsVal (g ++ [c]) = digitsVal g * 10 + (c - 48) := by
  unfold digitsVal
  rw [List.foldl_append]; rfl
theorem canon : ∀ (k : Nat) (f : List Nat), f.length = k → f ≠ [] → AllDigits f → f.head? ≠ some 48 → numL (digitsVal f) = f ∧ 0 < digitsVal f ∧ digitsVal f < 10 ^ k
  | 0, f, hl, hn, _, _ => absurd (List.eq_nil_of_length_eq_zero hl) hn
  | k + 1, f, hl, hn, hd, hh => by
    rcases List.eq_nil_or_concat f with h | ⟨g, c, h⟩
    · exact absurd h hn
    · rw [List.concat_eq_append] at h
      subst h
      have hc := hd c (List.mem_append_right _ (List.mem_singleton.mpr rfl))
      have hg : g.length = k := by rw [List.length_append, List.length_singleton] at hl; omega
      by_cases g0 : g = []
      · subst g0
        have c0 : c ≠ 48 := fun e => hh (by rw [e]; rfl)
        rw [dv_snoc]
        have e : digitsVal ([] : List Nat) = 0 := rfl
        rw [e]
        have k0 : k = 0 := by rw [← hg]; rfl
        subst k0
        refine ⟨?_, by omega, by omega⟩
        rw [numL_lt (by omega)]
        show [48 + (0 * 10 + (c - 48))] = [c]
        congr 1; omega
      · have hgh : g.head? ≠ some 48 := fun e => hh (by cases g with | nil => exact absurd rfl g0 | cons a g => exact e)
        obtain ⟨h1, h2, h3⟩ := canon k g hg g0 (fun x hx => hd x (List.mem_append_left _ hx)) hgh
        rw [dv_snoc]
        refine ⟨?_, by omega, by rw [Nat.pow_succ]; omega⟩
        rw [numL_step (by omega), show (digitsVal g * 10 + (c - 48)) / 10 = digitsVal g by omega, show (digitsVal g * 10 + (c - 48)) % 10 = c - 48 by omega, h1]
        congr 2; omega
def digB (l : List Nat) : Bool := l.all fun c => decide (48 ≤ c ∧ c ≤ 57)
theorem digB_all {l : List Nat} (h : digB l = true) : AllDigits l := fun c hc => of_decide_eq_true (List.all_eq_true.mp h c hc)
theorem digB_of {l : List Nat} (h : AllDigits l) : digB l = true := List.all_eq_true.mpr fun c hc => decide_eq_true (h c hc)
/-- the figures of a word -/
def figL (l : List Nat) : List Nat := if l.head? = some 45 then l.tail else l
def numL? (l : List Nat) : Bool := !(figL l).isEmpty && (decide ((figL l).length ≤ 60) && (digB (figL l) && (decide ((figL l).head? ≠ some 48) || decide (l = [48]))))
def numB (t : Str) : Bool := numL? (tl t)
def cntB (t : Str) : Bool := numB t && decide ((tl t).head? ≠ some 45)
theorem numL_hd (n : Nat) : (numL n).head? = some 48 → n = 0 := fun h => by
  obtain ⟨c, r, e1, e2⟩ := numL_head n
  rw [e1] at h
  exact e2 (Option.some.inj h)
theorem numL_no45 (n : Nat) : (numL n).head? ≠ some 45 := fun h => by
  obtain ⟨c, r, e1, e2⟩ := numL_head n
  rw [e1] at h
  have := numL_digits n c (by rw [e1]; exact List.mem_cons_self)
  have : c = 45 := Option.some.inj h
  omega
theorem numL_0 : numL 0 = [48] := numL_lt (by decide)
theorem tx_tl {i : Int} : tl (tx i) = if i < 0 then 45 :: numL i.natAbs else numL i.natAbs := by
  by_cases h : i < 0
  · rw [if_pos h, tl_tx_neg h]
  · rw [if_neg h, tx_nn (by omega)]; rfl
theorem figL_tx (i : Int) : figL (tl (tx i)) = numL i.natAbs := by
  rw [tx_tl]
  unfold figL
  by_cases h : i < 0
  · rw [if_pos h]; exact if_pos rfl
  · rw [if_neg h, if_neg (numL_no45 _)]
theorem numB_tx {i : Int} (h : i.natAbs < 10 ^ 60) : numB (tx i) = true := by
  unfold numB numL?
  rw [figL_tx]
  have h1 := numL_len (n := i.natAbs) (k := 60) (by decide) h
  have h2 : (numL i.natAbs).isEmpty = false := by
    have := numL_ne i.natAbs
    cases q : numL i.natAbs with
    | nil => exact absurd q this
    | cons _ _ => rfl
  rw [h2, decide_eq_true h1, digB_of (numL_digits _)]
  by_cases h0 : i = 0
  · subst h0
    have e : tl (tx 0) = [48] := by rw [tx_tl, if_neg (by decide)]; exact numL_0
    rw [decide_eq_true e, Bool.or_true]; rfl
  · have e : (numL i.natAbs).head? ≠ some 48 := fun e => h0 (by have := numL_hd _ e; omega)
    simp only [e, ne_eq, not_false_eq_true, decide_true, Bool.true_or]; rfl
theorem numB_is {t : Str} (h : numB t = true) : ∃ i : Int, t = tx i ∧ i.natAbs < 10 ^ 60 := by
  unfold numB numL? at h
  simp only [Bool.and_eq_true, Bool.or_eq_true, Bool.not_eq_true', decide_eq_true_eq] at h
  obtain ⟨h1, h2, h3, h4⟩ := h
  have hne : figL (tl t) ≠ [] := fun e => by rw [e] at h1; cases h1
  by_cases hm : (tl t).head? = some 45
  · have ef : figL (tl t) = (tl t).tail := if_pos hm
    have et : tl t = 45 :: figL (tl t) := by
      rw [ef]
      cases q : tl t with
      | nil => rw [q] at hm; cases hm
      | cons c r => rw [q] at hm; cases hm; rfl
    have h5 : (figL (tl t)).head? ≠ some 48 := h4.elim id fun e => by rw [e] at hm; cases hm
    obtain ⟨c1, c2, c3⟩ := canon _ _ rfl hne (digB_all h3) h5
    refine ⟨-((digitsVal (figL (tl t)) : Nat) : Int), ext_tl ?_, ?_⟩
    · rw [tx_tl, if_pos (by omega), Int.natAbs_neg, Int.natAbs_natCast, c1]; exact et
    · rw [Int.natAbs_neg, Int.natAbs_natCast]; exact Nat.lt_of_lt_of_le c3 (Nat.pow_le_pow_right (by decide) h2)
  · have ef : figL (tl t) = tl t := if_neg hm
    rw [ef] at hne h2 h3 h4
    rcases h4 with h5 | h5
    · obtain ⟨c1, c2, c3⟩ := canon _ _ rfl hne (digB_all h3) h5
      refine ⟨((digitsVal (tl t) : Nat) : Int), ext_tl ?_, ?_⟩
      · rw [tx_tl, if_neg (by omega), Int.natAbs_natCast, c1]
      · rw [Int.natAbs_natCast]; exact Nat.lt_of_lt_of_le c3 (Nat.pow_le_pow_right (by decide) h2)
    · exact ⟨0, ext_tl (by rw [h5, tx_tl, if_neg (by decide)]; exact numL_0.symm), by decide⟩
theorem tx_inj {i j : Int} (hi : Sm 1900 i) (hj : Sm 1900 j) (h : tx i = tx j) : i = j := by
  have a := tx_int hi
  rw [h, tx_int hj] at a
  exact (Option.some.inj a).symm
theorem sm60 {i : Int} (h : i.natAbs < 10 ^ 60) : Sm 200 i := Nat.lt_of_lt_of_le h (by decide)
theorem cntB_tx {i : Int} (h : i.natAbs < 10 ^ 60) : cntB (tx i) = decide (0 ≤ i) := by
  unfold cntB
  rw [numB_tx h, Bool.true_and, tx_tl]
  by_cases c : i < 0
  · rw [if_pos c, decide_eq_false (by omega : ¬ 0 ≤ i)]; exact decide_eq_false (fun e => e rfl)
  · rw [if_neg c, decide_eq_true (by omega : 0 ≤ i)]; exact decide_eq_true (numL_no45 _)
/-! all([..]) -/
def allC (l : List D) (q : D → Prop) : Prop := oneD l fun d => match d with | .lst m => ∃ bs : List Bool, m = bs.map D.bl ∧ q (.bl (bs.all id)) | _ => False
theorem lc_all {K : PySem.W.Frag} : LndC K (rAll K) allC where
  mo := fun k h => h.imp fun d h => by
    split at h
    · obtain ⟨bs, h1, h2⟩ := h; exact ⟨bs, h1, k _ h2⟩
    · exact h.elim
  go := fun H G vs l q Q e r h k _ => by
    have hh := h.of; clear h; obtain ⟨d, rfl, h⟩ := hh
    have rr := one_rep r; clear r; obtain ⟨v, rfl, r⟩ := rr
    split at h
    · obtain ⟨bs, rfl, h⟩ := h
      cases r with
      | lst s r =>
        obtain rfl := r.bls
        exact ⟨_, bs, rfl, .inl (.inl (e _ _ s)), k _ _ h (.bl _)⟩
    · exact h.elim
theorem z_all {ω : Type} {X : Cx} {W : Wp ω} {pos p : Pos} {e : Expr} {ta : TAZ ω} (hm : X.mg "all" = none) (ha : PAZ X W [e] ta) (hc : X.calm = true := by rfl) (hg : Gl X "all" := by rfl) (he : starEach [e] X.env = (false, eval e X.env) :: starEach [] X.env := by rfl) (hpl : (backTo pos (starEach [] X.env)).any (·.1) = false := by rfl) : PEZ X W (.Call (.Name "all" p) [e] [] pos) (zB1 allC ta) :=
  z_bi (cr_all hc) lc_all hm (by decide +kernel) ha hg (by decide) (by decide) he hpl
theorem slen_app (x y : Str) : (x ++ y).length = x.length + y.length := by rw [TL.len_tl, TL.tl_append, List.length_append, ← TL.len_tl, ← TL.len_tl]
end Z

namespace Z
open PySem PySem.Spec PyProof.Rows L2
variable {ω : Type}
/-! ### our own list: an item out, an item in; truths told apart by `is` -/
theorem sq_in {n : Nat} {k : Int} (h0 : 0 ≤ k) (h1 : k < n) : seqIndex? k n = some k.toNat := by
  have e1 : ¬ k < 0 := by omega
  unfold seqIndex?
  simp [e1, h0, h1]
def zPopO (i : Nat) (te : TEZ ω) : TSZ ω := fun DE δ w => onOwn δ i fun l => te δ w (fun d w1 => intD d fun k => (0 ≤ k ∧ k < l.length ∧ l.length ≤ 100000) ∧ DE.nx (δ.set i (.own (l.eraseIdx k.toNat))) w1) (fun e w' => DE.ex e δ w')
def zInsO (i : Nat) (tk te : TEZ ω) : TSZ ω := fun DE δ w => onOwn δ i fun l => tk δ w (fun y w1 => te δ w1 (fun d w2 => intD y fun k => (0 ≤ k ∧ k ≤ l.length ∧ l.length < 100000) ∧ DE.nx (δ.set i (.own (l.take k.toNat ++ [d] ++ l.drop k.toNat))) w2) (fun e w' => DE.ex e δ w')) (fun e w' => DE.ex e δ w')
section
variable {X : Cx} {W : Wp ω} {pos pos' p : Pos} {x : Str} {e f : Expr} {te tk : TEZ ω}
theorem z_popO (i : Nat) {pm : Pos} (he : PEZ X W e te) (hN : X.N[i]? = some x := by rfl) (hv : Vis X.env.scope x := by first | exact Or.inl rfl | exact Or.inr (Or.inl rfl) | exact Or.inr (Or.inr rfl)) (hd : (x == ("__debug__" : Str)) = false := by decide)
    (hcd : (x == ("__classdict__" : Str)) = false := by decide) (hs : swapsWith (.Call (.Attribute (.Name x p) "pop" pm) [e] [] pos') none pos.line X.env = pure false := by rfl)
    (hpe : ∀ {t : TE}, PE X e t → PE X (.Call (.Attribute (.Name x p) "pop" pm) [e] [] pos') (tBM X.K "list" rPopAt (tVar i) (tCons t tNil)) := by
      intro t ht
      exact pe_bm PySem.F.plainAttrs_list PySem.F.slot_list_pop PySem.F.type_list_pop mt_popAt (pv _) (pa_cons ht pa_nil)) :
    PSZ X W (.Expr (.Call (.Attribute (.Name x p) "pop" pm) [e] [] pos') pos) (zPopO i te) := fun Z ex tk =>
  psI (ps_expr (hpe (he.run Z ex tk)) hs) fun DE σ H ⟨Dz, hex, EI, G, M, δ, w, a, h⟩ => by
  subst hex
  obtain ⟨l, hl, h⟩ := h.of
  obtain ⟨p, vs, h1, h2, h3, h4⟩ := a.own hl
  refine ⟨.ref p, h1, .inl ⟨rfl, _, SqL.of h2⟩, G, M, δ, w, a, he.mo (fun d w1 q1 v H1 G1 M1 o1 r1 => ?_) h⟩
  obtain ⟨k, rfl, ⟨k0, k1, k2⟩, q⟩ := q1.of
  cases r1
  have a1 := a.go o1
  have r4 := h4.up o1.nx.gg
  have kl : k.toNat < vs.length := by rw [r4.len]; omega
  have k3 : k < vs.length := by rw [r4.len]; omega
  have big : (100000 : Int) < 2 ^ 63 := by decide
  exact ⟨p, vs, k, k.toNat, vs[k.toNat], rfl, rfl, o1.nx.fr p _ h2 h3, by omega, by omega, sq_in k0 k3, List.getElem?_eq_getElem kl, EI.nx _ _ ⟨G1, M1, _, w1, a1.change hl h1 (RepL.erase _ r4), q⟩⟩
theorem z_insO (i : Nat) {pm : Pos} (hk : PEZ X W f tk) (he : PEZ X W e te) (hN : X.N[i]? = some x := by rfl) (hv : Vis X.env.scope x := by first | exact Or.inl rfl | exact Or.inr (Or.inl rfl) | exact Or.inr (Or.inr rfl)) (hd : (x == ("__debug__" : Str)) = false := by decide)
    (hcd : (x == ("__classdict__" : Str)) = false := by decide) (hs : swapsWith (.Call (.Attribute (.Name x p) "insert" pm) [f, e] [] pos') none pos.line X.env = pure false := by rfl)
    (hpe : ∀ {u t : TE}, PE X f u → PE X e t → PE X (.Call (.Attribute (.Name x p) "insert" pm) [f, e] [] pos') (tBM X.K "list" (fun x vs H Q => ∃ (l : Addr) (xs : List V) (i : Int) (y : V), x = .ref l ∧ vs = [.int i, y] ∧ H l = some (.lst xs) ∧ xs.length < sizeLine ∧ 0 ≤ i ∧ i < 2 ^ 63 ∧ Q .non (upd H l (.lst (xs.take i.toNat ++ [y] ++ xs.drop i.toNat)))) (tVar i) (tCons u (tCons t tNil))) := by
      intro u t hu ht
      exact pe_bm PySem.F.plainAttrs_list PySem.F.slot_list_insert PySem.F.type_list_insert mt_insert (pv _) (pa_cons hu (pa_cons ht pa_nil))) :
    PSZ X W (.Expr (.Call (.Attribute (.Name x p) "insert" pm) [f, e] [] pos') pos) (zInsO i tk te) := fun Z ex tk' =>
  psI (ps_expr (hpe (hk.run Z ex tk') (he.run Z ex tk')) hs) fun DE σ H ⟨Dz, hex, EI, G, M, δ, w, a, h⟩ => by
  subst hex
  obtain ⟨l, hl, h⟩ := h.of
  obtain ⟨p, vs, h1, h2, h3, h4⟩ := a.own hl
  refine ⟨.ref p, h1, .inl ⟨rfl, _, SqL.of h2⟩, G, M, δ, w, a, hk.mo (fun y w1 q1 v H1 G1 M1 o1 r1 => ⟨G1, M1, δ, w1, a.go o1, he.mo (fun d w2 q2 v2 H2 G2 M2 o2 r2 => ?_) q1⟩) h⟩
  obtain ⟨k, rfl, ⟨k0, k1, k2⟩, q⟩ := q2.of
  cases r1
  have o := o1.tr o2
  have a1 := a.go o
  have r4 := h4.up o.nx.gg
  have big : (100000 : Int) < 2 ^ 63 := by decide
  exact ⟨p, vs, k, v2, rfl, rfl, o.nx.fr p _ h2 h3, by rw [r4.len, sizeLine_eq]; omega, k0, by omega, EI.nx _ _ ⟨G2, M2, _, w2, a1.change hl h1 (((r4.take _).app (.cons r2 .nil)).app (r4.drop _)), q⟩⟩
end
/-! truths -/
def isBlD (neg : Bool) : OpD := fun x y q => match x, y with | .bl a, .bl b => q (.bl (if neg then !decide (a = b) else decide (a = b))) | _, _ => False
def isBD : OpD := fun x y q => match x, y with | .bl a, .bl b => q (.bl (a == b)) | _, _ => False
def notBD : OpD := fun x y q => match x, y with | .bl a, .bl b => q (.bl (!(a == b))) | _, _ => False
theorem l_isB {K : PySem.W.Frag} : Lnd K rIsB isBD where
  mo := fun {x y q q'} k h => by
    unfold isBD at h ⊢
    split at h
    · exact k _ h
    · exact h.elim
  go := fun H G x y dx dy q Q e rx ry h k _ => by
    unfold isBD at h
    split at h
    · rename_i a b
      cases rx; cases ry
      have z : decide (a = b) = (a == b) := by cases a <;> cases b <;> rfl
      exact ⟨_, _, rfl, rfl, by rw [z]; exact k _ _ h (.bl _)⟩
    · exact h.elim
theorem l_notB {K : PySem.W.Frag} : Lnd K rNotB notBD where
  mo := fun {x y q q'} k h => by
    unfold notBD at h ⊢
    split at h
    · exact k _ h
    · exact h.elim
  go := fun H G x y dx dy q Q e rx ry h k _ => by
    unfold notBD at h
    split at h
    · rename_i a b
      cases rx; cases ry
      have z : decide (a = b) = (a == b) := by cases a <;> cases b <;> rfl
      exact ⟨_, _, rfl, rfl, by rw [z]; exact k _ _ h (.bl _)⟩
    · exact h.elim
end Z

namespace Z
open PySem PySem.Spec PyProof.Rows L2
variable {ω : Type}

/-! ### enumerate of a list, of a tuple -/
theorem mk_enumB {v : Value} {o : Obj} {Hq : Heap → Prop} (B : Begins v o Hq) :
    Meets (Builtin.«enumerate.__new__» ⟨[.type "enumerate", v], []⟩) (fun _ R s => Hq s.heap ∧
      R (.ok (.ret (.ref (s.heap.push o).objs.size))) { s with heap := (s.heap.push o).push { cls := .type "enumerate", data := .fields #[.none, .bool false, .ref s.heap.objs.size, rawInt 0, .none, .none] } }) :=
  .of_wp fun prog w A R s h => by
    obtain ⟨hp, g, dd, tk, ow⟩ := s; obtain ⟨h1, h⟩ := h
    have e1 := sub_enumerate
    have it1 : ∀ {A2 : Around} {E2 : Value → Shared → Prop} {Q2 : Value → Shared → Prop}, Q2 (.ref hp.objs.size) ⟨hp.push o, g, dd, tk, ow⟩ → wpAny (model prog w) A2 (pyIter v) Q2 E2 ⟨hp, g, dd, tk, ow⟩ :=
      fun q2 => B.iter prog w _ _ ⟨hp, g, dd, tk, ow⟩ _ h1 q2
    wp_walk using it1
    refine wpAny_stack_any fun k => wpAny_pure ?_
    split
    · rename_i c _ _ _ _ _
      cases (c == Value.type "enumerate")
      all_goals
        wp_walk using it1
        exact ⟨_, rfl, h⟩
    · wp_walk using it1; exact ⟨_, rfl, h⟩
theorem call_enumB {prog : Program} {w : World} {A : Around} {E : Value → Shared → Prop} {s : Shared} {v : Value} {o : Obj} {Hq : Heap → Prop} {Q : Value → Shared → Prop} (B : Begins v o Hq) (h1 : Hq s.heap)
    (h : ∀ h', IsEnum h' (s.heap.objs.size + 1) s.heap.objs.size 0 .none → h'.get? s.heap.objs.size = some o → (∀ b o2, s.heap.get? b = some o2 → h'.get? b = some o2) → Q (.ref (s.heap.objs.size + 1)) { s with heap := h' }) :
    wpAny (model prog w) A (call (.type "enumerate") [v]) Q E s := by
  refine callType_new F.called_enumerate (by decide) (F.typeCall_enumerate_1 _) (F.newCall_enumerate_1 _) (fun obj => F.args_object_init_2 obj _) F.entry_enumerate_new (mk_enumB B) ⟨h1, ?_⟩
  have hz : (s.heap.push o).objs.size = s.heap.objs.size + 1 := Heap.size_push ..
  show _ ∧ _; rw [hz]
  have he : IsEnum ((s.heap.push o).push { cls := .type "enumerate", data := .fields #[.none, .bool false, .ref s.heap.objs.size, rawInt 0, .none, .none] }) (s.heap.objs.size + 1) s.heap.objs.size 0 .none := by
    have q := Heap.get?_push_size (s.heap.push o) (o := { cls := .type "enumerate", data := .fields #[.none, .bool false, .ref s.heap.objs.size, rawInt 0, .none, .none] }) rfl
    rw [hz] at q; exact q
  exact ⟨⟨_, he, rfl⟩, h _ he (Heap.get?_push_of_some _ (Heap.get?_push_size _ B.free)) fun b o2 x => Heap.get?_push_of_some _ (Heap.get?_push_of_some _ x)⟩
/-- the tuple at a, each item in a new pair with its number -/
def IteT (K : PySem.W.Frag) (a : Addr) : It :=
  ⟨fun i H => ∃ (xs : List V) (x : V), SqT K H a xs ∧ xs[i]? = some x, fun i H v H' => ∃ T x, v = .ref T ∧ H T = none ∧ H' = upd H T (.tup [.int (i : Nat), x]) ∧ ∀ xs, SqT K H a xs → xs[i]? = some x, fun i H => ∃ xs : List V, SqT K H a xs ∧ xs.length = i⟩
theorem turn_enumT {P : Program} {w : World} {K : PySem.W.Frag} {elts : List Expr} {kk : Nat} {tpos : Pos} (a e it : Addr) :
    Turn P w K (.Tuple elts kk tpos) (IteT K a) [e, it] e (fun i h => (∃ old, IsEnum h e it ((i : Nat) : Int) old) ∧ h.IsTupleIter it a i ∧ e ≠ it ∧ e ≠ a ∧ a ≠ it) where
  mem := List.mem_cons_self
  obj := fun i h st b hb => by
    obtain ⟨⟨old, he⟩, ⟨o, ho, hc, hd⟩, _⟩ := st
    rcases List.mem_cons.mp hb with z | hb
    · rw [z]; exact ⟨_, he, fun v q => nomatch q⟩
    · rw [List.mem_singleton.mp hb]; exact ⟨o, ho, fun v q => by rw [hd] at q; cases q⟩
  keep := fun i h h' st k => let ⟨⟨old, he⟩, hi, hne⟩ := st; ⟨⟨old, k e (by simp) _ he⟩, hi.at fun o q => k it (by simp) o q, hne⟩
  item := by
    intro X hP hw hK hc i pins s σ H E I hf st hg; subst hP hw hK
    obtain ⟨⟨old, he⟩, hit, n1, n2, n3⟩ := st
    obtain ⟨xs, x, hq, hx⟩ := hg
    obtain ⟨its, rv, p, hz⟩ := I.tuple hq
    obtain ⟨u, hu, ru⟩ := rv.get hx
    have le : e < s.heap.objs.size := Heap.lt_size he
    have li : it < s.heap.objs.size := by obtain ⟨_, q, _⟩ := hit; exact Heap.lt_size q
    have hlt : i < its.toArray.size := by have := (List.getElem?_eq_some_iff.mp hu).1; simpa using this
    have nm : e ∉ [it, a] := by simp [n1, n2]
    refine wpAny_pyNext_enum_itemC (Draws.tuple (A := X.A.in1) (I.ok.hd hc) it a n3 its.toArray) he ⟨hit, p⟩ hlt n1 nm fun x2 h' tk hx2 ho hst hT hsz hk => ?_
    obtain rfl : u = x2 := by
      have hx2 : its.toArray[i]? = some x2 := hx2
      rw [List.getElem?_toArray, hu] at hx2
      exact Option.some.inj hx2
    refine ⟨_, rfl, wpAny_letOwnedTupleGo_enum (s := { s with heap := h', toks := tk + 1 }) ho fun h2 he2 sb => ?_⟩
    have hT2 : h2.get? s.heap.objs.size = some { cls := .type "tuple", data := .seq #[.int i tk, u] } := (sb.2 _ (Nat.ne_of_gt le)).trans hT
    have nw : ObjOk X.prog X.w (upd H s.heap.objs.size (.tup [.int (i : Nat), x])) h2 s.heap.objs.size (.tup [.int (i : Nat), x]) := ⟨by show 2 ≤ sizeLine; decide, [.int i tk, u], .cons ⟨_, rfl⟩ (.cons ru .nil), ⟨_, hT2, rfl, _, rfl⟩⟩
    have I1 : Inv X pins σ (upd H s.heap.objs.size (.tup [.int (i : Nat), x])) { s with heap := h2, toks := tk + 1 } :=
      I.turnedNew (ch := [e, it]) (fun b ob hb q => (sb.2 b (fun z => hb (by simp [z]))).trans (hk b ob (fun z => hb (by simp [z])) (fun z => hb (by simp [z])) q)) hf (Nat.le_refl _) nw
    refine ⟨.ref s.heap.objs.size, _, I1, rfl, ⟨_, x, rfl, I.hok.fresh (Nat.le_refl _), rfl, fun ys hy => by rw [I.tuple_inj hy hq]; exact hx⟩, ⟨⟨u, ?_⟩, hst.1.at fun o q => (sb.2 it (Ne.symm n1)).trans q, n1, n2, n3⟩, fun b hb => ?_⟩
    · rw [show ((i + 1 : Nat) : Int) = (i : Int) + 1 by omega]; exact he2
    · have hb' : b < s.heap.objs.size := by
        rcases List.mem_cons.mp hb with z | hb
        · rw [z]; exact le
        · rw [List.mem_singleton.mp hb]; exact li
      rw [upd_ne (Nat.ne_of_lt hb')]; exact (hf b hb).1
  done := by
    intro X hP hw hK hc i pins s σ H E I hf st hg; subst hP hw hK
    obtain ⟨⟨old, he⟩, hit, n1, n2, n3⟩ := st
    obtain ⟨xs, hq, hx⟩ := hg
    obtain ⟨its, rv, p, hz⟩ := I.tuple hq
    obtain ⟨f0, f1, f2, f3, f4, f5⟩ := hf it (by simp)
    have hl : its.toArray.size = i := by have := rv.length; simp; omega
    refine wpAny_pyNext_enum_endD (Draws.tuple (A := X.A.in1) (I.ok.hd hc) it a n3 its.toArray) he ⟨?_, p⟩ fun h' eb => ⟨rfl, I.turned (t' := s.toks) (fun b o hb q => eb b o hb q) f0 f1 f3 f4 f5⟩
    rw [hl]; exact hit
  self := fun A i s Q E st h => let ⟨⟨_, he⟩, _⟩ := st; wpAny_pyIter_enum he h
def iEnumA (K : PySem.W.Frag) (ta : TA) : TI := fun σ H R => ta σ H fun vs H1 => ∃ a xs, vs = [.ref a] ∧ ((SqL K H1 a xs ∧ R (Ite K a) H1) ∨ (SqT K H1 a xs ∧ R (IteT K a) H1))
theorem pi_enumA {X : Cx} {e : Expr} {ta : TA} {p pos tpos : Pos} {elts : List Expr} {kk : Nat} (hg : Gl X "enumerate") (hm : X.mg "enumerate" = none) (ha : PA X [e] ta) (hs : starEach [e] X.env = [(false, eval e X.env)] := by rfl) :
    PI X (.Tuple elts kk tpos) (.Call (.Name "enumerate" p) [e] [] pos) (iEnumA X.K ta) := by
  refine ⟨fun pins s σ H R I h => ?_⟩
  refine Call_ (ld_blt I hg hm boot_enumerate (PyProof.Rows.callWith_type1 (thn (ha.run pos pins s σ H _ I h) fun us s1 ⟨vs, H1, I1, r1, a, xs, ex, q1⟩ => ?_) hs rfl)); subst ex
  cases r1 with
  | cons r rr =>
    cases rr; cases r
    have fr : ∀ b ∈ [s1.heap.objs.size + 1, s1.heap.objs.size], FpOk X pins H1 b := fun b hb => by
      have hle : s1.heap.objs.size ≤ b := by
        rcases List.mem_cons.mp hb with z | hb
        · rw [z]; exact Nat.le_add_right _ _
        · rw [List.mem_singleton.mp hb]; exact Nat.le_refl _
      exact I1.fpOk hle (I1.hok.fresh hle)
    rcases q1 with ⟨hq, q⟩ | ⟨hq, q⟩
    · obtain ⟨its, rv, p', hz⟩ := I1.list hq
      refine call_enumerate_list p'.isList fun h' he hit hsz hk => wpAny_pyIter_enum he ?_
      exact ⟨s1.heap.objs.size + 1, [s1.heap.objs.size + 1, s1.heap.objs.size], _, _, H1, rfl, I1.kept (t' := s1.toks) hk, turn_enum a (s1.heap.objs.size + 1) s1.heap.objs.size, ⟨⟨.none, he⟩, hit, Nat.succ_ne_self _⟩, fr, q⟩
    · obtain ⟨its, rv, p', hz⟩ := I1.tuple hq
      obtain ⟨o1, ho1, -⟩ := id p'
      have hl : a < s1.heap.objs.size := Heap.lt_size ho1
      refine call_enumB (begins_tuple a its.toArray) p' fun h' he hit hk => wpAny_pyIter_enum he ?_
      exact ⟨s1.heap.objs.size + 1, [s1.heap.objs.size + 1, s1.heap.objs.size], _, _, H1, rfl, I1.kept (t' := s1.toks) hk, turn_enumT a (s1.heap.objs.size + 1) s1.heap.objs.size, ⟨⟨.none, he⟩, ⟨_, hit, rfl, rfl⟩, Nat.succ_ne_self _, Nat.ne_of_gt (Nat.lt_succ_of_lt hl), Nat.ne_of_lt hl⟩, fr, q⟩
theorem walk_enumT {K : PySem.W.Frag} {a : Addr} {xs : List V} : Walk (IteT K a) xs.length (fun H => SqT K H a xs) (YPair (fun i => some (.int (i : Nat))) (fun i => xs[i]?)) := by
  refine ⟨fun i _ hi q => ⟨xs, xs[i], q, by simp [hi]⟩, fun _ q => ⟨xs, q, rfl⟩, fun i H v H' _ q y => ?_⟩
  obtain ⟨T, x, g1, g2, g3, g4⟩ := y
  exact ⟨T, .int (i : Nat), x, g1, g2, g3, rfl, g4 xs q⟩
def enumL (l : List D) : List D := l.mapIdx fun i d => .tup [.int (i : Nat), d]
theorem enumL_at {l : List D} {i : Nat} {d : D} (h : l[i]? = some d) : (enumL l)[i]? = some (.tup [.int (i : Nat), d]) := by
  unfold enumL; rw [List.getElem?_mapIdx, h]; rfl
theorem enumL_of {l : List D} {i : Nat} {d : D} (h : (enumL l)[i]? = some d) : ∃ x, l[i]? = some x ∧ d = .tup [.int (i : Nat), x] := by
  unfold enumL at h; rw [List.getElem?_mapIdx] at h
  obtain ⟨x, hx, rfl⟩ := Option.map_eq_some_iff.mp h
  exact ⟨x, hx, rfl⟩
theorem enumL_len (l : List D) : (enumL l).length = l.length := by unfold enumL; rw [List.length_mapIdx]
def zEnum (ta : TAZ ω) : TAZ ω := fun δ w Q E => ta δ w (fun l w1 => match l with | [.lst x] => Q (enumL x) w1 | [.arr x] => Q (enumL x) w1 | [.tup x] => Q (enumL x) w1 | _ => False) E
theorem wk_enum {K : PySem.W.Frag} {G : Hp} {J : It} {xs : List V} {l : List D} {Gd : Hp → Prop} (hw : Walk J xs.length Gd (YPair (fun i => some (.int (i : Nat))) (fun i => xs[i]?))) (gd : ∀ H, Ext G H → Gd H) (r : RepL K G xs l) : WkZ K G J (enumL l) := by
  have hl : (enumL l).length = xs.length := by rw [enumL_len, r.len]
  refine ⟨Gd, YPair (fun i => some (.int (i : Nat))) (fun i => xs[i]?), by rw [hl]; exact hw, gd, ?_⟩
  rintro i H x H' hi ⟨T, u, v, e1, e2, e3, e4, e5⟩
  refine .inr ?_
  obtain ⟨d1, f1, r1⟩ := r.getV e5
  cases e4
  exact ⟨T, [.int (i : Nat), v], [.int (i : Nat), d1], e1, e2, e3, .cons (.int _) (.cons r1 .nil), enumL_at f1⟩
theorem i_enum {X : Cx} {W : Wp ω} {e : Expr} {ta : TAZ ω} {p pos tpos : Pos} {elts : List Expr} {kk : Nat} (hm : X.mg "enumerate" = none) (ha : PAZ X W [e] ta) (hg : Gl X "enumerate" := by rfl) (hs : starEach [e] X.env = [(false, eval e X.env)] := by rfl) :
    PIZ X W (.Tuple elts kk tpos) (.Call (.Name "enumerate" p) [e] [] pos) (zEnum ta) := by
  refine ⟨fun {δ w Q Q' E} k h => ha.mo (fun l w1 h1 => ?_) h, fun Z ex tk => piI (pi_enumA hg hm (ha.run Z ex tk) hs) fun σ H R ⟨G, M, δ, w, a, h⟩ => ⟨G, M, δ, w, a, ha.mo (fun l w1 h1 vs H1 G1 M1 o1 r1 => ?_) h⟩⟩
  · split at h1
    · exact k _ _ h1
    · exact k _ _ h1
    · exact k _ _ h1
    · exact h1.elim
  · split at h1
    · obtain ⟨v, rfl, rv⟩ := one_rep r1
      cases rv with
      | @lst q xs _ s1 q1 => exact ⟨q, xs, rfl, .inl ⟨.inl (.inl (o1.pt.gh _ _ s1)), h1 H1 G1 M1 _ o1 (wk_enum walk_enum (fun H2 e2 => .inl (.inl (e2 _ _ s1))) q1)⟩⟩
    · obtain ⟨v, rfl, rv⟩ := one_rep r1
      cases rv with
      | @arr q xs _ s1 q1 => exact ⟨q, xs, rfl, .inl ⟨sqLE o1.pt.gh s1, h1 H1 G1 M1 _ o1 (wk_enum walk_enum (fun H2 e2 => sqLE e2 s1) q1)⟩⟩
    · obtain ⟨v, rfl, rv⟩ := one_rep r1
      cases rv with
      | @tup q xs _ s1 q1 => exact ⟨q, xs, rfl, .inr ⟨sqTE o1.pt.gh s1, h1 H1 G1 M1 _ o1 (wk_enum walk_enumT (fun H2 e2 => sqTE e2 s1) q1)⟩⟩
    · exact h1.elim
end Z

namespace Z
open PySem PySem.Spec PyProof.Rows L2
/-! ### new lists that the world holds from now on -/
def zNewW (tf : TAZ Mst) : TEZ Mst := fun δ w Q E => tf δ w (fun l w1 => ∀ p, wGet w1 p = none → Q (.ref p) ((p, l) :: w1)) E
def zTupW (ta : TEZ Mst) : TEZ Mst := fun δ w Q E => ta δ w (fun x w1 => onRef x fun a => ∃ l, wGet w1 a = some l ∧ Q (.tup l) w1) E
section
variable {X : Cx} {ec : Nat → Addr} {pos p : Pos} {a e : Expr} {ta : TEZ Mst} {tf : TAZ Mst}
theorem z_newW (h : PFZ X (WL X.K ec) e tf) : PEZ X (WL X.K ec) e (zNewW tf) := ⟨fun k q => h.mo (fun _ _ q1 p hp => k _ _ (q1 p hp)) q, fun Z ex tk => peI (h.run Z ex tk) fun σ H Q ⟨G, M, δ, w, s, q⟩ =>
  ⟨G, M, δ, w, s, h.mo (fun l w1 q1 p vs H1 G1 M1 o1 r1 n1 => by
    obtain ⟨o2, hw⟩ := newW (m := l) o1 n1.1 n1.2.1 n1.2.2.1 n1.2.2.2 r1
    exact q1 p hw (.ref p) H1 G1 _ o2 (.ref p)) q⟩⟩
theorem z_tupW (hm : X.mg "tuple" = none) (ha : PEZ X (WL X.K ec) a ta) (hg : Gl X "tuple" := by rfl) (he : starEach [a] X.env = (false, eval a X.env) :: starEach [] X.env := by rfl) (hpl : (backTo pos (starEach [] X.env)).any (·.1) = false := by rfl) : PEZ X (WL X.K ec) (.Call (.Name "tuple" p) [a] [] pos) (zTupW ta) :=
  ⟨fun k h => ha.mo (fun _ _ h1 => h1.imp fun q ⟨l, g1, g2⟩ => ⟨l, g1, k _ _ g2⟩) h, fun Z ex tk => peI (pe_callTy call_tuple_of hg hm (by decide +kernel) (pa_cons (ha.run Z ex tk) pa_nil he) (by decide) (by decide) he hpl) fun σ H Q ⟨G, M, δ, w, s, h⟩ =>
    ⟨G, M, δ, w, s, ha.mo (fun d w1 h1 v H1 G1 M1 o1 r1 => by
      obtain ⟨q, rfl, l, g1, g2⟩ := h1.of
      cases r1
      obtain ⟨vs, m1, m2⟩ := o1.pt.wd.2 q l g1
      exact ⟨q, vs, rfl, .inl ⟨.inl (.inl (o1.pt.mh _ _ m1)), fun p' hp => g2 (.ref p') _ _ _ (o1.new (o := .tup vs) hp) (.tup (SqT.of upd_same) (m2.up (o1.ext hp)))⟩⟩) h⟩⟩
end
end Z

namespace Z
open PySem PySem.Spec PyProof.Rows L2
/-! ### a list of the world: compared, made longer, an item out, gone along with numbers -/
def atRef (δ : List Sl) (i : Nat) (f : Addr → Prop) : Prop := match δ[i]? with | some (.val (.ref p)) => f p | _ => False
theorem atRef.of {δ : List Sl} {i : Nat} {f : Addr → Prop} (h : atRef δ i f) : ∃ p, δ[i]? = some (.val (.ref p)) ∧ f p := by
  unfold atRef at h
  split at h
  · exact ⟨_, by assumption, h⟩
  · exact h.elim
theorem atRef.to {δ : List Sl} {i : Nat} {f : Addr → Prop} {p : Addr} (e : δ[i]? = some (.val (.ref p))) (h : f p) : atRef δ i f := by unfold atRef; rw [e]; exact h
theorem atRef.imp {δ : List Sl} {i : Nat} {f g : Addr → Prop} (k : ∀ l, f l → g l) (h : atRef δ i f) : atRef δ i g := let ⟨_, e, q⟩ := h.of; .to e (k _ q)
theorem goW {K : PySem.W.Frag} {ec : Nat → Addr} {H G M : Hp} {w : Mst} {a : Addr} {l m : List D} {us : List V} (s : Pt (WL K ec) H G M w) (h : wGet w a = some l) (r : RepL K G us m) :
    Go (WL K ec) H G M (upd H a (.lst us)) G (upd M a (.lst us)) (wSet w a m) := by
  have wd : okW K w G M := s.wd
  obtain ⟨vs, h1, h2⟩ := wd.2 a l h
  have hG : G a = none := by
    cases q : G a with
    | none => rfl
    | some x => rw [s.dj a x q] at h1; cases h1
  have hM : ∀ p x, upd M a (.lst us) p = some x → M p ≠ none := fun p x e z => by
    by_cases k : p = a
    · rw [k, h1] at z; cases z
    · rw [upd_ne k, z] at e; cases e
  refine ⟨⟨fun p x e => ?_, fun p x e => ?_, fun p x e => ?_, ⟨fun p o e => ?_, fun p l' e => ?_⟩⟩, ⟨.rfl', fun p x e e' => ?_, fun p x e e' => (by rw [e] at e'; cases e'), fun p x e e' => absurd e' (hM p x e), fun p x e => ?_⟩⟩
  · rw [upd_ne (ne_of_none e hG)]; exact s.gh p x e
  · by_cases k : p = a
    · subst k; rw [upd_same] at e ⊢; exact e
    · rw [upd_ne k] at e ⊢; exact s.mh p x e
  · rw [upd_ne (ne_of_none e hG)]; exact s.dj p x e
  · rw [wGet_set]
    by_cases k : p = a
    · rw [if_pos k, h]; exact ⟨_, rfl⟩
    · rw [if_neg k]; rw [upd_ne k] at e; exact wd.1 p o e
  · rw [wGet_set] at e
    by_cases k : p = a
    · subst k
      rw [if_pos rfl, h] at e
      cases e
      exact ⟨us, upd_same, r⟩
    · rw [if_neg k] at e
      obtain ⟨v2, g1, g2⟩ := wd.2 p l' e
      exact ⟨v2, by rw [upd_ne k]; exact g1, g2⟩
  · rw [upd_ne (fun k => by rw [k, h1] at e'; cases e')]; exact e
  · by_cases k : p = a
    · subst k; exact ⟨_, upd_same⟩
    · rw [upd_ne k]; exact ⟨x, e⟩
theorem inMW {K : PySem.W.Frag} {ec : Nat → Addr} {H G M : Hp} {w : Mst} {p : Addr} {l : List D} (o : Pt (WL K ec) H G M w) (h : wGet w p = some l) : ∃ vs, M p = some (.lst vs) ∧ G p = none ∧ RepL K G vs l := by
  obtain ⟨vs, m1, m2⟩ := (show okW K w G M from o.wd).2 p l h
  refine ⟨vs, m1, ?_, m2⟩
  cases q : G p with
  | none => rfl
  | some y => have := o.dj p y q; rw [m1] at this; cases this
def zCmpW (r : OpD) (ta tb : TEZ Mst) : TEZ Mst := fun δ w Q E => ta δ w (fun x w1 => onRef x fun p => ∃ l, wGet w1 p = some l ∧ tb δ w1 (fun y w2 => wGet w2 p = some l ∧ r (.lst l) y fun z => ∃ b, z = .bl b ∧ Q (.bl b) w2) E) E
def zAppW (i : Nat) (te : TEZ Mst) : TSZ Mst := fun DE δ w => atRef δ i fun p => (∃ l, wGet w p = some l) ∧ te δ w (fun d w1 => ∃ l, wGet w1 p = some l ∧ l.length < 100000 ∧ DE.nx δ (wSet w1 p (l ++ [d]))) (fun e w' => DE.ex e δ w')
def zPopW (i : Nat) (te : TEZ Mst) : TEZ Mst := fun δ w Q E => atRef δ i fun p => (∃ l, wGet w p = some l) ∧ te δ w (fun d w1 => intD d fun k => ∃ l y, wGet w1 p = some l ∧ (0 ≤ k ∧ k < l.length ∧ l.length ≤ 100000) ∧ l[k.toNat]? = some y ∧ Q y (wSet w1 p (l.eraseIdx k.toNat))) E
def zForEW (ta : TEZ Mst) (gz : TGZ) (t : TSZ Mst) : TSZ Mst := fun D δ w => ta δ w (fun x w1 => onRef x fun p => ∃ l, wGet w1 p = some l ∧ ∃ I : Nat → List Sl → Mst → Prop, I 0 δ w1 ∧ (∀ i δ' w', I i δ' w' → wGet w' p = some l) ∧ (∀ i d δ' w', l[i]? = some d → I i δ' w' → gz (.tup [.int (i : Nat), d]) δ' fun δ2 => t { D with nx := I (i + 1), ct := I (i + 1), bk := D.nx } δ2 w') ∧ ∀ δ' w', I l.length δ' w' → D.nx δ' w') (fun e w' => D.ex e δ w')
section
variable {X : Cx} {ec : Nat → Addr} {pos pos' p : Pos} {x : Str} {a b e : Expr} {ta tb te : TEZ Mst} {rv : R2} {r : OpD}
theorem cmpW_mo (hl : Lnd X.K rv r) (ha : PEZ X (WL X.K ec) a ta) (hb : PEZ X (WL X.K ec) b tb) : Mo (zCmpW r ta tb) := fun k h => ha.mo (fun _ _ h1 => h1.imp fun p ⟨l, g1, g2⟩ => ⟨l, g1, hb.mo (fun _ _ ⟨g3, g4⟩ => ⟨g3, hl.mo (fun d ⟨b, e, q⟩ => ⟨b, e, k _ _ q⟩) g4⟩) g2⟩) h
theorem cmpW_core (hl : Lnd X.K rv r) (ha : PEZ X (WL X.K ec) a ta) (hb : PEZ X (WL X.K ec) b tb) {Z : Zx} {ex : Nat → List Sl → Mst → Prop} {σ : L2.St} {H : Hp} {Q : VK} (h : liE X.K (WL X.K ec) Z ex (zCmpW r ta tb) σ H Q) : tOp rv (liE X.K (WL X.K ec) Z ex ta) (liE X.K (WL X.K ec) Z ex tb) σ H Q := by
  obtain ⟨G, M, δ, w, a0, h⟩ := h
  exact ⟨G, M, δ, w, a0, ha.mo (fun d w1 h1 v H1 G1 M1 o1 r1 => by
      obtain ⟨p, rfl, l, g1, h1⟩ := h1.of
      cases r1
      exact ⟨G1, M1, δ, w1, a0.go o1, hb.mo (fun d2 w2 h2 v2 H2 G2 M2 o2 r2 => by
        obtain ⟨g2, h2⟩ := h2
        obtain ⟨vs, m1, hp, m2⟩ := inMW o2.pt g2
        have up : Ext G2 (upd G2 p (.lst vs)) := Ext.new hp
        refine hl.go H2 (upd G2 p (.lst vs)) (.ref p) v2 (.lst l) d2 _ Q (fun q y e => ?_) (.lst upd_same (m2.up up)) (r2.up up) h2 (fun d3 v3 ⟨b, e, q3⟩ r3 => ?_) (fun l vs p ⟨b, e, _⟩ _ _ => nomatch e)
        · by_cases k : q = p
          · subst k; rw [upd_same] at e; cases e; exact o2.pt.mh _ _ m1
          · rw [upd_ne k] at e; exact o2.pt.gh q y e
        · subst e; cases r3; exact q3 (.bl b) H2 G2 M2 (o1.tr o2) (.bl b)) h1⟩) h⟩
theorem z_cmpW {op : CmpOp} (ho : OpR X (compareOp op) rv) (hl : Lnd X.K rv r) (ha : PEZ X (WL X.K ec) a ta) (hb : PEZ X (WL X.K ec) b tb) (hm : behindInMarks op b = false := by first | exact nomark _ | rfl) : PEZ X (WL X.K ec) (.Compare a [op] [b] pos) (zCmpW r ta tb) :=
  ⟨cmpW_mo hl ha hb, fun Z ex tk => peI (pe_cmpR ho (ha.run Z ex tk) (hb.run Z ex tk) hm) fun σ H Q h => cmpW_core hl ha hb h⟩
theorem z_tcmpW {op : CmpOp} (ho : OpR X (compareOp op) rv) (hl : Lnd X.K rv r) (ha : PEZ X (WL X.K ec) a ta) (hb : PEZ X (WL X.K ec) b tb) (hm : behindInMarks op b = false := by first | exact nomark _ | rfl) : PTZ X (WL X.K ec) (.Compare a [op] [b] pos) (zB (zCmpW r ta tb)) :=
  ⟨zB_mo (te := zCmpW r ta tb) (cmpW_mo hl ha hb), fun Z ex tk => ptI (pt_cmpR ho (ha.run Z ex tk) (hb.run Z ex tk) hm) fun σ H Q h => cmpW_core hl ha hb (zB_core (te := zCmpW r ta tb) (cmpW_mo hl ha hb) h)⟩
theorem z_appW (i : Nat) {pm : Pos} (he : PEZ X (WL X.K ec) e te) (hN : X.N[i]? = some x := by rfl) (hv : Vis X.env.scope x := by first | exact Or.inl rfl | exact Or.inr (Or.inl rfl) | exact Or.inr (Or.inr rfl)) (hd : (x == ("__debug__" : Str)) = false := by decide)
    (hcd : (x == ("__classdict__" : Str)) = false := by decide) (hs : swapsWith (.Call (.Attribute (.Name x p) "append" pm) [e] [] pos') none pos.line X.env = pure false := by rfl)
    (hpe : ∀ {t : TE}, PE X e t → PE X (.Call (.Attribute (.Name x p) "append" pm) [e] [] pos') (tBM X.K "list" rAppend (tVar i) (tCons t tNil)) := by
      intro t ht
      exact pe_bm PySem.F.plainAttrs_list PySem.F.slot_list_append PySem.F.type_list_append mt_append (pv _) (pa_cons ht pa_nil)) :
    PSZ X (WL X.K ec) (.Expr (.Call (.Attribute (.Name x p) "append" pm) [e] [] pos') pos) (zAppW i te) := fun Z ex tk =>
  psI (ps_expr (hpe (he.run Z ex tk)) hs) fun DE σ H ⟨Dz, hex, EI, G, M, δ, w, a, h⟩ => by
  subst hex
  obtain ⟨p, hl, ⟨l0, hl0⟩, h⟩ := h.of
  obtain ⟨v0, h1, hr⟩ := a.sl i _ hl
  cases hr
  obtain ⟨vs0, m0, g0, -⟩ := inMW a.pt hl0
  refine ⟨.ref p, h1, .inl ⟨rfl, _, SqL.of (a.pt.mh _ _ m0)⟩, G, M, δ, w, a, he.mo (fun d w1 q1 v H1 G1 M1 o1 r1 => ?_) h⟩
  obtain ⟨l, hl1, hn, q⟩ := q1
  obtain ⟨vs, m1, g1, m2⟩ := inMW o1.pt hl1
  exact ⟨p, vs, v, rfl, rfl, o1.pt.mh _ _ m1, by rw [m2.len, sizeLine_eq]; omega, EI.nx _ _ ⟨G1, _, δ, _, chgW (a.go o1) hl1 (m2.app (.cons r1 .nil)), q⟩⟩
theorem z_popW (i : Nat) {pm : Pos} (he : PEZ X (WL X.K ec) e te) (hN : X.N[i]? = some x := by rfl) (hv : Vis X.env.scope x := by first | exact Or.inl rfl | exact Or.inr (Or.inl rfl) | exact Or.inr (Or.inr rfl)) (hd : (x == ("__debug__" : Str)) = false := by decide)
    (hcd : (x == ("__classdict__" : Str)) = false := by decide)
    (hpe : ∀ {t : TE}, PE X e t → PE X (.Call (.Attribute (.Name x p) "pop" pm) [e] [] pos') (tBM X.K "list" rPopAt (tVar i) (tCons t tNil)) := by
      intro t ht
      exact pe_bm PySem.F.plainAttrs_list PySem.F.slot_list_pop PySem.F.type_list_pop mt_popAt (pv _) (pa_cons ht pa_nil)) :
    PEZ X (WL X.K ec) (.Call (.Attribute (.Name x p) "pop" pm) [e] [] pos') (zPopW i te) :=
  ⟨fun k h => h.imp fun p ⟨h0, h⟩ => ⟨h0, he.mo (fun d w1 h1 => h1.imp fun j ⟨l, y, g1, g2, g3, g4⟩ => ⟨l, y, g1, g2, g3, k _ _ g4⟩) h⟩, fun Z ex tk => peI (hpe (he.run Z ex tk)) fun σ H Q ⟨G, M, δ, w, a, h⟩ => by
  obtain ⟨p, hl, ⟨l0, hl0⟩, h⟩ := h.of
  obtain ⟨v0, h1, hr⟩ := a.sl i _ hl
  cases hr
  obtain ⟨vs0, m0, g0, -⟩ := inMW a.pt hl0
  refine ⟨.ref p, h1, .inl ⟨rfl, _, SqL.of (a.pt.mh _ _ m0)⟩, G, M, δ, w, a, he.mo (fun d w1 q1 v H1 G1 M1 o1 r1 => ?_) h⟩
  obtain ⟨k, rfl, l, y, g1, ⟨k0, k1, k2⟩, g3, q⟩ := q1.of
  cases r1
  obtain ⟨vs, m1, gp, m2⟩ := inMW o1.pt g1
  obtain ⟨u, u1, u2⟩ := m2.get g3
  have k3 : k < vs.length := by rw [m2.len]; omega
  have big : (100000 : Int) < 2 ^ 63 := by decide
  exact ⟨p, vs, k, k.toNat, u, rfl, rfl, o1.pt.mh _ _ m1, by omega, by omega, sq_in k0 k3, u1, q u _ _ _ (o1.tr (goW o1.pt g1 (RepL.erase _ m2))) u2⟩⟩
theorem walk_enumW {K : PySem.W.Frag} {a : Addr} {n : Nat} : Walk (Ite K a) n (fun H => ∃ xs : List V, H a = some (.lst xs) ∧ xs.length = n) (fun i H v H' => ∃ T x, v = .ref T ∧ H T = none ∧ H' = upd H T (.tup [.int (i : Nat), x]) ∧ ∀ xs : List V, H a = some (.lst xs) → xs[i]? = some x) :=
  ⟨fun i _ hi ⟨xs, q, e⟩ => ⟨xs, xs[i], SqL.of q, by simp [show i < xs.length by omega]⟩, fun _ ⟨xs, q, e⟩ => ⟨xs, SqL.of q, Nat.le_of_eq e⟩, fun i H v H' _ _ ⟨T, x, h1, h2, h3, h4⟩ => ⟨T, x, h1, h2, h3, fun xs hx => h4 xs (SqL.of hx)⟩⟩
theorem z_forEW {pc tpos : Pos} {elts : List Expr} {kk : Nat} {g : TG} {gz : TGZ} {body : List Stmt} {t : TSZ Mst} (hm : X.mg "enumerate" = none) (ha : PEZ X (WL X.K ec) e ta) (hg : PGZ X (.Tuple elts kk tpos) g gz) (hb : PBZ X (WL X.K ec) body t) (hgl : Gl X "enumerate" := by rfl) (hst : starEach [e] X.env = [(false, eval e X.env)] := by rfl)
    (hp : PassesOwn (model X.prog X.w) X.A X.env X.xe := by first | exact PassesOwn.leaving | exact PassesOwn.looking | exact PassesOwn.never | assumption) (hc : X.calm = true := by rfl)
    (hs : ∀ x, foldedSetIterable (.Call (.Name "enumerate" p) [e] [] pc) X.env x = pure x := by intro _; rfl) : PSZ X (WL X.K ec) (.For (.Tuple elts kk tpos) (.Call (.Name "enumerate" p) [e] [] pc) body [] pos) (zForEW ta gz t) := fun Z ex tk => psI (ps_for hp hc (pi_enumA hgl hm (pa_cons (ha.run Z ex tk) pa_nil hst) hst) hg.pg (zB_run hb Z ex tk) hs) fun DE σ H ⟨Dz, hex, EI, G, M, δ, w, a, h⟩ => by
  subst hex
  refine ⟨G, M, δ, w, a, ha.mo (fun d w1 h1 v H1 G1 M1 o1 r1 => ?_) h⟩
  obtain ⟨p, rfl, l, g0, I, i0, iw, is, id⟩ := h1.of
  cases r1
  have a1 := a.go o1
  obtain ⟨vs0, m0, -, r0⟩ := inMW o1.pt g0
  refine ⟨p, vs0, rfl, .inl ⟨SqL.of (o1.pt.mh _ _ m0), for_it (walk_enumW (n := l.length)) (fun i => LS X.K (WL X.K ec) ⟨Z.H0, Z.G0, Z.M0, G1⟩ (I i)) ⟨G1, M1, δ, w1, a1.more, i0⟩ ?_ ?_ ?_⟩⟩
  · rintro i σ2 H2 _ ⟨G2, M2, δ2, w2, a2, q2⟩
    obtain ⟨vs, m1, -, r1⟩ := inMW a2.pt (iw i δ2 w2 q2)
    exact ⟨vs, a2.pt.mh _ _ m1, r1.len⟩
  · rintro i x σ2 H2 H3 hi' ⟨G2, M2, δ2, w2, a2, q2⟩ ⟨T, u, rfl, hT, rfl, hu⟩
    obtain ⟨vs, m1, -, r1⟩ := inMW a2.pt (iw i δ2 w2 q2)
    obtain ⟨d, hd, rd⟩ := r1.getV (hu vs (a2.pt.mh _ _ m1))
    have gg : Ext G2 (upd G2 T (.tup [.int (i : Nat), u])) := Ext.new (a2.pt.gh.none' hT)
    refine hg.gg.go (WL X.K ec) _ σ2 _ (upd G2 T (.tup [.int (i : Nat), u])) M2 δ2 w2 (.ref T) (.tup [.int (i : Nat), d]) _ _ (a2.new hT) (.tup (SqT.of upd_same) (.cons (.int _) (.cons (rd.up gg) .nil))) (is i d δ2 w2 hd q2) fun σ3 δ3 q3 a3 => ?_
    exact ⟨G1, a1.st, { Dz with nx := I (i + 1), ct := I (i + 1), bk := Dz.nx }, rfl, EI.loop a1.st (fun _ _ h => h), _, M2, δ3, w2, a3, q3⟩
  · rintro σ2 H2 ⟨G2, M2, δ2, w2, a2, q2⟩
    exact EI.nx _ _ ⟨G2, M2, δ2, w2, a2.le a1.st, id δ2 w2 q2⟩
end
/-! ### our own list searched -/
def zCmpO (r : OpD) (i : Nat) (ta : TEZ ω) : TEZ ω := fun δ w Q E => onOwn δ i fun l => ta δ w (fun x w1 => r x (.lst l) fun z => ∃ b, z = .bl b ∧ Q (.bl b) w1) E
section
variable {ω : Type} {X : Cx} {W : Wp ω} {pos p : Pos} {x : Str} {a : Expr} {ta : TEZ ω} {rv : R2} {r : OpD}
theorem cmpO_mo {i : Nat} (hl : Lnd X.K rv r) (ha : PEZ X W a ta) : Mo (zCmpO r i ta) := fun k h => h.imp fun l h => ha.mo (fun _ _ h1 => hl.mo (fun d ⟨b, e, q⟩ => ⟨b, e, k _ _ q⟩) h1) h
theorem z_tcmpO (i : Nat) {op : CmpOp} (ho : OpR X (compareOp op) rv) (hl : Lnd X.K rv r) (ha : PEZ X W a ta) (hN : X.N[i]? = some x := by rfl) (hv : Vis X.env.scope x := by first | exact Or.inl rfl | exact Or.inr (Or.inl rfl) | exact Or.inr (Or.inr rfl)) (hd : (x == ("__debug__" : Str)) = false := by decide)
    (hcd : (x == ("__classdict__" : Str)) = false := by decide) (hm : behindInMarks op (.Name x p) = false := by first | exact nomark _ | exact nobehind _ (by decide) (by decide) | rfl) : PTZ X W (.Compare a [op] [.Name x p] pos) (zB (zCmpO r i ta)) :=
  ⟨zB_mo (te := zCmpO r i ta) (cmpO_mo hl ha), fun Z ex tk => ptI (pt_cmpR ho (ha.run Z ex tk) (pe_var hN hv hd hcd) hm) fun σ H Q h => by
    obtain ⟨G, M, δ, w, a0, h⟩ := zB_core (te := zCmpO r i ta) (cmpO_mo hl ha) h
    obtain ⟨l, hsl, h⟩ := h.of
    obtain ⟨p, vs, h1, h2, h3, h4⟩ := a0.own hsl
    obtain ⟨p', vs', g1, g2, g3, g4, g5, g7⟩ := a0.sl i _ hsl
    refine ⟨G, M, δ, w, a0, ha.mo (fun d w1 q1 v H1 G1 M1 o1 r1 => ⟨.ref p, h1, ?_⟩) h⟩
    have a1 := a0.go o1
    obtain ⟨p2, vs2, e1, e2, e3, e4, e5, e7⟩ := a1.sl i _ hsl
    have ep : p2 = p := by rw [h1] at e1; cases e1; rfl
    subst ep
    have up : Ext G1 (upd G1 p2 (.lst vs2)) := Ext.new e3
    refine hl.go H1 (upd G1 p2 (.lst vs2)) v (.ref p2) d (.lst l) _ _ (fun q y e => ?_) (r1.up up) (.lst upd_same (e7.up up)) q1 (fun d3 v3 ⟨b, e, q3⟩ r3 => ?_) (fun l vs p ⟨b, e, _⟩ _ _ => nomatch e)
    · by_cases k : q = p2
      · subst k; rw [upd_same] at e; cases e; exact e2
      · rw [upd_ne k] at e; exact o1.pt.gh q y e
    · subst e; cases r3; exact q3 (.bl b) H1 G1 M1 o1 (.bl b)⟩
end
end Z

/-! ### an exception leaves a list comprehension -/
namespace PySem
theorem noteFrame_congr {e : Value} {a b : Env} (h : a.frame = b.frame) : noteFrame e a = noteFrame e b := by unfold noteFrame frameOf; rw [h]
namespace HandSPX
section
variable {M : Model} {A : Around} {E : Value → Shared → Prop} {s : Shared} {Z : Obj → Prop} {base : Heap} {env : Env} {outer l : List Env} {L e : Addr}
/-- noted, whatever its flight was -/
theorem looks_anyZ {fl : Value} {Q : Unit → Shared → Prop} (hZ : Steady Z) (hfr : A.frames = some (env :: outer)) (hf : env.frame = some L) (hkb : base.StaysIn s.heap) (hen : base.get? e = none) (hl : s.heap.FunFrames base (env :: outer)) (ht : TracedZ s.heap base e Z fl)
    (hQ : ∀ h', HeldZ base (env :: outer) e Z L h' → s.heap.UpToSlots h' → Q () { s with heap := h' }) : wpAny M A (noteFrame (.ref e) env) Q E s := by
  by_cases hfl : fl = rawInt L
  · subst hfl
    exact againZ hf ht (hQ s.heap ⟨hkb, hen, hl, ht⟩ (Heap.UpToSlots.refl _))
  obtain ⟨oe, vs, T, oT, ts, he, hz, hd, h1, hnT, hTe, hT, hdT, h3⟩ := ht
  unfold noteFrame
  simp only [hf]
  refine wpAny_bind (wpAny_field he hd h1 ?_)
  rw [if_pos (show (Value.ref T != Value.none) = true from by simp)]
  refine wpAny_bind (wpAny_field hT hdT h3 ?_)
  rw [if_neg (show ¬ ((fl == rawInt L) = true) from by simpa using hfl)]
  refine wpAny_bind (wpAny_setField hT hdT (Array.getElem?_eq_some_iff.mp h3).1 ?_)
  have other : ∀ b, b ≠ T → (s.heap.update T (Obj.mapFields (·.setIfInBounds 3 Value.none))).get? b = s.heap.get? b := fun b hb => Heap.get?_update_other _ _ (Ne.symm hb)
  have noRecord : ∀ b o, s.heap.get? b = some o → (∀ vs, o.data ≠ .fields vs) → b ≠ T := fun b o hb hnf q => by
    rw [q, hT] at hb; injection hb with hb; subst hb; exact hnf ts hdT
  refine wpAny_entryZ hZ hfr (hl.of_keeps fun b o hb hnf => ⟨o, (other b (noRecord b o hb hnf)).trans hb, rfl⟩) hf ((other e (Ne.symm hTe)).trans he)
    (fun b o hbo => (other b fun q => by rw [q, hnT] at hbo; cases hbo).trans (hkb b o hbo)) hen hd (Array.getElem?_eq_some_iff.mp h1).1 hz fun h' hN => ?_
  obtain ⟨x1, x2, x3, x4⟩ := hN
  exact hQ h' ⟨x1, hen, x2, x3⟩ fun b o hb hnf => x4 b o ((other b (noRecord b o hb hnf)).trans hb) hnf
/-- passed on by the frame that holds it -/
theorem passOn_held {α : Type} {what : String} {Q : α → Shared → Prop} (hf : env.frame = some L) (hh : HeldZ base l e Z L s.heap)
    (hE : ∀ h', HeldZ base l e Z L h' → s.heap.UpToSlots h' → E (.ref e) { s with heap := h' }) : wpAny M A (passOn what (.ref e) env : Sem α) Q E s := by
  obtain ⟨f1, f2, f3, oe, vs, T, oT, ts, he, hz, hd, h1, hnT, hTe, hT, hdT, h3⟩ := id hh
  unfold passOn
  refine wpAny_bind (wpAny_field he hd h1 ?_)
  rw [if_neg (by simp)]
  rw [hf]
  exact wpAny_bind (setFlight_onZ hh fun h' k1 k2 => wpAny_throw (hE h' k1 k2))
end
end HandSPX
theorem funFrames_off {h h' base : Heap} {C : Addr} (k : ∀ b, b ≠ C → h'.get? b = h.get? b) : ∀ {l : List Env}, (∀ b ∈ l.filterMap (·.frame), b ≠ C) → h.FunFrames base l → h'.FunFrames base l
  | [], _, _ => trivial
  | env :: rest, hn, ⟨hk, ⟨L, o, hf, h0, ho, hd⟩, hr⟩ => ⟨hk, ⟨L, o, hf, h0, (k L (hn L (List.mem_filterMap.mpr ⟨env, List.mem_cons_self, hf⟩))).trans ho, hd⟩, funFrames_off k (fun b hb => by
      obtain ⟨e, he, q⟩ := List.mem_filterMap.mp hb
      exact hn b (List.mem_filterMap.mpr ⟨e, List.mem_cons_of_mem _ he, q⟩)) hr⟩
section
variable {M : Model} {A : Around} {E : Value → Shared → Prop} {s : Shared} {env : Env}
def compPostX (M : Model) (A : Around) (E : Value → Shared → Prop) (Q : Value → Shared → Prop) (acc : Value) (C : Addr) (fr : Option Addr) (r : Result) (s' : Shared) : Prop :=
  match r with
  | .ok _ => ∃ m, s'.heap.Ns C m ∧ ∀ h', Heap.SameBut C s'.heap h' → Q acc { s' with heap := h' }
  | .error x => ∃ m, s'.heap.Ns C m ∧ ∀ h', Heap.SameBut C s'.heap h' → ∀ cenv : Env, cenv.frame = fr → wpAny M A (passOn "comprehension.variables-let-go" x cenv : Sem Value) (fun _ _ => False) E { s' with heap := h' }
theorem wpAny_comprehension_freeX {e : Expr} {scope : Scope} {pos : Pos} {newAcc first : Sem Value} {g : Comprehension} {gs : List Comprehension} {cl : List (Str × Addr)}
    {Q : Value → Shared → Prop}
    (hcl : clausesOf e = g :: gs) (hs : ∀ x, foldedSetIterable g.iter env x = pure x) (hclos : closureFor scope env = pure cl)
    (hkind : scope.kind = .function) (hnames : ∀ x ∈ scope.names, x.2 = .local → scope.names.lookup x.1 = some .local)
    (h : wpAny M A first (fun x s₁ => wpAny M A (pyIter x) (fun it s₂ => wpAny M A newAcc (fun acc s₃ =>
      wpAny M A (newFunctionEnv scope env.globals cl [] env.qual none .none (some env)) (fun cenv s₄ =>
        codeAny M A (.compStart e 0 it acc { cenv with scope := relabel scope env }) (compPostX M A E Q acc cenv.locals cenv.frame) s₄) E s₃) E s₂) E s₁) E s) :
    wpAny M A (comprehension e scope env pos newAcc false first none) Q E s := by
  unfold comprehension
  rw [hclos, hcl]
  refine wpAny_bind (wpAny_mono h (fun x s₁ h₁ => wpAny_bind (wpAny_standAt (wpAny_bind (wpAny_of_eq (hs x) (wpAny_bind (wpAny_holding (wpAny_mono h₁ (fun it s₂ h₂ =>
    wpAny_standIf (wpAny_bind (wpAny_mono h₂ (fun acc s₃ h₃ => wpAny_bind (wpAny_pure (wpAny_bind (wpAny_mono h₃ (fun cenv s₄ h₄ => ?_) fun _ _ h' => h')))) fun _ _ h' => h')))
      fun _ _ h' => h'))))))) fun _ _ h' => h')
  dsimp only
  have hv : ∀ x ∈ (scope.names.filter fun x => (x.2 == .local || x.2 == .cell) && x.1 != (".0" : Str)).reverse, x.2 = .local →
      Env.kindOf { cenv with scope := relabel scope env } x.1 = some .local := fun x hx hl => lookup_relabel_local (hnames x (List.mem_filter.mp (List.mem_reverse.mp hx)).1 hl)
  refine wpAny_holding (wpAny_bind (wpAny_attempt (wpAny_holding (wpAny_run (codeAny_mono h₄ fun r s' hr => ?_)))))
  cases r with
  | ok f =>
    obtain ⟨m, hn, hr⟩ := hr
    exact wpAny_bind (wpAny_holding (wpAny_comp_letGo (cenv := { cenv with scope := relabel scope env }) hkind _ s' m hv hn fun h' m' _ hs' => wpAny_pure (hr h' hs')))
  | error x =>
    obtain ⟨m, hn, hr⟩ := hr
    exact wpAny_bind (wpAny_holding (wpAny_comp_letGo (cenv := { cenv with scope := relabel scope env }) hkind _ s' m hv hn fun h' m' _ hs' => wpAny_mono (hr h' hs' _ rfl) (fun _ _ f => f.elim) fun _ _ y => y))
end
end PySem
namespace L2
open PySem PySem.Spec PyProof.Rows
/-- the block's context with a wish about exceptions -/
abbrev Cx.blkE (X : Cx) (s : Shared) (H : Hp) (scope : Scope) (cenv : Env) (fp : List Addr) (W : WX) : Cx := { X.blk s H scope cenv fp with xe := XE (X.blk s H scope cenv fp) W }
section
variable {X : Cx} {pins : List (Addr × Obj)} {σ : St} {H : Hp} {s : Shared} {scope : Scope} {cenv : Env} {fp : List Addr} {W W' : WX}
theorem okE (h : (X.blk s H scope cenv fp).Ok) : (X.blkE s H scope cenv fp W).Ok := ⟨h.1, h.2, h.3, h.4, h.5, h.6, h.7, h.8, h.9, h.10, h.11, h.12, h.13, h.14, h.15, h.16, h.17, h.18⟩
theorem okB (h : (X.blkE s H scope cenv fp W).Ok) : (X.blk s H scope cenv fp).Ok := ⟨h.1, h.2, h.3, h.4, h.5, h.6, h.7, h.8, h.9, h.10, h.11, h.12, h.13, h.14, h.15, h.16, h.17, h.18⟩
theorem invE {p2 : List (Addr × Obj)} {σ2 : St} {H2 : Hp} {s2 : Shared} (I : Inv (X.blk s H scope cenv fp) p2 σ2 H2 s2) : Inv (X.blkE s H scope cenv fp W) p2 σ2 H2 s2 := ⟨okE I.1, I.2, I.3, I.4, I.5, I.6, I.7, I.8, I.9, I.10, I.11⟩
theorem invB {p2 : List (Addr × Obj)} {σ2 : St} {H2 : Hp} {s2 : Shared} (I : Inv (X.blkE s H scope cenv fp W) p2 σ2 H2 s2) : Inv (X.blk s H scope cenv fp) p2 σ2 H2 s2 := ⟨okB I.1, I.2, I.3, I.4, I.5, I.6, I.7, I.8, I.9, I.10, I.11⟩
theorem takesE (h : ∀ cls d σ2 H2, W' cls d σ2 H2 → W cls d σ2 H2) : Takes (X.blkE s H scope cenv fp W) W' := fun u s' ⟨a, B, sI, p2, σ2, H2, cls, d, e, I, nb, up, sky, na, os, ag, w⟩ =>
  (⟨a, B, sI, p2, σ2, H2, cls, d, e, invB I, nb, up, sky, na, os, ag, h _ _ _ _ w⟩ : XE (X.blk s H scope cenv fp) W u s')
theorem blk_raise {cl : List (Str × Addr)} {Qf : Value → Shared → Prop} {D : Value} (I3 : Inv X pins σ H s) (hst : X.stack = X.env :: X.outer) (hf : X.env.frame = some X.env.locals)
    (f3 : ∀ b ∈ fp, FpOk X pins H b ∧ b < s.heap.objs.size) (tk : Takes X W) {u : Value} {s' : Shared} (x : XE (X.blk s H scope (compEnvC scope cl s.heap.objs.size X.env) fp) (fun cls d _ H' => W cls d σ H') u s') :
    notedBy (model X.prog X.w) X.A (compEnvC scope cl s.heap.objs.size X.env) (fun e s'' => compPostX (model X.prog X.w) X.A X.xe Qf D s.heap.objs.size X.env.frame (.error e) s'') u s' := by
  obtain ⟨a, B, sI, pI, σI, H1, cls, d, rfl, I, nb, up, sky, na, os, ag, w⟩ := x
  have I7 : Inv X pins σ H1 sI := I3.call' (ch := fp) I.os I.base I.hok I.bare fun b hb => ⟨(f3 b hb).1.2.2.2.1, (f3 b hb).1.2.1, (f3 b hb).1.2.2.2.2.1, (f3 b hb).1.2.2.2.2.2⟩
  have nC : H1 s.heap.objs.size = none := I.free
  have fpC := I3.fpOk (Nat.le_refl _) nC
  obtain ⟨g0, g1, g2, g3, g4, g5⟩ := fpC
  obtain ⟨m, hm, -⟩ := I.loc
  have hm : sI.heap.Ns s.heap.objs.size m := hm
  generalize s.heap.objs.size = C at *
  obtain ⟨oC, eC⟩ : ∃ oC, sI.heap.get? C = some oC := by
    obtain ⟨o, _, _, ho, _⟩ := hm
    exact ⟨o, ho⟩
  have Cfs : C ∉ frs X.stack := fun hm => by
    rw [hst] at hm
    obtain ⟨e, he, q⟩ := List.mem_filterMap.mp hm
    rcases List.mem_cons.mp he with rfl | he
    · rw [hf] at q; cases q; exact g1 rfl
    · exact g2 (List.mem_filterMap.mpr ⟨e, he, q⟩)
  have BC := nb C oC eC Cfs
  have hfr : X.A.frames = some (X.env :: X.outer) := I3.ok.frames.trans (congrArg some hst)
  have fin : ∀ h1, HandSPX.HeldZ B (X.env :: X.outer) a (Zc cls d) X.env.locals h1 → s'.heap.UpToSlots h1 → compPostX (model X.prog X.w) X.A X.xe Qf D C X.env.frame (.error (.ref a)) { s' with heap := h1 } := by
    intro h1 hh up1
    refine ⟨m, (up.trans up1).ns hm, fun h' sb cenv hcf => ?_⟩
    have ac : a ≠ C := fun z => by have := hh.2.1; rw [z, BC] at this; cases this
    have off : ∀ {h : Heap} {b : Addr} {o : Obj}, (PySem.W.hideAll h [C]).get? b = some o → b ≠ C := fun e z => by
      rw [z, PySem.W.hideAll_none [C] List.mem_cons_self] at e; cases e
    have hid : ∀ {h : Heap} {b : Addr}, h.get? b = none → (PySem.W.hideAll h [C]).get? b = none := fun {h b} e => by
      cases q : (PySem.W.hideAll h [C]).get? b with
      | none => rfl
      | some o => have := PySem.W.of_hideAll [C] q; rw [e] at this; cases this
    have fr : ∀ b ∈ frs (X.env :: X.outer), b ≠ C := fun b hb z => Cfs (by rw [hst, ← z]; exact hb)
    have hh' : HandSPX.HeldZ (PySem.W.hideAll B [C]) (X.env :: X.outer) a (Zc cls d) X.env.locals h' := by
      obtain ⟨k1, k2, k3, oe, vs, T, oT, ts, he, hz, hd, e1, hnT, hTe, hT, hdT, h3⟩ := hh
      have TC : T ≠ C := fun z => by rw [z, BC] at hnT; cases hnT
      refine ⟨fun b o e => (sb.2 b (off e)).trans (k1 b o (PySem.W.of_hideAll [C] e)), hid k2, funFrames_none (funFrames_off sb.2 fr k3) fun b hb => hid (k3.mem hb).1, oe, vs, T, oT, ts, (sb.2 a ac).trans he, hz, hd, e1, hid hnT, hTe, (sb.2 T TC).trans hT, hdT, h3⟩
    refine HandSPX.passOn_held (hcf.trans hf) hh' fun h'' k1 k2 => tk _ _ ⟨a, PySem.W.hideAll B [C], { sI with heap := PySem.W.hideAll sI.heap [C] }, pins, σ, H1, cls, d, rfl, ?_, fun b o e hb => ?_, fun b o e hn => ?_, ?_, na, os, ag, w⟩
    · exact I7.turned (t' := sI.toks) (fun b o hb e => PySem.W.hideAll_get [C] e (by simpa using hb)) g0 g1 g3 g4 g5
    · exact PySem.W.hideAll_get [C] (nb b o (PySem.W.of_hideAll [C] e) hb) (by simpa using off e)
    · have bC := off e
      obtain ⟨sl, q⟩ := (up.trans up1) b o (PySem.W.of_hideAll [C] e) hn
      have q2 : h'.get? b = some { o with slots := sl } := (sb.2 b bC).trans q
      obtain ⟨sl2, q3⟩ := k2 b _ q2 hn
      exact ⟨sl2, q3⟩
    · rw [hst]; exact .inr (.inr k1)
  unfold notedBy
  rw [noteFrame_congr (show (compEnvC scope cl C X.env).frame = X.env.frame from rfl)]
  have sky : Sky B X.stack a (Zc cls d) C s'.heap := sky
  rw [hst] at sky
  rcases sky with ⟨hB, hn, hl, oe, vs, he, hz, hd, e1⟩ | ⟨k1, k2, k3, k4⟩ | ⟨k1, k2, k3, k4⟩
  · exact HandSPX.look_newZ Zc.steady hfr hl hf he hB hn hd e1 hz fin
  · exact HandSPX.looks_anyZ Zc.steady hfr hf k1 k2 k3 k4 fin
  · exact HandSPX.looks_anyZ Zc.steady hfr hf k1 k2 k3 k4 fin
end
/-- a comprehension an element of which may raise -/
theorem pe_lcE {X : Cx} {W : WX} {elt tg iter : Expr} {ifs : List Expr} {scope : Scope} {own : List (Str × Nat)} {pos : Pos} {wi : TI} {g : TG} {tt : TT} {te : St → TE} (hc : X.calm = true) (hN : X.N.Nodup) (hi : PI X tg iter wi) (ok : BlkOk X.N X.env.scope scope own)
    (hst : X.stack = X.env :: X.outer) (hf : X.env.frame = some X.env.locals) (tk : Takes X W)
    (hg : ∀ (s : Shared) (H : Hp) (C : Addr) (cl : List (Str × Addr)) (fp : List Addr), PG (X.blk s H scope (compEnvC scope cl C X.env) fp) tg g) (ht : ∀ (s : Shared) (H : Hp) (C : Addr) (cl : List (Str × Addr)) (fp : List Addr), PTs (X.blk s H scope (compEnvC scope cl C X.env) fp) ifs tt)
    (he : ∀ (σ : St) (s : Shared) (H : Hp) (C : Addr) (cl : List (Str × Addr)) (fp : List Addr), PE (X.blkE s H scope (compEnvC scope cl C X.env) fp (fun cls d _ H' => W cls d σ H')) elt (te σ)) (hs : ∀ x, foldedSetIterable iter X.env x = pure x := by intro _; rfl) :
    PE X (.ListComp elt [⟨tg, iter, ifs, 0⟩] scope pos) (fun σ => tLc wi g tt (te σ) (own.map (·.2)) σ) := by
  refine ⟨fun pins s σ H Q I h => ?_⟩
  rw [eval_ListComp]
  have hfree : ∀ y ∈ scope.names, y.2 = .free → ∃ c, X.env.cells.lookup y.1 = some c := fun y hy e => by
    rcases ok.free y hy e with k | k
    · exact I.ok.has _ (.inl k)
    · exact I.ok.has _ (.inr k)
  refine wpAny_comprehension_freeX rfl hs (closure_ok hfree) ok.kind (fun y hy e => by rw [ok.uniq y hy, e])
    (thn (hi.run pins s σ H _ I h) fun xv s1 hx => thn hx fun itv s2 h2 => ?_)
  obtain ⟨it, fp, tn, J, H2, e, I2, T, st2, f2, q⟩ := h2
  subst e
  refine wpAny_newObj_type (newEnv_comp ?_) (by show 0 ≤ sizeLine; decide)
  generalize hD : s2.heap.objs.size = D
  have hDn : H2 D = none := I2.hok.fresh (Nat.le_of_eq hD)
  obtain ⟨Wt, ⟨m0, w0⟩, turn⟩ := q D hDn
  generalize hs3 : ({ s2 with heap := s2.heap.push { cls := .type "list", data := .seq ([] : List Value).toArray } } : Shared) = s3
  have I3 : Inv X pins σ (upd H2 D (.lst [])) s3 := by
    rw [← hs3]
    refine I2.laid (t' := s2.toks) (fun b o e => Heap.get?_push_of_some _ e) (Nat.le_of_eq hD) ⟨Nat.zero_le _, [], 0, .nil, ?_⟩
    rw [← hD]
    exact Heap.get?_push_size _ rfl
  have h3 : s3.heap = s2.heap.push { cls := .type "list", data := .seq ([] : List Value).toArray } := by rw [← hs3]
  have sz : ∀ b ∈ fp, b < s2.heap.objs.size := fun b hb => by
    obtain ⟨o, e, _⟩ := T.obj _ _ st2 b hb
    exact Heap.lt_size e
  have f3 : ∀ b ∈ fp, FpOk X pins (upd H2 D (.lst [])) b ∧ b < s3.heap.objs.size := fun b hb => by
    have hlt := sz b hb
    refine ⟨⟨?_, (f2 b hb).2⟩, by rw [h3, Heap.size_push]; exact Nat.lt_succ_of_lt hlt⟩
    rw [upd_ne (by rw [← hD]; exact Nat.ne_of_lt hlt)]
    exact (f2 b hb).1
  have st3 : tn 0 s3.heap := T.keep _ _ _ st2 fun b _ o e => by rw [h3]; exact Heap.get?_push_of_some _ e
  have I4 := block_start I3 ok hN f3
  have pg := hg s3 (upd H2 D (.lst [])) s3.heap.objs.size (cellsFrom (s3.heap.objs.size + 1) scope.names (cloFrom X.env.cells scope.names [])) fp
  have pt := ht s3 (upd H2 D (.lst [])) s3.heap.objs.size (cellsFrom (s3.heap.objs.size + 1) scope.names (cloFrom X.env.cells scope.names [])) fp
  have pe := he σ s3 (upd H2 D (.lst [])) s3.heap.objs.size (cellsFrom (s3.heap.objs.size + 1) scope.names (cloFrom X.env.cells scope.names [])) fp
  have raise : ∀ u s', XE (X.blk s3 (upd H2 D (.lst [])) scope (compEnvC scope (cellsFrom (s3.heap.objs.size + 1) scope.names (cloFrom X.env.cells scope.names [])) s3.heap.objs.size X.env) fp) (fun cls d _ H' => W cls d σ H') u s' →
      notedBy (model X.prog X.w) X.A (compEnvC scope (cellsFrom (s3.heap.objs.size + 1) scope.names (cloFrom X.env.cells scope.names [])) s3.heap.objs.size X.env) (fun e s'' => compPostX (model X.prog X.w) X.A X.xe (EP X pins σ Q) (.ref D) s3.heap.objs.size X.env.frame (.error e) s'') u s' := fun u s' x => blk_raise I3 hst hf f3 tk x
  show codeAny _ _ (.compStart (.ListComp elt [⟨tg, iter, ifs, 0⟩] scope pos) 0 (.ref it) (.ref D) (compEnvC scope (cellsFrom (s3.heap.objs.size + 1) scope.names (cloFrom X.env.cells scope.names [])) s3.heap.objs.size X.env)) (compPostX (model X.prog X.w) X.A X.xe _ (.ref D) s3.heap.objs.size X.env.frame) { s3 with heap := pushCells (s3.heap.push { cls := .type "dict", data := .dict #[] }) scope.names }
  have nfp : ∀ b ∈ fp, (upd H2 D (.lst [])) b = none := fun b hb => (f3 b hb).1.1
  generalize hce : compEnvC scope (cellsFrom (s3.heap.objs.size + 1) scope.names (cloFrom X.env.cells scope.names [])) s3.heap.objs.size X.env = ce at I4 pg pt pe raise ⊢
  have cL : ce.locals = s3.heap.objs.size := by subst hce; rfl
  generalize hH3 : upd H2 D (.lst []) = H3 at I3 I4 pg pt pe raise w0 nfp f3
  generalize hs4 : ({ s3 with heap := pushCells (s3.heap.push { cls := .type "dict", data := .dict #[] }) scope.names } : Shared) = s4 at I4 ⊢
  have st4 : tn 0 s4.heap := T.keep _ _ _ st3 fun b _ o e => by rw [← hs4]; exact pushCells_keeps _ _ _ _ (Heap.get?_push_of_some _ e)
  have stat : ∀ {σ' : St} {H' : Hp} {s' : Shared}, Inv (X.blk s3 H3 scope ce fp) [] σ' H' s' → (∀ b ∈ fp, H' b = none) → ∀ b ∈ fp, FpOk (X.blk s3 H3 scope ce fp) [] H' b := fun {σ' H' s'} I' hn b hb =>
    ⟨hn b hb, (I'.ok.exf b hb).1, I'.ok.exfs b hb, .inl hb, fun x c e => (I'.ok.exf b hb).2 x c e, fun p hp => absurd (show p ∈ ([] : List (Addr × Obj)) ++ [] from hp) (by simp)⟩
  have loop : codeAny (model X.prog X.w) X.A (.compLoop (.ListComp elt [⟨tg, iter, ifs, 0⟩] scope pos) 0 (.ref it) (.ref D) ce) (compPostX (model X.prog X.w) X.A X.xe (EP X pins σ Q) (.ref D) s3.heap.objs.size X.env.frame) s4 := by
    refine compLoop_any (fun n s' => ∃ i H', Inv (X.blk s3 H3 scope ce fp) [] (wipe σ (own.map (·.2))) H' s' ∧ tn i s'.heap ∧ (∀ b ∈ fp, H' b = none) ∧ Wt i n H') ?_ m0 ⟨0, H3, I4, st4, nfp, w0⟩
    rintro n s5 ⟨i, H5, I5, st5, n5, w5⟩
    rcases turn i n H5 w5 with ⟨stop, qq⟩ | ⟨go, Nx, hNx, step⟩
    · have td := T.done (X.blk s3 H3 scope ce fp) rfl rfl rfl hc i [] s5 _ H5 (fun _ _ => False) I5 (stat I5 n5) st5 stop
      refine thnF td fun r s6 ⟨hr, I6⟩ => ?_
      subst hr
      have I7 : Inv X pins σ H5 s6 := I3.call' (ch := fp) I6.os I6.base I6.hok I6.bare fun b hb => ⟨(f3 b hb).1.2.2.2.1, (f3 b hb).1.2.1, (f3 b hb).1.2.2.2.2.1, (f3 b hb).1.2.2.2.2.2⟩
      have nC : H5 s3.heap.objs.size = none := by
        have z : H5 ce.locals = none := I6.free
        rw [cL] at z
        exact z
      obtain ⟨m, hn, _⟩ := I6.loc
      have hn : s6.heap.Ns ce.locals m := hn
      rw [cL] at hn
      refine ⟨m, hn, fun h'' sb => ?_⟩
      obtain ⟨f0, f1, f2, f3, f4, f5⟩ := I3.fpOk (Nat.le_refl _) nC
      exact ⟨.ref D, H5, I7.turned (t' := s6.toks) (fun b o hb e => (sb.2 b hb).trans e) f0 f1 f3 f4 f5, rfl, qq⟩
    · have ti := T.item (X.blk s3 H3 scope ce fp) rfl rfl rfl hc i [] s5 _ H5 (fun _ _ => False) I5 (stat I5 n5) st5 go
      refine thnF ti fun r s6 ⟨u, hr, h6⟩ => ?_
      subst hr
      refine thnF h6 fun _ s7 ⟨x, H7, I7, r7, y7, st7, n7⟩ => ?_
      have I7' := I7.pinned (stat I7 n7) (T.obj _ _ st7)
      refine thnF (pg.run _ s7 _ H7 x u _ I7' r7 (step x H7 y7)) fun _ s8 ⟨σ8, H8, I8, hw8, q8⟩ => ?_
      refine thnF (pt.run _ s8 σ8 H8 _ I8 q8) fun b s9 ⟨H9, I9, q9⟩ => ?_
      have fin : ∀ {s' : Shared} {H' : Hp}, Inv (X.blk s3 H3 scope ce fp) ([] ++ pinsAt fp s7.heap) σ8 H' s' → Nx H' → ∃ m, m < n ∧ ∃ i H', Inv (X.blk s3 H3 scope ce fp) [] (wipe σ (own.map (·.2))) H' s' ∧ tn i s'.heap ∧ (∀ b ∈ fp, H' b = none) ∧ Wt i m H' := fun {s' H'} I' nx => by
        obtain ⟨m', hm, w'⟩ := hNx H' nx
        have pin' : ∀ b ∈ fp, ∀ o, s7.heap.get? b = some o → s'.heap.get? b = some o ∧ H' b = none := fun b hb o e =>
          let z := I'.pin (b, o) (List.mem_append_right _ (List.mem_append_right _ (mem_pinsAt hb e)))
          ⟨z.1, z.2.1⟩
        have hl : (wipe σ (own.map (·.2))).length = σ8.length := by rw [← hw8, wipe_length]
        refine ⟨m', hm, i + 1, H', (I'.unpinned (pins := [])).weak hl (fun j v e => ?_), T.keep _ _ _ st7 fun b hb o e => (pin' b hb o e).1, fun b hb => ?_, w'⟩
        · rw [← hw8] at e
          exact (wipe_some e).1
        · obtain ⟨o, e, _⟩ := T.obj _ _ st7 b hb
          exact (pin' b hb o e).2
      cases b with
      | false =>
        simp only [Bool.false_eq_true, if_false] at q9 ⊢
        exact fin I9 q9
      | true =>
        simp only [if_true] at q9 ⊢
        refine wpAny_mono (pe.run _ s9 σ8 H9 _ (invE I9) q9) (fun z s10 ⟨yv, H10, I10, r10, acc, hD10, hz10, nx⟩ => ?_) fun u s' x => raise u s' x
        exact app_ok (X := X.blk s3 H3 scope ce fp) (invB I10) hD10 hz10 r10 fun s11 I11 => fin I11 nx
  exact codeAny_compStart_list loop (T.self X.A 0 _ _ _ st4 loop)
end L2
namespace Z
open PySem PySem.Spec PyProof.Rows L2
variable {ω : Type}
/-- no list of the def's own stands in a slot -/
def noOwn (δ : List Sl) : Bool := δ.all fun s => match s with | .own _ => false | _ => true
theorem noOwn_get {δ : List Sl} {i : Nat} {l : List D} (h : noOwn δ = true) (e : δ[i]? = some (.own l)) : False := by
  have := List.all_eq_true.mp h _ (List.mem_of_getElem? e)
  cases this
theorem SR.base {K : PySem.W.Frag} {W : Wp ω} {Z : Zx} {σ : L2.St} {H G M : Hp} {δ : List Sl} {w : ω} (a : SR K W Z σ H G M δ w) (h : noOwn δ = true) : SR K W ⟨H, G, M, G⟩ σ H G M δ w where
  pt := a.pt
  nx := .rfl'
  st := .rfl'
  len := a.len
  sl := fun i s e => by
    have q := a.sl i s e
    cases s with
    | no => trivial
    | val d => exact q
    | own l => exact (noOwn_get h e).elim
  od := fun i j p l l' e1 => (noOwn_get h e1).elim
def zCompE (l : List D) (gz : TGZ) (tt : TTZ ω) (te : TEZ ω) (vs : List Nat) (δ : List Sl) (w : ω) (Q : List D → ω → Prop) (E : Nat → ω → Prop) : Prop :=
  noOwn δ = true ∧ l.length ≤ 100000 ∧ ∃ I : Nat → List D → ω → Prop, I 0 [] w ∧ (∀ i d acc w', l[i]? = some d → I i acc w' → gz d (wipeZ δ vs) fun δ2 => tt δ2 w' (fun b w2 => (b = true → te δ2 w2 (fun y w3 => I (i + 1) (acc ++ [y]) w3) E) ∧ (b = false → I (i + 1) acc w2)) NoE) ∧
    ∀ acc w', I l.length acc w' → Q acc w'
theorem zCompE.imp {l : List D} {gz : TGZ} {tt : TTZ ω} {te : TEZ ω} {vs : List Nat} {δ : List Sl} {w : ω} {Q Q' : List D → ω → Prop} {E : Nat → ω → Prop} (k : ∀ l w, Q l w → Q' l w) (h : zCompE l gz tt te vs δ w Q E) : zCompE l gz tt te vs δ w Q' E := by
  obtain ⟨hn, h0, I, h1, h2, h3⟩ := h
  exact ⟨hn, h0, I, h1, h2, fun acc w' q => k _ _ (h3 acc w' q)⟩
structure CompOkE (X : Cx) (W : Wp ω) (scope : Scope) (tg elt : Expr) (ifs : List Expr) (g : TG) (gz : TGZ) (tt : TTZ ω) (te : TEZ ω) : Prop where
  hg : ∀ (s : Shared) (H : Hp) (C : Addr) (cl : List (Str × Addr)) (fp : List Addr), PG (X.blk s H scope (compEnvC scope cl C X.env) fp) tg g
  gg : GoG X.K g gz
  ht : ∀ (s : Shared) (H : Hp) (C : Addr) (cl : List (Str × Addr)) (fp : List Addr) (Z : Zx), PTs (X.blk s H scope (compEnvC scope cl C X.env) fp) ifs (liT X.K W Z (fun _ _ _ => False) tt)
  mt : Shared → Mo tt
  he : ∀ (s : Shared) (H : Hp) (C : Addr) (cl : List (Str × Addr)) (fp : List Addr) (Wx : WX), PEZ (X.blkE s H scope (compEnvC scope cl C X.env) fp Wx) W elt te
  mo : Shared → Mo te
def liNE (K : PySem.W.Frag) (W : Wp ω) (Wx : WX) (te : TEZ ω) (σ : L2.St) : TE := fun σ2 H Q => ∃ Z' ex', (∀ cls d σ' H', WXz K W Z' ex' cls d σ' H' → Wx cls d σ H') ∧ liE K W Z' ex' te σ2 H Q
section
variable {X : Cx} {W : Wp ω} {pos : Pos} {scope : Scope} {tg elt iter : Expr} {ifs : List Expr} {g : TG} {gz : TGZ} {tt : TTZ ω} {te : TEZ ω} {own : List (Str × Nat)}
theorem CompOkE.pe (C : CompOkE X W scope tg elt ifs g gz tt te) (Wx : WX) (σ : L2.St) (s : Shared) (H : Hp) (Ca : Addr) (cl : List (Str × Addr)) (fp : List Addr) : PE (X.blkE s H scope (compEnvC scope cl Ca X.env) fp (fun cls d _ H' => Wx cls d σ H')) elt (liNE X.K W Wx te σ) :=
  ⟨fun pins s' σ2 H' Q I ⟨Z, ex', im, q⟩ => ((C.he s H Ca cl fp _).run Z ex' (takesE fun cls d σ3 H3 h => im cls d σ3 H3 h)).run pins s' σ2 H' Q I q⟩
theorem CompOkE.pt (C : CompOkE X W scope tg elt ifs g gz tt te) (s : Shared) (H : Hp) (Ca : Addr) (cl : List (Str × Addr)) (fp : List Addr) : PTs (X.blk s H scope (compEnvC scope cl Ca X.env) fp) ifs (liNT X.K W tt) :=
  ⟨fun pins s' σ H' Q I ⟨Z, q⟩ => (C.ht s H Ca cl fp Z).run pins s' σ H' Q I q⟩
theorem comp_turnE {Z : Zx} {ex : Nat → List Sl → ω → Prop} {σ : L2.St} {H G M : Hp} {δ : List Sl} {w : ω} {Dl : Addr} {I : Nat → List D → ω → Prop} {i : Nat} {H' G1 M1 : Hp} {w1 : ω} {us : List V} {acc : List D} {d : D} {v : V} {vs : List Nat} (hno : noOwn δ = true) (hgz : GoG X.K g gz) (mt : Mo tt) (mo : Mo te) (hw : Wiped g vs) (a : SR X.K W Z σ H G M δ w) (hi : i < 100000) (rv : Rep X.K G1 v d)
    (o1 : Go W H G M H' G1 M1 w1) (n1 : NewAt H H' G1 M1 Dl us) (r1 : RepL X.K G1 us acc) (hl : acc.length ≤ i)
    (hs : gz d (wipeZ δ vs) fun δ2 => tt δ2 w1 (fun b w2 => (b = true → te δ2 w2 (fun y w3 => I (i + 1) (acc ++ [y]) w3) (fun e w' => ex e δ w')) ∧ (b = false → I (i + 1) acc w2)) NoE) :
    g v (L2.wipe σ vs) H' fun σ2 H2 => L2.wipe σ2 vs = L2.wipe σ vs ∧ liNT X.K W tt σ2 H2 fun b H3 =>
      if b = true then liNE X.K W (WXz X.K W Z ex) te σ σ2 H3 fun y H4 => ∃ acc, H4 Dl = some (.lst acc) ∧ acc.length < sizeLine ∧ CInv X.K W H G M Dl I (i + 1) (upd H4 Dl (.lst (acc ++ [y]))) else CInv X.K W H G M Dl I (i + 1) H3 := by
  refine hw v σ H' _ ?_
  have a0 := a.go o1
  have a1 := (a0.base hno).wipe vs
  refine hgz.go W _ (L2.wipe σ vs) H' G1 M1 (wipeZ δ vs) w1 v d _ _ a1 rv hs fun σ2 δ2 q2 a2 => ?_
  have grow : ∀ {H3 G3 M3 : Hp} {w3 : ω} {u : V} {y : D}, Go W H' G1 M1 H3 G3 M3 w3 → Rep X.K G3 u y → I (i + 1) (acc ++ [y]) w3 → ∃ acc, H3 Dl = some (.lst acc) ∧ acc.length < sizeLine ∧ CInv X.K W H G M Dl I (i + 1) (upd H3 Dl (.lst (acc ++ [u]))) := by
    intro H3 G3 M3 w3 u y o3 ru qi
    obtain ⟨m1, m2, m3, m4⟩ := n1
    have h3 := o3.nx.fr Dl _ m2 m4
    have g3 : G3 Dl = none := by
      cases z : G3 Dl with
      | none => rfl
      | some t => rw [o3.nx.gn Dl t z m3] at m2; cases m2
    have k3 : M3 Dl = none := by
      cases z : M3 Dl with
      | none => rfl
      | some t => rw [o3.nx.mn Dl t z m4] at m2; cases m2
    have r3 := r1.up o3.nx.gg
    have o := o1.tr o3
    refine ⟨us, h3, by rw [r1.len, sizeLine_eq]; omega, G3, M3, w3, us ++ [u], acc ++ [y], ⟨⟨fun p x e => ?_, fun p x e => ?_, o.pt.dj, o.pt.wd⟩, ⟨o.nx.gg, fun p x e e' => ?_, o.nx.gn, o.nx.mn, o.nx.m0⟩⟩, ⟨m1, upd_same, g3, k3⟩, r3.app (.cons ru .nil), by rw [List.length_append]; exact Nat.succ_le_succ hl, qi⟩
    · rw [upd_ne (ne_of_none e g3)]; exact o.pt.gh p x e
    · rw [upd_ne (ne_of_none e k3)]; exact o.pt.mh p x e
    · rw [upd_ne (ne_of_none e m1)]; exact o.nx.fr p x e e'
  refine ⟨_, G1, M1, δ2, w1, a2, mt (fun b w2 q3 H3 G3 M3 o3 => ?_) q2⟩
  cases b with
  | true =>
    rw [if_pos rfl]
    refine ⟨⟨H', G1, M1, G1⟩, fun e _ w' => ex e δ w', fun cls d' σ' H'' q => ?_, G3, M3, δ2, w2, a2.go o3, mo (fun y w4 q4 u H4 G4 M4 o4 r4 => grow (o3.tr o4) r4 q4) (q3.1 rfl)⟩
    obtain ⟨hd, e, hc, G5, M5, δ5, w5, a5, q5⟩ := q
    exact ⟨hd, e, hc, G5, M5, δ, w5, a0.next a5.pt a5.nx, q5⟩
  | false =>
    rw [if_neg Bool.false_ne_true]
    obtain ⟨m1, m2, m3, m4⟩ := n1
    refine ⟨G3, M3, w2, us, acc, o1.tr o3, ⟨m1, o3.nx.fr Dl _ m2 m4, ?_, ?_⟩, r1.up o3.nx.gg, Nat.le_succ_of_le hl, q3.2 rfl⟩
    · cases z : G3 Dl with
      | none => rfl
      | some t => rw [o3.nx.gn Dl t z m3] at m2; cases m2
    · cases z : M3 Dl with
      | none => rfl
      | some t => rw [o3.nx.mn Dl t z m4] at m2; cases m2
def zLcE (ti : TEZ ω) (gz : TGZ) (tt : TTZ ω) (te : TEZ ω) (vs : List Nat) : TAZ ω := fun δ w Q E => ti δ w (fun d w1 => seqD d fun l => zCompE l gz tt te vs δ w1 Q E) E
theorem imp_lcE {ti : TEZ ω} {vs : List Nat} {Z : Zx} {ex : Nat → List Sl → ω → Prop} (hi : PEZ X W iter ti) (s0 : Shared) (C : CompOkE X W scope tg elt ifs g gz tt te) (hw : Wiped g vs) {σ : L2.St} {H : Hp} {Q : VK} (h : liF X.K W Z ex (zLcE ti gz tt te vs) σ H Q) :
    tLc (iList X.K (liE X.K W Z ex ti)) g (liNT X.K W tt) (liNE X.K W (WXz X.K W Z ex) te σ) vs σ H Q := by
  obtain ⟨G, M, δ, w, a, h⟩ := h
  refine ⟨G, M, δ, w, a, hi.mo (fun d w1 h1 v H1 G1 M1 o1 r1 => ?_) h⟩
  obtain ⟨p, us, l, rfl, s, r, hno, hlen, I, i0, is, id⟩ := h1.of r1
  have a1 := a.go o1
  refine ⟨p, rfl, ⟨us, sqLE o1.pt.gh s⟩, fun Dl hD => ?_⟩
  refine lc_list (K := X.K) (a := p) (xs := us) (CInv X.K W H1 G1 M1 Dl I) (c_start o1.pt hD i0) ?_ ?_ ?_
  · rintro i H2 _ ⟨G2, M2, w2, us2, acc, o2, n2, r2, q2⟩
    exact sqLE (o2.nx.gg.tr o2.pt.gh) s
  · rintro i x H2 hx ⟨G2, M2, w2, us2, acc, o2, n2, r2, hl2, q2⟩
    obtain ⟨d2, hd, rd⟩ := r.getV hx
    exact comp_turnE hno C.gg (C.mt s0) (C.mo s0) hw a1 (by have := (List.getElem?_eq_some_iff.mp hd).1; omega) (rd.up o2.nx.gg) o2 n2 r2 hl2 (is i d2 acc w2 hd q2)
  · rintro H2 ⟨G2, M2, w2, us2, acc, o2, n2, r2, hl2, q2⟩
    rw [r.len] at q2
    exact id acc w2 q2 Dl us2 H2 G2 M2 (o1.tr o2) r2 ⟨o1.nx.back o1.pt.mh hD, n2.2⟩
theorem mo_lcE {ti : TEZ ω} {vs : List Nat} (hi : PEZ X W iter ti) : Mo (zLcE ti gz tt te vs) := fun k h => hi.mo (fun d w1 h1 => h1.imp fun l h2 => h2.imp k) h
theorem z_lcE {ti : TEZ ω} (hi : PEZ X W iter ti) (C : CompOkE X W scope tg elt ifs g gz tt te) (hN : X.N.Nodup) (ok : blkC X.N X.env.scope scope own = true := by decide +kernel) (hw : Wiped g (own.map (·.2)) := by exact wiped_name _) (hc : X.calm = true := by rfl)
    (hs : ∀ x, foldedSetIterable iter X.env x = pure x := by intro _; rfl) (h1 : X.stack = X.env :: X.outer := by rfl) (h2 : X.env.frame = some X.env.locals := by rfl) : PFZ X W (.ListComp elt [⟨tg, iter, ifs, 0⟩] scope pos) (zLcE ti gz tt te (own.map (·.2))) :=
  ⟨mo_lcE hi, fun Z ex tk => ⟨fun pins s σ H Q I h => (pe_lcE hc hN (pi_list (hi.run Z ex tk)) (blkOk_by ok) h1 h2 tk C.hg C.pt (C.pe _) hs).run pins s σ H Q I (imp_lcE hi s C hw h)⟩⟩
theorem cE_ok {gzt : GoG X.K g gz} (hg : ∀ (s : Shared) (H : Hp) (C : Addr) (cl : List (Str × Addr)) (fp : List Addr), PG (X.blk s H scope (compEnvC scope cl C X.env) fp) tg g) (he : ∀ (s : Shared) (H : Hp) (C : Addr) (cl : List (Str × Addr)) (fp : List Addr) (Wx : WX), PEZ (X.blkE s H scope (compEnvC scope cl C X.env) fp Wx) W elt te) : CompOkE X W scope tg elt [] g gz zYes te :=
  ⟨hg, gzt, fun s H C cl fp Z => ⟨fun pins s' σ H' Q I ⟨G, M, δ, w, a, q⟩ => pts_nil.run pins s' σ H' Q I (q H' G M a.here)⟩, fun _ => fun k h => k _ _ h, he, fun s => (he s (fun _ => none) 0 [] [] (fun _ _ _ _ => False)).mo⟩
end
/-! turn by turn -/
def zUnE (gz : TGZ) (tt : TTZ ω) (te : TEZ ω) (vs : List Nat) (δ : List Sl) : List D → ω → (List D → ω → Prop) → (Nat → ω → Prop) → Prop
  | [], w, Q, _ => Q [] w
  | d :: l, w, Q, E => gz d (wipeZ δ vs) fun δ2 => tt δ2 w (fun b w2 => (b = true → te δ2 w2 (fun y w3 => zUnE gz tt te vs δ l w3 (fun acc w4 => Q (y :: acc) w4) E) E) ∧ (b = false → zUnE gz tt te vs δ l w2 Q E)) NoE
theorem un_compE {l : List D} {gz : TGZ} {tt : TTZ ω} {te : TEZ ω} {vs : List Nat} {δ : List Sl} {w : ω} {Q : List D → ω → Prop} {E : Nat → ω → Prop} (h : zUnE gz tt te vs δ l w Q E) :
    ∃ I : Nat → List D → ω → Prop, I 0 [] w ∧ (∀ i d acc w', l[i]? = some d → I i acc w' → gz d (wipeZ δ vs) fun δ2 => tt δ2 w' (fun b w2 => (b = true → te δ2 w2 (fun y w3 => I (i + 1) (acc ++ [y]) w3) E) ∧ (b = false → I (i + 1) acc w2)) NoE) ∧
      ∀ acc w', I l.length acc w' → Q acc w' := by
  refine ⟨fun i acc w' => zUnE gz tt te vs δ (l.drop i) w' (fun a w2 => Q (acc ++ a) w2) E, h, fun i d acc w' hd q => ?_, fun acc w' q => ?_⟩
  · have hl := (List.getElem?_eq_some_iff.mp hd)
    obtain ⟨h1, h2⟩ := hl
    dsimp only at q ⊢
    rw [List.drop_eq_getElem_cons h1, h2] at q
    simp only [List.append_assoc, List.singleton_append]
    exact q
  · dsimp only at q
    rw [List.drop_length] at q
    have q : Q (acc ++ []) w' := q
    rwa [List.append_nil] at q
end Z

local macro_rules | `(tactic| kt_chr) => `(tactic| first
  | assumption
  | ((with_reducible show Z.Sm _ (OfNat.ofNat _)); exact Z.Sm.num _)
  | ((with_reducible show Z.Sm _ ((_ : Int) + _)); exact Z.Sm.add (by kt_chr) (by kt_chr))
  | ((with_reducible show Z.Sm _ ((_ : Int) - _)); exact Z.Sm.sub (by kt_chr) (by kt_chr))
  | ((with_reducible show Z.Sm _ ((_ : Int) * _)); exact Z.Sm.mul (by kt_chr) (by kt_chr))
  | ((with_reducible show Z.Sm _ (-(_ : Int))); exact Z.Sm.neg (by kt_chr))
  | ((with_reducible show Z.Sm _ ((_ : Int) % _)); exact Z.Sm.mod (by kt_chr) (by first | omega | decide))
  | ((with_reducible show Z.Sm _ ((_ : Int) / _)); exact Z.Sm.div (by kt_chr) (by first | omega | decide))
  | ((with_reducible show Z.Sm _ ((_ : Int) ^ (_ : Nat))); exact Z.Sm.pow (by kt_chr) _)
  | ((with_reducible show Z.Sm _ (max (_ : Int) _)); exact Z.Sm.max (by kt_chr) (by kt_chr))
  | ((with_reducible show Z.Sm _ (min (_ : Int) _)); exact Z.Sm.min (by kt_chr) (by kt_chr))
  | exact Z.Sm.lt10r (by with_reducible assumption) (by first | with_reducible assumption | omega)
  | exact Z.Sm.lt10s (Int.le_of_lt (by with_reducible assumption)) (Int.le_of_lt (by with_reducible assumption))
  | exact Z.Sm.lt10s (Int.le_of_lt (by with_reducible assumption)) (by with_reducible assumption)
  | exact Z.Sm.near (by omega) (by omega))
local macro_rules | `(tactic| kt_field) => `(tactic| first | exact Z.MulOk.of (by kt_chr) (by kt_chr) (by decide) | exact Z.MulOk.lt (by kt_chr) (by decide) | exact Z.MulOk.rt (by kt_chr) (by decide))
local macro_rules | `(tactic| kt_str) => `(tactic| first | (exfalso; omega) | skip)
local macro_rules | `(tactic| kby_none) => `(tactic| repeat' (first
  | with_reducible assumption
  | with_reducible rfl
  | (with_reducible exact True.intro)
  | ((with_reducible show Z.MulOk _ _); kt_field)
  | ((with_reducible show Z.DivOk _); first | exact Z.DivOk.of (by omega) (by assumption) (by decide) | exact Z.DivOk.of (by decide) (Z.Sm.num _) (by decide))
  | ((with_reducible show Z.Sm _ _); first | exact Z.Sm.le (by kt_chr) (by decide) | exact Z.Sm.le (Z.Sm.near (by omega) (by omega)) (by decide))
  | ((with_reducible show (_ : Int) < _); first | omega | exact Int.emod_lt_of_pos _ (by omega) | decide | (simp only [List.length_map, List.length_append, List.length_cons, List.length_nil]; omega))
  | ((with_reducible show (_ : Int) ≤ _); first | omega | exact Int.emod_nonneg _ (by omega) | decide | (simp only [List.length_map, List.length_append, List.length_cons, List.length_nil]; omega))
  | ((with_reducible show (_ : Nat) < _); first | omega | exact Nat.le_of_ble_eq_true rfl | decide | (simp only [List.length_map, List.length_append, List.length_cons, List.length_nil]; omega))
  | ((with_reducible show (_ : Nat) = _); first | rfl | omega)
  | ((with_reducible show (_ : Nat) ≤ _); first | omega | exact Nat.le_of_ble_eq_true rfl | decide | exact Nat.zero_le _ | (simp only [List.length_map, List.length_append, List.length_cons, List.length_nil]; omega))
  | ((with_reducible show Z.okD _ = true); rfl)
  | ((with_reducible show Z.okF _ = true); rfl)
  | ((with_reducible show Z.okFs _ = true); rfl)
  | (conv => whnf
     try simp only [Z.stZ_len, Z.stZ_len0, Z.stZ_nil, Z.setAll_cons, Z.setAll_nil, List.set_cons_zero, List.set_cons_succ]
     first
       | exact Z.eqI
       | (refine And.intro ?_ ?_)
       | exact ⟨_, rfl⟩
       | exact ⟨_, _, rfl⟩
       | exact ⟨_, _, _, rfl⟩
       | exact ⟨_, _, _, _, rfl⟩
       | exact ⟨_, _, _, _, _, rfl⟩
       | exact ⟨_, _, _, _, _, _, rfl⟩
       | exact ⟨_, _, _, _, _, _, _, rfl⟩
       | exact ⟨_, _, _, _, _, _, _, _, rfl⟩
       | exact ⟨_, _, _, _, _, _, _, _, _, rfl⟩
       | exact ⟨_, _, _, _, _, _, _, _, _, _, rfl⟩
       | exact ⟨_, _, _, _, _, _, _, _, _, _, _, rfl⟩
       | exact ⟨_, _, _, _, _, _, _, _, _, _, _, _, rfl⟩
       | exact ⟨_, _, _, _, _, _, _, _, _, _, _, _, _, rfl⟩
       | exact ⟨_, _, _, _, _, _, _, _, _, _, _, _, _, _, rfl⟩
       | exact ⟨_, _, _, _, _, _, _, _, _, _, _, _, _, _, _, rfl⟩
       | exact ⟨_, _, _, _, _, _, _, _, _, _, _, _, _, _, _, _, rfl⟩
       | (refine ⟨_, rfl, ?_⟩)
       | (refine ⟨_, _, rfl, ?_⟩)
       | (refine ⟨_, _, _, rfl, ?_⟩)
       | (refine ⟨_, _, _, _, rfl, ?_⟩)
       | (refine ⟨_, _, _, _, _, rfl, ?_⟩)
       | (refine ⟨_, _, _, _, _, _, rfl, ?_⟩)
       | (refine ⟨_, _, _, _, _, _, _, rfl, ?_⟩)
       | (refine ⟨_, _, _, _, _, _, _, _, rfl, ?_⟩)
       | (refine ⟨_, _, _, _, _, _, _, _, _, rfl, ?_⟩)
       | (refine ⟨_, _, _, _, _, _, _, _, _, _, rfl, ?_⟩)
       | (refine ⟨_, _, _, _, _, _, _, _, _, _, _, rfl, ?_⟩)
       | (refine ⟨_, _, _, _, _, _, _, _, _, _, _, _, rfl, ?_⟩)
       | (refine ⟨_, _, _, _, _, _, _, _, _, _, _, _, _, rfl, ?_⟩)
       | (refine ⟨_, _, _, _, _, _, _, _, _, _, _, _, _, _, rfl, ?_⟩)
       | (refine ⟨_, _, _, _, _, _, _, _, _, _, _, _, _, _, _, rfl, ?_⟩)
       | (refine ⟨_, _, _, _, _, _, _, _, _, _, _, _, _, _, _, _, rfl, ?_⟩)
       | (refine ⟨_, by with_reducible assumption, ?_⟩)
       | (refine ⟨_, _, by with_reducible assumption, rfl, ?_⟩)
       | (refine ⟨_, _, Z.w_set (by first | with_reducible assumption | exact Z.w_set (by with_reducible assumption) | exact Z.w_set (Z.w_set (by with_reducible assumption))), rfl, ?_⟩)
       | (intro h; first | exact (Bool.false_ne_true h).elim | exact (Bool.false_ne_true h.symm).elim | (replace h := of_decide_eq_true h; kt_str) | (replace h := of_decide_eq_false h; kt_str) | (replace h := Z.deqI h; kt_str) | (replace h := Z.deqI' h; kt_str) | (((with_reducible have := (show Z.deq _ _ = true from h)); clear this); (simp only [Z.deq_lst, Z.deq_tup, Z.deqs_cons, Z.deqs_nil, Z.deqs_nil_cons, Z.deqs_cons_nil, Z.deq_int, Z.deq_bl, Z.deq_non, Z.deq_non_int, Z.deq_int_non, Z.deq_non_tup, Z.deq_tup_non, Bool.and_eq_true, Bool.and_true, and_true, true_and, beq_iff_eq, Bool.false_eq_true, reduceCtorEq, and_false, false_and] at h) <;> kt_str) | (((with_reducible have := (show Z.deq _ _ = false from h)); clear this); (simp only [Z.deq_lst, Z.deq_tup, Z.deqs_cons, Z.deqs_nil, Z.deqs_nil_cons, Z.deqs_cons_nil, Z.deq_int, Z.deq_bl, Z.deq_non, Z.deq_non_int, Z.deq_int_non, Z.deq_non_tup, Z.deq_tup_non, Bool.and_eq_false_iff, Bool.and_true, beq_eq_false_iff_ne, ne_eq, not_true_eq_false, or_false, false_or, Bool.true_eq_false, Bool.false_eq_true, beq_self_eq_true, reduceCtorEq] at h) <;> kt_str) | (((with_reducible have := (show Z.memF _ _ = true from h)); clear this); (simp only [Z.memF_cons, Z.memF_nil, Z.eqF_int, Bool.or_eq_true, Bool.or_false, beq_iff_eq] at h <;> kt_str)) | (((with_reducible have := (show Z.memF _ _ = false from h)); clear this); (simp only [Z.memF_cons, Z.memF_nil, Z.eqF_int, Bool.or_eq_false_iff, Bool.or_false, beq_eq_false_iff_ne, ne_eq] at h <;> kt_str)) | ((with_reducible replace h := Z.nb1 h); revert h) | ((with_reducible replace h := Z.nb2 h); revert h) | ((with_reducible have := (show (_ : Int) < _ from h)); exfalso; first | omega | exact absurd h (by decide)) | ((with_reducible have := (show (_ : Int) ≤ _ from h)); exfalso; first | omega | exact absurd h (by decide)) | skip))))
namespace Lw
open PySem PySem.Spec PyProof.Rows L2 Z
def topS (i : Nat) : Stmt := PySem.Challenge.pw_turnedline_k04_lines_written_and_read.main.body.getD i (.Pass ⟨0, 0, 0, 0⟩)
abbrev s_need_line : Stmt := topS 11
theorem sc_need_line : FnScope ["line"] ["line"] (defScope s_need_line) := ⟨rfl, rfl, rfl, by decide +kernel, rfl, by decide +kernel, by decide +kernel⟩
abbrev s_line_shown : Stmt := topS 12
theorem sc_line_shown : FnScope ["line", "number"] ["line"] (defScope s_line_shown) := ⟨rfl, rfl, rfl, by decide +kernel, rfl, by decide +kernel, by decide +kernel⟩
abbrev s_number_read : Stmt := topS 13
theorem sc_number_read : FnScope ["word", "figures", "sign"] ["word"] (defScope s_number_read) := ⟨rfl, rfl, rfl, by decide +kernel, rfl, by decide +kernel, by decide +kernel⟩
abbrev s_read_line : Stmt := topS 14
theorem sc_read_line : FnScope ["text", "words", "line", "word"] ["text"] (defScope s_read_line) := ⟨rfl, rfl, rfl, by decide +kernel, rfl, by decide +kernel, by decide +kernel⟩
abbrev s__law_deck : Stmt := topS 16
theorem sc__law_deck : FnScope ["_law_script", "_law_cells", "_law_seed", "_law_k", "_law_mixed"] ["_law_script"] (defScope s__law_deck) := ⟨rfl, rfl, rfl, by decide +kernel, rfl, by decide +kernel, by decide +kernel⟩
abbrev s__law_take : Stmt := topS 17
theorem sc__law_take : FnScope ["_law_deck_here", "_law_many", "_law_at", "_law_cell", "_law_one"] ["_law_deck_here", "_law_many"] (defScope s__law_take) := ⟨rfl, rfl, rfl, by decide +kernel, rfl, by decide +kernel, by decide +kernel⟩
abbrev s__law_far : Stmt := topS 18
theorem sc__law_far : FnScope ["_law_deck_here", "_law_found", "_law_k"] ["_law_deck_here"] (defScope s__law_far) := ⟨rfl, rfl, rfl, by decide +kernel, rfl, by decide +kernel, by decide +kernel⟩
abbrev s__law_wide : Stmt := topS 19
theorem sc__law_wide : FnScope ["_law_deck_here", "_law_figures", "_law_way", "_law_whole"] ["_law_deck_here", "_law_figures"] (defScope s__law_wide) := ⟨rfl, rfl, rfl, by decide +kernel, rfl, by decide +kernel, by decide +kernel⟩
abbrev s__law_signed : Stmt := topS 20
theorem sc__law_signed : FnScope ["_law_deck_here", "_law_figures"] ["_law_deck_here", "_law_figures"] (defScope s__law_signed) := ⟨rfl, rfl, rfl, by decide +kernel, rfl, by decide +kernel, by decide +kernel⟩
abbrev s__law_any_line : Stmt := topS 21
theorem sc__law_any_line : FnScope ["_law_deck_here", "_law_figures", "_law_m", "_law_some", "_law_k", "_law_way"] ["_law_deck_here", "_law_figures"] (defScope s__law_any_line) := ⟨rfl, rfl, rfl, by decide +kernel, rfl, by decide +kernel, by decide +kernel⟩
abbrev s__law_flags : Stmt := topS 22
theorem sc__law_flags : FnScope ["_law_thing", "_law_found"] ["_law_thing"] (defScope s__law_flags) := ⟨rfl, rfl, rfl, by decide +kernel, rfl, by decide +kernel, by decide +kernel⟩
abbrev s__law_same : Stmt := topS 23
theorem sc__law_same : FnScope ["_law_found", "_law_due_here", "_law_one", "_law_other"] ["_law_found", "_law_due_here"] (defScope s__law_same) := ⟨rfl, rfl, rfl, by decide +kernel, rfl, by decide +kernel, by decide +kernel⟩
abbrev s__law_number_in : Stmt := topS 24
theorem sc__law_number_in : FnScope ["_law_word", "_law_figures", "_law_sign_here"] ["_law_word"] (defScope s__law_number_in) := ⟨rfl, rfl, rfl, by decide +kernel, rfl, by decide +kernel, by decide +kernel⟩
abbrev s__law_due : Stmt := topS 25
theorem sc__law_due : FnScope ["_law_text", "_law_words", "_law_numbers", "_law_word"] ["_law_text"] (defScope s__law_due) := ⟨rfl, rfl, rfl, by decide +kernel, rfl, by decide +kernel, by decide +kernel⟩
abbrev s__law_told : Stmt := topS 26
theorem sc__law_told : FnScope ["_law_text", "_law_found", "_law_caught", "e", "_law_flags_here", "_law_k"] ["_law_text"] (defScope s__law_told) := ⟨rfl, rfl, rfl, by decide +kernel, rfl, by decide +kernel, by decide +kernel⟩
abbrev s__law_right : Stmt := topS 27
theorem sc__law_right : FnScope ["_law_text", "_law_due_here", "_law_great", "_law_word"] ["_law_text"] (defScope s__law_right) := ⟨rfl, rfl, rfl, by decide +kernel, rfl, by decide +kernel, by decide +kernel⟩
abbrev s__law_sign : Stmt := topS 28
theorem sc__law_sign : FnScope ["_law_deck_here", "_law_wide_here", "_law_menu"] ["_law_deck_here"] (defScope s__law_sign) := ⟨rfl, rfl, rfl, by decide +kernel, rfl, by decide +kernel, by decide +kernel⟩
abbrev s__law_spoilt : Stmt := topS 29
theorem sc__law_spoilt : FnScope ["_law_deck_here", "_law_text", "_law_at", "_law_way", "_law_words", "_law_one", "_law_odd", "_law_word"] ["_law_deck_here", "_law_text"] (defScope s__law_spoilt) := ⟨rfl, rfl, rfl, by decide +kernel, rfl, by decide +kernel, by decide +kernel⟩
abbrev s_law : Stmt := topS 30
theorem sc_law : FnScope ["_law_script", "_law_deck_here", "_law_turn", "_law_line", "_law_text", "_law_again", "_law_once", "_law_some"] ["_law_script"] (defScope s_law) := ⟨rfl, rfl, rfl, by decide +kernel, rfl, by decide +kernel, by decide +kernel⟩
structure Tx (K : PySem.W.Frag) (mg : Str → Option Value) (ec : Nat → Addr) (CL : Addr) : Prop where
  nmL : mg "LineError" = some (.ref CL)
  exm : ∀ e, e < 7 → PySem.W.exmOne K (.ref (ec e)) (.ref CL) = some true
  exk : ∀ e, e < 7 → L2.ExcC K (ec e)
  isEL : ∀ e, e < 7 → PySem.W.kitOne K (.ref (ec e)) (.ref CL) = some ((fun _ => true) e)
  noEL : PySem.W.kitOne K (.type "NoneType") (.ref CL) = some false
  isEV : ∀ e, e < 7 → PySem.W.kitOne K (.ref (ec e)) (.type "ValueError") = some ((fun _ => true) e)
  isE0 : ∀ e, e < 7 → PySem.W.kitOne K (.ref (ec e)) (.ref (ec 0)) = some (decide (e = 0))
  noE0 : PySem.W.kitOne K (.type "NoneType") (.ref (ec 0)) = some false
  isE1 : ∀ e, e < 7 → PySem.W.kitOne K (.ref (ec e)) (.ref (ec 1)) = some (decide (e = 1))
  noE1 : PySem.W.kitOne K (.type "NoneType") (.ref (ec 1)) = some false
  isE2 : ∀ e, e < 7 → PySem.W.kitOne K (.ref (ec e)) (.ref (ec 2)) = some (decide (e = 2))
  noE2 : PySem.W.kitOne K (.type "NoneType") (.ref (ec 2)) = some false
  isE3 : ∀ e, e < 7 → PySem.W.kitOne K (.ref (ec e)) (.ref (ec 3)) = some (decide (e = 3))
  noE3 : PySem.W.kitOne K (.type "NoneType") (.ref (ec 3)) = some false
  isE4 : ∀ e, e < 7 → PySem.W.kitOne K (.ref (ec e)) (.ref (ec 4)) = some (decide (e = 4))
  noE4 : PySem.W.kitOne K (.type "NoneType") (.ref (ec 4)) = some false
  isE5 : ∀ e, e < 7 → PySem.W.kitOne K (.ref (ec e)) (.ref (ec 5)) = some (decide (e = 5))
  noE5 : PySem.W.kitOne K (.type "NoneType") (.ref (ec 5)) = some false
  isE6 : ∀ e, e < 7 → PySem.W.kitOne K (.ref (ec e)) (.ref (ec 6)) = some (decide (e = 6))
  noE6 : PySem.W.kitOne K (.type "NoneType") (.ref (ec 6)) = some false
  ValueError_ : mg "ValueError" = none
  bool_ : mg "bool" = none
  int_ : mg "int" = none
  isinstance_ : mg "isinstance" = none
  len_ : mg "len" = none
  max_ : mg "max" = none
  range_ : mg "range" = none
  str_ : mg "str" = none
  sum_ : mg "sum" = none
  tuple_ : mg "tuple" = none
  zip_ : mg "zip" = none
  e0 : ErrT K mg (ec 0) "NoLine"
  e1 : ErrT K mg (ec 1) "NoTurn"
  e2 : ErrT K mg (ec 2) "NoText"
  e3 : ErrT K mg (ec 3) "NoStretch"
  e4 : ErrT K mg (ec 4) "NoPlace"
  e5 : ErrT K mg (ec 5) "NoMap"
  e6 : ErrT K mg (ec 6) "NoAsk"
  c_FIGURES : ∃ t, mg "FIGURES" = some (.str "0123456789" t)
abbrev ln (a b m : Int) : D := .tup [.int a, .int b, .int m]
def sp_need_line : SpZ Unit := fun ds w Q E => ∃ a b m, ds = [ln a b m] ∧ (m < 1 → E 0 w) ∧ (1 ≤ m → Q .non w)
def shown (a b m : Int) : Str := Txt.join (" " : Str) [tx a, tx b, tx m]
theorem shown_fits {a b m : Int} (ha : Sm 1900 a) (hb : Sm 1900 b) (hm : Sm 1900 m) : ([tx a, tx b, tx m].map (·.length)).sum + [tx a, tx b, tx m].length * (" " : Str).length ≤ 16777216 := by
  have h1 := tx_length ha
  have h2 := tx_length hb
  have h3 := tx_length hm
  have e : (" " : Str).length = 1 := rfl
  simp only [List.map_cons, List.map_nil, List.sum_cons, List.sum_nil, List.length_cons, List.length_nil, e]
  omega
theorem shown_split (a b m : Int) : Txt.split (shown a b m) (" " : Str) = [tx a, tx b, tx m] := split_nums (is := [a, b, m]) (by simp)
theorem shown_len {a b m : Int} (ha : Sm 1900 a) (hb : Sm 1900 b) (hm : Sm 1900 m) : (shown a b m).length ≤ 1000000 := by
  have h1 := tx_length ha
  have h2 := tx_length hb
  have h3 := tx_length hm
  have := PySem.StrLaws.join_length_le (" " : Str) [tx a, tx b, tx m]
  have e : (" " : Str).length = 1 := rfl
  have e2 : shown a b m = Str.join (" " : Str) [tx a, tx b, tx m] := TL.join_eq _ _
  simp only [List.map_cons, List.map_nil, List.sum_cons, List.sum_nil, List.length_cons, List.length_nil, e] at this
  rw [e2]
  omega
theorem sgn_at {x : Str} {i : Nat} {d : D} (h : (sgnD x)[i]? = some d) : ∃ c, c ∈ TL.tl x ∧ d = .str ⟨#[c]⟩ := by
  unfold sgnD at h
  rw [List.getElem?_map] at h
  obtain ⟨c, hc, rfl⟩ := Option.map_eq_some_iff.mp h
  exact ⟨c, List.mem_of_getElem? hc, rfl⟩
theorem sgn_len (x : Str) : (sgnD x).length = x.length := by unfold sgnD; rw [List.length_map, Array.length_toList]; rfl
theorem one_zero {c : Nat} (h : (⟨#[c]⟩ : Str) = Str.ofString "0") : c = 48 := by
  have e : Str.ofString "0" = ⟨#[48]⟩ := by decide +kernel
  rw [e] at h
  injection h with h
  simpa using h
theorem fig_in {i : Int} {c : Nat} (h : c ∈ TL.tl (fg i)) : c ∈ (Str.ofString "0123456789").cps.toList := by
  have d := TL.numL_digits i.natAbs c h
  have e : (Str.ofString "0123456789").cps.toList = [48, 49, 50, 51, 52, 53, 54, 55, 56, 57] := by decide +kernel
  rw [e]
  simp only [List.mem_cons, List.not_mem_nil, or_false]
  omega
theorem shown_app (a b m : Int) : shown a b m = tx a ++ (" " : Str) ++ tx b ++ (" " : Str) ++ tx m := by
  show Txt.join (" " : Str) [tx a, tx b, tx m] = _
  rw [TL.join_eq]
  show tx a ++ (" " : Str) ++ (tx b ++ (" " : Str) ++ tx m) = _
  refine TL.ext_tl ?_
  simp only [TL.tl_append, List.append_assoc]
def sp_line_shown : SpZ Unit := fun ds w Q E => ∃ a b m, ds = [ln a b m] ∧ (m < 1 → E 0 w) ∧ (1 ≤ m → (Sm 1900 a ∧ Sm 1900 b ∧ Sm 1900 m) ∧ Q (.str (tx a ++ (" " : Str) ++ tx b ++ (" " : Str) ++ tx m)) w)
theorem dig_in {c : Nat} : decide (c ∈ (Str.ofString "0123456789").cps.toList) = decide (48 ≤ c ∧ c ≤ 57) := by
  have e : (Str.ofString "0123456789").cps.toList = [48, 49, 50, 51, 52, 53, 54, 55, 56, 57] := by decide +kernel
  rw [e]
  apply decide_eq_decide.mpr
  simp only [List.mem_cons, List.not_mem_nil, or_false]
  omega
theorem dig_mem {c : Nat} : c ∈ (Str.ofString "0123456789").cps.toList ↔ 48 ≤ c ∧ c ≤ 57 := by
  have h := dig_in (c := c)
  exact ⟨fun q => of_decide_eq_true (h ▸ decide_eq_true q), fun q => of_decide_eq_true (h.trans (decide_eq_true q))⟩
theorem sgnL (t : Str) : sgnD t = (TL.tl t).map fun c => D.str ⟨#[c]⟩ := rfl
theorem sgn_ix {x : Str} {i : Nat} {d : D} (h : (sgnD x)[i]? = some d) : ∃ c, (TL.tl x)[i]? = some c ∧ d = .str ⟨#[c]⟩ := by
  rw [sgnL, List.getElem?_map] at h
  obtain ⟨c, hc, rfl⟩ := Option.map_eq_some_iff.mp h
  exact ⟨c, hc, rfl⟩
theorem tk_snoc {α : Type} {l : List α} {i : Nat} {c : α} (h : l[i]? = some c) : l.take (i + 1) = l.take i ++ [c] := by
  rw [List.take_add_one, h]; rfl
theorem sgn_len2 (x : Str) : (sgnD x).length = (TL.tl x).length := by rw [sgnL, List.length_map]
theorem figL_len (l : List Nat) : (figL l).length ≤ l.length := by
  unfold figL
  split
  · rw [List.length_tail]; omega
  · exact Nat.le_refl _
theorem one_ix {x : Str} {c : Nat} {r : List Nat} (h : TL.tl x = c :: r) : atI x.cps.toList 0 = some c := by
  show atI (TL.tl x) 0 = some c
  rw [h]
  unfold atI ixN
  rw [if_pos (Int.le_refl 0), if_pos (by rw [List.length_cons]; omega)]
  rfl
theorem zero_one : (⟨#[48]⟩ : Str) = Str.ofString "0" := by decide +kernel
/-- plain data of depth at most n, as _law_same compares them -/
def Dep : Nat → D → Prop
  | 0, _ => False
  | n + 1, d => d = .non ∨ (∃ x, d = .str x) ∨ (∃ i, d = .int i) ∨ ∃ l, d = .tup l ∧ l.length ≤ 1000 ∧ ∀ e ∈ l, Dep n e
theorem no__law_same {ds : List D} {w : Unit} {Q : D → Unit → Prop} (h : ∃ d, ds = [d, d] ∧ Dep 0 d ∧ Q (.bl true) w) : False := by
  obtain ⟨_, _, h, _⟩ := h; exact h
theorem zip_self {l : List D} {i : Nat} {d : D} (h : (zipT l l)[i]? = some d) : ∃ e, e ∈ l ∧ d = .tup [e, e] := by
  unfold zipT at h
  rw [List.getElem?_map] at h
  obtain ⟨p, hp, rfl⟩ := Option.map_eq_some_iff.mp h
  rw [List.getElem?_zip_eq_some] at hp
  obtain ⟨x, y⟩ := p
  obtain ⟨h1, h2⟩ := hp
  have h1 : l[i]? = some x := h1
  have h2 : l[i]? = some y := h2
  rw [h1] at h2
  cases h2
  exact ⟨x, List.mem_of_getElem? h1, rfl⟩
/-- a text of at most n signs, each below 256 -/
def Ty (n : Nat) (t : Str) : Prop := t.length ≤ n ∧ ∀ c ∈ TL.tl t, c < 256
theorem Ty.le {n k : Nat} {t : Str} (h : Ty n t) (hk : n ≤ k) : Ty k t := ⟨Nat.le_trans h.1 hk, h.2⟩
theorem ty_ok {n : Nat} {t : Str} (h : Ty n t) : PyData.strOk t = true := by
  show t.cps.all (· < 0x110000) = true
  rw [Array.all_eq_true]
  intro i hi
  have : t.cps[i] ∈ TL.tl t := Array.mem_toList_iff.mpr (Array.getElem_mem hi)
  exact decide_eq_true (Nat.lt_trans (h.2 _ this) (by decide))
theorem ty_one {c : Nat} (h : c < 256) : Ty 1 ⟨#[c]⟩ := ⟨Nat.le_refl _, fun x hx => by
  have hx : x ∈ [c] := hx
  rw [List.mem_singleton.mp hx]; exact h⟩
theorem ty_app {n k : Nat} {s t : Str} (h : Ty n s) (g : Ty k t) : Ty (n + k) (s ++ t) := ⟨by rw [slen_app]; have := h.1; have := g.1; omega, fun c hc => by
  rw [TL.tl_append] at hc
  rcases List.mem_append.mp hc with q | q
  · exact h.2 c q
  · exact g.2 c q⟩
/-! which texts write whole numbers, of any size -/
def numA? (l : List Nat) : Bool := !(figL l).isEmpty && (digB (figL l) && (decide ((figL l).head? ≠ some 48) || decide (l = [48])))
def numA (t : Str) : Bool := numA? (TL.tl t)
def numV (t : Str) : Int := (PySem.intText? t).getD 0
theorem numA_e {t : Str} (h : figL (TL.tl t) = []) : numA t = false := by unfold numA numA?; rw [h]; rfl
theorem numA_d {t : Str} (h : digB (figL (TL.tl t)) = false) : numA t = false := by unfold numA numA?; rw [h, Bool.false_and, Bool.and_false]
theorem numA_z {t : Str} {c : Nat} {r : List Nat} (h : figL (TL.tl t) = c :: r) (h1 : c = 48) (h2 : ¬ TL.tl t = [48]) : numA t = false := by
  subst h1
  unfold numA numA?
  rw [h, decide_eq_false h2, decide_eq_false (by intro z; exact z rfl : ¬ (48 :: r).head? ≠ some 48), Bool.or_false, Bool.and_false, Bool.and_false]
theorem numA_t {t : Str} {c : Nat} {r : List Nat} (h : figL (TL.tl t) = c :: r) (hd : digB (figL (TL.tl t)) = true) (h2 : c ≠ 48 ∨ TL.tl t = [48]) : numA t = true := by
  unfold numA numA?
  rw [hd, h]
  rcases h2 with z | z
  · have z2 : decide ((c :: r).head? ≠ some (48 : Nat)) = true := decide_eq_true fun h => z (Option.some.inj h)
    rw [z2]; rfl
  · rw [decide_eq_true z, Bool.or_true]; rfl
theorem smk {i : Int} {k n j : Nat} (h : i.natAbs < 10 ^ k) (hk : k ≤ 3 * j) (hj : 10 * j ≤ n) : Sm n i := Nat.lt_of_lt_of_le h (Nat.le_trans (Nat.pow_le_pow_right (by decide) hk) (by
  rw [Nat.pow_mul]
  exact Nat.le_trans (Nat.pow_le_pow_left (show (10 : Nat) ^ 3 ≤ 2 ^ 10 by decide) j) (by
    rw [← Nat.pow_mul]
    exact Nat.pow_le_pow_right (by decide) hj)))
theorem numA_is {t : Str} (h : numA t = true) (hl : t.length ≤ 500) : ∃ i : Int, t = tx i ∧ Sm 1900 i := by
  unfold numA numA? at h
  rw [TL.len_tl] at hl
  simp only [Bool.and_eq_true, Bool.or_eq_true, Bool.not_eq_true', decide_eq_true_eq] at h
  obtain ⟨h1, h3, h4⟩ := h
  have hne : figL (TL.tl t) ≠ [] := fun e => by rw [e] at h1; cases h1
  have h2 : (figL (TL.tl t)).length ≤ 500 := Nat.le_trans (by
    unfold figL
    split
    · rw [List.length_tail]; omega
    · exact Nat.le_refl _) hl
  by_cases hm : (TL.tl t).head? = some 45
  · have ef : figL (TL.tl t) = (TL.tl t).tail := if_pos hm
    have et : TL.tl t = 45 :: figL (TL.tl t) := by
      rw [ef]
      cases q : TL.tl t with
      | nil => rw [q] at hm; cases hm
      | cons c r => rw [q] at hm; cases hm; rfl
    have h5 : (figL (TL.tl t)).head? ≠ some 48 := h4.elim id fun e => by rw [e] at hm; cases hm
    obtain ⟨c1, c2, c3⟩ := canon _ _ rfl hne (digB_all h3) h5
    refine ⟨-((PySem.NumText.digitsVal (figL (TL.tl t)) : Nat) : Int), TL.ext_tl ?_, smk (k := _) (j := 167) ?_ (Nat.le_trans h2 (by decide)) (by decide)⟩
    · rw [tx_tl, if_pos (by omega), Int.natAbs_neg, Int.natAbs_natCast, c1]; exact et
    · rw [Int.natAbs_neg, Int.natAbs_natCast]; exact c3
  · have ef : figL (TL.tl t) = TL.tl t := if_neg hm
    rw [ef] at hne h2 h3 h4
    rcases h4 with h5 | h5
    · obtain ⟨c1, c2, c3⟩ := canon _ _ rfl hne (digB_all h3) h5
      refine ⟨((PySem.NumText.digitsVal (TL.tl t) : Nat) : Int), TL.ext_tl ?_, smk (k := _) (j := 167) ?_ (Nat.le_trans h2 (by decide)) (by decide)⟩
      · rw [tx_tl, if_neg (by omega), Int.natAbs_natCast, c1]
      · rw [Int.natAbs_natCast]; exact c3
    · exact ⟨0, TL.ext_tl (by rw [h5, tx_tl, if_neg (by decide)]; exact numL_0.symm), (Sm.num 0).le (by decide)⟩
theorem numV_tx {i : Int} (h : Sm 1900 i) : numV (tx i) = i := by unfold numV; rw [tx_int h]; rfl
theorem numA_tx (i : Int) : numA (tx i) = true := by
  unfold numA numA?
  rw [figL_tx]
  have h2 : (TL.numL i.natAbs).isEmpty = false := by
    have := TL.numL_ne i.natAbs
    cases q : TL.numL i.natAbs with
    | nil => exact absurd q this
    | cons _ _ => rfl
  rw [h2, digB_of (TL.numL_digits _)]
  by_cases h0 : i = 0
  · subst h0
    have e : TL.tl (tx 0) = [48] := by rw [tx_tl, if_neg (by decide)]; exact numL_0
    rw [decide_eq_true e, Bool.or_true]; rfl
  · have e : (TL.numL i.natAbs).head? ≠ some 48 := fun e => h0 (by have := numL_hd _ e; omega)
    simp only [e, ne_eq, not_false_eq_true, decide_true, Bool.true_or]; rfl
theorem numV_int {t : Str} (h : numA t = true) (hl : t.length ≤ 500) : PySem.intText? t = some (numV t) ∧ Sm 1900 (numV t) := by
  obtain ⟨i, rfl, hs⟩ := numA_is h hl
  rw [numV_tx hs, tx_int hs]; exact ⟨rfl, hs⟩
def numD (t : Str) : D := if numA t = true then .int (numV t) else .non
theorem numD_t {t : Str} (h : numA t = true) : numD t = .int (numV t) := if_pos h
theorem numD_f {t : Str} (h : numA t = false) : numD t = .non := if_neg (by rw [h]; decide)
/-! signs that are no figures -/
def noFig (l : List Nat) : List Str := (l.filter fun c => !decide (48 ≤ c ∧ c ≤ 57)).map fun c => ⟨#[c]⟩
theorem okDs_strs : ∀ {l : List Str}, (∀ s ∈ l, PyData.strOk s = true) → okDs (l.map D.str) = true
  | [], _ => rfl
  | s :: l, h => by
    show (PyData.strOk s && okDs (l.map D.str)) = true
    rw [h s List.mem_cons_self, okDs_strs fun x hx => h x (List.mem_cons_of_mem _ hx)]; rfl
theorem dpDs_strs : ∀ (l : List Str), dpDs (l.map D.str) = 0
  | [] => rfl
  | s :: l => by
    show max 0 (dpDs (l.map D.str)) = 0
    rw [dpDs_strs l]; rfl
theorem dpD_strs (l : List Str) : dpD (.lst (l.map D.str)) ≤ 64 := by
  show dpDs (l.map D.str) + 1 ≤ 64
  rw [dpDs_strs]; decide
theorem deq_strs (l : List Str) : deq (.lst (l.map D.str)) (.lst []) = l.isEmpty := by
  cases l with
  | nil => rfl
  | cons s l => rfl
theorem digB_noFig {l : List Nat} : (noFig l).isEmpty = digB l := by
  induction l with
  | nil => rfl
  | cons c l ih =>
    unfold noFig digB at *
    rw [List.filter_cons, List.all_cons]
    by_cases h : 48 ≤ c ∧ c ≤ 57
    · rw [decide_eq_true h, Bool.true_and]; simpa using ih
    · rw [decide_eq_false h]; rfl
theorem noFig_snoc {l : List Nat} {i c : Nat} (h : l[i]? = some c) (hc : ¬ (48 ≤ c ∧ c ≤ 57)) : (noFig (l.take i)).map D.str ++ [D.str ⟨#[c]⟩] = (noFig (l.take (i + 1))).map D.str := by
  rw [tk_snoc h]
  unfold noFig
  rw [List.filter_append, List.filter_cons, decide_eq_false hc, List.map_append, List.map_append]; rfl
theorem noFig_same {l : List Nat} {i c : Nat} (h : l[i]? = some c) (hc : 48 ≤ c ∧ c ≤ 57) : (noFig (l.take (i + 1))).map D.str = (noFig (l.take i)).map D.str := by
  rw [tk_snoc h]
  unfold noFig
  rw [List.filter_append, List.filter_cons, decide_eq_true hc, List.filter_nil, List.map_append, List.map_append]
  exact List.append_nil _
theorem noFig_ok {l : List Nat} (h : ∀ c ∈ l, c < 256) : ∀ s ∈ noFig l, PyData.strOk s = true := fun s hs => by
  obtain ⟨c, hc, rfl⟩ := List.mem_map.mp hs
  exact ty_ok (ty_one (h c (List.mem_filter.mp hc).1))
/-! words -/
theorem spl_sum : ∀ (l acc : List Nat), ((TL.spl [32] 0 acc l).map (·.length)).sum + (TL.spl [32] 0 acc l).length = acc.length + l.length + 1
  | [], acc => by rw [TL.spl_nil]; rfl
  | c :: r, acc => by
    by_cases h : TL.pre [32] (c :: r) = true
    · rw [TL.spl_hit h]
      have := spl_sum r []
      simp only [List.map_cons, List.sum_cons, List.length_cons, List.length_nil] at this ⊢
      show acc.length + ((TL.spl [32] 0 [] r).map (·.length)).sum + ((TL.spl [32] 0 [] r).length + 1) = _
      omega
    · rw [TL.spl_miss (by simpa using h)]
      have := spl_sum r (acc ++ [c])
      rw [List.length_append, List.length_singleton] at this
      rw [List.length_cons]
      omega
theorem spl_in : ∀ (l acc : List Nat) (w : List Nat), w ∈ TL.spl [32] 0 acc l → ∀ c ∈ w, c ∈ acc ∨ c ∈ l
  | [], acc, w, hw, c, hc => by
    rw [TL.spl_nil] at hw
    rw [List.mem_singleton.mp hw] at hc; exact .inl hc
  | x :: r, acc, w, hw, c, hc => by
    by_cases h : TL.pre [32] (x :: r) = true
    · rw [TL.spl_hit h] at hw
      rcases List.mem_cons.mp hw with q | q
      · rw [q] at hc; exact .inl hc
      · rcases spl_in r [] w q c hc with z | z
        · cases z
        · exact .inr (List.mem_cons_of_mem _ z)
    · rw [TL.spl_miss (by simpa using h)] at hw
      rcases spl_in r (acc ++ [x]) w hw c hc with z | z
      · rcases List.mem_append.mp z with z | z
        · exact .inl z
        · rw [List.mem_singleton.mp z]; exact .inr List.mem_cons_self
      · exact .inr (List.mem_cons_of_mem _ z)
abbrev wds (t : Str) : List Str := Txt.split t (" " : Str)
theorem wds_spl (t : Str) : (wds t).map TL.tl = TL.spl [32] 0 [] (TL.tl t) := TL.split_spl t (" " : Str) (by decide +kernel) (TL.kind_ok (by decide +kernel))
theorem tl_lens (l : List Str) : (l.map TL.tl).map (·.length) = l.map (·.length) := by
  rw [List.map_map]
  refine List.map_congr_left fun x _ => ?_
  exact (TL.len_tl x).symm
theorem wds_sum (t : Str) : ((wds t).map (·.length)).sum + (wds t).length = t.length + 1 := by
  have h := spl_sum (TL.tl t) []
  rw [← wds_spl, tl_lens, List.length_map, List.length_nil, Nat.zero_add, ← TL.len_tl] at h
  exact h
theorem mem_sum : ∀ {l : List Nat} {n : Nat}, n ∈ l → n ≤ l.sum
  | m :: l, n, h => by
    rw [List.sum_cons]
    rcases List.mem_cons.mp h with q | q
    · omega
    · have := mem_sum q; omega
theorem wds_pos (t : Str) : 0 < (wds t).length := by
  have h := wds_sum t
  rcases Nat.eq_zero_or_pos (wds t).length with q | q
  · rw [List.eq_nil_of_length_eq_zero q] at h
    simp at h
  · exact q
theorem wds_ty {n : Nat} {t w : Str} (h : Ty n t) (hw : w ∈ wds t) : Ty n w := by
  refine ⟨?_, fun c hc => ?_⟩
  · have h1 := wds_sum t
    have h2 := mem_sum (List.mem_map.mpr ⟨w, hw, rfl⟩ : w.length ∈ (wds t).map (·.length))
    have := wds_pos t
    have := h.1
    omega
  · have h1 : TL.tl w ∈ TL.spl [32] 0 [] (TL.tl t) := by rw [← wds_spl]; exact List.mem_map.mpr ⟨w, hw, rfl⟩
    rcases spl_in _ _ _ h1 c hc with z | z
    · cases z
    · exact h.2 c z
/-! what read_line answers -/
def rdB (t : Str) : Bool := decide ((wds t).length = 3) && (wds t).all numA
def rdV (t : Str) (k : Nat) : Int := numV ((wds t).getD k Str.empty)
def rdL (t : Str) : D := ln (rdV t 0) (rdV t 1) (rdV t 2)
theorem rdB_len {t : Str} (h : ¬ (wds t).length = 3) : rdB t = false := by unfold rdB; rw [decide_eq_false h, Bool.false_and]
theorem wds3 {t : Str} (h : (wds t).length = 3) : ∃ x y z, wds t = [x, y, z] := by
  match q : wds t, h with
  | [x, y, z], _ => exact ⟨x, y, z, rfl⟩
theorem rdB_3 {t x y z : Str} (h : wds t = [x, y, z]) : rdB t = (numA x && (numA y && numA z)) := by
  unfold rdB
  rw [h]
  simp [List.all_cons]
theorem rdV_3 {t x y z : Str} (h : wds t = [x, y, z]) : rdV t 0 = numV x ∧ rdV t 1 = numV y ∧ rdV t 2 = numV z := by unfold rdV; rw [h]; exact ⟨rfl, rfl, rfl⟩
def dueD (t : Str) : D := if rdB t = false then .tup [.non, .str (Str.ofString "text")] else if rdV t 2 < 1 then .tup [.non, .str (Str.ofString "line")] else .tup [rdL t, .str (Str.ofString "")]
theorem dueD_t {t : Str} (h : rdB t = false) : dueD t = .tup [.non, .str (Str.ofString "text")] := if_pos h
theorem dueD_l {t : Str} (h : rdB t = true) (h2 : rdV t 2 < 1) : dueD t = .tup [.non, .str (Str.ofString "line")] := by unfold dueD; rw [if_neg (by rw [h]; decide), if_pos h2]
theorem dueD_n {t : Str} (h : rdB t = true) (h2 : ¬ rdV t 2 < 1) : dueD t = .tup [rdL t, .str (Str.ofString "")] := by unfold dueD; rw [if_neg (by rw [h]; decide), if_neg h2]
theorem dep_l (a b m : Int) : Dep 4 (ln a b m) := by
  refine .inr (.inr (.inr ⟨_, rfl, Nat.le_of_ble_eq_true rfl, fun e he => ?_⟩))
  simp only [List.mem_cons, List.not_mem_nil, or_false] at he
  rcases he with rfl | rfl | rfl <;> exact .inr (.inr (.inl ⟨_, rfl⟩))
theorem dep_dueD (t : Str) : Dep 4 (dueD t) := by
  unfold dueD
  split
  · refine .inr (.inr (.inr ⟨_, rfl, by decide, fun e he => ?_⟩))
    simp only [List.mem_cons, List.not_mem_nil, or_false] at he
    rcases he with rfl | rfl
    · exact .inl rfl
    · exact .inr (.inl ⟨_, rfl⟩)
  · split
    · refine .inr (.inr (.inr ⟨_, rfl, by decide, fun e he => ?_⟩))
      simp only [List.mem_cons, List.not_mem_nil, or_false] at he
      rcases he with rfl | rfl
      · exact .inl rfl
      · exact .inr (.inl ⟨_, rfl⟩)
    · refine .inr (.inr (.inr ⟨_, rfl, Nat.le_of_ble_eq_true rfl, fun e he => ?_⟩))
      simp only [List.mem_cons, List.not_mem_nil, or_false] at he
      rcases he with rfl | rfl
      · refine .inr (.inr (.inr ⟨_, rfl, Nat.le_of_ble_eq_true rfl, fun e he => ?_⟩))
        simp only [List.mem_cons, List.not_mem_nil, or_false] at he
        rcases he with rfl | rfl | rfl <;> exact .inr (.inr (.inl ⟨_, rfl⟩))
      · exact .inr (.inl ⟨_, rfl⟩)
theorem strs_get {l : List Str} {i : Nat} {d : D} (h : (l.map D.str)[i]? = some d) : ∃ s, l[i]? = some s ∧ d = .str s := by
  rw [List.getElem?_map] at h
  obtain ⟨s, hs, rfl⟩ := Option.map_eq_some_iff.mp h
  exact ⟨s, hs, rfl⟩
theorem map_snoc {α β : Type} {l : List α} {i : Nat} {c : α} (f : α → β) (h : l[i]? = some c) : (l.take i).map f ++ [f c] = (l.take (i + 1)).map f := by
  rw [tk_snoc h, List.map_append]; rfl
def sp_number_read : SpZ Unit := fun ds w Q E => ∃ t, ds = [.str t] ∧ Ty 500 t ∧ (numA t = false → E 2 w) ∧ (numA t = true → Q (.int (numV t)) w)
theorem wds_lenL {t : Str} {n : Nat} (h : Ty n t) : ((Txt.split t (" " : Str)).map D.str).length ≤ n + 1 := by
  rw [List.length_map]
  have h1 := wds_sum t
  have := h.1
  show (wds t).length ≤ _
  omega
/-! parts of texts -/
theorem tl_cutL (z : Str) (k : Nat) : TL.tl (cutS z none (some (k : Int))) = (TL.tl z).take (min k z.length) := by
  have e : HT.sIx z.length z.length (some (k : Int)) = min k z.length := HT.sIx_nat z.length z.length k
  unfold cutS
  rw [e]
  show ((TL.tl z).drop 0).take (min k z.length - 0) = _
  rw [List.drop_zero, Nat.sub_zero]
theorem tl_cutR (z : Str) (k : Nat) : TL.tl (cutS z (some (k : Int)) none) = (TL.tl z).drop (min k z.length) := by
  have e : HT.sIx z.length 0 (some (k : Int)) = min k z.length := HT.sIx_nat z.length 0 k
  unfold cutS
  rw [e]
  show ((TL.tl z).drop (min k z.length)).take (z.length - min k z.length) = _
  refine List.take_of_length_le ?_
  rw [List.length_drop, ← TL.len_tl]; exact Nat.le_refl _
theorem ty_L {n : Nat} {z : Str} (h : Ty n z) {k : Int} (h0 : 0 ≤ k) (h1 : k ≤ z.length) : Ty k.toNat (cutS z none (some k)) := by
  obtain ⟨j, rfl⟩ := Int.eq_ofNat_of_zero_le h0
  refine ⟨?_, fun c hc => h.2 c ?_⟩
  · rw [TL.len_tl, tl_cutL, List.length_take]; omega
  · rw [tl_cutL] at hc; exact List.mem_of_mem_take hc
theorem ty_R {n : Nat} {z : Str} (h : Ty n z) {k : Int} (h0 : 0 ≤ k) : Ty (z.length - k.toNat) (cutS z (some k) none) := by
  obtain ⟨j, rfl⟩ := Int.eq_ofNat_of_zero_le h0
  refine ⟨?_, fun c hc => h.2 c ?_⟩
  · rw [TL.len_tl, tl_cutR, List.length_drop, ← TL.len_tl]; omega
  · rw [tl_cutR] at hc; exact List.mem_of_mem_drop hc
theorem atI_ix {l : List Nat} {k : Int} (h0 : 0 ≤ k) (h1 : k < l.length) (ha : l.all (· < 256) = true) : ∃ c, atI l k = some c ∧ c < 256 := by
  have e : ixN l.length k = some k.toNat := ixN_in h0 h1
  have hl : k.toNat < l.length := by omega
  refine ⟨l[k.toNat], ?_, of_decide_eq_true (List.all_eq_true.mp ha _ (List.getElem_mem hl))⟩
  unfold atI
  rw [e]
  exact List.getElem?_eq_getElem hl
theorem ty_lit {n : Nat} {z : Str} (h : (decide (z.length ≤ n) && (TL.tl z).all (· < 256)) = true) : Ty n z := by
  rw [Bool.and_eq_true] at h
  exact ⟨of_decide_eq_true h.1, fun c hc => of_decide_eq_true (List.all_eq_true.mp h.2 c hc)⟩
/-! words put together -/
theorem jn_len (ys : List Str) : (Txt.join (" " : Str) ys).length ≤ (ys.map (·.length)).sum + ys.length := by
  have := PySem.StrLaws.join_length_le (" " : Str) ys
  have e : (" " : Str).length = 1 := rfl
  rw [e, Nat.mul_one] at this
  rw [show Txt.join (" " : Str) ys = Str.join (" " : Str) ys from TL.join_eq _ _]
  exact this
theorem spl_join_in : ∀ (ys : List Str) (c : Nat), c ∈ TL.tl (Str.join (" " : Str) ys) → c = 32 ∨ ∃ y ∈ ys, c ∈ TL.tl y
  | [], c, h => by cases h
  | [y], c, h => .inr ⟨y, List.mem_singleton.mpr rfl, h⟩
  | y :: z :: l, c, h => by
    have e : Str.join (" " : Str) (y :: z :: l) = y ++ (" " : Str) ++ Str.join (" " : Str) (z :: l) := rfl
    rw [e, TL.tl_append, TL.tl_append] at h
    rcases List.mem_append.mp h with h | h
    · rcases List.mem_append.mp h with h | h
      · exact .inr ⟨y, List.mem_cons_self, h⟩
      · exact .inl (List.mem_singleton.mp h)
    · rcases spl_join_in (z :: l) c h with q | ⟨x, hx, q⟩
      · exact .inl q
      · exact .inr ⟨x, List.mem_cons_of_mem _ hx, q⟩
theorem ty_join {n : Nat} {ys : List Str} (h : (ys.map (·.length)).sum + ys.length ≤ n) (ha : ∀ y ∈ ys, ∀ c ∈ TL.tl y, c < 256) : Ty n (Txt.join (" " : Str) ys) := by
  refine ⟨Nat.le_trans (jn_len ys) h, fun c hc => ?_⟩
  rw [show Txt.join (" " : Str) ys = Str.join (" " : Str) ys from TL.join_eq _ _] at hc
  rcases spl_join_in ys c hc with q | ⟨y, hy, q⟩
  · rw [q]; decide
  · exact ha y hy c q
/-- a row of words whose lengths, with a blank each, come to at most n -/
def Row (n : Nat) (ys : List Str) : Prop := (ys.map (·.length)).sum + ys.length ≤ n ∧ ∀ y ∈ ys, ∀ c ∈ TL.tl y, c < 256
theorem row_wds {n : Nat} {t : Str} (h : Ty n t) : Row (t.length + 1) (wds t) := ⟨by rw [wds_sum]; exact Nat.le_refl _, fun y hy => (wds_ty h hy).2⟩
theorem lsum_take_drop (ys : List Nat) (k : Nat) : (ys.take k).sum + (ys.drop k).sum = ys.sum := by
  rw [← List.sum_append, List.take_append_drop]
theorem row_ins {n k : Nat} {ys : List Str} {w : Str} (h : Row n ys) (hw : Ty 3 w) : Row (n + 4) (ys.take k ++ [w] ++ ys.drop k) := by
  refine ⟨?_, fun y hy => ?_⟩
  · have h1 := h.1
    have h2 := hw.1
    have h3 := lsum_take_drop (ys.map (·.length)) k
    have h4 : (ys.take k).length + (ys.drop k).length = ys.length := by rw [← List.length_append, List.take_append_drop]
    rw [← List.map_take, ← List.map_drop] at h3
    simp only [List.map_append, List.map_cons, List.map_nil, List.sum_append, List.sum_cons, List.sum_nil, List.length_append, List.length_cons, List.length_nil]
    omega
  · rcases List.mem_append.mp hy with q | q
    · rcases List.mem_append.mp q with q | q
      · exact h.2 y (List.mem_of_mem_take q)
      · rw [List.mem_singleton.mp q]; exact hw.2
    · exact h.2 y (List.mem_of_mem_drop q)
theorem sub_sum : ∀ {l m : List Nat}, List.Sublist l m → l.sum ≤ m.sum
  | _, _, .slnil => Nat.le_refl _
  | _, _, .cons a h => by have := sub_sum h; rw [List.sum_cons]; omega
  | _, _, .cons₂ a h => by have := sub_sum h; rw [List.sum_cons, List.sum_cons]; omega
theorem row_pop {n k : Nat} {ys : List Str} (h : Row n ys) : Row n (ys.eraseIdx k) := by
  refine ⟨Nat.le_trans ?_ h.1, fun y hy => h.2 y (List.mem_of_mem_eraseIdx hy)⟩
  have hs : List.Sublist (ys.eraseIdx k) ys := List.eraseIdx_sublist ys k
  have h1 := hs.length_le
  have h2 := sub_sum (hs.map (fun x : Str => x.length))
  omega
theorem row_set {n k : Nat} {ys : List Str} {w : Str} (h : Row n ys) (hw : Ty 3 w) : Row (n + 4) (ys.set k w) := by
  by_cases hk : k < ys.length
  · have e : ys.set k w = ys.take k ++ [w] ++ ys.drop (k + 1) := by
      rw [List.set_eq_take_append_cons_drop, if_pos hk, List.append_assoc]; rfl
    have h3 : Row (n + 4) (ys.take k ++ [w] ++ ys.drop k) := row_ins h hw
    rw [e]
    refine ⟨Nat.le_trans ?_ h3.1, fun y hy => ?_⟩
    · have e2 : ys.drop k = ys[k] :: ys.drop (k + 1) := List.drop_eq_getElem_cons hk
      rw [e2]
      simp only [List.map_append, List.map_cons, List.map_nil, List.sum_append, List.sum_cons, List.sum_nil, List.length_append, List.length_cons, List.length_nil]
      omega
    · refine h3.2 y ?_
      rcases List.mem_append.mp hy with q | q
      · exact List.mem_append_left _ q
      · refine List.mem_append_right _ ?_
        rw [List.drop_eq_getElem_cons hk]
        exact List.mem_cons_of_mem _ q
  · rw [List.set_eq_of_length_le (by omega)]
    exact ⟨Nat.le_trans h.1 (by omega), h.2⟩
theorem row_rev {n : Nat} {ys : List Str} (h : Row n ys) : Row n ys.reverse := by
  refine ⟨?_, fun y hy => h.2 y (List.mem_reverse.mp hy)⟩
  rw [List.map_reverse, List.sum_reverse, List.length_reverse]; exact h.1
theorem row_ty {n : Nat} {ys : List Str} (h : Row n ys) : Ty n (Txt.join (" " : Str) ys) := ty_join h.1 h.2
theorem row_fit {n : Nat} {ys : List Str} (h : Row n ys) : (ys.map (·.length)).sum + ys.length * (" " : Str).length ≤ n := by
  have e : (" " : Str).length = 1 := rfl
  rw [e, Nat.mul_one]; exact h.1
theorem odd16 {r : Int} (h0 : 0 ≤ r) (h1 : r < 16) : ∃ w, atI [D.str (Str.ofString "0"), D.str (Str.ofString "-0"), D.str (Str.ofString "-1"), D.str (Str.ofString "01"), D.str (Str.ofString "-01"), D.str (Str.ofString "+1"), D.str (Str.ofString ""), D.str (Str.ofString "-"), D.str (Str.ofString "--1"), D.str (Str.ofString "1_0"), D.str (Str.ofString "1.0"), D.str (Str.ofString "1e5"), D.str (Str.ofString "x"), D.str (Str.ofString "7"), D.str (Str.ofString "-3"), D.str (Str.ofString "00")] r = some (.str w) ∧ Ty 3 w := by
  have : r = 0 ∨ r = 1 ∨ r = 2 ∨ r = 3 ∨ r = 4 ∨ r = 5 ∨ r = 6 ∨ r = 7 ∨ r = 8 ∨ r = 9 ∨ r = 10 ∨ r = 11 ∨ r = 12 ∨ r = 13 ∨ r = 14 ∨ r = 15 := by omega
  rcases this with rfl | rfl | rfl | rfl | rfl | rfl | rfl | rfl | rfl | rfl | rfl | rfl | rfl | rfl | rfl | rfl
  all_goals exact ⟨_, rfl, ty_lit (by decide +kernel)⟩
def sp_read_line : SpZ Unit := fun ds w Q E => ∃ t, ds = [.str t] ∧ Ty 500 t ∧ (rdB t = false → E 2 w) ∧ (rdB t = true → (rdV t 2 < 1 → E 0 w) ∧ (1 ≤ rdV t 2 → Stp (∀ d, d = rdL t → Q d w)))
/-- a deck: its cells, the next one, the seed -/
def Deck (w : Mst) (d : Addr) : Prop := ∃ (c : Addr) (cells : List Int) (i s : Int), wGet w d = some [.ref c, .int i, .int s] ∧ wGet w c = some (cells.map D.int) ∧ c ≠ d ∧ 0 < cells.length ∧ 0 ≤ i
/-- a draw below n -/
def Drawn (n : Int) (d : D) : Prop := ∃ r, d = .int r ∧ 0 ≤ r ∧ r < n
theorem cutD_map {α : Type} (f : α → D) (l : List α) (a b : Option Int) : Z.cutD (l.map f) a b = ((l.drop (HT.sIx l.length 0 a)).take (HT.sIx l.length l.length b - HT.sIx l.length 0 a)).map f := by
  unfold Z.cutD
  rw [List.length_map, List.map_take, List.map_drop]
theorem cutD_all {ns : List Int} (h : ns.length ≤ 63) : Z.cutD (ns.map D.int) none (some 63) = ns.map D.int := by
  rw [cutD_map]
  have e : HT.sIx ns.length ns.length (some 63) = ns.length := by
    show HT.sIx ns.length ns.length (some ((63 : Nat) : Int)) = _
    rw [HT.sIx_nat]
    omega
  have e0 : HT.sIx ns.length 0 none = 0 := rfl
  rw [e, e0, List.drop_zero, Nat.sub_zero, List.take_of_length_le (Nat.le_refl _)]
theorem deck_new {w : Mst} {c d : Addr} {l : List Int} {s : Int} (h : wGet ((c, l.map D.int) :: w) d = none) (hl : 0 < l.length) : Deck ((d, [.ref c, .int 0, .int s]) :: (c, l.map D.int) :: w) d := by
  have ne : c ≠ d := fun e => by rw [e, wGet_cons, if_pos rfl] at h; cases h
  exact ⟨c, l, 0, s, by rw [wGet_cons, if_pos rfl], by rw [wGet_cons, if_neg ne, wGet_cons, if_pos rfl], ne, hl, by decide⟩
def sp__law_deck : SpZ Mst := fun ds w Q _ => ∃ ns : List Int, ds = [.arr (ns.map D.int)] ∧ ns.length ≤ 63 ∧ ∀ d w', Deck w' d → Q (.ref d) w'
def sp__law_take : SpZ Mst := fun ds w Q _ => ∃ d n, ds = [.ref d, .int n] ∧ Deck w d ∧ DivOk n ∧ ∀ r w', Deck w' d → 0 ≤ r → r < n → Q (.int r) w'
def sp__law_far : SpZ Mst := fun ds w Q _ => ∃ d, ds = [.ref d] ∧ Deck w d ∧ ∀ r w', Deck w' d → 0 ≤ r → r < 10 ^ 30 → Q (.int r) w'
def sp__law_wide : SpZ Mst := fun ds w Q _ => ∃ d n, ds = [.ref d, .int n] ∧ Deck w d ∧ 2 ≤ n ∧ n ≤ 60 ∧ ∀ r w', Deck w' d → 0 ≤ r → r < 10 ^ 60 → Q (.int r) w'
def sp__law_signed : SpZ Mst := fun ds w Q _ => ∃ d n, ds = [.ref d, .int n] ∧ Deck w d ∧ 2 ≤ n ∧ n ≤ 60 ∧ ∀ r w', Deck w' d → -(10 ^ 60) < r → r < 10 ^ 60 → Q (.int r) w'
def sp__law_any_line : SpZ Mst := fun ds w Q _ => ∃ d n, ds = [.ref d, .int n] ∧ Deck w d ∧ 2 ≤ n ∧ n ≤ 60 ∧ Stp (∀ a b m w', Deck w' d → -(10 ^ 60) < a → a ≤ 10 ^ 60 → -(10 ^ 60) < b → b ≤ 10 ^ 60 → 1 ≤ m → m < 10 ^ 60 → Q (ln a b m) w')
/-- what _law_flags tells of the refusal e -/
def flg (e : Nat) : List D := [.bl (decide (e = 0)), .bl (decide (e = 1)), .bl (decide (e = 2)), .bl (decide (e = 3)), .bl (decide (e = 4)), .bl (decide (e = 5)), .bl (decide (e = 6)), .bl false, .bl false]
def sp__law_flags (ec : Nat → Addr) : SpZ Unit := fun ds w Q _ => ∃ e : Nat, ds = [.exc (ec e)] ∧ e < 7 ∧ Q (.lst (flg e)) w
theorem at_ints (rs : List Int) {v : Int} (v0 : 0 ≤ v) (v1 : v < rs.length) : ∃ u, atI (rs.map D.int) v = some (.int u) ∧ u ∈ rs := by
  have hv : v.toNat < rs.length := by omega
  refine ⟨rs[v.toNat], ?_, List.getElem_mem hv⟩
  unfold atI ixN
  rw [List.length_map, if_pos v0, if_pos v1]
  show (rs.map D.int)[v.toNat]? = _
  rw [List.getElem?_map, List.getElem?_eq_getElem hv]
  rfl
theorem bnd_sm {m z : Int} (x y : Int) (m1 : 1 ≤ m) (ml : m < 10 ^ 60) (z0 : 0 ≤ z) (z1 : z < 1000000) : ∀ q ∈ [0, m, 0 - 1 - x % (10 ^ Int.toNat 60 - 1), 1, m - 1, y % m] ++ [min (10 ^ Int.toNat 60 - 1) (m + z)], Sm 300 q := by
  have e60 : (10 : Int) ^ Int.toNat 60 = 10 ^ 60 := rfl
  have b1 := Int.emod_nonneg x (show (10 : Int) ^ 60 - 1 ≠ 0 by decide)
  have b2 := Int.emod_lt_of_pos x (show 0 < (10 : Int) ^ 60 - 1 by decide)
  have b3 := Int.emod_nonneg y (show m ≠ 0 by omega)
  have b4 := Int.emod_lt_of_pos y (show 0 < m by omega)
  have lim : ∀ q : Int, -(10 ^ 61) < q → q < 10 ^ 61 → Sm 300 q := fun q h1 h2 => Sm.le (n := 245) (Sm.lt10s (Int.le_of_lt h1) (Int.le_of_lt h2)) (by decide)
  rw [e60]
  intro q hq
  simp only [List.cons_append, List.nil_append, List.mem_cons, List.not_mem_nil, or_false] at hq
  rcases hq with rfl | rfl | rfl | rfl | rfl | rfl | rfl <;> exact lim _ (by omega) (by omega)
theorem okL_ints : ∀ rs : List Int, okDs (rs.map D.int) = true
  | [] => rfl
  | r :: rs => by show (okD (.int r) && okDs (rs.map D.int)) = true; rw [okL_ints rs]; rfl
theorem dpLs_ints : ∀ rs : List Int, dpDs (rs.map D.int) = 0
  | [] => rfl
  | r :: rs => by show max (dpD (.int r)) (dpDs (rs.map D.int)) = 0; rw [dpLs_ints rs]; rfl
theorem dpL_ints (rs : List Int) : dpD (.lst (rs.map D.int)) ≤ 64 := by show dpDs (rs.map D.int) + 1 ≤ 64; rw [dpLs_ints]; decide
theorem bl_one {ω : Type} {b : Bool} {w : ω} {Q : D → ω → Prop} (e : b = true) (h : Q (.bl true) w) : Q (.bl b) w := e ▸ h
def sp__law_same (n : Nat) : SpZ Unit := fun ds w Q _ => ∃ d, ds = [d, d] ∧ Dep n d ∧ Q (.bl true) w
def sp__law_number_in : SpZ Unit := fun ds w Q E => ∃ t, ds = [.str t] ∧ Ty 500 t ∧ Stp (∀ d, d = numD t → Q d w)
def sp__law_due : SpZ Unit := fun ds w Q E => ∃ t, ds = [.str t] ∧ Ty 500 t ∧ Stp (∀ d, d = dueD t → Q d w)
def sp__law_told : SpZ Unit := fun ds w Q E => ∃ t, ds = [.str t] ∧ Ty 500 t ∧ Stp (∀ d, d = dueD t → Q d w)
def sp__law_right : SpZ Unit := fun ds w Q E => ∃ t, ds = [.str t] ∧ Ty 500 t ∧ Q (.bl true) w
def sp__law_sign : SpZ Mst := fun ds w Q _ => ∃ d, ds = [.ref d] ∧ Deck w d ∧ ∀ c w', Deck w' d → c < 256 → Q (.str ⟨#[c]⟩) w'
def sp__law_spoilt : SpZ Mst := fun ds w Q _ => ∃ d t, ds = [.ref d, .str t] ∧ Deck w d ∧ Ty 400 t ∧ Stp (∀ r w', Deck w' d → Ty (t.length + 10) r → Q (.str r) w')
theorem sm60x {i : Int} (h0 : -(10 ^ 60) < i) (h1 : i ≤ 10 ^ 60) : i.natAbs ≤ 10 ^ 60 ∧ Sm 1900 i := by
  have h : i.natAbs ≤ 10 ^ 60 := by
    have e : ((10 ^ 60 : Nat) : Int) = 10 ^ 60 := by norm_cast
    omega
  exact ⟨h, Sm.le (n := 200) (Nat.lt_of_le_of_lt h (by decide)) (by decide)⟩
theorem tx_ty {i : Int} (h : i.natAbs ≤ 10 ^ 60) : Ty 63 (tx i) := by
  have h1 := TL.numL_len (n := i.natAbs) (k := 61) (by decide) (Nat.lt_of_le_of_lt h (by decide))
  refine ⟨?_, fun c hc => ?_⟩
  · rw [TL.len_tl, tx_tl]
    split
    · rw [List.length_cons]; omega
    · omega
  · rw [tx_tl] at hc
    split at hc
    · rcases List.mem_cons.mp hc with q | q
      · rw [q]; decide
      · have := TL.numL_digits _ c q; omega
    · have := TL.numL_digits _ c hc; omega
theorem rd_shown {a b m : Int} (ha : Sm 1900 a) (hb : Sm 1900 b) (hm : Sm 1900 m) : rdB (shown a b m) = true ∧ rdV (shown a b m) 2 = m ∧ rdL (shown a b m) = ln a b m := by
  have e : wds (shown a b m) = [tx a, tx b, tx m] := shown_split a b m
  obtain ⟨v0, v1, v2⟩ := rdV_3 e
  refine ⟨by rw [rdB_3 e, numA_tx, numA_tx, numA_tx]; rfl, by rw [v2, numV_tx hm], ?_⟩
  unfold rdL
  rw [v0, v1, v2, numV_tx ha, numV_tx hb, numV_tx hm]
theorem dep_s (x : Str) : Dep 4 (.str x) := .inr (.inl ⟨_, rfl⟩)
theorem some12 : ∀ d ∈ ([D.str (Str.ofString ""), .str (Str.ofString " "), .str (Str.ofString "1 2"), .str (Str.ofString "1 2 3 4"), .str (Str.ofString "1 2 3 "), .str (Str.ofString " 1 2 3"), .str (Str.ofString "1  2 3"), .str (Str.ofString "0 0 1"), .str (Str.ofString "0 0 0"), .str (Str.ofString "-0 1 1")] ++ [.str (Str.ofString "1 2 3\n"), .str (Str.ofString "a b 0")] : List D), ∃ t, d = .str t ∧ Ty 500 t := by
  intro d hd
  simp only [List.cons_append, List.nil_append, List.mem_cons, List.not_mem_nil, or_false] at hd
  rcases hd with rfl | rfl | rfl | rfl | rfl | rfl | rfl | rfl | rfl | rfl | rfl | rfl
  all_goals exact ⟨_, rfl, ty_lit (by decide +kernel)⟩
abbrev sp_law : SpZ Mst := spLaw []
theorem ok_need_line {P : Program} {w : World} {K : PySem.W.Frag} {mg : Str → Option Value} {base : Heap} {ec : Nat → Addr} {CL : Addr} (T : Tx K mg ec CL) {f : Addr} {fd : FuncData} (F : Fun K "need_line" "need_line" s_need_line f fd) (hm : mg "need_line" = some (.ref f)) (hb : Binds K fd ["line"] []) :
    Fd P w K mg base (W0 ec) 1 "need_line" sp_need_line := by
  have nd := sc_need_line.nd
  refine fnz F sc_need_line hm hb (by
    unfold sp_need_line; intro ds w Q Q' E E' k k'
    repeat' (first | exact id | exact k _ _ | exact k' _ _ | refine Exists.imp fun _ => ?_ | refine And.imp ?_ ?_ | refine Or.imp ?_ ?_ | refine Z.impR ?_ | refine Z.allR fun _ => ?_ | refine Z.Stp.imp ?_)) (by
    intro ds w' Q E h; unfold sp_need_line at h; obtain ⟨a, b, m, rfl, -⟩ := h; rfl) (fun cdv A outer s H E hr =>
  (zb_one (z_if (z_tcmp op_lt l_lt (z_ix ix_seq l_ix (z_var 0) z_int) z_int)
  (zb_one (z_raise (c := 0) T.e0))
  zb_nil))) ?_
  intro ds w Q E h
  unfold sp_need_line at h
  clear nd hb hm F T fd f base mg K CL
  obtain ⟨a, b, m, rfl, h1, h2⟩ := h
  kby_none
  · exact h1 (by assumption)
  · exact h2 (by omega)
theorem ok_line_shown {P : Program} {w : World} {K : PySem.W.Frag} {mg : Str → Option Value} {base : Heap} {ec : Nat → Addr} {CL : Addr} (T : Tx K mg ec CL) {f : Addr} {fd : FuncData} (F : Fun K "line_shown" "line_shown" s_line_shown f fd) (hm : mg "line_shown" = some (.ref f)) (hb : Binds K fd ["line"] []) (d_need_line : Fd P w K mg base (W0 ec) 1 "need_line" sp_need_line) :
    Fd P w K mg base (W0 ec) 2 "line_shown" sp_line_shown := by
  have nd := sc_line_shown.nd
  refine fnz F sc_line_shown hm hb (by
    unfold sp_line_shown; intro ds w Q Q' E E' k k'
    repeat' (first | exact id | exact k _ _ | exact k' _ _ | refine Exists.imp fun _ => ?_ | refine And.imp ?_ ?_ | refine Or.imp ?_ ?_ | refine Z.impR ?_ | refine Z.allR fun _ => ?_ | refine Z.Stp.imp ?_)) (by
    intro ds w' Q E h; unfold sp_line_shown at h; obtain ⟨a, b, m, rfl, -⟩ := h; rfl) (fun cdv A outer s H E hr =>
  (zb_cons (z_drop (z_callP d_need_line hr (z_cons (z_var 0) z_nil)))
  (zb_one (z_ret (z_tjoin z_str (z_cons (z_fz (z_lcT (own := [("number", 1)]) (ok := by show blkC ["line", "number"] (defScope s_line_shown) _ _ = true; decide +kernel) (z_var 0) (c_ok (gzt := (gg_name 1)) (fun _ _ _ _ _ => (g_name 1 nd).pg) (fun _ _ _ _ _ => (z_strC T.str_ (z_cons (z_var 1) z_nil)))) nd)) z_nil)))))) ?_
  intro ds w Q E h
  unfold sp_line_shown at h
  clear nd d_need_line hb hm F T fd f ec base mg K CL
  obtain ⟨a, b, m, rfl, h1, h2⟩ := h
  by_cases c : m < 1
  · kby_none
    exact h1 c
  obtain ⟨⟨sa, sb, sm⟩, q⟩ := h2 (by omega)
  rw [← shown_app] at q
  kby_none
  refine un_comp ?_
  kby_none
  refine ⟨[tx a, tx b, tx m], rfl, shown_fits sa sb sm, ?_⟩
  exact q
theorem ok_number_read {P : Program} {w : World} {K : PySem.W.Frag} {mg : Str → Option Value} {base : Heap} {ec : Nat → Addr} {CL : Addr} (T : Tx K mg ec CL) {f : Addr} {fd : FuncData} (F : Fun K "number_read" "number_read" s_number_read f fd) (hm : mg "number_read" = some (.ref f)) (hb : Binds K fd ["word"] []) :
    Fd P w K mg base (W0 ec) 1 "number_read" sp_number_read := by
  have nd := sc_number_read.nd
  refine fnz F sc_number_read hm hb (by
    unfold sp_number_read; intro ds w Q Q' E E' k k'
    repeat' (first | exact id | exact k _ _ | exact k' _ _ | refine Exists.imp fun _ => ?_ | refine And.imp ?_ ?_ | refine Or.imp ?_ ?_ | refine Z.impR ?_ | refine Z.allR fun _ => ?_ | refine Z.Stp.imp ?_)) (by
    intro ds w' Q E h; unfold sp_number_read at h; obtain ⟨t, rfl, -⟩ := h; rfl) (fun cdv A outer s H E hr =>
  (zb_cons (z_set 1 (z_var 0) nd)
  (zb_cons (z_if (z_tcmp (o_eq hr) l_eq (z_slS (z_var 0) z_oN (z_oS z_int)) z_str)
  (zb_one (z_set 1 (z_slS (z_var 0) (z_oS z_int) z_oN) nd))
  zb_nil)
  (zb_cons (z_if (z_pw (z_or (z_tcmp (o_eq hr) l_eq (z_var 1) z_str) (z_or1 (z_tcmp (o_ne hr) l_ne (z_fz (z_lcI (own := [("sign", 2)]) (ok := by show blkC ["word", "figures", "sign"] (defScope s_number_read) _ _ = true; decide +kernel) (i_str (z_var 1)) (c_if (gzt := (gg_name 2)) (fun _ _ _ _ _ => (g_name 2 nd).pg) (fun _ _ _ _ _ => (z_tcmp op_notIn_sign l_notInS1 (z_var 2) (z_globE T.c_FIGURES))) (fun _ _ _ _ _ => (z_var 2))) nd)) (z_fz (z_lst z_nil))))))
  (zb_one (z_raise (c := 2) T.e2))
  zb_nil)
  (zb_cons (z_if (z_pw (z_and (z_tcmp (o_eq hr) l_eq (z_ix ix_seq l_ix (z_var 1) z_int) z_str) (z_and1 (z_tcmp (o_ne hr) l_ne (z_var 0) z_str))))
  (zb_one (z_raise (c := 2) T.e2))
  zb_nil)
  (zb_one (z_ret (z_intC T.int_ (z_cons (z_var 0) z_nil))))))))) ?_
  intro ds w Q E h
  unfold sp_number_read at h
  clear nd hb hm F T fd f base mg K CL
  obtain ⟨t, rfl, ht, q1, q2⟩ := h
  have hl : t.length ≤ 500 := ht.1
  have hl2 : t.length ≤ 16777216 := by omega
  have tl0 := tl_cut0 t
  have c48 : ∀ c : Nat, (⟨#[c]⟩ : Str) = Str.ofString "0" ↔ c = 48 := fun c => ⟨one_zero, fun e => by rw [e]; exact zero_one⟩
  have t0 : t = Str.ofString "0" ↔ TL.tl t = [48] := ⟨fun e => by rw [e]; rfl, fun e => TL.ext_tl e⟩
  have ok1 : ∀ l : List Nat, (∀ c ∈ l, c ∈ TL.tl t) → okD (.lst ((noFig l).map D.str)) = true := fun l h => okDs_strs (noFig_ok fun c hc => ht.2 c (h c hc))
  have sub : ∀ c ∈ figL (TL.tl t), c ∈ TL.tl t := fun c hc => by
    unfold figL at hc
    split at hc
    · exact List.mem_of_mem_tail hc
    · exact hc
  have dp1 : ∀ l : List Nat, dpD (.lst ((noFig l).map D.str)) ≤ 64 := fun l => dpD_strs _
  by_cases neg : (TL.tl t).head? = some 45
  · have ef : TL.tl (cutS t (some 1) none) = figL (TL.tl t) := by rw [tl_cut1]; unfold figL; rw [if_pos neg]; exact List.drop_one
    have cm : cutS t none (some 1) = Str.ofString "-" := TL.ext_tl (by
      rw [tl0]
      cases q : TL.tl t with
      | nil => rw [q] at neg; cases neg
      | cons c r => rw [q] at neg; cases neg; rfl)
    have fl : (cutS t (some 1) none).length = (figL (TL.tl t)).length := by rw [TL.len_tl]; exact congrArg List.length ef
    have fl2 := figL_len (TL.tl t)
    rw [← TL.len_tl] at fl2
    have fl3 : (cutS t (some 1) none).length ≤ 16777216 := by omega
    have fs3 : (sgnD (cutS t (some 1) none)).length ≤ 100000 := by rw [sgn_len2, ← TL.len_tl]; omega
    by_cases e0 : figL (TL.tl t) = []
    · have q := q1 (numA_e e0)
      have fe : (cutS t (some 1) none) = Str.ofString "" := TL.ext_tl (by rw [ef, e0]; rfl)
      kby_none
      all_goals first | exact q | (exfalso; exact absurd cm (by assumption)) | (exfalso; exact absurd fe (by assumption))
    obtain ⟨c, r, er⟩ : ∃ c r, figL (TL.tl t) = c :: r := by
      cases q : figL (TL.tl t) with
      | nil => exact absurd q e0
      | cons c r => exact ⟨c, r, rfl⟩
    have fne : (cutS t (some 1) none) ≠ Str.ofString "" := fun e => e0 (by rw [← ef, e]; rfl)
    have ic : atI (cutS t (some 1) none).cps.toList 0 = some c := one_ix (ef.trans er)
    have e48 := c48 c
    have okF : okD (.lst ((noFig (TL.tl (cutS t (some 1) none))).map D.str)) = true := by rw [ef]; exact ok1 _ sub
    have dpF := dp1 (TL.tl (cutS t (some 1) none))
    have eqF : deqs ((noFig (TL.tl (cutS t (some 1) none))).map D.str) [] = digB (figL (TL.tl t)) := by rw [← deq_lst, deq_strs, digB_noFig]; exact congrArg digB ef
    by_cases hd : digB (figL (TL.tl t)) = true
    · rw [hd] at eqF
      by_cases h48 : c = 48
      · have y48 : (⟨#[c]⟩ : Str) = Str.ofString "0" := e48.mpr h48
        by_cases ht0 : TL.tl t = [48]
        · have y0 := t0.mpr ht0
          have hA : numA t = true := numA_t er hd (.inr ht0)
          obtain ⟨ix, sx⟩ := numV_int hA hl
          have q := q2 hA
          kby_none
          all_goals try (first | (exfalso; exact absurd cm (by assumption)) | (exfalso; exact absurd (by assumption) fne))
          refine ⟨fun i acc w' => acc = (noFig ((TL.tl (cutS t (some 1) none)).take i)).map D.str, rfl, ?_, ?_⟩
          · rintro i d acc w' hd rfl
            obtain ⟨c, hc, rfl⟩ := sgn_ix hd
            kby_none
            · rename_i hn; exact noFig_snoc hc (fun z => hn (dig_mem.mpr z))
            · rename_i hn; exact (noFig_same hc (dig_mem.mp hn)).symm
          · rintro acc w' rfl
            rw [sgn_len2, List.take_length]
            kby_none
            all_goals first
              | exact q
              | (exfalso; exact absurd (eqF.symm.trans (by assumption)) (by decide))
              | (exfalso; exact absurd (by assumption) n48)
              | (exfalso; exact absurd y48 (by assumption))
              | (exfalso; exact absurd (by assumption) n0)
              | (exfalso; exact absurd y0 (by assumption))
              | skip
            all_goals kby_none
            all_goals exact q
        · have n0 : ¬ t = Str.ofString "0" := fun e => ht0 (t0.mp e)
          have q := q1 (numA_z er h48 ht0)
          kby_none
          all_goals try (first | (exfalso; exact absurd cm (by assumption)) | (exfalso; exact absurd (by assumption) fne))
          refine ⟨fun i acc w' => acc = (noFig ((TL.tl (cutS t (some 1) none)).take i)).map D.str, rfl, ?_, ?_⟩
          · rintro i d acc w' hd rfl
            obtain ⟨c, hc, rfl⟩ := sgn_ix hd
            kby_none
            · rename_i hn; exact noFig_snoc hc (fun z => hn (dig_mem.mpr z))
            · rename_i hn; exact (noFig_same hc (dig_mem.mp hn)).symm
          · rintro acc w' rfl
            rw [sgn_len2, List.take_length]
            kby_none
            all_goals first
              | exact q
              | (exfalso; exact absurd (eqF.symm.trans (by assumption)) (by decide))
              | (exfalso; exact absurd (by assumption) n48)
              | (exfalso; exact absurd y48 (by assumption))
              | (exfalso; exact absurd (by assumption) n0)
              | (exfalso; exact absurd y0 (by assumption))
              | skip
            all_goals kby_none
            all_goals exact q
      · have n48 : ¬ (⟨#[c]⟩ : Str) = Str.ofString "0" := fun e => h48 (e48.mp e)
        have hA : numA t = true := numA_t er hd (.inl h48)
        obtain ⟨ix, sx⟩ := numV_int hA hl
        have q := q2 hA
        kby_none
        all_goals try (first | (exfalso; exact absurd cm (by assumption)) | (exfalso; exact absurd (by assumption) fne))
        refine ⟨fun i acc w' => acc = (noFig ((TL.tl (cutS t (some 1) none)).take i)).map D.str, rfl, ?_, ?_⟩
        · rintro i d acc w' hd rfl
          obtain ⟨c, hc, rfl⟩ := sgn_ix hd
          kby_none
          · rename_i hn; exact noFig_snoc hc (fun z => hn (dig_mem.mpr z))
          · rename_i hn; exact (noFig_same hc (dig_mem.mp hn)).symm
        · rintro acc w' rfl
          rw [sgn_len2, List.take_length]
          kby_none
          all_goals first
            | exact q
            | (exfalso; exact absurd (eqF.symm.trans (by assumption)) (by decide))
            | (exfalso; exact absurd (by assumption) n48)
            | (exfalso; exact absurd y48 (by assumption))
            | (exfalso; exact absurd (by assumption) n0)
            | (exfalso; exact absurd y0 (by assumption))
            | skip
          all_goals kby_none
          all_goals exact q
    · have hd : digB (figL (TL.tl t)) = false := by simpa using hd
      rw [hd] at eqF
      have q := q1 (numA_d hd)
      kby_none
      all_goals try (first | (exfalso; exact absurd cm (by assumption)) | (exfalso; exact absurd (by assumption) fne))
      refine ⟨fun i acc w' => acc = (noFig ((TL.tl (cutS t (some 1) none)).take i)).map D.str, rfl, ?_, ?_⟩
      · rintro i d acc w' hd rfl
        obtain ⟨c, hc, rfl⟩ := sgn_ix hd
        kby_none
        · rename_i hn; exact noFig_snoc hc (fun z => hn (dig_mem.mpr z))
        · rename_i hn; exact (noFig_same hc (dig_mem.mp hn)).symm
      · rintro acc w' rfl
        rw [sgn_len2, List.take_length]
        kby_none
        all_goals first
          | exact q
          | (exfalso; exact absurd (eqF.symm.trans (by assumption)) (by decide))
          | (exfalso; exact absurd (by assumption) n48)
          | (exfalso; exact absurd y48 (by assumption))
          | (exfalso; exact absurd (by assumption) n0)
          | (exfalso; exact absurd y0 (by assumption))
          | skip
        all_goals kby_none
        all_goals exact q
  · have ef : TL.tl t = figL (TL.tl t) := by unfold figL; rw [if_neg neg]
    have cm : ¬ cutS t none (some 1) = Str.ofString "-" := fun h => neg (by
      have e := congrArg TL.tl h
      rw [tl0] at e
      cases q : TL.tl t with
      | nil => rw [q] at e; cases e
      | cons c r =>
        rw [q] at e
        have e : [c] = [45] := e
        cases e; rfl)
    have fl3 : (t).length ≤ 16777216 := by omega
    have fs3 : (sgnD (t)).length ≤ 100000 := by rw [sgn_len2, ← TL.len_tl]; omega
    by_cases e0 : figL (TL.tl t) = []
    · have q := q1 (numA_e e0)
      have fe : (t) = Str.ofString "" := TL.ext_tl (by rw [ef, e0]; rfl)
      kby_none
      all_goals first | exact q | (exfalso; exact absurd (by assumption) cm) | (exfalso; exact absurd fe (by assumption))
    obtain ⟨c, r, er⟩ : ∃ c r, figL (TL.tl t) = c :: r := by
      cases q : figL (TL.tl t) with
      | nil => exact absurd q e0
      | cons c r => exact ⟨c, r, rfl⟩
    have fne : (t) ≠ Str.ofString "" := fun e => e0 (by rw [← ef, e]; rfl)
    have ic : atI (t).cps.toList 0 = some c := one_ix (ef.trans er)
    have e48 := c48 c
    have okF : okD (.lst ((noFig (TL.tl (t))).map D.str)) = true := by rw [ef]; exact ok1 _ sub
    have dpF := dp1 (TL.tl (t))
    have eqF : deqs ((noFig (TL.tl (t))).map D.str) [] = digB (figL (TL.tl t)) := by rw [← deq_lst, deq_strs, digB_noFig]; exact congrArg digB ef
    by_cases hd : digB (figL (TL.tl t)) = true
    · rw [hd] at eqF
      by_cases h48 : c = 48
      · have y48 : (⟨#[c]⟩ : Str) = Str.ofString "0" := e48.mpr h48
        by_cases ht0 : TL.tl t = [48]
        · have y0 := t0.mpr ht0
          have hA : numA t = true := numA_t er hd (.inr ht0)
          obtain ⟨ix, sx⟩ := numV_int hA hl
          have q := q2 hA
          kby_none
          all_goals try (first | (exfalso; exact absurd (by assumption) cm) | (exfalso; exact absurd (by assumption) fne))
          refine ⟨fun i acc w' => acc = (noFig ((TL.tl (t)).take i)).map D.str, rfl, ?_, ?_⟩
          · rintro i d acc w' hd rfl
            obtain ⟨c, hc, rfl⟩ := sgn_ix hd
            kby_none
            · rename_i hn; exact noFig_snoc hc (fun z => hn (dig_mem.mpr z))
            · rename_i hn; exact (noFig_same hc (dig_mem.mp hn)).symm
          · rintro acc w' rfl
            rw [sgn_len2, List.take_length]
            kby_none
            all_goals first
              | exact q
              | (exfalso; exact absurd (eqF.symm.trans (by assumption)) (by decide))
              | (exfalso; exact absurd (by assumption) n48)
              | (exfalso; exact absurd y48 (by assumption))
              | (exfalso; exact absurd (by assumption) n0)
              | (exfalso; exact absurd y0 (by assumption))
              | skip
            all_goals kby_none
            all_goals exact q
        · have n0 : ¬ t = Str.ofString "0" := fun e => ht0 (t0.mp e)
          have q := q1 (numA_z er h48 ht0)
          kby_none
          all_goals try (first | (exfalso; exact absurd (by assumption) cm) | (exfalso; exact absurd (by assumption) fne))
          refine ⟨fun i acc w' => acc = (noFig ((TL.tl (t)).take i)).map D.str, rfl, ?_, ?_⟩
          · rintro i d acc w' hd rfl
            obtain ⟨c, hc, rfl⟩ := sgn_ix hd
            kby_none
            · rename_i hn; exact noFig_snoc hc (fun z => hn (dig_mem.mpr z))
            · rename_i hn; exact (noFig_same hc (dig_mem.mp hn)).symm
          · rintro acc w' rfl
            rw [sgn_len2, List.take_length]
            kby_none
            all_goals first
              | exact q
              | (exfalso; exact absurd (eqF.symm.trans (by assumption)) (by decide))
              | (exfalso; exact absurd (by assumption) n48)
              | (exfalso; exact absurd y48 (by assumption))
              | (exfalso; exact absurd (by assumption) n0)
              | (exfalso; exact absurd y0 (by assumption))
              | skip
            all_goals kby_none
            all_goals exact q
      · have n48 : ¬ (⟨#[c]⟩ : Str) = Str.ofString "0" := fun e => h48 (e48.mp e)
        have hA : numA t = true := numA_t er hd (.inl h48)
        obtain ⟨ix, sx⟩ := numV_int hA hl
        have q := q2 hA
        kby_none
        all_goals try (first | (exfalso; exact absurd (by assumption) cm) | (exfalso; exact absurd (by assumption) fne))
        refine ⟨fun i acc w' => acc = (noFig ((TL.tl (t)).take i)).map D.str, rfl, ?_, ?_⟩
        · rintro i d acc w' hd rfl
          obtain ⟨c, hc, rfl⟩ := sgn_ix hd
          kby_none
          · rename_i hn; exact noFig_snoc hc (fun z => hn (dig_mem.mpr z))
          · rename_i hn; exact (noFig_same hc (dig_mem.mp hn)).symm
        · rintro acc w' rfl
          rw [sgn_len2, List.take_length]
          kby_none
          all_goals first
            | exact q
            | (exfalso; exact absurd (eqF.symm.trans (by assumption)) (by decide))
            | (exfalso; exact absurd (by assumption) n48)
            | (exfalso; exact absurd y48 (by assumption))
            | (exfalso; exact absurd (by assumption) n0)
            | (exfalso; exact absurd y0 (by assumption))
            | skip
          all_goals kby_none
          all_goals exact q
    · have hd : digB (figL (TL.tl t)) = false := by simpa using hd
      rw [hd] at eqF
      have q := q1 (numA_d hd)
      kby_none
      all_goals try (first | (exfalso; exact absurd (by assumption) cm) | (exfalso; exact absurd (by assumption) fne))
      refine ⟨fun i acc w' => acc = (noFig ((TL.tl (t)).take i)).map D.str, rfl, ?_, ?_⟩
      · rintro i d acc w' hd rfl
        obtain ⟨c, hc, rfl⟩ := sgn_ix hd
        kby_none
        · rename_i hn; exact noFig_snoc hc (fun z => hn (dig_mem.mpr z))
        · rename_i hn; exact (noFig_same hc (dig_mem.mp hn)).symm
      · rintro acc w' rfl
        rw [sgn_len2, List.take_length]
        kby_none
        all_goals first
          | exact q
          | (exfalso; exact absurd (eqF.symm.trans (by assumption)) (by decide))
          | (exfalso; exact absurd (by assumption) n48)
          | (exfalso; exact absurd y48 (by assumption))
          | (exfalso; exact absurd (by assumption) n0)
          | (exfalso; exact absurd y0 (by assumption))
          | skip
        all_goals kby_none
        all_goals exact q
theorem ok_read_line {P : Program} {w : World} {K : PySem.W.Frag} {mg : Str → Option Value} {base : Heap} {ec : Nat → Addr} {CL : Addr} (T : Tx K mg ec CL) {f : Addr} {fd : FuncData} (F : Fun K "read_line" "read_line" s_read_line f fd) (hm : mg "read_line" = some (.ref f)) (hb : Binds K fd ["text"] []) (d_need_line : Fd P w K mg base (W0 ec) 1 "need_line" sp_need_line) (d_number_read : Fd P w K mg base (W0 ec) 1 "number_read" sp_number_read) :
    Fd P w K mg base (W0 ec) 2 "read_line" sp_read_line := by
  have nd := sc_read_line.nd
  refine fnz F sc_read_line hm hb (by
    unfold sp_read_line; intro ds w Q Q' E E' k k'
    repeat' (first | exact id | exact k _ _ | exact k' _ _ | refine Exists.imp fun _ => ?_ | refine And.imp ?_ ?_ | refine Or.imp ?_ ?_ | refine Z.impR ?_ | refine Z.allR fun _ => ?_ | refine Z.Stp.imp ?_)) (by
    intro ds w' Q E h; unfold sp_read_line at h; obtain ⟨t, rfl, -⟩ := h; rfl) (fun cdv A outer s H E hr =>
  (zb_cons (z_set 1 (z_fz (z_tsplit (z_var 0) (z_cons z_str z_nil))) nd)
  (zb_cons (z_if (z_tcmp (o_ne hr) l_ne (z_len T.len_ (z_cons (z_var 1) z_nil)) z_int)
  (zb_one (z_raise (c := 2) T.e2))
  zb_nil)
  (zb_cons (z_set 2 (z_tupC T.tuple_ (z_cons (z_fz (z_lcE (own := [("word", 3)]) (ok := by show blkC ["text", "words", "line", "word"] (defScope s_read_line) _ _ = true; decide +kernel) (z_var 1) (cE_ok (gzt := (gg_name 3)) (fun _ _ _ _ _ => (g_name 3 nd).pg) (fun _ _ _ _ _ _ => (z_callP d_number_read hr (z_cons (z_var 3) z_nil)))) nd)) z_nil)) nd)
  (zb_cons (z_drop (z_callP d_need_line hr (z_cons (z_var 2) z_nil)))
  (zb_one (z_ret (z_var 2)))))))) ?_
  intro ds w Q E h
  unfold sp_read_line at h
  clear nd d_need_line d_number_read hb hm F T fd f base mg K CL
  obtain ⟨t, rfl, ht, q1, q2⟩ := h
  have hl : t.length ≤ 1000000 := by have := ht.1; omega
  have hl0 : ((" " : Str).length == 0) = false := rfl
  by_cases h3 : (wds t).length = 3
  · obtain ⟨x, y, z, e⟩ := wds3 h3
    have e' : Txt.split t (" " : Str) = [x, y, z] := e
    have tx_ : Ty 500 x := wds_ty ht (by rw [e]; simp)
    have ty_ : Ty 500 y := wds_ty ht (by rw [e]; simp)
    have tz_ : Ty 500 z := wds_ty ht (by rw [e]; simp)
    rw [rdB_3 e] at q1 q2
    obtain ⟨v0, v1, v2⟩ := rdV_3 e
    unfold rdL at q2
    rw [v0, v1, v2] at q2
    have sl : ([D.str x, .str y, .str z] : List D).length ≤ 100000 := Nat.le_of_ble_eq_true rfl
    kby_none
    all_goals rw [e'] at *
    · rename_i hne; exact absurd rfl hne
    · rfl
    · refine un_compE ?_
      cases hx : numA x
      · have q := q1 (by rw [hx]; rfl)
        kby_none
        all_goals first | exact q | (exfalso; exact absurd (hx.symm.trans (by assumption)) (by decide))
      cases hy : numA y
      · have q := q1 (by rw [hx, hy]; rfl)
        kby_none
        all_goals first | exact q | (exfalso; exact absurd (hx.symm.trans (by assumption)) (by decide)) | (exfalso; exact absurd (hy.symm.trans (by assumption)) (by decide))
      cases hz : numA z
      · have q := q1 (by rw [hx, hy, hz]; rfl)
        kby_none
        all_goals first | exact q | (exfalso; exact absurd (hx.symm.trans (by assumption)) (by decide)) | (exfalso; exact absurd (hy.symm.trans (by assumption)) (by decide)) | (exfalso; exact absurd (hz.symm.trans (by assumption)) (by decide))
      obtain ⟨qa, qb⟩ := q2 (by rw [hx, hy, hz]; rfl)
      kby_none
      all_goals first | exact qa (by assumption) | exact (qb (by assumption)).out _ rfl | (exfalso; exact absurd (hx.symm.trans (by assumption)) (by decide)) | (exfalso; exact absurd (hy.symm.trans (by assumption)) (by decide)) | (exfalso; exact absurd (hz.symm.trans (by assumption)) (by decide))
  · have q := q1 (rdB_len h3)
    have h4 : ¬ ((Txt.split t (" " : Str)).map D.str).length = 3 := by rw [List.length_map]; exact h3
    kby_none
    all_goals first | exact q | (exfalso; omega)
theorem ok__law_deck {P : Program} {w : World} {K : PySem.W.Frag} {mg : Str → Option Value} {base : Heap} {ec : Nat → Addr} {CL : Addr} (T : Tx K mg ec CL) {f : Addr} {fd : FuncData} (F : Fun K "_law_deck" "_law_deck" s__law_deck f fd) (hm : mg "_law_deck" = some (.ref f)) (hb : Binds K fd ["_law_script"] []) :
    Fd P w K mg base (WL K ec) 1 "_law_deck" sp__law_deck := by
  have nd := sc__law_deck.nd
  refine fnz F sc__law_deck hm hb (by
    unfold sp__law_deck; intro ds w Q Q' E E' k k'
    repeat' (first | exact id | exact k _ _ | exact k' _ _ | refine Exists.imp fun _ => ?_ | refine And.imp ?_ ?_ | refine Or.imp ?_ ?_ | refine Z.impR ?_ | refine Z.allR fun _ => ?_ | refine Z.Stp.imp ?_)) (by
    intro ds w' Q E h; unfold sp__law_deck at h; obtain ⟨ns, rfl, -⟩ := h; rfl) (fun cdv A outer s H E hr =>
  (zb_cons (z_own 1 (z_cat (z_fz (z_slL (z_var 0) z_oN (z_oS z_int))) (z_fz (z_lst (z_cons (z_len T.len_ (z_cons (z_var 0) z_nil)) z_nil)))) nd)
  (zb_cons (z_set 2 (z_op op_mod l_mod (z_op o_add l_add (z_op o_add l_add (z_op o_mul l_mul (z_sum T.sum_ (z_cons (z_fz (z_slL (z_var 0) z_oN (z_oS z_int))) z_nil)) z_int) (z_op o_mul l_mul z_int (z_len T.len_ (z_cons (z_var 0) z_nil)))) z_int) z_int) nd)
  (zb_cons (z_if (z_tcmp (o_eq hr) l_eq (z_op op_mod l_mod (z_sum T.sum_ (z_cons (z_fz (z_slL (z_var 0) z_oN (z_oS z_int))) z_nil)) z_int) z_int)
  (zb_one (z_forR1 3 T.range_ (z_cons (z_lenO 1 T.len_) z_nil)
  (zb_cons (z_set 4 (z_op op_mod l_mod (z_op o_mul l_mul (z_op o_add l_add (z_op o_add l_add (z_op op_mod l_mod (z_ixO 1 (z_var 3)) z_int) (z_op o_mul l_mul z_int (z_var 3))) z_int) z_int) z_int) nd)
  (zb_cons (z_set 4 (z_op op_mod l_mod (z_op o_mul l_mul (z_op op_mod l_mod (z_op o_add l_add (z_op o_mul l_mul (z_var 4) (z_var 4)) (z_op o_mul l_mul z_int (z_var 3))) z_int) z_int) z_int) nd)
  (zb_one (z_setO 1 (z_var 3) (z_op o_add l_add (z_op o_mul l_mul (z_op o_mul l_mul (z_var 4) (z_var 4)) z_int) (z_op op_mod l_mod (z_op o_mul l_mul (z_var 4) z_int) z_int)))))) nd))
  zb_nil)
  (zb_toW 1 (zb_one (z_retW (z_cons (z_var 1) (z_cons z_int (z_cons (z_var 2) z_nil)))))))))) ?_
  intro ds w Q E h
  unfold sp__law_deck at h
  clear nd hb hm F T fd f ec base mg K CL
  obtain ⟨ns, rfl, hlen, h⟩ := h
  have hc : Z.cutD (ns.map D.int) none (some 63) = ns.map D.int := cutD_all hlen
  obtain ⟨cs, hce, hcl⟩ : ∃ cs : List Int, Z.cutD (ns.map D.int) none (some 63) ++ [D.int ((ns.map D.int).length : Int)] = cs.map D.int ∧ cs.length = ns.length + 1 := ⟨ns ++ [(ns.length : Int)], by rw [hc, List.length_map, List.map_append]; rfl, by simp⟩
  kby_none
  · rw [hc]; simp only [List.length_map, List.length_append, List.length_cons, List.length_nil]; omega
  · rw [hce]
    refine ⟨fun i δ w' => ∃ (l : List Int) (x y : Sl) (s : Int), δ = [.val (.arr (ns.map D.int)), .own (l.map D.int), .val (.int s), x, y] ∧ l.length = cs.length, ⟨cs, _, _, _, rfl, rfl⟩, ?_, ?_⟩
    · rintro i δ w' hi ⟨l, x, y, s, rfl, hl⟩
      rw [Int.toNat_natCast, List.length_map] at hi
      obtain ⟨z, hz, -⟩ := atI_int (ns := l) (k := 0 + (i : Int)) (by omega) (by omega)
      have hj : ixN (l.map D.int).length (0 + (i : Int)) = some (0 + (i : Int)).toNat := ixN_in (by omega) (by rw [List.length_map]; omega)
      have hs : Sm 6 (0 + (i : Int)) := by unfold Sm; omega
      kby_none
      exact ⟨l.set _ _, _, _, _, by first | (rw [List.map_set]; done) | (rw [List.map_set]; rfl), by rw [List.length_set]; exact hl⟩
    · rintro δ w' ⟨l, x, y, s, rfl, hl⟩
      kby_none
      exact h _ _ (deck_new (by assumption) (by omega))
  · rename_i c _ d hd
    rw [hce] at hd ⊢
    exact h _ _ (deck_new hd (by omega))
theorem ok__law_take {P : Program} {w : World} {K : PySem.W.Frag} {mg : Str → Option Value} {base : Heap} {ec : Nat → Addr} {CL : Addr} (T : Tx K mg ec CL) {f : Addr} {fd : FuncData} (F : Fun K "_law_take" "_law_take" s__law_take f fd) (hm : mg "_law_take" = some (.ref f)) (hb : Binds K fd ["_law_deck_here", "_law_many"] []) :
    Fd P w K mg base (WL K ec) 1 "_law_take" sp__law_take := by
  have nd := sc__law_take.nd
  refine fnz F sc__law_take hm hb (by
    unfold sp__law_take; intro ds w Q Q' E E' k k'
    repeat' (first | exact id | exact k _ _ | exact k' _ _ | refine Exists.imp fun _ => ?_ | refine And.imp ?_ ?_ | refine Or.imp ?_ ?_ | refine Z.impR ?_ | refine Z.allR fun _ => ?_ | refine Z.Stp.imp ?_)) (by
    intro ds w' Q E h; unfold sp__law_take at h; obtain ⟨d, n, rfl, -⟩ := h; rfl) (fun cdv A outer s H E hr =>
  (zb_cons (z_set 2 (z_op op_mod l_mod (z_ixW (z_var 0) z_int) (z_lenW T.len_ (z_ixW (z_var 0) z_int))) nd)
  (zb_cons (z_setW (z_var 0) z_int (z_op o_add l_add (z_ixW (z_var 0) z_int) z_int))
  (zb_cons (z_set 3 (z_ixW (z_ixW (z_var 0) z_int) (z_var 2)) nd)
  (zb_cons (z_if (z_pw (z_or (z_tcmp (o_eq hr) l_eq (z_var 3) z_int) (z_or1 (z_tcmp (o_eq hr) l_eq (z_var 3) (z_un un_neg l_neg z_int)))))
  (zb_cons (z_set 4 (z_op op_mod l_mod (z_op o_mul l_mul (z_op op_mod l_mod (z_op o_add l_add (z_ixW (z_var 0) z_int) (z_op o_mul l_mul z_int (z_ixW (z_var 0) z_int))) z_int) z_int) z_int) nd)
  (zb_cons (z_set 4 (z_op op_mod l_mod (z_op o_mul l_mul (z_op op_mod l_mod (z_op o_add l_add (z_op o_mul l_mul (z_var 4) (z_var 4)) (z_op o_mul l_mul z_int (z_ixW (z_var 0) z_int))) z_int) z_int) z_int) nd)
  (zb_one (z_ret (z_op op_mod l_mod (z_op o_div l_div (z_var 4) z_int) (z_var 1))))))
  zb_nil)
  (zb_cons (z_setW (z_ixW (z_var 0) z_int) (z_var 2) (z_op o_div l_div (z_var 3) (z_var 1)))
  (zb_one (z_ret (z_op op_mod l_mod (z_var 3) (z_var 1)))))))))) ?_
  intro ds w Q E h
  unfold sp__law_take at h
  clear nd hb hm F T fd f ec base mg K CL
  obtain ⟨d, n, rfl, hd, hn, h⟩ := h
  obtain ⟨c, cells, i, s, h1, h2, h3, h4, h5⟩ := hd
  have hl : (0 : Int) < ((cells.map D.int).length : Int) := by rw [List.length_map]; omega
  have m0 := Int.emod_nonneg i (show ((cells.map D.int).length : Int) ≠ 0 by omega)
  have m1 := Int.emod_lt_of_pos i hl
  obtain ⟨z, hz, -⟩ := atI_int (ns := cells) (k := i % ((cells.map D.int).length : Int)) m0 (by rw [List.length_map] at m1 ⊢; exact m1)
  have g1 : wGet (wSet w d [.ref c, .int (i + 1), .int s]) d = some [.ref c, .int (i + 1), .int s] := by rw [wGet_set, if_pos rfl, h1]; rfl
  have g2 : wGet (wSet w d [.ref c, .int (i + 1), .int s]) c = some (cells.map D.int) := by rw [wGet_set, if_neg h3]; exact h2
  have D1 : Deck (wSet w d [.ref c, .int (i + 1), .int s]) d := ⟨c, cells, i + 1, s, g1, g2, h3, h4, by omega⟩
  refine ⟨_, _, h1, rfl, _, _, h1, rfl, _, h2, hl, ?_⟩
  refine ⟨_, _, h1, rfl, _, _, h1, rfl, ?_⟩
  refine ⟨_, _, g1, rfl, _, _, g2, hz, ?_⟩
  refine ⟨eqI, fun _ => ⟨fun _ => ?t1, fun hf => nomatch hf⟩, fun _ => ⟨eqI, fun _ => ?t2, fun _ => ?f⟩⟩
  case f =>
    refine ⟨hn, _, _, g1, rfl, _, _, g2, ixN_in m0 m1, ?_⟩
    refine ⟨hn.1, ?_⟩
    refine h _ _ ⟨c, cells.set (i % ((cells.map D.int).length : Int)).toNat (z / n), i + 1, s, ?_, ?_, h3, by rw [List.length_set]; exact h4, by omega⟩ (Int.emod_nonneg _ (by have := hn.1; omega)) (Int.emod_lt_of_pos _ hn.1)
    · show wGet (wSet (wSet w d [.ref c, .int (i + 1), .int s]) c _) d = _; rw [wGet_set, if_neg h3.symm]; exact g1
    · show wGet (wSet (wSet w d [.ref c, .int (i + 1), .int s]) c _) c = _; rw [wGet_set, if_pos rfl, g2, List.map_set]; rfl
  all_goals
    refine ⟨_, _, g1, rfl, _, _, g1, rfl, by kt_field, by decide, by kt_field, by decide, ?_⟩
    refine ⟨by kt_field, _, _, g1, rfl, by kt_field, by decide, by kt_field, by decide, ?_⟩
    refine ⟨DivOk.of (by decide) (Sm.num _) (by decide), hn.1, ?_⟩
    exact h _ _ D1 (Int.emod_nonneg _ (by have := hn.1; omega)) (Int.emod_lt_of_pos _ hn.1)
theorem ok__law_far {P : Program} {w : World} {K : PySem.W.Frag} {mg : Str → Option Value} {base : Heap} {ec : Nat → Addr} {CL : Addr} (T : Tx K mg ec CL) {f : Addr} {fd : FuncData} (F : Fun K "_law_far" "_law_far" s__law_far f fd) (hm : mg "_law_far" = some (.ref f)) (hb : Binds K fd ["_law_deck_here"] []) (d__law_take : Fd P w K mg base (WL K ec) 1 "_law_take" sp__law_take) :
    Fd P w K mg base (WL K ec) 2 "_law_far" sp__law_far := by
  have nd := sc__law_far.nd
  refine fnz F sc__law_far hm hb (by
    unfold sp__law_far; intro ds w Q Q' E E' k k'
    repeat' (first | exact id | exact k _ _ | exact k' _ _ | refine Exists.imp fun _ => ?_ | refine And.imp ?_ ?_ | refine Or.imp ?_ ?_ | refine Z.impR ?_ | refine Z.allR fun _ => ?_ | refine Z.Stp.imp ?_)) (by
    intro ds w' Q E h; unfold sp__law_far at h; obtain ⟨d, rfl, -⟩ := h; rfl) (fun cdv A outer s H E hr =>
  (zb_cons (z_set 1 z_int nd)
  (zb_cons (z_forR1 2 T.range_ (z_cons z_int z_nil)
  (zb_one (z_set 1 (z_op o_add l_add (z_op o_mul l_mul (z_var 1) (z_op op_pow l_pow z_int z_int)) (z_call d__law_take hr (z_cons (z_var 0) (z_cons (z_op op_pow l_pow z_int z_int) z_nil)))) nd)) nd)
  (zb_one (z_ret (z_var 1)))))) ?_
  intro ds w Q E h
  unfold sp__law_far at h
  clear nd d__law_take hb hm F T fd f ec base mg K CL
  obtain ⟨d, rfl, hd, h⟩ := h
  refine ⟨fun i δ w' => ∃ (x : Sl) (r : Int), δ = [.val (.ref d), .val (.int r), x] ∧ 0 ≤ r ∧ r < 10 ^ (6 * i) ∧ Deck w' d, ⟨_, 0, rfl, by decide, by decide, hd⟩, ?_, ?_⟩
  · rintro i δ w' hi ⟨x, r, rfl, h3, h4, h5⟩
    have s1 : Sm 120 r := (Sm.lt10 h3 h4).le (by omega)
    kby_none
    · exact Int.add_nonneg (Int.mul_nonneg h3 (by decide)) (by assumption)
    rename_i z _ _ z1 z2
    show r * 10 ^ 6 + z < 10 ^ (6 * (i + 1))
    have z3 : z < 10 ^ 6 := z2
    have e : (10 : Int) ^ (6 * (i + 1)) = 10 ^ (6 * i) * 10 ^ 6 := by rw [Nat.mul_add, Int.pow_add]
    rw [e]
    have := Int.mul_le_mul_of_nonneg_right (show r + 1 ≤ 10 ^ (6 * i) by omega) (show (0 : Int) ≤ 10 ^ 6 by decide)
    omega
  · rintro δ w' ⟨x, r, rfl, h3, h4, h5⟩
    exact h _ _ h5 h3 h4
theorem ok__law_wide {P : Program} {w : World} {K : PySem.W.Frag} {mg : Str → Option Value} {base : Heap} {ec : Nat → Addr} {CL : Addr} (T : Tx K mg ec CL) {f : Addr} {fd : FuncData} (F : Fun K "_law_wide" "_law_wide" s__law_wide f fd) (hm : mg "_law_wide" = some (.ref f)) (hb : Binds K fd ["_law_deck_here", "_law_figures"] []) (d__law_take : Fd P w K mg base (WL K ec) 1 "_law_take" sp__law_take) (d__law_far : Fd P w K mg base (WL K ec) 2 "_law_far" sp__law_far) :
    Fd P w K mg base (WL K ec) 3 "_law_wide" sp__law_wide := by
  have nd := sc__law_wide.nd
  refine fnz F sc__law_wide hm hb (by
    unfold sp__law_wide; intro ds w Q Q' E E' k k'
    repeat' (first | exact id | exact k _ _ | exact k' _ _ | refine Exists.imp fun _ => ?_ | refine And.imp ?_ ?_ | refine Or.imp ?_ ?_ | refine Z.impR ?_ | refine Z.allR fun _ => ?_ | refine Z.Stp.imp ?_)) (by
    intro ds w' Q E h; unfold sp__law_wide at h; obtain ⟨d, n, rfl, -⟩ := h; rfl) (fun cdv A outer s H E hr =>
  (zb_cons (z_set 2 (z_call d__law_take hr (z_cons (z_var 0) (z_cons z_int z_nil))) nd)
  (zb_cons (z_if (z_tcmp (o_eq hr) l_eq (z_var 2) z_int)
  (zb_one (z_ret (z_call d__law_take hr (z_cons (z_var 0) (z_cons z_int z_nil)))))
  zb_nil)
  (zb_cons (z_if (z_tcmp (o_eq hr) l_eq (z_var 2) z_int)
  (zb_one (z_ret (z_call d__law_take hr (z_cons (z_var 0) (z_cons (z_op op_pow l_pow z_int z_int) z_nil)))))
  zb_nil)
  (zb_cons (z_if (z_tcmp (o_eq hr) l_eq (z_var 2) z_int)
  (zb_one (z_ret (z_op op_sub l_sub (z_intC T.int_ (z_cons (z_op o_mul l_mul z_str (z_var 1)) z_nil)) (z_call d__law_take hr (z_cons (z_var 0) (z_cons z_int z_nil))))))
  zb_nil)
  (zb_cons (z_set 3 (z_op o_add l_add (z_op o_mul l_mul (z_call d__law_far hr (z_cons (z_var 0) z_nil)) (z_op op_pow l_pow z_int z_int)) (z_call d__law_far hr (z_cons (z_var 0) z_nil))) nd)
  (zb_one (z_ret (z_op op_mod l_mod (z_var 3) (z_intC T.int_ (z_cons (z_op o_add l_add z_str (z_op o_mul l_mul z_str (z_ix ix_seq l_ix (z_fz (z_lst (z_cons (z_op o_div l_div (z_var 1) z_int) (z_cons (z_var 1) z_nil)))) (z_intC T.int_ (z_cons (z_cmp op_gt l_gt (z_var 2) z_int) z_nil))))) z_nil))))))))))) ?_
  intro ds w Q E h
  unfold sp__law_wide at h
  clear nd d__law_take d__law_far hb hm F T fd f ec base mg K CL
  obtain ⟨d, n, rfl, hd, n1, n2, h⟩ := h
  obtain ⟨a1, v9, b1, c1, e1⟩ := nines (n := n) (by omega) (by omega)
  obtain ⟨a2, v2, b2, c2, e2, g2⟩ := noughts (n := n) (by omega) (by omega)
  obtain ⟨a3, v3, b3, c3, e3, g3⟩ := noughts (n := n / 2) (by omega) (by omega)
  have p1 : (10 : Int) ^ n.toNat ≤ 10 ^ 60 := p10_le (by omega)
  have p2 : (10 : Int) ^ 2 ≤ 10 ^ n.toNat := p10_le (by omega)
  have p3 : (10 : Int) ^ (n / 2).toNat ≤ 10 ^ 60 := p10_le (by omega)
  have p4 : (0 : Int) < 10 ^ (n / 2).toNat := p10_pos _
  kby_none
  · exact h _ _ (by assumption) (by assumption) (Int.lt_trans (by assumption) (by decide))
  · exact h _ _ (by assumption) (by assumption) (Int.lt_of_lt_of_le (by assumption) (by decide))
  · exact h _ _ (by assumption) (by omega) (by omega)
  · exact h _ _ (by assumption) (Int.emod_nonneg _ (by omega)) (Int.lt_of_lt_of_le (Int.emod_lt_of_pos _ (by omega)) (by omega))
  · exact h _ _ (by assumption) (Int.emod_nonneg _ (by omega)) (Int.lt_of_lt_of_le (Int.emod_lt_of_pos _ (by omega)) (by omega))
theorem ok__law_signed {P : Program} {w : World} {K : PySem.W.Frag} {mg : Str → Option Value} {base : Heap} {ec : Nat → Addr} {CL : Addr} (T : Tx K mg ec CL) {f : Addr} {fd : FuncData} (F : Fun K "_law_signed" "_law_signed" s__law_signed f fd) (hm : mg "_law_signed" = some (.ref f)) (hb : Binds K fd ["_law_deck_here", "_law_figures"] []) (d__law_wide : Fd P w K mg base (WL K ec) 3 "_law_wide" sp__law_wide) (d__law_take : Fd P w K mg base (WL K ec) 1 "_law_take" sp__law_take) :
    Fd P w K mg base (WL K ec) 4 "_law_signed" sp__law_signed := by
  have nd := sc__law_signed.nd
  refine fnz F sc__law_signed hm hb (by
    unfold sp__law_signed; intro ds w Q Q' E E' k k'
    repeat' (first | exact id | exact k _ _ | exact k' _ _ | refine Exists.imp fun _ => ?_ | refine And.imp ?_ ?_ | refine Or.imp ?_ ?_ | refine Z.impR ?_ | refine Z.allR fun _ => ?_ | refine Z.Stp.imp ?_)) (by
    intro ds w' Q E h; unfold sp__law_signed at h; obtain ⟨d, n, rfl, -⟩ := h; rfl) (fun cdv A outer s H E hr =>
  (zb_one (z_ret (z_op o_mul l_mul (z_call d__law_wide hr (z_cons (z_var 0) (z_cons (z_var 1) z_nil))) (z_ix ix_seq l_ix (z_fz (z_lst (z_cons z_int (z_cons (z_un un_neg l_neg z_int) z_nil)))) (z_call d__law_take hr (z_cons (z_var 0) (z_cons z_int z_nil)))))))) ?_
  intro ds w Q E h
  unfold sp__law_signed at h
  clear nd d__law_wide d__law_take hb hm F T fd f ec base mg K CL
  obtain ⟨d, n, rfl, hd, n1, n2, h⟩ := h
  kby_none
  rename_i r _ _ r0 r1 z _ _ z0 z1
  have s1 := Sm.lt10 r0 r1
  have : z = 0 ∨ z = 1 := by omega
  rcases this with rfl | rfl
  · kby_none
    exact h _ _ (by assumption) (by omega) (by omega)
  · kby_none
    exact h _ _ (by assumption) (by omega) (by omega)
theorem ok__law_any_line {P : Program} {w : World} {K : PySem.W.Frag} {mg : Str → Option Value} {base : Heap} {ec : Nat → Addr} {CL : Addr} (T : Tx K mg ec CL) {f : Addr} {fd : FuncData} (F : Fun K "_law_any_line" "_law_any_line" s__law_any_line f fd) (hm : mg "_law_any_line" = some (.ref f)) (hb : Binds K fd ["_law_deck_here", "_law_figures"] []) (d__law_wide : Fd P w K mg base (WL K ec) 3 "_law_wide" sp__law_wide) (d__law_take : Fd P w K mg base (WL K ec) 1 "_law_take" sp__law_take) (d__law_signed : Fd P w K mg base (WL K ec) 4 "_law_signed" sp__law_signed) :
    Fd P w K mg base (WL K ec) 5 "_law_any_line" sp__law_any_line := by
  have nd := sc__law_any_line.nd
  refine fnz F sc__law_any_line hm hb (by
    unfold sp__law_any_line; intro ds w Q Q' E E' k k'
    repeat' (first | exact id | exact k _ _ | exact k' _ _ | refine Exists.imp fun _ => ?_ | refine And.imp ?_ ?_ | refine Or.imp ?_ ?_ | refine Z.impR ?_ | refine Z.allR fun _ => ?_ | refine Z.Stp.imp ?_)) (by
    intro ds w' Q E h; unfold sp__law_any_line at h; obtain ⟨d, n, rfl, -⟩ := h; rfl) (fun cdv A outer s H E hr =>
  (zb_cons (z_set 2 (z_max T.max_ (z_cons z_int (z_cons (z_call d__law_wide hr (z_cons (z_var 0) (z_cons (z_var 1) z_nil))) z_nil))) nd)
  (zb_cons (z_own 3 (z_lst z_nil) nd)
  (zb_cons (z_forR1 4 T.range_ (z_cons z_int z_nil)
  (zb_cons (z_set 5 (z_call d__law_take hr (z_cons (z_var 0) (z_cons z_int z_nil))) nd)
  (zb_one (z_if (z_tcmp (o_eq hr) l_eq (z_var 5) z_int)
  (zb_one (z_appO 3 (z_call d__law_signed hr (z_cons (z_var 0) (z_cons (z_var 1) z_nil)))))
  (zb_one (z_if (z_tcmp (o_eq hr) l_eq (z_var 5) z_int)
  (zb_one (z_appO 3 (z_op op_mod l_mod (z_call d__law_wide hr (z_cons (z_var 0) (z_cons (z_var 1) z_nil))) (z_var 2))))
  (zb_one (z_appO 3 (z_ix ix_seq l_ix (z_fz (z_lst (z_cons z_int (z_cons (z_op op_sub l_sub (z_var 2) z_int) (z_cons (z_var 2) (z_cons z_int (z_cons (z_un un_neg l_neg z_int) z_nil))))))) (z_call d__law_take hr (z_cons (z_var 0) (z_cons z_int z_nil))))))))))) nd)
  (zb_one (z_ret (z_tup (z_cons (z_ixO 3 z_int) (z_cons (z_ixO 3 z_int) (z_cons (z_var 2) z_nil)))))))))) ?_
  intro ds w Q E h
  unfold sp__law_any_line at h
  clear nd d__law_wide d__law_take d__law_signed hb hm F T fd f ec base mg K CL
  obtain ⟨d, n, rfl, hd, n1, n2, h⟩ := h
  have h := h.out
  kby_none
  rename_i m w1 hd r0 r1
  refine ⟨fun i δ w' => ∃ (l : List Int) (x y : Sl), δ = [.val (.ref d), .val (.int n), .val (.int (max 1 m)), .own (l.map D.int), x, y] ∧ l.length = i ∧ (∀ z ∈ l, -(10 ^ 60) < z ∧ z ≤ 10 ^ 60) ∧ Deck w' d, ⟨[], _, _, rfl, rfl, fun _ z => (nomatch z), hd⟩, ?_, ?_⟩
  · rintro i δ w' hi ⟨l, x, y, rfl, rfl, hl, hd⟩
    have put : ∀ (r : Int) (y : Sl) (w' : Mst), -(10 ^ 60) < r → r ≤ 10 ^ 60 → Deck w' d → ∃ (l1 : List Int) (x y1 : Sl), [Sl.val (.ref d), .val (.int n), .val (.int (max 1 m)), .own (l.map D.int ++ [.int r]), .val (.int (0 + (l.length : Int))), y] = [.val (.ref d), .val (.int n), .val (.int (max 1 m)), .own (l1.map D.int), x, y1] ∧ l1.length = l.length + 1 ∧ (∀ z ∈ l1, -(10 ^ 60) < z ∧ z ≤ 10 ^ 60) ∧ Deck w' d := fun r y w' a b c =>
      ⟨l ++ [r], _, _, by rw [List.map_append]; rfl, by simp, fun z hz => by
        rcases List.mem_append.mp hz with q | q
        · exact hl z q
        · rw [List.mem_singleton.mp q]; exact ⟨a, b⟩, c⟩
    kby_none
    · exact put _ _ _ (by omega) (by omega) (by assumption)
    · rename_i r _ _ r0 r1
      have := Int.emod_nonneg r (show max 1 m ≠ 0 by omega)
      have := Int.emod_lt_of_pos r (show 0 < max 1 m by omega)
      exact put _ _ _ (by omega) (by omega) (by assumption)
    · rename_i z _ _ z0 z1
      have : z = 0 ∨ z = 1 ∨ z = 2 ∨ z = 3 ∨ z = 4 := by omega
      rcases this with rfl | rfl | rfl | rfl | rfl <;> kby_none <;> exact put _ _ _ (by omega) (by omega) (by assumption)
  · rintro δ w' ⟨l, x, y, rfl, h2, hl, hd⟩
    match l, h2 with
    | [a, b], _ =>
      kby_none
      have ha := hl a (by simp)
      have hb := hl b (by simp)
      exact h a b _ _ hd ha.1 ha.2 hb.1 hb.2 (by omega) (by omega)
theorem ok__law_flags {P : Program} {w : World} {K : PySem.W.Frag} {mg : Str → Option Value} {base : Heap} {ec : Nat → Addr} {CL : Addr} (T : Tx K mg ec CL) {f : Addr} {fd : FuncData} (F : Fun K "_law_flags" "_law_flags" s__law_flags f fd) (hm : mg "_law_flags" = some (.ref f)) (hb : Binds K fd ["_law_thing"] []) :
    Fd P w K mg base (W0 ec) 1 "_law_flags" (sp__law_flags ec) := by
  have nd := sc__law_flags.nd
  refine fnz F sc__law_flags hm hb (by
    unfold sp__law_flags; intro ds w Q Q' E E' k k'
    repeat' (first | exact id | exact k _ _ | exact k' _ _ | refine Exists.imp fun _ => ?_ | refine And.imp ?_ ?_ | refine Or.imp ?_ ?_ | refine Z.impR ?_ | refine Z.allR fun _ => ?_ | refine Z.Stp.imp ?_)) (by
    intro ds w' Q E h; unfold sp__law_flags at h; obtain ⟨e, rfl, -⟩ := h; rfl) (fun cdv A outer s H E hr =>
  (zb_cons (z_set 1 (z_fz (z_lst (z_cons (z_isXe (ec := ec) (fun e he => ⟨T.exk e he, T.isE0 e he⟩) T.noE0 T.isinstance_ T.e0.gF (z_var 0)) (z_cons (z_isXe (ec := ec) (fun e he => ⟨T.exk e he, T.isE1 e he⟩) T.noE1 T.isinstance_ T.e1.gF (z_var 0)) (z_cons (z_isXe (ec := ec) (fun e he => ⟨T.exk e he, T.isE2 e he⟩) T.noE2 T.isinstance_ T.e2.gF (z_var 0)) z_nil))))) nd)
  (zb_cons (z_set 1 (z_fz (z_cat (z_var 1) (z_fz (z_lst (z_cons (z_isXe (ec := ec) (fun e he => ⟨T.exk e he, T.isE3 e he⟩) T.noE3 T.isinstance_ T.e3.gF (z_var 0)) (z_cons (z_isXe (ec := ec) (fun e he => ⟨T.exk e he, T.isE4 e he⟩) T.noE4 T.isinstance_ T.e4.gF (z_var 0)) (z_cons (z_isXe (ec := ec) (fun e he => ⟨T.exk e he, T.isE5 e he⟩) T.noE5 T.isinstance_ T.e5.gF (z_var 0)) z_nil))))))) nd)
  (zb_one (z_ret (z_fz (z_cat (z_var 1) (z_fz (z_lst (z_cons (z_isXe (ec := ec) (fun e he => ⟨T.exk e he, T.isE6 e he⟩) T.noE6 T.isinstance_ T.e6.gF (z_var 0)) (z_cons (z_notV (z_isXe (ec := ec) (fun e he => ⟨T.exk e he, T.isEL e he⟩) T.noEL T.isinstance_ T.nmL (z_var 0))) (z_cons (z_notV (z_isXBe (ec := ec) (fun e he => ⟨T.exk e he, T.isEV e he⟩) (kit_ty (by decide +kernel)) T.isinstance_ T.ValueError_ (by decide +kernel) (z_var 0))) z_nil)))))))))))) ?_
  intro ds w Q E h
  unfold sp__law_flags at h
  clear nd hb hm F T fd f base mg K CL
  obtain ⟨e, rfl, he, h⟩ := h
  kby_none
  exact h
theorem st__law_same {P : Program} {w : World} {K : PySem.W.Frag} {mg : Str → Option Value} {base : Heap} {ec : Nat → Addr} {CL : Addr} (T : Tx K mg ec CL) {f : Addr} {fd : FuncData} (F : Fun K "_law_same" "_law_same" s__law_same f fd) (hm : mg "_law_same" = some (.ref f)) (hb : Binds K fd ["_law_found", "_law_due_here"] []) (n : Nat) (d__law_same : Fd P w K mg base (W0 ec) n "_law_same" (sp__law_same n)) : Fd P w K mg base (W0 ec) (n + 1) "_law_same" (sp__law_same (n + 1)) := by
  have nd := sc__law_same.nd
  refine fnz F sc__law_same hm hb (by
    unfold sp__law_same; intro ds w Q Q' E E' k k'
    repeat' (first | exact id | exact k _ _ | exact k' _ _ | refine Exists.imp fun _ => ?_ | refine And.imp ?_ ?_ | refine Or.imp ?_ ?_ | refine Z.impR ?_ | refine Z.allR fun _ => ?_ | refine Z.Stp.imp ?_)) (by
    intro ds w' Q E h; unfold sp__law_same at h; obtain ⟨d, rfl, -⟩ := h; rfl) (fun cdv A outer s H E hr =>
  (zb_cons (z_if (z_pw (z_or (z_tcmp op_isN l_isN (z_var 1) z_non) (z_or1 (z_tval (z_isT isStr_ok T.isinstance_ T.str_ boot_str' (z_var 1))))))
  (zb_one (z_ret (z_andV (z_cmp (o_eq hr) l_eq (z_var 0) (z_var 1)) (z_one (z_cmp (o_eq hr) l_eq (z_isT isStr_ok T.isinstance_ T.str_ boot_str' (z_var 0)) (z_isT isStr_ok T.isinstance_ T.str_ boot_str' (z_var 1)))))))
  zb_nil)
  (zb_cons (z_if (z_tval (z_isT isTup_ok T.isinstance_ T.tuple_ boot_tuple' (z_var 1)))
  (zb_cons (z_if (z_pw (z_or (z_not (z_tval (z_isT isTup_ok T.isinstance_ T.tuple_ boot_tuple' (z_var 0)))) (z_or1 (z_tcmp (o_ne hr) l_ne (z_len T.len_ (z_cons (z_var 0) z_nil)) (z_len T.len_ (z_cons (z_var 1) z_nil))))))
  (zb_one (z_ret z_bl))
  zb_nil)
  (zb_one (z_ret (z_cmp (o_eq hr) l_eq (z_fz (z_lcI (own := [("_law_one", 2), ("_law_other", 3)]) (hw := wiped_tup (by decide)) (ok := by show blkC ["_law_found", "_law_due_here", "_law_one", "_law_other"] (defScope s__law_same) _ _ = true; decide +kernel) (i_zip T.zip_ (z_cons (z_var 0) (z_cons (z_var 1) z_nil))) (c_if (gzt := (gg_tup [2, 3])) (fun _ _ _ _ _ => (g_tup (gs_cons 2 nd (gs_cons 3 nd gs_nil))).pg) (fun _ _ _ _ _ => (z_not (z_tval (z_callP d__law_same hr (z_cons (z_var 2) (z_cons (z_var 3) z_nil)) (Nat.le_refl _))))) (fun _ _ _ _ _ => z_int)) nd)) (z_fz (z_lst z_nil))))))
  zb_nil)
  (zb_one (z_ret (z_andV (z_isT isInt_ok T.isinstance_ T.int_ boot_int' (z_var 0)) (z_andV (z_notV (z_isT isBool_ok T.isinstance_ T.bool_ boot_bool' (z_var 0))) (z_one (z_cmp (o_eq hr) l_eq (z_var 0) (z_var 1)))))))))) ?_
  intro ds w Q E h
  unfold sp__law_same at h
  clear nd d__law_same hb hm F T fd f ec base mg K CL
  obtain ⟨d, rfl, hd, h⟩ := h
  rcases hd with rfl | ⟨x, rfl⟩ | ⟨i, rfl⟩ | ⟨l, rfl, hl, hd⟩
  · kby_none
    exact bl_one (by rw [deq_bl]; rfl) h
  · kby_none
    exact bl_one (by rw [deq_bl]; rfl) h
  · kby_none
    exact bl_one (by rw [deq_int]; exact beq_self_eq_true i) h
  · kby_none
    · rw [zipT_len]; omega
    refine ⟨fun i acc w' => acc = [] ∧ w' = w, ⟨rfl, rfl⟩, ?_, ?_⟩
    · rintro i z acc w' h0 ⟨rfl, rfl⟩
      obtain ⟨e, he, rfl⟩ := zip_self h0
      have de := hd e he
      kby_none
    · rintro acc w' ⟨rfl, rfl⟩
      kby_none
      exact bl_nil h
theorem ok__law_same {P : Program} {w : World} {K : PySem.W.Frag} {mg : Str → Option Value} {base : Heap} {ec : Nat → Addr} {CL : Addr} (T : Tx K mg ec CL) {f : Addr} {fd : FuncData} (F : Fun K "_law_same" "_law_same" s__law_same f fd) (hm : mg "_law_same" = some (.ref f)) (hb : Binds K fd ["_law_found", "_law_due_here"] []) : Fd P w K mg base (W0 ec) 4 "_law_same" (sp__law_same 4) :=
  st__law_same T F hm hb 3 (st__law_same T F hm hb 2 (st__law_same T F hm hb 1 (st__law_same T F hm hb 0 ((fd_none F hm hb (by intro ds w Q E h; unfold sp__law_same at h; exact no__law_same h))))))
theorem ok__law_number_in {P : Program} {w : World} {K : PySem.W.Frag} {mg : Str → Option Value} {base : Heap} {ec : Nat → Addr} {CL : Addr} (T : Tx K mg ec CL) {f : Addr} {fd : FuncData} (F : Fun K "_law_number_in" "_law_number_in" s__law_number_in f fd) (hm : mg "_law_number_in" = some (.ref f)) (hb : Binds K fd ["_law_word"] []) :
    Fd P w K mg base (W0 ec) 1 "_law_number_in" sp__law_number_in := by
  have nd := sc__law_number_in.nd
  refine fnz F sc__law_number_in hm hb (by
    unfold sp__law_number_in; intro ds w Q Q' E E' k k'
    repeat' (first | exact id | exact k _ _ | exact k' _ _ | refine Exists.imp fun _ => ?_ | refine And.imp ?_ ?_ | refine Or.imp ?_ ?_ | refine Z.impR ?_ | refine Z.allR fun _ => ?_ | refine Z.Stp.imp ?_)) (by
    intro ds w' Q E h; unfold sp__law_number_in at h; obtain ⟨t, rfl, -⟩ := h; rfl) (fun cdv A outer s H E hr =>
  (zb_cons (z_set 1 (z_var 0) nd)
  (zb_cons (z_if (z_tcmp (o_eq hr) l_eq (z_slS (z_var 0) z_oN (z_oS z_int)) z_str)
  (zb_one (z_set 1 (z_slS (z_var 0) (z_oS z_int) z_oN) nd))
  zb_nil)
  (zb_cons (z_if (z_pw (z_or (z_tcmp (o_eq hr) l_eq (z_var 1) z_str) (z_or1 (z_tcmp (o_ne hr) l_ne (z_fz (z_lcI (own := [("_law_sign_here", 2)]) (ok := by show blkC ["_law_word", "_law_figures", "_law_sign_here"] (defScope s__law_number_in) _ _ = true; decide +kernel) (i_str (z_var 1)) (c_if (gzt := (gg_name 2)) (fun _ _ _ _ _ => (g_name 2 nd).pg) (fun _ _ _ _ _ => (z_tcmp op_notIn_sign l_notInS1 (z_var 2) z_str)) (fun _ _ _ _ _ => (z_var 2))) nd)) (z_fz (z_lst z_nil))))))
  (zb_one (z_ret z_non))
  zb_nil)
  (zb_cons (z_if (z_pw (z_and (z_tcmp (o_eq hr) l_eq (z_ix ix_seq l_ix (z_var 1) z_int) z_str) (z_and1 (z_tcmp (o_ne hr) l_ne (z_var 0) z_str))))
  (zb_one (z_ret z_non))
  zb_nil)
  (zb_one (z_ret (z_intC T.int_ (z_cons (z_var 0) z_nil))))))))) ?_
  intro ds w Q E h
  unfold sp__law_number_in at h
  clear nd hb hm F T fd f ec base mg K CL
  obtain ⟨t, rfl, ht, q⟩ := h
  have q1 : numA t = false → _ := fun z => q.out _ (numD_f z).symm
  have q2 : numA t = true → _ := fun z => q.out _ (numD_t z).symm
  clear q
  have hl : t.length ≤ 500 := ht.1
  have hl2 : t.length ≤ 16777216 := by omega
  have tl0 := tl_cut0 t
  have c48 : ∀ c : Nat, (⟨#[c]⟩ : Str) = Str.ofString "0" ↔ c = 48 := fun c => ⟨one_zero, fun e => by rw [e]; exact zero_one⟩
  have t0 : t = Str.ofString "0" ↔ TL.tl t = [48] := ⟨fun e => by rw [e]; rfl, fun e => TL.ext_tl e⟩
  have ok1 : ∀ l : List Nat, (∀ c ∈ l, c ∈ TL.tl t) → okD (.lst ((noFig l).map D.str)) = true := fun l h => okDs_strs (noFig_ok fun c hc => ht.2 c (h c hc))
  have sub : ∀ c ∈ figL (TL.tl t), c ∈ TL.tl t := fun c hc => by
    unfold figL at hc
    split at hc
    · exact List.mem_of_mem_tail hc
    · exact hc
  have dp1 : ∀ l : List Nat, dpD (.lst ((noFig l).map D.str)) ≤ 64 := fun l => dpD_strs _
  by_cases neg : (TL.tl t).head? = some 45
  · have ef : TL.tl (cutS t (some 1) none) = figL (TL.tl t) := by rw [tl_cut1]; unfold figL; rw [if_pos neg]; exact List.drop_one
    have cm : cutS t none (some 1) = Str.ofString "-" := TL.ext_tl (by
      rw [tl0]
      cases q : TL.tl t with
      | nil => rw [q] at neg; cases neg
      | cons c r => rw [q] at neg; cases neg; rfl)
    have fl : (cutS t (some 1) none).length = (figL (TL.tl t)).length := by rw [TL.len_tl]; exact congrArg List.length ef
    have fl2 := figL_len (TL.tl t)
    rw [← TL.len_tl] at fl2
    have fl3 : (cutS t (some 1) none).length ≤ 16777216 := by omega
    have fs3 : (sgnD (cutS t (some 1) none)).length ≤ 100000 := by rw [sgn_len2, ← TL.len_tl]; omega
    by_cases e0 : figL (TL.tl t) = []
    · have q := q1 (numA_e e0)
      have fe : (cutS t (some 1) none) = Str.ofString "" := TL.ext_tl (by rw [ef, e0]; rfl)
      kby_none
      all_goals first | exact q | (exfalso; exact absurd cm (by assumption)) | (exfalso; exact absurd fe (by assumption))
    obtain ⟨c, r, er⟩ : ∃ c r, figL (TL.tl t) = c :: r := by
      cases q : figL (TL.tl t) with
      | nil => exact absurd q e0
      | cons c r => exact ⟨c, r, rfl⟩
    have fne : (cutS t (some 1) none) ≠ Str.ofString "" := fun e => e0 (by rw [← ef, e]; rfl)
    have ic : atI (cutS t (some 1) none).cps.toList 0 = some c := one_ix (ef.trans er)
    have e48 := c48 c
    have okF : okD (.lst ((noFig (TL.tl (cutS t (some 1) none))).map D.str)) = true := by rw [ef]; exact ok1 _ sub
    have dpF := dp1 (TL.tl (cutS t (some 1) none))
    have eqF : deqs ((noFig (TL.tl (cutS t (some 1) none))).map D.str) [] = digB (figL (TL.tl t)) := by rw [← deq_lst, deq_strs, digB_noFig]; exact congrArg digB ef
    by_cases hd : digB (figL (TL.tl t)) = true
    · rw [hd] at eqF
      by_cases h48 : c = 48
      · have y48 : (⟨#[c]⟩ : Str) = Str.ofString "0" := e48.mpr h48
        by_cases ht0 : TL.tl t = [48]
        · have y0 := t0.mpr ht0
          have hA : numA t = true := numA_t er hd (.inr ht0)
          obtain ⟨ix, sx⟩ := numV_int hA hl
          have q := q2 hA
          kby_none
          all_goals try (first | (exfalso; exact absurd cm (by assumption)) | (exfalso; exact absurd (by assumption) fne))
          refine ⟨fun i acc w' => acc = (noFig ((TL.tl (cutS t (some 1) none)).take i)).map D.str, rfl, ?_, ?_⟩
          · rintro i d acc w' hd rfl
            obtain ⟨c, hc, rfl⟩ := sgn_ix hd
            kby_none
            · rename_i hn; exact noFig_snoc hc (fun z => hn (dig_mem.mpr z))
            · rename_i hn; exact (noFig_same hc (dig_mem.mp hn)).symm
          · rintro acc w' rfl
            rw [sgn_len2, List.take_length]
            kby_none
            all_goals first
              | exact q
              | (exfalso; exact absurd (eqF.symm.trans (by assumption)) (by decide))
              | (exfalso; exact absurd (by assumption) n48)
              | (exfalso; exact absurd y48 (by assumption))
              | (exfalso; exact absurd (by assumption) n0)
              | (exfalso; exact absurd y0 (by assumption))
              | skip
            all_goals kby_none
            all_goals exact q
        · have n0 : ¬ t = Str.ofString "0" := fun e => ht0 (t0.mp e)
          have q := q1 (numA_z er h48 ht0)
          kby_none
          all_goals try (first | (exfalso; exact absurd cm (by assumption)) | (exfalso; exact absurd (by assumption) fne))
          refine ⟨fun i acc w' => acc = (noFig ((TL.tl (cutS t (some 1) none)).take i)).map D.str, rfl, ?_, ?_⟩
          · rintro i d acc w' hd rfl
            obtain ⟨c, hc, rfl⟩ := sgn_ix hd
            kby_none
            · rename_i hn; exact noFig_snoc hc (fun z => hn (dig_mem.mpr z))
            · rename_i hn; exact (noFig_same hc (dig_mem.mp hn)).symm
          · rintro acc w' rfl
            rw [sgn_len2, List.take_length]
            kby_none
            all_goals first
              | exact q
              | (exfalso; exact absurd (eqF.symm.trans (by assumption)) (by decide))
              | (exfalso; exact absurd (by assumption) n48)
              | (exfalso; exact absurd y48 (by assumption))
              | (exfalso; exact absurd (by assumption) n0)
              | (exfalso; exact absurd y0 (by assumption))
              | skip
            all_goals kby_none
            all_goals exact q
      · have n48 : ¬ (⟨#[c]⟩ : Str) = Str.ofString "0" := fun e => h48 (e48.mp e)
        have hA : numA t = true := numA_t er hd (.inl h48)
        obtain ⟨ix, sx⟩ := numV_int hA hl
        have q := q2 hA
        kby_none
        all_goals try (first | (exfalso; exact absurd cm (by assumption)) | (exfalso; exact absurd (by assumption) fne))
        refine ⟨fun i acc w' => acc = (noFig ((TL.tl (cutS t (some 1) none)).take i)).map D.str, rfl, ?_, ?_⟩
        · rintro i d acc w' hd rfl
          obtain ⟨c, hc, rfl⟩ := sgn_ix hd
          kby_none
          · rename_i hn; exact noFig_snoc hc (fun z => hn (dig_mem.mpr z))
          · rename_i hn; exact (noFig_same hc (dig_mem.mp hn)).symm
        · rintro acc w' rfl
          rw [sgn_len2, List.take_length]
          kby_none
          all_goals first
            | exact q
            | (exfalso; exact absurd (eqF.symm.trans (by assumption)) (by decide))
            | (exfalso; exact absurd (by assumption) n48)
            | (exfalso; exact absurd y48 (by assumption))
            | (exfalso; exact absurd (by assumption) n0)
            | (exfalso; exact absurd y0 (by assumption))
            | skip
          all_goals kby_none
          all_goals exact q
    · have hd : digB (figL (TL.tl t)) = false := by simpa using hd
      rw [hd] at eqF
      have q := q1 (numA_d hd)
      kby_none
      all_goals try (first | (exfalso; exact absurd cm (by assumption)) | (exfalso; exact absurd (by assumption) fne))
      refine ⟨fun i acc w' => acc = (noFig ((TL.tl (cutS t (some 1) none)).take i)).map D.str, rfl, ?_, ?_⟩
      · rintro i d acc w' hd rfl
        obtain ⟨c, hc, rfl⟩ := sgn_ix hd
        kby_none
        · rename_i hn; exact noFig_snoc hc (fun z => hn (dig_mem.mpr z))
        · rename_i hn; exact (noFig_same hc (dig_mem.mp hn)).symm
      · rintro acc w' rfl
        rw [sgn_len2, List.take_length]
        kby_none
        all_goals first
          | exact q
          | (exfalso; exact absurd (eqF.symm.trans (by assumption)) (by decide))
          | (exfalso; exact absurd (by assumption) n48)
          | (exfalso; exact absurd y48 (by assumption))
          | (exfalso; exact absurd (by assumption) n0)
          | (exfalso; exact absurd y0 (by assumption))
          | skip
        all_goals kby_none
        all_goals exact q
  · have ef : TL.tl t = figL (TL.tl t) := by unfold figL; rw [if_neg neg]
    have cm : ¬ cutS t none (some 1) = Str.ofString "-" := fun h => neg (by
      have e := congrArg TL.tl h
      rw [tl0] at e
      cases q : TL.tl t with
      | nil => rw [q] at e; cases e
      | cons c r =>
        rw [q] at e
        have e : [c] = [45] := e
        cases e; rfl)
    have fl3 : (t).length ≤ 16777216 := by omega
    have fs3 : (sgnD (t)).length ≤ 100000 := by rw [sgn_len2, ← TL.len_tl]; omega
    by_cases e0 : figL (TL.tl t) = []
    · have q := q1 (numA_e e0)
      have fe : (t) = Str.ofString "" := TL.ext_tl (by rw [ef, e0]; rfl)
      kby_none
      all_goals first | exact q | (exfalso; exact absurd (by assumption) cm) | (exfalso; exact absurd fe (by assumption))
    obtain ⟨c, r, er⟩ : ∃ c r, figL (TL.tl t) = c :: r := by
      cases q : figL (TL.tl t) with
      | nil => exact absurd q e0
      | cons c r => exact ⟨c, r, rfl⟩
    have fne : (t) ≠ Str.ofString "" := fun e => e0 (by rw [← ef, e]; rfl)
    have ic : atI (t).cps.toList 0 = some c := one_ix (ef.trans er)
    have e48 := c48 c
    have okF : okD (.lst ((noFig (TL.tl (t))).map D.str)) = true := by rw [ef]; exact ok1 _ sub
    have dpF := dp1 (TL.tl (t))
    have eqF : deqs ((noFig (TL.tl (t))).map D.str) [] = digB (figL (TL.tl t)) := by rw [← deq_lst, deq_strs, digB_noFig]; exact congrArg digB ef
    by_cases hd : digB (figL (TL.tl t)) = true
    · rw [hd] at eqF
      by_cases h48 : c = 48
      · have y48 : (⟨#[c]⟩ : Str) = Str.ofString "0" := e48.mpr h48
        by_cases ht0 : TL.tl t = [48]
        · have y0 := t0.mpr ht0
          have hA : numA t = true := numA_t er hd (.inr ht0)
          obtain ⟨ix, sx⟩ := numV_int hA hl
          have q := q2 hA
          kby_none
          all_goals try (first | (exfalso; exact absurd (by assumption) cm) | (exfalso; exact absurd (by assumption) fne))
          refine ⟨fun i acc w' => acc = (noFig ((TL.tl (t)).take i)).map D.str, rfl, ?_, ?_⟩
          · rintro i d acc w' hd rfl
            obtain ⟨c, hc, rfl⟩ := sgn_ix hd
            kby_none
            · rename_i hn; exact noFig_snoc hc (fun z => hn (dig_mem.mpr z))
            · rename_i hn; exact (noFig_same hc (dig_mem.mp hn)).symm
          · rintro acc w' rfl
            rw [sgn_len2, List.take_length]
            kby_none
            all_goals first
              | exact q
              | (exfalso; exact absurd (eqF.symm.trans (by assumption)) (by decide))
              | (exfalso; exact absurd (by assumption) n48)
              | (exfalso; exact absurd y48 (by assumption))
              | (exfalso; exact absurd (by assumption) n0)
              | (exfalso; exact absurd y0 (by assumption))
              | skip
            all_goals kby_none
            all_goals exact q
        · have n0 : ¬ t = Str.ofString "0" := fun e => ht0 (t0.mp e)
          have q := q1 (numA_z er h48 ht0)
          kby_none
          all_goals try (first | (exfalso; exact absurd (by assumption) cm) | (exfalso; exact absurd (by assumption) fne))
          refine ⟨fun i acc w' => acc = (noFig ((TL.tl (t)).take i)).map D.str, rfl, ?_, ?_⟩
          · rintro i d acc w' hd rfl
            obtain ⟨c, hc, rfl⟩ := sgn_ix hd
            kby_none
            · rename_i hn; exact noFig_snoc hc (fun z => hn (dig_mem.mpr z))
            · rename_i hn; exact (noFig_same hc (dig_mem.mp hn)).symm
          · rintro acc w' rfl
            rw [sgn_len2, List.take_length]
            kby_none
            all_goals first
              | exact q
              | (exfalso; exact absurd (eqF.symm.trans (by assumption)) (by decide))
              | (exfalso; exact absurd (by assumption) n48)
              | (exfalso; exact absurd y48 (by assumption))
              | (exfalso; exact absurd (by assumption) n0)
              | (exfalso; exact absurd y0 (by assumption))
              | skip
            all_goals kby_none
            all_goals exact q
      · have n48 : ¬ (⟨#[c]⟩ : Str) = Str.ofString "0" := fun e => h48 (e48.mp e)
        have hA : numA t = true := numA_t er hd (.inl h48)
        obtain ⟨ix, sx⟩ := numV_int hA hl
        have q := q2 hA
        kby_none
        all_goals try (first | (exfalso; exact absurd (by assumption) cm) | (exfalso; exact absurd (by assumption) fne))
        refine ⟨fun i acc w' => acc = (noFig ((TL.tl (t)).take i)).map D.str, rfl, ?_, ?_⟩
        · rintro i d acc w' hd rfl
          obtain ⟨c, hc, rfl⟩ := sgn_ix hd
          kby_none
          · rename_i hn; exact noFig_snoc hc (fun z => hn (dig_mem.mpr z))
          · rename_i hn; exact (noFig_same hc (dig_mem.mp hn)).symm
        · rintro acc w' rfl
          rw [sgn_len2, List.take_length]
          kby_none
          all_goals first
            | exact q
            | (exfalso; exact absurd (eqF.symm.trans (by assumption)) (by decide))
            | (exfalso; exact absurd (by assumption) n48)
            | (exfalso; exact absurd y48 (by assumption))
            | (exfalso; exact absurd (by assumption) n0)
            | (exfalso; exact absurd y0 (by assumption))
            | skip
          all_goals kby_none
          all_goals exact q
    · have hd : digB (figL (TL.tl t)) = false := by simpa using hd
      rw [hd] at eqF
      have q := q1 (numA_d hd)
      kby_none
      all_goals try (first | (exfalso; exact absurd (by assumption) cm) | (exfalso; exact absurd (by assumption) fne))
      refine ⟨fun i acc w' => acc = (noFig ((TL.tl (t)).take i)).map D.str, rfl, ?_, ?_⟩
      · rintro i d acc w' hd rfl
        obtain ⟨c, hc, rfl⟩ := sgn_ix hd
        kby_none
        · rename_i hn; exact noFig_snoc hc (fun z => hn (dig_mem.mpr z))
        · rename_i hn; exact (noFig_same hc (dig_mem.mp hn)).symm
      · rintro acc w' rfl
        rw [sgn_len2, List.take_length]
        kby_none
        all_goals first
          | exact q
          | (exfalso; exact absurd (eqF.symm.trans (by assumption)) (by decide))
          | (exfalso; exact absurd (by assumption) n48)
          | (exfalso; exact absurd y48 (by assumption))
          | (exfalso; exact absurd (by assumption) n0)
          | (exfalso; exact absurd y0 (by assumption))
          | skip
        all_goals kby_none
        all_goals exact q
theorem ok__law_due {P : Program} {w : World} {K : PySem.W.Frag} {mg : Str → Option Value} {base : Heap} {ec : Nat → Addr} {CL : Addr} (T : Tx K mg ec CL) {f : Addr} {fd : FuncData} (F : Fun K "_law_due" "_law_due" s__law_due f fd) (hm : mg "_law_due" = some (.ref f)) (hb : Binds K fd ["_law_text"] []) (d__law_number_in : Fd P w K mg base (W0 ec) 1 "_law_number_in" sp__law_number_in) :
    Fd P w K mg base (W0 ec) 2 "_law_due" sp__law_due := by
  have nd := sc__law_due.nd
  refine fnz F sc__law_due hm hb (by
    unfold sp__law_due; intro ds w Q Q' E E' k k'
    repeat' (first | exact id | exact k _ _ | exact k' _ _ | refine Exists.imp fun _ => ?_ | refine And.imp ?_ ?_ | refine Or.imp ?_ ?_ | refine Z.impR ?_ | refine Z.allR fun _ => ?_ | refine Z.Stp.imp ?_)) (by
    intro ds w' Q E h; unfold sp__law_due at h; obtain ⟨t, rfl, -⟩ := h; rfl) (fun cdv A outer s H E hr =>
  (zb_cons (z_set 1 (z_fz (z_tsplit (z_var 0) (z_cons z_str z_nil))) nd)
  (zb_cons (s_lcL 2 (own := [("_law_word", 3)]) (ok := by show blkC ["_law_text", "_law_words", "_law_numbers", "_law_word"] (defScope s__law_due) _ _ = true; decide +kernel) (z_var 1) (c_ok (gzt := (gg_name 3)) (fun _ _ _ _ _ => (g_name 3 nd).pg) (fun _ _ _ _ _ => (z_callP d__law_number_in hr (z_cons (z_var 3) z_nil)))) nd).2
  (zb_cons (z_if (z_pw (z_or (z_tcmp (o_ne hr) l_ne (z_len T.len_ (z_cons (z_var 1) z_nil)) z_int) (z_or1 (z_tcmp op_in_seq l_in z_non (z_var 2)))))
  (zb_one (z_ret (z_tup (z_cons z_non (z_cons z_str z_nil)))))
  zb_nil)
  (zb_cons (z_if (z_tcmp op_lt l_lt (z_ix ix_seq l_ix (z_var 2) z_int) z_int)
  (zb_one (z_ret (z_tup (z_cons z_non (z_cons z_str z_nil)))))
  zb_nil)
  (zb_one (z_ret (z_tup (z_cons (z_tupC T.tuple_ (z_cons (z_var 2) z_nil)) (z_cons z_str z_nil)))))))))) ?_
  intro ds w Q E h
  unfold sp__law_due at h
  clear nd d__law_number_in hb hm F T fd f ec base mg K CL
  obtain ⟨t, rfl, ht, q⟩ := h
  have q := q.out
  have hl : t.length ≤ 1000000 := by have := ht.1; omega
  have hl0 : ((" " : Str).length == 0) = false := rfl
  have hwl := wds_lenL ht
  have hwl2 : ((Txt.split t (" " : Str)).map D.str).length ≤ 100000 := by omega
  by_cases h3 : (wds t).length = 3
  · obtain ⟨x, y, z, e⟩ := wds3 h3
    have e' : Txt.split t (" " : Str) = [x, y, z] := e
    have tx_ : Ty 500 x := wds_ty ht (by rw [e]; simp)
    have ty_ : Ty 500 y := wds_ty ht (by rw [e]; simp)
    have tz_ : Ty 500 z := wds_ty ht (by rw [e]; simp)
    obtain ⟨v0, v1, v2⟩ := rdV_3 e
    have eb := rdB_3 e
    have three : ∀ {P : D → Prop} {u : Str}, (numA u = true → P (.int (numV u))) → (numA u = false → P .non) → Stp (∀ d, d = numD u → P d) := fun {P u} p1 p2 => .mk fun d hd => by
      subst hd
      cases hu : numA u
      · rw [numD_f hu]; exact p2 hu
      · rw [numD_t hu]; exact p1 hu
    kby_none
    rw [e']
    refine un_comp ?_
    kby_none
    refine three (fun hx => ?_) (fun hx => ?_)
    all_goals kby_none
    all_goals refine three (fun hy => ?_) (fun hy => ?_)
    all_goals kby_none
    all_goals refine three (fun hz => ?_) (fun hz => ?_)
    · have eb := eb.trans (by rw [hx, hy, hz]; rfl : _ = true)
      by_cases h2 : numV z < 1
      · have q := q _ (dueD_l eb (by rw [v2]; exact h2)).symm
        kby_none
        exact q
      · have q := q _ (dueD_n eb (by rw [v2]; exact h2)).symm
        unfold rdL at q
        rw [v0, v1, v2] at q
        kby_none
        exact q
    all_goals
      have q := q _ (dueD_t (eb.trans (by rw [hx, hy, hz]; rfl : _ = false))).symm
      kby_none
    all_goals exact q
  · have q := q _ (dueD_t (rdB_len h3)).symm
    have h4 : ¬ ((Txt.split t (" " : Str)).map D.str).length = 3 := by rw [List.length_map]; exact h3
    kby_none
    refine ⟨fun i acc w' => acc.length = i, rfl, ?_, ?_⟩
    · rintro i d acc w' hd hi
      obtain ⟨s, hs, rfl⟩ := strs_get hd
      have ts := wds_ty ht (List.mem_of_getElem? hs)
      kby_none
      refine Stp.mk fun d hd => ?_
      kby_none
      all_goals rw [List.length_append, hi]; rfl
    · rintro acc w' hi
      kby_none
      all_goals first | exact q | (exfalso; omega)
theorem ok__law_told {P : Program} {w : World} {K : PySem.W.Frag} {mg : Str → Option Value} {base : Heap} {ec : Nat → Addr} {CL : Addr} (T : Tx K mg ec CL) {f : Addr} {fd : FuncData} (F : Fun K "_law_told" "_law_told" s__law_told f fd) (hm : mg "_law_told" = some (.ref f)) (hb : Binds K fd ["_law_text"] []) (d__law_flags : Fd P w K mg base (W0 ec) 1 "_law_flags" (sp__law_flags ec)) (d_read_line : Fd P w K mg base (W0 ec) 2 "read_line" sp_read_line) :
    Fd P w K mg base (W0 ec) 3 "_law_told" sp__law_told := by
  have nd := sc__law_told.nd
  refine fnz F sc__law_told hm hb (by
    unfold sp__law_told; intro ds w Q Q' E E' k k'
    repeat' (first | exact id | exact k _ _ | exact k' _ _ | refine Exists.imp fun _ => ?_ | refine And.imp ?_ ?_ | refine Or.imp ?_ ?_ | refine Z.impR ?_ | refine Z.allR fun _ => ?_ | refine Z.Stp.imp ?_)) (by
    intro ds w' Q E h; unfold sp__law_told at h; obtain ⟨t, rfl, -⟩ := h; rfl) (fun cdv A outer s H E hr =>
  (zb_cons (z_set 1 z_non nd)
  (zb_cons (z_set 2 z_non nd)
  (zb_cons (z_trye (ec := ec) 3 2 nd ⟨rfl, by decide, .inl T.nmL⟩ (fun e he => T.exm e he) (fun l k po => (zb_one (z_set 1 (z_callP d_read_line hr (z_cons (z_var 0) z_nil)) nd))))
  (zb_cons (z_if (z_tcmp op_isN l_isN (z_var 2) z_non)
  (zb_one (z_ret (z_tup (z_cons (z_var 1) (z_cons z_str z_nil)))))
  zb_nil)
  (zb_cons (z_set 4 (z_callP d__law_flags hr (z_cons (z_var 2) z_nil)) nd)
  (zb_cons (z_if (z_tcmp (o_eq hr) l_eq (z_var 4) (z_fz (z_lcR1 (own := [("_law_k", 5)]) (ok := by show blkC ["_law_text", "_law_found", "_law_caught", "e", "_law_flags_here", "_law_k"] (defScope s__law_told) _ _ = true; decide +kernel) T.range_ (z_cons z_int z_nil) (c_ok (gzt := (gg_name 5)) (fun _ _ _ _ _ => (g_name 5 nd).pg) (fun _ _ _ _ _ => (z_cmp (o_eq hr) l_eq (z_var 5) z_int))) nd)))
  (zb_one (z_ret (z_tup (z_cons z_non (z_cons z_str z_nil)))))
  zb_nil)
  (zb_one (z_ret (z_tup (z_cons z_non (z_cons (z_ix ix_seq l_ix (z_fz (z_lst (z_cons z_str (z_cons z_str z_nil)))) (z_intC T.int_ (z_cons (z_cmp (o_eq hr) l_eq (z_var 4) (z_fz (z_lcR1 (own := [("_law_k", 5)]) (ok := by show blkC ["_law_text", "_law_found", "_law_caught", "e", "_law_flags_here", "_law_k"] (defScope s__law_told) _ _ = true; decide +kernel) T.range_ (z_cons z_int z_nil) (c_ok (gzt := (gg_name 5)) (fun _ _ _ _ _ => (g_name 5 nd).pg) (fun _ _ _ _ _ => (z_cmp (o_eq hr) l_eq (z_var 5) z_int))) nd))) z_nil))) z_nil)))))))))))) ?_
  intro ds w Q E h
  unfold sp__law_told at h
  clear nd d__law_flags d_read_line hb hm F T fd f base mg K CL
  obtain ⟨t, rfl, ht, q⟩ := h
  have q := q.out
  by_cases h1 : rdB t = true
  · by_cases h2 : rdV t 2 < 1
    · have q := q _ (dueD_l h1 h2).symm
      kby_none
      all_goals try first | (exfalso; exact absurd (h1.symm.trans (by assumption)) (by decide)) | (exfalso; omega)
      refine un_comp ?_
      kby_none
      refine un_comp ?_
      kby_none
      all_goals exact q
    · have q := q _ (dueD_n h1 h2).symm
      kby_none
      all_goals try (
        refine Stp.mk fun d hd => ?_
        subst hd
        kby_none)
      all_goals first | exact q | (exfalso; exact absurd (h1.symm.trans (by assumption)) (by decide)) | (exfalso; omega)
  · have h1 : rdB t = false := by simpa using h1
    have q := q _ (dueD_t h1).symm
    kby_none
    all_goals try (exfalso; exact absurd (h1.symm.trans (by assumption)) (by decide))
    refine un_comp ?_
    kby_none
    all_goals exact q
theorem ok__law_right {P : Program} {w : World} {K : PySem.W.Frag} {mg : Str → Option Value} {base : Heap} {ec : Nat → Addr} {CL : Addr} (T : Tx K mg ec CL) {f : Addr} {fd : FuncData} (F : Fun K "_law_right" "_law_right" s__law_right f fd) (hm : mg "_law_right" = some (.ref f)) (hb : Binds K fd ["_law_text"] []) (d__law_due : Fd P w K mg base (W0 ec) 2 "_law_due" sp__law_due) (d__law_same : Fd P w K mg base (W0 ec) 4 "_law_same" (sp__law_same 4)) (d__law_told : Fd P w K mg base (W0 ec) 3 "_law_told" sp__law_told) :
    Fd P w K mg base (W0 ec) 5 "_law_right" sp__law_right := by
  have nd := sc__law_right.nd
  refine fnz F sc__law_right hm hb (by
    unfold sp__law_right; intro ds w Q Q' E E' k k'
    repeat' (first | exact id | exact k _ _ | exact k' _ _ | refine Exists.imp fun _ => ?_ | refine And.imp ?_ ?_ | refine Or.imp ?_ ?_ | refine Z.impR ?_ | refine Z.allR fun _ => ?_ | refine Z.Stp.imp ?_)) (by
    intro ds w' Q E h; unfold sp__law_right at h; obtain ⟨t, rfl, -⟩ := h; rfl) (fun cdv A outer s H E hr =>
  (zb_cons (z_set 1 (z_callP d__law_due hr (z_cons (z_var 0) z_nil)) nd)
  (zb_cons (s_lcL 2 (own := [("_law_word", 3)]) (ok := by show blkC ["_law_text", "_law_due_here", "_law_great", "_law_word"] (defScope s__law_right) _ _ = true; decide +kernel) (z_fz (z_tsplit (z_var 0) (z_cons z_str z_nil))) (c_if (gzt := (gg_name 3)) (fun _ _ _ _ _ => (g_name 3 nd).pg) (fun _ _ _ _ _ => (z_tcmp op_gt l_gt (z_op op_sub l_sub (z_len T.len_ (z_cons (z_var 3) z_nil)) (z_intC T.int_ (z_cons (z_cmp (o_eq hr) l_eq (z_slS (z_var 3) z_oN (z_oS z_int)) z_str) z_nil))) z_int)) (fun _ _ _ _ _ => (z_var 3))) nd).2
  (zb_cons (z_if (z_pw (z_and (z_tcmp (o_ne hr) l_ne (z_var 2) (z_fz (z_lst z_nil))) (z_and1 (z_tcmp (o_ne hr) l_ne (z_ix ix_seq l_ix (z_var 1) z_int) z_str))))
  (zb_one (z_ret z_bl))
  zb_nil)
  (zb_one (z_ret (z_andV (z_callP d__law_same hr (z_cons (z_callP d__law_told hr (z_cons (z_var 0) z_nil)) (z_cons (z_var 1) z_nil))) (z_one (z_callP d__law_same hr (z_cons (z_callP d__law_told hr (z_cons (z_var 0) z_nil)) (z_cons (z_var 1) z_nil))))))))))) ?_
  intro ds w Q E h
  unfold sp__law_right at h
  clear nd d__law_due d__law_same d__law_told hb hm F T fd f ec base mg K CL
  obtain ⟨t, rfl, ht, q⟩ := h
  have hl : t.length ≤ 1000000 := by have := ht.1; omega
  have hl0 : ((" " : Str).length == 0) = false := rfl
  have hwl := wds_lenL ht
  have hwl2 : ((Txt.split t (" " : Str)).map D.str).length ≤ 100000 := by omega
  have dp := dep_dueD t
  kby_none
  refine Stp.mk fun d hd => ?_
  obtain rfl := hd
  kby_none
  refine ⟨fun i acc w' => ∃ m : List Str, acc = m.map D.str ∧ ∀ s ∈ m, PyData.strOk s = true, ⟨[], rfl, fun _ h => (nomatch h)⟩, ?_, ?_⟩
  · rintro i d acc w' hd ⟨m, rfl, hm⟩
    obtain ⟨s, hs, rfl⟩ := strs_get hd
    have ts := wds_ty ht (List.mem_of_getElem? hs)
    have sl : s.length ≤ 16777216 := by have := ts.1; omega
    have B : ∃ m' : List Str, m.map D.str = m'.map D.str ∧ ∀ s ∈ m', PyData.strOk s = true := ⟨m, rfl, hm⟩
    have A : ∃ m' : List Str, m.map D.str ++ [D.str s] = m'.map D.str ∧ ∀ s ∈ m', PyData.strOk s = true := ⟨m ++ [s], by rw [List.map_append]; rfl, fun x hx => by
        rcases List.mem_append.mp hx with z | z
        · exact hm x z
        · rw [List.mem_singleton.mp z]; exact ty_ok ts⟩
    kby_none
    all_goals first | exact B | exact A
  · rintro acc w' ⟨m, rfl, hm⟩
    have ok1 := okDs_strs hm
    have ok2 : okD (.lst (m.map D.str)) = true := ok1
    have dp2 := dpD_strs m
    cases h1 : rdB t
    · have ed := dueD_t h1
      rw [ed] at dp ⊢
      kby_none
      all_goals first | exact q | skip
      all_goals
        refine Stp.mk fun d hd => ?_
        rw [ed] at hd
        subst hd
        kby_none
      all_goals
        refine Stp.mk fun d hd => ?_
        rw [ed] at hd
        subst hd
        kby_none
      all_goals exact q
    by_cases h2 : rdV t 2 < 1
    · have ed := dueD_l h1 h2
      rw [ed] at dp ⊢
      kby_none
      all_goals first | exact q | skip
      all_goals
        refine Stp.mk fun d hd => ?_
        rw [ed] at hd
        subst hd
        kby_none
      all_goals
        refine Stp.mk fun d hd => ?_
        rw [ed] at hd
        subst hd
        kby_none
      all_goals exact q
    · have ed := dueD_n h1 h2
      rw [ed] at dp ⊢
      kby_none
      all_goals first | exact q | skip
      all_goals
        refine Stp.mk fun d hd => ?_
        rw [ed] at hd
        subst hd
        kby_none
      all_goals
        refine Stp.mk fun d hd => ?_
        rw [ed] at hd
        subst hd
        kby_none
      all_goals exact q
theorem ok__law_sign {P : Program} {w : World} {K : PySem.W.Frag} {mg : Str → Option Value} {base : Heap} {ec : Nat → Addr} {CL : Addr} (T : Tx K mg ec CL) {f : Addr} {fd : FuncData} (F : Fun K "_law_sign" "_law_sign" s__law_sign f fd) (hm : mg "_law_sign" = some (.ref f)) (hb : Binds K fd ["_law_deck_here"] []) (d__law_take : Fd P w K mg base (WL K ec) 1 "_law_take" sp__law_take) :
    Fd P w K mg base (WL K ec) 2 "_law_sign" sp__law_sign := by
  have nd := sc__law_sign.nd
  refine fnz F sc__law_sign hm hb (by
    unfold sp__law_sign; intro ds w Q Q' E E' k k'
    repeat' (first | exact id | exact k _ _ | exact k' _ _ | refine Exists.imp fun _ => ?_ | refine And.imp ?_ ?_ | refine Or.imp ?_ ?_ | refine Z.impR ?_ | refine Z.allR fun _ => ?_ | refine Z.Stp.imp ?_)) (by
    intro ds w' Q E h; unfold sp__law_sign at h; obtain ⟨d, rfl, -⟩ := h; rfl) (fun cdv A outer s H E hr =>
  (zb_cons (z_set 1 z_str nd)
  (zb_cons (z_set 1 (z_op o_add l_add (z_var 1) z_str) nd)
  (zb_cons (z_set 2 (z_ix ix_seq l_ix (z_fz (z_lst (z_cons z_str (z_cons (z_var 1) z_nil)))) (z_call d__law_take hr (z_cons (z_var 0) (z_cons z_int z_nil)))) nd)
  (zb_one (z_ret (z_ix ix_seq l_ix (z_var 2) (z_call d__law_take hr (z_cons (z_var 0) (z_cons (z_len T.len_ (z_cons (z_var 2) z_nil)) z_nil)))))))))) ?_
  intro ds w Q E h
  unfold sp__law_sign at h
  clear nd d__law_take hb hm F T fd f ec base mg K CL
  obtain ⟨d, rfl, hd, h⟩ := h
  kby_none
  rename_i r w1 hd1 r0 r1
  have : r = 0 ∨ r = 1 := by omega
  rcases this with rfl | rfl
  · kby_none
    rename_i k w2 hd2 k0 k1
    obtain ⟨c, hc, hc2⟩ := atI_ix (l := (Str.ofString "0019 -  +_\n").cps.toList) k0 (by rw [Array.length_toList]; exact k1) (by decide +kernel)
    exact ⟨c, hc, h c _ hd2 hc2⟩
  · kby_none
    rename_i k w2 hd2 k0 k1
    obtain ⟨c, hc, hc2⟩ := atI_ix (l := (Str.ofString " !\"#$&'()*+,-./0123456789:;<=>?@ABCDEFGHIJKLMNOP" ++ Str.ofString "QRSTUVWXYZ[\\]^_`abcdefghijklmnopqrstuvwxyz{|}~\n").cps.toList) k0 (by rw [Array.length_toList]; exact k1) (by decide +kernel)
    exact ⟨c, hc, h c _ hd2 hc2⟩
theorem ok__law_spoilt {P : Program} {w : World} {K : PySem.W.Frag} {mg : Str → Option Value} {base : Heap} {ec : Nat → Addr} {CL : Addr} (T : Tx K mg ec CL) {f : Addr} {fd : FuncData} (F : Fun K "_law_spoilt" "_law_spoilt" s__law_spoilt f fd) (hm : mg "_law_spoilt" = some (.ref f)) (hb : Binds K fd ["_law_deck_here", "_law_text"] []) (d__law_take : Fd P w K mg base (WL K ec) 1 "_law_take" sp__law_take) (d__law_sign : Fd P w K mg base (WL K ec) 2 "_law_sign" sp__law_sign) :
    Fd P w K mg base (WL K ec) 3 "_law_spoilt" sp__law_spoilt := by
  have nd := sc__law_spoilt.nd
  refine fnz F sc__law_spoilt hm hb (by
    unfold sp__law_spoilt; intro ds w Q Q' E E' k k'
    repeat' (first | exact id | exact k _ _ | exact k' _ _ | refine Exists.imp fun _ => ?_ | refine And.imp ?_ ?_ | refine Or.imp ?_ ?_ | refine Z.impR ?_ | refine Z.allR fun _ => ?_ | refine Z.Stp.imp ?_)) (by
    intro ds w' Q E h; unfold sp__law_spoilt at h; obtain ⟨d, t, rfl, -⟩ := h; rfl) (fun cdv A outer s H E hr =>
  (zb_cons (z_set 2 (z_call d__law_take hr (z_cons (z_var 0) (z_cons (z_op o_add l_add (z_len T.len_ (z_cons (z_var 1) z_nil)) z_int) z_nil))) nd)
  (zb_cons (z_set 3 (z_call d__law_take hr (z_cons (z_var 0) (z_cons z_int z_nil))) nd)
  (zb_cons (z_own 4 (z_tsplit (z_var 1) (z_cons z_str z_nil)) nd)
  (zb_cons (z_set 5 (z_call d__law_take hr (z_cons (z_var 0) (z_cons (z_lenO 4 T.len_) z_nil))) nd)
  (zb_cons (z_set 6 (z_fz (z_lst (z_cons z_str (z_cons z_str (z_cons z_str (z_cons z_str (z_cons z_str (z_cons z_str (z_cons z_str (z_cons z_str (z_cons z_str (z_cons z_str (z_cons z_str (z_cons z_str (z_cons z_str (z_cons z_str (z_cons z_str (z_cons z_str z_nil)))))))))))))))))) nd)
  (zb_cons (z_set 7 (z_ix ix_seq l_ix (z_var 6) (z_call d__law_take hr (z_cons (z_var 0) (z_cons z_int z_nil)))) nd)
  (zb_cons (z_if (z_tcmp (o_eq hr) l_eq (z_var 3) z_int)
  (zb_one (z_ret (z_op o_add l_add (z_slS (z_var 1) z_oN (z_oS (z_var 2))) (z_slS (z_var 1) (z_oS (z_op o_add l_add (z_var 2) z_int)) z_oN))))
  zb_nil)
  (zb_cons (z_if (z_tcmp (o_eq hr) l_eq (z_var 3) z_int)
  (zb_one (z_ret (z_op o_add l_add (z_op o_add l_add (z_slS (z_var 1) z_oN (z_oS (z_var 2))) (z_call d__law_sign hr (z_cons (z_var 0) z_nil))) (z_slS (z_var 1) (z_oS (z_var 2)) z_oN))))
  zb_nil)
  (zb_cons (z_if (z_tcmp (o_eq hr) l_eq (z_var 3) z_int)
  (zb_one (z_ret (z_op o_add l_add (z_op o_add l_add (z_slS (z_var 1) z_oN (z_oS (z_var 2))) (z_call d__law_sign hr (z_cons (z_var 0) z_nil))) (z_slS (z_var 1) (z_oS (z_op o_add l_add (z_var 2) z_int)) z_oN))))
  zb_nil)
  (zb_cons (z_if (z_tcmp (o_eq hr) l_eq (z_var 3) z_int)
  (zb_one (z_insO 4 (z_var 5) (z_var 7)))
  (zb_one (z_if (z_tcmp (o_eq hr) l_eq (z_var 3) z_int)
  (zb_one (z_popO 4 (z_var 5)))
  (zb_one (z_if (z_tcmp (o_eq hr) l_eq (z_var 3) z_int)
  (zb_one (z_setO 4 (z_var 5) (z_var 7)))
  (zb_frz 4 (zb_one (z_own 4 (z_rev (z_var 4)) nd))))))))
  (zb_frz 4 (zb_one (z_ret (z_tjoin z_str (z_cons (z_var 4) z_nil)))))))))))))))) ?_
  intro ds w Q E h
  unfold sp__law_spoilt at h
  clear nd d__law_take d__law_sign hb hm F T fd f ec base mg K CL
  obtain ⟨d, t, rfl, hd, ht, h⟩ := h
  have h := h.out
  have hl0 : t.length ≤ 400 := ht.1
  have hl : t.length ≤ 1000000 := by omega
  have hl1 : t.length ≤ 16777216 := by omega
  have hl2 : ((" " : Str).length == 0) = false := rfl
  have s1 : Sm 8000 ((t.length : Int) + 1) := Sm.le (n := 63) (Sm.near (by omega) (by omega)) (by decide)
  have hw := wds_lenL (t := t) ⟨Nat.le_refl _, ht.2⟩
  have hp : 0 < ((Txt.split t (" " : Str)).map D.str).length := by rw [List.length_map]; exact wds_pos t
  have s2 : Sm 8000 (((Txt.split t (" " : Str)).map D.str).length : Int) := Sm.le (n := 63) (Sm.near (by omega) (by omega)) (by decide)
  have rw_ := row_wds ht
  kby_none
  rename_i at_ w1 hd1 at0 at1 way w2 hd2 way0 way1 one w3 hd3 one0 one1 od w4 hd4 od0 od1
  obtain ⟨wd, ewd, twd⟩ := odd16 od0 od1
  have TL_ := ty_L ht at0 (by omega)
  have TR0 := ty_R ht at0
  have TR1 := ty_R ht (k := at_ + 1) (by omega)
  have l0 := TL_.1
  have l1 := TR0.1
  have l2 := TR1.1
  have o1 : ∀ c : Nat, (⟨#[c]⟩ : Str).length = 1 := fun _ => rfl
  have J : ∀ {l : List D} {n : Nat} {ys : List Str} {w'' : Mst}, Deck w'' d → l = ys.map D.str → Row n ys → n ≤ t.length + 10 → ∃ ys : List Str, Txs l ys ∧ (ys.map (·.length)).sum + ys.length * (Str.ofString " ").length ≤ 16777216 ∧ Q (.str (Txt.join (Str.ofString " ") ys)) w'' := fun {l n ys w''} hd e hr hn =>
    ⟨ys, e, Nat.le_trans (row_fit hr) (by omega), h _ _ hd ((row_ty hr).le hn)⟩
  have hj : ixN ((Txt.split t (Str.ofString " ")).map D.str).length one = some one.toNat := ixN_in one0 one1
  have e1 : List.take one.toNat ((Txt.split t (Str.ofString " ")).map D.str) ++ [D.str wd] ++ List.drop one.toNat ((Txt.split t (Str.ofString " ")).map D.str) = ((wds t).take one.toNat ++ [wd] ++ (wds t).drop one.toNat).map D.str := by
    rw [List.map_append, List.map_append, List.map_take, List.map_drop]; rfl
  have e2 : ((Txt.split t (Str.ofString " ")).map D.str).eraseIdx one.toNat = ((wds t).eraseIdx one.toNat).map D.str := by
    rw [List.eraseIdx_eq_take_drop_succ, List.eraseIdx_eq_take_drop_succ, List.map_append, List.map_take, List.map_drop]
  have e3 : ((Txt.split t (Str.ofString " ")).map D.str).set one.toNat (D.str wd) = ((wds t).set one.toNat wd).map D.str := List.map_set.symm
  have e4 : ((Txt.split t (Str.ofString " ")).map D.str).reverse = (wds t).reverse.map D.str := List.map_reverse.symm
  have J1 := J hd4 e1 (row_ins rw_ twd) (by omega)
  have J2 := J hd4 e2 (row_pop rw_) (by omega)
  have J3 := J hd4 e3 (row_set rw_ twd) (by omega)
  have J4 := J hd4 e4 (row_rev rw_) (by omega)
  kby_none
  all_goals first
    | exact h _ _ hd4 ((ty_app TL_ TR1).le (by omega))
    | exact h _ _ (by assumption) ((ty_app (ty_app TL_ (ty_one (by assumption))) TR0).le (by omega))
    | exact h _ _ (by assumption) ((ty_app (ty_app TL_ (ty_one (by assumption))) TR1).le (by omega))
    | exact J1
    | exact J2
    | exact J3
    | exact J4
    | (rw [slen_app, o1]; omega)
    | (rw [o1]; omega)
theorem ok_law {P : Program} {w : World} {K : PySem.W.Frag} {mg : Str → Option Value} {base : Heap} {ec : Nat → Addr} {CL : Addr} (T : Tx K mg ec CL) {f : Addr} {fd : FuncData} (F : Fun K "law" "law" s_law f fd) (hm : mg "law" = some (.ref f)) (hb : Binds K fd ["_law_script"] []) (d__law_deck : Fd P w K mg base (WL K ec) 1 "_law_deck" sp__law_deck) (d__law_any_line : Fd P w K mg base (WL K ec) 5 "_law_any_line" sp__law_any_line) (d_line_shown : Fd P w K mg base (W0 ec) 2 "line_shown" sp_line_shown) (d__law_spoilt : Fd P w K mg base (WL K ec) 3 "_law_spoilt" sp__law_spoilt) (d__law_right : Fd P w K mg base (W0 ec) 5 "_law_right" sp__law_right) (d__law_same : Fd P w K mg base (W0 ec) 4 "_law_same" (sp__law_same 4)) (d_read_line : Fd P w K mg base (W0 ec) 2 "read_line" sp_read_line) :
    FnOk P w K mg base (L2.CX P w) 6 f fd ["_law_script"] (spz K (WL K ec) sp_law) := by
  have nd := sc_law.nd
  refine fnzOk F sc_law (by
    intro ds w' Q E h; obtain ⟨_, _, rfl, -⟩ := h; rfl) (fun cdv A outer s H E hr =>
  (zb_cons (z_set 1 (z_call d__law_deck hr (z_cons (z_var 0) z_nil)) nd)
  (zb_cons (z_forR1 2 T.range_ (z_cons z_int z_nil)
  (zb_cons (z_set 3 (z_call d__law_any_line hr (z_cons (z_var 1) (z_cons z_int z_nil))) nd)
  (zb_cons (z_set 4 (z_op o_add l_add (z_op o_add l_add (z_op o_add l_add (z_op o_add l_add (z_strC T.str_ (z_cons (z_ix ix_seq l_ix (z_var 3) z_int) z_nil)) z_str) (z_strC T.str_ (z_cons (z_ix ix_seq l_ix (z_var 3) z_int) z_nil))) z_str) (z_strC T.str_ (z_cons (z_ix ix_seq l_ix (z_var 3) z_int) z_nil))) nd)
  (zb_cons (z_if (z_pw (z_or (z_not (z_tval (z_callP d__law_same hr (z_cons (z_callP d_line_shown hr (z_cons (z_var 3) z_nil)) (z_cons (z_var 4) z_nil))))) (z_or1 (z_not (z_tval (z_callP d__law_same hr (z_cons (z_callP d_read_line hr (z_cons (z_var 4) z_nil)) (z_cons (z_var 3) z_nil))))))))
  (zb_one (z_ret z_bl))
  zb_nil)
  (zb_one (z_forR1 5 T.range_ (z_cons z_int z_nil)
  (zb_cons (z_set 6 (z_call d__law_spoilt hr (z_cons (z_var 1) (z_cons (z_var 4) z_nil))) nd)
  (zb_one (z_if (z_pw (z_or (z_not (z_tval (z_callP d__law_right hr (z_cons (z_var 6) z_nil)))) (z_or1 (z_not (z_tval (z_callP d__law_right hr (z_cons (z_call d__law_spoilt hr (z_cons (z_var 1) (z_cons (z_var 6) z_nil))) z_nil)))))))
  (zb_one (z_ret z_bl))
  zb_nil))) nd))))) nd)
  (zb_cons (z_set 7 (z_fz (z_lst (z_cons z_str (z_cons z_str (z_cons z_str (z_cons z_str (z_cons z_str (z_cons z_str (z_cons z_str (z_cons z_str (z_cons z_str (z_cons z_str z_nil)))))))))))) nd)
  (zb_cons (z_forL (z_fz (z_cat (z_var 7) (z_fz (z_lst (z_cons z_str (z_cons z_str z_nil)))))) (g_name 4 nd)
  (zb_one (z_if (z_not (z_tval (z_callP d__law_right hr (z_cons (z_var 4) z_nil))))
  (zb_one (z_ret z_bl))
  zb_nil)))
  (zb_one (z_ret (z_cmp (o_eq hr) l_eq (z_callP d_line_shown hr (z_cons (z_tup (z_cons (z_un un_neg l_neg z_int) (z_cons z_int (z_cons z_int z_nil)))) z_nil)) z_str)))))))) ?_
  intro ds w Q E h
  obtain ⟨rfl, ns, rfl, hlen, hbits, h⟩ := h
  clear nd d__law_deck d__law_any_line d_line_shown d__law_spoilt d__law_right d__law_same d_read_line hb hm F T fd f ec base mg K CL
  kby_none
  rename_i d w1 hd
  refine ⟨fun i δ w' => ∃ (x2 x3 x4 x5 x6 x7 : Sl), δ = [.val (.arr (ns.map D.int)), .val (.ref d), x2, x3, x4, x5, x6, x7] ∧ Deck w' d, ⟨_, _, _, _, _, _, rfl, hd⟩, ?_, ?_⟩
  · rintro i δ w' hi ⟨x2, x3, x4, x5, x6, x7, rfl, hd⟩
    kby_none
    refine Stp.mk fun a b m w2 hd a0 a1 b0 b1 m0 m1 => ?_
    obtain ⟨na, sa⟩ := sm60x a0 a1
    obtain ⟨nb, sb⟩ := sm60x b0 b1
    obtain ⟨nm, sm⟩ := sm60x (i := m) (by omega) (Int.le_of_lt m1)
    have ta := tx_ty na
    have tb := tx_ty nb
    have tm := tx_ty nm
    have tw : Ty 1 (" " : Str) := ty_lit (by decide +kernel)
    have ty : Ty 191 (tx a ++ (" " : Str) ++ tx b ++ (" " : Str) ++ tx m) := ty_app (ty_app (ty_app (ty_app ta tw) tb) tw) tm
    have ty4 := ty.le (show 191 ≤ 400 by decide)
    have ty5 := ty.le (show 191 ≤ 500 by decide)
    have l4 := ty.1
    have l1 := ta.1
    have l2 := (ty_app ta tw).1
    have l2b := tb.1
    have l3 := (ty_app (ty_app ta tw) tb).1
    have l3b := (ty_app (ty_app (ty_app ta tw) tb) tw).1
    have l3m := tm.1
    have ow : (" " : Str).length = 1 := rfl
    obtain ⟨rb, rv, rl⟩ := rd_shown sa sb sm
    rw [shown_app] at rb rv rl
    have ds := dep_s (tx a ++ (" " : Str) ++ tx b ++ (" " : Str) ++ tx m)
    have dl := dep_l a b m
    unfold tx at ty4 ty5 l4 l1 l2 l2b l3 l3b l3m rb rv rl
    kby_none
    all_goals try first | omega | (exfalso; exact absurd (rb.symm.trans (by assumption)) (by decide)) | (exfalso; omega)
    refine Stp.mk fun z hz => ?_
    rw [rl] at hz
    subst hz
    kby_none
    refine ⟨fun i1 δ w' => ∃ (x5 x6 x7 : Sl), δ = [.val (.arr (ns.map D.int)), .val (.ref d), .val (.int (0 + (i : Int))), .val (ln a b m), .val (.str (Str.ofString (toString a) ++ (" " : Str) ++ Str.ofString (toString b) ++ (" " : Str) ++ Str.ofString (toString m))), x5, x6, x7] ∧ Deck w' d, ⟨_, _, _, rfl, hd⟩, ?_, ?_⟩
    · rintro i1 δ w' hi ⟨x5, x6, x7, rfl, hd⟩
      kby_none
      refine Stp.mk fun r w3 hd tr => ?_
      have tr4 := tr.le (show _ ≤ 400 by omega)
      have tr5 := tr.le (show _ ≤ 500 by omega)
      have lr := tr.1
      kby_none
      all_goals try (exfalso; exact absurd (by assumption) Bool.true_eq_false)
      refine Stp.mk fun r2 w4 hd tr2 => ?_
      have tr6 := tr2.le (show _ ≤ 500 by omega)
      kby_none
    · rintro δ w' ⟨x5, x6, x7, rfl, hd⟩
      kby_none
  · rintro δ w' ⟨x2, x3, x4, x5, x6, x7, rfl, hd⟩
    kby_none
    refine ⟨fun i δ w' => ∃ (x2 x3 x4 x5 x6 x7 : Sl), δ = [.val (.arr (ns.map D.int)), .val (.ref d), x2, x3, x4, x5, x6, x7] ∧ Deck w' d, ⟨_, _, _, _, _, _, rfl, hd⟩, ?_, ?_⟩
    · rintro i z δ w' hz ⟨x2, x3, x4, x5, x6, x7, rfl, hd⟩
      obtain ⟨t, rfl, ht⟩ := some12 z (List.mem_of_getElem? hz)
      kby_none
    · rintro δ w' ⟨x2, x3, x4, x5, x6, x7, rfl, hd⟩
      kby_none
      exact bl_dec (h _) (by decide +kernel)
theorem all_mk {l : PySem.W.OpenLaw} {w : World} {K : PySem.W.Frag} {h : Heap} {mg : Str → Option Value} {fa : Addr} (X : K.In h) (G : h.Ns mainGlobals mg) (hfa : mg "law" = some (.ref fa))
    {f0 f1 f2 f3 f4 f5 f6 f7 f8 f9 f10 f11 f12 f13 f14 f15 f16 f17 f18 : Addr} {od0 an0 od1 an1 od2 an2 od3 an3 od4 an4 od5 an5 od6 an6 od7 an7 od8 an8 od9 an9 od10 an10 od11 an11 od12 an12 od13 an13 od14 an14 od15 an15 od16 an16 od17 an17 od18 an18 : Option Addr} {sl0 sl1 sl2 sl3 sl4 sl5 sl6 sl7 sl8 sl9 sl10 sl11 sl12 sl13 sl14 sl15 sl16 sl17 sl18 : Array (Option Value)} {oc0 kV0 dc0 pm0 cd0 ct0 oc1 kV1 dc1 pm1 cd1 ct1 oc2 kV2 dc2 pm2 cd2 ct2 oc3 kV3 dc3 pm3 cd3 ct3 oc4 kV4 dc4 pm4 cd4 ct4 oc5 kV5 dc5 pm5 cd5 ct5 oc6 kV6 dc6 pm6 cd6 ct6 oc7 kV7 dc7 pm7 cd7 ct7 oc8 kV8 dc8 pm8 cd8 ct8 oc9 kV9 dc9 pm9 cd9 ct9 oc10 kV10 dc10 pm10 cd10 ct10 oc11 kV11 dc11 pm11 cd11 ct11 oc12 kV12 dc12 pm12 cd12 ct12 oc13 kV13 dc13 pm13 cd13 ct13 oc14 kV14 dc14 pm14 cd14 ct14 oc15 kV15 dc15 pm15 cd15 ct15 oc16 kV16 dc16 pm16 cd16 ct16 oc17 kV17 dc17 pm17 cd17 ct17 oc18 kV18 dc18 pm18 cd18 ct18 : Value}
    {C0 C1 C2 C3 C4 C5 C6 : Addr}
    (a0 : PySem.W.nsIn K mainGlobals "need_line" = some (some (.ref f0))) (l0 : K.lookup f0 = some ⟨oc0, od0, .func (PySem.W.fnOf "need_line" "need_line" (defArgs s_need_line) (defBody s_need_line) (defScope s_need_line) .none kV0 dc0 pm0 an0 cd0 ct0), sl0⟩) (c0 : PySem.W.codeIn K cd0 "need_line" = true) (k0 : PySem.W.keepIn K (.ref f0) = true)
    (a1 : PySem.W.nsIn K mainGlobals "line_shown" = some (some (.ref f1))) (l1 : K.lookup f1 = some ⟨oc1, od1, .func (PySem.W.fnOf "line_shown" "line_shown" (defArgs s_line_shown) (defBody s_line_shown) (defScope s_line_shown) .none kV1 dc1 pm1 an1 cd1 ct1), sl1⟩) (c1 : PySem.W.codeIn K cd1 "line_shown" = true) (k1 : PySem.W.keepIn K (.ref f1) = true)
    (a2 : PySem.W.nsIn K mainGlobals "number_read" = some (some (.ref f2))) (l2 : K.lookup f2 = some ⟨oc2, od2, .func (PySem.W.fnOf "number_read" "number_read" (defArgs s_number_read) (defBody s_number_read) (defScope s_number_read) .none kV2 dc2 pm2 an2 cd2 ct2), sl2⟩) (c2 : PySem.W.codeIn K cd2 "number_read" = true) (k2 : PySem.W.keepIn K (.ref f2) = true)
    (a3 : PySem.W.nsIn K mainGlobals "read_line" = some (some (.ref f3))) (l3 : K.lookup f3 = some ⟨oc3, od3, .func (PySem.W.fnOf "read_line" "read_line" (defArgs s_read_line) (defBody s_read_line) (defScope s_read_line) .none kV3 dc3 pm3 an3 cd3 ct3), sl3⟩) (c3 : PySem.W.codeIn K cd3 "read_line" = true) (k3 : PySem.W.keepIn K (.ref f3) = true)
    (a4 : PySem.W.nsIn K mainGlobals "_law_deck" = some (some (.ref f4))) (l4 : K.lookup f4 = some ⟨oc4, od4, .func (PySem.W.fnOf "_law_deck" "_law_deck" (defArgs s__law_deck) (defBody s__law_deck) (defScope s__law_deck) .none kV4 dc4 pm4 an4 cd4 ct4), sl4⟩) (c4 : PySem.W.codeIn K cd4 "_law_deck" = true) (k4 : PySem.W.keepIn K (.ref f4) = true)
    (a5 : PySem.W.nsIn K mainGlobals "_law_take" = some (some (.ref f5))) (l5 : K.lookup f5 = some ⟨oc5, od5, .func (PySem.W.fnOf "_law_take" "_law_take" (defArgs s__law_take) (defBody s__law_take) (defScope s__law_take) .none kV5 dc5 pm5 an5 cd5 ct5), sl5⟩) (c5 : PySem.W.codeIn K cd5 "_law_take" = true) (k5 : PySem.W.keepIn K (.ref f5) = true)
    (a6 : PySem.W.nsIn K mainGlobals "_law_far" = some (some (.ref f6))) (l6 : K.lookup f6 = some ⟨oc6, od6, .func (PySem.W.fnOf "_law_far" "_law_far" (defArgs s__law_far) (defBody s__law_far) (defScope s__law_far) .none kV6 dc6 pm6 an6 cd6 ct6), sl6⟩) (c6 : PySem.W.codeIn K cd6 "_law_far" = true) (k6 : PySem.W.keepIn K (.ref f6) = true)
    (a7 : PySem.W.nsIn K mainGlobals "_law_wide" = some (some (.ref f7))) (l7 : K.lookup f7 = some ⟨oc7, od7, .func (PySem.W.fnOf "_law_wide" "_law_wide" (defArgs s__law_wide) (defBody s__law_wide) (defScope s__law_wide) .none kV7 dc7 pm7 an7 cd7 ct7), sl7⟩) (c7 : PySem.W.codeIn K cd7 "_law_wide" = true) (k7 : PySem.W.keepIn K (.ref f7) = true)
    (a8 : PySem.W.nsIn K mainGlobals "_law_signed" = some (some (.ref f8))) (l8 : K.lookup f8 = some ⟨oc8, od8, .func (PySem.W.fnOf "_law_signed" "_law_signed" (defArgs s__law_signed) (defBody s__law_signed) (defScope s__law_signed) .none kV8 dc8 pm8 an8 cd8 ct8), sl8⟩) (c8 : PySem.W.codeIn K cd8 "_law_signed" = true) (k8 : PySem.W.keepIn K (.ref f8) = true)
    (a9 : PySem.W.nsIn K mainGlobals "_law_any_line" = some (some (.ref f9))) (l9 : K.lookup f9 = some ⟨oc9, od9, .func (PySem.W.fnOf "_law_any_line" "_law_any_line" (defArgs s__law_any_line) (defBody s__law_any_line) (defScope s__law_any_line) .none kV9 dc9 pm9 an9 cd9 ct9), sl9⟩) (c9 : PySem.W.codeIn K cd9 "_law_any_line" = true) (k9 : PySem.W.keepIn K (.ref f9) = true)
    (a10 : PySem.W.nsIn K mainGlobals "_law_flags" = some (some (.ref f10))) (l10 : K.lookup f10 = some ⟨oc10, od10, .func (PySem.W.fnOf "_law_flags" "_law_flags" (defArgs s__law_flags) (defBody s__law_flags) (defScope s__law_flags) .none kV10 dc10 pm10 an10 cd10 ct10), sl10⟩) (c10 : PySem.W.codeIn K cd10 "_law_flags" = true) (k10 : PySem.W.keepIn K (.ref f10) = true)
    (a11 : PySem.W.nsIn K mainGlobals "_law_same" = some (some (.ref f11))) (l11 : K.lookup f11 = some ⟨oc11, od11, .func (PySem.W.fnOf "_law_same" "_law_same" (defArgs s__law_same) (defBody s__law_same) (defScope s__law_same) .none kV11 dc11 pm11 an11 cd11 ct11), sl11⟩) (c11 : PySem.W.codeIn K cd11 "_law_same" = true) (k11 : PySem.W.keepIn K (.ref f11) = true)
    (a12 : PySem.W.nsIn K mainGlobals "_law_number_in" = some (some (.ref f12))) (l12 : K.lookup f12 = some ⟨oc12, od12, .func (PySem.W.fnOf "_law_number_in" "_law_number_in" (defArgs s__law_number_in) (defBody s__law_number_in) (defScope s__law_number_in) .none kV12 dc12 pm12 an12 cd12 ct12), sl12⟩) (c12 : PySem.W.codeIn K cd12 "_law_number_in" = true) (k12 : PySem.W.keepIn K (.ref f12) = true)
    (a13 : PySem.W.nsIn K mainGlobals "_law_due" = some (some (.ref f13))) (l13 : K.lookup f13 = some ⟨oc13, od13, .func (PySem.W.fnOf "_law_due" "_law_due" (defArgs s__law_due) (defBody s__law_due) (defScope s__law_due) .none kV13 dc13 pm13 an13 cd13 ct13), sl13⟩) (c13 : PySem.W.codeIn K cd13 "_law_due" = true) (k13 : PySem.W.keepIn K (.ref f13) = true)
    (a14 : PySem.W.nsIn K mainGlobals "_law_told" = some (some (.ref f14))) (l14 : K.lookup f14 = some ⟨oc14, od14, .func (PySem.W.fnOf "_law_told" "_law_told" (defArgs s__law_told) (defBody s__law_told) (defScope s__law_told) .none kV14 dc14 pm14 an14 cd14 ct14), sl14⟩) (c14 : PySem.W.codeIn K cd14 "_law_told" = true) (k14 : PySem.W.keepIn K (.ref f14) = true)
    (a15 : PySem.W.nsIn K mainGlobals "_law_right" = some (some (.ref f15))) (l15 : K.lookup f15 = some ⟨oc15, od15, .func (PySem.W.fnOf "_law_right" "_law_right" (defArgs s__law_right) (defBody s__law_right) (defScope s__law_right) .none kV15 dc15 pm15 an15 cd15 ct15), sl15⟩) (c15 : PySem.W.codeIn K cd15 "_law_right" = true) (k15 : PySem.W.keepIn K (.ref f15) = true)
    (a16 : PySem.W.nsIn K mainGlobals "_law_sign" = some (some (.ref f16))) (l16 : K.lookup f16 = some ⟨oc16, od16, .func (PySem.W.fnOf "_law_sign" "_law_sign" (defArgs s__law_sign) (defBody s__law_sign) (defScope s__law_sign) .none kV16 dc16 pm16 an16 cd16 ct16), sl16⟩) (c16 : PySem.W.codeIn K cd16 "_law_sign" = true) (k16 : PySem.W.keepIn K (.ref f16) = true)
    (a17 : PySem.W.nsIn K mainGlobals "_law_spoilt" = some (some (.ref f17))) (l17 : K.lookup f17 = some ⟨oc17, od17, .func (PySem.W.fnOf "_law_spoilt" "_law_spoilt" (defArgs s__law_spoilt) (defBody s__law_spoilt) (defScope s__law_spoilt) .none kV17 dc17 pm17 an17 cd17 ct17), sl17⟩) (c17 : PySem.W.codeIn K cd17 "_law_spoilt" = true) (k17 : PySem.W.keepIn K (.ref f17) = true)
    (a18 : PySem.W.nsIn K mainGlobals "law" = some (some (.ref f18))) (l18 : K.lookup f18 = some ⟨oc18, od18, .func (PySem.W.fnOf "law" "law" (defArgs s_law) (defBody s_law) (defScope s_law) .none kV18 dc18 pm18 an18 cd18 ct18), sl18⟩) (c18 : PySem.W.codeIn K cd18 "law" = true) (k18 : PySem.W.keepIn K (.ref f18) = true)
    (aE0 : PySem.W.nsIn K mainGlobals "NoLine" = some (some (.ref C0))) (xE0 : PySem.W.excIn K C0 [.type "ValueError", .type "Exception", .type "BaseException", .type "object"] "ValueError.__new__" = true) (kE0 : PySem.W.keepIn K (.ref C0) = true) (bE0 : PySem.W.subIn K (.ref C0) (.type "BaseException") = some true) (tE0 : PySem.W.typeIn K (.ref C0) = some (.type "type"))
    (aE1 : PySem.W.nsIn K mainGlobals "NoTurn" = some (some (.ref C1))) (xE1 : PySem.W.excIn K C1 [.type "ValueError", .type "Exception", .type "BaseException", .type "object"] "ValueError.__new__" = true) (kE1 : PySem.W.keepIn K (.ref C1) = true) (bE1 : PySem.W.subIn K (.ref C1) (.type "BaseException") = some true) (tE1 : PySem.W.typeIn K (.ref C1) = some (.type "type"))
    (aE2 : PySem.W.nsIn K mainGlobals "NoText" = some (some (.ref C2))) (xE2 : PySem.W.excIn K C2 [.type "ValueError", .type "Exception", .type "BaseException", .type "object"] "ValueError.__new__" = true) (kE2 : PySem.W.keepIn K (.ref C2) = true) (bE2 : PySem.W.subIn K (.ref C2) (.type "BaseException") = some true) (tE2 : PySem.W.typeIn K (.ref C2) = some (.type "type"))
    (aE3 : PySem.W.nsIn K mainGlobals "NoStretch" = some (some (.ref C3))) (xE3 : PySem.W.excIn K C3 [.type "ValueError", .type "Exception", .type "BaseException", .type "object"] "ValueError.__new__" = true) (kE3 : PySem.W.keepIn K (.ref C3) = true) (bE3 : PySem.W.subIn K (.ref C3) (.type "BaseException") = some true) (tE3 : PySem.W.typeIn K (.ref C3) = some (.type "type"))
    (aE4 : PySem.W.nsIn K mainGlobals "NoPlace" = some (some (.ref C4))) (xE4 : PySem.W.excIn K C4 [.type "ValueError", .type "Exception", .type "BaseException", .type "object"] "ValueError.__new__" = true) (kE4 : PySem.W.keepIn K (.ref C4) = true) (bE4 : PySem.W.subIn K (.ref C4) (.type "BaseException") = some true) (tE4 : PySem.W.typeIn K (.ref C4) = some (.type "type"))
    (aE5 : PySem.W.nsIn K mainGlobals "NoMap" = some (some (.ref C5))) (xE5 : PySem.W.excIn K C5 [.type "ValueError", .type "Exception", .type "BaseException", .type "object"] "ValueError.__new__" = true) (kE5 : PySem.W.keepIn K (.ref C5) = true) (bE5 : PySem.W.subIn K (.ref C5) (.type "BaseException") = some true) (tE5 : PySem.W.typeIn K (.ref C5) = some (.type "type"))
    (aE6 : PySem.W.nsIn K mainGlobals "NoAsk" = some (some (.ref C6))) (xE6 : PySem.W.excIn K C6 [.type "ValueError", .type "Exception", .type "BaseException", .type "object"] "ValueError.__new__" = true) (kE6 : PySem.W.keepIn K (.ref C6) = true) (bE6 : PySem.W.subIn K (.ref C6) (.type "BaseException") = some true) (tE6 : PySem.W.typeIn K (.ref C6) = some (.type "type"))
    {CL : Addr} (aL : PySem.W.nsIn K mainGlobals "LineError" = some (some (.ref CL))) (n0 : PySem.W.specialIn K (.builtin "object.__class__") "__get__" = some (some (.builtin "getset_descriptor.__get__"))) (n1 : PySem.W.takesIn K (.builtin "object.__class__") = some true)
    (noL : PySem.W.kitOne K (.type "NoneType") (.ref CL) = some false) (no0 : PySem.W.kitOne K (.type "NoneType") (.ref C0) = some false) (no1 : PySem.W.kitOne K (.type "NoneType") (.ref C1) = some false) (no2 : PySem.W.kitOne K (.type "NoneType") (.ref C2) = some false) (no3 : PySem.W.kitOne K (.type "NoneType") (.ref C3) = some false) (no4 : PySem.W.kitOne K (.type "NoneType") (.ref C4) = some false) (no5 : PySem.W.kitOne K (.type "NoneType") (.ref C5) = some false) (no6 : PySem.W.kitOne K (.type "NoneType") (.ref C6) = some false)
    (xm0 : PySem.W.exmOne K (.ref C0) (.ref CL) = some true) (il0 : PySem.W.kitOne K (.ref C0) (.ref CL) = some true) (iv0 : PySem.W.kitOne K (.ref C0) (.type "ValueError") = some true) (hg0 : PySem.W.findIn K (.ref C0) "__getattribute__" = some (some (.builtin "BaseException.__getattribute__"))) (hk0 : PySem.W.findIn K (.ref C0) "__getattr__" = some none) (hd0 : PySem.W.hasDictIn K C0 = true) (ha0 : PySem.W.findIn K (.ref C0) "__class__" = some (some (.builtin "object.__class__"))) (hm0 : PySem.W.mroIn K C0 (.type "object") = some true)
    (is0_0 : PySem.W.kitOne K (.ref C0) (.ref C0) = some true)
    (is0_1 : PySem.W.kitOne K (.ref C0) (.ref C1) = some false)
    (is0_2 : PySem.W.kitOne K (.ref C0) (.ref C2) = some false)
    (is0_3 : PySem.W.kitOne K (.ref C0) (.ref C3) = some false)
    (is0_4 : PySem.W.kitOne K (.ref C0) (.ref C4) = some false)
    (is0_5 : PySem.W.kitOne K (.ref C0) (.ref C5) = some false)
    (is0_6 : PySem.W.kitOne K (.ref C0) (.ref C6) = some false)
    (xm1 : PySem.W.exmOne K (.ref C1) (.ref CL) = some true) (il1 : PySem.W.kitOne K (.ref C1) (.ref CL) = some true) (iv1 : PySem.W.kitOne K (.ref C1) (.type "ValueError") = some true) (hg1 : PySem.W.findIn K (.ref C1) "__getattribute__" = some (some (.builtin "BaseException.__getattribute__"))) (hk1 : PySem.W.findIn K (.ref C1) "__getattr__" = some none) (hd1 : PySem.W.hasDictIn K C1 = true) (ha1 : PySem.W.findIn K (.ref C1) "__class__" = some (some (.builtin "object.__class__"))) (hm1 : PySem.W.mroIn K C1 (.type "object") = some true)
    (is1_0 : PySem.W.kitOne K (.ref C1) (.ref C0) = some false)
    (is1_1 : PySem.W.kitOne K (.ref C1) (.ref C1) = some true)
    (is1_2 : PySem.W.kitOne K (.ref C1) (.ref C2) = some false)
    (is1_3 : PySem.W.kitOne K (.ref C1) (.ref C3) = some false)
    (is1_4 : PySem.W.kitOne K (.ref C1) (.ref C4) = some false)
    (is1_5 : PySem.W.kitOne K (.ref C1) (.ref C5) = some false)
    (is1_6 : PySem.W.kitOne K (.ref C1) (.ref C6) = some false)
    (xm2 : PySem.W.exmOne K (.ref C2) (.ref CL) = some true) (il2 : PySem.W.kitOne K (.ref C2) (.ref CL) = some true) (iv2 : PySem.W.kitOne K (.ref C2) (.type "ValueError") = some true) (hg2 : PySem.W.findIn K (.ref C2) "__getattribute__" = some (some (.builtin "BaseException.__getattribute__"))) (hk2 : PySem.W.findIn K (.ref C2) "__getattr__" = some none) (hd2 : PySem.W.hasDictIn K C2 = true) (ha2 : PySem.W.findIn K (.ref C2) "__class__" = some (some (.builtin "object.__class__"))) (hm2 : PySem.W.mroIn K C2 (.type "object") = some true)
    (is2_0 : PySem.W.kitOne K (.ref C2) (.ref C0) = some false)
    (is2_1 : PySem.W.kitOne K (.ref C2) (.ref C1) = some false)
    (is2_2 : PySem.W.kitOne K (.ref C2) (.ref C2) = some true)
    (is2_3 : PySem.W.kitOne K (.ref C2) (.ref C3) = some false)
    (is2_4 : PySem.W.kitOne K (.ref C2) (.ref C4) = some false)
    (is2_5 : PySem.W.kitOne K (.ref C2) (.ref C5) = some false)
    (is2_6 : PySem.W.kitOne K (.ref C2) (.ref C6) = some false)
    (xm3 : PySem.W.exmOne K (.ref C3) (.ref CL) = some true) (il3 : PySem.W.kitOne K (.ref C3) (.ref CL) = some true) (iv3 : PySem.W.kitOne K (.ref C3) (.type "ValueError") = some true) (hg3 : PySem.W.findIn K (.ref C3) "__getattribute__" = some (some (.builtin "BaseException.__getattribute__"))) (hk3 : PySem.W.findIn K (.ref C3) "__getattr__" = some none) (hd3 : PySem.W.hasDictIn K C3 = true) (ha3 : PySem.W.findIn K (.ref C3) "__class__" = some (some (.builtin "object.__class__"))) (hm3 : PySem.W.mroIn K C3 (.type "object") = some true)
    (is3_0 : PySem.W.kitOne K (.ref C3) (.ref C0) = some false)
    (is3_1 : PySem.W.kitOne K (.ref C3) (.ref C1) = some false)
    (is3_2 : PySem.W.kitOne K (.ref C3) (.ref C2) = some false)
    (is3_3 : PySem.W.kitOne K (.ref C3) (.ref C3) = some true)
    (is3_4 : PySem.W.kitOne K (.ref C3) (.ref C4) = some false)
    (is3_5 : PySem.W.kitOne K (.ref C3) (.ref C5) = some false)
    (is3_6 : PySem.W.kitOne K (.ref C3) (.ref C6) = some false)
    (xm4 : PySem.W.exmOne K (.ref C4) (.ref CL) = some true) (il4 : PySem.W.kitOne K (.ref C4) (.ref CL) = some true) (iv4 : PySem.W.kitOne K (.ref C4) (.type "ValueError") = some true) (hg4 : PySem.W.findIn K (.ref C4) "__getattribute__" = some (some (.builtin "BaseException.__getattribute__"))) (hk4 : PySem.W.findIn K (.ref C4) "__getattr__" = some none) (hd4 : PySem.W.hasDictIn K C4 = true) (ha4 : PySem.W.findIn K (.ref C4) "__class__" = some (some (.builtin "object.__class__"))) (hm4 : PySem.W.mroIn K C4 (.type "object") = some true)
    (is4_0 : PySem.W.kitOne K (.ref C4) (.ref C0) = some false)
    (is4_1 : PySem.W.kitOne K (.ref C4) (.ref C1) = some false)
    (is4_2 : PySem.W.kitOne K (.ref C4) (.ref C2) = some false)
    (is4_3 : PySem.W.kitOne K (.ref C4) (.ref C3) = some false)
    (is4_4 : PySem.W.kitOne K (.ref C4) (.ref C4) = some true)
    (is4_5 : PySem.W.kitOne K (.ref C4) (.ref C5) = some false)
    (is4_6 : PySem.W.kitOne K (.ref C4) (.ref C6) = some false)
    (xm5 : PySem.W.exmOne K (.ref C5) (.ref CL) = some true) (il5 : PySem.W.kitOne K (.ref C5) (.ref CL) = some true) (iv5 : PySem.W.kitOne K (.ref C5) (.type "ValueError") = some true) (hg5 : PySem.W.findIn K (.ref C5) "__getattribute__" = some (some (.builtin "BaseException.__getattribute__"))) (hk5 : PySem.W.findIn K (.ref C5) "__getattr__" = some none) (hd5 : PySem.W.hasDictIn K C5 = true) (ha5 : PySem.W.findIn K (.ref C5) "__class__" = some (some (.builtin "object.__class__"))) (hm5 : PySem.W.mroIn K C5 (.type "object") = some true)
    (is5_0 : PySem.W.kitOne K (.ref C5) (.ref C0) = some false)
    (is5_1 : PySem.W.kitOne K (.ref C5) (.ref C1) = some false)
    (is5_2 : PySem.W.kitOne K (.ref C5) (.ref C2) = some false)
    (is5_3 : PySem.W.kitOne K (.ref C5) (.ref C3) = some false)
    (is5_4 : PySem.W.kitOne K (.ref C5) (.ref C4) = some false)
    (is5_5 : PySem.W.kitOne K (.ref C5) (.ref C5) = some true)
    (is5_6 : PySem.W.kitOne K (.ref C5) (.ref C6) = some false)
    (xm6 : PySem.W.exmOne K (.ref C6) (.ref CL) = some true) (il6 : PySem.W.kitOne K (.ref C6) (.ref CL) = some true) (iv6 : PySem.W.kitOne K (.ref C6) (.type "ValueError") = some true) (hg6 : PySem.W.findIn K (.ref C6) "__getattribute__" = some (some (.builtin "BaseException.__getattribute__"))) (hk6 : PySem.W.findIn K (.ref C6) "__getattr__" = some none) (hd6 : PySem.W.hasDictIn K C6 = true) (ha6 : PySem.W.findIn K (.ref C6) "__class__" = some (some (.builtin "object.__class__"))) (hm6 : PySem.W.mroIn K C6 (.type "object") = some true)
    (is6_0 : PySem.W.kitOne K (.ref C6) (.ref C0) = some false)
    (is6_1 : PySem.W.kitOne K (.ref C6) (.ref C1) = some false)
    (is6_2 : PySem.W.kitOne K (.ref C6) (.ref C2) = some false)
    (is6_3 : PySem.W.kitOne K (.ref C6) (.ref C3) = some false)
    (is6_4 : PySem.W.kitOne K (.ref C6) (.ref C4) = some false)
    (is6_5 : PySem.W.kitOne K (.ref C6) (.ref C5) = some false)
    (is6_6 : PySem.W.kitOne K (.ref C6) (.ref C6) = some true)
    (z_ValueError : PySem.W.nsIn K mainGlobals "ValueError" = some none)
    (z_bool : PySem.W.nsIn K mainGlobals "bool" = some none)
    (z_int : PySem.W.nsIn K mainGlobals "int" = some none)
    (z_isinstance : PySem.W.nsIn K mainGlobals "isinstance" = some none)
    (z_len : PySem.W.nsIn K mainGlobals "len" = some none)
    (z_max : PySem.W.nsIn K mainGlobals "max" = some none)
    (z_range : PySem.W.nsIn K mainGlobals "range" = some none)
    (z_str : PySem.W.nsIn K mainGlobals "str" = some none)
    (z_sum : PySem.W.nsIn K mainGlobals "sum" = some none)
    (z_tuple : PySem.W.nsIn K mainGlobals "tuple" = some none)
    (z_zip : PySem.W.nsIn K mainGlobals "zip" = some none)
    {t_FIGURES : Tok} (v_FIGURES : PySem.W.nsIn K mainGlobals "FIGURES" = some (some (.str "0123456789" t_FIGURES)))
    : ∃ fd : FuncData, (∀ (s : Shared) (v : Value), BindsTo s fd ⟨[v], []⟩ [("_law_script", v)]) ∧ ∀ base : Heap, K.In base → base.Ns mainGlobals mg → FnOk l.prog w K mg base (L2.CX l.prog w) 6 fa fd ["_law_script"] (spLawV K) := by
  have e := hfa.symm.trans (PySem.W.mg_of X G a18)
  cases e
  have T : Tx K mg (ecOf [(0, C0), (1, C1), (2, C2), (3, C3), (4, C4), (5, C5), (6, C6)]) CL := { nmL := PySem.W.mg_of X G aL, exm := fun e he => match e, he with | 0, _ => xm0 | 1, _ => xm1 | 2, _ => xm2 | 3, _ => xm3 | 4, _ => xm4 | 5, _ => xm5 | 6, _ => xm6 | n + 7, h => absurd h (by omega), isEL := fun e he => match e, he with | 0, _ => il0 | 1, _ => il1 | 2, _ => il2 | 3, _ => il3 | 4, _ => il4 | 5, _ => il5 | 6, _ => il6 | n + 7, h => absurd h (by omega), isEV := fun e he => match e, he with | 0, _ => iv0 | 1, _ => iv1 | 2, _ => iv2 | 3, _ => iv3 | 4, _ => iv4 | 5, _ => iv5 | 6, _ => iv6 | n + 7, h => absurd h (by omega), exk := fun e he => match e, he with | 0, _ => ⟨hg0, hk0, bE0, hd0, ha0, n0, n1, hm0⟩ | 1, _ => ⟨hg1, hk1, bE1, hd1, ha1, n0, n1, hm1⟩ | 2, _ => ⟨hg2, hk2, bE2, hd2, ha2, n0, n1, hm2⟩ | 3, _ => ⟨hg3, hk3, bE3, hd3, ha3, n0, n1, hm3⟩ | 4, _ => ⟨hg4, hk4, bE4, hd4, ha4, n0, n1, hm4⟩ | 5, _ => ⟨hg5, hk5, bE5, hd5, ha5, n0, n1, hm5⟩ | 6, _ => ⟨hg6, hk6, bE6, hd6, ha6, n0, n1, hm6⟩ | n + 7, h => absurd h (by omega), isE0 := fun e he => match e, he with | 0, _ => is0_0 | 1, _ => is1_0 | 2, _ => is2_0 | 3, _ => is3_0 | 4, _ => is4_0 | 5, _ => is5_0 | 6, _ => is6_0 | n + 7, h => absurd h (by omega), isE1 := fun e he => match e, he with | 0, _ => is0_1 | 1, _ => is1_1 | 2, _ => is2_1 | 3, _ => is3_1 | 4, _ => is4_1 | 5, _ => is5_1 | 6, _ => is6_1 | n + 7, h => absurd h (by omega), isE2 := fun e he => match e, he with | 0, _ => is0_2 | 1, _ => is1_2 | 2, _ => is2_2 | 3, _ => is3_2 | 4, _ => is4_2 | 5, _ => is5_2 | 6, _ => is6_2 | n + 7, h => absurd h (by omega), isE3 := fun e he => match e, he with | 0, _ => is0_3 | 1, _ => is1_3 | 2, _ => is2_3 | 3, _ => is3_3 | 4, _ => is4_3 | 5, _ => is5_3 | 6, _ => is6_3 | n + 7, h => absurd h (by omega), isE4 := fun e he => match e, he with | 0, _ => is0_4 | 1, _ => is1_4 | 2, _ => is2_4 | 3, _ => is3_4 | 4, _ => is4_4 | 5, _ => is5_4 | 6, _ => is6_4 | n + 7, h => absurd h (by omega), isE5 := fun e he => match e, he with | 0, _ => is0_5 | 1, _ => is1_5 | 2, _ => is2_5 | 3, _ => is3_5 | 4, _ => is4_5 | 5, _ => is5_5 | 6, _ => is6_5 | n + 7, h => absurd h (by omega), isE6 := fun e he => match e, he with | 0, _ => is0_6 | 1, _ => is1_6 | 2, _ => is2_6 | 3, _ => is3_6 | 4, _ => is4_6 | 5, _ => is5_6 | 6, _ => is6_6 | n + 7, h => absurd h (by omega), noEL := noL, noE0 := no0, noE1 := no1, noE2 := no2, noE3 := no3, noE4 := no4, noE5 := no5, noE6 := no6, ValueError_ := PySem.W.mg_none_of X G z_ValueError, bool_ := PySem.W.mg_none_of X G z_bool, int_ := PySem.W.mg_none_of X G z_int, isinstance_ := PySem.W.mg_none_of X G z_isinstance, len_ := PySem.W.mg_none_of X G z_len, max_ := PySem.W.mg_none_of X G z_max, range_ := PySem.W.mg_none_of X G z_range, str_ := PySem.W.mg_none_of X G z_str, sum_ := PySem.W.mg_none_of X G z_sum, tuple_ := PySem.W.mg_none_of X G z_tuple, zip_ := PySem.W.mg_none_of X G z_zip, e0 := ⟨xE0, PySem.W.mg_of X G aE0, kE0, bE0, tE0⟩, e1 := ⟨xE1, PySem.W.mg_of X G aE1, kE1, bE1, tE1⟩, e2 := ⟨xE2, PySem.W.mg_of X G aE2, kE2, bE2, tE2⟩, e3 := ⟨xE3, PySem.W.mg_of X G aE3, kE3, bE3, tE3⟩, e4 := ⟨xE4, PySem.W.mg_of X G aE4, kE4, bE4, tE4⟩, e5 := ⟨xE5, PySem.W.mg_of X G aE5, kE5, bE5, tE5⟩, e6 := ⟨xE6, PySem.W.mg_of X G aE6, kE6, bE6, tE6⟩, c_FIGURES := ⟨_, PySem.W.mg_of X G v_FIGURES⟩ }
  have F0 := fun_mk (st := s_need_line) l0 c0 k0
  have b0 := F0.binds (ps := ["line"]) fun _ _ _ _ _ _ us hl => match us, hl with | [_], _ => rfl
  have F1 := fun_mk (st := s_line_shown) l1 c1 k1
  have b1 := F1.binds (ps := ["line"]) fun _ _ _ _ _ _ us hl => match us, hl with | [_], _ => rfl
  have F2 := fun_mk (st := s_number_read) l2 c2 k2
  have b2 := F2.binds (ps := ["word"]) fun _ _ _ _ _ _ us hl => match us, hl with | [_], _ => rfl
  have F3 := fun_mk (st := s_read_line) l3 c3 k3
  have b3 := F3.binds (ps := ["text"]) fun _ _ _ _ _ _ us hl => match us, hl with | [_], _ => rfl
  have F4 := fun_mk (st := s__law_deck) l4 c4 k4
  have b4 := F4.binds (ps := ["_law_script"]) fun _ _ _ _ _ _ us hl => match us, hl with | [_], _ => rfl
  have F5 := fun_mk (st := s__law_take) l5 c5 k5
  have b5 := F5.binds (ps := ["_law_deck_here", "_law_many"]) fun _ _ _ _ _ _ us hl => match us, hl with | [_, _], _ => rfl
  have F6 := fun_mk (st := s__law_far) l6 c6 k6
  have b6 := F6.binds (ps := ["_law_deck_here"]) fun _ _ _ _ _ _ us hl => match us, hl with | [_], _ => rfl
  have F7 := fun_mk (st := s__law_wide) l7 c7 k7
  have b7 := F7.binds (ps := ["_law_deck_here", "_law_figures"]) fun _ _ _ _ _ _ us hl => match us, hl with | [_, _], _ => rfl
  have F8 := fun_mk (st := s__law_signed) l8 c8 k8
  have b8 := F8.binds (ps := ["_law_deck_here", "_law_figures"]) fun _ _ _ _ _ _ us hl => match us, hl with | [_, _], _ => rfl
  have F9 := fun_mk (st := s__law_any_line) l9 c9 k9
  have b9 := F9.binds (ps := ["_law_deck_here", "_law_figures"]) fun _ _ _ _ _ _ us hl => match us, hl with | [_, _], _ => rfl
  have F10 := fun_mk (st := s__law_flags) l10 c10 k10
  have b10 := F10.binds (ps := ["_law_thing"]) fun _ _ _ _ _ _ us hl => match us, hl with | [_], _ => rfl
  have F11 := fun_mk (st := s__law_same) l11 c11 k11
  have b11 := F11.binds (ps := ["_law_found", "_law_due_here"]) fun _ _ _ _ _ _ us hl => match us, hl with | [_, _], _ => rfl
  have F12 := fun_mk (st := s__law_number_in) l12 c12 k12
  have b12 := F12.binds (ps := ["_law_word"]) fun _ _ _ _ _ _ us hl => match us, hl with | [_], _ => rfl
  have F13 := fun_mk (st := s__law_due) l13 c13 k13
  have b13 := F13.binds (ps := ["_law_text"]) fun _ _ _ _ _ _ us hl => match us, hl with | [_], _ => rfl
  have F14 := fun_mk (st := s__law_told) l14 c14 k14
  have b14 := F14.binds (ps := ["_law_text"]) fun _ _ _ _ _ _ us hl => match us, hl with | [_], _ => rfl
  have F15 := fun_mk (st := s__law_right) l15 c15 k15
  have b15 := F15.binds (ps := ["_law_text"]) fun _ _ _ _ _ _ us hl => match us, hl with | [_], _ => rfl
  have F16 := fun_mk (st := s__law_sign) l16 c16 k16
  have b16 := F16.binds (ps := ["_law_deck_here"]) fun _ _ _ _ _ _ us hl => match us, hl with | [_], _ => rfl
  have F17 := fun_mk (st := s__law_spoilt) l17 c17 k17
  have b17 := F17.binds (ps := ["_law_deck_here", "_law_text"]) fun _ _ _ _ _ _ us hl => match us, hl with | [_, _], _ => rfl
  have F18 := fun_mk (st := s_law) l18 c18 k18
  have b18 := F18.binds (ps := ["_law_script"]) fun _ _ _ _ _ _ us hl => match us, hl with | [_], _ => rfl
  refine ⟨PySem.W.fnOf "law" "law" (defArgs s_law) (defBody s_law) (defScope s_law) .none kV18 dc18 pm18 an18 cd18 ct18, fun s v => .of_eq rfl, fun base _ _ => ?_⟩
  have d_need_line := ok_need_line (P := l.prog) (w := w) (base := base) T F0 (PySem.W.mg_of X G a0) b0
  have d_line_shown := ok_line_shown (P := l.prog) (w := w) (base := base) T F1 (PySem.W.mg_of X G a1) b1 d_need_line
  have d_number_read := ok_number_read (P := l.prog) (w := w) (base := base) T F2 (PySem.W.mg_of X G a2) b2
  have d_read_line := ok_read_line (P := l.prog) (w := w) (base := base) T F3 (PySem.W.mg_of X G a3) b3 d_need_line d_number_read
  have d__law_deck := ok__law_deck (P := l.prog) (w := w) (base := base) T F4 (PySem.W.mg_of X G a4) b4
  have d__law_take := ok__law_take (P := l.prog) (w := w) (base := base) T F5 (PySem.W.mg_of X G a5) b5
  have d__law_far := ok__law_far (P := l.prog) (w := w) (base := base) T F6 (PySem.W.mg_of X G a6) b6 d__law_take
  have d__law_wide := ok__law_wide (P := l.prog) (w := w) (base := base) T F7 (PySem.W.mg_of X G a7) b7 d__law_take d__law_far
  have d__law_signed := ok__law_signed (P := l.prog) (w := w) (base := base) T F8 (PySem.W.mg_of X G a8) b8 d__law_wide d__law_take
  have d__law_any_line := ok__law_any_line (P := l.prog) (w := w) (base := base) T F9 (PySem.W.mg_of X G a9) b9 d__law_wide d__law_take d__law_signed
  have d__law_flags := ok__law_flags (P := l.prog) (w := w) (base := base) T F10 (PySem.W.mg_of X G a10) b10
  have d__law_same := ok__law_same (P := l.prog) (w := w) (base := base) T F11 (PySem.W.mg_of X G a11) b11
  have d__law_number_in := ok__law_number_in (P := l.prog) (w := w) (base := base) T F12 (PySem.W.mg_of X G a12) b12
  have d__law_due := ok__law_due (P := l.prog) (w := w) (base := base) T F13 (PySem.W.mg_of X G a13) b13 d__law_number_in
  have d__law_told := ok__law_told (P := l.prog) (w := w) (base := base) T F14 (PySem.W.mg_of X G a14) b14 d__law_flags d_read_line
  have d__law_right := ok__law_right (P := l.prog) (w := w) (base := base) T F15 (PySem.W.mg_of X G a15) b15 d__law_due d__law_same d__law_told
  have d__law_sign := ok__law_sign (P := l.prog) (w := w) (base := base) T F16 (PySem.W.mg_of X G a16) b16 d__law_take
  have d__law_spoilt := ok__law_spoilt (P := l.prog) (w := w) (base := base) T F17 (PySem.W.mg_of X G a17) b17 d__law_take d__law_sign
  have d_law := ok_law (P := l.prog) (w := w) (base := base) T F18 (PySem.W.mg_of X G a18) b18 d__law_deck d__law_any_line d_line_shown d__law_spoilt d__law_right d__law_same d_read_line
  exact law_imp [] d_law (fun G => ⟨fun _ _ z => (nomatch z), fun _ _ z => (nomatch z)⟩)
theorem walk {l : PySem.W.OpenLaw} {q : Program} {loose : List Str} {XP : (Str → Option Value) → Heap → Prop} {YP : World → Heap → Prop} {d : DefRec} {K : Params → PySem.W.Frag} (hn : l.most = some 63) (hdf : d.params.defaults = [])
    (hY : ∀ (w : World) (h : Heap), YP w h → (K w.params).In h)
    (F : ∀ (w : World) (mg : Str → Option Value) (fa : Addr) (h : Heap), (K w.params).In h → h.Ns mainGlobals mg → mg d.name = some (.ref fa) →
      ∃ fd : FuncData, (∀ (s : Shared) (u : Value), BindsTo s fd ⟨[u], []⟩ [("_law_script", u)]) ∧ ∀ base : Heap, (K w.params).In base → base.Ns mainGlobals mg → FnOk l.prog w (K w.params) mg base (L2.CX l.prog w) 6 fa fd ["_law_script"] (spLawV (K w.params))) :
    PySem.W.WalkO q loose XP YP l.row.toRowW d [] (fun f vs => PySem.call f vs) :=
  L2.walk_ofB (n := 63) (k := 6) (x := "_law_script") (CX := fun w => L2.CX l.prog w) (sp := fun w => spLawV (K w.params)) hn (by decide) hdf ⟨rfl, by decide, by decide⟩ hY F (fun _ _ a ns hl hb _ hS => ⟨a, ns, rfl, hS, hl, hb, fun _ => rfl⟩) fun _ _ _ _ _ z => cx_none z
end Lw
open PySem PySem.W PyProof.Rows
set_option maxRecDepth 100000 in
set_option maxHeartbeats 0 in
theorem PySem.Challenge.cw_turnedline_k04_lines_written_and_read_holds : PySem.Challenge.rw_turnedline_k04_lines_written_and_read.Holds := by
  w_on; o_law; k_head; (case hw => w_witness2)
  k_fill
  refine Lw.walk (l := PySem.Challenge.rw_turnedline_k04_lines_written_and_read) rfl rfl (fun w h Y => PySem.W.kIn_of Y) ?F
  case F =>
    intro w mg fa h KX G hmg
    refine' Lw.all_mk KX G hmg ?a0 ?l0 ?c0 ?k0 ?a1 ?l1 ?c1 ?k1 ?a2 ?l2 ?c2 ?k2 ?a3 ?l3 ?c3 ?k3 ?a4 ?l4 ?c4 ?k4 ?a5 ?l5 ?c5 ?k5 ?a6 ?l6 ?c6 ?k6 ?a7 ?l7 ?c7 ?k7 ?a8 ?l8 ?c8 ?k8 ?a9 ?l9 ?c9 ?k9 ?a10 ?l10 ?c10 ?k10 ?a11 ?l11 ?c11 ?k11 ?a12 ?l12 ?c12 ?k12 ?a13 ?l13 ?c13 ?k13 ?a14 ?l14 ?c14 ?k14 ?a15 ?l15 ?c15 ?k15 ?a16 ?l16 ?c16 ?k16 ?a17 ?l17 ?c17 ?k17 ?a18 ?l18 ?c18 ?k18 ?aE0 ?xE0 ?kE0 ?bE0 ?tE0 ?aE1 ?xE1 ?kE1 ?bE1 ?tE1 ?aE2 ?xE2 ?kE2 ?bE2 ?tE2 ?aE3 ?xE3 ?kE3 ?bE3 ?tE3 ?aE4 ?xE4 ?kE4 ?bE4 ?tE4 ?aE5 ?xE5 ?kE5 ?bE5 ?tE5 ?aE6 ?xE6 ?kE6 ?bE6 ?tE6 ?aL ?n0 ?n1 ?noL ?no0 ?no1 ?no2 ?no3 ?no4 ?no5 ?no6 ?xm0 ?il0 ?iv0 ?hg0 ?hk0 ?hd0 ?ha0 ?hm0 ?is0_0 ?is0_1 ?is0_2 ?is0_3 ?is0_4 ?is0_5 ?is0_6 ?xm1 ?il1 ?iv1 ?hg1 ?hk1 ?hd1 ?ha1 ?hm1 ?is1_0 ?is1_1 ?is1_2 ?is1_3 ?is1_4 ?is1_5 ?is1_6 ?xm2 ?il2 ?iv2 ?hg2 ?hk2 ?hd2 ?ha2 ?hm2 ?is2_0 ?is2_1 ?is2_2 ?is2_3 ?is2_4 ?is2_5 ?is2_6 ?xm3 ?il3 ?iv3 ?hg3 ?hk3 ?hd3 ?ha3 ?hm3 ?is3_0 ?is3_1 ?is3_2 ?is3_3 ?is3_4 ?is3_5 ?is3_6 ?xm4 ?il4 ?iv4 ?hg4 ?hk4 ?hd4 ?ha4 ?hm4 ?is4_0 ?is4_1 ?is4_2 ?is4_3 ?is4_4 ?is4_5 ?is4_6 ?xm5 ?il5 ?iv5 ?hg5 ?hk5 ?hd5 ?ha5 ?hm5 ?is5_0 ?is5_1 ?is5_2 ?is5_3 ?is5_4 ?is5_5 ?is5_6 ?xm6 ?il6 ?iv6 ?hg6 ?hk6 ?hd6 ?ha6 ?hm6 ?is6_0 ?is6_1 ?is6_2 ?is6_3 ?is6_4 ?is6_5 ?is6_6 ?z_ValueError ?z_bool ?z_int ?z_isinstance ?z_len ?z_max ?z_range ?z_str ?z_sum ?z_tuple ?z_zip ?v_FIGURES
    (case a0 => k_is)
    (case l0 => k_is)
    (case c0 => k_is)
    (case k0 => k_is)
    (case a1 => k_is)
    (case l1 => k_is)
    (case c1 => k_is)
    (case k1 => k_is)
    (case a2 => k_is)
    (case l2 => k_is)
    (case c2 => k_is)
    (case k2 => k_is)
    (case a3 => k_is)
    (case l3 => k_is)
    (case c3 => k_is)
    (case k3 => k_is)
    (case a4 => k_is)
    (case l4 => k_is)
    (case c4 => k_is)
    (case k4 => k_is)
    (case a5 => k_is)
    (case l5 => k_is)
    (case c5 => k_is)
    (case k5 => k_is)
    (case a6 => k_is)
    (case l6 => k_is)
    (case c6 => k_is)
    (case k6 => k_is)
    (case a7 => k_is)
    (case l7 => k_is)
    (case c7 => k_is)
    (case k7 => k_is)
    (case a8 => k_is)
    (case l8 => k_is)
    (case c8 => k_is)
    (case k8 => k_is)
    (case a9 => k_is)
    (case l9 => k_is)
    (case c9 => k_is)
    (case k9 => k_is)
    (case a10 => k_is)
    (case l10 => k_is)
    (case c10 => k_is)
    (case k10 => k_is)
    (case a11 => k_is)
    (case l11 => k_is)
    (case c11 => k_is)
    (case k11 => k_is)
    (case a12 => k_is)
    (case l12 => k_is)
    (case c12 => k_is)
    (case k12 => k_is)
    (case a13 => k_is)
    (case l13 => k_is)
    (case c13 => k_is)
    (case k13 => k_is)
    (case a14 => k_is)
    (case l14 => k_is)
    (case c14 => k_is)
    (case k14 => k_is)
    (case a15 => k_is)
    (case l15 => k_is)
    (case c15 => k_is)
    (case k15 => k_is)
    (case a16 => k_is)
    (case l16 => k_is)
    (case c16 => k_is)
    (case k16 => k_is)
    (case a17 => k_is)
    (case l17 => k_is)
    (case c17 => k_is)
    (case k17 => k_is)
    (case a18 => k_is)
    (case l18 => k_is)
    (case c18 => k_is)
    (case k18 => k_is)
    (case aE0 => k_is)
    (case xE0 => k_exc)
    (case kE0 => k_is)
    (case bE0 => k_is)
    (case tE0 => k_is)
    (case aE1 => k_is)
    (case xE1 => k_exc)
    (case kE1 => k_is)
    (case bE1 => k_is)
    (case tE1 => k_is)
    (case aE2 => k_is)
    (case xE2 => k_exc)
    (case kE2 => k_is)
    (case bE2 => k_is)
    (case tE2 => k_is)
    (case aE3 => k_is)
    (case xE3 => k_exc)
    (case kE3 => k_is)
    (case bE3 => k_is)
    (case tE3 => k_is)
    (case aE4 => k_is)
    (case xE4 => k_exc)
    (case kE4 => k_is)
    (case bE4 => k_is)
    (case tE4 => k_is)
    (case aE5 => k_is)
    (case xE5 => k_exc)
    (case kE5 => k_is)
    (case bE5 => k_is)
    (case tE5 => k_is)
    (case aE6 => k_is)
    (case xE6 => k_exc)
    (case kE6 => k_is)
    (case bE6 => k_is)
    (case tE6 => k_is)
    (case aL => k_is)
    (case n0 => k_is)
    (case n1 => k_is)
    (case noL => kit_is)
    (case no0 => kit_is)
    (case no1 => kit_is)
    (case no2 => kit_is)
    (case no3 => kit_is)
    (case no4 => kit_is)
    (case no5 => kit_is)
    (case no6 => kit_is)
    (case xm0 => kts_exm)
    (case il0 => kit_is)
    (case iv0 => kit_is)
    (case hg0 => k_is)
    (case hk0 => k_is)
    (case hd0 => k_is)
    (case ha0 => k_is)
    (case hm0 => k_is)
    (case is0_0 => kit_is)
    (case is0_1 => kit_is)
    (case is0_2 => kit_is)
    (case is0_3 => kit_is)
    (case is0_4 => kit_is)
    (case is0_5 => kit_is)
    (case is0_6 => kit_is)
    (case xm1 => kts_exm)
    (case il1 => kit_is)
    (case iv1 => kit_is)
    (case hg1 => k_is)
    (case hk1 => k_is)
    (case hd1 => k_is)
    (case ha1 => k_is)
    (case hm1 => k_is)
    (case is1_0 => kit_is)
    (case is1_1 => kit_is)
    (case is1_2 => kit_is)
    (case is1_3 => kit_is)
    (case is1_4 => kit_is)
    (case is1_5 => kit_is)
    (case is1_6 => kit_is)
    (case xm2 => kts_exm)
    (case il2 => kit_is)
    (case iv2 => kit_is)
    (case hg2 => k_is)
    (case hk2 => k_is)
    (case hd2 => k_is)
    (case ha2 => k_is)
    (case hm2 => k_is)
    (case is2_0 => kit_is)
    (case is2_1 => kit_is)
    (case is2_2 => kit_is)
    (case is2_3 => kit_is)
    (case is2_4 => kit_is)
    (case is2_5 => kit_is)
    (case is2_6 => kit_is)
    (case xm3 => kts_exm)
    (case il3 => kit_is)
    (case iv3 => kit_is)
    (case hg3 => k_is)
    (case hk3 => k_is)
    (case hd3 => k_is)
    (case ha3 => k_is)
    (case hm3 => k_is)
    (case is3_0 => kit_is)
    (case is3_1 => kit_is)
    (case is3_2 => kit_is)
    (case is3_3 => kit_is)
    (case is3_4 => kit_is)
    (case is3_5 => kit_is)
    (case is3_6 => kit_is)
    (case xm4 => kts_exm)
    (case il4 => kit_is)
    (case iv4 => kit_is)
    (case hg4 => k_is)
    (case hk4 => k_is)
    (case hd4 => k_is)
    (case ha4 => k_is)
    (case hm4 => k_is)
    (case is4_0 => kit_is)
    (case is4_1 => kit_is)
    (case is4_2 => kit_is)
    (case is4_3 => kit_is)
    (case is4_4 => kit_is)
    (case is4_5 => kit_is)
    (case is4_6 => kit_is)
    (case xm5 => kts_exm)
    (case il5 => kit_is)
    (case iv5 => kit_is)
    (case hg5 => k_is)
    (case hk5 => k_is)
    (case hd5 => k_is)
    (case ha5 => k_is)
    (case hm5 => k_is)
    (case is5_0 => kit_is)
    (case is5_1 => kit_is)
    (case is5_2 => kit_is)
    (case is5_3 => kit_is)
    (case is5_4 => kit_is)
    (case is5_5 => kit_is)
    (case is5_6 => kit_is)
    (case xm6 => kts_exm)
    (case il6 => kit_is)
    (case iv6 => kit_is)
    (case hg6 => k_is)
    (case hk6 => k_is)
    (case hd6 => k_is)
    (case ha6 => k_is)
    (case hm6 => k_is)
    (case is6_0 => kit_is)
    (case is6_1 => kit_is)
    (case is6_2 => kit_is)
    (case is6_3 => kit_is)
    (case is6_4 => kit_is)
    (case is6_5 => kit_is)
    (case is6_6 => kit_is)
    (case z_ValueError => k_is)
    (case z_bool => k_is)
    (case z_int => k_is)
    (case z_isinstance => k_is)
    (case z_len => k_is)
    (case z_max => k_is)
    (case z_range => k_is)
    (case z_str => k_is)
    (case z_sum => k_is)
    (case z_tuple => k_is)
    (case z_zip => k_is)
    (case v_FIGURES => k_is)
