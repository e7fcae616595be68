import PyProof.Rows.All
import Wide.All
import OpenK.AllK
import Wide.FinOn
import HandS.ForMost
import HandS.Exc
import HandS.ExcOwn
import HandS.TryOnly
import HandS.WordsExc
import HandS.Wide
import HandS.EndBits
import PyProof.LongRange
import HandS.IsInst
import HandS.Text
import HandS.Style
import HandS.Walk
import HandS.Zip
import HandS.ExcValue
import HandS.ExcIs
import HandS.SetFor
import HandS.Replace
import HandS.Strs
import HandS.TupAny
import KE.IntTextLaws
import HandS.SortRule
import HandS.Conv
import HandS.Dict
import PySem.Challenge.RW_turnedline_k37_desk_great_lines
set_option Elab.async false
set_option linter.all false
set_option maxRecDepth 100000
set_option maxHeartbeats 4000000
namespace Z
open PySem PySem.Spec PyProof.Rows L2

/-! ### plain data, and what a value stands for -/
inductive D where
  | non | bl (b : Bool) | int (i : Int) | str (x : Str) | tup (l : List D) | lst (l : List D) | arr (l : List D) | ref (a : Addr) | exc (C : Addr)
/-- an exception's object of the class C, held by a name -/
def ExA (C a : Addr) : HO := .ext fun h => ∃ (oe : Obj) (vs : Array Value), h.get? a = some oe ∧ Zc (.ref C) none oe ∧ oe.data = .fields vs
def Ext (A B : Hp) : Prop := ∀ p x, A p = some x → B p = some x
theorem Ext.rfl' {A : Hp} : Ext A A := fun _ _ h => h
theorem Ext.tr {A B C : Hp} (f : Ext A B) (g : Ext B C) : Ext A C := fun p x h => g p x (f p x h)
theorem Ext.none' {A B : Hp} (f : Ext A B) {p : Addr} (h : B p = none) : A p = none := by
  cases q : A p with
  | none => rfl
  | some x => rw [f p x q] at h; cases h
theorem Ext.new {A : Hp} {p : Addr} {o : HO} (h : A p = none) : Ext A (upd A p o) := fun q x e => by
  rw [upd_ne (ne_of_none e h)]; exact e
theorem rdE {A B : Hp} (f : Ext A B) {p : Addr} {u : HO} (h : Rd A p u) : Rd B p u := by
  rcases h with h | ⟨o, h⟩
  · exact Or.inl (f _ _ h)
  · exact Or.inr ⟨o, f _ _ h⟩
theorem sqTE {K : PySem.W.Frag} {A B : Hp} (f : Ext A B) {p : Addr} {xs : List V} (h : SqT K A p xs) : SqT K B p xs := h.imp (rdE f) id
theorem sqLE {K : PySem.W.Frag} {A B : Hp} (f : Ext A B) {p : Addr} {xs : List V} (h : SqL K A p xs) : SqL K B p xs := h.imp (rdE f) id

mutual
inductive Rep (K : PySem.W.Frag) (G : Hp) : V → D → Prop
  | non : Rep K G .non .non
  | bl (b : Bool) : Rep K G (.bl b) (.bl b)
  | int (i : Int) : Rep K G (.int i) (.int i)
  | str (x : Str) : Rep K G (.str x) (.str x)
  | tup {p : Addr} {vs : List V} {l : List D} : SqT K G p vs → RepL K G vs l → Rep K G (.ref p) (.tup l)
  | lst {p : Addr} {vs : List V} {l : List D} : G p = some (.lst vs) → RepL K G vs l → Rep K G (.ref p) (.lst l)
  | arr {p : Addr} {vs : List V} {l : List D} : SqL K G p vs → RepL K G vs l → Rep K G (.ref p) (.arr l)
  | ref (p : Addr) : Rep K G (.ref p) (.ref p)
  | exc {p C : Addr} : G p = some (ExA C p) → Rep K G (.ref p) (.exc C)
inductive RepL (K : PySem.W.Frag) (G : Hp) : List V → List D → Prop
  | nil : RepL K G [] []
  | cons {v : V} {vs : List V} {d : D} {l : List D} : Rep K G v d → RepL K G vs l → RepL K G (v :: vs) (d :: l)
end
section
variable {K : PySem.W.Frag} {G G' : Hp}
mutual
theorem Rep.mono (f : Ext G G') : ∀ (d : D) (v : V), Rep K G v d → Rep K G' v d
  | .non, _, h => by cases h; exact .non
  | .bl b, _, h => by cases h; exact .bl b
  | .int i, _, h => by cases h; exact .int i
  | .str x, _, h => by cases h; exact .str x
  | .tup l, _, h => by
    cases h with
    | tup a b => exact .tup (sqTE f a) (RepL.mono f l _ b)
  | .lst l, _, h => by
    cases h with
    | lst a b => exact .lst (f _ _ a) (RepL.mono f l _ b)
  | .arr l, _, h => by
    cases h with
    | arr a b => exact .arr (sqLE f a) (RepL.mono f l _ b)
  | .ref p, _, h => by cases h; exact .ref p
  | .exc C, _, h => by
    cases h with
    | exc a => exact .exc (f _ _ a)
theorem RepL.mono (f : Ext G G') : ∀ (l : List D) (vs : List V), RepL K G vs l → RepL K G' vs l
  | [], _, h => by cases h; exact .nil
  | d :: l, _, h => by
    cases h with
    | cons a b => exact .cons (Rep.mono f d _ a) (RepL.mono f l _ b)
end
theorem Rep.up {v : V} {d : D} (h : Rep K G v d) (f : Ext G G') : Rep K G' v d := Rep.mono f d v h
theorem RepL.up {vs : List V} {l : List D} (h : RepL K G vs l) (f : Ext G G') : RepL K G' vs l := RepL.mono f l vs h
theorem RepL.len : ∀ {vs : List V} {l : List D}, RepL K G vs l → vs.length = l.length
  | _, _, .nil => rfl
  | _, _, .cons _ t => congrArg (· + 1) (RepL.len t)
theorem RepL.get : ∀ {vs : List V} {l : List D} {i : Nat} {d : D}, RepL K G vs l → l[i]? = some d → ∃ v, vs[i]? = some v ∧ Rep K G v d
  | _, _, _, _, .nil, e => by simp at e
  | _, _, 0, _, .cons r _, e => by
    rw [List.getElem?_cons_zero] at e; cases e
    exact ⟨_, rfl, r⟩
  | _, _, i + 1, d, .cons _ t, e => RepL.get (i := i) t (by simpa using e)
theorem RepL.getV : ∀ {vs : List V} {l : List D} {i : Nat} {v : V}, RepL K G vs l → vs[i]? = some v → ∃ d, l[i]? = some d ∧ Rep K G v d
  | _, _, _, _, .nil, e => by simp at e
  | _, _, 0, _, .cons r _, e => by
    rw [List.getElem?_cons_zero] at e; cases e
    exact ⟨_, rfl, r⟩
  | _, _, i + 1, d, .cons _ t, e => RepL.getV (i := i) t (by simpa using e)
theorem RepL.app : ∀ {vs us : List V} {l m : List D}, RepL K G vs l → RepL K G us m → RepL K G (vs ++ us) (l ++ m)
  | _, _, _, _, .nil, s => s
  | _, _, _, _, .cons r t, s => .cons r (RepL.app t s)
theorem RepL.set {v : V} {d : D} (r : Rep K G v d) : ∀ {vs : List V} {l : List D} (i : Nat), RepL K G vs l → RepL K G (vs.set i v) (l.set i d)
  | _, _, _, .nil => .nil
  | _, _, 0, .cons _ t => .cons r t
  | _, _, i + 1, .cons q t => .cons q (RepL.set r i t)
theorem RepL.take : ∀ {vs : List V} {l : List D} (n : Nat), RepL K G vs l → RepL K G (vs.take n) (l.take n)
  | _, _, 0, _ => .nil
  | _, _, _ + 1, .nil => .nil
  | _, _, n + 1, .cons r t => .cons r (RepL.take n t)
theorem RepL.drop : ∀ {vs : List V} {l : List D} (n : Nat), RepL K G vs l → RepL K G (vs.drop n) (l.drop n)
  | _, _, 0, r => r
  | _, _, _ + 1, .nil => .nil
  | _, _, n + 1, .cons _ t => RepL.drop n t
theorem RepL.rev : ∀ {vs : List V} {l : List D}, RepL K G vs l → RepL K G vs.reverse l.reverse
  | _, _, .nil => .nil
  | _, _, .cons r t => by
    rw [List.reverse_cons, List.reverse_cons]
    exact RepL.app (RepL.rev t) (.cons r .nil)
theorem RepL.erase : ∀ {vs : List V} {l : List D} (n : Nat), RepL K G vs l → RepL K G (vs.eraseIdx n) (l.eraseIdx n)
  | _, _, _, .nil => .nil
  | _, _, 0, .cons _ t => t
  | _, _, n + 1, .cons r t => .cons r (RepL.erase n t)
theorem RepL.ints : ∀ {ns : List Int} {vs : List V}, RepL K G vs (ns.map D.int) → vs = ns.map V.int
  | [], _, h => by cases h; rfl
  | n :: ns, _, h => by
    cases h with
    | cons a b => cases a; rw [RepL.ints b]; rfl
theorem RepL.ofInts : ∀ (ns : List Int), RepL K G (ns.map V.int) (ns.map D.int)
  | [] => .nil
  | n :: ns => .cons (.int n) (RepL.ofInts ns)
theorem RepL.strs : ∀ {ns : List Str} {vs : List V}, RepL K G vs (ns.map D.str) → vs = ns.map V.str
  | [], _, h => by cases h; rfl
  | n :: ns, _, h => by
    cases h with
    | cons a b => cases a; rw [RepL.strs b]; rfl
theorem RepL.ofStrs : ∀ (ns : List Str), RepL K G (ns.map V.str) (ns.map D.str)
  | [] => .nil
  | n :: ns => .cons (.str n) (RepL.ofStrs ns)
theorem RepL.bls : ∀ {ns : List Bool} {vs : List V}, RepL K G vs (ns.map D.bl) → vs = ns.map V.bl
  | [], _, h => by cases h; rfl
  | n :: ns, _, h => by
    cases h with
    | cons a b => cases a; rw [RepL.bls b]; rfl
end

/-! ### the heap in parts: what stands still (G), what the world holds (M) -/
structure Wp (ω : Type) where
  ok : ω → Hp → Hp → Prop
  mono : ∀ {w : ω} {G G' M : Hp}, Ext G G' → ok w G M → ok w G' M
  ec : Nat → Addr
section
variable {ω : Type}
structure Pt (W : Wp ω) (H G M : Hp) (w : ω) : Prop where
  gh : Ext G H
  mh : Ext M H
  dj : ∀ p x, G p = some x → M p = none
  wd : W.ok w G M
structure Nx (H G M H' G' M' : Hp) : Prop where
  gg : Ext G G'
  fr : ∀ p x, H p = some x → M p = none → H' p = some x
  gn : ∀ p x, G' p = some x → G p = none → H p = none
  mn : ∀ p x, M' p = some x → M p = none → H p = none
  m0 : ∀ p x, M p = some x → ∃ y, M' p = some y
theorem Nx.rfl' {H G M : Hp} : Nx H G M H G M := ⟨Ext.rfl', fun _ _ h _ => h, fun p x a b => (by rw [a] at b; cases b), fun p x a b => (by rw [a] at b; cases b), fun p x a => ⟨x, a⟩⟩
theorem Nx.back {H G M H' G' M' : Hp} (a : Nx H G M H' G' M') (mh : Ext M' H') {p : Addr} (h : H' p = none) : H p = none := by
  cases q : H p with
  | none => rfl
  | some z =>
    exfalso
    cases r : M p with
    | none => rw [a.fr p z q r] at h; cases h
    | some y =>
      obtain ⟨y', e⟩ := a.m0 p y r
      rw [mh p y' e] at h; cases h
theorem Nx.tr {H G M H' G' M' H2 G2 M2 : Hp} (a : Nx H G M H' G' M') (b : Nx H' G' M' H2 G2 M2) (mh : Ext M' H') : Nx H G M H2 G2 M2 where
  gg := a.gg.tr b.gg
  fr := fun p x h m => b.fr p x (a.fr p x h m) (by
    cases q : M' p with
    | none => rfl
    | some y => rw [a.mn p y q m] at h; cases h)
  gn := fun p x h g => by
    cases q : G' p with
    | some y => exact a.gn p y q g
    | none => exact a.back mh (b.gn p x h q)
  mn := fun p x h g => by
    cases q : M' p with
    | some y => exact a.mn p y q g
    | none => exact a.back mh (b.mn p x h q)
  m0 := fun p x h => by
    obtain ⟨y, e⟩ := a.m0 p x h
    exact b.m0 p y e
theorem Pt.new {W : Wp ω} {H G M : Hp} {w : ω} (a : Pt W H G M w) {p : Addr} {o : HO} (h : H p = none) : Pt W (upd H p o) (upd G p o) M w where
  gh := fun q x e => by
    by_cases z : q = p
    · subst z; rw [upd_same] at e ⊢; exact e
    · rw [upd_ne z] at e ⊢; exact a.gh q x e
  mh := fun q x e => by rw [upd_ne (ne_of_none (a.mh q x e) h)]; exact a.mh q x e
  dj := fun q x e => by
    by_cases z : q = p
    · subst z; exact a.mh.none' h
    · rw [upd_ne z] at e; exact a.dj q x e
  wd := W.mono (Ext.new (a.gh.none' h)) a.wd
theorem Nx.new {W : Wp ω} {H G M : Hp} {w : ω} (a : Pt W H G M w) {p : Addr} {o : HO} (h : H p = none) : Nx H G M (upd H p o) (upd G p o) M where
  gg := Ext.new (a.gh.none' h)
  fr := fun q x e _ => by rw [upd_ne (ne_of_none e h)]; exact e
  gn := fun q x e g => by
    by_cases z : q = p
    · subst z; exact h
    · rw [upd_ne z, g] at e; cases e
  mn := fun q x e g => by rw [e] at g; cases g
  m0 := fun q x e => ⟨x, e⟩

/-! ### slots -/
inductive Sl where
  | no | val (d : D) | own (l : List D)
/-- the entry of the def (H0 G0 M0), what is known to stand (S) -/
structure Zx where
  H0 : Hp
  G0 : Hp
  M0 : Hp
  S : Hp
def SlR (K : PySem.W.Frag) (Z : Zx) (σ : L2.St) (H G M : Hp) (i : Nat) : Sl → Prop
  | .no => True
  | .val d => ∃ v, σ[i]? = some (some v) ∧ Rep K G v d
  | .own l => ∃ p vs, σ[i]? = some (some (.ref p)) ∧ H p = some (.lst vs) ∧ G p = none ∧ M p = none ∧ Z.H0 p = none ∧ RepL K G vs l
structure SR (K : PySem.W.Frag) (W : Wp ω) (Z : Zx) (σ : L2.St) (H G M : Hp) (δ : List Sl) (w : ω) : Prop where
  pt : Pt W H G M w
  nx : Nx Z.H0 Z.G0 Z.M0 H G M
  st : Ext Z.S G
  len : δ.length = σ.length
  sl : ∀ i s, δ[i]? = some s → SlR K Z σ H G M i s
  od : ∀ (i j : Nat) (p : Addr) (l l' : List D), δ[i]? = some (Sl.own l) → δ[j]? = some (Sl.own l') → σ[i]? = some (some (V.ref p)) → σ[j]? = some (some (V.ref p)) → i = j
section
variable {K : PySem.W.Frag} {W : Wp ω} {Z : Zx} {σ : L2.St} {H G M H' G' M' : Hp} {δ : List Sl} {w w' : ω}
theorem SR.next (a : SR K W Z σ H G M δ w) (b : Pt W H' G' M' w') (c : Nx H G M H' G' M') : SR K W Z σ H' G' M' δ w' where
  pt := b
  nx := a.nx.tr c a.pt.mh
  st := a.st.tr c.gg
  len := a.len
  sl := fun i s e => by
    have h := a.sl i s e
    cases s with
    | no => trivial
    | val d => obtain ⟨v, h1, h2⟩ := h; exact ⟨v, h1, h2.up c.gg⟩
    | own l =>
      obtain ⟨p, vs, h1, h2, h3, h4, h5, h7⟩ := h
      refine ⟨p, vs, h1, c.fr p _ h2 h4, ?_, ?_, h5, h7.up c.gg⟩
      · cases q : G' p with
        | none => rfl
        | some y => rw [c.gn p y q h3] at h2; cases h2
      · cases q : M' p with
        | none => rfl
        | some y => rw [c.mn p y q h4] at h2; cases h2
  od := a.od
structure Go (W : Wp ω) (H G M H' G' M' : Hp) (w' : ω) : Prop where
  pt : Pt W H' G' M' w'
  nx : Nx H G M H' G' M'
theorem SR.go (a : SR K W Z σ H G M δ w) (o : Go W H G M H' G' M' w') : SR K W Z σ H' G' M' δ w' := a.next o.pt o.nx
theorem SR.here (a : SR K W Z σ H G M δ w) : Go W H G M H G M w := ⟨a.pt, .rfl'⟩
theorem Go.tr {H2 G2 M2 : Hp} {w2 : ω} (a : Go W H G M H' G' M' w') (b : Go W H' G' M' H2 G2 M2 w2) : Go W H G M H2 G2 M2 w2 := ⟨b.pt, a.nx.tr b.nx a.pt.mh⟩
theorem SR.new (a : SR K W Z σ H G M δ w) {p : Addr} {o : HO} (h : H p = none) : SR K W Z σ (upd H p o) (upd G p o) M δ w := a.next (a.pt.new h) (Nx.new a.pt h)
theorem SR.set (a : SR K W Z σ H G M δ w) {i : Nat} {v : V} {d : D} (r : Rep K G v d) : SR K W Z (σ.set i (some v)) H G M (δ.set i (.val d)) w where
  pt := a.pt
  nx := a.nx
  st := a.st
  len := by rw [List.length_set, List.length_set]; exact a.len
  sl := fun j s e => by
    by_cases z : i = j
    · subst z
      have hl : i < δ.length := by
        have := (List.getElem?_eq_some_iff.mp e).1
        rwa [List.length_set] at this
      rw [List.getElem?_set_self hl] at e
      cases e
      exact ⟨v, List.getElem?_set_self (by rw [← a.len]; exact hl), r⟩
    · rw [List.getElem?_set_ne z] at e
      have h := a.sl j s e
      cases s with
      | no => trivial
      | val d => obtain ⟨u, h1, h2⟩ := h; exact ⟨u, by rw [List.getElem?_set_ne z]; exact h1, h2⟩
      | own l =>
        obtain ⟨p, vs, h1, h2⟩ := h
        exact ⟨p, vs, by rw [List.getElem?_set_ne z]; exact h1, h2⟩
  od := fun j k p l l' e1 e2 e3 e4 => by
    have nj : i ≠ j := fun z => by
      subst z
      have hl : i < δ.length := by
        have := (List.getElem?_eq_some_iff.mp e1).1
        rwa [List.length_set] at this
      rw [List.getElem?_set_self hl] at e1; cases e1
    have nk : i ≠ k := fun z => by
      subst z
      have hl : i < δ.length := by
        have := (List.getElem?_eq_some_iff.mp e2).1
        rwa [List.length_set] at this
      rw [List.getElem?_set_self hl] at e2; cases e2
    rw [List.getElem?_set_ne nj] at e1 e3
    rw [List.getElem?_set_ne nk] at e2 e4
    exact a.od j k p l l' e1 e2 e3 e4
/-- a slot forgotten -/
theorem SR.drop (a : SR K W Z σ H G M δ w) {i : Nat} {x : Option V} : SR K W Z (σ.set i x) H G M (δ.set i .no) w where
  pt := a.pt
  nx := a.nx
  st := a.st
  len := by rw [List.length_set, List.length_set]; exact a.len
  sl := fun j s e => by
    by_cases z : i = j
    · subst z
      have hl : i < δ.length := by
        have := (List.getElem?_eq_some_iff.mp e).1
        rwa [List.length_set] at this
      rw [List.getElem?_set_self hl] at e
      cases e
      trivial
    · rw [List.getElem?_set_ne z] at e
      have h := a.sl j s e
      cases s with
      | no => trivial
      | val d => obtain ⟨u, h1, h2⟩ := h; exact ⟨u, by rw [List.getElem?_set_ne z]; exact h1, h2⟩
      | own l =>
        obtain ⟨p, vs, h1, h2⟩ := h
        exact ⟨p, vs, by rw [List.getElem?_set_ne z]; exact h1, h2⟩
  od := fun j k p l l' e1 e2 e3 e4 => by
    have nj : i ≠ j := fun z => by
      subst z
      have hl : i < δ.length := by
        have := (List.getElem?_eq_some_iff.mp e1).1
        rwa [List.length_set] at this
      rw [List.getElem?_set_self hl] at e1; cases e1
    have nk : i ≠ k := fun z => by
      subst z
      have hl : i < δ.length := by
        have := (List.getElem?_eq_some_iff.mp e2).1
        rwa [List.length_set] at this
      rw [List.getElem?_set_self hl] at e2; cases e2
    rw [List.getElem?_set_ne nj] at e1 e3
    rw [List.getElem?_set_ne nk] at e2 e4
    exact a.od j k p l l' e1 e2 e3 e4
/-- a new list of our own at p, laid into slot i -/
theorem SR.setOwn (a : SR K W Z σ H G M δ w) {i : Nat} {p : Addr} {vs : List V} {l : List D} (hp : H p = some (.lst vs)) (hG : G p = none) (hM : M p = none) (h0 : Z.H0 p = none) (r : RepL K G vs l)
    (hd : ∀ (j : Nat) (m : List D), δ[j]? = some (Sl.own m) → σ[j]? ≠ some (some (V.ref p))) : SR K W Z (σ.set i (some (.ref p))) H G M (δ.set i (.own l)) w where
  pt := a.pt
  nx := a.nx
  st := a.st
  len := by rw [List.length_set, List.length_set]; exact a.len
  sl := fun j s e => by
    by_cases z : i = j
    · subst z
      have hl : i < δ.length := by
        have := (List.getElem?_eq_some_iff.mp e).1
        rwa [List.length_set] at this
      rw [List.getElem?_set_self hl] at e
      cases e
      exact ⟨p, vs, List.getElem?_set_self (by rw [← a.len]; exact hl), hp, hG, hM, h0, r⟩
    · rw [List.getElem?_set_ne z] at e
      have h := a.sl j s e
      cases s with
      | no => trivial
      | val d => obtain ⟨u, h1, h2⟩ := h; exact ⟨u, by rw [List.getElem?_set_ne z]; exact h1, h2⟩
      | own l =>
        obtain ⟨p, vs, h1, h2⟩ := h
        exact ⟨p, vs, by rw [List.getElem?_set_ne z]; exact h1, h2⟩
  od := fun j k q m m' e1 e2 e3 e4 => by
    have at_i : ∀ {n : Nat} {m : List D}, (δ.set i (.own l))[n]? = some (.own m) → n < δ.length := fun e => by
      have := (List.getElem?_eq_some_iff.mp e).1
      rwa [List.length_set] at this
    by_cases zj : i = j
    · by_cases zk : i = k
      · rw [← zj, ← zk]
      · subst zj
        rw [List.getElem?_set_self (by rw [← a.len]; exact at_i e1)] at e3
        cases e3
        rw [List.getElem?_set_ne zk] at e2 e4
        exact absurd e4 (hd k m' e2)
    · rw [List.getElem?_set_ne zj] at e1 e3
      by_cases zk : i = k
      · subst zk
        rw [List.getElem?_set_self (by rw [← a.len]; exact at_i e2)] at e4
        cases e4
        exact absurd e3 (hd j m e1)
      · rw [List.getElem?_set_ne zk] at e2 e4
        exact a.od j k q m m' e1 e2 e3 e4
/-- our own list at slot i is changed -/
theorem SR.change (a : SR K W Z σ H G M δ w) {i : Nat} {p : Addr} {us : List V} {l m : List D} (hi : δ[i]? = some (.own l)) (hs : σ[i]? = some (some (.ref p))) (r : RepL K G us m) : SR K W Z σ (upd H p (.lst us)) G M (δ.set i (.own m)) w := by
  obtain ⟨p', vs', h1, h2, h3, h4, h5, h7⟩ := a.sl i _ hi
  rw [hs] at h1
  cases h1
  have hl : i < δ.length := (List.getElem?_eq_some_iff.mp hi).1
  refine ⟨⟨fun q x e => ?_, fun q x e => ?_, a.pt.dj, a.pt.wd⟩, ⟨a.nx.gg, fun q x e e' => ?_, a.nx.gn, a.nx.mn, a.nx.m0⟩, a.st, by rw [List.length_set]; exact a.len, fun j s e => ?_, fun j k q m1 m2 e1 e2 e3 e4 => ?_⟩
  · rw [upd_ne (ne_of_none e h3)]; exact a.pt.gh q x e
  · rw [upd_ne (ne_of_none e h4)]; exact a.pt.mh q x e
  · rw [upd_ne (ne_of_none e h5)]; exact a.nx.fr q x e e'
  · by_cases z : i = j
    · subst z
      rw [List.getElem?_set_self hl] at e
      cases e
      exact ⟨p, us, hs, upd_same, h3, h4, h5, r⟩
    · rw [List.getElem?_set_ne z] at e
      have h := a.sl j s e
      cases s with
      | no => trivial
      | val d => exact h
      | own l' =>
        obtain ⟨p', vs, g1, g2, g3⟩ := h
        refine ⟨p', vs, g1, ?_, g3⟩
        rw [upd_ne (fun y => z (a.od i j p l l' hi e hs (by rw [← y]; exact g1)))]
        exact g2
  · have same : ∀ {n : Nat} {m' : List D}, (δ.set i (.own m))[n]? = some (.own m') → ∃ l', δ[n]? = some (.own l') := fun {n m'} e => by
      by_cases z : i = n
      · subst z; exact ⟨l, hi⟩
      · rw [List.getElem?_set_ne z] at e; exact ⟨m', e⟩
    obtain ⟨l1, f1⟩ := same e1
    obtain ⟨l2, f2⟩ := same e2
    exact a.od j k q l1 l2 f1 f2 e3 e4
/-- .. stands still from now on -/
theorem SR.freeze (a : SR K W Z σ H G M δ w) {i : Nat} {l : List D} (hi : δ[i]? = some (.own l)) : ∃ G', Ext G G' ∧ SR K W Z σ H G' M (δ.set i (.val (.lst l))) w := by
  obtain ⟨p, vs, h1, h2, h3, h4, h5, h7⟩ := a.sl i _ hi
  have hl : i < δ.length := (List.getElem?_eq_some_iff.mp hi).1
  have gg : Ext G (upd G p (.lst vs)) := Ext.new h3
  refine ⟨upd G p (.lst vs), gg, ⟨⟨fun q x e => ?_, a.pt.mh, fun q x e => ?_, W.mono gg a.pt.wd⟩, ⟨a.nx.gg.tr gg, a.nx.fr, fun q x e e' => ?_, a.nx.mn, a.nx.m0⟩, a.st.tr gg, by rw [List.length_set]; exact a.len, fun j s e => ?_, fun j k q m1 m2 e1 e2 e3 e4 => ?_⟩⟩
  · by_cases z : q = p
    · subst z; rw [upd_same] at e; cases e; exact h2
    · rw [upd_ne z] at e; exact a.pt.gh q x e
  · by_cases z : q = p
    · subst z; exact h4
    · rw [upd_ne z] at e; exact a.pt.dj q x e
  · by_cases z : q = p
    · subst z; exact h5
    · rw [upd_ne z] at e; exact a.nx.gn q x e e'
  · by_cases z : i = j
    · subst z
      rw [List.getElem?_set_self hl] at e
      cases e
      exact ⟨.ref p, h1, .lst upd_same (h7.up gg)⟩
    · rw [List.getElem?_set_ne z] at e
      have h := a.sl j s e
      cases s with
      | no => trivial
      | val d => obtain ⟨u, g1, g2⟩ := h; exact ⟨u, g1, g2.up gg⟩
      | own l' =>
        obtain ⟨p', us, g1, g2, g3, g4, g5, g7⟩ := h
        refine ⟨p', us, g1, g2, ?_, g4, g5, g7.up gg⟩
        rw [upd_ne (fun y => z (a.od i j p l l' hi e h1 (by rw [← y]; exact g1)))]
        exact g3
  · have same : ∀ {n : Nat} {m' : List D}, (δ.set i (.val (.lst l)))[n]? = some (.own m') → δ[n]? = some (.own m') := fun {n m'} e => by
      by_cases z : i = n
      · subst z; rw [List.getElem?_set_self hl] at e; cases e
      · rw [List.getElem?_set_ne z] at e; exact e
    exact a.od j k q m1 m2 (same e1) (same e2) e3 e4
def wipeZ (δ : List Sl) : List Nat → List Sl
  | [] => δ
  | v :: vs => (wipeZ δ vs).set v .no
theorem SR.wipe (a : SR K W Z σ H G M δ w) : ∀ vs : List Nat, SR K W Z (L2.wipe σ vs) H G M (wipeZ δ vs) w
  | [] => a
  | v :: vs => (SR.wipe a vs).drop
/-- more is known to stand -/
theorem SR.more (a : SR K W Z σ H G M δ w) : SR K W ⟨Z.H0, Z.G0, Z.M0, G⟩ σ H G M δ w := ⟨a.pt, a.nx, Ext.rfl', a.len, a.sl, a.od⟩
theorem SR.le {S : Hp} (a : SR K W ⟨Z.H0, Z.G0, Z.M0, S⟩ σ H G M δ w) (hS : Ext Z.S S) : SR K W Z σ H G M δ w := ⟨a.pt, a.nx, hS.tr a.st, a.len, a.sl, a.od⟩
end
end
end Z

namespace Z
open PySem PySem.Spec PyProof.Rows L2
variable {ω : Type}

/-! ### readings over plain data -/
abbrev TEZ (ω : Type) := List Sl → ω → (D → ω → Prop) → (Nat → ω → Prop) → Prop
abbrev TTZ (ω : Type) := List Sl → ω → (Bool → ω → Prop) → (Nat → ω → Prop) → Prop
abbrev TAZ (ω : Type) := List Sl → ω → (List D → ω → Prop) → (Nat → ω → Prop) → Prop
structure EndZ (ω : Type) where
  nx : List Sl → ω → Prop
  rt : D → ω → Prop
  bk : List Sl → ω → Prop
  ct : List Sl → ω → Prop
  ex : Nat → List Sl → ω → Prop
abbrev TSZ (ω : Type) := EndZ ω → List Sl → ω → Prop
/-- what a call of a def asks and gives -/
abbrev SpZ (ω : Type) := List D → ω → (D → ω → Prop) → (Nat → ω → Prop) → Prop
def Mo {α : Type} (t : List Sl → ω → (α → ω → Prop) → (Nat → ω → Prop) → Prop) : Prop := ∀ {δ : List Sl} {w : ω} {Q Q' : α → ω → Prop} {E : Nat → ω → Prop}, (∀ d w', Q d w' → Q' d w') → t δ w Q E → t δ w Q' E

section
variable (K : PySem.W.Frag) (W : Wp ω) (Z : Zx) (ex : Nat → List Sl → ω → Prop)
def liE (te : TEZ ω) : TE := fun σ H Q => ∃ G M δ w, SR K W Z σ H G M δ w ∧ te δ w (fun d w' => ∀ v H' G' M', Go W H G M H' G' M' w' → Rep K G' v d → Q v H') (fun e w' => ex e δ w')
def liT (te : TTZ ω) : TT := fun σ H Q => ∃ G M δ w, SR K W Z σ H G M δ w ∧ te δ w (fun b w' => ∀ H' G' M', Go W H G M H' G' M' w' → Q b H') (fun e w' => ex e δ w')
def liA (te : TAZ ω) : TA := fun σ H Q => ∃ G M δ w, SR K W Z σ H G M δ w ∧ te δ w (fun l w' => ∀ vs H' G' M', Go W H G M H' G' M' w' → RepL K G' vs l → Q vs H') (fun e w' => ex e δ w')
/-- a new list, not yet standing still -/
def NewAt (H H' G' M' : Hp) (p : Addr) (vs : List V) : Prop := H p = none ∧ H' p = some (.lst vs) ∧ G' p = none ∧ M' p = none
def liF (te : TAZ ω) : TE := fun σ H Q => ∃ G M δ w, SR K W Z σ H G M δ w ∧ te δ w (fun l w' => ∀ p vs H' G' M', Go W H G M H' G' M' w' → RepL K G' vs l → NewAt H H' G' M' p vs → Q (.ref p) H') (fun e w' => ex e δ w')
def LS (P : List Sl → ω → Prop) : L2.St → Hp → Prop := fun σ H => ∃ G M δ w, SR K W Z σ H G M δ w ∧ P δ w
def WXz : WX := fun cls d σ H => d = none ∧ ∃ e, cls = .ref (W.ec e) ∧ LS K W Z (ex e) σ H
structure EndI (Dz : EndZ ω) (D : Ends) : Prop where
  nx : ∀ σ H, LS K W Z Dz.nx σ H → D.nx σ H
  bk : ∀ σ H, LS K W Z Dz.bk σ H → D.bk σ H
  ct : ∀ σ H, LS K W Z Dz.ct σ H → D.ct σ H
  rt : ∀ v H G M d w, Pt W H G M w → Nx Z.H0 Z.G0 Z.M0 H G M → Rep K G v d → Dz.rt d w → D.rt v H
def liS (ts : TSZ ω) : TS := fun D σ H => ∃ Dz : EndZ ω, Dz.ex = ex ∧ EndI K W Z Dz D ∧ LS K W Z (ts Dz) σ H
end
section
variable (X : Cx) (W : Wp ω)
structure PEZ (e : Expr) (te : TEZ ω) : Prop where
  mo : Mo te
  run : ∀ (Z : Zx) (ex : Nat → List Sl → ω → Prop), Takes X (WXz X.K W Z ex) → PE X e (liE X.K W Z ex te)
structure PFZ (e : Expr) (te : TAZ ω) : Prop where
  mo : Mo te
  run : ∀ (Z : Zx) (ex : Nat → List Sl → ω → Prop), Takes X (WXz X.K W Z ex) → PE X e (liF X.K W Z ex te)
structure PTZ (e : Expr) (te : TTZ ω) : Prop where
  mo : Mo te
  run : ∀ (Z : Zx) (ex : Nat → List Sl → ω → Prop), Takes X (WXz X.K W Z ex) → PT X e (liT X.K W Z ex te)
structure PWZ (e : Expr) (te : TTZ ω) : Prop where
  mo : Mo te
  run : ∀ (Z : Zx) (ex : Nat → List Sl → ω → Prop), Takes X (WXz X.K W Z ex) → PW X e (liT X.K W Z ex te)
structure PAZ (es : List Expr) (te : TAZ ω) : Prop where
  mo : Mo te
  run : ∀ (Z : Zx) (ex : Nat → List Sl → ω → Prop), Takes X (WXz X.K W Z ex) → PA X es (liA X.K W Z ex te)
def PSZ (st : Stmt) (ts : TSZ ω) : Prop := ∀ (Z : Zx) (ex : Nat → List Sl → ω → Prop), Takes X (WXz X.K W Z ex) → PS X st (liS X.K W Z ex ts)
def PBZ (st : List Stmt) (ts : TSZ ω) : Prop := ∀ (Z : Zx) (ex : Nat → List Sl → ω → Prop), Takes X (WXz X.K W Z ex) → PSs X st (liS X.K W Z ex ts)
end
theorem peI {X : Cx} {e : Expr} {t u : TE} (h : PE X e u) (i : ∀ σ H Q, t σ H Q → u σ H Q) : PE X e t := ⟨fun pins s σ H Q I q => h.run pins s σ H Q I (i _ _ _ q)⟩
theorem ptI {X : Cx} {e : Expr} {t u : TT} (h : PT X e u) (i : ∀ σ H Q, t σ H Q → u σ H Q) : PT X e t := ⟨fun pins s σ H Q I q => h.run pins s σ H Q I (i _ _ _ q)⟩
theorem pwI {X : Cx} {e : Expr} {t u : TT} (h : PW X e u) (i : ∀ σ H Q, t σ H Q → u σ H Q) : PW X e t := ⟨fun wh pins s σ H Q I q => h.run wh pins s σ H Q I (i _ _ _ q)⟩
theorem paI {X : Cx} {e : List Expr} {t u : TA} (h : PA X e u) (i : ∀ σ H Q, t σ H Q → u σ H Q) : PA X e t := ⟨fun pos pins s σ H Q I q => h.run pos pins s σ H Q I (i _ _ _ q)⟩
theorem psI {X : Cx} {e : Stmt} {t u : TS} (h : PS X e u) (i : ∀ D σ H, t D σ H → u D σ H) : PS X e t := ⟨fun pins s σ H D I q => h.run pins s σ H D I (i _ _ _ q)⟩
theorem pbI {X : Cx} {e : List Stmt} {t u : TS} (h : PSs X e u) (i : ∀ D σ H, t D σ H → u D σ H) : PSs X e t := ⟨fun pins s σ H D I q => h.run pins s σ H D I (i _ _ _ q)⟩

/-! ### names, constants -/
def zVar (i : Nat) : TEZ ω := fun δ w Q _ => match δ[i]? with | some (.val d) => Q d w | _ => False
def zK (d : D) : TEZ ω := fun _ w Q _ => Q d w
section
variable {X : Cx} {W : Wp ω} {pos : Pos}
theorem zVar_some {i : Nat} {δ : List Sl} {w : ω} {Q : D → ω → Prop} {E : Nat → ω → Prop} (h : zVar i δ w Q E) : ∃ d, δ[i]? = some (.val d) ∧ Q d w := by
  unfold zVar at h
  split at h
  · rename_i d e; exact ⟨d, e, h⟩
  · exact h.elim
theorem z_var (i : Nat) {x : Str} (hN : X.N[i]? = some x := by rfl) (hv : Vis X.env.scope x := by first | exact Or.inl rfl | exact Or.inr (Or.inl rfl) | exact Or.inr (Or.inr rfl)) (hd : (x == ("__debug__" : Str)) = false := by decide)
    (hcd : (x == ("__classdict__" : Str)) = false := by decide) : PEZ X W (.Name x pos) (zVar i) := ⟨fun k h => by
  obtain ⟨d, e, q⟩ := zVar_some h
  unfold zVar
  rw [e]
  exact k _ _ q, fun Z ex tk => peI (pe_var hN hv hd hcd) fun σ H Q ⟨G, M, δ, w, a, h⟩ => by
  obtain ⟨d, e, q⟩ := zVar_some h
  obtain ⟨v, h1, h2⟩ := a.sl i _ e
  exact ⟨v, h1, q v H G M a.here h2⟩⟩
theorem z_k {e : Expr} {v : V} {d : D} (h : PE X e (tC v)) (r : ∀ G, Rep X.K G v d) : PEZ X W e (zK d) := ⟨fun k h => k _ _ h, fun Z ex tk => peI h fun σ H Q ⟨G, M, δ, w, a, h⟩ => h v H G M a.here (r G)⟩
theorem z_int {i : Int} {j : Nat} : PEZ X W (.Constant (.int i) j pos) (zK (.int i)) := z_k pe_int fun _ => .int i
theorem z_bl {b : Bool} {j : Nat} : PEZ X W (.Constant (.bool b) j pos) (zK (.bl b)) := z_k pe_bl fun _ => .bl b
theorem z_non {j : Nat} : PEZ X W (.Constant .none j pos) (zK .non) := z_k pe_non fun _ => .non
theorem z_str {x : Str} {j : Nat} : PEZ X W (.Constant (.str x) j pos) (zK (.str x)) := z_k pe_str fun _ => .str x
theorem z_globS {x y : Str} {t : Tok} (hm : X.mg x = some (.str y t)) (hg : Gl X x := by rfl) (hd : (x == ("__debug__" : Str)) = false := by decide) : PEZ X W (.Name x pos) (zK (.str y)) := z_k (pe_glob (v := .str y) hg hm ⟨_, rfl⟩ hd) fun _ => .str y
end

/-! ### arguments, displays -/
def zNil : TAZ ω := fun _ w Q _ => Q [] w
def zCons (ta : TEZ ω) (tr : TAZ ω) : TAZ ω := fun δ w Q E => ta δ w (fun x w1 => tr δ w1 (fun l w2 => Q (x :: l) w2) E) E
def zTup (ta : TAZ ω) : TEZ ω := fun δ w Q E => ta δ w (fun l w1 => l.length ≤ 100000 ∧ Q (.tup l) w1) E
def zLst (ta : TAZ ω) : TAZ ω := fun δ w Q E => ta δ w (fun l w1 => l.length ≤ 100000 ∧ Q l w1) E
/-- a new list, standing still from now on -/
def zFz (ta : TAZ ω) : TEZ ω := fun δ w Q E => ta δ w (fun l w1 => Q (.lst l) w1) E
section
variable {X : Cx} {W : Wp ω} {pos : Pos} {e : Expr} {es : List Expr} {ta te : TEZ ω} {tr t : TAZ ω}
theorem sz1 {n : Nat} (h : n ≤ 100000) : n ≤ sizeLine := Nat.le_trans h (by rw [sizeLine_eq]; decide)
theorem z_nil : PAZ X W [] zNil := ⟨fun k h => k _ _ h, fun Z ex tk => paI pa_nil fun σ H Q ⟨G, M, δ, w, a, h⟩ => h [] H G M a.here .nil⟩
theorem z_cons (ha : PEZ X W e ta) (hr : PAZ X W es tr) (hs : starEach (e :: es) X.env = (false, eval e X.env) :: starEach es X.env := by rfl) : PAZ X W (e :: es) (zCons ta tr) :=
  ⟨fun k h => ha.mo (fun _ _ h1 => hr.mo (fun _ _ h2 => k _ _ h2) h1) h, fun Z ex tk => paI (pa_cons (ha.run Z ex tk) (hr.run Z ex tk) hs) fun σ H Q ⟨G, M, δ, w, a, h⟩ =>
    ⟨G, M, δ, w, a, ha.mo (fun d w1 h1 v H1 G1 M1 o1 r1 => ⟨G1, M1, δ, w1, a.go o1, hr.mo (fun l w2 h2 vs H2 G2 M2 o2 r2 => h2 (v :: vs) H2 G2 M2 (o1.tr o2) (.cons (r1.up o2.nx.gg) r2)) h1⟩) h⟩⟩
theorem newOf {K : PySem.W.Frag} {W : Wp ω} {Z : Zx} {σ : L2.St} {H G M : Hp} {δ : List Sl} {w : ω} (a : SR K W Z σ H G M δ w) {p : Addr} (h : H p = none) : Z.H0 p = none ∧ ∀ (j : Nat) (m : List D), δ[j]? = some (Sl.own m) → σ[j]? ≠ some (some (V.ref p)) := by
  refine ⟨a.nx.back a.pt.mh h, fun j m e z => ?_⟩
  obtain ⟨p', vs, h1, h2, _⟩ := a.sl j _ e
  rw [z] at h1
  cases h1
  rw [h] at h2
  cases h2
theorem Go.new {W : Wp ω} {H G M H' G' M' : Hp} {w : ω} (a : Go W H G M H' G' M' w) {p : Addr} {o : HO} (h : H' p = none) : Go W H G M (upd H' p o) (upd G' p o) M' w := ⟨a.pt.new h, a.nx.tr (Nx.new a.pt h) a.pt.mh⟩
theorem Go.ext {W : Wp ω} {H G M H' G' M' : Hp} {w : ω} (a : Go W H G M H' G' M' w) {p : Addr} {o : HO} (h : H' p = none) : Ext G' (upd G' p o) := Ext.new (a.pt.gh.none' h)
/-- a list of our own laid at p: the state knows nothing of it -/
theorem Go.laid {W : Wp ω} {H G M H' G' M' : Hp} {w : ω} (a : Go W H G M H' G' M' w) {p : Addr} {o : HO} (h : H' p = none) : Go W H G M (upd H' p o) G' M' w := by
  have up : ∀ q x, H' q = some x → upd H' p o q = some x := fun q x e => by rw [upd_ne (ne_of_none e h)]; exact e
  exact ⟨⟨fun q x e => up q x (a.pt.gh q x e), fun q x e => up q x (a.pt.mh q x e), a.pt.dj, a.pt.wd⟩, ⟨a.nx.gg, fun q x e m => up q x (a.nx.fr q x e m), a.nx.gn, a.nx.mn, a.nx.m0⟩⟩
theorem NewAt.of {W : Wp ω} {H G M H' G' M' : Hp} {w : ω} (a : Go W H G M H' G' M' w) (b : Ext M H) {p : Addr} {vs : List V} (h : H' p = none) : NewAt H (upd H' p (.lst vs)) G' M' p vs := ⟨a.nx.back a.pt.mh h, upd_same, a.pt.gh.none' h, a.pt.mh.none' h⟩
/-- what is new stands still from now on -/
theorem Go.still {W : Wp ω} {H G M H' G' M' : Hp} {w : ω} (a : Go W H G M H' G' M' w) {p : Addr} {vs : List V} (n : NewAt H H' G' M' p vs) : Go W H G M H' (upd G' p (.lst vs)) M' w ∧ Ext G' (upd G' p (.lst vs)) := by
  obtain ⟨n0, n1, n2, n3⟩ := n
  have gg : Ext G' (upd G' p (.lst vs)) := Ext.new n2
  have cs : ∀ q x, upd G' p (.lst vs) q = some x → (q = p ∧ x = .lst vs) ∨ G' q = some x := fun q x e => by
    by_cases z : q = p
    · subst z; rw [upd_same] at e; cases e; exact .inl ⟨rfl, rfl⟩
    · rw [upd_ne z] at e; exact .inr e
  refine ⟨⟨⟨fun q x e => ?_, a.pt.mh, fun q x e => ?_, W.mono gg a.pt.wd⟩, ⟨a.nx.gg.tr gg, a.nx.fr, fun q x e e' => ?_, a.nx.mn, a.nx.m0⟩⟩, gg⟩
  · rcases cs q x e with ⟨rfl, rfl⟩ | e
    · exact n1
    · exact a.pt.gh q x e
  · rcases cs q x e with ⟨rfl, rfl⟩ | e
    · exact n3
    · exact a.pt.dj q x e
  · rcases cs q x e with ⟨rfl, rfl⟩ | e
    · exact n0
    · exact a.nx.gn q x e e'
theorem z_fz (h : PFZ X W e t) : PEZ X W e (zFz t) := ⟨fun k q => h.mo (fun _ _ q1 => k _ _ q1) q, fun Z ex tk => peI (h.run Z ex tk) fun σ H Q ⟨G, M, δ, w, a, q⟩ =>
  ⟨G, M, δ, w, a, h.mo (fun l w1 q1 p vs H1 G1 M1 o1 r1 n1 => by
    obtain ⟨a2, g2⟩ := o1.still n1
    exact q1 (.ref p) H1 _ M1 a2 (.lst upd_same (r1.up g2))) q⟩⟩
theorem z_tup {j : Nat} (h : PAZ X W es t) : PEZ X W (.Tuple es j pos) (zTup t) := ⟨fun k q => h.mo (fun _ _ ⟨q0, q1⟩ => ⟨q0, k _ _ q1⟩) q, fun Z ex tk => peI (pe_tup (h.run Z ex tk)) fun σ H Q ⟨G, M, δ, w, a, q⟩ =>
  ⟨G, M, δ, w, a, h.mo (fun l w1 ⟨q0, q1⟩ vs H1 G1 M1 o1 r1 => ⟨sz1 (by rw [r1.len]; exact q0), fun p hp =>
    q1 (.ref p) _ _ _ (o1.new (o := .tup vs) hp) (.tup (SqT.of upd_same) (r1.up (o1.ext hp)))⟩) q⟩⟩
theorem z_lst (h : PAZ X W es t) : PFZ X W (.List es pos) (zLst t) := ⟨fun k q => h.mo (fun _ _ ⟨q0, q1⟩ => ⟨q0, k _ _ q1⟩) q, fun Z ex tk => peI (pe_lst (h.run Z ex tk)) fun σ H Q ⟨G, M, δ, w, a, q⟩ =>
  ⟨G, M, δ, w, a, h.mo (fun l w1 ⟨q0, q1⟩ vs H1 G1 M1 o1 r1 => ⟨sz1 (by rw [r1.len]; exact q0), fun p hp => q1 p vs _ _ _ (o1.laid hp) r1 (.of o1 a.pt.mh hp)⟩) q⟩⟩
end

/-! ### operators -/
abbrev OpD := D → D → (D → Prop) → Prop
/-- the operator's rule over values, read over plain data -/
structure Lnd (K : PySem.W.Frag) (rv : R2) (r : OpD) : Prop where
  mo : ∀ {x y : D} {q q' : D → Prop}, (∀ d, q d → q' d) → r x y q → r x y q'
  go : ∀ (H G : Hp) (x y : V) (dx dy : D) (q : D → Prop) (Q : VK), Ext G H → Rep K G x dx → Rep K G y dy → r dx dy q →
    (∀ d v, q d → Rep K G v d → Q v H) → (∀ l vs p, q (.tup l) → H p = none → RepL K G vs l → Q (.ref p) (upd H p (.tup vs))) → rv x y H Q
def zOp (r : OpD) (ta tb : TEZ ω) : TEZ ω := fun δ w Q E => ta δ w (fun x w1 => tb δ w1 (fun y w2 => r x y fun z => Q z w2) E) E
section
variable {X : Cx} {W : Wp ω} {pos : Pos} {a b c : Expr} {ta tb tc : TEZ ω} {rv : R2} {r : OpD}
theorem zop_mo (hl : Lnd X.K rv r) (ha : PEZ X W a ta) (hb : PEZ X W b tb) : Mo (zOp r ta tb) := fun k h => ha.mo (fun _ _ h1 => hb.mo (fun _ _ h2 => hl.mo (fun d q => k d _ q) h2) h1) h
theorem zop_core (hl : Lnd X.K rv r) (ha : PEZ X W a ta) (hb : PEZ X W b tb) {Z : Zx} {ex : Nat → List Sl → ω → Prop} {σ : L2.St} {H : Hp} {Q : VK} (h : liE X.K W Z ex (zOp r ta tb) σ H Q) : tOp rv (liE X.K W Z ex ta) (liE X.K W Z ex tb) σ H Q := by
  obtain ⟨G, M, δ, w, a0, h⟩ := h
  exact ⟨G, M, δ, w, a0, ha.mo (fun d w1 h1 v H1 G1 M1 o1 r1 => ⟨G1, M1, δ, w1, a0.go o1, hb.mo (fun d2 w2 h2 v2 H2 G2 M2 o2 r2 =>
    hl.go H2 G2 v v2 d d2 _ Q o2.pt.gh (r1.up o2.nx.gg) r2 h2 (fun d3 v3 q3 r3 => q3 v3 H2 G2 M2 (o1.tr o2) r3) (fun l vs p q3 hp r3 =>
      q3 (.ref p) _ _ _ ((o1.tr o2).new hp) (.tup (SqT.of upd_same) (r3.up (o2.ext hp))))) h1⟩) h⟩
theorem z_op {op : Operator} (ho : OpR X (binaryOp op) rv) (hl : Lnd X.K rv r) (ha : PEZ X W a ta) (hb : PEZ X W b tb) : PEZ X W (.BinOp a op b pos) (zOp r ta tb) :=
  ⟨zop_mo hl ha hb, fun Z ex tk => peI (pe_op ho (ha.run Z ex tk) (hb.run Z ex tk)) fun σ H Q h => zop_core hl ha hb h⟩
theorem z_ix (ho : IxR X rv) (hl : Lnd X.K rv r) (ha : PEZ X W a ta) (hb : PEZ X W b tb) (hs : PlainIx b := by exact fun _ _ => rfl) : PEZ X W (.Subscript a b pos) (zOp r ta tb) :=
  ⟨zop_mo hl ha hb, fun Z ex tk => peI (pe_ix ho (ha.run Z ex tk) (hb.run Z ex tk) hs) fun σ H Q h => zop_core hl ha hb h⟩
/-- a comparison as a value, as a test -/
theorem z_cmp {op : CmpOp} (ho : OpR X (compareOp op) rv) (hl : Lnd X.K rv r) (ha : PEZ X W a ta) (hb : PEZ X W b tb) (hm : behindInMarks op b = false := by first | exact nomark _ | rfl) : PEZ X W (.Compare a [op] [b] pos) (zOp r ta tb) :=
  ⟨zop_mo hl ha hb, fun Z ex tk => peI (pe_cmpR ho (ha.run Z ex tk) (hb.run Z ex tk) hm) fun σ H Q h => zop_core hl ha hb h⟩
def zB (te : TEZ ω) : TTZ ω := fun δ w Q E => te δ w (fun d w1 => match d with | .bl b => Q b w1 | _ => False) E
theorem zB_mo {te : TEZ ω} (h : Mo te) : Mo (zB te) := fun k q => h (fun d w1 q1 => by
  cases d with
  | bl b => exact k b w1 q1
  | _ => exact False.elim q1) q
theorem zB_core {te : TEZ ω} (h : Mo te) {K : PySem.W.Frag} {Z : Zx} {ex : Nat → List Sl → ω → Prop} {σ : L2.St} {H : Hp} {Q : Bool → Hp → Prop} (q : liT K W Z ex (zB te) σ H Q) : liE K W Z ex te σ H fun x H1 => ∃ k, x = .bl k ∧ Q k H1 := by
  obtain ⟨G, M, δ, w, a, q⟩ := q
  refine ⟨G, M, δ, w, a, h (fun d w1 q1 v H1 G1 M1 o1 r1 => ?_) q⟩
  cases d with
  | bl b =>
    cases r1
    exact ⟨b, rfl, q1 H1 G1 M1 o1⟩
  | _ => exact False.elim q1
theorem z_tcmp {op : CmpOp} (ho : OpR X (compareOp op) rv) (hl : Lnd X.K rv r) (ha : PEZ X W a ta) (hb : PEZ X W b tb) (hm : behindInMarks op b = false := by first | exact nomark _ | rfl) : PTZ X W (.Compare a [op] [b] pos) (zB (zOp r ta tb)) :=
  ⟨zB_mo (te := zOp r ta tb) (zop_mo hl ha hb), fun Z ex tk => ptI (pt_cmpR ho (ha.run Z ex tk) (hb.run Z ex tk) hm) fun σ H Q h => zop_core hl ha hb (zB_core (te := zOp r ta tb) (zop_mo hl ha hb) h)⟩
/-- any expression that gives a truth -/
theorem z_tval (ha : PEZ X W a ta) (he : ∀ whole, isTrue a X.env whole = (do let v ← whole; standAt a.pos; holding [v] (truthy v)) := by intro _; rfl) : PTZ X W a (zB ta) :=
  ⟨zB_mo (te := ta) ha.mo, fun Z ex tk => ptI (pt_val (ha.run Z ex tk) he) fun σ H Q h => zB_core (te := ta) ha.mo h⟩
/-- a op b op c -/
def zCh (r r' : OpD) (ta tb tc : TEZ ω) : TEZ ω := fun δ w Q E => ta δ w (fun x w1 => tb δ w1 (fun y w2 => r x y fun z => match z with
  | .bl k => (k = true → tc δ w2 (fun u w3 => r' y u fun z' => Q z' w3) E) ∧ (k = false → Q (.bl false) w2)
  | _ => False) E) E
theorem zch_mo {rv rv' : R2} {r r' : OpD} (hl : Lnd X.K rv r) (hl' : Lnd X.K rv' r') (ha : PEZ X W a ta) (hb : PEZ X W b tb) (hc : PEZ X W c tc) : Mo (zCh r r' ta tb tc) := fun k h => ha.mo (fun _ _ h1 => hb.mo (fun _ _ h2 => hl.mo (fun d q => by
  cases d with
  | bl b => exact ⟨fun e => hc.mo (fun _ _ h3 => hl'.mo (fun d q => k d _ q) h3) (q.1 e), fun e => k _ _ (q.2 e)⟩
  | _ => exact q) h2) h1) h
theorem zch_core {rv rv' : R2} {r r' : OpD} (hl : Lnd X.K rv r) (hl' : Lnd X.K rv' r') (ha : PEZ X W a ta) (hb : PEZ X W b tb) (hc : PEZ X W c tc) {Z : Zx} {ex : Nat → List Sl → ω → Prop} {σ : L2.St} {H : Hp} {Q : VK} (h : liE X.K W Z ex (zCh r r' ta tb tc) σ H Q) :
    tChain rv rv' (liE X.K W Z ex ta) (liE X.K W Z ex tb) (liE X.K W Z ex tc) σ H Q := by
  obtain ⟨G, M, δ, w, a0, h⟩ := h
  exact ⟨G, M, δ, w, a0, ha.mo (fun d w1 h1 v H1 G1 M1 o1 r1 => ⟨G1, M1, δ, w1, a0.go o1, hb.mo (fun d2 w2 h2 v2 H2 G2 M2 o2 r2 =>
    hl.go H2 G2 v v2 d d2 _ _ o2.pt.gh (r1.up o2.nx.gg) r2 h2 (fun d3 v3 q3 r3 => by
      cases d3 with
      | bl k =>
        cases r3
        refine ⟨k, rfl, ?_⟩
        cases k with
        | true =>
          rw [if_pos rfl]
          exact ⟨G2, M2, δ, w2, a0.go (o1.tr o2), hc.mo (fun d4 w4 h4 v4 H4 G4 M4 o4 r4 => hl'.go H4 G4 v2 v4 d2 d4 _ Q o4.pt.gh (r2.up o4.nx.gg) r4 h4 (fun d5 v5 q5 r5 => q5 v5 H4 G4 M4 ((o1.tr o2).tr o4) r5) (fun l vs p q5 hp r5 =>
            q5 (.ref p) _ _ _ (((o1.tr o2).tr o4).new hp) (.tup (SqT.of upd_same) (r5.up (o4.ext hp))))) (q3.1 rfl)⟩
        | false =>
          rw [if_neg Bool.false_ne_true]
          exact q3.2 rfl (.bl false) H2 G2 M2 (o1.tr o2) (.bl false)
      | _ => exact False.elim q3) (fun l vs p q3 hp r3 => False.elim q3)) h1⟩) h⟩
theorem z_ch {op op' : CmpOp} {rv' : R2} {r' : OpD} (ho : OpR X (compareOp op) rv) (ho' : OpR X (compareOp op') rv') (hl : Lnd X.K rv r) (hl' : Lnd X.K rv' r') (ha : PEZ X W a ta) (hb : PEZ X W b tb) (hc : PEZ X W c tc)
    (hm : lastMarks [op, op'] [b, c] = false := by with_unfolding_all rfl) : PEZ X W (.Compare a [op, op'] [b, c] pos) (zCh r r' ta tb tc) :=
  ⟨zch_mo hl hl' ha hb hc, fun Z ex tk => peI (pe_chain ho ho' (ha.run Z ex tk) (hb.run Z ex tk) (hc.run Z ex tk) hm) fun σ H Q h => zch_core hl hl' ha hb hc h⟩
theorem z_tch {op op' : CmpOp} {rv' : R2} {r' : OpD} (ho : OpR X (compareOp op) rv) (ho' : OpR X (compareOp op') rv') (hl : Lnd X.K rv r) (hl' : Lnd X.K rv' r') (ha : PEZ X W a ta) (hb : PEZ X W b tb) (hc : PEZ X W c tc)
    (hm : lastMarks [op, op'] [b, c] = false := by with_unfolding_all rfl) : PTZ X W (.Compare a [op, op'] [b, c] pos) (zB (zCh r r' ta tb tc)) :=
  ⟨zB_mo (te := zCh r r' ta tb tc) (zch_mo hl hl' ha hb hc), fun Z ex tk => ptI (pt_chain ho ho' (ha.run Z ex tk) (hb.run Z ex tk) (hc.run Z ex tk) hm) fun σ H Q h => zch_core hl hl' ha hb hc (zB_core (te := zCh r r' ta tb tc) (zch_mo hl hl' ha hb hc) h)⟩
/-- one operand -/
structure Lnd1 (K : PySem.W.Frag) (rv : V → Hp → VK → Prop) (r : D → (D → Prop) → Prop) : Prop where
  mo : ∀ {x : D} {q q' : D → Prop}, (∀ d, q d → q' d) → r x q → r x q'
  go : ∀ (H G : Hp) (x : V) (dx : D) (q : D → Prop) (Q : VK), Ext G H → Rep K G x dx → r dx q → (∀ d v, q d → Rep K G v d → Q v H) → rv x H Q
def zUn (r : D → (D → Prop) → Prop) (ta : TEZ ω) : TEZ ω := fun δ w Q E => ta δ w (fun x w1 => r x fun z => Q z w1) E
theorem z_un {op : UnaryOp} {rv : V → Hp → VK → Prop} {r : D → (D → Prop) → Prop} (ho : UnR X (unaryOp op) rv) (hl : Lnd1 X.K rv r) (ha : PEZ X W a ta) : PEZ X W (.UnaryOp op a pos) (zUn r ta) :=
  ⟨fun k h => ha.mo (fun _ _ h1 => hl.mo (fun d q => k d _ q) h1) h, fun Z ex tk => peI (pe_un ho (ha.run Z ex tk)) fun σ H Q ⟨G, M, δ, w, a0, h⟩ =>
    ⟨G, M, δ, w, a0, ha.mo (fun d w1 h1 v H1 G1 M1 o1 r1 => hl.go H1 G1 v d _ Q o1.pt.gh r1 h1 fun d3 v3 q3 r3 => q3 v3 H1 G1 M1 o1 r3) h⟩⟩
end

/-! ### and, or, not, if-else -/
def zAnd (t u : TTZ ω) : TTZ ω := fun δ w Q E => t δ w (fun b w1 => (b = true → u δ w1 Q E) ∧ (b = false → Q false w1)) E
def zOr (t u : TTZ ω) : TTZ ω := fun δ w Q E => t δ w (fun b w1 => (b = true → Q true w1) ∧ (b = false → u δ w1 Q E)) E
def zNot (t : TTZ ω) : TTZ ω := fun δ w Q E => t δ w (fun b w1 => Q (!b) w1) E
def zAndV (t u : TEZ ω) : TEZ ω := fun δ w Q E => t δ w (fun d w1 => match d with | .bl b => (b = true → u δ w1 Q E) ∧ (b = false → Q (.bl false) w1) | _ => False) E
def zOrV (t u : TEZ ω) : TEZ ω := fun δ w Q E => t δ w (fun d w1 => match d with | .bl b => (b = true → Q (.bl true) w1) ∧ (b = false → u δ w1 Q E) | _ => False) E
def zNotV (t : TEZ ω) : TEZ ω := fun δ w Q E => t δ w (fun d w1 => match d with | .bl b => Q (.bl (!b)) w1 | _ => False) E
def zIfE (t : TTZ ω) (ta tb : TEZ ω) : TEZ ω := fun δ w Q E => t δ w (fun b w1 => (b = true → ta δ w1 Q E) ∧ (b = false → tb δ w1 Q E)) E
section
variable {X : Cx} {W : Wp ω} {pos : Pos} {a b c : Expr} {rest : List Expr} {t u : TTZ ω} {ta tb : TEZ ω}
theorem z_and1 (h : PTZ X W a t) : PWZ X W (.BoolOp .And [a] pos) t := ⟨h.mo, fun Z ex tk => pw_and1 (h.run Z ex tk)⟩
theorem z_or1 (h : PTZ X W a t) : PWZ X W (.BoolOp .Or [a] pos) t := ⟨h.mo, fun Z ex tk => pw_or1 (h.run Z ex tk)⟩
theorem z_and (h : PTZ X W a t) (g : PWZ X W (.BoolOp .And (b :: rest) pos) u) : PWZ X W (.BoolOp .And (a :: b :: rest) pos) (zAnd t u) :=
  ⟨fun k q => h.mo (fun _ _ q1 => ⟨fun e => g.mo k (q1.1 e), fun e => k _ _ (q1.2 e)⟩) q, fun Z ex tk => pwI (pw_and (h.run Z ex tk) (g.run Z ex tk)) fun σ H Q ⟨G, M, δ, w, a0, q⟩ =>
    ⟨G, M, δ, w, a0, h.mo (fun k w1 q1 H1 G1 M1 o1 => by
      cases k with
      | true =>
        rw [if_pos rfl]
        exact ⟨G1, M1, δ, w1, a0.go o1, g.mo (fun k2 w2 q2 H2 G2 M2 o2 => q2 H2 G2 M2 (o1.tr o2)) (q1.1 rfl)⟩
      | false =>
        rw [if_neg Bool.false_ne_true]
        exact q1.2 rfl H1 G1 M1 o1) q⟩⟩
theorem z_or (h : PTZ X W a t) (g : PWZ X W (.BoolOp .Or (b :: rest) pos) u) : PWZ X W (.BoolOp .Or (a :: b :: rest) pos) (zOr t u) :=
  ⟨fun k q => h.mo (fun _ _ q1 => ⟨fun e => k _ _ (q1.1 e), fun e => g.mo k (q1.2 e)⟩) q, fun Z ex tk => pwI (pw_or (h.run Z ex tk) (g.run Z ex tk)) fun σ H Q ⟨G, M, δ, w, a0, q⟩ =>
    ⟨G, M, δ, w, a0, h.mo (fun k w1 q1 H1 G1 M1 o1 => by
      cases k with
      | true =>
        rw [if_pos rfl]
        exact q1.1 rfl H1 G1 M1 o1
      | false =>
        rw [if_neg Bool.false_ne_true]
        exact ⟨G1, M1, δ, w1, a0.go o1, g.mo (fun k2 w2 q2 H2 G2 M2 o2 => q2 H2 G2 M2 (o1.tr o2)) (q1.2 rfl)⟩) q⟩⟩
theorem z_pw (h : PWZ X W a t) : PTZ X W a t := ⟨h.mo, fun Z ex tk => (h.run Z ex tk).pt⟩
theorem z_not (h : PTZ X W a t) : PTZ X W (.UnaryOp .Not a pos) (zNot t) :=
  ⟨fun k q => h.mo (fun _ _ q1 => k _ _ q1) q, fun Z ex tk => ptI (pt_not (h.run Z ex tk)) fun σ H Q ⟨G, M, δ, w, a0, q⟩ => ⟨G, M, δ, w, a0, h.mo (fun k w1 q1 H1 G1 M1 o1 => q1 H1 G1 M1 o1) q⟩⟩
theorem blMo {Q Q' : D → ω → Prop} {w : ω} {f g : Bool → ω → Prop} {d : D} (k : ∀ b, f b w → g b w) (h : match d with | .bl b => f b w | _ => False) : match d with | .bl b => g b w | _ => False := by
  cases d with
  | bl b => exact k b h
  | _ => exact h
theorem z_one {op : BoolOp} (h : PEZ X W a ta) : PEZ X W (.BoolOp op [a] pos) ta := ⟨h.mo, fun Z ex tk => pe_one (h.run Z ex tk)⟩
theorem z_andV (h : PEZ X W a ta) (g : PEZ X W (.BoolOp .And (b :: rest) pos) tb) : PEZ X W (.BoolOp .And (a :: b :: rest) pos) (zAndV ta tb) :=
  ⟨fun k q => h.mo (fun d w1 q1 => by
    cases d with
    | bl b => exact ⟨fun e => g.mo k (q1.1 e), fun e => k _ _ (q1.2 e)⟩
    | _ => exact q1) q, fun Z ex tk => peI (pe_and (h.run Z ex tk) (g.run Z ex tk)) fun σ H Q ⟨G, M, δ, w, a0, q⟩ =>
    ⟨G, M, δ, w, a0, h.mo (fun d w1 q1 v H1 G1 M1 o1 r1 => by
      cases d with
      | bl k =>
        cases r1
        refine ⟨k, rfl, ?_⟩
        cases k with
        | true =>
          rw [if_pos rfl]
          exact ⟨G1, M1, δ, w1, a0.go o1, g.mo (fun d2 w2 q2 v2 H2 G2 M2 o2 r2 => q2 v2 H2 G2 M2 (o1.tr o2) r2) (q1.1 rfl)⟩
        | false =>
          rw [if_neg Bool.false_ne_true]
          exact q1.2 rfl (.bl false) H1 G1 M1 o1 (.bl false)
      | _ => exact False.elim q1) q⟩⟩
theorem z_orV (h : PEZ X W a ta) (g : PEZ X W (.BoolOp .Or (b :: rest) pos) tb) : PEZ X W (.BoolOp .Or (a :: b :: rest) pos) (zOrV ta tb) :=
  ⟨fun k q => h.mo (fun d w1 q1 => by
    cases d with
    | bl b => exact ⟨fun e => k _ _ (q1.1 e), fun e => g.mo k (q1.2 e)⟩
    | _ => exact q1) q, fun Z ex tk => peI (pe_or (h.run Z ex tk) (g.run Z ex tk)) fun σ H Q ⟨G, M, δ, w, a0, q⟩ =>
    ⟨G, M, δ, w, a0, h.mo (fun d w1 q1 v H1 G1 M1 o1 r1 => by
      cases d with
      | bl k =>
        cases r1
        refine ⟨k, rfl, ?_⟩
        cases k with
        | true =>
          rw [if_pos rfl]
          exact q1.1 rfl (.bl true) H1 G1 M1 o1 (.bl true)
        | false =>
          rw [if_neg Bool.false_ne_true]
          exact ⟨G1, M1, δ, w1, a0.go o1, g.mo (fun d2 w2 q2 v2 H2 G2 M2 o2 r2 => q2 v2 H2 G2 M2 (o1.tr o2) r2) (q1.2 rfl)⟩
      | _ => exact False.elim q1) q⟩⟩
theorem z_notV (h : PEZ X W a ta) : PEZ X W (.UnaryOp .Not a pos) (zNotV ta) :=
  ⟨fun k q => h.mo (fun d w1 q1 => by
    cases d with
    | bl b => exact k _ _ q1
    | _ => exact q1) q, fun Z ex tk => peI (pe_not (h.run Z ex tk)) fun σ H Q ⟨G, M, δ, w, a0, q⟩ =>
    ⟨G, M, δ, w, a0, h.mo (fun d w1 q1 v H1 G1 M1 o1 r1 => by
      cases d with
      | bl k =>
        cases r1
        exact ⟨k, rfl, q1 (.bl (!k)) H1 G1 M1 o1 (.bl (!k))⟩
      | _ => exact False.elim q1) q⟩⟩
theorem z_ifE (hc : PTZ X W c t) (h : PEZ X W a ta) (g : PEZ X W b tb) : PEZ X W (.IfExp c a b pos) (zIfE t ta tb) :=
  ⟨fun k q => hc.mo (fun _ _ q1 => ⟨fun e => h.mo k (q1.1 e), fun e => g.mo k (q1.2 e)⟩) q, fun Z ex tk => peI (pe_ifExp (hc.run Z ex tk) (h.run Z ex tk) (g.run Z ex tk)) fun σ H Q ⟨G, M, δ, w, a0, q⟩ =>
    ⟨G, M, δ, w, a0, hc.mo (fun k w1 q1 H1 G1 M1 o1 => by
      cases k with
      | true =>
        rw [if_pos rfl]
        exact ⟨G1, M1, δ, w1, a0.go o1, h.mo (fun d2 w2 q2 v2 H2 G2 M2 o2 r2 => q2 v2 H2 G2 M2 (o1.tr o2) r2) (q1.1 rfl)⟩
      | false =>
        rw [if_neg Bool.false_ne_true]
        exact ⟨G1, M1, δ, w1, a0.go o1, g.mo (fun d2 w2 q2 v2 H2 G2 M2 o2 r2 => q2 v2 H2 G2 M2 (o1.tr o2) r2) (q1.2 rfl)⟩) q⟩⟩
end
end Z

namespace Z
open PySem PySem.Spec PyProof.Rows L2
/-! ### range with bounds of any size -/
theorem turn_long {P : Program} {w : World} {K : PySem.W.Frag} {tg : Expr} (it : Addr) (lo : Int) (n : Nat) : Turn P w K tg (Itr lo n) [it] it (fun i h => IsLongIter h it (lo + (i : Nat) * 1) ((n : Int) - (i : Nat)) 1) := by
  refine ⟨by simp, fun i h st b hb => ?_, fun i h h' st k => k it (by simp) _ st, ?_, ?_, fun _ _ _ _ _ st h => wpAny_pyIter_longiter st h⟩
  · have e : b = it := by simpa using hb
    subst e
    refine ⟨_, st, fun v z => ?_⟩
    have z' : Data.fields _ = Data.cell v := z
    cases z'
  · intro X hP hw hK hc i pins s σ H E I hf st hg
    subst hP hw hK
    obtain ⟨f0, f1, f2, f3, f4, f5⟩ := hf it (by simp)
    refine (Walks.longrange (prog := X.prog) (w := X.w) (I.ok.hd hc) it lo 1 n).item i s _ _ hg st fun v h' tk hv st' kk => ?_
    obtain ⟨t, rfl⟩ := hv
    have I1 := I.turned (t' := tk) (h' := h') (fun b o hb e => kk b o (by simpa using hb) e) f0 f1 f3 f4 f5
    refine ⟨_, rfl, go_of (n := "longrange_iterator") st' rfl rfl (by decide) ⟨.int (lo + i), H, I1, ⟨t, by rw [Int.mul_one]⟩, ⟨rfl, rfl⟩, st', fun b hb => (hf b hb).1⟩⟩
  · intro X hP hw hK hc i pins s σ H E I hf st hg
    subst hP hw hK
    obtain ⟨f0, f1, f2, f3, f4, f5⟩ := hf it (by simp)
    exact wpAny_pyNext_long_end (I.ok.hd hc) st (by have : n ≤ i := hg; omega) fun h' eb => ⟨rfl, I.turned (t' := s.toks) (fun b o hb e => eb b o hb e) f0 f1 f3 f4 f5⟩
section
variable {X : Cx} {tg : Expr}
theorem rangeB_it {pins : List (Addr × Obj)} {σ : L2.St} {H : Hp} {s : Shared} {R : It → Hp → Prop} {E : Value → Shared → Prop} {lo hi : Int} {t u v : Tok} {tk : Nat} (I : Inv X pins σ H s)
    (q : R (Itr lo (hi - lo).toNat) H) : wpAny (model X.prog X.w) X.A (pyIter (.ref s.heap.objs.size)) (PIE X pins σ tg R) E { s with heap := s.heap.push { cls := .type "range", data := .fields #[.int lo t, .int hi u, .int 1 v] }, toks := tk } := by
  have I1 := I.kept (h' := s.heap.push { cls := .type "range", data := .fields #[.int lo t, .int hi u, .int 1 v] }) (t' := tk) fun b o e => Heap.get?_push_of_some _ e
  have e1 : lo + ((0 : Nat) : Int) * 1 = lo := by simp
  have e2 : (((hi - lo).toNat : Nat) : Int) - ((0 : Nat) : Int) = Builtin.Range.rangeSize lo hi 1 := by rw [rangeSize_one]; split <;> omega
  cases hs : Builtin.Range.small lo hi 1 with
  | true =>
    refine wpAny_pyIter_range (IsRange.new ..) hs ?_
    refine ⟨_, [_], _, _, H, rfl, I1.kept (t' := tk) fun b o e => Heap.get?_push_of_some _ e, turn_range _ lo (hi - lo).toNat, ?_, fun b hb => ?_, q⟩
    · show IsRangeIter _ _ (lo + ((0 : Nat) : Int) * 1) ((((hi - lo).toNat : Nat) : Int) - ((0 : Nat) : Int)) 1
      rw [e1, e2]
      exact Heap.get?_push_size _ rfl
    · have e := List.mem_singleton.mp hb
      subst e
      exact I1.fpOk (Nat.le_refl _) (I1.hok.fresh (Nat.le_refl _))
  | false =>
    refine wpAny_pyIter_longrange (IsRange.new ..) hs ?_
    refine ⟨_, [_], _, _, H, rfl, I1.kept (t' := tk) fun b o e => Heap.get?_push_of_some _ e, turn_long _ lo (hi - lo).toNat, ?_, fun b hb => ?_, q⟩
    · show IsLongIter _ _ (lo + ((0 : Nat) : Int) * 1) ((((hi - lo).toNat : Nat) : Int) - ((0 : Nat) : Int)) 1
      rw [e1, e2]
      exact Heap.get?_push_size _ rfl
    · have e := List.mem_singleton.mp hb
      subst e
      exact I1.fpOk (Nat.le_refl _) (I1.hok.fresh (Nat.le_refl _))
def iRgB1 (ta : TA) : TI := fun σ H R => ta σ H fun vs H1 => ∃ j : Int, vs = [.int j] ∧ R (Itr 0 j.toNat) H1
def iRgB2 (ta : TA) : TI := fun σ H R => ta σ H fun vs H1 => ∃ i j : Int, vs = [.int i, .int j] ∧ R (Itr i (j - i).toNat) H1
theorem pi_rgB1 {a : Expr} {ta : TA} {p pos : Pos} (hg : Gl X "range") (hm : X.mg "range" = none) (ha : PA X [a] ta) (hs : starEach [a] X.env = [(false, eval a X.env)]) : PI X tg (.Call (.Name "range" p) [a] [] pos) (iRgB1 ta) := by
  refine ⟨fun pins s σ H R I h => Call_ (ld_blt I hg hm boot_range (PyProof.Rows.callWith_type1 (thn (ha.run pos pins s σ H _ I h) fun us s1 ⟨vs, H1, I1, r1, q1⟩ => ?_) hs rfl))⟩
  obtain ⟨j, rfl, q⟩ := q1
  rcases r1 with _ | ⟨⟨t, rfl⟩, _ | _⟩
  exact call_range_1 (rangeB_it I1 (by simpa using q))
theorem pi_rgB2 {a b : Expr} {ta : TA} {p pos : Pos} (hg : Gl X "range") (hm : X.mg "range" = none) (ha : PA X [a, b] ta) (hs : starEach [a, b] X.env = [(false, eval a X.env), (false, eval b X.env)]) (hs2 : starEach [b] X.env = [(false, eval b X.env)]) :
    PI X tg (.Call (.Name "range" p) [a, b] [] pos) (iRgB2 ta) := by
  refine ⟨fun pins s σ H R I h => Call_ (ld_blt I hg hm boot_range (PyProof.Rows.callWith_type1 (thn (ha.run pos pins s σ H _ I h) fun us s1 ⟨vs, H1, I1, r1, q1⟩ => ?_) (by rw [hs, hs2]) (by rw [hs2]; rfl)))⟩
  obtain ⟨i, j, rfl, q⟩ := q1
  rcases r1 with _ | ⟨⟨t, rfl⟩, _ | ⟨⟨t', rfl⟩, _ | _⟩⟩
  exact call_range_2 (rangeB_it I1 q)
end
end Z

namespace Z
open PySem PySem.Spec PyProof.Rows L2
variable {ω : Type}

/-! ### statements -/
def zSeq (t u : TSZ ω) : TSZ ω := fun D δ w => t { D with nx := u D } δ w
def zNx : TSZ ω := fun D δ w => D.nx δ w
def zBk : TSZ ω := fun D δ w => D.bk δ w
def zCt : TSZ ω := fun D δ w => D.ct δ w
def zAsg (i : Nat) (te : TEZ ω) : TSZ ω := fun D δ w => te δ w (fun d w' => D.nx (δ.set i (.val d)) w') (fun e w' => D.ex e δ w')
def zOwn (i : Nat) (te : TAZ ω) : TSZ ω := fun D δ w => te δ w (fun l w' => D.nx (δ.set i (.own l)) w') (fun e w' => D.ex e δ w')
def zFrz (i : Nat) (t : TSZ ω) : TSZ ω := fun D δ w => match δ[i]? with | some (.own l) => t D (δ.set i (.val (.lst l))) w | _ => False
def zRet (te : TEZ ω) : TSZ ω := fun D δ w => te δ w (fun d w' => D.rt d w') (fun e w' => D.ex e δ w')
def zRetN : TSZ ω := fun D _ w => D.rt .non w
def zDrop (te : TEZ ω) : TSZ ω := fun D δ w => te δ w (fun _ w' => D.nx δ w') (fun e w' => D.ex e δ w')
def zIf (c : TTZ ω) (t u : TSZ ω) : TSZ ω := fun D δ w => c δ w (fun b w' => (b = true → t D δ w') ∧ (b = false → u D δ w')) (fun e w' => D.ex e δ w')
def zRaise (e : Nat) : TSZ ω := fun D δ w => D.ex e δ w
def zNever : TSZ ω := fun _ _ _ => False
def zWhile (c : TTZ ω) (t : TSZ ω) : TSZ ω := fun D δ w => ∃ I : Nat → List Sl → ω → Prop, (∃ m, I m δ w) ∧ ∀ m δ w, I m δ w → c δ w (fun b w' =>
  (b = true → t { D with nx := fun δ' w' => ∃ m', m' < m ∧ I m' δ' w', ct := fun δ' w' => ∃ m', m' < m ∧ I m' δ' w', bk := D.nx } δ w') ∧ (b = false → D.nx δ w')) (fun e w' => D.ex e δ w')
section
variable {X : Cx} {W : Wp ω} {pos : Pos} {st : Stmt} {rest : List Stmt} {t u : TSZ ω} {e : Expr} {te : TEZ ω}
theorem zb_nil : PBZ X W [] zNx := fun Z ex tk => pbI pss_nil fun D σ H ⟨Dz, _, EI, h⟩ => EI.nx _ _ h
theorem zb_cons (h : PSZ X W st t) (g : PBZ X W rest u) : PBZ X W (st :: rest) (zSeq t u) := fun Z ex tk => pbI (pss_cons (h Z ex tk) (g Z ex tk)) fun D σ H ⟨Dz, e, EI, h⟩ =>
  ⟨{ Dz with nx := u Dz }, e, ⟨fun σ' H' h' => ⟨Dz, e, EI, h'⟩, EI.bk, EI.ct, EI.rt⟩, h⟩
theorem zb_one (h : PSZ X W st t) : PBZ X W [st] t := fun Z ex tk => pss_one (h Z ex tk)
theorem z_pass : PSZ X W (.Pass pos) zNx := fun Z ex tk => psI ps_pass fun D σ H ⟨Dz, _, EI, h⟩ => EI.nx _ _ h
theorem z_break : PSZ X W (.Break pos) zBk := fun Z ex tk => psI ps_break fun D σ H ⟨Dz, _, EI, h⟩ => EI.bk _ _ h
theorem z_cont : PSZ X W (.Continue pos) zCt := fun Z ex tk => psI ps_continue fun D σ H ⟨Dz, _, EI, h⟩ => EI.ct _ _ h
theorem z_never : PSZ X W st zNever := fun Z ex tk => psI ps_never fun D σ H ⟨Dz, _, EI, G, M, δ, w, a, h⟩ => h
theorem z_set (i : Nat) {x : Str} {pos' : Pos} (he : PEZ X W e te) (hN : X.N.Nodup) (hi : X.N[i]? = some x := by rfl) (hx : Loc X.env.scope x := by first | exact Or.inl rfl | exact Or.inr rfl)
    (hs : swapsWith e (some (.Name x pos')) pos.line X.env = pure false := by rfl) (hf : X.fn x = true ∨ X.env.scope.names.lookup x = some .local := by first | exact .inl rfl | exact .inr rfl) :
    PSZ X W (.Assign [.Name x pos'] e pos) (zAsg i te) := fun Z ex tk => psI (ps_set hN hi hx (he.run Z ex tk) hs hf) fun D σ H ⟨Dz, hex, EI, G, M, δ, w, a, h⟩ => by
  subst hex
  exact ⟨G, M, δ, w, a, he.mo (fun d w1 h1 v H1 G1 M1 o1 r1 => EI.nx _ _ ⟨G1, M1, _, w1, (a.go o1).set r1, h1⟩) h⟩
theorem z_own (i : Nat) {x : Str} {pos' : Pos} {ta : TAZ ω} (he : PFZ X W e ta) (hN : X.N.Nodup) (hi : X.N[i]? = some x := by rfl) (hx : Loc X.env.scope x := by first | exact Or.inl rfl | exact Or.inr rfl)
    (hs : swapsWith e (some (.Name x pos')) pos.line X.env = pure false := by rfl) (hf : X.fn x = true ∨ X.env.scope.names.lookup x = some .local := by first | exact .inl rfl | exact .inr rfl) :
    PSZ X W (.Assign [.Name x pos'] e pos) (zOwn i ta) := fun Z ex tk => psI (ps_set hN hi hx (he.run Z ex tk) hs hf) fun D σ H ⟨Dz, hex, EI, G, M, δ, w, a, h⟩ => by
  subst hex
  exact ⟨G, M, δ, w, a, he.mo (fun l w1 h1 p vs H1 G1 M1 o1 r1 n1 => EI.nx _ _ ⟨G1, M1, _, w1, (a.go o1).setOwn n1.2.1 n1.2.2.1 n1.2.2.2 (newOf a n1.1).1 r1 (newOf a n1.1).2, h1⟩) h⟩
theorem zb_frz (i : Nat) {sts : List Stmt} (h : PBZ X W sts t) : PBZ X W sts (zFrz i t) := fun Z ex tk => pbI (h Z ex tk) fun D σ H ⟨Dz, hex, EI, G, M, δ, w, a, q⟩ => by
  unfold zFrz at q
  split at q
  · rename_i l e
    obtain ⟨G', gg, a'⟩ := a.freeze e
    exact ⟨Dz, hex, EI, G', M, _, w, a', q⟩
  · exact q.elim
theorem z_ret (he : PEZ X W e te) : PSZ X W (.Return (some e) pos) (zRet te) := fun Z ex tk => psI (ps_ret (he.run Z ex tk)) fun D σ H ⟨Dz, hex, EI, G, M, δ, w, a, h⟩ => by
  subst hex
  exact ⟨G, M, δ, w, a, he.mo (fun d w1 h1 v H1 G1 M1 o1 r1 => EI.rt v H1 G1 M1 d w1 o1.pt (a.go o1).nx r1 h1) h⟩
theorem z_retN : PSZ X W (.Return none pos) zRetN := fun Z ex tk => psI ps_retN fun D σ H ⟨Dz, hex, EI, G, M, δ, w, a, h⟩ => EI.rt .non H G M .non w a.pt a.nx .non h
theorem z_drop (he : PEZ X W e te) (hs : swapsWith e none pos.line X.env = pure false := by rfl) : PSZ X W (.Expr e pos) (zDrop te) := fun Z ex tk => psI (ps_expr (he.run Z ex tk) hs) fun D σ H ⟨Dz, hex, EI, G, M, δ, w, a, h⟩ => by
  subst hex
  exact ⟨G, M, δ, w, a, he.mo (fun d w1 h1 v H1 G1 M1 o1 r1 => EI.nx _ _ ⟨G1, M1, δ, w1, a.go o1, h1⟩) h⟩
theorem z_if {c : Expr} {a b : List Stmt} {tc : TTZ ω} (hc : PTZ X W c tc) (ha : PBZ X W a t) (hb : PBZ X W b u) : PSZ X W (.If c a b pos) (zIf tc t u) := fun Z ex tk => psI (ps_if (hc.run Z ex tk) (ha Z ex tk) (hb Z ex tk)) fun D σ H ⟨Dz, hex, EI, G, M, δ, w, a, h⟩ => by
  subst hex
  exact ⟨G, M, δ, w, a, hc.mo (fun k w1 h1 H1 G1 M1 o1 => by
    cases k with
    | true => rw [if_pos rfl]; exact ⟨Dz, rfl, EI, G1, M1, δ, w1, a.go o1, h1.1 rfl⟩
    | false => rw [if_neg Bool.false_ne_true]; exact ⟨Dz, rfl, EI, G1, M1, δ, w1, a.go o1, h1.2 rfl⟩) h⟩
theorem z_while {c : Expr} {body : List Stmt} {tc : TTZ ω} (hc : PTZ X W c tc) (hb : PBZ X W body t) (hp : PassesOwn (model X.prog X.w) X.A X.env X.xe := by first | exact PassesOwn.leaving | exact PassesOwn.looking | exact PassesOwn.never | assumption) :
    PSZ X W (.While c body [] pos) (zWhile tc t) := fun Z ex tk => psI (ps_while hp (hc.run Z ex tk) (hb Z ex tk)) fun D σ H ⟨Dz, hex, EI, G, M, δ, w, a, I, ⟨m0, h0⟩, hs⟩ => by
  subst hex
  refine ⟨fun m => LS X.K W Z (I m), ⟨m0, G, M, δ, w, a, h0⟩, ?_⟩
  rintro m σ1 H1 ⟨G1, M1, δ1, w1, a1, h1⟩
  refine ⟨G1, M1, δ1, w1, a1, hc.mo (fun k w2 h2 H2 G2 M2 o2 => ?_) (hs m δ1 w1 h1)⟩
  cases k with
  | true =>
    rw [if_pos rfl]
    refine ⟨LS X.K W Z fun δ' w' => ∃ m', m' < m ∧ I m' δ' w', ?_, { Dz with nx := fun δ' w' => ∃ m', m' < m ∧ I m' δ' w', ct := fun δ' w' => ∃ m', m' < m ∧ I m' δ' w', bk := Dz.nx }, rfl, ⟨fun σ3 H3 h3 => h3, EI.nx, fun σ3 H3 h3 => h3, EI.rt⟩, G2, M2, δ1, w2, a1.go o2, h2.1 rfl⟩
    rintro σ3 H3 ⟨G3, M3, δ3, w3, a3, m', hm, h3⟩
    exact ⟨m', hm, G3, M3, δ3, w3, a3, h3⟩
  | false =>
    rw [if_neg Bool.false_ne_true]
    exact EI.nx _ _ ⟨G2, M2, δ1, w2, a1.go o2, h2.2 rfl⟩
end

/-! ### targets -/
abbrev TGZ := D → List Sl → (List Sl → Prop) → Prop
def gN (i : Nat) : TGZ := fun d δ k => k (δ.set i (.val d))
def setAll (δ : List Sl) : List Nat → List D → List Sl
  | i :: is, d :: ds => setAll (δ.set i (.val d)) is ds
  | _, _ => δ
def gU (is : List Nat) : TGZ := fun d δ k => match d with | .tup l => l.length = is.length ∧ k (setAll δ is l) | _ => False
structure GoG (K : PySem.W.Frag) (g : TG) (gz : TGZ) : Prop where
  mo : ∀ {d : D} {δ : List Sl} {k k' : List Sl → Prop}, (∀ δ', k δ' → k' δ') → gz d δ k → gz d δ k'
  go : ∀ {ω : Type} (W : Wp ω) (Z : Zx) (σ : L2.St) (H G M : Hp) (δ : List Sl) (w : ω) (v : V) (d : D) (q : List Sl → Prop) (Q : L2.St → Hp → Prop), SR K W Z σ H G M δ w → Rep K G v d → gz d δ q →
    (∀ σ' δ', q δ' → SR K W Z σ' H G M δ' w → Q σ' H) → g v σ H Q
structure PGZ (X : Cx) (tg : Expr) (g : TG) (gz : TGZ) : Prop where
  gg : GoG X.K g gz
  pg : PG X tg g
def gNs : List Nat → TGs
  | [] => gNil
  | i :: is => gCons (gName i) (gNs is)
theorem gNs_go {K : PySem.W.Frag} {W : Wp ω} {Z : Zx} {H G M : Hp} {w : ω} {Q : L2.St → Hp → Prop} : ∀ (is : List Nat) (vs : List V) (l : List D) (σ : L2.St) (δ : List Sl), SR K W Z σ H G M δ w → RepL K G vs l → l.length = is.length →
    (∀ σ', SR K W Z σ' H G M (setAll δ is l) w → Q σ' H) → gNs is vs σ H Q
  | [], _, _, σ, δ, a, r, hl, k => by
    cases r with
    | nil => exact ⟨rfl, k σ a⟩
    | cons _ _ => cases hl
  | i :: is, _, _, σ, δ, a, r, hl, k => by
    cases r with
    | nil => cases hl
    | cons r1 r2 =>
      exact ⟨_, _, rfl, gNs_go is _ _ _ _ (a.set r1) r2 (Nat.succ.inj hl) k⟩
theorem gg_name {K : PySem.W.Frag} (i : Nat) : GoG K (gName i) (gN i) := ⟨fun k h => k _ h, fun W Z σ H G M δ w v d q Q a r h k => k _ _ h (a.set r)⟩
theorem gg_tup {K : PySem.W.Frag} (is : List Nat) : GoG K (gTup K is.length (gNs is)) (gU is) := ⟨fun k h => by
  unfold gU at h ⊢
  split at h
  · exact ⟨h.1, k _ h.2⟩
  · exact h.elim, fun W Z σ H G M δ w v d q Q a r h k => by
  cases d with
  | tup l =>
    cases r with
    | tup s r =>
      exact ⟨_, _, rfl, sqTE a.pt.gh s, by rw [r.len]; exact h.1, gNs_go is _ _ _ _ a r h.1 fun σ' a' => k σ' _ h.2 a'⟩
  | _ => exact h.elim⟩
section
variable {X : Cx} {W : Wp ω} {pos : Pos} {e : Expr} {te : TEZ ω} {es : List Expr}
theorem g_name (i : Nat) {x : Str} (hN : X.N.Nodup) (hi : X.N[i]? = some x := by rfl) (hx : Loc X.env.scope x := by first | exact Or.inl rfl | exact Or.inr rfl) (hf : X.fn x = true ∨ X.env.scope.names.lookup x = some .local := by first | exact .inl rfl | exact .inr rfl) :
    PGZ X (.Name x pos) (gName i) (gN i) := ⟨gg_name i, pg_name hN hi hx hf⟩
theorem gs_nil : PGs X [] (gNs []) := pgs_nil
theorem gs_cons (i : Nat) {x : Str} {is : List Nat} (hN : X.N.Nodup) (h2 : PGs X es (gNs is)) (hi : X.N[i]? = some x := by rfl) (hx : Loc X.env.scope x := by first | exact Or.inl rfl | exact Or.inr rfl) (hf : X.fn x = true ∨ X.env.scope.names.lookup x = some .local := by first | exact .inl rfl | exact .inr rfl)
    (hs : (assignEach (.Name x pos :: es) X.env).map (·.2) = assign (.Name x pos) X.env :: (assignEach es X.env).map (·.2) := by rfl) : PGs X (.Name x pos :: es) (gNs (i :: is)) := pgs_cons (pg_name hN hi hx hf) h2 hs
theorem g_tup {k : Nat} {is : List Nat} (h : PGs X es (gNs is)) (hc : X.calm = true := by rfl) (hn : (assignEach es X.env).length = is.length := by rfl) (hst : (assignEach es X.env).findIdx? (·.1) = none := by rfl) :
    PGZ X (.Tuple es k pos) (gTup X.K is.length (gNs is)) (gU is) := ⟨gg_tup is, pg_tup hc h hn hst⟩
/-- target = value -/
def zAsgG (te : TEZ ω) (gz : TGZ) : TSZ ω := fun D δ w => te δ w (fun d w' => gz d δ fun δ' => D.nx δ' w') (fun e w' => D.ex e δ w')
theorem z_asg {tg : Expr} {g : TG} {gz : TGZ} (he : PEZ X W e te) (hg : PGZ X tg g gz) (hs : swapsWithSole [tg] e pos.line X.env = pure false := by rfl) (hw : swappedStores [tg] e X.env = pure none := by rfl)
    (h1 : (assignEach [tg] X.env).map (·.2) = [assign tg X.env] := by rfl) : PSZ X W (.Assign [tg] e pos) (zAsgG te gz) := fun Z ex tk => psI (ps_asg (he.run Z ex tk) hg.pg hs hw h1) fun D σ H ⟨Dz, hex, EI, G, M, δ, w, a, h⟩ => by
  subst hex
  exact ⟨G, M, δ, w, a, he.mo (fun d w1 h1 v H1 G1 M1 o1 r1 => hg.gg.go W Z σ H1 G1 M1 δ w1 v d _ _ (a.go o1) r1 h1 fun σ' δ' q a' => EI.nx _ _ ⟨G1, M1, δ', w1, a', q⟩) h⟩
/-- a, b = x, y -/
def zPar (i j : Nat) (ta : TAZ ω) : TSZ ω := fun D δ w => ta δ w (fun l w' => match l with | [x, y] => D.nx ((δ.set i (.val x)).set j (.val y)) w' | _ => False) (fun e w' => D.ex e δ w')
theorem z_par (i j : Nat) {x y : Str} {a b : Expr} {ta : TAZ ω} {px py pt : Pos} {kt k2 : Nat} {pt2 : Pos} (hN : X.N.Nodup) (ha : PAZ X W [a, b] ta) (hc : X.calm = true := by rfl) (hi : X.N[i]? = some x := by rfl) (hj : X.N[j]? = some y := by rfl) (hij : i ≠ j := by decide)
    (hx : X.env.scope.names.lookup x = some .local := by rfl) (hy : X.env.scope.names.lookup y = some .local := by rfl)
    (hw : swappedStores [.Tuple [.Name x px, .Name y py] kt pt] (.Tuple [a, b] k2 pt2) X.env = pure (some [x, y]) := by rfl)
    (hs : swapsWithSole [.Tuple [.Name x px, .Name y py] kt pt] (.Tuple [a, b] k2 pt2) pos.line X.env = pure false := by rfl) :
    PSZ X W (.Assign [.Tuple [.Name x px, .Name y py] kt pt] (.Tuple [a, b] k2 pt2) pos) (zPar i j ta) := fun Z ex tk => psI (ps_par hc hN hi hj hij hx hy (ha.run Z ex tk) hw hs) fun D σ H ⟨Dz, hex, EI, G, M, δ, w, a, h⟩ => by
  subst hex
  refine ⟨G, M, δ, w, a, ha.mo (fun l w1 h1 vs H1 G1 M1 o1 r1 => ?_) h⟩
  have a1 := a.go o1
  split at h1
  · cases r1 with
    | cons r1 r2 =>
      cases r2 with
      | cons r2 r3 =>
        cases r3
        exact ⟨_, _, rfl, EI.nx _ _ ⟨G1, M1, _, w1, (a1.set r1).set r2, h1⟩⟩
  · exact h1.elim
end

/-! ### for -/
def liB (K : PySem.W.Frag) (W : Wp ω) (Z : Zx) (ex : Nat → List Sl → ω → Prop) (ts : TSZ ω) : TS := fun D σ H => ∃ S, Ext Z.S S ∧ liS K W ⟨Z.H0, Z.G0, Z.M0, S⟩ ex ts D σ H
theorem tkLe {X : Cx} {W : Wp ω} {Z : Zx} {ex : Nat → List Sl → ω → Prop} {S : Hp} (tk : Takes X (WXz X.K W Z ex)) (hS : Ext Z.S S) : Takes X (WXz X.K W ⟨Z.H0, Z.G0, Z.M0, S⟩ ex) :=
  tk.imp fun c d σ H ⟨h1, e, h2, G, M, δ, w, a, h3⟩ => ⟨h1, e, h2, G, M, δ, w, a.le hS, h3⟩
theorem zB_run {X : Cx} {W : Wp ω} {sts : List Stmt} {t : TSZ ω} (h : PBZ X W sts t) (Z : Zx) (ex : Nat → List Sl → ω → Prop) (tk : Takes X (WXz X.K W Z ex)) : PSs X sts (liB X.K W Z ex t) :=
  ⟨fun pins s σ H D I ⟨S, hS, q⟩ => (h ⟨Z.H0, Z.G0, Z.M0, S⟩ ex (tkLe tk hS)).run pins s σ H D I q⟩
theorem EndI.loop {K : PySem.W.Frag} {W : Wp ω} {Z : Zx} {S : Hp} {Dz : EndZ ω} {D : Ends} (EI : EndI K W Z Dz D) (hS : Ext Z.S S) {I : List Sl → ω → Prop} {Pv : L2.St → Hp → Prop} (h : ∀ σ H, LS K W ⟨Z.H0, Z.G0, Z.M0, S⟩ I σ H → Pv σ H) :
    EndI K W ⟨Z.H0, Z.G0, Z.M0, S⟩ { Dz with nx := I, ct := I, bk := Dz.nx } { D with nx := Pv, ct := Pv, bk := D.nx } :=
  ⟨h, fun σ H ⟨G, M, δ, w, a, q⟩ => EI.nx σ H ⟨G, M, δ, w, a.le hS, q⟩, h, EI.rt⟩
/-- a loop over given data -/
def zLoop (l : List D) (gz : TGZ) (t : TSZ ω) : TSZ ω := fun D δ w => ∃ I : Nat → List Sl → ω → Prop, I 0 δ w ∧ (∀ i d δ' w', l[i]? = some d → I i δ' w' → gz d δ' fun δ2 => t { D with nx := I (i + 1), ct := I (i + 1), bk := D.nx } δ2 w') ∧ ∀ δ' w', I l.length δ' w' → D.nx δ' w'
def zForL (te : TEZ ω) (gz : TGZ) (t : TSZ ω) : TSZ ω := fun D δ w => te δ w (fun d w1 => match d with | .lst l => zLoop l gz t D δ w1 | .arr l => zLoop l gz t D δ w1 | _ => False) (fun e w' => D.ex e δ w')
def zForT (te : TEZ ω) (gz : TGZ) (t : TSZ ω) : TSZ ω := fun D δ w => te δ w (fun d w1 => match d with | .tup l => zLoop l gz t D δ w1 | _ => False) (fun e w' => D.ex e δ w')
def zLoopR (lo : Int) (n : Nat) (j : Nat) (t : TSZ ω) : TSZ ω := fun D δ w => ∃ I : Nat → List Sl → ω → Prop, I 0 δ w ∧ (∀ (i : Nat) δ' w', i < n → I i δ' w' → t { D with nx := I (i + 1), ct := I (i + 1), bk := D.nx } (δ'.set j (.val (.int (lo + i)))) w') ∧ ∀ δ' w', I n δ' w' → D.nx δ' w'
def zForR1 (ta : TAZ ω) (j : Nat) (t : TSZ ω) : TSZ ω := fun D δ w => ta δ w (fun l w1 => match l with | [.int n] => zLoopR 0 n.toNat j t D δ w1 | _ => False) (fun e w' => D.ex e δ w')
def zForR2 (ta : TAZ ω) (j : Nat) (t : TSZ ω) : TSZ ω := fun D δ w => ta δ w (fun l w1 => match l with | [.int m, .int n] => zLoopR m (n - m).toNat j t D δ w1 | _ => False) (fun e w' => D.ex e δ w')
section
variable {X : Cx} {W : Wp ω} {pos : Pos} {e : Expr} {te : TEZ ω} {es : List Expr} {tg : Expr} {g : TG} {gz : TGZ} {body : List Stmt} {t : TSZ ω}
theorem z_forL (he : PEZ X W e te) (hg : PGZ X tg g gz) (hb : PBZ X W body t) (hp : PassesOwn (model X.prog X.w) X.A X.env X.xe := by first | exact PassesOwn.leaving | exact PassesOwn.looking | exact PassesOwn.never | assumption) (hc : X.calm = true := by rfl)
    (hs : ∀ x, foldedSetIterable e X.env x = pure x := by intro _; rfl) : PSZ X W (.For tg e body [] pos) (zForL te gz t) := fun Z ex tk => psI (ps_for hp hc (pi_list (he.run Z ex tk)) hg.pg (zB_run hb Z ex tk) hs) fun DE σ H ⟨Dz, hex, EI, G, M, δ, w, a, h⟩ => by
  subst hex
  have key : ∀ {p : Addr} {vs : List V} {l : List D} {G1 M1 H1 : Hp} {w1 : ω}, SR X.K W Z σ H1 G1 M1 δ w1 → SqL X.K G1 p vs → RepL X.K G1 vs l → zLoop l gz t Dz δ w1 → ∃ a, V.ref p = .ref a ∧ (∃ xs, SqL X.K H1 a xs) ∧ (∃ W' : Nat → Nat → L2.St → Hp → Prop, (∃ m, W' 0 m σ H1) ∧ ∀ i m σ H, W' i m σ H →
      ((Itl X.K a).stop i H ∧ DE.nx σ H) ∨ ((Itl X.K a).go i H ∧ ∃ N : L2.St → Hp → Prop, (∀ σ' H', N σ' H' → ∃ m', m' < m ∧ W' (i + 1) m' σ' H') ∧ ∀ x H', (Itl X.K a).yld i H x H' → g x σ H' fun σ2 H2 => liB X.K W Z Dz.ex t { DE with nx := N, ct := N, bk := DE.nx } σ2 H2)) := by
    intro p vs l G1 M1 H1 w1 a1 hs r1 h1
    refine ⟨p, rfl, ⟨vs, sqLE a1.pt.gh hs⟩, ?_⟩
    obtain ⟨I, i0, is, id⟩ := h1
    have hl := r1.len
    refine for_list (K := X.K) (a := p) (xs := vs) (fun i => LS X.K W ⟨Z.H0, Z.G0, Z.M0, G1⟩ (I i)) ⟨G1, M1, δ, w1, a1.more, i0⟩ ?_ ?_ ?_
    · rintro i σ2 H2 _ ⟨G2, M2, δ2, w2, a2, _⟩
      exact sqLE (a2.st.tr a2.pt.gh) hs
    · rintro i x σ2 H2 hx ⟨G2, M2, δ2, w2, a2, q2⟩
      obtain ⟨d, hd, rd⟩ := r1.getV hx
      refine hg.gg.go W _ σ2 H2 G2 M2 δ2 w2 x d _ _ a2 (rd.up a2.st) (is i d δ2 w2 hd q2) fun σ3 δ3 q3 a3 => ?_
      exact ⟨G1, a1.st, { Dz with nx := I (i + 1), ct := I (i + 1), bk := Dz.nx }, rfl, EI.loop a1.st (fun _ _ h => h), G2, M2, δ3, w2, a3, q3⟩
    · rintro σ2 H2 ⟨G2, M2, δ2, w2, a2, q2⟩
      rw [hl] at q2
      exact EI.nx _ _ ⟨G2, M2, δ2, w2, a2.le a1.st, id δ2 w2 q2⟩
  refine ⟨G, M, δ, w, a, he.mo (fun d w1 h1 v H1 G1 M1 o1 r1 => ?_) h⟩
  have a1 := a.go o1
  cases d with
  | lst l =>
    cases r1 with
    | lst s r => exact key a1 (.inl (.inl s)) r h1
  | arr l =>
    cases r1 with
    | arr s r => exact key a1 s r h1
  | _ => exact False.elim h1
theorem z_forT (he : PEZ X W e te) (hg : PGZ X tg g gz) (hb : PBZ X W body t) (hp : PassesOwn (model X.prog X.w) X.A X.env X.xe := by first | exact PassesOwn.leaving | exact PassesOwn.looking | exact PassesOwn.never | assumption) (hc : X.calm = true := by rfl)
    (hs : ∀ x, foldedSetIterable e X.env x = pure x := by intro _; rfl) : PSZ X W (.For tg e body [] pos) (zForT te gz t) := fun Z ex tk => psI (ps_for hp hc (pi_tup (he.run Z ex tk)) hg.pg (zB_run hb Z ex tk) hs) fun DE σ H ⟨Dz, hex, EI, G, M, δ, w, a, h⟩ => by
  subst hex
  refine ⟨G, M, δ, w, a, he.mo (fun d w1 h1 v H1 G1 M1 o1 r1 => ?_) h⟩
  have a1 := a.go o1
  cases d with
  | tup l =>
    cases r1 with
    | @tup p vs _ hs r1 =>
      refine ⟨p, rfl, ⟨vs, sqTE a1.pt.gh hs⟩, ?_⟩
      obtain ⟨I, i0, is, id⟩ := h1
      have hl := r1.len
      refine for_tup (K := X.K) (a := p) (xs := vs) (fun i => LS X.K W ⟨Z.H0, Z.G0, Z.M0, G1⟩ (I i)) ⟨G1, M1, δ, w1, a1.more, i0⟩ ?_ ?_ ?_
      · rintro i σ2 H2 _ ⟨G2, M2, δ2, w2, a2, _⟩
        exact sqTE (a2.st.tr a2.pt.gh) hs
      · rintro i x σ2 H2 hx ⟨G2, M2, δ2, w2, a2, q2⟩
        obtain ⟨d, hd, rd⟩ := r1.getV hx
        refine hg.gg.go W _ σ2 H2 G2 M2 δ2 w2 x d _ _ a2 (rd.up a2.st) (is i d δ2 w2 hd q2) fun σ3 δ3 q3 a3 => ?_
        exact ⟨G1, a1.st, { Dz with nx := I (i + 1), ct := I (i + 1), bk := Dz.nx }, rfl, EI.loop a1.st (fun _ _ h => h), G2, M2, δ3, w2, a3, q3⟩
      · rintro σ2 H2 ⟨G2, M2, δ2, w2, a2, q2⟩
        rw [hl] at q2
        exact EI.nx _ _ ⟨G2, M2, δ2, w2, a2.le a1.st, id δ2 w2 q2⟩
  | _ => exact False.elim h1
theorem loop_range {Z : Zx} {Dz : EndZ ω} {DE : Ends} {σ : L2.St} {H G M : Hp} {δ : List Sl} {w : ω} {lo : Int} {n j : Nat} (EI : EndI X.K W Z Dz DE) (a : SR X.K W Z σ H G M δ w) (h : zLoopR lo n j t Dz δ w) :
    ∃ W' : Nat → Nat → L2.St → Hp → Prop, (∃ m, W' 0 m σ H) ∧ ∀ i m σ H, W' i m σ H →
      ((Itr lo n).stop i H ∧ DE.nx σ H) ∨ ((Itr lo n).go i H ∧ ∃ N : L2.St → Hp → Prop, (∀ σ' H', N σ' H' → ∃ m', m' < m ∧ W' (i + 1) m' σ' H') ∧ ∀ x H', (Itr lo n).yld i H x H' → gName j x σ H' fun σ2 H2 => liB X.K W Z Dz.ex t { DE with nx := N, ct := N, bk := DE.nx } σ2 H2) := by
  obtain ⟨I, i0, is, id⟩ := h
  refine for_range (fun i => LS X.K W ⟨Z.H0, Z.G0, Z.M0, G⟩ (I i)) ⟨G, M, δ, w, a.more, i0⟩ ?_ ?_
  · rintro i σ2 H2 hx ⟨G2, M2, δ2, w2, a2, q2⟩
    exact ⟨G, a.st, { Dz with nx := I (i + 1), ct := I (i + 1), bk := Dz.nx }, rfl, EI.loop a.st (fun _ _ h => h), G2, M2, _, w2, a2.set (.int _), is i δ2 w2 hx q2⟩
  · rintro σ2 H2 ⟨G2, M2, δ2, w2, a2, q2⟩
    exact EI.nx _ _ ⟨G2, M2, δ2, w2, a2.le a.st, id δ2 w2 q2⟩
theorem z_forR1 (j : Nat) {x : Str} {ea : Expr} {ta : TAZ ω} {px p : Pos} {pc : Pos} (hm : X.mg "range" = none) (ha : PAZ X W [ea] ta) (hb : PBZ X W body t) (hN : X.N.Nodup) (hi : X.N[j]? = some x := by rfl) (hx : Loc X.env.scope x := by first | exact Or.inl rfl | exact Or.inr rfl)
    (hf : X.fn x = true ∨ X.env.scope.names.lookup x = some .local := by first | exact .inl rfl | exact .inr rfl) (hgl : Gl X "range" := by rfl) (hp : PassesOwn (model X.prog X.w) X.A X.env X.xe := by first | exact PassesOwn.leaving | exact PassesOwn.looking | exact PassesOwn.never | assumption) (hc : X.calm = true := by rfl)
    (hse : starEach [ea] X.env = [(false, eval ea X.env)] := by rfl) (hs : ∀ x, foldedSetIterable (.Call (.Name "range" p) [ea] [] pc) X.env x = pure x := by intro _; rfl) : PSZ X W (.For (.Name x px) (.Call (.Name "range" p) [ea] [] pc) body [] pos) (zForR1 ta j t) := fun Z ex tk =>
  psI (ps_for hp hc (pi_rgB1 hgl hm (ha.run Z ex tk) hse) (pg_name hN hi hx hf) (zB_run hb Z ex tk) hs) fun DE σ H ⟨Dz, hex, EI, G, M, δ, w, a, h⟩ => by
  subst hex
  refine ⟨G, M, δ, w, a, ha.mo (fun l w1 h1 vs H1 G1 M1 o1 r1 => ?_) h⟩
  have a1 := a.go o1
  split at h1
  · rename_i n
    cases r1 with
    | cons r1 r2 =>
      cases r1
      cases r2
      exact ⟨n, rfl, loop_range EI a1 h1⟩
  · exact h1.elim
theorem z_forR2 (j : Nat) {x : Str} {ea eb : Expr} {ta : TAZ ω} {px p : Pos} {pc : Pos} (hm : X.mg "range" = none) (ha : PAZ X W [ea, eb] ta) (hb : PBZ X W body t) (hN : X.N.Nodup) (hi : X.N[j]? = some x := by rfl) (hx : Loc X.env.scope x := by first | exact Or.inl rfl | exact Or.inr rfl)
    (hf : X.fn x = true ∨ X.env.scope.names.lookup x = some .local := by first | exact .inl rfl | exact .inr rfl) (hgl : Gl X "range" := by rfl) (hp : PassesOwn (model X.prog X.w) X.A X.env X.xe := by first | exact PassesOwn.leaving | exact PassesOwn.looking | exact PassesOwn.never | assumption) (hc : X.calm = true := by rfl)
    (hse : starEach [ea, eb] X.env = [(false, eval ea X.env), (false, eval eb X.env)] := by rfl) (hse2 : starEach [eb] X.env = [(false, eval eb X.env)] := by rfl) (hs : ∀ x, foldedSetIterable (.Call (.Name "range" p) [ea, eb] [] pc) X.env x = pure x := by intro _; rfl) : PSZ X W (.For (.Name x px) (.Call (.Name "range" p) [ea, eb] [] pc) body [] pos) (zForR2 ta j t) := fun Z ex tk =>
  psI (ps_for hp hc (pi_rgB2 hgl hm (ha.run Z ex tk) hse hse2) (pg_name hN hi hx hf) (zB_run hb Z ex tk) hs) fun DE σ H ⟨Dz, hex, EI, G, M, δ, w, a, h⟩ => by
  subst hex
  refine ⟨G, M, δ, w, a, ha.mo (fun l w1 h1 vs H1 G1 M1 o1 r1 => ?_) h⟩
  have a1 := a.go o1
  split at h1
  · rename_i m n
    cases r1 with
    | cons r1 r2 =>
      cases r1
      cases r2 with
      | cons r2 r3 =>
        cases r2
        cases r3
        exact ⟨m, n, rfl, loop_range EI a1 h1⟩
  · exact h1.elim
end
end Z

namespace Z
open PySem PySem.Spec PyProof.Rows L2
variable {ω : Type}

/-! ### defs: what they promise -/
def MoS (sp : SpZ ω) : Prop := ∀ {ds : List D} {w : ω} {Q Q' : D → ω → Prop} {E E' : Nat → ω → Prop}, (∀ d w', Q d w' → Q' d w') → (∀ e w', E e w' → E' e w') → sp ds w Q E → sp ds w Q' E'
def spz (K : PySem.W.Frag) (W : Wp ω) (sp : SpZ ω) : Sp := fun vs H Q E => ∃ G M ds w, Pt W H G M w ∧ RepL K G vs ds ∧ sp ds w (fun d w' => ∀ v H' G' M', Pt W H' G' M' w' → Nx H G M H' G' M' → Rep K G' v d → Q v H')
  (fun e w' => ∀ H' G' M', Pt W H' G' M' w' → Nx H G M H' G' M' → E (.ref (W.ec e)) none H')
structure Fd (P : Program) (w : World) (K : PySem.W.Frag) (mg : Str → Option Value) (base : Heap) (W : Wp ω) (k : Nat) (x : Str) (sp : SpZ ω) : Prop where
  mo : MoS sp
  ex : ∃ f fd ps, FnOk P w K mg base (L2.CX P w) k f fd ps (spz K W sp) ∧ mg x = some (.ref f) ∧ PySem.W.keepIn K (.ref f) = true ∧ Binds K fd ps []
/-- no world -/
def W0 (ec : Nat → Addr) : Wp Unit := ⟨fun _ _ M => ∀ p, M p = none, fun _ h => h, ec⟩
def zCall (sp : SpZ ω) (ta : TAZ ω) : TEZ ω := fun δ w Q E => ta δ w (fun ds w1 => sp ds w1 Q E) E
def zCallP (sp : SpZ Unit) (ta : TAZ ω) : TEZ ω := fun δ w Q E => ta δ w (fun ds w1 => sp ds () (fun d _ => Q d w1) (fun e _ => E e w1)) E
section
variable {X : Cx} {W : Wp ω} {pos p : Pos} {x : Str} {e : Expr} {es : List Expr} {ta : TAZ ω} {k j : Nat}
theorem Pt.pure {W : Wp ω} {ec : Nat → Addr} {H G M H' G' M' : Hp} {w : ω} (a : Pt W H G M w) (b : Pt (W0 ec) H' G' M' ()) (c : Nx H G (fun _ => none) H' G' M') : Pt W H' G' M w ∧ Nx H G M H' G' M := by
  have up : ∀ q z, H q = some z → H' q = some z := fun q z h => c.fr q z h rfl
  refine ⟨⟨b.gh, fun q z h => up q z (a.mh q z h), fun q z h => ?_, W.mono c.gg a.wd⟩, ⟨c.gg, fun q z h _ => up q z h, c.gn, fun q z h g => (by rw [h] at g; cases g), fun q z h => ⟨z, h⟩⟩⟩
  cases r : G q with
  | some y => exact a.dj q y r
  | none => exact a.mh.none' (c.gn q z h r)
theorem z_call {sp : SpZ ω} (d : Fd X.prog X.w X.K X.mg X.base W k x sp) (hr : Room j X.A) (ha : PAZ X W (e :: es) ta) (hj : k ≤ j := by decide) (hg : Gl X x := by rfl) (hdb : (x == ("__debug__" : Str)) = false := by decide)
    (he : starEach (e :: es) X.env = (false, eval e X.env) :: starEach es X.env := by rfl) (hpl : (backTo pos (starEach es X.env)).any (·.1) = false := by rfl) : PEZ X W (.Call (.Name x p) (e :: es) [] pos) (zCall sp ta) :=
  ⟨fun k h => ha.mo (fun _ _ h1 => d.mo k (fun _ _ q => q) h1) h, fun Z ex tk => by
    obtain ⟨f, fd, ps, F, hm, hk, hb⟩ := d.ex
    refine peI (pe_callS F (hr.mono hj) hg hm hk hb (fun σ => passAt tk σ) (ha.run Z ex tk) hdb he hpl) fun σ H Q ⟨G, M, δ, w, a, h⟩ => ?_
    refine ⟨G, M, δ, w, a, ha.mo (fun ds w1 h1 vs H1 G1 M1 o1 r1 => ⟨G1, M1, ds, w1, o1.pt, r1, d.mo (fun d2 w2 q2 v H2 G2 M2 b2 c2 r2 => q2 v H2 G2 M2 (o1.tr ⟨b2, c2⟩) r2) (fun e2 w2 q2 H2 G2 M2 b2 c2 => ?_) h1⟩) h⟩
    exact ⟨rfl, e2, rfl, G2, M2, δ, w2, (a.go o1).next b2 c2, q2⟩⟩
theorem z_callP {sp : SpZ Unit} (d : Fd X.prog X.w X.K X.mg X.base (W0 W.ec) k x sp) (hr : Room j X.A) (ha : PAZ X W (e :: es) ta) (hj : k ≤ j := by decide) (hg : Gl X x := by rfl) (hdb : (x == ("__debug__" : Str)) = false := by decide)
    (he : starEach (e :: es) X.env = (false, eval e X.env) :: starEach es X.env := by rfl) (hpl : (backTo pos (starEach es X.env)).any (·.1) = false := by rfl) : PEZ X W (.Call (.Name x p) (e :: es) [] pos) (zCallP sp ta) :=
  ⟨fun k h => ha.mo (fun _ _ h1 => d.mo (fun d _ q => k d _ q) (fun _ _ q => q) h1) h, fun Z ex tk => by
    obtain ⟨f, fd, ps, F, hm, hk, hb⟩ := d.ex
    refine peI (pe_callS F (hr.mono hj) hg hm hk hb (fun σ => passAt tk σ) (ha.run Z ex tk) hdb he hpl) fun σ H Q ⟨G, M, δ, w, a, h⟩ => ?_
    refine ⟨G, M, δ, w, a, ha.mo (fun ds w1 h1 vs H1 G1 M1 o1 r1 => ?_) h⟩
    refine ⟨G1, fun _ => none, ds, (), ⟨o1.pt.gh, fun _ _ z => (nomatch z), fun _ _ _ => rfl, fun _ => rfl⟩, r1, d.mo (fun d2 _ q2 v H2 G2 M2 b2 c2 r2 => ?_) (fun e2 _ q2 H2 G2 M2 b2 c2 => ?_) h1⟩
    · obtain ⟨b, c⟩ := o1.pt.pure b2 c2
      exact q2 v H2 G2 M1 (o1.tr ⟨b, c⟩) r2
    · obtain ⟨b, c⟩ := o1.pt.pure b2 c2
      exact ⟨rfl, e2, rfl, G2, M1, δ, w1, (a.go o1).next b c, q2⟩⟩
end
/-- the slots at a def's entry -/
def stZ (n : Nat) (ds : List D) : List Sl := ds.map .val ++ List.replicate (n - ds.length) .no
def endZ (Q : D → ω → Prop) (E : Nat → ω → Prop) : EndZ ω := ⟨fun _ w => Q .non w, Q, fun _ _ => False, fun _ _ => False, fun e _ w => E e w⟩
section
variable {P : Program} {w : World} {K : PySem.W.Frag} {mg : Str → Option Value} {base : Heap} {W : Wp ω}
theorem sr_start {Z : Zx} {N : List Str} {vs : List V} {ds : List D} {H G M : Hp} {w : ω} (pt : Pt W H G M w) (r : RepL K G vs ds) : SR K W ⟨H, G, M, fun _ => none⟩ (L2.start N vs) H G M (stZ N.length ds) w := by
  have hl := r.len
  refine ⟨pt, .rfl', fun _ _ z => (nomatch z), ?_, fun i s e => ?_, fun i j p l l' e1 e2 e3 e4 => ?_⟩
  · unfold stZ L2.start
    rw [List.length_append, List.length_append, List.length_map, List.length_map, List.length_replicate, List.length_replicate, hl]
  · unfold stZ at e
    by_cases hi : i < ds.length
    · rw [List.getElem?_append_left (by simpa using hi), List.getElem?_map] at e
      cases q : ds[i]? with
      | none => rw [q] at e; cases e
      | some d =>
        rw [q] at e
        cases e
        obtain ⟨v, h1, h2⟩ := r.get q
        refine ⟨v, ?_, h2⟩
        unfold L2.start
        rw [List.getElem?_append_left (by simpa [hl] using hi), List.getElem?_map, h1]
        rfl
    · rw [List.getElem?_append_right (by simpa using Nat.le_of_not_lt hi), List.getElem?_replicate] at e
      split at e
      · cases e; trivial
      · cases e
  · exfalso
    unfold stZ at e1
    by_cases hi : i < ds.length
    · rw [List.getElem?_append_left (by simpa using hi), List.getElem?_map] at e1
      cases q : ds[i]? with
      | none => rw [q] at e1; cases e1
      | some d => rw [q] at e1; cases e1
    · rw [List.getElem?_append_right (by simpa using Nat.le_of_not_lt hi), List.getElem?_replicate] at e1
      split at e1 <;> cases e1
theorem fnzOk {x qual : Str} {st : Stmt} {f : Addr} {fd : FuncData} {N ps : List Str} {k : Nat} {sp : SpZ ω} {tz : TSZ ω} (F : Fun K x qual st f fd) (S : FnScope N ps (defScope st))
    (len : ∀ {ds : List D} {w' : ω} {Q : D → ω → Prop} {E : Nat → ω → Prop}, sp ds w' Q E → ds.length = ps.length)
    (der : ∀ (cdv : Value) (A : Around) (outer : List Env) (s : Shared) (H : Hp) (E : XK), Room k (A.deeper (envOfC qual (defScope st) s.heap.objs.size f cdv)) →
      PBZ (cxOf (L2.CX P w) P w K mg base N qual (defScope st) f cdv A outer s H E) W (defBody st) tz)
    (go : ∀ (ds : List D) (w' : ω) (Q : D → ω → Prop) (E : Nat → ω → Prop), sp ds w' Q E → tz (endZ Q E) (stZ N.length ds) w') : FnOk P w K mg base (L2.CX P w) (k + 1) f fd ps (spz K W sp) := by
  refine F.okX S (fun vs H Q E h => ?_) (fun cdv A outer s H vs Q E hr h => ?_)
  · obtain ⟨G, M, ds, w', _, r, h⟩ := h
    rw [r.len]
    exact len h
  · obtain ⟨G, M, ds, w', pt, r, h⟩ := h
    refine ⟨_, der cdv A outer s H E hr ⟨H, G, M, fun _ => none⟩ (fun e _ w2 => ∀ H' G' M', Pt W H' G' M' w2 → Nx H G M H' G' M' → E (.ref (W.ec e)) none H') ?_, ?_⟩
    · refine (takes_of rfl rfl rfl rfl).imp fun c d σ H' ⟨h1, e, h2, G', M', δ, w2, a, h3⟩ => ?_
      subst h1 h2
      exact h3 H' G' M' a.pt a.nx
    · exact ⟨endZ (fun d w2 => ∀ v H' G' M', Pt W H' G' M' w2 → Nx H G M H' G' M' → Rep K G' v d → Q v H') _, rfl, ⟨fun σ H' ⟨G', M', δ, w2, a, q⟩ => q .non H' G' M' a.pt a.nx .non, fun _ _ ⟨_, _, _, _, _, q⟩ => q.elim, fun _ _ ⟨_, _, _, _, _, q⟩ => q.elim, fun v H' G' M' d w2 b c rv q => q v H' G' M' b c rv⟩,
        G, M, _, w', sr_start (Z := ⟨H, G, M, fun _ => none⟩) pt r, go ds w' _ _ h⟩
/-- THE RULE for a def -/
theorem fnz {x qual : Str} {st : Stmt} {f : Addr} {fd : FuncData} {N ps : List Str} {k : Nat} {sp : SpZ ω} {tz : TSZ ω} (F : Fun K x qual st f fd) (S : FnScope N ps (defScope st)) (hm : mg x = some (.ref f)) (hb : Binds K fd ps []) (mo : MoS sp)
    (len : ∀ {ds : List D} {w' : ω} {Q : D → ω → Prop} {E : Nat → ω → Prop}, sp ds w' Q E → ds.length = ps.length)
    (der : ∀ (cdv : Value) (A : Around) (outer : List Env) (s : Shared) (H : Hp) (E : XK), Room k (A.deeper (envOfC qual (defScope st) s.heap.objs.size f cdv)) →
      PBZ (cxOf (L2.CX P w) P w K mg base N qual (defScope st) f cdv A outer s H E) W (defBody st) tz)
    (go : ∀ (ds : List D) (w' : ω) (Q : D → ω → Prop) (E : Nat → ω → Prop), sp ds w' Q E → tz (endZ Q E) (stZ N.length ds) w') : Fd P w K mg base W (k + 1) x sp :=
  ⟨mo, f, fd, ps, fnzOk F S len der go, hm, F.kp, hb⟩
end

/-! ### the law's own def -/
/-- what `law` promises, from the world that is none yet -/
def spLaw {ω : Type} (w0 : ω) : SpZ ω := fun ds w Q _ => w = w0 ∧ ∃ ns : List Int, ds = [.arr (ns.map D.int)] ∧ ns.length ≤ 63 ∧ (∀ z ∈ ns, Builtin.Int.intBits z ≤ 1048576) ∧ ∀ w', Q (.bl true) w'
def spLawV (K : PySem.W.Frag) : Sp := fun vs H Q _ => ∃ (a : Addr) (ns : List Int), vs = [.ref a] ∧ SqL K H a (ns.map V.int) ∧ ns.length ≤ 63 ∧ (∀ z ∈ ns, Builtin.Int.intBits z ≤ 1048576) ∧ ∀ H', Q (.bl true) H'
def ecOf (l : List (Nat × Addr)) (n : Nat) : Addr := (l.lookup n).getD 0
theorem law_imp {ω : Type} {P : Program} {w : World} {K : PySem.W.Frag} {mg : Str → Option Value} {base : Heap} {W : Wp ω} {f : Addr} {fd : FuncData} {x : Str} {k : Nat} (w0 : ω) (F : FnOk P w K mg base (L2.CX P w) k f fd [x] (spz K W (spLaw w0)))
    (h0 : ∀ G : Hp, W.ok w0 G fun _ => none) : FnOk P w K mg base (L2.CX P w) k f fd [x] (spLawV K) :=
  F.imp fun vs H Q E ⟨a, ns, e, hs, hl, hb, q⟩ => ⟨H, fun _ => none, [.arr (ns.map D.int)], w0, ⟨.rfl', fun _ _ z => (nomatch z), fun _ _ _ => rfl, h0 H⟩, by rw [e]; exact .cons (.arr hs (RepL.ofInts ns)) .nil, rfl, ns, rfl, hl, hb, fun w' v H' G' M' _ _ r => by
    cases r
    exact q H'⟩
theorem cx_none {P : Program} {w : World} {H : Hp} {s : Shared} {e : Value} {s' : Shared} (h : L2.CX P w [] H s (fun _ _ _ => False) e s') : False := by
  obtain ⟨_, _, _, _, _, _, _, _, _, _, _, _, z⟩ := h
  exact z

/-! ### raise -/
/-- what the top says of an own error class -/
structure ErrT (K : PySem.W.Frag) (mg : Str → Option Value) (C : Addr) (x : Str) : Prop where
  xF : PySem.W.excIn K C [.type "ValueError", .type "Exception", .type "BaseException", .type "object"] "ValueError.__new__" = true
  gF : mg x = some (.ref C)
  kF : PySem.W.keepIn K (.ref C) = true
  bF : PySem.W.subIn K (.ref C) (.type "BaseException") = some true
  tF : PySem.W.typeIn K (.ref C) = some (.type "type")
theorem z_raise {X : Cx} {W : Wp ω} {pos p p2 pos2 : Pos} {x m : Str} {j : Nat} {c : Nat} (T : ErrT X.K X.mg (W.ec c) x) (hc : X.calm = true := by rfl) (hg : Gl X x := by rfl) (hdb : (x == ("__debug__" : Str)) = false := by decide) :
    PSZ X W (.Raise (some (.Call (.Name x p) [.Constant (.str m) j p2] [] pos2)) none pos) (zRaise c) := fun Z ex tk =>
  psI (ps_raise hc tk (pmk_own PySem.F.excBase_ValueError T.xF T.gF T.kF (raises_own T.bF T.tF) hg hdb)) fun DE σ H ⟨Dz, hex, EI, G, M, δ, w, a, h⟩ => by
  subst hex
  exact ⟨rfl, c, rfl, G, M, δ, w, a, h⟩
end Z

namespace Z
open PySem PySem.Spec PyProof.Rows L2
variable {ω : Type}

/-! ### sizes of numbers -/
def Sm (n : Nat) (i : Int) : Prop := i.natAbs < 2 ^ n
theorem Sm.le {n m : Nat} {i : Int} (h : Sm n i) (l : n ≤ m) : Sm m i := Nat.lt_of_lt_of_le h (Nat.pow_le_pow_right (by decide) l)
theorem two_pos (n : Nat) : 0 < 2 ^ n := Nat.pos_of_ne_zero (by simp)
theorem Sm.add {n m : Nat} {i j : Int} (h : Sm n i) (g : Sm m j) : Sm (max n m + 1) (i + j) := by
  have h1 := Sm.le h (Nat.le_max_left n m)
  have h2 := Sm.le g (Nat.le_max_right n m)
  unfold Sm at *
  rw [Nat.pow_succ]
  omega
theorem Sm.neg {n : Nat} {i : Int} (h : Sm n i) : Sm n (-i) := by unfold Sm at *; omega
theorem Sm.sub {n m : Nat} {i j : Int} (h : Sm n i) (g : Sm m j) : Sm (max n m + 1) (i - j) := by
  have h1 := Sm.le h (Nat.le_max_left n m)
  have h2 := Sm.le g (Nat.le_max_right n m)
  unfold Sm at *
  rw [Nat.pow_succ]
  omega
theorem Sm.mul {n m : Nat} {i j : Int} (h : Sm n i) (g : Sm m j) : Sm (n + m) (i * j) := wide_lt h g
theorem Sm.of_le {n : Nat} {i j : Int} (h : Sm n j) (h0 : 0 ≤ i) (l : i ≤ j) : Sm n i := Nat.lt_of_le_of_lt (by omega) h
theorem Sm.of_abs {n : Nat} {i j : Int} (h : Sm n j) (l : i.natAbs ≤ j.natAbs) : Sm n i := Nat.lt_of_le_of_lt l h
theorem Sm.mod {n : Nat} {i j : Int} (h : Sm n j) (h0 : 0 < j) : Sm n (i % j) := h.of_le (Int.emod_nonneg _ (by omega)) (Int.le_of_lt (Int.emod_lt_of_pos _ h0))
theorem Sm.div {n : Nat} {i j : Int} (h : Sm n i) (h0 : 0 < j) : Sm n (i / j) := by
  refine h.of_abs ?_
  by_cases hi : 0 ≤ i
  · have h1 : 0 ≤ i / j := Int.ediv_nonneg hi (by omega)
    have h2 : i / j ≤ i := Int.ediv_le_self j hi
    omega
  · have h1 : i / j < 0 := Int.ediv_neg_of_neg_of_pos (by omega) h0
    have h2 : i ≤ i / j := by
      have e := Int.mul_ediv_add_emod i j
      have h4 := Int.emod_lt_of_pos i h0
      have h5 : j * (i / j + 1) ≤ 1 * (i / j + 1) := Int.mul_le_mul_of_nonpos_right (by omega) (by omega)
      rw [Int.mul_add, Int.mul_one, Int.one_mul] at h5
      omega
    omega
theorem Sm.lit {n : Nat} {i : Int} (h : decide (i.natAbs < 2 ^ n) = true) : Sm n i := by unfold Sm; exact of_decide_eq_true h
theorem Sm.pow {n : Nat} {i : Int} (h : Sm n i) (k : Nat) : Sm (n * k + 1) (i ^ k) := by
  induction k with
  | zero => unfold Sm; rw [Int.pow_zero]; exact Nat.one_lt_two_pow (by omega)
  | succ k ih =>
    rw [Int.pow_succ]
    exact (ih.mul h).le (by rw [Nat.mul_succ]; omega)
theorem Sm.max {n m : Nat} {i j : Int} (h : Sm n i) (g : Sm m j) : Sm (Nat.max n m) (max i j) := by
  have h1 := Sm.le h (Nat.le_max_left n m)
  have h2 := Sm.le g (Nat.le_max_right n m)
  rcases Int.le_total i j with l | l
  · rw [Int.max_eq_right l]; exact h2
  · rw [Int.max_eq_left l]; exact h1
theorem Sm.min {n m : Nat} {i j : Int} (h : Sm n i) (g : Sm m j) : Sm (Nat.max n m) (min i j) := by
  have h1 := Sm.le h (Nat.le_max_left n m)
  have h2 := Sm.le g (Nat.le_max_right n m)
  rcases Int.le_total i j with l | l
  · rw [Int.min_eq_left l]; exact h1
  · rw [Int.min_eq_right l]; exact h2
/-- what * asks, what // asks -/
def MulOk (i j : Int) : Prop := CMulW i j ∨ CMul i j
theorem MulOk.ok {i j : Int} (h : MulOk i j) : IntMulOk i j := h.elim CMulW.ok CMul.ok
theorem MulOk.of {n m : Nat} {i j : Int} (h : Sm n i) (g : Sm m j) (l : n + m + 2 ≤ 1000000) : MulOk i j := .inl (wide_mul (h.le (Nat.le_succ n)) (g.le (Nat.le_succ m)) (Nat.succ_pos _) (Nat.succ_pos _) (by omega))
theorem MulOk.lt {n : Nat} {i j : Int} (h : Sm n i) (l : n ≤ 63) : MulOk i j := by
  have h1 := h.le l
  unfold Sm at h1
  have e : (2 : Nat) ^ 63 = 9223372036854775808 := by decide
  have e' : (2 : Int) ^ 64 = 18446744073709551616 := by decide
  rw [e] at h1
  refine .inr (.inl ?_)
  rw [e']
  omega
theorem MulOk.rt {n : Nat} {i j : Int} (h : Sm n j) (l : n ≤ 63) : MulOk i j := by
  have h1 := h.le l
  unfold Sm at h1
  have e : (2 : Nat) ^ 63 = 9223372036854775808 := by decide
  have e' : (2 : Int) ^ 64 = 18446744073709551616 := by decide
  rw [e] at h1
  refine .inr (.inr ?_)
  rw [e']
  omega
def DivOk (j : Int) : Prop := 0 < j ∧ Sm 8000 j

/-! ### operators -/
section
variable {K : PySem.W.Frag}
theorem lndI {rv : R2} {r : OpD} {C : Int → Int → Prop} {g : Int → Int → D} {gv : Int → Int → V} (hr : ∀ {x y : D} {q : D → Prop}, r x y q → ∃ i j, x = .int i ∧ y = .int j ∧ C i j ∧ q (g i j)) (hr' : ∀ {i j : Int} {q : D → Prop}, C i j → q (g i j) → r (.int i) (.int j) q)
    (hv : ∀ {i j : Int} {H : Hp} {Q : VK}, C i j → Q (gv i j) H → rv (.int i) (.int j) H Q) (hg : ∀ i j G, Rep K G (gv i j) (g i j)) : Lnd K rv r where
  mo := fun k h => by
    obtain ⟨i, j, rfl, rfl, c, q⟩ := hr h
    exact hr' c (k _ q)
  go := fun H G x y dx dy q Q e rx ry h k _ => by
    obtain ⟨i, j, rfl, rfl, c, q⟩ := hr h
    cases rx
    cases ry
    exact hv c (k _ _ q (hg i j G))
def addD : OpD := fun x y q => match x, y with
  | .int i, .int j => q (.int (i + j))
  | .str i, .str j => i.length + j.length ≤ 16777216 ∧ q (.str (i ++ j))
  | .tup l, .tup m => l ≠ [] ∧ m ≠ [] ∧ l.length + m.length ≤ 100000 ∧ q (.tup (l ++ m))
  | _, _ => False
def subD : OpD := fun x y q => match x, y with | .int i, .int j => q (.int (i - j)) | _, _ => False
def mulD : OpD := fun x y q => match x, y with
  | .int i, .int j => MulOk i j ∧ q (.int (i * j))
  | .str x, .int n => PySem.MulOk x n ∧ q (.str (Txt.mul x n))
  | _, _ => False
def divD : OpD := fun x y q => match x, y with | .int i, .int j => DivOk j ∧ q (.int (i / j)) | _, _ => False
def modD : OpD := fun x y q => match x, y with | .int i, .int j => 0 < j ∧ q (.int (i % j)) | _, _ => False
def powD : OpD := fun x y q => match x, y with | .int i, .int j => (0 ≤ j ∧ j ≤ 1000000 ∧ Sm 63 i) ∧ q (.int (i ^ j.toNat)) | _, _ => False
def ltD : OpD := fun x y q => match x, y with | .int i, .int j => q (.bl (decide (i < j))) | _, _ => False
def leD : OpD := fun x y q => match x, y with | .int i, .int j => q (.bl (decide (i ≤ j))) | _, _ => False
def gtD : OpD := fun x y q => match x, y with | .int i, .int j => q (.bl (decide (j < i))) | _, _ => False
def geD : OpD := fun x y q => match x, y with | .int i, .int j => q (.bl (decide (j ≤ i))) | _, _ => False
def rAddZ (K : PySem.W.Frag) : R2 := fun x y H Q => rI0 (fun i j => .int (i + j)) x y H Q ∨ (∃ i j, x = .str i ∧ y = .str j ∧ i.length + j.length ≤ sizeLine ∧ Q (.str (i ++ j)) H) ∨ rCatT K x y H Q
theorem o_add {X : Cx} : OpR X (binaryOp .Add) (rAddZ X.K) := OpR.or op_add (OpR.or op_add_str op_catT)
theorem RepL.nil_iff {G : Hp} {vs : List V} {l : List D} (r : RepL K G vs l) : vs = [] ↔ l = [] := by cases r <;> simp
theorem l_add : Lnd K (rAddZ K) addD where
  mo := fun {x y q q'} k h => by
    unfold addD at h ⊢
    split at h
    · exact k _ h
    · exact ⟨h.1, k _ h.2⟩
    · exact ⟨h.1, h.2.1, h.2.2.1, k _ h.2.2.2⟩
    · exact h.elim
  go := fun H G x y dx dy q Q e rx ry h k k' => by
    unfold addD at h
    split at h
    · cases rx; cases ry
      exact .inl ⟨_, _, rfl, rfl, k _ _ h (.int _)⟩
    · cases rx; cases ry
      exact .inr (.inl ⟨_, _, rfl, rfl, by rw [sizeLine_eq]; exact h.1, k _ _ h.2 (.str _)⟩)
    · cases rx with
      | tup sx rx =>
        cases ry with
        | tup sy ry =>
          refine .inr (.inr ⟨_, _, _, _, rfl, rfl, sqTE e sx, sqTE e sy, fun z => h.1 (rx.nil_iff.mp z), sz1 (by rw [rx.len, ry.len]; exact h.2.2.1), fun z => absurd (ry.nil_iff.mp z) h.2.1, fun _ p hp => k' _ _ p h.2.2.2 hp (rx.app ry)⟩)
    · exact h.elim
theorem l_sub : Lnd K (rI0 fun i j => .int (i - j)) subD := lndI (C := fun _ _ => True) (g := fun i j => .int (i - j)) (gv := fun i j => .int (i - j)) (fun {x y q} h => by unfold subD at h; split at h; exact ⟨_, _, rfl, rfl, trivial, h⟩; exact h.elim) (fun _ h => h) (fun _ h => ⟨_, _, rfl, rfl, h⟩) (fun _ _ _ => .int _)
theorem o_mulStr {X : Cx} : OpR X (binaryOp .Mult) (fun x y H Q => ∃ z n, x = .str z ∧ y = .int n ∧ PySem.MulOk z n ∧ Q (.str (Txt.mul z n)) H) := by
  intro pins s σ H x y v u Q I rx ry h
  obtain ⟨z, n, rfl, rfl, hc, q⟩ := h
  obtain ⟨t, rfl⟩ := rx
  obtain ⟨t', rfl⟩ := ry
  exact SB.mul hc fun t2 k2 => ⟨.str _, H, I.tok _, ⟨_, rfl⟩, q⟩
theorem o_mulI {X : Cx} : OpR X (binaryOp .Mult) (rI MulOk fun i j => .int (i * j)) := opI fun _ _ _ _ _ _ _ hc q => mul_int q hc.ok
def rMulZ : R2 := fun x y H Q => rI MulOk (fun i j => .int (i * j)) x y H Q ∨ ∃ z n, x = .str z ∧ y = .int n ∧ PySem.MulOk z n ∧ Q (.str (Txt.mul z n)) H
theorem o_mul {X : Cx} : OpR X (binaryOp .Mult) rMulZ := OpR.or o_mulI o_mulStr
theorem l_mul : Lnd K rMulZ mulD where
  mo := fun {x y q q'} k h => by
    unfold mulD at h ⊢
    split at h
    · exact ⟨h.1, k _ h.2⟩
    · exact ⟨h.1, k _ h.2⟩
    · exact h.elim
  go := fun H G x y dx dy q Q e rx ry h k k' => by
    unfold mulD at h
    split at h
    · cases rx; cases ry
      exact .inl ⟨_, _, rfl, rfl, h.1, k _ _ h.2 (.int _)⟩
    · cases rx; cases ry
      exact .inr ⟨_, _, rfl, rfl, h.1, k _ _ h.2 (.str _)⟩
    · exact h.elim
theorem o_div {X : Cx} : OpR X (binaryOp .FloorDiv) (rI (fun _ j => DivOk j) fun i j => .int (i / j)) := opI fun i j _ _ _ _ _ hc q => by
  have h1 : (0 : Int) < j := hc.1
  exact floordiv_int (by omega) (by rw [Int.fdiv_eq_ediv_of_nonneg i (by omega)]; exact q) (.inl (PyProof.noPylong_of_log2 (Nat.lt_of_lt_of_le (PySem.Flt.log2_lt_of (by decide) hc.2) (by decide))))
theorem l_div : Lnd K (rI (fun _ j => DivOk j) fun i j => .int (i / j)) divD := lndI (C := fun _ j => DivOk j) (g := fun i j => .int (i / j)) (gv := fun i j => .int (i / j)) (fun {x y q} h => by unfold divD at h; split at h; exact ⟨_, _, rfl, rfl, h.1, h.2⟩; exact h.elim) (fun c h => ⟨c, h⟩) (fun c h => ⟨_, _, rfl, rfl, c, h⟩) (fun _ _ _ => .int _)
theorem l_mod : Lnd K (rI (fun _ j => 0 < j) fun i j => .int (i % j)) modD := lndI (C := fun _ j => 0 < j) (g := fun i j => .int (i % j)) (gv := fun i j => .int (i % j)) (fun {x y q} h => by unfold modD at h; split at h; exact ⟨_, _, rfl, rfl, h.1, h.2⟩; exact h.elim) (fun c h => ⟨c, h⟩) (fun c h => ⟨_, _, rfl, rfl, c, h⟩) (fun _ _ _ => .int _)
theorem l_pow : Lnd K (rI CPow fun i j => .int (i ^ j.toNat)) powD := lndI (C := fun i j => 0 ≤ j ∧ j ≤ 1000000 ∧ Sm 63 i) (g := fun i j => .int (i ^ j.toNat)) (gv := fun i j => .int (i ^ j.toNat)) (fun {x y q} h => by unfold powD at h; split at h; exact ⟨_, _, rfl, rfl, h.1, h.2⟩; exact h.elim) (fun c h => ⟨c, h⟩) (fun c h => ⟨_, _, rfl, rfl, ⟨c.1, c.2.1, Sm.le c.2.2 (by decide)⟩, h⟩) (fun _ _ _ => .int _)
theorem l_lt : Lnd K (rI0 fun i j => .bl (decide (i < j))) ltD := lndI (C := fun _ _ => True) (g := fun i j => .bl (decide (i < j))) (gv := fun i j => .bl (decide (i < j))) (fun {x y q} h => by unfold ltD at h; split at h; exact ⟨_, _, rfl, rfl, trivial, h⟩; exact h.elim) (fun _ h => h) (fun _ h => ⟨_, _, rfl, rfl, h⟩) (fun _ _ _ => .bl _)
theorem l_le : Lnd K (rI0 fun i j => .bl (decide (i ≤ j))) leD := lndI (C := fun _ _ => True) (g := fun i j => .bl (decide (i ≤ j))) (gv := fun i j => .bl (decide (i ≤ j))) (fun {x y q} h => by unfold leD at h; split at h; exact ⟨_, _, rfl, rfl, trivial, h⟩; exact h.elim) (fun _ h => h) (fun _ h => ⟨_, _, rfl, rfl, h⟩) (fun _ _ _ => .bl _)
theorem l_gt : Lnd K (rI0 fun i j => .bl (decide (j < i))) gtD := lndI (C := fun _ _ => True) (g := fun i j => .bl (decide (j < i))) (gv := fun i j => .bl (decide (j < i))) (fun {x y q} h => by unfold gtD at h; split at h; exact ⟨_, _, rfl, rfl, trivial, h⟩; exact h.elim) (fun _ h => h) (fun _ h => ⟨_, _, rfl, rfl, h⟩) (fun _ _ _ => .bl _)
theorem l_ge : Lnd K (rI0 fun i j => .bl (decide (j ≤ i))) geD := lndI (C := fun _ _ => True) (g := fun i j => .bl (decide (j ≤ i))) (gv := fun i j => .bl (decide (j ≤ i))) (fun {x y q} h => by unfold geD at h; split at h; exact ⟨_, _, rfl, rfl, trivial, h⟩; exact h.elim) (fun _ h => h) (fun _ h => ⟨_, _, rfl, rfl, h⟩) (fun _ _ _ => .bl _)

/-! ### equality -/
mutual
def py : D → PyData
  | .non => .none
  | .bl b => .bool b
  | .int i => .int i
  | .str x => .str x
  | .tup l => .tuple (pys l)
  | .lst l => .list (pys l)
  | .arr l => .list (pys l)
  | .ref _ => .none
  | .exc _ => .none
def pys : List D → List PyData
  | [] => []
  | d :: l => py d :: pys l
end
mutual
def okD : D → Bool
  | .non => true
  | .bl _ => true
  | .int _ => true
  | .str x => PyData.strOk x
  | .tup l => okDs l
  | .lst l => okDs l
  | .arr l => okDs l
  | .ref _ => false
  | .exc _ => false
def okDs : List D → Bool
  | [] => true
  | d :: l => okD d && okDs l
end
mutual
def dpD : D → Nat
  | .tup l => dpDs l + 1
  | .lst l => dpDs l + 1
  | .arr l => dpDs l + 1
  | .non => 0
  | .bl _ => 0
  | .int _ => 0
  | .str _ => 0
  | .ref _ => 0
  | .exc _ => 0
def dpDs : List D → Nat
  | [] => 0
  | d :: l => max (dpD d) (dpDs l)
end
mutual
theorem dp_of {G H : Hp} (e : Ext G H) : ∀ (d : D) (v : V), Rep K G v d → okD d = true → Dp K H v (py d)
  | .non, _, h, _ => by cases h; exact .non
  | .bl b, _, h, _ => by cases h; exact .bl b
  | .int i, _, h, _ => by cases h; exact .int i
  | .str x, _, h, _ => by cases h; exact .str x
  | .tup l, _, h, o => by
    cases h with
    | tup a b => exact .tup (sqTE e a) (dps_of e l _ b (by simpa [okD] using o))
  | .lst l, _, h, o => by
    cases h with
    | lst a b => exact .lst (.inl (.inl (e _ _ a))) (dps_of e l _ b (by simpa [okD] using o))
  | .arr l, _, h, o => by
    cases h with
    | arr a b => exact .lst (sqLE e a) (dps_of e l _ b (by simpa [okD] using o))
  | .ref p, _, _, o => by simp [okD] at o
  | .exc p, _, _, o => by simp [okD] at o
theorem dps_of {G H : Hp} (e : Ext G H) : ∀ (l : List D) (vs : List V), RepL K G vs l → okDs l = true → DpAll K H vs (pys l)
  | [], _, h, _ => by cases h; exact .nil
  | d :: l, _, h, o => by
    cases h with
    | cons a b =>
      have o' : okD d = true ∧ okDs l = true := by simpa [okDs] using o
      exact .cons (dp_of e d _ a o'.1) (dps_of e l _ b o'.2)
end
mutual
theorem can_of : ∀ d : D, okD d = true → PyData.canLay0 (py d) = true ∧ PyData.depth (py d) = dpD d
  | .non, _ => ⟨by simp [py, PyData.canLay0], by simp [py, PyData.depth, dpD]⟩
  | .bl b, _ => ⟨by simp [py, PyData.canLay0], by simp [py, PyData.depth, dpD]⟩
  | .int i, _ => ⟨by simp [py, PyData.canLay0], by simp [py, PyData.depth, dpD]⟩
  | .str x, o => ⟨by simpa [py, PyData.canLay0, okD] using o, by simp [py, PyData.depth, dpD]⟩
  | .tup l, o => by
    have q := cans_of l (by simpa [okD] using o)
    exact ⟨by simpa [py, PyData.canLay0] using q.1, by simp [py, PyData.depth, dpD, q.2]⟩
  | .lst l, o => by
    have q := cans_of l (by simpa [okD] using o)
    exact ⟨by simpa [py, PyData.canLay0] using q.1, by simp [py, PyData.depth, dpD, q.2]⟩
  | .arr l, o => by
    have q := cans_of l (by simpa [okD] using o)
    exact ⟨by simpa [py, PyData.canLay0] using q.1, by simp [py, PyData.depth, dpD, q.2]⟩
  | .ref p, o => by simp [okD] at o
  | .exc p, o => by simp [okD] at o
theorem cans_of : ∀ l : List D, okDs l = true → PyData.canLayAll0 (pys l) = true ∧ PyData.depthAll (pys l) = dpDs l
  | [], _ => ⟨by simp [pys, PyData.canLayAll0], by simp [pys, PyData.depthAll, dpDs]⟩
  | d :: l, o => by
    have o' : okD d = true ∧ okDs l = true := by simpa [okDs] using o
    have q1 := can_of d o'.1
    have q2 := cans_of l o'.2
    exact ⟨by simp [pys, PyData.canLayAll0, q1.1, q2.1], by simp [pys, PyData.depthAll, dpDs, q1.2, q2.2]⟩
end
def deq (x y : D) : Bool := PyData.eqv (py x) (py y)
def deqs (x y : List D) : Bool := PyData.eqvAll (pys x) (pys y)
def eqD : OpD := fun x y q => match x, y with
  | .str i, .str j => q (.bl (decide (i = j)))
  | .str _, .non => q (.bl false)
  | .non, .str _ => q (.bl false)
  | x, y => (okD x = true ∧ okD y = true ∧ dpD x ≤ 64 ∧ dpD y ≤ 64) ∧ q (.bl (deq x y))
def neD : OpD := fun x y q => eqD x y fun d => match d with | .bl b => q (.bl (!b)) | _ => False
def rEqZ (K : PySem.W.Frag) : R2 := fun x y H Q => rEq x y H Q ∨ rEqD K x y H Q
def rNeZ (K : PySem.W.Frag) : R2 := fun x y H Q => rNe x y H Q ∨ rNeD K x y H Q
theorem o_eq {X : Cx} {k : Nat} (hr : Room k X.A) : OpR X (compareOp .Eq) (rEqZ X.K) := OpR.or op_eq (op_eqD hr.units)
theorem o_ne {X : Cx} {k : Nat} (hr : Room k X.A) : OpR X (compareOp .NotEq) (rNeZ X.K) := OpR.or op_ne (op_neD hr.units)
theorem shp {d : D} (h : okD d = true) (h2 : dpD d ≤ 64) : SeqAt.shaped (py d) = true := by
  have q := can_of d h
  unfold SeqAt.shaped
  rw [q.1, q.2, decide_eq_true h2]
  rfl
theorem l_eq : Lnd K (rEqZ K) eqD where
  mo := fun {x y q q'} k h => by
    unfold eqD at h ⊢
    split at h
    · exact k _ h
    · exact k _ h
    · exact k _ h
    · exact ⟨h.1, k _ h.2⟩
  go := fun H G x y dx dy q Q e rx ry h k _ => by
    unfold eqD at h
    split at h
    · cases rx; cases ry
      rename_i i j
      refine .inl ⟨rfl, ?_⟩
      have z : decide (V.str i = V.str j) = decide (i = j) := by
        by_cases z : i = j
        · subst z; simp
        · rw [decide_eq_false z]; simp [z]
      show Q (.bl (decide (V.str i = V.str j))) H
      rw [z]
      exact k _ _ h (.bl _)
    · cases rx; cases ry
      exact .inl ⟨rfl, k _ _ h (.bl _)⟩
    · cases rx; cases ry
      exact .inl ⟨rfl, k _ _ h (.bl _)⟩
    · exact .inr ⟨_, _, dp_of e _ _ rx h.1.1, dp_of e _ _ ry h.1.2.1, shp h.1.1 h.1.2.2.1, shp h.1.2.1 h.1.2.2.2, k _ _ h.2 (.bl _)⟩
theorem l_ne : Lnd K (rNeZ K) neD where
  mo := fun {x y q q'} k h => l_eq (K := K).mo (fun d h => by
    cases d with
    | bl b => exact k _ h
    | _ => exact h) h
  go := fun H G x y dx dy q Q e rx ry h k _ => by
    unfold neD eqD at h
    split at h
    · cases rx; cases ry
      rename_i i j
      refine .inl ⟨rfl, ?_⟩
      have z : decide (V.str i = V.str j) = decide (i = j) := by
        by_cases z : i = j
        · subst z; simp
        · rw [decide_eq_false z]; simp [z]
      show Q (.bl (!decide (V.str i = V.str j))) H
      rw [z]
      exact k _ _ h (.bl _)
    · cases rx; cases ry
      exact .inl ⟨rfl, k _ _ h (.bl _)⟩
    · cases rx; cases ry
      exact .inl ⟨rfl, k _ _ h (.bl _)⟩
    · exact .inr ⟨_, _, dp_of e _ _ rx h.1.1, dp_of e _ _ ry h.1.2.1, shp h.1.1 h.1.2.2.1, shp h.1.2.1 h.1.2.2.2, k _ _ h.2 (.bl _)⟩
end
end Z

namespace Z
open PySem PySem.Spec PyProof.Rows L2
variable {ω : Type}

/-! ### subscripts -/
section
variable {K : PySem.W.Frag} {G : Hp}
theorem RepL.at {vs : List V} {l : List D} {i : Int} {d : D} (r : RepL K G vs l) (h : atI l i = some d) : ∃ v, atI vs i = some v ∧ Rep K G v d := by
  unfold atI at h ⊢
  rw [r.len]
  cases q : ixN l.length i with
  | none => rw [q] at h; cases h
  | some j =>
    rw [q] at h
    obtain ⟨v, h1, h2⟩ := r.get (i := j) h
    exact ⟨v, h1, h2⟩
def ixD : OpD := fun x y q => match x, y with
  | .tup l, .int i => ∃ d, atI l i = some d ∧ q d
  | .lst l, .int i => ∃ d, atI l i = some d ∧ q d
  | .arr l, .int i => ∃ d, atI l i = some d ∧ q d
  | .str s, .int i => s.length ≤ 16777216 ∧ ∃ c, atI s.cps.toList i = some c ∧ q (.str ⟨#[c]⟩)
  | _, _ => False
theorem l_ix : Lnd K (rIx K) ixD where
  mo := fun {x y q q'} k h => by
    unfold ixD at h ⊢
    split at h
    · obtain ⟨d, h1, h2⟩ := h; exact ⟨d, h1, k _ h2⟩
    · obtain ⟨d, h1, h2⟩ := h; exact ⟨d, h1, k _ h2⟩
    · obtain ⟨d, h1, h2⟩ := h; exact ⟨d, h1, k _ h2⟩
    · obtain ⟨h0, d, h1, h2⟩ := h; exact ⟨h0, d, h1, k _ h2⟩
    · exact h.elim
  go := fun H G x y dx dy q Q e rx ry h k _ => by
    unfold ixD at h
    split at h
    · obtain ⟨d, h1, h2⟩ := h
      cases rx with
      | tup s r =>
        cases ry
        obtain ⟨v, g1, g2⟩ := r.at h1
        exact .inr (.inl ⟨_, _, _, v, rfl, rfl, sqTE e s, g1, k d v h2 g2⟩)
    · obtain ⟨d, h1, h2⟩ := h
      cases rx with
      | lst s r =>
        cases ry
        obtain ⟨v, g1, g2⟩ := r.at h1
        exact .inl ⟨_, _, _, v, rfl, rfl, .inl (.inl (e _ _ s)), g1, k d v h2 g2⟩
    · obtain ⟨d, h1, h2⟩ := h
      cases rx with
      | arr s r =>
        cases ry
        obtain ⟨v, g1, g2⟩ := r.at h1
        exact .inl ⟨_, _, _, v, rfl, rfl, sqLE e s, g1, k d v h2 g2⟩
    · obtain ⟨h0, c, h1, h2⟩ := h
      cases rx
      cases ry
      exact .inr (.inr ⟨_, _, c, rfl, rfl, by rw [sizeLine_eq]; exact h0, h1, k _ _ h2 (.str _)⟩)
    · exact h.elim
end
/-! our own list: an item, the length, a store, append -/
def onOwn (δ : List Sl) (i : Nat) (f : List D → Prop) : Prop := match δ[i]? with | some (.own l) => f l | _ => False
theorem onOwn.of {δ : List Sl} {i : Nat} {f : List D → Prop} (h : onOwn δ i f) : ∃ l, δ[i]? = some (.own l) ∧ f l := by
  unfold onOwn at h
  split at h
  · exact ⟨_, by assumption, h⟩
  · exact h.elim
theorem onOwn.to {δ : List Sl} {i : Nat} {f : List D → Prop} {l : List D} (e : δ[i]? = some (.own l)) (h : f l) : onOwn δ i f := by unfold onOwn; rw [e]; exact h
theorem onOwn.imp {δ : List Sl} {i : Nat} {f g : List D → Prop} (k : ∀ l, f l → g l) (h : onOwn δ i f) : onOwn δ i g := let ⟨_, e, q⟩ := h.of; .to e (k _ q)
def intD (d : D) (f : Int → Prop) : Prop := match d with | .int k => f k | _ => False
theorem intD.of {d : D} {f : Int → Prop} (h : intD d f) : ∃ k, d = .int k ∧ f k := by
  unfold intD at h
  split at h
  · exact ⟨_, rfl, h⟩
  · exact h.elim
theorem intD.imp {d : D} {f g : Int → Prop} (k : ∀ l, f l → g l) (h : intD d f) : intD d g := by obtain ⟨j, rfl, q⟩ := h.of; exact k _ q
def zIxO (i : Nat) (te : TEZ ω) : TEZ ω := fun δ w Q E => onOwn δ i fun l => te δ w (fun d w1 => intD d fun k => ∃ x, atI l k = some x ∧ Q x w1) E
def zLenO (i : Nat) : TEZ ω := fun δ w Q _ => onOwn δ i fun l => Q (.int l.length) w
def zSetO (i : Nat) (tk te : TEZ ω) : TSZ ω := fun DE δ w => te δ w (fun d w1 => onOwn δ i fun l => tk δ w1 (fun k w2 => intD k fun k => ∃ j, ixN l.length k = some j ∧ DE.nx (δ.set i (.own (l.set j d))) w2) (fun e w' => DE.ex e δ w')) (fun e w' => DE.ex e δ w')
def zAppO (i : Nat) (te : TEZ ω) : TSZ ω := fun DE δ w => onOwn δ i fun l => te δ w (fun d w1 => l.length < 100000 ∧ DE.nx (δ.set i (.own (l ++ [d]))) w1) (fun e w' => DE.ex e δ w')
section
variable {X : Cx} {W : Wp ω} {pos pos' p : Pos} {x : Str} {e a : Expr} {te tk : TEZ ω}
theorem SR.own {K : PySem.W.Frag} {Z : Zx} {σ : L2.St} {H G M : Hp} {δ : List Sl} {w : ω} {i : Nat} {l : List D} (a : SR K W Z σ H G M δ w) (e : δ[i]? = some (.own l)) : ∃ p vs, σ[i]? = some (some (.ref p)) ∧ H p = some (.lst vs) ∧ M p = none ∧ RepL K G vs l := by
  obtain ⟨p, vs, h1, h2, h3, h4, h5, h7⟩ := a.sl i _ e
  exact ⟨p, vs, h1, h2, h4, h7⟩
theorem z_ixO (i : Nat) (he : PEZ X W e te) (hN : X.N[i]? = some x := by rfl) (hv : Vis X.env.scope x := by first | exact Or.inl rfl | exact Or.inr (Or.inl rfl) | exact Or.inr (Or.inr rfl)) (hd : (x == ("__debug__" : Str)) = false := by decide)
    (hcd : (x == ("__classdict__" : Str)) = false := by decide) (hs : PlainIx e := by exact fun _ _ => rfl) : PEZ X W (.Subscript (.Name x p) e pos) (zIxO i te) :=
  ⟨fun k h => h.imp fun l h => he.mo (fun d w1 h1 => h1.imp fun j ⟨y, g1, g2⟩ => ⟨y, g1, k _ _ g2⟩) h, fun Z ex tk => peI (pe_ix ix_list (pe_var hN hv hd hcd) (he.run Z ex tk) hs) fun σ H Q ⟨G, M, δ, w, a, h⟩ => by
    obtain ⟨l, hl, h⟩ := h.of
    obtain ⟨p, vs, h1, h2, h3, h4⟩ := a.own hl
    refine ⟨.ref p, h1, G, M, δ, w, a, he.mo (fun d w1 q1 v H1 G1 M1 o1 r1 => ?_) h⟩
    obtain ⟨k, rfl, y, g1, g2⟩ := q1.of
    cases r1
    obtain ⟨u, u1, u2⟩ := (h4.up o1.nx.gg).at g1
    exact ⟨p, vs, k, u, rfl, rfl, .inl (.inl (o1.nx.fr p _ h2 h3)), u1, g2 u H1 G1 M1 o1 u2⟩⟩
theorem z_lenO (i : Nat) {pc : Pos} (hm : X.mg "len" = none) (hN : X.N[i]? = some x := by rfl) (hv : Vis X.env.scope x := by first | exact Or.inl rfl | exact Or.inr (Or.inl rfl) | exact Or.inr (Or.inr rfl)) (hd : (x == ("__debug__" : Str)) = false := by decide)
    (hcd : (x == ("__classdict__" : Str)) = false := by decide) (hg : Gl X "len" := by rfl) : PEZ X W (.Call (.Name "len" pc) [.Name x p] [] pos) (zLenO i) :=
  ⟨fun k h => h.imp fun l h => k _ _ h, fun Z ex tk => peI (pe_callB call_len_seq hg hm PySem.boot_len (pa_cons (pe_var hN hv hd hcd) pa_nil)) fun σ H Q ⟨G, M, δ, w, a, h⟩ => by
    obtain ⟨l, hl, h⟩ := h.of
    obtain ⟨p, vs, h1, h2, h3, h4⟩ := a.own hl
    refine ⟨.ref p, h1, p, vs, rfl, .inl (.inl (.inl h2)), ?_⟩
    rw [h4.len]
    exact h _ H G M a.here (.int _)⟩
theorem z_setO (i : Nat) (hk : PEZ X W e tk) (he : PEZ X W a te) (hN : X.N[i]? = some x := by rfl) (hv : Vis X.env.scope x := by first | exact Or.inl rfl | exact Or.inr (Or.inl rfl) | exact Or.inr (Or.inr rfl)) (hd : (x == ("__debug__" : Str)) = false := by decide)
    (hcd : (x == ("__classdict__" : Str)) = false := by decide) (hs : swapsWithSole [.Subscript (.Name x p) e pos'] a pos.line X.env = pure false := by rfl) (hw : swappedStores [.Subscript (.Name x p) e pos'] a X.env = pure none := by rfl)
    (h1 : (assignEach [.Subscript (.Name x p) e pos'] X.env).map (·.2) = [assign (.Subscript (.Name x p) e pos') X.env] := by rfl)
    (ha : ∀ v, assign (.Subscript (.Name x p) e pos') X.env v = (do
      let ov ← holding [v] (eval (.Name x p) X.env)
      let iv ← holding [v, ov] (eval e X.env)
      standAt pos'
      holding [v, ov, iv] (setItem ov iv v)
      release [v, ov, iv] []) := by intro _; rfl) : PSZ X W (.Assign [.Subscript (.Name x p) e pos'] a pos) (zSetO i tk te) := fun Z ex tk' =>
  psI (ps_asg (he.run Z ex tk') (pg_sub (pe_var hN hv hd hcd) (hk.run Z ex tk') set_list ha) hs hw h1) fun DE σ H ⟨Dz, hex, EI, G, M, δ, w, a, h⟩ => by
  subst hex
  refine ⟨G, M, δ, w, a, he.mo (fun d w1 q1 v H1 G1 M1 o1 r1 => ?_) h⟩
  have a1 := a.go o1
  obtain ⟨l, hl, q⟩ := q1.of
  obtain ⟨p, vs, h1, h2, h3, h4⟩ := a1.own hl
  refine ⟨.ref p, h1, G1, M1, δ, w1, a1, hk.mo (fun d2 w2 q2 v2 H2 G2 M2 o2 r2 => ?_) q⟩
  obtain ⟨k, rfl, j, g1, g2⟩ := q2.of
  cases r2
  have r4 := h4.up o2.nx.gg
  exact ⟨p, vs, k, j, rfl, rfl, o2.nx.fr p _ h2 h3, by rw [r4.len]; exact g1, EI.nx _ _ ⟨G2, M2, _, w2, (a1.go o2).change hl h1 (RepL.set (r1.up o2.nx.gg) j r4), g2⟩⟩
theorem z_appO (i : Nat) {pm : Pos} (he : PEZ X W e te) (hN : X.N[i]? = some x := by rfl) (hv : Vis X.env.scope x := by first | exact Or.inl rfl | exact Or.inr (Or.inl rfl) | exact Or.inr (Or.inr rfl)) (hd : (x == ("__debug__" : Str)) = false := by decide)
    (hcd : (x == ("__classdict__" : Str)) = false := by decide) (hs : swapsWith (.Call (.Attribute (.Name x p) "append" pm) [e] [] pos') none pos.line X.env = pure false := by rfl)
    (hpe : ∀ {t : TE}, PE X e t → PE X (.Call (.Attribute (.Name x p) "append" pm) [e] [] pos') (tBM X.K "list" rAppend (tVar i) (tCons t tNil)) := by
      intro t ht
      exact pe_bm PySem.F.plainAttrs_list PySem.F.slot_list_append PySem.F.type_list_append mt_append (pv _) (pa_cons ht pa_nil)) :
    PSZ X W (.Expr (.Call (.Attribute (.Name x p) "append" pm) [e] [] pos') pos) (zAppO i te) := fun Z ex tk =>
  psI (ps_expr (hpe (he.run Z ex tk)) hs) fun DE σ H ⟨Dz, hex, EI, G, M, δ, w, a, h⟩ => by
  subst hex
  obtain ⟨l, hl, h⟩ := h.of
  obtain ⟨p, vs, h1, h2, h3, h4⟩ := a.own hl
  refine ⟨.ref p, h1, .inl ⟨rfl, _, SqL.of h2⟩, G, M, δ, w, a, he.mo (fun d w1 q1 v H1 G1 M1 o1 r1 => ?_) h⟩
  have a1 := a.go o1
  have r4 := h4.up o1.nx.gg
  refine ⟨p, vs, v, rfl, rfl, o1.nx.fr p _ h2 h3, by rw [r4.len, sizeLine_eq]; omega, EI.nx _ _ ⟨G1, M1, _, w1, a1.change hl h1 (r4.app (.cons r1 .nil)), q1.2⟩⟩
end
end Z

namespace Z
open PySem PySem.Spec PyProof.Rows L2
variable {ω : Type}

/-! ### calls of what is built in -/
structure LndC (K : PySem.W.Frag) (rc : List V → Hp → VK → Prop) (r : List D → (D → Prop) → Prop) : Prop where
  mo : ∀ {l : List D} {q q' : D → Prop}, (∀ d, q d → q' d) → r l q → r l q'
  go : ∀ (H G : Hp) (vs : List V) (l : List D) (q : D → Prop) (Q : VK), Ext G H → RepL K G vs l → r l q → (∀ d v, q d → Rep K G v d → Q v H) → (∀ m us p, q (.tup m) → H p = none → RepL K G us m → Q (.ref p) (upd H p (.tup us))) → rc vs H Q
structure LndF (K : PySem.W.Frag) (rc : List V → Hp → VK → Prop) (r : List D → (List D → Prop) → Prop) : Prop where
  mo : ∀ {l : List D} {q q' : List D → Prop}, (∀ d, q d → q' d) → r l q → r l q'
  go : ∀ (H G : Hp) (vs : List V) (l : List D) (q : List D → Prop) (Q : VK), Ext G H → RepL K G vs l → r l q → (∀ m us p, q m → H p = none → RepL K G us m → Q (.ref p) (upd H p (.lst us))) → rc vs H Q
def zB1 (r : List D → (D → Prop) → Prop) (ta : TAZ ω) : TEZ ω := fun δ w Q E => ta δ w (fun l w1 => r l fun d => Q d w1) E
def zBF (r : List D → (List D → Prop) → Prop) (ta : TAZ ω) : TAZ ω := fun δ w Q E => ta δ w (fun l w1 => r l fun m => Q m w1) E
section
variable {X : Cx} {W : Wp ω} {pos p : Pos} {x : Str} {e : Expr} {es : List Expr} {ta : TAZ ω} {rc : List V → Hp → VK → Prop} {r : List D → (D → Prop) → Prop} {rf : List D → (List D → Prop) → Prop}
theorem zb1_core (hl : LndC X.K rc r) (ha : PAZ X W (e :: es) ta) {Z : Zx} {ex : Nat → List Sl → ω → Prop} {σ : L2.St} {H : Hp} {Q : VK} (h : liE X.K W Z ex (zB1 r ta) σ H Q) : tCB rc (liA X.K W Z ex ta) σ H Q := by
  obtain ⟨G, M, δ, w, a, h⟩ := h
  exact ⟨G, M, δ, w, a, ha.mo (fun l w1 h1 vs H1 G1 M1 o1 r1 => hl.go H1 G1 vs l _ Q o1.pt.gh r1 h1 (fun d v q rv => q v H1 G1 M1 o1 rv) (fun m us p q hp ru => q (.ref p) _ _ _ (o1.new hp) (.tup (SqT.of upd_same) (ru.up (o1.ext hp))))) h⟩
theorem zbf_core (hl : LndF X.K rc rf) (ha : PAZ X W (e :: es) ta) {Z : Zx} {ex : Nat → List Sl → ω → Prop} {σ : L2.St} {H : Hp} {Q : VK} (h : liF X.K W Z ex (zBF rf ta) σ H Q) : tCB rc (liA X.K W Z ex ta) σ H Q := by
  obtain ⟨G, M, δ, w, a, h⟩ := h
  exact ⟨G, M, δ, w, a, ha.mo (fun l w1 h1 vs H1 G1 M1 o1 r1 => hl.go H1 G1 vs l _ Q o1.pt.gh r1 h1 (fun m us p q hp ru => q p us _ _ _ (o1.laid hp) ru (.of o1 a.pt.mh hp))) h⟩
theorem z_bi {id : String} (hc : CallR X (.builtin id) rc) (hl : LndC X.K rc r) (hm : X.mg x = none) (hv : bootBuiltins x = some (.builtin id)) (ha : PAZ X W (e :: es) ta) (hg : Gl X x := by rfl) (hn : x ≠ "__name__" := by decide) (hdb : (x == ("__debug__" : Str)) = false := by decide)
    (he : starEach (e :: es) X.env = (false, eval e X.env) :: starEach es X.env := by rfl) (hpl : (backTo pos (starEach es X.env)).any (·.1) = false := by rfl) : PEZ X W (.Call (.Name x p) (e :: es) [] pos) (zB1 r ta) :=
  ⟨fun k h => ha.mo (fun l w1 h1 => hl.mo (fun d q => k d _ q) h1) h, fun Z ex tk => peI (pe_callB hc hg hm hv (ha.run Z ex tk) hn hdb he hpl) fun σ H Q h => zb1_core hl ha h⟩
theorem z_bt {id : String} (hc : CallR X (.type id) rc) (hl : LndC X.K rc r) (hm : X.mg x = none) (hv : bootBuiltins x = some (.type id)) (ha : PAZ X W (e :: es) ta) (hg : Gl X x := by rfl) (hn : x ≠ "__name__" := by decide) (hdb : (x == ("__debug__" : Str)) = false := by decide)
    (he : starEach (e :: es) X.env = (false, eval e X.env) :: starEach es X.env := by rfl) (hpl : (backTo pos (starEach es X.env)).any (·.1) = false := by rfl) : PEZ X W (.Call (.Name x p) (e :: es) [] pos) (zB1 r ta) :=
  ⟨fun k h => ha.mo (fun l w1 h1 => hl.mo (fun d q => k d _ q) h1) h, fun Z ex tk => peI (pe_callTy hc hg hm hv (ha.run Z ex tk) hn hdb he hpl) fun σ H Q h => zb1_core hl ha h⟩
theorem z_bif {id : String} (hc : CallR X (.builtin id) rc) (hl : LndF X.K rc rf) (hm : X.mg x = none) (hv : bootBuiltins x = some (.builtin id)) (ha : PAZ X W (e :: es) ta) (hg : Gl X x := by rfl) (hn : x ≠ "__name__" := by decide) (hdb : (x == ("__debug__" : Str)) = false := by decide)
    (he : starEach (e :: es) X.env = (false, eval e X.env) :: starEach es X.env := by rfl) (hpl : (backTo pos (starEach es X.env)).any (·.1) = false := by rfl) : PFZ X W (.Call (.Name x p) (e :: es) [] pos) (zBF rf ta) :=
  ⟨fun k h => ha.mo (fun l w1 h1 => hl.mo (fun d q => k d _ q) h1) h, fun Z ex tk => peI (pe_callB hc hg hm hv (ha.run Z ex tk) hn hdb he hpl) fun σ H Q h => zbf_core hl ha h⟩
theorem z_btf {id : String} (hc : CallR X (.type id) rc) (hl : LndF X.K rc rf) (hm : X.mg x = none) (hv : bootBuiltins x = some (.type id)) (ha : PAZ X W (e :: es) ta) (hg : Gl X x := by rfl) (hn : x ≠ "__name__" := by decide) (hdb : (x == ("__debug__" : Str)) = false := by decide)
    (he : starEach (e :: es) X.env = (false, eval e X.env) :: starEach es X.env := by rfl) (hpl : (backTo pos (starEach es X.env)).any (·.1) = false := by rfl) : PFZ X W (.Call (.Name x p) (e :: es) [] pos) (zBF rf ta) :=
  ⟨fun k h => ha.mo (fun l w1 h1 => hl.mo (fun d q => k d _ q) h1) h, fun Z ex tk => peI (pe_callTy hc hg hm hv (ha.run Z ex tk) hn hdb he hpl) fun σ H Q h => zbf_core hl ha h⟩
end
/-! what they ask and give -/
def oneD (l : List D) (f : D → Prop) : Prop := match l with | [d] => f d | _ => False
def twoI (l : List D) (f : Int → Int → Prop) : Prop := match l with | [.int i, .int j] => f i j | _ => False
theorem oneD.of {l : List D} {f : D → Prop} (h : oneD l f) : ∃ d, l = [d] ∧ f d := by
  unfold oneD at h
  split at h
  · exact ⟨_, rfl, h⟩
  · exact h.elim
theorem twoI.of {l : List D} {f : Int → Int → Prop} (h : twoI l f) : ∃ i j, l = [.int i, .int j] ∧ f i j := by
  unfold twoI at h
  split at h
  · exact ⟨_, _, rfl, h⟩
  · exact h.elim
def lenD (l : List D) (q : D → Prop) : Prop := oneD l fun d => match d with
  | .tup m => q (.int m.length) | .lst m => q (.int m.length) | .arr m => q (.int m.length) | .str s => s.length ≤ 16777216 ∧ q (.int s.length) | _ => False
def absD (l : List D) (q : D → Prop) : Prop := oneD l fun d => intD d fun i => q (.int i.natAbs)
def maxD (l : List D) (q : D → Prop) : Prop := twoI l fun i j => q (.int (max i j))
def minD (l : List D) (q : D → Prop) : Prop := twoI l fun i j => q (.int (min i j))
def intC (l : List D) (q : D → Prop) : Prop := oneD l fun d => match d with
  | .int i => q (.int i) | .bl b => (b = true → q (.int 1)) ∧ (b = false → q (.int 0)) | .str s => ∃ n, PySem.intText? s = some n ∧ s.length ≤ 640 ∧ q (.int n) | _ => False
def strC (l : List D) (q : D → Prop) : Prop := oneD l fun d => intD d fun i => Sm 1900 i ∧ q (.str (toString i))
def sumC (l : List D) (q : D → Prop) : Prop := oneD l fun d => match d with | .lst m => ∃ ns : List Int, m = ns.map D.int ∧ q (.int ns.sum) | .arr m => ∃ ns : List Int, m = ns.map D.int ∧ q (.int ns.sum) | _ => False
def tupC (l : List D) (q : D → Prop) : Prop := oneD l fun d => match d with | .lst m => q (.tup m) | .tup m => q (.tup m) | _ => False
def lstC (l : List D) (q : List D → Prop) : Prop := oneD l fun d => match d with | .lst m => q m | .tup m => q m | .arr m => q m | _ => False
def maxC (l : List D) (q : D → Prop) : Prop := oneD l fun d => match d with | .lst m => ∃ ns : List Int, m = ns.map D.int ∧ 0 < ns.length ∧ ∀ m, m ∈ ns → (∀ y, y ∈ ns → y ≤ m) → q (.int m) | _ => False
def minC (l : List D) (q : D → Prop) : Prop := oneD l fun d => match d with | .lst m => ∃ ns : List Int, m = ns.map D.int ∧ 0 < ns.length ∧ ∀ m, m ∈ ns → (∀ y, y ∈ ns → m ≤ y) → q (.int m) | _ => False
def sortC (l : List D) (q : List D → Prop) : Prop := oneD l fun d => match d with | .lst m => ∃ ns : List Int, m = ns.map D.int ∧ ns.length < 64 ∧ ∀ ns' : List Int, ns'.Perm ns → ns'.Pairwise (· ≤ ·) → q (ns'.map D.int) | _ => False
section
variable {K : PySem.W.Frag}
theorem one_rep {G : Hp} {vs : List V} {d : D} (r : RepL K G vs [d]) : ∃ v, vs = [v] ∧ Rep K G v d := by
  cases r with
  | cons a b => cases b; exact ⟨_, rfl, a⟩
theorem two_rep {G : Hp} {vs : List V} {i j : Int} (r : RepL K G vs [.int i, .int j]) : vs = [.int i, .int j] := by
  cases r with
  | cons a b =>
    cases a
    cases b with
    | cons a b => cases a; cases b; rfl
theorem oneD.imp {l : List D} {f g : D → Prop} (k : ∀ d, f d → g d) (h : oneD l f) : oneD l g := by obtain ⟨d, rfl, q⟩ := h.of; exact k d q
theorem twoI.imp {l : List D} {f g : Int → Int → Prop} (k : ∀ i j, f i j → g i j) (h : twoI l f) : twoI l g := by obtain ⟨i, j, rfl, q⟩ := h.of; exact k i j q
theorem lc_len : LndC K (fun xs H Q => ∃ x n, xs = [x] ∧ LenV K x H n ∧ Q (.int n) H) lenD where
  mo := fun k h => h.imp fun d h => by
    split at h
    · exact k _ h
    · exact k _ h
    · exact k _ h
    · exact ⟨h.1, k _ h.2⟩
    · exact h.elim
  go := fun H G vs l q Q e r h k _ => by
    have hh := h.of; clear h; obtain ⟨d, rfl, h⟩ := hh
    have rr := one_rep r; clear r; obtain ⟨v, rfl, r⟩ := rr
    split at h
    · cases r with
      | tup s r => exact ⟨_, _, rfl, .inr ⟨_, sqTE e s, rfl⟩, by rw [r.len]; exact k _ _ h (.int _)⟩
    · cases r with
      | lst s r => exact ⟨_, _, rfl, .inl ⟨_, .inl (.inl (e _ _ s)), rfl⟩, by rw [r.len]; exact k _ _ h (.int _)⟩
    · cases r with
      | arr s r => exact ⟨_, _, rfl, .inl ⟨_, sqLE e s, rfl⟩, by rw [r.len]; exact k _ _ h (.int _)⟩
    · cases r
      exact ⟨_, _, rfl, ⟨by rw [sizeLine_eq]; exact h.1, rfl⟩, k _ _ h.2 (.int _)⟩
    · exact h.elim
theorem lc_abs : LndC K (fun xs H Q => ∃ i, xs = [.int i] ∧ Q (.int (if i < 0 then -i else i)) H) absD where
  mo := fun k h => h.imp fun d h => h.imp fun i h => k _ h
  go := fun H G vs l q Q e r h k _ => by
    have hh := h.of; clear h; obtain ⟨d, rfl, h⟩ := hh
    have hh := h.of; clear h; obtain ⟨i, rfl, h⟩ := hh
    have rr := one_rep r; clear r; obtain ⟨v, rfl, r⟩ := rr
    cases r
    refine ⟨i, rfl, ?_⟩
    have z : (if i < 0 then -i else i) = (i.natAbs : Int) := by split <;> omega
    rw [z]
    exact k _ _ h (.int _)
theorem lc_max : LndC K (fun xs H Q => ∃ i j, xs = [.int i, .int j] ∧ Q (.int (if j > i then j else i)) H) maxD where
  mo := fun k h => h.imp fun i j h => k _ h
  go := fun H G vs l q Q e r h k _ => by
    have hh := h.of; clear h; obtain ⟨i, j, rfl, h⟩ := hh
    obtain rfl := two_rep r
    refine ⟨i, j, rfl, ?_⟩
    have z : (if j > i then j else i) = max i j := by split <;> omega
    rw [z]
    exact k _ _ h (.int _)
theorem lc_min : LndC K (fun xs H Q => ∃ i j, xs = [.int i, .int j] ∧ Q (.int (if j < i then j else i)) H) minD where
  mo := fun k h => h.imp fun i j h => k _ h
  go := fun H G vs l q Q e r h k _ => by
    have hh := h.of; clear h; obtain ⟨i, j, rfl, h⟩ := hh
    obtain rfl := two_rep r
    refine ⟨i, j, rfl, ?_⟩
    have z : (if j < i then j else i) = min i j := by split <;> omega
    rw [z]
    exact k _ _ h (.int _)
theorem lc_int : LndC K (fun xs H Q => ((∃ i, xs = [.int i] ∧ Q (.int i) H) ∨ ∃ k, xs = [.bl k] ∧ Q (.int (if k then 1 else 0)) H) ∨ (∃ a n, xs = [.str a] ∧ PySem.intText? a = some n ∧ a.length ≤ 640 ∧ Q (.int n) H)) intC where
  mo := fun k h => h.imp fun d h => by
    split at h
    · exact k _ h
    · exact ⟨fun e => k _ (h.1 e), fun e => k _ (h.2 e)⟩
    · obtain ⟨n, h1, h2, h3⟩ := h; exact ⟨n, h1, h2, k _ h3⟩
    · exact h.elim
  go := fun H G vs l q Q e r h k _ => by
    have hh := h.of; clear h; obtain ⟨d, rfl, h⟩ := hh
    have rr := one_rep r; clear r; obtain ⟨v, rfl, r⟩ := rr
    split at h
    · cases r; exact .inl (.inl ⟨_, rfl, k _ _ h (.int _)⟩)
    · rename_i b
      cases r
      refine .inl (.inr ⟨_, rfl, ?_⟩)
      cases b with
      | true => exact k _ _ (h.1 rfl) (.int _)
      | false => exact k _ _ (h.2 rfl) (.int _)
    · cases r
      obtain ⟨n, h1, h2, h3⟩ := h
      exact .inr ⟨_, n, rfl, h1, h2, k _ _ h3 (.int _)⟩
    · exact h.elim
theorem lc_str : LndC K (fun xs H Q => ∃ i, xs = [.int i] ∧ i.natAbs.log2 < 1920 ∧ Q (.str (toString i)) H) strC where
  mo := fun k h => h.imp fun d h => h.imp fun i h => ⟨h.1, k _ h.2⟩
  go := fun H G vs l q Q e r h k _ => by
    have hh := h.of; clear h; obtain ⟨d, rfl, h⟩ := hh
    have hh := h.of; clear h; obtain ⟨i, rfl, h⟩ := hh
    have rr := one_rep r; clear r; obtain ⟨v, rfl, r⟩ := rr
    cases r
    exact ⟨i, rfl, Nat.lt_of_lt_of_le (PySem.Flt.log2_lt_of (by decide) h.1) (by decide), k _ _ h.2 (.str _)⟩
theorem lc_sum : LndC K (rSum K) sumC where
  mo := fun k h => h.imp fun d h => by
    split at h
    · obtain ⟨ns, h1, h2⟩ := h; exact ⟨ns, h1, k _ h2⟩
    · obtain ⟨ns, h1, h2⟩ := h; exact ⟨ns, h1, k _ h2⟩
    · exact h.elim
  go := fun H G vs l q Q e r h k _ => by
    have hh := h.of; clear h; obtain ⟨d, rfl, h⟩ := hh
    have rr := one_rep r; clear r; obtain ⟨v, rfl, r⟩ := rr
    split at h
    · obtain ⟨ns, rfl, h⟩ := h
      cases r with
      | lst s r =>
        obtain rfl := r.ints
        exact ⟨_, ns, rfl, .inl (.inl (e _ _ s)), k _ _ h (.int _)⟩
    · obtain ⟨ns, rfl, h⟩ := h
      cases r with
      | arr s r =>
        obtain rfl := r.ints
        exact ⟨_, ns, rfl, sqLE e s, k _ _ h (.int _)⟩
    · exact h.elim
theorem lc_tup : LndC K (fun xs H Q => ∃ p ys, xs = [.ref p] ∧ ((SqL K H p ys ∧ ∀ l, H l = none → Q (.ref l) (upd H l (.tup ys))) ∨ (SqT K H p ys ∧ Q (.ref p) H))) tupC where
  mo := fun k h => h.imp fun d h => by
    split at h
    · exact k _ h
    · exact k _ h
    · exact h.elim
  go := fun H G vs l q Q e r h k k' => by
    have hh := h.of; clear h; obtain ⟨d, rfl, h⟩ := hh
    have rr := one_rep r; clear r; obtain ⟨v, rfl, r⟩ := rr
    split at h
    · cases r with
      | lst s r => exact ⟨_, _, rfl, .inl ⟨.inl (.inl (e _ _ s)), fun p hp => k' _ _ p h hp r⟩⟩
    · cases r with
      | tup s r => exact ⟨_, _, rfl, .inr ⟨sqTE e s, k _ _ h (.tup s r)⟩⟩
    · exact h.elim
theorem lf_list : LndF K (fun xs H Q => ∃ p ys, xs = [.ref p] ∧ (SqL K H p ys ∨ SqT K H p ys) ∧ ∀ l, H l = none → Q (.ref l) (upd H l (.lst ys))) lstC where
  mo := fun k h => h.imp fun d h => by
    split at h
    · exact k _ h
    · exact k _ h
    · exact k _ h
    · exact h.elim
  go := fun H G vs l q Q e r h k => by
    have hh := h.of; clear h; obtain ⟨d, rfl, h⟩ := hh
    have rr := one_rep r; clear r; obtain ⟨v, rfl, r⟩ := rr
    split at h
    · cases r with
      | lst s r => exact ⟨_, _, rfl, .inl (.inl (.inl (e _ _ s))), fun p hp => k _ _ p h hp r⟩
    · cases r with
      | tup s r => exact ⟨_, _, rfl, .inr (sqTE e s), fun p hp => k _ _ p h hp r⟩
    · cases r with
      | arr s r => exact ⟨_, _, rfl, .inl (sqLE e s), fun p hp => k _ _ p h hp r⟩
    · exact h.elim
theorem lc_maxL : LndC K (rMax K) maxC where
  mo := fun k h => h.imp fun d h => by
    split at h
    · obtain ⟨ns, h1, h2, h3⟩ := h; exact ⟨ns, h1, h2, fun m a b => k _ (h3 m a b)⟩
    · exact h.elim
  go := fun H G vs l q Q e r h k _ => by
    have hh := h.of; clear h; obtain ⟨d, rfl, h⟩ := hh
    have rr := one_rep r; clear r; obtain ⟨v, rfl, r⟩ := rr
    split at h
    · obtain ⟨ns, rfl, h0, h⟩ := h
      cases r with
      | lst s r =>
        obtain rfl := r.ints
        exact ⟨_, ns, rfl, .inl (.inl (e _ _ s)), h0, fun m a b => k _ _ (h m a b) (.int _)⟩
    · exact h.elim
theorem lc_minL : LndC K (rMin K) minC where
  mo := fun k h => h.imp fun d h => by
    split at h
    · obtain ⟨ns, h1, h2, h3⟩ := h; exact ⟨ns, h1, h2, fun m a b => k _ (h3 m a b)⟩
    · exact h.elim
  go := fun H G vs l q Q e r h k _ => by
    have hh := h.of; clear h; obtain ⟨d, rfl, h⟩ := hh
    have rr := one_rep r; clear r; obtain ⟨v, rfl, r⟩ := rr
    split at h
    · obtain ⟨ns, rfl, h0, h⟩ := h
      cases r with
      | lst s r =>
        obtain rfl := r.ints
        exact ⟨_, ns, rfl, .inl (.inl (e _ _ s)), h0, fun m a b => k _ _ (h m a b) (.int _)⟩
    · exact h.elim
theorem lf_sort : LndF K (rSorted K) sortC where
  mo := fun k h => h.imp fun d h => by
    split at h
    · obtain ⟨ns, h1, h2, h3⟩ := h; exact ⟨ns, h1, h2, fun m a b => k _ (h3 m a b)⟩
    · exact h.elim
  go := fun H G vs l q Q e r h k => by
    have hh := h.of; clear h; obtain ⟨d, rfl, h⟩ := hh
    have rr := one_rep r; clear r; obtain ⟨v, rfl, r⟩ := rr
    split at h
    · obtain ⟨ns, rfl, h0, h⟩ := h
      cases r with
      | lst s r =>
        obtain rfl := r.ints
        exact ⟨_, ns, rfl, .inl (.inl (e _ _ s)), h0, fun ns' p a b hp => k _ _ p (h ns' a b) hp (.ofInts _)⟩
    · exact h.elim
end
section
variable {X : Cx} {W : Wp ω} {pos p : Pos} {e e2 : Expr} {ta : TAZ ω}
theorem z_len (hm : X.mg "len" = none) (ha : PAZ X W [e] ta) (hg : Gl X "len" := by rfl) (he : starEach [e] X.env = [(false, eval e X.env)] := by rfl) : PEZ X W (.Call (.Name "len" p) [e] [] pos) (zB1 lenD ta) := z_bi call_len lc_len hm PySem.boot_len ha hg (by decide) (by decide) he rfl
theorem z_abs (hm : X.mg "abs" = none) (ha : PAZ X W [e] ta) (hg : Gl X "abs" := by rfl) (he : starEach [e] X.env = [(false, eval e X.env)] := by rfl) : PEZ X W (.Call (.Name "abs" p) [e] [] pos) (zB1 absD ta) := z_bi call_abs lc_abs hm (by decide +kernel) ha hg (by decide) (by decide) he rfl
theorem z_max (hm : X.mg "max" = none) (ha : PAZ X W [e, e2] ta) (hc : X.calm = true := by rfl) (hg : Gl X "max" := by rfl) (he : starEach [e, e2] X.env = (false, eval e X.env) :: starEach [e2] X.env := by rfl) (hpl : (backTo pos (starEach [e2] X.env)).any (·.1) = false := by rfl) :
    PEZ X W (.Call (.Name "max" p) [e, e2] [] pos) (zB1 maxD ta) := z_bi (call_max2 hc) lc_max hm (by decide +kernel) ha hg (by decide) (by decide) he hpl
theorem z_min (hm : X.mg "min" = none) (ha : PAZ X W [e, e2] ta) (hc : X.calm = true := by rfl) (hg : Gl X "min" := by rfl) (he : starEach [e, e2] X.env = (false, eval e X.env) :: starEach [e2] X.env := by rfl) (hpl : (backTo pos (starEach [e2] X.env)).any (·.1) = false := by rfl) :
    PEZ X W (.Call (.Name "min" p) [e, e2] [] pos) (zB1 minD ta) := z_bi (call_min2 hc) lc_min hm (by decide +kernel) ha hg (by decide) (by decide) he hpl
theorem z_intC (hm : X.mg "int" = none) (ha : PAZ X W [e] ta) (hg : Gl X "int" := by rfl) (he : starEach [e] X.env = [(false, eval e X.env)] := by rfl) : PEZ X W (.Call (.Name "int" p) [e] [] pos) (zB1 intC ta) := z_bt (CallR.or call_int1 call_int_str) lc_int hm (by decide +kernel) ha hg (by decide) (by decide) he rfl
theorem z_strC (hm : X.mg "str" = none) (ha : PAZ X W [e] ta) (hg : Gl X "str" := by rfl) (he : starEach [e] X.env = [(false, eval e X.env)] := by rfl) : PEZ X W (.Call (.Name "str" p) [e] [] pos) (zB1 strC ta) := z_bt call_str_int lc_str hm (by decide +kernel) ha hg (by decide) (by decide) he rfl
theorem z_sum (hm : X.mg "sum" = none) (ha : PAZ X W [e] ta) (hc : X.calm = true := by rfl) (hg : Gl X "sum" := by rfl) (he : starEach [e] X.env = [(false, eval e X.env)] := by rfl) : PEZ X W (.Call (.Name "sum" p) [e] [] pos) (zB1 sumC ta) := z_bi (cr_sum hc) lc_sum hm (by decide +kernel) ha hg (by decide) (by decide) he rfl
theorem z_tupC (hm : X.mg "tuple" = none) (ha : PAZ X W [e] ta) (hg : Gl X "tuple" := by rfl) (he : starEach [e] X.env = [(false, eval e X.env)] := by rfl) : PEZ X W (.Call (.Name "tuple" p) [e] [] pos) (zB1 tupC ta) := z_bt call_tuple_of lc_tup hm (by decide +kernel) ha hg (by decide) (by decide) he rfl
theorem z_lstC (hm : X.mg "list" = none) (ha : PAZ X W [e] ta) (hg : Gl X "list" := by rfl) (he : starEach [e] X.env = [(false, eval e X.env)] := by rfl) : PFZ X W (.Call (.Name "list" p) [e] [] pos) (zBF lstC ta) := z_btf call_list_of lf_list hm (by decide +kernel) ha hg (by decide) (by decide) he rfl
theorem z_maxC (hm : X.mg "max" = none) (ha : PAZ X W [e] ta) (hc : X.calm = true := by rfl) (hg : Gl X "max" := by rfl) (he : starEach [e] X.env = [(false, eval e X.env)] := by rfl) : PEZ X W (.Call (.Name "max" p) [e] [] pos) (zB1 maxC ta) := z_bi (cr_max hc) lc_maxL hm (by decide +kernel) ha hg (by decide) (by decide) he rfl
theorem z_minC (hm : X.mg "min" = none) (ha : PAZ X W [e] ta) (hc : X.calm = true := by rfl) (hg : Gl X "min" := by rfl) (he : starEach [e] X.env = [(false, eval e X.env)] := by rfl) : PEZ X W (.Call (.Name "min" p) [e] [] pos) (zB1 minC ta) := z_bi (cr_min hc) lc_minL hm (by decide +kernel) ha hg (by decide) (by decide) he rfl
theorem z_sort (hm : X.mg "sorted" = none) (ha : PAZ X W [e] ta) (hg : Gl X "sorted" := by rfl) (he : starEach [e] X.env = [(false, eval e X.env)] := by rfl) : PFZ X W (.Call (.Name "sorted" p) [e] [] pos) (zBF sortC ta) := z_bif cr_sorted lf_sort hm (by decide +kernel) ha hg (by decide) (by decide) he rfl
end

/-! ### is None, isinstance -/
def isNon : D → Bool | .non => true | _ => false
def isND : OpD := fun x y q => match y with | .non => q (.bl (isNon x)) | _ => False
def notND : OpD := fun x y q => match y with | .non => q (.bl (!isNon x)) | _ => False
theorem isNon_rep {K : PySem.W.Frag} {G : Hp} {v : V} {d : D} (r : Rep K G v d) : decide (v = .non) = isNon d := by cases r <;> rfl
section
variable {K : PySem.W.Frag}
theorem l_isN : Lnd K (fun x y H Q => y = .non ∧ Q (.bl (decide (x = .non))) H) isND where
  mo := fun {x y q q'} k h => by
    unfold isND at h ⊢
    split at h
    · exact k _ h
    · exact h.elim
  go := fun H G x y dx dy q Q e rx ry h k _ => by
    unfold isND at h
    split at h
    · cases ry
      exact ⟨rfl, by rw [isNon_rep rx]; exact k _ _ h (.bl _)⟩
    · exact h.elim
theorem l_notN : Lnd K (fun x y H Q => y = .non ∧ Q (.bl (!decide (x = .non))) H) notND where
  mo := fun {x y q q'} k h => by
    unfold notND at h ⊢
    split at h
    · exact k _ h
    · exact h.elim
  go := fun H G x y dx dy q Q e rx ry h k _ => by
    unfold notND at h
    split at h
    · cases ry
      exact ⟨rfl, by rw [isNon_rep rx]; exact k _ _ h (.bl _)⟩
    · exact h.elim
end
def tyN : D → Option String
  | .non => some "NoneType" | .bl _ => some "bool" | .int _ => some "int" | .str _ => some "str" | .tup _ => some "tuple" | .lst _ => some "list" | .arr _ => some "list" | .ref _ => none | .exc _ => none
theorem tyX_of {K : PySem.W.Frag} {G H : Hp} (e : Ext G H) {v : V} {d : D} (r : Rep K G v d) {t : String} (h : tyN d = some t) : TyX K H v (.type t) := by
  cases r with
  | non => cases h; exact .base .non
  | bl b => cases h; exact .base (.bl b)
  | int i => cases h; exact .base (.int i)
  | str x => cases h; exact .base (.str x)
  | tup s r =>
    cases h
    rcases s with (s | ⟨o, s⟩) | ⟨o, its, n, s, c, _⟩
    · exact .base (.tup (e _ _ s))
    · exact .fTuple (e _ _ s)
    · exact .kTuple s c
  | lst s r => cases h; exact .base (.lst (e _ _ s))
  | arr s r =>
    cases h
    rcases s with (s | ⟨o, s⟩) | ⟨o, its, n, s, c, _⟩
    · exact .base (.lst (e _ _ s))
    · exact .base (.frz (e _ _ s))
    · exact .kList s c
  | ref p => cases h
  | exc _ => cases h
/-- isinstance(x, T), T built in; f its answer -/
def zIs (f : D → Option Bool) (te : TEZ ω) : TEZ ω := fun δ w Q E => te δ w (fun d w1 => match f d with | some b => Q (.bl b) w1 | none => False) E
section
variable {X : Cx} {W : Wp ω} {pos p p2 : Pos} {e : Expr} {te : TEZ ω}
theorem z_isT {x : Str} {T : String} {f : D → Option Bool} (hf : ∀ d b, f d = some b → ∃ t, tyN d = some t ∧ kitB t T = some b) (hm : X.mg "isinstance" = none) (hm2 : X.mg x = none) (hv : bootBuiltins x = some (.type T)) (he : PEZ X W e te) (hg : Gl X "isinstance" := by rfl) (hg2 : Gl X x := by rfl)
    (hn : x ≠ "__name__" := by decide) (hdb : (x == ("__debug__" : Str)) = false := by decide) (hs : starEach [e, .Name x p2] X.env = (false, eval e X.env) :: starEach [.Name x p2] X.env := by rfl) (hs2 : starEach [.Name x p2] X.env = (false, eval (.Name x p2) X.env) :: starEach [] X.env := by rfl)
    (hpl : (backTo pos (starEach [.Name x p2] X.env)).any (·.1) = false := by rfl) : PEZ X W (.Call (.Name "isinstance" p) [e, .Name x p2] [] pos) (zIs f te) :=
  ⟨fun k h => he.mo (fun d w1 h1 => by
    split at h1
    · exact k _ _ h1
    · exact h1.elim) h, fun Z ex tk => peI (pe_callB call_isi hg hm (by decide +kernel) (pa_cons (he.run Z ex tk) (pa_cons (pe_bltn (v := .ty T) hg2 hm2 hv rfl hn hdb) pa_nil hs2) hs) (by decide) (by decide) hs hpl) fun σ H Q ⟨G, M, δ, w, a, h⟩ =>
    ⟨G, M, δ, w, a, he.mo (fun d w1 h1 v H1 G1 M1 o1 r1 => by
      split at h1
      · rename_i b hb
        obtain ⟨t, h2, h3⟩ := hf d b hb
        exact ⟨v, .ty T, .type t, .type T, b, rfl, .ty T, tyX_of o1.pt.gh r1 h2, kit_ty h3, h1 _ H1 G1 M1 o1 (.bl b)⟩
      · exact h1.elim) h⟩⟩
def isInt : D → Option Bool | .int _ => some true | .bl _ => some true | .ref _ => none | .exc _ => none | _ => some false
def isBool : D → Option Bool | .bl _ => some true | .ref _ => none | .exc _ => none | _ => some false
def isStr : D → Option Bool | .str _ => some true | .ref _ => none | .exc _ => none | _ => some false
def isTup : D → Option Bool | .tup _ => some true | .ref _ => none | .exc _ => none | _ => some false
def isLst : D → Option Bool | .lst _ => some true | .arr _ => some true | .ref _ => none | .exc _ => none | _ => some false
theorem isInt_ok (d : D) (b : Bool) (h : isInt d = some b) : ∃ t, tyN d = some t ∧ kitB t "int" = some b := by
  cases d <;> cases h <;> exact ⟨_, rfl, by decide +kernel⟩
theorem isBool_ok (d : D) (b : Bool) (h : isBool d = some b) : ∃ t, tyN d = some t ∧ kitB t "bool" = some b := by
  cases d <;> cases h <;> exact ⟨_, rfl, by decide +kernel⟩
theorem isStr_ok (d : D) (b : Bool) (h : isStr d = some b) : ∃ t, tyN d = some t ∧ kitB t "str" = some b := by
  cases d <;> cases h <;> exact ⟨_, rfl, by decide +kernel⟩
theorem isTup_ok (d : D) (b : Bool) (h : isTup d = some b) : ∃ t, tyN d = some t ∧ kitB t "tuple" = some b := by
  cases d <;> cases h <;> exact ⟨_, rfl, by decide +kernel⟩
theorem isLst_ok (d : D) (b : Bool) (h : isLst d = some b) : ∃ t, tyN d = some t ∧ kitB t "list" = some b := by
  cases d <;> cases h <;> exact ⟨_, rfl, by decide +kernel⟩
theorem boot_int' : bootBuiltins "int" = some (.type "int") := by decide +kernel
theorem boot_bool' : bootBuiltins "bool" = some (.type "bool") := by decide +kernel
theorem boot_str' : bootBuiltins "str" = some (.type "str") := by decide +kernel
theorem boot_tuple' : bootBuiltins "tuple" = some (.type "tuple") := by decide +kernel
theorem boot_list' : bootBuiltins "list" = some (.type "list") := by decide +kernel
end

/-! ### slices -/
abbrev TOZ (ω : Type) := List Sl → ω → (Option Int → ω → Prop) → (Nat → ω → Prop) → Prop
def zON : TOZ ω := fun _ w Q _ => Q none w
def zOS (te : TEZ ω) : TOZ ω := fun δ w Q E => te δ w (fun d w1 => intD d fun k => Q (some k) w1) E
def liO (K : PySem.W.Frag) (W : Wp ω) (Z : Zx) (ex : Nat → List Sl → ω → Prop) (te : TOZ ω) : TO := fun σ H Q => ∃ G M δ w, SR K W Z σ H G M δ w ∧ te δ w (fun b w' => ∀ H' G' M', Go W H G M H' G' M' w' → Q b H') (fun e w' => ex e δ w')
structure POZ (X : Cx) (W : Wp ω) (e : Option Expr) (te : TOZ ω) : Prop where
  mo : Mo te
  run : ∀ (Z : Zx) (ex : Nat → List Sl → ω → Prop), Takes X (WXz X.K W Z ex) → PO X e (liO X.K W Z ex te)
theorem poI {X : Cx} {e : Option Expr} {t u : TO} (h : PO X e u) (i : ∀ σ H Q, t σ H Q → u σ H Q) : PO X e t := ⟨fun pins s σ H Q I q => h.run pins s σ H Q I (i _ _ _ q)⟩
section
variable {X : Cx} {W : Wp ω} {pos p p2 : Pos} {e : Expr} {te : TEZ ω} {lo hi : Option Expr} {tl th : TOZ ω}
theorem z_oN : POZ X W none zON := ⟨fun k h => k _ _ h, fun Z ex tk => poI po_none fun σ H Q ⟨G, M, δ, w, a, h⟩ => h H G M a.here⟩
theorem z_oS (h : PEZ X W e te) : POZ X W (some e) (zOS te) := ⟨fun k q => h.mo (fun d w1 q1 => q1.imp fun i q2 => k _ _ q2) q, fun Z ex tk => poI (po_some (h.run Z ex tk)) fun σ H Q ⟨G, M, δ, w, a, q⟩ =>
  ⟨G, M, δ, w, a, h.mo (fun d w1 q1 v H1 G1 M1 o1 r1 => by
    obtain ⟨i, rfl, q2⟩ := q1.of
    cases r1
    exact ⟨i, rfl, q2 H1 G1 M1 o1⟩) q⟩⟩
def cutD (l : List D) (lo hi : Option Int) : List D := (l.drop (HT.sIx l.length 0 lo)).take (HT.sIx l.length l.length hi - HT.sIx l.length 0 lo)
def seqD (d : D) (f : List D → Prop) : Prop := match d with | .lst l => f l | .arr l => f l | _ => False
theorem seqD.imp {d : D} {f g : List D → Prop} (k : ∀ l, f l → g l) (h : seqD d f) : seqD d g := by cases d <;> first | exact k _ h | exact h
theorem seqD.of {K : PySem.W.Frag} {G : Hp} {v : V} {d : D} {f : List D → Prop} (h : seqD d f) (r : Rep K G v d) : ∃ p vs l, v = .ref p ∧ SqL K G p vs ∧ RepL K G vs l ∧ f l := by
  cases d with
  | lst l => cases r with | lst s r => exact ⟨_, _, _, rfl, .inl (.inl s), r, h⟩
  | arr l => cases r with | arr s r => exact ⟨_, _, _, rfl, s, r, h⟩
  | _ => exact False.elim h
/-- xs[lo:hi], a new list -/
def zSlL (te : TEZ ω) (tl th : TOZ ω) : TAZ ω := fun δ w Q E => te δ w (fun d w1 => tl δ w1 (fun a w2 => th δ w2 (fun b w3 => seqD d fun l => Q (cutD l a b) w3) E) E) E
theorem z_slL (he : PEZ X W e te) (hl : POZ X W lo tl) (hu : POZ X W hi th) : PFZ X W (.Subscript e (.Slice lo hi none p2) pos) (zSlL te tl th) :=
  ⟨fun k h => he.mo (fun _ _ h1 => hl.mo (fun _ _ h2 => hu.mo (fun _ _ h3 => h3.imp fun l q => k _ _ q) h2) h1) h, fun Z ex tk => peI (pe_slice sl_list (he.run Z ex tk) (hl.run Z ex tk) (hu.run Z ex tk)) fun σ H Q ⟨G, M, δ, w, a, h⟩ =>
    ⟨G, M, δ, w, a, he.mo (fun d w1 h1 v H1 G1 M1 o1 r1 => ⟨G1, M1, δ, w1, a.go o1, hl.mo (fun lo w2 h2 H2 G2 M2 o2 => ⟨G2, M2, δ, w2, a.go (o1.tr o2), hu.mo (fun hi w3 h3 H3 G3 M3 o3 => by
      obtain ⟨p, vs, l, rfl, s, r, q⟩ := h3.of r1
      have e3 := (o2.tr o3).nx.gg
      refine ⟨p, vs, rfl, sqLE (e3.tr o3.pt.gh) s, fun p' hp => ?_⟩
      have r3 : RepL X.K G3 (cutV vs lo hi) (cutD l lo hi) := by
        unfold cutV cutD
        rw [r.len]
        exact (((r.up e3).drop _).take _)
      exact q p' _ _ _ _ ((((o1.tr o2).tr o3)).laid hp) r3 (.of ((o1.tr o2).tr o3) a.pt.mh hp)) h2⟩) h1⟩) h⟩⟩
/-- s[lo:hi], a text -/
def zSlS (te : TEZ ω) (tl th : TOZ ω) : TEZ ω := fun δ w Q E => te δ w (fun d w1 => tl δ w1 (fun a w2 => th δ w2 (fun b w3 => match d with | .str z => z.length ≤ 16777216 ∧ Q (.str (cutS z a b)) w3 | _ => False) E) E) E
theorem z_slS (he : PEZ X W e te) (hl : POZ X W lo tl) (hu : POZ X W hi th) : PEZ X W (.Subscript e (.Slice lo hi none p2) pos) (zSlS te tl th) :=
  ⟨fun k h => he.mo (fun d _ h1 => hl.mo (fun _ _ h2 => hu.mo (fun _ _ h3 => by
    split at h3
    · exact ⟨h3.1, k _ _ h3.2⟩
    · exact h3.elim) h2) h1) h, fun Z ex tk => peI (pe_slice sl_str (he.run Z ex tk) (hl.run Z ex tk) (hu.run Z ex tk)) fun σ H Q ⟨G, M, δ, w, a, h⟩ =>
    ⟨G, M, δ, w, a, he.mo (fun d w1 h1 v H1 G1 M1 o1 r1 => ⟨G1, M1, δ, w1, a.go o1, hl.mo (fun lo w2 h2 H2 G2 M2 o2 => ⟨G2, M2, δ, w2, a.go (o1.tr o2), hu.mo (fun hi w3 h3 H3 G3 M3 o3 => by
      split at h3
      · cases r1
        exact ⟨_, rfl, by rw [sizeLine_eq]; exact h3.1, h3.2 _ H3 G3 M3 ((o1.tr o2).tr o3) (.str _)⟩
      · exact h3.elim) h2⟩) h1⟩) h⟩⟩
/-- t[lo:hi], a tuple, not the whole of it -/
def zSlT (te : TEZ ω) (tl th : TOZ ω) : TEZ ω := fun δ w Q E => te δ w (fun d w1 => tl δ w1 (fun a w2 => th δ w2 (fun b w3 => match d with | .tup l => ¬ (HT.sIx l.length 0 a = 0 ∧ HT.sIx l.length l.length b = l.length) ∧ Q (.tup (cutD l a b)) w3 | _ => False) E) E) E
theorem z_slT (he : PEZ X W e te) (hl : POZ X W lo tl) (hu : POZ X W hi th) : PEZ X W (.Subscript e (.Slice lo hi none p2) pos) (zSlT te tl th) :=
  ⟨fun k h => he.mo (fun d _ h1 => hl.mo (fun _ _ h2 => hu.mo (fun _ _ h3 => by
    split at h3
    · exact ⟨h3.1, k _ _ h3.2⟩
    · exact h3.elim) h2) h1) h, fun Z ex tk => peI (pe_slice sl_tup (he.run Z ex tk) (hl.run Z ex tk) (hu.run Z ex tk)) fun σ H Q ⟨G, M, δ, w, a, h⟩ =>
    ⟨G, M, δ, w, a, he.mo (fun d w1 h1 v H1 G1 M1 o1 r1 => ⟨G1, M1, δ, w1, a.go o1, hl.mo (fun lo w2 h2 H2 G2 M2 o2 => ⟨G2, M2, δ, w2, a.go (o1.tr o2), hu.mo (fun hi w3 h3 H3 G3 M3 o3 => by
      cases d with
      | tup l =>
        cases r1 with
        | @tup p vs _ s r =>
          have e3 := (o2.tr o3).nx.gg
          refine ⟨p, vs, rfl, sqTE (e3.tr o3.pt.gh) s, by rw [r.len]; exact h3.1, fun p' hp => ?_⟩
          have r3 : RepL X.K G3 (cutV vs lo hi) (cutD l lo hi) := by
            unfold cutV cutD
            rw [r.len]
            exact (((r.up e3).drop _).take _)
          exact h3.2 (.ref p') _ _ _ (((o1.tr o2).tr o3).new hp) (.tup (SqT.of upd_same) (r3.up (o3.ext hp)))
      | _ => exact False.elim h3) h2⟩) h1⟩) h⟩⟩
/-- xs[::-1] -/
def zRev (te : TEZ ω) : TAZ ω := fun δ w Q E => te δ w (fun d w1 => seqD d fun l => Q l.reverse w1) E
theorem z_rev {k : Nat} {p1 p3 : Pos} (he : PEZ X W e te) : PFZ X W (.Subscript e (.Slice none none (some (.UnaryOp .USub (.Constant (.int 1) k p1) p2)) p3) pos) (zRev te) :=
  ⟨fun k h => he.mo (fun d w1 h1 => h1.imp fun l q => k _ _ q) h, fun Z ex tk => peI (pe_revL (he.run Z ex tk)) fun σ H Q ⟨G, M, δ, w, a, h⟩ =>
    ⟨G, M, δ, w, a, he.mo (fun d w1 h1 v H1 G1 M1 o1 r1 => by
      obtain ⟨p, vs, l, rfl, s, r, q⟩ := h1.of r1
      exact ⟨p, vs, rfl, sqLE o1.pt.gh s, fun p' hp => q p' _ _ _ _ (o1.laid hp) r.rev (.of o1 a.pt.mh hp)⟩) h⟩⟩
/-- xs + ys, a new list -/
def zCat (ta tb : TEZ ω) : TAZ ω := fun δ w Q E => ta δ w (fun x w1 => tb δ w1 (fun y w2 => match x, y with | .lst l, .lst m => l.length + m.length ≤ 100000 ∧ Q (l ++ m) w2 | _, _ => False) E) E
theorem z_cat {a b : Expr} {ta tb : TEZ ω} (ha : PEZ X W a ta) (hb : PEZ X W b tb) : PFZ X W (.BinOp a .Add b pos) (zCat ta tb) :=
  ⟨fun k h => ha.mo (fun _ _ h1 => hb.mo (fun _ _ h2 => by
    split at h2
    · exact ⟨h2.1, k _ _ h2.2⟩
    · exact h2.elim) h1) h, fun Z ex tk => peI (pe_op op_cat (ha.run Z ex tk) (hb.run Z ex tk)) fun σ H Q ⟨G, M, δ, w, a0, h⟩ =>
    ⟨G, M, δ, w, a0, ha.mo (fun d w1 h1 v H1 G1 M1 o1 r1 => ⟨G1, M1, δ, w1, a0.go o1, hb.mo (fun d2 w2 h2 v2 H2 G2 M2 o2 r2 => by
      split at h2
      · cases r1 with
        | lst s r =>
          cases r2 with
          | lst s2 r2 =>
            refine ⟨_, _, _, _, rfl, rfl, o2.pt.gh _ _ (o2.nx.gg _ _ s), o2.pt.gh _ _ s2, sz1 (by rw [r.len, r2.len]; exact h2.1), fun p hp => ?_⟩
            exact h2.2 p _ _ _ _ ((o1.tr o2).laid hp) ((r.up o2.nx.gg).app r2) (.of (o1.tr o2) a0.pt.mh hp)
      · exact h2.elim) h1⟩) h⟩⟩
end
end Z

namespace Z
open PySem PySem.Spec PyProof.Rows L2
variable {ω : Type}

/-! ### comprehensions -/
def NoE : Nat → ω → Prop := fun _ _ => False
/-- no test -/
def zYes : TTZ ω := fun _ w Q _ => Q true w
/-- one turn after another; vs: the comprehension's own slots -/
def zComp (l : List D) (gz : TGZ) (tt : TTZ ω) (te : TEZ ω) (vs : List Nat) (δ : List Sl) (w : ω) (Q : List D → ω → Prop) : Prop :=
  l.length ≤ 100000 ∧ ∃ I : Nat → List D → ω → Prop, I 0 [] w ∧ (∀ i d acc w', l[i]? = some d → I i acc w' → gz d (wipeZ δ vs) fun δ2 => tt δ2 w' (fun b w2 => (b = true → te δ2 w2 (fun y w3 => I (i + 1) (acc ++ [y]) w3) NoE) ∧ (b = false → I (i + 1) acc w2)) NoE) ∧
    ∀ acc w', I l.length acc w' → Q acc w'
theorem zComp.imp {l : List D} {gz : TGZ} {tt : TTZ ω} {te : TEZ ω} {vs : List Nat} {δ : List Sl} {w : ω} {Q Q' : List D → ω → Prop} (k : ∀ l w, Q l w → Q' l w) (h : zComp l gz tt te vs δ w Q) : zComp l gz tt te vs δ w Q' := by
  obtain ⟨h0, I, h1, h2, h3⟩ := h
  exact ⟨h0, I, h1, h2, fun acc w' q => k _ _ (h3 acc w' q)⟩
def rngD (lo : Int) (n : Nat) : List D := (List.range n).map fun (i : Nat) => .int (lo + (i : Int))
theorem rngD_at {lo : Int} {n i : Nat} (h : i < n) : (rngD lo n)[i]? = some (.int (lo + (i : Int))) := by
  unfold rngD
  rw [List.getElem?_map, List.getElem?_range h]
  rfl
theorem rngD_len (lo : Int) (n : Nat) : (rngD lo n).length = n := by unfold rngD; rw [List.length_map, List.length_range]
/-- a target whose slots are wiped behind it -/
def Wiped (g : TG) (vs : List Nat) : Prop := ∀ (x : V) (σ : L2.St) (H : Hp) (Q : L2.St → Hp → Prop), g x (L2.wipe σ vs) H Q → g x (L2.wipe σ vs) H fun σ2 H2 => L2.wipe σ2 vs = L2.wipe σ vs ∧ Q σ2 H2
theorem wiped_name (j : Nat) : Wiped (gName j) [j] := fun x σ H Q h => ⟨by show ((σ.set j none).set j (some x)).set j none = σ.set j none; rw [List.set_set, List.set_set], h⟩
/-- the context of a comprehension's block lets nothing out -/
theorem tkN {Y : Cx} {W : Wp ω} {Z : Zx} : Takes Y (WXz Y.K W Z fun _ _ _ => False) := takes0.imp fun c d σ H ⟨_, e, _, G, M, δ, w, a, q⟩ => q.elim
structure CompOk (X : Cx) (W : Wp ω) (scope : Scope) (tg elt : Expr) (ifs : List Expr) (g : TG) (gz : TGZ) (tt : TTZ ω) (te : TEZ ω) : Prop where
  hg : ∀ (s : Shared) (H : Hp) (C : Addr) (cl : List (Str × Addr)) (fp : List Addr), PG (X.blk s H scope (compEnvC scope cl C X.env) fp) tg g
  gg : GoG X.K g gz
  ht : ∀ (s : Shared) (H : Hp) (C : Addr) (cl : List (Str × Addr)) (fp : List Addr) (Z : Zx), PTs (X.blk s H scope (compEnvC scope cl C X.env) fp) ifs (liT X.K W Z (fun _ _ _ => False) tt)
  mt : Shared → Mo tt
  he : ∀ (s : Shared) (H : Hp) (C : Addr) (cl : List (Str × Addr)) (fp : List Addr), PEZ (X.blk s H scope (compEnvC scope cl C X.env) fp) W elt te
  mo : Shared → Mo te
def liN (K : PySem.W.Frag) (W : Wp ω) (te : TEZ ω) : TE := fun σ H Q => ∃ Z, liE K W Z (fun _ _ _ => False) te σ H Q
def liNT (K : PySem.W.Frag) (W : Wp ω) (te : TTZ ω) : TT := fun σ H Q => ∃ Z, liT K W Z (fun _ _ _ => False) te σ H Q
section
variable {X : Cx} {W : Wp ω} {pos : Pos} {scope : Scope} {tg elt iter : Expr} {ifs : List Expr} {g : TG} {gz : TGZ} {tt : TTZ ω} {te : TEZ ω} {own : List (Str × Nat)}
theorem CompOk.pe (C : CompOk X W scope tg elt ifs g gz tt te) (s : Shared) (H : Hp) (Ca : Addr) (cl : List (Str × Addr)) (fp : List Addr) : PE (X.blk s H scope (compEnvC scope cl Ca X.env) fp) elt (liN X.K W te) :=
  ⟨fun pins s' σ H' Q I ⟨Z, q⟩ => ((C.he s H Ca cl fp).run Z _ tkN).run pins s' σ H' Q I q⟩
theorem CompOk.pt (C : CompOk X W scope tg elt ifs g gz tt te) (s : Shared) (H : Hp) (Ca : Addr) (cl : List (Str × Addr)) (fp : List Addr) : PTs (X.blk s H scope (compEnvC scope cl Ca X.env) fp) ifs (liNT X.K W tt) :=
  ⟨fun pins s' σ H' Q I ⟨Z, q⟩ => (C.ht s H Ca cl fp Z).run pins s' σ H' Q I q⟩
/-- the list at D grows; all else stands -/
def CInv (K : PySem.W.Frag) (W : Wp ω) (H G M : Hp) (Dl : Addr) (I : Nat → List D → ω → Prop) (i : Nat) (H' : Hp) : Prop :=
  ∃ G' M' w' vs acc, Go W H G M H' G' M' w' ∧ NewAt H H' G' M' Dl vs ∧ RepL K G' vs acc ∧ acc.length ≤ i ∧ I i acc w'
theorem comp_turn {Z : Zx} {σ : L2.St} {H G M : Hp} {δ : List Sl} {w : ω} {Dl : Addr} {I : Nat → List D → ω → Prop} {i : Nat} {H' : Hp} {d : D} {v : V} {vs : List Nat} (hgz : GoG X.K g gz) (mt : Mo tt) (mo : Mo te) (hw : Wiped g vs) (a : SR X.K W Z σ H G M δ w) (hi : i < 100000) (rv : Rep X.K G v d) (c : CInv X.K W H G M Dl I i H')
    (hs : ∀ acc w', I i acc w' → gz d (wipeZ δ vs) fun δ2 => tt δ2 w' (fun b w2 => (b = true → te δ2 w2 (fun y w3 => I (i + 1) (acc ++ [y]) w3) NoE) ∧ (b = false → I (i + 1) acc w2)) NoE) :
    g v (L2.wipe σ vs) H' fun σ2 H2 => L2.wipe σ2 vs = L2.wipe σ vs ∧ liNT X.K W tt σ2 H2 fun b H3 =>
      if b = true then liN X.K W te σ2 H3 fun y H4 => ∃ acc, H4 Dl = some (.lst acc) ∧ acc.length < sizeLine ∧ CInv X.K W H G M Dl I (i + 1) (upd H4 Dl (.lst (acc ++ [y]))) else CInv X.K W H G M Dl I (i + 1) H3 := by
  obtain ⟨G1, M1, w1, us, acc, o1, n1, r1, hl, q⟩ := c
  refine hw v σ H' _ ?_
  have a1 := (a.go o1).wipe vs
  refine hgz.go W Z (L2.wipe σ vs) H' G1 M1 (wipeZ δ vs) w1 v d _ _ a1 (rv.up o1.nx.gg) (hs acc w1 q) fun σ2 δ2 q2 a2 => ?_
  -- what grows is changed at Dl alone
  have grow : ∀ {H3 G3 M3 : Hp} {w3 : ω} {u : V} {y : D}, Go W H' G1 M1 H3 G3 M3 w3 → Rep X.K G3 u y → I (i + 1) (acc ++ [y]) w3 → ∃ acc, H3 Dl = some (.lst acc) ∧ acc.length < sizeLine ∧ CInv X.K W H G M Dl I (i + 1) (upd H3 Dl (.lst (acc ++ [u]))) := by
    intro H3 G3 M3 w3 u y o3 ru qi
    obtain ⟨m1, m2, m3, m4⟩ := n1
    have h3 := o3.nx.fr Dl _ m2 m4
    have g3 : G3 Dl = none := by
      cases z : G3 Dl with
      | none => rfl
      | some t => rw [o3.nx.gn Dl t z m3] at m2; cases m2
    have k3 : M3 Dl = none := by
      cases z : M3 Dl with
      | none => rfl
      | some t => rw [o3.nx.mn Dl t z m4] at m2; cases m2
    have r3 := r1.up o3.nx.gg
    have o := o1.tr o3
    refine ⟨us, h3, by rw [r1.len, sizeLine_eq]; omega, G3, M3, w3, us ++ [u], acc ++ [y], ⟨⟨fun p x e => ?_, fun p x e => ?_, o.pt.dj, o.pt.wd⟩, ⟨o.nx.gg, fun p x e e' => ?_, o.nx.gn, o.nx.mn, o.nx.m0⟩⟩, ⟨m1, upd_same, g3, k3⟩, r3.app (.cons ru .nil), by rw [List.length_append]; exact Nat.succ_le_succ hl, qi⟩
    · rw [upd_ne (ne_of_none e g3)]; exact o.pt.gh p x e
    · rw [upd_ne (ne_of_none e k3)]; exact o.pt.mh p x e
    · rw [upd_ne (ne_of_none e m1)]; exact o.nx.fr p x e e'
  refine ⟨Z, G1, M1, δ2, w1, a2, mt (fun b w2 q3 H3 G3 M3 o3 => ?_) q2⟩
  cases b with
  | true =>
    rw [if_pos rfl]
    refine ⟨Z, G3, M3, δ2, w2, a2.go o3, mo (fun y w4 q4 u H4 G4 M4 o4 r4 => grow (o3.tr o4) r4 q4) (q3.1 rfl)⟩
  | false =>
    rw [if_neg Bool.false_ne_true]
    obtain ⟨m1, m2, m3, m4⟩ := n1
    refine ⟨G3, M3, w2, us, acc, o1.tr o3, ⟨m1, o3.nx.fr Dl _ m2 m4, ?_, ?_⟩, r1.up o3.nx.gg, Nat.le_succ_of_le hl, q3.2 rfl⟩
    · cases z : G3 Dl with
      | none => rfl
      | some t => rw [o3.nx.gn Dl t z m3] at m2; cases m2
    · cases z : M3 Dl with
      | none => rfl
      | some t => rw [o3.nx.mn Dl t z m4] at m2; cases m2
theorem c_start {K : PySem.W.Frag} {W : Wp ω} {H G M : Hp} {w : ω} {Dl : Addr} {I : Nat → List D → ω → Prop} (p : Pt W H G M w) (hD : H Dl = none) (h : I 0 [] w) : CInv K W H G M Dl I 0 (upd H Dl (.lst [])) := by
  have o : Go W H G M H G M w := ⟨p, .rfl'⟩
  exact ⟨G, M, w, [], [], o.laid hD, .of o p.mh hD, .nil, Nat.le_refl _, h⟩
/-- [elt for x in xs if ..], xs a list; a tuple; a range -/
def zLcL (ti : TEZ ω) (gz : TGZ) (tt : TTZ ω) (te : TEZ ω) (vs : List Nat) : TAZ ω := fun δ w Q E => ti δ w (fun d w1 => seqD d fun l => zComp l gz tt te vs δ w1 Q) E
def zLcT (ti : TEZ ω) (gz : TGZ) (tt : TTZ ω) (te : TEZ ω) (vs : List Nat) : TAZ ω := fun δ w Q E => ti δ w (fun d w1 => match d with | .tup l => zComp l gz tt te vs δ w1 Q | _ => False) E
def zLcR1 (ta : TAZ ω) (gz : TGZ) (tt : TTZ ω) (te : TEZ ω) (vs : List Nat) : TAZ ω := fun δ w Q E => ta δ w (fun l w1 => oneD l fun d => intD d fun n => zComp (rngD 0 n.toNat) gz tt te vs δ w1 Q) E
def zLcR2 (ta : TAZ ω) (gz : TGZ) (tt : TTZ ω) (te : TEZ ω) (vs : List Nat) : TAZ ω := fun δ w Q E => ta δ w (fun l w1 => twoI l fun m n => zComp (rngD m (n - m).toNat) gz tt te vs δ w1 Q) E
theorem imp_lcL {ti : TEZ ω} {vs : List Nat} {Z : Zx} {ex : Nat → List Sl → ω → Prop} (hi : PEZ X W iter ti) (s0 : Shared) (C : CompOk X W scope tg elt ifs g gz tt te) (hw : Wiped g vs) {σ : L2.St} {H : Hp} {Q : VK} (h : liF X.K W Z ex (zLcL ti gz tt te vs) σ H Q) :
    tLc (iList X.K (liE X.K W Z ex ti)) g (liNT X.K W tt) (liN X.K W te) vs σ H Q := by
  obtain ⟨G, M, δ, w, a, h⟩ := h
  refine ⟨G, M, δ, w, a, hi.mo (fun d w1 h1 v H1 G1 M1 o1 r1 => ?_) h⟩
  obtain ⟨p, us, l, rfl, s, r, hlen, I, i0, is, id⟩ := h1.of r1
  have a1 := a.go o1
  refine ⟨p, rfl, ⟨us, sqLE o1.pt.gh s⟩, fun Dl hD => ?_⟩
  refine lc_list (K := X.K) (a := p) (xs := us) (CInv X.K W H1 G1 M1 Dl I) (c_start o1.pt hD i0) ?_ ?_ ?_
  · rintro i H2 _ ⟨G2, M2, w2, us2, acc, o2, n2, r2, q2⟩
    exact sqLE (o2.nx.gg.tr o2.pt.gh) s
  · intro i x H2 hx c
    obtain ⟨d2, hd, rd⟩ := r.getV hx
    exact comp_turn C.gg (C.mt s0) (C.mo s0) hw a1 (by have := (List.getElem?_eq_some_iff.mp hd).1; omega) rd c fun acc w' q => is i d2 acc w' hd q
  · rintro H2 ⟨G2, M2, w2, us2, acc, o2, n2, r2, hl2, q2⟩
    rw [r.len] at q2
    exact id acc w2 q2 Dl us2 H2 G2 M2 (o1.tr o2) r2 ⟨o1.nx.back o1.pt.mh hD, n2.2⟩
theorem imp_lcT {ti : TEZ ω} {vs : List Nat} {Z : Zx} {ex : Nat → List Sl → ω → Prop} (hi : PEZ X W iter ti) (s0 : Shared) (C : CompOk X W scope tg elt ifs g gz tt te) (hw : Wiped g vs) {σ : L2.St} {H : Hp} {Q : VK} (h : liF X.K W Z ex (zLcT ti gz tt te vs) σ H Q) :
    tLc (iTup X.K (liE X.K W Z ex ti)) g (liNT X.K W tt) (liN X.K W te) vs σ H Q := by
  obtain ⟨G, M, δ, w, a, h⟩ := h
  refine ⟨G, M, δ, w, a, hi.mo (fun d w1 h1 v H1 G1 M1 o1 r1 => ?_) h⟩
  cases d with
  | tup l =>
    cases r1 with
    | @tup p us _ s r =>
      obtain ⟨hlen, I, i0, is, id⟩ := h1
      have a1 := a.go o1
      refine ⟨p, rfl, ⟨us, sqTE o1.pt.gh s⟩, fun Dl hD => ?_⟩
      refine L2.lc_tup (K := X.K) (a := p) (xs := us) (CInv X.K W H1 G1 M1 Dl I) (c_start o1.pt hD i0) ?_ ?_ ?_
      · rintro i H2 _ ⟨G2, M2, w2, us2, acc, o2, n2, r2, q2⟩
        exact sqTE (o2.nx.gg.tr o2.pt.gh) s
      · intro i x H2 hx c
        obtain ⟨d2, hd, rd⟩ := r.getV hx
        exact comp_turn C.gg (C.mt s0) (C.mo s0) hw a1 (by have := (List.getElem?_eq_some_iff.mp hd).1; omega) rd c fun acc w' q => is i d2 acc w' hd q
      · rintro H2 ⟨G2, M2, w2, us2, acc, o2, n2, r2, hl2, q2⟩
        rw [r.len] at q2
        exact id acc w2 q2 Dl us2 H2 G2 M2 (o1.tr o2) r2 ⟨o1.nx.back o1.pt.mh hD, n2.2⟩
  | _ => exact False.elim h1
theorem comp_range {Z : Zx} {σ : L2.St} {H0 H G M : Hp} {δ : List Sl} {w : ω} {vs : List Nat} {lo : Int} {n : Nat} {Q : VK} {Dl : Addr} (s0 : Shared) (C : CompOk X W scope tg elt ifs g gz tt te) (hw : Wiped g vs) (a : SR X.K W Z σ H G M δ w) (pt : Pt W H G M w) (hD : H Dl = none) {Qz : List D → ω → Prop} (h : zComp (rngD lo n) gz tt te vs δ w Qz)
    (k : ∀ acc w2 us2 H2 G2 M2, Qz acc w2 → Go W H G M H2 G2 M2 w2 → RepL X.K G2 us2 acc → NewAt H H2 G2 M2 Dl us2 → Q (.ref Dl) H2) : ∃ W' : Nat → Nat → Hp → Prop, (∃ m, W' 0 m (upd H Dl (.lst []))) ∧ ∀ i m H, W' i m H →
      ((Itr lo n).stop i H ∧ Q (.ref Dl) H) ∨ ((Itr lo n).go i H ∧ ∃ Nx : Hp → Prop, (∀ H', Nx H' → ∃ m', m' < m ∧ W' (i + 1) m' H') ∧ ∀ x H', (Itr lo n).yld i H x H' → g x (L2.wipe σ vs) H' fun σ2 H2 => L2.wipe σ2 vs = L2.wipe σ vs ∧ liNT X.K W tt σ2 H2 fun b H3 =>
        if b = true then liN X.K W te σ2 H3 fun y H4 => ∃ acc, H4 Dl = some (.lst acc) ∧ acc.length < sizeLine ∧ Nx (upd H4 Dl (.lst (acc ++ [y]))) else Nx H3) := by
  obtain ⟨hlen, I, i0, is, id⟩ := h
  rw [rngD_len] at hlen id
  refine lc_range (Qd := fun H => Q (.ref Dl) H) (CInv X.K W H G M Dl I) (c_start pt hD i0) ?_ ?_
  · intro i H2 hx c
    exact comp_turn C.gg (C.mt s0) (C.mo s0) hw a (by omega) (.int _) c fun acc w' q => is i _ acc w' (rngD_at hx) q
  · rintro H2 ⟨G2, M2, w2, us2, acc, o2, n2, r2, hl2, q2⟩
    exact k acc w2 us2 H2 G2 M2 (id acc w2 q2) o2 r2 n2
theorem imp_lcR1 {ea : Expr} {ta : TAZ ω} {vs : List Nat} {Z : Zx} {ex : Nat → List Sl → ω → Prop} (hi : PAZ X W [ea] ta) (s0 : Shared) (C : CompOk X W scope tg elt ifs g gz tt te) (hw : Wiped g vs) {σ : L2.St} {H : Hp} {Q : VK} (h : liF X.K W Z ex (zLcR1 ta gz tt te vs) σ H Q) :
    tLc (iRgB1 (liA X.K W Z ex ta)) g (liNT X.K W tt) (liN X.K W te) vs σ H Q := by
  obtain ⟨G, M, δ, w, a, h⟩ := h
  refine ⟨G, M, δ, w, a, hi.mo (fun l w1 h1 us H1 G1 M1 o1 r1 => ?_) h⟩
  obtain ⟨d, rfl, h2⟩ := h1.of
  obtain ⟨n, rfl, h5⟩ := h2.of
  obtain ⟨u, rfl, ru⟩ := one_rep r1
  cases ru
  exact ⟨n, rfl, fun Dl hD => comp_range (H0 := H) s0 C hw (a.go o1) o1.pt hD h5 fun acc w2 us2 H2 G2 M2 q o2 r2 n2 => q Dl us2 H2 G2 M2 (o1.tr o2) r2 ⟨o1.nx.back o1.pt.mh hD, n2.2⟩⟩
theorem imp_lcR2 {ea eb : Expr} {ta : TAZ ω} {vs : List Nat} {Z : Zx} {ex : Nat → List Sl → ω → Prop} (hi : PAZ X W [ea, eb] ta) (s0 : Shared) (C : CompOk X W scope tg elt ifs g gz tt te) (hw : Wiped g vs) {σ : L2.St} {H : Hp} {Q : VK} (h : liF X.K W Z ex (zLcR2 ta gz tt te vs) σ H Q) :
    tLc (iRgB2 (liA X.K W Z ex ta)) g (liNT X.K W tt) (liN X.K W te) vs σ H Q := by
  obtain ⟨G, M, δ, w, a, h⟩ := h
  refine ⟨G, M, δ, w, a, hi.mo (fun l w1 h1 us H1 G1 M1 o1 r1 => ?_) h⟩
  obtain ⟨m, n, rfl, h5⟩ := h1.of
  obtain rfl := two_rep r1
  exact ⟨m, n, rfl, fun Dl hD => comp_range (H0 := H) s0 C hw (a.go o1) o1.pt hD h5 fun acc w2 us2 H2 G2 M2 q o2 r2 n2 => q Dl us2 H2 G2 M2 (o1.tr o2) r2 ⟨o1.nx.back o1.pt.mh hD, n2.2⟩⟩
theorem mo_lcL {ti : TEZ ω} {vs : List Nat} (hi : PEZ X W iter ti) : Mo (zLcL ti gz tt te vs) := fun k h => hi.mo (fun d w1 h1 => h1.imp fun l h2 => h2.imp k) h
theorem mo_lcT {ti : TEZ ω} {vs : List Nat} (hi : PEZ X W iter ti) : Mo (zLcT ti gz tt te vs) := fun k h => hi.mo (fun d w1 h1 => by
  cases d with
  | tup l => exact zComp.imp k h1
  | _ => exact h1) h
theorem mo_lcR1 {ea : List Expr} {ti : TAZ ω} {vs : List Nat} (hi : PAZ X W ea ti) : Mo (zLcR1 ti gz tt te vs) := fun k h => hi.mo (fun l w1 h1 => h1.imp fun d h2 => h2.imp fun n h3 => h3.imp k) h
theorem mo_lcR2 {ea : List Expr} {ti : TAZ ω} {vs : List Nat} (hi : PAZ X W ea ti) : Mo (zLcR2 ti gz tt te vs) := fun k h => hi.mo (fun l w1 h1 => h1.imp fun i j h3 => h3.imp k) h
/-! as values -/
theorem z_lcL {ti : TEZ ω} (hi : PEZ X W iter ti) (C : CompOk X W scope tg elt ifs g gz tt te) (hN : X.N.Nodup) (ok : blkC X.N X.env.scope scope own = true := by decide +kernel) (hw : Wiped g (own.map (·.2)) := by exact wiped_name _) (hc : X.calm = true := by rfl)
    (hs : ∀ x, foldedSetIterable iter X.env x = pure x := by intro _; rfl) : PFZ X W (.ListComp elt [⟨tg, iter, ifs, 0⟩] scope pos) (zLcL ti gz tt te (own.map (·.2))) :=
  ⟨mo_lcL hi, fun Z ex tk => ⟨fun pins s σ H Q I h => (pe_lc hc hN (pi_list (hi.run Z ex tk)) (blkOk_by ok) C.hg C.pt C.pe hs).run pins s σ H Q I (imp_lcL hi s C hw h)⟩⟩
theorem z_lcT {ti : TEZ ω} (hi : PEZ X W iter ti) (C : CompOk X W scope tg elt ifs g gz tt te) (hN : X.N.Nodup) (ok : blkC X.N X.env.scope scope own = true := by decide +kernel) (hw : Wiped g (own.map (·.2)) := by exact wiped_name _) (hc : X.calm = true := by rfl)
    (hs : ∀ x, foldedSetIterable iter X.env x = pure x := by intro _; rfl) : PFZ X W (.ListComp elt [⟨tg, iter, ifs, 0⟩] scope pos) (zLcT ti gz tt te (own.map (·.2))) :=
  ⟨mo_lcT hi, fun Z ex tk => ⟨fun pins s σ H Q I h => (pe_lc hc hN (pi_tup (hi.run Z ex tk)) (blkOk_by ok) C.hg C.pt C.pe hs).run pins s σ H Q I (imp_lcT hi s C hw h)⟩⟩
theorem z_lcR1 {ea : Expr} {ta : TAZ ω} {p pc : Pos} (hm : X.mg "range" = none) (hi : PAZ X W [ea] ta) (C : CompOk X W scope tg elt ifs g gz tt te) (hN : X.N.Nodup) (ok : blkC X.N X.env.scope scope own = true := by decide +kernel) (hw : Wiped g (own.map (·.2)) := by exact wiped_name _) (hc : X.calm = true := by rfl)
    (hgl : Gl X "range" := by rfl) (hse : starEach [ea] X.env = [(false, eval ea X.env)] := by rfl) (hs : ∀ x, foldedSetIterable (.Call (.Name "range" p) [ea] [] pc) X.env x = pure x := by intro _; rfl) : PFZ X W (.ListComp elt [⟨tg, .Call (.Name "range" p) [ea] [] pc, ifs, 0⟩] scope pos) (zLcR1 ta gz tt te (own.map (·.2))) :=
  ⟨mo_lcR1 hi, fun Z ex tk => ⟨fun pins s σ H Q I h => (pe_lc hc hN (pi_rgB1 hgl hm (hi.run Z ex tk) hse) (blkOk_by ok) C.hg C.pt C.pe hs).run pins s σ H Q I (imp_lcR1 hi s C hw h)⟩⟩
theorem z_lcR2 {ea eb : Expr} {ta : TAZ ω} {p pc : Pos} (hm : X.mg "range" = none) (hi : PAZ X W [ea, eb] ta) (C : CompOk X W scope tg elt ifs g gz tt te) (hN : X.N.Nodup) (ok : blkC X.N X.env.scope scope own = true := by decide +kernel) (hw : Wiped g (own.map (·.2)) := by exact wiped_name _) (hc : X.calm = true := by rfl)
    (hgl : Gl X "range" := by rfl) (hse : starEach [ea, eb] X.env = [(false, eval ea X.env), (false, eval eb X.env)] := by rfl) (hse2 : starEach [eb] X.env = [(false, eval eb X.env)] := by rfl) (hs : ∀ x, foldedSetIterable (.Call (.Name "range" p) [ea, eb] [] pc) X.env x = pure x := by intro _; rfl) :
    PFZ X W (.ListComp elt [⟨tg, .Call (.Name "range" p) [ea, eb] [] pc, ifs, 0⟩] scope pos) (zLcR2 ta gz tt te (own.map (·.2))) :=
  ⟨mo_lcR2 hi, fun Z ex tk => ⟨fun pins s σ H Q I h => (pe_lc hc hN (pi_rgB2 hgl hm (hi.run Z ex tk) hse hse2) (blkOk_by ok) C.hg C.pt C.pe hs).run pins s σ H Q I (imp_lcR2 hi s C hw h)⟩⟩
/-! name = [..] -/
theorem asg_own {st : Stmt} {i : Nat} {tr : TE} {tf : TAZ ω} {Z : Zx} {ex : Nat → List Sl → ω → Prop} (h : PS X st (tAsg tr (gName i))) (mo : Mo tf) (k : Shared → ∀ {σ : L2.St} {H : Hp} {Q : VK}, liF X.K W Z ex tf σ H Q → tr σ H Q) : PS X st (liS X.K W Z ex (zOwn i tf)) := ⟨fun pins s σ H DE I ⟨Dz, hex, EI, G, M, δ, w, a, q⟩ => h.run pins s σ H DE I (by
  subst hex
  exact k s ⟨G, M, δ, w, a, mo (fun l w1 h1 p vs H1 G1 M1 o1 r1 n1 => EI.nx _ _ ⟨G1, M1, _, w1, (a.go o1).setOwn n1.2.1 n1.2.2.1 n1.2.2.2 (newOf a n1.1).1 r1 (newOf a n1.1).2, h1⟩) q⟩)⟩
theorem asg_fz {st : Stmt} {i : Nat} {tr : TE} {tf : TAZ ω} {Z : Zx} {ex : Nat → List Sl → ω → Prop} (h : PS X st (tAsg tr (gName i))) (mo : Mo tf) (k : Shared → ∀ {σ : L2.St} {H : Hp} {Q : VK}, liF X.K W Z ex tf σ H Q → tr σ H Q) : PS X st (liS X.K W Z ex (zAsg i (zFz tf))) := ⟨fun pins s σ H DE I ⟨Dz, hex, EI, G, M, δ, w, a, q⟩ => h.run pins s σ H DE I (by
  subst hex
  exact k s ⟨G, M, δ, w, a, mo (fun l w1 h1 p vs H1 G1 M1 o1 r1 n1 => by
    obtain ⟨o2, g2⟩ := o1.still n1
    exact EI.nx _ _ ⟨_, M1, _, w1, (a.go o2).set (.lst upd_same (r1.up g2)), h1⟩) q⟩)⟩
/-- what a rule for name = [..] gives -/
def SetsTo (X : Cx) (W : Wp ω) (st : Stmt) (i : Nat) (tf : TAZ ω) : Prop := PSZ X W st (zOwn i tf) ∧ PSZ X W st (zAsg i (zFz tf))
theorem s_lcL (i : Nat) {y : Str} {py spos : Pos} {ti : TEZ ω} (hi : PEZ X W iter ti) (C : CompOk X W scope tg elt ifs g gz tt te) (hN : X.N.Nodup) (hy : X.N[i]? = some y := by rfl) (hyl : X.env.scope.names.lookup y = some .local := by rfl) (hsw : swapsWith (.ListComp elt [⟨tg, iter, ifs, 0⟩] scope pos) (some (.Name y py)) spos.line X.env = pure true := by exact sw_true rfl rfl rfl (by decide +kernel))
    (ok : blkC X.N X.env.scope scope own = true := by decide +kernel) (hw : Wiped g (own.map (·.2)) := by exact wiped_name _) (hc : X.calm = true := by rfl) (hs : ∀ x, foldedSetIterable iter X.env x = pure x := by intro _; rfl) : SetsTo X W (.Assign [.Name y py] (.ListComp elt [⟨tg, iter, ifs, 0⟩] scope pos) spos) i (zLcL ti gz tt te (own.map (·.2))) := by
  have key := fun Z ex (tk : Takes X (WXz X.K W Z ex)) => ps_setLc hc hN hy hyl hsw (pi_list (hi.run Z ex tk)) (blkOk_by ok) C.hg C.pt C.pe hs
  exact ⟨fun Z ex tk => asg_own (key Z ex tk) (mo_lcL hi) (fun s => imp_lcL hi s C hw), fun Z ex tk => asg_fz (key Z ex tk) (mo_lcL hi) (fun s => imp_lcL hi s C hw)⟩
theorem s_lcT (i : Nat) {y : Str} {py spos : Pos} {ti : TEZ ω} (hi : PEZ X W iter ti) (C : CompOk X W scope tg elt ifs g gz tt te) (hN : X.N.Nodup) (hy : X.N[i]? = some y := by rfl) (hyl : X.env.scope.names.lookup y = some .local := by rfl) (hsw : swapsWith (.ListComp elt [⟨tg, iter, ifs, 0⟩] scope pos) (some (.Name y py)) spos.line X.env = pure true := by exact sw_true rfl rfl rfl (by decide +kernel))
    (ok : blkC X.N X.env.scope scope own = true := by decide +kernel) (hw : Wiped g (own.map (·.2)) := by exact wiped_name _) (hc : X.calm = true := by rfl) (hs : ∀ x, foldedSetIterable iter X.env x = pure x := by intro _; rfl) : SetsTo X W (.Assign [.Name y py] (.ListComp elt [⟨tg, iter, ifs, 0⟩] scope pos) spos) i (zLcT ti gz tt te (own.map (·.2))) := by
  have key := fun Z ex (tk : Takes X (WXz X.K W Z ex)) => ps_setLc hc hN hy hyl hsw (pi_tup (hi.run Z ex tk)) (blkOk_by ok) C.hg C.pt C.pe hs
  exact ⟨fun Z ex tk => asg_own (key Z ex tk) (mo_lcT hi) (fun s => imp_lcT hi s C hw), fun Z ex tk => asg_fz (key Z ex tk) (mo_lcT hi) (fun s => imp_lcT hi s C hw)⟩
theorem s_lcR1 (i : Nat) {y : Str} {py spos p pc : Pos} {ea : Expr} {ta : TAZ ω} (hm : X.mg "range" = none) (hi : PAZ X W [ea] ta) (C : CompOk X W scope tg elt ifs g gz tt te) (hN : X.N.Nodup) (hy : X.N[i]? = some y := by rfl) (hyl : X.env.scope.names.lookup y = some .local := by rfl)
    (hsw : swapsWith (.ListComp elt [⟨tg, .Call (.Name "range" p) [ea] [] pc, ifs, 0⟩] scope pos) (some (.Name y py)) spos.line X.env = pure true := by exact sw_true rfl rfl rfl (by decide +kernel)) (ok : blkC X.N X.env.scope scope own = true := by decide +kernel) (hw : Wiped g (own.map (·.2)) := by exact wiped_name _) (hc : X.calm = true := by rfl)
    (hgl : Gl X "range" := by rfl) (hse : starEach [ea] X.env = [(false, eval ea X.env)] := by rfl) (hs : ∀ x, foldedSetIterable (.Call (.Name "range" p) [ea] [] pc) X.env x = pure x := by intro _; rfl) : SetsTo X W (.Assign [.Name y py] (.ListComp elt [⟨tg, .Call (.Name "range" p) [ea] [] pc, ifs, 0⟩] scope pos) spos) i (zLcR1 ta gz tt te (own.map (·.2))) := by
  have key := fun Z ex (tk : Takes X (WXz X.K W Z ex)) => ps_setLc hc hN hy hyl hsw (pi_rgB1 hgl hm (hi.run Z ex tk) hse) (blkOk_by ok) C.hg C.pt C.pe hs
  exact ⟨fun Z ex tk => asg_own (key Z ex tk) (mo_lcR1 hi) (fun s => imp_lcR1 hi s C hw), fun Z ex tk => asg_fz (key Z ex tk) (mo_lcR1 hi) (fun s => imp_lcR1 hi s C hw)⟩
theorem s_lcR2 (i : Nat) {y : Str} {py spos p pc : Pos} {ea eb : Expr} {ta : TAZ ω} (hm : X.mg "range" = none) (hi : PAZ X W [ea, eb] ta) (C : CompOk X W scope tg elt ifs g gz tt te) (hN : X.N.Nodup) (hy : X.N[i]? = some y := by rfl) (hyl : X.env.scope.names.lookup y = some .local := by rfl)
    (hsw : swapsWith (.ListComp elt [⟨tg, .Call (.Name "range" p) [ea, eb] [] pc, ifs, 0⟩] scope pos) (some (.Name y py)) spos.line X.env = pure true := by exact sw_true rfl rfl rfl (by decide +kernel)) (ok : blkC X.N X.env.scope scope own = true := by decide +kernel) (hw : Wiped g (own.map (·.2)) := by exact wiped_name _) (hc : X.calm = true := by rfl)
    (hgl : Gl X "range" := by rfl) (hse : starEach [ea, eb] X.env = [(false, eval ea X.env), (false, eval eb X.env)] := by rfl) (hse2 : starEach [eb] X.env = [(false, eval eb X.env)] := by rfl) (hs : ∀ x, foldedSetIterable (.Call (.Name "range" p) [ea, eb] [] pc) X.env x = pure x := by intro _; rfl) :
    SetsTo X W (.Assign [.Name y py] (.ListComp elt [⟨tg, .Call (.Name "range" p) [ea, eb] [] pc, ifs, 0⟩] scope pos) spos) i (zLcR2 ta gz tt te (own.map (·.2))) := by
  have key := fun Z ex (tk : Takes X (WXz X.K W Z ex)) => ps_setLc hc hN hy hyl hsw (pi_rgB2 hgl hm (hi.run Z ex tk) hse hse2) (blkOk_by ok) C.hg C.pt C.pe hs
  exact ⟨fun Z ex tk => asg_own (key Z ex tk) (mo_lcR2 hi) (fun s => imp_lcR2 hi s C hw), fun Z ex tk => asg_fz (key Z ex tk) (mo_lcR2 hi) (fun s => imp_lcR2 hi s C hw)⟩
/-- the parts of a comprehension -/
theorem c_ok {gzt : GoG X.K g gz} (hg : ∀ (s : Shared) (H : Hp) (C : Addr) (cl : List (Str × Addr)) (fp : List Addr), PG (X.blk s H scope (compEnvC scope cl C X.env) fp) tg g) (he : ∀ (s : Shared) (H : Hp) (C : Addr) (cl : List (Str × Addr)) (fp : List Addr), PEZ (X.blk s H scope (compEnvC scope cl C X.env) fp) W elt te) : CompOk X W scope tg elt [] g gz zYes te :=
  ⟨hg, gzt, fun s H C cl fp Z => ⟨fun pins s' σ H' Q I ⟨G, M, δ, w, a, q⟩ => pts_nil.run pins s' σ H' Q I (q H' G M a.here)⟩, fun _ => fun k h => k _ _ h, he, fun s => (he s (fun _ => none) 0 [] []).mo⟩
theorem c_if {c : Expr} {tc : TTZ ω} {gzt : GoG X.K g gz} (hg : ∀ (s : Shared) (H : Hp) (C : Addr) (cl : List (Str × Addr)) (fp : List Addr), PG (X.blk s H scope (compEnvC scope cl C X.env) fp) tg g) (ht : ∀ (s : Shared) (H : Hp) (C : Addr) (cl : List (Str × Addr)) (fp : List Addr), PTZ (X.blk s H scope (compEnvC scope cl C X.env) fp) W c tc)
    (he : ∀ (s : Shared) (H : Hp) (C : Addr) (cl : List (Str × Addr)) (fp : List Addr), PEZ (X.blk s H scope (compEnvC scope cl C X.env) fp) W elt te) : CompOk X W scope tg elt [c] g gz tc te :=
  ⟨hg, gzt, fun s H C cl fp Z => pts_one ((ht s H C cl fp).run Z _ tkN), fun s => (ht s (fun _ => none) 0 [] []).mo, he, fun s => (he s (fun _ => none) 0 [] []).mo⟩
end
end Z

namespace Z
open PySem PySem.Spec PyProof.Rows L2
variable {ω : Type}
def negD : D → (D → Prop) → Prop := fun d q => intD d fun i => q (.int (-i))
theorem l_neg {K : PySem.W.Frag} : Lnd1 K (rU fun i => .int (-i)) negD where
  mo := fun k h => h.imp fun i h => k _ h
  go := fun H G x dx q Q e rx h k => by
    obtain ⟨i, rfl, q2⟩ := h.of
    cases rx
    exact ⟨i, rfl, k _ _ q2 (.int _)⟩
/-- n += e -/
def zAug (i : Nat) (te : TEZ ω) : TSZ ω := fun DE δ w => match δ[i]? with
  | some (.val (.int a)) => te δ w (fun d w1 => intD d fun b => DE.nx (δ.set i (.val (.int (a + b)))) w1) (fun e w' => DE.ex e δ w')
  | _ => False
section
variable {X : Cx} {W : Wp ω} {pos pos' p : Pos} {x : Str} {e : Expr} {te : TEZ ω}
theorem z_aug (i : Nat) (he : PEZ X W e te) (hN : X.N.Nodup) (hi : X.N[i]? = some x := by rfl) (hx : Loc X.env.scope x := by first | exact Or.inl rfl | exact Or.inr rfl) (hf : X.fn x = true ∨ X.env.scope.names.lookup x = some .local := by first | exact .inl rfl | exact .inr rfl) :
    PSZ X W (.AugAssign (.Name x pos') .Add e pos) (zAug i te) := fun Z ex tk => psI (ps_aug hN hi hx (he.run Z ex tk) ip_add hf) fun DE σ H ⟨Dz, hex, EI, G, M, δ, w, a, h⟩ => by
  subst hex
  unfold zAug at h
  split at h
  · rename_i n hn
    obtain ⟨v, h1, h2⟩ := a.sl i _ hn
    cases h2
    refine ⟨_, h1, G, M, δ, w, a, he.mo (fun d w1 q1 v H1 G1 M1 o1 r1 => ?_) h⟩
    obtain ⟨b, rfl, q2⟩ := q1.of
    cases r1
    exact ⟨n, b, rfl, rfl, EI.nx _ _ ⟨G1, M1, _, w1, (a.go o1).set (.int _), q2⟩⟩
  · exact h.elim
end
/-! ### short forms for specifications -/
/-- a def that gives f of its arguments where pre holds -/
def spP {α : Type} (args : α → List D) (pre : α → Prop) (f : α → D) : SpZ Unit := fun ds w Q _ => ∃ x, ds = args x ∧ pre x ∧ Q (f x) w
theorem spP_mo {α : Type} {args : α → List D} {pre : α → Prop} {f : α → D} : MoS (spP args pre f) := fun k _ ⟨x, h1, h2, h3⟩ => ⟨x, h1, h2, k _ _ h3⟩
/-- .. that refuses by e where ref holds -/
def spE {α : Type} (args : α → List D) (ref : α → Option Nat → Prop) (f : α → D) : SpZ Unit := fun ds w Q E => ∃ x, ds = args x ∧ ((∃ e, ref x (some e) ∧ E e w) ∨ (ref x none ∧ Q (f x) w))
theorem spE_mo {α : Type} {args : α → List D} {ref : α → Option Nat → Prop} {f : α → D} : MoS (spE args ref f) := fun k k' ⟨x, h1, h⟩ => ⟨x, h1, h.elim (fun ⟨e, h2, h3⟩ => .inl ⟨e, h2, k' _ _ h3⟩) fun ⟨h2, h3⟩ => .inr ⟨h2, k _ _ h3⟩⟩
/-- .. by what it gives -/
def spR {ω α : Type} (args : α → List D) (pre : α → ω → Prop) (post : α → ω → D → ω → Prop) : SpZ ω := fun ds w Q _ => ∃ x, ds = args x ∧ pre x w ∧ ∀ d w', post x w d w' → Q d w'
theorem spR_mo {ω α : Type} {args : α → List D} {pre : α → ω → Prop} {post : α → ω → D → ω → Prop} : MoS (spR args pre post) := fun k _ ⟨x, h1, h2, h3⟩ => ⟨x, h1, h2, fun d w' h => k _ _ (h3 d w' h)⟩
end Z

namespace Z
open PySem PySem.Spec PyProof.Rows L2
variable {ω : Type}

/-! ### what a loop goes over, in general -/
/-- what a walk gives, over plain data: data that stand, or new pairs of such -/
structure WkZ (K : PySem.W.Frag) (G : Hp) (J : It) (l : List D) : Prop where
  ex : ∃ (Gd : Hp → Prop) (Y : Nat → Hp → V → Hp → Prop), Walk J l.length Gd Y ∧ (∀ H, Ext G H → Gd H) ∧
    ∀ i H x H', i < l.length → Y i H x H' → (H' = H ∧ ∃ d, l[i]? = some d ∧ Rep K G x d) ∨ ∃ T vs ds, x = .ref T ∧ H T = none ∧ H' = upd H T (.tup vs) ∧ RepL K G vs ds ∧ l[i]? = some (.tup ds)
def liI (K : PySem.W.Frag) (W : Wp ω) (Z : Zx) (ex : Nat → List Sl → ω → Prop) (tz : TAZ ω) : TI := fun σ H R => ∃ G M δ w, SR K W Z σ H G M δ w ∧ tz δ w (fun l w' => ∀ H' G' M' J, Go W H G M H' G' M' w' → WkZ K G' J l → R J H') (fun e w' => ex e δ w')
structure PIZ (X : Cx) (W : Wp ω) (tg iter : Expr) (tz : TAZ ω) : Prop where
  mo : Mo tz
  run : ∀ (Z : Zx) (ex : Nat → List Sl → ω → Prop), Takes X (WXz X.K W Z ex) → PI X tg iter (liI X.K W Z ex tz)
theorem piI {X : Cx} {tg e : Expr} {t u : TI} (h : PI X tg e u) (i : ∀ σ H R, t σ H R → u σ H R) : PI X tg e t := ⟨fun pins s σ H R I q => h.run pins s σ H R I (i _ _ _ q)⟩
def zForI (tz : TAZ ω) (gz : TGZ) (t : TSZ ω) : TSZ ω := fun D δ w => tz δ w (fun l w1 => zLoop l gz t D δ w1) (fun e w' => D.ex e δ w')
section
variable {X : Cx} {W : Wp ω} {pos : Pos} {e : Expr} {tz : TAZ ω} {tg : Expr} {g : TG} {gz : TGZ} {body : List Stmt} {t : TSZ ω}
theorem z_forI (hi : PIZ X W tg e tz) (hg : PGZ X tg g gz) (hb : PBZ X W body t) (hp : PassesOwn (model X.prog X.w) X.A X.env X.xe := by first | exact PassesOwn.leaving | exact PassesOwn.looking | exact PassesOwn.never | assumption) (hc : X.calm = true := by rfl)
    (hs : ∀ x, foldedSetIterable e X.env x = pure x := by intro _; rfl) : PSZ X W (.For tg e body [] pos) (zForI tz gz t) := fun Z ex tk => psI (ps_for hp hc (hi.run Z ex tk) hg.pg (zB_run hb Z ex tk) hs) fun DE σ H ⟨Dz, hex, EI, G, M, δ, w, a, h⟩ => by
  subst hex
  refine ⟨G, M, δ, w, a, hi.mo (fun l w1 h1 H1 G1 M1 J o1 wk => ?_) h⟩
  obtain ⟨Gd, Y, wk, gd, yl⟩ := wk.ex
  obtain ⟨I, i0, is, id⟩ := h1
  have a1 := a.go o1
  refine for_it wk (fun i => LS X.K W ⟨Z.H0, Z.G0, Z.M0, G1⟩ (I i)) ⟨G1, M1, δ, w1, a1.more, i0⟩ ?_ ?_ ?_
  · rintro i σ2 H2 _ ⟨G2, M2, δ2, w2, a2, _⟩
    exact gd H2 (a2.st.tr a2.pt.gh)
  · rintro i x σ2 H2 H3 hi' ⟨G2, M2, δ2, w2, a2, q2⟩ hy
    rcases yl i H2 x H3 hi' hy with ⟨rfl, d, hd, rd⟩ | ⟨T, vs, ds, rfl, hT, rfl, r, hd⟩
    · refine hg.gg.go W _ σ2 H3 G2 M2 δ2 w2 x d _ _ a2 (rd.up a2.st) (is i d δ2 w2 hd q2) fun σ3 δ3 q3 a3 => ?_
      exact ⟨G1, a1.st, { Dz with nx := I (i + 1), ct := I (i + 1), bk := Dz.nx }, rfl, EI.loop a1.st (fun _ _ h => h), G2, M2, δ3, w2, a3, q3⟩
    · have gg : Ext G2 (upd G2 T (.tup vs)) := Ext.new (a2.pt.gh.none' hT)
      refine hg.gg.go W _ σ2 _ (upd G2 T (.tup vs)) M2 δ2 w2 (.ref T) (.tup ds) _ _ (a2.new hT) (.tup (SqT.of upd_same) ((r.up a2.st).up gg)) (is i _ δ2 w2 hd q2) fun σ3 δ3 q3 a3 => ?_
      exact ⟨G1, a1.st, { Dz with nx := I (i + 1), ct := I (i + 1), bk := Dz.nx }, rfl, EI.loop a1.st (fun _ _ h => h), _, M2, δ3, w2, a3, q3⟩
  · rintro σ2 H2 ⟨G2, M2, δ2, w2, a2, q2⟩
    exact EI.nx _ _ ⟨G2, M2, δ2, w2, a2.le a1.st, id δ2 w2 q2⟩
end
/-! comprehensions over it -/
section
variable {X : Cx} {W : Wp ω} {pos : Pos} {scope : Scope} {tg elt iter : Expr} {ifs : List Expr} {g : TG} {gz : TGZ} {tt : TTZ ω} {te : TEZ ω} {own : List (Str × Nat)}
theorem comp_turn2 {Z : Zx} {σ : L2.St} {H G M : Hp} {δ : List Sl} {w : ω} {Dl : Addr} {I : Nat → List D → ω → Prop} {i : Nat} {H' G1 M1 : Hp} {w1 : ω} {us : List V} {acc : List D} {d : D} {v : V} {vs : List Nat} (hgz : GoG X.K g gz) (mt : Mo tt) (mo : Mo te) (hw : Wiped g vs) (a : SR X.K W Z σ H G M δ w) (hi : i < 100000) (rv : Rep X.K G1 v d)
    (o1 : Go W H G M H' G1 M1 w1) (n1 : NewAt H H' G1 M1 Dl us) (r1 : RepL X.K G1 us acc) (hl : acc.length ≤ i) (q : I i acc w1)
    (hs : gz d (wipeZ δ vs) fun δ2 => tt δ2 w1 (fun b w2 => (b = true → te δ2 w2 (fun y w3 => I (i + 1) (acc ++ [y]) w3) NoE) ∧ (b = false → I (i + 1) acc w2)) NoE) :
    g v (L2.wipe σ vs) H' fun σ2 H2 => L2.wipe σ2 vs = L2.wipe σ vs ∧ liNT X.K W tt σ2 H2 fun b H3 =>
      if b = true then liN X.K W te σ2 H3 fun y H4 => ∃ acc, H4 Dl = some (.lst acc) ∧ acc.length < sizeLine ∧ CInv X.K W H G M Dl I (i + 1) (upd H4 Dl (.lst (acc ++ [y]))) else CInv X.K W H G M Dl I (i + 1) H3 := by
  refine hw v σ H' _ ?_
  have a1 := (a.go o1).wipe vs
  refine hgz.go W Z (L2.wipe σ vs) H' G1 M1 (wipeZ δ vs) w1 v d _ _ a1 rv hs fun σ2 δ2 q2 a2 => ?_
  have grow : ∀ {H3 G3 M3 : Hp} {w3 : ω} {u : V} {y : D}, Go W H' G1 M1 H3 G3 M3 w3 → Rep X.K G3 u y → I (i + 1) (acc ++ [y]) w3 → ∃ acc, H3 Dl = some (.lst acc) ∧ acc.length < sizeLine ∧ CInv X.K W H G M Dl I (i + 1) (upd H3 Dl (.lst (acc ++ [u]))) := by
    intro H3 G3 M3 w3 u y o3 ru qi
    obtain ⟨m1, m2, m3, m4⟩ := n1
    have h3 := o3.nx.fr Dl _ m2 m4
    have g3 : G3 Dl = none := by
      cases z : G3 Dl with
      | none => rfl
      | some t => rw [o3.nx.gn Dl t z m3] at m2; cases m2
    have k3 : M3 Dl = none := by
      cases z : M3 Dl with
      | none => rfl
      | some t => rw [o3.nx.mn Dl t z m4] at m2; cases m2
    have r3 := r1.up o3.nx.gg
    have o := o1.tr o3
    refine ⟨us, h3, by rw [r1.len, sizeLine_eq]; omega, G3, M3, w3, us ++ [u], acc ++ [y], ⟨⟨fun p x e => ?_, fun p x e => ?_, o.pt.dj, o.pt.wd⟩, ⟨o.nx.gg, fun p x e e' => ?_, o.nx.gn, o.nx.mn, o.nx.m0⟩⟩, ⟨m1, upd_same, g3, k3⟩, r3.app (.cons ru .nil), by rw [List.length_append]; exact Nat.succ_le_succ hl, qi⟩
    · rw [upd_ne (ne_of_none e g3)]; exact o.pt.gh p x e
    · rw [upd_ne (ne_of_none e k3)]; exact o.pt.mh p x e
    · rw [upd_ne (ne_of_none e m1)]; exact o.nx.fr p x e e'
  refine ⟨Z, G1, M1, δ2, w1, a2, mt (fun b w2 q3 H3 G3 M3 o3 => ?_) q2⟩
  cases b with
  | true =>
    rw [if_pos rfl]
    refine ⟨Z, G3, M3, δ2, w2, a2.go o3, mo (fun y w4 q4 u H4 G4 M4 o4 r4 => grow (o3.tr o4) r4 q4) (q3.1 rfl)⟩
  | false =>
    rw [if_neg Bool.false_ne_true]
    obtain ⟨m1, m2, m3, m4⟩ := n1
    refine ⟨G3, M3, w2, us, acc, o1.tr o3, ⟨m1, o3.nx.fr Dl _ m2 m4, ?_, ?_⟩, r1.up o3.nx.gg, Nat.le_succ_of_le hl, q3.2 rfl⟩
    · cases z : G3 Dl with
      | none => rfl
      | some t => rw [o3.nx.gn Dl t z m3] at m2; cases m2
    · cases z : M3 Dl with
      | none => rfl
      | some t => rw [o3.nx.mn Dl t z m4] at m2; cases m2
def zLcI (tz : TAZ ω) (gz : TGZ) (tt : TTZ ω) (te : TEZ ω) (vs : List Nat) : TAZ ω := fun δ w Q E => tz δ w (fun l w1 => zComp l gz tt te vs δ w1 Q) E
theorem imp_lcI {tz : TAZ ω} {vs : List Nat} {Z : Zx} {ex : Nat → List Sl → ω → Prop} (hi : PIZ X W tg iter tz) (s0 : Shared) (C : CompOk X W scope tg elt ifs g gz tt te) (hw : Wiped g vs) {σ : L2.St} {H : Hp} {Q : VK} (h : liF X.K W Z ex (zLcI tz gz tt te vs) σ H Q) :
    tLc (liI X.K W Z ex tz) g (liNT X.K W tt) (liN X.K W te) vs σ H Q := by
  obtain ⟨G, M, δ, w, a, h⟩ := h
  refine ⟨G, M, δ, w, a, hi.mo (fun l w1 h1 H1 G1 M1 J o1 wk => ?_) h⟩
  obtain ⟨hlen, I, i0, is, id⟩ := h1
  obtain ⟨Gd, Y, wk, gd, yl⟩ := wk.ex
  have a1 := a.go o1
  intro Dl hD
  refine lc_it wk (CInv X.K W H1 G1 M1 Dl I) (c_start o1.pt hD i0) ?_ ?_ ?_
  · rintro i H2 _ ⟨G2, M2, w2, us2, acc, o2, n2, r2, q2⟩
    exact gd H2 (o2.nx.gg.tr o2.pt.gh)
  · rintro i x H2 H3 hi' ⟨G2, M2, w2, us2, acc, o2, n2, r2, hl2, q2⟩ hy
    rcases yl i H2 x H3 hi' hy with ⟨rfl, d, hd, rd⟩ | ⟨T, vs2, ds, rfl, hT, rfl, r, hd⟩
    · exact comp_turn2 C.gg (C.mt s0) (C.mo s0) hw a1 (by omega) (rd.up o2.nx.gg) o2 n2 r2 hl2 q2 (is i d acc w2 hd q2)
    · have gg : Ext G2 (upd G2 T (.tup vs2)) := Ext.new (o2.pt.gh.none' hT)
      obtain ⟨m1, m2, m3, m4⟩ := n2
      have ne : Dl ≠ T := ne_of_none m2 hT
      exact comp_turn2 C.gg (C.mt s0) (C.mo s0) hw a1 (by omega) (.tup (SqT.of upd_same) ((r.up o2.nx.gg).up gg)) (o2.new hT) ⟨m1, by rw [upd_ne ne]; exact m2, by rw [upd_ne ne]; exact m3, m4⟩ (r2.up gg) hl2 q2 (is i _ acc w2 hd q2)
  · rintro H2 ⟨G2, M2, w2, us2, acc, o2, n2, r2, hl2, q2⟩
    exact id acc w2 q2 Dl us2 H2 G2 M2 (o1.tr o2) r2 ⟨o1.nx.back o1.pt.mh hD, n2.2⟩
theorem mo_lcI {tz : TAZ ω} {vs : List Nat} (hi : PIZ X W tg iter tz) : Mo (zLcI tz gz tt te vs) := fun k h => hi.mo (fun d w1 h1 => h1.imp k) h
theorem z_lcI {tz : TAZ ω} (hi : PIZ X W tg iter tz) (C : CompOk X W scope tg elt ifs g gz tt te) (hN : X.N.Nodup) (ok : blkC X.N X.env.scope scope own = true := by decide +kernel) (hw : Wiped g (own.map (·.2)) := by exact wiped_name _) (hc : X.calm = true := by rfl)
    (hs : ∀ x, foldedSetIterable iter X.env x = pure x := by intro _; rfl) : PFZ X W (.ListComp elt [⟨tg, iter, ifs, 0⟩] scope pos) (zLcI tz gz tt te (own.map (·.2))) :=
  ⟨mo_lcI hi, fun Z ex tk => ⟨fun pins s σ H Q I h => (pe_lc hc hN (hi.run Z ex tk) (blkOk_by ok) C.hg C.pt C.pe hs).run pins s σ H Q I (imp_lcI hi s C hw h)⟩⟩
theorem s_lcI (i : Nat) {y : Str} {py spos : Pos} {tz : TAZ ω} (hi : PIZ X W tg iter tz) (C : CompOk X W scope tg elt ifs g gz tt te) (hN : X.N.Nodup) (hy : X.N[i]? = some y := by rfl) (hyl : X.env.scope.names.lookup y = some .local := by rfl) (hsw : swapsWith (.ListComp elt [⟨tg, iter, ifs, 0⟩] scope pos) (some (.Name y py)) spos.line X.env = pure true := by exact sw_true rfl rfl rfl (by decide +kernel))
    (ok : blkC X.N X.env.scope scope own = true := by decide +kernel) (hw : Wiped g (own.map (·.2)) := by exact wiped_name _) (hc : X.calm = true := by rfl) (hs : ∀ x, foldedSetIterable iter X.env x = pure x := by intro _; rfl) : SetsTo X W (.Assign [.Name y py] (.ListComp elt [⟨tg, iter, ifs, 0⟩] scope pos) spos) i (zLcI tz gz tt te (own.map (·.2))) := by
  have key := fun Z ex (tk : Takes X (WXz X.K W Z ex)) => ps_setLc hc hN hy hyl hsw (hi.run Z ex tk) (blkOk_by ok) C.hg C.pt C.pe hs
  exact ⟨fun Z ex tk => asg_own (key Z ex tk) (mo_lcI hi) (fun s => imp_lcI hi s C hw), fun Z ex tk => asg_fz (key Z ex tk) (mo_lcI hi) (fun s => imp_lcI hi s C hw)⟩
end
/-! targets of several names, wiped behind -/
theorem wipe_comm {σ : L2.St} {i : Nat} {x : Option V} : ∀ {vs : List Nat}, i ∉ vs → L2.wipe (σ.set i x) vs = (L2.wipe σ vs).set i x
  | [], _ => rfl
  | v :: vs, h => by
    show (L2.wipe (σ.set i x) vs).set v none = ((L2.wipe σ vs).set v none).set i x
    rw [wipe_comm (fun q => h (List.mem_cons_of_mem _ q))]
    exact List.set_comm _ _ (fun q => h (by rw [q]; exact List.mem_cons_self))
theorem wipe_in {σ : L2.St} {i : Nat} {x : Option V} : ∀ {vs : List Nat}, i ∈ vs → L2.wipe (σ.set i x) vs = L2.wipe σ vs
  | v :: vs, h => by
    show (L2.wipe (σ.set i x) vs).set v none = (L2.wipe σ vs).set v none
    by_cases q : i ∈ vs
    · rw [wipe_in q]
    · have e : i = v := (List.mem_cons.mp h).resolve_right q
      rw [wipe_comm q, e, List.set_set]
theorem wipe_wipe {σ : L2.St} : ∀ {vs us : List Nat}, (∀ i ∈ vs, i ∈ us) → L2.wipe (L2.wipe σ vs) us = L2.wipe σ us
  | [], _, _ => rfl
  | v :: vs, us, h => by
    show L2.wipe ((L2.wipe σ vs).set v none) us = _
    rw [wipe_in (h v List.mem_cons_self), wipe_wipe fun i hi => h i (List.mem_cons_of_mem _ hi)]
theorem wiped_gNs {us : List Nat} {H : Hp} {Q : L2.St → Hp → Prop} : ∀ {is : List Nat} {xs : List V} {σ : L2.St}, (∀ i ∈ is, i ∈ us) → gNs is xs σ H Q → gNs is xs σ H fun σ2 H2 => L2.wipe σ2 us = L2.wipe σ us ∧ Q σ2 H2
  | [], xs, σ, _, h => ⟨h.1, rfl, h.2⟩
  | i :: is, xs, σ, hm, h => by
    obtain ⟨x, ys, e, h⟩ := h
    refine ⟨x, ys, e, ?_⟩
    have q := wiped_gNs (us := us) (fun j hj => hm j (List.mem_cons_of_mem _ hj)) h
    rw [wipe_in (hm i List.mem_cons_self)] at q
    exact q
theorem wiped_tup {K : PySem.W.Frag} {n : Nat} {is vs : List Nat} (h : ∀ i ∈ is, i ∈ vs) : Wiped (gTup K n (gNs is)) vs := fun x σ H Q ⟨a, xs, e, s, l, q⟩ => by
  have r := wiped_gNs (us := vs) h q
  rw [wipe_wipe fun i hi => hi] at r
  exact ⟨a, xs, e, s, l, r⟩
/-! ### zip -/
def zipT (a b : List D) : List D := (a.zip b).map fun p => .tup [p.1, p.2]
def zipD : D → D → Option (List D)
  | .lst a, .lst b => some (zipT a b)
  | .lst a, .arr b => some (zipT a b)
  | .arr a, .lst b => some (zipT a b)
  | .arr a, .arr b => some (zipT a b)
  | .tup a, .tup b => some (zipT a b)
  | _, _ => none
def zZip (ta : TAZ ω) : TAZ ω := fun δ w Q E => ta δ w (fun l w1 => match l with | [x, y] => (match zipD x y with | some m => Q m w1 | none => False) | _ => False) E
theorem zipT_at {a b : List D} {i : Nat} {x y : D} (h : a[i]? = some x) (g : b[i]? = some y) : (zipT a b)[i]? = some (.tup [x, y]) := by
  unfold zipT
  rw [List.getElem?_map, List.getElem?_zip_eq_some (z := (x, y)) |>.mpr ⟨h, g⟩]; rfl
theorem zipT_len (a b : List D) : (zipT a b).length = min a.length b.length := by unfold zipT; rw [List.length_map, List.length_zip]
theorem walk_zipT {K : PySem.W.Frag} {a b : Addr} {xs ys : List V} {n : Nat} (hn : n = min xs.length ys.length) : Walk (RZ.ItzT K a b) n (fun H => SqT K H a xs ∧ SqT K H b ys) (YPair (fun i => xs[i]?) (fun i => ys[i]?)) := by
  subst hn
  refine ⟨fun i _ hi q => ?_, fun _ q => ⟨xs, ys, q.1, q.2, by omega⟩, fun i H v H' _ q y => ?_⟩
  · have h1 : i < xs.length := by omega
    have h2 : i < ys.length := by omega
    exact ⟨xs, ys, xs[i], ys[i], q.1, q.2, by simp [h1], by simp [h2]⟩
  · obtain ⟨T, x, z, h1, h2, h3, h4, h5⟩ := y
    exact ⟨T, x, z, h1, h2, h3, h4 xs q.1, h5 ys q.2⟩
theorem wk_pair {K : PySem.W.Frag} {G : Hp} {J : It} {xs ys : List V} {a b : List D} {Gd : Hp → Prop} (hw : ∀ n, n = min xs.length ys.length → Walk J n Gd (YPair (fun i => xs[i]?) (fun i => ys[i]?))) (gd : ∀ H, Ext G H → Gd H) (ra : RepL K G xs a) (rb : RepL K G ys b) : WkZ K G J (zipT a b) := by
  refine ⟨Gd, _, hw _ (by rw [zipT_len, ra.len, rb.len]), gd, fun i H x H' hi ⟨T, u, v, e1, e2, e3, e4, e5⟩ => .inr ?_⟩
  obtain ⟨d1, f1, r1⟩ := ra.getV e4
  obtain ⟨d2, f2, r2⟩ := rb.getV e5
  exact ⟨T, [u, v], [d1, d2], e1, e2, e3, .cons r1 (.cons r2 .nil), zipT_at f1 f2⟩
section
variable {X : Cx} {W : Wp ω} {e e2 : Expr} {ta : TAZ ω} {p pos tpos : Pos} {elts : List Expr} {kk : Nat}
theorem i_zip (hm : X.mg "zip" = none) (ha : PAZ X W [e, e2] ta) (hg : Gl X "zip" := by rfl) (hs : starEach [e, e2] X.env = (false, eval e X.env) :: starEach [e2] X.env := by rfl) (hpl : (backTo pos (starEach [e2] X.env)).any (·.1) = false := by rfl) :
    PIZ X W (.Tuple elts kk tpos) (.Call (.Name "zip" p) [e, e2] [] pos) (zZip ta) := by
  refine ⟨fun {δ w Q Q' E} k h => ha.mo (fun l w1 h1 => ?_) h, fun Z ex tk => piI (RZ.pi_zipA hg hm (ha.run Z ex tk) hs hpl) fun σ H R ⟨G, M, δ, w, a, h⟩ => ⟨G, M, δ, w, a, ha.mo (fun l w1 h1 vs H1 G1 M1 o1 r1 => ?_) h⟩⟩
  · split at h1
    · split at h1
      · exact k _ _ h1
      · exact h1.elim
    · exact h1.elim
  · split at h1
    · rename_i x y
      split at h1
      · rename_i m hm2
        obtain ⟨u, v, rfl, ru, rv⟩ : ∃ u v, vs = [u, v] ∧ Rep X.K G1 u x ∧ Rep X.K G1 v y := by
          cases r1 with
          | cons r1 r2 =>
            cases r2 with
            | cons r2 r3 =>
              cases r3
              exact ⟨_, _, rfl, r1, r2⟩
        have lst : ∀ {pa pb : Addr} {xs ys : List V} {la lb : List D}, SqL X.K G1 pa xs → SqL X.K G1 pb ys → RepL X.K G1 xs la → RepL X.K G1 ys lb → m = zipT la lb → ∃ a b xs ys, [V.ref pa, .ref pb] = [.ref a, .ref b] ∧ ((SqL X.K H1 a xs ∧ SqL X.K H1 b ys ∧ R (Itz X.K a b) H1) ∨ (SqT X.K H1 a xs ∧ SqT X.K H1 b ys ∧ R (RZ.ItzT X.K a b) H1)) := by
          intro pa pb xs ys la lb s1 s2 q1 q2 em
          refine ⟨pa, pb, xs, ys, rfl, .inl ⟨sqLE o1.pt.gh s1, sqLE o1.pt.gh s2, h1 H1 G1 M1 _ o1 ?_⟩⟩
          rw [em]
          exact wk_pair (fun n hn => walk_zip hn) (fun H2 e2 => ⟨sqLE e2 s1, sqLE e2 s2⟩) q1 q2
        unfold zipD at hm2
        split at hm2 <;> first | (cases hm2; done) | skip
        · cases hm2
          cases ru with | lst s1 q1 => cases rv with | lst s2 q2 => exact lst (.inl (.inl s1)) (.inl (.inl s2)) q1 q2 rfl
        · cases hm2
          cases ru with | lst s1 q1 => cases rv with | arr s2 q2 => exact lst (.inl (.inl s1)) s2 q1 q2 rfl
        · cases hm2
          cases ru with | arr s1 q1 => cases rv with | lst s2 q2 => exact lst s1 (.inl (.inl s2)) q1 q2 rfl
        · cases hm2
          cases ru with | arr s1 q1 => cases rv with | arr s2 q2 => exact lst s1 s2 q1 q2 rfl
        · cases hm2
          cases ru with
          | @tup pa xs _ s1 q1 =>
            cases rv with
            | @tup pb ys _ s2 q2 =>
              exact ⟨pa, pb, xs, ys, rfl, .inr ⟨sqTE o1.pt.gh s1, sqTE o1.pt.gh s2, h1 H1 G1 M1 _ o1 (wk_pair (fun n hn => walk_zipT hn) (fun H2 e2 => ⟨sqTE e2 s1, sqTE e2 s2⟩) q1 q2)⟩⟩
      · exact h1.elim
    · exact h1.elim
end
/-! ### a text, sign by sign -/
def sgnD (x : Str) : List D := x.cps.toList.map fun c => .str ⟨#[c]⟩
def zSgn (te : TEZ ω) : TAZ ω := fun δ w Q E => te δ w (fun d w1 => match d with | .str x => Q (sgnD x) w1 | _ => False) E
theorem i_str {X : Cx} {W : Wp ω} {tg e : Expr} {te : TEZ ω} (he : PEZ X W e te) : PIZ X W tg e (zSgn te) := by
  refine ⟨fun {δ w Q Q' E} k h => he.mo (fun d w1 h1 => ?_) h, fun Z ex tk => piI (pi_str (he.run Z ex tk)) fun σ H R ⟨G, M, δ, w, a, h⟩ => ⟨G, M, δ, w, a, he.mo (fun d w1 h1 v H1 G1 M1 o1 r1 => ?_) h⟩⟩
  · split at h1
    · exact k _ _ h1
    · exact h1.elim
  · split at h1
    · rename_i x
      cases r1
      refine ⟨x, rfl, h1 H1 G1 M1 _ o1 ⟨fun _ => True, fun i H v H' => H' = H ∧ ∃ c, x.cps[i]? = some c ∧ v = .str ⟨#[c]⟩, ?_, fun _ _ => trivial, fun i H x' H' hi hy => .inl ?_⟩⟩
      · have e : (sgnD x).length = x.cps.size := by unfold sgnD; rw [List.length_map, Array.length_toList]
        rw [e]
        exact walk_str
      · obtain ⟨h1, c, h2, h3⟩ := hy
        refine ⟨h1, .str ⟨#[c]⟩, ?_, by rw [h3]; exact .str _⟩
        unfold sgnD
        rw [List.getElem?_map, Array.getElem?_toList, h2]; rfl
    · exact h1.elim
/-! ### several names from a list -/
def gUL (is : List Nat) : TGZ := fun d δ k => match d with | .lst l => l.length = is.length ∧ k (setAll δ is l) | _ => False
theorem gg_lst {K : PySem.W.Frag} (is : List Nat) : GoG K (gLst K is.length (gNs is)) (gUL is) := ⟨fun k h => by
  unfold gUL at h ⊢
  split at h
  · exact ⟨h.1, k _ h.2⟩
  · exact h.elim, fun W Z σ H G M δ w v d q Q a r h k => by
  cases d with
  | lst l =>
    cases r with
    | lst s r =>
      exact ⟨_, _, rfl, .inl (.inl (a.pt.gh _ _ s)), by rw [r.len]; exact h.1, gNs_go is _ _ _ _ a r h.1 fun σ' a' => k σ' _ h.2 a'⟩
  | _ => exact h.elim⟩
theorem g_lst {X : Cx} {es : List Expr} {k : Nat} {is : List Nat} {pos : Pos} (h : PGs X es (gNs is)) (hc : X.calm = true := by rfl) (hn : (assignEach es X.env).length = is.length := by rfl) (hst : (assignEach es X.env).findIdx? (·.1) = none := by rfl) :
    PGZ X (.Tuple es k pos) (gLst X.K is.length (gNs is)) (gUL is) := ⟨gg_lst is, pg_lst hc h hn hst⟩
end Z

namespace Z
open PySem PySem.Spec PyProof.Rows L2

/-! ### a world of lists that may change -/
abbrev Mst := List (Addr × List D)
def wGet (w : Mst) (a : Addr) : Option (List D) := List.lookup a w
def wSet (w : Mst) (a : Addr) (l : List D) : Mst := w.map fun p => if p.1 = a then (a, l) else p
theorem wGet_cons {w : Mst} {a b : Addr} {l : List D} : wGet ((b, l) :: w) a = if a = b then some l else wGet w a := by
  unfold wGet
  by_cases h : a = b
  · have e : (a == b) = true := beq_iff_eq.mpr h
    simp only [List.lookup, e, if_pos h]
  · have e : (a == b) = false := beq_eq_false_iff_ne.mpr h
    simp only [List.lookup, e, if_neg h]
theorem wGet_set (a b : Addr) (l : List D) : ∀ w : Mst, wGet (wSet w a l) b = if b = a then (wGet w a).map fun _ => l else wGet w b
  | [] => by
    by_cases h : b = a
    · rw [if_pos h]; rfl
    · rw [if_neg h]; rfl
  | (c, m) :: w => by
    have ih := wGet_set a b l w
    have e : wSet ((c, m) :: w) a l = (if c = a then (a, l) else (c, m)) :: wSet w a l := rfl
    rw [e]
    by_cases h : c = a
    · subst h
      rw [if_pos rfl, wGet_cons, wGet_cons, wGet_cons, ih]
      by_cases k : b = c
      · rw [if_pos k, if_pos k, if_pos rfl]; rfl
      · rw [if_neg k, if_neg k, if_neg k, if_neg k]
    · rw [if_neg h, wGet_cons, wGet_cons, wGet_cons, ih]
      by_cases k : b = a
      · subst k
        rw [if_neg (Ne.symm h), if_pos rfl, if_pos rfl, if_neg (Ne.symm h)]
      · rw [if_neg k, if_neg k]
def okW (K : PySem.W.Frag) (w : Mst) (G M : Hp) : Prop := (∀ a o, M a = some o → ∃ l, wGet w a = some l) ∧ ∀ a l, wGet w a = some l → ∃ vs, M a = some (.lst vs) ∧ RepL K G vs l
def WL (K : PySem.W.Frag) (ec : Nat → Addr) : Wp Mst := ⟨okW K, fun e h => ⟨h.1, fun a l g => let ⟨vs, h1, h2⟩ := h.2 a l g; ⟨vs, h1, h2.up e⟩⟩, ec⟩
theorem okW.none {K : PySem.W.Frag} {w : Mst} {G M : Hp} (h : okW K w G M) {a : Addr} (e : M a = none) : wGet w a = none := by
  cases q : wGet w a with
  | none => rfl
  | some l =>
    obtain ⟨vs, h1, _⟩ := h.2 a l q
    rw [e] at h1; cases h1
/-- a list of the world changed -/
theorem chgW {K : PySem.W.Frag} {ec : Nat → Addr} {Z : Zx} {σ : L2.St} {H G M : Hp} {δ : List Sl} {w : Mst} {a : Addr} {l m : List D} {us : List V} (s : SR K (WL K ec) Z σ H G M δ w) (h : wGet w a = some l) (r : RepL K G us m) :
    SR K (WL K ec) Z σ (upd H a (.lst us)) G (upd M a (.lst us)) δ (wSet w a m) := by
  obtain ⟨vs, h1, h2⟩ := s.pt.wd.2 a l h
  have hG : G a = none := by
    cases q : G a with
    | none => rfl
    | some x => rw [s.pt.dj a x q] at h1; cases h1
  have hM : ∀ p x, upd M a (.lst us) p = some x → M p ≠ none := fun p x e z => by
    by_cases k : p = a
    · rw [k, h1] at z; cases z
    · rw [upd_ne k, z] at e; cases e
  refine s.next ⟨fun p x e => ?_, fun p x e => ?_, fun p x e => ?_, ⟨fun p o e => ?_, fun p l' e => ?_⟩⟩ ⟨.rfl', fun p x e e' => ?_, fun p x e e' => (by rw [e] at e'; cases e'), fun p x e e' => absurd e' (hM p x e), fun p x e => ?_⟩
  · rw [upd_ne (ne_of_none e hG)]; exact s.pt.gh p x e
  · by_cases k : p = a
    · subst k; rw [upd_same] at e ⊢; exact e
    · rw [upd_ne k] at e ⊢; exact s.pt.mh p x e
  · rw [upd_ne (ne_of_none e hG)]; exact s.pt.dj p x e
  · rw [wGet_set]
    by_cases k : p = a
    · rw [if_pos k, h]; exact ⟨_, rfl⟩
    · rw [if_neg k]; rw [upd_ne k] at e; exact s.pt.wd.1 p o e
  · rw [wGet_set] at e
    by_cases k : p = a
    · subst k
      rw [if_pos rfl, h] at e
      cases e
      exact ⟨us, upd_same, r⟩
    · rw [if_neg k] at e
      obtain ⟨v2, g1, g2⟩ := s.pt.wd.2 p l' e
      exact ⟨v2, by rw [upd_ne k]; exact g1, g2⟩
  · rw [upd_ne (fun k => by rw [k, h1] at e'; cases e')]; exact e
  · by_cases k : p = a
    · subst k; exact ⟨_, upd_same⟩
    · rw [upd_ne k]; exact ⟨x, e⟩
/-- a new list of the world -/
theorem newW {K : PySem.W.Frag} {ec : Nat → Addr} {H0 G0 M0 H G M : Hp} {w : Mst} {a : Addr} {m : List D} {us : List V} (o : Go (WL K ec) H0 G0 M0 H G M w) (h0 : H0 a = none) (h1 : H a = some (.lst us)) (hG : G a = none) (hM : M a = none) (r : RepL K G us m) :
    Go (WL K ec) H0 G0 M0 H G (upd M a (.lst us)) ((a, m) :: w) ∧ wGet w a = none := by
  have hw := o.pt.wd.none hM
  refine ⟨⟨⟨o.pt.gh, fun p x e => ?_, fun p x e => ?_, ⟨fun p x e => ?_, fun p l e => ?_⟩⟩, ⟨o.nx.gg, o.nx.fr, o.nx.gn, fun p x e e' => ?_, fun p x e => ?_⟩⟩, hw⟩
  · by_cases k : p = a
    · subst k; rw [upd_same] at e; rw [h1]; exact e
    · rw [upd_ne k] at e; exact o.pt.mh p x e
  · rw [upd_ne (ne_of_none e hG)]; exact o.pt.dj p x e
  · rw [wGet_cons]
    by_cases k : p = a
    · rw [if_pos k]; exact ⟨_, rfl⟩
    · rw [if_neg k]; rw [upd_ne k] at e; exact o.pt.wd.1 p x e
  · rw [wGet_cons] at e
    by_cases k : p = a
    · subst k
      rw [if_pos rfl] at e
      cases e
      exact ⟨us, upd_same, r⟩
    · rw [if_neg k] at e
      obtain ⟨vs, g1, g2⟩ := o.pt.wd.2 p l e
      exact ⟨vs, by rw [upd_ne k]; exact g1, g2⟩
  · by_cases k : p = a
    · subst k; exact h0
    · rw [upd_ne k] at e; exact o.nx.mn p x e e'
  · obtain ⟨y, e1⟩ := o.nx.m0 p x e
    by_cases k : p = a
    · subst k; exact ⟨_, upd_same⟩
    · exact ⟨y, by rw [upd_ne k]; exact e1⟩
/-! rules -/
def onRef (d : D) (f : Addr → Prop) : Prop := match d with | .ref a => f a | _ => False
theorem onRef.of {d : D} {f : Addr → Prop} (h : onRef d f) : ∃ a, d = .ref a ∧ f a := by
  unfold onRef at h
  split at h
  · exact ⟨_, rfl, h⟩
  · exact h.elim
theorem onRef.imp {d : D} {f g : Addr → Prop} (k : ∀ a, f a → g a) (h : onRef d f) : onRef d g := by obtain ⟨a, rfl, q⟩ := h.of; exact k a q
def zIxW (ta tb : TEZ Mst) : TEZ Mst := fun δ w Q E => ta δ w (fun x w1 => tb δ w1 (fun y w2 => onRef x fun a => intD y fun k => ∃ l v, wGet w2 a = some l ∧ atI l k = some v ∧ Q v w2) E) E
def zLenW (ta : TEZ Mst) : TEZ Mst := fun δ w Q E => ta δ w (fun x w1 => onRef x fun a => ∃ l, wGet w1 a = some l ∧ Q (.int l.length) w1) E
def zSetW (to tk te : TEZ Mst) : TSZ Mst := fun DE δ w => te δ w (fun d w1 => to δ w1 (fun x w2 => tk δ w2 (fun y w3 => onRef x fun a => intD y fun k => ∃ l j, wGet w3 a = some l ∧ ixN l.length k = some j ∧ DE.nx δ (wSet w3 a (l.set j d))) (fun e w' => DE.ex e δ w')) (fun e w' => DE.ex e δ w')) (fun e w' => DE.ex e δ w')
def zRetW (ta : TAZ Mst) : TSZ Mst := fun DE δ w => ta δ w (fun l w1 => l.length ≤ 100000 ∧ ∀ p, wGet w1 p = none → DE.rt (.ref p) ((p, l) :: w1)) (fun e w' => DE.ex e δ w')
def zToW (i : Nat) (t : TSZ Mst) : TSZ Mst := fun DE δ w => onOwn δ i fun l => ∀ c, wGet w c = none → t DE (δ.set i (.val (.ref c))) ((c, l) :: w)
section
variable {X : Cx} {ec : Nat → Addr} {pos pos' p : Pos} {a b e : Expr} {ta tb te to tk : TEZ Mst}
theorem z_ixW (ha : PEZ X (WL X.K ec) a ta) (hb : PEZ X (WL X.K ec) b tb) (hs : PlainIx b := by exact fun _ _ => rfl) : PEZ X (WL X.K ec) (.Subscript a b pos) (zIxW ta tb) :=
  ⟨fun k h => ha.mo (fun _ _ h1 => hb.mo (fun _ _ h2 => h2.imp fun a h3 => h3.imp fun n ⟨l, v, g1, g2, g3⟩ => ⟨l, v, g1, g2, k _ _ g3⟩) h1) h, fun Z ex tk => peI (pe_ix ix_list (ha.run Z ex tk) (hb.run Z ex tk) hs) fun σ H Q ⟨G, M, δ, w, s, h⟩ =>
    ⟨G, M, δ, w, s, ha.mo (fun d w1 h1 v H1 G1 M1 o1 r1 => ⟨G1, M1, δ, w1, s.go o1, hb.mo (fun d2 w2 h2 v2 H2 G2 M2 o2 r2 => by
      obtain ⟨q, rfl, h3⟩ := h2.of
      obtain ⟨k, rfl, l, d, g1, g2, g3⟩ := h3.of
      cases r1
      cases r2
      obtain ⟨vs, m1, m2⟩ := o2.pt.wd.2 q l g1
      obtain ⟨u, u1, u2⟩ := m2.at g2
      exact ⟨q, vs, k, u, rfl, rfl, .inl (.inl (o2.pt.mh _ _ m1)), u1, g3 u H2 G2 M2 (o1.tr o2) u2⟩) h1⟩) h⟩⟩
theorem z_lenW (hm : X.mg "len" = none) (ha : PEZ X (WL X.K ec) a ta) (hg : Gl X "len" := by rfl) (he : starEach [a] X.env = (false, eval a X.env) :: starEach [] X.env := by rfl) (hpl : (backTo pos (starEach [] X.env)).any (·.1) = false := by rfl) : PEZ X (WL X.K ec) (.Call (.Name "len" p) [a] [] pos) (zLenW ta) :=
  ⟨fun k h => ha.mo (fun _ _ h1 => h1.imp fun q ⟨l, g1, g2⟩ => ⟨l, g1, k _ _ g2⟩) h, fun Z ex tk => peI (pe_callB call_len_seq hg hm PySem.boot_len (pa_cons (ha.run Z ex tk) pa_nil he) (by decide) (by decide) he hpl) fun σ H Q ⟨G, M, δ, w, s, h⟩ =>
    ⟨G, M, δ, w, s, ha.mo (fun d w1 h1 v H1 G1 M1 o1 r1 => by
      obtain ⟨q, rfl, l, g1, g2⟩ := h1.of
      cases r1
      obtain ⟨vs, m1, m2⟩ := o1.pt.wd.2 q l g1
      refine ⟨q, vs, rfl, .inl (.inl (.inl (o1.pt.mh _ _ m1))), ?_⟩
      rw [m2.len]
      exact g2 _ H1 G1 M1 o1 (.int _)) h⟩⟩
theorem z_setW (ho : PEZ X (WL X.K ec) a to) (hk : PEZ X (WL X.K ec) b tk) (he : PEZ X (WL X.K ec) e te) (hs : swapsWithSole [.Subscript a b pos'] e pos.line X.env = pure false := by rfl) (hw : swappedStores [.Subscript a b pos'] e X.env = pure none := by rfl)
    (h1 : (assignEach [.Subscript a b pos'] X.env).map (·.2) = [assign (.Subscript a b pos') X.env] := by rfl)
    (ha : ∀ v, assign (.Subscript a b pos') X.env v = (do
      let ov ← holding [v] (eval a X.env)
      let iv ← holding [v, ov] (eval b X.env)
      standAt pos'
      holding [v, ov, iv] (setItem ov iv v)
      release [v, ov, iv] []) := by intro _; rfl) : PSZ X (WL X.K ec) (.Assign [.Subscript a b pos'] e pos) (zSetW to tk te) := fun Z ex tk' =>
  psI (ps_asg (he.run Z ex tk') (pg_sub (ho.run Z ex tk') (hk.run Z ex tk') set_list ha) hs hw h1) fun DE σ H ⟨Dz, hex, EI, G, M, δ, w, s, h⟩ => by
  subst hex
  refine ⟨G, M, δ, w, s, he.mo (fun d w1 q1 v H1 G1 M1 o1 r1 => ⟨G1, M1, δ, w1, s.go o1, ho.mo (fun x w2 q2 v2 H2 G2 M2 o2 r2 => ⟨G2, M2, δ, w2, s.go (o1.tr o2), hk.mo (fun y w3 q3 v3 H3 G3 M3 o3 r3 => ?_) q2⟩) q1⟩) h⟩
  obtain ⟨q, rfl, h3⟩ := q3.of
  obtain ⟨k, rfl, l, j, g1, g2, g3⟩ := h3.of
  cases r2
  cases r3
  obtain ⟨vs, m1, m2⟩ := o3.pt.wd.2 q l g1
  have s3 := s.go ((o1.tr o2).tr o3)
  exact ⟨q, vs, k, j, rfl, rfl, o3.pt.mh _ _ m1, by rw [m2.len]; exact g2, EI.nx _ _ ⟨G3, _, δ, _, chgW s3 g1 (RepL.set (r1.up ((o2.tr o3).nx.gg)) j m2), g3⟩⟩
theorem z_retW {es : List Expr} {t : TAZ Mst} (h : PAZ X (WL X.K ec) es t) : PSZ X (WL X.K ec) (.Return (some (.List es pos')) pos) (zRetW t) := fun Z ex tk => psI (ps_ret (pe_lst (h.run Z ex tk))) fun DE σ H ⟨Dz, hex, EI, G, M, δ, w, s, q⟩ => by
  subst hex
  refine ⟨G, M, δ, w, s, h.mo (fun l w1 ⟨q0, q1⟩ vs H1 G1 M1 o1 r1 => ⟨sz1 (by rw [r1.len]; exact q0), fun p hp => ?_⟩) q⟩
  have n := NewAt.of (vs := vs) o1 s.pt.mh hp
  obtain ⟨o2, hw⟩ := newW (m := l) (o1.laid hp) n.1 n.2.1 n.2.2.1 n.2.2.2 r1
  exact EI.rt (.ref p) _ G1 _ (.ref p) _ o2.pt (s.go o2).nx (.ref p) (q1 p hw)
theorem zb_toW (i : Nat) {sts : List Stmt} {t : TSZ Mst} (h : PBZ X (WL X.K ec) sts t) : PBZ X (WL X.K ec) sts (zToW i t) := fun Z ex tk => pbI (h Z ex tk) fun DE σ H ⟨Dz, hex, EI, G, M, δ, w, s, q⟩ => by
  obtain ⟨l, hl, q⟩ := q.of
  obtain ⟨p, vs, h1, h2, h3, h4, h5, h7⟩ := s.sl i _ hl
  have hi : i < δ.length := (List.getElem?_eq_some_iff.mp hl).1
  have hw := s.pt.wd.none h4
  have own : ∀ {n : Nat} {m' : List D}, (δ.set i (.val (.ref p)))[n]? = some (.own m') → δ[n]? = some (.own m') ∧ i ≠ n := fun {n m'} e => by
    by_cases z : i = n
    · subst z; rw [List.getElem?_set_self hi] at e; cases e
    · rw [List.getElem?_set_ne z] at e; exact ⟨e, z⟩
  refine ⟨Dz, hex, EI, G, upd M p (.lst vs), _, _, ⟨⟨s.pt.gh, fun q x e => ?_, fun q x e => ?_, ⟨fun q x e => ?_, fun q l' e => ?_⟩⟩, ⟨s.nx.gg, s.nx.fr, s.nx.gn, fun q x e e' => ?_, fun q x e => ?_⟩, s.st, by rw [List.length_set]; exact s.len, fun j sl e => ?_, fun j k q m1 m2 e1 e2 e3 e4 => s.od j k q m1 m2 (own e1).1 (own e2).1 e3 e4⟩, q p hw⟩
  · by_cases k : q = p
    · subst k; rw [upd_same] at e; rw [h2]; exact e
    · rw [upd_ne k] at e; exact s.pt.mh q x e
  · rw [upd_ne (ne_of_none e h3)]; exact s.pt.dj q x e
  · rw [wGet_cons]
    by_cases k : q = p
    · rw [if_pos k]; exact ⟨_, rfl⟩
    · rw [if_neg k]; rw [upd_ne k] at e; exact s.pt.wd.1 q x e
  · rw [wGet_cons] at e
    by_cases k : q = p
    · subst k
      rw [if_pos rfl] at e
      cases e
      exact ⟨vs, upd_same, h7⟩
    · rw [if_neg k] at e
      obtain ⟨us, g1, g2⟩ := s.pt.wd.2 q l' e
      exact ⟨us, by rw [upd_ne k]; exact g1, g2⟩
  · by_cases k : q = p
    · subst k; exact h5
    · rw [upd_ne k] at e; exact s.nx.mn q x e e'
  · obtain ⟨y, e1⟩ := s.nx.m0 q x e
    by_cases k : q = p
    · subst k; exact ⟨_, upd_same⟩
    · exact ⟨y, by rw [upd_ne k]; exact e1⟩
  · by_cases z : i = j
    · subst z
      rw [List.getElem?_set_self hi] at e
      cases e
      exact ⟨.ref p, h1, .ref p⟩
    · have e' : δ[j]? = some sl := by rw [List.getElem?_set_ne z] at e; exact e
      have g := s.sl j sl e'
      cases sl with
      | no => trivial
      | val d => exact g
      | own l' =>
        obtain ⟨p', us, g1, g2, g3, g4, g5, g6⟩ := g
        refine ⟨p', us, g1, g2, g3, ?_, g5, g6⟩
        rw [upd_ne (fun y => z (s.od i j p l l' hl e' h1 (by rw [← y]; exact g1)))]
        exact g4
end
end Z

namespace Z
open PySem PySem.Spec PyProof.Rows L2
theorem Sm.num (i : Int) : Sm (i.natAbs.log2 + 1) i := by
  unfold Sm
  by_cases h : i.natAbs = 0
  · rw [h]; decide
  · exact Nat.lt_log2_self
theorem DivOk.of {n : Nat} {j : Int} (h : 0 < j) (s : Sm n j) (l : n ≤ 8000) : DivOk j := ⟨h, s.le l⟩
theorem Sm.ofNat {n : Nat} {k : Nat} (h : k < 2 ^ n) : Sm n (k : Int) := by unfold Sm; omega
theorem Sm.lt10 {r : Int} {k : Nat} (h0 : 0 ≤ r) (h1 : r < 10 ^ k) : Sm (4 * k) r := by
  unfold Sm
  have e : (10 : Int) ^ k = ((10 ^ k : Nat) : Int) := by simp
  rw [e] at h1
  have h2 : r.natAbs < 10 ^ k := by omega
  refine Nat.lt_of_lt_of_le h2 ?_
  rw [Nat.pow_mul]
  exact Nat.pow_le_pow_left (by decide) k
theorem Sm.lt10s {r : Int} {k : Nat} (h0 : -(10 ^ k) ≤ r) (h1 : r ≤ 10 ^ k) : Sm (4 * k + 1) r := by
  unfold Sm
  have e : (10 : Int) ^ k = ((10 ^ k : Nat) : Int) := by simp
  rw [e] at h0 h1
  have h2 : r.natAbs ≤ 10 ^ k := by omega
  refine Nat.lt_of_le_of_lt h2 ?_
  rw [Nat.pow_succ, Nat.pow_mul]
  have := Nat.pow_le_pow_left (show 10 ≤ 2 ^ 4 by decide) k
  have := Nat.pos_of_ne_zero (show (2 ^ 4) ^ k ≠ 0 by simp)
  omega
theorem atI_at {l : List D} {k : Int} (h0 : 0 ≤ k) (h1 : k < l.length) : ∃ d, atI l k = some d ∧ l[k.toNat]? = some d := by
  have h2 : k.toNat < l.length := by omega
  refine ⟨l[k.toNat], ?_, List.getElem?_eq_getElem h2⟩
  unfold atI ixN
  rw [if_pos h0, if_pos h1]
  exact List.getElem?_eq_getElem h2
theorem atI_int {ns : List Int} {k : Int} (h0 : 0 ≤ k) (h1 : k < ns.length) : ∃ z, atI (ns.map D.int) k = some (.int z) ∧ ns[k.toNat]? = some z := by
  obtain ⟨d, e1, e2⟩ := atI_at (l := ns.map D.int) h0 (by rw [List.length_map]; exact h1)
  rw [List.getElem?_map] at e2
  cases q : ns[k.toNat]? with
  | none => rw [q] at e2; cases e2
  | some z => rw [q] at e2; cases e2; exact ⟨z, e1, rfl⟩
theorem ixN_in {n : Nat} {k : Int} (h0 : 0 ≤ k) (h1 : k < n) : ixN n k = some k.toNat := by
  unfold ixN
  rw [if_pos h0, if_pos h1]
theorem deq_int (i j : Int) : deq (.int i) (.int j) = (i == j) := by unfold deq; simp only [py, PyData.eqv]
theorem deq_bl (i j : Bool) : deq (.bl i) (.bl j) = (i == j) := by unfold deq; simp only [py, PyData.eqv]
theorem deq_tup (l m : List D) : deq (.tup l) (.tup m) = deqs l m := by unfold deq deqs; simp only [py, PyData.eqv]
theorem deq_lst (l m : List D) : deq (.lst l) (.lst m) = deqs l m := by unfold deq deqs; simp only [py, PyData.eqv]
theorem deq_non : deq .non .non = true := by unfold deq; simp only [py, PyData.eqv]
theorem deq_non_int (i : Int) : deq .non (.int i) = false := by unfold deq; simp only [py, PyData.eqv]
theorem deq_int_non (i : Int) : deq (.int i) .non = false := by unfold deq; simp only [py, PyData.eqv]
theorem deq_non_tup (i : List D) : deq .non (.tup i) = false := by unfold deq; simp only [py, PyData.eqv]
theorem deq_tup_non (i : List D) : deq (.tup i) .non = false := by unfold deq; simp only [py, PyData.eqv]
theorem deqs_nil : deqs [] [] = true := by unfold deqs; simp only [pys, PyData.eqvAll]
theorem deqs_cons (a b : D) (l m : List D) : deqs (a :: l) (b :: m) = (deq a b && deqs l m) := by unfold deqs deq; simp only [pys, PyData.eqvAll]
theorem deqs_nil_cons (b : D) (m : List D) : deqs [] (b :: m) = false := by unfold deqs; simp only [pys, PyData.eqvAll]
theorem deqs_cons_nil (b : D) (m : List D) : deqs (b :: m) [] = false := by unfold deqs; simp only [pys, PyData.eqvAll]
theorem deqI {i j : Int} (h : deq (.int i) (.int j) = true) : i = j := by rw [deq_int] at h; exact beq_iff_eq.mp h
theorem deqI' {i j : Int} (h : deq (.int i) (.int j) = false) : i ≠ j := by rw [deq_int] at h; exact beq_eq_false_iff_ne.mp h
/-- the conditions of == on two whole numbers -/
theorem eqI {i j : Int} : okD (.int i) = true ∧ okD (.int j) = true ∧ dpD (.int i) ≤ 64 ∧ dpD (.int j) ≤ 64 := ⟨rfl, rfl, Nat.zero_le _, Nat.zero_le _⟩
end Z

namespace Z
open PySem PySem.Spec PyProof.Rows L2
/-- the texts of nines and of one with noughts behind, to sixty-four signs -/
theorem p10_le {a b : Nat} (h : a ≤ b) : (10 : Int) ^ a ≤ 10 ^ b := by
  have := Nat.pow_le_pow_right (show 0 < 10 by decide) h
  have e : ∀ n : Nat, (10 : Int) ^ n = ((10 ^ n : Nat) : Int) := fun n => by simp
  rw [e, e]; omega
theorem p10_pos (a : Nat) : (0 : Int) < 10 ^ a := by
  have := Nat.pow_pos (n := a) (show 0 < 10 by decide)
  have e : ∀ n : Nat, (10 : Int) ^ n = ((10 ^ n : Nat) : Int) := fun n => by simp
  rw [e]; omega
theorem impR {a b c : Prop} (h : b → c) : (a → b) → a → c := fun f x => h (f x)
theorem allR {α : Sort _} {p q : α → Prop} (h : ∀ x, p x → q x) : (∀ x, p x) → ∀ x, q x := fun f x => h x (f x)
theorem nb1 {b : Bool} (h : (!b) = true) : b = false := by cases b; rfl; cases h
theorem nb2 {b : Bool} (h : (!b) = false) : b = true := by cases b; cases h; rfl
/-! the entry's slots, one after the other -/
theorem stZ_len {a : Str} {N : List Str} {d : D} {ds : List D} : stZ (a :: N).length (d :: ds) = .val d :: stZ N.length ds := by
  unfold stZ
  rw [List.length_cons, List.length_cons, Nat.add_sub_add_right]; rfl
theorem stZ_len0 {a : Str} {N : List Str} : stZ (a :: N).length [] = .no :: stZ N.length [] := rfl
theorem stZ_nil : stZ ([] : List Str).length [] = [] := rfl
theorem setAll_cons {δ : List Sl} {i : Nat} {is : List Nat} {d : D} {ds : List D} : setAll δ (i :: is) (d :: ds) = setAll (δ.set i (.val d)) is ds := rfl
theorem setAll_nil {δ : List Sl} {ds : List D} : setAll δ [] ds = δ := rfl
/-! menus -/
theorem at_mem {l : List D} {k : Int} (h0 : 0 ≤ k) (h1 : k < l.length) : ∃ d, atI l k = some d ∧ d ∈ l := by
  obtain ⟨d, h2, h3⟩ := atI_at h0 h1
  exact ⟨d, h2, List.mem_of_getElem? h3⟩
theorem sgn_at (r : Int) : ∃ s, atI [D.int 1, D.int (-1)] (r % 2) = some (.int s) ∧ (s = 1 ∨ s = -1) ∧ Sm 1 s := by
  have : r % 2 = 0 ∨ r % 2 = 1 := by omega
  rcases this with e | e
  · rw [e]; exact ⟨1, rfl, .inl rfl, by unfold Sm; decide⟩
  · rw [e]; exact ⟨-1, rfl, .inr rfl, by unfold Sm; decide⟩
theorem Sm.sgn {n : Nat} {a s : Int} (h : Sm n a) (hs : s = 1 ∨ s = -1) : Sm n (a * s) := by
  rcases hs with rfl | rfl
  · rw [Int.mul_one]; exact h
  · unfold Sm at *; omega
end Z

namespace Z
open PySem PySem.Spec PyProof.Rows L2
variable {ω : Type}
theorem z_globE {X : Cx} {W : Wp ω} {pos : Pos} {x y : Str} (hm : ∃ t, X.mg x = some (.str y t)) (hg : Gl X x := by rfl) (hd : (x == ("__debug__" : Str)) = false := by decide) : PEZ X W (.Name x pos) (zK (.str y)) :=
  have ⟨_, h⟩ := hm
  z_globS h hg hd
/-! ### loops over a short list, turn by turn -/
def zUnC (gz : TGZ) (tt : TTZ ω) (te : TEZ ω) (vs : List Nat) (δ : List Sl) : List D → ω → (List D → ω → Prop) → Prop
  | [], w, Q => Q [] w
  | d :: l, w, Q => gz d (wipeZ δ vs) fun δ2 => tt δ2 w (fun b w2 => (b = true → te δ2 w2 (fun y w3 => zUnC gz tt te vs δ l w3 fun acc w4 => Q (y :: acc) w4) NoE) ∧ (b = false → zUnC gz tt te vs δ l w2 Q)) NoE
theorem un_comp {l : List D} {gz : TGZ} {tt : TTZ ω} {te : TEZ ω} {vs : List Nat} {δ : List Sl} {w : ω} {Q : List D → ω → Prop} (h : zUnC gz tt te vs δ l w Q) :
    ∃ I : Nat → List D → ω → Prop, I 0 [] w ∧ (∀ i d acc w', l[i]? = some d → I i acc w' → gz d (wipeZ δ vs) fun δ2 => tt δ2 w' (fun b w2 => (b = true → te δ2 w2 (fun y w3 => I (i + 1) (acc ++ [y]) w3) NoE) ∧ (b = false → I (i + 1) acc w2)) NoE) ∧
      ∀ acc w', I l.length acc w' → Q acc w' := by
  refine ⟨fun i acc w' => zUnC gz tt te vs δ (l.drop i) w' fun a w2 => Q (acc ++ a) w2, h, fun i d acc w' hd q => ?_, fun acc w' q => ?_⟩
  · have hl := (List.getElem?_eq_some_iff.mp hd)
    obtain ⟨h1, h2⟩ := hl
    dsimp only at q ⊢
    rw [List.drop_eq_getElem_cons h1, h2] at q
    simp only [List.append_assoc, List.singleton_append]
    exact q
  · dsimp only at q
    rw [List.drop_length] at q
    have q : Q (acc ++ []) w' := q
    rwa [List.append_nil] at q
def zUnS (gz : TGZ) (t : TSZ ω) (DE : EndZ ω) : List D → List Sl → ω → Prop
  | [], δ, w => DE.nx δ w
  | d :: l, δ, w => gz d δ fun δ2 => t { DE with nx := zUnS gz t DE l, ct := zUnS gz t DE l, bk := DE.nx } δ2 w
theorem un_loop {l : List D} {gz : TGZ} {t : TSZ ω} {DE : EndZ ω} {δ : List Sl} {w : ω} (h : zUnS gz t DE l δ w) : zLoop l gz t DE δ w := by
  refine ⟨fun i => zUnS gz t DE (l.drop i), h, fun i d δ' w' hd q => ?_, fun δ' w' q => ?_⟩
  · obtain ⟨h1, h2⟩ := List.getElem?_eq_some_iff.mp hd
    dsimp only at q
    rw [List.drop_eq_getElem_cons h1, h2] at q
    exact q
  · dsimp only at q
    rw [List.drop_length] at q
    exact q
/-! ### x in a list of flat data -/
def okF : D → Bool
  | .non => true
  | .bl _ => true
  | .int _ => true
  | .str _ => true
  | _ => false
def okFs : List D → Bool
  | [] => true
  | d :: l => okF d && okFs l
def eqF : D → D → Bool
  | .non, .non => true
  | .bl a, .bl b => a == b
  | .bl a, .int b => (if a then 1 else 0) == b
  | .int a, .bl b => a == (if b then 1 else 0)
  | .int a, .int b => a == b
  | .str a, .str b => a == b
  | _, _ => false
def memF (x : D) : List D → Bool
  | [] => false
  | y :: l => eqF y x || memF x l
theorem eqF_int (i j : Int) : eqF (.int i) (.int j) = (i == j) := rfl
theorem memF_nil (x : D) : memF x [] = false := rfl
theorem memF_cons (x y : D) (l : List D) : memF x (y :: l) = (eqF y x || memF x l) := rfl
section
variable {K : PySem.W.Frag} {G : Hp}
theorem okF_flat {v : V} {d : D} (r : Rep K G v d) (h : okF d = true) : flatV v = true := by
  cases r <;> first | rfl | cases h
theorem okFs_flat : ∀ {vs : List V} {l : List D}, RepL K G vs l → okFs l = true → vs.all flatV = true
  | _, _, .nil, _ => rfl
  | _, _, .cons r t, h => by
    unfold okFs at h
    rw [Bool.and_eq_true] at h
    rw [List.all_cons, okF_flat r h.1, okFs_flat t h.2]; rfl
theorem eqF_eqV {v u : V} {d e : D} (r : Rep K G v d) (s : Rep K G u e) (h : okF d = true) (g : okF e = true) : eqV v u = eqF d e := by
  cases r <;> first | (cases h; done) | (cases s <;> first | (cases g; done) | rfl)
theorem memF_inV {v : V} {d : D} (r : Rep K G v d) (h : okF d = true) : ∀ {vs : List V} {l : List D}, RepL K G vs l → okFs l = true → inV v vs = memF d l
  | _, _, .nil, _ => rfl
  | _, _, .cons s t, g => by
    unfold okFs at g
    rw [Bool.and_eq_true] at g
    have ih := memF_inV r h t g.2
    unfold inV at ih ⊢
    rw [List.any_cons, eqF_eqV s r g.1 h, ih]; rfl
end
def inD (neg : Bool) : OpD := fun x y q => match y with
  | .lst l => okF x = true ∧ okFs l = true ∧ q (.bl (if neg then !memF x l else memF x l))
  | .arr l => okF x = true ∧ okFs l = true ∧ q (.bl (if neg then !memF x l else memF x l))
  | .tup l => okF x = true ∧ okFs l = true ∧ q (.bl (if neg then !memF x l else memF x l))
  | _ => False
theorem l_inA {K : PySem.W.Frag} (neg : Bool) : Lnd K (rIn K neg) (inD neg) where
  mo := fun {x y q q'} k h => by
    unfold inD at h ⊢
    split at h
    · exact ⟨h.1, h.2.1, k _ h.2.2⟩
    · exact ⟨h.1, h.2.1, k _ h.2.2⟩
    · exact ⟨h.1, h.2.1, k _ h.2.2⟩
    · exact h.elim
  go := fun H G x y dx dy q Q e rx ry h k _ => by
    unfold inD at h
    split at h
    · obtain ⟨h1, h2, h3⟩ := h
      cases ry with
      | @lst p vs _ s r =>
        refine ⟨p, vs, rfl, .inl (.inl (.inl (e _ _ s))), okF_flat rx h1, okFs_flat r h2, ?_⟩
        rw [memF_inV rx h1 r h2]
        exact k _ _ h3 (.bl _)
    · obtain ⟨h1, h2, h3⟩ := h
      cases ry with
      | @arr p vs _ s r =>
        refine ⟨p, vs, rfl, .inl (sqLE e s), okF_flat rx h1, okFs_flat r h2, ?_⟩
        rw [memF_inV rx h1 r h2]
        exact k _ _ h3 (.bl _)
    · obtain ⟨h1, h2, h3⟩ := h
      cases ry with
      | @tup p vs _ s r =>
        refine ⟨p, vs, rfl, .inr (sqTE e s), okF_flat rx h1, okFs_flat r h2, ?_⟩
        rw [memF_inV rx h1 r h2]
        exact k _ _ h3 (.bl _)
    · exact h.elim
def inY : OpD := fun x y q => match y with
  | .lst l => okF x = true ∧ okFs l = true ∧ q (.bl (memF x l))
  | .arr l => okF x = true ∧ okFs l = true ∧ q (.bl (memF x l))
  | .tup l => okF x = true ∧ okFs l = true ∧ q (.bl (memF x l))
  | _ => False
def inN : OpD := fun x y q => match y with
  | .lst l => okF x = true ∧ okFs l = true ∧ q (.bl (!memF x l))
  | .arr l => okF x = true ∧ okFs l = true ∧ q (.bl (!memF x l))
  | .tup l => okF x = true ∧ okFs l = true ∧ q (.bl (!memF x l))
  | _ => False
theorem l_in {K : PySem.W.Frag} : Lnd K (rIn K false) inY := l_inA false
theorem l_notIn {K : PySem.W.Frag} : Lnd K (rIn K true) inN := l_inA true
theorem bl_eq4 {Q : D → ω → Prop} {w : ω} {a b c d e f g i : Int} (h : Q (.bl true) w) (e1 : a = e) (e2 : b = f) (e3 : c = g) (e4 : d = i) : Q (.bl (deq (.lst [.int a, .int b, .int c, .int d]) (.lst [.int e, .int f, .int g, .int i]))) w := by
  rw [deq_lst, deqs_cons, deqs_cons, deqs_cons, deqs_cons, deqs_nil, deq_int, deq_int, deq_int, deq_int, beq_iff_eq.mpr e1, beq_iff_eq.mpr e2, beq_iff_eq.mpr e3, beq_iff_eq.mpr e4]
  exact h
theorem w_set {w : Mst} {d : Addr} {l m : List D} (h : wGet w d = some l) : wGet (wSet w d m) d = some m := by rw [wGet_set, if_pos rfl, h]; rfl
theorem near7 {m r : Int} (hm : 1 ≤ m) (h0 : 0 ≤ r) (h1 : r < 7) : ∃ x, atI [D.int 0, D.int 1, D.int (m - 1), D.int m, D.int (m / 2 + 1), D.int (-1), D.int (0 - m)] r = some (.int x) ∧ -m ≤ x ∧ x ≤ m := by
  have : r = 0 ∨ r = 1 ∨ r = 2 ∨ r = 3 ∨ r = 4 ∨ r = 5 ∨ r = 6 := by omega
  rcases this with rfl | rfl | rfl | rfl | rfl | rfl | rfl
  · exact ⟨0, rfl, by omega, by omega⟩
  · exact ⟨1, rfl, by omega, by omega⟩
  · exact ⟨m - 1, rfl, by omega, by omega⟩
  · exact ⟨m, rfl, by omega, by omega⟩
  · exact ⟨m / 2 + 1, rfl, by omega, by omega⟩
  · exact ⟨-1, rfl, by omega, by omega⟩
  · exact ⟨0 - m, rfl, by omega, by omega⟩
/-! a place at which the walk stops and asks -/
@[irreducible] def Stp (p : Prop) : Prop := p
theorem Stp.mk {p : Prop} (h : p) : Stp p := by unfold Stp; exact h
theorem Stp.out {p : Prop} (h : Stp p) : p := by unfold Stp at h; exact h
theorem Stp.imp {p q : Prop} (f : p → q) (h : Stp p) : Stp q := .mk (f h.out)
theorem bl_dec {Q : D → ω → Prop} {w : ω} {p : Prop} [Decidable p] (h : Q (.bl true) w) (hp : p) : Q (.bl (decide p)) w := by
  rw [decide_eq_true hp]; exact h
theorem bl_eqp {Q : D → ω → Prop} {w : ω} {a b c d : Int} (h : Q (.bl true) w) (e1 : a = c) (e2 : b = d) : Q (.bl (deq (.tup [.int a, .int b]) (.tup [.int c, .int d]))) w := by
  rw [deq_tup, deqs_cons, deqs_cons, deqs_nil, deq_int, deq_int, beq_iff_eq.mpr e1, beq_iff_eq.mpr e2]
  exact h
theorem bl_decF {Q : D → ω → Prop} {w : ω} {p : Prop} [Decidable p] (h : Q (.bl false) w) (hp : ¬ p) : Q (.bl (decide p)) w := by
  rw [decide_eq_false hp]; exact h
theorem bl_nil {Q : D → ω → Prop} {w : ω} (h : Q (.bl true) w) : Q (.bl (deq (.lst []) (.lst []))) w := by
  rw [deq_lst, deqs_nil]; exact h
end Z

namespace Z
open PySem
/-! ### plain sums -/
def sumZ (f : Nat → Int) : Nat → Int
  | 0 => 0
  | n + 1 => sumZ f n + f n
theorem sumZ_congr {f g : Nat → Int} : ∀ n, (∀ i, i < n → f i = g i) → sumZ f n = sumZ g n
  | 0, _ => rfl
  | n + 1, h => by
    show sumZ f n + f n = sumZ g n + g n
    rw [sumZ_congr n fun i hi => h i (by omega), h n (by omega)]
theorem sumZ_add (f g : Nat → Int) : ∀ n, sumZ (fun i => f i + g i) n = sumZ f n + sumZ g n
  | 0 => rfl
  | n + 1 => by
    show sumZ (fun i => f i + g i) n + (f n + g n) = sumZ f n + f n + (sumZ g n + g n)
    rw [sumZ_add f g n]; omega
theorem sumZ_sub (f g : Nat → Int) : ∀ n, sumZ (fun i => f i - g i) n = sumZ f n - sumZ g n
  | 0 => rfl
  | n + 1 => by
    show sumZ (fun i => f i - g i) n + (f n - g n) = sumZ f n + f n - (sumZ g n + g n)
    rw [sumZ_sub f g n]; omega
theorem sumZ_mul (c : Int) (f : Nat → Int) : ∀ n, sumZ (fun i => c * f i) n = c * sumZ f n
  | 0 => by show (0 : Int) = c * 0; omega
  | n + 1 => by
    show sumZ (fun i => c * f i) n + c * f n = c * (sumZ f n + f n)
    rw [sumZ_mul c f n, Int.mul_add]
theorem sumZ_const (c : Int) : ∀ n, sumZ (fun _ => c) n = c * (n : Int)
  | 0 => by show (0 : Int) = c * 0; omega
  | n + 1 => by
    show sumZ (fun _ => c) n + c = c * ((n + 1 : Nat) : Int)
    rw [sumZ_const c n, Int.natCast_add, Int.mul_add]; omega
theorem sumZ_split (f : Nat → Int) (n : Nat) : ∀ k, sumZ f (n + k) = sumZ f n + sumZ (fun i => f (n + i)) k
  | 0 => by show sumZ f n = sumZ f n + 0; omega
  | k + 1 => by
    show sumZ f (n + k) + f (n + k) = sumZ f n + (sumZ (fun i => f (n + i)) k + f (n + k))
    rw [sumZ_split f n k]; omega
theorem sumZ_first (f : Nat → Int) (n : Nat) : sumZ f (n + 1) = f 0 + sumZ (fun i => f (i + 1)) n := by
  have h := sumZ_split f 1 n
  rw [Nat.add_comm 1 n] at h
  rw [h, sumZ_congr (f := fun i => f (1 + i)) (g := fun i => f (i + 1)) n fun i _ => by rw [Nat.add_comm]]
  show 0 + f 0 + _ = _
  omega
theorem sumZ_rev (f : Nat → Int) : ∀ n, sumZ (fun i => f (n - 1 - i)) n = sumZ f n
  | 0 => rfl
  | n + 1 => by
    rw [sumZ_first]
    show f (n + 1 - 1 - 0) + _ = sumZ f n + f n
    rw [← sumZ_rev f n, sumZ_congr (f := fun i => f (n + 1 - 1 - (i + 1))) (g := fun i => f (n - 1 - i)) n fun i _ => by rw [show n + 1 - 1 - (i + 1) = n - 1 - i by omega], show n + 1 - 1 - 0 = n by omega]
    omega
/-- the sum of the places -/
def tri (n : Int) : Int := n * (n - 1) / 2
theorem tri_two (n : Int) : 2 * tri n = n * (n - 1) := by
  unfold tri
  have h : n * (n - 1) % 2 = 0 := by
    have e : n % 2 = 0 ∨ n % 2 = 1 := by omega
    rcases e with e | e
    · rw [Int.mul_emod, e]; simp
    · have : (n - 1) % 2 = 0 := by omega
      rw [Int.mul_emod, this]; simp
  omega
theorem sumZ_id : ∀ n : Nat, sumZ (fun i => (i : Int)) n = tri n
  | 0 => rfl
  | n + 1 => by
    show sumZ (fun i => (i : Int)) n + (n : Int) = tri ((n + 1 : Nat) : Int)
    rw [sumZ_id n]
    have h1 := tri_two (n : Int)
    have h2 := tri_two ((n + 1 : Nat) : Int)
    have e : ((n + 1 : Nat) : Int) * (((n + 1 : Nat) : Int) - 1) = (n : Int) * ((n : Int) - 1) + 2 * (n : Int) := by
      rw [Int.natCast_add]; simp only [Int.natCast_one]
      rw [show (n : Int) + 1 - 1 = (n : Int) by omega, Int.add_mul, Int.mul_sub]; omega
    omega
/-- parts and rests at the first n places -/
def FS (a b m : Int) (n : Nat) : Int := sumZ (fun i => (a * (i : Int) + b) / m) n
def RS (a b m : Int) (n : Nat) : Int := sumZ (fun i => (a * (i : Int) + b) % m) n
theorem sum_line (a b : Int) (n : Nat) : sumZ (fun i => a * (i : Int) + b) n = a * tri n + b * n := by
  rw [sumZ_add (fun i => a * (i : Int)) (fun _ => b), sumZ_mul, sumZ_const, sumZ_id]
theorem FS_RS (a b m : Int) (n : Nat) : m * FS a b m n + RS a b m n = a * tri n + b * n := by
  unfold FS RS
  rw [← sum_line, ← sumZ_mul, ← sumZ_add]
  exact sumZ_congr n fun i _ => Int.mul_ediv_add_emod _ _
theorem FS_laid {m : Int} (hm : 0 < m) (a b : Int) (n : Nat) : FS a b m n = a / m * tri n + b / m * n + FS (a % m) (b % m) m n := by
  unfold FS
  rw [← sum_line, ← sumZ_add]
  refine sumZ_congr n fun i _ => ?_
  have ha := Int.mul_ediv_add_emod a m
  have hb := Int.mul_ediv_add_emod b m
  have e : a * (i : Int) + b = (a % m * (i : Int) + b % m) + m * (a / m * (i : Int) + b / m) := by
    conv => lhs; rw [← ha, ← hb]
    rw [Int.add_mul, Int.mul_add, Int.mul_assoc]
    omega
  rw [e, Int.add_mul_ediv_left _ _ (by omega : m ≠ 0)]
  omega
/-- a line and its turned one -/
theorem FS_turn {a b m : Int} (ha : 0 < a) (hm : a < m) (hb : 0 ≤ b) (hb2 : b < m) : ∀ n : Nat, FS a b m n = FS m ((a * n + b) % m) a ((a * n + b) / m).toNat
  | 0 => by
    have e : (a * ((0 : Nat) : Int) + b) / m = 0 := by simp; exact Int.ediv_eq_zero_of_lt hb hb2
    rw [e]; rfl
  | n + 1 => by
    have ih := FS_turn ha hm hb hb2 n
    have hN : 0 ≤ (a * (n : Int) + b) / m := Int.ediv_nonneg (Int.add_nonneg (Int.mul_nonneg (by omega) (by omega)) hb) (by omega)
    have e0 : FS a b m (n + 1) = FS a b m n + (a * (n : Int) + b) / m := rfl
    have r0 := Int.emod_nonneg (a * (n : Int) + b) (show m ≠ 0 by omega)
    have r1 := Int.emod_lt_of_pos (a * (n : Int) + b) (show 0 < m by omega)
    have hd := Int.mul_ediv_add_emod (a * (n : Int) + b) m
    have e1 : a * ((n + 1 : Nat) : Int) + b = (a * (n : Int) + b) + a := by rw [Int.natCast_add, Int.mul_add]; simp; omega
    rw [e0, ih, e1]
    generalize hq : (a * (n : Int) + b) / m = q at *
    generalize hr : (a * (n : Int) + b) % m = r at *
    generalize a * (n : Int) + b = t at *
    obtain ⟨k, rfl⟩ : ∃ k : Nat, q = k := ⟨q.toNat, by omega⟩
    by_cases c : r + a < m
    · have d1 : (t + a) / m = k := by rw [← hd, Int.add_assoc, Int.mul_add_ediv_left _ _ (by omega : m ≠ 0), Int.ediv_eq_zero_of_lt (by omega) c]; omega
      have d2 : (t + a) % m = r + a := by rw [← hd, Int.add_assoc, Int.mul_add_emod_self_left]; exact Int.emod_eq_of_lt (by omega) c
      rw [d1, d2, Int.toNat_natCast]
      unfold FS
      rw [show (k : Int) = 1 * (k : Int) by omega, ← sumZ_const, ← sumZ_add]
      refine sumZ_congr k fun i _ => ?_
      rw [show m * (i : Int) + (r + a) = m * (i : Int) + r + a * 1 by omega, Int.add_mul_ediv_left _ _ (by omega : a ≠ 0)]
    · have d1 : (t + a) / m = k + 1 := by rw [← hd, show m * (k : Int) + r + a = (r + a - m) + m * ((k : Int) + 1) by rw [Int.mul_add]; omega, Int.add_mul_ediv_left _ _ (by omega : m ≠ 0), Int.ediv_eq_zero_of_lt (by omega) (by omega)]; omega
      have d2 : (t + a) % m = r + a - m := by rw [← hd, show m * (k : Int) + r + a = (r + a - m) + m * ((k : Int) + 1) by rw [Int.mul_add]; omega, Int.add_mul_emod_self_left]; exact Int.emod_eq_of_lt (by omega) (by omega)
      rw [d1, d2, show ((k : Int) + 1).toNat = k + 1 by omega, Int.toNat_natCast]
      unfold FS
      rw [sumZ_first, show (m * ((0 : Nat) : Int) + (r + a - m)) / a = 0 by simp; exact Int.ediv_eq_zero_of_lt (by omega) (by omega), Int.zero_add]
      have hk : sumZ (fun _ => (1 : Int)) k = k := by rw [sumZ_const]; omega
      rw [show sumZ (fun i => (m * (i : Int) + r) / a) k + (k : Int) = sumZ (fun i => (m * (i : Int) + r) / a) k + sumZ (fun _ => 1) k by rw [hk], ← sumZ_add]
      refine sumZ_congr k fun i _ => ?_
      rw [show m * ((i + 1 : Nat) : Int) + (r + a - m) = m * (i : Int) + r + a * 1 by rw [Int.natCast_add, Int.mul_add]; simp; omega, Int.add_mul_ediv_left _ _ (by omega : a ≠ 0)]
theorem FS_none {a b m : Int} (ha : 0 ≤ a) (hm : a < m) (hb : 0 ≤ b) (hb2 : b < m) {n : Nat} (h : (a * n + b) / m = 0) : FS a b m n = 0 := by
  by_cases h0 : a = 0
  · subst h0
    unfold FS
    rw [sumZ_congr (g := fun _ => 0) n fun i _ => by rw [Int.zero_mul, Int.zero_add]; exact Int.ediv_eq_zero_of_lt hb hb2, sumZ_const]
    omega
  · rw [FS_turn (by omega) hm hb hb2, h]; rfl
theorem RS_le {m : Int} (hm : 1 ≤ m) (a b : Int) : ∀ n : Nat, 0 ≤ RS a b m n ∧ RS a b m n ≤ m * n
  | 0 => by show (0 : Int) ≤ 0 ∧ (0 : Int) ≤ m * 0; omega
  | n + 1 => by
    have ih := RS_le hm a b n
    have h0 := Int.emod_nonneg (a * (n : Int) + b) (show m ≠ 0 by omega)
    have h1 := Int.emod_lt_of_pos (a * (n : Int) + b) (show 0 < m by omega)
    have e : m * ((n + 1 : Nat) : Int) = m * (n : Int) + m := by rw [Int.natCast_add, Int.mul_add]; simp
    show 0 ≤ RS a b m n + (a * (n : Int) + b) % m ∧ RS a b m n + (a * (n : Int) + b) % m ≤ m * ((n + 1 : Nat) : Int)
    rw [e]; omega
theorem tri_sm {k : Nat} {n : Int} (h : Sm k n) : Sm (2 * k + 2) (tri n) := by
  have h1 : Sm (k + (max k 1 + 1)) (n * (n - 1)) := Sm.mul h (Sm.sub h (Sm.lit (by decide)))
  have h2 : Sm (k + (max k 1 + 1)) (n * (n - 1) / 2) := Sm.div h1 (by decide)
  by_cases hk : k = 0
  · subst hk
    have : n = 0 := by unfold Sm at h; omega
    subst this
    exact Sm.le (n := 1) (by show (tri 0).natAbs < 2 ^ 1; decide) (by omega)
  · exact h2.le (by omega)
theorem FS_sm {k : Nat} {a b m n : Int} (hm : 1 ≤ m) (hn : 0 ≤ n) (sa : Sm k a) (sb : Sm k b) (sm : Sm k m) (sn : Sm k n) : Sm (4 * k + 20) (FS a b m n.toNat) := by
  have e := FS_RS a b m n.toNat
  have r := RS_le hm a b n.toNat
  rw [show ((n.toNat : Nat) : Int) = n by omega] at e r
  have s1 : Sm (k + (2 * k + 2)) (a * tri n) := Sm.mul sa (tri_sm sn)
  have s2 : Sm (k + k) (b * n) := Sm.mul sb sn
  have s3 : Sm (k + k) (RS a b m n.toNat) := (Sm.mul sm sn).of_le r.1 r.2
  have s4 := Sm.sub (Sm.add s1 s2) s3
  rw [show a * tri n + b * n - RS a b m n.toNat = m * FS a b m n.toNat by omega] at s4
  refine Sm.le (s4.of_abs ?_) (by omega)
  rw [Int.natAbs_mul]
  exact Nat.le_mul_of_pos_left _ (by omega)
end Z

namespace Z
open PySem
/-! ### sums of parts and rests: laws with Int counts -/
theorem toNat_add' {n k : Int} (hn : 0 ≤ n) (hk : 0 ≤ k) : (n + k).toNat = n.toNat + k.toNat := by omega
theorem FS_join (a b m : Int) {n k : Int} (hn : 0 ≤ n) (hk : 0 ≤ k) : FS a b m (n + k).toNat = FS a b m n.toNat + FS a (a * n + b) m k.toNat := by
  rw [toNat_add' hn hk]
  unfold FS
  rw [sumZ_split]
  congr 1
  refine sumZ_congr _ fun i _ => ?_
  rw [Int.natCast_add, Int.mul_add, show ((n.toNat : Nat) : Int) = n by omega, Int.add_comm (a * n), Int.add_assoc]
theorem RS_join (a b m : Int) {n k : Int} (hn : 0 ≤ n) (hk : 0 ≤ k) : RS a b m (n + k).toNat = RS a b m n.toNat + RS a (a * n + b) m k.toNat := by
  rw [toNat_add' hn hk]
  unfold RS
  rw [sumZ_split]
  congr 1
  refine sumZ_congr _ fun i _ => ?_
  rw [Int.natCast_add, Int.mul_add, show ((n.toNat : Nat) : Int) = n by omega, Int.add_comm (a * n), Int.add_assoc]
theorem line_rev (a b : Int) {n : Int} (hn : 0 ≤ n) {i : Nat} (hi : i < n.toNat) : (0 - a) * (i : Int) + (a * (n - 1) + b) = a * ((n.toNat - 1 - i : Nat) : Int) + b := by
  rw [show ((n.toNat - 1 - i : Nat) : Int) = n - 1 - i by omega, Int.mul_sub a (n - 1) i, Int.sub_mul, Int.zero_mul]; omega
theorem FS_rev (a b m : Int) {n : Int} (hn : 0 ≤ n) : FS (0 - a) (a * (n - 1) + b) m n.toNat = FS a b m n.toNat := by
  unfold FS
  rw [← sumZ_rev (fun i => (a * (i : Int) + b) / m)]
  exact sumZ_congr _ fun i hi => by rw [line_rev a b hn hi]
theorem RS_rev (a b m : Int) {n : Int} (hn : 0 ≤ n) : RS (0 - a) (a * (n - 1) + b) m n.toNat = RS a b m n.toNat := by
  unfold RS
  rw [← sumZ_rev (fun i => (a * (i : Int) + b) % m)]
  exact sumZ_congr _ fun i hi => by rw [line_rev a b hn hi]
theorem FS_one (a b m : Int) {n : Int} (hn : 0 ≤ n) : FS a b m (n + 1).toNat = FS a b m n.toNat + (a * n + b) / m := by
  rw [show (n + 1).toNat = n.toNat + 1 by omega]
  show FS a b m n.toNat + (a * ((n.toNat : Nat) : Int) + b) / m = _
  rw [show ((n.toNat : Nat) : Int) = n by omega]
theorem RS_one (a b m : Int) {n : Int} (hn : 0 ≤ n) : RS a b m (n + 1).toNat = RS a b m n.toNat + (a * n + b) % m := by
  rw [show (n + 1).toNat = n.toNat + 1 by omega]
  show RS a b m n.toNat + (a * ((n.toNat : Nat) : Int) + b) % m = _
  rw [show ((n.toNat : Nat) : Int) = n by omega]
theorem line_times (a b t : Int) (i : Nat) : a * t * (i : Int) + b * t = (a * (i : Int) + b) * t := by
  rw [Int.add_mul, Int.mul_right_comm]
theorem FS_times (a b m : Int) {t : Int} (ht : 0 < t) (n : Nat) : FS (a * t) (b * t) (m * t) n = FS a b m n := by
  unfold FS
  refine sumZ_congr _ fun i _ => ?_
  rw [line_times, Int.mul_ediv_mul_of_pos_left _ _ ht]
theorem RS_times (a b m : Int) {t : Int} (ht : 0 < t) (n : Nat) : RS (a * t) (b * t) (m * t) n = RS a b m n * t := by
  unfold RS
  rw [Int.mul_comm (sumZ _ n) t, ← sumZ_mul]
  refine sumZ_congr _ fun i _ => ?_
  rw [line_times, Int.mul_comm _ t, Int.mul_comm m t, Int.mul_emod_mul_of_pos _ _ ht]
theorem FS_upA (a b : Int) {m : Int} (hm : m ≠ 0) (k : Int) (n : Nat) : FS (a + k * m) b m n = FS a b m n + k * tri n := by
  unfold FS
  rw [← sumZ_id, ← sumZ_mul, ← sumZ_add]
  refine sumZ_congr _ fun i _ => ?_
  rw [Int.add_mul, show a * (i : Int) + k * m * (i : Int) + b = a * (i : Int) + b + m * (k * (i : Int)) by rw [Int.mul_comm k m, Int.mul_assoc]; omega, Int.add_mul_ediv_left _ _ hm]
theorem FS_upB (a b : Int) {m : Int} (hm : m ≠ 0) (k : Int) (n : Nat) : FS a (b + k * m) m n = FS a b m n + k * n := by
  unfold FS
  rw [← sumZ_const, ← sumZ_add]
  refine sumZ_congr _ fun i _ => ?_
  rw [show a * (i : Int) + (b + k * m) = a * (i : Int) + b + m * k by rw [Int.mul_comm k m]; omega, Int.add_mul_ediv_left _ _ hm]
theorem RS_upA (a b : Int) (m : Int) (k : Int) (n : Nat) : RS (a + k * m) b m n = RS a b m n := by
  unfold RS
  refine sumZ_congr _ fun i _ => ?_
  rw [Int.add_mul, show a * (i : Int) + k * m * (i : Int) + b = a * (i : Int) + b + m * (k * (i : Int)) by rw [Int.mul_comm k m, Int.mul_assoc]; omega, Int.add_mul_emod_self_left]
theorem RS_upB (a b : Int) (m : Int) (k : Int) (n : Nat) : RS a (b + k * m) m n = RS a b m n := by
  unfold RS
  refine sumZ_congr _ fun i _ => ?_
  rw [show a * (i : Int) + (b + k * m) = a * (i : Int) + b + m * k by rw [Int.mul_comm k m]; omega, Int.add_mul_emod_self_left]
theorem bl_eq {ω : Type} {Q : D → ω → Prop} {w : ω} {x y : Int} (h : Q (.bl true) w) (e : x = y) : Q (.bl (deq (.int x) (.int y))) w := by
  rw [deq_int, beq_iff_eq.mpr e]
  exact h
end Z

namespace Z
open PySem
/-! ### sums by periods and by full turns -/
theorem sumZ_single (c : Int) (r : Nat) : ∀ m, sumZ (fun x => if x = r then c else 0) m = if r < m then c else 0
  | 0 => by rw [if_neg (by omega)]; rfl
  | m + 1 => by
    show sumZ (fun x => if x = r then c else 0) m + (if m = r then c else 0) = _
    rw [sumZ_single c r m]
    by_cases h : m = r
    · rw [if_pos h, if_neg (by omega), if_pos (by omega)]; omega
    · rw [if_neg h]
      by_cases h2 : r < m
      · rw [if_pos h2, if_pos (by omega)]; omega
      · rw [if_neg h2, if_neg (by omega)]; omega
theorem sumZ_zero {f : Nat → Int} {m : Nat} (h : ∀ i, i < m → f i = 0) : sumZ f m = 0 := by
  rw [sumZ_congr (g := fun _ => 0) m h, sumZ_const]; omega
def cnt (n m x : Nat) : Nat := n / m + if x < n % m then 1 else 0
theorem cnt_next {n m x : Nat} (hm : 0 < m) (hx : x < m) : cnt (n + 1) m x = cnt n m x + if x = n % m then 1 else 0 := by
  unfold cnt
  have hr := Nat.mod_lt n hm
  have hd := Nat.div_add_mod n m
  by_cases c : n % m + 1 < m
  · have e1 : (n + 1) / m = n / m := by
      rw [← hd, Nat.add_assoc, Nat.mul_add_div hm, Nat.div_eq_of_lt c, Nat.mul_add_div hm, Nat.div_eq_of_lt hr]
    have e2 : (n + 1) % m = n % m + 1 := by
      conv => lhs; rw [← hd]
      rw [Nat.add_assoc, Nat.mul_add_mod, Nat.mod_eq_of_lt c]
    rw [e1, e2]
    by_cases h1 : x < n % m
    · rw [if_pos (by omega), if_pos h1, if_neg (by omega)]
    · by_cases h2 : x = n % m
      · rw [if_pos (by omega), if_neg h1, if_pos h2]
      · rw [if_neg (by omega), if_neg h1, if_neg h2]
  · have hk : n % m + 1 = m := by omega
    have hn : n + 1 = m * (n / m + 1) := by rw [Nat.mul_add, Nat.mul_one]; omega
    have e1 : (n + 1) / m = n / m + 1 := by rw [hn]; exact Nat.mul_div_cancel_left _ hm
    have e2 : (n + 1) % m = 0 := by rw [hn]; exact Nat.mul_mod_right _ _
    rw [e1, e2, if_neg (by omega)]
    by_cases h1 : x < n % m
    · rw [if_pos h1, if_neg (by omega)]
    · rw [if_neg h1, if_pos (by omega)]
theorem sumZ_periods (f : Nat → Int) {m : Nat} (hm : 0 < m) : ∀ n, sumZ f n = sumZ (fun x => sumZ (fun j => f (x + j * m)) (cnt n m x)) m
  | 0 => by
    refine (sumZ_zero fun x _ => ?_).symm
    have : cnt 0 m x = 0 := by unfold cnt; rw [Nat.zero_div, Nat.zero_mod, if_neg (by omega)]
    rw [this]; rfl
  | n + 1 => by
    show sumZ f n + f n = _
    rw [sumZ_periods f hm n]
    have hr := Nat.mod_lt n hm
    have e : sumZ (fun x => sumZ (fun j => f (x + j * m)) (cnt (n + 1) m x)) m = sumZ (fun x => sumZ (fun j => f (x + j * m)) (cnt n m x) + if x = n % m then f n else 0) m := by
      refine sumZ_congr m fun x hx => ?_
      rw [cnt_next hm hx]
      by_cases h : x = n % m
      · rw [if_pos h, if_pos h]
        show sumZ (fun j => f (x + j * m)) (cnt n m x) + f (x + cnt n m x * m) = _
        have : x + cnt n m x * m = n := by
          have hd := Nat.div_add_mod n m
          unfold cnt
          rw [if_neg (by omega), Nat.add_zero, Nat.mul_comm]; omega
        rw [this]
      · rw [if_neg h, if_neg h, Nat.add_zero, Int.add_zero]
    rw [e, sumZ_add, sumZ_single, if_pos hr]
theorem part_far (a b : Int) {m : Nat} (hm : 0 < m) (x j : Nat) : (a * ((x + j * m : Nat) : Int) + b) / (m : Int) = (a * (x : Int) + b) / (m : Int) + a * (j : Int) := by
  rw [Int.natCast_add, Int.natCast_mul, Int.mul_add, show a * (x : Int) + a * ((j : Int) * (m : Int)) + b = a * (x : Int) + b + (m : Int) * (a * (j : Int)) by rw [← Int.mul_assoc, Int.mul_comm (m : Int)]; omega, Int.add_mul_ediv_left _ _ (by omega)]
theorem rest_far (a b : Int) {m : Nat} (x j : Nat) : (a * ((x + j * m : Nat) : Int) + b) % (m : Int) = (a * (x : Int) + b) % (m : Int) := by
  rw [Int.natCast_add, Int.natCast_mul, Int.mul_add, show a * (x : Int) + a * ((j : Int) * (m : Int)) + b = a * (x : Int) + b + (m : Int) * (a * (j : Int)) by rw [← Int.mul_assoc, Int.mul_comm (m : Int)]; omega, Int.add_mul_emod_self_left]
/-- how often the place x below m comes among n -/
def comes (n m : Int) (x : Nat) : Int := n / m + if (x : Int) < n % m then 1 else 0
theorem comes_eq {n m : Nat} (x : Nat) : comes (n : Int) (m : Int) x = (cnt n m x : Nat) := by
  unfold comes cnt
  rw [← Int.natCast_ediv, ← Int.natCast_emod, Int.natCast_add]
  by_cases h : x < n % m
  · rw [if_pos h, if_pos (by omega)]; rfl
  · rw [if_neg h, if_neg (by omega)]; rfl
theorem FS_periods (a b : Int) {m n : Int} (hm : 0 < m) (hn : 0 ≤ n) : FS a b m n.toNat = sumZ (fun x => (a * (x : Int) + b) / m * comes n m x + a * tri (comes n m x)) m.toNat := by
  obtain ⟨M, rfl⟩ : ∃ k : Nat, m = k := ⟨m.toNat, by omega⟩
  obtain ⟨N, rfl⟩ : ∃ k : Nat, n = k := ⟨n.toNat, by omega⟩
  unfold FS
  rw [Int.toNat_natCast, Int.toNat_natCast, sumZ_periods _ (show 0 < M by omega)]
  refine sumZ_congr M fun x _ => ?_
  rw [comes_eq, ← sumZ_id, ← sumZ_mul, ← sumZ_const, ← sumZ_add]
  exact sumZ_congr _ fun j _ => part_far a b (by omega) x j
theorem RS_periods (a b : Int) {m n : Int} (hm : 0 < m) (hn : 0 ≤ n) : RS a b m n.toNat = sumZ (fun x => (a * (x : Int) + b) % m * comes n m x) m.toNat := by
  obtain ⟨M, rfl⟩ : ∃ k : Nat, m = k := ⟨m.toNat, by omega⟩
  obtain ⟨N, rfl⟩ : ∃ k : Nat, n = k := ⟨n.toNat, by omega⟩
  unfold RS
  rw [Int.toNat_natCast, Int.toNat_natCast, sumZ_periods _ (show 0 < M by omega)]
  refine sumZ_congr M fun x _ => ?_
  rw [comes_eq, ← sumZ_const]
  exact sumZ_congr _ fun j _ => rest_far a b x j
/-! full turns -/
theorem emod_gcd (a b : Int) (m : Int) : b % m % (Int.gcd a m : Int) = b % (Int.gcd a m : Int) := Int.emod_emod_of_dvd b (Int.gcd_dvd_right a m)
theorem gcd_emod_left (a m : Int) : Int.gcd m (a % m) = Int.gcd a m := by
  rw [Int.gcd_comm]
  have h := Int.mul_ediv_add_emod a m
  apply Nat.dvd_antisymm
  · refine Int.dvd_gcd ?_ (Int.gcd_dvd_right _ _)
    have q := Int.dvd_add (Int.dvd_mul_of_dvd_left (b := m) (c := a / m) (Int.gcd_dvd_right (a % m) m)) (Int.gcd_dvd_left (a % m) m)
    rw [h] at q
    exact q
  · refine Int.dvd_gcd ?_ (Int.gcd_dvd_right _ _)
    rw [show a % m = a - m * (a / m) by omega]
    exact Int.dvd_sub (Int.gcd_dvd_left _ _) (Int.dvd_mul_of_dvd_left (Int.gcd_dvd_right _ _))
theorem FS_round (k : Nat) : ∀ (a b m : Int), 0 < m → m ≤ k → 2 * FS a b m m.toNat = (a - 1) * (m - 1) + (Int.gcd a m : Int) - 1 + 2 * (b - b % (Int.gcd a m : Int)) := by
  induction k with
  | zero => intro a b m h1 h2; omega
  | succ k ih =>
    intro a b m h1 h2
    have hm : ((m.toNat : Nat) : Int) = m := by omega
    have e := FS_laid h1 a b m.toNat
    rw [hm] at e
    have t2 := tri_two m
    have ha := Int.mul_ediv_add_emod a m
    have hb := Int.mul_ediv_add_emod b m
    have a0 := Int.emod_nonneg a (show m ≠ 0 by omega)
    have a1 := Int.emod_lt_of_pos a h1
    have b0 := Int.emod_nonneg b (show m ≠ 0 by omega)
    have b1 := Int.emod_lt_of_pos b h1
    have q2 : 2 * (a / m * tri m) = (a - a % m) * (m - 1) := by
      rw [show 2 * (a / m * tri m) = a / m * (2 * tri m) by rw [← Int.mul_assoc, ← Int.mul_assoc, Int.mul_comm 2], t2, ← Int.mul_assoc, show a / m * m = a - a % m by rw [Int.mul_comm]; omega]
    have q3 : 2 * (b / m * m) = 2 * (b - b % m) := by rw [Int.mul_comm (b / m)]; omega
    have x1 : (a - a % m) * (m - 1) = a * (m - 1) - a % m * (m - 1) := Int.sub_mul _ _ _
    have x2 : (a - 1) * (m - 1) = a * (m - 1) - (m - 1) := by rw [Int.sub_mul]; omega
    by_cases hz : a % m = 0
    · have g1 : Int.gcd a m = m.toNat := by
        rw [← gcd_emod_left, hz, Int.gcd_zero_right]; omega
      have z : FS 0 (b % m) m m.toNat = 0 := by
        refine FS_none (Int.le_refl 0) h1 b0 b1 ?_
        rw [Int.zero_mul, Int.zero_add]; exact Int.ediv_eq_zero_of_lt b0 b1
      rw [g1, hm]
      rw [hz] at e q2 x1
      rw [Int.zero_mul] at x1
      rw [z] at e
      omega
    · have tn := FS_turn (show 0 < a % m by omega) a1 b0 b1 m.toNat
      rw [hm, show (a % m * m + b % m) % m = b % m by rw [Int.add_comm, Int.add_mul_emod_self_right, Int.emod_emod_of_dvd _ (Int.dvd_refl m)], show (a % m * m + b % m) / m = a % m by rw [Int.add_comm, Int.add_mul_ediv_right _ _ (by omega), Int.ediv_eq_zero_of_lt b0 b1]; omega] at tn
      have i2 := ih m (b % m) (a % m) (by omega) (by omega)
      rw [gcd_emod_left, emod_gcd] at i2
      have x3 : (m - 1) * (a % m - 1) = a % m * (m - 1) - (m - 1) := by rw [Int.mul_comm, Int.sub_mul]; omega
      omega
theorem RS_round {a b m : Int} (hm : 0 < m) : 2 * RS a b m m.toNat = m * (m - (Int.gcd a m : Int)) + 2 * (m * (b % (Int.gcd a m : Int))) := by
  have e := FS_RS a b m m.toNat
  have s := FS_round m.toNat a b m hm (by omega)
  have t2 := tri_two m
  rw [show ((m.toNat : Nat) : Int) = m by omega] at e
  have h1 : 2 * (m * FS a b m m.toNat) = m * (2 * FS a b m m.toNat) := by rw [← Int.mul_assoc, ← Int.mul_assoc, Int.mul_comm 2]
  rw [s] at h1
  have h2 : 2 * (a * tri m) = a * (m * (m - 1)) := by rw [← t2, ← Int.mul_assoc, ← Int.mul_assoc, Int.mul_comm 2]
  have h3 : m * ((a - 1) * (m - 1) + (Int.gcd a m : Int) - 1 + 2 * (b - b % (Int.gcd a m : Int))) = a * (m * (m - 1)) - m * (m - 1) + m * (Int.gcd a m : Int) - m + 2 * (b * m) - 2 * (m * (b % (Int.gcd a m : Int))) := by
    rw [Int.mul_add, Int.mul_sub, Int.mul_add, Int.mul_one, ← Int.mul_assoc m (a - 1), Int.mul_comm m (a - 1), Int.mul_assoc, Int.sub_mul, Int.one_mul, Int.mul_left_comm m 2, Int.mul_sub m b, Int.mul_comm m b]; omega
  have h4 : m * (m - (Int.gcd a m : Int)) = m * (m - 1) + m - m * (Int.gcd a m : Int) := by rw [Int.mul_sub, Int.mul_sub]; omega
  omega
theorem FS_turns (a b : Int) {m : Int} (hm : 0 < m) : ∀ t : Nat, FS a b m (m * (t : Int)).toNat = FS a b m m.toNat * (t : Int) + a * m * tri (t : Int)
  | 0 => by
    rw [show (m * ((0 : Nat) : Int)).toNat = 0 by simp]
    show (0 : Int) = FS a b m m.toNat * 0 + a * m * 0
    omega
  | t + 1 => by
    have e : m * ((t + 1 : Nat) : Int) = m * (t : Int) + m := by rw [Int.natCast_add, Int.mul_add]; simp
    have h0 : 0 ≤ m * (t : Int) := Int.mul_nonneg (by omega) (by omega)
    rw [e, FS_join a b m h0 (by omega), FS_turns a b hm t, show a * (m * (t : Int)) + b = b + a * (t : Int) * m by rw [Int.mul_comm m, Int.mul_assoc]; omega, FS_upB a b (by omega), show ((m.toNat : Nat) : Int) = m by omega]
    have s : tri ((t + 1 : Nat) : Int) = tri (t : Int) + t := by rw [← sumZ_id, ← sumZ_id]; rfl
    rw [s, Int.natCast_add, Int.mul_add (FS a b m m.toNat), Int.mul_add (a * m), Int.mul_right_comm a (t : Int) m]
    simp only [Int.natCast_one, Int.mul_one]
    omega
theorem RS_turns (a b : Int) {m : Int} (hm : 0 < m) : ∀ t : Nat, RS a b m (m * (t : Int)).toNat = RS a b m m.toNat * (t : Int)
  | 0 => by
    rw [show (m * ((0 : Nat) : Int)).toNat = 0 by simp]
    show (0 : Int) = RS a b m m.toNat * 0
    omega
  | t + 1 => by
    have e : m * ((t + 1 : Nat) : Int) = m * (t : Int) + m := by rw [Int.natCast_add, Int.mul_add]; simp
    have h0 : 0 ≤ m * (t : Int) := Int.mul_nonneg (by omega) (by omega)
    rw [e, RS_join a b m h0 (by omega), RS_turns a b hm t, show a * (m * (t : Int)) + b = b + a * (t : Int) * m by rw [Int.mul_comm m, Int.mul_assoc]; omega, RS_upB a b, Int.natCast_add, Int.mul_add]
    simp
theorem FS_whole (k b : Int) {m : Int} (hm : m ≠ 0) (n : Nat) : FS (k * m) b m n = k * tri n + b / m * n := by
  have h := FS_upA 0 b hm k n
  rw [Int.zero_add] at h
  have z : FS 0 b m n = b / m * n := by
    unfold FS
    rw [← sumZ_const]
    exact sumZ_congr n fun i _ => by rw [Int.zero_mul, Int.zero_add]
  omega
theorem RS_whole (k b : Int) (m : Int) (n : Nat) : RS (k * m) b m n = b % m * n := by
  have h := RS_upA 0 b m k n
  rw [Int.zero_add] at h
  rw [h]
  unfold RS
  rw [← sumZ_const]
  exact sumZ_congr n fun i _ => by rw [Int.zero_mul, Int.zero_add]
theorem part_less {t m : Int} (hm : m ≠ 0) : (t - t % m) / m = t / m := by
  have := Int.mul_ediv_add_emod t m
  rw [show t - t % m = m * (t / m) by omega, Int.mul_ediv_cancel_left _ hm]
/-- the sums of k full turns, in the words of a common measure -/
theorem FS_byturns {a b m t : Int} (hm : 0 < m) (ht : 0 ≤ t) : FS a b m (m * t).toNat = (((a - 1) * (m - 1) + (Int.gcd a m : Int) - 1) / 2 + b - b % (Int.gcd a m : Int)) * t + a * m * (t * (t - 1) / 2) := by
  have h := FS_turns a b hm t.toNat
  have r := FS_round m.toNat a b m hm (by omega)
  rw [show ((t.toNat : Nat) : Int) = t by omega] at h
  have e : ((a - 1) * (m - 1) + (Int.gcd a m : Int) - 1) / 2 + b - b % (Int.gcd a m : Int) = FS a b m m.toNat := by omega
  rw [e, h]
  rfl
theorem RS_byturns {a b m t : Int} (hm : 0 < m) (ht : 0 ≤ t) : RS a b m (m * t).toNat = t * (m * (b % (Int.gcd a m : Int)) + m * (m - (Int.gcd a m : Int)) / 2) := by
  have h := RS_turns a b hm t.toNat
  have r := RS_round (a := a) (b := b) hm
  rw [show ((t.toNat : Nat) : Int) = t by omega] at h
  have e : m * (b % (Int.gcd a m : Int)) + m * (m - (Int.gcd a m : Int)) / 2 = RS a b m m.toNat := by omega
  rw [e, h, Int.mul_comm]
/-- places put to a sum one by one -/
theorem FS_on {a b m lo : Int} (h : 0 ≤ lo) (i : Nat) : FS a b m (lo + (i + 1 : Nat)).toNat = FS a b m (lo + i).toNat + (a * (lo + i) + b) / m := by
  rw [show lo + ((i + 1 : Nat) : Int) = lo + i + 1 by omega, FS_one a b m (by omega)]
theorem RS_on {a b m lo : Int} (h : 0 ≤ lo) (i : Nat) : RS a b m (lo + (i + 1 : Nat)).toNat = RS a b m (lo + i).toNat + (a * (lo + i) + b) % m := by
  rw [show lo + ((i + 1 : Nat) : Int) = lo + i + 1 by omega, RS_one a b m (by omega)]
theorem gcd_sm {k : Nat} {a m : Int} (hm : 0 < m) (sm : Sm k m) : 0 < ((Int.gcd a m : Nat) : Int) ∧ ((Int.gcd a m : Nat) : Int) ≤ m ∧ Sm k ((Int.gcd a m : Nat) : Int) := by
  have h1 : 0 < Int.gcd a m := Int.gcd_pos_of_ne_zero_right _ (by omega)
  have h2 : ((Int.gcd a m : Nat) : Int) ≤ m := Int.le_of_dvd hm (Int.gcd_dvd_right a m)
  exact ⟨by omega, h2, sm.of_le (by omega) h2⟩
theorem bl_eq2 {ω : Type} {Q : D → ω → Prop} {w : ω} {x y z u : Int} (h : Q (.bl true) w) (e : x = z) (e2 : y = u) : Q (.bl (deq (.lst [.int x, .int y]) (.lst [.int z, .int u]))) w := by
  rw [deq_lst, deqs_cons, deqs_cons, deqs_nil, deq_int, deq_int, beq_iff_eq.mpr e, beq_iff_eq.mpr e2]
  exact h
theorem Sm.lt10r {r : Int} {k : Nat} (h1 : r < 10 ^ k) (h0 : 0 ≤ r) : Sm (4 * k) r := Sm.lt10 h0 h1
theorem Sm.near {r : Int} (h0 : -4611686018427387904 ≤ r) (h1 : r ≤ 4611686018427387904) : Sm 63 r := by unfold Sm; omega
/-! bounds of the number of levels -/
theorem lev_len {k : Nat} {m p : Int} (h : 2 ^ k * p ≤ 2 * (m * m)) (hp : 1 ≤ p) (sm : Sm 2000 m) : k ≤ 4001 := by
  have h1 : (2 : Int) ^ k ≤ 2 ^ k * p := by
    have : (0 : Int) ≤ 2 ^ k := Int.pow_nonneg (by decide)
    have := Int.mul_le_mul_of_nonneg_left hp this
    omega
  have h2 : Sm 4000 (m * m) := Sm.mul sm sm
  have h3 : ((m * m).natAbs : Int) < ((2 ^ 4000 : Nat) : Int) := by unfold Sm at h2; omega
  have h4 : m * m ≤ ((m * m).natAbs : Int) := by omega
  have h5 : ((2 ^ k : Nat) : Int) < ((2 ^ 4001 : Nat) : Int) := by
    rw [show (2 : Nat) ^ 4001 = 2 * 2 ^ 4000 from by rw [Nat.pow_succ, Nat.mul_comm]]
    rw [Int.natCast_mul]
    have : ((2 ^ k : Nat) : Int) = 2 ^ k := Int.natCast_pow 2 k
    rw [this]
    generalize ((2 ^ 4000 : Nat) : Int) = X at *
    omega
  have h6 : 2 ^ k < 2 ^ 4001 := Int.ofNat_lt.mp h5
  have := (Nat.pow_lt_pow_iff_right (by decide : 1 < 2)).mp h6
  omega
theorem lev_step {k : Nat} {m a1 m1 : Int} (h : 2 ^ k * (a1 * m1) ≤ 2 * (m * m)) (h1 : 0 < m1) (h2 : m1 < a1) : 2 ^ (k + 1) * (m1 * (a1 % m1)) ≤ 2 * (m * m) := by
  have r0 := Int.emod_nonneg a1 (show m1 ≠ 0 by omega)
  have r1 := Int.emod_lt_of_pos a1 h1
  have hd := Int.mul_ediv_add_emod a1 m1
  have q1 : 1 ≤ a1 / m1 := (Int.le_ediv_iff_mul_le h1).mpr (by omega)
  have q2 : m1 ≤ m1 * (a1 / m1) := by have := Int.mul_le_mul_of_nonneg_left q1 (show 0 ≤ m1 by omega); omega
  have q3 : m1 * (2 * (a1 % m1)) ≤ m1 * a1 := Int.mul_le_mul_of_nonneg_left (by omega) (by omega)
  have p : (0 : Int) ≤ 2 ^ k := Int.pow_nonneg (by decide)
  have q4 := Int.mul_le_mul_of_nonneg_left q3 p
  have e : 2 ^ (k + 1) * (m1 * (a1 % m1)) = 2 ^ k * (m1 * (2 * (a1 % m1))) := by
    rw [Int.pow_succ]; grind
  rw [Int.mul_comm a1 m1] at h
  omega
end Z

namespace Z
open PySem PySem.Spec PyProof.Rows L2
section
variable {X : Cx} {pins : List (Addr × Obj)} {σ σ' : L2.St} {H H' : Hp} {s sI : Shared}
/-- an object that stands and isn't ours may be tracked, if it wasn't there at a state of before -/
theorem track {a : Addr} {φ : Heap → Prop} (I : Inv X pins σ H s) (J : Inv X pins σ' H' sI) (ne : sI.heap.get? a = none) (hn : H a = none) (nL : a ≠ X.env.locals) (hx : X.ex = []) (new : ObjOk X.prog X.w (upd H a (.ext φ)) s.heap a (.ext φ)) : Inv X pins σ (upd H a (.ext φ)) s := by
  have nx : ∀ b o, X.s_0.heap.get? b = some o → b ≠ a := fun b o e z => by
    obtain ⟨o', e'⟩ := J.base.there b o e (by rw [hx]; exact fun z => nomatch z)
    rw [z, ne] at e'
    cases e'
  refine ⟨I.ok, I.os, I.bare, ⟨I.base.keep, I.base.slot, fun b o e n q => ?_, I.base.there, fun b xs e => ?_, fun b o u e => ?_, fun b ps e => ?_⟩, I.loc, I.cell, ?_, fun x c e => ?_, fun p hp => ?_, ?_, I.len⟩
  · rw [upd_ne (nx b o e)]; exact I.base.free b o e n q
  · have q := I.base.tups b xs e
    rw [upd_ne (ne_of_none q hn)]; exact q
  · have q := I.base.frzs b o u e
    rw [upd_ne (ne_of_none q hn)]; exact q
  · obtain ⟨m, q⟩ := I.base.tbls b ps e
    exact ⟨m, by rw [upd_ne (ne_of_none q hn)]; exact q⟩
  · rw [upd_ne (Ne.symm nL)]; exact I.free
  · have : c ≠ a := fun z => by
      obtain ⟨v, o, q, _⟩ := J.cell x c e
      rw [z, ne] at q
      cases q
    rw [upd_ne this]; exact I.freeC x c e
  · obtain ⟨h1, h2, h3⟩ := I.pin p hp
    have : p.1 ≠ a := fun z => by
      have q := (J.pin p hp).1
      rw [z, ne] at q
      cases q
    exact ⟨h1, by rw [upd_ne this]; exact h2, h3⟩
  · exact HOk.laidN I.hok (fun _ _ q => q) hn new
end
/-- what `except x as n: y = n` wishes of an exception of the body -/
def wKeep (K : PySem.W.Frag) (c : Value) (i j : Nat) (Wo : WX) (DE : Ends) : WX := fun cl d σ H =>
  ∃ b, PySem.W.exmOne K cl c = some b ∧ (b = true → d = none ∧ ∃ C : Addr, cl = .ref C ∧ ∀ p, H p = none → DE.nx (((σ.set i (some (.ref p))).set j (some (.ref p))).set i none) (upd H p (ExA C p))) ∧ (b = false → Wo cl d σ H)
section
variable {X : Cx}
theorem ps_try_keep {x n y : Str} {c : Value} {i j : Nat} {body : List Stmt} {np pn py sp pos pos' : Pos} {tb : WX → TS} {Wo : WX} (h1 : X.stack = X.env :: X.outer) (h2 : X.env.frame = some X.env.locals) (h3 : X.ex = []) (hN : X.N.Nodup)
    (hi : X.N[i]? = some n) (hj : X.N[j]? = some y) (hn : X.env.kindOf n = some .local) (hy : X.env.kindOf y = some .local) (hc : Names X x c) (tk : Takes X Wo)
    (hdb : (n == ("__debug__" : Str)) = false) (hcd : (n == ("__classdict__" : Str)) = false) (hsw : swapsWith (.Name n pn) (some (.Name y py)) sp.line X.env = pure false)
    (hb : ∀ (Wx : WX) (l : List (Addr × Obj)) (k : Value → Shared → Prop), Takes (X.tr l k) Wx → PassesOwn (model X.prog X.w) X.A X.env k → PSs (X.tr l k) body (tb Wx)) :
    PS X (.Try body [.ExceptHandler (some (.Name x np)) (some n) [.Assign [.Name y py] (.Name n pn) sp] pos'] [] [] pos) (fun DE σ H => tb (wKeep X.K c i j Wo DE) DE σ H) := by
  refine ⟨fun pins s σ H DE I hwish => ?_⟩
  have ok := I.ok
  have frA : X.A.frames = some (X.env :: X.outer) := by rw [ok.frames, h1]
  have back : ∀ {f : Flow} {t : Shared}, SP (X.tr (X.pn ++ pins) fun e t1 => wpAny (model X.prog X.w) X.A (noteFrame e X.env) (fun _ t2 => wpAny (model X.prog X.w) X.A (setFlight e none) (fun _ t3 =>
      wpAny (model X.prog X.w) X.A (handleBy e X.env [.ExceptHandler (some (.Name x np)) (some n) [.Assign [.Name y py] (.Name n pn) sp] pos']) (SP X pins DE) X.xe t3) X.xe t2) X.xe t1) [] DE f t → SP X pins DE f t := fun {f t} q => by
    cases f with
    | ret u => exact q.imp fun _ q => q.imp fun _ q => q.imp fun _ q => ⟨q.1.ofTry ok, q.2⟩
    | next => exact q.imp fun _ q => q.imp fun _ q => ⟨q.1.ofTry ok, q.2⟩
    | brk => exact q.imp fun _ q => q.imp fun _ q => ⟨q.1.ofTry ok, q.2⟩
    | cont => exact q.imp fun _ q => q.imp fun _ q => ⟨q.1.ofTry ok, q.2⟩
  refine wpAny_Try_except (wpAny_mono ((hb (wKeep X.K c i j Wo DE) (X.pn ++ pins) _ (fun u t hit => ?_) PassesOwn.looking).run [] s σ H DE (I.toTry _) hwish) (fun f t q => ?_) fun e t q => q)
  · obtain ⟨p, B, t0, pins1, σ1, H1, cl, d, rfl, J0, nb, up, sky, np0, os, ag, b, hb1, yes, no⟩ := hit
    have J : Inv X pins σ1 H1 t0 := J0.ofTry ok
    rw [show (X.tr (X.pn ++ pins) _).stack = X.env :: X.outer from h1] at sky
    show wpAny (model X.prog X.w) X.A (noteFrame (.ref p) X.env) _ _ _
    refine Sky.land Zc.steady frA h2 sky fun g f3 up3 => ?_
    have J3 : Inv X pins σ1 H1 { t with heap := g } := J.landed nb f3.1 (up.trans up3) os ag
    obtain ⟨oe, vs, he, hz, hd⟩ := f3.there
    have nfr : p ∉ frs (X.env :: X.outer) := fun hm => by
      obtain ⟨_, o', e', q⟩ := f3.2.2.1.mem hm
      rw [he] at e'
      cases e'
      exact q _ hd
    have nL : p ≠ X.env.locals := fun z => nfr (List.mem_filterMap.mpr ⟨X.env, List.mem_cons_self, by rw [h2, z]⟩)
    have nF : p ∉ X.fs := fun hm => by
      obtain ⟨v, hv, q⟩ := List.mem_filterMap.mp hm
      exact nfr (List.mem_filterMap.mpr ⟨v, List.mem_cons_of_mem _ hv, q⟩)
    have n0 : t0.heap.get? p = none := by
      cases e : t0.heap.get? p with
      | none => rfl
      | some o =>
        have z := nb p o e (by rw [show (X.tr (X.pn ++ pins) _).stack = X.env :: X.outer from h1]; exact nfr)
        rw [f3.2.1] at z
        cases z
    have S3 := J3.suite he hd np0 nL nF
    refine wpAny_handleBy_cons (codeAny_handlers_test ?_) (by intro q; cases q)
    have LT : PySem.W.Looks (model X.prog X.w) g (typeOf (.ref p)) cl := fun A Q E z k q => wpAny_typeOf_ref (k _ _ he) (by rw [hz.1]; exact q)
    have LM := PySem.W.exm_one (M := model X.prog X.w) (J3.kIn) LT hb1
    have asked : ∀ {Q : Value → Shared → Prop} {E : Value → Shared → Prop}, Q c { t with heap := g } → wpAny (model X.prog X.w) (X.A.mark (some (.ref p))) (eval (.Name x np) X.env) Q E { t with heap := g } := fun {Q E} q => by
      obtain ⟨hg, hdbg, hm | ⟨hm, hv, hnn⟩⟩ := hc
      · exact ld_glob (X := X.suite p ((p, oe) :: (X.pn ++ pins))) S3 hg hm q hdbg
      · exact ld_blt (X := X.suite p ((p, oe) :: (X.pn ++ pins))) S3 hg hm hv q hnn hdbg
    refine asked (LM.here ?_)
    cases b with
    | true =>
      obtain ⟨rfl, C, rfl, q⟩ := yes rfl
      refine codeAny_handlers_suite_as ?_
      refine HandSPX.lands_againZ f3 fun g4 f4 up4 => ?_
      have J4 : Inv X pins σ1 H1 { t with heap := g4 } := J.landed nb f4.1 ((up.trans up3).trans up4) os ag
      obtain ⟨o4, v4, he4, hz4, hd4⟩ := f4.there
      have S4 := J4.suite he4 hd4 np0 nL nF
      refine store_ok (X := X.suite p ((p, o4) :: (X.pn ++ pins))) (v := .ref p) S4 hN hi (.inl hn) rfl (fun t5 S5 => ?_) (.inr hn)
      have li : i < σ1.length := by rw [J.len]; exact (List.getElem?_eq_some_iff.mp hi).1
      have suite : PSs (X.suite p ((p, o4) :: (X.pn ++ pins))) [.Assign [.Name y py] (.Name n pn) sp] (tAsg (tVar i) (gName j)) := pss_one (ps_set hN hj (.inl hy) (pe_var hi (.inl hn) hdb hcd) hsw (.inr hy))
      refine wpAny_mono (suite.run [] t5 _ H1 ⟨fun σ6 H6 => σ6 = (σ1.set i (some (.ref p))).set j (some (.ref p)) ∧ H6 = H1, fun _ _ => False, fun _ _ => False, fun _ _ => False⟩ S5 ⟨.ref p, by rw [List.getElem?_set_self li], rfl, rfl⟩) (fun f t6 q6 => ?_) (fun _ _ z => False.elim z)
      cases f with
      | next =>
        obtain ⟨σ6, H6, S6, e1, e2⟩ := q6
        rw [e1, e2] at S6
        have keep : ∀ r ∈ (p, o4) :: (X.pn ++ pins), t6.heap.get? r.1 = some r.2 ∧ H1 r.1 = none ∧ r.1 ≠ X.env.locals ∧ r.1 ∉ X.fs ∧ ∀ v, r.2.data ≠ .cell v := fun r hr => S6.pin r (List.mem_append_left _ hr)
        have I6 : Inv X ((p, o4) :: pins) _ H1 t6 := (S6.unsuite (pins := pins) ok).pins_of fun r hr => by
          rcases List.mem_cons.mp hr with z | z
          · exact keep r (by rw [z]; exact List.mem_cons_self)
          · exact keep r (List.mem_cons_of_mem _ (List.mem_append_right _ z))
        refine gone_ok I6 hN hi hn fun t7 I7 => ?_
        obtain ⟨e7, n7, l7, _, _⟩ := I7.pin (p, o4) (List.mem_append_right _ List.mem_cons_self)
        have J7 : Inv X pins _ H1 t7 := I7.pins_of fun r hr => I7.pin r (List.mem_append_right _ (List.mem_cons_of_mem _ hr))
        exact ⟨_, _, track J7 J n0 np0 nL h3 ⟨⟨o4, v4, e7, hz4, hd4⟩, ⟨o4, e7⟩, fun _ _ ⟨o, v, a1, a2⟩ k => ⟨o, v, k o a1, a2⟩⟩, q p np0⟩
      | ret u => obtain ⟨_, _, _, _, _, z⟩ := q6; exact z.elim
      | brk => obtain ⟨_, _, _, z⟩ := q6; exact z.elim
      | cont => obtain ⟨_, _, _, z⟩ := q6; exact z.elim
    | false =>
      show wpAny _ X.A (handleBy (.ref p) X.env []) _ _ _
      refine wpAny_handleBy_nil ?_
      obtain ⟨_, _, _, ob, ws, T, oT, ts, eb, zb, db, w1, _⟩ := id f3
      unfold PySem.passOn
      refine wpAny_bind (wpAny_field eb db w1 ?_)
      rw [if_neg (show ¬ ((Value.ref T == Value.none) = true) from by simp)]
      have go : wpAny (model X.prog X.w) X.A (setFlight (.ref p) X.env.frame) (fun _ t4 => wpAny (model X.prog X.w) X.A (throw (.ref p) : Sem Flow) (SP X pins DE) X.xe t4) X.xe { t with heap := g } := by
        rw [h2]
        refine HandSPX.setFlight_upZ f3 fun g4 hh4 up4 => wpAny_throw (tk _ _ ?_)
        exact ⟨p, B, t0, pins, σ1, H1, cl, d, rfl, J, by rw [h1]; rw [show (X.tr (X.pn ++ pins) _).stack = X.env :: X.outer from h1] at nb; exact nb, (up.trans up3).trans up4, .inr (.inr (by rw [h1]; exact hh4)), np0, os, ag, no rfl⟩
      first
        | exact wpAny_bind (wpAny_pure (wpAny_bind go))
        | exact wpAny_bind go
  · have q := back q
    cases f with
    | next => obtain ⟨a1, a2, a3, a4⟩ := q; exact wpAny_execs_nil ⟨a1, a2, a3, a4⟩
    | ret u => exact q
    | brk => exact q
    | cont => exact q
end
end Z

namespace Z
open PySem PySem.Spec PyProof.Rows L2
variable {ω : Type}
/-! ### try: body; except LineError as n: y = n -/
def zTry (ec : Nat → Addr) (i j : Nat) (t : TSZ ω) : TSZ ω := fun D δ w => t { D with ex := fun e δ' w' => e < 7 ∧ D.nx (((δ'.set i (.val (.exc (ec e)))).set j (.val (.exc (ec e)))).set i .no) w' } δ w
section
variable {X : Cx} {W : Wp ω} {x n y : Str} {c : Value} {body : List Stmt} {np pn py sp pos pos' : Pos} {t : TSZ ω}
theorem z_try (i j : Nat) (hN : X.N.Nodup) (hc : Names X x c) (hcat : ∀ e, e < 7 → PySem.W.exmOne X.K (.ref (W.ec e)) c = some true)
    (hb : ∀ (l : List (Addr × Obj)) (k : Value → Shared → Prop), PassesOwn (model X.prog X.w) X.A X.env k → PBZ (X.tr l k) W body t)
    (h1 : X.stack = X.env :: X.outer := by rfl) (h2 : X.env.frame = some X.env.locals := by rfl) (h3 : X.ex = [] := by rfl)
    (hi : X.N[i]? = some n := by rfl) (hj : X.N[j]? = some y := by rfl) (hn : X.env.kindOf n = some .local := by rfl) (hy : X.env.kindOf y = some .local := by rfl)
    (hdb : (n == ("__debug__" : Str)) = false := by decide) (hcd : (n == ("__classdict__" : Str)) = false := by decide)
    (hsw : swapsWith (.Name n pn) (some (.Name y py)) sp.line X.env = pure false := by rfl) :
    PSZ X W (.Try body [.ExceptHandler (some (.Name x np)) (some n) [.Assign [.Name y py] (.Name n pn) sp] pos'] [] [] pos) (zTry W.ec i j t) := fun Z ex tk =>
  psI (ps_try_keep (tb := fun Wx D σ H => ∃ ex', (∀ cl d σ H, WXz X.K W Z ex' cl d σ H → Wx cl d σ H) ∧ liS X.K W Z ex' t D σ H) (i := i) (j := j) h1 h2 h3 hN hi hj hn hy hc tk hdb hcd hsw
    (fun Wx l k tk' po => ⟨fun pins s σ H DE I h => by
      obtain ⟨ex', im, h⟩ := h
      exact ((hb l k po) Z ex' (tk'.imp im)).run pins s σ H DE I h⟩)) fun D σ H h => by
    obtain ⟨Dz, hex, EI, G, M, δ, w, a, h⟩ := h
    refine ⟨fun e δ' w' => e < 7 ∧ Dz.nx (((δ'.set i (.val (.exc (W.ec e)))).set j (.val (.exc (W.ec e)))).set i .no) w', fun cl d σ' H' q => ?_, { Dz with ex := fun e δ' w' => e < 7 ∧ Dz.nx (((δ'.set i (.val (.exc (W.ec e)))).set j (.val (.exc (W.ec e)))).set i .no) w' }, rfl, ⟨EI.nx, EI.bk, EI.ct, EI.rt⟩, G, M, δ, w, a, h⟩
    obtain ⟨rfl, e, rfl, G', M', δ', w', a', l7, q⟩ := q
    refine ⟨true, hcat e l7, fun _ => ⟨rfl, W.ec e, rfl, fun p hp => ?_⟩, fun z => nomatch z⟩
    have an := a'.new (o := ExA (W.ec e) p) hp
    have r : Rep X.K (upd G' p (ExA (W.ec e) p)) (.ref p) (.exc (W.ec e)) := .exc upd_same
    exact EI.nx _ _ ⟨_, _, _, _, ((an.set r).set r).drop, q⟩
end
end Z

namespace Z
open PySem PySem.Spec PyProof.Rows L2
variable {ω : Type}
/-! ### isinstance of an exception that is kept -/
def rIsX (K : PySem.W.Frag) : List V → Hp → VK → Prop := fun xs H Q => ∃ (p D : Addr) (c : V) (cv : Value) (b : Bool), xs = [.ref p, c] ∧ H p = some (ExA D p) ∧ ExcC K D ∧ (∀ u, RelV c u → u = cv) ∧ PySem.W.kitOne K (.ref D) cv = some b ∧ Q (.bl b) H
theorem call_isX {X : Cx} : CallR X (.builtin "isinstance") (rIsX X.K) := by
  intro pins s σ H xs us Q I r h
  obtain ⟨p, D, c, cv, b, rfl, hp, C, hcv, e, q⟩ := h
  cases r with
  | cons rx rr =>
    cases rr with
    | cons rt rr =>
      cases rr
      cases rx
      have ec := hcv _ rt
      subst ec
      obtain ⟨⟨oe, vs, hget, hz, hv⟩, _⟩ := I.hok p _ hp
      have J : PySem.W.InstAt s.heap p oe D none := by
        obtain ⟨oc, od, oda, osl⟩ := oe
        obtain ⟨h1, h2⟩ := hz
        dsimp only at h1 h2 hv
        subst h1 h2 hv
        exact ⟨hget, rfl, rfl, trivial⟩
      exact PySem.W.kia_one (PySem.W.handS_kitx_exc C.hg C.hk C.hs C.hd C.ha C.hn C.ht C.hm) I.kIn J e (fun z => nomatch z) fun tk => ⟨.bl b, H, I.kept (t' := tk) fun _ _ z => z, rfl, q⟩
def zIsX (ec : Nat → Addr) (f : Nat → Bool) (te : TEZ ω) : TEZ ω := fun δ w Q E => te δ w (fun d w1 => match d with | .exc C => ∃ e, C = ec e ∧ e < 7 ∧ Q (.bl (f e)) w1 | .non => Q (.bl false) w1 | _ => False) E
def rIsXN (K : PySem.W.Frag) : List V → Hp → VK → Prop := fun xs H Q => rIsX K xs H Q ∨ rIsi K xs H Q
section
variable {X : Cx} {W : Wp ω} {pos p p2 : Pos} {e : Expr} {te : TEZ ω}
theorem zisx_mo {f : Nat → Bool} (he : PEZ X W e te) : Mo (zIsX W.ec f te) := fun k h => he.mo (fun d w1 h1 => by
  split at h1
  · obtain ⟨e', a, b, q⟩ := h1; exact ⟨e', a, b, k _ _ q⟩
  · exact k _ _ h1
  · exact h1.elim) h
theorem zisx_core {x : Str} {f : Nat → Bool} {c : V} {cv : Value} {tn : TE} (hk : ∀ e, e < 7 → ExcC X.K (W.ec e) ∧ PySem.W.kitOne X.K (.ref (W.ec e)) cv = some (f e)) (hn : PySem.W.kitOne X.K (.type "NoneType") cv = some false) (hcv : ClsV c cv) (hc : ∀ u, RelV c u → u = cv) (he : PEZ X W e te) {Z : Zx} {ex : Nat → List Sl → ω → Prop} {σ : L2.St} {H : Hp} {Q : VK} (h : liE X.K W Z ex (zIsX W.ec f te) σ H Q) :
    liE X.K W Z ex te σ H fun v H1 => rIsXN X.K [v, c] H1 Q := by
  obtain ⟨G, M, δ, w, a, h⟩ := h
  refine ⟨G, M, δ, w, a, he.mo (fun d w1 h1 v H1 G1 M1 o1 r1 => ?_) h⟩
  split at h1
  · obtain ⟨e', rfl, l, q⟩ := h1
    cases r1 with
    | exc g =>
      obtain ⟨k1, k2⟩ := hk e' l
      exact .inl ⟨_, _, c, cv, _, rfl, o1.pt.gh _ _ g, k1, hc, k2, q _ H1 G1 M1 o1 (.bl _)⟩
  · cases r1
    exact .inr ⟨.non, c, .type "NoneType", cv, false, rfl, hcv, .base .non, hn, h1 _ H1 G1 M1 o1 (.bl _)⟩
  · exact h1.elim
/-- against an own class -/
theorem z_isX {x : Str} {C : Addr} {f : Nat → Bool} (hk : ∀ e, e < 7 → ExcC X.K (W.ec e) ∧ PySem.W.kitOne X.K (.ref (W.ec e)) (.ref C) = some (f e)) (hno : PySem.W.kitOne X.K (.type "NoneType") (.ref C) = some false) (hm : X.mg "isinstance" = none) (hm2 : X.mg x = some (.ref C)) (he : PEZ X W e te) (hg : Gl X "isinstance" := by rfl) (hg2 : Gl X x := by rfl)
    (hdb : (x == ("__debug__" : Str)) = false := by decide) (hs : starEach [e, .Name x p2] X.env = (false, eval e X.env) :: starEach [.Name x p2] X.env := by rfl) (hs2 : starEach [.Name x p2] X.env = (false, eval (.Name x p2) X.env) :: starEach [] X.env := by rfl)
    (hpl : (backTo pos (starEach [.Name x p2] X.env)).any (·.1) = false := by rfl) : PEZ X W (.Call (.Name "isinstance" p) [e, .Name x p2] [] pos) (zIsX W.ec f te) :=
  ⟨zisx_mo he, fun Z ex tk => peI (pe_callB (CallR.or call_isX call_isi) hg hm (by decide +kernel) (pa_cons (he.run Z ex tk) (pa_cons (pe_glob (v := .ref C) hg2 hm2 rfl hdb) pa_nil hs2) hs) (by decide) (by decide) hs hpl) fun σ H Q h => zisx_core (c := .ref C) (x := x) (tn := fun _ _ _ => True) hk hno (.own _) (fun u r => r) he h⟩
/-- against a built-in one -/
theorem z_isXB {x : Str} {T : String} {f : Nat → Bool} (hk : ∀ e, e < 7 → ExcC X.K (W.ec e) ∧ PySem.W.kitOne X.K (.ref (W.ec e)) (.type T) = some (f e)) (hno : PySem.W.kitOne X.K (.type "NoneType") (.type T) = some false) (hm : X.mg "isinstance" = none) (hm2 : X.mg x = none) (hv : bootBuiltins x = some (.type T)) (he : PEZ X W e te) (hg : Gl X "isinstance" := by rfl) (hg2 : Gl X x := by rfl)
    (hn : x ≠ "__name__" := by decide) (hdb : (x == ("__debug__" : Str)) = false := by decide) (hs : starEach [e, .Name x p2] X.env = (false, eval e X.env) :: starEach [.Name x p2] X.env := by rfl) (hs2 : starEach [.Name x p2] X.env = (false, eval (.Name x p2) X.env) :: starEach [] X.env := by rfl)
    (hpl : (backTo pos (starEach [.Name x p2] X.env)).any (·.1) = false := by rfl) : PEZ X W (.Call (.Name "isinstance" p) [e, .Name x p2] [] pos) (zIsX W.ec f te) :=
  ⟨zisx_mo he, fun Z ex tk => peI (pe_callB (CallR.or call_isX call_isi) hg hm (by decide +kernel) (pa_cons (he.run Z ex tk) (pa_cons (pe_bltn (v := .ty T) hg2 hm2 hv rfl hn hdb) pa_nil hs2) hs) (by decide) (by decide) hs hpl) fun σ H Q h => zisx_core (c := .ty T) (x := x) (tn := fun _ _ _ => True) hk hno (.ty _) (fun u r => r) he h⟩
theorem z_trye {ec : Nat → Addr} {n y : Str} {x : Str} {c : Value} {body : List Stmt} {np pn py sp pos' : Pos} {t : TSZ ω} (i j : Nat) (hN : X.N.Nodup) (hc : Names X x c) (hcat : ∀ e, e < 7 → PySem.W.exmOne X.K (.ref (ec e)) c = some true)
    (hb : ∀ (l : List (Addr × Obj)) (k : Value → Shared → Prop), PassesOwn (model X.prog X.w) X.A X.env k → PBZ (X.tr l k) W body t) (hec : W.ec = ec := by rfl)
    (h1 : X.stack = X.env :: X.outer := by rfl) (h2 : X.env.frame = some X.env.locals := by rfl) (h3 : X.ex = [] := by rfl)
    (hi : X.N[i]? = some n := by rfl) (hj : X.N[j]? = some y := by rfl) (hn : X.env.kindOf n = some .local := by rfl) (hy : X.env.kindOf y = some .local := by rfl)
    (hdb : (n == ("__debug__" : Str)) = false := by decide) (hcd : (n == ("__classdict__" : Str)) = false := by decide)
    (hsw : swapsWith (.Name n pn) (some (.Name y py)) sp.line X.env = pure false := by rfl) :
    PSZ X W (.Try body [.ExceptHandler (some (.Name x np)) (some n) [.Assign [.Name y py] (.Name n pn) sp] pos'] [] [] pos) (zTry ec i j t) := by
  subst hec
  exact z_try i j hN hc hcat hb h1 h2 h3 hi hj hn hy hdb hcd hsw
theorem z_isXe {ec : Nat → Addr} {x : Str} {C : Addr} {f : Nat → Bool} (hk : ∀ e, e < 7 → ExcC X.K (ec e) ∧ PySem.W.kitOne X.K (.ref (ec e)) (.ref C) = some (f e)) (hno : PySem.W.kitOne X.K (.type "NoneType") (.ref C) = some false) (hm : X.mg "isinstance" = none) (hm2 : X.mg x = some (.ref C)) (he : PEZ X W e te) (hec : W.ec = ec := by rfl) (hg : Gl X "isinstance" := by rfl) (hg2 : Gl X x := by rfl)
    (hdb : (x == ("__debug__" : Str)) = false := by decide) (hs : starEach [e, .Name x p2] X.env = (false, eval e X.env) :: starEach [.Name x p2] X.env := by rfl) (hs2 : starEach [.Name x p2] X.env = (false, eval (.Name x p2) X.env) :: starEach [] X.env := by rfl)
    (hpl : (backTo pos (starEach [.Name x p2] X.env)).any (·.1) = false := by rfl) : PEZ X W (.Call (.Name "isinstance" p) [e, .Name x p2] [] pos) (zIsX ec f te) := by
  subst hec
  exact z_isX hk hno hm hm2 he hg hg2 hdb hs hs2 hpl
theorem z_isXBe {ec : Nat → Addr} {x : Str} {T : String} {f : Nat → Bool} (hk : ∀ e, e < 7 → ExcC X.K (ec e) ∧ PySem.W.kitOne X.K (.ref (ec e)) (.type T) = some (f e)) (hno : PySem.W.kitOne X.K (.type "NoneType") (.type T) = some false) (hm : X.mg "isinstance" = none) (hm2 : X.mg x = none) (hv : bootBuiltins x = some (.type T)) (he : PEZ X W e te) (hec : W.ec = ec := by rfl) (hg : Gl X "isinstance" := by rfl) (hg2 : Gl X x := by rfl)
    (hn : x ≠ "__name__" := by decide) (hdb : (x == ("__debug__" : Str)) = false := by decide) (hs : starEach [e, .Name x p2] X.env = (false, eval e X.env) :: starEach [.Name x p2] X.env := by rfl) (hs2 : starEach [.Name x p2] X.env = (false, eval (.Name x p2) X.env) :: starEach [] X.env := by rfl)
    (hpl : (backTo pos (starEach [.Name x p2] X.env)).any (·.1) = false := by rfl) : PEZ X W (.Call (.Name "isinstance" p) [e, .Name x p2] [] pos) (zIsX ec f te) := by
  subst hec
  exact z_isXB hk hno hm hm2 hv he hg hg2 hn hdb hs hs2 hpl
end
end Z

namespace Z
open PySem PySem.Spec PyProof.Rows L2
variable {ω : Type}
/-- the scope of a block within a block -/
def cScope (scope sc : Scope) : Scope := { scope with names := scope.names.map fun (n, k) => if (k == .free && sc.kind == .function && sc.names.lookup n == some .cell) then (n, .cell) else (n, k) }
theorem nest_ok {N : List Str} {scope scope' sc : Scope} {own : List (Str × Nat)} {cl : List (Str × Addr)} {C : Addr} {env : Env} (hsc : env.scope = sc) (h : blkC N (cScope scope sc) scope' own = true) : blkC N (compEnvC scope cl C env).scope scope' own = true := by
  subst hsc
  exact h
/-! ### an exception made and held -/
theorem pe_excA {X : Cx} {C : Addr} {bmB : List Value} {B newId initId : String} {x : Str} {e : Expr} {ta : TE} {p pos : Pos} (F : ExcBaseFacts B newId initId bmB) (q : PySem.W.excIn X.K C bmB newId = true) (gC : X.mg x = some (.ref C)) (kC : PySem.W.keepIn X.K (.ref C) = true) (hg : Gl X x)
    (he : PE X e ta) (hs : starEach [e] X.env = (false, eval e X.env) :: starEach [] X.env := by rfl) (hdb : (x == ("__debug__" : Str)) = false := by decide) :
    PE X (.Call (.Name x p) [e] [] pos) (fun σ H Q => ta σ H fun _ H1 => ∀ a, H1 a = none → Q (.ref a) (upd H1 a (ExA C a))) := by
  refine ⟨fun pins s σ H Q I h => ?_⟩
  refine wpAny_Call_Name_kw (ld_glob I hg gC ?_ hdb)
  refine PySem.W.callWith_K (h₀ := X.base) I.ok.mod.kin kC ?_ hs (by rfl)
  rw [hs]
  show wpAny _ _ (spliced ((false, eval e X.env) :: backTo pos (starEach [] X.env))) _ _ s
  refine Calls.spliced_cons (thn (he.run pins s σ H _ I h) fun u s1 ⟨v, H1, I1, r1, q1⟩ => ?_)
  refine Calls.spliced_nil ⟨I1.kIn, ?_⟩
  show wpAny _ _ (call (.ref C) [u]) _ _ _
  obtain ⟨bm, N, nm, qn, bs, hdct, sn, sub, ab, col, dd, k0, k1, k2, k3, k5, mN, hC, hN, hni, T⟩ := exc_obj I1.kIn q
  refine wpAny_call_exc_subT F T hC hN hni (fun h' a hm => ?_) (by show 1 ≤ sizeLine; rw [sizeLine_eq]; omega)
  have hn : H1 a = none := I1.hok.gone hm.new
  obtain ⟨t, ht, _, _⟩ := hm.there
  exact ⟨.ref a, upd H1 a (ExA C a), I1.laidN hm.keeps hm.new hn ⟨⟨_, _, ht, ⟨rfl, rfl⟩, rfl⟩, ⟨_, ht⟩, fun _ _ ⟨o, v, a1, a2⟩ k => ⟨o, v, k o a1, a2⟩⟩, rfl, q1 a hn⟩
def zExc (ec : Nat → Addr) (c : Nat) : TEZ ω := fun _ w Q _ => Q (.exc (ec c)) w
theorem z_exc {X : Cx} {W : Wp ω} {ec : Nat → Addr} {c : Nat} {pos p p2 : Pos} {x m : Str} {j : Nat} (T : ErrT X.K X.mg (ec c) x) (hec : W.ec = ec := by rfl) (hg : Gl X x := by rfl) (hdb : (x == ("__debug__" : Str)) = false := by decide) : PEZ X W (.Call (.Name x p) [.Constant (.str m) j p2] [] pos) (zExc ec c) :=
  ⟨fun k h => k _ _ h, fun Z ex tk => peI (pe_excA PySem.F.excBase_ValueError T.xF T.gF T.kF hg pe_str rfl hdb) fun σ H Q ⟨G, M, δ, w, a, h⟩ => fun p hp =>
    h (.ref p) _ _ M (a.here.new (o := ExA (ec c) p) hp) (.exc upd_same)⟩

/-! ### try: body; except X [as n]: suite -/
/-- the suite's ends: no exception leaves, slot i is gone behind it -/
def suD (i : Nat) (D : EndZ ω) : EndZ ω := ⟨fun δ w => D.nx (δ.set i .no) w, D.rt, fun δ w => D.bk (δ.set i .no) w, fun δ w => D.ct (δ.set i .no) w, fun _ _ _ => False⟩
def zTryS (i : Nat) (t : TSZ ω) (tz : Addr → Nat → TSZ ω) : TSZ ω := fun D δ w => t { D with ex := fun e δ' w' => e < 7 ∧ ∀ a, tz a e (suD i D) (δ'.set i (.val (.ref a))) w' } δ w
def zTryO (t : TSZ ω) (tz : TSZ ω) : TSZ ω := fun D δ w => t { D with ex := fun e δ' w' => e < 7 ∧ tz { D with ex := fun _ _ _ => False } δ' w' } δ w
section
variable {X : Cx} {W : Wp ω} {x n : Str} {c : Value} {body suite : List Stmt} {b0 : Stmt} {np pos pos' : Pos} {t : TSZ ω} {tz : Addr → Nat → TSZ ω} {tzo : TSZ ω} {ec : Nat → Addr}
theorem z_tryS (i : Nat) (hN : X.N.Nodup) (hc : Names X x c) (hcat : ∀ e, e < 7 → PySem.W.exmOne X.K (.ref (ec e)) c = some true)
    (hb : ∀ (l : List (Addr × Obj)) (k : Value → Shared → Prop), PassesOwn (model X.prog X.w) X.A X.env k → PBZ (X.tr l k) W body t)
    (hsu : ∀ (a : Addr) (oe : Obj) (e : Nat) (pn : List (Addr × Obj)), e < 7 → Zc (.ref (ec e)) none oe → (∃ vs, oe.data = .fields vs) → PBZ (X.suite a ((a, oe) :: pn)) W (b0 :: suite) (tz a e))
    (hec : W.ec = ec := by rfl) (h1 : X.stack = X.env :: X.outer := by rfl) (h2 : X.env.frame = some X.env.locals := by rfl) (hi : X.N[i]? = some n := by rfl) (hn : X.env.kindOf n = some .local := by rfl) :
    PSZ X W (.Try body [.ExceptHandler (some (.Name x np)) (some n) (b0 :: suite) pos'] [] [] pos) (zTryS i t tz) := fun Z ex tk => by
  subst hec
  refine psI (ps_try_as (i := i) (tb := fun Wx D σ H => ∃ ex', (∀ cl d σ H, WXz X.K W Z ex' cl d σ H → Wx cl d σ H) ∧ liS X.K W Z ex' t D σ H)
    (ts := fun a cl d D σ H => d = none ∧ ∃ e, e < 7 ∧ cl = .ref (W.ec e) ∧ liS X.K W Z (fun _ _ _ => False) (tz a e) D σ H) h1 h2 hN hi hn hc tk
    (fun Wx l k tk' po => ⟨fun pins s σ H DE I h => by
      obtain ⟨ex', im, h⟩ := h
      exact ((hb l k po) Z ex' (tk'.imp im)).run pins s σ H DE I h⟩)
    (fun a oe cl d pn hz hf => ⟨fun pins s σ H DE I h => by
      obtain ⟨rfl, e, l7, rfl, h⟩ := h
      exact ((hsu a oe e pn l7 hz hf) Z _ tkN).run pins s σ H DE I h⟩)) fun D σ H h => ?_
  obtain ⟨Dz, hex, EI, G, M, δ, w, a, h⟩ := h
  refine ⟨fun e δ' w' => e < 7 ∧ ∀ a, tz a e (suD i Dz) (δ'.set i (.val (.ref a))) w', fun cl d σ' H' q => ?_, { Dz with ex := fun e δ' w' => e < 7 ∧ ∀ a, tz a e (suD i Dz) (δ'.set i (.val (.ref a))) w' }, rfl, ⟨EI.nx, EI.bk, EI.ct, EI.rt⟩, G, M, δ, w, a, h⟩
  obtain ⟨rfl, e, rfl, G', M', δ', w', a', l7, q⟩ := q
  refine ⟨true, hcat e l7, fun _ p hp => ⟨rfl, e, l7, rfl, suD i Dz, rfl, ⟨fun σ2 H2 q2 => ?_, fun σ2 H2 q2 => ?_, fun σ2 H2 q2 => ?_, EI.rt⟩, G', M', _, w', a'.set (.ref p), q p⟩, fun z => nomatch z⟩
  · obtain ⟨G2, M2, δ2, w2, a2, q2⟩ := q2
    exact EI.nx _ _ ⟨G2, M2, _, w2, a2.drop, q2⟩
  · obtain ⟨G2, M2, δ2, w2, a2, q2⟩ := q2
    exact EI.bk _ _ ⟨G2, M2, _, w2, a2.drop, q2⟩
  · obtain ⟨G2, M2, δ2, w2, a2, q2⟩ := q2
    exact EI.ct _ _ ⟨G2, M2, _, w2, a2.drop, q2⟩
theorem z_tryO (hc : Names X x c) (hcat : ∀ e, e < 7 → PySem.W.exmOne X.K (.ref (ec e)) c = some true)
    (hb : ∀ (l : List (Addr × Obj)) (k : Value → Shared → Prop), PassesOwn (model X.prog X.w) X.A X.env k → PBZ (X.tr l k) W body t)
    (hsu : ∀ (a : Addr) (oe : Obj) (pn : List (Addr × Obj)), PBZ (X.suite a ((a, oe) :: pn)) W (b0 :: suite) tzo)
    (hec : W.ec = ec := by rfl) (h1 : X.stack = X.env :: X.outer := by rfl) (h2 : X.env.frame = some X.env.locals := by rfl) :
    PSZ X W (.Try body [.ExceptHandler (some (.Name x np)) none (b0 :: suite) pos'] [] [] pos) (zTryO t tzo) := fun Z ex tk => by
  subst hec
  refine psI (ps_try_only (tb := fun Wx D σ H => ∃ ex', (∀ cl d σ H, WXz X.K W Z ex' cl d σ H → Wx cl d σ H) ∧ liS X.K W Z ex' t D σ H)
    (ts := fun a cl d D σ H => liS X.K W Z (fun _ _ _ => False) tzo D σ H) h1 h2 hc tk
    (fun Wx l k tk' po => ⟨fun pins s σ H DE I h => by
      obtain ⟨ex', im, h⟩ := h
      exact ((hb l k po) Z ex' (tk'.imp im)).run pins s σ H DE I h⟩)
    (fun a oe cl d pn hz hf => ⟨fun pins s σ H DE I h => ((hsu a oe pn) Z _ tkN).run pins s σ H DE I h⟩)) fun D σ H h => ?_
  obtain ⟨Dz, hex, EI, G, M, δ, w, a, h⟩ := h
  refine ⟨fun e δ' w' => e < 7 ∧ tzo { Dz with ex := fun _ _ _ => False } δ' w', fun cl d σ' H' q => ?_, { Dz with ex := fun e δ' w' => e < 7 ∧ tzo { Dz with ex := fun _ _ _ => False } δ' w' }, rfl, ⟨EI.nx, EI.bk, EI.ct, EI.rt⟩, G, M, δ, w, a, h⟩
  obtain ⟨rfl, e, rfl, G', M', δ', w', a', l7, q⟩ := q
  exact ⟨true, hcat e l7, fun _ p hp => ⟨{ Dz with ex := fun _ _ _ => False }, rfl, ⟨EI.nx, EI.bk, EI.ct, EI.rt⟩, G', M', δ', w', a', q⟩, fun z => nomatch z⟩
end

/-! ### isinstance: the suite's own exception; one that is kept, or None -/
/-- the suite's exception (of the class of e) at a -/
def zIsS (a : Addr) (b : Bool) (te : TEZ ω) : TEZ ω := fun δ w Q E => te δ w (fun d w1 => match d with | .ref p => p = a ∧ Q (.bl b) w1 | _ => False) E
section
variable {X : Cx} {W : Wp ω} {pos p p2 : Pos} {e : Expr} {te : TEZ ω} {a : Addr} {oe : Obj} {pn : List (Addr × Obj)} {D : Addr}
theorem ziss_mo {X : Cx} {b : Bool} (he : PEZ X W e te) : Mo (zIsS a b te) := fun k h => he.mo (fun d w1 h1 => by
  split at h1
  · exact ⟨h1.1, k _ _ h1.2⟩
  · exact h1.elim) h
theorem ziss_core {X : Cx} {b : Bool} {c : V} {cv : Value} (hk : PySem.W.kitOne X.K (.ref D) cv = some b) (hc : ∀ u, RelV c u → u = cv) (he : PEZ X W e te) {Z : Zx} {ex : Nat → List Sl → ω → Prop} {σ : L2.St} {H : Hp} {Q : VK} (h : liE X.K W Z ex (zIsS a b te) σ H Q) :
    liE X.K W Z ex te σ H fun v H1 => rIsE X.K D a [v, c] H1 Q := by
  obtain ⟨G, M, δ, w, s, h⟩ := h
  refine ⟨G, M, δ, w, s, he.mo (fun d w1 h1 v H1 G1 M1 o1 r1 => ?_) h⟩
  split at h1
  · obtain ⟨rfl, q⟩ := h1
    cases r1
    exact ⟨c, cv, b, rfl, hc, hk, q _ H1 G1 M1 o1 (.bl _)⟩
  · exact h1.elim
theorem z_isS {x : Str} {C : Addr} {b : Bool} (ED : ExcC X.K D) (hz : Zc (.ref D) none oe) (hf : ∃ vs, oe.data = .fields vs) (hk : PySem.W.kitOne X.K (.ref D) (.ref C) = some b) (hm : X.mg "isinstance" = none) (hm2 : X.mg x = some (.ref C)) (he : PEZ (X.suite a ((a, oe) :: pn)) W e te) (hg : Gl (X.suite a ((a, oe) :: pn)) "isinstance" := by rfl) (hg2 : Gl (X.suite a ((a, oe) :: pn)) x := by rfl)
    (hdb : (x == ("__debug__" : Str)) = false := by decide) (hs : starEach [e, .Name x p2] X.env = (false, eval e X.env) :: starEach [.Name x p2] X.env := by rfl) (hs2 : starEach [.Name x p2] X.env = (false, eval (.Name x p2) X.env) :: starEach [] X.env := by rfl)
    (hpl : (backTo pos (starEach [.Name x p2] X.env)).any (·.1) = false := by rfl) : PEZ (X.suite a ((a, oe) :: pn)) W (.Call (.Name "isinstance" p) [e, .Name x p2] [] pos) (zIsS a b te) :=
  ⟨ziss_mo he, fun Z ex tk => peI (pe_callB (call_isE ED hz hf) hg hm (by decide +kernel) (pa_cons (he.run Z ex tk) (pa_cons (pe_glob (v := .ref C) hg2 hm2 rfl hdb) pa_nil hs2) hs) (by decide) (by decide) hs hpl) fun σ H Q h => ziss_core (X := X.suite a ((a, oe) :: pn)) (c := .ref C) hk (fun u r => r) he h⟩
theorem z_isSB {x : Str} {T : String} {b : Bool} (ED : ExcC X.K D) (hz : Zc (.ref D) none oe) (hf : ∃ vs, oe.data = .fields vs) (hk : PySem.W.kitOne X.K (.ref D) (.type T) = some b) (hm : X.mg "isinstance" = none) (hm2 : X.mg x = none) (hv : bootBuiltins x = some (.type T)) (he : PEZ (X.suite a ((a, oe) :: pn)) W e te) (hg : Gl (X.suite a ((a, oe) :: pn)) "isinstance" := by rfl) (hg2 : Gl (X.suite a ((a, oe) :: pn)) x := by rfl)
    (hn : x ≠ "__name__" := by decide) (hdb : (x == ("__debug__" : Str)) = false := by decide) (hs : starEach [e, .Name x p2] X.env = (false, eval e X.env) :: starEach [.Name x p2] X.env := by rfl) (hs2 : starEach [.Name x p2] X.env = (false, eval (.Name x p2) X.env) :: starEach [] X.env := by rfl)
    (hpl : (backTo pos (starEach [.Name x p2] X.env)).any (·.1) = false := by rfl) : PEZ (X.suite a ((a, oe) :: pn)) W (.Call (.Name "isinstance" p) [e, .Name x p2] [] pos) (zIsS a b te) :=
  ⟨ziss_mo he, fun Z ex tk => peI (pe_callB (call_isE ED hz hf) hg hm (by decide +kernel) (pa_cons (he.run Z ex tk) (pa_cons (pe_bltn (v := .ty T) hg2 hm2 hv rfl hn hdb) pa_nil hs2) hs) (by decide) (by decide) hs hpl) fun σ H Q h => ziss_core (X := X.suite a ((a, oe) :: pn)) (c := .ty T) hk (fun u r => r) he h⟩
end
/-! .. against several own classes -/
structure ClsA (X : Cx) (es : List Expr) (cs : List Addr) : Prop where
  pa : PA X es (fun _ H Q => Q (cs.map V.ref) H)
section
variable {X : Cx} {es : List Expr} {cs : List Addr}
theorem cl_nil : ClsA X [] [] := ⟨paI pa_nil fun σ H Q h => h⟩
theorem cl_cons {C : Addr} {x : Str} {p : Pos} (hm : X.mg x = some (.ref C)) (h : ClsA X es cs) (hg : Gl X x := by rfl) (hdb : (x == ("__debug__" : Str)) = false := by decide) (hs : starEach (.Name x p :: es) X.env = (false, eval (.Name x p) X.env) :: starEach es X.env := by rfl) : ClsA X (.Name x p :: es) (C :: cs) :=
  ⟨paI (pa_cons (pe_glob (v := .ref C) hg hm rfl hdb) h.pa hs) fun σ H Q h => h⟩
theorem any_of {K : PySem.W.Frag} {ec : Nat → Addr} {t : Value} {e : Nat} : ∀ {cs : List Nat}, (∀ c ∈ cs, PySem.W.kitOne K t (.ref (ec c)) = some (decide (e = c))) → PySem.W.kitAny K t ((cs.map ec).map Value.ref) = some (cs.any fun c => decide (e = c))
  | [], _ => rfl
  | c :: cs, h => by
    rw [List.any_cons, List.map_cons, List.map_cons]
    refine kitAny_cons (h c List.mem_cons_self) (fun q => ?_) (fun q => ?_)
    · rw [q, Bool.false_or]
      exact any_of fun c hc => h c (List.mem_cons_of_mem _ hc)
    · rw [q, Bool.true_or]
theorem any_no {K : PySem.W.Frag} {ec : Nat → Addr} {t : Value} : ∀ {cs : List Nat}, (∀ c ∈ cs, PySem.W.kitOne K t (.ref (ec c)) = some false) → PySem.W.kitAny K t ((cs.map ec).map Value.ref) = some false
  | [], _ => rfl
  | c :: cs, h => kitAny_cons (h c List.mem_cons_self) (fun _ => any_no fun c hc => h c (List.mem_cons_of_mem _ hc)) (fun q => nomatch q)
theorem pairedC : ∀ cs : List Addr, Paired ClsV (cs.map V.ref) (cs.map Value.ref)
  | [] => .nil
  | C :: cs => .cons (.own C) (pairedC cs)
def rIsET (K : PySem.W.Frag) (D a : Addr) : List V → Hp → VK → Prop := fun xs H Q => ∃ (tp : Addr) (cs : List Addr) (b : Bool), xs = [.ref a, .ref tp] ∧ H tp = some (.tup (cs.map V.ref)) ∧ PySem.W.kitAny K (.ref D) (cs.map Value.ref) = some b ∧ Q (.bl b) H
theorem call_isET {a D : Addr} {oe : Obj} {pn : List (Addr × Obj)} (C : ExcC X.K D) (hz : Zc (.ref D) none oe) (hf : ∃ vs, oe.data = .fields vs) : CallR (X.suite a ((a, oe) :: pn)) (.builtin "isinstance") (rIsET X.K D a) := by
  intro pins s σ H xs us Q I r h
  obtain ⟨tp, cs, b, rfl, hT, e, q⟩ := h
  obtain ⟨u1, u2, rfl, r1, r2⟩ := vals2 r
  cases (show u2 = Value.ref tp from r2)
  cases (show u1 = Value.ref a from r1)
  obtain ⟨hget, _⟩ := I.pin (a, oe) (List.mem_append.mpr (.inl List.mem_cons_self))
  obtain ⟨vs, hv⟩ := hf
  have J : PySem.W.InstAt s.heap a oe D none := by
    obtain ⟨oc, od, oda, osl⟩ := oe
    obtain ⟨h1, h2⟩ := hz
    dsimp only at h1 h2 hv
    subst h1 h2 hv
    exact ⟨hget, rfl, rfl, trivial⟩
  obtain ⟨_, its, rv, o, h1, h2, n, h3⟩ := (show ObjOk X.prog X.w H s.heap tp (.tup (cs.map V.ref)) from I.hok tp _ hT)
  have e3 := ClsV.all (pairedC cs) rv
  subst e3
  obtain ⟨oc, od, dt, sl⟩ := o
  simp only at h2 h3
  subst h2 h3
  exact PySem.W.kia_tup (PySem.W.handS_kitx_exc C.hg C.hk C.hs C.hd C.ha C.hn C.ht C.hm) I.kIn J h1 e (fun z => nomatch z) fun tk => ⟨.bl b, H, I.tok tk, rfl, q⟩
def rIsXT (K : PySem.W.Frag) : List V → Hp → VK → Prop := fun xs H Q => ∃ (p D tp : Addr) (cs : List Addr) (b : Bool), xs = [.ref p, .ref tp] ∧ H p = some (ExA D p) ∧ ExcC K D ∧ H tp = some (.tup (cs.map V.ref)) ∧ PySem.W.kitAny K (.ref D) (cs.map Value.ref) = some b ∧ Q (.bl b) H
theorem call_isXT : CallR X (.builtin "isinstance") (rIsXT X.K) := by
  intro pins s σ H xs us Q I r h
  obtain ⟨p, D, tp, cs, b, rfl, hp, C, hT, e, q⟩ := h
  obtain ⟨u1, u2, rfl, r1, r2⟩ := vals2 r
  cases (show u2 = Value.ref tp from r2)
  cases (show u1 = Value.ref p from r1)
  obtain ⟨⟨oe, vs, hget, hz, hv⟩, _⟩ := I.hok p _ hp
  have J : PySem.W.InstAt s.heap p oe D none := by
    obtain ⟨oc, od, oda, osl⟩ := oe
    obtain ⟨h1, h2⟩ := hz
    dsimp only at h1 h2 hv
    subst h1 h2 hv
    exact ⟨hget, rfl, rfl, trivial⟩
  obtain ⟨_, its, rv, o, h1, h2, n, h3⟩ := (show ObjOk X.prog X.w H s.heap tp (.tup (cs.map V.ref)) from I.hok tp _ hT)
  have e3 := ClsV.all (pairedC cs) rv
  subst e3
  obtain ⟨oc, od, dt, sl⟩ := o
  simp only at h2 h3
  subst h2 h3
  exact PySem.W.kia_tup (PySem.W.handS_kitx_exc C.hg C.hk C.hs C.hd C.ha C.hn C.ht C.hm) I.kIn J h1 e (fun z => nomatch z) fun tk => ⟨.bl b, H, I.tok tk, rfl, q⟩
def rIsXTN (K : PySem.W.Frag) : List V → Hp → VK → Prop := fun xs H Q => rIsXT K xs H Q ∨ rIsiT K xs H Q
end
section
variable {X : Cx} {W : Wp ω} {pos p tpos : Pos} {e : Expr} {te : TEZ ω} {a : Addr} {oe : Obj} {pn : List (Addr × Obj)} {D : Addr} {es : List Expr} {cs : List Addr} {k : Nat}
theorem z_isST {b : Bool} (ED : ExcC X.K D) (hz : Zc (.ref D) none oe) (hf : ∃ vs, oe.data = .fields vs) (hk : PySem.W.kitAny X.K (.ref D) (cs.map Value.ref) = some b) (hl : cs.length ≤ 100000) (hm : X.mg "isinstance" = none) (he : PEZ (X.suite a ((a, oe) :: pn)) W e te) (ht : ClsA (X.suite a ((a, oe) :: pn)) es cs) (hg : Gl (X.suite a ((a, oe) :: pn)) "isinstance" := by rfl)
    (hs : starEach [e, .Tuple es k tpos] X.env = (false, eval e X.env) :: starEach [.Tuple es k tpos] X.env := by rfl) (hs2 : starEach [.Tuple es k tpos] X.env = (false, eval (.Tuple es k tpos) X.env) :: starEach [] X.env := by rfl)
    (hpl : (backTo pos (starEach [.Tuple es k tpos] X.env)).any (·.1) = false := by rfl) : PEZ (X.suite a ((a, oe) :: pn)) W (.Call (.Name "isinstance" p) [e, .Tuple es k tpos] [] pos) (zIsS a b te) :=
  ⟨ziss_mo he, fun Z ex tk => peI (pe_callB (call_isET ED hz hf) hg hm (by decide +kernel) (pa_cons (he.run Z ex tk) (pa_cons (pe_tup ht.pa) pa_nil hs2) hs) (by decide) (by decide) hs hpl) fun σ H Q ⟨G, M, δ, w, s, h⟩ => by
    refine ⟨G, M, δ, w, s, he.mo (fun d w1 h1 v H1 G1 M1 o1 r1 => ?_) h⟩
    split at h1
    · obtain ⟨rfl, q⟩ := h1
      cases r1
      exact ⟨sz1 (by rw [List.length_map]; exact hl), fun tp hp => ⟨tp, cs, b, rfl, upd_same, hk, q _ _ _ M1 (o1.new (o := .tup (cs.map V.ref)) hp) (.bl _)⟩⟩
    · exact h1.elim⟩
theorem z_isXT {ec : Nat → Addr} {f : Nat → Bool} (hk : ∀ e, e < 7 → ExcC X.K (ec e) ∧ PySem.W.kitAny X.K (.ref (ec e)) (cs.map Value.ref) = some (f e)) (hno : PySem.W.kitAny X.K (.type "NoneType") (cs.map Value.ref) = some false) (hl : cs.length ≤ 100000) (hm : X.mg "isinstance" = none) (he : PEZ X W e te) (ht : ClsA X es cs) (hec : W.ec = ec := by rfl) (hg : Gl X "isinstance" := by rfl)
    (hs : starEach [e, .Tuple es k tpos] X.env = (false, eval e X.env) :: starEach [.Tuple es k tpos] X.env := by rfl) (hs2 : starEach [.Tuple es k tpos] X.env = (false, eval (.Tuple es k tpos) X.env) :: starEach [] X.env := by rfl)
    (hpl : (backTo pos (starEach [.Tuple es k tpos] X.env)).any (·.1) = false := by rfl) : PEZ X W (.Call (.Name "isinstance" p) [e, .Tuple es k tpos] [] pos) (zIsX ec f te) := by
  subst hec
  refine ⟨zisx_mo he, fun Z ex tk => peI (pe_callB (CallR.or call_isXT call_isiT) hg hm (by decide +kernel) (pa_cons (he.run Z ex tk) (pa_cons (pe_tup ht.pa) pa_nil hs2) hs) (by decide) (by decide) hs hpl) fun σ H Q ⟨G, M, δ, w, s, h⟩ => ?_⟩
  refine ⟨G, M, δ, w, s, he.mo (fun d w1 h1 v H1 G1 M1 o1 r1 => ?_) h⟩
  split at h1
  · obtain ⟨e', rfl, l, q⟩ := h1
    cases r1 with
    | exc g =>
      obtain ⟨k1, k2⟩ := hk e' l
      refine ⟨sz1 (by rw [List.length_map]; exact hl), fun tp hp => .inl ⟨_, _, tp, cs, _, rfl, ?_, k1, upd_same, k2, q _ _ _ M1 (o1.new (o := .tup (cs.map V.ref)) hp) (.bl _)⟩⟩
      rw [upd_ne (ne_of_none (o1.pt.gh _ _ g) hp)]
      exact o1.pt.gh _ _ g
  · cases r1
    exact ⟨sz1 (by rw [List.length_map]; exact hl), fun tp hp => .inr ⟨.non, tp, cs.map V.ref, .type "NoneType", cs.map Value.ref, false, rfl, upd_same, pairedC cs, .base .non, hno, h1 _ _ _ M1 (o1.new (o := .tup (cs.map V.ref)) hp) (.bl _)⟩⟩
  · exact h1.elim
end

/-! ### methods of a list that stands: count, index of flat data -/
def rCntF (K : PySem.W.Frag) : V → List V → Hp → VK → Prop := fun x xs H Q => ∃ (p : Addr) (ys : List V) (y : V), x = .ref p ∧ xs = [y] ∧ SqL K H p ys ∧ flatV y = true ∧ ys.all flatV = true ∧ Q (.int (ys.countP fun z => eqV z y : Nat)) H
theorem countF {y : V} : ∀ {ys : List V} {us : List Value}, Vals ys us → ys.all flatV = true → us.countP (eqU y) = ys.countP fun z => eqV z y
  | _, _, .nil, _ => rfl
  | z :: ys, u :: us, .cons r t, f => by
    rw [List.all_cons, Bool.and_eq_true] at f
    rw [List.countP_cons, List.countP_cons, countF t f.2, eqU_of r f.1]
theorem mt_countF {X : Cx} : MtR X "list.count" (rCntF X.K) := by
  intro pins s σ H x xs v us Q I rx rxs h
  obtain ⟨p, ys, y, rfl, rfl, hs, fy, fys, q⟩ := h
  cases rx
  obtain ⟨u, rfl, ru⟩ := rxs.one
  obtain ⟨its, rv, ⟨⟨cls, dd, data, sl⟩, n, ho, hc, hdn, hd⟩, hlen⟩ := I.list hs
  simp only at hc hd
  subst hc hd
  refine call_meets PySem.F.slot_list_count ⟨_, ho, rfl⟩ PySem.F.entry_list_count (PySem.F.args_list_count_2 _ _)
    (SeqAt.list_countAt p its.toArray n dd sl u (eqU y)) ⟨ho, fun u' hu' => mem_eqAt ru fy rv fys u' (by simpa using hu'), ?_⟩
  refine ⟨.int (ys.countP fun z => eqV z y : Nat), H, I.tok _, ⟨s.toks, ?_⟩, q⟩
  show Value.int ((its.toArray.toList.countP (eqU y) : Nat) : Int) s.toks = Value.int ((ys.countP fun z => eqV z y : Nat) : Int) s.toks
  rw [show its.toArray.toList = its from rfl, countF rv fys]
def lcntD (l : List D) (m : List D) (q : D → Prop) : Prop := oneD m fun y => (okF y = true ∧ okFs l = true) ∧ q (.int (l.countP fun z => eqF z y : Nat))
def lidxD (l : List D) (m : List D) (q : D → Prop) : Prop := oneD m fun y => (okF y = true ∧ okFs l = true) ∧ ∃ (j : Nat) (z : D), l[j]? = some z ∧ eqF z y = true ∧ (∀ i z', i < j → l[i]? = some z' → eqF z' y = false) ∧ q (.int (j : Nat))
def zML (r : List D → List D → (D → Prop) → Prop) (te : TEZ ω) (ta : TAZ ω) : TEZ ω := fun δ w Q E => te δ w (fun x w1 => seqD x fun l => ta δ w1 (fun m w2 => r l m fun z => Q z w2) E) E
structure LndL (K : PySem.W.Frag) (rm : V → List V → Hp → VK → Prop) (r : List D → List D → (D → Prop) → Prop) : Prop where
  mo : ∀ {l m : List D} {q q' : D → Prop}, (∀ d, q d → q' d) → r l m q → r l m q'
  go : ∀ (H G : Hp) (p : Addr) (xs vs : List V) (l m : List D) (q : D → Prop) (Q : VK), Ext G H → SqL K H p xs → RepL K G xs l → RepL K G vs m → r l m q → (∀ d v, q d → Rep K G v d → Q v H) → rm (.ref p) vs H Q
theorem okFs_at {l : List D} (h : okFs l = true) : ∀ {j : Nat} {z : D}, l[j]? = some z → okF z = true := by
  induction l with
  | nil => intro j z e; simp at e
  | cons d l ih =>
    intro j z e
    unfold okFs at h
    rw [Bool.and_eq_true] at h
    cases j with
    | zero => rw [List.getElem?_cons_zero] at e; cases e; exact h.1
    | succ j => rw [List.getElem?_cons_succ] at e; exact ih h.2 e
section
variable {K : PySem.W.Frag} {G : Hp}
theorem countP_rep {v : V} {d : D} (r : Rep K G v d) (h : okF d = true) : ∀ {vs : List V} {l : List D}, RepL K G vs l → okFs l = true → (vs.countP fun z => eqV z v) = l.countP fun z => eqF z d
  | _, _, .nil, _ => rfl
  | _, _, .cons s t, g => by
    unfold okFs at g
    rw [Bool.and_eq_true] at g
    rw [List.countP_cons, List.countP_cons, countP_rep r h t g.2, eqF_eqV s r g.1 h]
theorem ll_cnt : LndL K (rCntF K) lcntD where
  mo := fun k h => h.imp fun d h => ⟨h.1, k _ h.2⟩
  go := fun H G p xs vs l m q Q e s rl rm h k => by
    have hh := h.of; clear h; obtain ⟨d, rfl, ⟨h1, h2⟩, h⟩ := hh
    obtain ⟨v, rfl, rv⟩ := one_rep rm
    exact ⟨p, xs, v, rfl, rfl, s, okF_flat rv h1, okFs_flat rl h2, by rw [countP_rep rv h1 rl h2]; exact k _ _ h (.int _)⟩
theorem ll_idx : LndL K (rIndex K) lidxD where
  mo := fun k h => h.imp fun d ⟨h0, j, z, h1, h2, h3, h4⟩ => ⟨h0, j, z, h1, h2, h3, k _ h4⟩
  go := fun H G p xs vs l m q Q e s rl rm h k => by
    have hh := h.of; clear h; obtain ⟨d, rfl, ⟨h1, h2⟩, j, z, hj, hz, hno, h⟩ := hh
    obtain ⟨v, rfl, rv⟩ := one_rep rm
    obtain ⟨u, hu, ru⟩ := rl.get hj
    refine ⟨p, xs, v, j, u, rfl, rfl, s, okF_flat rv h1, okFs_flat rl h2, hu, by rw [eqF_eqV ru rv (okFs_at h2 hj) h1]; exact hz, fun i z' hi hz' => ?_, k _ _ h (.int _)⟩
    obtain ⟨d', hd', rd'⟩ := rl.getV hz'
    rw [eqF_eqV rd' rv (okFs_at h2 hd') h1]
    exact hno i d' hi hd'
end
section
variable {X : Cx} {W : Wp ω} {apos pos : Pos} {o e : Expr} {es : List Expr} {to : TEZ ω} {ta : TAZ ω} {rm : V → List V → Hp → VK → Prop} {r : List D → List D → (D → Prop) → Prop} {name : Str} {id : String}
theorem zML_mo (hl : LndL X.K rm r) (ho : PEZ X W o to) (ha : PAZ X W es ta) : Mo (zML r to ta) := fun k h => ho.mo (fun x w1 h1 => h1.imp fun l h2 => ha.mo (fun m w2 h3 => hl.mo (fun d q => k d _ q) h3) h2) h
theorem z_lm (hl : LndL X.K rm r) (hm : MtR X id rm) (slot : Slot "list" name id) (hty : typeOf (.builtin id) = pure (.type "method_descriptor")) (ho : PEZ X W o to) (ha : PAZ X W (e :: es) ta)
    (hbase : attributeBase o name X.env (eval o X.env) = eval o X.env := by rfl)
    (hfew : ((backTo pos (starEach (e :: es) X.env)).all (fun x => !x.1) && (backToKw pos (keywordEach [] X.env)).all (fun x => x.1.isSome)
      && decide ((e :: es).length + ([] : List Keyword).length + (if ([] : List Keyword).isEmpty then 0 else 1) < 30)) = true := by rfl)
    (hline : (apos.endLine == pos.line) = true := by rfl) (hs : starEach (e :: es) X.env = (false, eval e X.env) :: starEach es X.env := by rfl) (hpl : (backTo pos (starEach es X.env)).any (·.1) = false := by rfl) :
    PEZ X W (.Call (.Attribute o name apos) (e :: es) [] pos) (zML r to ta) :=
  ⟨zML_mo hl ho ha, fun Z ex tk => peI (pe_bm PySem.F.plainAttrs_list slot hty hm (ho.run Z ex tk) (ha.run Z ex tk) hbase hfew hline hs hpl) fun σ H Q ⟨G, M, δ, w, a0, h⟩ => by
    refine ⟨G, M, δ, w, a0, ho.mo (fun d w1 h1 v H1 G1 M1 o1 r1 => ?_) h⟩
    obtain ⟨p, xs, l, rfl, s, rl, h2⟩ := h1.of r1
    refine ⟨.inl ⟨rfl, _, sqLE o1.pt.gh s⟩, G1, M1, δ, w1, a0.go o1, ha.mo (fun m w2 h3 vs H2 G2 M2 o2 r2 => ?_) h2⟩
    exact hl.go H2 G2 p xs vs l m _ Q o2.pt.gh (sqLE (o2.nx.gg.tr o2.pt.gh) s) (rl.up o2.nx.gg) r2 h3 fun d3 v3 q3 r3 => q3 v3 H2 G2 M2 (o1.tr o2) r3⟩
theorem z_lcnt (ho : PEZ X W o to) (ha : PAZ X W [e] ta) (hbase : attributeBase o "count" X.env (eval o X.env) = eval o X.env := by rfl)
    (hfew : ((backTo pos (starEach [e] X.env)).all (fun x => !x.1) && (backToKw pos (keywordEach [] X.env)).all (fun x => x.1.isSome) && decide ([e].length + ([] : List Keyword).length + (if ([] : List Keyword).isEmpty then 0 else 1) < 30)) = true := by rfl)
    (hline : (apos.endLine == pos.line) = true := by rfl) (hs : starEach [e] X.env = (false, eval e X.env) :: starEach [] X.env := by rfl) (hpl : (backTo pos (starEach [] X.env)).any (·.1) = false := by rfl) : PEZ X W (.Call (.Attribute o "count" apos) [e] [] pos) (zML lcntD to ta) :=
  z_lm ll_cnt mt_countF PySem.F.slot_list_count PySem.F.type_list_count ho ha hbase hfew hline hs hpl
theorem z_lidx (ho : PEZ X W o to) (ha : PAZ X W [e] ta) (hbase : attributeBase o "index" X.env (eval o X.env) = eval o X.env := by rfl)
    (hfew : ((backTo pos (starEach [e] X.env)).all (fun x => !x.1) && (backToKw pos (keywordEach [] X.env)).all (fun x => x.1.isSome) && decide ([e].length + ([] : List Keyword).length + (if ([] : List Keyword).isEmpty then 0 else 1) < 30)) = true := by rfl)
    (hline : (apos.endLine == pos.line) = true := by rfl) (hs : starEach [e] X.env = (false, eval e X.env) :: starEach [] X.env := by rfl) (hpl : (backTo pos (starEach [] X.env)).any (·.1) = false := by rfl) : PEZ X W (.Call (.Attribute o "index" apos) [e] [] pos) (zML lidxD to ta) :=
  z_lm ll_idx mt_index PySem.F.slot_list_index PySem.F.type_list_index ho ha hbase hfew hline hs hpl
end
end Z

namespace Z
open PySem PySem.Spec PyProof.Rows L2
theorem nines_tab : ∀ n : Nat, n < 61 → PySem.MulOk (Str.ofString "9") (n : Int) ∧ (n ≠ 0 → PySem.intText? (Txt.mul (Str.ofString "9") (n : Int)) = some ((10 : Int) ^ n - 1)) ∧ (Txt.mul (Str.ofString "9") (n : Int)).length ≤ 640 := by
  unfold PySem.MulOk
  decide +kernel
theorem noughts_tab : ∀ n : Nat, n < 61 → PySem.MulOk (Str.ofString "0") (n : Int) ∧ PySem.intText? (Str.ofString "1" ++ Txt.mul (Str.ofString "0") (n : Int)) = some ((10 : Int) ^ n) ∧ (Str.ofString "1" ++ Txt.mul (Str.ofString "0") (n : Int)).length ≤ 640 ∧ (Str.ofString "1").length + (Txt.mul (Str.ofString "0") (n : Int)).length ≤ 16777216 := by
  unfold PySem.MulOk
  decide +kernel
theorem nines {n : Int} (h0 : 1 ≤ n) (h1 : n ≤ 60) : PySem.MulOk (Str.ofString "9") n ∧ ∃ v, PySem.intText? (Txt.mul (Str.ofString "9") n) = some v ∧ v = (10 : Int) ^ n.toNat - 1 ∧ (Txt.mul (Str.ofString "9") n).length ≤ 640 := by
  obtain ⟨k, rfl⟩ : ∃ k : Nat, n = k := ⟨n.toNat, by omega⟩
  obtain ⟨a, b, c⟩ := nines_tab k (by omega)
  exact ⟨a, _, b (by omega), rfl, c⟩
theorem noughts {n : Int} (h0 : 0 ≤ n) (h1 : n ≤ 60) : PySem.MulOk (Str.ofString "0") n ∧ ∃ v, PySem.intText? (Str.ofString "1" ++ Txt.mul (Str.ofString "0") n) = some v ∧ v = (10 : Int) ^ n.toNat ∧ (Str.ofString "1" ++ Txt.mul (Str.ofString "0") n).length ≤ 640 ∧ (Str.ofString "1").length + (Txt.mul (Str.ofString "0") n).length ≤ 16777216 := by
  obtain ⟨k, rfl⟩ : ∃ k : Nat, n = k := ⟨n.toNat, by omega⟩
  obtain ⟨a, b, c, d⟩ := noughts_tab k (by omega)
  exact ⟨a, _, b, rfl, c, d⟩
end Z

namespace Z
open PySem PySem.Spec PyProof.Rows L2
variable {ω : Type}
/-! ### methods of a text -/
def zM (r : Str → List D → (D → Prop) → Prop) (te : TEZ ω) (ta : TAZ ω) : TEZ ω := fun δ w Q E => te δ w (fun x w1 => match x with | .str a => ta δ w1 (fun l w2 => r a l fun z => Q z w2) E | _ => False) E
structure LndM (K : PySem.W.Frag) (rm : V → List V → Hp → VK → Prop) (r : Str → List D → (D → Prop) → Prop) : Prop where
  mo : ∀ {a : Str} {l : List D} {q q' : D → Prop}, (∀ d, q d → q' d) → r a l q → r a l q'
  go : ∀ (H G : Hp) (a : Str) (vs : List V) (l : List D) (q : D → Prop) (Q : VK), Ext G H → RepL K G vs l → r a l q → (∀ d v, q d → Rep K G v d → Q v H) → rm (.str a) vs H Q
section
variable {X : Cx} {W : Wp ω} {apos pos : Pos} {o e : Expr} {es : List Expr} {to : TEZ ω} {ta : TAZ ω} {rm : V → List V → Hp → VK → Prop} {r : Str → List D → (D → Prop) → Prop} {name : Str} {id : String}
theorem zM_mo (hl : LndM X.K rm r) (ho : PEZ X W o to) (ha : PAZ X W es ta) : Mo (zM r to ta) := fun k h => ho.mo (fun x w1 h1 => by
  cases x with
  | str a => exact ha.mo (fun l w2 h2 => hl.mo (fun d q => k d _ q) h2) h1
  | _ => exact False.elim h1) h
theorem zM_core (hl : LndM X.K rm r) (ho : PEZ X W o to) (ha : PAZ X W es ta) {Z : Zx} {ex : Nat → List Sl → ω → Prop} {σ : L2.St} {H : Hp} {Q : VK} (h : liE X.K W Z ex (zM r to ta) σ H Q) : tBM X.K "str" rm (liE X.K W Z ex to) (liA X.K W Z ex ta) σ H Q := by
  obtain ⟨G, M, δ, w, a0, h⟩ := h
  refine ⟨G, M, δ, w, a0, ho.mo (fun d w1 h1 v H1 G1 M1 o1 r1 => ?_) h⟩
  cases d with
  | str a =>
    cases r1
    exact ⟨rfl, G1, M1, δ, w1, a0.go o1, ha.mo (fun l w2 h2 vs H2 G2 M2 o2 r2 => hl.go H2 G2 a vs l _ Q o2.pt.gh r2 h2 (fun d3 v3 q3 r3 => q3 v3 H2 G2 M2 (o1.tr o2) r3)) h1⟩
  | _ => exact False.elim h1
theorem z_tm (hl : LndM X.K rm r) (hm : MtR X id rm) (slot : Slot "str" name id) (hty : typeOf (.builtin id) = pure (.type "method_descriptor")) (pa : PlainAttrs "str") (ho : PEZ X W o to) (ha : PAZ X W (e :: es) ta)
    (hbase : attributeBase o name X.env (eval o X.env) = eval o X.env := by rfl)
    (hfew : ((backTo pos (starEach (e :: es) X.env)).all (fun x => !x.1) && (backToKw pos (keywordEach [] X.env)).all (fun x => x.1.isSome)
      && decide ((e :: es).length + ([] : List Keyword).length + (if ([] : List Keyword).isEmpty then 0 else 1) < 30)) = true := by rfl)
    (hline : (apos.endLine == pos.line) = true := by rfl) (hs : starEach (e :: es) X.env = (false, eval e X.env) :: starEach es X.env := by rfl) (hpl : (backTo pos (starEach es X.env)).any (·.1) = false := by rfl) :
    PEZ X W (.Call (.Attribute o name apos) (e :: es) [] pos) (zM r to ta) :=
  ⟨zM_mo hl ho ha, fun Z ex tk => peI (pe_bm pa slot hty hm (ho.run Z ex tk) (ha.run Z ex tk) hbase hfew hline hs hpl) fun σ H Q h => zM_core hl ho ha h⟩
end
/-! index, count, join -/
def TxI (a b : Str) (i : Nat) : Prop := ∃ rest, Builtin.Str.occurrences a b 0 a.length 1 = i :: rest
def idxD (a : Str) (l : List D) (q : D → Prop) : Prop := match l with | [.str b] => ∃ i : Nat, TxI a b i ∧ q (.int i) | _ => False
def cntD (a : Str) (l : List D) (q : D → Prop) : Prop := match l with | [.str b] => q (.int (Txt.count a b)) | _ => False
/-- a list of texts -/
def Txs (l : List D) (ys : List Str) : Prop := l = ys.map D.str
def joinD (a : Str) (l : List D) (q : D → Prop) : Prop := match l with | [.lst l] => ∃ ys : List Str, Txs l ys ∧ (ys.map (·.length)).sum + ys.length * a.length ≤ 16777216 ∧ q (.str (Txt.join a ys)) | _ => False
section
variable {K : PySem.W.Frag}
theorem one_repM {G : Hp} {vs : List V} {d : D} (r : RepL K G vs [d]) : ∃ v, vs = [v] ∧ Rep K G v d := by
  cases r with
  | cons a b => cases b; exact ⟨_, rfl, a⟩
theorem lm_idx : LndM K (fun x xs H Q => ∃ a b i rest, x = .str a ∧ xs = [.str b] ∧ Builtin.Str.occurrences a b 0 a.length 1 = i :: rest ∧ Q (.int (i : Nat)) H) idxD where
  mo := fun {a l q q'} k h => by
    unfold idxD at h ⊢
    split at h
    · obtain ⟨i, h1, h2⟩ := h; exact ⟨i, h1, k _ h2⟩
    · exact h.elim
  go := fun H G a vs l q Q e r h k => by
    unfold idxD at h
    split at h
    · rename_i b
      obtain ⟨i, ⟨rest, ho⟩, hq⟩ := h
      obtain ⟨v, rfl, rv⟩ := one_repM r
      cases rv
      exact ⟨a, b, i, rest, rfl, rfl, ho, k _ _ hq (.int _)⟩
    · exact h.elim
theorem lm_cnt : LndM K (fun x xs H Q => ∃ a b, x = .str a ∧ xs = [.str b] ∧ Q (.int (Txt.count a b)) H) cntD where
  mo := fun {a l q q'} k h => by
    unfold cntD at h ⊢
    split at h
    · exact k _ h
    · exact h.elim
  go := fun H G a vs l q Q e r h k => by
    unfold cntD at h
    split at h
    · rename_i b
      obtain ⟨v, rfl, rv⟩ := one_repM r
      cases rv
      exact ⟨a, b, rfl, rfl, k _ _ h (.int _)⟩
    · exact h.elim
theorem lm_join : LndM K (fun x xs H Q => ∃ a p, ∃ ys : List Str, x = .str a ∧ xs = [.ref p] ∧ (SqL K H p (ys.map V.str) ∨ SqT K H p (ys.map V.str)) ∧
    (ys.map (·.length)).sum + ys.length * a.length ≤ 16777216 ∧ Q (.str (Txt.join a ys)) H) joinD where
  mo := fun {a l q q'} k h => by
    unfold joinD at h ⊢
    split at h
    · obtain ⟨ys, h1, h2, h3⟩ := h; exact ⟨ys, h1, h2, k _ h3⟩
    · exact h.elim
  go := fun H G a vs l q Q e r h k => by
    unfold joinD at h
    split at h
    · rename_i l'
      obtain ⟨ys, rfl, hz, hq⟩ := h
      obtain ⟨v, rfl, rv⟩ := one_repM r
      cases rv with
      | @lst p us _ s r =>
        have e2 := RepL.strs (ns := ys) r
        rw [e2] at s
        exact ⟨a, p, ys, rfl, rfl, .inl (sqLE e (.inl (.inl s))), hz, k _ _ hq (.str _)⟩
    · exact h.elim
end
section
variable {X : Cx} {W : Wp ω} {apos pos : Pos} {o e : Expr} {to : TEZ ω} {ta : TAZ ω}
theorem z_tidx (ho : PEZ X W o to) (ha : PAZ X W [e] ta) (hbase : attributeBase o "index" X.env (eval o X.env) = eval o X.env := by rfl)
    (hfew : ((backTo pos (starEach [e] X.env)).all (fun x => !x.1) && (backToKw pos (keywordEach [] X.env)).all (fun x => x.1.isSome) && decide ([e].length + ([] : List Keyword).length + (if ([] : List Keyword).isEmpty then 0 else 1) < 30)) = true := by rfl)
    (hline : (apos.endLine == pos.line) = true := by rfl) (hs : starEach [e] X.env = (false, eval e X.env) :: starEach [] X.env := by rfl) (hpl : (backTo pos (starEach [] X.env)).any (·.1) = false := by rfl) : PEZ X W (.Call (.Attribute o "index" apos) [e] [] pos) (zM idxD to ta) :=
  z_tm lm_idx mt_sindex F.slot_str_index F.type_str_index F.plainAttrs_str ho ha hbase hfew hline hs hpl
theorem z_tcnt (ho : PEZ X W o to) (ha : PAZ X W [e] ta) (hbase : attributeBase o "count" X.env (eval o X.env) = eval o X.env := by rfl)
    (hfew : ((backTo pos (starEach [e] X.env)).all (fun x => !x.1) && (backToKw pos (keywordEach [] X.env)).all (fun x => x.1.isSome) && decide ([e].length + ([] : List Keyword).length + (if ([] : List Keyword).isEmpty then 0 else 1) < 30)) = true := by rfl)
    (hline : (apos.endLine == pos.line) = true := by rfl) (hs : starEach [e] X.env = (false, eval e X.env) :: starEach [] X.env := by rfl) (hpl : (backTo pos (starEach [] X.env)).any (·.1) = false := by rfl) : PEZ X W (.Call (.Attribute o "count" apos) [e] [] pos) (zM cntD to ta) :=
  z_tm lm_cnt mt_count F.slot_str_count F.type_str_count F.plainAttrs_str ho ha hbase hfew hline hs hpl
theorem z_tjoin (ho : PEZ X W o to) (ha : PAZ X W [e] ta) (hbase : attributeBase o "join" X.env (eval o X.env) = eval o X.env := by rfl)
    (hfew : ((backTo pos (starEach [e] X.env)).all (fun x => !x.1) && (backToKw pos (keywordEach [] X.env)).all (fun x => x.1.isSome) && decide ([e].length + ([] : List Keyword).length + (if ([] : List Keyword).isEmpty then 0 else 1) < 30)) = true := by rfl)
    (hline : (apos.endLine == pos.line) = true := by rfl) (hs : starEach [e] X.env = (false, eval e X.env) :: starEach [] X.env := by rfl) (hpl : (backTo pos (starEach [] X.env)).any (·.1) = false := by rfl) : PEZ X W (.Call (.Attribute o "join" apos) [e] [] pos) (zM joinD to ta) :=
  z_tm lm_join mt_join F.slot_str_join F.type_str_join F.plainAttrs_str ho ha hbase hfew hline hs hpl
end
end Z

namespace Z
open PySem PySem.Spec PyProof.Rows L2 TL
variable {ω : Type}
/-! ### one sign in a text -/
def inS1 : OpD := fun x y q => match x, y with | .str x, .str z => ∃ c, x = ⟨#[c]⟩ ∧ q (.bl (decide (c ∈ z.cps.toList))) | _, _ => False
def notInS1 : OpD := fun x y q => match x, y with | .str x, .str z => ∃ c, x = ⟨#[c]⟩ ∧ q (.bl (!decide (c ∈ z.cps.toList))) | _, _ => False
section
variable {K : PySem.W.Frag}
theorem l_inS1 : Lnd K (fun x y H Q => ∃ (c : Nat) (z : Str), x = .str ⟨#[c]⟩ ∧ y = .str z ∧ Q (.bl (decide (c ∈ z.cps.toList))) H) inS1 where
  mo := fun {x y q q'} k h => by
    unfold inS1 at h ⊢
    split at h
    · obtain ⟨c, h1, h2⟩ := h; exact ⟨c, h1, k _ h2⟩
    · exact h.elim
  go := fun H G x y dx dy q Q e rx ry h k _ => by
    unfold inS1 at h
    split at h
    · obtain ⟨c, rfl, h2⟩ := h
      cases rx; cases ry
      exact ⟨c, _, rfl, rfl, k _ _ h2 (.bl _)⟩
    · exact h.elim
theorem l_notInS1 : Lnd K (fun x y H Q => ∃ (c : Nat) (z : Str), x = .str ⟨#[c]⟩ ∧ y = .str z ∧ Q (.bl (!decide (c ∈ z.cps.toList))) H) notInS1 where
  mo := fun {x y q q'} k h => by
    unfold notInS1 at h ⊢
    split at h
    · obtain ⟨c, h1, h2⟩ := h; exact ⟨c, h1, k _ h2⟩
    · exact h.elim
  go := fun H G x y dx dy q Q e rx ry h k _ => by
    unfold notInS1 at h
    split at h
    · obtain ⟨c, rfl, h2⟩ := h
      cases rx; cases ry
      exact ⟨c, _, rfl, rfl, k _ _ h2 (.bl _)⟩
    · exact h.elim
end
/-! ### split -/
def zSplit (to : TEZ ω) (ta : TAZ ω) : TAZ ω := fun δ w Q E => to δ w (fun x w1 => match x with
  | .str a => ta δ w1 (fun l w2 => match l with | [.str b] => ((b.length == 0) = false ∧ a.length ≤ 1000000) ∧ Q ((Txt.split a b).map D.str) w2 | _ => False) E
  | _ => False) E
theorem repL_str {K : PySem.W.Frag} {G : Hp} : ∀ ys : List Str, RepL K G (ys.map V.str) (ys.map D.str) := RepL.ofStrs
section
variable {X : Cx} {W : Wp ω} {apos pos : Pos} {o e : Expr} {to : TEZ ω} {ta : TAZ ω}
theorem zsplit_mo (ho : PEZ X W o to) (ha : PAZ X W [e] ta) : Mo (zSplit to ta) := fun k h => ho.mo (fun x w1 h1 => by
  cases x with
  | str a => exact ha.mo (fun l w2 h2 => by
      split at h2
      · exact ⟨h2.1, k _ _ h2.2⟩
      · exact h2.elim) h1
  | _ => exact False.elim h1) h
theorem z_tsplit (ho : PEZ X W o to) (ha : PAZ X W [e] ta) (hbase : attributeBase o "split" X.env (eval o X.env) = eval o X.env := by rfl)
    (hfew : ((backTo pos (starEach [e] X.env)).all (fun x => !x.1) && (backToKw pos (keywordEach [] X.env)).all (fun x => x.1.isSome) && decide ([e].length + ([] : List Keyword).length + (if ([] : List Keyword).isEmpty then 0 else 1) < 30)) = true := by rfl)
    (hline : (apos.endLine == pos.line) = true := by rfl) (hs : starEach [e] X.env = (false, eval e X.env) :: starEach [] X.env := by rfl) (hpl : (backTo pos (starEach [] X.env)).any (·.1) = false := by rfl) : PFZ X W (.Call (.Attribute o "split" apos) [e] [] pos) (zSplit to ta) :=
  ⟨zsplit_mo ho ha, fun Z ex tk => peI (pe_bm F.plainAttrs_str F.slot_str_split F.type_str_split mt_split (ho.run Z ex tk) (ha.run Z ex tk) hbase hfew hline hs hpl) fun σ H Q ⟨G, M, δ, w, a0, h⟩ => by
    refine ⟨G, M, δ, w, a0, ho.mo (fun d w1 h1 v H1 G1 M1 o1 r1 => ?_) h⟩
    cases d with
    | str a =>
      cases r1
      refine ⟨rfl, G1, M1, δ, w1, a0.go o1, ha.mo (fun l w2 h2 vs H2 G2 M2 o2 r2 => ?_) h1⟩
      split at h2
      · rename_i b
        obtain ⟨v, rfl, rv⟩ := one_repM r2
        cases rv
        exact ⟨a, b, rfl, rfl, h2.1.1, by rw [sizeLine_eq]; omega, fun p hp => h2.2 p _ _ _ _ ((o1.tr o2).laid hp) (RepL.ofStrs _) (.of (o1.tr o2) a0.pt.mh hp)⟩
      · exact h2.elim
    | _ => exact False.elim h1⟩
end
/-! ### parts of a text -/
theorem tl_cut0 (z : Str) : tl (cutS z none (some 1)) = (tl z).take 1 := by
  have e : HT.sIx z.length z.length (some 1) = min 1 z.length := HT.sIx_nat z.length z.length 1
  unfold cutS
  rw [e]
  show ((tl z).drop 0).take (min 1 z.length - 0) = _
  rw [List.drop_zero, Nat.sub_zero, len_tl]
  cases tl z with
  | nil => rfl
  | cons c r => rw [List.length_cons, show min 1 (r.length + 1) = 1 by omega]
theorem tl_cut1 (z : Str) : tl (cutS z (some 1) none) = (tl z).drop 1 := by
  have e : HT.sIx z.length 0 (some 1) = min 1 z.length := HT.sIx_nat z.length 0 1
  unfold cutS
  rw [e]
  show ((tl z).drop (min 1 z.length)).take (z.length - min 1 z.length) = _
  rw [len_tl]
  cases tl z with
  | nil => rfl
  | cons c r =>
    rw [List.length_cons, show min 1 (r.length + 1) = 1 by omega]
    show List.take (r.length + 1 - 1) r = r
    exact List.take_of_length_le (by omega)
/-! ### the text of a whole number -/
def tx (i : Int) : Str := Str.ofString (toString i)
/-- its figures -/
def fg (i : Int) : Str := ⟨(numL i.natAbs).toArray⟩
theorem tl_fg (i : Int) : tl (fg i) = numL i.natAbs := rfl
theorem tx_nn {i : Int} (h : 0 ≤ i) : tx i = fg i := ext_tl (by
  obtain ⟨n, rfl⟩ := Int.eq_ofNat_of_zero_le h
  exact tl_num n)
theorem tl_tx_neg {i : Int} (h : i < 0) : tl (tx i) = 45 :: numL i.natAbs := by
  unfold tx
  rw [PyProof.Rows.toString_neg h, tl_ofString, String.toList_append, List.map_append]
  have e : (0 - i) = ((i.natAbs : Nat) : Int) := by omega
  have e2 := tl_num i.natAbs
  rw [tl_ofString] at e2
  rw [e, e2]
  rfl
theorem tx_cut0 (i : Int) : cutS (tx i) none (some 1) = Str.ofString "-" ↔ i < 0 := by
  constructor
  · intro h
    refine Int.lt_of_not_ge fun c => ?_
    have e := congrArg tl h
    rw [tl_cut0, tx_nn c, tl_fg] at e
    have e : (numL i.natAbs).take 1 = [45] := e
    have hm : 45 ∈ numL i.natAbs := List.mem_of_mem_take (by rw [e]; exact List.mem_singleton.mpr rfl)
    exact numL_free (by decide) hm
  · intro h
    refine ext_tl ?_
    rw [tl_cut0, tl_tx_neg h]
    rfl
theorem tx_cut1 {i : Int} (h : i < 0) : cutS (tx i) (some 1) none = fg i := ext_tl (by rw [tl_cut1, tl_tx_neg h]; rfl)
theorem numL_len2 {n k : Nat} (h : n < 2 ^ (3 * k)) (hk : 0 < k) : (numL n).length ≤ k := numL_len hk (Nat.lt_of_lt_of_le h (by
  rw [Nat.pow_mul]
  exact Nat.pow_le_pow_left (by decide) k))
theorem fg_len {i : Int} (h : Sm 1900 i) : (numL i.natAbs).length ≤ 634 := numL_len2 (Nat.lt_of_lt_of_le h (Nat.pow_le_pow_right (by decide) (by decide))) (by decide)
theorem tx_length {i : Int} (h : Sm 1900 i) : (tx i).length ≤ 635 := by
  have := fg_len h
  rw [len_tl]
  by_cases c : i < 0
  · rw [tl_tx_neg c, List.length_cons]; omega
  · rw [tx_nn (by omega), tl_fg]; omega
theorem tx_int {i : Int} (h : Sm 1900 i) : PySem.intText? (tx i) = some i := by
  have hl := fg_len h
  by_cases c : i < 0
  · have e := intText_neg (x := tx i) (cs := numL i.natAbs) (tl_tx_neg c) (numL_digits _) (numL_ne _) (by have := tx_length h; omega)
    rw [numL_val] at e
    rw [e, show -((i.natAbs : Nat) : Int) = i by omega]
  · have e := int_num (n := i.natAbs) (by omega)
    rw [show ((i.natAbs : Nat) : Int) = i by omega] at e
    exact e
theorem fg_ne (i : Int) : fg i ≠ Str.ofString "" := fun h => numL_ne i.natAbs (congrArg tl h)
theorem numL_head : ∀ (n : Nat), ∃ c r, numL n = c :: r ∧ (c = 48 → n = 0) := by
  intro n
  induction n using Nat.strongRecOn with
  | _ n ih =>
    by_cases h : n < 10
    · exact ⟨48 + n, [], numL_lt h, fun e => by omega⟩
    · obtain ⟨c, r, e1, e2⟩ := ih (n / 10) (by omega)
      refine ⟨c, r ++ [48 + n % 10], by rw [numL_step (by omega), e1]; rfl, fun e => ?_⟩
      have := e2 e
      omega
theorem fg_at (i : Int) : ∃ c, atI (fg i).cps.toList 0 = some c ∧ (c = 48 → i = 0) := by
  obtain ⟨c, r, e1, e2⟩ := numL_head i.natAbs
  refine ⟨c, ?_, fun e => by have := e2 e; omega⟩
  show atI (numL i.natAbs) 0 = some c
  rw [e1]
  unfold atI ixN
  rw [if_pos (Int.le_refl 0), if_pos (by rw [List.length_cons]; omega)]
  rfl
theorem tx_free {i : Int} {c : Nat} (h : c ≠ 45 ∧ (c < 48 ∨ 57 < c)) : c ∉ tl (tx i) := PyProof.Rows.int_text_free' c h i
/-- texts of whole numbers, put together by blanks and split again -/
theorem split_nums {is : List Int} (h : is ≠ []) : Txt.split (Txt.join (Str.ofString " ") (is.map tx)) (Str.ofString " ") = is.map tx :=
  split_join (s := 32) (S := []) rfl (by decide +kernel) (fun e => h (List.map_eq_nil_iff.mp e)) fun p hp => by
    obtain ⟨i, _, rfl⟩ := List.mem_map.mp hp
    exact tx_free ⟨by decide, by decide⟩
end Z

namespace Z
open PySem
/-! ### squares of parts, places times parts, and of rests -/
def JS (a b m : Int) (n : Nat) : Int := sumZ (fun i => (i : Int) * ((a * (i : Int) + b) / m)) n
def QS (a b m : Int) (n : Nat) : Int := sumZ (fun i => ((a * (i : Int) + b) / m) * ((a * (i : Int) + b) / m)) n
def PR (a b m : Int) (n : Nat) : Int := sumZ (fun i => (i : Int) * ((a * (i : Int) + b) % m)) n
def QR (a b m : Int) (n : Nat) : Int := sumZ (fun i => ((a * (i : Int) + b) % m) * ((a * (i : Int) + b) % m)) n
/-- the sum of the places' squares -/
def sqs (n : Int) : Int := n * (n - 1) * (2 * n - 1) / 6
theorem sumZ_sq6 : ∀ n : Nat, 6 * sumZ (fun i => (i : Int) * (i : Int)) n = (n : Int) * ((n : Int) - 1) * (2 * (n : Int) - 1)
  | 0 => rfl
  | n + 1 => by
    have ih := sumZ_sq6 n
    show 6 * (sumZ (fun i => (i : Int) * (i : Int)) n + (n : Int) * (n : Int)) = ((n + 1 : Nat) : Int) * (((n + 1 : Nat) : Int) - 1) * (2 * ((n + 1 : Nat) : Int) - 1)
    rw [show ((n + 1 : Nat) : Int) = (n : Int) + 1 by omega]
    generalize (n : Int) = x at *
    grind
theorem sumZ_sq (n : Nat) : sumZ (fun i => (i : Int) * (i : Int)) n = sqs n := by
  unfold sqs
  rw [← sumZ_sq6, Int.mul_ediv_cancel_left _ (by decide)]
theorem sqs_six (n : Nat) : 6 * sqs n = (n : Int) * ((n : Int) - 1) * (2 * (n : Int) - 1) := by rw [← sumZ_sq, sumZ_sq6]
theorem part_laid {m : Int} (hm : 0 < m) (a b i : Int) : (a * i + b) / m = a / m * i + b / m + (a % m * i + b % m) / m := by
  have ha := Int.mul_ediv_add_emod a m
  have hb := Int.mul_ediv_add_emod b m
  have e : a * i + b = (a % m * i + b % m) + m * (a / m * i + b / m) := by
    generalize a / m = x at *
    generalize b / m = y at *
    generalize a % m = z at *
    generalize b % m = u at *
    subst ha hb
    grind
  rw [e, Int.add_mul_ediv_left _ _ (by omega : m ≠ 0)]
  omega
theorem sumZ_lin (c d e : Int) (f g h : Nat → Int) (n : Nat) : sumZ (fun i => c * f i + d * g i + e * h i) n = c * sumZ f n + d * sumZ g n + e * sumZ h n := by
  rw [sumZ_add (fun i => c * f i + d * g i) (fun i => e * h i), sumZ_add (fun i => c * f i), sumZ_mul, sumZ_mul, sumZ_mul]
theorem sumZ_nat (n : Nat) : sumZ (fun _ => 1) n = n := by rw [sumZ_const]; omega
theorem PS_laid {m : Int} (hm : 0 < m) (a b : Int) (n : Nat) : JS a b m n = a / m * sqs n + b / m * tri n + JS (a % m) (b % m) m n := by
  unfold JS
  have e := sumZ_lin (a / m) (b / m) 1 (fun i => (i : Int) * (i : Int)) (fun i => (i : Int)) (fun i => (i : Int) * ((a % m * (i : Int) + b % m) / m)) n
  rw [sumZ_sq, sumZ_id, Int.one_mul] at e
  rw [← e]
  refine sumZ_congr n fun i _ => ?_
  rw [part_laid hm a b i]
  grind
theorem QS_laid {m : Int} (hm : 0 < m) (a b : Int) (n : Nat) : QS a b m n = (a / m * (a / m) * sqs n + 2 * (a / m) * (b / m) * tri n + b / m * (b / m) * n) + 2 * (a / m) * JS (a % m) (b % m) m n + 2 * (b / m) * FS (a % m) (b % m) m n + QS (a % m) (b % m) m n := by
  unfold JS QS FS
  have e := sumZ_lin (a / m * (a / m)) (2 * (a / m) * (b / m)) (b / m * (b / m)) (fun i => (i : Int) * (i : Int)) (fun i => (i : Int)) (fun _ => 1) n
  have e2 := sumZ_lin (2 * (a / m)) (2 * (b / m)) 1 (fun i => (i : Int) * ((a % m * (i : Int) + b % m) / m)) (fun i => ((a % m * (i : Int) + b % m) / m)) (fun i => ((a % m * (i : Int) + b % m) / m) * ((a % m * (i : Int) + b % m) / m)) n
  rw [sumZ_sq, sumZ_id, sumZ_nat] at e
  rw [Int.one_mul] at e2
  rw [← e, Int.add_assoc, Int.add_assoc, ← Int.add_assoc (2 * (a / m) * _), ← e2, ← sumZ_add]
  refine sumZ_congr n fun i _ => ?_
  rw [part_laid hm a b i]
  grind
/-- a line and its turned one -/
theorem PQ_turn {a b m : Int} (ha : 0 < a) (hm : a < m) (hb : 0 ≤ b) (hb2 : b < m) : ∀ n : Nat,
    2 * JS a b m n = (2 * (n : Int) - 1) * FS m ((a * n + b) % m) a ((a * n + b) / m).toNat - QS m ((a * n + b) % m) a ((a * n + b) / m).toNat ∧
    QS a b m n = (2 * ((a * n + b) / m) - 1) * FS m ((a * n + b) % m) a ((a * n + b) / m).toNat - 2 * JS m ((a * n + b) % m) a ((a * n + b) / m).toNat
  | 0 => by
    have e : (a * ((0 : Nat) : Int) + b) / m = 0 := by simp; exact Int.ediv_eq_zero_of_lt hb hb2
    rw [e]
    show 2 * (0 : Int) = (2 * ((0 : Nat) : Int) - 1) * 0 - 0 ∧ (0 : Int) = (2 * 0 - 1) * 0 - 2 * 0
    decide
  | n + 1 => by
    have ih := PQ_turn ha hm hb hb2 n
    have hN : 0 ≤ (a * (n : Int) + b) / m := Int.ediv_nonneg (Int.add_nonneg (Int.mul_nonneg (by omega) (by omega)) hb) (by omega)
    have e0 : JS a b m (n + 1) = JS a b m n + (n : Int) * ((a * (n : Int) + b) / m) := rfl
    have e00 : QS a b m (n + 1) = QS a b m n + ((a * (n : Int) + b) / m) * ((a * (n : Int) + b) / m) := rfl
    have r0 := Int.emod_nonneg (a * (n : Int) + b) (show m ≠ 0 by omega)
    have r1 := Int.emod_lt_of_pos (a * (n : Int) + b) (show 0 < m by omega)
    have hd := Int.mul_ediv_add_emod (a * (n : Int) + b) m
    have e1 : a * ((n + 1 : Nat) : Int) + b = (a * (n : Int) + b) + a := by rw [Int.natCast_add, Int.mul_add]; simp; omega
    rw [e0, e00, e1]
    generalize JS a b m n = p0 at *
    generalize QS a b m n = q0 at *
    generalize hq : (a * (n : Int) + b) / m = q at *
    generalize hr : (a * (n : Int) + b) % m = r at *
    generalize a * (n : Int) + b = t at *
    obtain ⟨k, rfl⟩ : ∃ k : Nat, q = k := ⟨q.toNat, by omega⟩
    rw [Int.toNat_natCast] at ih
    rw [show ((n + 1 : Nat) : Int) = (n : Int) + 1 by omega]
    by_cases c : r + a < m
    · have d1 : (t + a) / m = k := by rw [← hd, Int.add_assoc, Int.mul_add_ediv_left _ _ (by omega : m ≠ 0), Int.ediv_eq_zero_of_lt (by omega) c]; omega
      have d2 : (t + a) % m = r + a := by rw [← hd, Int.add_assoc, Int.mul_add_emod_self_left]; exact Int.emod_eq_of_lt (by omega) c
      rw [d1, d2, Int.toNat_natCast]
      have st : ∀ i : Nat, (m * (i : Int) + (r + a)) / a = (m * (i : Int) + r) / a + 1 := fun i => by
        rw [show m * (i : Int) + (r + a) = m * (i : Int) + r + a * 1 by omega, Int.add_mul_ediv_left _ _ (by omega : a ≠ 0)]
      have f1 : FS m (r + a) a k = FS m r a k + k := by
        unfold FS
        rw [← sumZ_nat, ← sumZ_add]
        exact sumZ_congr k fun i _ => st i
      have f2 : JS m (r + a) a k = JS m r a k + tri k := by
        unfold JS
        rw [← sumZ_id, ← sumZ_add]
        exact sumZ_congr k fun i _ => by rw [st i]; grind
      have f3 : QS m (r + a) a k = QS m r a k + 2 * FS m r a k + k := by
        have := sumZ_lin 1 2 1 (fun i => (m * (i : Int) + r) / a * ((m * (i : Int) + r) / a)) (fun i => (m * (i : Int) + r) / a) (fun _ => 1) k
        rw [sumZ_nat, Int.one_mul, Int.one_mul, Int.one_mul] at this
        unfold QS FS
        rw [← this]
        exact sumZ_congr k fun i _ => by rw [st i]; grind
      have t2 := tri_two (k : Int)
      rw [f1, f2, f3]
      generalize FS m r a k = x1 at *
      generalize JS m r a k = x2 at *
      generalize QS m r a k = x3 at *
      generalize tri (k : Int) = x4 at *
      generalize (k : Int) = x5 at *
      generalize (n : Int) = x6 at *
      obtain ⟨i1, i2⟩ := ih
      constructor <;> grind
    · have d1 : (t + a) / m = k + 1 := by rw [← hd, show m * (k : Int) + r + a = (r + a - m) + m * ((k : Int) + 1) by rw [Int.mul_add]; omega, Int.add_mul_ediv_left _ _ (by omega : m ≠ 0), Int.ediv_eq_zero_of_lt (by omega) (by omega)]; omega
      have d2 : (t + a) % m = r + a - m := by rw [← hd, show m * (k : Int) + r + a = (r + a - m) + m * ((k : Int) + 1) by rw [Int.mul_add]; omega, Int.add_mul_emod_self_left]; exact Int.emod_eq_of_lt (by omega) (by omega)
      rw [d1, d2, show ((k : Int) + 1).toNat = k + 1 by omega]
      have z : (m * ((0 : Nat) : Int) + (r + a - m)) / a = 0 := by simp; exact Int.ediv_eq_zero_of_lt (by omega) (by omega)
      have st : ∀ i : Nat, (m * ((i + 1 : Nat) : Int) + (r + a - m)) / a = (m * (i : Int) + r) / a + 1 := fun i => by
        rw [show m * ((i + 1 : Nat) : Int) + (r + a - m) = m * (i : Int) + r + a * 1 by rw [Int.natCast_add, Int.mul_add]; simp; omega, Int.add_mul_ediv_left _ _ (by omega : a ≠ 0)]
      have f1 : FS m (r + a - m) a (k + 1) = FS m r a k + k := by
        unfold FS
        rw [sumZ_first, z, Int.zero_add, ← sumZ_nat, ← sumZ_add]
        exact sumZ_congr k fun i _ => st i
      have f2 : JS m (r + a - m) a (k + 1) = JS m r a k + FS m r a k + tri k + k := by
        unfold JS FS
        rw [sumZ_first, z, Int.mul_zero, Int.zero_add, ← sumZ_id, ← sumZ_nat, ← sumZ_add, ← sumZ_add, ← sumZ_add]
        exact sumZ_congr k fun i _ => by rw [st i, show ((i + 1 : Nat) : Int) = (i : Int) + 1 by omega]; grind
      have f3 : QS m (r + a - m) a (k + 1) = QS m r a k + 2 * FS m r a k + k := by
        have := sumZ_lin 1 2 1 (fun i => (m * (i : Int) + r) / a * ((m * (i : Int) + r) / a)) (fun i => (m * (i : Int) + r) / a) (fun _ => 1) k
        rw [sumZ_nat, Int.one_mul, Int.one_mul, Int.one_mul] at this
        unfold QS FS
        rw [sumZ_first, z, Int.mul_zero, Int.zero_add, ← this]
        exact sumZ_congr k fun i _ => by rw [st i]; grind
      have t2 := tri_two (k : Int)
      rw [f1, f2, f3]
      generalize FS m r a k = x1 at *
      generalize JS m r a k = x2 at *
      generalize QS m r a k = x3 at *
      generalize tri (k : Int) = x4 at *
      generalize (k : Int) = x5 at *
      generalize (n : Int) = x6 at *
      obtain ⟨i1, i2⟩ := ih
      constructor <;> grind
theorem part_none {a b m : Int} (ha : 0 ≤ a) (hb : 0 ≤ b) (hm : 0 < m) {n : Nat} (h : (a * n + b) / m = 0) {i : Nat} (hi : i < n) : (a * (i : Int) + b) / m = 0 := by
  have h1 : a * (i : Int) ≤ a * (n : Int) := Int.mul_le_mul_of_nonneg_left (by omega) ha
  have h0 : 0 ≤ a * (i : Int) := Int.mul_nonneg ha (by omega)
  have h2 : (a * (i : Int) + b) / m ≤ (a * (n : Int) + b) / m := Int.ediv_le_ediv hm (by omega)
  have h3 : 0 ≤ (a * (i : Int) + b) / m := Int.ediv_nonneg (by omega) (by omega)
  omega
theorem PS_none {a b m : Int} (ha : 0 ≤ a) (hb : 0 ≤ b) (hm : 0 < m) {n : Nat} (h : (a * n + b) / m = 0) : JS a b m n = 0 := sumZ_zero fun i hi => by rw [part_none ha hb hm h hi, Int.mul_zero]
theorem QS_none {a b m : Int} (ha : 0 ≤ a) (hb : 0 ≤ b) (hm : 0 < m) {n : Nat} (h : (a * n + b) / m = 0) : QS a b m n = 0 := sumZ_zero fun i hi => by rw [part_none ha hb hm h hi, Int.mul_zero]
theorem PR_PS (a b m : Int) (n : Nat) : PR a b m n = a * sqs n + b * tri n - m * JS a b m n := by
  unfold PR JS
  have e := sumZ_lin a b (-m) (fun i => (i : Int) * (i : Int)) (fun i => (i : Int)) (fun i => (i : Int) * ((a * (i : Int) + b) / m)) n
  rw [sumZ_sq, sumZ_id] at e
  rw [show a * sqs n + b * tri n - m * sumZ (fun i => (i : Int) * ((a * (i : Int) + b) / m)) n = a * sqs n + b * tri n + -m * sumZ (fun i => (i : Int) * ((a * (i : Int) + b) / m)) n by rw [Int.neg_mul]; omega, ← e]
  refine sumZ_congr n fun i _ => ?_
  have hd := Int.mul_ediv_add_emod (a * (i : Int) + b) m
  generalize (a * (i : Int) + b) / m = x at *
  generalize (a * (i : Int) + b) % m = y at *
  rw [show y = a * (i : Int) + b - m * x by omega]
  grind
theorem QR_QS (a b m : Int) (n : Nat) : QR a b m n = (a * a * sqs n + 2 * a * b * tri n + b * b * n) - 2 * m * (a * JS a b m n + b * FS a b m n) + m * m * QS a b m n := by
  unfold QR JS FS QS
  have e := sumZ_lin (a * a) (2 * a * b) (b * b) (fun i => (i : Int) * (i : Int)) (fun i => (i : Int)) (fun _ => 1) n
  have e2 := sumZ_lin (-(2 * m * a)) (-(2 * m * b)) (m * m) (fun i => (i : Int) * ((a * (i : Int) + b) / m)) (fun i => ((a * (i : Int) + b) / m)) (fun i => ((a * (i : Int) + b) / m) * ((a * (i : Int) + b) / m)) n
  rw [sumZ_sq, sumZ_id, sumZ_nat] at e
  have e3 : sumZ (fun i => ((a * (i : Int) + b) % m) * ((a * (i : Int) + b) % m)) n = sumZ (fun i => (a * a * ((i : Int) * (i : Int)) + 2 * a * b * (i : Int) + b * b * 1) + (-(2 * m * a) * ((i : Int) * ((a * (i : Int) + b) / m)) + -(2 * m * b) * ((a * (i : Int) + b) / m) + m * m * ((a * (i : Int) + b) / m * ((a * (i : Int) + b) / m)))) n := by
    refine sumZ_congr n fun i _ => ?_
    have hd := Int.mul_ediv_add_emod (a * (i : Int) + b) m
    generalize (a * (i : Int) + b) / m = x at *
    generalize (a * (i : Int) + b) % m = y at *
    rw [show y = a * (i : Int) + b - m * x by omega]
    grind
  rw [e3, sumZ_add, e, e2]
  grind
/-! sizes -/
theorem sumZ_sm {s k : Nat} {f : Nat → Int} : ∀ {n : Nat}, (∀ i, i < n → Sm s (f i)) → n ≤ 2 ^ k → Sm (s + k) (sumZ f n) := by
  have key : ∀ n : Nat, (∀ i, i < n → Sm s (f i)) → (sumZ f n).natAbs ≤ n * (2 ^ s - 1) := by
    intro n
    induction n with
    | zero => intro _; show (0 : Int).natAbs ≤ _; simp
    | succ n ih =>
      intro h
      have h1 := ih fun i hi => h i (by omega)
      have h2 := h n (by omega)
      unfold Sm at h2
      show (sumZ f n + f n).natAbs ≤ (n + 1) * (2 ^ s - 1)
      rw [Nat.add_mul]
      omega
  intro n h hk
  have h1 := key n h
  unfold Sm
  have p1 := two_pos s
  have p2 := two_pos k
  have h3 : n * (2 ^ s - 1) ≤ 2 ^ k * (2 ^ s - 1) := Nat.mul_le_mul_right _ hk
  have h4 : 2 ^ k * (2 ^ s - 1) < 2 ^ k * 2 ^ s := Nat.mul_lt_mul_of_pos_left (by omega) p2
  rw [Nat.pow_add, Nat.mul_comm]
  omega
theorem part_sm {k : Nat} {a b m n : Int} (hm : 1 ≤ m) (sa : Sm k a) (sb : Sm k b) (sn : Sm k n) {i : Nat} (hi : (i : Int) < n) : Sm (2 * k + 1) ((a * (i : Int) + b) / m) :=
  (Sm.div ((Sm.add (Sm.mul sa (sn.of_le (by omega) (by omega))) sb)) (by omega : 0 < m)).le (by omega)
theorem PS_sm {k : Nat} {a b m n : Int} (hm : 1 ≤ m) (hn : 0 ≤ n) (sa : Sm k a) (sb : Sm k b) (sn : Sm k n) : Sm (4 * k + 1) (JS a b m n.toNat) := by
  refine Sm.le (sumZ_sm (s := k + (2 * k + 1)) (k := k) (fun i hi => Sm.mul (sn.of_le (by omega) (by omega)) (part_sm hm sa sb sn (by omega))) (by unfold Sm at sn; omega)) (by omega)
theorem QS_sm {k : Nat} {a b m n : Int} (hm : 1 ≤ m) (hn : 0 ≤ n) (sa : Sm k a) (sb : Sm k b) (sn : Sm k n) : Sm (5 * k + 2) (QS a b m n.toNat) := by
  refine Sm.le (sumZ_sm (s := (2 * k + 1) + (2 * k + 1)) (k := k) (fun i hi => Sm.mul (part_sm hm sa sb sn (by omega)) (part_sm hm sa sb sn (by omega))) (by unfold Sm at sn; omega)) (by omega)
theorem FS_sm2 {k : Nat} {a b m n : Int} (hm : 1 ≤ m) (hn : 0 ≤ n) (sa : Sm k a) (sb : Sm k b) (sn : Sm k n) : Sm (3 * k + 1) (FS a b m n.toNat) := by
  refine Sm.le (sumZ_sm (s := 2 * k + 1) (k := k) (fun i hi => part_sm hm sa sb sn (by omega)) (by unfold Sm at sn; omega)) (by omega)
theorem sqs_sm {k : Nat} {n : Int} (hn : 0 ≤ n) (sn : Sm k n) : Sm (3 * k) (sqs n) := by
  rw [show n = ((n.toNat : Nat) : Int) by omega, ← sumZ_sq]
  refine Sm.le (sumZ_sm (s := k + k) (k := k) (fun i hi => Sm.mul (sn.of_le (by omega) (by omega)) (sn.of_le (by omega) (by omega))) (by unfold Sm at sn; omega)) (by omega)
/-! the levels of a line -/
structure GoodL (a b m n : Int) : Prop where
  m1 : 1 ≤ m
  n0 : 0 ≤ n
  sa : Sm 2000 a
  sb : Sm 2000 b
  sm : Sm 2000 m
  sn : Sm 2000 n
def lv (n q r k : Int) : D := .tup [.int n, .int q, .int r, .int k]
inductive Chain : Int → Int → Int → Int → List D → Prop
  | last {a b m n : Int} : (a % m * n + b % m) / m = 0 → Chain a b m n [lv n (a / m) (b / m) 0]
  | more {a b m n : Int} {L : List D} : (a % m * n + b % m) / m ≠ 0 → Chain m ((a % m * n + b % m) % m) (a % m) ((a % m * n + b % m) / m) L → Chain a b m n (lv n (a / m) (b / m) ((a % m * n + b % m) / m) :: L)
theorem fs_many' {a b m k : Int} (ha : 0 ≤ a) (ha1 : a < m) (hb : 0 ≤ b) (hb1 : b < m) (hk : 0 ≤ k) : 0 ≤ (a * k + b) / m ∧ (a * k + b) / m ≤ k := by
  have h1 : a * k ≤ (m - 1) * k := Int.mul_le_mul_of_nonneg_right (by omega) hk
  have h0 : 0 ≤ a * k := Int.mul_nonneg ha hk
  refine ⟨Int.ediv_nonneg (by omega) (by omega), ?_⟩
  have h2 : a * k + b < m * (k + 1) := by
    rw [Int.sub_mul] at h1
    rw [Int.mul_add]
    omega
  have := Int.ediv_lt_of_lt_mul (show 0 < m by omega) (by rw [Int.mul_comm]; exact h2)
  omega
theorem GoodL.next {a b m n : Int} (g : GoodL a b m n) (h : (a % m * n + b % m) / m ≠ 0) : 0 < a % m ∧ GoodL m ((a % m * n + b % m) % m) (a % m) ((a % m * n + b % m) / m) := by
  have m1 := g.m1
  have a0 := Int.emod_nonneg a (show m ≠ 0 by omega)
  have a1 := Int.emod_lt_of_pos a (show 0 < m by omega)
  have b0 := Int.emod_nonneg b (show m ≠ 0 by omega)
  have b1 := Int.emod_lt_of_pos b (show 0 < m by omega)
  have r0 := Int.emod_nonneg (a % m * n + b % m) (show m ≠ 0 by omega)
  have r1 := Int.emod_lt_of_pos (a % m * n + b % m) (show 0 < m by omega)
  have f := fs_many' a0 a1 b0 b1 g.n0
  have ap : a % m ≠ 0 := fun z => h (by rw [z, Int.zero_mul, Int.zero_add]; exact Int.ediv_eq_zero_of_lt b0 b1)
  exact ⟨by omega, by omega, f.1, g.sm, g.sm.of_le r0 (by omega), g.sm.of_le a0 (by omega), g.sn.of_le f.1 f.2⟩
theorem Chain.drop {a b m n : Int} {L : List D} (c : Chain a b m n L) : GoodL a b m n → ∀ j, j < L.length → ∃ a1 b1 m1 n1, GoodL a1 b1 m1 n1 ∧ Chain a1 b1 m1 n1 (L.drop j) := by
  induction c with
  | last h => intro g j hj; have : j = 0 := by simpa using hj
              subst this; exact ⟨_, _, _, _, g, .last h⟩
  | more h c ih =>
    intro g j hj
    cases j with
    | zero => exact ⟨_, _, _, _, g, .more h c⟩
    | succ j => exact ih (g.next h).2 j (by simpa using hj)
/-- what one level makes of the sums behind it -/
theorem level_last {a b m n : Int} (g : GoodL a b m n) (h : (a % m * n + b % m) / m = 0) : FS a b m n.toNat = a / m * tri n + b / m * n + 0 ∧ JS a b m n.toNat = a / m * sqs n + b / m * tri n + ((2 * n - 1) * 0 - 0) / 2 ∧
    QS a b m n.toNat = (a / m * (a / m) * sqs n + 2 * (a / m) * (b / m) * tri n + b / m * (b / m) * n) + 2 * (a / m) * (((2 * n - 1) * 0 - 0) / 2) + 2 * (b / m) * 0 + ((2 * 0 - 1) * 0 - 2 * 0) := by
  have m1 := g.m1
  have hm : 0 < m := by omega
  have hn : ((n.toNat : Nat) : Int) = n := by have := g.n0; omega
  have a0 := Int.emod_nonneg a (show m ≠ 0 by omega)
  have a1 := Int.emod_lt_of_pos a hm
  have b0 := Int.emod_nonneg b (show m ≠ 0 by omega)
  have b1 := Int.emod_lt_of_pos b hm
  have h' : (a % m * ((n.toNat : Nat) : Int) + b % m) / m = 0 := by rw [hn]; exact h
  have e1 := FS_laid hm a b n.toNat
  have e2 := PS_laid hm a b n.toNat
  have e3 := QS_laid hm a b n.toNat
  rw [FS_none a0 a1 b0 b1 h', hn] at e1
  rw [PS_none a0 b0 hm h', hn] at e2
  rw [FS_none a0 a1 b0 b1 h', PS_none a0 b0 hm h', QS_none a0 b0 hm h', hn] at e3
  refine ⟨e1, ?_, ?_⟩
  · rw [e2]; omega
  · rw [e3]; simp
theorem level_more {a b m n : Int} (g : GoodL a b m n) (h : (a % m * n + b % m) / m ≠ 0) {s1 s2 s3 k : Int} (hk : k = (a % m * n + b % m) / m) (h1 : s1 = FS m ((a % m * n + b % m) % m) (a % m) k.toNat) (h2 : s2 = JS m ((a % m * n + b % m) % m) (a % m) k.toNat) (h3 : s3 = QS m ((a % m * n + b % m) % m) (a % m) k.toNat) :
    FS a b m n.toNat = a / m * tri n + b / m * n + s1 ∧ JS a b m n.toNat = a / m * sqs n + b / m * tri n + ((2 * n - 1) * s1 - s3) / 2 ∧
    QS a b m n.toNat = (a / m * (a / m) * sqs n + 2 * (a / m) * (b / m) * tri n + b / m * (b / m) * n) + 2 * (a / m) * (((2 * n - 1) * s1 - s3) / 2) + 2 * (b / m) * s1 + ((2 * k - 1) * s1 - 2 * s2) := by
  have m1 := g.m1
  have hm : 0 < m := by omega
  have hn : ((n.toNat : Nat) : Int) = n := by have := g.n0; omega
  have a1 := Int.emod_lt_of_pos a hm
  have b0 := Int.emod_nonneg b (show m ≠ 0 by omega)
  have b1 := Int.emod_lt_of_pos b hm
  have ap := (g.next h).1
  have e1 := FS_laid hm a b n.toNat
  have e2 := PS_laid hm a b n.toNat
  have e3 := QS_laid hm a b n.toNat
  have t1 := FS_turn ap a1 b0 b1 n.toNat
  have t2 := PQ_turn ap a1 b0 b1 n.toNat
  rw [hn] at e1 e2 e3 t1 t2
  rw [← hk, ← h1] at t1
  rw [← hk, ← h1, ← h2, ← h3] at t2
  have p : JS (a % m) (b % m) m n.toNat = ((2 * n - 1) * s1 - s3) / 2 := by omega
  rw [t1] at e1
  rw [p] at e2
  rw [t1, p, t2.2] at e3
  exact ⟨e1, e2, e3⟩
/-- what is known of the sums behind i levels, from the last one on -/
structure Val (L : List D) (i : Nat) (s1 s2 s3 : Int) : Prop where
  z : i = 0 → s1 = 0 ∧ s2 = 0 ∧ s3 = 0
  k1 : Sm 12000 s1
  k2 : Sm 12000 s2
  k3 : Sm 12000 s3
  v : ∀ a b m n, GoodL a b m n → Chain a b m n (L.drop (L.length - i)) → s1 = FS a b m n.toNat ∧ s2 = JS a b m n.toNat ∧ s3 = QS a b m n.toNat
theorem chain_nil {a b m n : Int} (h : Chain a b m n []) : False := by cases h
theorem Val.zero (L : List D) : Val L 0 0 0 0 := ⟨fun _ => ⟨rfl, rfl, rfl⟩, Sm.lit (by decide), Sm.lit (by decide), Sm.lit (by decide), fun a b m n _ c => by
  rw [Nat.sub_zero, List.drop_length] at c; exact (chain_nil c).elim⟩
theorem Val.fin {L : List D} {s1 s2 s3 a b m n : Int} (v : Val L L.length s1 s2 s3) (g : GoodL a b m n) (c : Chain a b m n L) : s1 = FS a b m n.toNat ∧ s2 = JS a b m n.toNat ∧ s3 = QS a b m n.toNat :=
  v.v a b m n g (by rw [Nat.sub_self, List.drop_zero]; exact c)
def lvF (n q r s1 : Int) : Int := q * tri n + r * n + s1
def lvP (n q r s1 s3 : Int) : Int := q * sqs n + r * tri n + ((2 * n - 1) * s1 - s3) / 2
def lvQ (n q r k s1 s2 s3 : Int) : Int := (q * q * sqs n + 2 * q * r * tri n + r * r * n) + 2 * q * (((2 * n - 1) * s1 - s3) / 2) + 2 * r * s1 + ((2 * k - 1) * s1 - 2 * s2)
theorem GoodL.k1 {a b m n : Int} (g : GoodL a b m n) : Sm 12000 (FS a b m n.toNat) := (FS_sm2 g.m1 g.n0 g.sa g.sb g.sn).le (by decide)
theorem GoodL.k2 {a b m n : Int} (g : GoodL a b m n) : Sm 12000 (JS a b m n.toNat) := (PS_sm g.m1 g.n0 g.sa g.sb g.sn).le (by decide)
theorem GoodL.k3 {a b m n : Int} (g : GoodL a b m n) : Sm 12000 (QS a b m n.toNat) := (QS_sm g.m1 g.n0 g.sa g.sb g.sn).le (by decide)
theorem Val.next {L : List D} {i : Nat} {s1 s2 s3 a b m n : Int} {d : D} (g : GoodL a b m n) (c : Chain a b m n L) (h : L.reverse[i]? = some d) (v : Val L i s1 s2 s3) :
    ∃ n q r k, d = lv n q r k ∧ 0 ≤ n ∧ Sm 2000 n ∧ Sm 2000 q ∧ Sm 2000 r ∧ Sm 2000 k ∧ Val L (i + 1) (lvF n q r s1) (lvP n q r s1 s3) (lvQ n q r k s1 s2 s3) := by
  have hi : i < L.length := by
    have := (List.getElem?_eq_some_iff.mp h).1
    rwa [List.length_reverse] at this
  rw [List.getElem?_reverse hi] at h
  have hj : L.drop (L.length - 1 - i) = d :: L.drop (L.length - i) := by
    have hl : L.length - 1 - i < L.length := by omega
    rw [List.drop_eq_getElem_cons hl]
    rw [List.getElem?_eq_getElem hl] at h
    cases h
    rw [show L.length - 1 - i + 1 = L.length - i by omega]
  have key : ∀ a b m n, GoodL a b m n → Chain a b m n (d :: L.drop (L.length - i)) → ∃ k, d = lv n (a / m) (b / m) k ∧ Sm 2000 k ∧
      lvF n (a / m) (b / m) s1 = FS a b m n.toNat ∧ lvP n (a / m) (b / m) s1 s3 = JS a b m n.toNat ∧ lvQ n (a / m) (b / m) k s1 s2 s3 = QS a b m n.toNat := by
    intro a b m n g c
    generalize hR : L.drop (L.length - i) = R at c
    cases c with
    | last hk =>
      have : i = 0 := by
        have := congrArg List.length hR
        rw [List.length_drop] at this
        simp at this
        omega
      obtain ⟨rfl, rfl, rfl⟩ := v.z this
      obtain ⟨e1, e2, e3⟩ := level_last g hk
      exact ⟨0, rfl, Sm.lit (by decide), e1.symm, e2.symm, e3.symm⟩
    | more hk c =>
      obtain ⟨h1, h2, h3⟩ := v.v _ _ _ _ (g.next hk).2 (by rw [hR]; exact c)
      obtain ⟨e1, e2, e3⟩ := level_more g hk rfl h1 h2 h3
      exact ⟨_, rfl, (g.next hk).2.sn, e1.symm, e2.symm, e3.symm⟩
  obtain ⟨a1, b1, m1, n1, g1, c1⟩ := c.drop g (L.length - 1 - i) (by omega)
  rw [hj] at c1
  obtain ⟨k, rfl, sk, e1, e2, e3⟩ := key a1 b1 m1 n1 g1 c1
  have hm : 0 < m1 := by have := g1.m1; omega
  refine ⟨n1, a1 / m1, b1 / m1, k, rfl, g1.n0, g1.sn, g1.sa.div hm, g1.sb.div hm, sk, fun z => by omega, by rw [e1]; exact g1.k1, by rw [e2]; exact g1.k2, by rw [e3]; exact g1.k3, fun a2 b2 m2 n2 g2 c2 => ?_⟩
  rw [show L.length - (i + 1) = L.length - 1 - i by omega, hj] at c2
  obtain ⟨k2, ek, _, f1, f2, f3⟩ := key a2 b2 m2 n2 g2 c2
  unfold lv at ek
  injection ek with ek
  injection ek with q1 ek
  injection ek with q2 ek
  injection ek with q3 ek
  injection ek with q4 ek
  injection q1 with q1
  injection q2 with q2
  injection q3 with q3
  injection q4 with q4
  rw [q1, q2, q3]
  rw [q4]
  exact ⟨f1, f2, f3⟩
theorem rest_sm {k : Nat} {m t : Int} (hm : 1 ≤ m) (sm : Sm k m) : Sm k (t % m) := sm.mod (by omega)
theorem QR_sm {k : Nat} {a b m n : Int} (hm : 1 ≤ m) (hn : 0 ≤ n) (sm : Sm k m) (sn : Sm k n) : Sm (4 * k) (QR a b m n.toNat) := by
  refine Sm.le (sumZ_sm (s := k + k) (k := k) (fun i hi => Sm.mul (rest_sm hm sm) (rest_sm hm sm)) (by unfold Sm at sn; omega)) (by omega)
theorem PR_sm {k : Nat} {a b m n : Int} (hm : 1 ≤ m) (hn : 0 ≤ n) (sm : Sm k m) (sn : Sm k n) : Sm (4 * k) (PR a b m n.toNat) := by
  refine Sm.le (sumZ_sm (s := k + k) (k := k) (fun i hi => Sm.mul (sn.of_le (by omega) (by omega)) (rest_sm hm sm)) (by unfold Sm at sn; omega)) (by omega)
end Z

namespace Z
open PySem
/-! ### the first place within bounds -/
def InM (a m lo hi x : Int) : Prop := lo ≤ a * x % m ∧ a * x % m ≤ hi
structure FstM (a m lo hi x : Int) : Prop where
  x0 : 0 ≤ x
  inn : InM a m lo hi x
  no : ∀ j, 0 ≤ j → j < x → ¬ InM a m lo hi j
def NonM (a m lo hi : Int) : Prop := ∀ j, 0 ≤ j → ¬ InM a m lo hi j
structure OkM (a m lo hi : Int) : Prop where
  a0 : 0 ≤ a
  am : a < m
  l1 : 1 ≤ lo
  lh : lo ≤ hi
  hm : hi < m
theorem FstM.lt {a m lo hi x : Int} (f : FstM a m lo hi x) (hm : 0 < m) : x < m := by
  refine Int.lt_of_not_ge fun c => f.no (x - m) (by omega) (by omega) ?_
  have e : a * (x - m) % m = a * x % m := by rw [Int.mul_sub, Int.sub_eq_add_neg, ← Int.mul_neg, Int.mul_comm a (-m), Int.neg_mul_comm, Int.add_mul_emod_self_left]
  unfold InM
  rw [e]
  exact f.inn
theorem ceil_is {a t : Int} (ha : 0 < a) : t ≤ (t + a - 1) / a * a ∧ (t + a - 1) / a * a < t + a := by
  have hd := Int.mul_ediv_add_emod (t + a - 1) a
  have r0 := Int.emod_nonneg (t + a - 1) (show a ≠ 0 by omega)
  have r1 := Int.emod_lt_of_pos (t + a - 1) ha
  rw [Int.mul_comm] at hd
  omega
theorem ceil_eq {a t x : Int} (ha : 0 < a) (h1 : t ≤ a * x) (h2 : a * x < t + a) : (t + a - 1) / a = x := by
  have e : t + a - 1 = (t + a - 1 - a * x) + a * x := by omega
  rw [e, Int.add_mul_ediv_left _ _ (by omega), Int.ediv_eq_zero_of_lt (by omega) (by omega)]; omega
theorem fm_direct {a m lo hi : Int} (k : OkM a m lo hi) (ha : 0 < a) (h : (lo + a - 1) / a * a ≤ hi) : FstM a m lo hi ((lo + a - 1) / a) := by
  obtain ⟨c1, c2⟩ := ceil_is (t := lo) ha
  obtain ⟨_, h1, h2, h3, h4⟩ := k
  have p0 : 0 ≤ (lo + a - 1) / a := Int.ediv_nonneg (by omega) (by omega)
  generalize (lo + a - 1) / a = p at *
  rw [Int.mul_comm] at c1 c2 h
  refine ⟨p0, ?_, fun j j0 j1 q => ?_⟩
  · unfold InM
    rw [Int.emod_eq_of_lt (by omega) (by omega)]
    exact ⟨c1, h⟩
  · have q0 : 0 ≤ a * j := Int.mul_nonneg (by omega) j0
    have q1 : a * (j + 1) ≤ a * p := Int.mul_le_mul_of_nonneg_left (by omega) (by omega)
    rw [Int.mul_add] at q1
    unfold InM at q
    rw [Int.emod_eq_of_lt q0 (by omega)] at q
    omega
theorem fm_none {m lo hi : Int} (k : OkM 0 m lo hi) : NonM 0 m lo hi := fun j _ h => by
  unfold InM at h
  rw [Int.zero_mul, Int.zero_emod] at h
  have := k.l1
  omega
/-- one level down -/
structure Down (a m lo hi : Int) : Prop where
  ok : OkM (m % a) a ((0 - hi) % a) ((0 - lo) % a)
  up : ∀ y, FstM (m % a) a ((0 - hi) % a) ((0 - lo) % a) y → FstM a m lo hi ((lo + m * y + a - 1) / a)
  none : NonM (m % a) a ((0 - hi) % a) ((0 - lo) % a) → NonM a m lo hi
theorem fm_down {a m lo hi : Int} (k : OkM a m lo hi) (ha : 0 < a) (h : hi < (lo + a - 1) / a * a) : Down a m lo hi := by
  obtain ⟨c1, c2⟩ := ceil_is (t := lo) ha
  obtain ⟨_, h1, h2, h3, h4⟩ := k
  have p0 : 0 < (lo + a - 1) / a := by
    refine Int.lt_of_not_ge fun c => ?_
    have := Int.mul_le_mul_of_nonneg_right c (show 0 ≤ a by omega)
    omega
  generalize (lo + a - 1) / a = p at *
  rw [Int.mul_comm] at c1 c2 h
  -- the bounds seen from below
  have neg : ∀ t, lo ≤ t → t ≤ hi → (0 - t) % a = a * p - t := fun t t1 t2 => by
    rw [show 0 - t = (a * p - t) + a * (-p) by rw [Int.mul_neg]; omega, Int.add_mul_emod_self_left, Int.emod_eq_of_lt (by omega) (by omega)]
  have nh := neg hi h3 (Int.le_refl _)
  have nl := neg lo (Int.le_refl _) h3
  have mod : ∀ y, m % a * y % a = m * y % a := fun y => by
    rw [Int.mul_emod, Int.emod_emod_of_dvd _ (Int.dvd_refl a), ← Int.mul_emod]
  -- from x to y
  have dn : ∀ x, 0 ≤ x → InM a m lo hi x → 0 ≤ a * x / m ∧ InM (m % a) a ((0 - hi) % a) ((0 - lo) % a) (a * x / m) ∧ (lo + m * (a * x / m) + a - 1) / a = x := fun x x0 q => by
    unfold InM at q ⊢
    have hd := Int.mul_ediv_add_emod (a * x) m
    have y0 : 0 ≤ a * x / m := Int.ediv_nonneg (Int.mul_nonneg (by omega) x0) (by omega)
    generalize a * x / m = y at *
    generalize a * x % m = t at *
    refine ⟨y0, ?_, ceil_eq ha (by omega) (by omega)⟩
    have e : m * y % a = a * p - t := by
      rw [show m * y = (a * p - t) + a * (x - p) by rw [Int.mul_sub]; omega, Int.add_mul_emod_self_left, Int.emod_eq_of_lt (by omega) (by omega)]
    rw [mod, e, nh, nl]
    omega
  -- and back
  have up : ∀ y, 0 ≤ y → InM (m % a) a ((0 - hi) % a) ((0 - lo) % a) y → 0 ≤ (lo + m * y + a - 1) / a ∧ InM a m lo hi ((lo + m * y + a - 1) / a) ∧ a * ((lo + m * y + a - 1) / a) / m = y := fun y y0 q => by
    unfold InM at q ⊢
    rw [mod, nh, nl] at q
    have hd := Int.mul_ediv_add_emod (m * y) a
    have my : 0 ≤ m * y := Int.mul_nonneg (by omega) y0
    have k0 : 0 ≤ m * y / a := Int.ediv_nonneg my (by omega)
    generalize m * y / a = k at *
    generalize m * y % a = r at *
    have ex : (lo + m * y + a - 1) / a = k + p := ceil_eq ha (by rw [Int.mul_add]; omega) (by rw [Int.mul_add]; omega)
    rw [ex]
    have e : a * (k + p) = (a * p - r) + m * y := by rw [Int.mul_add]; omega
    refine ⟨by omega, ?_, ?_⟩
    · rw [e, Int.add_mul_emod_self_left, Int.emod_eq_of_lt (by omega) (by omega)]
      omega
    · rw [e, Int.add_mul_ediv_left _ _ (by omega), Int.ediv_eq_zero_of_lt (by omega) (by omega)]; omega
  refine ⟨⟨Int.emod_nonneg _ (by omega), Int.emod_lt_of_pos _ ha, by omega, by omega, by omega⟩, fun y f => ?_, fun f x x0 q => ?_⟩
  · obtain ⟨u1, u2, u3⟩ := up y f.x0 f.inn
    refine ⟨u1, u2, fun j j0 j1 q => ?_⟩
    obtain ⟨d1, d2, d3⟩ := dn j j0 q
    have le : a * j / m ≤ a * ((lo + m * y + a - 1) / a) / m := Int.ediv_le_ediv (by omega) (Int.mul_le_mul_of_nonneg_left (by omega) (by omega))
    rw [u3] at le
    rcases Int.lt_or_eq_of_le le with c | c
    · exact f.no _ d1 c d2
    · rw [c] at d3
      omega
  · obtain ⟨d1, d2, d3⟩ := dn x x0 q
    exact f _ d1 d2
/-- what is told of a multiple -/
def ResM (a m lo hi : Int) (d : D) : Prop := (∃ x, d = .int x ∧ FstM a m lo hi x) ∨ (d = .non ∧ NonM a m lo hi)
def st3 (s e p : Int) : D := .tup [.int s, .int e, .int p]
/-- the levels that were gone down -/
inductive Lvl (a0 m0 l0 h0 : Int) : Int → Int → Int → Int → List D → Prop
  | nil : Lvl a0 m0 l0 h0 a0 m0 l0 h0 []
  | snoc {a m lo hi : Int} {l : List D} : Lvl a0 m0 l0 h0 a m lo hi l → 0 < a → OkM a m lo hi → hi < (lo + a - 1) / a * a → Lvl a0 m0 l0 h0 (m % a) a ((0 - hi) % a) ((0 - lo) % a) (l ++ [st3 a m lo])
section
variable {a0 m0 l0 h0 : Int}
theorem Lvl.le {a m lo hi : Int} {l : List D} (v : Lvl a0 m0 l0 h0 a m lo hi l) : m ≤ m0 := by
  induction v with
  | nil => exact Int.le_refl _
  | snoc v _ k _ ih => have := k.am; omega
theorem Lvl.non {a m lo hi : Int} {l : List D} (v : Lvl a0 m0 l0 h0 a m lo hi l) : NonM a m lo hi → NonM a0 m0 l0 h0 := by
  induction v with
  | nil => exact id
  | snoc v ha k h ih => exact fun f => ih ((fm_down k ha h).none f)
theorem Lvl.last {a1 m1 lo1 hi1 : Int} {l : List D} {d : D} (v : Lvl a0 m0 l0 h0 a1 m1 lo1 hi1 (l ++ [d])) : ∃ a m lo hi, d = st3 a m lo ∧ Lvl a0 m0 l0 h0 a m lo hi l ∧ 0 < a ∧ OkM a m lo hi ∧ hi < (lo + a - 1) / a * a ∧ a1 = m % a ∧ m1 = a ∧ lo1 = (0 - hi) % a ∧ hi1 = (0 - lo) % a := by
  generalize hL : l ++ [d] = L at v
  cases v with
  | nil => simp at hL
  | @snoc a m lo hi l2 v ha k h =>
    have e1 := List.append_inj_left' hL rfl
    have e2 := List.append_inj_right' hL rfl
    injection e2 with e2
    subst e1
    exact ⟨_, _, _, _, e2, v, ha, k, h, rfl, rfl, rfl, rfl⟩
theorem Lvl.empty {a1 m1 lo1 hi1 : Int} (v : Lvl a0 m0 l0 h0 a1 m1 lo1 hi1 []) : a1 = a0 ∧ m1 = m0 ∧ lo1 = l0 ∧ hi1 = h0 := by
  generalize hL : ([] : List D) = L at v
  cases v with
  | nil => exact ⟨rfl, rfl, rfl, rfl⟩
  | snoc _ _ _ _ => simp at hL
end
theorem rev_take {l : List D} {i : Nat} {d : D} (h : l.reverse[i]? = some d) : l.take (l.length - i) = l.take (l.length - (i + 1)) ++ [d] := by
  have hi : i < l.length := by
    have := (List.getElem?_eq_some_iff.mp h).1
    rwa [List.length_reverse] at this
  rw [List.getElem?_reverse hi] at h
  rw [show l.length - i = (l.length - (i + 1)) + 1 by omega, List.take_succ, show l.length - (i + 1) = l.length - 1 - i by omega, h]
  rfl
/-! with a start -/
def InW (a b m lo hi x : Int) : Prop := lo ≤ (a * x + b) % m ∧ (a * x + b) % m ≤ hi
structure Fst (a b m lo hi x : Int) : Prop where
  x0 : 0 ≤ x
  inn : InW a b m lo hi x
  no : ∀ j, 0 ≤ j → j < x → ¬ InW a b m lo hi j
def Non (a b m lo hi : Int) : Prop := ∀ j, 0 ≤ j → ¬ InW a b m lo hi j
def Res (a b m lo hi : Int) (d : D) : Prop := (∃ x, d = .int x ∧ Fst a b m lo hi x) ∨ (d = .non ∧ Non a b m lo hi)
theorem plain_zero {a b m lo hi : Int} (b0 : 0 ≤ b) (bm : b < m) (l0 : 0 ≤ lo) (lh : lo ≤ hi) (hm : hi < m) (h : (lo - b) % m = 0 ∨ (hi - b) % m < (lo - b) % m) : Fst a b m lo hi 0 := by
  refine ⟨Int.le_refl 0, ?_, fun j j0 j1 => by omega⟩
  unfold InW
  rw [Int.mul_zero, Int.zero_add, Int.emod_eq_of_lt b0 bm]
  have e : ∀ t, 0 ≤ t → t < m → (t < b → (t - b) % m = t - b + m) ∧ (b ≤ t → (t - b) % m = t - b) := fun t t0 tm => ⟨fun q => by
    rw [show t - b = (t - b + m) + m * (-1) by omega, Int.add_mul_emod_self_left, Int.emod_eq_of_lt (by omega) (by omega)]; omega, fun q => Int.emod_eq_of_lt (by omega) (by omega)⟩
  have e1 := e lo l0 (by omega)
  have e2 := e hi (by omega) hm
  by_cases c1 : lo < b
  · rw [e1.1 c1] at h
    by_cases c2 : hi < b
    · rw [e2.1 c2] at h; omega
    · omega
  · rw [e1.2 (by omega), e2.2 (by omega)] at h
    omega
theorem plain_in {a b m lo hi : Int} (b0 : 0 ≤ b) (bm : b < m) (l0 : 0 ≤ lo) (lh : lo ≤ hi) (hm : hi < m) (h1 : (lo - b) % m ≠ 0) (h2 : ¬ (hi - b) % m < (lo - b) % m) (x : Int) : InW a b m lo hi x ↔ InM a m ((lo - b) % m) ((hi - b) % m) x := by
  unfold InW InM
  have e : ∀ t, 0 ≤ t → t < m → (t < b → (t - b) % m = t - b + m) ∧ (b ≤ t → (t - b) % m = t - b) := fun t t0 tm => ⟨fun q => by
    rw [show t - b = (t - b + m) + m * (-1) by omega, Int.add_mul_emod_self_left, Int.emod_eq_of_lt (by omega) (by omega)]; omega, fun q => Int.emod_eq_of_lt (by omega) (by omega)⟩
  have e1 := e lo l0 (by omega)
  have e2 := e hi (by omega) hm
  have r0 := Int.emod_nonneg (a * x) (show m ≠ 0 by omega)
  have r1 := Int.emod_lt_of_pos (a * x) (show 0 < m by omega)
  have hd := Int.mul_ediv_add_emod (a * x) m
  have s : (a * x + b) % m = (a * x % m + b) % m := by rw [Int.emod_add_emod]
  rw [s]
  generalize a * x % m = u at *
  have s2 : (u + b < m → (u + b) % m = u + b) ∧ (m ≤ u + b → (u + b) % m = u + b - m) := ⟨fun q => Int.emod_eq_of_lt (by omega) q, fun q => by
    rw [show u + b = (u + b - m) + m * 1 by omega, Int.add_mul_emod_self_left, Int.emod_eq_of_lt (by omega) (by omega)]; omega⟩
  by_cases c1 : lo < b
  · by_cases c2 : hi < b
    · rw [e1.1 c1, e2.1 c2] at *
      by_cases c3 : u + b < m
      · rw [s2.1 c3]; omega
      · rw [s2.2 (by omega)]; omega
    · exfalso
      rw [e1.1 c1, e2.2 (by omega)] at h2
      omega
  · rw [e1.2 (by omega), e2.2 (by omega)] at *
    by_cases c3 : u + b < m
    · rw [s2.1 c3]; omega
    · rw [s2.2 (by omega)]; omega
theorem plain_ok {a b m lo hi : Int} (a0 : 0 ≤ a) (am : a < m) (h1 : (lo - b) % m ≠ 0) (h2 : ¬ (hi - b) % m < (lo - b) % m) : OkM a m ((lo - b) % m) ((hi - b) % m) := by
  have r0 := Int.emod_nonneg (lo - b) (show m ≠ 0 by omega)
  exact ⟨a0, am, by omega, by omega, Int.emod_lt_of_pos _ (by omega)⟩
theorem plain_res {a b m lo hi : Int} {d : D} (b0 : 0 ≤ b) (bm : b < m) (l0 : 0 ≤ lo) (lh : lo ≤ hi) (hm : hi < m) (h1 : (lo - b) % m ≠ 0) (h2 : ¬ (hi - b) % m < (lo - b) % m) (r : ResM a m ((lo - b) % m) ((hi - b) % m) d) : Res a b m lo hi d := by
  have e := plain_in (a := a) b0 bm l0 lh hm h1 h2
  rcases r with ⟨x, rfl, f⟩ | ⟨rfl, f⟩
  · exact .inl ⟨x, rfl, f.x0, (e x).mpr f.inn, fun j j0 j1 q => f.no j j0 j1 ((e j).mp q)⟩
  · exact .inr ⟨rfl, fun j j0 q => f j j0 ((e j).mp q)⟩
theorem rest_laid (a b m x : Int) : (a % m * x + b % m) % m = (a * x + b) % m := by
  rw [Int.add_emod, Int.emod_emod_of_dvd _ (Int.dvd_refl m), Int.mul_emod (a % m), Int.emod_emod_of_dvd _ (Int.dvd_refl m), ← Int.mul_emod, ← Int.add_emod]
theorem res_laid {a b m lo hi : Int} {d : D} (r : Res (a % m) (b % m) m lo hi d) : Res a b m lo hi d := by
  have e : ∀ x, InW (a % m) (b % m) m lo hi x ↔ InW a b m lo hi x := fun x => by unfold InW; rw [rest_laid]
  rcases r with ⟨x, rfl, f⟩ | ⟨rfl, f⟩
  · exact .inl ⟨x, rfl, f.x0, (e x).mp f.inn, fun j j0 j1 q => f.no j j0 j1 ((e j).mpr q)⟩
  · exact .inr ⟨rfl, fun j j0 q => f j j0 ((e j).mpr q)⟩
theorem Fst.uniq {a b m lo hi x y : Int} (f : Fst a b m lo hi x) (g : Fst a b m lo hi y) : x = y := by
  rcases Int.lt_trichotomy x y with c | c | c
  · exact absurd f.inn (g.no x f.x0 c)
  · exact c
  · exact absurd g.inn (f.no y g.x0 c)
theorem InW.by {a b m lo hi x y : Int} (h : InW a b m lo hi x) (e : (a * y + b) % m = (a * x + b) % m) : InW a b m lo hi y := by unfold InW at h ⊢; rw [e]; exact h
theorem rest_back (a b m x : Int) : (a * (x - m) + b) % m = (a * x + b) % m := by
  rw [Int.mul_sub, show a * x - a * m + b = a * x + b + m * (-a) by rw [Int.mul_neg, Int.mul_comm m]; omega, Int.add_mul_emod_self_left]
theorem Fst.lt {a b m lo hi x : Int} (f : Fst a b m lo hi x) (hm : 0 < m) : x < m :=
  Int.lt_of_not_ge fun c => f.no (x - m) (by omega) (by omega) (f.inn.by (rest_back a b m x))
/-- how far rests come again -/
theorem rest_span (a b : Int) {m : Int} (hm : 0 < m) {x y : Int} : (a * x + b) % m = (a * y + b) % m ↔ (m / ((Int.gcd a m : Nat) : Int)) ∣ (x - y) := by
  have g0 : 0 < Int.gcd a m := Int.gcd_pos_of_ne_zero_right _ (by omega)
  obtain ⟨p, hp⟩ := Int.gcd_dvd_left a m
  obtain ⟨q, hq⟩ := Int.gcd_dvd_right a m
  have hg : (0 : Int) < ((Int.gcd a m : Nat) : Int) := by omega
  have co : Int.gcd p q = 1 := by
    have h1 := Int.gcd_mul_left (Int.gcd a m : Int) p q
    rw [← hp, ← hq] at h1
    rw [Int.natAbs_natCast] at h1
    have : Int.gcd a m * 1 = Int.gcd a m * Int.gcd p q := by omega
    exact (Nat.eq_of_mul_eq_mul_left g0 this).symm
  have eq : m / ((Int.gcd a m : Nat) : Int) = q := by
    have : m / ((Int.gcd a m : Nat) : Int) = ((Int.gcd a m : Nat) : Int) * q / ((Int.gcd a m : Nat) : Int) := by rw [← hq]
    rw [this, Int.mul_ediv_cancel_left _ (by omega)]
  rw [eq, Int.emod_eq_emod_iff_emod_sub_eq_zero, ← Int.dvd_iff_emod_eq_zero, show a * x + b - (a * y + b) = a * (x - y) by rw [Int.mul_sub]; omega]
  constructor
  · intro h
    have h : ((Int.gcd a m : Nat) : Int) * q ∣ ((Int.gcd a m : Nat) : Int) * (p * (x - y)) := by
      rw [← Int.mul_assoc, ← hp, ← hq]; exact h
    have h := Int.dvd_of_mul_dvd_mul_left (by omega) h
    have h2 := Int.natAbs_dvd_natAbs.mpr h
    rw [Int.natAbs_mul] at h2
    have cop : Nat.Coprime q.natAbs p.natAbs := by show Nat.gcd _ _ = 1; rw [Nat.gcd_comm]; exact co
    exact Int.natAbs_dvd_natAbs.mp (cop.dvd_of_dvd_mul_left h2)
  · intro h
    have : ((Int.gcd a m : Nat) : Int) * q ∣ ((Int.gcd a m : Nat) : Int) * (p * (x - y)) := Int.mul_dvd_mul_left _ (Int.dvd_mul_of_dvd_right h)
    rw [← Int.mul_assoc, ← hp, ← hq] at this
    exact this
theorem span_pos {a m : Int} (hm : 0 < m) : 0 < m / ((Int.gcd a m : Nat) : Int) := by
  have g0 : 0 < Int.gcd a m := Int.gcd_pos_of_ne_zero_right _ (by omega)
  exact Int.ediv_pos_of_pos_of_dvd hm (by omega) (Int.gcd_dvd_right a m)
theorem span_le {a m : Int} (hm : 0 < m) : m / ((Int.gcd a m : Nat) : Int) ≤ m := by
  have g0 : 0 < Int.gcd a m := Int.gcd_pos_of_ne_zero_right _ (by omega)
  exact Int.ediv_le_self _ (by omega)
/-- the first place with one rest alone -/
theorem Fst.lone {a b m x : Int} (hm : 0 < m) (x0 : 0 ≤ x) (x1 : x < m / ((Int.gcd a m : Nat) : Int)) : Fst a b m ((a * x + b) % m) ((a * x + b) % m) x := by
  refine ⟨x0, ⟨Int.le_refl _, Int.le_refl _⟩, fun j j0 j1 h => ?_⟩
  have e : (a * x + b) % m = (a * j + b) % m := by unfold InW at h; omega
  have d := (rest_span a b hm).mp e
  have := Int.le_of_dvd (by omega) d
  omega
end Z

namespace Z
open PySem
/-! ### rests beneath a bound -/
def CB (a b m t : Int) (n : Nat) : Int := sumZ (fun i => if (a * (i : Int) + b) % m < t then 1 else 0) n
theorem div_less {s m t : Int} (hm : 0 < m) (t0 : 0 ≤ t) (t1 : t ≤ m) : s / m - (s - t) / m = if s % m < t then 1 else 0 := by
  have hd := Int.mul_ediv_add_emod s m
  have r0 := Int.emod_nonneg s (show m ≠ 0 by omega)
  have r1 := Int.emod_lt_of_pos s hm
  by_cases c : s % m < t
  · have z : (s % m - t + m) / m = 0 := Int.ediv_eq_zero_of_lt (by omega) (by omega)
    rw [if_pos c, show s - t = (s % m - t + m) + m * (s / m - 1) by rw [Int.mul_sub]; omega, Int.add_mul_ediv_left _ _ (by omega), z]; omega
  · have z : (s % m - t) / m = 0 := Int.ediv_eq_zero_of_lt (by omega) (by omega)
    rw [if_neg c, show s - t = (s % m - t) + m * (s / m) by omega, Int.add_mul_ediv_left _ _ (by omega), z]; omega
theorem CB_FS {a b m t : Int} (hm : 0 < m) (t0 : 0 ≤ t) (t1 : t ≤ m) (n : Nat) : FS a b m n - FS a (b - t) m n = CB a b m t n := by
  unfold FS CB
  rw [← sumZ_sub]
  refine sumZ_congr n fun i _ => ?_
  rw [show a * (i : Int) + (b - t) = a * (i : Int) + b - t by omega, div_less hm t0 t1]
theorem CB_congr {a b m t a' b' m' t' : Int} {n : Nat} (h : ∀ i : Nat, i < n → ((a * (i : Int) + b) % m < t ↔ (a' * (i : Int) + b') % m' < t')) : CB a b m t n = CB a' b' m' t' n := by
  unfold CB
  refine sumZ_congr n fun i hi => ?_
  by_cases c : (a * (i : Int) + b) % m < t
  · rw [if_pos c, if_pos ((h i hi).mp c)]
  · rw [if_neg c, if_neg fun q => c ((h i hi).mpr q)]
theorem CB_laid (a b m t : Int) (n : Nat) : CB (a % m) (b % m) m t n = CB a b m t n := CB_congr fun i _ => by rw [rest_laid]
theorem CB_clip {a b m t : Int} (hm : 0 < m) (n : Nat) : CB a b m (max 0 (min m t)) n = CB a b m t n := CB_congr fun i _ => by
  have r0 := Int.emod_nonneg (a * (i : Int) + b) (show m ≠ 0 by omega)
  have r1 := Int.emod_lt_of_pos (a * (i : Int) + b) hm
  omega
theorem CB_none {a b m t : Int} (hm : 0 < m) (ht : t ≤ 0) (n : Nat) : CB a b m t n = 0 := sumZ_zero fun i _ => by
  have r0 := Int.emod_nonneg (a * (i : Int) + b) (show m ≠ 0 by omega)
  rw [if_neg (by omega)]
theorem CB_all {a b m t : Int} (hm : 0 < m) (ht : m ≤ t) (n : Nat) : CB a b m t n = n := by
  unfold CB
  rw [← sumZ_nat']
  refine sumZ_congr n fun i _ => ?_
  have r1 := Int.emod_lt_of_pos (a * (i : Int) + b) hm
  rw [if_pos (by omega)]
where sumZ_nat' {n : Nat} : sumZ (fun _ => 1) n = n := by rw [sumZ_const]; omega
theorem CB_mono {a b m t u : Int} (h : t ≤ u) : ∀ n : Nat, CB a b m t n ≤ CB a b m u n
  | 0 => Int.le_refl _
  | n + 1 => by
    have ih := CB_mono (a := a) (b := b) (m := m) h n
    show CB a b m t n + (if _ then 1 else 0) ≤ CB a b m u n + (if _ then 1 else 0)
    split <;> split <;> omega
theorem CB_le (a b m t : Int) : ∀ n : Nat, 0 ≤ CB a b m t n ∧ CB a b m t n ≤ n
  | 0 => by show (0 : Int) ≤ 0 ∧ (0 : Int) ≤ ((0 : Nat) : Int); omega
  | n + 1 => by
    have ih := CB_le a b m t n
    show 0 ≤ CB a b m t n + (if _ then 1 else 0) ∧ CB a b m t n + (if _ then 1 else 0) ≤ ((n + 1 : Nat) : Int)
    split <;> omega
theorem CB_split (a b m t : Int) (n k : Nat) : CB a b m t (n + k) = CB a b m t n + CB a (a * n + b) m t k := by
  unfold CB
  rw [sumZ_split]
  congr 1
  refine sumZ_congr k fun i _ => ?_
  rw [show a * ((n + i : Nat) : Int) + b = a * (i : Int) + (a * n + b) by rw [Int.natCast_add, Int.mul_add]; omega]
theorem CB_modb (a b m t : Int) (n : Nat) : CB a (b % m) m t n = CB a b m t n := CB_congr fun i _ => by rw [Int.add_emod_emod]
theorem CB_moda (a b m t k : Int) (n : Nat) : CB (a + m * k) b m t n = CB a b m t n := CB_congr fun i _ => by
  rw [show (a + m * k) * (i : Int) + b = a * (i : Int) + b + m * (k * (i : Int)) by rw [Int.add_mul, Int.mul_assoc]; omega, Int.add_mul_emod_self_left]
theorem CB_join {a b m t n k : Int} (hn : 0 ≤ n) (hk : 0 ≤ k) : CB a b m t (n + k).toNat = CB a b m t n.toNat + CB a ((a * n + b) % m) m t k.toNat := by
  rw [toNat_add' hn hk, CB_split, CB_modb, show ((n.toNat : Nat) : Int) = n by omega]
theorem rest_mir {s m : Int} (hm : 0 < m) : (0 - s - 1) % m = m - 1 - s % m := by
  have hd := Int.mul_ediv_add_emod s m
  have r0 := Int.emod_nonneg s (show m ≠ 0 by omega)
  have r1 := Int.emod_lt_of_pos s hm
  rw [show 0 - s - 1 = (m - 1 - s % m) + m * (-(s / m) - 1) by rw [Int.mul_sub, Int.mul_neg]; omega, Int.add_mul_emod_self_left, Int.emod_eq_of_lt (by omega) (by omega)]
theorem mir_line (a b m x : Int) : ((0 - a) * x + (0 - b - 1) % m) % m = (0 - (a * x + b) - 1) % m := by
  rw [Int.add_emod_emod, Int.sub_mul, Int.zero_mul]
  congr 1
  omega
theorem CB_mir {a b m t : Int} (hm : 0 < m) (n : Nat) : CB (0 - a) ((0 - b - 1) % m) m (m - t) n = n - CB a b m t n := by
  have e : CB (0 - a) ((0 - b - 1) % m) m (m - t) n + CB a b m t n = n := by
    rw [show (n : Int) = sumZ (fun _ => 1) n by rw [sumZ_const]; omega]
    unfold CB
    rw [← sumZ_add]
    refine sumZ_congr n fun i _ => ?_
    rw [mir_line, rest_mir hm]
    have r0 := Int.emod_nonneg (a * (i : Int) + b) (show m ≠ 0 by omega)
    by_cases c : (a * (i : Int) + b) % m < t
    · rw [if_pos c, if_neg (by omega)]; rfl
    · rw [if_neg c, if_pos (by omega)]; rfl
  omega
/-- a line so many times as wide -/
theorem meas {a b m c r i : Int} (hm : 0 < m) (r0 : 0 ≤ r) (r1 : r < c) : (a % m * c * i + (b % m * c + r)) % (m * c) = c * ((a * i + b) % m) + r := by
  have hd := Int.mul_ediv_add_emod (a % m * i + b % m) m
  rw [rest_laid] at hd
  have s0 := Int.emod_nonneg (a * i + b) (show m ≠ 0 by omega)
  have s1 := Int.emod_lt_of_pos (a * i + b) hm
  have e : a % m * c * i + (b % m * c + r) = (c * ((a * i + b) % m) + r) + m * c * ((a % m * i + b % m) / m) := by
    generalize (a * i + b) % m = u at *
    generalize (a % m * i + b % m) / m = q at *
    have : a % m * i + b % m = m * q + u := hd.symm
    grind
  have p0 : 0 ≤ c * ((a * i + b) % m) := Int.mul_nonneg (by omega) s0
  have p1 : c * ((a * i + b) % m) ≤ c * (m - 1) := Int.mul_le_mul_of_nonneg_left (by omega) (by omega)
  have p2 : c * (m - 1) = m * c - c := by rw [Int.mul_sub, Int.mul_comm]; omega
  rw [e, Int.add_mul_emod_self_left, Int.emod_eq_of_lt (by omega) (by omega)]
theorem CB_wide {a b m t c r f : Int} (hm : 0 < m) (r0 : 0 ≤ r) (r1 : r < c) (f0 : 0 ≤ f) (f1 : f < c) (n : Nat) : CB (a % m * c) (b % m * c + r) (m * c) (t * c + f) n = CB a b m (t + if r < f then 1 else 0) n := CB_congr fun i _ => by
  rw [meas hm r0 r1, Int.mul_comm c]
  generalize (a * (i : Int) + b) % m = s
  rcases Int.lt_trichotomy s t with k | k | k
  · have := Int.mul_le_mul_of_nonneg_right (show s + 1 ≤ t by omega) (show 0 ≤ c by omega)
    rw [Int.add_mul] at this
    split <;> omega
  · subst k; split <;> omega
  · have := Int.mul_le_mul_of_nonneg_right (show t + 1 ≤ s by omega) (show 0 ≤ c by omega)
    rw [Int.add_mul] at this
    split <;> omega
/-! whole rounds -/
theorem rest_round (a b : Int) {m : Int} (hm : 0 < m) (x k : Int) : (a * (x + m / ((Int.gcd a m : Nat) : Int) * k) + b) % m = (a * x + b) % m :=
  (rest_span a b hm).mpr ⟨k, by omega⟩
theorem CB_rounds {a b m t : Int} (hm : 0 < m) : ∀ k : Nat, CB a b m t ((m / ((Int.gcd a m : Nat) : Int)).toNat * k) = CB a b m t (m / ((Int.gcd a m : Nat) : Int)).toNat * k
  | 0 => by rw [Nat.mul_zero]; show (0 : Int) = _ * ((0 : Nat) : Int); simp
  | k + 1 => by
    have s0 := span_pos (a := a) hm
    rw [Nat.mul_add, Nat.mul_one, CB_split, CB_rounds hm k, Int.natCast_add, Int.mul_add]
    congr 1
    rw [show CB a b m t (m / ((Int.gcd a m : Nat) : Int)).toNat * ((1 : Nat) : Int) = CB a b m t (m / ((Int.gcd a m : Nat) : Int)).toNat by simp]
    refine CB_congr fun i _ => ?_
    have := rest_round a b hm (i : Int) (k : Int)
    rw [Int.natCast_mul, show (((m / ((Int.gcd a m : Nat) : Int)).toNat : Nat) : Int) = m / ((Int.gcd a m : Nat) : Int) by omega, show a * (i : Int) + (a * (m / ((Int.gcd a m : Nat) : Int) * (k : Int)) + b) = a * ((i : Int) + m / ((Int.gcd a m : Nat) : Int) * (k : Int)) + b by rw [Int.mul_add]; omega, this]
/-- how many rests beneath a bound a round has -/
def classes (b g t : Int) : Int := max 0 ((t - b % g + g - 1) / g)
theorem CB_span {a b m t : Int} (hm : 0 < m) (t0 : 0 ≤ t) (t1 : t ≤ m) : CB a b m t (m / ((Int.gcd a m : Nat) : Int)).toNat = classes b ((Int.gcd a m : Nat) : Int) t := by
  have g0 : 0 < Int.gcd a m := Int.gcd_pos_of_ne_zero_right _ (by omega)
  have hr := CB_rounds (a := a) (b := b) (t := t) hm (Int.gcd a m)
  obtain ⟨q, hq⟩ := Int.gcd_dvd_right a m
  have f1 := FS_round m.toNat a b m hm (by omega)
  have f2 := FS_round m.toNat a (b - t) m hm (by omega)
  have f3 := CB_FS (a := a) (b := b) hm t0 t1 m.toNat
  have s0 := span_pos (a := a) hm
  generalize hg : ((Int.gcd a m : Nat) : Int) = g at *
  have eq : m / g = q := by
    have : m / g = g * q / g := by rw [← hq]
    rw [this, Int.mul_ediv_cancel_left _ (by omega)]
  rw [eq] at hr s0 ⊢
  have em : q.toNat * Int.gcd a m = m.toNat := by
    have : ((q.toNat * Int.gcd a m : Nat) : Int) = m := by rw [Int.natCast_mul, hg, show ((q.toNat : Nat) : Int) = q by omega, Int.mul_comm]; exact hq.symm
    omega
  rw [em] at hr
  have e1 : CB a b m t q.toNat * g = t - b % g + (b - t) % g := by omega
  have d1 := Int.mul_ediv_add_emod (t - b % g + g - 1) g
  have r0 := Int.emod_nonneg (t - b % g + g - 1) (show g ≠ 0 by omega)
  have r1 := Int.emod_lt_of_pos (t - b % g + g - 1) (show 0 < g by omega)
  have u0 := Int.emod_nonneg (b - t) (show g ≠ 0 by omega)
  have u1 := Int.emod_lt_of_pos (b - t) (show 0 < g by omega)
  have c0 := (CB_le a b m t q.toNat).1
  unfold classes
  have e2 : CB a b m t q.toNat = (t - b % g + g - 1) / g := by
    generalize CB a b m t q.toNat = x at *
    generalize (t - b % g + g - 1) / g = y at *
    rw [Int.mul_comm] at e1
    rcases Int.lt_trichotomy x y with k | k | k
    · have := Int.mul_le_mul_of_nonneg_left (show x + 1 ≤ y by omega) (show 0 ≤ g by omega)
      rw [Int.mul_add] at this; omega
    · exact k
    · have := Int.mul_le_mul_of_nonneg_left (show y + 1 ≤ x by omega) (show 0 ≤ g by omega)
      rw [Int.mul_add] at this; omega
  omega
/-! how often a rest was there ahead of a place -/
def EQ (a b m r : Int) (n : Nat) : Int := sumZ (fun i => if (a * (i : Int) + b) % m = r then 1 else 0) n
theorem CB_next (a b m r : Int) (n : Nat) : CB a b m (r + 1) n = CB a b m r n + EQ a b m r n := by
  unfold CB EQ
  rw [← sumZ_add]
  refine sumZ_congr n fun i _ => ?_
  by_cases c : (a * (i : Int) + b) % m = r
  · rw [if_pos (by omega), if_neg (by omega), if_pos c]; rfl
  · by_cases c2 : (a * (i : Int) + b) % m < r
    · rw [if_pos (by omega), if_pos c2, if_neg c]; rfl
    · rw [if_neg (by omega), if_neg c2, if_neg c]; rfl
/-- places with rests within bounds -/
def IB (a b m lo hi : Int) (n : Nat) : Int := sumZ (fun i => if lo ≤ (a * (i : Int) + b) % m ∧ (a * (i : Int) + b) % m ≤ hi then 1 else 0) n
theorem CB_IB {a b m lo hi : Int} (h : lo ≤ hi + 1) (n : Nat) : CB a b m (hi + 1) n - CB a b m lo n = IB a b m lo hi n := by
  unfold CB IB
  rw [← sumZ_sub]
  refine sumZ_congr n fun i _ => ?_
  by_cases c : (a * (i : Int) + b) % m < lo
  · rw [if_pos (by omega), if_pos c, if_neg (by omega)]; rfl
  · by_cases c2 : (a * (i : Int) + b) % m ≤ hi
    · rw [if_pos (by omega), if_neg c, if_pos (by omega)]; rfl
    · rw [if_neg (by omega), if_neg c, if_neg (by omega)]; rfl
theorem IB_zero {a b m lo hi : Int} {n : Nat} (h : ∀ j, 0 ≤ j → j < (n : Int) → ¬ InW a b m lo hi j) : IB a b m lo hi n = 0 := sumZ_zero fun i hi => if_neg (h i (by omega) (by omega))
theorem Fst.span {a b m lo hi x : Int} (f : Fst a b m lo hi x) (hm : 0 < m) : x < m / ((Int.gcd a m : Nat) : Int) := by
  have s0 := span_pos (a := a) hm
  refine Int.lt_of_not_ge fun c => f.no (x - m / ((Int.gcd a m : Nat) : Int)) (by omega) (by omega) (f.inn.by ?_)
  have := rest_round a b hm (x - m / ((Int.gcd a m : Nat) : Int)) 1
  rw [Int.mul_one, Int.sub_add_cancel] at this
  exact this.symm
theorem wide_due {a b m t c x f u v : Int} (hm : 0 < m) (tm : t ≤ m) (x0 : 0 ≤ x) (x1 : x < c) (f0 : 0 ≤ f) (f1 : f < c) (hu : (u = 1 ∧ t < m) ∨ (u = 0 ∧ ¬ t < m)) (hv : (v = 1 ∧ x < f) ∨ (v = 0 ∧ ¬ x < f)) (n : Nat) :
    CB (a % m * c) (b % m * c + x) (m * c) (min m t * c + f * u) n = CB a b m (min m (t + v)) n := by
  rcases hu with ⟨rfl, h⟩ | ⟨rfl, h⟩
  · rw [show min m t = t by omega, Int.mul_one, CB_wide hm x0 x1 f0 f1]
    rcases hv with ⟨rfl, k⟩ | ⟨rfl, k⟩
    · rw [if_pos k, show min m (t + 1) = t + 1 by omega]
    · rw [if_neg k, show min m (t + 0) = t + 0 by omega]
  · have mc : 0 < m * c := Int.mul_pos hm (by omega)
    rw [show min m t = m by omega, Int.mul_zero, Int.add_zero, CB_all mc (Int.le_refl _), show min m (t + v) = m by omega, CB_all hm (Int.le_refl _)]
theorem rounds_due {a b m t v : Int} (hm : 0 < m) (t0 : 0 ≤ t) (t1 : t ≤ m) (v0 : 0 ≤ v) : CB a b m t (m / ((Int.gcd a m : Nat) : Int) * v).toNat = v * max 0 ((t - b % ((Int.gcd a m : Nat) : Int) + ((Int.gcd a m : Nat) : Int) - 1) / ((Int.gcd a m : Nat) : Int)) := by
  have s0 := span_pos (a := a) hm
  have h := CB_rounds (a := a) (b := b) (t := t) hm v.toNat
  rw [CB_span hm t0 t1, show ((v.toNat : Nat) : Int) = v by omega] at h
  have e : (m / ((Int.gcd a m : Nat) : Int)).toNat * v.toNat = (m / ((Int.gcd a m : Nat) : Int) * v).toNat := by
    have h1 : 0 ≤ m / ((Int.gcd a m : Nat) : Int) * v := Int.mul_nonneg (by omega) v0
    have : (((m / ((Int.gcd a m : Nat) : Int)).toNat * v.toNat : Nat) : Int) = m / ((Int.gcd a m : Nat) : Int) * v := by
      rw [Int.natCast_mul, show (((m / ((Int.gcd a m : Nat) : Int)).toNat : Nat) : Int) = m / ((Int.gcd a m : Nat) : Int) by omega, show ((v.toNat : Nat) : Int) = v by omega]
    omega
  rw [e] at h
  rw [h, Int.mul_comm]; rfl
theorem first_none {a b m lo hi : Int} (lh : lo ≤ hi) (f : Non a b m lo hi) (n : Nat) : CB a b m (hi + 1) n = CB a b m lo n := by
  have h := CB_IB (a := a) (b := b) (m := m) (show lo ≤ hi + 1 by omega) n
  rw [IB_zero fun j j0 _ => f j j0] at h
  omega
theorem first_some {a b m lo hi x : Int} (lh : lo ≤ hi) (f : Fst a b m lo hi x) : CB a b m (hi + 1) x.toNat - CB a b m lo x.toNat = 0 ∧ CB a b m (hi + 1) (x + 1).toNat - CB a b m lo (x + 1).toNat = 1 := by
  have x0 := f.x0
  rw [CB_IB (by omega), CB_IB (by omega), show (x + 1).toNat = x.toNat + 1 by omega]
  have z : IB a b m lo hi x.toNat = 0 := IB_zero fun j j0 j1 => f.no j j0 (by omega)
  refine ⟨z, ?_⟩
  show IB a b m lo hi x.toNat + (if _ then 1 else 0) = 1
  rw [z, if_pos]
  · rfl
  · have := f.inn
    unfold InW at this
    rw [show ((x.toNat : Nat) : Int) = x by omega]
    exact this
/-! places in order -/
theorem EQ_split (a b m r : Int) (n k : Nat) : EQ a b m r (n + k) = EQ a b m r n + sumZ (fun i => if (a * ((n + i : Nat) : Int) + b) % m = r then 1 else 0) k := by
  unfold EQ; rw [sumZ_split]
theorem sumZ_nn {f : Nat → Int} (h : ∀ i, 0 ≤ f i) : ∀ n, 0 ≤ sumZ f n
  | 0 => Int.le_refl 0
  | n + 1 => by have := sumZ_nn h n; have := h n; show 0 ≤ sumZ f n + f n; omega
theorem ite01 {p : Prop} [Decidable p] : 0 ≤ (if p then (1 : Int) else 0) ∧ (if p then (1 : Int) else 0) ≤ 1 := by split <;> omega
theorem EQ_mono {a b m r : Int} {n k : Nat} (h : n ≤ k) : EQ a b m r n ≤ EQ a b m r k := by
  obtain ⟨j, rfl⟩ := Nat.exists_eq_add_of_le h
  rw [EQ_split]
  have := sumZ_nn (f := fun i => if (a * ((n + i : Nat) : Int) + b) % m = r then 1 else 0) (fun i => ite01.1) j
  omega
theorem EQ_le (a b m r : Int) (n : Nat) : 0 ≤ EQ a b m r n := sumZ_nn (fun i => ite01.1) n
/-- the rank of a pair among the first n, that is the number in their order -/
def rank (a b m : Int) (n : Int) (r p : Int) : Int := CB a b m r n.toNat + EQ a b m r p.toNat
/-- a place with a rest comes so often ahead of the k-th one -/
theorem EQ_span {a b m r f : Int} (hm : 0 < m) (h : Fst a b m r r f) : ∀ k : Nat, EQ a b m r (f + k * (m / ((Int.gcd a m : Nat) : Int))).toNat = k
  | 0 => by
    have f0 := h.x0
    rw [show f + ((0 : Nat) : Int) * (m / ((Int.gcd a m : Nat) : Int)) = f by simp]
    refine sumZ_zero fun i hi => if_neg fun e => h.no i (by omega) (by omega) ?_
    unfold InW; omega
  | k + 1 => by
    have f0 := h.x0
    have ih := EQ_span hm h k
    have s0 := span_pos (a := a) hm
    have hr := h.inn
    unfold InW at hr
    have kp : 0 ≤ (k : Int) * (m / ((Int.gcd a m : Nat) : Int)) := Int.mul_nonneg (by omega) (by omega)
    have e1 : f + ((k + 1 : Nat) : Int) * (m / ((Int.gcd a m : Nat) : Int)) = f + (k : Int) * (m / ((Int.gcd a m : Nat) : Int)) + m / ((Int.gcd a m : Nat) : Int) := by
      rw [Int.natCast_add, Int.add_mul]; simp; omega
    have e2 : (f + ((k + 1 : Nat) : Int) * (m / ((Int.gcd a m : Nat) : Int))).toNat = (f + (k : Int) * (m / ((Int.gcd a m : Nat) : Int))).toNat + ((m / ((Int.gcd a m : Nat) : Int)).toNat - 1 + 1) := by
      rw [e1]; omega
    rw [e2, EQ_split, ih, sumZ_first]
    have e3 : ∀ i : Nat, (((f + (k : Int) * (m / ((Int.gcd a m : Nat) : Int))).toNat + i : Nat) : Int) = f + (k : Int) * (m / ((Int.gcd a m : Nat) : Int)) + i := fun i => by omega
    have hk := rest_round a b hm f k
    rw [Int.mul_comm (m / _)] at hk
    have z : sumZ (fun i => if (a * (((f + (k : Int) * (m / ((Int.gcd a m : Nat) : Int))).toNat + (i + 1) : Nat) : Int) + b) % m = r then (1 : Int) else 0) ((m / ((Int.gcd a m : Nat) : Int)).toNat - 1) = 0 := by
      refine sumZ_zero fun i hi => if_neg fun e => ?_
      rw [e3] at e
      have d := (rest_span a b hm (x := f + (k : Int) * (m / ((Int.gcd a m : Nat) : Int)) + ((i + 1 : Nat) : Int)) (y := f + (k : Int) * (m / ((Int.gcd a m : Nat) : Int)))).mp (by omega)
      have := Int.le_of_dvd (by omega) d
      omega
    have e4 : (((f + (k : Int) * (m / ((Int.gcd a m : Nat) : Int))).toNat + 0 : Nat) : Int) = f + (k : Int) * (m / ((Int.gcd a m : Nat) : Int)) := by omega
    rw [z, e4, if_pos (by omega)]
    omega
/-- what in_order tells -/
structure Ord (a b m n k r p : Int) : Prop where
  p0 : 0 ≤ p
  pn : p < n
  at' : (a * p + b) % m = r
  rk : rank a b m n r p = k
theorem Ord.of {a b m n k r f : Int} (hm : 0 < m) (n0 : 0 ≤ n) (h1 : CB a b m r n.toNat ≤ k) (h2 : k < CB a b m (r + 1) n.toNat) (h : Fst a b m r r f) : Ord a b m n k r (f + (k - CB a b m r n.toNat) * (m / ((Int.gcd a m : Nat) : Int))) := by
  have s0 := span_pos (a := a) hm
  have f0 := h.x0
  have hr := h.inn
  unfold InW at hr
  obtain ⟨j, hj⟩ : ∃ j : Nat, k - CB a b m r n.toNat = j := ⟨(k - CB a b m r n.toNat).toNat, by omega⟩
  rw [hj]
  have e := EQ_span hm h j
  have kp : 0 ≤ (j : Int) * (m / ((Int.gcd a m : Nat) : Int)) := Int.mul_nonneg (by omega) (by omega)
  have hk := rest_round a b hm f j
  rw [Int.mul_comm (m / _)] at hk
  refine ⟨by omega, ?_, by omega, ?_⟩
  · refine Int.lt_of_not_ge fun c => ?_
    have := EQ_mono (a := a) (b := b) (m := m) (r := r) (show n.toNat ≤ (f + (j : Int) * (m / ((Int.gcd a m : Nat) : Int))).toNat by omega)
    rw [CB_next] at h2
    omega
  · unfold rank
    rw [e]; omega
theorem EQ_one {a b m r p : Int} (p0 : 0 ≤ p) (h : (a * p + b) % m = r) : EQ a b m r (p + 1).toNat = EQ a b m r p.toNat + 1 := by
  rw [show (p + 1).toNat = p.toNat + 1 by omega]
  show EQ a b m r p.toNat + (if (a * ((p.toNat : Nat) : Int) + b) % m = r then 1 else 0) = _
  rw [show ((p.toNat : Nat) : Int) = p by omega, if_pos h]
theorem rank_lt {a b m n r p r' p' : Int} (p0 : 0 ≤ p) (pn : p < n) (hp : (a * p + b) % m = r) (q0 : 0 ≤ p') (h : r < r' ∨ (r = r' ∧ p < p')) : rank a b m n r p < rank a b m n r' p' := by
  unfold rank
  rcases h with h | ⟨rfl, h⟩
  · have h1 := CB_next a b m r n.toNat
    have h2 := CB_mono (a := a) (b := b) (m := m) (show r + 1 ≤ r' by omega) n.toNat
    have h3 := EQ_mono (a := a) (b := b) (m := m) (r := r) (show (p + 1).toNat ≤ n.toNat by omega)
    rw [EQ_one p0 hp] at h3
    have h4 := EQ_le a b m r' p'.toNat
    omega
  · have h3 := EQ_mono (a := a) (b := b) (m := m) (r := r) (show (p + 1).toNat ≤ p'.toNat by omega)
    rw [EQ_one p0 hp] at h3
    omega
theorem Ord.uniq {a b m n k r p r' p' : Int} (g : Ord a b m n k r p) (h : Ord a b m n k r' p') : r = r' ∧ p = p' := by
  have g1 := g.rk
  have h1 := h.rk
  have l1 := rank_lt (r' := r') (p' := p') g.p0 g.pn g.at' h.p0
  have l2 := rank_lt (r' := r) (p' := p) h.p0 h.pn h.at' g.p0
  omega
theorem Ord.k0 {a b m n k r p : Int} (g : Ord a b m n k r p) : 0 ≤ k ∧ k < n := by
  have h1 := (CB_le a b m r n.toNat).1
  have h2 := EQ_le a b m r p.toNat
  have h3 := EQ_mono (a := a) (b := b) (m := m) (r := r) (show (p + 1).toNat ≤ n.toNat by have := g.pn; omega)
  rw [EQ_one g.p0 g.at'] at h3
  have h4 := CB_next a b m r n.toNat
  have h5 := (CB_le a b m (r + 1) n.toNat).2
  have h6 := g.rk
  unfold rank at h6
  have := g.pn
  have := g.p0
  omega
/-- the search -/
theorem ord_laid {a b m n k r p : Int} (g : Ord (a % m) (b % m) m n k r p) : Ord a b m n k r p := by
  have e : ∀ x : Int, (a % m * x + b % m) % m = (a * x + b) % m := rest_laid a b m
  refine ⟨g.p0, g.pn, by rw [← e]; exact g.at', ?_⟩
  have h := g.rk
  unfold rank at h ⊢
  rw [CB_laid] at h
  have : EQ (a % m) (b % m) m r p.toNat = EQ a b m r p.toNat := by
    unfold EQ
    exact sumZ_congr _ fun i _ => by rw [e]
  rw [this] at h
  exact h
theorem ord_some {a b m r : Int} {n : Nat} (h : CB a b m r n < CB a b m (r + 1) n) : ¬ Non a b m r r := fun f => by
  have e : EQ a b m r n = 0 := sumZ_zero fun i hi => if_neg fun e => f i (by omega) (by unfold InW; omega)
  have := CB_next a b m r n
  omega
theorem EQ_at {a b m r p : Int} (hm : 0 < m) (p0 : 0 ≤ p) (h : (a * p + b) % m = r) : EQ a b m r p.toNat = p / (m / ((Int.gcd a m : Nat) : Int)) := by
  have s0 := span_pos (a := a) hm
  have hd := Int.mul_ediv_add_emod p (m / ((Int.gcd a m : Nat) : Int))
  have r0 := Int.emod_nonneg p (show m / ((Int.gcd a m : Nat) : Int) ≠ 0 by omega)
  have r1 := Int.emod_lt_of_pos p s0
  have f := Fst.lone (a := a) (b := b) hm r0 r1
  have k0 : 0 ≤ p / (m / ((Int.gcd a m : Nat) : Int)) := Int.ediv_nonneg p0 (by omega)
  have e : (a * (p % (m / ((Int.gcd a m : Nat) : Int))) + b) % m = r := by
    rw [← h]
    exact (rest_span a b hm).mpr ⟨-(p / (m / ((Int.gcd a m : Nat) : Int))), by rw [Int.mul_neg]; omega⟩
  rw [e] at f
  have g := EQ_span hm f (p / (m / ((Int.gcd a m : Nat) : Int))).toNat
  rw [show (((p / (m / ((Int.gcd a m : Nat) : Int))).toNat : Nat) : Int) = p / (m / ((Int.gcd a m : Nat) : Int)) by omega] at g
  rw [Int.mul_comm (p / _), show p % (m / ((Int.gcd a m : Nat) : Int)) + m / ((Int.gcd a m : Nat) : Int) * (p / (m / ((Int.gcd a m : Nat) : Int))) = p by omega] at g
  exact g
theorem Ord.beneath {a b m n k r p : Int} (hm : 0 < m) (g : Ord a b m n k r p) : CB a b m r n.toNat + p / (m / ((Int.gcd a m : Nat) : Int)) = k ∧ k < CB a b m (r + 1) n.toNat := by
  have h := g.rk
  unfold rank at h
  have h2 := EQ_at hm g.p0 g.at'
  have h3 := EQ_mono (a := a) (b := b) (m := m) (r := r) (show (p + 1).toNat ≤ n.toNat by have := g.pn; omega)
  rw [EQ_one g.p0 g.at'] at h3
  have h4 := CB_next a b m r n.toNat
  omega
/-- a place with a rest that is beneath isn't told by a count of none -/
theorem CB_pos {a b m t p : Int} {n : Nat} (p0 : 0 ≤ p) (pn : p < n) (h : (a * p + b) % m < t) : 0 < CB a b m t n := by
  have h1 := CB_split a b m t p.toNat (n - p.toNat - 1 + 1)
  rw [show p.toNat + (n - p.toNat - 1 + 1) = n by omega] at h1
  have h2 := (CB_le a b m t p.toNat).1
  have h3 : 0 < CB a (a * ((p.toNat : Nat) : Int) + b) m t (n - p.toNat - 1 + 1) := by
    unfold CB
    rw [sumZ_first]
    have := sumZ_nn (f := fun i => if (a * ((i + 1 : Nat) : Int) + (a * ((p.toNat : Nat) : Int) + b)) % m < t then 1 else 0) (fun i => ite01.1) (n - p.toNat - 1)
    rw [if_pos]
    · omega
    · rw [show a * ((0 : Nat) : Int) + (a * ((p.toNat : Nat) : Int) + b) = a * p + b by rw [show ((p.toNat : Nat) : Int) = p by omega]; simp]
      exact h
  omega
theorem Ord.least {a b m n r p : Int} (hm : 0 < m) (g : Ord a b m n 0 r p) : Fst a b m 0 r p ∧ CB a b m r n.toNat = 0 ∧ ∀ x lo hi, Fst a b m lo hi x → hi < r → n ≤ x := by
  have h := g.rk
  unfold rank at h
  have c0 := (CB_le a b m r n.toNat).1
  have e0 := EQ_le a b m r p.toNat
  have r0 := Int.emod_nonneg (a * p + b) (show m ≠ 0 by omega)
  have hr := g.at'
  have pn := g.pn
  have none : ∀ j, 0 ≤ j → j < n → r ≤ (a * j + b) % m := fun j j0 j1 => Int.le_of_not_gt fun c => by
    have := CB_pos (n := n.toNat) j0 (by omega) c
    omega
  refine ⟨⟨g.p0, by unfold InW; omega, fun j j0 j1 q => ?_⟩, by omega, fun x lo hi f q => Int.le_of_not_gt fun c => ?_⟩
  · have h1 := none j j0 (by omega)
    unfold InW at q
    have h2 := EQ_mono (a := a) (b := b) (m := m) (r := r) (show (j + 1).toNat ≤ p.toNat by omega)
    rw [EQ_one j0 (by omega)] at h2
    have := EQ_le a b m r j.toNat
    omega
  · have h1 := none x f.x0 (by omega)
    have := f.inn
    unfold InW at this
    omega
theorem Ord.longer {a b m n k r p r' p' v : Int} (n0 : 0 ≤ n) (g : Ord a b m n k r p) (hv : (v = 1 ∧ ((a * n + b) % m < r ∨ ((a * n + b) % m = r ∧ n < p))) ∨ (v = 0 ∧ ¬ ((a * n + b) % m < r ∨ ((a * n + b) % m = r ∧ n < p)))) (h : Ord a b m (n + 1) (k + v) r' p') : r' = r ∧ p' = p := by
  have pn := g.pn
  have e : Ord a b m (n + 1) (k + v) r p := by
    refine ⟨g.p0, by omega, g.at', ?_⟩
    have h := g.rk
    unfold rank at h ⊢
    have h1 := CB_split a b m r n.toNat 1
    rw [show n.toNat + 1 = (n + 1).toNat by omega] at h1
    have h2 : CB a (a * ((n.toNat : Nat) : Int) + b) m r 1 = if (a * n + b) % m < r then 1 else 0 := by
      show 0 + (if (a * ((0 : Nat) : Int) + (a * ((n.toNat : Nat) : Int) + b)) % m < r then 1 else 0) = _
      rw [show a * ((0 : Nat) : Int) + (a * ((n.toNat : Nat) : Int) + b) = a * n + b by rw [show ((n.toNat : Nat) : Int) = n by omega]; simp, Int.zero_add]
    rw [h2] at h1
    rcases hv with ⟨rfl, q⟩ | ⟨rfl, q⟩
    · rw [if_pos (by omega)] at h1; omega
    · rw [if_neg (by omega)] at h1; omega
  exact h.uniq e
theorem Ord.less {a b m n k k' r p r' p' : Int} (g : Ord a b m n k r p) (h : Ord a b m n k' r' p') (c : k < k') : r < r' ∨ (r = r' ∧ p < p') := by
  have l := rank_lt (r' := r) (p' := p) h.p0 h.pn h.at' g.p0
  have g1 := g.rk
  have h1 := h.rk
  rcases Int.lt_trichotomy r r' with q | q | q
  · exact .inl q
  · refine .inr ⟨q, Int.lt_of_not_ge fun c2 => ?_⟩
    rcases Int.lt_or_eq_of_le c2 with c3 | c3
    · have := l (.inr ⟨q.symm, c3⟩); omega
    · rw [q, ← c3] at g1; omega
  · have := l (.inl q); omega
theorem Ord.mir {a b m n r p r' p' : Int} (hm : 0 < m) (g : Ord a b m n (n - 1) r p) (h : Ord (0 - a) ((0 - b - 1) % m) m n 0 r' p') : r' = m - 1 - r := by
  have hb := g.beneath hm
  have pn := g.pn
  have p0 := g.p0
  have l := h.least hm
  have q1 := h.at'
  rw [mir_line, rest_mir hm] at q1
  -- no rest is above r
  have top : (a * p' + b) % m ≤ r := Int.le_of_not_gt fun c => by
    have s1 := CB_split a b m (r + 1) p'.toNat (n.toNat - p'.toNat - 1 + 1)
    have q0 := h.p0
    have qn := h.pn
    rw [show p'.toNat + (n.toNat - p'.toNat - 1 + 1) = n.toNat by omega] at s1
    have s2 := (CB_le a b m (r + 1) p'.toNat).2
    have s3 : CB a (a * ((p'.toNat : Nat) : Int) + b) m (r + 1) (n.toNat - p'.toNat - 1 + 1) ≤ ((n.toNat - p'.toNat - 1 : Nat) : Int) := by
      unfold CB
      rw [sumZ_first, if_neg, Int.zero_add]
      · rw [show ((n.toNat - p'.toNat - 1 : Nat) : Int) = sumZ (fun _ => 1) (n.toNat - p'.toNat - 1) by rw [sumZ_const]; omega]
        have mono : ∀ k : Nat, sumZ (fun i => if (a * ((i + 1 : Nat) : Int) + (a * ((p'.toNat : Nat) : Int) + b)) % m < r + 1 then (1 : Int) else 0) k ≤ sumZ (fun _ => 1) k := by
          intro k
          induction k with
          | zero => exact Int.le_refl 0
          | succ k ih =>
            show _ + (if _ then (1 : Int) else 0) ≤ _ + 1
            have := (@ite01 ((a * ((k + 1 : Nat) : Int) + (a * ((p'.toNat : Nat) : Int) + b)) % m < r + 1) _).2
            omega
        exact mono _
      · rw [show a * ((0 : Nat) : Int) + (a * ((p'.toNat : Nat) : Int) + b) = a * p' + b by rw [show ((p'.toNat : Nat) : Int) = p' by omega]; simp]
        omega
    omega
  -- and p's own rest, seen in the mirror, is no less than r'
  have low : r ≤ (a * p' + b) % m := Int.le_of_not_gt fun c => by
    have : 0 < CB (0 - a) ((0 - b - 1) % m) m r' n.toNat := CB_pos p0 (by omega) (by rw [mir_line, rest_mir hm, g.at']; omega)
    have := l.2.1
    omega
  omega
end Z

namespace Z
open PySem PySem.Spec PyProof.Rows L2
variable {ω : Type}
/-! ### xs.extend(ys), xs an own list, ys a new one -/
def zExtO (i : Nat) (tf : TAZ ω) : TSZ ω := fun DE δ w => onOwn δ i fun l => tf δ w (fun m w1 => l.length + m.length ≤ 100000 ∧ DE.nx (δ.set i (.own (l ++ m))) w1) (fun e w' => DE.ex e δ w')
section
variable {X : Cx} {W : Wp ω} {pos pos' p : Pos} {x : Str} {e : Expr} {tf : TAZ ω}
theorem z_extO (i : Nat) {pm : Pos} (he : PFZ X W e tf) (hN : X.N[i]? = some x := by rfl) (hv : Vis X.env.scope x := by first | exact Or.inl rfl | exact Or.inr (Or.inl rfl) | exact Or.inr (Or.inr rfl)) (hd : (x == ("__debug__" : Str)) = false := by decide)
    (hcd : (x == ("__classdict__" : Str)) = false := by decide) (hs : swapsWith (.Call (.Attribute (.Name x p) "extend" pm) [e] [] pos') none pos.line X.env = pure false := by rfl)
    (hpe : ∀ {t : TE}, PE X e t → PE X (.Call (.Attribute (.Name x p) "extend" pm) [e] [] pos') (tBM X.K "list" rExtend (tVar i) (tCons t tNil)) := by
      intro t ht
      exact pe_bm PySem.F.plainAttrs_list PySem.F.slot_list_extend PySem.F.type_list_extend mt_extend (pv _) (pa_cons ht pa_nil)) :
    PSZ X W (.Expr (.Call (.Attribute (.Name x p) "extend" pm) [e] [] pos') pos) (zExtO i tf) := fun Z ex tk =>
  psI (ps_expr (hpe (he.run Z ex tk)) hs) fun DE σ H ⟨Dz, hex, EI, G, M, δ, w, a, h⟩ => by
  subst hex
  obtain ⟨l, hl, h⟩ := h.of
  obtain ⟨q, vs, h1, h2, h3, h4⟩ := a.own hl
  refine ⟨.ref q, h1, .inl ⟨rfl, _, SqL.of h2⟩, G, M, δ, w, a, he.mo (fun m w1 q1 p2 us H1 G1 M1 o1 r1 na => ?_) h⟩
  have a1 := a.go o1
  have r4 := h4.up o1.nx.gg
  refine ⟨q, p2, vs, us, rfl, rfl, o1.nx.fr q _ h2 h3, na.2.1, by rw [r4.len, r1.len, sizeLine_eq]; omega, EI.nx _ _ ⟨G1, M1, _, w1, a1.change hl h1 (r4.app r1), q1.2⟩⟩
end
/-! ### sorted(set(xs)), xs a list of ints -/
abbrev nset (w : World) : Obj := { cls := .type "set", dict := none, data := .set #[] 0 (.fresh 0 0 (!w.params.followText "set-order")) }
section
variable {P : Program} {w : World} {A : Around} {E : Value → Shared → Prop} {s : Shared}
theorem set_of_list {l : Addr} {items : Array Value} (ns : List Int) {Q : Value → Shared → Prop} (hh : A.handled = none) (hl : s.heap.IsList l items) (hit : IntsAre items.toList ns) (hb : ns.length + 1 < scanBound)
    (h : ∀ (h' : Heap) (tk c : Nat), SetR w h' s.heap.objs.size (fun j => decide (j ∈ ns)) c → c ≤ ns.length → (∀ b o, s.heap.get? b = some o → h'.get? b = some o) → Q (.ref s.heap.objs.size) { s with heap := h', toks := tk }) :
    wpAny (model P w) A (call (.type "set") [.ref l]) Q E s := by
  have sz : items.size = ns.length := by
    have q := IntsAre.length hit
    rwa [Array.length_toList] at q
  have lS : l < s.heap.objs.size := by obtain ⟨o, ho, _⟩ := hl; exact Heap.lt_size ho
  have up : ∀ b o, s.heap.get? b = some o → (s.heap.push (nset w)).get? b = some o := fun b o e => Heap.get?_push_of_some _ e
  have hS : (s.heap.push (nset w)).get? s.heap.objs.size = some (nset w) := Heap.get?_push_size _ rfl
  have hl1 : (s.heap.push (nset w)).IsList l items := hl.push _
  obtain ⟨c, tl, hmro⟩ := F.called_set.mro
  have hmade := F.called_set.made
  have hsub := F.called_set.sub
  refine wpAny_call (codeAny_of_tree ?_)
  show wpAny _ _ (callAny (.type "set") _) _ _ _
  refine wpAny_pure ⟨Code.quiet_builtin _ (by decide +kernel), codeAny_builtin F.entry_type_call ?_⟩
  rw [Around.under_plain (weight_type_call_type "set" [.ref l] []) rfl]
  have h1 := F.called_set.notType
  have h2 := F.called_set.canCreate
  have hct := F.typeCall_set_1 (.ref l)
  repeat (any_goals (first | assumption | wp_step))
  refine codeAny_mono (code_set_led1 (.ref l) (E := E) (Q₁ := fun obj t => obj = .ref s.heap.objs.size ∧ t = { s with heap := s.heap.push (nset w) }) ⟨rfl, rfl⟩) fun r t hr => ?_
  match r, hr with
  | .error e, hr => exact hr
  | .ok (.ret obj), hr =>
    obtain ⟨rfl, rfl⟩ := hr
    have hT : Shared.TypeIs { s with heap := s.heap.push (nset w) } (.ref s.heap.objs.size) "set" := ⟨_, hS, rfl⟩
    have hli := F.called_set.init.lookup
    have hbi := F.called_set.init.bind (.ref s.heap.objs.size)
    repeat (any_goals (first | assumption | wp_step))
    refine codeAny_mono (codeAny_call_builtin (R := wants (fun r u => r = .none ∧ ∃ h' tk c, u = { s with heap := h', toks := tk } ∧ SetR w h' s.heap.objs.size (fun j => decide (j ∈ ns)) c ∧ c ≤ ns.length ∧ (∀ b o, s.heap.get? b = some o → h'.get? b = some o)) E)
      F.called_set.init.plain F.entry_set_init (check_set_init_1 hT ?_)) fun r u hr => ?_
    · obtain ⟨ol, hol, hcl, nl, hdl⟩ := hl1
      have hl2 : (s.heap.push (nset w)).IsList l items := ⟨ol, hol, hcl, nl, hdl⟩
      obtain ⟨ocls, odict, odata, oslots⟩ := ol
      simp only at hcl hdl
      subst hcl; subst hdl
      have hsls := F.sub_list_set
      have hslf := F.sub_list_frozenset
      have hne : (Value.type "list" == Value.type "dict") = false := by decide
      unfold Builtin.«set.__init__» noKeywords Builtin.Frozenset.updateFrom
      generalize hPI : pyIter = PI
      wp_walk
      subst hPI
      refine wpAny_pyIter_list hl2 ?_
      refine wpAny_bind (wpAny_runValue ?_)
      have hh3 : A.in1.in1.in1.handled = none := by simp [hh]
      have z1 : (s.heap.push (nset w)).objs.size = s.heap.objs.size + 1 := Heap.size_push ..
      have away : ∀ b, b < s.heap.objs.size → b ≠ (s.heap.push (nset w)).objs.size := fun b hb => by rw [z1]; omega
      refine set_update_ints ((Walks.list hh3 _ l (away l lS) items).toS) s.heap.objs.size (by
        simp only [List.mem_cons, List.mem_singleton, List.not_mem_nil, or_false, not_or]
        exact ⟨Nat.ne_of_lt (by rw [Heap.size_push]; exact Nat.lt_succ_self _), Nat.ne_of_gt lS⟩) ns sz hb (fun i v hv => by
        have hi : i < ns.length := by rw [← sz]; exact (Array.getElem?_eq_some_iff.mp hv).1
        obtain ⟨t, e⟩ := PyProof.Rows.IntsAre.int_at hit i v (by rw [Array.getElem?_toList]; exact hv)
        refine ⟨ns[i], t, List.getElem?_eq_getElem hi, ?_⟩
        rw [e, List.getD_eq_getElem?_getD, List.getElem?_eq_getElem hi] <;> rfl) (items.size - 0) 0 _ (by omega) (Nat.zero_le _)
        ⟨⟨_, Heap.get?_push_size _ rfl, rfl, rfl⟩, (hl2.push _)⟩ ⟨0, Nat.le_refl 0, setR_new_at (Heap.get?_push_of_some _ hS)⟩ fun u c' hm hc' hS' => ?_
      obtain ⟨h', g2, d', tk', os'⟩ := u
      obtain rfl : g2 = s.gens := hm.gens
      obtain rfl : d' = s.drawn := hm.drawn
      obtain rfl : os' = s.os := hm.os
      show wpAny _ _ _ _ _ _
      refine wpAny_pure ?_
      show wpAny _ _ (ret Value.none) _ _ _
      refine wpAny_pure ⟨rfl, h', tk', c', rfl, hS', by rw [sz] at hc'; exact hc', fun b o e => ?_⟩
      have hb0 : b < s.heap.objs.size := Heap.lt_size e
      exact hm.heap b o (by simp only [List.mem_cons, List.mem_singleton, List.not_mem_nil, or_false, not_or]; exact ⟨Nat.ne_of_lt hb0, away b hb0⟩) (Heap.get?_push_of_some _ (up b o e))
    · match r, hr with
      | .error e, hr => exact hr
      | .ok (.ret r), hr =>
        obtain ⟨rfl, h', tk, c', rfl, hS', hc', hk'⟩ := hr
        repeat (any_goals (first | assumption | wp_step))
        exact h _ _ _ hS' hc' hk'
      | .ok .next, hr => exact hr.elim
  | .ok .next, hr => exact hr.elim
end
section
variable {X : Cx} {W : Wp ω} {pos p p2 pos2 : Pos} {e : Expr} {ta : TAZ ω}
/-- set(xs) -/
def rSetL1 (K : PySem.W.Frag) (w : World) : List V → Hp → VK → Prop := fun vs H Q => ∃ (l : Addr) (ns : List Int), vs = [.ref l] ∧ SqL K H l (ns.map V.int) ∧ ns.length < 64 ∧
  ∀ (q : Addr) (c : Nat), H q = none → c < 64 → Q (.ref q) (upd H q (SetO w q (fun j => decide (j ∈ ns)) c))
theorem cr_setL1 (hc : X.calm = true) : CallR X (.type "set") (rSetL1 X.K X.w) := by
  intro pins s σ H vs us Q I r h
  obtain ⟨l, ns, rfl, hq, h64, q⟩ := h
  rw [Vals.ref1 r]
  obtain ⟨its, rv, pl, hz⟩ := I.list hq
  refine set_of_list ns (I.ok.hd hc) pl.isList (by simpa using rv.ints) (by unfold scanBound; omega) fun h' tk c hS hc2 hk => ?_
  have hn : H s.heap.objs.size = none := I.hok.fresh (Nat.le_refl _)
  exact ⟨.ref _, upd H s.heap.objs.size (SetO X.w s.heap.objs.size (fun j => decide (j ∈ ns)) c), I.laid (t' := tk) (fun b u e => hk b u e) (Nat.le_refl _) (setO_new hS), rfl, q _ c hn (by omega)⟩
/-- what sorted(set(xs)) gives -/
def sset (l : List D) (q : List D → Prop) : Prop := oneD l fun d => match d with | .lst m => ∃ ns : List Int, m = ns.map D.int ∧ ns.length < 64 ∧ ∀ ns' : List Int, ns'.Pairwise (· < ·) → (∀ k, k ∈ ns' ↔ k ∈ ns) → ns'.length < 64 → q (ns'.map D.int) | _ => False
theorem z_sset (hm : X.mg "sorted" = none) (hm2 : X.mg "set" = none) (ha : PAZ X W [e] ta) (hc : X.calm = true := by rfl) (hg : Gl X "sorted" := by rfl) (hg2 : Gl X "set" := by rfl) (he : starEach [e] X.env = [(false, eval e X.env)] := by rfl)
    (he2 : starEach [Expr.Call (.Name "set" p2) [e] [] pos2] X.env = [(false, eval (.Call (.Name "set" p2) [e] [] pos2) X.env)] := by rfl) :
    PFZ X W (.Call (.Name "sorted" p) [.Call (.Name "set" p2) [e] [] pos2] [] pos) (zBF sset ta) :=
  ⟨fun k h => ha.mo (fun l w1 h1 => h1.imp fun d h => by
    split at h
    · obtain ⟨ns, h1, h2, h3⟩ := h; exact ⟨ns, h1, h2, fun m a b c => k _ _ (h3 m a b c)⟩
    · exact h.elim) h, fun Z ex tk => peI (pe_callB (cr_sortedSet hc) hg hm (by decide +kernel) (pa_cons (pe_callTy (cr_setL1 hc) hg2 hm2 (by decide +kernel) (ha.run Z ex tk) (by decide) (by decide) he rfl) pa_nil he2) (by decide) (by decide) he2 rfl) fun σ H Q ⟨G, M, δ, w, a, h⟩ => by
    refine ⟨G, M, δ, w, a, ha.mo (fun l w1 h1 vs H1 G1 M1 o1 r1 => ?_) h⟩
    obtain ⟨d, rfl, h2⟩ := h1.of
    obtain ⟨v, rfl, r⟩ := one_rep r1
    split at h2
    · obtain ⟨ns, rfl, h64, q⟩ := h2
      cases r with
      | @lst pl _ _ sq r =>
        obtain rfl := r.ints
        refine ⟨pl, ns, rfl, SqL.of (o1.pt.gh _ _ sq), h64, fun q1 c hq1 hc1 => ⟨q1, _, c, rfl, upd_same, hc1, fun ms q2 hs hmem hlen hq2 => ?_⟩⟩
        have g2 := (o1.laid (o := SetO X.w q1 (fun j => decide (j ∈ ns)) c) hq1)
        exact q ms hs (fun k => by rw [hmem k, decide_eq_true_iff]) (by omega) q2 _ _ _ _ (g2.laid hq2) (RepL.ofInts ms) (.of g2 a.pt.mh hq2)
    · exact h2.elim⟩
end
end Z

namespace Z
/-! ### points above and beneath lines, in whole numbers only -/
abbrev L3 := Int × Int × Int
def dnP (p : L3) : L3 := (0 - p.1, 0 - p.2.1, p.2.2)
def hh (x : Int) (p : L3) : Int := p.1 * x + p.2.1
def vl (x : Int) (p : L3) : Int := (p.1 * x + p.2.1) / p.2.2
def mn : List Int → Int
  | [] => 0
  | [a] => a
  | a :: b :: l => min a (mn (b :: l))
def mnL (x : Int) (ls : List L3) : Int := mn (ls.map (vl x))
theorem mn_spec : ∀ (l : List Int), l ≠ [] → mn l ∈ l ∧ ∀ y ∈ l, mn l ≤ y
  | [], h => absurd rfl h
  | [a], _ => ⟨List.mem_singleton.mpr rfl, fun y hy => by rw [List.mem_singleton.mp hy]; exact Int.le_refl _⟩
  | a :: b :: l, _ => by
    obtain ⟨h1, h2⟩ := mn_spec (b :: l) (by simp)
    have e : mn (a :: b :: l) = min a (mn (b :: l)) := rfl
    rw [e]
    refine ⟨?_, fun y hy => ?_⟩
    · rcases Int.le_total a (mn (b :: l)) with q | q
      · rw [Int.min_eq_left q]; exact List.mem_cons_self
      · rw [Int.min_eq_right q]; exact List.mem_cons_of_mem _ h1
    · rcases List.mem_cons.mp hy with rfl | hy
      · exact Int.min_le_left _ _
      · have := h2 y hy; have := Int.min_le_right a (mn (b :: l)); omega
theorem mn_uniq {l : List Int} {m : Int} (h : m ∈ l) (h2 : ∀ y ∈ l, m ≤ y) : m = mn l := by
  obtain ⟨a, b⟩ := mn_spec l (List.ne_nil_of_mem h)
  have := b m h
  have := h2 _ a
  omega
theorem vl_dn (x : Int) (p : L3) : vl x (dnP p) = (0 - p.1 * x - p.2.1) / p.2.2 := by
  unfold vl dnP
  rw [show (0 - p.1) * x + (0 - p.2.1) = 0 - p.1 * x - p.2.1 by rw [Int.sub_mul, Int.zero_mul]; omega]
theorem hh_dn (x : Int) (p : L3) : hh x (dnP p) = 0 - hh x p := by
  unfold hh dnP
  show (0 - p.1) * x + (0 - p.2.1) = _
  rw [Int.sub_mul, Int.zero_mul]; omega
theorem mn_dn {x M : Int} {be : List L3} (h : M ∈ be.map fun p => 0 - (0 - p.1 * x - p.2.1) / p.2.2) (h2 : ∀ y ∈ be.map (fun p => 0 - (0 - p.1 * x - p.2.1) / p.2.2), y ≤ M) : 0 - M = mnL x (be.map dnP) := by
  refine mn_uniq ?_ fun y hy => ?_
  · obtain ⟨p, hp, rfl⟩ := List.mem_map.mp h
    exact List.mem_map.mpr ⟨_, List.mem_map.mpr ⟨p, hp, rfl⟩, by rw [vl_dn]; omega⟩
  · obtain ⟨q, hq, rfl⟩ := List.mem_map.mp hy
    obtain ⟨p, hp, rfl⟩ := List.mem_map.mp hq
    have := h2 _ (List.mem_map.mpr ⟨p, hp, rfl⟩)
    rw [vl_dn]; omega
def roomB (ab be : List L3) (x : Int) : Bool := decide (0 ≤ mnL x ab + mnL x (be.map dnP))
def room (ab be : List L3) (x : Int) : Int := max 0 (mnL x ab + mnL x (be.map dnP) + 1)
/-- the points of the places lo, lo + 1, .., n of them -/
def pts (ab be : List L3) (lo : Int) (n : Nat) : Int := sumZ (fun i => room ab be (lo + (i : Int))) n
def EL (ab be : List L3) (lo : Int) (n : Nat) : List Int := ((List.range n).map fun i : Nat => lo + (i : Int)).filter (roomB ab be)
theorem EL_snoc (ab be : List L3) (lo : Int) (n : Nat) : EL ab be lo (n + 1) = EL ab be lo n ++ if roomB ab be (lo + n) then [lo + (n : Int)] else [] := by
  unfold EL
  rw [List.range_succ, List.map_append, List.filter_append]
  show _ ++ List.filter (roomB ab be) [lo + (n : Int)] = _
  rw [List.filter_cons]
  rfl
theorem EL_yes {ab be : List L3} {lo : Int} {n : Nat} (h : 0 ≤ mnL (lo + n) ab + mnL (lo + n) (be.map dnP)) : EL ab be lo (n + 1) = EL ab be lo n ++ [lo + (n : Int)] := by
  rw [EL_snoc, if_pos (show roomB ab be (lo + n) = true from decide_eq_true h)]
theorem EL_no {ab be : List L3} {lo : Int} {n : Nat} (h : ¬ 0 ≤ mnL (lo + n) ab + mnL (lo + n) (be.map dnP)) : EL ab be lo (n + 1) = EL ab be lo n := by
  rw [EL_snoc, if_neg (by unfold roomB; simpa using h), List.append_nil]
theorem EL_len (ab be : List L3) (lo : Int) (n : Nat) : (EL ab be lo n).length ≤ n := by
  unfold EL
  refine Nat.le_trans (List.length_filter_le _ _) ?_
  rw [List.length_map, List.length_range]; exact Nat.le_refl _
/-! lower lines -/
/-- p is not above q at x -/
def Lo (x : Int) (p q : L3) : Prop := hh x p * q.2.2 ≤ hh x q * p.2.2
instance (x : Int) (p q : L3) : Decidable (Lo x p q) := inferInstanceAs (Decidable (_ ≤ _))
theorem mul_le_cancel {a b c : Int} (hc : 0 < c) (h : a * c ≤ b * c) : a ≤ b := Int.le_of_mul_le_mul_right h hc
theorem mul_lt_cancel {a b c : Int} (hc : 0 < c) (h : a * c < b * c) : a < b := Int.lt_of_mul_lt_mul_right h (by omega)
theorem Lo.trans {x : Int} {p q r : L3} (hp : 0 < p.2.2) (hq : 0 < q.2.2) (hr : 0 < r.2.2) (h : Lo x p q) (g : Lo x q r) : Lo x p r := by
  unfold Lo at *
  have h1 := Int.mul_le_mul_of_nonneg_right h (show 0 ≤ r.2.2 by omega)
  have h2 := Int.mul_le_mul_of_nonneg_right g (show 0 ≤ p.2.2 by omega)
  refine mul_le_cancel hq ?_
  have e1 : hh x p * q.2.2 * r.2.2 = hh x p * r.2.2 * q.2.2 := by rw [Int.mul_right_comm]
  have e2 : hh x q * p.2.2 * r.2.2 = hh x q * r.2.2 * p.2.2 := by rw [Int.mul_right_comm]
  have e3 : hh x r * q.2.2 * p.2.2 = hh x r * p.2.2 * q.2.2 := by rw [Int.mul_right_comm]
  omega
theorem Lo.refl (x : Int) (p : L3) : Lo x p p := Int.le_refl _
theorem Lo.vl {x : Int} {p q : L3} (hp : 0 < p.2.2) (hq : 0 < q.2.2) (h : Lo x p q) : vl x p ≤ vl x q := by
  unfold Lo at h
  unfold Z.vl
  refine Int.le_ediv_of_mul_le hq (mul_le_cancel hp ?_)
  have h1 := Int.mul_le_mul_of_nonneg_right (Int.ediv_mul_le (p.1 * x + p.2.1) (show p.2.2 ≠ 0 by omega)) (show 0 ≤ q.2.2 by omega)
  have e : (p.1 * x + p.2.1) / p.2.2 * q.2.2 * p.2.2 = (p.1 * x + p.2.1) / p.2.2 * p.2.2 * q.2.2 := by rw [Int.mul_right_comm]
  unfold hh at h
  omega
theorem mnL_eq {x : Int} {p : L3} {ls : List L3} (hm : ∀ q ∈ ls, 0 < q.2.2) (hp : p ∈ ls) (h : ∀ q ∈ ls, Lo x p q) : mnL x ls = vl x p := by
  refine (mn_uniq (List.mem_map.mpr ⟨p, hp, rfl⟩) fun y hy => ?_).symm
  obtain ⟨q, hq, rfl⟩ := List.mem_map.mp hy
  exact (h q hq).vl (hm p hp) (hm q hq)
/-! cuts -/
def st (p q : L3) : Int := p.1 * q.2.2 - q.1 * p.2.2
def pl (p q : L3) : Int := (q.2.1 * p.2.2 - p.2.1 * q.2.2) / st p q
theorem Lo_iff (x : Int) (p q : L3) : Lo x p q ↔ st p q * x ≤ q.2.1 * p.2.2 - p.2.1 * q.2.2 := by
  unfold Lo hh st
  have e1 : (p.1 * x + p.2.1) * q.2.2 = p.1 * q.2.2 * x + p.2.1 * q.2.2 := by rw [Int.add_mul, Int.mul_right_comm]
  have e2 : (q.1 * x + q.2.1) * p.2.2 = q.1 * p.2.2 * x + q.2.1 * p.2.2 := by rw [Int.add_mul, Int.mul_right_comm]
  rw [e1, e2, Int.sub_mul]
  omega
/-- the cuts of lines between lo and hi -/
structure Cuts (ls : List L3) (lo hi : Int) (cs : List Int) : Prop where
  up : cs.Pairwise (· < ·)
  cl : lo ∈ cs
  ch : hi ∈ cs
  wi : ∀ c ∈ cs, lo ≤ c ∧ c ≤ hi
  cr : ∀ p ∈ ls, ∀ q ∈ ls, 0 < st p q → ∀ c, (c = pl p q ∨ c = pl p q + 1) → lo < c → c < hi → c ∈ cs
/-- s and e are neighbours among the cuts -/
structure Nb (ls : List L3) (s e : Int) : Prop where
  cr : ∀ p ∈ ls, ∀ q ∈ ls, 0 < st p q → ∀ c, (c = pl p q ∨ c = pl p q + 1) → ¬ (s < c ∧ c < e)
theorem Nb.stay {ls : List L3} {s e x : Int} {p q : L3} (h : Nb ls s e) (hp : p ∈ ls) (hq : q ∈ ls) (sx : s ≤ x) (xe : x < e) (l : Lo s p q) : Lo x p q := by
  rw [Lo_iff] at *
  by_cases c : 0 < st p q
  · have h1 : s ≤ pl p q := Int.le_ediv_of_mul_le c (by rw [Int.mul_comm]; exact l)
    by_cases k : x ≤ pl p q
    · have h2 := Int.mul_le_mul_of_nonneg_left k (show 0 ≤ st p q by omega)
      have h3 := Int.mul_ediv_self_le (x := q.2.1 * p.2.2 - p.2.1 * q.2.2) (show st p q ≠ 0 by omega)
      exact Int.le_trans h2 h3
    · exact absurd ⟨show s < pl p q + 1 by omega, by omega⟩ (h.cr p hp q hq c _ (.inr rfl))
  · have h1 := Int.mul_le_mul_of_nonpos_left (show st p q ≤ 0 by omega) sx
    omega
theorem Nb.stay2 {ls : List L3} {s e x : Int} {p q : L3} (h : Nb ls s e) (hp : p ∈ ls) (hq : q ∈ ls) (sx : s ≤ x) (xe : x < e) (l : ¬ Lo s q p) (hpm : 0 < p.2.2) (hqm : 0 < q.2.2) : ¬ Lo x q p := by
  have fl : ∀ y, Lo y q p ↔ q.2.1 * p.2.2 - p.2.1 * q.2.2 ≤ st p q * y := fun y => by
    rw [Lo_iff]
    have : st q p = - st p q := by unfold st; omega
    rw [this, Int.neg_mul]
    omega
  rw [fl] at *
  by_cases c : 0 < st p q
  · have h3 := Int.mul_ediv_self_le (x := q.2.1 * p.2.2 - p.2.1 * q.2.2) (show st p q ≠ 0 by omega)
    have e1 : (q.2.1 * p.2.2 - p.2.1 * q.2.2) / st p q = pl p q := rfl
    rw [e1] at h3
    have h1 : s ≤ pl p q := Int.le_ediv_of_mul_le c (by rw [Int.mul_comm]; omega)
    intro l2
    rcases Int.lt_or_le s x with hs | hs
    · have n1 := h.cr p hp q hq c (pl p q) (.inl rfl)
      have n2 := h.cr p hp q hq c (pl p q + 1) (.inr rfl)
      have hx : x ≤ pl p q - 1 := by omega
      have h2 := Int.mul_le_mul_of_nonneg_left hx (show 0 ≤ st p q by omega)
      rw [Int.mul_sub, Int.mul_one] at h2
      omega
    · have : x = s := by omega
      subst this
      exact l l2
  · have h1 := Int.mul_le_mul_of_nonpos_left (show st p q ≤ 0 by omega) sx
    omega
section
variable {ab be : List L3} {s e x : Int} {p b : L3}
theorem room_at (hm : ∀ q ∈ ab ++ be, 0 < q.2.2) (h : Nb (ab ++ be) s e) (hp : p ∈ ab) (hb : b ∈ be) (lp : ∀ q ∈ ab, Lo s p q) (lb : ∀ q ∈ be, Lo s q b) (sx : s ≤ x) (xe : x < e) :
    room ab be x = if Lo s b p then vl x p + vl x (dnP b) + 1 else 0 := by
  have pa : ∀ {q}, q ∈ ab → q ∈ ab ++ be := fun h => List.mem_append.mpr (.inl h)
  have pb : ∀ {q}, q ∈ be → q ∈ ab ++ be := fun h => List.mem_append.mpr (.inr h)
  have m1 := hm p (pa hp)
  have m2 := hm b (pb hb)
  have e1 : mnL x ab = vl x p := mnL_eq (fun q hq => hm q (pa hq)) hp fun q hq => h.stay (pa hp) (pa hq) sx xe (lp q hq)
  have e2 : mnL x (be.map dnP) = vl x (dnP b) := mnL_eq (fun q hq => by
    obtain ⟨r, hr, rfl⟩ := List.mem_map.mp hq
    exact hm r (pb hr)) (List.mem_map.mpr ⟨b, hb, rfl⟩) fun q hq => by
    obtain ⟨r, hr, rfl⟩ := List.mem_map.mp hq
    have := h.stay (pb hr) (pb hb) sx xe (lb r hr)
    unfold Lo at *
    rw [hh_dn, hh_dn]
    show (0 - hh x b) * r.2.2 ≤ (0 - hh x r) * b.2.2
    rw [Int.sub_mul, Int.sub_mul]
    omega
  unfold room
  rw [e1, e2]
  have d1 := Int.mul_ediv_add_emod (hh x p) p.2.2
  have d2 := Int.mul_ediv_add_emod (hh x (dnP b)) b.2.2
  have r1 := Int.emod_nonneg (hh x p) (show p.2.2 ≠ 0 by omega)
  have r2 := Int.emod_lt_of_pos (hh x p) m1
  have r3 := Int.emod_nonneg (hh x (dnP b)) (show b.2.2 ≠ 0 by omega)
  have r4 := Int.emod_lt_of_pos (hh x (dnP b)) m2
  have v1 : hh x p / p.2.2 = vl x p := rfl
  have v2 : hh x (dnP b) / b.2.2 = vl x (dnP b) := rfl
  rw [v1] at d1
  rw [v2] at d2
  have hpos : 0 < p.2.2 * b.2.2 := Int.mul_pos m1 m2
  have hd := hh_dn x b
  -- (hp) * bm and (-hb) * pm
  have k1 : p.2.2 * vl x p * b.2.2 ≤ hh x p * b.2.2 := Int.mul_le_mul_of_nonneg_right (by omega) (by omega)
  have k2 : b.2.2 * vl x (dnP b) * p.2.2 ≤ hh x (dnP b) * p.2.2 := Int.mul_le_mul_of_nonneg_right (by omega) (by omega)
  have k3 : hh x p * b.2.2 < (p.2.2 * vl x p + p.2.2) * b.2.2 := Int.mul_lt_mul_of_pos_right (by omega) m2
  have k4 : hh x (dnP b) * p.2.2 < (b.2.2 * vl x (dnP b) + b.2.2) * p.2.2 := Int.mul_lt_mul_of_pos_right (by omega) m1
  have g1 : p.2.2 * vl x p * b.2.2 = p.2.2 * b.2.2 * vl x p := by rw [Int.mul_right_comm]
  have g2 : b.2.2 * vl x (dnP b) * p.2.2 = p.2.2 * b.2.2 * vl x (dnP b) := by rw [Int.mul_right_comm, Int.mul_comm b.2.2 p.2.2]
  have g3 : (p.2.2 * vl x p + p.2.2) * b.2.2 = p.2.2 * b.2.2 * vl x p + p.2.2 * b.2.2 := by rw [Int.add_mul, g1]
  have g4 : (b.2.2 * vl x (dnP b) + b.2.2) * p.2.2 = p.2.2 * b.2.2 * vl x (dnP b) + p.2.2 * b.2.2 := by rw [Int.add_mul, g2, Int.mul_comm b.2.2 p.2.2]
  have g5 : hh x (dnP b) * p.2.2 = 0 - hh x b * p.2.2 := by rw [hd, Int.sub_mul, Int.zero_mul]
  by_cases c : Lo s b p
  · rw [if_pos c]
    have l := h.stay (pb hb) (pa hp) sx xe c
    unfold Lo at l
    have : 0 < p.2.2 * b.2.2 * (vl x p + vl x (dnP b) + 2) := by
      rw [Int.mul_add, Int.mul_add]; omega
    have := Int.pos_of_mul_pos_right this hpos
    omega
  · rw [if_neg c]
    have l := h.stay2 (pa hp) (pb hb) sx xe c m1 m2
    unfold Lo at l
    have : p.2.2 * b.2.2 * (vl x p + vl x (dnP b)) < 0 := by
      rw [Int.mul_add]; omega
    have : vl x p + vl x (dnP b) < 0 := by
      rcases Int.lt_or_le (vl x p + vl x (dnP b)) 0 with k | k
      · exact k
      · have := Int.mul_nonneg (show 0 ≤ p.2.2 * b.2.2 by omega) k
        omega
    omega
theorem FS_vl (p : L3) (s : Int) (n : Nat) : FS p.1 (p.1 * s + p.2.1) p.2.2 n = sumZ (fun i => vl (s + (i : Int)) p) n := by
  unfold FS vl
  refine sumZ_congr n fun i _ => ?_
  congr 1
  rw [Int.mul_add]; omega
/-- the points between neighbouring cuts -/
theorem pts_stretch (hm : ∀ q ∈ ab ++ be, 0 < q.2.2) (h : Nb (ab ++ be) s e) (hp : p ∈ ab) (hb : b ∈ be) (lp : ∀ q ∈ ab, Lo s p q) (lb : ∀ q ∈ be, Lo s q b) (se : s ≤ e) :
    pts ab be s (e - s).toNat = if Lo s b p then FS p.1 (p.1 * s + p.2.1) p.2.2 (e - s).toNat + FS (dnP b).1 ((dnP b).1 * s + (dnP b).2.1) (dnP b).2.2 (e - s).toNat + e - s else 0 := by
  have hr : ∀ i : Nat, i < (e - s).toNat → room ab be (s + (i : Int)) = if Lo s b p then vl (s + (i : Int)) p + vl (s + (i : Int)) (dnP b) + 1 else 0 := fun i hi => room_at hm h hp hb lp lb (by omega) (by omega)
  unfold pts
  rw [sumZ_congr _ hr]
  by_cases c : Lo s b p
  · simp only [if_pos c]
    rw [FS_vl, FS_vl, sumZ_add, sumZ_add, sumZ_const]
    omega
  · simp only [if_neg c]
    rw [sumZ_const]; omega
end
theorem pts_go (ab be : List L3) {lo s e : Int} (h1 : lo ≤ s) (h2 : s ≤ e) : pts ab be lo (e - lo).toNat = pts ab be lo (s - lo).toNat + pts ab be s (e - s).toNat := by
  unfold pts
  rw [show (e - lo).toNat = (s - lo).toNat + (e - s).toNat by omega, sumZ_split]
  congr 1
  refine sumZ_congr _ fun i _ => ?_
  congr 1
  omega
/-- neighbouring cuts -/
theorem Cuts.nb {ls : List L3} {lo hi : Int} {cs : List Int} (h : Cuts ls lo hi cs) {i : Nat} {s e : Int} (h1 : cs[i]? = some s) (h2 : cs[i + 1]? = some e) : s < e ∧ lo ≤ s ∧ e ≤ hi ∧ Nb ls s e := by
  obtain ⟨l1, rfl⟩ := List.getElem?_eq_some_iff.mp h1
  obtain ⟨l2, rfl⟩ := List.getElem?_eq_some_iff.mp h2
  have pw := List.pairwise_iff_getElem.mp h.up
  have w1 := h.wi _ (List.getElem_mem l1)
  have w2 := h.wi _ (List.getElem_mem l2)
  refine ⟨pw i (i + 1) l1 l2 (by omega), w1.1, w2.2, ⟨fun p hp q hq c x hx hc => ?_⟩⟩
  have hm := h.cr p hp q hq c x hx (by omega) (by omega)
  obtain ⟨j, hj, e⟩ := List.getElem_of_mem hm
  rcases Nat.lt_trichotomy j i with k | k | k
  · have := pw j i hj l1 k; omega
  · subst k; omega
  · rcases Nat.lt_or_ge (i + 1) j with k2 | k2
    · have := pw (i + 1) j l2 hj k2; omega
    · have : j = i + 1 := by omega
      subst this; omega
theorem Cuts.head {ls : List L3} {lo hi : Int} {cs : List Int} (h : Cuts ls lo hi cs) : cs[0]? = some lo := by
  obtain ⟨j, hj, e⟩ := List.getElem_of_mem h.cl
  have l0 : 0 < cs.length := by omega
  rw [List.getElem?_eq_getElem l0]
  rcases Nat.eq_zero_or_pos j with k | k
  · subst k; rw [e]
  · have := List.pairwise_iff_getElem.mp h.up 0 j l0 hj k
    have := (h.wi _ (List.getElem_mem l0)).1
    omega
theorem Cuts.last {ls : List L3} {lo hi : Int} {cs : List Int} (h : Cuts ls lo hi cs) : cs[cs.length - 1]? = some hi := by
  obtain ⟨j, hj, e⟩ := List.getElem_of_mem h.ch
  have l0 : cs.length - 1 < cs.length := by omega
  rw [List.getElem?_eq_getElem l0]
  rcases Nat.lt_or_ge j (cs.length - 1) with k | k
  · have := List.pairwise_iff_getElem.mp h.up j _ hj l0 k
    have := (h.wi _ (List.getElem_mem l0)).2
    omega
  · have : j = cs.length - 1 := by omega
    subst this; rw [e]
/-! how many cuts -/
def cS (p : L3) (ls : List L3) : Nat := (ls.filter fun q => decide (0 < st p q)).length
def cT (ks ls : List L3) : Nat := (ks.map fun p => cS p ls).sum
theorem st_flip (p q : L3) : st q p = - st p q := by unfold st; omega
theorem st_self (p : L3) : st p p = 0 := by unfold st; omega
theorem cS_cons (p x : L3) (r : List L3) : cS p (x :: r) = (if 0 < st p x then 1 else 0) + cS p r := by
  unfold cS
  rw [List.filter_cons]
  by_cases h : 0 < st p x
  · rw [if_pos (decide_eq_true h), if_pos h, List.length_cons]; omega
  · rw [if_neg (by simpa using h), if_neg h]; omega
theorem cT_cons (x : L3) (ls : List L3) : ∀ ks : List L3, cT ks (x :: ls) = (ks.map fun p => if 0 < st p x then 1 else 0).sum + cT ks ls
  | [] => rfl
  | p :: ks => by
    have ih := cT_cons x ls ks
    unfold cT at *
    rw [List.map_cons, List.sum_cons, List.map_cons, List.sum_cons, List.map_cons, List.sum_cons, cS_cons, ih]; omega
theorem cS_both (x : L3) : ∀ ls : List L3, cS x ls + (ls.map fun p => if 0 < st p x then 1 else 0).sum ≤ ls.length
  | [] => Nat.le_refl _
  | p :: ls => by
    have ih := cS_both x ls
    rw [cS_cons, List.map_cons, List.sum_cons, List.length_cons, st_flip p x]
    have := st_flip x p
    split <;> split <;> omega
theorem cT_le : ∀ ls : List L3, 2 * cT ls ls + ls.length ≤ ls.length * ls.length
  | [] => Nat.le_refl _
  | x :: r => by
    have ih := cT_le r
    have e : cT (x :: r) (x :: r) = cS x (x :: r) + cT r (x :: r) := by unfold cT; rw [List.map_cons, List.sum_cons]
    have b := cS_both x r
    rw [e, cS_cons, st_self, if_neg (by decide), cT_cons, List.length_cons]
    have : (r.length + 1) * (r.length + 1) = r.length * r.length + 2 * r.length + 1 := by rw [Nat.add_mul, Nat.mul_add]; omega
    omega
theorem cT_8 {ls : List L3} (h : ls.length ≤ 8) : cT ls ls ≤ 28 := by
  have := cT_le ls
  have := Nat.mul_le_mul_right ls.length h
  omega
theorem cT_take {ls ks : List L3} {i : Nat} {p : L3} (h : ks[i]? = some p) : cT (ks.take (i + 1)) ls = cT (ks.take i) ls + cS p ls := by
  unfold cT
  rw [List.take_add_one, h, List.map_append, List.sum_append]
  simp
theorem cS_take {p q : L3} {ls : List L3} {j : Nat} (h : ls[j]? = some q) : cS p (ls.take (j + 1)) = cS p (ls.take j) + if 0 < st p q then 1 else 0 := by
  unfold cS
  rw [List.take_add_one, h, List.filter_append, List.length_append]
  congr 1
  show (List.filter _ [q]).length = _
  rw [List.filter_cons]
  by_cases c : 0 < st p q
  · rw [if_pos (decide_eq_true c), if_pos c]; rfl
  · rw [if_neg (by simpa using c), if_neg c]; rfl
theorem cS_take_le (p : L3) (ls : List L3) (j : Nat) : cS p (ls.take j) ≤ cS p ls := by
  unfold cS
  exact ((List.take_sublist j ls).filter _).length_le
theorem cT_take_le (ks ls : List L3) (i : Nat) : cT (ks.take i) ls ≤ cT ks ls := by
  unfold cT
  rw [← List.take_append_drop i ks, List.map_append, List.sum_append]
  simp
end Z

namespace Z
open PySem PySem.Spec PyProof.Rows L2
variable {ω : Type}
/-! ### t + u and t[lo:hi], tuples of any length -/
def catD : OpD := fun x y q => match x, y with
  | .tup l, .tup m => l.length + m.length ≤ 100000 ∧ q (.tup (l ++ m))
  | _, _ => False
theorem l_catA {K : PySem.W.Frag} : Lnd K (rCatA K) catD where
  mo := fun {x y q q'} k h => by
    unfold catD at h ⊢
    split at h
    · exact ⟨h.1, k _ h.2⟩
    · exact h.elim
  go := fun H G x y dx dy q Q e rx ry h k k' => by
    unfold catD at h
    split at h
    · cases rx with
      | tup sx rx =>
        cases ry with
        | tup sy ry =>
          refine ⟨_, _, _, _, rfl, rfl, sqTE e sx, sqTE e sy, sz1 (by rw [rx.len, ry.len]; exact h.1), fun z => ?_, fun _ z => ?_, fun _ _ p hp => k' _ _ p h.2 hp (rx.app ry)⟩
          · have := rx.nil_iff.mp z
            subst this
            exact k _ _ h.2 (.tup sy ry)
          · have := ry.nil_iff.mp z
            subst this
            rw [List.append_nil] at h
            exact k _ _ h.2 (.tup sx rx)
    · exact h.elim
section
variable {X : Cx} {W : Wp ω} {pos p2 : Pos} {e : Expr} {lo hi : Option Expr} {te : TEZ ω} {tl th : TOZ ω}
def zSlTA (te : TEZ ω) (tl th : TOZ ω) : TEZ ω := fun δ w Q E => te δ w (fun d w1 => tl δ w1 (fun a w2 => th δ w2 (fun b w3 => match d with | .tup l => Q (.tup (cutD l a b)) w3 | _ => False) E) E) E
theorem cut_whole {α : Type} {l : List α} {lo hi : Option Int} (h : HT.sIx l.length 0 lo = 0 ∧ HT.sIx l.length l.length hi = l.length) : (l.drop (HT.sIx l.length 0 lo)).take (HT.sIx l.length l.length hi - HT.sIx l.length 0 lo) = l := by
  rw [h.1, h.2]
  show l.take (l.length - 0) = l
  rw [Nat.sub_zero, List.take_length]
theorem z_slTA (he : PEZ X W e te) (hl : POZ X W lo tl) (hu : POZ X W hi th) : PEZ X W (.Subscript e (.Slice lo hi none p2) pos) (zSlTA te tl th) :=
  ⟨fun k h => he.mo (fun d _ h1 => hl.mo (fun _ _ h2 => hu.mo (fun _ _ h3 => by
    split at h3
    · exact k _ _ h3
    · exact h3.elim) h2) h1) h, fun Z ex tk => peI (pe_slice sl_tupA (he.run Z ex tk) (hl.run Z ex tk) (hu.run Z ex tk)) fun σ H Q ⟨G, M, δ, w, a, h⟩ =>
    ⟨G, M, δ, w, a, he.mo (fun d w1 h1 v H1 G1 M1 o1 r1 => ⟨G1, M1, δ, w1, a.go o1, hl.mo (fun lo w2 h2 H2 G2 M2 o2 => ⟨G2, M2, δ, w2, a.go (o1.tr o2), hu.mo (fun hi w3 h3 H3 G3 M3 o3 => by
      cases d with
      | tup l =>
        cases r1 with
        | @tup p vs _ s r =>
          have e3 := (o2.tr o3).nx.gg
          refine ⟨p, vs, rfl, sqTE (e3.tr o3.pt.gh) s, fun hw => ?_, fun _ p' hp => ?_⟩
          · rw [r.len] at hw
            have h4 : Q (.ref p) H3 := by
              have := h3 (.ref p) H3 G3 M3 ((o1.tr o2).tr o3)
              have e4 : cutD l lo hi = l := cut_whole hw
              rw [e4] at this
              exact this (.tup (sqTE e3 s) (r.up e3))
            exact h4
          · have r3 : RepL X.K G3 (cutV vs lo hi) (cutD l lo hi) := by
              unfold cutV cutD
              rw [r.len]
              exact (((r.up e3).drop _).take _)
            exact h3 (.ref p') _ _ _ (((o1.tr o2).tr o3).new hp) (.tup (SqT.of upd_same) (r3.up (o3.ext hp)))
      | _ => exact h3.elim) h2⟩) h1⟩) h⟩⟩
end
end Z

namespace Z
open PySem PySem.Spec PyProof.Rows L2 TL
/-! ### a number out of single figures -/
theorem dg1 {i : Int} (h0 : 0 ≤ i) (h1 : i < 10) : TL.tl (tx i) = [48 + i.toNat] := by
  have : i = 0 ∨ i = 1 ∨ i = 2 ∨ i = 3 ∨ i = 4 ∨ i = 5 ∨ i = 6 ∨ i = 7 ∨ i = 8 ∨ i = 9 := by omega
  rcases this with rfl | rfl | rfl | rfl | rfl | rfl | rfl | rfl | rfl | rfl <;> decide +kernel
theorem joinL_nil : ∀ ps : List (List Nat), TL.joinL [] ps = ps.flatten
  | [] => rfl
  | [p] => by show p = _; simp
  | p :: q :: ps => by
    show p ++ ([] ++ TL.joinL [] (q :: ps)) = _
    rw [joinL_nil (q :: ps)]
    rfl
theorem tl_digits : ∀ {is : List Int}, (∀ x ∈ is, 0 ≤ x ∧ x < 10) → ((is.map tx).map TL.tl).flatten = is.map fun i => 48 + i.toNat
  | [], _ => rfl
  | i :: is, h => by
    have ih := tl_digits (is := is) fun x hx => h x (List.mem_cons_of_mem _ hx)
    have hi := h i List.mem_cons_self
    rw [List.map_cons, List.map_cons, List.flatten_cons, ih, dg1 hi.1 hi.2]; rfl
theorem digs_sum : ∀ {is : List Int}, (∀ x ∈ is, 0 ≤ x ∧ x < 10) → ((is.map tx).map (·.length)).sum = is.length
  | [], _ => rfl
  | i :: is, h => by
    have ih := digs_sum (is := is) fun x hx => h x (List.mem_cons_of_mem _ hx)
    have hi := h i List.mem_cons_self
    have e : (tx i).length = 1 := by rw [TL.len_tl, dg1 hi.1 hi.2]; rfl
    rw [List.map_cons, List.map_cons, List.sum_cons, ih, e, List.length_cons]; omega
theorem dv_lt : ∀ (cs : List Nat) (acc : Nat), (∀ c ∈ cs, 48 ≤ c ∧ c ≤ 57) → cs.foldl (fun acc c => acc * 10 + (c - 48)) acc < (acc + 1) * 10 ^ cs.length
  | [], acc, _ => by show acc < (acc + 1) * 1; omega
  | c :: cs, acc, h => by
    have ih := dv_lt cs (acc * 10 + (c - 48)) fun x hx => h x (List.mem_cons_of_mem _ hx)
    have hc := h c List.mem_cons_self
    show cs.foldl _ (acc * 10 + (c - 48)) < _
    refine Nat.lt_of_lt_of_le ih ?_
    rw [List.length_cons, Nat.pow_succ, Nat.mul_comm (10 ^ cs.length) 10, ← Nat.mul_assoc]
    exact Nat.mul_le_mul_right _ (by omega)
theorem join_digits {is : List Int} (hne : is ≠ []) (h : ∀ x ∈ is, 0 ≤ x ∧ x < 10) (h60 : is.length ≤ 60) : ∃ v : Int, PySem.intText? (Txt.join ("" : Str) (is.map tx)) = some v ∧ (Txt.join ("" : Str) (is.map tx)).length ≤ 640 ∧ (0 ≤ v ∧ v < 10 ^ 60) := by
  have e : TL.tl (Txt.join ("" : Str) (is.map tx)) = is.map fun i => 48 + i.toNat := by
    rw [TL.join_eq, TL.tl_join, show TL.tl ("" : Str) = [] by decide, joinL_nil, tl_digits h]
  have hl : (Txt.join ("" : Str) (is.map tx)).length = is.length := by rw [TL.len_tl, e, List.length_map]
  have hd : ∀ c ∈ TL.tl (Txt.join ("" : Str) (is.map tx)), 48 ≤ c ∧ c ≤ 57 := fun c hc => by
    rw [e] at hc
    obtain ⟨i, hi, rfl⟩ := List.mem_map.mp hc
    have := h i hi
    omega
  refine ⟨_, PySem.intText_digits hd (fun z => ?_) (by rw [hl]; omega), by rw [hl]; omega, Int.natCast_nonneg _, ?_⟩
  · have z2 : TL.tl (Txt.join ("" : Str) (is.map tx)) = [] := z
    rw [e] at z2
    exact hne (List.map_eq_nil_iff.mp z2)
  · have b := dv_lt _ 0 hd
    have e2 : (TL.tl (Txt.join ("" : Str) (is.map tx))).length = is.length := by rw [e, List.length_map]
    rw [e2] at b
    have b2 : (10 : Nat) ^ is.length ≤ 10 ^ 60 := Nat.pow_le_pow_right (by decide) h60
    have b3 : NumText.digitsVal (TL.tl (Txt.join ("" : Str) (is.map tx))) < 10 ^ 60 := Nat.lt_of_lt_of_le b (by omega)
    show ((NumText.digitsVal (TL.tl (Txt.join ("" : Str) (is.map tx))) : Nat) : Int) < 10 ^ 60
    exact_mod_cast b3
end Z

namespace Z
/-! ### papers: the rows of a sum -/
abbrev Rw := Int × Int × Int × Int
/-- how many turned places row r has -/
def manyR (r : Rw) : Int := (r.2.1 % r.2.2.2 * r.1 + r.2.2.1 % r.2.2.2) / r.2.2.2
/-- the row behind r -/
def nextR (r : Rw) : Rw := (manyR r, (r.2.2.2, (r.2.1 % r.2.2.2 * r.1 + r.2.2.1 % r.2.2.2) % r.2.2.2, r.2.1 % r.2.2.2))
def ownR (r : Rw) : Int := r.2.1 / r.2.2.2 * tri r.1 + r.2.2.1 / r.2.2.2 * r.1
def sumR (r : Rw) : Int := FS r.2.1 r.2.2.1 r.2.2.2 r.1.toNat
inductive PChn : Rw → List Rw → Prop
  | last {r : Rw} : manyR r = 0 → PChn r [r]
  | more {r : Rw} {l : List Rw} : manyR r ≠ 0 → PChn (nextR r) l → PChn r (r :: l)
structure RwOk (s : Nat) (r : Rw) : Prop where
  m1 : 1 ≤ r.2.2.2
  n0 : 0 ≤ r.1
  sa : Sm s r.2.1
  sb : Sm s r.2.2.1
  sm : Sm s r.2.2.2
  sn : Sm s r.1
section
variable {s : Nat} {r : Rw}
theorem RwOk.rests (h : RwOk s r) : (0 ≤ r.2.1 % r.2.2.2 ∧ r.2.1 % r.2.2.2 < r.2.2.2) ∧ (0 ≤ r.2.2.1 % r.2.2.2 ∧ r.2.2.1 % r.2.2.2 < r.2.2.2) := by
  have := h.m1
  exact ⟨⟨Int.emod_nonneg _ (by omega), Int.emod_lt_of_pos _ (by omega)⟩, Int.emod_nonneg _ (by omega), Int.emod_lt_of_pos _ (by omega)⟩
theorem RwOk.many (h : RwOk s r) : 0 ≤ manyR r ∧ manyR r ≤ r.1 := by
  obtain ⟨⟨a0, a1⟩, b0, b1⟩ := h.rests
  have m1 := h.m1
  have n0 := h.n0
  unfold manyR
  have p0 : 0 ≤ r.2.1 % r.2.2.2 * r.1 := Int.mul_nonneg a0 n0
  refine ⟨Int.ediv_nonneg (by omega) (by omega), ?_⟩
  have h1 : r.2.1 % r.2.2.2 * r.1 ≤ (r.2.2.2 - 1) * r.1 := Int.mul_le_mul_of_nonneg_right (by omega) n0
  rw [Int.sub_mul, Int.one_mul] at h1
  have h2 : (r.2.1 % r.2.2.2 * r.1 + r.2.2.1 % r.2.2.2) < (r.1 + 1) * r.2.2.2 := by
    rw [Int.add_mul, Int.one_mul, Int.mul_comm r.1]; omega
  have := (Int.ediv_lt_iff_lt_mul (show 0 < r.2.2.2 by omega)).mpr h2
  omega
theorem RwOk.pos (h : RwOk s r) (hm : manyR r ≠ 0) : 1 ≤ r.2.1 % r.2.2.2 := by
  obtain ⟨⟨a0, a1⟩, b0, b1⟩ := h.rests
  rcases Int.lt_or_eq_of_le a0 with q | q
  · omega
  · refine absurd ?_ hm
    unfold manyR
    rw [← q, Int.zero_mul, Int.zero_add]
    exact Int.ediv_eq_zero_of_lt b0 b1
theorem RwOk.next (h : RwOk s r) (hm : manyR r ≠ 0) : RwOk s (nextR r) := by
  obtain ⟨⟨a0, a1⟩, b0, b1⟩ := h.rests
  have m1 := h.m1
  have r0 := Int.emod_nonneg (r.2.1 % r.2.2.2 * r.1 + r.2.2.1 % r.2.2.2) (show r.2.2.2 ≠ 0 by omega)
  have r1 := Int.emod_lt_of_pos (r.2.1 % r.2.2.2 * r.1 + r.2.2.1 % r.2.2.2) (show 0 < r.2.2.2 by omega)
  exact ⟨h.pos hm, h.many.1, h.sm, h.sm.of_le r0 (Int.le_of_lt r1), h.sm.of_le a0 (Int.le_of_lt a1), h.sn.of_le h.many.1 h.many.2⟩
theorem RwOk.sum_last (h : RwOk s r) (hm : manyR r = 0) : sumR r = ownR r := by
  obtain ⟨⟨a0, a1⟩, b0, b1⟩ := h.rests
  have e := FS_laid (show 0 < r.2.2.2 by have := h.m1; omega) r.2.1 r.2.2.1 r.1.toNat
  have hn : ((r.1.toNat : Nat) : Int) = r.1 := by have := h.n0; omega
  rw [FS_none a0 a1 b0 b1 (by rw [hn]; exact hm), hn] at e
  unfold sumR ownR
  omega
theorem RwOk.sum_more (h : RwOk s r) (hm : manyR r ≠ 0) : sumR r = ownR r + sumR (nextR r) := by
  obtain ⟨⟨a0, a1⟩, b0, b1⟩ := h.rests
  have e := FS_laid (show 0 < r.2.2.2 by have := h.m1; omega) r.2.1 r.2.2.1 r.1.toNat
  have hn : ((r.1.toNat : Nat) : Int) = r.1 := by have := h.n0; omega
  have t := FS_turn (show 0 < r.2.1 % r.2.2.2 by have := h.pos hm; omega) a1 b0 b1 r.1.toNat
  rw [hn] at e t
  have t2 : sumR (nextR r) = FS r.2.2.2 ((r.2.1 % r.2.2.2 * r.1 + r.2.2.1 % r.2.2.2) % r.2.2.2) (r.2.1 % r.2.2.2) ((r.2.1 % r.2.2.2 * r.1 + r.2.2.1 % r.2.2.2) / r.2.2.2).toNat := rfl
  rw [t2, ← t]
  unfold sumR ownR
  omega
end
theorem pchn_ex {s : Nat} : ∀ (k : Nat) (r : Rw), RwOk s r → r.2.2.2 ≤ k → ∃ l, PChn r l ∧ ∀ q ∈ l, RwOk s q
  | 0, r, h, hk => by have := h.m1; omega
  | k + 1, r, h, hk => by
    by_cases hm : manyR r = 0
    · exact ⟨[r], .last hm, fun q hq => by rw [List.mem_singleton.mp hq]; exact h⟩
    · have h2 := h.next hm
      have lt : (nextR r).2.2.2 ≤ k := by have := h.rests.1.2; show r.2.1 % r.2.2.2 ≤ k; omega
      obtain ⟨l, hl, hq⟩ := pchn_ex k (nextR r) h2 lt
      exact ⟨r :: l, .more hm hl, fun q hq2 => (List.mem_cons.mp hq2).elim (fun e => e ▸ h) (hq q)⟩
theorem PChn.uniq {r : Rw} {l : List Rw} (h : PChn r l) : ∀ {k : List Rw}, PChn r k → l = k := by
  induction h with
  | last hm =>
    intro k hk
    cases hk with
    | last _ => rfl
    | more hm2 _ => exact absurd hm hm2
  | more hm _ ih =>
    intro k hk
    cases hk with
    | last hm2 => exact absurd hm2 hm
    | more _ hk2 => rw [ih hk2]
/-- the sum of a row, told by the rows behind it -/
theorem PChn.sums {s : Nat} {r : Rw} {l : List Rw} (h : PChn r l) : (∀ q ∈ l, RwOk s q) → ∀ (i : Nat) (q : Rw), l[i]? = some q → sumR q = ownR q + (match l[i + 1]? with | some p => sumR p | none => 0) := by
  induction h with
  | @last r hm =>
    intro hq i q hi
    cases i with
    | zero =>
      cases hi
      show sumR r = ownR r + 0
      rw [(hq r List.mem_cons_self).sum_last hm]; omega
    | succ i => exact absurd hi (by simp)
  | @more r l hm hc ih =>
    intro hq i q hi
    cases i with
    | zero =>
      cases hi
      rw [(hq r List.mem_cons_self).sum_more hm]
      cases hc with
      | last _ => rfl
      | more _ _ => rfl
    | succ i => exact ih (fun q hq2 => hq q (List.mem_cons_of_mem _ hq2)) i q hi
theorem PChn.len {s : Nat} : ∀ (k : Nat) {r : Rw} {l : List Rw}, PChn r l → (∀ q ∈ l, RwOk s q) → r.2.2.2 < 2 ^ k → l.length ≤ 2 * k
  | 0, r, l, h, hq, hk => by
    have hk : r.2.2.2 < 1 := hk
    have hr : r ∈ l := by cases h <;> exact List.mem_cons_self
    have := (hq r hr).m1
    omega
  | k + 1, r, l, h, hq, hk => by
    cases h with
    | last _ => simp only [List.length_cons, List.length_nil]; omega
    | more hm h1 =>
      cases h1 with
      | last _ => simp only [List.length_cons, List.length_nil]; omega
      | more hm2 h2 =>
        have h0 := hq r List.mem_cons_self
        have p := h0.pos hm
        have lt := h0.rests.1.2
        have e : (nextR (nextR r)).2.2.2 = r.2.2.2 % (r.2.1 % r.2.2.2) := rfl
        have d := Int.mul_ediv_add_emod r.2.2.2 (r.2.1 % r.2.2.2)
        have m1 := Int.emod_lt_of_pos r.2.2.2 (show 0 < r.2.1 % r.2.2.2 by omega)
        have g : 1 ≤ r.2.2.2 / (r.2.1 % r.2.2.2) := Int.le_ediv_of_mul_le (by omega) (by omega)
        have g2 := Int.mul_le_mul_of_nonneg_left g (show 0 ≤ r.2.1 % r.2.2.2 by omega)
        rw [Int.mul_one] at g2
        have ih := PChn.len k h2 (fun q hq2 => hq q (List.mem_cons_of_mem _ (List.mem_cons_of_mem _ hq2))) (by
          rw [e]
          have : (2 : Int) ^ (k + 1) = 2 * 2 ^ k := by rw [Int.pow_succ, Int.mul_comm]
          omega)
        simp only [List.length_cons]
        omega
def headS (l : List Rw) : Int := match l[0]? with | some p => sumR p | none => 0
theorem PChn.head {r : Rw} {l : List Rw} (h : PChn r l) : l[0]? = some r := by cases h <;> rfl
end Z

namespace Z
open PySem PySem.Spec PyProof.Rows L2
variable {ω : Type}
/-! ### sorted of pairs of whole numbers -/
def lexLe (p q : Int × Int) : Prop := p.1 < q.1 ∨ (p.1 = q.1 ∧ p.2 ≤ q.2)
/-- x stands for the pair p -/
def PrV (K : PySem.W.Frag) (H : Hp) (x : V) (p : Int × Int) : Prop := ∃ t, x = V.ref t ∧ SqT K H t [.int p.1, .int p.2]
inductive PrL (K : PySem.W.Frag) (H : Hp) : List V → List (Int × Int) → Prop
  | nil : PrL K H [] []
  | cons {x : V} {p : Int × Int} {xs : List V} {ps : List (Int × Int)} : PrV K H x p → PrL K H xs ps → PrL K H (x :: xs) (p :: ps)
def rSortedQ (K : PySem.W.Frag) : List V → Hp → VK → Prop := fun vs H Q => ∃ (a : Addr) (xs : List V) (ps : List (Int × Int)), vs = [V.ref a] ∧ SqL K H a xs ∧ PrL K H xs ps ∧
  ∀ (zs : List (V × (Int × Int))) p, zs.Perm (xs.zip ps) → (zs.map (·.2)).Pairwise lexLe → H p = none → Q (.ref p) (upd H p (.lst (zs.map (·.1))))
theorem prL_zip {K : PySem.W.Frag} {H : Hp} {k : V → Int × Int} (hk : ∀ x p, PrV K H x p → k x = p) : ∀ {xs : List V} {ps : List (Int × Int)}, PrL K H xs ps → xs.zip ps = xs.map (fun x => (x, k x)) ∧ ∀ x ∈ xs, ∃ p, PrV K H x p
  | _, _, .nil => ⟨rfl, fun _ h => nomatch h⟩
  | _, _, .cons h t => by
    obtain ⟨e, g⟩ := prL_zip hk t
    refine ⟨?_, fun y hy => ?_⟩
    · rw [List.zip_cons_cons, List.map_cons, e, hk _ _ h]
    · rcases List.mem_cons.mp hy with rfl | hy
      · exact ⟨_, h⟩
      · exact g y hy
theorem cr_sortedQ {X : Cx} : CallR X (.builtin "sorted") (rSortedQ X.K) := by
  intro pins s σ H vs us Q I r h
  obtain ⟨a, xs, ps, rfl, hs, hp, q⟩ := h
  obtain ⟨its, rv, hl, hz⟩ := I.list hs
  obtain ⟨u, rfl, ru⟩ := vals1 r
  obtain rfl : u = Value.ref a := ru
  have inj : ∀ x p p', PrV X.K H x p → PrV X.K H x p' → p = p' := fun x p p' ⟨t, e, h1⟩ ⟨t', e', h2⟩ => by
    rw [e] at e'
    cases e'
    have := I.tuple_inj h1 h2
    injection this with q1 q2
    injection q1 with q1
    injection q2 with q2 _
    injection q2 with q2
    exact Prod.ext q1 q2
  obtain ⟨k, hk⟩ : ∃ k : V → Int × Int, ∀ x p, PrV X.K H x p → k x = p := by
    refine ⟨fun x => (open Classical in if h : ∃ p, PrV X.K H x p then Classical.choose h else (0, 0)), fun x p hx => ?_⟩
    have h : ∃ p, PrV X.K H x p := ⟨p, hx⟩
    show (open Classical in if h : ∃ p, PrV X.K H x p then Classical.choose h else (0, 0)) = p
    rw [dif_pos h]
    exact inj x _ _ (Classical.choose_spec h) hx
  obtain ⟨ez, hx⟩ := prL_zip hk hp
  obtain ⟨e1, e2⟩ := refs_back rv fun x m => by
    obtain ⟨p, t, e, _⟩ := hx x m
    exact ⟨t, e⟩
  refine SrtO.sorted_pairsO (k := fun u => k (backV u)) hl.isList (by rw [← rv.length]; exact hz) (fun v hv => ?_) fun h' d out h1 h2 kp hd hn => ?_
  · obtain ⟨t, rfl⟩ := e2 v hv
    have hm : V.ref t ∈ xs := by rw [e1]; exact List.mem_map.mpr ⟨_, hv, rfl⟩
    obtain ⟨p, t', e, ht⟩ := hx _ hm
    have ek := hk _ _ ⟨t', e, ht⟩
    cases e
    obtain ⟨its2, r2, ⟨o, ho, hc, n, hd⟩, _⟩ := I.tuple ht
    obtain ⟨u1, u2, rfl, ri, rj⟩ := vals2 r2
    obtain ⟨t1, rfl⟩ := ri
    obtain ⟨t2, rfl⟩ := rj
    refine ⟨t, o, t1, t2, n, rfl, ho, hc, ?_⟩
    show o.data = .seq #[.int (k (.ref t)).1 t1, .int (k (.ref t)).2 t2] n
    rw [ek]
    exact hd
  · have h3 : ∀ u ∈ out, ∃ a, u = Value.ref a := fun u hu => e2 u (h2.perm.mem_iff.mp hu)
    obtain ⟨n, hn⟩ := hn
    have hb : SrtO.Stb (ltP k) (out.map backV) xs := by
      rw [e1]
      exact SrtO.Stb.map (ltP_swo k) backV h2
    have hsrt := SrtO.srtd_map (f := backV) (lt := ltP k) h1
    obtain ⟨ys, hys⟩ : ∃ ys, ys = out.map backV := ⟨_, rfl⟩
    rw [← hys] at hb hsrt
    have em : (ys.map fun x => (x, k x)).map (·.1) = ys := by rw [List.map_map]; exact List.map_id' _
    have es : (ys.map fun x => (x, k x)).map (·.2) = ys.map k := by rw [List.map_map]; rfl
    have fin := q (ys.map fun x => (x, k x)) d (by rw [ez]; exact hb.perm.map _) (by
      rw [es, List.pairwise_map]
      refine List.Pairwise.imp (fun {x y} (hxy : ltP k y x = false) => ?_) hsrt
      have := SrtO.lexB_no.mp hxy
      unfold lexLe
      omega) (I.hok.fresh hd)
    rw [em] at fin
    refine ⟨.ref d, upd H d (.lst ys), I.laid (t' := s.toks) kp hd ⟨?_, out, n, by rw [hys]; exact vals_back h3, hn⟩, rfl, fin⟩
    rw [hb.len]
    exact hz
def prD (p : Int × Int) : D := .tup [.int p.1, .int p.2]
def sortP (l : List D) (q : List D → Prop) : Prop := oneD l fun d => match d with | .lst m => ∃ ps : List (Int × Int), m = ps.map prD ∧ ∀ qs : List (Int × Int), qs.Perm ps → qs.Pairwise lexLe → q (qs.map prD) | _ => False
section
variable {K : PySem.W.Frag} {G H : Hp}
theorem prL_of (e : Ext G H) : ∀ {ps : List (Int × Int)} {xs : List V}, RepL K G xs (ps.map prD) → PrL K H xs ps ∧ ∀ z ∈ xs.zip ps, Rep K G z.1 (prD z.2)
  | [], _, r => by cases r; exact ⟨.nil, fun _ h => nomatch h⟩
  | p :: ps, _, r => by
    cases r with
    | cons r1 r2 =>
      obtain ⟨g1, g2⟩ := prL_of e r2
      refine ⟨.cons ?_ g1, fun z hz => ?_⟩
      · cases r1 with
        | tup s rr =>
          cases rr with
          | cons ra rb =>
            cases rb with
            | cons rb rc =>
              cases rc
              cases ra
              cases rb
              exact ⟨_, rfl, sqTE e s⟩
      · rw [List.zip_cons_cons] at hz
        rcases List.mem_cons.mp hz with rfl | hz
        · exact r1
        · exact g2 z hz
theorem repL_zs : ∀ {zs : List (V × (Int × Int))}, (∀ z ∈ zs, Rep K G z.1 (prD z.2)) → RepL K G (zs.map (·.1)) ((zs.map (·.2)).map prD)
  | [], _ => .nil
  | z :: zs, h => .cons (h z List.mem_cons_self) (repL_zs fun y hy => h y (List.mem_cons_of_mem _ hy))
theorem lf_sortP : LndF K (rSortedQ K) sortP where
  mo := fun k h => h.imp fun d h => by
    split at h
    · obtain ⟨ns, h1, h3⟩ := h; exact ⟨ns, h1, fun m a b => k _ (h3 m a b)⟩
    · exact h.elim
  go := fun H G vs l q Q e r h k => by
    have hh := h.of; clear h; obtain ⟨d, rfl, h⟩ := hh
    have rr := one_rep r; clear r; obtain ⟨v, rfl, r⟩ := rr
    split at h
    · obtain ⟨ps, rfl, h⟩ := h
      cases r with
      | @lst p xs _ s r =>
        obtain ⟨g1, g2⟩ := prL_of e r
        have hlen : ps.length = xs.length := by rw [r.len, List.length_map]
        refine ⟨_, xs, ps, rfl, .inl (.inl (e _ _ s)), g1, fun zs p hz hsrt hp => ?_⟩
        have hq := h (zs.map (·.2)) (by
          have := hz.map (·.2)
          rw [show (xs.zip ps).map (·.2) = ps from List.map_snd_zip (by omega)] at this
          exact this) hsrt
        exact k _ _ p hq hp (repL_zs fun z hz' => g2 z (hz.mem_iff.mp hz'))
    · exact h.elim
end
section
variable {X : Cx} {W : Wp ω} {pos p : Pos} {e : Expr} {ta : TAZ ω}
theorem z_sortP (hm : X.mg "sorted" = none) (ha : PAZ X W [e] ta) (hg : Gl X "sorted" := by rfl) (he : starEach [e] X.env = [(false, eval e X.env)] := by rfl) : PFZ X W (.Call (.Name "sorted" p) [e] [] pos) (zBF sortP ta) := z_bif cr_sortedQ lf_sortP hm (by decide +kernel) ha hg (by decide) (by decide) he rfl
end
end Z

namespace Z
open PySem PySem.Spec PyProof.Rows L2
variable {ω : Type}
/-! ### list(range(n)) -/
def zRngL (ta : TEZ ω) : TAZ ω := fun δ w Q E => ta δ w (fun x w1 => intD x fun n => (-1000000 ≤ n ∧ n ≤ 1000000) ∧ Q (rngD 0 n.toNat) w1) E
theorem repL_rng {K : PySem.W.Frag} {G : Hp} (n : Int) : RepL K G (rgV 0 n) (rngD 0 n.toNat) := by
  unfold rgV rngD
  rw [Int.sub_zero]
  generalize List.range n.toNat = l
  induction l with
  | nil => exact .nil
  | cons i l ih => exact .cons (.int _) ih
theorem z_rngL {X : Cx} {W : Wp ω} {a : Expr} {ta : TEZ ω} {p q p2 pos : Pos} (hm : X.mg "list" = none) (hm2 : X.mg "range" = none) (ha : PEZ X W a ta) (hc : X.calm = true := by rfl) (hg : Gl X "list" := by rfl) (hg2 : Gl X "range" := by rfl)
    (na2 : starEach [a] X.env = (false, eval a X.env) :: starEach [] X.env := by rfl) (na : starEach [.Call (.Name "range" q) [a] [] p2] X.env = (false, eval (.Call (.Name "range" q) [a] [] p2) X.env) :: starEach [] X.env := by rfl) :
    PFZ X W (.Call (.Name "list" p) [.Call (.Name "range" q) [a] [] p2] [] pos) (zRngL ta) :=
  ⟨fun k h => ha.mo (fun _ _ h1 => h1.imp fun n h2 => ⟨h2.1, k _ _ h2.2⟩) h, fun Z ex tk => peI (pe_listRg hc hg hm (prg_1 hg2 hm2 (ha.run Z ex tk) na2) na) fun σ H Q ⟨G, M, δ, w, s, h⟩ =>
    ⟨G, M, δ, w, s, ha.mo (fun d w1 h1 v H1 G1 M1 o1 r1 => by
      obtain ⟨n, rfl, ⟨h2, h3⟩, h4⟩ := h1.of
      cases r1
      exact ⟨n, rfl, ⟨by decide, by decide, by omega, by omega, by omega⟩, fun p' hp => h4 p' _ _ _ _ (o1.laid hp) (repL_rng n) (.of o1 s.pt.mh hp)⟩) h⟩⟩
end Z

namespace Z
open PySem PySem.Spec PyProof.Rows L2 TL
open PySem.NumText (AllDigits digitsVal)
/-! ### which texts write whole numbers -/
theorem dv_snoc (g : List Nat) (c : Nat) : digitsVal (g ++ [c]) = digitsVal g * 10 + (c - 48) := by
  unfold digitsVal
  rw [List.foldl_append]; rfl
theorem canon : ∀ (k : Nat) (f : List Nat), f.length = k → f ≠ [] → AllDigits f → f.head? ≠ some 48 → numL (digitsVal f) = f ∧ 0 < digitsVal f ∧ digitsVal f < 10 ^ k
  | 0, f, hl, hn, _, _ => absurd (List.eq_nil_of_length_eq_zero hl) hn
  | k + 1, f, hl, hn, hd, hh => by
    rcases List.eq_nil_or_concat f with h | ⟨g, c, h⟩
    · exact absurd h hn
    · rw [List.concat_eq_append] at h
      subst h
      have hc := hd c (List.mem_append_right _ (List.mem_singleton.mpr rfl))
      have hg : g.length = k := by rw [List.length_append, List.length_singleton] at hl; omega
      by_cases g0 : g = []
      · subst g0
        have c0 : c ≠ 48 := fun e => hh (by rw [e]; rfl)
        rw [dv_snoc]
        have e : digitsVal ([] : List Nat) = 0 := rfl
        rw [e]
        have k0 : k = 0 := by rw [← hg]; rfl
        subst k0
        refine ⟨?_, by omega, by omega⟩
        rw [numL_lt (by omega)]
        show [48 + (0 * 10 + (c - 48))] = [c]
        congr 1; omega
      · have hgh : g.head? ≠ some 48 := fun e => hh (by cases g with | nil => exact absurd rfl g0 | cons a g => exact e)
        obtain ⟨h1, h2, h3⟩ := canon k g hg g0 (fun x hx => hd x (List.mem_append_left _ hx)) hgh
        rw [dv_snoc]
        refine ⟨?_, by omega, by rw [Nat.pow_succ]; omega⟩
        rw [numL_step (by omega), show (digitsVal g * 10 + (c - 48)) / 10 = digitsVal g by omega, show (digitsVal g * 10 + (c - 48)) % 10 = c - 48 by omega, h1]
        congr 2; omega
def digB (l : List Nat) : Bool := l.all fun c => decide (48 ≤ c ∧ c ≤ 57)
theorem digB_all {l : List Nat} (h : digB l = true) : AllDigits l := fun c hc => of_decide_eq_true (List.all_eq_true.mp h c hc)
theorem digB_of {l : List Nat} (h : AllDigits l) : digB l = true := List.all_eq_true.mpr fun c hc => decide_eq_true (h c hc)
/-- the figures of a word -/
def figL (l : List Nat) : List Nat := if l.head? = some 45 then l.tail else l
def numL? (l : List Nat) : Bool := !(figL l).isEmpty && (decide ((figL l).length ≤ 60) && (digB (figL l) && (decide ((figL l).head? ≠ some 48) || decide (l = [48]))))
def numB (t : Str) : Bool := numL? (tl t)
def cntB (t : Str) : Bool := numB t && decide ((tl t).head? ≠ some 45)
theorem numL_hd (n : Nat) : (numL n).head? = some 48 → n = 0 := fun h => by
  obtain ⟨c, r, e1, e2⟩ := numL_head n
  rw [e1] at h
  exact e2 (Option.some.inj h)
theorem numL_no45 (n : Nat) : (numL n).head? ≠ some 45 := fun h => by
  obtain ⟨c, r, e1, e2⟩ := numL_head n
  rw [e1] at h
  have := numL_digits n c (by rw [e1]; exact List.mem_cons_self)
  have : c = 45 := Option.some.inj h
  omega
theorem numL_0 : numL 0 = [48] := numL_lt (by decide)
theorem tx_tl {i : Int} : tl (tx i) = if i < 0 then 45 :: numL i.natAbs else numL i.natAbs := by
  by_cases h : i < 0
  · rw [if_pos h, tl_tx_neg h]
  · rw [if_neg h, tx_nn (by omega)]; rfl
theorem figL_tx (i : Int) : figL (tl (tx i)) = numL i.natAbs := by
  rw [tx_tl]
  unfold figL
  by_cases h : i < 0
  · rw [if_pos h]; exact if_pos rfl
  · rw [if_neg h, if_neg (numL_no45 _)]
theorem numB_tx {i : Int} (h : i.natAbs < 10 ^ 60) : numB (tx i) = true := by
  unfold numB numL?
  rw [figL_tx]
  have h1 := numL_len (n := i.natAbs) (k := 60) (by decide) h
  have h2 : (numL i.natAbs).isEmpty = false := by
    have := numL_ne i.natAbs
    cases q : numL i.natAbs with
    | nil => exact absurd q this
    | cons _ _ => rfl
  rw [h2, decide_eq_true h1, digB_of (numL_digits _)]
  by_cases h0 : i = 0
  · subst h0
    have e : tl (tx 0) = [48] := by rw [tx_tl, if_neg (by decide)]; exact numL_0
    rw [decide_eq_true e, Bool.or_true]; rfl
  · have e : (numL i.natAbs).head? ≠ some 48 := fun e => h0 (by have := numL_hd _ e; omega)
    simp only [e, ne_eq, not_false_eq_true, decide_true, Bool.true_or]; rfl
theorem numB_is {t : Str} (h : numB t = true) : ∃ i : Int, t = tx i ∧ i.natAbs < 10 ^ 60 := by
  unfold numB numL? at h
  simp only [Bool.and_eq_true, Bool.or_eq_true, Bool.not_eq_true', decide_eq_true_eq] at h
  obtain ⟨h1, h2, h3, h4⟩ := h
  have hne : figL (tl t) ≠ [] := fun e => by rw [e] at h1; cases h1
  by_cases hm : (tl t).head? = some 45
  · have ef : figL (tl t) = (tl t).tail := if_pos hm
    have et : tl t = 45 :: figL (tl t) := by
      rw [ef]
      cases q : tl t with
      | nil => rw [q] at hm; cases hm
      | cons c r => rw [q] at hm; cases hm; rfl
    have h5 : (figL (tl t)).head? ≠ some 48 := h4.elim id fun e => by rw [e] at hm; cases hm
    obtain ⟨c1, c2, c3⟩ := canon _ _ rfl hne (digB_all h3) h5
    refine ⟨-((digitsVal (figL (tl t)) : Nat) : Int), ext_tl ?_, ?_⟩
    · rw [tx_tl, if_pos (by omega), Int.natAbs_neg, Int.natAbs_natCast, c1]; exact et
    · rw [Int.natAbs_neg, Int.natAbs_natCast]; exact Nat.lt_of_lt_of_le c3 (Nat.pow_le_pow_right (by decide) h2)
  · have ef : figL (tl t) = tl t := if_neg hm
    rw [ef] at hne h2 h3 h4
    rcases h4 with h5 | h5
    · obtain ⟨c1, c2, c3⟩ := canon _ _ rfl hne (digB_all h3) h5
      refine ⟨((digitsVal (tl t) : Nat) : Int), ext_tl ?_, ?_⟩
      · rw [tx_tl, if_neg (by omega), Int.natAbs_natCast, c1]
      · rw [Int.natAbs_natCast]; exact Nat.lt_of_lt_of_le c3 (Nat.pow_le_pow_right (by decide) h2)
    · exact ⟨0, ext_tl (by rw [h5, tx_tl, if_neg (by decide)]; exact numL_0.symm), by decide⟩
theorem tx_inj {i j : Int} (hi : Sm 1900 i) (hj : Sm 1900 j) (h : tx i = tx j) : i = j := by
  have a := tx_int hi
  rw [h, tx_int hj] at a
  exact (Option.some.inj a).symm
theorem sm60 {i : Int} (h : i.natAbs < 10 ^ 60) : Sm 200 i := Nat.lt_of_lt_of_le h (by decide)
theorem cntB_tx {i : Int} (h : i.natAbs < 10 ^ 60) : cntB (tx i) = decide (0 ≤ i) := by
  unfold cntB
  rw [numB_tx h, Bool.true_and, tx_tl]
  by_cases c : i < 0
  · rw [if_pos c, decide_eq_false (by omega : ¬ 0 ≤ i)]; exact decide_eq_false (fun e => e rfl)
  · rw [if_neg c, decide_eq_true (by omega : 0 ≤ i)]; exact decide_eq_true (numL_no45 _)
/-! all([..]) -/
def allC (l : List D) (q : D → Prop) : Prop := oneD l fun d => match d with | .lst m => ∃ bs : List Bool, m = bs.map D.bl ∧ q (.bl (bs.all id)) | _ => False
theorem lc_all {K : PySem.W.Frag} : LndC K (rAll K) allC where
  mo := fun k h => h.imp fun d h => by
    split at h
    · obtain ⟨bs, h1, h2⟩ := h; exact ⟨bs, h1, k _ h2⟩
    · exact h.elim
  go := fun H G vs l q Q e r h k _ => by
    have hh := h.of; clear h; obtain ⟨d, rfl, h⟩ := hh
    have rr := one_rep r; clear r; obtain ⟨v, rfl, r⟩ := rr
    split at h
    · obtain ⟨bs, rfl, h⟩ := h
      cases r with
      | lst s r =>
        obtain rfl := r.bls
        exact ⟨_, bs, rfl, .inl (.inl (e _ _ s)), k _ _ h (.bl _)⟩
    · exact h.elim
theorem z_all {ω : Type} {X : Cx} {W : Wp ω} {pos p : Pos} {e : Expr} {ta : TAZ ω} (hm : X.mg "all" = none) (ha : PAZ X W [e] ta) (hc : X.calm = true := by rfl) (hg : Gl X "all" := by rfl) (he : starEach [e] X.env = (false, eval e X.env) :: starEach [] X.env := by rfl) (hpl : (backTo pos (starEach [] X.env)).any (·.1) = false := by rfl) : PEZ X W (.Call (.Name "all" p) [e] [] pos) (zB1 allC ta) :=
  z_bi (cr_all hc) lc_all hm (by decide +kernel) ha hg (by decide) (by decide) he hpl
theorem slen_app (x y : Str) : (x ++ y).length = x.length + y.length := by rw [TL.len_tl, TL.tl_append, List.length_append, ← TL.len_tl, ← TL.len_tl]
end Z

namespace Z
open PySem PySem.Spec PyProof.Rows L2
/-! ### a world with one desk: an object that keeps a dict of texts; and lists that may change -/
structure Dk where
  ls : Mst
  ob : Option (Addr × Addr)
  kv : Str → Option D
  n : Nat
inductive RepO (K : PySem.W.Frag) (G : Hp) : Option V → Option D → Prop
  | none : RepO K G none none
  | some {v : V} {d : D} : Rep K G v d → RepO K G (some v) (some d)
theorem RepO.up {K : PySem.W.Frag} {G G' : Hp} {v : Option V} {d : Option D} (h : RepO K G v d) (f : Ext G G') : RepO K G' v d := by
  cases h with
  | none => exact .none
  | some r => exact .some (r.up f)
theorem RepO.is {K : PySem.W.Frag} {G : Hp} {v : Option V} {d : Option D} (h : RepO K G v d) : v.isSome = d.isSome := by cases h <;> rfl
def deskF (d : Addr) : List (Str × V) := [("lines", V.ref d)]
theorem deskF_get (d : Addr) : (deskF d).lookup ("lines" : Str) = some (.ref d) := rfl
theorem deskF_no (d : Addr) {m : Str} (h : (m == ("lines" : Str)) = false) : (deskF d).lookup m = none := by
  unfold deskF
  simp only [List.lookup, h]
structure DeskAt (K : PySem.W.Frag) (C : Addr) (w : Dk) (G M : Hp) (a d : Addr) : Prop where
  ob : ∃ dx, M a = some (.ins C dx (deskF d))
  dc : ∃ kvs : List (Key × V), M d = some (.dK kvs) ∧ kvs.length ≤ w.n ∧ ∀ s, RepO K G (valV kvs (.inr s)) (w.kv s)
structure okK (K : PySem.W.Frag) (C : Addr) (w : Dk) (G M : Hp) : Prop where
  ls : ∀ a l, wGet w.ls a = some l → ∃ vs, M a = some (.lst vs) ∧ RepL K G vs l
  dk : ∀ a d, w.ob = some (a, d) → DeskAt K C w G M a d
  dom : ∀ q o, M q = some o → (∃ l, wGet w.ls q = some l) ∨ ∃ a d, w.ob = some (a, d) ∧ (q = a ∨ q = d)
theorem DeskAt.mono {K : PySem.W.Frag} {C : Addr} {w : Dk} {G G' M : Hp} {a d : Addr} (h : DeskAt K C w G M a d) (f : Ext G G') : DeskAt K C w G' M a d := by
  obtain ⟨kvs, h1, h2, h3⟩ := h.dc
  exact ⟨h.ob, kvs, h1, h2, fun s => (h3 s).up f⟩
def WK (K : PySem.W.Frag) (C : Addr) (ec : Nat → Addr) : Wp Dk := ⟨okK K C, fun e h => ⟨fun a l g => let ⟨vs, h1, h2⟩ := h.ls a l g; ⟨vs, h1, h2.up e⟩, fun a d g => (h.dk a d g).mono e, h.dom⟩, ec⟩
section
variable {K : PySem.W.Frag} {C : Addr} {ec : Nat → Addr}
theorem okK.free {w : Dk} {G M : Hp} (h : okK K C w G M) {a : Addr} (e : M a = none) : wGet w.ls a = none := by
  cases q : wGet w.ls a with
  | none => rfl
  | some l =>
    obtain ⟨vs, h1, _⟩ := h.ls a l q
    rw [e] at h1; cases h1
theorem newK {H0 G0 M0 H G M : Hp} {w : Dk} {a : Addr} {m : List D} {us : List V} (o : Go (WK K C ec) H0 G0 M0 H G M w) (h0 : H0 a = none) (h1 : H a = some (.lst us)) (hG : G a = none) (hM : M a = none) (r : RepL K G us m) :
    Go (WK K C ec) H0 G0 M0 H G (upd M a (.lst us)) { w with ls := (a, m) :: w.ls } ∧ wGet w.ls a = none := by
  have wd : okK K C w G M := o.pt.wd
  have hw := wd.free hM
  have ne : ∀ {q : Addr} {x : HO}, M q = some x → q ≠ a := fun e k => by rw [k, hM] at e; cases e
  refine ⟨⟨⟨o.pt.gh, fun p x e => ?_, fun p x e => ?_, ⟨fun p l e => ?_, fun b d e => ?_, fun p x e => ?_⟩⟩, ⟨o.nx.gg, o.nx.fr, o.nx.gn, fun p x e e' => ?_, fun p x e => ?_⟩⟩, hw⟩
  · by_cases k : p = a
    · subst k; rw [upd_same] at e; rw [h1]; exact e
    · rw [upd_ne k] at e; exact o.pt.mh p x e
  · rw [upd_ne (ne_of_none e hG)]; exact o.pt.dj p x e
  · replace e : wGet ((a, m) :: w.ls) p = some l := e
    rw [wGet_cons] at e
    by_cases k : p = a
    · subst k
      rw [if_pos rfl] at e
      cases e
      exact ⟨us, upd_same, r⟩
    · rw [if_neg k] at e
      obtain ⟨vs, g1, g2⟩ := wd.ls p l e
      exact ⟨vs, by rw [upd_ne k]; exact g1, g2⟩
  · obtain ⟨⟨dx, g1⟩, kvs, g2, g3, g4⟩ := wd.dk b d e
    exact ⟨⟨dx, by rw [upd_ne (ne g1)]; exact g1⟩, kvs, by rw [upd_ne (ne g2)]; exact g2, g3, g4⟩
  · show (∃ l, wGet ((a, m) :: w.ls) p = some l) ∨ _
    rw [wGet_cons]
    by_cases k : p = a
    · rw [if_pos k]; exact .inl ⟨_, rfl⟩
    · rw [if_neg k]; rw [upd_ne k] at e; exact wd.dom p x e
  · by_cases k : p = a
    · subst k; exact h0
    · rw [upd_ne k] at e; exact o.nx.mn p x e e'
  · obtain ⟨y, e1⟩ := o.nx.m0 p x e
    by_cases k : p = a
    · subst k; exact ⟨_, upd_same⟩
    · exact ⟨y, by rw [upd_ne k]; exact e1⟩
/-- a new list of the world stands still from now on -/
theorem stillK {H G M H1 G1 M1 : Hp} {w w1 : Dk} {p : Addr} {l : List D} (a : Pt (WK K C ec) H G M w) (o : Go (WK K C ec) H G M H1 G1 M1 w1) (e1 : w1.ls = (p, l) :: w.ls) (e2 : wGet w.ls p = none) (e3 : w1.ob = w.ob) :
    ∃ vs, Go (WK K C ec) H G M H1 (upd G1 p (.lst vs)) (fun q => if q = p then none else M1 q) { w1 with ls := w.ls } ∧ Rep K (upd G1 p (.lst vs)) (.ref p) (.lst l) := by
  have wa : okK K C w G M := a.wd
  have wd : okK K C w1 G1 M1 := o.pt.wd
  obtain ⟨vs, m1, r1⟩ := wd.ls p l (by rw [e1, wGet_cons, if_pos rfl])
  have m0 : M p = none := by
    cases q : M p with
    | none => rfl
    | some x =>
      exfalso
      rcases wa.dom p x q with ⟨k, hk⟩ | ⟨b, d, hb, hp⟩
      · rw [e2] at hk; cases hk
      · obtain ⟨⟨dx, g1⟩, kvs, g2, -⟩ := wd.dk b d (e3.trans hb)
        rcases hp with rfl | rfl
        · rw [m1] at g1; cases g1
        · rw [m1] at g2; cases g2
  have h0 : H p = none := o.nx.mn p _ m1 m0
  have g0 : G1 p = none := by
    cases q : G1 p with
    | none => rfl
    | some x => have := o.pt.dj p x q; rw [m1] at this; cases this
  have gg : Ext G1 (upd G1 p (.lst vs)) := Ext.new g0
  have ca : ∀ q x, upd G1 p (.lst vs) q = some x → (q = p ∧ x = .lst vs) ∨ (q ≠ p ∧ G1 q = some x) := fun q x e => by
    by_cases k : q = p
    · subst k; rw [upd_same] at e; cases e; exact .inl ⟨rfl, rfl⟩
    · rw [upd_ne k] at e; exact .inr ⟨k, e⟩
  have cm : ∀ {q x}, (if q = p then none else M1 q) = some x → q ≠ p ∧ M1 q = some x := fun {q x} e => by
    by_cases k : q = p
    · rw [if_pos k] at e; cases e
    · rw [if_neg k] at e; exact ⟨k, e⟩
  have mc : ∀ {q x}, q ≠ p → M1 q = some x → (if q = p then none else M1 q) = some x := fun k e => by rw [if_neg k]; exact e
  refine ⟨vs, ⟨⟨fun q x e => ?_, fun q x e => o.pt.mh q x (cm e).2, fun q x e => ?_, ⟨fun b k e => ?_, fun b d e => ?_, fun q x e => ?_⟩⟩, ⟨o.nx.gg.tr gg, o.nx.fr, fun q x e e' => ?_, fun q x e e' => o.nx.mn q x (cm e).2 e', fun q x e => ?_⟩⟩, .lst upd_same (r1.up gg)⟩
  · rcases ca q x e with ⟨rfl, rfl⟩ | ⟨_, e⟩
    · exact o.pt.mh _ _ m1
    · exact o.pt.gh q x e
  · show (if q = p then none else M1 q) = none
    rcases ca q x e with ⟨rfl, rfl⟩ | ⟨k, e⟩
    · exact if_pos rfl
    · rw [if_neg k]; exact o.pt.dj q x e
  · replace e : wGet w.ls b = some k := e
    have kb : b ≠ p := fun z => by rw [z, e2] at e; cases e
    obtain ⟨us, g1, g2⟩ := wd.ls b k (by rw [e1, wGet_cons, if_neg kb]; exact e)
    exact ⟨us, mc kb g1, g2.up gg⟩
  · obtain ⟨⟨dx, g1⟩, kvs, g2, g3, g4⟩ := wd.dk b d e
    have n1 : b ≠ p := fun z => by rw [z, m1] at g1; cases g1
    have n2 : d ≠ p := fun z => by rw [z, m1] at g2; cases g2
    exact ⟨⟨dx, mc n1 g1⟩, kvs, mc n2 g2, g3, fun s => (g4 s).up gg⟩
  · obtain ⟨k, e⟩ := cm e
    rcases wd.dom q x e with ⟨l', hl⟩ | h
    · rw [e1, wGet_cons, if_neg k] at hl; exact .inl ⟨l', hl⟩
    · exact .inr h
  · rcases ca q x e with ⟨rfl, rfl⟩ | ⟨_, e⟩
    · exact h0
    · exact o.nx.gn q x e e'
  · obtain ⟨y, hy⟩ := o.nx.m0 q x e
    exact ⟨y, mc (fun z => by rw [z, m0] at e; cases e) hy⟩
/-- an object of the world changed in its place -/
theorem chgK {Z : Zx} {σ : L2.St} {H G M : Hp} {δ : List Sl} {w w' : Dk} {a : Addr} {o o' : HO} (s : SR K (WK K C ec) Z σ H G M δ w) (h : M a = some o) (ok : okK K C w' G (upd M a o')) : SR K (WK K C ec) Z σ (upd H a o') G (upd M a o') δ w' := by
  have hG : G a = none := by
    cases q : G a with
    | none => rfl
    | some x => rw [s.pt.dj a x q] at h; cases h
  have hM : ∀ p x, upd M a o' p = some x → M p ≠ none := fun p x e z => by
    by_cases k : p = a
    · rw [k, h] at z; cases z
    · rw [upd_ne k, z] at e; cases e
  refine s.next ⟨fun p x e => ?_, fun p x e => ?_, fun p x e => ?_, ok⟩ ⟨.rfl', fun p x e e' => ?_, fun p x e e' => (by rw [e] at e'; cases e'), fun p x e e' => absurd e' (hM p x e), fun p x e => ?_⟩
  · rw [upd_ne (ne_of_none e hG)]; exact s.pt.gh p x e
  · by_cases k : p = a
    · subst k; rw [upd_same] at e ⊢; exact e
    · rw [upd_ne k] at e ⊢; exact s.pt.mh p x e
  · rw [upd_ne (ne_of_none e hG)]; exact s.pt.dj p x e
  · rw [upd_ne (fun k => by rw [k, h] at e'; cases e')]; exact e
  · by_cases k : p = a
    · subst k; exact ⟨_, upd_same⟩
    · rw [upd_ne k]; exact ⟨x, e⟩
end
/-! rules: lists -/
def strD (d : D) (f : Str → Prop) : Prop := match d with | .str k => f k | _ => False
theorem strD.of {d : D} {f : Str → Prop} (h : strD d f) : ∃ k, d = .str k ∧ f k := by
  unfold strD at h
  split at h
  · exact ⟨_, rfl, h⟩
  · exact h.elim
theorem strD.imp {d : D} {f g : Str → Prop} (k : ∀ l, f l → g l) (h : strD d f) : strD d g := by obtain ⟨j, rfl, q⟩ := h.of; exact k _ q
def zNewK (tf : TAZ Dk) : TEZ Dk := fun δ w Q E => tf δ w (fun l w1 => ∀ p, wGet w1.ls p = none → Q (.ref p) { w1 with ls := (p, l) :: w1.ls }) E
def zUnK (te : TEZ Dk) : TEZ Dk := fun δ w Q E => te δ w (fun d w1 => onRef d fun p => ∃ l, w1.ls = (p, l) :: w.ls ∧ wGet w.ls p = none ∧ w1.ob = w.ob ∧ Q (.lst l) { w1 with ls := w.ls }) E
def zToK (i : Nat) (t : TSZ Dk) : TSZ Dk := fun DE δ w => onOwn δ i fun l => ∀ c, wGet w.ls c = none → t DE (δ.set i (.val (.ref c))) { w with ls := (c, l) :: w.ls }
section
variable {X : Cx} {C : Addr} {ec : Nat → Addr} {pos pos' apos p : Pos} {a b e o i : Expr} {es : List Expr} {ta te to ti : TEZ Dk} {tf tr : TAZ Dk}
theorem z_newK (h : PFZ X (WK X.K C ec) e tf) : PEZ X (WK X.K C ec) e (zNewK tf) := ⟨fun k q => h.mo (fun _ _ q1 p hp => k _ _ (q1 p hp)) q, fun Z ex tk => peI (h.run Z ex tk) fun σ H Q ⟨G, M, δ, w, s, q⟩ =>
  ⟨G, M, δ, w, s, h.mo (fun l w1 q1 p vs H1 G1 M1 o1 r1 n1 => by
    obtain ⟨o2, hw⟩ := newK (m := l) o1 n1.1 n1.2.1 n1.2.2.1 n1.2.2.2 r1
    exact q1 p hw (.ref p) H1 G1 _ o2 (.ref p)) q⟩⟩
theorem z_unK (h : PEZ X (WK X.K C ec) e te) : PEZ X (WK X.K C ec) e (zUnK te) := ⟨fun k q => h.mo (fun _ _ q1 => q1.imp fun p ⟨l, e1, e2, e3, q2⟩ => ⟨l, e1, e2, e3, k _ _ q2⟩) q, fun Z ex tk => peI (h.run Z ex tk) fun σ H Q ⟨G, M, δ, w, s, q⟩ =>
  ⟨G, M, δ, w, s, h.mo (fun d w1 q1 v H1 G1 M1 o1 r1 => by
    obtain ⟨p, rfl, l, e1, e2, e3, q2⟩ := q1.of
    cases r1
    obtain ⟨vs, o2, r2⟩ := stillK s.pt o1 e1 e2 e3
    exact q2 (.ref p) H1 _ _ o2 r2) q⟩⟩
theorem zb_toK (i : Nat) {sts : List Stmt} {t : TSZ Dk} (h : PBZ X (WK X.K C ec) sts t) : PBZ X (WK X.K C ec) sts (zToK i t) := fun Z ex tk => pbI (h Z ex tk) fun DE σ H ⟨Dz, hex, EI, G, M, δ, w, s, q⟩ => by
  obtain ⟨l, hl, q⟩ := q.of
  obtain ⟨p, vs, h1, h2, h3, h4, h5, h7⟩ := s.sl i _ hl
  have hi : i < δ.length := (List.getElem?_eq_some_iff.mp hl).1
  have own : ∀ {n : Nat} {m' : List D}, (δ.set i (.val (.ref p)))[n]? = some (.own m') → δ[n]? = some (.own m') ∧ i ≠ n := fun {n m'} e => by
    by_cases z : i = n
    · subst z; rw [List.getElem?_set_self hi] at e; cases e
    · rw [List.getElem?_set_ne z] at e; exact ⟨e, z⟩
  obtain ⟨o2, hw⟩ := newK (m := l) (⟨s.pt, s.nx⟩ : Go (WK X.K C ec) Z.H0 Z.G0 Z.M0 H G M w) h5 h2 h3 h4 h7
  refine ⟨Dz, hex, EI, G, upd M p (.lst vs), _, _, ⟨o2.pt, o2.nx, s.st, by rw [List.length_set]; exact s.len, fun j sl e => ?_, fun j k q m1 m2 e1 e2 e3 e4 => s.od j k q m1 m2 (own e1).1 (own e2).1 e3 e4⟩, q p hw⟩
  by_cases z : i = j
  · subst z
    rw [List.getElem?_set_self hi] at e
    cases e
    exact ⟨.ref p, h1, .ref p⟩
  · have e' : δ[j]? = some sl := by rw [List.getElem?_set_ne z] at e; exact e
    have g := s.sl j sl e'
    cases sl with
    | no => trivial
    | val d => exact g
    | own l' =>
      obtain ⟨p', us, g1, g2, g3, g4, g5, g6⟩ := g
      refine ⟨p', us, g1, g2, g3, ?_, g5, g6⟩
      rw [upd_ne (fun y => z (s.od i j p l l' hl e' h1 (by rw [← y]; exact g1)))]
      exact g4
/-! rules: the desk -/
/-- what a method promises -/
structure Fm (P : Program) (w : World) (K : PySem.W.Frag) (mg : Str → Option Value) (base : Heap) (C : Addr) (ec : Nat → Addr) (k : Nat) (m : Str) (sp : SpZ Dk) : Prop where
  mo : MoS sp
  ex : ∃ f fd ps, FnOk P w K mg base (L2.CX P w) k f fd ps (spz K (WK K C ec) sp) ∧ Meth K C m f ∧ Binds K fd ps []
def zMeth (sp : SpZ Dk) (to : TEZ Dk) (ta : TAZ Dk) : TEZ Dk := fun δ w Q E => to δ w (fun x w1 => onRef x fun a => ∃ d, w1.ob = some (a, d) ∧ ta δ w1 (fun ds w2 => sp (.ref a :: ds) w2 Q E) E) E
theorem pe_methS {m : Str} {k f : Nat} {fd : FuncData} {ps : List Str} {sp : Sp} {E : L2.St → XK} {tb : TE} {t : TA} {pl : Sem Bool} (he : PE X o tb) (c : Cls X.K C) (hm : Meth X.K C m f) (F : FnOk X.prog X.w X.K X.mg X.base (L2.CX X.prog X.w) k f fd ps sp) (hr : Room k X.A) (hb : Binds X.K fd ps []) (hx : ∀ σ, PassesAt (L2.CX X.prog X.w) X σ (E σ)) (ha : PA X (e :: es) t)
    (hst : starEach (e :: es) X.env = (false, eval e X.env) :: starEach es X.env) (hpl : (backTo pos (starEach es X.env)).any (·.1) = false)
    (ht : eval (.Call (.Attribute o m apos) (e :: es) [] pos) X.env = (do
      let ov ← eval o X.env
      standAt apos.atName
      let (f, first) ← holding [ov] (getMethod ov m pl)
      callWith pos f first (backTo pos (starEach (e :: es) X.env)) (backToKw pos (keywordEach [] X.env)))) :
    PE X (.Call (.Attribute o m apos) (e :: es) [] pos) (fun σ H Q => tb σ H fun x H1 => ∃ a dx fs, x = .ref a ∧ H1 a = some (.ins C dx fs) ∧ fs.lookup m = none ∧ t σ H1 fun vs H2 => sp (x :: vs) H2 Q (E σ)) := by
  refine ⟨fun pins s σ H Q I h => PySem.W.methodCall_KW (pl := pl) (thn (he.run pins s σ H _ I h) fun u s1 ⟨x, H1, I1, rx, a, dx, fs, ex, ea, l, q⟩ => ?_) ht⟩
  subst ex; cases rx
  refine getmeth_ok I1 ea c hm l (PySem.W.callWith_K (first := [.ref a]) (h₀ := X.base) I.ok.mod.kin hm.kp (thn (ha.run pos pins s1 σ H1 _ I1 q) fun us s2 ⟨vs, H2, I2, r, q2⟩ => ⟨I2.kIn, ?_⟩) hst hpl)
  exact run_fnS (us := .ref a :: us) (vs := .ref a :: vs) F hr hb (hx σ) I2 (.cons rfl r) q2
theorem z_meth {m : Str} {k j : Nat} {sp : SpZ Dk} {pl : Sem Bool} (d : Fm X.prog X.w X.K X.mg X.base C ec k m sp) (c : Cls X.K C) (hr : Room j X.A) (ho : PEZ X (WK X.K C ec) o to) (ha : PAZ X (WK X.K C ec) (e :: es) tf) (hj : k ≤ j := by decide) (hne : (m == ("lines" : Str)) = false := by decide)
    (he : starEach (e :: es) X.env = (false, eval e X.env) :: starEach es X.env := by rfl) (hpl : (backTo pos (starEach es X.env)).any (·.1) = false := by rfl)
    (ht : eval (.Call (.Attribute o m apos) (e :: es) [] pos) X.env = (do
      let ov ← eval o X.env
      standAt apos.atName
      let (f, first) ← holding [ov] (getMethod ov m pl)
      callWith pos f first (backTo pos (starEach (e :: es) X.env)) (backToKw pos (keywordEach [] X.env))) := by rfl) : PEZ X (WK X.K C ec) (.Call (.Attribute o m apos) (e :: es) [] pos) (zMeth sp to tf) :=
  ⟨fun k h => ho.mo (fun _ _ h1 => h1.imp fun a ⟨d', g1, g2⟩ => ⟨d', g1, ha.mo (fun _ _ h2 => d.mo k (fun _ _ q => q) h2) g2⟩) h, fun Z ex tk => by
    obtain ⟨f, fd, ps, F, hm, hb⟩ := d.ex
    refine peI (pe_methS (pl := pl) (ho.run Z ex tk) c hm F (hr.mono hj) hb (fun σ => passAt tk σ) (ha.run Z ex tk) he hpl ht) fun σ H Q ⟨G, M, δ, w, s, h⟩ => ?_
    refine ⟨G, M, δ, w, s, ho.mo (fun x w1 h1 v H1 G1 M1 o1 r1 => ?_) h⟩
    obtain ⟨a, rfl, d', g1, g2⟩ := h1.of
    cases r1
    obtain ⟨⟨dx, k1⟩, -⟩ := (show okK X.K C w1 G1 M1 from o1.pt.wd).dk a d' g1
    refine ⟨a, dx, deskF d', rfl, o1.pt.mh _ _ k1, deskF_no d' hne, G1, M1, δ, w1, s.go o1, ha.mo (fun ds w2 h2 vs H2 G2 M2 o2 r2 => ?_) g2⟩
    refine ⟨G2, M2, .ref a :: ds, w2, o2.pt, .cons (.ref a) r2, d.mo (fun d2 w3 q3 v3 H3 G3 M3 b3 c3 r3 => q3 v3 H3 G3 M3 ((o1.tr o2).tr ⟨b3, c3⟩) r3) (fun e3 w3 q3 H3 G3 M3 b3 c3 => ?_) h2⟩
    exact ⟨rfl, e3, rfl, G3, M3, δ, w3, (s.go (o1.tr o2)).next b3 c3, q3⟩⟩
/-- self.lines[key] -/
def zLGet (to ti : TEZ Dk) : TEZ Dk := fun δ w Q E => to δ w (fun x w1 => onRef x fun a => ∃ d, w1.ob = some (a, d) ∧ ti δ w1 (fun y w2 => strD y fun s => w2.ob = some (a, d) ∧ ∃ v, w2.kv s = some v ∧ Q v w2) E) E
theorem deskH {K : PySem.W.Frag} {H G M : Hp} {w : Dk} {a d : Addr} (p : Pt (WK K C ec) H G M w) (h : w.ob = some (a, d)) : ∃ dx kvs, H a = some (.ins C dx (deskF d)) ∧ H d = some (.dK kvs) ∧ M d = some (.dK kvs) ∧ kvs.length ≤ w.n ∧ ∀ s, RepO K G (valV kvs (.inr s)) (w.kv s) := by
  obtain ⟨⟨dx, k1⟩, kvs, k2, k3, k4⟩ := (show okK K C w G M from p.wd).dk a d h
  exact ⟨dx, kvs, p.mh _ _ k1, p.mh _ _ k2, k2, k3, k4⟩
theorem z_lget {p2 : Pos} {k : Nat} (c : Cls X.K C) (n : NoAttr X.K C "lines") (hr : Room k X.A) (ho : PEZ X (WK X.K C ec) o to) (hi : PEZ X (WK X.K C ec) i ti) (hb : attributeBase o "lines" X.env (eval o X.env) = eval o X.env := by rfl) (hs : NoSl i := by exact fun _ _ => rfl) : PEZ X (WK X.K C ec) (.Subscript (.Attribute o "lines" p2) i pos) (zLGet to ti) :=
  ⟨fun k h => ho.mo (fun _ _ h1 => h1.imp fun a ⟨d', g1, g2⟩ => ⟨d', g1, hi.mo (fun _ _ h2 => h2.imp fun s ⟨g3, v, g4, g5⟩ => ⟨g3, v, g4, k _ _ g5⟩) g2⟩) h, fun Z ex tk => peI (pe_dget (hu_of hr) (pe_fld (ho.run Z ex tk) hb) (hi.run Z ex tk) hs) fun σ H Q ⟨G, M, δ, w, s, h⟩ =>
    ⟨G, M, δ, w, s, ho.mo (fun x w1 h1 v H1 G1 M1 o1 r1 => by
      obtain ⟨a, rfl, d, g1, g2⟩ := h1.of
      cases r1
      obtain ⟨dx, kvs, k1, k2, k3, k4, k5⟩ := deskH o1.pt g1
      refine ⟨a, C, dx, deskF d, .ref d, rfl, k1, c, n, deskF_get d, G1, M1, δ, w1, s.go o1, hi.mo (fun y w2 h2 v2 H2 G2 M2 o2 r2 => ?_) g2⟩
      obtain ⟨t, rfl, g3, u, g4, g5⟩ := h2.of
      cases r2
      obtain ⟨dx, kvs, k1, k2, k3, k4, k5⟩ := deskH o2.pt g3
      have k6 := k5 t
      rw [g4] at k6
      generalize hv : valV kvs (.inr t) = ov at k6
      cases k6 with
      | @some z _ r => exact ⟨d, z, rfl, by have := DGet.k (k := Sum.inr t) k2; rw [hv] at this; exact this, g5 z H2 G2 M2 (o1.tr o2) r⟩) h⟩⟩
/-- key in self.lines -/
def zLIn (ti to : TEZ Dk) : TEZ Dk := fun δ w Q E => ti δ w (fun y w1 => to δ w1 (fun x w2 => strD y fun s => onRef x fun a => ∃ d, w2.ob = some (a, d) ∧ Q (.bl (w2.kv s).isSome) w2) E) E
theorem z_lin {p2 : Pos} {k : Nat} (c : Cls X.K C) (n : NoAttr X.K C "lines") (hr : Room k X.A) (hi : PEZ X (WK X.K C ec) i ti) (ho : PEZ X (WK X.K C ec) o to) (hb : attributeBase o "lines" X.env (eval o X.env) = eval o X.env := by rfl) (hm : behindInMarks .In (.Attribute o "lines" p2) = false := by first | exact nobehind _ (by decide) (by decide) | rfl) : PEZ X (WK X.K C ec) (.Compare i [.In] [.Attribute o "lines" p2] pos) (zLIn ti to) :=
  ⟨fun k h => hi.mo (fun _ _ h1 => ho.mo (fun _ _ h2 => h2.imp fun s h3 => h3.imp fun a ⟨d, g1, g2⟩ => ⟨d, g1, k _ _ g2⟩) h1) h, fun Z ex tk => peI (pe_cmp (pc_din (hu_of hr) (hi.run Z ex tk) (pe_fld (ho.run Z ex tk) hb)) hm) fun σ H Q ⟨G, M, δ, w, s, h⟩ =>
    ⟨G, M, δ, w, s, hi.mo (fun y w1 h1 v H1 G1 M1 o1 r1 => ⟨G1, M1, δ, w1, s.go o1, ho.mo (fun x w2 h2 v2 H2 G2 M2 o2 r2 => by
      obtain ⟨t, rfl, h3⟩ := h2.of
      obtain ⟨a, rfl, d, g1, g2⟩ := h3.of
      cases r1
      cases r2
      obtain ⟨dx, kvs, k1, k2, k3, k4, k5⟩ := deskH o2.pt g1
      refine ⟨a, C, dx, deskF d, .ref d, rfl, k1, c, n, deskF_get d, d, valV kvs (.inr t), rfl, DGet.k (k := Sum.inr t) k2, ?_⟩
      rw [(k5 t).is]
      exact g2 _ H2 G2 M2 (o1.tr o2) (.bl _)) h1⟩) h⟩⟩
/-- self.lines[key] = value -/
def putKv (f : Str → Option D) (s : Str) (v : D) : Str → Option D := fun t => if t = s then some v else f t
def zLPut (to ti te : TEZ Dk) : TSZ Dk := fun DE δ w => te δ w (fun v w1 => to δ w1 (fun x w2 => onRef x fun a => ∃ d, w2.ob = some (a, d) ∧ ti δ w2 (fun y w3 => strD y fun s => w3.ob = some (a, d) ∧ w3.n < 100000 ∧ DE.nx δ { w3 with kv := putKv w3.kv s v, n := w3.n + 1 }) (fun e w' => DE.ex e δ w')) (fun e w' => DE.ex e δ w')) (fun e w' => DE.ex e δ w')
theorem putK_len {κ : Type} [DecidableEq κ] (kvs : List (κ × V)) (k : κ) (v : V) : (putK kvs k v).length ≤ kvs.length + 1 := by
  unfold putK
  split
  · rw [List.length_map]; omega
  · rw [List.length_append]; exact Nat.le_refl _
theorem z_lput {p2 : Pos} {k : Nat} (c : Cls X.K C) (n : NoAttr X.K C "lines") (hr : Room k X.A) (ho : PEZ X (WK X.K C ec) o to) (hi : PEZ X (WK X.K C ec) i ti) (he : PEZ X (WK X.K C ec) e te) (hb : attributeBase o "lines" X.env (eval o X.env) = eval o X.env := by rfl) (hs : swapsWith e (some (.Subscript (.Attribute o "lines" p2) i pos')) pos.line X.env = pure false := by rfl) :
    PSZ X (WK X.K C ec) (.Assign [.Subscript (.Attribute o "lines" p2) i pos'] e pos) (zLPut to ti te) := fun Z ex tk =>
  psI (ps_dput (hu_of hr) (pe_fld (ho.run Z ex tk) hb) (hi.run Z ex tk) (he.run Z ex tk) hs) fun DE σ H ⟨Dz, hex, EI, G, M, δ, w, s, h⟩ => by
  subst hex
  refine ⟨G, M, δ, w, s, he.mo (fun v0 w1 h1 v H1 G1 M1 o1 r1 => ⟨G1, M1, δ, w1, s.go o1, ho.mo (fun x w2 h2 v2 H2 G2 M2 o2 r2 => ?_) h1⟩) h⟩
  obtain ⟨a, rfl, d, g1, g2⟩ := h2.of
  cases r2
  obtain ⟨dx, kvs, k1, k2, k3, k4, k5⟩ := deskH o2.pt g1
  refine ⟨a, C, dx, deskF d, .ref d, rfl, k1, c, n, deskF_get d, G2, M2, δ, w2, s.go (o1.tr o2), hi.mo (fun y w3 h3 v3 H3 G3 M3 o3 r3 => ?_) g2⟩
  obtain ⟨t, rfl, g3, g4, g5⟩ := h3.of
  cases r3
  obtain ⟨dx, kvs, k1, k2, k3, k4, k5⟩ := deskH o3.pt g3
  have ok : okK X.K C w3 G3 M3 := o3.pt.wd
  have s3 := s.go ((o1.tr o2).tr o3)
  have nd : ∀ {q : Addr} {x : HO}, M3 q = some x → (∀ l, x ≠ .dK l) → q ≠ d := fun e hn z => by rw [z, k3] at e; exact hn kvs (Option.some.inj e).symm
  refine ⟨d, _, rfl, DPut.k (k := Sum.inr t) k2 (by rw [sizeLine_eq]; omega), EI.nx _ _ ⟨G3, _, δ, _, chgK s3 k3 ⟨fun q l e => ?_, fun b d2 e => ?_, fun q x e => ?_⟩, g5⟩⟩
  · obtain ⟨us, u1, u2⟩ := ok.ls q l e
    exact ⟨us, by rw [upd_ne (nd u1 fun l => HO.noConfusion)]; exact u1, u2⟩
  · replace e : w3.ob = some (b, d2) := e
    rw [g3] at e; cases e
    obtain ⟨⟨dx, u1⟩, -⟩ := ok.dk a d g3
    refine ⟨⟨dx, by rw [upd_ne (nd u1 fun l => HO.noConfusion)]; exact u1⟩, _, upd_same, by have := putK_len kvs (Sum.inr t : Key) v; show _ ≤ w3.n + 1; omega, fun z => ?_⟩
    rw [valV_put]
    show RepO X.K G3 _ (if z = t then some v0 else w3.kv z)
    by_cases hz : z = t
    · rw [if_pos (by rw [hz]), if_pos hz]; exact .some (r1.up (o2.tr o3).nx.gg)
    · rw [if_neg (fun q => hz (Sum.inr.inj q)), if_neg hz]; exact k5 z
  · by_cases hq : q = d
    · exact .inr ⟨a, d, g3, .inr hq⟩
    · rw [upd_ne hq] at e; exact ok.dom q x e
/-- Desk() -/
theorem cx_no {P : Program} {w : World} {st : List Env} {H : Hp} {s : Shared} {e : Value} {s' : Shared} (h : L2.CX P w st H s (fun _ _ _ => False) e s') : False := by
  obtain ⟨_, _, _, _, _, _, _, _, _, _, _, _, z⟩ := h
  exact z
def zDesk : TEZ Dk := fun δ w Q E => w.ob = none ∧ ∀ a d, Q (.ref a) ⟨w.ls, some (a, d), fun _ => none, 0⟩
def spInit (C : Addr) : Sp := fun vs H Q _ => ∃ (x dx : Addr), vs = [.ref x] ∧ H x = some (.ins C dx []) ∧ ∀ d : Addr, H d = none → Q .non (upd (upd H d (.dK [])) x (.ins C dx (deskF d)))
theorem z_desk0 {x : Str} {k f : Nat} {fd : FuncData} {ps : List Str} (Mk_ : Mk X.K C f) (F : FnOk X.prog X.w X.K X.mg X.base (L2.CX X.prog X.w) k f fd ps (spInit C)) {j : Nat} (hr : Room j X.A) (hm : X.mg x = some (.ref C)) (hb : Binds X.K fd ps []) (hj : k + 1 ≤ j := by decide) (hg : Gl X x := by rfl) (hdb : (x == ("__debug__" : Str)) = false := by decide) :
    PEZ X (WK X.K C ec) (.Call (.Name x p) [] [] pos) zDesk := ⟨fun k h => ⟨h.1, fun a d => k _ _ (h.2 a d)⟩, fun Z ex tk => peI (pe_make0 (E := fun _ _ _ => False) Mk_ F (hr.mono hj) hg hm hb .nil (fun _ _ _ _ _ _ _ z => (cx_no z).elim) hdb) fun σ H Q ⟨G, M, δ, w, s, h0, h⟩ => by
  intro x dx hx hdx hne
  refine ⟨x, dx, rfl, upd_same, fun d hd => ⟨rfl, ?_⟩⟩
  have hd2 : H d = none ∧ d ≠ x ∧ d ≠ dx := by
    refine ⟨?_, fun z => ?_, fun z => ?_⟩
    · cases q : H d with
      | none => rfl
      | some y => rw [upd_ne (ne_of_none q hx), upd_ne (ne_of_none q hdx), q] at hd; cases hd
    · rw [z, upd_same] at hd; cases hd
    · rw [z, upd_ne hne, upd_same] at hd; cases hd
  obtain ⟨hd0, hdx1, hdx2⟩ := hd2
  have ok : okK X.K C w G M := s.pt.wd
  have up : ∀ q y, H q = some y → upd (upd (upd (upd H dx (.own x)) x (.ins C dx [])) d (.dK [])) x (.ins C dx (deskF d)) q = some y := fun q y e => by
    rw [upd_ne (ne_of_none e hx), upd_ne (ne_of_none e hd0), upd_ne (ne_of_none e hx), upd_ne (ne_of_none e hdx)]; exact e
  have mx : M x = none := s.pt.mh.none' hx
  have md : M d = none := s.pt.mh.none' hd0
  have um : ∀ q y, M q = some y → upd (upd M d (.dK [])) x (.ins C dx (deskF d)) q = some y := fun q y e => by
    rw [upd_ne (ne_of_none e mx), upd_ne (ne_of_none e md)]; exact e
  refine h x d (.ref x) _ G (upd (upd M d (.dK [])) x (.ins C dx (deskF d))) ⟨⟨fun q y e => up q y (s.pt.gh q y e), fun q y e => ?_, fun q y e => ?_, ⟨fun q l e => ?_, fun b c e => ?_, fun q y e => ?_⟩⟩, ⟨.rfl', fun q y e _ => up q y e, fun q y e g => (by rw [e] at g; cases g), fun q y e g => ?_, fun q y e => ⟨y, um q y e⟩⟩⟩ (.ref x)
  · by_cases k1 : q = x
    · subst k1; rw [upd_same] at e ⊢; exact e
    · rw [upd_ne k1] at e ⊢
      by_cases k2 : q = d
      · subst k2; rw [upd_same] at e ⊢; exact e
      · rw [upd_ne k2] at e ⊢
        have := s.pt.mh q y e
        rw [upd_ne (ne_of_none this hx), upd_ne (ne_of_none this hdx)]; exact this
  · have e2 := s.pt.gh q y e
    rw [upd_ne (ne_of_none e2 hx), upd_ne (ne_of_none e2 hd0)]; exact s.pt.dj q y e
  · obtain ⟨us, u1, u2⟩ := ok.ls q l e
    exact ⟨us, um _ _ u1, u2⟩
  · replace e : some (x, d) = some (b, c) := e
    cases e
    exact ⟨⟨dx, upd_same⟩, [], by rw [upd_ne hdx1, upd_same], Nat.le_refl _, fun s => .none⟩
  · by_cases k1 : q = x
    · exact .inr ⟨x, d, rfl, .inl k1⟩
    · rw [upd_ne k1] at e
      by_cases k2 : q = d
      · exact .inr ⟨x, d, rfl, .inr k2⟩
      · rw [upd_ne k2] at e
        rcases ok.dom q y e with h1 | ⟨a, c, h1, -⟩
        · exact .inl h1
        · rw [h0] at h1; cases h1
  · by_cases k1 : q = x
    · rw [k1]; exact hx
    · rw [upd_ne k1] at e
      by_cases k2 : q = d
      · rw [k2]; exact hd0
      · rw [upd_ne k2, g] at e; cases e⟩
end
/-- what makes a desk -/
def Di (P : Program) (w : World) (K : PySem.W.Frag) (mg : Str → Option Value) (base : Heap) (C : Addr) : Prop := ∃ f fd ps, FnOk P w K mg base (L2.CX P w) 1 f fd ps (spInit C) ∧ Mk K C f ∧ Binds K fd ps []
theorem z_desk {X : Cx} {C : Addr} {ec : Nat → Addr} {x : Str} {p pos : Pos} {j : Nat} (d : Di X.prog X.w X.K X.mg X.base C) (hr : Room j X.A) (hm : X.mg x = some (.ref C)) (hj : 2 ≤ j := by decide) (hg : Gl X x := by rfl) (hdb : (x == ("__debug__" : Str)) = false := by decide) : PEZ X (WK X.K C ec) (.Call (.Name x p) [] [] pos) zDesk :=
  have ⟨_, _, _, F, m, b⟩ := d
  z_desk0 m F hr hm b hj hg hdb
theorem fmz {P : Program} {w : World} {K : PySem.W.Frag} {mg : Str → Option Value} {base : Heap} {C : Addr} {ec : Nat → Addr} {m qual : Str} {st : Stmt} {f : Addr} {fd : FuncData} {N ps : List Str} {k : Nat} {sp : SpZ Dk} {tz : TSZ Dk} (F : Fun K m qual st f fd) (S : FnScope N ps (defScope st)) (hm : Meth K C m f) (hb : Binds K fd ps []) (mo : MoS sp)
    (len : ∀ {ds : List D} {w' : Dk} {Q : D → Dk → Prop} {E : Nat → Dk → Prop}, sp ds w' Q E → ds.length = ps.length)
    (der : ∀ (cdv : Value) (A : Around) (outer : List Env) (s : Shared) (H : Hp) (E : XK), Room k (A.deeper (envOfC qual (defScope st) s.heap.objs.size f cdv)) →
      PBZ (cxOf (L2.CX P w) P w K mg base N qual (defScope st) f cdv A outer s H E) (WK K C ec) (defBody st) tz)
    (go : ∀ (ds : List D) (w' : Dk) (Q : D → Dk → Prop) (E : Nat → Dk → Prop), sp ds w' Q E → tz (endZ Q E) (stZ N.length ds) w') : Fm P w K mg base C ec (k + 1) m sp :=
  ⟨mo, f, fd, ps, fnzOk F S len der go, hm, hb⟩
end Z

namespace Z
open PySem PySem.Spec PyProof.Rows L2
/-! ### a list of the desk's world compared, and made longer -/
def valRef (δ : List Sl) (i : Nat) (f : Addr → Prop) : Prop := match δ[i]? with | some (.val (.ref p)) => f p | _ => False
theorem valRef.of {δ : List Sl} {i : Nat} {f : Addr → Prop} (h : valRef δ i f) : ∃ p, δ[i]? = some (.val (.ref p)) ∧ f p := by
  unfold valRef at h
  split at h
  · exact ⟨_, by assumption, h⟩
  · exact h.elim
def zCmpK (r : OpD) (ta tb : TEZ Dk) : TEZ Dk := fun δ w Q E => ta δ w (fun x w1 => onRef x fun p => ∃ l, wGet w1.ls p = some l ∧ tb δ w1 (fun y w2 => wGet w2.ls p = some l ∧ r (.lst l) y fun z => ∃ b, z = .bl b ∧ Q (.bl b) w2) E) E
def zAppK (i : Nat) (te : TEZ Dk) : TSZ Dk := fun DE δ w => valRef δ i fun p => (∃ l, wGet w.ls p = some l) ∧ te δ w (fun d w1 => ∃ l, wGet w1.ls p = some l ∧ l.length < 100000 ∧ DE.nx δ { w1 with ls := wSet w1.ls p (l ++ [d]) }) (fun e w' => DE.ex e δ w')
section
variable {X : Cx} {C : Addr} {ec : Nat → Addr} {pos pos' p : Pos} {x : Str} {a b e : Expr} {ta tb te : TEZ Dk} {rv : R2} {r : OpD}
theorem okK.inM {K : PySem.W.Frag} {H G M : Hp} {w : Dk} {p : Addr} {l : List D} (o : Pt (WK K C ec) H G M w) (h : wGet w.ls p = some l) : ∃ vs, M p = some (.lst vs) ∧ G p = none ∧ RepL K G vs l := by
  obtain ⟨vs, m1, m2⟩ := (show okK K C w G M from o.wd).ls p l h
  refine ⟨vs, m1, ?_, m2⟩
  cases q : G p with
  | none => rfl
  | some y => have := o.dj p y q; rw [m1] at this; cases this
theorem cmpK_mo (hl : Lnd X.K rv r) (ha : PEZ X (WK X.K C ec) a ta) (hb : PEZ X (WK X.K C ec) b tb) : Mo (zCmpK r ta tb) := fun k h => ha.mo (fun _ _ h1 => h1.imp fun p ⟨l, g1, g2⟩ => ⟨l, g1, hb.mo (fun _ _ ⟨g3, g4⟩ => ⟨g3, hl.mo (fun d ⟨b, e, q⟩ => ⟨b, e, k _ _ q⟩) g4⟩) g2⟩) h
theorem cmpK_core (hl : Lnd X.K rv r) (ha : PEZ X (WK X.K C ec) a ta) (hb : PEZ X (WK X.K C ec) b tb) {Z : Zx} {ex : Nat → List Sl → Dk → Prop} {σ : L2.St} {H : Hp} {Q : VK} (h : liE X.K (WK X.K C ec) Z ex (zCmpK r ta tb) σ H Q) : tOp rv (liE X.K (WK X.K C ec) Z ex ta) (liE X.K (WK X.K C ec) Z ex tb) σ H Q := by
  obtain ⟨G, M, δ, w, a0, h⟩ := h
  exact ⟨G, M, δ, w, a0, ha.mo (fun d w1 h1 v H1 G1 M1 o1 r1 => by
      obtain ⟨p, rfl, l, g1, h1⟩ := h1.of
      cases r1
      exact ⟨G1, M1, δ, w1, a0.go o1, hb.mo (fun d2 w2 h2 v2 H2 G2 M2 o2 r2 => by
        obtain ⟨g2, h2⟩ := h2
        obtain ⟨vs, m1, hp, m2⟩ := okK.inM o2.pt g2
        have up : Ext G2 (upd G2 p (.lst vs)) := Ext.new hp
        refine hl.go H2 (upd G2 p (.lst vs)) (.ref p) v2 (.lst l) d2 _ Q (fun q y e => ?_) (.lst upd_same (m2.up up)) (r2.up up) h2 (fun d3 v3 ⟨b, e, q3⟩ r3 => ?_) (fun l vs p ⟨b, e, _⟩ _ _ => nomatch e)
        · by_cases k : q = p
          · subst k; rw [upd_same] at e; cases e; exact o2.pt.mh _ _ m1
          · rw [upd_ne k] at e; exact o2.pt.gh q y e
        · subst e; cases r3; exact q3 (.bl b) H2 G2 M2 (o1.tr o2) (.bl b)) h1⟩) h⟩
theorem z_cmpK {op : CmpOp} (ho : OpR X (compareOp op) rv) (hl : Lnd X.K rv r) (ha : PEZ X (WK X.K C ec) a ta) (hb : PEZ X (WK X.K C ec) b tb) (hm : behindInMarks op b = false := by first | exact nomark _ | rfl) : PEZ X (WK X.K C ec) (.Compare a [op] [b] pos) (zCmpK r ta tb) :=
  ⟨cmpK_mo hl ha hb, fun Z ex tk => peI (pe_cmpR ho (ha.run Z ex tk) (hb.run Z ex tk) hm) fun σ H Q h => cmpK_core hl ha hb h⟩
theorem z_tcmpK {op : CmpOp} (ho : OpR X (compareOp op) rv) (hl : Lnd X.K rv r) (ha : PEZ X (WK X.K C ec) a ta) (hb : PEZ X (WK X.K C ec) b tb) (hm : behindInMarks op b = false := by first | exact nomark _ | rfl) : PTZ X (WK X.K C ec) (.Compare a [op] [b] pos) (zB (zCmpK r ta tb)) :=
  ⟨zB_mo (te := zCmpK r ta tb) (cmpK_mo hl ha hb), fun Z ex tk => ptI (pt_cmpR ho (ha.run Z ex tk) (hb.run Z ex tk) hm) fun σ H Q h => cmpK_core hl ha hb (zB_core (te := zCmpK r ta tb) (cmpK_mo hl ha hb) h)⟩
theorem z_appK (i : Nat) {pm : Pos} (he : PEZ X (WK X.K C ec) e te) (hN : X.N[i]? = some x := by rfl) (hv : Vis X.env.scope x := by first | exact Or.inl rfl | exact Or.inr (Or.inl rfl) | exact Or.inr (Or.inr rfl)) (hd : (x == ("__debug__" : Str)) = false := by decide)
    (hcd : (x == ("__classdict__" : Str)) = false := by decide) (hs : swapsWith (.Call (.Attribute (.Name x p) "append" pm) [e] [] pos') none pos.line X.env = pure false := by rfl)
    (hpe : ∀ {t : TE}, PE X e t → PE X (.Call (.Attribute (.Name x p) "append" pm) [e] [] pos') (tBM X.K "list" rAppend (tVar i) (tCons t tNil)) := by
      intro t ht
      exact pe_bm PySem.F.plainAttrs_list PySem.F.slot_list_append PySem.F.type_list_append mt_append (pv _) (pa_cons ht pa_nil)) :
    PSZ X (WK X.K C ec) (.Expr (.Call (.Attribute (.Name x p) "append" pm) [e] [] pos') pos) (zAppK i te) := fun Z ex tk =>
  psI (ps_expr (hpe (he.run Z ex tk)) hs) fun DE σ H ⟨Dz, hex, EI, G, M, δ, w, a, h⟩ => by
  subst hex
  obtain ⟨p, hl, ⟨l0, hl0⟩, h⟩ := h.of
  obtain ⟨v0, h1, hr⟩ := a.sl i _ hl
  cases hr
  obtain ⟨vs0, m0, g0, -⟩ := okK.inM a.pt hl0
  refine ⟨.ref p, h1, .inl ⟨rfl, _, SqL.of (a.pt.mh _ _ m0)⟩, G, M, δ, w, a, he.mo (fun d w1 q1 v H1 G1 M1 o1 r1 => ?_) h⟩
  obtain ⟨l, hl1, hn, q⟩ := q1
  obtain ⟨vs, m1, g1, m2⟩ := okK.inM o1.pt hl1
  have ok : okK X.K C w1 G1 M1 := o1.pt.wd
  have nd : ∀ {q : Addr} {y : HO}, M1 q = some y → (∀ us, y ≠ .lst us) → q ≠ p := fun e hn z => by rw [z, m1] at e; exact hn vs (Option.some.inj e).symm
  refine ⟨p, vs, v, rfl, rfl, o1.pt.mh _ _ m1, by rw [m2.len, sizeLine_eq]; omega, EI.nx _ _ ⟨G1, _, δ, _, chgK (a.go o1) m1 ⟨fun q k e => ?_, fun b c e => ?_, fun q y e => ?_⟩, q⟩⟩
  · replace e : wGet (wSet w1.ls p (l ++ [d])) q = some k := e
    rw [wGet_set] at e
    by_cases z : q = p
    · subst z
      rw [if_pos rfl, hl1] at e
      cases e
      exact ⟨_, upd_same, m2.app (.cons r1 .nil)⟩
    · rw [if_neg z] at e
      obtain ⟨us, u1, u2⟩ := ok.ls q k e
      exact ⟨us, by rw [upd_ne z]; exact u1, u2⟩
  · obtain ⟨⟨dx, u1⟩, kvs, u2, u3, u4⟩ := ok.dk b c e
    exact ⟨⟨dx, by rw [upd_ne (nd u1 fun _ => HO.noConfusion)]; exact u1⟩, kvs, by rw [upd_ne (nd u2 fun _ => HO.noConfusion)]; exact u2, u3, u4⟩
  · show (∃ k, wGet (wSet w1.ls p (l ++ [d])) q = some k) ∨ _
    rw [wGet_set]
    by_cases z : q = p
    · rw [if_pos z, z, hl1]; exact .inl ⟨_, rfl⟩
    · rw [if_neg z]; rw [upd_ne z] at e; exact ok.dom q y e
end
end Z
namespace Z
open PySem PySem.Spec PyProof.Rows L2 TL
theorem join_digitsN {is : List Int} (hne : is ≠ []) (h : ∀ x ∈ is, 0 ≤ x ∧ x < 10) (h60 : is.length ≤ 60) : ∃ v : Int, PySem.intText? (Txt.join ("" : Str) (is.map tx)) = some v ∧ (Txt.join ("" : Str) (is.map tx)).length ≤ 640 ∧ (0 ≤ v ∧ v.natAbs < 10 ^ is.length) := by
  have e : TL.tl (Txt.join ("" : Str) (is.map tx)) = is.map fun i => 48 + i.toNat := by
    rw [TL.join_eq, TL.tl_join, show TL.tl ("" : Str) = [] by decide, joinL_nil, tl_digits h]
  have hl : (Txt.join ("" : Str) (is.map tx)).length = is.length := by rw [TL.len_tl, e, List.length_map]
  have hd : ∀ c ∈ TL.tl (Txt.join ("" : Str) (is.map tx)), 48 ≤ c ∧ c ≤ 57 := fun c hc => by
    rw [e] at hc
    obtain ⟨i, hi, rfl⟩ := List.mem_map.mp hc
    have := h i hi
    omega
  refine ⟨_, PySem.intText_digits hd (fun z => ?_) (by rw [hl]; omega), by rw [hl]; omega, Int.natCast_nonneg _, ?_⟩
  · have z2 : TL.tl (Txt.join ("" : Str) (is.map tx)) = [] := z
    rw [e] at z2
    exact hne (List.map_eq_nil_iff.mp z2)
  · have b := dv_lt _ 0 hd
    have e2 : (TL.tl (Txt.join ("" : Str) (is.map tx))).length = is.length := by rw [e, List.length_map]
    rw [e2] at b
    rw [Int.natAbs_natCast]
    exact Nat.lt_of_lt_of_le b (by omega)
end Z

local macro_rules | `(tactic| kt_chr) => `(tactic| first
  | assumption
  | ((with_reducible show Z.Sm _ (OfNat.ofNat _)); exact Z.Sm.num _)
  | ((with_reducible show Z.Sm _ ((_ : Int) + _)); exact Z.Sm.add (by kt_chr) (by kt_chr))
  | ((with_reducible show Z.Sm _ ((_ : Int) - _)); exact Z.Sm.sub (by kt_chr) (by kt_chr))
  | ((with_reducible show Z.Sm _ ((_ : Int) * _)); exact Z.Sm.mul (by kt_chr) (by kt_chr))
  | ((with_reducible show Z.Sm _ (-(_ : Int))); exact Z.Sm.neg (by kt_chr))
  | ((with_reducible show Z.Sm _ ((_ : Int) % _)); exact Z.Sm.mod (by kt_chr) (by first | omega | decide))
  | ((with_reducible show Z.Sm _ ((_ : Int) / _)); exact Z.Sm.div (by kt_chr) (by first | omega | decide))
  | ((with_reducible show Z.Sm _ ((_ : Int) ^ (_ : Nat))); exact Z.Sm.pow (by kt_chr) _)
  | ((with_reducible show Z.Sm _ (max (_ : Int) _)); exact Z.Sm.max (by kt_chr) (by kt_chr))
  | ((with_reducible show Z.Sm _ (min (_ : Int) _)); exact Z.Sm.min (by kt_chr) (by kt_chr))
  | exact Z.Sm.lt10r (by with_reducible assumption) (by first | with_reducible assumption | omega)
  | exact Z.Sm.lt10s (Int.le_of_lt (by with_reducible assumption)) (Int.le_of_lt (by with_reducible assumption))
  | exact Z.Sm.lt10s (Int.le_of_lt (by with_reducible assumption)) (by with_reducible assumption)
  | exact Z.Sm.near (by omega) (by omega))
local macro_rules | `(tactic| kt_field) => `(tactic| first | exact Z.MulOk.of (by kt_chr) (by kt_chr) (by decide) | exact Z.MulOk.lt (by kt_chr) (by decide) | exact Z.MulOk.rt (by kt_chr) (by decide))
local macro_rules | `(tactic| kt_str) => `(tactic| first | (exfalso; omega) | skip)
local macro_rules | `(tactic| kby_none) => `(tactic| repeat' (first
  | with_reducible assumption
  | with_reducible rfl
  | (with_reducible exact True.intro)
  | ((with_reducible show Z.MulOk _ _); kt_field)
  | ((with_reducible show Z.DivOk _); first | exact Z.DivOk.of (by omega) (by assumption) (by decide) | exact Z.DivOk.of (by decide) (Z.Sm.num _) (by decide))
  | ((with_reducible show Z.Sm _ _); first | exact Z.Sm.le (by kt_chr) (by decide) | exact Z.Sm.le (Z.Sm.near (by omega) (by omega)) (by decide))
  | ((with_reducible show (_ : Int) < _); first | omega | exact Int.emod_lt_of_pos _ (by omega) | decide | (simp only [List.length_map, List.length_append, List.length_cons, List.length_nil]; omega))
  | ((with_reducible show (_ : Int) ≤ _); first | omega | exact Int.emod_nonneg _ (by omega) | decide | (simp only [List.length_map, List.length_append, List.length_cons, List.length_nil]; omega))
  | ((with_reducible show (_ : Nat) < _); first | omega | exact Nat.le_of_ble_eq_true rfl | decide | (simp only [List.length_map, List.length_append, List.length_cons, List.length_nil]; omega))
  | ((with_reducible show (_ : Nat) = _); first | rfl | omega)
  | ((with_reducible show (_ : Nat) ≤ _); first | omega | exact Nat.le_of_ble_eq_true rfl | decide | exact Nat.zero_le _ | (simp only [Z.slen_app]; omega) | (simp only [List.length_map, List.length_append, List.length_cons, List.length_nil]; omega))
  | ((with_reducible show Z.okD _ = true); rfl)
  | ((with_reducible show Z.okF _ = true); rfl)
  | ((with_reducible show Z.okFs _ = true); rfl)
  | (conv => whnf
     try simp only [Z.stZ_len, Z.stZ_len0, Z.stZ_nil, Z.setAll_cons, Z.setAll_nil, List.set_cons_zero, List.set_cons_succ]
     first
       | exact Z.eqI
       | (refine And.intro ?_ ?_)
       | exact ⟨_, rfl⟩
       | exact ⟨_, _, rfl⟩
       | exact ⟨_, _, _, rfl⟩
       | exact ⟨_, _, _, _, rfl⟩
       | exact ⟨_, _, _, _, _, rfl⟩
       | exact ⟨_, _, _, _, _, _, rfl⟩
       | exact ⟨_, _, _, _, _, _, _, rfl⟩
       | exact ⟨_, _, _, _, _, _, _, _, rfl⟩
       | exact ⟨_, _, _, _, _, _, _, _, _, rfl⟩
       | exact ⟨_, _, _, _, _, _, _, _, _, _, rfl⟩
       | exact ⟨_, _, _, _, _, _, _, _, _, _, _, rfl⟩
       | exact ⟨_, _, _, _, _, _, _, _, _, _, _, _, rfl⟩
       | exact ⟨_, _, _, _, _, _, _, _, _, _, _, _, _, rfl⟩
       | exact ⟨_, _, _, _, _, _, _, _, _, _, _, _, _, _, rfl⟩
       | exact ⟨_, _, _, _, _, _, _, _, _, _, _, _, _, _, _, rfl⟩
       | exact ⟨_, _, _, _, _, _, _, _, _, _, _, _, _, _, _, _, rfl⟩
       | (refine ⟨_, rfl, ?_⟩)
       | (refine ⟨_, _, rfl, ?_⟩)
       | (refine ⟨_, _, _, rfl, ?_⟩)
       | (refine ⟨_, _, _, _, rfl, ?_⟩)
       | (refine ⟨_, _, _, _, _, rfl, ?_⟩)
       | (refine ⟨_, _, _, _, _, _, rfl, ?_⟩)
       | (refine ⟨_, _, _, _, _, _, _, rfl, ?_⟩)
       | (refine ⟨_, _, _, _, _, _, _, _, rfl, ?_⟩)
       | (refine ⟨_, _, _, _, _, _, _, _, _, rfl, ?_⟩)
       | (refine ⟨_, _, _, _, _, _, _, _, _, _, rfl, ?_⟩)
       | (refine ⟨_, _, _, _, _, _, _, _, _, _, _, rfl, ?_⟩)
       | (refine ⟨_, _, _, _, _, _, _, _, _, _, _, _, rfl, ?_⟩)
       | (refine ⟨_, _, _, _, _, _, _, _, _, _, _, _, _, rfl, ?_⟩)
       | (refine ⟨_, _, _, _, _, _, _, _, _, _, _, _, _, _, rfl, ?_⟩)
       | (refine ⟨_, _, _, _, _, _, _, _, _, _, _, _, _, _, _, rfl, ?_⟩)
       | (refine ⟨_, _, _, _, _, _, _, _, _, _, _, _, _, _, _, _, rfl, ?_⟩)
       | (refine ⟨_, by with_reducible assumption, ?_⟩)
       | (refine ⟨_, _, by with_reducible assumption, rfl, ?_⟩)
       | (refine ⟨_, _, Z.w_set (by first | with_reducible assumption | exact Z.w_set (by with_reducible assumption) | exact Z.w_set (Z.w_set (by with_reducible assumption))), rfl, ?_⟩)
       | (intro h; first | exact (Bool.false_ne_true h).elim | exact (Bool.false_ne_true h.symm).elim | (replace h := of_decide_eq_true h; kt_str) | (replace h := of_decide_eq_false h; kt_str) | (replace h := Z.deqI h; kt_str) | (replace h := Z.deqI' h; kt_str) | (((with_reducible have := (show Z.deq _ _ = true from h)); clear this); (simp only [Z.deq_lst, Z.deq_tup, Z.deqs_cons, Z.deqs_nil, Z.deqs_nil_cons, Z.deqs_cons_nil, Z.deq_int, Z.deq_bl, Z.deq_non, Z.deq_non_int, Z.deq_int_non, Z.deq_non_tup, Z.deq_tup_non, Bool.and_eq_true, Bool.and_true, and_true, true_and, beq_iff_eq, Bool.false_eq_true, reduceCtorEq, and_false, false_and] at h) <;> kt_str) | (((with_reducible have := (show Z.deq _ _ = false from h)); clear this); (simp only [Z.deq_lst, Z.deq_tup, Z.deqs_cons, Z.deqs_nil, Z.deqs_nil_cons, Z.deqs_cons_nil, Z.deq_int, Z.deq_bl, Z.deq_non, Z.deq_non_int, Z.deq_int_non, Z.deq_non_tup, Z.deq_tup_non, Bool.and_eq_false_iff, Bool.and_true, beq_eq_false_iff_ne, ne_eq, not_true_eq_false, or_false, false_or, Bool.true_eq_false, Bool.false_eq_true, beq_self_eq_true, reduceCtorEq] at h) <;> kt_str) | (((with_reducible have := (show Z.memF _ _ = true from h)); clear this); (simp only [Z.memF_cons, Z.memF_nil, Z.eqF_int, Bool.or_eq_true, Bool.or_false, beq_iff_eq] at h <;> kt_str)) | (((with_reducible have := (show Z.memF _ _ = false from h)); clear this); (simp only [Z.memF_cons, Z.memF_nil, Z.eqF_int, Bool.or_eq_false_iff, Bool.or_false, beq_eq_false_iff_ne, ne_eq] at h <;> kt_str)) | ((with_reducible replace h := Z.nb1 h); revert h) | ((with_reducible replace h := Z.nb2 h); revert h) | ((with_reducible have := (show (_ : Int) < _ from h)); exfalso; first | omega | exact absurd h (by decide)) | ((with_reducible have := (show (_ : Int) ≤ _ from h)); exfalso; first | omega | exact absurd h (by decide)) | skip))))
namespace Lw
open PySem PySem.Spec PyProof.Rows L2 Z
def topS (i : Nat) : Stmt := PySem.Challenge.pw_turnedline_k37_desk_great_lines.main.body.getD i (.Pass ⟨0, 0, 0, 0⟩)
abbrev s_need_line : Stmt := topS 10
theorem sc_need_line : FnScope ["line"] ["line"] (defScope s_need_line) := ⟨rfl, rfl, rfl, by decide +kernel, rfl, by decide +kernel, by decide +kernel⟩
abbrev s_height_at : Stmt := topS 11
theorem sc_height_at : FnScope ["line", "place"] ["line", "place"] (defScope s_height_at) := ⟨rfl, rfl, rfl, by decide +kernel, rfl, by decide +kernel, by decide +kernel⟩
abbrev s_part_at : Stmt := topS 12
theorem sc_part_at : FnScope ["line", "place"] ["line", "place"] (defScope s_part_at) := ⟨rfl, rfl, rfl, by decide +kernel, rfl, by decide +kernel, by decide +kernel⟩
abbrev s_rest_at : Stmt := topS 13
theorem sc_rest_at : FnScope ["line", "place"] ["line", "place"] (defScope s_rest_at) := ⟨rfl, rfl, rfl, by decide +kernel, rfl, by decide +kernel, by decide +kernel⟩
abbrev s_laid_off : Stmt := topS 14
theorem sc_laid_off : FnScope ["line", "a", "b", "m"] ["line"] (defScope s_laid_off) := ⟨rfl, rfl, rfl, by decide +kernel, rfl, by decide +kernel, by decide +kernel⟩
abbrev s_turned : Stmt := topS 15
theorem sc_turned : FnScope ["line", "n", "a", "b", "m", "many"] ["line", "n"] (defScope s_turned) := ⟨rfl, rfl, rfl, by decide +kernel, rfl, by decide +kernel, by decide +kernel⟩
abbrev s_number_read : Stmt := topS 16
theorem sc_number_read : FnScope ["word", "figures", "sign"] ["word"] (defScope s_number_read) := ⟨rfl, rfl, rfl, by decide +kernel, rfl, by decide +kernel, by decide +kernel⟩
abbrev s_read_line : Stmt := topS 17
theorem sc_read_line : FnScope ["text", "words", "line", "word"] ["text"] (defScope s_read_line) := ⟨rfl, rfl, rfl, by decide +kernel, rfl, by decide +kernel, by decide +kernel⟩
abbrev s_own_part : Stmt := topS 20
theorem sc_own_part : FnScope ["line", "n", "more", "height", "rest"] ["line", "n"] (defScope s_own_part) := ⟨rfl, rfl, rfl, by decide +kernel, rfl, by decide +kernel, by decide +kernel⟩
abbrev s_sum_paper : Stmt := topS 19
theorem sc_sum_paper : FnScope ["line", "n", "kept", "found", "total"] ["line", "n"] (defScope s_sum_paper) := ⟨rfl, rfl, rfl, by decide +kernel, rfl, by decide +kernel, by decide +kernel⟩
abbrev s_sum_parts : Stmt := topS 22
theorem sc_sum_parts : FnScope ["line", "n", "total", "many", "here", "steps", "more"] ["line", "n"] (defScope s_sum_parts) := ⟨rfl, rfl, rfl, by decide +kernel, rfl, by decide +kernel, by decide +kernel⟩
abbrev s_sum_rests : Stmt := topS 23
theorem sc_sum_rests : FnScope ["line", "n", "a", "b", "m"] ["line", "n"] (defScope s_sum_rests) := ⟨rfl, rfl, rfl, by decide +kernel, rfl, by decide +kernel, by decide +kernel⟩
abbrev s_sum_between : Stmt := topS 24
theorem sc_sum_between : FnScope ["line", "low", "high", "a", "b", "m"] ["line", "low", "high"] (defScope s_sum_between) := ⟨rfl, rfl, rfl, by decide +kernel, rfl, by decide +kernel, by decide +kernel⟩
abbrev s_need_all : Stmt := topS 26
theorem sc_need_all : FnScope ["above", "beneath", "low", "high", "line"] ["above", "beneath", "low", "high"] (defScope s_need_all) := ⟨rfl, rfl, rfl, by decide +kernel, rfl, by decide +kernel, by decide +kernel⟩
abbrev s_turned_down : Stmt := topS 27
theorem sc_turned_down : FnScope ["lines", "a", "b", "m"] ["lines"] (defScope s_turned_down) := ⟨rfl, rfl, rfl, by decide +kernel, rfl, by decide +kernel, by decide +kernel⟩
abbrev s_lowest_at : Stmt := topS 28
theorem sc_lowest_at : FnScope ["lines", "place", "found", "line"] ["lines", "place"] (defScope s_lowest_at) := ⟨rfl, rfl, rfl, by decide +kernel, rfl, by decide +kernel, by decide +kernel⟩
abbrev s_cuts_of : Stmt := topS 29
theorem sc_cuts_of : FnScope ["lines", "low", "high", "cuts", "one", "other", "steeper", "place", "cut"] ["lines", "low", "high"] (defScope s_cuts_of) := ⟨rfl, rfl, rfl, by decide +kernel, rfl, by decide +kernel, by decide +kernel⟩
abbrev s_points_between : Stmt := topS 30
theorem sc_points_between : FnScope ["above", "beneath", "low", "high", "down", "total", "cuts", "start", "end", "one", "other"] ["above", "beneath", "low", "high"] (defScope s_points_between) := ⟨rfl, rfl, rfl, by decide +kernel, rfl, by decide +kernel, by decide +kernel⟩
abbrev s_beneath_plain : Stmt := topS 32
theorem sc_beneath_plain : FnScope ["line", "n", "bound", "a", "b", "m"] ["line", "n", "bound"] (defScope s_beneath_plain) := ⟨rfl, rfl, rfl, by decide +kernel, rfl, by decide +kernel, by decide +kernel⟩
abbrev s_rests_beneath : Stmt := topS 33
theorem sc_rests_beneath : FnScope ["line", "n", "bound"] ["line", "n", "bound"] (defScope s_rests_beneath) := ⟨rfl, rfl, rfl, by decide +kernel, rfl, by decide +kernel, by decide +kernel⟩
abbrev s_first_multiple : Stmt := topS 34
theorem sc_first_multiple : FnScope ["a", "m", "low", "high", "steps", "place", "part", "whole", "begin"] ["a", "m", "low", "high"] (defScope s_first_multiple) := ⟨rfl, rfl, rfl, by decide +kernel, rfl, by decide +kernel, by decide +kernel⟩
abbrev s_first_plain : Stmt := topS 35
theorem sc_first_plain : FnScope ["line", "low", "high", "a", "b", "m", "begin", "end"] ["line", "low", "high"] (defScope s_first_plain) := ⟨rfl, rfl, rfl, by decide +kernel, rfl, by decide +kernel, by decide +kernel⟩
abbrev s_first_within : Stmt := topS 36
theorem sc_first_within : FnScope ["line", "low", "high"] ["line", "low", "high"] (defScope s_first_within) := ⟨rfl, rfl, rfl, by decide +kernel, rfl, by decide +kernel, by decide +kernel⟩
abbrev s_common_measure : Stmt := topS 37
theorem sc_common_measure : FnScope ["one", "other"] ["one", "other"] (defScope s_common_measure) := ⟨rfl, rfl, rfl, by decide +kernel, rfl, by decide +kernel, by decide +kernel⟩
abbrev s_in_order : Stmt := topS 38
theorem sc_in_order : FnScope ["line", "n", "number", "a", "b", "m", "low", "high", "middle", "left"] ["line", "n", "number"] (defScope s_in_order) := ⟨rfl, rfl, rfl, by decide +kernel, rfl, by decide +kernel, by decide +kernel⟩
abbrev s_levels_of : Stmt := topS 40
theorem sc_levels_of : FnScope ["line", "n", "levels", "q", "r", "low", "k"] ["line", "n"] (defScope s_levels_of) := ⟨rfl, rfl, rfl, by decide +kernel, rfl, by decide +kernel, by decide +kernel⟩
abbrev s_sums_of_places : Stmt := topS 41
theorem sc_sums_of_places : FnScope ["n"] ["n"] (defScope s_sums_of_places) := ⟨rfl, rfl, rfl, by decide +kernel, rfl, by decide +kernel, by decide +kernel⟩
abbrev s_level_sums : Stmt := topS 42
theorem sc_level_sums : FnScope ["level", "sums", "n", "q", "r", "k", "parts", "placed", "squares", "first", "second", "low_placed", "low_squares", "laid_squares"] ["level", "sums"] (defScope s_level_sums) := ⟨rfl, rfl, rfl, by decide +kernel, rfl, by decide +kernel, by decide +kernel⟩
abbrev s_three_sums : Stmt := topS 43
theorem sc_three_sums : FnScope ["line", "n", "sums", "level"] ["line", "n"] (defScope s_three_sums) := ⟨rfl, rfl, rfl, by decide +kernel, rfl, by decide +kernel, by decide +kernel⟩
abbrev s_sum_squares : Stmt := topS 44
theorem sc_sum_squares : FnScope ["line", "n"] ["line", "n"] (defScope s_sum_squares) := ⟨rfl, rfl, rfl, by decide +kernel, rfl, by decide +kernel, by decide +kernel⟩
abbrev s_sum_placed : Stmt := topS 45
theorem sc_sum_placed : FnScope ["line", "n"] ["line", "n"] (defScope s_sum_placed) := ⟨rfl, rfl, rfl, by decide +kernel, rfl, by decide +kernel, by decide +kernel⟩
abbrev s_need : Stmt := topS 49
theorem sc_need : FnScope ["truth"] ["truth"] (defScope s_need) := ⟨rfl, rfl, rfl, by decide +kernel, rfl, by decide +kernel, by decide +kernel⟩
abbrev s_is_name : Stmt := topS 50
theorem sc_is_name : FnScope ["text", "sign"] ["text"] (defScope s_is_name) := ⟨rfl, rfl, rfl, by decide +kernel, rfl, by decide +kernel, by decide +kernel⟩
abbrev s_number_from : Stmt := topS 51
theorem sc_number_from : FnScope ["text", "figures", "sign"] ["text"] (defScope s_number_from) := ⟨rfl, rfl, rfl, by decide +kernel, rfl, by decide +kernel, by decide +kernel⟩
abbrev s_count_from : Stmt := topS 52
theorem sc_count_from : FnScope ["text", "found"] ["text"] (defScope s_count_from) := ⟨rfl, rfl, rfl, by decide +kernel, rfl, by decide +kernel, by decide +kernel⟩
abbrev s_Desk_named : Stmt := inClass (topS 53) 1
theorem sc_Desk_named : FnScope ["self", "some", "many"] ["self", "some", "many"] (defScope s_Desk_named) := ⟨rfl, rfl, rfl, by decide +kernel, rfl, by decide +kernel, by decide +kernel⟩
abbrev s_Desk_on_line : Stmt := inClass (topS 53) 2
theorem sc_Desk_on_line : FnScope ["self", "some", "word"] ["self", "some"] (defScope s_Desk_on_line) := ⟨rfl, rfl, rfl, by decide +kernel, rfl, by decide +kernel, by decide +kernel⟩
abbrev s_Desk_of_place : Stmt := inClass (topS 53) 3
theorem sc_Desk_of_place : FnScope ["self", "word", "some", "line", "place"] ["self", "word", "some"] (defScope s_Desk_of_place) := ⟨rfl, rfl, rfl, by decide +kernel, rfl, by decide +kernel, by decide +kernel⟩
abbrev s_Desk_of_count : Stmt := inClass (topS 53) 4
theorem sc_Desk_of_count : FnScope ["self", "word", "some", "line", "n"] ["self", "word", "some"] (defScope s_Desk_of_count) := ⟨rfl, rfl, rfl, by decide +kernel, rfl, by decide +kernel, by decide +kernel⟩
abbrev s_Desk_on_between : Stmt := inClass (topS 53) 5
theorem sc_Desk_on_between : FnScope ["self", "some", "line", "low"] ["self", "some"] (defScope s_Desk_on_between) := ⟨rfl, rfl, rfl, by decide +kernel, rfl, by decide +kernel, by decide +kernel⟩
abbrev s_Desk_on_beneath : Stmt := inClass (topS 53) 6
theorem sc_Desk_on_beneath : FnScope ["self", "some", "line", "n"] ["self", "some"] (defScope s_Desk_on_beneath) := ⟨rfl, rfl, rfl, by decide +kernel, rfl, by decide +kernel, by decide +kernel⟩
abbrev s_Desk_on_within : Stmt := inClass (topS 53) 7
theorem sc_Desk_on_within : FnScope ["self", "some", "line", "low", "found"] ["self", "some"] (defScope s_Desk_on_within) := ⟨rfl, rfl, rfl, by decide +kernel, rfl, by decide +kernel, by decide +kernel⟩
abbrev s_Desk_on_order : Stmt := inClass (topS 53) 8
theorem sc_Desk_on_order : FnScope ["self", "some", "line", "n", "rest", "place"] ["self", "some"] (defScope s_Desk_on_order) := ⟨rfl, rfl, rfl, by decide +kernel, rfl, by decide +kernel, by decide +kernel⟩
abbrev s_Desk_on_points : Stmt := inClass (topS 53) 9
theorem sc_Desk_on_points : FnScope ["self", "some", "cut", "names", "sides", "row", "low", "name"] ["self", "some"] (defScope s_Desk_on_points) := ⟨rfl, rfl, rfl, by decide +kernel, rfl, by decide +kernel, by decide +kernel⟩
abbrev s_Desk_on_paper : Stmt := inClass (topS 53) 10
theorem sc_Desk_on_paper : FnScope ["self", "some", "line", "found", "count", "there", "total", "number"] ["self", "some"] (defScope s_Desk_on_paper) := ⟨rfl, rfl, rfl, by decide +kernel, rfl, by decide +kernel, by decide +kernel⟩
abbrev s_Desk_of_more : Stmt := inClass (topS 53) 11
theorem sc_Desk_of_more : FnScope ["self", "word", "some"] ["self", "word", "some"] (defScope s_Desk_of_more) := ⟨rfl, rfl, rfl, by decide +kernel, rfl, by decide +kernel, by decide +kernel⟩
abbrev s_Desk_ask : Stmt := inClass (topS 53) 12
theorem sc_Desk_ask : FnScope ["self", "line", "some", "word", "found"] ["self", "line"] (defScope s_Desk_ask) := ⟨rfl, rfl, rfl, by decide +kernel, rfl, by decide +kernel, by decide +kernel⟩
abbrev s__law_draw : Stmt := topS 55
theorem sc__law_draw : FnScope ["_law_script", "_law_k", "_law_many", "_law_cell", "_law_turn", "_law_mixed"] ["_law_script", "_law_k"] (defScope s__law_draw) := ⟨rfl, rfl, rfl, by decide +kernel, rfl, by decide +kernel, by decide +kernel⟩
abbrev s__law_number : Stmt := topS 56
theorem sc__law_number : FnScope ["_law_script", "_law_at", "_law_most", "_law_figures", "_law_k"] ["_law_script", "_law_at", "_law_most"] (defScope s__law_number) := ⟨rfl, rfl, rfl, by decide +kernel, rfl, by decide +kernel, by decide +kernel⟩
abbrev s__law_line : Stmt := topS 57
theorem sc__law_line : FnScope ["_law_script", "_law_at", "_law_most", "_law_sizes", "_law_a", "_law_b", "_law_m"] ["_law_script", "_law_at", "_law_most"] (defScope s__law_line) := ⟨rfl, rfl, rfl, by decide +kernel, rfl, by decide +kernel, by decide +kernel⟩
abbrev s__law_name : Stmt := topS 58
theorem sc__law_name : FnScope ["_law_script", "_law_i", "_law_letters", "_law_pad", "_law_place", "_law_tail", "_law_sign", "_law_style"] ["_law_script", "_law_i"] (defScope s__law_name) := ⟨rfl, rfl, rfl, by decide +kernel, rfl, by decide +kernel, by decide +kernel⟩
abbrev s__law_line_text : Stmt := topS 59
theorem sc__law_line_text : FnScope ["_law_line_here", "_law_number_here"] ["_law_line_here"] (defScope s__law_line_text) := ⟨rfl, rfl, rfl, by decide +kernel, rfl, by decide +kernel, by decide +kernel⟩
abbrev s__law_row : Stmt := topS 60
theorem sc__law_row : FnScope ["_law_numbers", "_law_number_here"] ["_law_numbers"] (defScope s__law_row) := ⟨rfl, rfl, rfl, by decide +kernel, rfl, by decide +kernel, by decide +kernel⟩
abbrev s__law_lines : Stmt := topS 61
theorem sc__law_lines : FnScope ["_law_script", "_law_name_here", "_law_line_here", "_law_at", "_law_n", "_law_x", "_law_y", "_law_bound", "_law_low", "_law_found", "_law_place", "_law_rows", "_law_count", "_law_there", "_law_total", "_law_word", "_law_numbers", "_law_due", "_law_one"] ["_law_script", "_law_name_here", "_law_line_here", "_law_at"] (defScope s__law_lines) := ⟨rfl, rfl, rfl, by decide +kernel, rfl, by decide +kernel, by decide +kernel⟩
abbrev s__law_told_right : Stmt := topS 62
theorem sc__law_told_right : FnScope ["_law_desk", "_law_lines_here", "_law_held", "_law_stood", "_law_text", "_law_due", "_law_told", "_law_again"] ["_law_desk", "_law_lines_here"] (defScope s__law_told_right) := ⟨rfl, rfl, rfl, by decide +kernel, rfl, by decide +kernel, by decide +kernel⟩
abbrev s_law : Stmt := topS 63
theorem sc_law : FnScope ["_law_script", "_law_desk", "_law_name_here", "_law_other", "_law_turn", "_law_line_here", "_law_beneath", "_law_high", "_law_due"] ["_law_script"] (defScope s_law) := ⟨rfl, rfl, rfl, by decide +kernel, rfl, by decide +kernel, by decide +kernel⟩
abbrev s_init : Stmt := inClass (topS 53) 0
theorem sc_init : FnScope ["self"] ["self"] (defScope s_init) := ⟨rfl, rfl, rfl, by decide +kernel, rfl, by decide +kernel, by decide +kernel⟩
structure Tx (K : PySem.W.Frag) (mg : Str → Option Value) (ec : Nat → Addr) (CD : Addr) : Prop where
  cD : Cls K CD
  nD : NoAttr K CD "lines"
  mD : mg "Desk" = some (.ref CD)
  abs_ : mg "abs" = none
  all_ : mg "all" = none
  int_ : mg "int" = none
  len_ : mg "len" = none
  list_ : mg "list" = none
  max_ : mg "max" = none
  min_ : mg "min" = none
  range_ : mg "range" = none
  set_ : mg "set" = none
  sorted_ : mg "sorted" = none
  str_ : mg "str" = none
  tuple_ : mg "tuple" = none
  zip_ : mg "zip" = none
  e0 : ErrT K mg (ec 0) "NoLine"
  e1 : ErrT K mg (ec 1) "NoTurn"
  e2 : ErrT K mg (ec 2) "NoText"
  e3 : ErrT K mg (ec 3) "NoStretch"
  e4 : ErrT K mg (ec 4) "NoPlace"
  e6 : ErrT K mg (ec 6) "NoAsk"
  c_FIGURES_lines : ∃ t, mg "FIGURES_lines" = some (.str "0123456789" t)
  c_LETTERS : ∃ t, mg "LETTERS" = some (.str "abcdefghijklmnopqrstuvwxyz" t)
  c_FIGURES_whole : ∃ t, mg "FIGURES_whole" = some (.str "0123456789" t)
theorem ok_init {P : Program} {w : World} {K : PySem.W.Frag} {mg : Str → Option Value} {base : Heap} {f C : Addr} {fd : FuncData} (F : Fun K "__init__" "Desk.__init__" s_init f fd) (c : Cls K C) (n : NoAttr K C "lines") : FnOk P w K mg base (L2.CX P w) 1 f fd ["self"] (spInit C) := by
  refine F.okX sc_init (fun vs H Q E h => ?_) (fun cdv A outer s H vs Q E hr h => ?_)
  · obtain ⟨x, dx, rfl, -⟩ := h; rfl
  · obtain ⟨x, dx, rfl, hx, k⟩ := h
    refine ⟨_, pss_one (ps_fld (pv 0) pe_dnewK rfl), ?_⟩
    intro d hd
    have npd : x ≠ d := ne_of_none hx hd
    refine ⟨_, rfl, x, C, dx, [], rfl, by rw [upd_ne npd]; exact hx, c, n, by show 0 < 1000; decide, ?_⟩
    exact k d hd
abbrev ln (a b m : Int) : D := .tup [.int a, .int b, .int m]
def sp_need_line : SpZ Unit := fun ds w Q E => ∃ a b m, ds = [ln a b m] ∧ (m < 1 → E 0 w) ∧ (1 ≤ m → Q .non w)
def sp_height_at : SpZ Unit := fun ds w Q E => ∃ a b m x, ds = [ln a b m, .int x] ∧ (m < 1 → E 0 w) ∧ (1 ≤ m → (Sm 3000 a ∧ Sm 3000 x) ∧ Q (.int (a * x + b)) w)
def sp_part_at : SpZ Unit := fun ds w Q E => ∃ a b m x, ds = [ln a b m, .int x] ∧ (m < 1 → E 0 w) ∧ (1 ≤ m → (Sm 3000 a ∧ Sm 3000 x ∧ Sm 3000 m) ∧ Q (.int ((a * x + b) / m)) w)
def sp_rest_at : SpZ Unit := fun ds w Q E => ∃ a b m x, ds = [ln a b m, .int x] ∧ (m < 1 → E 0 w) ∧ (1 ≤ m → (Sm 3000 a ∧ Sm 3000 x ∧ Sm 3000 m) ∧ Q (.int ((a * x + b) % m)) w)
def sp_laid_off : SpZ Unit := fun ds w Q E => ∃ a b m, ds = [ln a b m] ∧ (m < 1 → E 0 w) ∧ (1 ≤ m → Sm 8000 m ∧ Q (.tup [.int (a / m), .int (b / m), ln (a % m) (b % m) m]) w)
def sp_turned : SpZ Unit := fun ds w Q E => ∃ a b m n, ds = [ln a b m, .int n] ∧ (m < 1 → E 0 w) ∧ (1 ≤ m → (¬ (0 ≤ a ∧ a < m ∧ 0 ≤ b ∧ b < m) → E 1 w) ∧ ((0 ≤ a ∧ a < m ∧ 0 ≤ b ∧ b < m) → (Sm 3000 m ∧ Sm 3000 n) ∧ ((a * n + b) / m = 0 → Q (.tup [.int 0, .non]) w) ∧ ((a * n + b) / m ≠ 0 → Q (.tup [.int ((a * n + b) / m), ln m ((a * n + b) % m) a]) w)))
def shown (a b m : Int) : Str := Txt.join (" " : Str) [tx a, tx b, tx m]
theorem shown_fits {a b m : Int} (ha : Sm 1900 a) (hb : Sm 1900 b) (hm : Sm 1900 m) : ([tx a, tx b, tx m].map (·.length)).sum + [tx a, tx b, tx m].length * (" " : Str).length ≤ 16777216 := by
  have h1 := tx_length ha
  have h2 := tx_length hb
  have h3 := tx_length hm
  have e : (" " : Str).length = 1 := rfl
  simp only [List.map_cons, List.map_nil, List.sum_cons, List.sum_nil, List.length_cons, List.length_nil, e]
  omega
theorem shown_split (a b m : Int) : Txt.split (shown a b m) (" " : Str) = [tx a, tx b, tx m] := split_nums (is := [a, b, m]) (by simp)
theorem shown_len {a b m : Int} (ha : Sm 1900 a) (hb : Sm 1900 b) (hm : Sm 1900 m) : (shown a b m).length ≤ 1000000 := by
  have h1 := tx_length ha
  have h2 := tx_length hb
  have h3 := tx_length hm
  have := PySem.StrLaws.join_length_le (" " : Str) [tx a, tx b, tx m]
  have e : (" " : Str).length = 1 := rfl
  have e2 : shown a b m = Str.join (" " : Str) [tx a, tx b, tx m] := TL.join_eq _ _
  simp only [List.map_cons, List.map_nil, List.sum_cons, List.sum_nil, List.length_cons, List.length_nil, e] at this
  rw [e2]
  omega
theorem sgn_at {x : Str} {i : Nat} {d : D} (h : (sgnD x)[i]? = some d) : ∃ c, c ∈ TL.tl x ∧ d = .str ⟨#[c]⟩ := by
  unfold sgnD at h
  rw [List.getElem?_map] at h
  obtain ⟨c, hc, rfl⟩ := Option.map_eq_some_iff.mp h
  exact ⟨c, List.mem_of_getElem? hc, rfl⟩
theorem sgn_len (x : Str) : (sgnD x).length = x.length := by unfold sgnD; rw [List.length_map, Array.length_toList]; rfl
theorem one_zero {c : Nat} (h : (⟨#[c]⟩ : Str) = Str.ofString "0") : c = 48 := by
  have e : Str.ofString "0" = ⟨#[48]⟩ := by decide +kernel
  rw [e] at h
  injection h with h
  simpa using h
theorem fig_in {i : Int} {c : Nat} (h : c ∈ TL.tl (fg i)) : c ∈ (Str.ofString "0123456789").cps.toList := by
  have d := TL.numL_digits i.natAbs c h
  have e : (Str.ofString "0123456789").cps.toList = [48, 49, 50, 51, 52, 53, 54, 55, 56, 57] := by decide +kernel
  rw [e]
  simp only [List.mem_cons, List.not_mem_nil, or_false]
  omega
def sp_number_read : SpZ Unit := fun ds w Q E => ∃ i, ds = [.str (tx i)] ∧ Sm 1900 i ∧ Q (.int i) w
def sp_read_line : SpZ Unit := fun ds w Q E => ∃ a b m, ds = [.str (shown a b m)] ∧ (Sm 1900 a ∧ Sm 1900 b ∧ Sm 1900 m) ∧ (m < 1 → E 0 w) ∧ (1 ≤ m → Q (ln a b m) w)
def sp_own_part : SpZ Unit := fun ds w Q E => ∃ a b m n, ds = [ln a b m, .int n] ∧ (m < 1 → E 0 w) ∧ (1 ≤ m → (Sm 2000 a ∧ Sm 2000 b ∧ Sm 2000 m ∧ Sm 2000 n) ∧ Q (.int (a / m * tri n + b / m * n)) w)
def kD (r : Rw) : D := .tup [.int r.1, ln r.2.1 r.2.2.1 r.2.2.2]
def oD (r : Rw) : D := .tup [.int r.1, ln r.2.1 r.2.2.1 r.2.2.2, .int (ownR r)]
def rowD (r : Rw) : D := .tup [.int r.1, ln r.2.1 r.2.2.1 r.2.2.2, .int (sumR r)]
structure Pap (r : Rw) (l : List Rw) : Prop where
  ch : PChn r l
  ok : ∀ q ∈ l, RwOk 1000 q
theorem Pap.ex {r : Rw} (h : RwOk 1000 r) : ∃ l, Pap r l := by
  obtain ⟨l, a, b⟩ := pchn_ex r.2.2.2.toNat r h (by have := h.m1; omega)
  exact ⟨l, a, b⟩
theorem deq_row (r : Rw) : deq (rowD r) (rowD r) = true := by
  unfold rowD ln
  simp [Z.deq_tup, Z.deqs_cons, Z.deqs_nil, Z.deq_int]
theorem deqs_rows : ∀ l : List Rw, deqs (l.map rowD) (l.map rowD) = true
  | [] => Z.deqs_nil
  | r :: l => by rw [List.map_cons, Z.deqs_cons, deq_row, deqs_rows l]; rfl
theorem okD_rows : ∀ l : List Rw, okDs (l.map rowD) = true
  | [] => rfl
  | r :: l => by show (okD (rowD r) && okDs (l.map rowD)) = true; rw [okD_rows l]; rfl
theorem dpD_rows : ∀ l : List Rw, dpDs (l.map rowD) ≤ 2
  | [] => by decide
  | r :: l => by show max (dpD (rowD r)) (dpDs (l.map rowD)) ≤ 2; have := dpD_rows l; have e : dpD (rowD r) = 2 := rfl; omega
theorem row_hd {l : List Rw} {r : Rw} (h : l[0]? = some r) : atI (l.map rowD) 0 = some (rowD r) := by
  have hl := (List.getElem?_eq_some_iff.mp h).1
  unfold atI ixN
  rw [if_pos (by decide), List.length_map, if_pos (by omega)]
  show (l.map rowD)[(0 : Int).toNat]? = _
  rw [List.getElem?_map]
  show Option.map rowD (l[0]?) = _
  rw [h]; rfl
theorem Rw.lt {s k : Nat} {r : Rw} (h : RwOk s r) (sk : s ≤ k) : r.2.2.2 < 2 ^ k := by
  have h1 := h.sm.le sk
  unfold Sm at h1
  have h2 : (((2 : Nat) ^ k : Nat) : Int) = (2 : Int) ^ k := by rw [Int.natCast_pow]; rfl
  omega
theorem rev_at {α : Type} {f : α → D} {L : List α} {i : Nat} {d : D} (h : (L.map f).reverse[i]? = some d) : ∃ q, L[L.length - 1 - i]? = some q ∧ i < L.length ∧ d = f q := by
  have hi : i < (L.map f).reverse.length := (List.getElem?_eq_some_iff.mp h).1
  rw [List.length_reverse, List.length_map] at hi
  rw [List.getElem?_reverse (by rw [List.length_map]; exact hi), List.length_map, List.getElem?_map] at h
  obtain ⟨q, hq, rfl⟩ := Option.map_eq_some_iff.mp h
  exact ⟨q, hq, hi, rfl⟩
theorem drop_at {α : Type} {L : List α} {i : Nat} {q : α} (h : L[i]? = some q) : L.drop i = q :: L.drop (i + 1) := by
  obtain ⟨hl, e⟩ := List.getElem?_eq_some_iff.mp h
  rw [List.drop_eq_getElem_cons hl, e]
def sp_sum_paper : SpZ Unit := fun ds w Q E => ∃ a b m n, ds = [ln a b m, .int n] ∧ (m < 1 → E 0 w) ∧ (1 ≤ m → ∃ l, Pap (n, a, b, m) l ∧ Q (.tup (l.map rowD)) w)
theorem fs_many {a b m k : Int} (ha : 0 ≤ a) (ha1 : a < m) (hb : 0 ≤ b) (hb1 : b < m) (hk : 0 ≤ k) : 0 ≤ (a * k + b) / m ∧ (a * k + b) / m ≤ k := by
  have h1 : a * k ≤ (m - 1) * k := Int.mul_le_mul_of_nonneg_right (by omega) hk
  have h0 : 0 ≤ a * k := Int.mul_nonneg ha hk
  refine ⟨Int.ediv_nonneg (by omega) (by omega), ?_⟩
  have h2 : a * k + b < m * (k + 1) := by
    rw [Int.sub_mul] at h1
    rw [Int.mul_add]
    omega
  have := Int.ediv_lt_of_lt_mul (show 0 < m by omega) (by rw [Int.mul_comm]; exact h2)
  omega
def sp_sum_parts : SpZ Unit := fun ds w Q E => ∃ a b m n, ds = [ln a b m, .int n] ∧ (m < 1 → E 0 w) ∧ (1 ≤ m → (0 ≤ n ∧ Sm 2000 a ∧ Sm 2000 b ∧ Sm 2000 m ∧ Sm 2000 n) ∧ Q (.int (FS a b m n.toNat)) w)
def sp_sum_rests : SpZ Unit := fun ds w Q E => ∃ a b m n, ds = [ln a b m, .int n] ∧ (m < 1 → E 0 w) ∧ (1 ≤ m → (0 ≤ n ∧ Sm 2000 a ∧ Sm 2000 b ∧ Sm 2000 m ∧ Sm 2000 n) ∧ Q (.int (RS a b m n.toNat)) w)
def sp_sum_between : SpZ Unit := fun ds w Q E => ∃ a b m lo hi, ds = [ln a b m, .int lo, .int hi] ∧ (m < 1 → E 0 w) ∧ (1 ≤ m → (hi < lo → E 3 w) ∧ (lo ≤ hi → (Sm 900 a ∧ Sm 900 lo ∧ Sm 1500 b ∧ Sm 2000 m ∧ Sm 1500 hi) ∧ Q (.int (FS a (a * lo + b) m (hi - lo).toNat)) w))
def lnP (p : L3) : D := ln p.1 p.2.1 p.2.2
def ltp (ls : List L3) : D := .tup (ls.map lnP)
def llp (ls : List L3) : D := .lst (ls.map lnP)
structure LsOk (ls : List L3) : Prop where
  l1 : 1 ≤ ls.length
  l8 : ls.length ≤ 8
  ea : ∀ p ∈ ls, 1 ≤ p.2.2 ∧ Sm 800 p.1 ∧ Sm 800 p.2.1 ∧ Sm 800 p.2.2
theorem LsOk.dn {ls : List L3} (h : LsOk ls) : LsOk (ls.map dnP) := ⟨by rw [List.length_map]; exact h.l1, by rw [List.length_map]; exact h.l8, fun p hp => by
  obtain ⟨q, hq, rfl⟩ := List.mem_map.mp hp
  obtain ⟨a, b, c, d⟩ := h.ea q hq
  exact ⟨a, show Sm 800 (0 - q.1) by unfold Sm at *; omega, show Sm 800 (0 - q.2.1) by unfold Sm at *; omega, d⟩⟩
theorem lnP_at {ls : List L3} {i : Nat} {d : D} (h : (ls.map lnP)[i]? = some d) : ∃ p, ls[i]? = some p ∧ p ∈ ls ∧ d = lnP p := by
  rw [List.getElem?_map] at h
  obtain ⟨p, hp, rfl⟩ := Option.map_eq_some_iff.mp h
  exact ⟨p, hp, List.mem_of_getElem? hp, rfl⟩
theorem take_snoc {α β : Type} (f : α → β) {l : List α} {i : Nat} {x : α} (h : l[i]? = some x) : (l.take (i + 1)).map f = (l.take i).map f ++ [f x] := by
  rw [List.take_add_one, h, List.map_append]; rfl
theorem ne_map {ls : List L3} (h : 1 ≤ ls.length) : ls.map lnP ≠ [] := fun e => by
  have := congrArg List.length e
  rw [List.length_map] at this
  rw [this] at h
  exact absurd h (by decide)
theorem at_head {x : Int} {r : List Int} : atI ((x :: r).map D.int) 0 = some (.int x) := by
  unfold atI ixN
  rw [if_pos (by decide), if_pos (by rw [List.length_map, List.length_cons]; omega)]; rfl
theorem at_last {l : List Int} {y : Int} (h : l.getLast? = some y) : atI (l.map D.int) (-1) = some (.int y) := by
  have hl : l ≠ [] := fun e => by rw [e] at h; exact absurd h (by simp)
  have hl2 : 0 < l.length := List.length_pos_iff.mpr hl
  unfold atI ixN
  rw [if_neg (by decide), List.length_map, if_pos (by omega)]
  show (l.map D.int)[_]? = _
  rw [List.getLast?_eq_getElem?] at h
  rw [List.getElem?_map, show (-1 + ((l.length : Nat) : Int)).toNat = l.length - 1 by omega, h]; rfl
theorem ix_menu {l : List D} {n : Nat} (hn : l.length = n) (h0 : 0 < n) {i : Int} {q : D → Prop} (h : ∀ z, z ∈ l → q z) : ixD (.lst l) (.int (i % (n : Int))) q := by
  have m0 := Int.emod_nonneg i (show (n : Int) ≠ 0 by omega)
  have m1 := Int.emod_lt_of_pos i (show 0 < (n : Int) by omega)
  have hv : (i % (n : Int)).toNat < l.length := by omega
  refine ⟨l[(i % (n : Int)).toNat], ?_, h _ (List.getElem_mem hv)⟩
  unfold atI ixN
  rw [if_pos m0, if_pos (by omega)]
  show l[_]? = _
  rw [List.getElem?_eq_getElem hv]
theorem ix_menu2 {x y : D} {i : Int} {q : D → Prop} (h : ∀ z, z = x ∨ z = y → q z) : ixD (.lst [x, y]) (.int (i % 2)) q := ix_menu (n := 2) rfl (by decide) fun z hz => h z (by simpa using hz)
theorem ix_menu4 {x y u v : D} {i : Int} {q : D → Prop} (h : ∀ z, z = x ∨ z = y ∨ z = u ∨ z = v → q z) : ixD (.lst [x, y, u, v]) (.int (i % 4)) q := ix_menu (n := 4) rfl (by decide) fun z hz => h z (by simpa using hz)
theorem ix_menu5 {x y u v r : D} {i : Int} {q : D → Prop} (h : ∀ z, z = x ∨ z = y ∨ z = u ∨ z = v ∨ z = r → q z) : ixD (.lst [x, y, u, v, r]) (.int (i % 5)) q := ix_menu (n := 5) rfl (by decide) fun z hz => h z (by simpa using hz)
theorem ix_menu6 {x y u v r s : D} {i : Int} {q : D → Prop} (h : ∀ z, z = x ∨ z = y ∨ z = u ∨ z = v ∨ z = r ∨ z = s → q z) : ixD (.lst [x, y, u, v, r, s]) (.int (i % 6)) q := ix_menu (n := 6) rfl (by decide) fun z hz => h z (by simpa using hz)
theorem ix_menu8 {a b c d e f g k : Int} {i : Int} {q : D → Prop} {P : Int → Prop} (pa : P a) (pb : P b) (pc : P c) (pd : P d) (pe : P e) (pf : P f) (pg : P g) (pk : P k) (h : ∀ z, P z → q (.int z)) : ixD (.lst [.int a, .int b, .int c, .int d, .int e, .int f, .int g, .int k]) (.int (i % 8)) q := ix_menu (n := 8) rfl (by decide) fun z hz => by
  simp only [List.mem_cons, List.not_mem_nil, or_false] at hz
  rcases hz with rfl | rfl | rfl | rfl | rfl | rfl | rfl | rfl <;> exact h _ (by assumption)
theorem grow {ls : List L3} {i : Nat} {a b m : Int} (hl : ls.length = i) (hp : ∀ p ∈ ls, 1 ≤ p.2.2 ∧ Sm 260 p.1 ∧ Sm 600 p.2.1 ∧ Sm 250 p.2.2) (m1 : 1 ≤ m) (sa : Sm 260 a) (sb : Sm 600 b) (sm : Sm 250 m) : ∃ l2 : List L3, ls.map lnP ++ [ln a b m] = l2.map lnP ∧ l2.length = i + 1 ∧ Stp (∀ p ∈ l2, 1 ≤ p.2.2 ∧ Sm 260 p.1 ∧ Sm 600 p.2.1 ∧ Sm 250 p.2.2) :=
  ⟨ls ++ [(a, b, m)], by rw [List.map_append]; rfl, by rw [List.length_append, hl]; rfl, Stp.mk fun p hq => by
    rcases List.mem_append.mp hq with hq | hq
    · exact hp p hq
    · rw [List.mem_singleton.mp hq]; exact ⟨m1, sa, sb, sm⟩⟩
def LnOk (p : L3) : Prop := 1 ≤ p.2.2 ∧ Sm 800 p.1 ∧ Sm 800 p.2.1 ∧ Sm 800 p.2.2
theorem grow3 {ls : List L3} {i : Nat} {a b m : Int} (hl : ls.length = i) (hp : ∀ p ∈ ls, LnOk p) (h : LnOk (a, b, m)) : ∃ l2 : List L3, ls.map lnP ++ [ln a b m] = l2.map lnP ∧ l2.length = i + 1 ∧ Stp (∀ p ∈ l2, LnOk p) :=
  ⟨ls ++ [(a, b, m)], by rw [List.map_append]; rfl, by rw [List.length_append, hl]; rfl, Stp.mk fun p hq => by
    rcases List.mem_append.mp hq with hq | hq
    · exact hp p hq
    · rw [List.mem_singleton.mp hq]; exact h⟩
theorem at_hd {α : Type} {f : α → D} {x : α} {r : List α} : atI ((x :: r).map f) 0 = some (f x) := by
  unfold atI ixN
  rw [if_pos (by decide), if_pos (by rw [List.length_map, List.length_cons]; omega)]; rfl
theorem ixN_hd {α : Type} {f : α → D} {x : α} {r : List α} : ixN ((x :: r).map f).length 0 = some 0 := by
  unfold ixN
  rw [if_pos (by decide), if_pos (by rw [List.length_map, List.length_cons]; omega)]; rfl
theorem ix_menu3 {x y u : D} {i : Int} {q : D → Prop} (h : ∀ z, z = x ∨ z = y ∨ z = u → q z) : ixD (.lst [x, y, u]) (.int (i % 3)) q := ix_menu (n := 3) rfl (by decide) fun z hz => h z (by simpa using hz)
theorem sm_off {x y : Int} (h : Sm 260 x) (h1 : x - 5000 ≤ y) (h2 : y ≤ x + 5000) : Sm 280 y := by
  have e : y = x + (y - x) := by omega
  rw [e]
  exact (h.add (Z.Sm.near (r := y - x) (by omega) (by omega))).le (by decide)
theorem LsOk.both {ab be : List L3} (h : LsOk ab) (g : LsOk be) : ∀ p ∈ ab ++ be, 1 ≤ p.2.2 := fun p hp => (List.mem_append.mp hp).elim (fun q => (h.ea p q).1) fun q => (g.ea p q).1
theorem LsOk.bothS {ab be : List L3} (h : LsOk ab) (g : LsOk be) : ∀ p ∈ ab ++ be, Sm 800 p.2.2 ∧ Sm 800 p.1 := fun p hp => (List.mem_append.mp hp).elim (fun q => ⟨(h.ea p q).2.2.2, (h.ea p q).2.1⟩) fun q => ⟨(g.ea p q).2.2.2, (g.ea p q).2.1⟩
theorem EL_y2 {ab be : List L3} {lo : Int} {n : Nat} (h : 0 < room ab be (lo + n)) : (EL ab be lo n).map D.int ++ [D.int (lo + (n : Int))] = (EL ab be lo (n + 1)).map D.int := by
  rw [EL_yes (by unfold room at h; omega), List.map_append]; rfl
theorem EL_n2 {ab be : List L3} {lo : Int} {n : Nat} (h : ¬ 0 < room ab be (lo + n)) : (EL ab be lo n).map D.int = (EL ab be lo (n + 1)).map D.int := by
  rw [EL_no (by unfold room at h; omega)]
def sp_need_all : SpZ Unit := fun ds w Q E => ∃ ab be lo hi, ds = [ltp ab, ltp be, .int lo, .int hi] ∧ (1 ≤ ab.length ∧ ab.length ≤ 8 ∧ 1 ≤ be.length ∧ be.length ≤ 8 ∧ ∀ p ∈ ab ++ be, Sm 800 p.2.2 ∧ Sm 800 p.1) ∧ ((∃ p ∈ ab ++ be, p.2.2 < 1) → E 0 w) ∧ ((∀ p ∈ ab ++ be, 1 ≤ p.2.2) → (hi < lo → E 3 w) ∧ (lo ≤ hi → Q .non w))
def sp_turned_down : SpZ Unit := fun ds w Q E => ∃ ls, ds = [ltp ls] ∧ ls.length ≤ 8 ∧ Q (llp (ls.map dnP)) w
theorem LsOk.sms {ls : List L3} (h : LsOk ls) : ∀ p ∈ ls, Sm 800 p.2.2 ∧ Sm 800 p.1 := fun p hp => ⟨(h.ea p hp).2.2.2, (h.ea p hp).2.1⟩
theorem atL {ls : List L3} {j : Nat} {p : L3} (h : ls[j]? = some p) : atI (ls.map lnP) (j : Int) = some (lnP p) := by
  have hl := (List.getElem?_eq_some_iff.mp h).1
  unfold atI ixN
  rw [if_pos (by omega), List.length_map, if_pos (by omega)]
  show (ls.map lnP)[((j : Int)).toNat]? = _
  rw [Int.toNat_natCast, List.getElem?_map, h]; rfl
theorem Sm.btw {n : Nat} {a b x : Int} (ha : Sm n a) (hb : Sm n b) (h1 : a ≤ x) (h2 : x ≤ b) : Sm n x := by unfold Sm at *; omega
theorem cut1 {α : Type} (f : α → D) (x : α) (r : List α) : Z.cutD ((x :: r).map f) (some 1) none = r.map f := by
  unfold Z.cutD
  have e1 : HT.sIx ((x :: r).map f).length 0 (some 1) = 1 := by
    refine (HT.sIx_nat _ _ 1).trans ?_
    rw [List.length_map, List.length_cons]; omega
  rw [e1]
  show ((r.map f).take (((x :: r).map f).length - 1)) = _
  rw [List.length_map, List.length_cons, Nat.add_sub_cancel]
  exact List.take_of_length_le (by rw [List.length_map]; exact Nat.le_refl _)
theorem cut1_ne {α : Type} (f : α → D) (x : α) (r : List α) : ¬ (HT.sIx ((x :: r).map f).length 0 (some 1) = 0 ∧ HT.sIx ((x :: r).map f).length ((x :: r).map f).length none = ((x :: r).map f).length) := fun h => by
  have e1 : HT.sIx ((x :: r).map f).length 0 (some 1) = 1 := by
    refine (HT.sIx_nat _ _ 1).trans ?_
    rw [List.length_map, List.length_cons]; omega
  rw [e1] at h
  exact absurd h.1 (by decide)
theorem zipT_get {cs : List Int} {i : Nat} {d : D} (h : (zipT (cs.map D.int) ((cs.drop 1).map D.int))[i]? = some d) : ∃ s e, cs[i]? = some s ∧ cs[i + 1]? = some e ∧ d = .tup [.int s, .int e] := by
  unfold zipT at h
  rw [List.getElem?_map] at h
  obtain ⟨⟨a, b⟩, hz, rfl⟩ := Option.map_eq_some_iff.mp h
  obtain ⟨h1, h2⟩ := List.getElem?_zip_eq_some.mp hz
  rw [List.getElem?_map] at h1 h2
  obtain ⟨s, hs, rfl⟩ := Option.map_eq_some_iff.mp h1
  obtain ⟨e, he, rfl⟩ := Option.map_eq_some_iff.mp h2
  rw [List.getElem?_drop] at he
  exact ⟨s, e, hs, by rw [Nat.add_comm]; exact he, rfl⟩
theorem zipT_l (cs : List Int) : (zipT (cs.map D.int) ((cs.drop 1).map D.int)).length = cs.length - 1 := by
  rw [zipT_len, List.length_map, List.length_map, List.length_drop]; omega
theorem low_dn {x : Int} {b : L3} {be : List L3} (h : ∀ q ∈ be.map dnP, Lo x (dnP b) q) : ∀ q ∈ be, Lo x q b := fun q hq => by
  have := h _ (List.mem_map.mpr ⟨q, hq, rfl⟩)
  unfold Lo at *
  rw [hh_dn, hh_dn] at this
  have e : (0 - hh x b) * q.2.2 ≤ (0 - hh x q) * b.2.2 := this
  rw [Int.sub_mul, Int.sub_mul] at e
  omega
theorem up_dn' {x : Int} {p b : L3} (h : Lo x b p) : 0 ≤ (p.1 * x + p.2.1) * (dnP b).2.2 + ((dnP b).1 * x + (dnP b).2.1) * p.2.2 := by
  unfold Lo at h
  have e : (dnP b).1 * x + (dnP b).2.1 = 0 - hh x b := hh_dn x b
  rw [e, Int.sub_mul, Int.zero_mul]
  have : hh x b * p.2.2 ≤ (p.1 * x + p.2.1) * b.2.2 := h
  show 0 ≤ (p.1 * x + p.2.1) * b.2.2 + _
  omega
theorem up_dn {x : Int} {p b : L3} (h : 0 ≤ (p.1 * x + p.2.1) * (dnP b).2.2 + ((dnP b).1 * x + (dnP b).2.1) * p.2.2) : Lo x b p := by
  have e : (dnP b).1 * x + (dnP b).2.1 = 0 - hh x b := hh_dn x b
  rw [e, Int.sub_mul, Int.zero_mul] at h
  have h' : 0 ≤ (p.1 * x + p.2.1) * b.2.2 + (0 - hh x b * p.2.2) := h
  show hh x b * p.2.2 ≤ (p.1 * x + p.2.1) * b.2.2
  omega
/-- what is found of the cuts of ps with qs -/
structure CI (lo hi : Int) (P : L3 → L3 → Prop) (cs : List Int) : Prop where
  cl : lo ∈ cs
  ch : hi ∈ cs
  wi : ∀ c ∈ cs, lo ≤ c ∧ c ≤ hi
  cr : ∀ p q, P p q → 0 < st p q → ∀ c, (c = pl p q ∨ c = pl p q + 1) → lo < c → c < hi → c ∈ cs
theorem CI.more {lo hi : Int} {P P' : L3 → L3 → Prop} {cs es : List Int} (h : CI lo hi P cs) (hw : ∀ c ∈ es, lo ≤ c ∧ c ≤ hi) (hp : ∀ p q, P' p q → P p q ∨ (0 < st p q → ∀ c, (c = pl p q ∨ c = pl p q + 1) → lo < c → c < hi → c ∈ es)) : CI lo hi P' (cs ++ es) where
  cl := List.mem_append.mpr (.inl h.cl)
  ch := List.mem_append.mpr (.inl h.ch)
  wi := fun c hc => (List.mem_append.mp hc).elim (h.wi c) (hw c)
  cr := fun p q hq s c hc c0 c1 => (hp p q hq).elim (fun a => List.mem_append.mpr (.inl (h.cr p q a s c hc c0 c1))) fun a => List.mem_append.mpr (.inr (a s c hc c0 c1))
theorem CI.same {lo hi : Int} {P P' : L3 → L3 → Prop} {cs : List Int} (h : CI lo hi P cs) (hp : ∀ p q, P' p q → 0 < st p q → P p q) : CI lo hi P' cs := ⟨h.cl, h.ch, h.wi, fun p q hq s => h.cr p q (hp p q hq s) s⟩
theorem mem_take_snoc {α : Type} {l : List α} {i : Nat} {x y : α} (h : l[i]? = some x) (hy : y ∈ l.take (i + 1)) : y ∈ l.take i ∨ y = x := by
  rw [List.take_add_one, h] at hy
  rcases List.mem_append.mp hy with q | q
  · exact .inl q
  · exact .inr (by simpa using q)
def sp_lowest_at : SpZ Unit := fun ds w Q E => ∃ ls x, ds = [ltp ls, .int x] ∧ (LsOk ls ∧ Sm 310 x) ∧ ∀ p, p ∈ ls → 1 ≤ p.2.2 → Sm 800 p.1 → Sm 800 p.2.1 → Sm 800 p.2.2 → Stp (∀ q ∈ ls, Lo x p q) → Q (lnP p) w
def sp_lowest_at_L : SpZ Unit := fun ds w Q E => ∃ ls x, ds = [llp ls, .int x] ∧ (LsOk ls ∧ Sm 310 x) ∧ ∀ p, p ∈ ls → 1 ≤ p.2.2 → Sm 800 p.1 → Sm 800 p.2.1 → Sm 800 p.2.2 → Stp (∀ q ∈ ls, Lo x p q) → Q (lnP p) w
def sp_cuts_of : SpZ Unit := fun ds w Q E => ∃ ls lo hi, ds = [ltp ls, .int lo, .int hi] ∧ (LsOk ls ∧ lo ≤ hi) ∧ ∀ cs, Stp (Cuts ls lo hi cs) → cs.length < 64 → Q (.lst (cs.map D.int)) w
def sp_points_between : SpZ Unit := fun ds w Q E => ∃ ab be lo hi, ds = [ltp ab, ltp be, .int lo, .int hi] ∧ (1 ≤ ab.length ∧ ab.length ≤ 8 ∧ 1 ≤ be.length ∧ be.length ≤ 8 ∧ ∀ p ∈ ab ++ be, Sm 800 p.2.2 ∧ Sm 800 p.1) ∧ ((∃ p ∈ ab ++ be, p.2.2 < 1) → E 0 w) ∧ ((∀ p ∈ ab ++ be, 1 ≤ p.2.2) → (hi < lo → E 3 w) ∧ (lo ≤ hi → (LsOk ab ∧ LsOk be ∧ ab.length + be.length ≤ 8 ∧ Sm 300 lo ∧ Sm 300 hi) ∧ Q (.int (pts ab be lo (hi - lo).toNat)) w))
def sp_beneath_plain : SpZ Unit := fun ds w Q E => ∃ a b m n t, ds = [ln a b m, .int n, .int t] ∧ (1 ≤ m ∧ 0 ≤ n ∧ 0 ≤ t ∧ t ≤ m ∧ Sm 1900 a ∧ Sm 1900 b ∧ Sm 1900 m ∧ Sm 1900 n) ∧ Q (.int (CB a b m t n.toNat)) w
def sp_rests_beneath : SpZ Unit := fun ds w Q E => ∃ a b m n t, ds = [ln a b m, .int n, .int t] ∧ (m < 1 → E 0 w) ∧ (1 ≤ m → (0 ≤ n ∧ Sm 1900 m ∧ Sm 1900 n) ∧ Q (.int (CB a b m t n.toNat)) w)
def sp_first_multiple : SpZ Unit := fun ds w Q E => ∃ a m lo hi, ds = [.int a, .int m, .int lo, .int hi] ∧ (OkM a m lo hi ∧ Sm 2000 m) ∧ ∀ d, ResM a m lo hi d → Q d w
def sp_first_plain : SpZ Unit := fun ds w Q E => ∃ a b m lo hi, ds = [ln a b m, .int lo, .int hi] ∧ (0 ≤ a ∧ a < m ∧ 0 ≤ b ∧ b < m ∧ 0 ≤ lo ∧ lo ≤ hi ∧ hi < m ∧ Sm 2000 m) ∧ ∀ d, Res a b m lo hi d → Q d w
def sp_first_within : SpZ Unit := fun ds w Q E => ∃ a b m lo hi, ds = [ln a b m, .int lo, .int hi] ∧ (m < 1 → E 0 w) ∧ (1 ≤ m → Sm 2000 m ∧ (¬ (0 ≤ lo ∧ lo ≤ hi ∧ hi < m) → E 3 w) ∧ ((0 ≤ lo ∧ lo ≤ hi ∧ hi < m) → Stp (∀ d, Res a b m lo hi d → Q d w)))
def sp_common_measure : SpZ Unit := fun ds w Q E => ∃ a m, ds = [.int a, .int m] ∧ (0 ≤ a ∧ 0 ≤ m) ∧ Q (.int (Int.gcd a m : Int)) w
def sp_in_order : SpZ Unit := fun ds w Q E => ∃ a b m n k, ds = [ln a b m, .int n, .int k] ∧ (m < 1 → E 0 w) ∧ (1 ≤ m → Sm 1800 m ∧ Sm 1800 n ∧ (¬ (0 ≤ k ∧ k < n) → E 4 w) ∧ ((0 ≤ k ∧ k < n) → Stp (∀ r p, Ord a b m n k r p → Q (.tup [.int r, .int p]) w)))
def sp_levels_of : SpZ Unit := fun ds w Q E => ∃ a b m n, ds = [ln a b m, .int n] ∧ (m < 1 → E 0 w) ∧ (1 ≤ m → GoodL a b m n ∧ ∀ L, Chain a b m n L → L.length ≤ 50000 → Q (.lst L) w)
def sp_sums_of_places : SpZ Unit := fun ds w Q E => ∃ n, ds = [.int n] ∧ Sm 9000 n ∧ Q (.tup [.int (tri n), .int (sqs n)]) w
def sp_level_sums : SpZ Unit := fun ds w Q E => ∃ n q r k s1 s2 s3, ds = [lv n q r k, .tup [.int s1, .int s2, .int s3]] ∧ (0 ≤ n ∧ Sm 2000 n ∧ Sm 2000 q ∧ Sm 2000 r ∧ Sm 2000 k ∧ Sm 12000 s1 ∧ Sm 12000 s2 ∧ Sm 12000 s3) ∧ Q (.tup [.int (lvF n q r s1), .int (lvP n q r s1 s3), .int (lvQ n q r k s1 s2 s3)]) w
def sp_three_sums : SpZ Unit := fun ds w Q E => ∃ a b m n, ds = [ln a b m, .int n] ∧ (m < 1 → E 0 w) ∧ (1 ≤ m → GoodL a b m n ∧ Q (.tup [.int (FS a b m n.toNat), .int (JS a b m n.toNat), .int (QS a b m n.toNat)]) w)
def sp_sum_squares : SpZ Unit := fun ds w Q E => ∃ a b m n, ds = [ln a b m, .int n] ∧ (m < 1 → E 0 w) ∧ (1 ≤ m → GoodL a b m n ∧ Q (.int (QS a b m n.toNat)) w)
def sp_sum_placed : SpZ Unit := fun ds w Q E => ∃ a b m n, ds = [ln a b m, .int n] ∧ (m < 1 → E 0 w) ∧ (1 ≤ m → GoodL a b m n ∧ Q (.int (JS a b m n.toNat)) w)
def sp_need : SpZ Unit := fun ds w Q E => ∃ b, ds = [.bl b] ∧ (b = true → Q .non w) ∧ (b = false → E 6 w)
inductive AR where
  | rows (l : List Str)
  | err (e : Nat)
  | put (s : Str) (v : D)
def Fin (r : AR) (w : Dk) (Q : D → Dk → Prop) (E : Nat → Dk → Prop) : Prop := match r with
  | .rows l => ∀ p, wGet w.ls p = none → Q (.ref p) { w with ls := (p, l.map D.str) :: w.ls }
  | .err e => E e w
  | .put s v => ∀ p, wGet w.ls p = none → Q (.ref p) ⟨(p, []) :: w.ls, w.ob, putKv w.kv s v, w.n + 1⟩
theorem Fin.mo {r : AR} {w : Dk} {Q Q' : D → Dk → Prop} {E E' : Nat → Dk → Prop} (k : ∀ d w', Q d w' → Q' d w') (k' : ∀ e w', E e w' → E' e w') (h : Fin r w Q E) : Fin r w Q' E' := by
  cases r with
  | rows l => exact fun p hp => k _ _ (h p hp)
  | err e => exact k' _ _ h
  | put s v => exact fun p hp => k _ _ (h p hp)
def HasD (ob : Option (Addr × Addr)) (a : Addr) : Prop := ∃ d, ob = some (a, d)
def nameB (t : Str) : Bool := decide (1 ≤ t.length) && (decide (t.length ≤ 8) && (TL.tl t).all fun c => decide (97 ≤ c ∧ c ≤ 122))
theorem low_in {c : Nat} : decide (c ∈ (Str.ofString "abcdefghijklmnopqrstuvwxyz").cps.toList) = decide (97 ≤ c ∧ c ≤ 122) := by
  have e : (Str.ofString "abcdefghijklmnopqrstuvwxyz").cps.toList = [97, 98, 99, 100, 101, 102, 103, 104, 105, 106, 107, 108, 109, 110, 111, 112, 113, 114, 115, 116, 117, 118, 119, 120, 121, 122] := by decide +kernel
  rw [e]
  apply decide_eq_decide.mpr
  simp only [List.mem_cons, List.not_mem_nil, or_false]
  omega
theorem dig_in {c : Nat} : decide (c ∈ (Str.ofString "0123456789").cps.toList) = decide (48 ≤ c ∧ c ≤ 57) := by
  have e : (Str.ofString "0123456789").cps.toList = [48, 49, 50, 51, 52, 53, 54, 55, 56, 57] := by decide +kernel
  rw [e]
  apply decide_eq_decide.mpr
  simp only [List.mem_cons, List.not_mem_nil, or_false]
  omega
theorem sgnL (t : Str) : sgnD t = (TL.tl t).map fun c => D.str ⟨#[c]⟩ := rfl
theorem all_take {f : Nat → Bool} (l : List Nat) : (l.map f).all id = l.all f := by induction l with | nil => rfl | cons c l ih => rw [List.map_cons, List.all_cons, List.all_cons, ih]; rfl
def hasB (kv : Str → Option D) (ws : List Str) : Bool := match ws with | s :: _ => (kv s).isSome | [] => false
theorem sgn_ix {x : Str} {i : Nat} {d : D} (h : (sgnD x)[i]? = some d) : ∃ c, (TL.tl x)[i]? = some c ∧ d = .str ⟨#[c]⟩ := by
  rw [sgnL, List.getElem?_map] at h
  obtain ⟨c, hc, rfl⟩ := Option.map_eq_some_iff.mp h
  exact ⟨c, hc, rfl⟩
theorem tk_snoc {α : Type} {l : List α} {i : Nat} {c : α} (h : l[i]? = some c) : l.take (i + 1) = l.take i ++ [c] := by
  rw [List.take_add_one, h]; rfl
theorem bls_snoc {l : List Nat} {i c : Nat} (f : Nat → Bool) (h : l[i]? = some c) : ((l.take i).map f).map D.bl ++ [D.bl (f c)] = ((l.take (i + 1)).map f).map D.bl := by
  rw [tk_snoc h, List.map_append, List.map_append]; rfl
theorem bls_all {l : List Nat} {f : Nat → Bool} {q : D → Prop} (h : q (.bl (l.all f))) : allC [.lst ((l.map f).map D.bl)] q := ⟨l.map f, rfl, by rw [all_take]; exact h⟩
theorem sgn_len2 (x : Str) : (sgnD x).length = (TL.tl x).length := by rw [sgnL, List.length_map]
theorem figL_len (l : List Nat) : (figL l).length ≤ l.length := by
  unfold figL
  split
  · rw [List.length_tail]; omega
  · exact Nat.le_refl _
theorem one_ix {x : Str} {c : Nat} {r : List Nat} (h : TL.tl x = c :: r) : atI x.cps.toList 0 = some c := by
  show atI (TL.tl x) 0 = some c
  rw [h]
  unfold atI ixN
  rw [if_pos (Int.le_refl 0), if_pos (by rw [List.length_cons]; omega)]
  rfl
theorem zero_one : (⟨#[48]⟩ : Str) = Str.ofString "0" := by decide +kernel
theorem strs_at {ws : List Str} {k : Nat} {s : Str} (h : ws[k]? = some s) : atI (ws.map D.str) (k : Int) = some (.str s) := by
  have hl := (List.getElem?_eq_some_iff.mp h).1
  unfold atI ixN
  rw [if_pos (by omega), List.length_map, if_pos (by omega)]
  show (ws.map D.str)[((k : Int)).toNat]? = _
  rw [Int.toNat_natCast, List.getElem?_map, h]; rfl
def sp_is_name : SpZ Unit := fun ds w Q E => ∃ t, ds = [.str t] ∧ t.length ≤ 50000 ∧ Q (.bl (nameB t)) w
def sp_number_from : SpZ Unit := fun ds w Q E => ∃ t, ds = [.str t] ∧ t.length ≤ 50000 ∧ (numB t = false → E 6 w) ∧ (numB t = true → Stp (∀ x : Int, t = tx x → x.natAbs < 10 ^ 60 → Sm 200 x → Q (.int x) w))
def sp_count_from : SpZ Unit := fun ds w Q E => ∃ t, ds = [.str t] ∧ t.length ≤ 50000 ∧ (cntB t = false → E 6 w) ∧ (cntB t = true → Stp (∀ x : Int, t = tx x → 0 ≤ x → x.natAbs < 10 ^ 60 → Sm 200 x → Q (.int x) w))
def sp_Desk_named : SpZ Dk := fun ds w Q E => ∃ a ws many, ds = [.ref a, .lst (List.map D.str ws), .int many] ∧ (HasD w.ob a ∧ 1 ≤ many) ∧ ((decide (many = (ws.length : Int)) && hasB w.kv ws) = false → E 6 w) ∧ Stp (∀ s l v, ws = s :: l → many = (ws.length : Int) → w.kv s = some v → Q v w)
structure LnK (a b m : Int) : Prop where
  m1 : 1 ≤ m
  sa : Sm 205 a
  sb : Sm 205 b
  sm : Sm 205 m
  m60 : m.natAbs < 10 ^ 60
  a60 : a.natAbs < 10 ^ 60
  b60 : b.natAbs < 10 ^ 60
theorem LnK.of {a b m : Int} (h : 1 ≤ m) (ha : a.natAbs < 10 ^ 60) (hb : b.natAbs < 10 ^ 60) (hm : m.natAbs < 10 ^ 60) : LnK a b m := ⟨h, (sm60 ha).le (by decide), (sm60 hb).le (by decide), (sm60 hm).le (by decide), hm, ha, hb⟩
/-- the desk's names stand for lines -/
def KvOk (kv : Str → Option D) : Prop := ∀ s v, kv s = some v → ∃ a b m, v = ln a b m ∧ LnK a b m
/-- well-formed words behind a name: numbers (n), counts (c) -/
def wfW (kv : Str → Option D) (fs : List (Str → Bool)) (ws : List Str) : Bool := hasB kv ws && (decide (ws.length = fs.length + 1) && ((ws.drop 1).zip fs).all fun p => p.2 p.1)
structure Ws (ws : List Str) : Prop where
  n : ws.length ≤ 50000
  l : ∀ t ∈ ws, t.length ≤ 50000
def PlR (kv : Str → Option D) (word : Str) (ws : List Str) (r : AR) : Prop := (wfW kv [numB] ws = false ∧ r = .err 6) ∨ ∃ s x a b m, ws = [s, tx x] ∧ x.natAbs < 10 ^ 60 ∧ kv s = some (ln a b m) ∧ LnK a b m ∧ r = .rows [tx (if word = "part" then (a * x + b) / m else (a * x + b) % m)]
theorem wf2 {kv : Str → Option D} {f : Str → Bool} {ws : List Str} (h : wfW kv [f] ws = true) : ∃ s t v, ws = [s, t] ∧ kv s = some v ∧ f t = true := by
  unfold wfW at h
  rw [Bool.and_eq_true, Bool.and_eq_true] at h
  obtain ⟨h1, h2, h3⟩ := h
  have h2 := of_decide_eq_true h2
  match ws, h1, h2, h3 with
  | [s, t], h1, _, h3 =>
    obtain ⟨v, hv⟩ := Option.isSome_iff_exists.mp h1
    exact ⟨s, t, v, rfl, hv, by simpa using h3⟩
  | [], _, h2, _ => cases h2
  | [_], _, h2, _ => cases h2
  | _ :: _ :: _ :: _, _, h2, _ => simp at h2
theorem wf3 {kv : Str → Option D} {f g : Str → Bool} {ws : List Str} (h : wfW kv [f, g] ws = true) : ∃ s t u v, ws = [s, t, u] ∧ kv s = some v ∧ f t = true ∧ g u = true := by
  unfold wfW at h
  rw [Bool.and_eq_true, Bool.and_eq_true] at h
  obtain ⟨h1, h2, h3⟩ := h
  have h2 := of_decide_eq_true h2
  match ws, h1, h2, h3 with
  | [s, t, u], h1, _, h3 =>
    obtain ⟨v, hv⟩ := Option.isSome_iff_exists.mp h1
    have h3 : f t = true ∧ g u = true := by simpa using h3
    exact ⟨s, t, u, v, rfl, hv, h3⟩
  | [], _, h2, _ => cases h2
  | [_], _, h2, _ => cases h2
  | [_, _], _, h2, _ => cases h2
  | _ :: _ :: _ :: _ :: _, _, h2, _ => simp at h2
/-- what a method finds: the words ill-formed (the name first), or all in order -/
theorem wf_named {kv : Str → Option D} {n : Nat} {ws : List Str} : (decide (((n + 1 : Nat) : Int) = (ws.length : Int)) && hasB kv ws) = (hasB kv ws && decide (ws.length = n + 1)) := by
  rw [Bool.and_comm]; congr 1
  apply decide_eq_decide.mpr; omega
theorem nm_true {kv : Str → Option D} {ws : List Str} {many : Int} {s : Str} {l : List Str} {v : D} (e1 : ws = s :: l) (e2 : many = (ws.length : Int)) (e3 : kv s = some v) : (decide (many = (ws.length : Int)) && hasB kv ws) = true := by
  rw [decide_eq_true e2, Bool.true_and, e1]
  show (kv s).isSome = true
  rw [e3]; rfl
theorem nm2 {kv : Str → Option D} {ws : List Str} (h : (decide ((2 : Int) = (ws.length : Int)) && hasB kv ws) = true) : ∃ s t v, ws = [s, t] ∧ kv s = some v := by
  rw [Bool.and_eq_true] at h
  obtain ⟨h2, h1⟩ := h
  have h2 := of_decide_eq_true h2
  match ws, h1, h2 with
  | [s, t], h1, _ => obtain ⟨v, hv⟩ := Option.isSome_iff_exists.mp h1; exact ⟨s, t, v, rfl, hv⟩
  | [], _, h2 => cases h2
  | [_], _, h2 => cases h2
  | _ :: _ :: _ :: _, _, h2 => simp only [List.length_cons] at h2; omega
theorem nm3 {kv : Str → Option D} {ws : List Str} (h : (decide ((3 : Int) = (ws.length : Int)) && hasB kv ws) = true) : ∃ s t u v, ws = [s, t, u] ∧ kv s = some v := by
  rw [Bool.and_eq_true] at h
  obtain ⟨h2, h1⟩ := h
  have h2 := of_decide_eq_true h2
  match ws, h1, h2 with
  | [s, t, u], h1, _ => obtain ⟨v, hv⟩ := Option.isSome_iff_exists.mp h1; exact ⟨s, t, u, v, rfl, hv⟩
  | [], _, h2 => cases h2
  | [_], _, h2 => cases h2
  | [_, _], _, h2 => cases h2
  | _ :: _ :: _ :: _ :: _, _, h2 => simp only [List.length_cons] at h2; omega
theorem no2 {kv : Str → Option D} {f : Str → Bool} {s t : Str} {v : D} (hs : kv s = some v) (h : wfW kv [f] [s, t] = false) : f t = false := by
  cases q : f t with
  | false => rfl
  | true =>
    rw [← h]
    show true = ((kv s).isSome && (decide (([s, t] : List Str).length = ([f] : List (Str → Bool)).length + 1) && (f t && true)))
    rw [hs, q]; rfl
theorem no3 {kv : Str → Option D} {f g : Str → Bool} {s t u : Str} {v : D} (hs : kv s = some v) (h : wfW kv [f, g] [s, t, u] = false) : (f t && g u) = false := by
  cases q : f t with
  | false => rfl
  | true =>
    cases q2 : g u with
    | false => rfl
    | true =>
      rw [← h]
      show true = ((kv s).isSome && (decide (([s, t, u] : List Str).length = ([f, g] : List (Str → Bool)).length + 1) && (f t && (g u && true))))
      rw [hs, q, q2]; rfl
theorem sumZ_le {f : Nat → Int} {k : Nat} : ∀ n : Nat, (∀ i, i < n → Sm k (f i)) → (sumZ f n).natAbs ≤ n * 2 ^ k
  | 0, _ => by rw [Nat.zero_mul]; exact Nat.le_refl _
  | n + 1, h => by
    have h1 := sumZ_le n fun i hi => h i (Nat.lt_succ_of_lt hi)
    have h2 : (f n).natAbs < 2 ^ k := h n (Nat.lt_succ_self n)
    have e : sumZ f (n + 1) = sumZ f n + f n := rfl
    rw [e, Nat.succ_mul]
    have := Int.natAbs_add_le (sumZ f n) (f n)
    omega
theorem sumZ_sm {f : Nat → Int} {k j n : Nat} (h : ∀ i, i < n → Sm k (f i)) (hn : n < 2 ^ j) : Sm (k + j) (sumZ f n) := by
  have h1 := sumZ_le n h
  unfold Sm
  have h2 : n * 2 ^ k < 2 ^ j * 2 ^ k := Nat.mul_lt_mul_of_pos_right hn (Nat.pos_of_ne_zero (by simp))
  rw [Nat.pow_add, Nat.mul_comm (2 ^ k)]
  omega
theorem Sm.i {i n : Nat} {j : Nat} (h : i < n) (hn : n < 2 ^ j) : Sm j (i : Int) := by unfold Sm; omega
theorem prt_sm {a b m : Int} {i n : Nat} (hl : LnK a b m) (h : i < n) (hn : n < 2 ^ 205) : Sm 411 ((a * (i : Int) + b) / m) := by
  have := hl.m1
  exact ((hl.sa.mul (Sm.i h hn)).add hl.sb).div (by omega)
theorem toNat_sm {n : Int} (h : n.natAbs < 10 ^ 60) : n.toNat < 2 ^ 205 := by
  have h2 : (10 : Nat) ^ 60 < 2 ^ 205 := by decide
  omega
theorem QS_sm {a b m n : Int} (hl : LnK a b m) (hn : n.natAbs < 10 ^ 60) : Sm 1900 (QS a b m n.toNat) := (sumZ_sm (k := 822) (fun i hi => (prt_sm hl hi (toNat_sm hn)).mul (prt_sm hl hi (toNat_sm hn))) (toNat_sm hn)).le (by decide)
theorem JS_sm {a b m n : Int} (hl : LnK a b m) (hn : n.natAbs < 10 ^ 60) : Sm 1900 (JS a b m n.toNat) := (sumZ_sm (k := 616) (fun i hi => (Sm.i hi (toNat_sm hn)).mul (prt_sm hl hi (toNat_sm hn))) (toNat_sm hn)).le (by decide)
theorem FSK_sm {a b m n : Int} (hl : LnK a b m) (hn : n.natAbs < 10 ^ 60) : Sm 1900 (FS a b m n.toNat) := (sumZ_sm (k := 411) (fun i hi => prt_sm hl hi (toNat_sm hn)) (toNat_sm hn)).le (by decide)
theorem RS_sm {a b m n : Int} (hl : LnK a b m) (hn : n.natAbs < 10 ^ 60) : Sm 1900 (RS a b m n.toNat) := (sumZ_sm (k := 205) (fun i hi => hl.sm.mod (by have := hl.m1; omega)) (toNat_sm hn)).le (by decide)
theorem CB_sm {a b m n t : Int} (hl : LnK a b m) (hn : n.natAbs < 10 ^ 60) : Sm 1900 (CB a b m t n.toNat) := (sumZ_sm (k := 1) (fun i hi => by show Sm 1 (if _ then _ else _); split <;> (unfold Sm; decide)) (toNat_sm hn)).le (by decide)
theorem app_len (x y : Str) : (x ++ y).length = x.length + y.length := by rw [TL.len_tl, TL.tl_append, List.length_append, ← TL.len_tl, ← TL.len_tl]
theorem tx_sm {i : Int} (h : i.natAbs < 10 ^ 60) : (tx i).length ≤ 50000 := by have := tx_length ((sm60 h).le (show 200 ≤ 1900 by decide)); omega
def rowS (r : Rw) : Str := Txt.join (" " : Str) [tx r.1, tx r.2.1, tx r.2.2.1, tx r.2.2.2, tx (sumR r)]
def PpR (kv : Str → Option D) (ws : List Str) (r : AR) : Prop := (wfW kv [cntB] ws = false ∧ r = .err 6) ∨ ∃ s x a b m L, ws = [s, tx x] ∧ 0 ≤ x ∧ x.natAbs < 10 ^ 60 ∧ kv s = some (ln a b m) ∧ LnK a b m ∧ PChn (x, a, b, m) L ∧ r = .rows (L.map rowS)
theorem pap205 {x a b m : Int} {L : List Rw} (hl : LnK a b m) (x0 : 0 ≤ x) (hx : x.natAbs < 10 ^ 60) (h : PChn (x, a, b, m) L) : Pap (x, a, b, m) L ∧ ∀ q ∈ L, RwOk 205 q := by
  have ok : RwOk 205 (x, a, b, m) := ⟨hl.m1, x0, hl.sa, hl.sb, hl.sm, (sm60 hx).le (by decide)⟩
  obtain ⟨L2, h2, h3⟩ := pchn_ex m.toNat (x, a, b, m) ok (by show m ≤ _; have := hl.m1; omega)
  obtain rfl := h.uniq h2
  exact ⟨⟨h, fun q hq => let z := h3 q hq; ⟨z.m1, z.n0, z.sa.le (by decide), z.sb.le (by decide), z.sm.le (by decide), z.sn.le (by decide)⟩⟩, h3⟩
theorem sumR_sm {q : Rw} (h : RwOk 205 q) : Sm 1900 (sumR q) := (FS_sm h.m1 h.n0 h.sa h.sb h.sm h.sn).le (by decide)
def wfL (ws : List Str) : Bool := match ws with | [s, t, u, v] => nameB s && (numB t && (numB u && numB v)) | _ => false
def LiR (ws : List Str) (r : AR) : Prop := (wfL ws = false ∧ r = .err 6) ∨ ∃ s a b m, ws = [s, tx a, tx b, tx m] ∧ nameB s = true ∧ a.natAbs < 10 ^ 60 ∧ b.natAbs < 10 ^ 60 ∧ m.natAbs < 10 ^ 60 ∧ ((m < 1 ∧ r = .err 0) ∨ (1 ≤ m ∧ r = .put s (ln a b m)))
theorem drop1 (ws : List Str) (h : 1 ≤ ws.length) : Z.cutD (ws.map D.str) (some 1) none = (ws.drop 1).map D.str := by
  unfold Z.cutD
  rw [show (1 : Int) = ((1 : Nat) : Int) from rfl, HT.sIx_nat, HT.sIx_none, List.length_map, Nat.min_eq_left h, ← List.map_drop]
  exact List.take_of_length_le (by rw [List.length_map, List.length_drop]; exact Nat.le_refl _)
def sp_Desk_on_line : SpZ Dk := fun ds w Q E => ∃ a ws r, ds = [.ref a, .lst (List.map D.str ws)] ∧ (HasD w.ob a ∧ w.n < 100000 ∧ Ws ws) ∧ LiR ws r ∧ Fin r w Q E
def sp_Desk_of_place : SpZ Dk := fun ds w Q E => ∃ a word ws r, ds = [.ref a, .str word, .lst (List.map D.str ws)] ∧ (HasD w.ob a ∧ KvOk w.kv ∧ Ws ws) ∧ PlR w.kv word ws r ∧ Fin r w Q E
def cntV (word : Str) (a b m n : Int) : Int := if word = "sum" then FS a b m n.toNat else if word = "squares" then QS a b m n.toNat else if word = "placed" then JS a b m n.toNat else RS a b m n.toNat
def CtR (kv : Str → Option D) (word : Str) (ws : List Str) (r : AR) : Prop := (wfW kv [cntB] ws = false ∧ r = .err 6) ∨ ∃ s x a b m, ws = [s, tx x] ∧ 0 ≤ x ∧ x.natAbs < 10 ^ 60 ∧ kv s = some (ln a b m) ∧ LnK a b m ∧ r = .rows [tx (cntV word a b m x)]
def B3R (kv : Str → Option D) (ws : List Str) (r : AR) : Prop := (wfW kv [numB, numB] ws = false ∧ r = .err 6) ∨ ∃ s x y a b m, ws = [s, tx x, tx y] ∧ x.natAbs < 10 ^ 60 ∧ y.natAbs < 10 ^ 60 ∧ kv s = some (ln a b m) ∧ LnK a b m ∧ ((y < x ∧ r = .err 3) ∨ (x ≤ y ∧ r = .rows [tx (FS a (a * x + b) m (y - x).toNat)]))
def BnR (kv : Str → Option D) (ws : List Str) (r : AR) : Prop := (wfW kv [cntB, numB] ws = false ∧ r = .err 6) ∨ ∃ s x y a b m, ws = [s, tx x, tx y] ∧ 0 ≤ x ∧ x.natAbs < 10 ^ 60 ∧ y.natAbs < 10 ^ 60 ∧ kv s = some (ln a b m) ∧ LnK a b m ∧ r = .rows [tx (CB a b m y x.toNat)]
def rowD? (d : D) : List Str := match d with | .int x => [tx x] | _ => []
def WnR (kv : Str → Option D) (ws : List Str) (r : AR) : Prop := (wfW kv [numB, numB] ws = false ∧ r = .err 6) ∨ ∃ s x y a b m, ws = [s, tx x, tx y] ∧ x.natAbs < 10 ^ 60 ∧ y.natAbs < 10 ^ 60 ∧ kv s = some (ln a b m) ∧ LnK a b m ∧ ((¬ (0 ≤ x ∧ x ≤ y ∧ y < m) ∧ r = .err 3) ∨ ((0 ≤ x ∧ x ≤ y ∧ y < m) ∧ ∃ d, (∀ d', Res a b m x y d' → d' = d) ∧ r = .rows (rowD? d)))
def OdR (kv : Str → Option D) (ws : List Str) (r : AR) : Prop := (wfW kv [cntB, numB] ws = false ∧ r = .err 6) ∨ ∃ s x y a b m, ws = [s, tx x, tx y] ∧ 0 ≤ x ∧ x.natAbs < 10 ^ 60 ∧ y.natAbs < 10 ^ 60 ∧ kv s = some (ln a b m) ∧ LnK a b m ∧ ((¬ (0 ≤ y ∧ y < x) ∧ r = .err 4) ∨ ((0 ≤ y ∧ y < x) ∧ ∃ r1 p1, (∀ r' p', Ord a b m x y r' p' → r' = r1 ∧ p' = p1) ∧ r = .rows [tx r1 ++ (" " : Str) ++ tx p1]))
def sp_Desk_of_count : SpZ Dk := fun ds w Q E => ∃ a word ws r, ds = [.ref a, .str word, .lst (List.map D.str ws)] ∧ (HasD w.ob a ∧ KvOk w.kv ∧ Ws ws) ∧ CtR w.kv word ws r ∧ Fin r w Q E
def sp_Desk_on_between : SpZ Dk := fun ds w Q E => ∃ a ws r, ds = [.ref a, .lst (List.map D.str ws)] ∧ (HasD w.ob a ∧ KvOk w.kv ∧ Ws ws) ∧ B3R w.kv ws r ∧ Fin r w Q E
def sp_Desk_on_beneath : SpZ Dk := fun ds w Q E => ∃ a ws r, ds = [.ref a, .lst (List.map D.str ws)] ∧ (HasD w.ob a ∧ KvOk w.kv ∧ Ws ws) ∧ BnR w.kv ws r ∧ Fin r w Q E
def sp_Desk_on_within : SpZ Dk := fun ds w Q E => ∃ a ws r, ds = [.ref a, .lst (List.map D.str ws)] ∧ (HasD w.ob a ∧ KvOk w.kv ∧ Ws ws) ∧ WnR w.kv ws r ∧ Fin r w Q E
def sp_Desk_on_order : SpZ Dk := fun ds w Q E => ∃ a ws r, ds = [.ref a, .lst (List.map D.str ws)] ∧ (HasD w.ob a ∧ KvOk w.kv ∧ Ws ws) ∧ OdR w.kv ws r ∧ Fin r w Q E
theorem eqF_str (x y : Str) : eqF (.str x) (.str y) = decide (x = y) := by
  show (x == y) = _
  by_cases h : x = y
  · rw [decide_eq_true h, h]; exact beq_self_eq_true y
  · rw [decide_eq_false h]; exact beq_eq_false_iff_ne.mpr h
def semi : Str := Str.ofString ";"
def rowB (kv : Str → Option D) (l : List Str) : Bool := decide (1 ≤ l.length) && (decide (l.length ≤ 4) && l.all fun s => (kv s).isSome)
def cutJ (ws : List Str) : Nat := ws.findIdx (fun s => decide (s = semi))
def rowA (ws : List Str) : List Str := (ws.drop 2).take (cutJ ws - 2)
def rowZ (ws : List Str) : List Str := ws.drop (cutJ ws + 1)
def nthB (ws : List Str) (k : Nat) : Bool := match ws[k]? with | some t => numB t | none => false
def wfPB (kv : Str → Option D) (ws : List Str) : Bool := decide (5 ≤ ws.length) && (decide (ws.countP (fun s => decide (s = semi)) = 1) && (rowB kv (rowA ws) && (rowB kv (rowZ ws) && (nthB ws 0 && nthB ws 1))))
def LsK (ls : List L3) : Prop := ∀ p ∈ ls, LnK p.1 p.2.1 p.2.2
def Sees (kv : Str → Option D) (l : List Str) (ls : List L3) : Prop := l.map kv = ls.map fun p => some (lnP p)
def PtR (kv : Str → Option D) (ws : List Str) (r : AR) : Prop := (wfPB kv ws = false ∧ r = .err 6) ∨ (wfPB kv ws = true ∧ ∃ lo hi la lb, ws[0]? = some (tx lo) ∧ ws[1]? = some (tx hi) ∧ lo.natAbs < 10 ^ 60 ∧ hi.natAbs < 10 ^ 60 ∧ Sees kv (rowA ws) la ∧ Sees kv (rowZ ws) lb ∧ LsK la ∧ LsK lb ∧ ((hi < lo ∧ r = .err 3) ∨ (lo ≤ hi ∧ r = .rows [tx (pts la lb lo (hi - lo).toNat)])))
theorem pt6 {kv : Str → Option D} {ws : List Str} {r : AR} {w : Dk} {Q : D → Dk → Prop} {E : Nat → Dk → Prop} (hr : PtR kv ws r) (hb : wfPB kv ws = false) (q : Fin r w Q E) : E 6 w := by
  rcases hr with ⟨_, rfl⟩ | ⟨h, _⟩
  · exact q
  · rw [hb] at h; cases h
theorem okFs_strs : ∀ ws : List Str, okFs (ws.map D.str) = true
  | [] => rfl
  | s :: ws => by show (okF (D.str s) && okFs (ws.map D.str)) = true; rw [okFs_strs ws]; rfl
theorem cnt_strs (ws : List Str) : (ws.map D.str).countP (fun z => eqF z (D.str semi)) = ws.countP (fun s => decide (s = semi)) := by
  rw [List.countP_map]; exact congrArg (fun p => List.countP p ws) (funext fun s => eqF_str _ _)
theorem cutJ_lt {ws : List Str} (h : ws.countP (fun s => decide (s = semi)) = 1) : cutJ ws < ws.length := List.findIdx_lt_length.mpr (by
  obtain ⟨x, hx, hp⟩ := List.countP_pos_iff.mp (by omega : 0 < ws.countP (fun s => decide (s = semi)))
  exact ⟨x, hx, hp⟩)
theorem cutJ_at {ws : List Str} (h : cutJ ws < ws.length) : ws[cutJ ws]? = some semi := by
  have := List.findIdx_getElem (w := h)
  rw [List.getElem?_eq_getElem h]
  exact congrArg some (of_decide_eq_true this)
theorem cutJ_no {ws : List Str} {i : Nat} {x : Str} (h : i < cutJ ws) (hx : ws[i]? = some x) : x ≠ semi := by
  have := List.not_of_lt_findIdx h
  obtain ⟨hi, rfl⟩ := List.getElem?_eq_some_iff.mp hx
  exact fun e => by rw [e] at this; exact absurd this (by decide)
theorem cutA {ws : List Str} (h5 : 5 ≤ ws.length) (hj : cutJ ws < ws.length) : Z.cutD (ws.map D.str) (some 2) (some (cutJ ws : Int)) = (rowA ws).map D.str := by
  unfold Z.cutD rowA
  rw [show (2 : Int) = ((2 : Nat) : Int) from rfl, HT.sIx_nat, HT.sIx_nat, List.length_map, Nat.min_eq_left (by omega), Nat.min_eq_left (by omega), ← List.map_drop, ← List.map_take]
theorem cutZ {ws : List Str} (hj : cutJ ws < ws.length) : Z.cutD (ws.map D.str) (some ((cutJ ws : Int) + 1)) none = (rowZ ws).map D.str := by
  unfold Z.cutD rowZ
  rw [show ((cutJ ws : Int) + 1) = ((cutJ ws + 1 : Nat) : Int) by omega, HT.sIx_nat, HT.sIx_none, List.length_map, Nat.min_eq_left (by omega), ← List.map_drop]
  exact List.take_of_length_le (by rw [List.length_map, List.length_drop]; exact Nat.le_refl _)
theorem sees_of {kv : Str → Option D} (hk : KvOk kv) : ∀ {l : List Str}, (l.all fun s => (kv s).isSome) = true → ∃ ls, Sees kv l ls ∧ LsK ls
  | [], _ => ⟨[], rfl, fun p hp => nomatch hp⟩
  | s :: l, h => by
    rw [List.all_cons, Bool.and_eq_true] at h
    obtain ⟨v, hv⟩ := Option.isSome_iff_exists.mp h.1
    obtain ⟨a, b, m, rfl, hl⟩ := hk s v hv
    obtain ⟨ls, h1, h2⟩ := sees_of hk h.2
    refine ⟨(a, b, m) :: ls, by unfold Sees at h1 ⊢; rw [List.map_cons, List.map_cons, h1, hv]; rfl, fun p hp => ?_⟩
    rcases List.mem_cons.mp hp with rfl | hp
    · exact hl
    · exact h2 p hp
theorem Sees.uniq {kv : Str → Option D} {l : List Str} {a b : List L3} (h : Sees kv l a) (g : Sees kv l b) : a = b := by
  unfold Sees at h g
  rw [h] at g
  have : ∀ {a b : List L3}, (a.map fun p => some (lnP p)) = (b.map fun p => some (lnP p)) → a = b := by
    intro a
    induction a with
    | nil => intro b h; cases b with | nil => rfl | cons _ _ => cases h
    | cons p a ih =>
      intro b h
      cases b with
      | nil => cases h
      | cons q b =>
        rw [List.map_cons, List.map_cons] at h
        injection h with h1 h2
        obtain ⟨p1, p2, p3⟩ := p
        obtain ⟨q1, q2, q3⟩ := q
        have h1 := Option.some.inj h1
        unfold lnP ln at h1
        injection h1 with h1
        simp only [List.cons.injEq, D.int.injEq, and_true] at h1
        obtain ⟨rfl, rfl, rfl⟩ := h1
        rw [ih h2]
  exact this g
theorem Sees.at' {kv : Str → Option D} {l : List Str} {ls : List L3} (h : Sees kv l ls) {i : Nat} {s : Str} (hs : l[i]? = some s) : ∃ p, ls[i]? = some p ∧ kv s = some (lnP p) := by
  have e := congrArg (fun z => z[i]?) h
  simp only [List.getElem?_map, hs, Option.map_some] at e
  obtain ⟨p, hp, e2⟩ := Option.map_eq_some_iff.mp e.symm
  exact ⟨p, hp, e2.symm⟩
theorem Sees.len {kv : Str → Option D} {l : List Str} {ls : List L3} (h : Sees kv l ls) : ls.length = l.length := by
  have := congrArg List.length h
  rw [List.length_map, List.length_map] at this; omega
theorem bls_snocS {l : List Str} {i : Nat} {c : Str} (f : Str → Bool) (h : l[i]? = some c) : ((l.take i).map f).map D.bl ++ [D.bl (f c)] = ((l.take (i + 1)).map f).map D.bl := by
  rw [tk_snoc h, List.map_append, List.map_append]; rfl
theorem all_takeS {f : Str → Bool} (l : List Str) : (l.map f).all id = l.all f := by induction l with | nil => rfl | cons c l ih => rw [List.map_cons, List.all_cons, List.all_cons, ih]; rfl
theorem bls_allS {l : List Str} {f : Str → Bool} {b : Bool} {q : D → Prop} (e : l.all f = b) (h : q (.bl b)) : allC [.lst ((l.map f).map D.bl)] q := ⟨l.map f, rfl, by rw [all_takeS, e]; exact h⟩
theorem lnP_snoc {ls : List L3} {i : Nat} {p : L3} (h : ls[i]? = some p) : (ls.take i).map lnP ++ [lnP p] = (ls.take (i + 1)).map lnP := by
  rw [tk_snoc h, List.map_append]; rfl
theorem rowB_ok {kv : Str → Option D} {l : List Str} (h : rowB kv l = true) : 1 ≤ l.length ∧ l.length ≤ 4 ∧ (l.all fun s => (kv s).isSome) = true := by
  unfold rowB at h
  rw [Bool.and_eq_true, Bool.and_eq_true, decide_eq_true_iff, decide_eq_true_iff] at h
  exact h
theorem rowB_no {kv : Str → Option D} {l : List Str} (h : rowB kv l = false) (g1 : 1 ≤ l.length) (g2 : l.length ≤ 4) : (l.all fun s => (kv s).isSome) = false := by
  unfold rowB at h; rw [decide_eq_true g1, decide_eq_true g2] at h; exact h
theorem lsOk {kv : Str → Option D} {l : List Str} {ls : List L3} (h : rowB kv l = true) (s : Sees kv l ls) (k : LsK ls) : LsOk ls := by
  obtain ⟨h1, h2, _⟩ := rowB_ok h
  have e := s.len
  exact ⟨by omega, by omega, fun p hp => by
    obtain ⟨m1, sa, sb, sm, -, -, -⟩ := k p hp
    exact ⟨m1, sa.le (by decide), sb.le (by decide), sm.le (by decide)⟩⟩
theorem vl_sm {x : Int} {p : L3} (hp : 1 ≤ p.2.2) (s1 : Sm 800 p.1) (s2 : Sm 800 p.2.1) (sx : Sm 300 x) : Sm 1102 (vl x p) := by
  unfold vl
  exact Sm.le (Sm.div (Sm.add (Sm.mul s1 sx) s2) (by omega)) (by decide)
theorem mnL_sm {x : Int} {ls : List L3} (h : LsOk ls) (sx : Sm 300 x) : Sm 1102 (mnL x ls) := by
  have hne : ls.map (vl x) ≠ [] := fun e => by
    have := congrArg List.length e
    rw [List.length_map] at this
    have h1 := h.l1
    rw [this] at h1
    exact absurd h1 (by decide)
  obtain ⟨p, hp, e⟩ := List.mem_map.mp (mn_spec (ls.map (vl x)) hne).1
  have := h.ea p hp
  unfold mnL
  rw [← e]
  exact vl_sm this.1 this.2.1 this.2.2.1 sx
theorem room_sm {ab be : List L3} {x : Int} (ha : LsOk ab) (hb : LsOk be) (sx : Sm 300 x) : Sm 1110 (room ab be x) := by
  unfold room
  exact Sm.le (Sm.max (Sm.num 0) (Sm.add (Sm.add (mnL_sm ha sx) (mnL_sm hb.dn sx)) (Sm.num 1))) (by decide)
theorem pts_sm {ab be : List L3} {lo hi : Int} (ha : LsOk ab) (hb : LsOk be) (hl : lo.natAbs < 10 ^ 60) (hh : hi.natAbs < 10 ^ 60) : Sm 1900 (pts ab be lo (hi - lo).toNat) := by
  have e : (10 : Nat) ^ 60 ≤ 2 ^ 200 := by decide
  have e2 : (2 : Nat) ^ 200 * 2 = 2 ^ 201 := by decide
  have e3 : (2 : Nat) ^ 200 * 8 ≤ 2 ^ 300 := by decide
  refine (sumZ_sm (k := 1110) (j := 202) (fun i hi => room_sm ha hb ?_) ?_).le (by decide)
  · unfold Sm; omega
  · omega
def sp_Desk_on_points : SpZ Dk := fun ds w Q E => ∃ a ws r, ds = [.ref a, .lst (List.map D.str ws)] ∧ (HasD w.ob a ∧ KvOk w.kv ∧ Ws ws) ∧ PtR w.kv ws r ∧ Fin r w Q E
def sp_Desk_on_paper : SpZ Dk := fun ds w Q E => ∃ a ws r, ds = [.ref a, .lst (List.map D.str ws)] ∧ (HasD w.ob a ∧ KvOk w.kv ∧ Ws ws) ∧ PpR w.kv ws r ∧ Fin r w Q E
def MoR (kv : Str → Option D) (word : Str) (ws : List Str) (r : Option AR) : Prop :=
  if word = "between" then ∃ r', r = some r' ∧ B3R kv ws r'
  else if word = "beneath" then ∃ r', r = some r' ∧ BnR kv ws r'
  else if word = "within" then ∃ r', r = some r' ∧ WnR kv ws r'
  else if word = "order" then ∃ r', r = some r' ∧ OdR kv ws r'
  else if word = "points" then ∃ r', r = some r' ∧ PtR kv ws r'
  else if word = "paper" then ∃ r', r = some r' ∧ PpR kv ws r'
  else r = none
theorem eqF_str' (x y : Str) : eqF (.str x) (.str y) = decide (y = x) := by
  rw [eqF_str]; exact decide_eq_decide.mpr eq_comm
theorem mem_s2 (x a b : Str) : memF (.str x) [.str a, .str b] = decide (x = a ∨ x = b) := by
  rw [memF_cons, memF_cons, memF_nil, eqF_str, eqF_str, Bool.or_false, ← Bool.decide_or]
  apply decide_eq_decide.mpr
  simp only [eq_comm]
theorem mem_s4 (x a b c d : Str) : memF (.str x) [.str a, .str b, .str c, .str d] = decide (x = a ∨ x = b ∨ x = c ∨ x = d) := by
  rw [memF_cons, memF_cons, memF_cons, memF_cons, memF_nil, eqF_str, eqF_str, eqF_str, eqF_str, Bool.or_false, ← Bool.decide_or, ← Bool.decide_or, ← Bool.decide_or]
  apply decide_eq_decide.mpr
  simp only [eq_comm]
theorem spl_b (S : List Nat) : ∀ (l : List Nat) (k : Nat) (acc : List Nat), (TL.spl S k acc l).length ≤ l.length + 1 ∧ ∀ p ∈ TL.spl S k acc l, p.length ≤ acc.length + l.length
  | [], k, acc => by
    have e : TL.spl S k acc [] = [acc] := by cases k <;> rfl
    rw [e]
    exact ⟨Nat.le_refl _, fun p hp => by rw [List.mem_singleton.mp hp]; exact Nat.le_add_right _ _⟩
  | c :: r, 0, acc => by
    have e : TL.spl S 0 acc (c :: r) = if TL.pre S (c :: r) = true then acc :: TL.spl S (S.length - 1) [] r else TL.spl S 0 (acc ++ [c]) r := rfl
    rw [e]
    split
    · obtain ⟨h1, h2⟩ := spl_b S r (S.length - 1) []
      refine ⟨by rw [List.length_cons, List.length_cons]; omega, fun p hp => ?_⟩
      rcases List.mem_cons.mp hp with rfl | hp
      · exact Nat.le_add_right _ _
      · have := h2 p hp; rw [List.length_nil] at this; rw [List.length_cons]; omega
    · obtain ⟨h1, h2⟩ := spl_b S r 0 (acc ++ [c])
      refine ⟨by rw [List.length_cons]; omega, fun p hp => ?_⟩
      have := h2 p hp; rw [List.length_append, List.length_singleton] at this; rw [List.length_cons]; omega
  | c :: r, k + 1, acc => by
    have e : TL.spl S (k + 1) acc (c :: r) = TL.spl S k acc r := rfl
    rw [e]
    obtain ⟨h1, h2⟩ := spl_b S r k acc
    exact ⟨by rw [List.length_cons]; omega, fun p hp => by have := h2 p hp; rw [List.length_cons]; omega⟩
theorem split_lens (t y : Str) (hy : y = (" " : Str)) (hl : t.length ≤ 40000) : (Txt.split t y).length ≤ 40001 ∧ ∀ x ∈ Txt.split t y, x.length ≤ 40000 := by
  subst hy
  have e := TL.split_spl t (" " : Str) (by decide) (TL.kind_ok (by decide +kernel))
  obtain ⟨h1, h2⟩ := spl_b (TL.tl (" " : Str)) (TL.tl t) 0 []
  rw [← e, ← TL.len_tl] at h1 h2
  refine ⟨by rw [List.length_map] at h1; omega, fun x hx => ?_⟩
  have := h2 _ (List.mem_map.mpr ⟨x, hx, rfl⟩)
  rw [← TL.len_tl, List.length_nil] at this; omega
def FinO (r : Option AR) (w : Dk) (Q : D → Dk → Prop) (E : Nat → Dk → Prop) : Prop := match r with
  | some r => Fin r w Q E
  | none => Q .non w
theorem FinO.mo {r : Option AR} {w : Dk} {Q Q' : D → Dk → Prop} {E E' : Nat → Dk → Prop} (k : ∀ d w', Q d w' → Q' d w') (k' : ∀ e w', E e w' → E' e w') (h : FinO r w Q E) : FinO r w Q' E' := by
  cases r with
  | some r => exact Fin.mo k k' h
  | none => exact k _ _ h
/-- the words of an asking -/
def AskW (kv : Str → Option D) (ws : List Str) (r : AR) : Prop := match ws with
  | [] => False
  | word :: ws =>
    if word = "line" then LiR ws r
    else if word = "part" ∨ word = "rest" then PlR kv word ws r
    else if word = "sum" ∨ word = "squares" ∨ word = "placed" ∨ word = "rests" then CtR kv word ws r
    else ∃ r', MoR kv word ws r' ∧ ((r' = none ∧ r = .err 6) ∨ r' = some r)
def AskR (kv : Str → Option D) (t : Str) (r : AR) : Prop := if 10 ∈ TL.tl t then r = .err 6 else AskW kv (Txt.split t (" " : Str)) r
def sp_Desk_of_more : SpZ Dk := fun ds w Q E => ∃ a word ws r, ds = [.ref a, .str word, .lst (List.map D.str ws)] ∧ (HasD w.ob a ∧ KvOk w.kv ∧ Ws ws) ∧ MoR w.kv word ws r ∧ FinO r w Q E
def sp_Desk_ask : SpZ Dk := fun ds w Q E => ∃ a t r, ds = [.ref a, .str t] ∧ (HasD w.ob a ∧ KvOk w.kv ∧ w.n < 100000 ∧ t.length ≤ 40000) ∧ AskR w.kv t r ∧ Fin r w Q E
theorem rngD_len (lo : Int) (n : Nat) : (rngD lo n).length = n := by unfold rngD; rw [List.length_map, List.length_range]
theorem rng_get {lo : Int} {n i : Nat} {d : D} (h : (rngD lo n)[i]? = some d) : i < n ∧ d = .int (lo + (i : Int)) := by
  have hi : i < n := by
    have := (List.getElem?_eq_some_iff.mp h).1
    rw [rngD_len] at this
    exact this
  rw [rngD_at hi] at h
  exact ⟨hi, (Option.some.inj h).symm⟩
theorem atI_range {f : Nat → D} {n j : Nat} {x : Int} (h : j < n) (e : x = j) : atI ((List.range n).map f) x = some (f j) := by
  subst e
  unfold atI ixN
  rw [List.length_map, List.length_range, if_pos (by omega), if_pos (by omega)]
  show ((List.range n).map f)[((j : Int)).toNat]? = _
  rw [Int.toNat_natCast, List.getElem?_map, List.getElem?_range h]
  rfl
theorem range_snoc {α : Type} (f : Nat → α) (i : Nat) : (List.range (i + 1)).map f = (List.range i).map f ++ [f i] := by
  rw [List.range_succ, List.map_append]; rfl
theorem lex_count {x : Int × Int} : ∀ {l : List (Int × Int)} {k : Nat}, l.Pairwise lexLe → l.Nodup → l[k]? = some x → l.countP (fun y => decide (y.1 < x.1 ∨ (y.1 = x.1 ∧ y.2 < x.2))) = k
  | [], _, _, _, h => by simp at h
  | y :: l, 0, hp, hn, h => by
    rw [List.getElem?_cons_zero] at h
    cases h
    rw [List.countP_eq_zero]
    intro z hz
    rw [decide_eq_true_eq]
    rcases List.mem_cons.mp hz with rfl | hz
    · omega
    · have := (List.pairwise_cons.mp hp).1 z hz
      unfold lexLe at this
      omega
  | y :: l, k + 1, hp, hn, h => by
    rw [List.getElem?_cons_succ] at h
    have hx := List.mem_of_getElem? h
    have h1 := (List.pairwise_cons.mp hp).1 x hx
    have h2 : y ≠ x := fun e => (List.nodup_cons.mp hn).1 (e ▸ hx)
    rw [List.countP_cons, lex_count (List.pairwise_cons.mp hp).2 (List.nodup_cons.mp hn).2 h, if_pos]
    rw [decide_eq_true_eq]
    unfold lexLe at h1
    by_cases e1 : y.1 = x.1
    · by_cases e2 : y.2 = x.2
      · exact absurd (Prod.ext e1 e2) h2
      · omega
    · omega
/-- the pairs of the first n places -/
def prs (a b m : Int) (n : Nat) : List (Int × Int) := (List.range n).map fun j : Nat => ((a * (j : Int) + b) % m, (j : Int))
theorem prs_nodup (a b m : Int) (n : Nat) : (prs a b m n).Nodup := by
  unfold prs
  refine List.Pairwise.map _ (fun i j hij => ?_) List.nodup_range
  intro e
  have := congrArg Prod.snd e
  exact hij (by have h : (i : Int) = j := this; omega)
theorem prs_count (a b m r p : Int) : ∀ n : Nat, (((prs a b m n).countP (fun y => decide (y.1 < r ∨ (y.1 = r ∧ y.2 < p))) : Nat) : Int) = CB a b m r n + Z.sumZ (fun i => if (a * (i : Int) + b) % m = r ∧ (i : Int) < p then 1 else 0) n
  | 0 => rfl
  | n + 1 => by
    have ih := prs_count a b m r p n
    have e : prs a b m (n + 1) = prs a b m n ++ [((a * (n : Int) + b) % m, (n : Int))] := by unfold prs; rw [range_snoc]
    rw [e, List.countP_append, List.countP_singleton, Int.natCast_add, ih]
    show _ = (CB a b m r n + if (a * (n : Int) + b) % m < r then 1 else 0) + (Z.sumZ _ n + if (a * (n : Int) + b) % m = r ∧ (n : Int) < p then 1 else 0)
    simp only [decide_eq_true_eq]
    split <;> split <;> split <;> omega
theorem sum_below {p : Int} {n : Nat} (p0 : 0 ≤ p) (pn : p ≤ n) {c : Nat → Prop} [DecidablePred c] : Z.sumZ (fun i => if c i ∧ (i : Int) < p then 1 else 0) n = Z.sumZ (fun i => if c i then 1 else 0) p.toNat := by
  obtain ⟨k, rfl⟩ : ∃ k, n = p.toNat + k := ⟨n - p.toNat, by omega⟩
  rw [sumZ_split, sumZ_zero (f := fun i => if c (p.toNat + i) ∧ ((p.toNat + i : Nat) : Int) < p then 1 else 0) fun i _ => if_neg fun h => by omega, Int.add_zero]
  refine sumZ_congr _ fun i hi => ?_
  by_cases h : c i
  · rw [if_pos h, if_pos ⟨h, by omega⟩]
  · rw [if_neg h, if_neg fun q => h q.1]
theorem ord_at {a b m : Int} {n k : Nat} {qs : List (Int × Int)} {r p : Int} (hp : qs.Perm (prs a b m n)) (hs : qs.Pairwise lexLe) (h : qs[k]? = some (r, p)) : Z.Ord a b m n k r p := by
  have hn : qs.Nodup := hp.nodup_iff.mpr (prs_nodup a b m n)
  have hm := hp.mem_iff.mp (List.mem_of_getElem? h)
  unfold prs at hm
  obtain ⟨j, hj, e⟩ := List.mem_map.mp hm
  have hj := List.mem_range.mp hj
  injection e with e1 e2
  have c := lex_count hs hn h
  rw [hp.countP_eq] at c
  have c2 := prs_count a b m r p n
  rw [c, sum_below (c := fun i : Nat => (a * (i : Int) + b) % m = r) (by omega) (by omega)] at c2
  refine ⟨by omega, by omega, by rw [← e2]; exact e1, ?_⟩
  unfold Z.rank Z.EQ
  rw [Int.toNat_natCast]
  omega
theorem at_ord {a b m n k : Int} {qs : List (Int × Int)} (hp : qs.Perm (prs a b m n.toNat)) (hs : qs.Pairwise lexLe) (hl : qs.length = n.toNat) (k0 : 0 ≤ k) (kn : k < n) : ∃ u v : Int, atI (qs.map prD) k = some (.tup [.int u, .int v]) ∧ Z.Ord a b m n k u v := by
  have hk : k.toNat < qs.length := by omega
  have h := List.getElem?_eq_getElem hk
  obtain ⟨⟨u, v⟩, hx⟩ : ∃ x, x = qs[k.toNat] := ⟨_, rfl⟩
  rw [← hx] at h
  refine ⟨u, v, ?_, ?_⟩
  · unfold atI ixN
    rw [List.length_map, if_pos k0, if_pos (by omega)]
    show (qs.map prD)[k.toNat]? = _
    rw [List.getElem?_map, h]; rfl
  · have := ord_at hp hs h
    rwa [show ((n.toNat : Nat) : Int) = n by omega, show ((k.toNat : Nat) : Int) = k by omega] at this
theorem round_ord {a b m p t v : Int} (hm : 0 < m) (p0 : 0 ≤ p) (p1 : p < m / ((Int.gcd a m : Nat) : Int)) (t0 : 0 ≤ t) (tv : t < v) :
    Z.Ord a b m (m / ((Int.gcd a m : Nat) : Int) * v) (((a * p + b) % m - b % ((Int.gcd a m : Nat) : Int)) / ((Int.gcd a m : Nat) : Int) * v + t) ((a * p + b) % m) (p + t * (m / ((Int.gcd a m : Nat) : Int))) := by
  have s0 := span_pos (a := a) hm
  obtain ⟨s, hs⟩ : ∃ s, s = m / ((Int.gcd a m : Nat) : Int) := ⟨_, rfl⟩
  have kp : 0 ≤ t * s := Int.mul_nonneg t0 (by omega)
  have kq : t * s ≤ (v - 1) * s := Int.mul_le_mul_of_nonneg_right (by omega) (by omega)
  rw [Int.sub_mul, Int.one_mul, Int.mul_comm v] at kq
  rw [← hs] at p1 s0 ⊢
  refine ⟨by omega, by omega, ?_, ?_⟩
  · have := rest_round a b hm p t
    rw [← hs, Int.mul_comm s] at this
    exact this
  · have f := Fst.lone (a := a) (b := b) hm p0 (by rw [← hs]; exact p1)
    obtain ⟨T, rfl⟩ : ∃ T : Nat, t = T := ⟨t.toNat, by omega⟩
    have e1 := EQ_span hm f T
    rw [← hs] at e1
    have r0 := Int.emod_nonneg (a * p + b) (show m ≠ 0 by omega)
    have r1 := Int.emod_lt_of_pos (a * p + b) hm
    obtain ⟨V, rfl⟩ : ∃ V : Nat, v = V := ⟨v.toNat, by omega⟩
    have e2 := CB_rounds (a := a) (b := b) (m := m) (t := (a * p + b) % m) hm V
    have e3 := CB_span (a := a) (b := b) (m := m) (t := (a * p + b) % m) hm r0 (by omega)
    rw [← hs] at e2 e3
    have e4 : (s * (V : Int)).toNat = s.toNat * V := by
      obtain ⟨S, rfl⟩ : ∃ S : Nat, s = S := ⟨s.toNat, by omega⟩
      rw [← Int.natCast_mul, Int.toNat_natCast, Int.toNat_natCast]
    unfold Z.rank
    rw [e1, e4, e2, e3]
    unfold Z.classes
    obtain ⟨g0, -, -⟩ := gcd_sm (a := a) (k := m.natAbs) hm (by unfold Z.Sm; exact Nat.lt_two_pow_self)
    obtain ⟨g, hg⟩ : ∃ g : Int, g = ((Int.gcd a m : Nat) : Int) := ⟨_, rfl⟩
    have ga : g ∣ a := by rw [hg]; exact Int.gcd_dvd_left a m
    have gm : g ∣ m := by rw [hg]; exact Int.gcd_dvd_right a m
    rw [← hg] at g0 ⊢
    have er : (a * p + b) % m % g = b % g := by
      rw [Int.emod_emod_of_dvd _ gm]
      obtain ⟨c, rfl⟩ := ga
      rw [Int.mul_assoc, Int.add_comm, Int.add_mul_emod_self_left]
    have d := Int.mul_ediv_add_emod ((a * p + b) % m) g
    have q0 : 0 ≤ (a * p + b) % m / g := Int.ediv_nonneg r0 (by omega)
    rw [show (a * p + b) % m - b % g = g * ((a * p + b) % m / g) by omega, Int.mul_ediv_cancel_left _ (by omega), show g * ((a * p + b) % m / g) + g - 1 = (g - 1) + g * ((a * p + b) % m / g) by omega, Int.add_mul_ediv_left _ _ (by omega), Int.ediv_eq_zero_of_lt (by omega) (by omega)]
    rw [Int.max_eq_right (by omega), Int.zero_add]
def drwC (ns : List Int) (k : Int) : Int := (ns ++ [0]).getD (k % max 1 (ns.length : Int)).toNat 0
def dvs (c : Int) : Nat → Int
  | 0 => c
  | n + 1 => dvs c n / 1000003
def drwM (c k m : Int) : Int := let z := (c % 2147483629 + 17 + 68209 * (k / m)) * 47791 % 2147483629; z * z % 2147483587 * 38839 % 2147483579
def drw (ns : List Int) (k : Int) : Int := if drwC ns k ≥ 10 ^ 18 ∨ drwC ns k ≤ -10 ^ 18 then dvs (drwC ns k) (min (k / max 1 (ns.length : Int)) 60).toNat % 1000003 else drwM (drwC ns k) k (max 1 (ns.length : Int))
theorem drw_b (ns : List Int) (k : Int) : 0 ≤ drw ns k ∧ drw ns k < 2147483579 := by
  unfold drw drwM
  split
  · exact ⟨Int.emod_nonneg _ (by decide), by have := Int.emod_lt_of_pos (dvs (drwC ns k) (min (k / max 1 (ns.length : Int)) 60).toNat) (show (0 : Int) < 1000003 by decide); omega⟩
  · exact ⟨Int.emod_nonneg _ (by decide), Int.emod_lt_of_pos _ (by decide)⟩
theorem drwC_at {ns : List Int} {k : Int} : atI ((ns ++ [0]).map D.int) (k % max 1 (ns.length : Int)) = some (.int (drwC ns k)) := by
  have m0 := Int.emod_nonneg k (show max 1 (ns.length : Int) ≠ 0 by omega)
  have m1 := Int.emod_lt_of_pos k (show 0 < max 1 (ns.length : Int) by omega)
  have hl : (k % max 1 (ns.length : Int)).toNat < (ns ++ [0]).length := by rw [List.length_append, List.length_singleton]; omega
  obtain ⟨j, e⟩ : ∃ j : Nat, k % max 1 (ns.length : Int) = j := ⟨_, (Int.toNat_of_nonneg m0).symm⟩
  unfold drwC
  rw [e] at hl ⊢
  unfold atI ixN
  rw [if_pos (by omega), if_pos (by rw [List.length_map]; omega)]
  show ((ns ++ [0]).map D.int)[((j : Int)).toNat]? = _
  rw [List.getElem?_map, List.getD_eq_getElem?_getD, List.getElem?_eq_getElem hl]
  rfl
def ltr (k : Int) : Str := ⟨#[97 + k.toNat]⟩
def nm3s (i : Int) : Str := (([("a" : Str), "ab", "ba", "b", "aba", "bab", "abc", "cba"] : List Str).getD i.toNat "")
def nm4s (i : Int) : Str := (([("line" : Str), "part", "rest", "sum", "order", "points", "paper", "within"] : List Str).getD i.toNat "")
def nmR (c p t s : Int) : Str := Txt.mul (ltr c) p ++ ltr s ++ Txt.mul (ltr c) t
def nmF (ns : List Int) (i : Int) : Str :=
  if drw ns 8 % 8 = 1 ∨ drw ns 8 % 8 = 2 then ltr ((i + drw ns 9) % 26)
  else if drw ns 8 % 8 = 3 ∧ i < 8 then nm3s i
  else if drw ns 8 % 8 = 4 ∧ i < 8 then nm4s i
  else nmR (drw ns 0 % 26) (drw ns 1 % 8) (drw ns 2 % (8 - drw ns 1 % 8)) ((i + drw ns 9) % 26)
theorem nm3_at {i : Int} (h0 : 0 ≤ i) (h1 : i < 8) : atI [D.str (Str.ofString "a"), D.str (Str.ofString "ab"), D.str (Str.ofString "ba"), D.str (Str.ofString "b"), D.str (Str.ofString "aba"), D.str (Str.ofString "bab"), D.str (Str.ofString "abc"), D.str (Str.ofString "cba")] i = some (.str (nm3s i)) := by
  obtain rfl | rfl | rfl | rfl | rfl | rfl | rfl | rfl : i = 0 ∨ i = 1 ∨ i = 2 ∨ i = 3 ∨ i = 4 ∨ i = 5 ∨ i = 6 ∨ i = 7 := by omega
  all_goals rfl
theorem nm4_at {i : Int} (h0 : 0 ≤ i) (h1 : i < 8) : atI [D.str (Str.ofString "line"), D.str (Str.ofString "part"), D.str (Str.ofString "rest"), D.str (Str.ofString "sum"), D.str (Str.ofString "order"), D.str (Str.ofString "points"), D.str (Str.ofString "paper"), D.str (Str.ofString "within")] i = some (.str (nm4s i)) := by
  obtain rfl | rfl | rfl | rfl | rfl | rfl | rfl | rfl : i = 0 ∨ i = 1 ∨ i = 2 ∨ i = 3 ∨ i = 4 ∨ i = 5 ∨ i = 6 ∨ i = 7 := by omega
  all_goals rfl
theorem tl_fold (l : List Nat) : ∀ (n : Nat) (b : Array Nat), ((List.replicate n l.toArray).foldl (· ++ ·) b).toList = b.toList ++ (List.replicate n l).flatten
  | 0, b => by simp
  | n + 1, b => by
    rw [List.replicate_succ, List.foldl_cons, tl_fold l n, List.replicate_succ, List.flatten_cons, Array.toList_append]
    simp
theorem tl_mul1 (c : Nat) {n : Int} (h0 : 0 ≤ n) : TL.tl (Txt.mul ⟨#[c]⟩ n) = List.replicate n.toNat c := by
  unfold Txt.mul
  by_cases h : n < 1
  · rw [if_pos h, show n.toNat = 0 by omega]; rfl
  rw [if_neg h]
  by_cases h1 : n = 1
  · subst h1; rfl
  rw [if_neg (by
    have e : ((⟨#[c]⟩ : Str).length == 0) = false := rfl
    rw [e, Bool.or_false]
    simpa using h1)]
  show ((List.replicate n.toNat ([c] : List Nat).toArray).foldl (· ++ ·) #[]).toList = _
  rw [tl_fold]
  show [] ++ _ = _
  rw [List.nil_append]
  induction n.toNat with
  | zero => rfl
  | succ k ih => rw [List.replicate_succ, List.flatten_cons, ih, List.replicate_succ]; rfl
theorem mulOk1 (c : Nat) {n : Int} (h0 : 0 ≤ n) (h1 : n ≤ 8) : PySem.MulOk ⟨#[c]⟩ n := by
  obtain ⟨k, rfl⟩ : ∃ k : Nat, n = k := ⟨n.toNat, by omega⟩
  have : ∀ k : Nat, k < 9 → PySem.MulOk (⟨#[0]⟩ : Str) (k : Int) := by unfold PySem.MulOk; decide +kernel
  exact this k (by omega)
theorem tl_ltr (k : Int) : TL.tl (ltr k) = [97 + k.toNat] := rfl
theorem ltr_at {k : Int} (h0 : 0 ≤ k) (h1 : k < 26) : atI (Str.ofString "abcdefghijklmnopqrstuvwxyz").cps.toList k = some (97 + k.toNat) := by
  obtain ⟨j, rfl⟩ : ∃ j : Nat, k = j := ⟨k.toNat, by omega⟩
  have : ∀ j : Nat, j < 26 → atI (Str.ofString "abcdefghijklmnopqrstuvwxyz").cps.toList (j : Int) = some (97 + (j : Int).toNat) := by decide +kernel
  exact this j (by omega)
theorem tl_nmR {c p t s : Int} (hp : 0 ≤ p) (ht : 0 ≤ t) : TL.tl (nmR c p t s) = List.replicate p.toNat (97 + c.toNat) ++ (97 + s.toNat) :: List.replicate t.toNat (97 + c.toNat) := by
  unfold nmR
  rw [TL.tl_append, TL.tl_append, tl_ltr]
  unfold ltr
  rw [tl_mul1 _ hp, tl_mul1 _ ht, List.append_assoc]; rfl
theorem nameB_of {t : Str} (h1 : 1 ≤ (TL.tl t).length) (h2 : (TL.tl t).length ≤ 8) (h : ∀ c ∈ TL.tl t, 97 ≤ c ∧ c ≤ 122) : nameB t = true := by
  unfold nameB
  rw [TL.len_tl, decide_eq_true h1, decide_eq_true h2, Bool.true_and, Bool.true_and]
  exact List.all_eq_true.mpr fun c hc => decide_eq_true (h c hc)
theorem nmF_ok (ns : List Int) {i : Int} (i0 : 0 ≤ i) (i8 : i < 8) : nameB (nmF ns i) = true := by
  have q := Int.emod_nonneg (i + drw ns 9) (show (26 : Int) ≠ 0 by decide)
  have q2 := Int.emod_lt_of_pos (i + drw ns 9) (show (0 : Int) < 26 by decide)
  have hl : nameB (ltr ((i + drw ns 9) % 26)) = true := nameB_of (by rw [tl_ltr]; exact Nat.le_refl _) (by rw [tl_ltr]; exact Nat.le_of_ble_eq_true rfl) fun c hc => by
    rw [tl_ltr, List.mem_singleton] at hc; omega
  have tb : ∀ j : Nat, j < 8 → nameB (nm3s (j : Int)) = true ∧ nameB (nm4s (j : Int)) = true := by decide +kernel
  unfold nmF
  split
  · exact hl
  split
  · have := (tb i.toNat (by omega)).1; rwa [Int.toNat_of_nonneg i0] at this
  split
  · have := (tb i.toNat (by omega)).2; rwa [Int.toNat_of_nonneg i0] at this
  have p0 := Int.emod_nonneg (drw ns 1) (show (8 : Int) ≠ 0 by decide)
  have p1 := Int.emod_lt_of_pos (drw ns 1) (show (0 : Int) < 8 by decide)
  have t0 := Int.emod_nonneg (drw ns 2) (show (8 - drw ns 1 % 8 : Int) ≠ 0 by omega)
  have t1 := Int.emod_lt_of_pos (drw ns 2) (show (0 : Int) < 8 - drw ns 1 % 8 by omega)
  have e := tl_nmR (c := drw ns 0 % 26) (s := (i + drw ns 9) % 26) p0 t0
  refine nameB_of ?_ ?_ fun c hc => ?_
  · rw [e, List.length_append, List.length_cons]; omega
  · rw [e, List.length_append, List.length_cons, List.length_replicate, List.length_replicate]; omega
  · rw [e] at hc
    have c0 := Int.emod_nonneg (drw ns 0) (show (26 : Int) ≠ 0 by decide)
    have c1 := Int.emod_lt_of_pos (drw ns 0) (show (0 : Int) < 26 by decide)
    rcases List.mem_append.mp hc with hc | hc
    · have := (List.mem_replicate.mp hc).2; omega
    · rcases List.mem_cons.mp hc with hc | hc
      · omega
      · have := (List.mem_replicate.mp hc).2; omega
theorem nmF_inj (ns : List Int) {i j : Int} (i0 : 0 ≤ i) (i8 : i < 8) (j0 : 0 ≤ j) (j8 : j < 8) (h : nmF ns i = nmF ns j) : i = j := by
  have q1 := Int.emod_nonneg (i + drw ns 9) (show (26 : Int) ≠ 0 by decide)
  have q2 := Int.emod_nonneg (j + drw ns 9) (show (26 : Int) ≠ 0 by decide)
  have key : (97 + ((i + drw ns 9) % 26).toNat = 97 + ((j + drw ns 9) % 26).toNat) → i = j := fun e => by omega
  have tb : ∀ x : Nat, x < 8 → ∀ y : Nat, y < 8 → (nm3s (x : Int) = nm3s (y : Int) → x = y) ∧ (nm4s (x : Int) = nm4s (y : Int) → x = y) := by decide +kernel
  have tb := tb i.toNat (by omega) j.toNat (by omega)
  rw [Int.toNat_of_nonneg i0, Int.toNat_of_nonneg j0] at tb
  unfold nmF at h
  by_cases c1 : drw ns 8 % 8 = 1 ∨ drw ns 8 % 8 = 2
  · rw [if_pos c1, if_pos c1] at h
    have h := congrArg TL.tl h
    rw [tl_ltr, tl_ltr] at h
    exact key (List.cons.inj h).1
  rw [if_neg c1, if_neg c1] at h
  by_cases c2 : drw ns 8 % 8 = 3
  · rw [if_pos ⟨c2, i8⟩, if_pos ⟨c2, j8⟩] at h
    have := tb.1 h; omega
  rw [if_neg (fun g : _ ∧ i < 8 => c2 g.1), if_neg (fun g : _ ∧ j < 8 => c2 g.1)] at h
  by_cases c3 : drw ns 8 % 8 = 4
  · rw [if_pos ⟨c3, i8⟩, if_pos ⟨c3, j8⟩] at h
    have := tb.2 h; omega
  rw [if_neg (fun g : _ ∧ i < 8 => c3 g.1), if_neg (fun g : _ ∧ j < 8 => c3 g.1)] at h
  have p0 := Int.emod_nonneg (drw ns 1) (show (8 : Int) ≠ 0 by decide)
  have p1 := Int.emod_lt_of_pos (drw ns 1) (show (0 : Int) < 8 by decide)
  have t0 := Int.emod_nonneg (drw ns 2) (show (8 - drw ns 1 % 8 : Int) ≠ 0 by omega)
  have h := congrArg TL.tl h
  rw [tl_nmR p0 t0, tl_nmR p0 t0] at h
  exact key (List.cons.inj (List.append_cancel_left h)).1
def jn (ws : List Str) : Str := Txt.join (" " : Str) ws
theorem tl_jn1 (a : Str) : TL.tl (jn [a]) = TL.tl a := by
  unfold jn; rw [TL.join_eq, TL.tl_join]; rfl
theorem tl_jn (a b : Str) (l : List Str) : TL.tl (jn (a :: b :: l)) = TL.tl a ++ (TL.tl (Str.ofString " ") ++ TL.tl (jn (b :: l))) := by
  unfold jn; rw [TL.join_eq, TL.tl_join, TL.join_eq, TL.tl_join]
  rfl
def Free (t : Str) : Prop := 32 ∉ TL.tl t ∧ 10 ∉ TL.tl t
theorem name_free {s : Str} (h : nameB s = true) : Free s ∧ s.length ≤ 8 ∧ 59 ∉ TL.tl s := by
  unfold nameB at h
  rw [Bool.and_eq_true, Bool.and_eq_true, decide_eq_true_iff, decide_eq_true_iff] at h
  have := fun c hc => of_decide_eq_true (List.all_eq_true.mp h.2.2 c hc)
  exact ⟨⟨fun g => by have := this _ g; omega, fun g => by have := this _ g; omega⟩, h.2.1, fun g => by have := this _ g; omega⟩
theorem tx_frees (i : Int) : Free (tx i) := by
  unfold Free
  rw [tx_tl]
  split
  · exact ⟨fun h => (List.mem_cons.mp h).elim (by decide) (TL.numL_free (Or.inl (by decide))), fun h => (List.mem_cons.mp h).elim (by decide) (TL.numL_free (Or.inl (by decide)))⟩
  · exact ⟨TL.numL_free (Or.inl (by decide)), TL.numL_free (Or.inl (by decide))⟩
theorem free_of_dec {t : Str} (h : (!(TL.tl t).contains 32 && !(TL.tl t).contains 10) = true) : Free t := by
  rw [Bool.and_eq_true, Bool.not_eq_true', Bool.not_eq_true'] at h
  exact ⟨fun g => by rw [List.contains_iff_mem.mpr g] at h; exact absurd h.1 (by decide), fun g => by rw [List.contains_iff_mem.mpr g] at h; exact absurd h.2 (by decide)⟩
theorem jn_no10 : ∀ ws : List Str, (∀ x ∈ ws, Free x) → 10 ∉ TL.tl (jn ws)
  | [], _ => by decide
  | [a], h => by rw [tl_jn1]; exact (h a List.mem_cons_self).2
  | a :: b :: l, h => by
    rw [tl_jn]
    have := jn_no10 (b :: l) fun x hx => h x (List.mem_cons_of_mem _ hx)
    intro g
    rcases List.mem_append.mp g with g | g
    · exact (h a List.mem_cons_self).2 g
    · rcases List.mem_append.mp g with g | g
      · exact absurd g (by decide)
      · exact this g
theorem jn_len : ∀ ws : List Str, (∀ x ∈ ws, x.length ≤ 100) → (jn ws).length ≤ 101 * ws.length
  | [], _ => Nat.le_refl _
  | [a], h => by rw [TL.len_tl, tl_jn1, ← TL.len_tl]; have := h a List.mem_cons_self; exact Nat.le_trans this (by show 100 ≤ 101 * 1; decide)
  | a :: b :: l, h => by
    have h1 := jn_len (b :: l) fun x hx => h x (List.mem_cons_of_mem _ hx)
    have h2 := h a List.mem_cons_self
    rw [TL.len_tl] at h1 h2 ⊢
    rw [tl_jn, List.length_append, List.length_append, show (TL.tl (Str.ofString " ")).length = 1 from rfl, List.length_cons]
    omega
/-- an asking of words -/
structure Askd (kv : Str → Option D) (t : Str) (r : AR) : Prop where
  l : t.length ≤ 40000
  a : AskR kv t r
theorem Askd.of {kv : Str → Option D} {t : Str} {ws : List Str} {r : AR} (e : TL.tl t = TL.tl (jn ws)) (hne : ws ≠ []) (hw : ∀ x ∈ ws, Free x ∧ x.length ≤ 100) (hl : ws.length ≤ 300) (h : AskW kv ws r) : Askd kv t r := by
  obtain rfl : t = jn ws := TL.ext_tl e
  refine ⟨Nat.le_trans (jn_len ws fun x hx => (hw x hx).2) (by omega), ?_⟩
  unfold AskR
  rw [if_neg (jn_no10 ws fun x hx => (hw x hx).1)]
  unfold jn
  rw [TL.split_join (s := 32) (S := []) rfl (by decide +kernel) hne fun p hp => (hw p hp).1.1]
  exact h
structure NmOk (s : Str) : Prop where
  b : nameB s = true
theorem NmOk.fr {s : Str} (h : NmOk s) : Free s ∧ s.length ≤ 100 := ⟨(name_free h.b).1, Nat.le_trans (name_free h.b).2.1 (by decide)⟩
theorem tx_len60 {x : Int} (h : x.natAbs < 10 ^ 60) : (tx x).length ≤ 100 := by
  rw [TL.len_tl, tx_tl]
  have := TL.numL_len (k := 60) (by decide) h
  split
  · rw [List.length_cons]; omega
  · omega
theorem tx_fr {x : Int} (h : x.natAbs < 10 ^ 60) : Free (tx x) ∧ (tx x).length ≤ 100 := ⟨tx_frees x, tx_len60 h⟩
theorem fr_w : ∀ w ∈ [("line" : Str), "part", "rest", "sum", "squares", "placed", "rests", "between", "beneath", "within", "order", "points", "paper", ";"], Free w ∧ w.length ≤ 100 := by
  have : ∀ w ∈ [("line" : Str), "part", "rest", "sum", "squares", "placed", "rests", "between", "beneath", "within", "order", "points", "paper", ";"], (!(TL.tl w).contains 32 && !(TL.tl w).contains 10) = true ∧ w.length ≤ 100 := by decide +kernel
  exact fun w hw => ⟨free_of_dec (this w hw).1, (this w hw).2⟩
theorem all2 {p : Str → Prop} {a b : Str} (h1 : p a) (h2 : p b) : ∀ x ∈ [a, b], p x := fun x hx => by
  simp only [List.mem_cons, List.not_mem_nil, or_false] at hx
  rcases hx with rfl | rfl <;> assumption
theorem all3 {p : Str → Prop} {a b c : Str} (h1 : p a) (h2 : p b) (h3 : p c) : ∀ x ∈ [a, b, c], p x := fun x hx => by
  simp only [List.mem_cons, List.not_mem_nil, or_false] at hx
  rcases hx with rfl | rfl | rfl <;> assumption
theorem all4 {p : Str → Prop} {a b c d : Str} (h1 : p a) (h2 : p b) (h3 : p c) (h4 : p d) : ∀ x ∈ [a, b, c, d], p x := fun x hx => by
  simp only [List.mem_cons, List.not_mem_nil, or_false] at hx
  rcases hx with rfl | rfl | rfl | rfl <;> assumption
theorem all5 {p : Str → Prop} {a b c d e : Str} (h1 : p a) (h2 : p b) (h3 : p c) (h4 : p d) (h5 : p e) : ∀ x ∈ [a, b, c, d, e], p x := fun x hx => by
  simp only [List.mem_cons, List.not_mem_nil, or_false] at hx
  rcases hx with rfl | rfl | rfl | rfl | rfl <;> assumption
theorem aw_line {kv : Str → Option D} {s : Str} {a b m : Int} (hn : nameB s = true) (hl : LnK a b m) : AskW kv ["line", s, tx a, tx b, tx m] (.put s (ln a b m)) := by
  unfold AskW
  dsimp only
  rw [if_pos rfl]
  exact Or.inr ⟨s, a, b, m, rfl, hn, hl.a60, hl.b60, hl.m60, Or.inr ⟨hl.m1, rfl⟩⟩
theorem aw_place {kv : Str → Option D} {word s : Str} {a b m x : Int} (hw : word = "part" ∨ word = "rest") (hs : kv s = some (ln a b m)) (hl : LnK a b m) (hx : x.natAbs < 10 ^ 60) : AskW kv [word, s, tx x] (.rows [tx (if word = "part" then (a * x + b) / m else (a * x + b) % m)]) := by
  unfold AskW
  dsimp only
  rw [if_neg (by rcases hw with rfl | rfl <;> decide), if_pos hw]
  exact Or.inr ⟨s, x, a, b, m, rfl, hx, hs, hl, rfl⟩
theorem aw_count {kv : Str → Option D} {word s : Str} {a b m x : Int} (hw : word = "sum" ∨ word = "squares" ∨ word = "placed" ∨ word = "rests") (hs : kv s = some (ln a b m)) (hl : LnK a b m) (x0 : 0 ≤ x) (hx : x.natAbs < 10 ^ 60) : AskW kv [word, s, tx x] (.rows [tx (cntV word a b m x)]) := by
  unfold AskW
  dsimp only
  rw [if_neg (by rcases hw with rfl | rfl | rfl | rfl <;> decide), if_neg (by rcases hw with rfl | rfl | rfl | rfl <;> decide), if_pos hw]
  exact Or.inr ⟨s, x, a, b, m, rfl, x0, hx, hs, hl, rfl⟩
theorem aw_more {kv : Str → Option D} {word : Str} {ws : List Str} {r : AR} (hw : word ∈ [("between" : Str), "beneath", "within", "order", "points", "paper"]) (h : MoR kv word ws (some r)) : AskW kv (word :: ws) r := by
  have : ∀ w ∈ [("between" : Str), "beneath", "within", "order", "points", "paper"], w ≠ "line" ∧ ¬ (w = "part" ∨ w = "rest") ∧ ¬ (w = "sum" ∨ w = "squares" ∨ w = "placed" ∨ w = "rests") := by decide +kernel
  obtain ⟨h1, h2, h3⟩ := this word hw
  unfold AskW
  dsimp only
  rw [if_neg h1, if_neg h2, if_neg h3]
  exact ⟨_, h, Or.inr rfl⟩
theorem aw_between {kv : Str → Option D} {s : Str} {a b m x y : Int} (hs : kv s = some (ln a b m)) (hl : LnK a b m) (hx : x.natAbs < 10 ^ 60) (hy : y.natAbs < 10 ^ 60) (c : x ≤ y) : AskW kv ["between", s, tx x, tx y] (.rows [tx (FS a (a * x + b) m (y - x).toNat)]) :=
  aw_more (by decide) (by unfold MoR; rw [if_pos rfl]; exact ⟨_, rfl, Or.inr ⟨s, x, y, a, b, m, rfl, hx, hy, hs, hl, Or.inr ⟨c, rfl⟩⟩⟩)
theorem aw_beneath {kv : Str → Option D} {s : Str} {a b m x y : Int} (hs : kv s = some (ln a b m)) (hl : LnK a b m) (x0 : 0 ≤ x) (hx : x.natAbs < 10 ^ 60) (hy : y.natAbs < 10 ^ 60) : AskW kv ["beneath", s, tx x, tx y] (.rows [tx (CB a b m y x.toNat)]) :=
  aw_more (by decide) (by unfold MoR; rw [if_neg (by decide), if_pos rfl]; exact ⟨_, rfl, Or.inr ⟨s, x, y, a, b, m, rfl, x0, hx, hy, hs, hl, rfl⟩⟩)
theorem aw_within {kv : Str → Option D} {s : Str} {a b m x y : Int} {d : D} (hs : kv s = some (ln a b m)) (hl : LnK a b m) (hx : x.natAbs < 10 ^ 60) (hy : y.natAbs < 10 ^ 60) (c : 0 ≤ x ∧ x ≤ y ∧ y < m) (hd : ∀ d', Res a b m x y d' → d' = d) : AskW kv ["within", s, tx x, tx y] (.rows (rowD? d)) :=
  aw_more (by decide) (by unfold MoR; rw [if_neg (by decide), if_neg (by decide), if_pos rfl]; exact ⟨_, rfl, Or.inr ⟨s, x, y, a, b, m, rfl, hx, hy, hs, hl, Or.inr ⟨c, d, hd, rfl⟩⟩⟩)
theorem aw_order {kv : Str → Option D} {s : Str} {a b m x y r p : Int} (hs : kv s = some (ln a b m)) (hl : LnK a b m) (x0 : 0 ≤ x) (hx : x.natAbs < 10 ^ 60) (hy : y.natAbs < 10 ^ 60) (c : 0 ≤ y ∧ y < x) (hd : ∀ r' p', Ord a b m x y r' p' → r' = r ∧ p' = p) : AskW kv ["order", s, tx x, tx y] (.rows [tx r ++ (" " : Str) ++ tx p]) :=
  aw_more (by decide) (by unfold MoR; rw [if_neg (by decide), if_neg (by decide), if_neg (by decide), if_pos rfl]; exact ⟨_, rfl, Or.inr ⟨s, x, y, a, b, m, rfl, x0, hx, hy, hs, hl, Or.inr ⟨c, r, p, hd, rfl⟩⟩⟩)
theorem no_semi {s : Str} (h : nameB s = true) : s ≠ semi := fun e => by
  rw [e] at h; exact absurd h (by decide +kernel)
theorem tx_semi (x : Int) : tx x ≠ semi := fun e => by
  have := TL.tl_ofString ";"
  have e := congrArg TL.tl e
  rw [tx_tl] at e
  have e2 : TL.tl semi = [59] := by decide +kernel
  rw [e2] at e
  split at e
  · injection e with h1 h2; cases h1
  · exact TL.numL_free (n := x.natAbs) (s := 59) (Or.inr (by decide)) (by rw [e]; exact List.mem_cons_self)
theorem cnt0 {l : List Str} (h : ∀ x ∈ l, x ≠ semi) : l.countP (fun s => decide (s = semi)) = 0 := by
  rw [List.countP_eq_zero]; exact fun x hx g => h x hx (of_decide_eq_true g)
theorem find_at : ∀ {l k : List Str}, (∀ x ∈ l, x ≠ semi) → cutJ (l ++ semi :: k) = l.length
  | [], k, _ => by unfold cutJ; rw [List.nil_append, List.findIdx_cons]; simp
  | x :: l, k, h => by
    have := find_at (l := l) (k := k) fun y hy => h y (List.mem_cons_of_mem _ hy)
    unfold cutJ at this ⊢
    rw [List.cons_append, List.findIdx_cons, this, decide_eq_false (h x List.mem_cons_self)]; rfl
theorem pts_words {l k : List Str} {x y : Str} (hx : x ≠ semi) (hy : y ≠ semi) (hl : ∀ z ∈ l, z ≠ semi) (hk : ∀ z ∈ k, z ≠ semi) : rowA (x :: y :: (l ++ semi :: k)) = l ∧ rowZ (x :: y :: (l ++ semi :: k)) = k ∧ (x :: y :: (l ++ semi :: k)).countP (fun s => decide (s = semi)) = 1 := by
  have e : x :: y :: (l ++ semi :: k) = (x :: y :: l) ++ semi :: k := rfl
  have h2 : ∀ z ∈ x :: y :: l, z ≠ semi := fun z hz => by
    rcases List.mem_cons.mp hz with rfl | hz
    · exact hx
    rcases List.mem_cons.mp hz with rfl | hz
    · exact hy
    · exact hl z hz
  have ej := find_at (k := k) h2
  refine ⟨?_, ?_, ?_⟩
  · unfold rowA; rw [e, ej]
    show (l ++ semi :: k).take (l.length + 1 + 1 - 2) = l
    rw [show l.length + 1 + 1 - 2 = l.length by omega, List.take_left']; rfl
  · unfold rowZ; rw [e, ej]
    show (l ++ semi :: k).drop l.length.succ.succ.pred.pred.succ = k
    rw [show l.length.succ.succ.pred.pred.succ = l.length + 1 from rfl, ← List.drop_drop, List.drop_left']
    · rfl
    · rfl
  · rw [e, List.countP_append, cnt0 h2, List.countP_cons, cnt0 hk]; simp
theorem aw_points {kv : Str → Option D} {l k : List Str} {la lb : List L3} {x y : Int} (hx : x.natAbs < 10 ^ 60) (hy : y.natAbs < 10 ^ 60) (hl : ∀ z ∈ l, z ≠ semi) (hk : ∀ z ∈ k, z ≠ semi) (l1 : 1 ≤ l.length ∧ l.length ≤ 4) (k1 : 1 ≤ k.length ∧ k.length ≤ 4) (sa : Sees kv l la) (sb : Sees kv k lb) (ka : LsK la) (kb : LsK lb) (c : x ≤ y) : AskW kv ("points" :: tx x :: tx y :: (l ++ semi :: k)) (.rows [tx (pts la lb x (y - x).toNat)]) := by
  obtain ⟨e1, e2, e3⟩ := pts_words (tx_semi x) (tx_semi y) hl hk
  have seen : ∀ {l : List Str} {ls : List L3}, Sees kv l ls → (l.all fun s => (kv s).isSome) = true := fun {l ls} h => List.all_eq_true.mpr fun s hs => by
    obtain ⟨i, hi⟩ := List.getElem?_of_mem hs
    obtain ⟨p, _, hp⟩ := h.at' hi
    rw [hp]; rfl
  have rA : rowB kv l = true := by unfold rowB; rw [decide_eq_true l1.1, decide_eq_true l1.2, seen sa]; rfl
  have rB : rowB kv k = true := by unfold rowB; rw [decide_eq_true k1.1, decide_eq_true k1.2, seen sb]; rfl
  refine aw_more (by decide) ?_
  unfold MoR
  rw [if_neg (by decide), if_neg (by decide), if_neg (by decide), if_neg (by decide), if_pos rfl]
  refine ⟨_, rfl, Or.inr ⟨?_, x, y, la, lb, rfl, rfl, hx, hy, by rw [e1]; exact sa, by rw [e2]; exact sb, ka, kb, Or.inr ⟨c, rfl⟩⟩⟩
  unfold wfPB
  rw [e1, e2, e3, rA, rB]
  have n0 : nthB (tx x :: tx y :: (l ++ semi :: k)) 0 = true := numB_tx hx
  have n1 : nthB (tx x :: tx y :: (l ++ semi :: k)) 1 = true := numB_tx hy
  rw [n0, n1, decide_eq_true (show 5 ≤ (tx x :: tx y :: (l ++ semi :: k)).length by simp only [List.length_cons, List.length_append]; omega)]
  rfl
def mpR (f : Nat → Int) (n : Nat) : List Int := (List.range n).map f
theorem mpR_snoc (f : Nat → Int) (i : Nat) : (mpR f i).map D.int ++ [D.int (f i)] = (mpR f (i + 1)).map D.int := by
  unfold mpR; rw [List.range_succ, List.map_append, List.map_append]; rfl
theorem mpR_sum (f : Nat → Int) : ∀ n, (mpR f n).sum = sumZ f n
  | 0 => rfl
  | n + 1 => by
    have h := mpR_sum f n
    unfold mpR at h ⊢
    rw [List.range_succ, List.map_append, List.sum_append, h]
    show sumZ f n + (f n + 0) = sumZ f n + f n
    rw [Int.add_zero]
theorem mpR_len (f : Nat → Int) (n : Nat) : (mpR f n).length = n := by unfold mpR; rw [List.length_map, List.length_range]
theorem mpR_get {f : Nat → Int} {n i : Nat} (h : i < n) : (mpR f n)[i]? = some (f i) := by unfold mpR; rw [List.getElem?_map, List.getElem?_range h]; rfl
theorem mpR_at {f : Nat → Int} {n i : Nat} (h : i < n) : atI ((mpR f n).map D.int) (i : Int) = some (.int (f i)) := by
  unfold atI ixN
  rw [if_pos (by omega), if_pos (by rw [List.length_map, mpR_len]; omega)]
  show ((mpR f n).map D.int)[((i : Int)).toNat]? = _
  rw [List.getElem?_map, show ((i : Int)).toNat = i by omega, mpR_get h]; rfl
theorem mpR_ix {f : Nat → Int} {n i : Nat} {d : D} (h : ((mpR f n).map D.int)[i]? = some d) : i < n ∧ d = .int (f i) := by
  have hi : i < n := by
    have := (List.getElem?_eq_some_iff.mp h).1
    rwa [List.length_map, mpR_len] at this
  rw [List.getElem?_map, mpR_get hi] at h
  exact ⟨hi, (Option.some.inj h).symm⟩
theorem mpR_at0 {f : Nat → Int} {n i : Nat} (h : i < n) : atI ((mpR f n).map D.int) (0 + (i : Int)) = some (.int (f i)) := by rw [Int.zero_add]; exact mpR_at h
theorem mpR_lenD (f : Nat → Int) (n : Nat) : ((mpR f n).map D.int).length = n := by rw [List.length_map, mpR_len]
theorem fs_mp (a b m : Int) (n : Nat) : (mpR (fun i => (a * (0 + (i : Int)) + b) / m) n).sum = FS a b m n := by
  rw [mpR_sum]; exact sumZ_congr n fun i _ => by rw [Int.zero_add]

def smF (ns : List Int) (k : Int) : L3 := (drw ns k % 41 - 20, drw ns (k + 1) % 41 - 20, 1 + drw ns (k + 2) % 20)
structure SmL (p : L3) : Prop where
  m1 : 1 ≤ p.2.2
  m2 : p.2.2 ≤ 20
  a1 : -20 ≤ p.1
  a2 : p.1 ≤ 20
  b1 : -20 ≤ p.2.1
  b2 : p.2.1 ≤ 20
theorem smF_ok (ns : List Int) (k : Int) : SmL (smF ns k) := by
  unfold smF
  have h1 := Int.emod_nonneg (drw ns k) (show (41 : Int) ≠ 0 by decide)
  have h2 := Int.emod_lt_of_pos (drw ns k) (show (0 : Int) < 41 by decide)
  have h3 := Int.emod_nonneg (drw ns (k + 1)) (show (41 : Int) ≠ 0 by decide)
  have h4 := Int.emod_lt_of_pos (drw ns (k + 1)) (show (0 : Int) < 41 by decide)
  have h5 := Int.emod_nonneg (drw ns (k + 2)) (show (20 : Int) ≠ 0 by decide)
  have h6 := Int.emod_lt_of_pos (drw ns (k + 2)) (show (0 : Int) < 20 by decide)
  exact ⟨by show 1 ≤ 1 + drw ns (k + 2) % 20; omega, by show 1 + drw ns (k + 2) % 20 ≤ 20; omega, by show -20 ≤ drw ns k % 41 - 20; omega, by show drw ns k % 41 - 20 ≤ 20; omega, by show -20 ≤ drw ns (k + 1) % 41 - 20; omega, by show drw ns (k + 1) % 41 - 20 ≤ 20; omega⟩
def pF (a b m : Int) (i : Nat) : Int := (a * (0 + (i : Int)) + b) / m
def rF (a b m : Int) (i : Nat) : Int := (a * (0 + (i : Int)) + b) % m
theorem sum_pF (a b m : Int) (n : Nat) : (mpR (pF a b m) n).sum = FS a b m n := fs_mp a b m n
theorem sum_rF (a b m : Int) (n : Nat) : (mpR (rF a b m) n).sum = RS a b m n := by
  rw [mpR_sum]; exact sumZ_congr n fun i _ => by unfold rF; rw [Int.zero_add]
theorem sum_qF (a b m : Int) (n : Nat) : (mpR (fun i => pF a b m i * pF a b m i) n).sum = QS a b m n := by
  rw [mpR_sum]; exact sumZ_congr n fun i _ => by unfold pF; rw [Int.zero_add]
theorem sum_jF (a b m : Int) (n : Nat) : (mpR (fun i => (0 + (i : Int)) * pF a b m i) n).sum = JS a b m n := by
  rw [mpR_sum]; exact sumZ_congr n fun i _ => by unfold pF; rw [Int.zero_add]
theorem sp_words : Str.ofString "part " = Str.ofString "part" ++ Str.ofString " " ∧ Str.ofString "rest " = Str.ofString "rest" ++ Str.ofString " " ∧ Str.ofString "line " = Str.ofString "line" ++ Str.ofString " " ∧ Str.ofString "sum " = Str.ofString "sum" ++ Str.ofString " " ∧ Str.ofString "between " = Str.ofString "between" ++ Str.ofString " " ∧ Str.ofString "within " = Str.ofString "within" ++ Str.ofString " " ∧ Str.ofString "points " = Str.ofString "points" ++ Str.ofString " " ∧ Str.ofString " 5" = Str.ofString " " ++ tx 5 ∧ Str.ofString " 3" = Str.ofString " " ++ tx 3 := by decide +kernel
theorem shown_jn (a b m : Int) : shown a b m = jn [tx a, tx b, tx m] := rfl
theorem lit_lens : (Str.ofString " ").length = 1 ∧ (Str.ofString "sum").length ≤ 20 ∧ (Str.ofString "rests").length ≤ 20 ∧ (Str.ofString "squares").length ≤ 20 ∧ (Str.ofString "placed").length ≤ 20 ∧ (Str.ofString "beneath").length ≤ 20 ∧ (Str.ofString "order").length ≤ 20 ∧ (Str.ofString "part ").length ≤ 20 ∧ (Str.ofString "rest ").length ≤ 20 ∧ (Str.ofString "between ").length ≤ 20 ∧ (Str.ofString "within ").length ≤ 20 ∧ (Str.ofString "points ").length ≤ 20 ∧ (Str.ofString "line ").length ≤ 20 ∧ (Str.ofString "sum ").length ≤ 20 ∧ (Str.ofString " 5").length ≤ 20 ∧ (Str.ofString " 3").length ≤ 20 := by decide +kernel
theorem sok_of {x : Str} (h : ∀ c ∈ TL.tl x, c < 1114112) : PyData.strOk x = true := by
  show x.cps.all _ = true
  rw [Array.all_eq_true']
  intro c hc
  exact decide_eq_true (h c (Array.mem_toList_iff.mpr hc))
theorem tx_sok (i : Int) : PyData.strOk (tx i) = true := sok_of fun c hc => by
  have d : ∀ n : Nat, c ∈ TL.numL n → c < 1114112 := fun n h => by
    refine Nat.lt_of_not_le fun g => ?_
    exact TL.numL_free (n := n) (s := c) (Or.inr (by omega)) h
  rw [tx_tl] at hc
  split at hc
  · rcases List.mem_cons.mp hc with rfl | hc
    · decide
    · exact d _ hc
  · exact d _ hc
theorem sok_app {x y : Str} (h : PyData.strOk x = true) (g : PyData.strOk y = true) : PyData.strOk (x ++ y) = true := by
  have k : ∀ z : Str, PyData.strOk z = true → ∀ c ∈ TL.tl z, c < 1114112 := fun z hz c hc => by
    have hz : z.cps.all _ = true := hz
    rw [Array.all_eq_true'] at hz
    exact of_decide_eq_true (hz c (Array.mem_toList_iff.mp hc))
  exact sok_of fun c hc => by
    rw [TL.tl_append] at hc
    exact (List.mem_append.mp hc).elim (k x h c) (k y g c)
theorem sok_sp : PyData.strOk (Str.ofString " ") = true := by decide +kernel
theorem okL1 {x : Str} (h : PyData.strOk x = true) : okD (D.lst [.str x]) = true := by
  show (PyData.strOk x && true) = true
  rw [h]; rfl
theorem okL0 : okD (D.lst []) = true := rfl
theorem deqS : ∀ l : List Str, deqs (l.map D.str) (l.map D.str) = true
  | [] => Z.deqs_nil
  | x :: l => by
    rw [List.map_cons, Z.deqs_cons, deqS l, Bool.and_true]
    exact beq_self_eq_true x
def flt (a b m t : Int) (n : Nat) : List Int := (mpR (rF a b m) n).filter fun x => decide (x < t)
theorem flt_y {a b m t : Int} {i : Nat} (h : rF a b m i < t) : (flt a b m t i).map D.int ++ [D.int (rF a b m i)] = (flt a b m t (i + 1)).map D.int := by
  unfold flt mpR
  rw [List.range_succ, List.map_append, List.filter_append, List.map_append]
  show _ = _ ++ List.map D.int (List.filter _ [rF a b m i])
  rw [List.filter_cons, if_pos (decide_eq_true h)]; rfl
theorem flt_n {a b m t : Int} {i : Nat} (h : ¬ rF a b m i < t) : (flt a b m t i).map D.int = (flt a b m t (i + 1)).map D.int := by
  unfold flt mpR
  rw [List.range_succ, List.map_append, List.filter_append, List.map_append]
  show _ = _ ++ List.map D.int (List.filter _ [rF a b m i])
  rw [List.filter_cons, if_neg (by rw [decide_eq_false h]; decide)]
  exact (List.append_nil _).symm
theorem flt_len (a b m t : Int) : ∀ n : Nat, ((flt a b m t n).length : Int) = CB a b m t n
  | 0 => rfl
  | n + 1 => by
    have h := flt_len a b m t n
    have e : CB a b m t (n + 1) = CB a b m t n + if (a * (n : Int) + b) % m < t then 1 else 0 := rfl
    have r : rF a b m n = (a * (n : Int) + b) % m := by unfold rF; rw [Int.zero_add]
    by_cases c : (a * (n : Int) + b) % m < t
    · rw [e, if_pos c, ← h]
      have := congrArg List.length (flt_y (i := n) (r ▸ c : rF a b m n < t))
      rw [List.length_append, List.length_map, List.length_map] at this
      rw [← this]; rfl
    · rw [e, if_neg c, ← h, Int.add_zero]
      have := congrArg List.length (flt_n (i := n) (r ▸ c : ¬ rF a b m n < t))
      rw [List.length_map, List.length_map] at this
      rw [← this]
def wiL (a b m lo hi : Int) : Nat → List Int
  | 0 => []
  | n + 1 => wiL a b m lo hi n ++ if lo ≤ rF a b m n ∧ rF a b m n ≤ hi then [0 + (n : Int)] else []
theorem wi_y {a b m lo hi : Int} {n : Nat} (h1 : lo ≤ rF a b m n) (h2 : rF a b m n ≤ hi) : (wiL a b m lo hi n).map D.int ++ [D.int (0 + (n : Int))] = (wiL a b m lo hi (n + 1)).map D.int := by
  show _ = (wiL a b m lo hi n ++ _).map D.int
  rw [if_pos ⟨h1, h2⟩, List.map_append]; rfl
theorem wi_n {a b m lo hi : Int} {n : Nat} (h : ¬ (lo ≤ rF a b m n ∧ rF a b m n ≤ hi)) : (wiL a b m lo hi n).map D.int = (wiL a b m lo hi (n + 1)).map D.int := by
  show _ = (wiL a b m lo hi n ++ _).map D.int
  rw [if_neg h, List.append_nil]
theorem wi_len (a b m lo hi : Int) : ∀ n : Nat, (wiL a b m lo hi n).length ≤ n
  | 0 => Nat.le_refl _
  | n + 1 => by
    have := wi_len a b m lo hi n
    show (wiL a b m lo hi n ++ _).length ≤ _
    rw [List.length_append]
    split
    · rw [List.length_singleton]; omega
    · rw [List.length_nil]; omega
theorem wi_spec (a b m lo hi : Int) : ∀ n : Nat, (wiL a b m lo hi n = [] ∧ ∀ j : Nat, j < n → ¬ (lo ≤ rF a b m j ∧ rF a b m j ≤ hi)) ∨ ∃ (x : Nat) (l : List Int), wiL a b m lo hi n = (0 + (x : Int)) :: l ∧ x < n ∧ (lo ≤ rF a b m x ∧ rF a b m x ≤ hi) ∧ ∀ j : Nat, j < x → ¬ (lo ≤ rF a b m j ∧ rF a b m j ≤ hi)
  | 0 => Or.inl ⟨rfl, fun j h => absurd h (Nat.not_lt_zero _)⟩
  | n + 1 => by
    have e : wiL a b m lo hi (n + 1) = wiL a b m lo hi n ++ if lo ≤ rF a b m n ∧ rF a b m n ≤ hi then [0 + (n : Int)] else [] := rfl
    rcases wi_spec a b m lo hi n with ⟨h1, h2⟩ | ⟨x, l, h1, h2, h3, h4⟩
    · by_cases c : lo ≤ rF a b m n ∧ rF a b m n ≤ hi
      · exact Or.inr ⟨n, [], by rw [e, h1, if_pos c]; rfl, Nat.lt_succ_self n, c, h2⟩
      · refine Or.inl ⟨by rw [e, h1, if_neg c]; rfl, fun j hj => ?_⟩
        rcases Nat.lt_or_ge j n with g | g
        · exact h2 j g
        · obtain rfl : j = n := by omega
          exact c
    · exact Or.inr ⟨x, _, by rw [e, h1]; rfl, by omega, h3, h4⟩
theorem wi_res {a b m lo hi : Int} (hm : 1 ≤ m) : ∃ d, (∀ d', Res a b m lo hi d' → d' = d) ∧ rowD? d = ((wiL a b m lo hi m.toNat).take 1).map tx := by
  have rj : ∀ j : Nat, rF a b m j = (a * (j : Int) + b) % m := fun j => by unfold rF; rw [Int.zero_add]
  rcases wi_spec a b m lo hi m.toNat with ⟨h1, h2⟩ | ⟨x, l, h1, h2, h3, h4⟩
  · refine ⟨.non, fun d' r => ?_, by rw [h1]; rfl⟩
    rcases r with ⟨x, rfl, f⟩ | ⟨rfl, _⟩
    · exfalso
      have x0 := f.x0
      have q0 := Int.emod_nonneg x (show m ≠ 0 by omega)
      have q1 := Int.emod_lt_of_pos x (show 0 < m by omega)
      refine h2 (x % m).toNat (by omega) ?_
      rw [rj, Int.toNat_of_nonneg q0]
      have e : (a * (x % m) + b) % m = (a * x + b) % m := by
        have hx := Int.emod_add_mul_ediv x m
        have h1 : a * x = a * (x % m) + a * (m * (x / m)) := by rw [← Int.mul_add, hx]
        have h2 : m * (a * (x / m)) = a * (m * (x / m)) := by rw [← Int.mul_assoc, Int.mul_comm m a, Int.mul_assoc]
        have e2 : a * x + b = (a * (x % m) + b) + m * (a * (x / m)) := by omega
        rw [e2, Int.add_mul_emod_self_left]
      rw [e]
      exact f.inn
    · rfl
  · refine ⟨.int x, fun d' r => ?_, ?_⟩
    · have fx : Fst a b m lo hi x := ⟨Int.natCast_nonneg x, by rw [rj] at h3; exact h3, fun j j0 jx g => h4 j.toNat (by omega) (by rw [rj, Int.toNat_of_nonneg j0]; exact g)⟩
      rcases r with ⟨y, rfl, f⟩ | ⟨rfl, g⟩
      · rw [f.uniq fx]
      · exact absurd fx.inn (g x fx.x0)
    · rw [h1]
      show [tx (x : Int)] = [tx (0 + (x : Int))]
      rw [Int.zero_add]
theorem okLs : ∀ l : List Int, okD (D.lst (l.map fun z => D.str (tx z))) = true
  | [] => rfl
  | z :: l => by
    have h := okLs l
    show (PyData.strOk (tx z) && okDs (l.map fun z => D.str (tx z))) = true
    rw [tx_sok, Bool.true_and]; exact h
theorem mp_tx (l : List Int) : (l.map tx).map D.str = l.map fun z => D.str (tx z) := by rw [List.map_map]; rfl
theorem wcut1 (l : List Int) : Z.cutD (l.map D.int) none (some 1) = (l.take 1).map D.int := by
  unfold Z.cutD
  rw [show (1 : Int) = ((1 : Nat) : Int) from rfl, HT.sIx_none, HT.sIx_nat, List.drop_zero, Nat.sub_zero, List.length_map, List.map_take, List.take_eq_take_iff, List.length_map]
  omega
def bF (a b m x : Int) (i : Nat) : Int := (a * (x + (i : Int)) + b) / m
theorem sum_bF (a b m x : Int) (n : Nat) : (mpR (bF a b m x) n).sum = FS a (a * x + b) m n := by
  rw [mpR_sum]; exact sumZ_congr n fun i _ => by unfold bF; rw [Int.mul_add, show a * x + a * (i : Int) + b = a * (i : Int) + (a * x + b) by omega]
theorem tk_ix {l : List Int} {n i : Nat} {d : D} (h : ((l.take n).map D.int)[i]? = some d) : ∃ z, (l.take n)[i]? = some z ∧ d = .int z := by
  rw [List.getElem?_map] at h
  obtain ⟨z, hz, rfl⟩ := Option.map_eq_some_iff.mp h
  exact ⟨z, hz, rfl⟩
theorem txs_snoc {l : List Int} {i : Nat} {z : Int} (h : l[i]? = some z) : (l.take i).map (fun z => D.str (tx z)) ++ [D.str (tx z)] = (l.take (i + 1)).map fun z => D.str (tx z) := by
  rw [tk_snoc h, List.map_append]; rfl
theorem deqTx (l : List Int) : deqs ((l.map tx).map D.str) (l.map fun z => D.str (tx z)) = true := by rw [← mp_tx]; exact deqS _
theorem okTx (l : List Int) : okD (D.lst ((l.map tx).map D.str)) = true := by rw [mp_tx]; exact okLs l
theorem wi_b (a b m lo hi : Int) : ∀ (n : Nat) (z : Int), z ∈ wiL a b m lo hi n → 0 ≤ z ∧ z < n
  | 0, z, h => nomatch h
  | n + 1, z, h => by
    have h : z ∈ wiL a b m lo hi n ++ if lo ≤ rF a b m n ∧ rF a b m n ≤ hi then [0 + (n : Int)] else [] := h
    rcases List.mem_append.mp h with h | h
    · have := wi_b a b m lo hi n z h; omega
    · split at h
      · rw [List.mem_singleton] at h; omega
      · exact nomatch h
theorem dpTx (l : List Int) : dpD (D.lst ((l.map tx).map D.str)) ≤ 64 := by
  have h : dpDs ((l.map tx).map D.str) = 0 := by
    rw [mp_tx]
    induction l with
    | nil => rfl
    | cons z l ih => show max 0 (dpDs (l.map fun z => D.str (tx z))) = 0; rw [ih]; rfl
  show dpDs _ + 1 ≤ 64
  rw [h]; decide
theorem dpLs (l : List Int) : dpD (D.lst (l.map fun z => D.str (tx z))) ≤ 64 := by rw [← mp_tx]; exact dpTx l
theorem six_b {m : Int} (m1 : 1 ≤ m) (m2 : m ≤ 20) {x : D} {i : Nat} (h : [D.int (-1), D.int 0, D.int 1, D.int (m / 2), D.int m, D.int (m + 1)][i]? = some x) : ∃ t : Int, x = .int t ∧ -1 ≤ t ∧ t ≤ 21 := by
  have := List.mem_of_getElem? h
  simp only [List.mem_cons, List.not_mem_nil, or_false] at this
  rcases this with rfl | rfl | rfl | rfl | rfl | rfl
  all_goals exact ⟨_, rfl, by omega, by omega⟩
theorem ask_go {a : Addr} {t : Str} {r : AR} {w : Dk} {Q : D → Dk → Prop} {E : Nat → Dk → Prop} (K : Askd w.kv t r) (h1 : HasD w.ob a) (h2 : KvOk w.kv) (h3 : w.n < 100000) (q : Fin r w Q E) : (HasD w.ob a ∧ KvOk w.kv ∧ w.n < 100000 ∧ t.length ≤ 40000) ∧ AskR w.kv t r ∧ Fin r w Q E := ⟨⟨h1, h2, h3, K.l⟩, K.a, q⟩
theorem SmL.s1 {a b m : Int} (h : SmL (a, b, m)) : Sm 10 a := by
  have h1 : -20 ≤ a := h.a1
  have h2 : a ≤ 20 := h.a2
  unfold Sm; omega
theorem SmL.s2 {a b m : Int} (h : SmL (a, b, m)) : Sm 10 b := by
  have h1 : -20 ≤ b := h.b1
  have h2 : b ≤ 20 := h.b2
  unfold Sm; omega
theorem SmL.s3 {a b m : Int} (h : SmL (a, b, m)) : Sm 10 m := by
  have h1 : 1 ≤ m := h.m1
  have h2 : m ≤ 20 := h.m2
  unfold Sm; omega
theorem SmL.k {a b m : Int} (h : SmL (a, b, m)) : LnK a b m := by
  obtain ⟨h1, h2, h3, h4, h5, h6⟩ := h
  have h1 : 1 ≤ m := h1
  have h2 : m ≤ 20 := h2
  have h3 : -20 ≤ a := h3
  have h4 : a ≤ 20 := h4
  have h5 : -20 ≤ b := h5
  have h6 : b ≤ 20 := h6
  exact LnK.of h1 (by omega) (by omega) (by omega)
def sp__law_draw : SpZ Unit := fun ds w Q _ => ∃ (ns : List Int) (k : Int), ds = [.arr (ns.map D.int), .int k] ∧ (ns.length ≤ 63 ∧ 0 ≤ k ∧ k ≤ 100000) ∧ Q (.int (drw ns k)) w
def jnD (l : List D) : Str := jn (l.map fun d => match d with | .int i => tx i | _ => "")
def IntsD : List D → Prop
  | [] => (0 : Int) ≤ 1
  | .int i :: l => Sm 1900 i ∧ IntsD l
  | _ :: _ => False
theorem ints_of : ∀ {l : List D}, IntsD l → ∃ xs : List Int, l = xs.map D.int ∧ ∀ x ∈ xs, Sm 1900 x
  | [], _ => ⟨[], rfl, fun x hx => nomatch hx⟩
  | .int i :: l, h => by
    obtain ⟨xs, rfl, hx⟩ := ints_of h.2
    exact ⟨i :: xs, rfl, fun x hx2 => by
      rcases List.mem_cons.mp hx2 with rfl | hx2
      · exact h.1
      · exact hx x hx2⟩
  | .str _ :: _, h => h.elim
  | .bl _ :: _, h => h.elim
  | .non :: _, h => h.elim
  | .tup _ :: _, h => h.elim
  | .lst _ :: _, h => h.elim
  | .arr _ :: _, h => h.elim
  | .exc _ :: _, h => h.elim
  | .ref _ :: _, h => h.elim
theorem jnD_ints (xs : List Int) : jnD (xs.map D.int) = jn (xs.map tx) := by unfold jnD; rw [List.map_map]; rfl
theorem ints_ix' {l : List Int} {i : Nat} {d : D} (h : (l.map D.int)[i]? = some d) : ∃ x, l[i]? = some x ∧ d = .int x := by
  rw [List.getElem?_map] at h
  obtain ⟨z, hz, rfl⟩ := Option.map_eq_some_iff.mp h
  exact ⟨z, hz, rfl⟩
theorem txs_lens : ∀ {xs : List Int}, (∀ x ∈ xs, Sm 1900 x) → (((xs.map tx).map (·.length)).sum ≤ 640 * xs.length)
  | [], _ => Nat.le_refl _
  | x :: xs, h => by
    have h1 := txs_lens (xs := xs) fun y hy => h y (List.mem_cons_of_mem _ hy)
    have h2 := tx_length (h x List.mem_cons_self)
    rw [List.map_cons, List.map_cons, List.sum_cons, List.length_cons]; omega
theorem jn_len6 : ∀ ws : List Str, (∀ x ∈ ws, x.length ≤ 640) → (jn ws).length ≤ 641 * ws.length
  | [], _ => Nat.le_refl _
  | [a], h => by rw [TL.len_tl, tl_jn1, ← TL.len_tl]; have := h a List.mem_cons_self; exact Nat.le_trans this (by show 640 ≤ 641 * 1; decide)
  | a :: b :: l, h => by
    have h1 := jn_len6 (b :: l) fun x hx => h x (List.mem_cons_of_mem _ hx)
    have h2 := h a List.mem_cons_self
    rw [TL.len_tl] at h1 h2 ⊢
    rw [tl_jn, List.length_append, List.length_append, show (TL.tl (Str.ofString " ")).length = 1 from rfl, List.length_cons]
    omega
theorem Res.uniq {a b m lo hi : Int} {d d' : D} (h : Res a b m lo hi d) (g : Res a b m lo hi d') : d' = d := by
  rcases h with ⟨x, rfl, f⟩ | ⟨rfl, f⟩ <;> rcases g with ⟨y, rfl, g⟩ | ⟨rfl, g⟩
  · rw [f.uniq g]
  · exact absurd f.inn (g x f.x0)
  · exact absurd g.inn (f y g.x0)
  · rfl
/-- an asking in full, and its answer -/
def AnsOk (s : Str) (a b m : Int) (t : Str) (r : List Str) : Prop := (∀ kv : Str → Option D, kv s = some (ln a b m) → Askd kv t (.rows r)) ∧ (∀ x ∈ r, PyData.strOk x = true) ∧ r.length ≤ 5000
def AnsD (s : Str) (a b m : Int) : List D → Prop
  | [] => True
  | d :: l => (∃ t r, d = .tup [.str t, .lst (r.map D.str)] ∧ AnsOk s a b m t r) ∧ AnsD s a b m l
theorem AnsD.at' {s : Str} {a b m : Int} : ∀ {l : List D}, AnsD s a b m l → ∀ d ∈ l, ∃ t r, d = .tup [.str t, .lst (r.map D.str)] ∧ AnsOk s a b m t r
  | [], _, d, h => nomatch h
  | e :: l, g, d, h => by
    rcases List.mem_cons.mp h with rfl | h
    · exact g.1
    · exact AnsD.at' g.2 d h
theorem okStrs : ∀ {r : List Str}, (∀ x ∈ r, PyData.strOk x = true) → okD (D.lst (r.map D.str)) = true
  | [], _ => rfl
  | x :: r, h => by
    have h1 := okStrs (r := r) fun y hy => h y (List.mem_cons_of_mem _ hy)
    show (PyData.strOk x && okDs (r.map D.str)) = true
    rw [h x List.mem_cons_self, Bool.true_and]; exact h1
theorem dpStrs (r : List Str) : dpD (D.lst (r.map D.str)) ≤ 64 := by
  have h : dpDs (r.map D.str) = 0 := by
    induction r with
    | nil => rfl
    | cons z l ih => show max 0 (dpDs (l.map D.str)) = 0; rw [ih]; rfl
  show dpDs _ + 1 ≤ 64
  rw [h]; decide
theorem sok_jn : ∀ {ws : List Str}, (∀ x ∈ ws, PyData.strOk x = true) → PyData.strOk (jn ws) = true
  | [], _ => by decide +kernel
  | [a], h => by
    have e : jn [a] = a := TL.ext_tl (tl_jn1 a)
    rw [e]; exact h a List.mem_cons_self
  | a :: b :: l, h => by
    have e : jn (a :: b :: l) = a ++ Str.ofString " " ++ jn (b :: l) := TL.ext_tl (by rw [tl_jn, TL.tl_append, TL.tl_append, List.append_assoc])
    rw [e]
    exact sok_app (sok_app (h a List.mem_cons_self) sok_sp) (sok_jn fun x hx => h x (List.mem_cons_of_mem _ hx))
theorem sok_jnt (xs : List Int) : PyData.strOk (jn (xs.map tx)) = true := sok_jn fun x hx => by
  obtain ⟨i, _, rfl⟩ := List.mem_map.mp hx
  exact tx_sok i
theorem an_tl (word s : Str) (x : Int) (xs : List Int) : TL.tl (word ++ Str.ofString " " ++ s ++ Str.ofString " " ++ jnD ((x :: xs).map D.int)) = TL.tl (jn (word :: s :: (x :: xs).map tx)) := by
  rw [jnD_ints]
  simp only [TL.tl_append, tl_jn, List.map_cons, List.append_assoc]
theorem anN {s : Str} {a b m : Int} {word : Str} {x : Int} {xs : List Int} {r : List Str} (hw : word ∈ [("line" : Str), "part", "rest", "sum", "squares", "placed", "rests", "between", "beneath", "within", "order", "points", "paper", ";"]) (nm : NmOk s) (hx : ∀ y ∈ x :: xs, y.natAbs < 10 ^ 60) (hl : (x :: xs).length ≤ 5)
    (h : ∀ kv : Str → Option D, kv s = some (ln a b m) → AskW kv (word :: s :: (x :: xs).map tx) (.rows r)) (h2 : ∀ y ∈ r, PyData.strOk y = true) (h3 : r.length ≤ 5000) :
    AnsOk s a b m (word ++ Str.ofString " " ++ s ++ Str.ofString " " ++ jnD ((x :: xs).map D.int)) r := ⟨fun kv hk => Askd.of (an_tl word s x xs) (by simp) (fun t ht => by
      rcases List.mem_cons.mp ht with rfl | ht
      · exact fr_w _ hw
      rcases List.mem_cons.mp ht with rfl | ht
      · exact nm.fr
      · obtain ⟨y, hy, rfl⟩ := List.mem_map.mp ht
        exact tx_fr (hx y hy)) (by rw [List.length_cons, List.length_cons, List.length_map]; omega) (h kv hk), h2, h3⟩
theorem sok1 (i : Int) : ∀ y ∈ [tx i], PyData.strOk y = true := fun y hy => by rw [List.mem_singleton.mp hy]; exact tx_sok i
theorem al1 {p : Int → Prop} {x : Int} (h : p x) : ∀ y ∈ [x], p y := fun y hy => by rw [List.mem_singleton.mp hy]; exact h
theorem al2 {p : Int → Prop} {x z : Int} (h : p x) (g : p z) : ∀ y ∈ [x, z], p y := fun y hy => by
  simp only [List.mem_cons, List.not_mem_nil, or_false] at hy
  rcases hy with rfl | rfl <;> assumption
theorem aw_paper {kv : Str → Option D} {s : Str} {a b m x : Int} {L : List Rw} (hs : kv s = some (ln a b m)) (hl : LnK a b m) (x0 : 0 ≤ x) (hx : x.natAbs < 10 ^ 60) (hL : PChn (x, a, b, m) L) : AskW kv ["paper", s, tx x] (.rows (L.map rowS)) :=
  aw_more (by decide) (by unfold MoR; rw [if_neg (by decide), if_neg (by decide), if_neg (by decide), if_neg (by decide), if_neg (by decide), if_pos rfl]; exact ⟨_, rfl, Or.inr ⟨s, x, a, b, m, L, rfl, x0, hx, hs, hl, hL, rfl⟩⟩)
theorem sokRows (L : List Rw) : ∀ y ∈ L.map rowS, PyData.strOk y = true := fun y hy => by
  obtain ⟨r, _, rfl⟩ := List.mem_map.mp hy
  exact sok_jnt [r.1, r.2.1, r.2.2.1, r.2.2.2, sumR r]
theorem jn2 (r p : Int) : tx r ++ (" " : Str) ++ tx p = jnD [D.int r, D.int p] := TL.ext_tl (by
  show _ = TL.tl (jn [tx r, tx p])
  rw [tl_jn, tl_jn1, TL.tl_append, TL.tl_append, List.append_assoc])
theorem lit37 : (Str.ofString "part").length ≤ 20 ∧ (Str.ofString "rest").length ≤ 20 ∧ (Str.ofString "sum").length ≤ 20 ∧ (Str.ofString "rests").length ≤ 20 ∧ (Str.ofString "squares").length ≤ 20 ∧ (Str.ofString "placed").length ≤ 20 ∧ (Str.ofString "between").length ≤ 20 ∧ (Str.ofString "beneath").length ≤ 20 ∧ (Str.ofString "within").length ≤ 20 ∧ (Str.ofString "order").length ≤ 20 ∧ (Str.ofString "paper").length ≤ 20 ∧ (Str.ofString " ").length = 1 := by decide +kernel
theorem rowD?_ok (d : D) : ∀ y ∈ rowD? d, PyData.strOk y = true := by
  cases d with
  | int i => exact sok1 i
  | _ => exact fun y hy => nomatch hy
theorem rowD?_len (d : D) : (rowD? d).length ≤ 5000 := by
  cases d with
  | int i => exact Nat.le_of_ble_eq_true rfl
  | _ => exact Nat.zero_le _
def sp__law_number : SpZ Unit := fun ds w Q _ => ∃ (ns : List Int) (k g : Int), ds = [.arr (ns.map D.int), .int k, .int g] ∧ (ns.length ≤ 63 ∧ 0 ≤ k ∧ k ≤ 90000 ∧ 1 ≤ g ∧ g ≤ 60) ∧ Stp (∀ r, 0 ≤ r → r.natAbs < 10 ^ g.toNat → Sm 205 r → Q (.int r) w)
theorem ixT {l : List D} {n : Nat} (hn : l.length = n) (h0 : 0 < n) {i : Int} {q : D → Prop} (h : ∀ z, z ∈ l → q z) : ixD (.tup l) (.int (i % (n : Int))) q := by
  have m0 := Int.emod_nonneg i (show (n : Int) ≠ 0 by omega)
  have m1 := Int.emod_lt_of_pos i (show 0 < (n : Int) by omega)
  have hv : (i % (n : Int)).toNat < l.length := by omega
  refine ⟨l[(i % (n : Int)).toNat], ?_, h _ (List.getElem_mem hv)⟩
  unfold atI ixN
  rw [if_pos m0, if_pos (by omega)]
  show l[_]? = _
  rw [List.getElem?_eq_getElem hv]
theorem ixT4 {a b c d : Int} {i : Int} {q : D → Prop} {P : Int → Prop} (pa : P a) (pb : P b) (pc : P c) (pd : P d) (h : ∀ z, P z → q (.int z)) : ixD (.tup [.int a, .int b, .int c, .int d]) (.int (i % 4)) q := ixT (n := 4) rfl (by decide) fun z hz => by
  simp only [List.mem_cons, List.not_mem_nil, or_false] at hz
  rcases hz with rfl | rfl | rfl | rfl <;> exact h _ (by assumption)
theorem ixT3 {a b c : Int} {i : Int} {q : D → Prop} {P : Int → Prop} (pa : P a) (pb : P b) (pc : P c) (h : ∀ z, P z → q (.int z)) : ixD (.tup [.int a, .int b, .int c]) (.int (i % 3)) q := ixT (n := 3) rfl (by decide) fun z hz => by
  simp only [List.mem_cons, List.not_mem_nil, or_false] at hz
  rcases hz with rfl | rfl | rfl <;> exact h _ (by assumption)
def sp__law_line : SpZ Unit := fun ds w Q _ => ∃ (ns : List Int) (k g : Int), ds = [.arr (ns.map D.int), .int k, .int g] ∧ (ns.length ≤ 63 ∧ 0 ≤ k ∧ k ≤ 80000 ∧ 1 ≤ g ∧ g ≤ 60) ∧ Stp (∀ a b m, LnK a b m → Q (ln a b m) w)
def sp__law_name : SpZ Unit := fun ds w Q _ => ∃ (ns : List Int) (i : Int), ds = [.arr (ns.map D.int), .int i] ∧ (ns.length ≤ 63 ∧ 0 ≤ i ∧ i < 8) ∧ Q (.str (nmF ns i)) w
def sp__law_line_text : SpZ Unit := fun ds w Q E => ∃ a b m, ds = [ln a b m] ∧ (Sm 1900 a ∧ Sm 1900 b ∧ Sm 1900 m) ∧ Q (.str (shown a b m)) w
def sp__law_row : SpZ Unit := fun ds w Q _ => ∃ l, ds = [.tup l] ∧ (l.length ≤ 10 ∧ IntsD l) ∧ ((jnD l).length ≤ 10000 → Q (.str (jnD l)) w)
def sp__law_lines : SpZ Unit := fun ds w Q _ => ∃ ns s a b m k, ds = [.arr (List.map D.int ns), .str s, ln a b m, .int k] ∧ (List.length ns ≤ 63 ∧ NmOk s ∧ LnK a b m ∧ 0 ≤ k ∧ k ≤ 80000) ∧ ∀ l : List D, l.length ≤ 20 → Stp (AnsD s a b m l) → Q (.lst l) w
def sp__law_told_right : SpZ Dk := fun ds w Q E => ∃ a l, ds = [.ref a, .lst l] ∧ (HasD w.ob a ∧ KvOk w.kv ∧ w.n < 100000 ∧ Stp (∃ s p1 p2 p3, w.kv s = some (ln p1 p2 p3) ∧ AnsD s p1 p2 p3 l)) ∧ ∀ ls, Q (.bl true) { w with ls := ls }
theorem shownL {a b m : Int} (h : LnK a b m) : (shown a b m).length ≤ 1000 := by
  have := jn_len [tx a, tx b, tx m] (all3 (p := fun x => x.length ≤ 100) (tx_len60 h.a60) (tx_len60 h.b60) (tx_len60 h.m60))
  exact Nat.le_trans this (by show 101 * 3 ≤ 1000; decide)
theorem KvOk.put {kv : Str → Option D} (h : KvOk kv) {s : Str} {a b m : Int} (hl : LnK a b m) : KvOk (putKv kv s (ln a b m)) := fun t v e => by
  unfold putKv at e
  split at e
  · exact ⟨a, b, m, (Option.some.inj e).symm, hl⟩
  · exact h t v e
theorem put_self (kv : Str → Option D) (s : Str) (v : D) : putKv kv s v s = some v := if_pos rfl
theorem put_ne {kv : Str → Option D} {s t : Str} {v : D} (h : t ≠ s) : putKv kv s v t = kv t := if_neg h
theorem kv0 : KvOk fun _ => none := fun s v h => nomatch h
theorem ls1 {a b m : Int} (h : LnK a b m) : LsOk [(a, b, m)] := ⟨Nat.le_of_ble_eq_true rfl, Nat.le_of_ble_eq_true rfl, fun p hp => by
  rw [List.mem_singleton.mp hp]
  exact ⟨h.m1, h.sa.le (by decide), h.sb.le (by decide), h.sm.le (by decide)⟩⟩
theorem lsk1 {a b m : Int} (h : LnK a b m) : LsK [(a, b, m)] := fun p hp => by
  rw [List.mem_singleton.mp hp]; exact h
theorem sees1 {kv : Str → Option D} {s : Str} {a b m : Int} (h : kv s = some (ln a b m)) : Sees kv [s] [(a, b, m)] := by
  unfold Sees; rw [List.map_cons, List.map_nil, List.map_cons, List.map_nil, h]; rfl
theorem pw37 (s t : Str) (y : Int) : TL.tl (Str.ofString "points -7 " ++ tx y ++ Str.ofString " " ++ s ++ Str.ofString " ; " ++ t) = TL.tl (jn (("points" : Str) :: tx (-7) :: tx y :: ([s] ++ semi :: [t]))) := by
  have e1 : TL.tl (Str.ofString "points -7 ") = TL.tl (Str.ofString "points") ++ (TL.tl (Str.ofString " ") ++ (TL.tl (tx (-7)) ++ TL.tl (Str.ofString " "))) := by decide +kernel
  have e2 : TL.tl (Str.ofString " ; ") = TL.tl (Str.ofString " ") ++ (TL.tl semi ++ TL.tl (Str.ofString " ")) := by decide +kernel
  simp only [TL.tl_append, List.cons_append, List.nil_append, tl_jn, tl_jn1, List.append_assoc, e1, e2]
theorem pf37 {s t : Str} {y : Int} (hs : NmOk s) (ht : NmOk t) (hy : y.natAbs < 10 ^ 60) : ∀ x ∈ ("points" : Str) :: tx (-7) :: tx y :: ([s] ++ semi :: [t]), Free x ∧ x.length ≤ 100 := fun x hx => by
  simp only [List.cons_append, List.nil_append, List.mem_cons, List.not_mem_nil, or_false] at hx
  rcases hx with rfl | rfl | rfl | rfl | rfl | rfl
  · exact fr_w _ (by decide)
  · exact tx_fr (by decide)
  · exact tx_fr hy
  · exact hs.fr
  · exact fr_w _ (by decide)
  · exact ht.fr
abbrev sp_law : SpZ Dk := spLaw (Dk.mk [] none (fun _ => none) 0)
theorem ok_need_line {P : Program} {w : World} {K : PySem.W.Frag} {mg : Str → Option Value} {base : Heap} {ec : Nat → Addr} {CD : Addr} (T : Tx K mg ec CD) {f : Addr} {fd : FuncData} (F : Fun K "need_line" "need_line" s_need_line f fd) (hm : mg "need_line" = some (.ref f)) (hb : Binds K fd ["line"] []) :
    Fd P w K mg base (W0 ec) 1 "need_line" sp_need_line := by
  have nd := sc_need_line.nd
  refine fnz F sc_need_line hm hb (by
    unfold sp_need_line; intro ds w Q Q' E E' k k'
    repeat' (first | exact id | exact k _ _ | exact k' _ _ | refine Exists.imp fun _ => ?_ | refine And.imp ?_ ?_ | refine Or.imp ?_ ?_ | refine Z.impR ?_ | refine Z.allR fun _ => ?_ | refine Z.Stp.imp ?_)) (by
    intro ds w' Q E h; unfold sp_need_line at h; obtain ⟨a, b, m, rfl, -⟩ := h; rfl) (fun cdv A outer s H E hr =>
  (zb_one (z_if (z_tcmp op_lt l_lt (z_ix ix_seq l_ix (z_var 0) z_int) z_int)
  (zb_one (z_raise (c := 0) T.e0))
  zb_nil))) ?_
  intro ds w Q E h
  unfold sp_need_line at h
  clear nd hb hm F T fd f ec base mg K CD
  obtain ⟨a, b, m, rfl, h1, h2⟩ := h
  kby_none
  · exact h1 (by assumption)
  · exact h2 (by omega)
theorem ok_height_at {P : Program} {w : World} {K : PySem.W.Frag} {mg : Str → Option Value} {base : Heap} {ec : Nat → Addr} {CD : Addr} (T : Tx K mg ec CD) {f : Addr} {fd : FuncData} (F : Fun K "height_at" "height_at" s_height_at f fd) (hm : mg "height_at" = some (.ref f)) (hb : Binds K fd ["line", "place"] []) (d_need_line : Fd P w K mg base (W0 ec) 1 "need_line" sp_need_line) :
    Fd P w K mg base (W0 ec) 2 "height_at" sp_height_at := by
  have nd := sc_height_at.nd
  refine fnz F sc_height_at hm hb (by
    unfold sp_height_at; intro ds w Q Q' E E' k k'
    repeat' (first | exact id | exact k _ _ | exact k' _ _ | refine Exists.imp fun _ => ?_ | refine And.imp ?_ ?_ | refine Or.imp ?_ ?_ | refine Z.impR ?_ | refine Z.allR fun _ => ?_ | refine Z.Stp.imp ?_)) (by
    intro ds w' Q E h; unfold sp_height_at at h; obtain ⟨a, b, m, x, rfl, -⟩ := h; rfl) (fun cdv A outer s H E hr =>
  (zb_cons (z_drop (z_callP d_need_line hr (z_cons (z_var 0) z_nil)))
  (zb_one (z_ret (z_op o_add l_add (z_op o_mul l_mul (z_ix ix_seq l_ix (z_var 0) z_int) (z_var 1)) (z_ix ix_seq l_ix (z_var 0) z_int)))))) ?_
  intro ds w Q E h
  unfold sp_height_at at h
  clear nd d_need_line hb hm F T fd f ec base mg K CD
  obtain ⟨a, b, m, x, rfl, h1, h2⟩ := h
  kby_none
  · exact h1 (by assumption)
  all_goals obtain ⟨⟨q1, q2⟩, q⟩ := h2 (by assumption)
  · kt_field
  · exact q
theorem ok_part_at {P : Program} {w : World} {K : PySem.W.Frag} {mg : Str → Option Value} {base : Heap} {ec : Nat → Addr} {CD : Addr} (T : Tx K mg ec CD) {f : Addr} {fd : FuncData} (F : Fun K "part_at" "part_at" s_part_at f fd) (hm : mg "part_at" = some (.ref f)) (hb : Binds K fd ["line", "place"] []) (d_height_at : Fd P w K mg base (W0 ec) 2 "height_at" sp_height_at) :
    Fd P w K mg base (W0 ec) 3 "part_at" sp_part_at := by
  have nd := sc_part_at.nd
  refine fnz F sc_part_at hm hb (by
    unfold sp_part_at; intro ds w Q Q' E E' k k'
    repeat' (first | exact id | exact k _ _ | exact k' _ _ | refine Exists.imp fun _ => ?_ | refine And.imp ?_ ?_ | refine Or.imp ?_ ?_ | refine Z.impR ?_ | refine Z.allR fun _ => ?_ | refine Z.Stp.imp ?_)) (by
    intro ds w' Q E h; unfold sp_part_at at h; obtain ⟨a, b, m, x, rfl, -⟩ := h; rfl) (fun cdv A outer s H E hr =>
  (zb_one (z_ret (z_op o_div l_div (z_callP d_height_at hr (z_cons (z_var 0) (z_cons (z_var 1) z_nil))) (z_ix ix_seq l_ix (z_var 0) z_int))))) ?_
  intro ds w Q E h
  unfold sp_part_at at h
  clear nd d_height_at hb hm F T fd f ec base mg K CD
  obtain ⟨a, b, m, x, rfl, h1, h2⟩ := h
  kby_none
  · exact h1 (by assumption)
  all_goals obtain ⟨⟨q1, q2, q3⟩, q⟩ := h2 (by assumption)
  all_goals first | assumption | exact q | exact q3.le (by decide)
theorem ok_rest_at {P : Program} {w : World} {K : PySem.W.Frag} {mg : Str → Option Value} {base : Heap} {ec : Nat → Addr} {CD : Addr} (T : Tx K mg ec CD) {f : Addr} {fd : FuncData} (F : Fun K "rest_at" "rest_at" s_rest_at f fd) (hm : mg "rest_at" = some (.ref f)) (hb : Binds K fd ["line", "place"] []) (d_height_at : Fd P w K mg base (W0 ec) 2 "height_at" sp_height_at) :
    Fd P w K mg base (W0 ec) 3 "rest_at" sp_rest_at := by
  have nd := sc_rest_at.nd
  refine fnz F sc_rest_at hm hb (by
    unfold sp_rest_at; intro ds w Q Q' E E' k k'
    repeat' (first | exact id | exact k _ _ | exact k' _ _ | refine Exists.imp fun _ => ?_ | refine And.imp ?_ ?_ | refine Or.imp ?_ ?_ | refine Z.impR ?_ | refine Z.allR fun _ => ?_ | refine Z.Stp.imp ?_)) (by
    intro ds w' Q E h; unfold sp_rest_at at h; obtain ⟨a, b, m, x, rfl, -⟩ := h; rfl) (fun cdv A outer s H E hr =>
  (zb_one (z_ret (z_op op_mod l_mod (z_callP d_height_at hr (z_cons (z_var 0) (z_cons (z_var 1) z_nil))) (z_ix ix_seq l_ix (z_var 0) z_int))))) ?_
  intro ds w Q E h
  unfold sp_rest_at at h
  clear nd d_height_at hb hm F T fd f ec base mg K CD
  obtain ⟨a, b, m, x, rfl, h1, h2⟩ := h
  kby_none
  · exact h1 (by assumption)
  all_goals obtain ⟨⟨q1, q2, q3⟩, q⟩ := h2 (by assumption)
  all_goals first | assumption | exact q | exact q3.le (by decide)
theorem ok_laid_off {P : Program} {w : World} {K : PySem.W.Frag} {mg : Str → Option Value} {base : Heap} {ec : Nat → Addr} {CD : Addr} (T : Tx K mg ec CD) {f : Addr} {fd : FuncData} (F : Fun K "laid_off" "laid_off" s_laid_off f fd) (hm : mg "laid_off" = some (.ref f)) (hb : Binds K fd ["line"] []) (d_need_line : Fd P w K mg base (W0 ec) 1 "need_line" sp_need_line) :
    Fd P w K mg base (W0 ec) 2 "laid_off" sp_laid_off := by
  have nd := sc_laid_off.nd
  refine fnz F sc_laid_off hm hb (by
    unfold sp_laid_off; intro ds w Q Q' E E' k k'
    repeat' (first | exact id | exact k _ _ | exact k' _ _ | refine Exists.imp fun _ => ?_ | refine And.imp ?_ ?_ | refine Or.imp ?_ ?_ | refine Z.impR ?_ | refine Z.allR fun _ => ?_ | refine Z.Stp.imp ?_)) (by
    intro ds w' Q E h; unfold sp_laid_off at h; obtain ⟨a, b, m, rfl, -⟩ := h; rfl) (fun cdv A outer s H E hr =>
  (zb_cons (z_drop (z_callP d_need_line hr (z_cons (z_var 0) z_nil)))
  (zb_cons (z_asg (z_var 0) (g_tup (gs_cons 1 nd (gs_cons 2 nd (gs_cons 3 nd gs_nil)))))
  (zb_one (z_ret (z_tup (z_cons (z_op o_div l_div (z_var 1) (z_var 3)) (z_cons (z_op o_div l_div (z_var 2) (z_var 3)) (z_cons (z_tup (z_cons (z_op op_mod l_mod (z_var 1) (z_var 3)) (z_cons (z_op op_mod l_mod (z_var 2) (z_var 3)) (z_cons (z_var 3) z_nil)))) z_nil))))))))) ?_
  intro ds w Q E h
  unfold sp_laid_off at h
  clear nd d_need_line hb hm F T fd f ec base mg K CD
  obtain ⟨a, b, m, rfl, h1, h2⟩ := h
  kby_none
  · exact h1 (by assumption)
  all_goals obtain ⟨q1, q⟩ := h2 (by assumption)
  all_goals first | assumption | exact q | exact ⟨by omega, q1⟩
theorem ok_turned {P : Program} {w : World} {K : PySem.W.Frag} {mg : Str → Option Value} {base : Heap} {ec : Nat → Addr} {CD : Addr} (T : Tx K mg ec CD) {f : Addr} {fd : FuncData} (F : Fun K "turned" "turned" s_turned f fd) (hm : mg "turned" = some (.ref f)) (hb : Binds K fd ["line", "n"] []) (d_need_line : Fd P w K mg base (W0 ec) 1 "need_line" sp_need_line) (d_part_at : Fd P w K mg base (W0 ec) 3 "part_at" sp_part_at) (d_rest_at : Fd P w K mg base (W0 ec) 3 "rest_at" sp_rest_at) :
    Fd P w K mg base (W0 ec) 4 "turned" sp_turned := by
  have nd := sc_turned.nd
  refine fnz F sc_turned hm hb (by
    unfold sp_turned; intro ds w Q Q' E E' k k'
    repeat' (first | exact id | exact k _ _ | exact k' _ _ | refine Exists.imp fun _ => ?_ | refine And.imp ?_ ?_ | refine Or.imp ?_ ?_ | refine Z.impR ?_ | refine Z.allR fun _ => ?_ | refine Z.Stp.imp ?_)) (by
    intro ds w' Q E h; unfold sp_turned at h; obtain ⟨a, b, m, n, rfl, -⟩ := h; rfl) (fun cdv A outer s H E hr =>
  (zb_cons (z_drop (z_callP d_need_line hr (z_cons (z_var 0) z_nil)))
  (zb_cons (z_asg (z_var 0) (g_tup (gs_cons 2 nd (gs_cons 3 nd (gs_cons 4 nd gs_nil)))))
  (zb_cons (z_if (z_pw (z_or (z_not (z_tch op_le op_lt l_le l_lt z_int (z_var 2) (z_var 4))) (z_or1 (z_not (z_tch op_le op_lt l_le l_lt z_int (z_var 3) (z_var 4))))))
  (zb_one (z_raise (c := 1) T.e1))
  zb_nil)
  (zb_cons (z_set 5 (z_callP d_part_at hr (z_cons (z_var 0) (z_cons (z_var 1) z_nil))) nd)
  (zb_cons (z_if (z_tcmp (o_eq hr) l_eq (z_var 5) z_int)
  (zb_one (z_ret (z_tup (z_cons z_int (z_cons z_non z_nil)))))
  zb_nil)
  (zb_one (z_ret (z_tup (z_cons (z_var 5) (z_cons (z_tup (z_cons (z_var 4) (z_cons (z_callP d_rest_at hr (z_cons (z_var 0) (z_cons (z_var 1) z_nil))) (z_cons (z_var 2) z_nil)))) z_nil))))))))))) ?_
  intro ds w Q E h
  unfold sp_turned at h
  clear nd d_need_line d_part_at d_rest_at hb hm F T fd f ec base mg K CD
  obtain ⟨a, b, m, n, rfl, h1, h2⟩ := h
  kby_none
  · exact h1 (by assumption)
  all_goals have h3 := h2 (by assumption)
  all_goals try exact h3.1 (by omega)
  all_goals obtain ⟨⟨q1, q2⟩, q3, q4⟩ := h3.2 (by omega)
  all_goals first | assumption | exact q3 (by assumption) | exact q4 (by assumption) | exact q1.of_le (by omega) (by omega)
theorem ok_number_read {P : Program} {w : World} {K : PySem.W.Frag} {mg : Str → Option Value} {base : Heap} {ec : Nat → Addr} {CD : Addr} (T : Tx K mg ec CD) {f : Addr} {fd : FuncData} (F : Fun K "number_read" "number_read" s_number_read f fd) (hm : mg "number_read" = some (.ref f)) (hb : Binds K fd ["word"] []) :
    Fd P w K mg base (W0 ec) 1 "number_read" sp_number_read := by
  have nd := sc_number_read.nd
  refine fnz F sc_number_read hm hb (by
    unfold sp_number_read; intro ds w Q Q' E E' k k'
    repeat' (first | exact id | exact k _ _ | exact k' _ _ | refine Exists.imp fun _ => ?_ | refine And.imp ?_ ?_ | refine Or.imp ?_ ?_ | refine Z.impR ?_ | refine Z.allR fun _ => ?_ | refine Z.Stp.imp ?_)) (by
    intro ds w' Q E h; unfold sp_number_read at h; obtain ⟨i, rfl, -⟩ := h; rfl) (fun cdv A outer s H E hr =>
  (zb_cons (z_set 1 (z_var 0) nd)
  (zb_cons (z_if (z_tcmp (o_eq hr) l_eq (z_slS (z_var 0) z_oN (z_oS z_int)) z_str)
  (zb_one (z_set 1 (z_slS (z_var 0) (z_oS z_int) z_oN) nd))
  zb_nil)
  (zb_cons (z_if (z_pw (z_or (z_tcmp (o_eq hr) l_eq (z_var 1) z_str) (z_or1 (z_tcmp (o_ne hr) l_ne (z_fz (z_lcI (own := [("sign", 2)]) (ok := by show blkC ["word", "figures", "sign"] (defScope s_number_read) _ _ = true; decide +kernel) (i_str (z_var 1)) (c_if (gzt := (gg_name 2)) (fun _ _ _ _ _ => (g_name 2 nd).pg) (fun _ _ _ _ _ => (z_tcmp op_notIn_sign l_notInS1 (z_var 2) (z_globE T.c_FIGURES_lines))) (fun _ _ _ _ _ => (z_var 2))) nd)) (z_fz (z_lst z_nil))))))
  (zb_one (z_raise (c := 2) T.e2))
  zb_nil)
  (zb_cons (z_if (z_pw (z_and (z_tcmp (o_eq hr) l_eq (z_ix ix_seq l_ix (z_var 1) z_int) z_str) (z_and1 (z_tcmp (o_ne hr) l_ne (z_var 0) z_str))))
  (zb_one (z_raise (c := 2) T.e2))
  zb_nil)
  (zb_one (z_ret (z_intC T.int_ (z_cons (z_var 0) z_nil))))))))) ?_
  intro ds w Q E h
  unfold sp_number_read at h
  clear nd hb hm F T fd f ec base mg K CD
  obtain ⟨i, rfl, si, h⟩ := h
  have hl := tx_length si
  have hl2 : (tx i).length ≤ 16777216 := by omega
  have c0 := tx_cut0 i
  have hn := tx_int si
  have hl3 : (tx i).length ≤ 640 := by omega
  obtain ⟨c, hc, hc0⟩ := fg_at i
  have fl : (fg i).length ≤ 16777216 := by have := fg_len si; rw [TL.len_tl, tl_fg]; omega
  have fne := fg_ne i
  have fll : (sgnD (fg i)).length ≤ 100000 := by rw [sgn_len]; have := fg_len si; rw [TL.len_tl, tl_fg]; omega
  by_cases neg : i < 0
  · have c1 := tx_cut1 neg
    have c2 := c0.mpr neg
    kby_none
    all_goals first
      | exact absurd c2 (by assumption)
      | exact absurd (c1.symm.trans (by assumption)) fne
      | (rw [c1]; exact fll)
      | skip
    all_goals refine ⟨fun i' acc w' => acc = [], rfl, ?_, ?_⟩
    all_goals rw [c1]
    · rintro i' d acc w' hd rfl
      obtain ⟨c', hc', rfl⟩ := sgn_at hd
      have hf := fig_in hc'
      kby_none
      exact absurd hf (by assumption)
    · rintro acc w' rfl
      kby_none
      all_goals first
        | exact absurd (hc0 (one_zero (by assumption))) (by omega)
        | exact h
  · have c1 := tx_nn (show 0 ≤ i by omega)
    have c2 : ¬ _ := fun hh => neg (c0.mp hh)
    have hn2 := c1 ▸ hn
    have hl4 := c1 ▸ hl3
    kby_none
    all_goals first
      | exact absurd (by assumption) c2
      | exact absurd (c1.symm.trans (by assumption)) fne
      | (rw [c1]; exact fll)
      | skip
    all_goals refine ⟨fun i' acc w' => acc = [], rfl, ?_, ?_⟩
    all_goals rw [c1]
    · rintro i' d acc w' hd rfl
      obtain ⟨c', hc', rfl⟩ := sgn_at hd
      have hf := fig_in hc'
      kby_none
      exact absurd hf (by assumption)
    · rintro acc w' rfl
      kby_none
      all_goals first
        | (exfalso
           rename_i q q2
           have i0 := hc0 (one_zero q)
           exact q2 (c1.symm.trans (by rw [i0]; decide +kernel)))
        | (kby_none; exact h)
theorem ok_read_line {P : Program} {w : World} {K : PySem.W.Frag} {mg : Str → Option Value} {base : Heap} {ec : Nat → Addr} {CD : Addr} (T : Tx K mg ec CD) {f : Addr} {fd : FuncData} (F : Fun K "read_line" "read_line" s_read_line f fd) (hm : mg "read_line" = some (.ref f)) (hb : Binds K fd ["text"] []) (d_need_line : Fd P w K mg base (W0 ec) 1 "need_line" sp_need_line) (d_number_read : Fd P w K mg base (W0 ec) 1 "number_read" sp_number_read) :
    Fd P w K mg base (W0 ec) 2 "read_line" sp_read_line := by
  have nd := sc_read_line.nd
  refine fnz F sc_read_line hm hb (by
    unfold sp_read_line; intro ds w Q Q' E E' k k'
    repeat' (first | exact id | exact k _ _ | exact k' _ _ | refine Exists.imp fun _ => ?_ | refine And.imp ?_ ?_ | refine Or.imp ?_ ?_ | refine Z.impR ?_ | refine Z.allR fun _ => ?_ | refine Z.Stp.imp ?_)) (by
    intro ds w' Q E h; unfold sp_read_line at h; obtain ⟨a, b, m, rfl, -⟩ := h; rfl) (fun cdv A outer s H E hr =>
  (zb_cons (z_set 1 (z_fz (z_tsplit (z_var 0) (z_cons z_str z_nil))) nd)
  (zb_cons (z_if (z_tcmp (o_ne hr) l_ne (z_len T.len_ (z_cons (z_var 1) z_nil)) z_int)
  (zb_one (z_raise (c := 2) T.e2))
  zb_nil)
  (zb_cons (z_set 2 (z_tupC T.tuple_ (z_cons (z_fz (z_lcL (own := [("word", 3)]) (ok := by show blkC ["text", "words", "line", "word"] (defScope s_read_line) _ _ = true; decide +kernel) (z_var 1) (c_ok (gzt := (gg_name 3)) (fun _ _ _ _ _ => (g_name 3 nd).pg) (fun _ _ _ _ _ => (z_callP d_number_read hr (z_cons (z_var 3) z_nil)))) nd)) z_nil)) nd)
  (zb_cons (z_drop (z_callP d_need_line hr (z_cons (z_var 2) z_nil)))
  (zb_one (z_ret (z_var 2)))))))) ?_
  intro ds w Q E h
  unfold sp_read_line at h
  clear nd d_need_line d_number_read hb hm F T fd f ec base mg K CD
  obtain ⟨a, b, m, rfl, ⟨sa, sb, sm⟩, h1, h2⟩ := h
  have e := shown_split a b m
  have hl := shown_len sa sb sm
  have hl0 : ((" " : Str).length == 0) = false := rfl
  kby_none
  all_goals rename_i hne
  all_goals rw [e] at *
  · exact absurd rfl hne
  · refine un_comp ?_
    kby_none
    · exact h1 (by assumption)
    · exact h2 (by assumption)
theorem ok_own_part {P : Program} {w : World} {K : PySem.W.Frag} {mg : Str → Option Value} {base : Heap} {ec : Nat → Addr} {CD : Addr} (T : Tx K mg ec CD) {f : Addr} {fd : FuncData} (F : Fun K "own_part" "own_part" s_own_part f fd) (hm : mg "own_part" = some (.ref f)) (hb : Binds K fd ["line", "n"] []) (d_laid_off : Fd P w K mg base (W0 ec) 2 "laid_off" sp_laid_off) :
    Fd P w K mg base (W0 ec) 3 "own_part" sp_own_part := by
  have nd := sc_own_part.nd
  refine fnz F sc_own_part hm hb (by
    unfold sp_own_part; intro ds w Q Q' E E' k k'
    repeat' (first | exact id | exact k _ _ | exact k' _ _ | refine Exists.imp fun _ => ?_ | refine And.imp ?_ ?_ | refine Or.imp ?_ ?_ | refine Z.impR ?_ | refine Z.allR fun _ => ?_ | refine Z.Stp.imp ?_)) (by
    intro ds w' Q E h; unfold sp_own_part at h; obtain ⟨a, b, m, n, rfl, -⟩ := h; rfl) (fun cdv A outer s H E hr =>
  (zb_cons (z_asg (z_callP d_laid_off hr (z_cons (z_var 0) z_nil)) (g_tup (gs_cons 2 nd (gs_cons 3 nd (gs_cons 4 nd gs_nil)))))
  (zb_one (z_ret (z_op o_add l_add (z_op o_mul l_mul (z_var 2) (z_op o_div l_div (z_op o_mul l_mul (z_var 1) (z_op op_sub l_sub (z_var 1) z_int)) z_int)) (z_op o_mul l_mul (z_var 3) (z_var 1))))))) ?_
  intro ds w Q E h
  unfold sp_own_part at h
  clear nd d_laid_off hb hm F T fd f ec base mg K CD
  obtain ⟨a, b, m, n, rfl, h1, h2⟩ := h
  by_cases c : m < 1
  · kby_none
    exact h1 c
  obtain ⟨⟨sa, sb, sm, sn⟩, q⟩ := h2 (by omega)
  kby_none
  exact q
theorem ok_sum_paper {P : Program} {w : World} {K : PySem.W.Frag} {mg : Str → Option Value} {base : Heap} {ec : Nat → Addr} {CD : Addr} (T : Tx K mg ec CD) {f : Addr} {fd : FuncData} (F : Fun K "sum_paper" "sum_paper" s_sum_paper f fd) (hm : mg "sum_paper" = some (.ref f)) (hb : Binds K fd ["line", "n"] []) (d_turned : Fd P w K mg base (W0 ec) 4 "turned" sp_turned) (d_own_part : Fd P w K mg base (W0 ec) 3 "own_part" sp_own_part) (d_laid_off : Fd P w K mg base (W0 ec) 2 "laid_off" sp_laid_off) :
    Fd P w K mg base (W0 ec) 5 "sum_paper" sp_sum_paper := by
  have nd := sc_sum_paper.nd
  refine fnz F sc_sum_paper hm hb (by
    unfold sp_sum_paper; intro ds w Q Q' E E' k k'
    repeat' (first | exact id | exact k _ _ | exact k' _ _ | refine Exists.imp fun _ => ?_ | refine And.imp ?_ ?_ | refine Or.imp ?_ ?_ | refine Z.impR ?_ | refine Z.allR fun _ => ?_ | refine Z.Stp.imp ?_)) (by
    intro ds w' Q E h; unfold sp_sum_paper at h; obtain ⟨a, b, m, n, rfl, -⟩ := h; rfl) (fun cdv A outer s H E hr =>
  (zb_cons (z_own 2 (z_lst z_nil) nd)
  (zb_cons (z_while (z_tcmp op_notN l_notN (z_var 0) z_non)
  (zb_cons (z_appO 2 (z_tup (z_cons (z_var 1) (z_cons (z_var 0) z_nil))))
  (zb_one (z_asg (z_callP d_turned hr (z_cons (z_ix ix_seq l_ix (z_callP d_laid_off hr (z_cons (z_var 0) z_nil)) z_int) (z_cons (z_var 1) z_nil))) (g_tup (gs_cons 1 nd (gs_cons 0 nd gs_nil)))))))
  (zb_cons (z_own 3 (z_lst z_nil) nd)
  (zb_cons (z_set 4 z_int nd)
  (zb_frz 2 (zb_cons (z_forL (z_fz (z_rev (z_var 2))) (g_tup (gs_cons 1 nd (gs_cons 0 nd gs_nil)))
  (zb_cons (z_set 4 (z_op o_add l_add (z_var 4) (z_callP d_own_part hr (z_cons (z_var 0) (z_cons (z_var 1) z_nil)))) nd)
  (zb_one (z_appO 3 (z_tup (z_cons (z_var 1) (z_cons (z_var 0) (z_cons (z_var 4) z_nil))))))))
  (zb_frz 3 (zb_one (z_ret (z_tupC T.tuple_ (z_cons (z_fz (z_rev (z_var 3))) z_nil)))))))))))) ?_
  intro ds w Q E h
  unfold sp_sum_paper at h
  clear nd d_turned d_own_part d_laid_off hb hm F T fd f ec base mg K CD
  obtain ⟨a, b, m, n, rfl, h1, h2⟩ := h
  by_cases c : m < 1
  · kby_none
    refine ⟨fun j δ w' => j = 0 ∧ δ = [.val (ln a b m), .val (.int n), .own [], .no, .no], ⟨0, rfl, rfl⟩, ?_⟩
    rintro j δ w' ⟨rfl, rfl⟩
    kby_none
    exact h1 c
  obtain ⟨L, ⟨hL, hok⟩, q⟩ := h2 (by omega)
  have hr := hok _ (List.mem_of_getElem? hL.head)
  have hl : L.length ≤ 2 * 1000 := hL.len 1000 hok (Rw.lt hr (Nat.le_refl _))
  have hL0 := hL.head
  clear h1 h2
  kby_none
  refine ⟨fun j δ w' => ∃ (pre : List Rw) (x0 x1 : D), δ = [.val x0, .val x1, .own (pre.map kD), .no, .no] ∧ Stp ((x0 = .non ∧ pre = L) ∨ ∃ (r : Rw) (rest : List Rw), x0 = ln r.2.1 r.2.2.1 r.2.2.2 ∧ x1 = .int r.1 ∧ j = r.2.2.2.toNat ∧ L = pre ++ rest ∧ PChn r rest ∧ RwOk 1000 r), ⟨m.toNat, [], _, _, rfl, Stp.mk (.inr ⟨(n, a, b, m), L, rfl, rfl, rfl, rfl, hL, hr⟩)⟩, ?_⟩
  rintro j δ w' ⟨pre, x0, x1, rfl, hI⟩
  rcases hI.out with ⟨rfl, rfl⟩ | ⟨r, rest, rfl, rfl, hj, hpre, hc, hro⟩
  · clear hI hL0 hr
    rename_i q0
    clear q0
    kby_none
    refine ⟨fun i δ w' => ∃ (x0 x1 : Sl) (t : Int), δ = [x0, x1, .val (.lst (pre.map kD)), .own (((pre.drop (pre.length - i)).map rowD).reverse), .val (.int t)] ∧ Stp (t = headS (pre.drop (pre.length - i))), ⟨_, _, 0, by rw [Nat.sub_zero, List.drop_length]; rfl, Stp.mk (by rw [Nat.sub_zero, List.drop_length]; rfl)⟩, ?_, ?_⟩
    · rintro i d δ w' hd ⟨x0, x1, t, rfl, ht⟩
      obtain ⟨q', hq, hi, rfl⟩ := rev_at hd
      obtain ⟨m1, n0, sa, sb, sm, sn⟩ := hok q' (List.mem_of_getElem? hq)
      have e1 : pre.drop (pre.length - (i + 1)) = q' :: pre.drop (pre.length - i) := by
        have := drop_at hq
        rw [show pre.length - 1 - i + 1 = pre.length - i by omega, show pre.length - 1 - i = pre.length - (i + 1) by omega] at this
        exact this
      have hs := hL.sums hok _ q' hq
      rw [show pre.length - 1 - i + 1 = pre.length - i by omega] at hs
      have ht2 : t + ownR q' = sumR q' := by
        rw [hs, ht.out]
        unfold headS
        rw [List.getElem?_drop, Nat.add_zero]; omega
      have hlen : (((pre.drop (pre.length - i)).map rowD).reverse).length ≤ 2000 := by rw [List.length_reverse, List.length_map, List.length_drop]; omega
      have s1 : Sm 2000 q'.2.1 := sa.le (by decide)
      have s2 : Sm 2000 q'.2.2.1 := sb.le (by decide)
      have s3 : Sm 2000 q'.2.2.2 := sm.le (by decide)
      have s4 : Sm 2000 q'.1 := sn.le (by decide)
      clear hs ht hok hL
      kby_none
      have rowE : rowD q' = D.tup [.int q'.1, ln q'.2.1 q'.2.2.1 q'.2.2.2, .int (t + ownR q')] := by unfold rowD; rw [← ht2]
      exact ⟨.val (ln q'.2.1 q'.2.2.1 q'.2.2.2), .val (.int q'.1), t + ownR q', by rw [e1, List.map_cons, List.reverse_cons, rowE]; rfl, Stp.mk (by rw [e1, ht2]; rfl)⟩
    · rintro δ w' ⟨x0, x1, t, rfl, ht⟩
      rw [List.length_reverse, List.length_map, Nat.sub_self, List.drop_zero]
      have q2 : Q (.tup ((pre.map rowD).reverse.reverse)) w := by rw [List.reverse_reverse]; exact q
      exact q2
  · have hn := hro.next
    obtain ⟨m1, n0, sa, sb, sm, sn⟩ := id hro
    obtain ⟨⟨a0, a1⟩, b0, b1⟩ := hro.rests
    have lp : pre.length ≤ 2000 := by have := congrArg List.length hpre; rw [List.length_append] at this; omega
    have ty : 0 ≤ r.2.1 % r.2.2.2 ∧ r.2.1 % r.2.2.2 < r.2.2.2 ∧ 0 ≤ r.2.2.1 % r.2.2.2 ∧ r.2.2.1 % r.2.2.2 < r.2.2.2 := ⟨a0, a1, b0, b1⟩
    clear hI
    kby_none
    · exact absurd ty (by assumption)
    · rename_i hz
      have e := hc.uniq (.last hz)
      exact ⟨0, by omega, pre ++ [r], _, _, by rw [List.map_append]; rfl, Stp.mk (.inl ⟨rfl, by rw [hpre, e]⟩)⟩
    · rename_i hz
      cases hc with
      | last hm => exact absurd hm hz
      | more hm h2 => exact ⟨(r.2.1 % r.2.2.2).toNat, by omega, pre ++ [r], _, _, by rw [List.map_append]; rfl, Stp.mk (.inr ⟨nextR r, _, rfl, rfl, rfl, by rw [hpre, List.append_assoc]; rfl, h2, hn hm⟩)⟩
theorem ok_sum_parts {P : Program} {w : World} {K : PySem.W.Frag} {mg : Str → Option Value} {base : Heap} {ec : Nat → Addr} {CD : Addr} (T : Tx K mg ec CD) {f : Addr} {fd : FuncData} (F : Fun K "sum_parts" "sum_parts" s_sum_parts f fd) (hm : mg "sum_parts" = some (.ref f)) (hb : Binds K fd ["line", "n"] []) (d_laid_off : Fd P w K mg base (W0 ec) 2 "laid_off" sp_laid_off) (d_turned : Fd P w K mg base (W0 ec) 4 "turned" sp_turned) :
    Fd P w K mg base (W0 ec) 5 "sum_parts" sp_sum_parts := by
  have nd := sc_sum_parts.nd
  refine fnz F sc_sum_parts hm hb (by
    unfold sp_sum_parts; intro ds w Q Q' E E' k k'
    repeat' (first | exact id | exact k _ _ | exact k' _ _ | refine Exists.imp fun _ => ?_ | refine And.imp ?_ ?_ | refine Or.imp ?_ ?_ | refine Z.impR ?_ | refine Z.allR fun _ => ?_ | refine Z.Stp.imp ?_)) (by
    intro ds w' Q E h; unfold sp_sum_parts at h; obtain ⟨a, b, m, n, rfl, -⟩ := h; rfl) (fun cdv A outer s H E hr =>
  (zb_cons (z_set 2 z_int nd)
  (zb_cons (z_set 3 (z_var 1) nd)
  (zb_cons (z_set 4 (z_var 0) nd)
  (zb_cons (z_while (z_tcmp op_notN l_notN (z_var 4) z_non)
  (zb_cons (z_asg (z_callP d_laid_off hr (z_cons (z_var 4) z_nil)) (g_tup (gs_cons 5 nd (gs_cons 6 nd (gs_cons 4 nd gs_nil)))))
  (zb_cons (z_aug 2 (z_op o_add l_add (z_op o_mul l_mul (z_var 5) (z_op o_div l_div (z_op o_mul l_mul (z_var 3) (z_op op_sub l_sub (z_var 3) z_int)) z_int)) (z_op o_mul l_mul (z_var 6) (z_var 3))) nd)
  (zb_one (z_asg (z_callP d_turned hr (z_cons (z_var 4) (z_cons (z_var 3) z_nil))) (g_tup (gs_cons 3 nd (gs_cons 4 nd gs_nil))))))))
  (zb_one (z_ret (z_var 2)))))))) ?_
  intro ds w Q E h
  unfold sp_sum_parts at h
  clear nd d_laid_off d_turned hb hm F T fd f ec base mg K CD
  obtain ⟨a, b, m, n, rfl, h1, h2⟩ := h
  by_cases c : m < 1
  · kby_none
    refine ⟨fun j δ w' => j = 0 ∧ δ = [.val (ln a b m), .val (.int n), .val (.int 0), .val (.int n), .val (ln a b m), .no, .no], ⟨0, rfl, rfl⟩, ?_⟩
    rintro j δ w' ⟨rfl, rfl⟩
    kby_none
    exact h1 c
  obtain ⟨⟨n0, sa, sb, sm, sn⟩, q⟩ := h2 (by omega)
  kby_none
  refine ⟨fun j δ w' => ∃ (total many : Int) (here : D) (x y : Sl), δ = [.val (ln a b m), .val (.int n), .val (.int total), .val (.int many), .val here, x, y] ∧ ((here = .non ∧ total = FS a b m n.toNat) ∨ ∃ a1 b1 m1, here = ln a1 b1 m1 ∧ j = m1.toNat ∧ 1 ≤ m1 ∧ m1 ≤ m ∧ Sm 2000 a1 ∧ Sm 2000 b1 ∧ 0 ≤ many ∧ Sm 2000 many ∧ total + FS a1 b1 m1 many.toNat = FS a b m n.toNat), ⟨_, 0, n, ln a b m, _, _, rfl, .inr ⟨a, b, m, rfl, rfl, by omega, by omega, sa, sb, n0, sn, by omega⟩⟩, ?_⟩
  rintro j δ w' ⟨total, many, here, x, y, rfl, ⟨rfl, rfl⟩ | ⟨a1, b1, m1, rfl, rfl, h3, h4, sa1, sb1, h5, s5, h6⟩⟩
  · kby_none
    exact q
  · have sm1 : Sm 2000 m1 := sm.of_le (by omega) h4
    have a0 := Int.emod_nonneg a1 (show m1 ≠ 0 by omega)
    have a2 := Int.emod_lt_of_pos a1 (show 0 < m1 by omega)
    have b0 := Int.emod_nonneg b1 (show m1 ≠ 0 by omega)
    have b2 := Int.emod_lt_of_pos b1 (show 0 < m1 by omega)
    have fm := fs_many a0 a2 b0 b2 h5
    have e := FS_laid (show 0 < m1 by omega) a1 b1 many.toNat
    rw [show ((many.toNat : Nat) : Int) = many by omega] at e
    kby_none
    · exfalso; omega
    · rename_i z
      have z0 := FS_none a0 a2 b0 b2 (n := many.toNat) (by rw [show ((many.toNat : Nat) : Int) = many by omega]; exact z)
      exact ⟨0, by omega, _, _, _, _, _, rfl, .inl ⟨rfl, by unfold tri at e; omega⟩⟩
    · rename_i z
      have ap : a1 % m1 ≠ 0 := fun h0 => z (by rw [h0, Int.zero_mul, Int.zero_add]; exact Int.ediv_eq_zero_of_lt b0 b2)
      have z0 := FS_turn (show 0 < a1 % m1 by omega) a2 b0 b2 many.toNat
      rw [show ((many.toNat : Nat) : Int) = many by omega] at z0
      have r0 := Int.emod_nonneg (a1 % m1 * many + b1 % m1) (show m1 ≠ 0 by omega)
      have r2 := Int.emod_lt_of_pos (a1 % m1 * many + b1 % m1) (show 0 < m1 by omega)
      exact ⟨(a1 % m1).toNat, by omega, _, _, _, _, _, rfl, .inr ⟨_, _, _, rfl, rfl, by omega, by omega, sm1, sm1.of_le r0 (by omega), fm.1, s5.of_le fm.1 fm.2, by unfold tri at e; omega⟩⟩
theorem ok_sum_rests {P : Program} {w : World} {K : PySem.W.Frag} {mg : Str → Option Value} {base : Heap} {ec : Nat → Addr} {CD : Addr} (T : Tx K mg ec CD) {f : Addr} {fd : FuncData} (F : Fun K "sum_rests" "sum_rests" s_sum_rests f fd) (hm : mg "sum_rests" = some (.ref f)) (hb : Binds K fd ["line", "n"] []) (d_need_line : Fd P w K mg base (W0 ec) 1 "need_line" sp_need_line) (d_sum_parts : Fd P w K mg base (W0 ec) 5 "sum_parts" sp_sum_parts) :
    Fd P w K mg base (W0 ec) 6 "sum_rests" sp_sum_rests := by
  have nd := sc_sum_rests.nd
  refine fnz F sc_sum_rests hm hb (by
    unfold sp_sum_rests; intro ds w Q Q' E E' k k'
    repeat' (first | exact id | exact k _ _ | exact k' _ _ | refine Exists.imp fun _ => ?_ | refine And.imp ?_ ?_ | refine Or.imp ?_ ?_ | refine Z.impR ?_ | refine Z.allR fun _ => ?_ | refine Z.Stp.imp ?_)) (by
    intro ds w' Q E h; unfold sp_sum_rests at h; obtain ⟨a, b, m, n, rfl, -⟩ := h; rfl) (fun cdv A outer s H E hr =>
  (zb_cons (z_drop (z_callP d_need_line hr (z_cons (z_var 0) z_nil)))
  (zb_cons (z_asg (z_var 0) (g_tup (gs_cons 2 nd (gs_cons 3 nd (gs_cons 4 nd gs_nil)))))
  (zb_one (z_ret (z_op op_sub l_sub (z_op o_add l_add (z_op o_mul l_mul (z_var 2) (z_op o_div l_div (z_op o_mul l_mul (z_var 1) (z_op op_sub l_sub (z_var 1) z_int)) z_int)) (z_op o_mul l_mul (z_var 3) (z_var 1))) (z_op o_mul l_mul (z_var 4) (z_callP d_sum_parts hr (z_cons (z_var 0) (z_cons (z_var 1) z_nil)))))))))) ?_
  intro ds w Q E h
  unfold sp_sum_rests at h
  clear nd d_need_line d_sum_parts hb hm F T fd f ec base mg K CD
  obtain ⟨a, b, m, n, rfl, h1, h2⟩ := h
  by_cases c : m < 1
  · kby_none
    exact h1 c
  obtain ⟨⟨n0, sa, sb, sm, sn⟩, q⟩ := h2 (by omega)
  have sF := FS_sm (show 1 ≤ m by omega) n0 sa sb sm sn
  have e := FS_RS a b m n.toNat
  rw [show ((n.toNat : Nat) : Int) = n by omega] at e
  kby_none
  have e2 : a * (n * (n - 1) / 2) + b * n - m * FS a b m n.toNat = RS a b m n.toNat := by unfold tri at e; omega
  rw [← e2] at q
  exact q
theorem ok_sum_between {P : Program} {w : World} {K : PySem.W.Frag} {mg : Str → Option Value} {base : Heap} {ec : Nat → Addr} {CD : Addr} (T : Tx K mg ec CD) {f : Addr} {fd : FuncData} (F : Fun K "sum_between" "sum_between" s_sum_between f fd) (hm : mg "sum_between" = some (.ref f)) (hb : Binds K fd ["line", "low", "high"] []) (d_need_line : Fd P w K mg base (W0 ec) 1 "need_line" sp_need_line) (d_sum_parts : Fd P w K mg base (W0 ec) 5 "sum_parts" sp_sum_parts) :
    Fd P w K mg base (W0 ec) 6 "sum_between" sp_sum_between := by
  have nd := sc_sum_between.nd
  refine fnz F sc_sum_between hm hb (by
    unfold sp_sum_between; intro ds w Q Q' E E' k k'
    repeat' (first | exact id | exact k _ _ | exact k' _ _ | refine Exists.imp fun _ => ?_ | refine And.imp ?_ ?_ | refine Or.imp ?_ ?_ | refine Z.impR ?_ | refine Z.allR fun _ => ?_ | refine Z.Stp.imp ?_)) (by
    intro ds w' Q E h; unfold sp_sum_between at h; obtain ⟨a, b, m, lo, hi, rfl, -⟩ := h; rfl) (fun cdv A outer s H E hr =>
  (zb_cons (z_drop (z_callP d_need_line hr (z_cons (z_var 0) z_nil)))
  (zb_cons (z_if (z_tcmp op_lt l_lt (z_var 2) (z_var 1))
  (zb_one (z_raise (c := 3) T.e3))
  zb_nil)
  (zb_cons (z_asg (z_var 0) (g_tup (gs_cons 3 nd (gs_cons 4 nd (gs_cons 5 nd gs_nil)))))
  (zb_one (z_ret (z_callP d_sum_parts hr (z_cons (z_tup (z_cons (z_var 3) (z_cons (z_op o_add l_add (z_op o_mul l_mul (z_var 3) (z_var 1)) (z_var 4)) (z_cons (z_var 5) z_nil)))) (z_cons (z_op op_sub l_sub (z_var 2) (z_var 1)) z_nil))))))))) ?_
  intro ds w Q E h
  unfold sp_sum_between at h
  clear nd d_need_line d_sum_parts hb hm F T fd f ec base mg K CD
  obtain ⟨a, b, m, lo, hi, rfl, h1, h2⟩ := h
  by_cases c : m < 1
  · kby_none
    exact h1 c
  by_cases c2 : hi < lo
  · kby_none
    exact (h2 (by omega)).1 c2
  obtain ⟨⟨sa, sl, sb, sm, sh⟩, q⟩ := (h2 (by omega)).2 (by omega)
  kby_none
  exact q
theorem ok_need_all {P : Program} {w : World} {K : PySem.W.Frag} {mg : Str → Option Value} {base : Heap} {ec : Nat → Addr} {CD : Addr} (T : Tx K mg ec CD) {f : Addr} {fd : FuncData} (F : Fun K "need_all" "need_all" s_need_all f fd) (hm : mg "need_all" = some (.ref f)) (hb : Binds K fd ["above", "beneath", "low", "high"] []) (d_part_at : Fd P w K mg base (W0 ec) 3 "part_at" sp_part_at) :
    Fd P w K mg base (W0 ec) 4 "need_all" sp_need_all := by
  have nd := sc_need_all.nd
  refine fnz F sc_need_all hm hb (by
    unfold sp_need_all; intro ds w Q Q' E E' k k'
    repeat' (first | exact id | exact k _ _ | exact k' _ _ | refine Exists.imp fun _ => ?_ | refine And.imp ?_ ?_ | refine Or.imp ?_ ?_ | refine Z.impR ?_ | refine Z.allR fun _ => ?_ | refine Z.Stp.imp ?_)) (by
    intro ds w' Q E h; unfold sp_need_all at h; obtain ⟨ab, be, lo, hi, rfl, -⟩ := h; rfl) (fun cdv A outer s H E hr =>
  (zb_cons (z_forT (z_op o_add l_add (z_var 0) (z_var 1)) (g_name 4 nd)
  (zb_one (z_drop (z_callP d_part_at hr (z_cons (z_var 4) (z_cons z_int z_nil))))))
  (zb_one (z_if (z_tcmp op_lt l_lt (z_var 3) (z_var 2))
  (zb_one (z_raise (c := 3) T.e3))
  zb_nil)))) ?_
  intro ds w Q E h
  unfold sp_need_all at h
  clear nd d_part_at hb hm F T fd f ec base mg K CD
  obtain ⟨ab, be, lo, hi, rfl, ⟨l1, l2, l3, l4, hs⟩, h1, h2⟩ := h
  have n1 := ne_map l1
  have n2 := ne_map l3
  kby_none
  rw [← List.map_append]
  refine ⟨fun i δ w' => ∃ x4, δ = [.val (ltp ab), .val (ltp be), .val (.int lo), .val (.int hi), x4] ∧ Stp (∀ p ∈ (ab ++ be).take i, 1 ≤ p.2.2), ⟨_, rfl, Stp.mk fun p hp => absurd hp (by simp)⟩, ?_, ?_⟩
  · rintro i d δ w' hd ⟨x4, rfl, hh⟩
    obtain ⟨p, hp, pm, rfl⟩ := lnP_at hd
    have hh := hh.out
    have s1 := (hs p pm).1
    have s2 := (hs p pm).2
    kby_none
    · exact h1 ⟨p, pm, by assumption⟩
    · refine Stp.mk fun q hq => ?_
      rw [List.take_add_one, hp] at hq
      rcases List.mem_append.mp hq with hq | hq
      · exact hh q hq
      · have : q = p := by simpa using hq
        subst this
        assumption
  · rintro δ w' ⟨x4, rfl, hh⟩
    have hh := hh.out
    rw [List.length_map, List.take_length] at hh
    obtain ⟨g1, g2⟩ := h2 hh
    kby_none
    · exact g1 (by assumption)
    · exact g2 (by omega)
theorem ok_turned_down {P : Program} {w : World} {K : PySem.W.Frag} {mg : Str → Option Value} {base : Heap} {ec : Nat → Addr} {CD : Addr} (T : Tx K mg ec CD) {f : Addr} {fd : FuncData} (F : Fun K "turned_down" "turned_down" s_turned_down f fd) (hm : mg "turned_down" = some (.ref f)) (hb : Binds K fd ["lines"] []) :
    Fd P w K mg base (W0 ec) 1 "turned_down" sp_turned_down := by
  have nd := sc_turned_down.nd
  refine fnz F sc_turned_down hm hb (by
    unfold sp_turned_down; intro ds w Q Q' E E' k k'
    repeat' (first | exact id | exact k _ _ | exact k' _ _ | refine Exists.imp fun _ => ?_ | refine And.imp ?_ ?_ | refine Or.imp ?_ ?_ | refine Z.impR ?_ | refine Z.allR fun _ => ?_ | refine Z.Stp.imp ?_)) (by
    intro ds w' Q E h; unfold sp_turned_down at h; obtain ⟨ls, rfl, -⟩ := h; rfl) (fun cdv A outer s H E hr =>
  (zb_one (z_ret (z_fz (z_lcT (own := [("a", 1), ("b", 2), ("m", 3)]) (hw := wiped_tup (by decide)) (ok := by show blkC ["lines", "a", "b", "m"] (defScope s_turned_down) _ _ = true; decide +kernel) (z_var 0) (c_ok (gzt := (gg_tup [1, 2, 3])) (fun _ _ _ _ _ => (g_tup (gs_cons 1 nd (gs_cons 2 nd (gs_cons 3 nd gs_nil)))).pg) (fun _ _ _ _ _ => (z_tup (z_cons (z_op op_sub l_sub z_int (z_var 1)) (z_cons (z_op op_sub l_sub z_int (z_var 2)) (z_cons (z_var 3) z_nil)))))) nd))))) ?_
  intro ds w Q E h
  unfold sp_turned_down at h
  clear nd hb hm F T fd f ec base mg K CD
  obtain ⟨ls, rfl, l8, h⟩ := h
  kby_none
  refine ⟨fun i acc w' => acc = (ls.take i).map (fun p => lnP (dnP p)), rfl, ?_, ?_⟩
  · rintro i d acc w' hd rfl
    obtain ⟨p, hp, pm, rfl⟩ := lnP_at hd
    kby_none
    rw [take_snoc _ hp]; rfl
  · rintro acc w' rfl
    rw [List.length_map, List.take_length]
    have e : llp (ls.map dnP) = .lst (ls.map fun p => lnP (dnP p)) := by unfold llp; rw [List.map_map]; rfl
    rw [e] at h
    exact h
theorem ok_lowest_at {P : Program} {w : World} {K : PySem.W.Frag} {mg : Str → Option Value} {base : Heap} {ec : Nat → Addr} {CD : Addr} (T : Tx K mg ec CD) {f : Addr} {fd : FuncData} (F : Fun K "lowest_at" "lowest_at" s_lowest_at f fd) (hm : mg "lowest_at" = some (.ref f)) (hb : Binds K fd ["lines", "place"] []) :
    Fd P w K mg base (W0 ec) 1 "lowest_at" sp_lowest_at := by
  have nd := sc_lowest_at.nd
  refine fnz F sc_lowest_at hm hb (by
    unfold sp_lowest_at; intro ds w Q Q' E E' k k'
    repeat' (first | exact id | exact k _ _ | exact k' _ _ | refine Exists.imp fun _ => ?_ | refine And.imp ?_ ?_ | refine Or.imp ?_ ?_ | refine Z.impR ?_ | refine Z.allR fun _ => ?_ | refine Z.Stp.imp ?_)) (by
    intro ds w' Q E h; unfold sp_lowest_at at h; obtain ⟨ls, x, rfl, -⟩ := h; rfl) (fun cdv A outer s H E hr =>
  (zb_cons (z_set 2 (z_ix ix_seq l_ix (z_var 0) z_int) nd)
  (zb_cons (z_forT (z_slT (z_var 0) (z_oS z_int) z_oN) (g_name 3 nd)
  (zb_one (z_if (z_tcmp op_lt l_lt (z_op o_mul l_mul (z_op o_add l_add (z_op o_mul l_mul (z_ix ix_seq l_ix (z_var 3) z_int) (z_var 1)) (z_ix ix_seq l_ix (z_var 3) z_int)) (z_ix ix_seq l_ix (z_var 2) z_int)) (z_op o_mul l_mul (z_op o_add l_add (z_op o_mul l_mul (z_ix ix_seq l_ix (z_var 2) z_int) (z_var 1)) (z_ix ix_seq l_ix (z_var 2) z_int)) (z_ix ix_seq l_ix (z_var 3) z_int)))
  (zb_one (z_set 2 (z_var 3) nd))
  zb_nil)))
  (zb_one (z_ret (z_var 2)))))) ?_
  intro ds w Q E h
  unfold sp_lowest_at at h
  clear nd hb hm F T fd f ec base mg K CD
  obtain ⟨ls, x, rfl, ⟨hl, sx⟩, h⟩ := h
  have k1 := hl.l1
  have k2 := hl.l8
  rcases ls with _ | ⟨p0, r⟩
  · exact absurd k1 (by decide)
  have hall := hl.ea
  have a0 : atI ((p0 :: r).map lnP) 0 = some (lnP p0) := at_hd
  have hc1 := cut1 lnP p0 r
  have hc2 := cut1_ne lnP p0 r
  have tr : ∀ {p q r : L3}, LnOk p → LnOk q → LnOk r → Lo x p q → Lo x q r → Lo x p r := fun a b c => Lo.trans (by have := a.1; omega) (by have := b.1; omega) (by have := c.1; omega)
  kby_none
  try change zLoop (Z.cutD _ _ _) _ _ _ _ _
  rw [hc1]
  refine ⟨fun i δ w' => ∃ (p : L3) (x3 : Sl), δ = [.val (ltp (p0 :: r)), .val (.int x), .val (lnP p), x3] ∧ Stp (p ∈ p0 :: r ∧ ∀ q ∈ (p0 :: r).take (i + 1), Lo x p q), ⟨p0, _, rfl, Stp.mk ⟨List.mem_cons_self, fun q hq => by rw [List.mem_singleton.mp hq]; exact Lo.refl _ _⟩⟩, ?_, ?_⟩
  · rintro i d δ w' hd ⟨p, x3, rfl, hp⟩
    obtain ⟨pm, pl⟩ := hp.out
    obtain ⟨q, hq, qm, rfl⟩ := lnP_at hd
    obtain ⟨c0, c1, c2, c3⟩ := hall p pm
    obtain ⟨d0, d1, d2, d3⟩ := hall q (List.mem_cons_of_mem _ qm)
    have hq2 : (p0 :: r)[i + 1]? = some q := hq
    clear hall
    kby_none
    · rename_i hlt
      refine Stp.mk ⟨List.mem_cons_of_mem _ qm, fun z hz => ?_⟩
      rcases mem_take_snoc hq2 hz with k | rfl
      · exact tr (hl.ea q (List.mem_cons_of_mem _ qm)) (hl.ea p pm) (hl.ea z (List.mem_of_mem_take k)) (Int.le_of_lt hlt) (pl z k)
      · exact Lo.refl _ _
    · rename_i hlt
      refine Stp.mk ⟨pm, fun z hz => ?_⟩
      rcases mem_take_snoc hq2 hz with k | rfl
      · exact pl z k
      · exact Int.not_lt.mp hlt
  · rintro δ w' ⟨p, x3, rfl, hp⟩
    obtain ⟨pm, pl⟩ := hp.out
    rw [List.length_map, show r.length + 1 = (p0 :: r).length from rfl, List.take_length] at pl
    obtain ⟨c0, c1, c2, c3⟩ := hall p pm
    kby_none
    exact h p pm c0 c1 c2 c3 (Stp.mk pl)
theorem ok_lowest_at_L {P : Program} {w : World} {K : PySem.W.Frag} {mg : Str → Option Value} {base : Heap} {ec : Nat → Addr} {CD : Addr} (T : Tx K mg ec CD) {f : Addr} {fd : FuncData} (F : Fun K "lowest_at" "lowest_at" s_lowest_at f fd) (hm : mg "lowest_at" = some (.ref f)) (hb : Binds K fd ["lines", "place"] []) :
    Fd P w K mg base (W0 ec) 1 "lowest_at" sp_lowest_at_L := by
  have nd := sc_lowest_at.nd
  refine fnz F sc_lowest_at hm hb (by
    unfold sp_lowest_at_L; intro ds w Q Q' E E' k k'
    repeat' (first | exact id | exact k _ _ | exact k' _ _ | refine Exists.imp fun _ => ?_ | refine And.imp ?_ ?_ | refine Or.imp ?_ ?_ | refine Z.impR ?_ | refine Z.allR fun _ => ?_ | refine Z.Stp.imp ?_)) (by
    intro ds w' Q E h; unfold sp_lowest_at_L at h; obtain ⟨ls, x, rfl, -⟩ := h; rfl) (fun cdv A outer s H E hr =>
  (zb_cons (z_set 2 (z_ix ix_seq l_ix (z_var 0) z_int) nd)
  (zb_cons (z_forL (z_fz (z_slL (z_var 0) (z_oS z_int) z_oN)) (g_name 3 nd)
  (zb_one (z_if (z_tcmp op_lt l_lt (z_op o_mul l_mul (z_op o_add l_add (z_op o_mul l_mul (z_ix ix_seq l_ix (z_var 3) z_int) (z_var 1)) (z_ix ix_seq l_ix (z_var 3) z_int)) (z_ix ix_seq l_ix (z_var 2) z_int)) (z_op o_mul l_mul (z_op o_add l_add (z_op o_mul l_mul (z_ix ix_seq l_ix (z_var 2) z_int) (z_var 1)) (z_ix ix_seq l_ix (z_var 2) z_int)) (z_ix ix_seq l_ix (z_var 3) z_int)))
  (zb_one (z_set 2 (z_var 3) nd))
  zb_nil)))
  (zb_one (z_ret (z_var 2)))))) ?_
  intro ds w Q E h
  unfold sp_lowest_at_L at h
  clear nd hb hm F T fd f ec base mg K CD
  obtain ⟨ls, x, rfl, ⟨hl, sx⟩, h⟩ := h
  have k1 := hl.l1
  have k2 := hl.l8
  rcases ls with _ | ⟨p0, r⟩
  · exact absurd k1 (by decide)
  have hall := hl.ea
  have a0 : atI ((p0 :: r).map lnP) 0 = some (lnP p0) := at_hd
  have hc1 := cut1 lnP p0 r
  have hc2 := cut1_ne lnP p0 r
  have tr : ∀ {p q r : L3}, LnOk p → LnOk q → LnOk r → Lo x p q → Lo x q r → Lo x p r := fun a b c => Lo.trans (by have := a.1; omega) (by have := b.1; omega) (by have := c.1; omega)
  kby_none
  try change zLoop (Z.cutD _ _ _) _ _ _ _ _
  rw [hc1]
  refine ⟨fun i δ w' => ∃ (p : L3) (x3 : Sl), δ = [.val (llp (p0 :: r)), .val (.int x), .val (lnP p), x3] ∧ Stp (p ∈ p0 :: r ∧ ∀ q ∈ (p0 :: r).take (i + 1), Lo x p q), ⟨p0, _, rfl, Stp.mk ⟨List.mem_cons_self, fun q hq => by rw [List.mem_singleton.mp hq]; exact Lo.refl _ _⟩⟩, ?_, ?_⟩
  · rintro i d δ w' hd ⟨p, x3, rfl, hp⟩
    obtain ⟨pm, pl⟩ := hp.out
    obtain ⟨q, hq, qm, rfl⟩ := lnP_at hd
    obtain ⟨c0, c1, c2, c3⟩ := hall p pm
    obtain ⟨d0, d1, d2, d3⟩ := hall q (List.mem_cons_of_mem _ qm)
    have hq2 : (p0 :: r)[i + 1]? = some q := hq
    clear hall
    kby_none
    · rename_i hlt
      refine Stp.mk ⟨List.mem_cons_of_mem _ qm, fun z hz => ?_⟩
      rcases mem_take_snoc hq2 hz with k | rfl
      · exact tr (hl.ea q (List.mem_cons_of_mem _ qm)) (hl.ea p pm) (hl.ea z (List.mem_of_mem_take k)) (Int.le_of_lt hlt) (pl z k)
      · exact Lo.refl _ _
    · rename_i hlt
      refine Stp.mk ⟨pm, fun z hz => ?_⟩
      rcases mem_take_snoc hq2 hz with k | rfl
      · exact pl z k
      · exact Int.not_lt.mp hlt
  · rintro δ w' ⟨p, x3, rfl, hp⟩
    obtain ⟨pm, pl⟩ := hp.out
    rw [List.length_map, show r.length + 1 = (p0 :: r).length from rfl, List.take_length] at pl
    obtain ⟨c0, c1, c2, c3⟩ := hall p pm
    kby_none
    exact h p pm c0 c1 c2 c3 (Stp.mk pl)
theorem ok_cuts_of {P : Program} {w : World} {K : PySem.W.Frag} {mg : Str → Option Value} {base : Heap} {ec : Nat → Addr} {CD : Addr} (T : Tx K mg ec CD) {f : Addr} {fd : FuncData} (F : Fun K "cuts_of" "cuts_of" s_cuts_of f fd) (hm : mg "cuts_of" = some (.ref f)) (hb : Binds K fd ["lines", "low", "high"] []) :
    Fd P w K mg base (W0 ec) 1 "cuts_of" sp_cuts_of := by
  have nd := sc_cuts_of.nd
  refine fnz F sc_cuts_of hm hb (by
    unfold sp_cuts_of; intro ds w Q Q' E E' k k'
    repeat' (first | exact id | exact k _ _ | exact k' _ _ | refine Exists.imp fun _ => ?_ | refine And.imp ?_ ?_ | refine Or.imp ?_ ?_ | refine Z.impR ?_ | refine Z.allR fun _ => ?_ | refine Z.Stp.imp ?_)) (by
    intro ds w' Q E h; unfold sp_cuts_of at h; obtain ⟨ls, lo, hi, rfl, -⟩ := h; rfl) (fun cdv A outer s H E hr =>
  (zb_cons (z_own 3 (z_lst (z_cons (z_var 1) (z_cons (z_var 2) z_nil))) nd)
  (zb_cons (z_forT (z_var 0) (g_name 4 nd)
  (zb_one (z_forT (z_var 0) (g_name 5 nd)
  (zb_cons (z_set 6 (z_op op_sub l_sub (z_op o_mul l_mul (z_ix ix_seq l_ix (z_var 4) z_int) (z_ix ix_seq l_ix (z_var 5) z_int)) (z_op o_mul l_mul (z_ix ix_seq l_ix (z_var 5) z_int) (z_ix ix_seq l_ix (z_var 4) z_int))) nd)
  (zb_one (z_if (z_tcmp op_gt l_gt (z_var 6) z_int)
  (zb_cons (z_set 7 (z_op o_div l_div (z_op op_sub l_sub (z_op o_mul l_mul (z_ix ix_seq l_ix (z_var 5) z_int) (z_ix ix_seq l_ix (z_var 4) z_int)) (z_op o_mul l_mul (z_ix ix_seq l_ix (z_var 4) z_int) (z_ix ix_seq l_ix (z_var 5) z_int))) (z_var 6)) nd)
  (zb_one (z_extO 3 (z_lcT (own := [("cut", 8)]) (ok := by show blkC ["lines", "low", "high", "cuts", "one", "other", "steeper", "place", "cut"] (defScope s_cuts_of) _ _ = true; decide +kernel) (z_tup (z_cons (z_var 7) (z_cons (z_op o_add l_add (z_var 7) z_int) z_nil))) (c_if (gzt := (gg_name 8)) (fun _ _ _ _ _ => (g_name 8 nd).pg) (fun _ _ _ _ _ => (z_tch op_lt op_lt l_lt l_lt (z_var 1) (z_var 8) (z_var 2))) (fun _ _ _ _ _ => (z_var 8))) nd))))
  zb_nil))))))
  (zb_frz 3 (zb_one (z_ret (z_fz (z_sset T.sorted_ T.set_ (z_cons (z_var 3) z_nil))))))))) ?_
  intro ds w Q E h
  unfold sp_cuts_of at h
  clear nd hb hm F T fd f ec base mg K CD
  obtain ⟨ls, lo, hi, rfl, ⟨hl, lh⟩, h⟩ := h
  have hT := cT_8 hl.l8
  have hall := hl.ea
  kby_none
  refine ⟨fun i δ w' => ∃ (cs : List Int) (x4 x5 x6 x7 x8 : Sl), δ = [.val (ltp ls), .val (.int lo), .val (.int hi), .own (cs.map D.int), x4, x5, x6, x7, x8] ∧ Stp (CI lo hi (fun p q => p ∈ ls.take i ∧ q ∈ ls) cs ∧ cs.length ≤ 2 + 2 * cT (ls.take i) ls), ⟨[lo, hi], _, _, _, _, _, rfl, Stp.mk ⟨⟨by simp, by simp, fun c hc => ?_, fun p q hq => absurd hq.1 (by simp)⟩, by simp⟩⟩, ?_, ?_⟩
  · simp only [List.mem_cons, List.not_mem_nil, or_false] at hc
    omega
  · rintro i d δ w' hd ⟨cs, x4, x5, x6, x7, x8, rfl, hc⟩
    obtain ⟨ci, cl⟩ := hc.out
    obtain ⟨p, hp, pm, rfl⟩ := lnP_at hd
    obtain ⟨c0, c1, c2, c3⟩ := hall p pm
    have tk := cT_take (ls := ls) hp
    kby_none
    refine ⟨fun j δ w' => ∃ (cs : List Int) (x5 x6 x7 x8 : Sl), δ = [.val (ltp ls), .val (.int lo), .val (.int hi), .own (cs.map D.int), .val (lnP p), x5, x6, x7, x8] ∧ Stp (CI lo hi (fun u q => (u ∈ ls.take i ∧ q ∈ ls) ∨ (u = p ∧ q ∈ ls.take j)) cs ∧ cs.length ≤ 2 + 2 * cT (ls.take i) ls + 2 * cS p (ls.take j)), ⟨cs, _, _, _, _, rfl, Stp.mk ⟨ci.same fun u q hq _ => hq.elim id fun k => absurd k.2 (by simp), by simp; omega⟩⟩, ?_, ?_⟩
    · rintro j d δ w' hd2 ⟨cs, x5, x6, x7, x8, rfl, hc⟩
      obtain ⟨ci, cl⟩ := hc.out
      obtain ⟨q, hq, qm, rfl⟩ := lnP_at hd2
      obtain ⟨d0, d1, d2, d3⟩ := hall q qm
      have ck := cS_take (p := p) hq
      have cb := cS_take_le p ls (j + 1)
      have ct := cT_take_le ls ls (i + 1)
      clear hall
      kby_none
      · rename_i hst
        have hst2 : 0 < Z.st p q := hst
        rw [if_pos hst2] at ck
        obtain ⟨P, hP⟩ : ∃ P, P = pl p q := ⟨_, rfl⟩
        have hP2 : (q.2.1 * p.2.2 - p.2.1 * q.2.2) / (p.1 * q.2.2 - q.1 * p.2.2) = P := hP.symm
        rw [hP2]
        refine ⟨fun k acc w' => ∃ es : List Int, acc = es.map D.int ∧ es.length ≤ k ∧ Stp ((∀ c ∈ es, lo < c ∧ c < hi) ∧ ∀ c, ((1 ≤ k ∧ c = P) ∨ (2 ≤ k ∧ c = P + 1)) → lo < c → c < hi → c ∈ es), ⟨[], rfl, Nat.le_refl _, Stp.mk ⟨fun c hc => absurd hc (by simp), fun c hc => by omega⟩⟩, ?_, ?_⟩
        · rintro k d acc w' hd ⟨es, rfl, hl, he⟩
          obtain ⟨e1, e2⟩ := he.out
          obtain ⟨c, rfl, hk⟩ : ∃ c, d = .int c ∧ ((k = 0 ∧ c = P) ∨ (k = 1 ∧ c = P + 1)) := by
            rcases k with _ | _ | k
            · exact ⟨P, (Option.some.inj hd).symm, .inl ⟨rfl, rfl⟩⟩
            · exact ⟨P + 1, (Option.some.inj hd).symm, .inr ⟨rfl, rfl⟩⟩
            · exact absurd hd (by simp)
          clear hd
          kby_none
          all_goals first
            | (rename_i h1 h2
               refine ⟨es ++ [c], by rw [List.map_append]; rfl, by rw [List.length_append, List.length_singleton]; omega, Stp.mk ⟨fun z hz => ?_, fun z hz z0 z1 => ?_⟩⟩
               · rcases List.mem_append.mp hz with y | y
                 · exact e1 z y
                 · rw [List.mem_singleton.mp y]; omega
               · by_cases zc : z = c
                 · rw [zc]; simp
                 · exact List.mem_append.mpr (.inl (e2 z (by omega) z0 z1)))
            | (refine Stp.mk ⟨e1, fun z hz z0 z1 => ?_⟩
               by_cases zc : z = c
               · subst zc; omega
               · exact e2 z (by omega) z0 z1)
        · rintro acc w' ⟨es, rfl, hl, he⟩
          obtain ⟨e1, e2⟩ := he.out
          have hl' : es.length ≤ 2 := hl
          kby_none
          refine ⟨cs ++ es, _, _, _, _, by rw [List.map_append], Stp.mk ⟨ci.more (fun c hc => by have := e1 c hc; omega) fun u z hz => ?_, by rw [List.length_append]; omega⟩⟩
          rcases hz with hz | ⟨rfl, hz⟩
          · exact .inl (.inl hz)
          · rcases mem_take_snoc hq hz with y | e
            · exact .inl (.inr ⟨rfl, y⟩)
            · subst e
              exact .inr fun _ c hc c0 c1 => e2 c (hc.elim (fun e => .inl ⟨Nat.le_of_ble_eq_true rfl, e.trans hP.symm⟩) (fun e => .inr ⟨Nat.le_of_ble_eq_true rfl, by rw [hP]; exact e⟩)) c0 c1
      · rename_i hst
        have hst2 : ¬ 0 < Z.st p q := hst
        rw [if_neg hst2] at ck
        refine Stp.mk ⟨ci.same fun u z hz sp => ?_, by omega⟩
        rcases hz with hz | ⟨rfl, hz⟩
        · exact .inl hz
        · rcases mem_take_snoc hq hz with y | rfl
          · exact .inr ⟨rfl, y⟩
          · exact absurd sp hst2
    · rintro δ w' ⟨cs, x5, x6, x7, x8, rfl, hc⟩
      obtain ⟨ci, cl⟩ := hc.out
      rw [List.length_map, List.take_length] at *
      kby_none
      refine Stp.mk ⟨ci.same fun u z hz _ => ?_, by omega⟩
      rcases mem_take_snoc hp hz.1 with y | rfl
      · exact .inl ⟨y, hz.2⟩
      · exact .inr ⟨rfl, hz.2⟩
  · rintro δ w' ⟨cs, x4, x5, x6, x7, x8, rfl, hc⟩
    obtain ⟨ci, cl⟩ := hc.out
    rw [List.length_map, List.take_length] at *
    kby_none
    rename_i ns' up mem ln
    exact h ns' (Stp.mk ⟨up, (mem _).mpr ci.cl, (mem _).mpr ci.ch, fun c hc => ci.wi c ((mem c).mp hc), fun p hp q hq s c hc c0 c1 => (mem c).mpr (ci.cr p q ⟨hp, hq⟩ s c hc c0 c1)⟩) ln
theorem ok_points_between {P : Program} {w : World} {K : PySem.W.Frag} {mg : Str → Option Value} {base : Heap} {ec : Nat → Addr} {CD : Addr} (T : Tx K mg ec CD) {f : Addr} {fd : FuncData} (F : Fun K "points_between" "points_between" s_points_between f fd) (hm : mg "points_between" = some (.ref f)) (hb : Binds K fd ["above", "beneath", "low", "high"] []) (d_need_all : Fd P w K mg base (W0 ec) 4 "need_all" sp_need_all) (d_turned_down : Fd P w K mg base (W0 ec) 1 "turned_down" sp_turned_down) (d_cuts_of : Fd P w K mg base (W0 ec) 1 "cuts_of" sp_cuts_of) (d_lowest_at : Fd P w K mg base (W0 ec) 1 "lowest_at" sp_lowest_at) (d_lowest_at_L : Fd P w K mg base (W0 ec) 1 "lowest_at" sp_lowest_at_L) (d_sum_between : Fd P w K mg base (W0 ec) 6 "sum_between" sp_sum_between) :
    Fd P w K mg base (W0 ec) 7 "points_between" sp_points_between := by
  have nd := sc_points_between.nd
  refine fnz F sc_points_between hm hb (by
    unfold sp_points_between; intro ds w Q Q' E E' k k'
    repeat' (first | exact id | exact k _ _ | exact k' _ _ | refine Exists.imp fun _ => ?_ | refine And.imp ?_ ?_ | refine Or.imp ?_ ?_ | refine Z.impR ?_ | refine Z.allR fun _ => ?_ | refine Z.Stp.imp ?_)) (by
    intro ds w' Q E h; unfold sp_points_between at h; obtain ⟨ab, be, lo, hi, rfl, -⟩ := h; rfl) (fun cdv A outer s H E hr =>
  (zb_cons (z_drop (z_callP d_need_all hr (z_cons (z_var 0) (z_cons (z_var 1) (z_cons (z_var 2) (z_cons (z_var 3) z_nil))))))
  (zb_cons (z_set 4 (z_callP d_turned_down hr (z_cons (z_var 1) z_nil)) nd)
  (zb_cons (z_set 5 z_int nd)
  (zb_cons (z_set 6 (z_callP d_cuts_of hr (z_cons (z_op o_add l_add (z_var 0) (z_var 1)) (z_cons (z_var 2) (z_cons (z_var 3) z_nil)))) nd)
  (zb_cons (z_forI (i_zip T.zip_ (z_cons (z_var 6) (z_cons (z_fz (z_slL (z_var 6) (z_oS z_int) z_oN)) z_nil))) (g_tup (gs_cons 7 nd (gs_cons 8 nd gs_nil)))
  (zb_cons (z_set 9 (z_callP d_lowest_at hr (z_cons (z_var 0) (z_cons (z_var 7) z_nil))) nd)
  (zb_cons (z_set 10 (z_callP d_lowest_at_L hr (z_cons (z_var 4) (z_cons (z_var 7) z_nil))) nd)
  (zb_one (z_if (z_tcmp op_ge l_ge (z_op o_add l_add (z_op o_mul l_mul (z_op o_add l_add (z_op o_mul l_mul (z_ix ix_seq l_ix (z_var 9) z_int) (z_var 7)) (z_ix ix_seq l_ix (z_var 9) z_int)) (z_ix ix_seq l_ix (z_var 10) z_int)) (z_op o_mul l_mul (z_op o_add l_add (z_op o_mul l_mul (z_ix ix_seq l_ix (z_var 10) z_int) (z_var 7)) (z_ix ix_seq l_ix (z_var 10) z_int)) (z_ix ix_seq l_ix (z_var 9) z_int))) z_int)
  (zb_one (z_aug 5 (z_op op_sub l_sub (z_op o_add l_add (z_op o_add l_add (z_callP d_sum_between hr (z_cons (z_var 9) (z_cons (z_var 7) (z_cons (z_var 8) z_nil)))) (z_callP d_sum_between hr (z_cons (z_var 10) (z_cons (z_var 7) (z_cons (z_var 8) z_nil))))) (z_var 8)) (z_var 7)) nd))
  zb_nil)))))
  (zb_one (z_ret (z_var 5))))))))) ?_
  intro ds w Q E h
  unfold sp_points_between at h
  clear nd d_need_all d_turned_down d_cuts_of d_lowest_at d_lowest_at_L d_sum_between hb hm F T fd f ec base mg K CD
  obtain ⟨ab, be, lo, hi, rfl, hc, h1, h2⟩ := h
  have n1 := ne_map hc.1
  have n2 := ne_map hc.2.2.1
  kby_none
  · exact h1 (by assumption)
  · exact (h2 (by assumption)).1 (by assumption)
  rename_i hm lh
  obtain ⟨⟨ha, hb, l8, sl, sh⟩, hq⟩ := (h2 hm).2 lh
  have hm' : ∀ p ∈ ab ++ be, 0 < p.2.2 := fun p hp => by have := hm p hp; omega
  clear h1 h2
  have hbd := hb.dn
  have a1 := ha.l1
  rw [← List.map_append]
  refine ⟨ab ++ be, lo, hi, rfl, ⟨⟨by rw [List.length_append]; omega, by rw [List.length_append]; omega, fun p hp => (List.mem_append.mp hp).elim (ha.ea p) (hb.ea p)⟩, lh⟩, fun cs hcs hlen => ?_⟩
  have hcs := hcs.out
  obtain ⟨c0, cr, rfl⟩ : ∃ c0 cr, cs = c0 :: cr := by
    rcases cs with _ | ⟨c0, cr⟩
    · exact absurd hcs.cl (by simp)
    · exact ⟨_, _, rfl⟩
  kby_none
  try change zLoop _ _ _ _ _ _
  rw [cut1]
  refine ⟨fun i δ w' => ∃ (t : Int) (x7 x8 x9 x10 : Sl), δ = [.val (ltp ab), .val (ltp be), .val (.int lo), .val (.int hi), .val (llp (be.map dnP)), .val (.int t), .val (.lst ((c0 :: cr).map D.int)), x7, x8, x9, x10] ∧ Stp (∃ s, (c0 :: cr)[i]? = some s ∧ t = pts ab be lo (s - lo).toNat), ⟨0, _, _, _, _, rfl, Stp.mk ⟨lo, hcs.head, by rw [Int.sub_self]; rfl⟩⟩, ?_, ?_⟩
  · rintro i d δ w' hd ⟨t, x7, x8, x9, x10, rfl, hI⟩
    obtain ⟨s, hs, rfl⟩ := hI.out
    obtain ⟨s2, e, hs2, he, rfl⟩ := zipT_get (cs := c0 :: cr) hd
    obtain rfl : s2 = s := Option.some.inj (hs2.symm.trans hs)
    obtain ⟨se, ls, eh, nb⟩ := hcs.nb hs he
    have ss : Sm 300 s2 := Sm.btw sl sh ls (by omega)
    have sE : Sm 300 e := Sm.btw sl sh (by omega) eh
    have ss' : Sm 310 s2 := ss.le (by decide)
    have go := pts_go ab be ls (show s2 ≤ e by omega)
    kby_none
    · rename_i p pm p1 sp1 sp2 sp3 pL q qm q1 sq1 sq2 sq3 qL hge _ _ _ _
      obtain ⟨b, bm, rfl⟩ := List.mem_map.mp qm
      have hgo := pts_stretch hm' nb pm bm pL.out (low_dn qL.out) (show s2 ≤ e by omega)
      rw [if_pos (up_dn hge)] at hgo
      refine Stp.mk ⟨e, he, ?_⟩
      omega
    · rename_i p pm p1 sp1 sp2 sp3 pL q qm q1 sq1 sq2 sq3 qL hge
      obtain ⟨b, bm, rfl⟩ := List.mem_map.mp qm
      have hgo := pts_stretch hm' nb pm bm pL.out (low_dn qL.out) (show s2 ≤ e by omega)
      rw [if_neg (fun l => hge (up_dn' l))] at hgo
      refine Stp.mk ⟨e, he, ?_⟩
      omega
  · rintro δ w' ⟨t, x7, x8, x9, x10, rfl, hI⟩
    obtain ⟨s, hs, rfl⟩ := hI.out
    rw [show (zipT (List.map D.int (c0 :: cr)) (List.map D.int cr)).length = (c0 :: cr).length - 1 from zipT_l (c0 :: cr)] at hs
    obtain rfl : hi = s := Option.some.inj (hcs.last.symm.trans hs)
    exact hq
theorem ok_beneath_plain {P : Program} {w : World} {K : PySem.W.Frag} {mg : Str → Option Value} {base : Heap} {ec : Nat → Addr} {CD : Addr} (T : Tx K mg ec CD) {f : Addr} {fd : FuncData} (F : Fun K "beneath_plain" "beneath_plain" s_beneath_plain f fd) (hm : mg "beneath_plain" = some (.ref f)) (hb : Binds K fd ["line", "n", "bound"] []) (d_sum_parts : Fd P w K mg base (W0 ec) 5 "sum_parts" sp_sum_parts) :
    Fd P w K mg base (W0 ec) 6 "beneath_plain" sp_beneath_plain := by
  have nd := sc_beneath_plain.nd
  refine fnz F sc_beneath_plain hm hb (by
    unfold sp_beneath_plain; intro ds w Q Q' E E' k k'
    repeat' (first | exact id | exact k _ _ | exact k' _ _ | refine Exists.imp fun _ => ?_ | refine And.imp ?_ ?_ | refine Or.imp ?_ ?_ | refine Z.impR ?_ | refine Z.allR fun _ => ?_ | refine Z.Stp.imp ?_)) (by
    intro ds w' Q E h; unfold sp_beneath_plain at h; obtain ⟨a, b, m, n, t, rfl, -⟩ := h; rfl) (fun cdv A outer s H E hr =>
  (zb_cons (z_asg (z_var 0) (g_tup (gs_cons 3 nd (gs_cons 4 nd (gs_cons 5 nd gs_nil)))))
  (zb_one (z_ret (z_op op_sub l_sub (z_callP d_sum_parts hr (z_cons (z_var 0) (z_cons (z_var 1) z_nil))) (z_callP d_sum_parts hr (z_cons (z_tup (z_cons (z_var 3) (z_cons (z_op op_sub l_sub (z_var 4) (z_var 2)) (z_cons (z_var 5) z_nil)))) (z_cons (z_var 1) z_nil)))))))) ?_
  intro ds w Q E h
  unfold sp_beneath_plain at h
  clear nd d_sum_parts hb hm F T fd f ec base mg K CD
  obtain ⟨a, b, m, n, t, rfl, ⟨m1, n0, t0, t1, sa, sb, sm, sn⟩, h⟩ := h
  have st : Sm 1900 t := sm.of_le t0 t1
  have e := CB_FS (a := a) (b := b) (show 0 < m by omega) t0 t1 n.toNat
  rw [← e] at h
  kby_none
  exact h
theorem ok_rests_beneath {P : Program} {w : World} {K : PySem.W.Frag} {mg : Str → Option Value} {base : Heap} {ec : Nat → Addr} {CD : Addr} (T : Tx K mg ec CD) {f : Addr} {fd : FuncData} (F : Fun K "rests_beneath" "rests_beneath" s_rests_beneath f fd) (hm : mg "rests_beneath" = some (.ref f)) (hb : Binds K fd ["line", "n", "bound"] []) (d_beneath_plain : Fd P w K mg base (W0 ec) 6 "beneath_plain" sp_beneath_plain) (d_laid_off : Fd P w K mg base (W0 ec) 2 "laid_off" sp_laid_off) :
    Fd P w K mg base (W0 ec) 7 "rests_beneath" sp_rests_beneath := by
  have nd := sc_rests_beneath.nd
  refine fnz F sc_rests_beneath hm hb (by
    unfold sp_rests_beneath; intro ds w Q Q' E E' k k'
    repeat' (first | exact id | exact k _ _ | exact k' _ _ | refine Exists.imp fun _ => ?_ | refine And.imp ?_ ?_ | refine Or.imp ?_ ?_ | refine Z.impR ?_ | refine Z.allR fun _ => ?_ | refine Z.Stp.imp ?_)) (by
    intro ds w' Q E h; unfold sp_rests_beneath at h; obtain ⟨a, b, m, n, t, rfl, -⟩ := h; rfl) (fun cdv A outer s H E hr =>
  (zb_cons (z_set 0 (z_ix ix_seq l_ix (z_callP d_laid_off hr (z_cons (z_var 0) z_nil)) z_int) nd)
  (zb_one (z_ret (z_callP d_beneath_plain hr (z_cons (z_var 0) (z_cons (z_var 1) (z_cons (z_max T.max_ (z_cons z_int (z_cons (z_min T.min_ (z_cons (z_ix ix_seq l_ix (z_var 0) z_int) (z_cons (z_var 2) z_nil))) z_nil))) z_nil)))))))) ?_
  intro ds w Q E h
  unfold sp_rests_beneath at h
  clear nd d_beneath_plain d_laid_off hb hm F T fd f ec base mg K CD
  obtain ⟨a, b, m, n, t, rfl, h1, h2⟩ := h
  by_cases c : m < 1
  · kby_none
    exact h1 c
  obtain ⟨⟨n0, sm, sn⟩, q⟩ := h2 (by omega)
  have e := CB_laid a b m t n.toNat
  have e2 := CB_clip (a := a % m) (b := b % m) (t := t) (show 0 < m by omega) n.toNat
  rw [← e, ← e2] at q
  kby_none
  exact q
theorem ok_first_multiple {P : Program} {w : World} {K : PySem.W.Frag} {mg : Str → Option Value} {base : Heap} {ec : Nat → Addr} {CD : Addr} (T : Tx K mg ec CD) {f : Addr} {fd : FuncData} (F : Fun K "first_multiple" "first_multiple" s_first_multiple f fd) (hm : mg "first_multiple" = some (.ref f)) (hb : Binds K fd ["a", "m", "low", "high"] []) :
    Fd P w K mg base (W0 ec) 1 "first_multiple" sp_first_multiple := by
  have nd := sc_first_multiple.nd
  refine fnz F sc_first_multiple hm hb (by
    unfold sp_first_multiple; intro ds w Q Q' E E' k k'
    repeat' (first | exact id | exact k _ _ | exact k' _ _ | refine Exists.imp fun _ => ?_ | refine And.imp ?_ ?_ | refine Or.imp ?_ ?_ | refine Z.impR ?_ | refine Z.allR fun _ => ?_ | refine Z.Stp.imp ?_)) (by
    intro ds w' Q E h; unfold sp_first_multiple at h; obtain ⟨a, m, lo, hi, rfl, -⟩ := h; rfl) (fun cdv A outer s H E hr =>
  (zb_cons (z_own 4 (z_lst z_nil) nd)
  (zb_cons (z_while (z_tcmp op_gt l_gt (z_var 0) z_int)
  (zb_cons (z_set 5 (z_op o_div l_div (z_op op_sub l_sub (z_op o_add l_add (z_var 2) (z_var 0)) z_int) (z_var 0)) nd)
  (zb_cons (z_if (z_tcmp op_le l_le (z_op o_mul l_mul (z_var 5) (z_var 0)) (z_var 3))
  (zb_frz 4 (zb_cons (z_forL (z_fz (z_rev (z_var 4))) (g_tup (gs_cons 6 nd (gs_cons 7 nd (gs_cons 8 nd gs_nil))))
  (zb_one (z_set 5 (z_op o_div l_div (z_op op_sub l_sub (z_op o_add l_add (z_op o_add l_add (z_var 8) (z_op o_mul l_mul (z_var 7) (z_var 5))) (z_var 6)) z_int) (z_var 6)) nd)))
  (zb_one (z_ret (z_var 5)))))
  zb_nil)
  (zb_cons (z_appO 4 (z_tup (z_cons (z_var 0) (z_cons (z_var 1) (z_cons (z_var 2) z_nil)))))
  (zb_one (z_asg (z_tup (z_cons (z_op op_mod l_mod (z_var 1) (z_var 0)) (z_cons (z_var 0) (z_cons (z_op op_mod l_mod (z_op op_sub l_sub z_int (z_var 3)) (z_var 0)) (z_cons (z_op op_mod l_mod (z_op op_sub l_sub z_int (z_var 2)) (z_var 0)) z_nil))))) (g_tup (gs_cons 0 nd (gs_cons 1 nd (gs_cons 2 nd (gs_cons 3 nd gs_nil)))))))))))
  (zb_one (z_ret z_non))))) ?_
  intro ds w Q E h
  unfold sp_first_multiple at h
  clear nd hb hm F T fd f ec base mg K CD
  obtain ⟨a, m, lo, hi, rfl, ⟨k, sm⟩, h⟩ := h
  have am := k.am
  have a0 := k.a0
  kby_none
  refine ⟨fun j δ w' => ∃ (x5 x6 x7 x8 : Sl) (a1 m1 lo1 hi1 : Int) (l : List D), δ = [.val (.int a1), .val (.int m1), .val (.int lo1), .val (.int hi1), .own l, x5, x6, x7, x8] ∧ j = a1.toNat ∧ OkM a1 m1 lo1 hi1 ∧ Lvl a m lo hi a1 m1 lo1 hi1 l ∧ 2 ^ l.length * (m1 * a1) ≤ 2 * (m * m), ⟨_, _, _, _, _, _, _, _, _, _, rfl, rfl, k, .nil, ?_⟩, ?_⟩
  · show (1 : Int) * (m * a) ≤ 2 * (m * m)
    have := Int.mul_le_mul_of_nonneg_left (show a ≤ m by omega) (show 0 ≤ m by omega)
    have := Int.mul_nonneg (show 0 ≤ m by omega) (show 0 ≤ m by omega)
    omega
  rintro j δ w' ⟨x5, x6, x7, x8, a1, m1, lo1, hi1, l, rfl, rfl, k1, v, hl⟩
  have m_le := v.le
  obtain ⟨a10, a1m, l1, lh, hm⟩ := id k1
  have sm1 : Sm 2000 m1 := sm.of_le (by omega) m_le
  have sa1 : Sm 2000 a1 := sm1.of_le a10 (by omega)
  have sl1 : Sm 2000 lo1 := sm1.of_le (by omega) (by omega)
  have sh1 : Sm 2000 hi1 := sm1.of_le (by omega) (by omega)
  by_cases c : 0 < a1
  · have dv : DivOk a1 := ⟨c, sa1.le (by decide)⟩
    have sp : Sm 2003 ((lo1 + a1 - 1) / a1) := Sm.le (Sm.div (by kt_chr) c) (by decide)
    by_cases c2 : (lo1 + a1 - 1) / a1 * a1 ≤ hi1
    · have f := fm_direct k1 c c2
      kby_none
      refine ⟨fun i δ w' => ∃ (x6 x7 x8 : Sl) (a2 m2 lo2 hi2 p : Int), δ = [.val (.int a1), .val (.int m1), .val (.int lo1), .val (.int hi1), .val (.lst l), .val (.int p), x6, x7, x8] ∧ Lvl a m lo hi a2 m2 lo2 hi2 (l.take (l.length - i)) ∧ FstM a2 m2 lo2 hi2 p ∧ 0 < m2, ⟨_, _, _, _, _, _, _, _, rfl, by rw [Nat.sub_zero, List.take_length]; exact v, f, by omega⟩, ?_, ?_⟩
      · rintro i d δ w' h0 ⟨x6, x7, x8, a2, m2, lo2, hi2, p, rfl, v2, f2, m2p⟩
        have p0 := f2.x0
        have p1 := f2.lt m2p
        rw [rev_take h0] at v2
        obtain ⟨a3, m3, lo3, hi3, rfl, v3, ha3, k3, c3, rfl, rfl, rfl, rfl⟩ := v2.last
        have f3 := (fm_down k3 ha3 c3).up p f2
        obtain ⟨_, am3, l3, lh3, hm3⟩ := k3
        have m3le := v3.le
        have sm3 : Sm 2000 m3 := sm.of_le (by omega) m3le
        have sa3 : Sm 2000 m2 := sm3.of_le (by omega) (by omega)
        have sp3 : Sm 2000 p := sm3.of_le (by omega) (by omega)
        kby_none
        exact ⟨_, _, _, _, _, _, _, _, rfl, v3, f3, by omega⟩
      · rintro δ w' ⟨x6, x7, x8, a2, m2, lo2, hi2, p, rfl, v2, f2, m2p⟩
        rw [List.length_reverse, Nat.sub_self, List.take_zero] at v2
        obtain ⟨rfl, rfl, rfl, rfl⟩ := v2.empty
        kby_none
        exact h _ (.inl ⟨_, rfl, f2⟩)
    · have dn := fm_down k1 c (by omega)
      have v' := Lvl.snoc v c k1 (by omega)
      have hl' := lev_step hl c a1m
      have hlen := lev_len hl (Int.mul_pos (by omega) c) sm
      have r1 := Int.emod_lt_of_pos m1 c
      kby_none
      exact ⟨(m1 % a1).toNat, by omega, _, _, _, _, _, _, _, _, _, rfl, rfl, dn.ok, v', by rw [List.length_append]; exact hl'⟩
  · have : a1 = 0 := by omega
    subst this
    kby_none
    exact h _ (.inr ⟨rfl, v.non (fm_none k1)⟩)
theorem ok_first_plain {P : Program} {w : World} {K : PySem.W.Frag} {mg : Str → Option Value} {base : Heap} {ec : Nat → Addr} {CD : Addr} (T : Tx K mg ec CD) {f : Addr} {fd : FuncData} (F : Fun K "first_plain" "first_plain" s_first_plain f fd) (hm : mg "first_plain" = some (.ref f)) (hb : Binds K fd ["line", "low", "high"] []) (d_first_multiple : Fd P w K mg base (W0 ec) 1 "first_multiple" sp_first_multiple) :
    Fd P w K mg base (W0 ec) 2 "first_plain" sp_first_plain := by
  have nd := sc_first_plain.nd
  refine fnz F sc_first_plain hm hb (by
    unfold sp_first_plain; intro ds w Q Q' E E' k k'
    repeat' (first | exact id | exact k _ _ | exact k' _ _ | refine Exists.imp fun _ => ?_ | refine And.imp ?_ ?_ | refine Or.imp ?_ ?_ | refine Z.impR ?_ | refine Z.allR fun _ => ?_ | refine Z.Stp.imp ?_)) (by
    intro ds w' Q E h; unfold sp_first_plain at h; obtain ⟨a, b, m, lo, hi, rfl, -⟩ := h; rfl) (fun cdv A outer s H E hr =>
  (zb_cons (z_asg (z_var 0) (g_tup (gs_cons 3 nd (gs_cons 4 nd (gs_cons 5 nd gs_nil)))))
  (zb_cons (z_set 6 (z_op op_mod l_mod (z_op op_sub l_sub (z_var 1) (z_var 4)) (z_var 5)) nd)
  (zb_cons (z_set 7 (z_op op_mod l_mod (z_op op_sub l_sub (z_var 2) (z_var 4)) (z_var 5)) nd)
  (zb_cons (z_if (z_pw (z_or (z_tcmp (o_eq hr) l_eq (z_var 6) z_int) (z_or1 (z_tcmp op_gt l_gt (z_var 6) (z_var 7)))))
  (zb_one (z_ret z_int))
  zb_nil)
  (zb_one (z_ret (z_callP d_first_multiple hr (z_cons (z_var 3) (z_cons (z_var 5) (z_cons (z_var 6) (z_cons (z_var 7) z_nil)))))))))))) ?_
  intro ds w Q E h
  unfold sp_first_plain at h
  clear nd d_first_multiple hb hm F T fd f ec base mg K CD
  obtain ⟨a, b, m, lo, hi, rfl, ⟨a0, am, b0, bm, l0, lh, hm, sm⟩, h⟩ := h
  by_cases c1 : (lo - b) % m = 0
  · have f := plain_zero (a := a) b0 bm l0 lh hm (.inl c1)
    kby_none
    all_goals first | exact h _ (.inl ⟨_, rfl, f⟩) | contradiction
  by_cases c2 : (hi - b) % m < (lo - b) % m
  · have f := plain_zero (a := a) b0 bm l0 lh hm (.inr c2)
    kby_none
    all_goals first | exact h _ (.inl ⟨_, rfl, f⟩) | contradiction
  have ok := plain_ok (b := b) a0 am c1 c2
  have h2 : ∀ d, ResM a m ((lo - b) % m) ((hi - b) % m) d → Q d w := fun d r => h d (plain_res b0 bm l0 lh hm c1 c2 r)
  kby_none
  all_goals first | contradiction | (exact h2 _ (by assumption))
theorem ok_first_within {P : Program} {w : World} {K : PySem.W.Frag} {mg : Str → Option Value} {base : Heap} {ec : Nat → Addr} {CD : Addr} (T : Tx K mg ec CD) {f : Addr} {fd : FuncData} (F : Fun K "first_within" "first_within" s_first_within f fd) (hm : mg "first_within" = some (.ref f)) (hb : Binds K fd ["line", "low", "high"] []) (d_first_plain : Fd P w K mg base (W0 ec) 2 "first_plain" sp_first_plain) (d_laid_off : Fd P w K mg base (W0 ec) 2 "laid_off" sp_laid_off) :
    Fd P w K mg base (W0 ec) 3 "first_within" sp_first_within := by
  have nd := sc_first_within.nd
  refine fnz F sc_first_within hm hb (by
    unfold sp_first_within; intro ds w Q Q' E E' k k'
    repeat' (first | exact id | exact k _ _ | exact k' _ _ | refine Exists.imp fun _ => ?_ | refine And.imp ?_ ?_ | refine Or.imp ?_ ?_ | refine Z.impR ?_ | refine Z.allR fun _ => ?_ | refine Z.Stp.imp ?_)) (by
    intro ds w' Q E h; unfold sp_first_within at h; obtain ⟨a, b, m, lo, hi, rfl, -⟩ := h; rfl) (fun cdv A outer s H E hr =>
  (zb_cons (z_set 0 (z_ix ix_seq l_ix (z_callP d_laid_off hr (z_cons (z_var 0) z_nil)) z_int) nd)
  (zb_cons (z_if (z_pw (z_or (z_tcmp op_lt l_lt (z_var 1) z_int) (z_or (z_tcmp op_ge l_ge (z_var 2) (z_ix ix_seq l_ix (z_var 0) z_int)) (z_or1 (z_tcmp op_lt l_lt (z_var 2) (z_var 1))))))
  (zb_one (z_raise (c := 3) T.e3))
  zb_nil)
  (zb_one (z_ret (z_callP d_first_plain hr (z_cons (z_var 0) (z_cons (z_var 1) (z_cons (z_var 2) z_nil))))))))) ?_
  intro ds w Q E h
  unfold sp_first_within at h
  clear nd d_first_plain d_laid_off hb hm F T fd f ec base mg K CD
  obtain ⟨a, b, m, lo, hi, rfl, h1, h2⟩ := h
  by_cases c : m < 1
  · kby_none
    exact h1 c
  obtain ⟨sm, h3, h4⟩ := h2 (by omega)
  by_cases c2 : 0 ≤ lo ∧ lo ≤ hi ∧ hi < m
  · have h5 := (h4 c2).out
    obtain ⟨l0, lh, hm⟩ := c2
    have h6 : ∀ d, Res (a % m) (b % m) m lo hi d → Q d w := fun d r => h5 d (res_laid r)
    kby_none
    all_goals first | (exfalso; omega) | (exact h6 _ (by assumption))
  · have h5 := h3 c2
    kby_none
    all_goals first | exact h5 | (exfalso; omega)
theorem ok_common_measure {P : Program} {w : World} {K : PySem.W.Frag} {mg : Str → Option Value} {base : Heap} {ec : Nat → Addr} {CD : Addr} (T : Tx K mg ec CD) {f : Addr} {fd : FuncData} (F : Fun K "common_measure" "common_measure" s_common_measure f fd) (hm : mg "common_measure" = some (.ref f)) (hb : Binds K fd ["one", "other"] []) :
    Fd P w K mg base (W0 ec) 1 "common_measure" sp_common_measure := by
  have nd := sc_common_measure.nd
  refine fnz F sc_common_measure hm hb (by
    unfold sp_common_measure; intro ds w Q Q' E E' k k'
    repeat' (first | exact id | exact k _ _ | exact k' _ _ | refine Exists.imp fun _ => ?_ | refine And.imp ?_ ?_ | refine Or.imp ?_ ?_ | refine Z.impR ?_ | refine Z.allR fun _ => ?_ | refine Z.Stp.imp ?_)) (by
    intro ds w' Q E h; unfold sp_common_measure at h; obtain ⟨a, m, rfl, -⟩ := h; rfl) (fun cdv A outer s H E hr =>
  (zb_cons (z_while (z_tcmp op_gt l_gt (z_var 1) z_int)
  (zb_one (z_par 0 1 nd (z_cons (z_var 1) (z_cons (z_op op_mod l_mod (z_var 0) (z_var 1)) z_nil)))))
  (zb_one (z_ret (z_var 0))))) ?_
  intro ds w Q E h
  unfold sp_common_measure at h
  clear nd hb hm F T fd f ec base mg K CD
  obtain ⟨a, m, rfl, ⟨a0, m0⟩, h⟩ := h
  refine ⟨fun j δ w' => ∃ p q : Nat, δ = [.val (.int p), .val (.int q)] ∧ j = q ∧ Nat.gcd p q = Int.gcd a m, ⟨m.toNat, a.toNat, m.toNat, by rw [show ((m.toNat : Nat) : Int) = m by omega, show ((a.toNat : Nat) : Int) = a by omega]; rfl, rfl, by rw [show m.toNat = m.natAbs by omega, show a.toNat = a.natAbs by omega]; rfl⟩, ?_⟩
  rintro j δ w' ⟨p, q, rfl, rfl, hg⟩
  kby_none
  · exact ⟨p % j, Nat.mod_lt _ (by omega), j, p % j, by rw [Int.natCast_emod], rfl, by rw [← hg, Nat.gcd_comm, ← Nat.gcd_rec, Nat.gcd_comm]⟩
  · have : j = 0 := by omega
    subst this
    rw [Nat.gcd_zero_right] at hg
    kby_none
    rw [hg]
    exact h
theorem ok_in_order {P : Program} {w : World} {K : PySem.W.Frag} {mg : Str → Option Value} {base : Heap} {ec : Nat → Addr} {CD : Addr} (T : Tx K mg ec CD) {f : Addr} {fd : FuncData} (F : Fun K "in_order" "in_order" s_in_order f fd) (hm : mg "in_order" = some (.ref f)) (hb : Binds K fd ["line", "n", "number"] []) (d_laid_off : Fd P w K mg base (W0 ec) 2 "laid_off" sp_laid_off) (d_beneath_plain : Fd P w K mg base (W0 ec) 6 "beneath_plain" sp_beneath_plain) (d_first_plain : Fd P w K mg base (W0 ec) 2 "first_plain" sp_first_plain) (d_common_measure : Fd P w K mg base (W0 ec) 1 "common_measure" sp_common_measure) :
    Fd P w K mg base (W0 ec) 7 "in_order" sp_in_order := by
  have nd := sc_in_order.nd
  refine fnz F sc_in_order hm hb (by
    unfold sp_in_order; intro ds w Q Q' E E' k k'
    repeat' (first | exact id | exact k _ _ | exact k' _ _ | refine Exists.imp fun _ => ?_ | refine And.imp ?_ ?_ | refine Or.imp ?_ ?_ | refine Z.impR ?_ | refine Z.allR fun _ => ?_ | refine Z.Stp.imp ?_)) (by
    intro ds w' Q E h; unfold sp_in_order at h; obtain ⟨a, b, m, n, k, rfl, -⟩ := h; rfl) (fun cdv A outer s H E hr =>
  (zb_cons (z_set 0 (z_ix ix_seq l_ix (z_callP d_laid_off hr (z_cons (z_var 0) z_nil)) z_int) nd)
  (zb_cons (z_if (z_not (z_tch op_le op_lt l_le l_lt z_int (z_var 2) (z_var 1)))
  (zb_one (z_raise (c := 4) T.e4))
  zb_nil)
  (zb_cons (z_asg (z_var 0) (g_tup (gs_cons 3 nd (gs_cons 4 nd (gs_cons 5 nd gs_nil)))))
  (zb_cons (z_set 6 z_int nd)
  (zb_cons (z_set 7 (z_op op_sub l_sub (z_var 5) z_int) nd)
  (zb_cons (z_while (z_tcmp op_lt l_lt (z_var 6) (z_var 7))
  (zb_cons (z_set 8 (z_op o_div l_div (z_op o_add l_add (z_var 6) (z_var 7)) z_int) nd)
  (zb_one (z_if (z_tcmp op_gt l_gt (z_callP d_beneath_plain hr (z_cons (z_var 0) (z_cons (z_var 1) (z_cons (z_op o_add l_add (z_var 8) z_int) z_nil)))) (z_var 2))
  (zb_one (z_set 7 (z_var 8) nd))
  (zb_one (z_set 6 (z_op o_add l_add (z_var 8) z_int) nd))))))
  (zb_cons (z_set 9 (z_op op_sub l_sub (z_var 2) (z_callP d_beneath_plain hr (z_cons (z_var 0) (z_cons (z_var 1) (z_cons (z_var 6) z_nil))))) nd)
  (zb_one (z_ret (z_tup (z_cons (z_var 6) (z_cons (z_op o_add l_add (z_callP d_first_plain hr (z_cons (z_var 0) (z_cons (z_var 6) (z_cons (z_var 6) z_nil)))) (z_op o_mul l_mul (z_var 9) (z_op o_div l_div (z_var 5) (z_callP d_common_measure hr (z_cons (z_var 5) (z_cons (z_var 3) z_nil)))))) z_nil))))))))))))) ?_
  intro ds w Q E h
  unfold sp_in_order at h
  clear nd d_laid_off d_beneath_plain d_first_plain d_common_measure hb hm F T fd f ec base mg K CD
  obtain ⟨a, b, m, n, k, rfl, h1, h2⟩ := h
  by_cases c : m < 1
  · kby_none
    exact h1 c
  obtain ⟨sm, sn, h3, h4⟩ := h2 (by omega)
  by_cases c2 : 0 ≤ k ∧ k < n
  case neg =>
    have h5 := h3 c2
    kby_none
    all_goals first | exact h5 | (exfalso; omega)
  have h5 := (h4 c2).out
  obtain ⟨k0, kn⟩ := c2
  replace h5 : ∀ r p, Ord (a % m) (b % m) m n k r p → Q (.tup [.int r, .int p]) w := fun r p g => h5 r p (ord_laid g)
  have hm : 0 < m := by omega
  have a0 := Int.emod_nonneg a (show m ≠ 0 by omega)
  have a1 := Int.emod_lt_of_pos a hm
  have b0 := Int.emod_nonneg b (show m ≠ 0 by omega)
  have b1 := Int.emod_lt_of_pos b hm
  have sa : Sm 1800 (a % m) := sm.mod hm
  have sb : Sm 1800 (b % m) := sm.mod hm
  clear h1 h2 h3 h4
  obtain ⟨a', ha'⟩ : ∃ x, x = a % m := ⟨_, rfl⟩
  obtain ⟨b', hb'⟩ : ∃ x, x = b % m := ⟨_, rfl⟩
  rw [← ha'] at a0 a1 sa
  rw [← hb'] at b0 b1 sb
  rw [← ha', ← hb'] at h5
  have gc : Int.gcd m a' = Int.gcd a' m := Int.gcd_comm _ _
  obtain ⟨g0, -, sg⟩ := gcd_sm (a := a') hm sm
  have s1 : Sm 1800 (m / ((Int.gcd a' m : Nat) : Int)) := sm.of_le (by have := span_pos (a := a') hm; omega) (span_le hm)
  rw [← gc] at g0 sg s1
  have base := CB_none (a := a') (b := b') hm (Int.le_refl 0) n.toNat
  have top := CB_all (a := a') (b := b') (t := m - 1 + 1) hm (by omega) n.toNat
  rw [show ((n.toNat : Nat) : Int) = n by omega] at top
  kby_none
  all_goals try (exfalso; omega)
  refine ⟨fun j δ w' => ∃ (lo hi : Int) (x8 x9 : Sl), δ = [.val (ln a' b' m), .val (.int n), .val (.int k), .val (.int a'), .val (.int b'), .val (.int m), .val (.int lo), .val (.int hi), x8, x9] ∧ j = (hi - lo).toNat ∧ 0 ≤ lo ∧ lo ≤ hi ∧ hi ≤ m - 1 ∧ CB a' b' m lo n.toNat ≤ k ∧ k < CB a' b' m (hi + 1) n.toNat, ⟨_, 0, m - 1, _, _, by rw [ha', hb']; rfl, rfl, by omega, by omega, by omega, by omega, by omega⟩, ?_⟩
  rintro j δ w' ⟨lo, hi, x8, x9, rfl, rfl, l0, lh, hm1, q1, q2⟩
  by_cases c3 : lo < hi
  · have m0 : lo ≤ (lo + hi) / 2 ∧ (lo + hi) / 2 < hi := by omega
    kby_none
    · exact ⟨((lo + hi) / 2 - lo).toNat, by omega, _, _, _, _, rfl, rfl, by omega, by omega, by omega, by omega, by omega⟩
    · exact ⟨(hi - ((lo + hi) / 2 + 1)).toNat, by omega, _, _, _, _, rfl, rfl, by omega, by omega, by omega, by omega, by omega⟩
  · have : lo = hi := by omega
    subst this
    have sl : Sm 1800 (k - CB a' b' m lo n.toNat) := sn.of_le (by omega) (by have := (CB_le a' b' m lo n.toNat).1; omega)
    kby_none
    rename_i d hd
    rcases hd with ⟨f, rfl, ff⟩ | ⟨rfl, ff⟩
    · have g := Ord.of hm (by omega) q1 q2 ff
      rw [← gc] at g
      kby_none
      exact h5 _ _ g
    · exact absurd ff (ord_some (n := n.toNat) (by omega))
theorem ok_levels_of {P : Program} {w : World} {K : PySem.W.Frag} {mg : Str → Option Value} {base : Heap} {ec : Nat → Addr} {CD : Addr} (T : Tx K mg ec CD) {f : Addr} {fd : FuncData} (F : Fun K "levels_of" "levels_of" s_levels_of f fd) (hm : mg "levels_of" = some (.ref f)) (hb : Binds K fd ["line", "n"] []) (d_laid_off : Fd P w K mg base (W0 ec) 2 "laid_off" sp_laid_off) (d_turned : Fd P w K mg base (W0 ec) 4 "turned" sp_turned) :
    Fd P w K mg base (W0 ec) 5 "levels_of" sp_levels_of := by
  have nd := sc_levels_of.nd
  refine fnz F sc_levels_of hm hb (by
    unfold sp_levels_of; intro ds w Q Q' E E' k k' ⟨a, b, m, n, h1, h2, h3⟩
    exact ⟨a, b, m, n, h1, fun z => k' _ _ (h2 z), fun z => ⟨(h3 z).1, fun L c l => k _ _ ((h3 z).2 L c l)⟩⟩) (by
    intro ds w' Q E h; unfold sp_levels_of at h; obtain ⟨a, b, m, n, rfl, -⟩ := h; rfl) (fun cdv A outer s H E hr =>
  (zb_cons (z_own 2 (z_lst z_nil) nd)
  (zb_cons (z_while (z_tcmp op_notN l_notN (z_var 0) z_non)
  (zb_cons (z_asg (z_callP d_laid_off hr (z_cons (z_var 0) z_nil)) (g_tup (gs_cons 3 nd (gs_cons 4 nd (gs_cons 5 nd gs_nil)))))
  (zb_cons (z_asg (z_callP d_turned hr (z_cons (z_var 5) (z_cons (z_var 1) z_nil))) (g_tup (gs_cons 6 nd (gs_cons 0 nd gs_nil))))
  (zb_cons (z_appO 2 (z_tup (z_cons (z_var 1) (z_cons (z_var 3) (z_cons (z_var 4) (z_cons (z_var 6) z_nil))))))
  (zb_one (z_set 1 (z_var 6) nd))))))
  (zb_frz 2 (zb_one (z_ret (z_var 2))))))) ?_
  intro ds w Q E h
  unfold sp_levels_of at h
  clear nd d_laid_off d_turned hb hm F T fd f ec base mg K CD
  obtain ⟨a, b, m, n, rfl, h1, h2⟩ := h
  by_cases c : m < 1
  · kby_none
    refine ⟨fun j δ w' => j = 0 ∧ δ = [.val (ln a b m), .val (.int n), .own [], .no, .no, .no, .no], ⟨0, rfl, rfl⟩, ?_⟩
    rintro j δ w' ⟨rfl, rfl⟩
    kby_none
    exact h1 c
  obtain ⟨g, q⟩ := h2 (by omega)
  kby_none
  refine ⟨fun j δ w' => ∃ (here : D) (n1 : Int) (l : List D) (x3 x4 x5 x6 : Sl), δ = [.val here, .val (.int n1), .own l, x3, x4, x5, x6] ∧ ((here = .non ∧ Chain a b m n l ∧ l.length ≤ 5000) ∨ ∃ a1 b1 m1, here = ln a1 b1 m1 ∧ j = m1.toNat ∧ GoodL a1 b1 m1 n1 ∧ (∀ L, Chain a1 b1 m1 n1 L → Chain a b m n (l ++ L)) ∧ ((l.length = 0 ∧ m1 = m) ∨ (m1 < a1 ∧ 2 ^ l.length * (a1 * m1) ≤ 2 * (m * m)))), ⟨_, _, _, _, _, _, _, _, rfl, .inr ⟨a, b, m, rfl, rfl, g, fun L h => h, .inl ⟨rfl, rfl⟩⟩⟩, ?_⟩
  rintro j δ w' ⟨here, n1, l, x3, x4, x5, x6, rfl, ⟨rfl, hc, hl⟩ | ⟨a1, b1, m1, rfl, rfl, g1, hc, hl⟩⟩
  · kby_none
    exact q l hc (by omega)
  · obtain ⟨m11, n10, sa1, sb1, sm1, sn1⟩ := id g1
    have a0 := Int.emod_nonneg a1 (show m1 ≠ 0 by omega)
    have a2 := Int.emod_lt_of_pos a1 (show 0 < m1 by omega)
    have b0 := Int.emod_nonneg b1 (show m1 ≠ 0 by omega)
    have b2 := Int.emod_lt_of_pos b1 (show 0 < m1 by omega)
    have hlen : l.length ≤ 4001 := by
      rcases hl with ⟨hl, -⟩ | ⟨hl, h⟩
      · omega
      · exact lev_len h (Int.mul_pos (by omega) (by omega)) g.sm
    kby_none
    · exfalso; omega
    · rename_i z
      exact ⟨0, by omega, _, _, _, _, _, _, _, rfl, .inl ⟨rfl, hc _ (.last z), by rw [List.length_append]; simp; omega⟩⟩
    · rename_i z
      have ap := (g1.next z).1
      refine ⟨(a1 % m1).toNat, by omega, _, _, _, _, _, _, _, rfl, .inr ⟨_, _, _, rfl, rfl, (g1.next z).2, fun L h => by rw [List.append_assoc]; exact hc _ (.more z h), .inr ⟨by omega, ?_⟩⟩⟩
      rw [List.length_append, List.length_singleton]
      rcases hl with ⟨hl, hm⟩ | ⟨hl, h⟩
      · rw [hl, hm]
        show 2 * (m * (a1 % m)) ≤ 2 * (m * m)
        have := Int.mul_le_mul_of_nonneg_left (show a1 % m ≤ m by rw [← hm]; omega) (show 0 ≤ m by omega)
        omega
      · exact lev_step h (by omega) hl
theorem ok_sums_of_places {P : Program} {w : World} {K : PySem.W.Frag} {mg : Str → Option Value} {base : Heap} {ec : Nat → Addr} {CD : Addr} (T : Tx K mg ec CD) {f : Addr} {fd : FuncData} (F : Fun K "sums_of_places" "sums_of_places" s_sums_of_places f fd) (hm : mg "sums_of_places" = some (.ref f)) (hb : Binds K fd ["n"] []) :
    Fd P w K mg base (W0 ec) 1 "sums_of_places" sp_sums_of_places := by
  have nd := sc_sums_of_places.nd
  refine fnz F sc_sums_of_places hm hb (by
    unfold sp_sums_of_places; intro ds w Q Q' E E' k k'
    repeat' (first | exact id | exact k _ _ | exact k' _ _ | refine Exists.imp fun _ => ?_ | refine And.imp ?_ ?_ | refine Or.imp ?_ ?_ | refine Z.impR ?_ | refine Z.allR fun _ => ?_ | refine Z.Stp.imp ?_)) (by
    intro ds w' Q E h; unfold sp_sums_of_places at h; obtain ⟨n, rfl, -⟩ := h; rfl) (fun cdv A outer s H E hr =>
  (zb_one (z_ret (z_tup (z_cons (z_op o_div l_div (z_op o_mul l_mul (z_var 0) (z_op op_sub l_sub (z_var 0) z_int)) z_int) (z_cons (z_op o_div l_div (z_op o_mul l_mul (z_op o_mul l_mul (z_var 0) (z_op op_sub l_sub (z_var 0) z_int)) (z_op op_sub l_sub (z_op o_mul l_mul z_int (z_var 0)) z_int)) z_int) z_nil)))))) ?_
  intro ds w Q E h
  unfold sp_sums_of_places at h
  clear nd hb hm F T fd f ec base mg K CD
  obtain ⟨n, rfl, sn, h⟩ := h
  kby_none
  exact h
theorem ok_level_sums {P : Program} {w : World} {K : PySem.W.Frag} {mg : Str → Option Value} {base : Heap} {ec : Nat → Addr} {CD : Addr} (T : Tx K mg ec CD) {f : Addr} {fd : FuncData} (F : Fun K "level_sums" "level_sums" s_level_sums f fd) (hm : mg "level_sums" = some (.ref f)) (hb : Binds K fd ["level", "sums"] []) (d_sums_of_places : Fd P w K mg base (W0 ec) 1 "sums_of_places" sp_sums_of_places) :
    Fd P w K mg base (W0 ec) 2 "level_sums" sp_level_sums := by
  have nd := sc_level_sums.nd
  refine fnz F sc_level_sums hm hb (by
    unfold sp_level_sums; intro ds w Q Q' E E' k k'
    repeat' (first | exact id | exact k _ _ | exact k' _ _ | refine Exists.imp fun _ => ?_ | refine And.imp ?_ ?_ | refine Or.imp ?_ ?_ | refine Z.impR ?_ | refine Z.allR fun _ => ?_ | refine Z.Stp.imp ?_)) (by
    intro ds w' Q E h; unfold sp_level_sums at h; obtain ⟨n, q, r, k, s1, s2, s3, rfl, -⟩ := h; rfl) (fun cdv A outer s H E hr =>
  (zb_cons (z_asg (z_var 0) (g_tup (gs_cons 2 nd (gs_cons 3 nd (gs_cons 4 nd (gs_cons 5 nd gs_nil))))))
  (zb_cons (z_asg (z_var 1) (g_tup (gs_cons 6 nd (gs_cons 7 nd (gs_cons 8 nd gs_nil)))))
  (zb_cons (z_asg (z_callP d_sums_of_places hr (z_cons (z_var 2) z_nil)) (g_tup (gs_cons 9 nd (gs_cons 10 nd gs_nil))))
  (zb_cons (z_set 11 (z_op o_div l_div (z_op op_sub l_sub (z_op o_mul l_mul (z_op op_sub l_sub (z_op o_mul l_mul z_int (z_var 2)) z_int) (z_var 6)) (z_var 8)) z_int) nd)
  (zb_cons (z_set 12 (z_op op_sub l_sub (z_op o_mul l_mul (z_op op_sub l_sub (z_op o_mul l_mul z_int (z_var 5)) z_int) (z_var 6)) (z_op o_mul l_mul z_int (z_var 7))) nd)
  (zb_cons (z_set 13 (z_op o_add l_add (z_op o_add l_add (z_op o_mul l_mul (z_op o_mul l_mul (z_var 3) (z_var 3)) (z_var 10)) (z_op o_mul l_mul (z_op o_mul l_mul (z_op o_mul l_mul z_int (z_var 3)) (z_var 4)) (z_var 9))) (z_op o_mul l_mul (z_op o_mul l_mul (z_var 4) (z_var 4)) (z_var 2))) nd)
  (zb_one (z_ret (z_tup (z_cons (z_op o_add l_add (z_op o_add l_add (z_op o_mul l_mul (z_var 3) (z_var 9)) (z_op o_mul l_mul (z_var 4) (z_var 2))) (z_var 6)) (z_cons (z_op o_add l_add (z_op o_add l_add (z_op o_mul l_mul (z_var 3) (z_var 10)) (z_op o_mul l_mul (z_var 4) (z_var 9))) (z_var 11)) (z_cons (z_op o_add l_add (z_op o_add l_add (z_op o_add l_add (z_var 13) (z_op o_mul l_mul (z_op o_mul l_mul z_int (z_var 3)) (z_var 11))) (z_op o_mul l_mul (z_op o_mul l_mul z_int (z_var 4)) (z_var 6))) (z_var 12)) z_nil))))))))))))) ?_
  intro ds w Q E h
  unfold sp_level_sums at h
  clear nd d_sums_of_places hb hm F T fd f ec base mg K CD
  obtain ⟨n, q, r, k, s1, s2, s3, rfl, ⟨n0, sn, sq, sr, sk, k1, k2, k3⟩, h⟩ := h
  have st := tri_sm sn
  have ss := sqs_sm n0 sn
  kby_none
  exact h
theorem ok_three_sums {P : Program} {w : World} {K : PySem.W.Frag} {mg : Str → Option Value} {base : Heap} {ec : Nat → Addr} {CD : Addr} (T : Tx K mg ec CD) {f : Addr} {fd : FuncData} (F : Fun K "three_sums" "three_sums" s_three_sums f fd) (hm : mg "three_sums" = some (.ref f)) (hb : Binds K fd ["line", "n"] []) (d_levels_of : Fd P w K mg base (W0 ec) 5 "levels_of" sp_levels_of) (d_level_sums : Fd P w K mg base (W0 ec) 2 "level_sums" sp_level_sums) :
    Fd P w K mg base (W0 ec) 6 "three_sums" sp_three_sums := by
  have nd := sc_three_sums.nd
  refine fnz F sc_three_sums hm hb (by
    unfold sp_three_sums; intro ds w Q Q' E E' k k'
    repeat' (first | exact id | exact k _ _ | exact k' _ _ | refine Exists.imp fun _ => ?_ | refine And.imp ?_ ?_ | refine Or.imp ?_ ?_ | refine Z.impR ?_ | refine Z.allR fun _ => ?_ | refine Z.Stp.imp ?_)) (by
    intro ds w' Q E h; unfold sp_three_sums at h; obtain ⟨a, b, m, n, rfl, -⟩ := h; rfl) (fun cdv A outer s H E hr =>
  (zb_cons (z_set 2 (z_tup (z_cons z_int (z_cons z_int (z_cons z_int z_nil)))) nd)
  (zb_cons (z_forL (z_fz (z_rev (z_callP d_levels_of hr (z_cons (z_var 0) (z_cons (z_var 1) z_nil))))) (g_name 3 nd)
  (zb_one (z_set 2 (z_callP d_level_sums hr (z_cons (z_var 3) (z_cons (z_var 2) z_nil))) nd)))
  (zb_one (z_ret (z_var 2)))))) ?_
  intro ds w Q E h
  unfold sp_three_sums at h
  clear nd d_levels_of d_level_sums hb hm F T fd f ec base mg K CD
  obtain ⟨a, b, m, n, rfl, h1, h2⟩ := h
  by_cases c : m < 1
  · kby_none
    exact h1 c
  obtain ⟨g, q⟩ := h2 (by omega)
  kby_none
  rename_i L hL hl
  refine ⟨fun i δ w' => ∃ (s1 s2 s3 : Int) (x : Sl), δ = [.val (ln a b m), .val (.int n), .val (.tup [.int s1, .int s2, .int s3]), x] ∧ Val L i s1 s2 s3, ⟨_, _, _, _, rfl, Val.zero L⟩, ?_, ?_⟩
  · rintro i d δ w' h0 ⟨s1, s2, s3, x, rfl, v⟩
    obtain ⟨n1, q1, r1, k1, rfl, n0, sn, sq, sr, sk, v'⟩ := v.next g hL h0
    have t1 := v.k1
    have t2 := v.k2
    have t3 := v.k3
    kby_none
  · rintro δ w' ⟨s1, s2, s3, x, rfl, v⟩
    rw [List.length_reverse] at v
    obtain ⟨rfl, rfl, rfl⟩ := v.fin g hL
    kby_none
    exact q
theorem ok_sum_squares {P : Program} {w : World} {K : PySem.W.Frag} {mg : Str → Option Value} {base : Heap} {ec : Nat → Addr} {CD : Addr} (T : Tx K mg ec CD) {f : Addr} {fd : FuncData} (F : Fun K "sum_squares" "sum_squares" s_sum_squares f fd) (hm : mg "sum_squares" = some (.ref f)) (hb : Binds K fd ["line", "n"] []) (d_three_sums : Fd P w K mg base (W0 ec) 6 "three_sums" sp_three_sums) :
    Fd P w K mg base (W0 ec) 7 "sum_squares" sp_sum_squares := by
  have nd := sc_sum_squares.nd
  refine fnz F sc_sum_squares hm hb (by
    unfold sp_sum_squares; intro ds w Q Q' E E' k k'
    repeat' (first | exact id | exact k _ _ | exact k' _ _ | refine Exists.imp fun _ => ?_ | refine And.imp ?_ ?_ | refine Or.imp ?_ ?_ | refine Z.impR ?_ | refine Z.allR fun _ => ?_ | refine Z.Stp.imp ?_)) (by
    intro ds w' Q E h; unfold sp_sum_squares at h; obtain ⟨a, b, m, n, rfl, -⟩ := h; rfl) (fun cdv A outer s H E hr =>
  (zb_one (z_ret (z_ix ix_seq l_ix (z_callP d_three_sums hr (z_cons (z_var 0) (z_cons (z_var 1) z_nil))) z_int)))) ?_
  intro ds w Q E h
  unfold sp_sum_squares at h
  clear nd d_three_sums hb hm F T fd f ec base mg K CD
  obtain ⟨a, b, m, n, rfl, h1, h2⟩ := h
  by_cases c : m < 1
  · kby_none
    exact h1 c
  obtain ⟨g, q⟩ := h2 (by omega)
  kby_none
  exact q
theorem ok_sum_placed {P : Program} {w : World} {K : PySem.W.Frag} {mg : Str → Option Value} {base : Heap} {ec : Nat → Addr} {CD : Addr} (T : Tx K mg ec CD) {f : Addr} {fd : FuncData} (F : Fun K "sum_placed" "sum_placed" s_sum_placed f fd) (hm : mg "sum_placed" = some (.ref f)) (hb : Binds K fd ["line", "n"] []) (d_three_sums : Fd P w K mg base (W0 ec) 6 "three_sums" sp_three_sums) :
    Fd P w K mg base (W0 ec) 7 "sum_placed" sp_sum_placed := by
  have nd := sc_sum_placed.nd
  refine fnz F sc_sum_placed hm hb (by
    unfold sp_sum_placed; intro ds w Q Q' E E' k k'
    repeat' (first | exact id | exact k _ _ | exact k' _ _ | refine Exists.imp fun _ => ?_ | refine And.imp ?_ ?_ | refine Or.imp ?_ ?_ | refine Z.impR ?_ | refine Z.allR fun _ => ?_ | refine Z.Stp.imp ?_)) (by
    intro ds w' Q E h; unfold sp_sum_placed at h; obtain ⟨a, b, m, n, rfl, -⟩ := h; rfl) (fun cdv A outer s H E hr =>
  (zb_one (z_ret (z_ix ix_seq l_ix (z_callP d_three_sums hr (z_cons (z_var 0) (z_cons (z_var 1) z_nil))) z_int)))) ?_
  intro ds w Q E h
  unfold sp_sum_placed at h
  clear nd d_three_sums hb hm F T fd f ec base mg K CD
  obtain ⟨a, b, m, n, rfl, h1, h2⟩ := h
  by_cases c : m < 1
  · kby_none
    exact h1 c
  obtain ⟨g, q⟩ := h2 (by omega)
  kby_none
  exact q
theorem ok_need {P : Program} {w : World} {K : PySem.W.Frag} {mg : Str → Option Value} {base : Heap} {ec : Nat → Addr} {CD : Addr} (T : Tx K mg ec CD) {f : Addr} {fd : FuncData} (F : Fun K "need" "need" s_need f fd) (hm : mg "need" = some (.ref f)) (hb : Binds K fd ["truth"] []) :
    Fd P w K mg base (W0 ec) 1 "need" sp_need := by
  have nd := sc_need.nd
  refine fnz F sc_need hm hb (by
    unfold sp_need; intro ds w Q Q' E E' k k'
    repeat' (first | exact id | exact k _ _ | exact k' _ _ | refine Exists.imp fun _ => ?_ | refine And.imp ?_ ?_ | refine Or.imp ?_ ?_ | refine Z.impR ?_ | refine Z.allR fun _ => ?_ | refine Z.Stp.imp ?_)) (by
    intro ds w' Q E h; unfold sp_need at h; obtain ⟨b, rfl, -⟩ := h; rfl) (fun cdv A outer s H E hr =>
  (zb_one (z_if (z_not (z_tval (z_var 0)))
  (zb_one (z_raise (c := 6) T.e6))
  zb_nil))) ?_
  intro ds w Q E h
  unfold sp_need at h
  clear nd hb hm F T fd f ec base mg K CD
  obtain ⟨b, rfl, h1, h2⟩ := h
  kby_none
  · rename_i e; exact h2 (by cases b <;> first | rfl | exact absurd e (by decide))
  · rename_i e; exact h1 (by cases b <;> first | rfl | exact absurd e (by decide))
theorem ok_is_name {P : Program} {w : World} {K : PySem.W.Frag} {mg : Str → Option Value} {base : Heap} {ec : Nat → Addr} {CD : Addr} (T : Tx K mg ec CD) {f : Addr} {fd : FuncData} (F : Fun K "is_name" "is_name" s_is_name f fd) (hm : mg "is_name" = some (.ref f)) (hb : Binds K fd ["text"] []) :
    Fd P w K mg base (W0 ec) 1 "is_name" sp_is_name := by
  have nd := sc_is_name.nd
  refine fnz F sc_is_name hm hb (by
    unfold sp_is_name; intro ds w Q Q' E E' k k'
    repeat' (first | exact id | exact k _ _ | exact k' _ _ | refine Exists.imp fun _ => ?_ | refine And.imp ?_ ?_ | refine Or.imp ?_ ?_ | refine Z.impR ?_ | refine Z.allR fun _ => ?_ | refine Z.Stp.imp ?_)) (by
    intro ds w' Q E h; unfold sp_is_name at h; obtain ⟨t, rfl, -⟩ := h; rfl) (fun cdv A outer s H E hr =>
  (zb_one (z_ret (z_andV (z_cmp op_ge l_ge (z_len T.len_ (z_cons (z_var 0) z_nil)) z_int) (z_andV (z_cmp op_le l_le (z_len T.len_ (z_cons (z_var 0) z_nil)) z_int) (z_one (z_all T.all_ (z_cons (z_fz (z_lcI (own := [("sign", 1)]) (ok := by show blkC ["text", "sign"] (defScope s_is_name) _ _ = true; decide +kernel) (i_str (z_var 0)) (c_ok (gzt := (gg_name 1)) (fun _ _ _ _ _ => (g_name 1 nd).pg) (fun _ _ _ _ _ => (z_cmp op_in_sign l_inS1 (z_var 1) (z_globE T.c_LETTERS)))) nd)) z_nil)))))))) ?_
  intro ds w Q E h
  unfold sp_is_name at h
  clear nd hb hm F T fd f ec base mg K CD
  obtain ⟨t, rfl, hl, q⟩ := h
  unfold nameB at q
  by_cases c1 : 1 ≤ t.length
  · by_cases c2 : t.length ≤ 8
    · rw [decide_eq_true c1, decide_eq_true c2, Bool.true_and, Bool.true_and] at q
      have hs : (sgnD t).length ≤ 100000 := by rw [sgn_len]; omega
      kby_none
      refine ⟨fun i acc w' => acc = (((TL.tl t).take i).map fun c => decide (97 ≤ c ∧ c ≤ 122)).map D.bl, rfl, ?_, ?_⟩
      · rintro i d acc w' hd rfl
        obtain ⟨c, hc, rfl⟩ := sgn_ix hd
        kby_none
        rw [low_in]; exact bls_snoc _ hc
      · rintro acc w' rfl
        rw [sgn_len2, List.take_length]
        unfold zNil
        refine bls_all ?_
        exact q
    · rw [decide_eq_false c2, Bool.false_and, Bool.and_false] at q
      kby_none
      all_goals exact q
  · rw [decide_eq_false c1, Bool.false_and] at q
    kby_none
    all_goals exact q
theorem ok_number_from {P : Program} {w : World} {K : PySem.W.Frag} {mg : Str → Option Value} {base : Heap} {ec : Nat → Addr} {CD : Addr} (T : Tx K mg ec CD) {f : Addr} {fd : FuncData} (F : Fun K "number_from" "number_from" s_number_from f fd) (hm : mg "number_from" = some (.ref f)) (hb : Binds K fd ["text"] []) (d_need : Fd P w K mg base (W0 ec) 1 "need" sp_need) :
    Fd P w K mg base (W0 ec) 2 "number_from" sp_number_from := by
  have nd := sc_number_from.nd
  refine fnz F sc_number_from hm hb (by
    unfold sp_number_from; intro ds w Q Q' E E' k k'
    repeat' (first | exact id | exact k _ _ | exact k' _ _ | refine Exists.imp fun _ => ?_ | refine And.imp ?_ ?_ | refine Or.imp ?_ ?_ | refine Z.impR ?_ | refine Z.allR fun _ => ?_ | refine Z.Stp.imp ?_)) (by
    intro ds w' Q E h; unfold sp_number_from at h; obtain ⟨t, rfl, -⟩ := h; rfl) (fun cdv A outer s H E hr =>
  (zb_cons (z_set 1 (z_ifE (z_tcmp (o_eq hr) l_eq (z_slS (z_var 0) z_oN (z_oS z_int)) z_str) (z_slS (z_var 0) (z_oS z_int) z_oN) (z_var 0)) nd)
  (zb_cons (z_drop (z_callP d_need hr (z_cons (z_andV (z_cmp (o_ne hr) l_ne (z_var 1) z_str) (z_andV (z_cmp op_le l_le (z_len T.len_ (z_cons (z_var 1) z_nil)) z_int) (z_one (z_all T.all_ (z_cons (z_fz (z_lcI (own := [("sign", 2)]) (ok := by show blkC ["text", "figures", "sign"] (defScope s_number_from) _ _ = true; decide +kernel) (i_str (z_var 1)) (c_ok (gzt := (gg_name 2)) (fun _ _ _ _ _ => (g_name 2 nd).pg) (fun _ _ _ _ _ => (z_cmp op_in_sign l_inS1 (z_var 2) (z_globE T.c_FIGURES_whole)))) nd)) z_nil))))) z_nil)))
  (zb_cons (z_drop (z_callP d_need hr (z_cons (z_orV (z_cmp (o_ne hr) l_ne (z_ix ix_seq l_ix (z_var 1) z_int) z_str) (z_one (z_cmp (o_eq hr) l_eq (z_var 0) z_str))) z_nil)))
  (zb_one (z_ret (z_intC T.int_ (z_cons (z_var 0) z_nil)))))))) ?_
  intro ds w Q E h
  unfold sp_number_from at h
  clear nd d_need hb hm F T fd f ec base mg K CD
  obtain ⟨t, rfl, hl, q1, q2⟩ := h
  have tl0 := tl_cut0 t
  by_cases neg : (TL.tl t).head? = some 45
  · have ef : TL.tl (cutS t (some 1) none) = figL (TL.tl t) := by rw [tl_cut1]; unfold figL; rw [if_pos neg]; exact List.drop_one
    have cm : cutS t none (some 1) = Str.ofString "-" := TL.ext_tl (by
      rw [tl0]
      cases q : TL.tl t with
      | nil => rw [q] at neg; cases neg
      | cons c r => rw [q] at neg; cases neg; rfl)
    have fl : (cutS t (some 1) none).length = (figL (TL.tl t)).length := by rw [TL.len_tl]; exact congrArg List.length ef
    have fl2 := figL_len (TL.tl t)
    rw [← TL.len_tl] at fl2
    have fl3 : (cutS t (some 1) none).length ≤ 16777216 := by omega
    have fs3 : (sgnD (cutS t (some 1) none)).length ≤ 100000 := by rw [sgn_len2, ← TL.len_tl]; omega
    by_cases e0 : figL (TL.tl t) = []
    · have n0 : numB t = false := by unfold numB numL?; rw [e0]; rfl
      have q := q1 n0
      have fe : (cutS t (some 1) none) = Str.ofString "" := TL.ext_tl (by rw [ef, e0]; rfl)
      kby_none
      all_goals first | exact q | (exfalso; exact absurd cm (by assumption)) | (exfalso; exact absurd (by assumption) cm) | (exfalso; exact absurd fe (by assumption))
    have fne : (cutS t (some 1) none) ≠ Str.ofString "" := fun e => e0 (by rw [← ef, e]; rfl)
    have i0 : (figL (TL.tl t)).isEmpty = false := by
      cases q : figL (TL.tl t) with
      | nil => exact absurd q e0
      | cons _ _ => rfl
    by_cases e1 : (figL (TL.tl t)).length ≤ 60
    rotate_left
    · have n0 : numB t = false := by unfold numB numL?; rw [decide_eq_false e1, Bool.false_and, Bool.and_false]
      have q := q1 n0
      kby_none
      all_goals first | exact q | (exfalso; exact absurd cm (by assumption)) | (exfalso; exact absurd (by assumption) cm) | (exfalso; exact absurd (by assumption) fne) | (exfalso; omega)
    obtain ⟨c, r, er⟩ : ∃ c r, figL (TL.tl t) = c :: r := by
      cases q : figL (TL.tl t) with
      | nil => exact absurd q e0
      | cons c r => exact ⟨c, r, rfl⟩
    have ic : atI (cutS t (some 1) none).cps.toList 0 = some c := one_ix (ef.trans er)
    have c48 : (⟨#[c]⟩ : Str) = Str.ofString "0" ↔ c = 48 := ⟨one_zero, fun e => by rw [e]; exact zero_one⟩
    have t0 : t = Str.ofString "0" ↔ TL.tl t = [48] := ⟨fun e => by rw [e]; rfl, fun e => TL.ext_tl e⟩
    have hd : (figL (TL.tl t)).head? = some c := by rw [er]; rfl
    by_cases e2 : digB (figL (TL.tl t)) = true
    rotate_left
    · have e2 : digB (figL (TL.tl t)) = false := by simpa using e2
      have n0 : numB t = false := by unfold numB numL?; rw [e2, Bool.false_and, Bool.and_false, Bool.and_false]
      have q := q1 n0
      kby_none
      all_goals try (first | exact q | (exfalso; exact absurd cm (by assumption)) | (exfalso; exact absurd (by assumption) cm) | (exfalso; exact absurd (by assumption) fne) | (exfalso; omega))
      refine ⟨fun i acc w' => acc = (((TL.tl (cutS t (some 1) none)).take i).map fun c => decide (48 ≤ c ∧ c ≤ 57)).map D.bl, rfl, ?_, ?_⟩
      · rintro i d acc w' hd rfl
        obtain ⟨c, hc, rfl⟩ := sgn_ix hd
        kby_none
        rw [dig_in]; exact bls_snoc _ hc
      · rintro acc w' rfl
        rw [sgn_len2, List.take_length]
        unfold zNil
        refine bls_all ?_
        rw [show (TL.tl (cutS t (some 1) none)).all (fun c => decide (48 ≤ c ∧ c ≤ 57)) = false from (congrArg digB ef).trans e2]
        kby_none
        all_goals exact q
    by_cases e3 : c ≠ 48 ∨ TL.tl t = [48]
    rotate_left
    · have n0 : numB t = false := by
        unfold numB numL?
        rw [hd, decide_eq_false (fun h => e3 (.inr h) : ¬ TL.tl t = [48]), decide_eq_false (fun h => e3 (.inl fun z => h (by rw [z])) : ¬ (some c ≠ some 48)), Bool.or_false, Bool.and_false, Bool.and_false, Bool.and_false]
      have q := q1 n0
      have e4 : c = 48 := Decidable.byContradiction fun z => e3 (.inl z)
      have e5 : ¬ t = Str.ofString "0" := fun z => e3 (.inr (t0.mp z))
      have e6 := c48.mpr e4
      kby_none
      all_goals try (first | exact q | (exfalso; exact absurd cm (by assumption)) | (exfalso; exact absurd (by assumption) cm) | (exfalso; exact absurd (by assumption) fne) | (exfalso; omega))
      refine ⟨fun i acc w' => acc = (((TL.tl (cutS t (some 1) none)).take i).map fun c => decide (48 ≤ c ∧ c ≤ 57)).map D.bl, rfl, ?_, ?_⟩
      · rintro i d acc w' hd rfl
        obtain ⟨c, hc, rfl⟩ := sgn_ix hd
        kby_none
        rw [dig_in]; exact bls_snoc _ hc
      · rintro acc w' rfl
        rw [sgn_len2, List.take_length]
        unfold zNil
        refine bls_all ?_
        rw [show (TL.tl (cutS t (some 1) none)).all (fun c => decide (48 ≤ c ∧ c ≤ 57)) = true from (congrArg digB ef).trans e2]
        kby_none
        all_goals first | exact q | exact absurd e6 (by assumption) | exact absurd (by assumption) e5
    have n1 : numB t = true := by
      unfold numB numL?
      rw [i0, decide_eq_true e1, e2, hd]
      rcases e3 with z | z
      · have z2 : decide (some c ≠ some (48 : Nat)) = true := decide_eq_true fun h => z (Option.some.inj h)
        rw [z2]; rfl
      · rw [decide_eq_true z, Bool.or_true]; rfl
    obtain ⟨x, ex, hx⟩ := numB_is n1
    have q := (q2 n1).out x ex hx (sm60 hx)
    have ix := tx_int ((sm60 hx).le (show 200 ≤ 1900 by decide))
    rw [← ex] at ix
    have tl6 := tx_length ((sm60 hx).le (show 200 ≤ 1900 by decide))
    rw [← ex] at tl6
    have tl7 : t.length ≤ 640 := by omega
    kby_none
    all_goals try (first | (exfalso; exact absurd cm (by assumption)) | (exfalso; exact absurd (by assumption) cm) | (exfalso; exact absurd (by assumption) fne) | (exfalso; omega))
    refine ⟨fun i acc w' => acc = (((TL.tl (cutS t (some 1) none)).take i).map fun c => decide (48 ≤ c ∧ c ≤ 57)).map D.bl, rfl, ?_, ?_⟩
    · rintro i d acc w' hd rfl
      obtain ⟨c, hc, rfl⟩ := sgn_ix hd
      kby_none
      rw [dig_in]; exact bls_snoc _ hc
    · rintro acc w' rfl
      rw [sgn_len2, List.take_length]
      unfold zNil
      refine bls_all ?_
      rw [show (TL.tl (cutS t (some 1) none)).all (fun c => decide (48 ≤ c ∧ c ≤ 57)) = true from (congrArg digB ef).trans e2]
      kby_none
      all_goals first | exact q | (exfalso; rename_i g1 g2; rcases e3 with z | z <;> first | exact z (c48.mp g1) | exact g2 (t0.mpr z))
  · have ef : TL.tl t = figL (TL.tl t) := by unfold figL; rw [if_neg neg]
    have cm : ¬ cutS t none (some 1) = Str.ofString "-" := fun h => neg (by
      have e := congrArg TL.tl h
      rw [tl0] at e
      cases q : TL.tl t with
      | nil => rw [q] at e; exact absurd e (by decide +kernel)
      | cons c r =>
        rw [q] at e
        have e : [c] = [45] := e
        injection e with e1
        rw [e1]; rfl)
    have fl : t.length = (figL (TL.tl t)).length := by rw [TL.len_tl]; exact congrArg List.length ef
    have fl2 := figL_len (TL.tl t)
    rw [← TL.len_tl] at fl2
    have fl3 : t.length ≤ 16777216 := by omega
    have fs3 : (sgnD t).length ≤ 100000 := by rw [sgn_len2, ← TL.len_tl]; omega
    by_cases e0 : figL (TL.tl t) = []
    · have n0 : numB t = false := by unfold numB numL?; rw [e0]; rfl
      have q := q1 n0
      have fe : t = Str.ofString "" := TL.ext_tl (by rw [ef, e0]; rfl)
      kby_none
      all_goals first | exact q | (exfalso; exact absurd cm (by assumption)) | (exfalso; exact absurd (by assumption) cm) | (exfalso; exact absurd fe (by assumption))
    have fne : t ≠ Str.ofString "" := fun e => e0 (by rw [← ef, e]; rfl)
    have i0 : (figL (TL.tl t)).isEmpty = false := by
      cases q : figL (TL.tl t) with
      | nil => exact absurd q e0
      | cons _ _ => rfl
    by_cases e1 : (figL (TL.tl t)).length ≤ 60
    rotate_left
    · have n0 : numB t = false := by unfold numB numL?; rw [decide_eq_false e1, Bool.false_and, Bool.and_false]
      have q := q1 n0
      kby_none
      all_goals first | exact q | (exfalso; exact absurd cm (by assumption)) | (exfalso; exact absurd (by assumption) cm) | (exfalso; exact absurd (by assumption) fne) | (exfalso; omega)
    obtain ⟨c, r, er⟩ : ∃ c r, figL (TL.tl t) = c :: r := by
      cases q : figL (TL.tl t) with
      | nil => exact absurd q e0
      | cons c r => exact ⟨c, r, rfl⟩
    have ic : atI t.cps.toList 0 = some c := one_ix (ef.trans er)
    have c48 : (⟨#[c]⟩ : Str) = Str.ofString "0" ↔ c = 48 := ⟨one_zero, fun e => by rw [e]; exact zero_one⟩
    have t0 : t = Str.ofString "0" ↔ TL.tl t = [48] := ⟨fun e => by rw [e]; rfl, fun e => TL.ext_tl e⟩
    have hd : (figL (TL.tl t)).head? = some c := by rw [er]; rfl
    by_cases e2 : digB (figL (TL.tl t)) = true
    rotate_left
    · have e2 : digB (figL (TL.tl t)) = false := by simpa using e2
      have n0 : numB t = false := by unfold numB numL?; rw [e2, Bool.false_and, Bool.and_false, Bool.and_false]
      have q := q1 n0
      kby_none
      all_goals try (first | exact q | (exfalso; exact absurd cm (by assumption)) | (exfalso; exact absurd (by assumption) cm) | (exfalso; exact absurd (by assumption) fne) | (exfalso; omega))
      refine ⟨fun i acc w' => acc = (((TL.tl t).take i).map fun c => decide (48 ≤ c ∧ c ≤ 57)).map D.bl, rfl, ?_, ?_⟩
      · rintro i d acc w' hd rfl
        obtain ⟨c, hc, rfl⟩ := sgn_ix hd
        kby_none
        rw [dig_in]; exact bls_snoc _ hc
      · rintro acc w' rfl
        rw [sgn_len2, List.take_length]
        unfold zNil
        refine bls_all ?_
        rw [show (TL.tl t).all (fun c => decide (48 ≤ c ∧ c ≤ 57)) = false from (congrArg digB ef).trans e2]
        kby_none
        all_goals exact q
    by_cases e3 : c ≠ 48 ∨ TL.tl t = [48]
    rotate_left
    · have n0 : numB t = false := by
        unfold numB numL?
        rw [hd, decide_eq_false (fun h => e3 (.inr h) : ¬ TL.tl t = [48]), decide_eq_false (fun h => e3 (.inl fun z => h (by rw [z])) : ¬ (some c ≠ some 48)), Bool.or_false, Bool.and_false, Bool.and_false, Bool.and_false]
      have q := q1 n0
      have e4 : c = 48 := Decidable.byContradiction fun z => e3 (.inl z)
      have e5 : ¬ t = Str.ofString "0" := fun z => e3 (.inr (t0.mp z))
      have e6 := c48.mpr e4
      kby_none
      all_goals try (first | exact q | (exfalso; exact absurd cm (by assumption)) | (exfalso; exact absurd (by assumption) cm) | (exfalso; exact absurd (by assumption) fne) | (exfalso; omega))
      refine ⟨fun i acc w' => acc = (((TL.tl t).take i).map fun c => decide (48 ≤ c ∧ c ≤ 57)).map D.bl, rfl, ?_, ?_⟩
      · rintro i d acc w' hd rfl
        obtain ⟨c, hc, rfl⟩ := sgn_ix hd
        kby_none
        rw [dig_in]; exact bls_snoc _ hc
      · rintro acc w' rfl
        rw [sgn_len2, List.take_length]
        unfold zNil
        refine bls_all ?_
        rw [show (TL.tl t).all (fun c => decide (48 ≤ c ∧ c ≤ 57)) = true from (congrArg digB ef).trans e2]
        kby_none
        all_goals first | exact q | exact absurd e6 (by assumption) | exact absurd (by assumption) e5
    have n1 : numB t = true := by
      unfold numB numL?
      rw [i0, decide_eq_true e1, e2, hd]
      rcases e3 with z | z
      · have z2 : decide (some c ≠ some (48 : Nat)) = true := decide_eq_true fun h => z (Option.some.inj h)
        rw [z2]; rfl
      · rw [decide_eq_true z, Bool.or_true]; rfl
    obtain ⟨x, ex, hx⟩ := numB_is n1
    have q := (q2 n1).out x ex hx (sm60 hx)
    have ix := tx_int ((sm60 hx).le (show 200 ≤ 1900 by decide))
    rw [← ex] at ix
    have tl6 := tx_length ((sm60 hx).le (show 200 ≤ 1900 by decide))
    rw [← ex] at tl6
    have tl7 : t.length ≤ 640 := by omega
    kby_none
    all_goals try (first | (exfalso; exact absurd cm (by assumption)) | (exfalso; exact absurd (by assumption) cm) | (exfalso; exact absurd (by assumption) fne) | (exfalso; omega))
    refine ⟨fun i acc w' => acc = (((TL.tl t).take i).map fun c => decide (48 ≤ c ∧ c ≤ 57)).map D.bl, rfl, ?_, ?_⟩
    · rintro i d acc w' hd rfl
      obtain ⟨c, hc, rfl⟩ := sgn_ix hd
      kby_none
      rw [dig_in]; exact bls_snoc _ hc
    · rintro acc w' rfl
      rw [sgn_len2, List.take_length]
      unfold zNil
      refine bls_all ?_
      rw [show (TL.tl t).all (fun c => decide (48 ≤ c ∧ c ≤ 57)) = true from (congrArg digB ef).trans e2]
      kby_none
      all_goals first | exact q | (exfalso; rename_i g1 g2; rcases e3 with z | z <;> first | exact z (c48.mp g1) | exact g2 (t0.mpr z))
theorem ok_count_from {P : Program} {w : World} {K : PySem.W.Frag} {mg : Str → Option Value} {base : Heap} {ec : Nat → Addr} {CD : Addr} (T : Tx K mg ec CD) {f : Addr} {fd : FuncData} (F : Fun K "count_from" "count_from" s_count_from f fd) (hm : mg "count_from" = some (.ref f)) (hb : Binds K fd ["text"] []) (d_number_from : Fd P w K mg base (W0 ec) 2 "number_from" sp_number_from) (d_need : Fd P w K mg base (W0 ec) 1 "need" sp_need) :
    Fd P w K mg base (W0 ec) 3 "count_from" sp_count_from := by
  have nd := sc_count_from.nd
  refine fnz F sc_count_from hm hb (by
    unfold sp_count_from; intro ds w Q Q' E E' k k'
    repeat' (first | exact id | exact k _ _ | exact k' _ _ | refine Exists.imp fun _ => ?_ | refine And.imp ?_ ?_ | refine Or.imp ?_ ?_ | refine Z.impR ?_ | refine Z.allR fun _ => ?_ | refine Z.Stp.imp ?_)) (by
    intro ds w' Q E h; unfold sp_count_from at h; obtain ⟨t, rfl, -⟩ := h; rfl) (fun cdv A outer s H E hr =>
  (zb_cons (z_set 1 (z_callP d_number_from hr (z_cons (z_var 0) z_nil)) nd)
  (zb_cons (z_drop (z_callP d_need hr (z_cons (z_cmp op_ge l_ge (z_var 1) z_int) z_nil)))
  (zb_one (z_ret (z_var 1)))))) ?_
  intro ds w Q E h
  unfold sp_count_from at h
  clear nd d_number_from d_need hb hm F T fd f ec base mg K CD
  obtain ⟨t, rfl, hl, q1, q2⟩ := h
  by_cases c : numB t = true
  · obtain ⟨i, rfl, hi⟩ := numB_is c
    have e := cntB_tx hi
    kby_none
    · exact absurd (c.symm.trans (by assumption)) (by decide)
    refine Stp.mk fun x hx hx2 hx3 => ?_
    obtain rfl := tx_inj ((sm60 hi).le (by decide)) (hx3.le (by decide)) hx
    kby_none
    · rename_i g
      exact (q2 (by rw [e]; exact decide_eq_true g)).out i rfl g hi hx3
    · rename_i g
      exact q1 (by rw [e]; exact decide_eq_false g)
  · have c : numB t = false := by simpa using c
    have c2 : cntB t = false := by unfold cntB; rw [c]; rfl
    have q := q1 c2
    kby_none
    · exact q
    · exact absurd (c.symm.trans (by assumption)) (by decide)
theorem ok_Desk_named {P : Program} {w : World} {K : PySem.W.Frag} {mg : Str → Option Value} {base : Heap} {ec : Nat → Addr} {CD : Addr} (T : Tx K mg ec CD) {f : Addr} {fd : FuncData} (F : Fun K "named" "Desk.named" s_Desk_named f fd) (hm : Meth K CD "named" f) (hb : Binds K fd ["self", "some", "many"] []) (d_need : Fd P w K mg base (W0 ec) 1 "need" sp_need) :
    Fm P w K mg base CD ec 2 "named" sp_Desk_named := by
  have nd := sc_Desk_named.nd
  refine fmz F sc_Desk_named hm hb (by
    unfold sp_Desk_named; intro ds w Q Q' E E' k k'
    repeat' (first | exact id | exact k _ _ | exact k' _ _ | refine Exists.imp fun _ => ?_ | refine And.imp ?_ ?_ | refine Or.imp ?_ ?_ | refine Z.impR ?_ | refine Z.allR fun _ => ?_ | refine Z.Stp.imp ?_)) (by
    intro ds w' Q E h; unfold sp_Desk_named at h; obtain ⟨a, ws, many, rfl, -⟩ := h; rfl) (fun cdv A outer s H E hr =>
  (zb_cons (z_drop (z_callP d_need hr (z_cons (z_andV (z_cmp (o_eq hr) l_eq (z_len T.len_ (z_cons (z_var 1) z_nil)) (z_var 2)) (z_one (z_lin T.cD T.nD hr (z_ix ix_seq l_ix (z_var 1) z_int) (z_var 0)))) z_nil)))
  (zb_one (z_ret (z_lget T.cD T.nD hr (z_var 0) (z_ix ix_seq l_ix (z_var 1) z_int)))))) ?_
  intro ds w Q E h
  unfold sp_Desk_named at h
  clear nd d_need hb hm F T fd f ec base mg K CD
  obtain ⟨a, ws, many, rfl, ⟨hD, hm⟩, q1, q2⟩ := h
  obtain ⟨d, hob⟩ := id hD
  have q2 := q2.out
  by_cases c1 : many = (ws.length : Int)
  rotate_left
  · have q := q1 (by rw [decide_eq_false c1]; rfl)
    kby_none
    · rename_i e; rw [List.length_map] at e; exact absurd e.symm c1
    · exact q
  rw [decide_eq_true c1, Bool.true_and] at q1
  cases ws with
  | nil => exact absurd c1 (by show ¬ many = 0; omega)
  | cons s l =>
    have a0 : atI ((s :: l).map D.str) 0 = some (.str s) := strs_at (ws := s :: l) (k := 0) rfl
    cases hs : w.kv s with
    | none =>
      have q := q1 (by show (w.kv s).isSome = false; rw [hs]; rfl)
      have i0 : (w.kv s).isSome = false := by rw [hs]; rfl
      kby_none
      all_goals first | exact q | (exfalso; exact absurd (i0.symm.trans (by assumption)) (by decide)) | (exfalso; rename_i g _; rw [List.length_map] at g; exact absurd c1.symm g)
    | some v =>
      have q := q2 s l v rfl c1 hs
      have i0 : (w.kv s).isSome = true := by rw [hs]; rfl
      kby_none
      all_goals first | exact q | (exfalso; exact absurd (i0.symm.trans (by assumption)) (by decide)) | (exfalso; rename_i g _; rw [List.length_map] at g; exact absurd c1.symm g)
theorem ok_Desk_on_line {P : Program} {w : World} {K : PySem.W.Frag} {mg : Str → Option Value} {base : Heap} {ec : Nat → Addr} {CD : Addr} (T : Tx K mg ec CD) {f : Addr} {fd : FuncData} (F : Fun K "on_line" "Desk.on_line" s_Desk_on_line f fd) (hm : Meth K CD "on_line" f) (hb : Binds K fd ["self", "some"] []) (d_need : Fd P w K mg base (W0 ec) 1 "need" sp_need) (d_read_line : Fd P w K mg base (W0 ec) 2 "read_line" sp_read_line) (d_number_from : Fd P w K mg base (W0 ec) 2 "number_from" sp_number_from) (d_is_name : Fd P w K mg base (W0 ec) 1 "is_name" sp_is_name) :
    Fm P w K mg base CD ec 3 "on_line" sp_Desk_on_line := by
  have nd := sc_Desk_on_line.nd
  refine fmz F sc_Desk_on_line hm hb (by
    unfold sp_Desk_on_line; intro ds w Q Q' E E' k k'
    repeat' (first | exact Fin.mo (fun d w' => k d w') (fun e w' => k' e w') | exact id | exact k _ _ | exact k' _ _ | refine Exists.imp fun _ => ?_ | refine And.imp ?_ ?_ | refine Or.imp ?_ ?_ | refine Z.impR ?_ | refine Z.allR fun _ => ?_ | refine Z.Stp.imp ?_)) (by
    intro ds w' Q E h; unfold sp_Desk_on_line at h; obtain ⟨a, ws, r, rfl, -⟩ := h; rfl) (fun cdv A outer s H E hr =>
  (zb_cons (z_drop (z_callP d_need hr (z_cons (z_andV (z_cmp (o_eq hr) l_eq (z_len T.len_ (z_cons (z_var 1) z_nil)) z_int) (z_one (z_callP d_is_name hr (z_cons (z_ix ix_seq l_ix (z_var 1) z_int) z_nil)))) z_nil)))
  (zb_cons (z_forL (z_fz (z_slL (z_var 1) (z_oS z_int) z_oN)) (g_name 2 nd)
  (zb_one (z_drop (z_callP d_number_from hr (z_cons (z_var 2) z_nil)))))
  (zb_cons (z_lput T.cD T.nD hr (z_var 0) (z_ix ix_seq l_ix (z_var 1) z_int) (z_callP d_read_line hr (z_cons (z_tjoin z_str (z_cons (z_fz (z_slL (z_var 1) (z_oS z_int) z_oN)) z_nil)) z_nil)))
  (zb_one (z_ret (z_newK (z_lst z_nil)))))))) ?_
  intro ds w Q E h
  unfold sp_Desk_on_line at h
  clear nd d_need d_read_line d_number_from d_is_name hb hm F T fd f ec base mg K CD
  obtain ⟨a, ws, r, rfl, ⟨hD, hn, hw⟩, hr, q⟩ := h
  obtain ⟨d, hob⟩ := id hD
  rcases hr with ⟨hr, rfl⟩ | ⟨s, a1, b1, m1, rfl, hnm, ha, hb, hm, hr⟩
  · replace q : E 6 w := q
    by_cases hl : (ws.length : Int) = 4
    rotate_left
    · kby_none
      all_goals first | exact q | (exfalso; rename_i g; rw [List.length_map] at g; exact absurd g hl)
    obtain ⟨s, t, u, v, rfl⟩ : ∃ s t u v, ws = [s, t, u, v] := by
      match ws, hl with
      | [s, t, u, v], _ => exact ⟨s, t, u, v, rfl⟩
      | [], h => cases h
      | [_], h => cases h
      | [_, _], h => cases h
      | [_, _, _], h => cases h
      | _ :: _ :: _ :: _ :: _ :: _, h => simp only [List.length_cons] at h; omega
    have ls := hw.l s List.mem_cons_self
    have lt := hw.l t (List.mem_cons_of_mem _ List.mem_cons_self)
    have lu := hw.l u (List.mem_cons_of_mem _ (List.mem_cons_of_mem _ List.mem_cons_self))
    have lv := hw.l v (List.mem_cons_of_mem _ (List.mem_cons_of_mem _ (List.mem_cons_of_mem _ List.mem_cons_self)))
    replace hr : (nameB s && (numB t && (numB u && numB v))) = false := hr
    kby_none
    all_goals try exact q
    all_goals try (exfalso; rename_i g; exact absurd rfl g)
    change zLoop [D.str t, D.str u, D.str v] _ _ _ _ _
    refine un_loop ?_
    rename_i hnm
    kby_none
    · exact q
    rename_i h1
    refine Stp.mk fun _ _ _ _ => ?_
    kby_none
    · exact q
    rename_i h2
    refine Stp.mk fun _ _ _ _ => ?_
    kby_none
    · exact q
    rename_i h3
    rw [hnm, h1, h2, h3] at hr
    exact absurd hr (by decide)
  · have t1 := tx_sm ha
    have t2 := tx_sm hb
    have t3 := tx_sm hm
    have n1 := numB_tx ha
    have n2 := numB_tx hb
    have n3 := numB_tx hm
    have ls := hw.l s List.mem_cons_self
    have sa := (sm60 ha).le (show 200 ≤ 1900 by decide)
    have sb := (sm60 hb).le (show 200 ≤ 1900 by decide)
    have sm := (sm60 hm).le (show 200 ≤ 1900 by decide)
    have fit := shown_fits sa sb sm
    kby_none
    rotate_left
    · exact absurd (hnm.symm.trans (by assumption)) (by decide)
    change zLoop [D.str (tx a1), D.str (tx b1), D.str (tx m1)] _ _ _ _ _
    refine un_loop ?_
    kby_none
    · exact absurd (n1.symm.trans (by assumption)) (by decide)
    refine Stp.mk fun _ _ _ _ => ?_
    kby_none
    · exact absurd (n2.symm.trans (by assumption)) (by decide)
    refine Stp.mk fun _ _ _ _ => ?_
    kby_none
    · exact absurd (n3.symm.trans (by assumption)) (by decide)
    refine Stp.mk fun _ _ _ _ => ?_
    unfold zUnS
    conv => whnf
    refine ⟨[tx a1, tx b1, tx m1], rfl, fit, ?_⟩
    kby_none
    · rcases hr with ⟨c, rfl⟩ | ⟨c, rfl⟩
      · exact q
      · exfalso; omega
    · rcases hr with ⟨c, rfl⟩ | ⟨c, rfl⟩
      · exfalso; omega
      · exact q _ (by assumption)
theorem ok_Desk_of_place {P : Program} {w : World} {K : PySem.W.Frag} {mg : Str → Option Value} {base : Heap} {ec : Nat → Addr} {CD : Addr} (T : Tx K mg ec CD) {f : Addr} {fd : FuncData} (F : Fun K "of_place" "Desk.of_place" s_Desk_of_place f fd) (hm : Meth K CD "of_place" f) (hb : Binds K fd ["self", "word", "some"] []) (d_Desk_named : Fm P w K mg base CD ec 2 "named" sp_Desk_named) (d_number_from : Fd P w K mg base (W0 ec) 2 "number_from" sp_number_from) (d_rest_at : Fd P w K mg base (W0 ec) 3 "rest_at" sp_rest_at) (d_part_at : Fd P w K mg base (W0 ec) 3 "part_at" sp_part_at) :
    Fm P w K mg base CD ec 4 "of_place" sp_Desk_of_place := by
  have nd := sc_Desk_of_place.nd
  refine fmz F sc_Desk_of_place hm hb (by
    unfold sp_Desk_of_place; intro ds w Q Q' E E' k k'
    repeat' (first | exact Fin.mo (fun d w' => k d w') (fun e w' => k' e w') | exact id | exact k _ _ | exact k' _ _ | refine Exists.imp fun _ => ?_ | refine And.imp ?_ ?_ | refine Or.imp ?_ ?_ | refine Z.impR ?_ | refine Z.allR fun _ => ?_ | refine Z.Stp.imp ?_)) (by
    intro ds w' Q E h; unfold sp_Desk_of_place at h; obtain ⟨a, word, ws, r, rfl, -⟩ := h; rfl) (fun cdv A outer s H E hr =>
  (zb_cons (z_set 3 (z_meth d_Desk_named T.cD hr (z_var 0) (z_cons (z_var 2) (z_cons z_int z_nil))) nd)
  (zb_cons (z_set 4 (z_callP d_number_from hr (z_cons (z_ix ix_seq l_ix (z_var 2) z_int) z_nil)) nd)
  (zb_cons (z_if (z_tcmp (o_eq hr) l_eq (z_var 1) z_str)
  (zb_one (z_ret (z_newK (z_lst (z_cons (z_strC T.str_ (z_cons (z_callP d_part_at hr (z_cons (z_var 3) (z_cons (z_var 4) z_nil))) z_nil)) z_nil)))))
  zb_nil)
  (zb_one (z_ret (z_newK (z_lst (z_cons (z_strC T.str_ (z_cons (z_callP d_rest_at hr (z_cons (z_var 3) (z_cons (z_var 4) z_nil))) z_nil)) z_nil))))))))) ?_
  intro ds w Q E h
  unfold sp_Desk_of_place at h
  clear nd d_Desk_named d_number_from d_rest_at d_part_at hb hm F T fd f ec base mg K CD
  obtain ⟨a, word, ws, r, rfl, ⟨hD, hkv, hw⟩, hr, q⟩ := h
  obtain ⟨d, hob⟩ := id hD
  rcases hr with ⟨hr, rfl⟩ | ⟨s, x, a1, b1, m1, rfl, hx, hs, hl, rfl⟩
  · skip
    replace q : E 6 w := q
    by_cases hn : (decide ((2 : Int) = (ws.length : Int)) && hasB w.kv ws) = true
    rotate_left
    · have hn : (decide ((2 : Int) = (ws.length : Int)) && hasB w.kv ws) = false := by simpa using hn
      kby_none
      · exact q
      · exact Stp.mk fun s l v e1 e2 e3 => absurd (hn.symm.trans (nm_true e1 e2 e3)) (by decide)
    obtain ⟨s, t, v, rfl, hs⟩ := nm2 hn
    obtain ⟨a1, b1, m1, rfl, hl⟩ := hkv s v hs
    have ht := no2 hs hr
    have tl1 := hw.l t (List.mem_cons_of_mem _ List.mem_cons_self)
    kby_none
    · exact absurd (hn.symm.trans (by assumption)) (by decide)
    refine Stp.mk fun s' l' v' e1 e2 e3 => ?_
    cases e1; rw [hs] at e3; cases e3
    kby_none
    all_goals first | exact q | exact absurd (ht.symm.trans (by assumption)) (by decide)
  · replace q : ∀ p, wGet w.ls p = none → Q (.ref p) { w with ls := (p, [D.str (tx (if word = "part" then (a1 * x + b1) / m1 else (a1 * x + b1) % m1))]) :: w.ls } := q
    have hn := nm_true (kv := w.kv) (ws := [s, tx x]) (many := 2) rfl rfl hs
    have tl1 := tx_sm hx
    have nx := numB_tx hx
    obtain ⟨m1', sa, sb, sm, -, -, -⟩ := id hl
    kby_none
    · exact absurd (hn.symm.trans (by assumption)) (by decide)
    refine Stp.mk fun s' l' v' e1 e2 e3 => ?_
    cases e1; rw [hs] at e3; cases e3
    kby_none
    · exact absurd (nx.symm.trans (by assumption)) (by decide)
    refine Stp.mk fun x' hx' hx2 hx3 => ?_
    obtain rfl := tx_inj ((sm60 hx).le (by decide)) (hx3.le (by decide)) hx'
    by_cases c : word = Str.ofString "part"
    · rw [if_pos c] at q
      kby_none
      all_goals first | exact q _ (by assumption) | exact absurd c (by assumption) | exact absurd (by assumption) c
    · rw [if_neg c] at q
      kby_none
      all_goals first | exact q _ (by assumption) | exact absurd c (by assumption) | exact absurd (by assumption) c
theorem ok_Desk_of_count {P : Program} {w : World} {K : PySem.W.Frag} {mg : Str → Option Value} {base : Heap} {ec : Nat → Addr} {CD : Addr} (T : Tx K mg ec CD) {f : Addr} {fd : FuncData} (F : Fun K "of_count" "Desk.of_count" s_Desk_of_count f fd) (hm : Meth K CD "of_count" f) (hb : Binds K fd ["self", "word", "some"] []) (d_Desk_named : Fm P w K mg base CD ec 2 "named" sp_Desk_named) (d_count_from : Fd P w K mg base (W0 ec) 3 "count_from" sp_count_from) (d_sum_rests : Fd P w K mg base (W0 ec) 6 "sum_rests" sp_sum_rests) (d_sum_parts : Fd P w K mg base (W0 ec) 5 "sum_parts" sp_sum_parts) (d_sum_squares : Fd P w K mg base (W0 ec) 7 "sum_squares" sp_sum_squares) (d_sum_placed : Fd P w K mg base (W0 ec) 7 "sum_placed" sp_sum_placed) :
    Fm P w K mg base CD ec 8 "of_count" sp_Desk_of_count := by
  have nd := sc_Desk_of_count.nd
  refine fmz F sc_Desk_of_count hm hb (by
    unfold sp_Desk_of_count; intro ds w Q Q' E E' k k'
    repeat' (first | exact Fin.mo (fun d w' => k d w') (fun e w' => k' e w') | exact id | exact k _ _ | exact k' _ _ | refine Exists.imp fun _ => ?_ | refine And.imp ?_ ?_ | refine Or.imp ?_ ?_ | refine Z.impR ?_ | refine Z.allR fun _ => ?_ | refine Z.Stp.imp ?_)) (by
    intro ds w' Q E h; unfold sp_Desk_of_count at h; obtain ⟨a, word, ws, r, rfl, -⟩ := h; rfl) (fun cdv A outer s H E hr =>
  (zb_cons (z_set 3 (z_meth d_Desk_named T.cD hr (z_var 0) (z_cons (z_var 2) (z_cons z_int z_nil))) nd)
  (zb_cons (z_set 4 (z_callP d_count_from hr (z_cons (z_ix ix_seq l_ix (z_var 2) z_int) z_nil)) nd)
  (zb_cons (z_if (z_tcmp (o_eq hr) l_eq (z_var 1) z_str)
  (zb_one (z_ret (z_newK (z_lst (z_cons (z_strC T.str_ (z_cons (z_callP d_sum_parts hr (z_cons (z_var 3) (z_cons (z_var 4) z_nil))) z_nil)) z_nil)))))
  zb_nil)
  (zb_cons (z_if (z_tcmp (o_eq hr) l_eq (z_var 1) z_str)
  (zb_one (z_ret (z_newK (z_lst (z_cons (z_strC T.str_ (z_cons (z_callP d_sum_squares hr (z_cons (z_var 3) (z_cons (z_var 4) z_nil))) z_nil)) z_nil)))))
  zb_nil)
  (zb_cons (z_if (z_tcmp (o_eq hr) l_eq (z_var 1) z_str)
  (zb_one (z_ret (z_newK (z_lst (z_cons (z_strC T.str_ (z_cons (z_callP d_sum_placed hr (z_cons (z_var 3) (z_cons (z_var 4) z_nil))) z_nil)) z_nil)))))
  zb_nil)
  (zb_one (z_ret (z_newK (z_lst (z_cons (z_strC T.str_ (z_cons (z_callP d_sum_rests hr (z_cons (z_var 3) (z_cons (z_var 4) z_nil))) z_nil)) z_nil))))))))))) ?_
  intro ds w Q E h
  unfold sp_Desk_of_count at h
  clear nd d_Desk_named d_count_from d_sum_rests d_sum_parts d_sum_squares d_sum_placed hb hm F T fd f ec base mg K CD
  obtain ⟨a, word, ws, r, rfl, ⟨hD, hkv, hw⟩, hr, q⟩ := h
  obtain ⟨d, hob⟩ := id hD
  rcases hr with ⟨hr, rfl⟩ | ⟨s, x, a1, b1, m1, rfl, x0, hx, hs, hl, rfl⟩
  · skip
    replace q : E 6 w := q
    by_cases hn : (decide ((2 : Int) = (ws.length : Int)) && hasB w.kv ws) = true
    rotate_left
    · have hn : (decide ((2 : Int) = (ws.length : Int)) && hasB w.kv ws) = false := by simpa using hn
      kby_none
      · exact q
      · exact Stp.mk fun s l v e1 e2 e3 => absurd (hn.symm.trans (nm_true e1 e2 e3)) (by decide)
    obtain ⟨s, t, v, rfl, hs⟩ := nm2 hn
    obtain ⟨a1, b1, m1, rfl, hl⟩ := hkv s v hs
    have ht := no2 hs hr
    have tl1 := hw.l t (List.mem_cons_of_mem _ List.mem_cons_self)
    kby_none
    · exact absurd (hn.symm.trans (by assumption)) (by decide)
    refine Stp.mk fun s' l' v' e1 e2 e3 => ?_
    cases e1; rw [hs] at e3; cases e3
    kby_none
    all_goals first | exact q | exact absurd (ht.symm.trans (by assumption)) (by decide)
  · replace q : ∀ p, wGet w.ls p = none → Q (.ref p) { w with ls := (p, [D.str (tx (cntV word a1 b1 m1 x))]) :: w.ls } := q
    have hn := nm_true (kv := w.kv) (ws := [s, tx x]) (many := 2) rfl rfl hs
    have tl1 := tx_sm hx
    have nx := (cntB_tx hx).trans (decide_eq_true x0)
    obtain ⟨m1', sa, sb, sm, -, -, -⟩ := id hl
    kby_none
    · exact absurd (hn.symm.trans (by assumption)) (by decide)
    refine Stp.mk fun s' l' v' e1 e2 e3 => ?_
    cases e1; rw [hs] at e3; cases e3
    kby_none
    · exact absurd (nx.symm.trans (by assumption)) (by decide)
    refine Stp.mk fun x' hx' x0p hx2 hx3 => ?_
    obtain rfl := tx_inj ((sm60 hx).le (by decide)) (hx3.le (by decide)) hx'
    have g : GoodL a1 b1 m1 x := ⟨m1', x0, sa.le (by decide), sb.le (by decide), sm.le (by decide), hx3.le (by decide)⟩
    have z1 := QS_sm hl hx
    have z2 := JS_sm hl hx
    have z3 := FSK_sm hl hx
    have z4 := RS_sm hl hx
    unfold cntV at q
    by_cases c1 : word = Str.ofString "sum"
    · rw [if_pos c1] at q
      kby_none
      all_goals first | exact q _ (by assumption) | exact absurd c1 (by assumption) | exact absurd (by assumption) c1
    rw [if_neg c1] at q
    by_cases c2 : word = Str.ofString "squares"
    · rw [if_pos c2] at q
      kby_none
      all_goals first | exact q _ (by assumption) | exact absurd c2 (by assumption) | exact absurd (by assumption) c1
    rw [if_neg c2] at q
    by_cases c3 : word = Str.ofString "placed"
    · rw [if_pos c3] at q
      kby_none
      all_goals first | exact q _ (by assumption) | exact absurd c3 (by assumption) | exact absurd (by assumption) c1 | exact absurd (by assumption) c2
    rw [if_neg c3] at q
    kby_none
    all_goals first | exact q _ (by assumption) | exact absurd (by assumption) c3 | exact absurd (by assumption) c1 | exact absurd (by assumption) c2
theorem ok_Desk_on_between {P : Program} {w : World} {K : PySem.W.Frag} {mg : Str → Option Value} {base : Heap} {ec : Nat → Addr} {CD : Addr} (T : Tx K mg ec CD) {f : Addr} {fd : FuncData} (F : Fun K "on_between" "Desk.on_between" s_Desk_on_between f fd) (hm : Meth K CD "on_between" f) (hb : Binds K fd ["self", "some"] []) (d_Desk_named : Fm P w K mg base CD ec 2 "named" sp_Desk_named) (d_number_from : Fd P w K mg base (W0 ec) 2 "number_from" sp_number_from) (d_sum_between : Fd P w K mg base (W0 ec) 6 "sum_between" sp_sum_between) :
    Fm P w K mg base CD ec 7 "on_between" sp_Desk_on_between := by
  have nd := sc_Desk_on_between.nd
  refine fmz F sc_Desk_on_between hm hb (by
    unfold sp_Desk_on_between; intro ds w Q Q' E E' k k'
    repeat' (first | exact Fin.mo (fun d w' => k d w') (fun e w' => k' e w') | exact id | exact k _ _ | exact k' _ _ | refine Exists.imp fun _ => ?_ | refine And.imp ?_ ?_ | refine Or.imp ?_ ?_ | refine Z.impR ?_ | refine Z.allR fun _ => ?_ | refine Z.Stp.imp ?_)) (by
    intro ds w' Q E h; unfold sp_Desk_on_between at h; obtain ⟨a, ws, r, rfl, -⟩ := h; rfl) (fun cdv A outer s H E hr =>
  (zb_cons (z_set 2 (z_meth d_Desk_named T.cD hr (z_var 0) (z_cons (z_var 1) (z_cons z_int z_nil))) nd)
  (zb_cons (z_set 3 (z_callP d_number_from hr (z_cons (z_ix ix_seq l_ix (z_var 1) z_int) z_nil)) nd)
  (zb_one (z_ret (z_newK (z_lst (z_cons (z_strC T.str_ (z_cons (z_callP d_sum_between hr (z_cons (z_var 2) (z_cons (z_var 3) (z_cons (z_callP d_number_from hr (z_cons (z_ix ix_seq l_ix (z_var 1) z_int) z_nil)) z_nil)))) z_nil)) z_nil)))))))) ?_
  intro ds w Q E h
  unfold sp_Desk_on_between at h
  clear nd d_Desk_named d_number_from d_sum_between hb hm F T fd f ec base mg K CD
  obtain ⟨a, ws, r, rfl, ⟨hD, hkv, hw⟩, hr, q⟩ := h
  obtain ⟨d, hob⟩ := id hD
  rcases hr with ⟨hr, rfl⟩ | ⟨s, x, y, a1, b1, m1, rfl, hx, hy, hs, hl, hr⟩
  · skip
    replace q : E 6 w := q
    by_cases hn : (decide ((3 : Int) = (ws.length : Int)) && hasB w.kv ws) = true
    rotate_left
    · have hn : (decide ((3 : Int) = (ws.length : Int)) && hasB w.kv ws) = false := by simpa using hn
      kby_none
      · exact q
      · exact Stp.mk fun s l v e1 e2 e3 => absurd (hn.symm.trans (nm_true e1 e2 e3)) (by decide)
    obtain ⟨s, t, u, v, rfl, hs⟩ := nm3 hn
    obtain ⟨a1, b1, m1, rfl, hl⟩ := hkv s v hs
    have ht := no3 hs hr
    have tl1 := hw.l t (List.mem_cons_of_mem _ List.mem_cons_self)
    have tl2 := hw.l u (List.mem_cons_of_mem _ (List.mem_cons_of_mem _ List.mem_cons_self))
    kby_none
    · exact absurd (hn.symm.trans (by assumption)) (by decide)
    refine Stp.mk fun s' l' v' e1 e2 e3 => ?_
    cases e1; rw [hs] at e3; cases e3
    kby_none
    · exact q
    rename_i hg
    refine Stp.mk fun x' hx1 hx2 hx3 => ?_
    kby_none
    · exact q
    · rename_i hg2
      rw [hg, hg2] at ht
      exact absurd ht (by decide)
  · skip
    have hn := nm_true (kv := w.kv) (ws := [s, tx x, tx y]) (many := 3) rfl rfl hs
    have tl1 := tx_sm hx
    have tl2 := tx_sm hy
    have nx := numB_tx hx
    have ny := numB_tx hy
    obtain ⟨m1', sa, sb, sm, -, -, -⟩ := id hl
    kby_none
    · exact absurd (hn.symm.trans (by assumption)) (by decide)
    refine Stp.mk fun s' l' v' e1 e2 e3 => ?_
    cases e1; rw [hs] at e3; cases e3
    kby_none
    · exact absurd (nx.symm.trans (by assumption)) (by decide)
    refine Stp.mk fun x' hx' hx2 hx3 => ?_
    obtain rfl := tx_inj ((sm60 hx).le (by decide)) (hx3.le (by decide)) hx'
    kby_none
    · exact absurd (ny.symm.trans (by assumption)) (by decide)
    refine Stp.mk fun y' hy' hy2 hy3 => ?_
    obtain rfl := tx_inj ((sm60 hy).le (by decide)) (hy3.le (by decide)) hy'
    rcases hr with ⟨hr, rfl⟩ | ⟨hr, rfl⟩
    · replace q : E 3 w := q
      kby_none
      all_goals first | exact q | (exfalso; omega)
    · replace q : ∀ p, wGet w.ls p = none → Q (.ref p) { w with ls := (p, [D.str (tx (FS a1 (a1 * x + b1) m1 (y - x).toNat))]) :: w.ls } := q
      have z := FS_sm (k := 411) m1' (show 0 ≤ y - x by omega) (sa.le (by decide)) (Sm.le ((sa.mul (hx3.le (show 200 ≤ 205 by decide))).add sb) (by decide)) (sm.le (by decide)) ((hy3.sub hx3).le (by decide))
      replace z := z.le (show 4 * 411 + 20 ≤ 1900 by decide)
      kby_none
      all_goals first | exact q _ (by assumption) | (exfalso; omega)
theorem ok_Desk_on_beneath {P : Program} {w : World} {K : PySem.W.Frag} {mg : Str → Option Value} {base : Heap} {ec : Nat → Addr} {CD : Addr} (T : Tx K mg ec CD) {f : Addr} {fd : FuncData} (F : Fun K "on_beneath" "Desk.on_beneath" s_Desk_on_beneath f fd) (hm : Meth K CD "on_beneath" f) (hb : Binds K fd ["self", "some"] []) (d_Desk_named : Fm P w K mg base CD ec 2 "named" sp_Desk_named) (d_count_from : Fd P w K mg base (W0 ec) 3 "count_from" sp_count_from) (d_rests_beneath : Fd P w K mg base (W0 ec) 7 "rests_beneath" sp_rests_beneath) (d_number_from : Fd P w K mg base (W0 ec) 2 "number_from" sp_number_from) :
    Fm P w K mg base CD ec 8 "on_beneath" sp_Desk_on_beneath := by
  have nd := sc_Desk_on_beneath.nd
  refine fmz F sc_Desk_on_beneath hm hb (by
    unfold sp_Desk_on_beneath; intro ds w Q Q' E E' k k'
    repeat' (first | exact Fin.mo (fun d w' => k d w') (fun e w' => k' e w') | exact id | exact k _ _ | exact k' _ _ | refine Exists.imp fun _ => ?_ | refine And.imp ?_ ?_ | refine Or.imp ?_ ?_ | refine Z.impR ?_ | refine Z.allR fun _ => ?_ | refine Z.Stp.imp ?_)) (by
    intro ds w' Q E h; unfold sp_Desk_on_beneath at h; obtain ⟨a, ws, r, rfl, -⟩ := h; rfl) (fun cdv A outer s H E hr =>
  (zb_cons (z_set 2 (z_meth d_Desk_named T.cD hr (z_var 0) (z_cons (z_var 1) (z_cons z_int z_nil))) nd)
  (zb_cons (z_set 3 (z_callP d_count_from hr (z_cons (z_ix ix_seq l_ix (z_var 1) z_int) z_nil)) nd)
  (zb_one (z_ret (z_newK (z_lst (z_cons (z_strC T.str_ (z_cons (z_callP d_rests_beneath hr (z_cons (z_var 2) (z_cons (z_var 3) (z_cons (z_callP d_number_from hr (z_cons (z_ix ix_seq l_ix (z_var 1) z_int) z_nil)) z_nil)))) z_nil)) z_nil)))))))) ?_
  intro ds w Q E h
  unfold sp_Desk_on_beneath at h
  clear nd d_Desk_named d_count_from d_rests_beneath d_number_from hb hm F T fd f ec base mg K CD
  obtain ⟨a, ws, r, rfl, ⟨hD, hkv, hw⟩, hr, q⟩ := h
  obtain ⟨d, hob⟩ := id hD
  rcases hr with ⟨hr, rfl⟩ | ⟨s, x, y, a1, b1, m1, rfl, x0, hx, hy, hs, hl, hr⟩
  · skip
    replace q : E 6 w := q
    by_cases hn : (decide ((3 : Int) = (ws.length : Int)) && hasB w.kv ws) = true
    rotate_left
    · have hn : (decide ((3 : Int) = (ws.length : Int)) && hasB w.kv ws) = false := by simpa using hn
      kby_none
      · exact q
      · exact Stp.mk fun s l v e1 e2 e3 => absurd (hn.symm.trans (nm_true e1 e2 e3)) (by decide)
    obtain ⟨s, t, u, v, rfl, hs⟩ := nm3 hn
    obtain ⟨a1, b1, m1, rfl, hl⟩ := hkv s v hs
    have ht := no3 hs hr
    have tl1 := hw.l t (List.mem_cons_of_mem _ List.mem_cons_self)
    have tl2 := hw.l u (List.mem_cons_of_mem _ (List.mem_cons_of_mem _ List.mem_cons_self))
    kby_none
    · exact absurd (hn.symm.trans (by assumption)) (by decide)
    refine Stp.mk fun s' l' v' e1 e2 e3 => ?_
    cases e1; rw [hs] at e3; cases e3
    kby_none
    · exact q
    rename_i hg
    refine Stp.mk fun x' hx1 x0p hx2 hx3 => ?_
    kby_none
    · exact q
    · rename_i hg2
      rw [hg, hg2] at ht
      exact absurd ht (by decide)
  · skip
    have hn := nm_true (kv := w.kv) (ws := [s, tx x, tx y]) (many := 3) rfl rfl hs
    have tl1 := tx_sm hx
    have tl2 := tx_sm hy
    have nx := (cntB_tx hx).trans (decide_eq_true x0)
    have ny := numB_tx hy
    obtain ⟨m1', sa, sb, sm, -, -, -⟩ := id hl
    kby_none
    · exact absurd (hn.symm.trans (by assumption)) (by decide)
    refine Stp.mk fun s' l' v' e1 e2 e3 => ?_
    cases e1; rw [hs] at e3; cases e3
    kby_none
    · exact absurd (nx.symm.trans (by assumption)) (by decide)
    refine Stp.mk fun x' hx' x0p hx2 hx3 => ?_
    obtain rfl := tx_inj ((sm60 hx).le (by decide)) (hx3.le (by decide)) hx'
    kby_none
    · exact absurd (ny.symm.trans (by assumption)) (by decide)
    refine Stp.mk fun y' hy' hy2 hy3 => ?_
    obtain rfl := tx_inj ((sm60 hy).le (by decide)) (hy3.le (by decide)) hy'
    subst hr
    replace q : ∀ p, wGet w.ls p = none → Q (.ref p) { w with ls := (p, [D.str (tx (CB a1 b1 m1 y x.toNat))]) :: w.ls } := q
    have z := CB_sm (t := y) hl hx
    kby_none
    all_goals first | exact q _ (by assumption) | (exfalso; omega)
theorem ok_Desk_on_within {P : Program} {w : World} {K : PySem.W.Frag} {mg : Str → Option Value} {base : Heap} {ec : Nat → Addr} {CD : Addr} (T : Tx K mg ec CD) {f : Addr} {fd : FuncData} (F : Fun K "on_within" "Desk.on_within" s_Desk_on_within f fd) (hm : Meth K CD "on_within" f) (hb : Binds K fd ["self", "some"] []) (d_Desk_named : Fm P w K mg base CD ec 2 "named" sp_Desk_named) (d_number_from : Fd P w K mg base (W0 ec) 2 "number_from" sp_number_from) (d_first_within : Fd P w K mg base (W0 ec) 3 "first_within" sp_first_within) :
    Fm P w K mg base CD ec 4 "on_within" sp_Desk_on_within := by
  have nd := sc_Desk_on_within.nd
  refine fmz F sc_Desk_on_within hm hb (by
    unfold sp_Desk_on_within; intro ds w Q Q' E E' k k'
    repeat' (first | exact Fin.mo (fun d w' => k d w') (fun e w' => k' e w') | exact id | exact k _ _ | exact k' _ _ | refine Exists.imp fun _ => ?_ | refine And.imp ?_ ?_ | refine Or.imp ?_ ?_ | refine Z.impR ?_ | refine Z.allR fun _ => ?_ | refine Z.Stp.imp ?_)) (by
    intro ds w' Q E h; unfold sp_Desk_on_within at h; obtain ⟨a, ws, r, rfl, -⟩ := h; rfl) (fun cdv A outer s H E hr =>
  (zb_cons (z_set 2 (z_meth d_Desk_named T.cD hr (z_var 0) (z_cons (z_var 1) (z_cons z_int z_nil))) nd)
  (zb_cons (z_set 3 (z_callP d_number_from hr (z_cons (z_ix ix_seq l_ix (z_var 1) z_int) z_nil)) nd)
  (zb_cons (z_set 4 (z_callP d_first_within hr (z_cons (z_var 2) (z_cons (z_var 3) (z_cons (z_callP d_number_from hr (z_cons (z_ix ix_seq l_ix (z_var 1) z_int) z_nil)) z_nil)))) nd)
  (zb_one (z_ret (z_ifE (z_tcmp op_isN l_isN (z_var 4) z_non) (z_newK (z_lst z_nil)) (z_newK (z_lst (z_cons (z_strC T.str_ (z_cons (z_var 4) z_nil)) z_nil)))))))))) ?_
  intro ds w Q E h
  unfold sp_Desk_on_within at h
  clear nd d_Desk_named d_number_from d_first_within hb hm F T fd f ec base mg K CD
  obtain ⟨a, ws, r, rfl, ⟨hD, hkv, hw⟩, hr, q⟩ := h
  obtain ⟨d, hob⟩ := id hD
  rcases hr with ⟨hr, rfl⟩ | ⟨s, x, y, a1, b1, m1, rfl, hx, hy, hs, hl, hr⟩
  · skip
    replace q : E 6 w := q
    by_cases hn : (decide ((3 : Int) = (ws.length : Int)) && hasB w.kv ws) = true
    rotate_left
    · have hn : (decide ((3 : Int) = (ws.length : Int)) && hasB w.kv ws) = false := by simpa using hn
      kby_none
      · exact q
      · exact Stp.mk fun s l v e1 e2 e3 => absurd (hn.symm.trans (nm_true e1 e2 e3)) (by decide)
    obtain ⟨s, t, u, v, rfl, hs⟩ := nm3 hn
    obtain ⟨a1, b1, m1, rfl, hl⟩ := hkv s v hs
    have ht := no3 hs hr
    have tl1 := hw.l t (List.mem_cons_of_mem _ List.mem_cons_self)
    have tl2 := hw.l u (List.mem_cons_of_mem _ (List.mem_cons_of_mem _ List.mem_cons_self))
    kby_none
    · exact absurd (hn.symm.trans (by assumption)) (by decide)
    refine Stp.mk fun s' l' v' e1 e2 e3 => ?_
    cases e1; rw [hs] at e3; cases e3
    kby_none
    · exact q
    rename_i hg
    refine Stp.mk fun x' hx1 hx2 hx3 => ?_
    kby_none
    · exact q
    · rename_i hg2
      rw [hg, hg2] at ht
      exact absurd ht (by decide)
  · skip
    have hn := nm_true (kv := w.kv) (ws := [s, tx x, tx y]) (many := 3) rfl rfl hs
    have tl1 := tx_sm hx
    have tl2 := tx_sm hy
    have nx := numB_tx hx
    have ny := numB_tx hy
    obtain ⟨m1', sa, sb, sm, -, -, -⟩ := id hl
    kby_none
    · exact absurd (hn.symm.trans (by assumption)) (by decide)
    refine Stp.mk fun s' l' v' e1 e2 e3 => ?_
    cases e1; rw [hs] at e3; cases e3
    kby_none
    · exact absurd (nx.symm.trans (by assumption)) (by decide)
    refine Stp.mk fun x' hx' hx2 hx3 => ?_
    obtain rfl := tx_inj ((sm60 hx).le (by decide)) (hx3.le (by decide)) hx'
    kby_none
    · exact absurd (ny.symm.trans (by assumption)) (by decide)
    refine Stp.mk fun y' hy' hy2 hy3 => ?_
    obtain rfl := tx_inj ((sm60 hy).le (by decide)) (hy3.le (by decide)) hy'
    rcases hr with ⟨hr, rfl⟩ | ⟨hr, d0, hd0, rfl⟩
    · replace q : E 3 w := q
      kby_none
      all_goals first | exact q | (exfalso; omega) | (exact absurd (by assumption) hr)
    · kby_none
      · exact absurd hr (by assumption)
      refine Stp.mk fun d1 h1 => ?_
      obtain rfl := hd0 d1 h1
      rcases h1 with ⟨f, rfl, hf⟩ | ⟨rfl, -⟩
      · replace q : ∀ p, wGet w.ls p = none → Q (.ref p) { w with ls := (p, [D.str (tx f)]) :: w.ls } := q
        have fl := hf.lt (show 0 < m1 by omega)
        have sf : Sm 1900 f := (sm.of_le hf.x0 (by omega)).le (by decide)
        kby_none
        all_goals first | exact q _ (by assumption) | (rename_i g; exact absurd g (by decide))
      · replace q : ∀ p, wGet w.ls p = none → Q (.ref p) { w with ls := (p, []) :: w.ls } := q
        kby_none
        all_goals first | exact q _ (by assumption) | (rename_i g; exact absurd g (by decide))
theorem ok_Desk_on_order {P : Program} {w : World} {K : PySem.W.Frag} {mg : Str → Option Value} {base : Heap} {ec : Nat → Addr} {CD : Addr} (T : Tx K mg ec CD) {f : Addr} {fd : FuncData} (F : Fun K "on_order" "Desk.on_order" s_Desk_on_order f fd) (hm : Meth K CD "on_order" f) (hb : Binds K fd ["self", "some"] []) (d_Desk_named : Fm P w K mg base CD ec 2 "named" sp_Desk_named) (d_count_from : Fd P w K mg base (W0 ec) 3 "count_from" sp_count_from) (d_in_order : Fd P w K mg base (W0 ec) 7 "in_order" sp_in_order) (d_number_from : Fd P w K mg base (W0 ec) 2 "number_from" sp_number_from) :
    Fm P w K mg base CD ec 8 "on_order" sp_Desk_on_order := by
  have nd := sc_Desk_on_order.nd
  refine fmz F sc_Desk_on_order hm hb (by
    unfold sp_Desk_on_order; intro ds w Q Q' E E' k k'
    repeat' (first | exact Fin.mo (fun d w' => k d w') (fun e w' => k' e w') | exact id | exact k _ _ | exact k' _ _ | refine Exists.imp fun _ => ?_ | refine And.imp ?_ ?_ | refine Or.imp ?_ ?_ | refine Z.impR ?_ | refine Z.allR fun _ => ?_ | refine Z.Stp.imp ?_)) (by
    intro ds w' Q E h; unfold sp_Desk_on_order at h; obtain ⟨a, ws, r, rfl, -⟩ := h; rfl) (fun cdv A outer s H E hr =>
  (zb_cons (z_set 2 (z_meth d_Desk_named T.cD hr (z_var 0) (z_cons (z_var 1) (z_cons z_int z_nil))) nd)
  (zb_cons (z_set 3 (z_callP d_count_from hr (z_cons (z_ix ix_seq l_ix (z_var 1) z_int) z_nil)) nd)
  (zb_cons (z_asg (z_callP d_in_order hr (z_cons (z_var 2) (z_cons (z_var 3) (z_cons (z_callP d_number_from hr (z_cons (z_ix ix_seq l_ix (z_var 1) z_int) z_nil)) z_nil)))) (g_tup (gs_cons 4 nd (gs_cons 5 nd gs_nil))))
  (zb_one (z_ret (z_newK (z_lst (z_cons (z_op o_add l_add (z_op o_add l_add (z_strC T.str_ (z_cons (z_var 4) z_nil)) z_str) (z_strC T.str_ (z_cons (z_var 5) z_nil))) z_nil))))))))) ?_
  intro ds w Q E h
  unfold sp_Desk_on_order at h
  clear nd d_Desk_named d_count_from d_in_order d_number_from hb hm F T fd f ec base mg K CD
  obtain ⟨a, ws, r, rfl, ⟨hD, hkv, hw⟩, hr, q⟩ := h
  obtain ⟨d, hob⟩ := id hD
  rcases hr with ⟨hr, rfl⟩ | ⟨s, x, y, a1, b1, m1, rfl, x0, hx, hy, hs, hl, hr⟩
  · skip
    replace q : E 6 w := q
    by_cases hn : (decide ((3 : Int) = (ws.length : Int)) && hasB w.kv ws) = true
    rotate_left
    · have hn : (decide ((3 : Int) = (ws.length : Int)) && hasB w.kv ws) = false := by simpa using hn
      kby_none
      · exact q
      · exact Stp.mk fun s l v e1 e2 e3 => absurd (hn.symm.trans (nm_true e1 e2 e3)) (by decide)
    obtain ⟨s, t, u, v, rfl, hs⟩ := nm3 hn
    obtain ⟨a1, b1, m1, rfl, hl⟩ := hkv s v hs
    have ht := no3 hs hr
    have tl1 := hw.l t (List.mem_cons_of_mem _ List.mem_cons_self)
    have tl2 := hw.l u (List.mem_cons_of_mem _ (List.mem_cons_of_mem _ List.mem_cons_self))
    kby_none
    · exact absurd (hn.symm.trans (by assumption)) (by decide)
    refine Stp.mk fun s' l' v' e1 e2 e3 => ?_
    cases e1; rw [hs] at e3; cases e3
    kby_none
    · exact q
    rename_i hg
    refine Stp.mk fun x' hx1 x0p hx2 hx3 => ?_
    kby_none
    · exact q
    · rename_i hg2
      rw [hg, hg2] at ht
      exact absurd ht (by decide)
  · skip
    have hn := nm_true (kv := w.kv) (ws := [s, tx x, tx y]) (many := 3) rfl rfl hs
    have tl1 := tx_sm hx
    have tl2 := tx_sm hy
    have nx := (cntB_tx hx).trans (decide_eq_true x0)
    have ny := numB_tx hy
    obtain ⟨m1', sa, sb, sm, -, -, -⟩ := id hl
    kby_none
    · exact absurd (hn.symm.trans (by assumption)) (by decide)
    refine Stp.mk fun s' l' v' e1 e2 e3 => ?_
    cases e1; rw [hs] at e3; cases e3
    kby_none
    · exact absurd (nx.symm.trans (by assumption)) (by decide)
    refine Stp.mk fun x' hx' x0p hx2 hx3 => ?_
    obtain rfl := tx_inj ((sm60 hx).le (by decide)) (hx3.le (by decide)) hx'
    kby_none
    · exact absurd (ny.symm.trans (by assumption)) (by decide)
    refine Stp.mk fun y' hy' hy2 hy3 => ?_
    obtain rfl := tx_inj ((sm60 hy).le (by decide)) (hy3.le (by decide)) hy'
    rcases hr with ⟨hr, rfl⟩ | ⟨hr, r1, p1, hd0, rfl⟩
    · replace q : E 4 w := q
      kby_none
      all_goals first | exact q | (exfalso; omega) | (exact absurd (by assumption) hr)
    · kby_none
      · exact absurd hr (by assumption)
      refine Stp.mk fun r2 p2 ho => ?_
      obtain ⟨rfl, rfl⟩ := hd0 r2 p2 ho
      replace q : ∀ p, wGet w.ls p = none → Q (.ref p) { w with ls := (p, [D.str (tx r2 ++ (" " : Str) ++ tx p2)]) :: w.ls } := q
      have r0 := Int.emod_nonneg (a1 * p2 + b1) (show m1 ≠ 0 by omega)
      have r1 := Int.emod_lt_of_pos (a1 * p2 + b1) (show 0 < m1 by omega)
      rw [ho.at'] at r0 r1
      have sr : Sm 1900 r2 := (sm.of_le r0 (by omega)).le (by decide)
      have sp : Sm 1900 p2 := (hx3.of_le ho.p0 (by have := ho.pn; omega)).le (by decide)
      have l1 := tx_length sr
      have l2 := tx_length sp
      have l0 : (" " : Str).length = 1 := rfl
      have f1 : (tx r2).length + (" " : Str).length ≤ 16777216 := by omega
      have f2 : (tx r2 ++ (" " : Str)).length + (tx p2).length ≤ 16777216 := by
        have : (tx r2 ++ (" " : Str)).length = (tx r2).length + (" " : Str).length := app_len _ _
        omega
      kby_none
      all_goals first | exact f1 | exact f2 | exact q _ (by assumption)
theorem ok_Desk_on_points {P : Program} {w : World} {K : PySem.W.Frag} {mg : Str → Option Value} {base : Heap} {ec : Nat → Addr} {CD : Addr} (T : Tx K mg ec CD) {f : Addr} {fd : FuncData} (F : Fun K "on_points" "Desk.on_points" s_Desk_on_points f fd) (hm : Meth K CD "on_points" f) (hb : Binds K fd ["self", "some"] []) (d_need : Fd P w K mg base (W0 ec) 1 "need" sp_need) (d_number_from : Fd P w K mg base (W0 ec) 2 "number_from" sp_number_from) (d_points_between : Fd P w K mg base (W0 ec) 7 "points_between" sp_points_between) :
    Fm P w K mg base CD ec 8 "on_points" sp_Desk_on_points := by
  have nd := sc_Desk_on_points.nd
  refine fmz F sc_Desk_on_points hm hb (by
    unfold sp_Desk_on_points; intro ds w Q Q' E E' k k'
    repeat' (first | exact Fin.mo (fun d w' => k d w') (fun e w' => k' e w') | exact id | exact k _ _ | exact k' _ _ | refine Exists.imp fun _ => ?_ | refine And.imp ?_ ?_ | refine Or.imp ?_ ?_ | refine Z.impR ?_ | refine Z.allR fun _ => ?_ | refine Z.Stp.imp ?_)) (by
    intro ds w' Q E h; unfold sp_Desk_on_points at h; obtain ⟨a, ws, r, rfl, -⟩ := h; rfl) (fun cdv A outer s H E hr =>
  (zb_cons (z_drop (z_callP d_need hr (z_cons (z_andV (z_cmp op_ge l_ge (z_len T.len_ (z_cons (z_var 1) z_nil)) z_int) (z_one (z_cmp (o_eq hr) l_eq (z_lcnt (z_var 1) (z_cons z_str z_nil)) z_int))) z_nil)))
  (zb_cons (z_set 2 (z_lidx (z_var 1) (z_cons z_str z_nil)) nd)
  (zb_cons (z_set 3 (z_fz (z_lst (z_cons (z_fz (z_slL (z_var 1) (z_oS z_int) (z_oS (z_var 2)))) (z_cons (z_fz (z_slL (z_var 1) (z_oS (z_op o_add l_add (z_var 2) z_int)) z_oN)) z_nil)))) nd)
  (zb_cons (z_own 4 (z_lst z_nil) nd)
  (zb_cons (z_forL (z_var 3) (g_name 5 nd)
  (zb_cons (z_drop (z_callP d_need hr (z_cons (z_andV (z_cmp op_ge l_ge (z_len T.len_ (z_cons (z_var 5) z_nil)) z_int) (z_andV (z_cmp op_le l_le (z_len T.len_ (z_cons (z_var 5) z_nil)) z_int) (z_one (z_all T.all_ (z_cons (z_fz (z_lcL (own := [("name", 7)]) (ok := by show blkC ["self", "some", "cut", "names", "sides", "row", "low", "name"] (defScope s_Desk_on_points) _ _ = true; decide +kernel) (z_var 5) (c_ok (gzt := (gg_name 7)) (fun _ _ _ _ _ => (g_name 7 nd).pg) (fun _ _ _ _ _ => (z_lin T.cD T.nD hr (z_var 7) (z_var 0)))) nd)) z_nil))))) z_nil)))
  (zb_one (z_appO 4 (z_tupC T.tuple_ (z_cons (z_fz (z_lcL (own := [("name", 7)]) (ok := by show blkC ["self", "some", "cut", "names", "sides", "row", "low", "name"] (defScope s_Desk_on_points) _ _ = true; decide +kernel) (z_var 5) (c_ok (gzt := (gg_name 7)) (fun _ _ _ _ _ => (g_name 7 nd).pg) (fun _ _ _ _ _ => (z_lget T.cD T.nD hr (z_var 0) (z_var 7)))) nd)) z_nil))))))
  (zb_cons (z_set 6 (z_callP d_number_from hr (z_cons (z_ix ix_seq l_ix (z_var 1) z_int) z_nil)) nd)
  (zb_one (z_ret (z_newK (z_lst (z_cons (z_strC T.str_ (z_cons (z_callP d_points_between hr (z_cons (z_ixO 4 z_int) (z_cons (z_ixO 4 z_int) (z_cons (z_var 6) (z_cons (z_callP d_number_from hr (z_cons (z_ix ix_seq l_ix (z_var 1) z_int) z_nil)) z_nil))))) z_nil)) z_nil)))))))))))) ?_
  intro ds w Q E h
  unfold sp_Desk_on_points at h
  clear nd d_need d_number_from d_points_between hb hm F T fd f ec base mg K CD
  obtain ⟨a, ws, r, rfl, ⟨hD, hkv, hw⟩, hr, q⟩ := h
  obtain ⟨d, hob⟩ := id hD
  have lm : ((ws.map D.str).length : Int) = ws.length := by rw [List.length_map]
  have okw := okFs_strs ws
  have cw := cnt_strs ws
  by_cases c1 : 5 ≤ ws.length
  rotate_left
  · have q6 := pt6 hr (by unfold wfPB; rw [decide_eq_false c1]; rfl) q
    kby_none
    all_goals first | exact q6 | exact okw | (exfalso; omega)
  by_cases c2 : ws.countP (fun s => decide (s = semi)) = 1
  rotate_left
  · have q6 := pt6 hr (by unfold wfPB; rw [decide_eq_false c2, Bool.false_and, Bool.and_false]) q
    kby_none
    all_goals first | exact q6 | exact okw | (exfalso; omega) | (exfalso; rename_i g; exact c2 (by have g2 := Int.ofNat.inj g; rw [← cw]; exact g2))
  have hj := cutJ_lt c2
  have ea := cutA c1 hj
  have ez := cutZ hj
  have cw1 : ((ws.map D.str).countP (fun z => eqF z (D.str semi)) : Int) = 1 := by rw [cw, c2]; rfl
  kby_none
  rotate_left
  · exact absurd cw1 (by assumption)
  refine ⟨cutJ ws, D.str semi, by rw [List.getElem?_map, cutJ_at hj]; rfl, (eqF_str _ _).trans (decide_eq_true rfl), fun i z hi hz => ?_, ?_⟩
  · rw [List.getElem?_map] at hz
    obtain ⟨x, hx, rfl⟩ := Option.map_eq_some_iff.mp hz
    exact (eqF_str _ _).trans (decide_eq_false (cutJ_no hi hx))
  kby_none
  rw [ea, ez]
  have okA := okFs_strs (rowA ws)
  have okZ := okFs_strs (rowZ ws)
  have lA : ((rowA ws).map D.str).length = (rowA ws).length := List.length_map ..
  have lZ : ((rowZ ws).map D.str).length = (rowZ ws).length := List.length_map ..
  change zLoop [D.lst ((rowA ws).map D.str), D.lst ((rowZ ws).map D.str)] _ _ _ _ _
  refine un_loop ?_
  obtain ⟨t0, h0⟩ : ∃ t, ws[0]? = some t := ⟨_, List.getElem?_eq_getElem (by omega)⟩
  obtain ⟨t1, h1⟩ : ∃ t, ws[1]? = some t := ⟨_, List.getElem?_eq_getElem (by omega)⟩
  have a0 : atI (List.map D.str ws) 0 = some (.str t0) := strs_at (k := 0) h0
  have a1 : atI (List.map D.str ws) 1 = some (.str t1) := strs_at (k := 1) h1
  have tl0 := hw.l t0 (List.mem_of_getElem? h0)
  have tl1 := hw.l t1 (List.mem_of_getElem? h1)
  cases bA : rowB w.kv (rowA ws) with
  | false =>
    have q6 := pt6 hr (by unfold wfPB; rw [bA]; simp) q
    kby_none
    all_goals try exact q6
    refine ⟨fun i acc w' => w = w' ∧ acc = ((((rowA ws).take i).map fun s => (w.kv s).isSome)).map D.bl, ⟨rfl, rfl⟩, fun i x acc w' hx hI => ?_, fun acc w' hI => ?_⟩
    · obtain ⟨rfl, rfl⟩ := hI
      rw [List.getElem?_map] at hx
      obtain ⟨s, hs, rfl⟩ := Option.map_eq_some_iff.mp hx
      kby_none
      exact bls_snocS (fun s => (w.kv s).isSome) hs
    obtain ⟨rfl, rfl⟩ := hI
    rw [lA, List.take_length]
    try unfold zNil
    refine bls_allS (b := false) (rowB_no bA (by omega) (by omega)) ?_
    kby_none
    exact q6
  | true =>
  obtain ⟨gA1, gA2, gA3⟩ := rowB_ok bA
  obtain ⟨la, sA, kA⟩ := sees_of hkv gA3
  have okA' := lsOk bA sA kA
  kby_none
  refine ⟨fun i acc w' => w = w' ∧ acc = ((((rowA ws).take i).map fun s => (w.kv s).isSome)).map D.bl, ⟨rfl, rfl⟩, fun i x acc w' hx hI => ?_, fun acc w' hI => ?_⟩
  · obtain ⟨rfl, rfl⟩ := hI
    rw [List.getElem?_map] at hx
    obtain ⟨s, hs, rfl⟩ := Option.map_eq_some_iff.mp hx
    kby_none
    exact bls_snocS (fun s => (w.kv s).isSome) hs
  obtain ⟨rfl, rfl⟩ := hI
  rw [lA, List.take_length]
  try unfold zNil
  refine bls_allS (b := true) gA3 ?_
  kby_none
  refine ⟨fun i acc w' => w = w' ∧ acc = ((la).take i).map lnP, ⟨rfl, rfl⟩, fun i x acc w' hx hI => ?_, fun acc w' hI => ?_⟩
  · obtain ⟨rfl, rfl⟩ := hI
    rw [List.getElem?_map] at hx
    obtain ⟨s, hs, rfl⟩ := Option.map_eq_some_iff.mp hx
    obtain ⟨p, hp, hk⟩ := sA.at' hs
    kby_none
    exact lnP_snoc hp
  obtain ⟨rfl, rfl⟩ := hI
  rw [lA, ← sA.len, List.take_length]
  cases bZ : rowB w.kv (rowZ ws) with
  | false =>
    have q6 := pt6 hr (by unfold wfPB; rw [bZ]; simp) q
    kby_none
    all_goals try exact q6
    refine ⟨fun i acc w' => w = w' ∧ acc = ((((rowZ ws).take i).map fun s => (w.kv s).isSome)).map D.bl, ⟨rfl, rfl⟩, fun i x acc w' hx hI => ?_, fun acc w' hI => ?_⟩
    · obtain ⟨rfl, rfl⟩ := hI
      rw [List.getElem?_map] at hx
      obtain ⟨s, hs, rfl⟩ := Option.map_eq_some_iff.mp hx
      kby_none
      exact bls_snocS (fun s => (w.kv s).isSome) hs
    obtain ⟨rfl, rfl⟩ := hI
    rw [lZ, List.take_length]
    try unfold zNil
    refine bls_allS (b := false) (rowB_no bZ (by omega) (by omega)) ?_
    kby_none
    exact q6
  | true =>
  obtain ⟨gZ1, gZ2, gZ3⟩ := rowB_ok bZ
  obtain ⟨lb, sZ, kZ⟩ := sees_of hkv gZ3
  have okZ' := lsOk bZ sZ kZ
  kby_none
  refine ⟨fun i acc w' => w = w' ∧ acc = ((((rowZ ws).take i).map fun s => (w.kv s).isSome)).map D.bl, ⟨rfl, rfl⟩, fun i x acc w' hx hI => ?_, fun acc w' hI => ?_⟩
  · obtain ⟨rfl, rfl⟩ := hI
    rw [List.getElem?_map] at hx
    obtain ⟨s, hs, rfl⟩ := Option.map_eq_some_iff.mp hx
    kby_none
    exact bls_snocS (fun s => (w.kv s).isSome) hs
  obtain ⟨rfl, rfl⟩ := hI
  rw [lZ, List.take_length]
  try unfold zNil
  refine bls_allS (b := true) gZ3 ?_
  kby_none
  refine ⟨fun i acc w' => w = w' ∧ acc = ((lb).take i).map lnP, ⟨rfl, rfl⟩, fun i x acc w' hx hI => ?_, fun acc w' hI => ?_⟩
  · obtain ⟨rfl, rfl⟩ := hI
    rw [List.getElem?_map] at hx
    obtain ⟨s, hs, rfl⟩ := Option.map_eq_some_iff.mp hx
    obtain ⟨p, hp, hk⟩ := sZ.at' hs
    kby_none
    exact lnP_snoc hp
  obtain ⟨rfl, rfl⟩ := hI
  rw [lZ, ← sZ.len, List.take_length]
  kby_none
  · rename_i g
    exact pt6 hr (by unfold wfPB nthB; rw [h0]; dsimp only; rw [g]; simp) q
  rename_i g0
  refine Stp.mk fun x hx hx2 hx3 => ?_
  kby_none
  · rename_i g
    exact pt6 hr (by unfold wfPB nthB; rw [h1]; dsimp only; rw [g]; simp) q
  rename_i g1
  refine Stp.mk fun y hy hy2 hy3 => ?_
  have wf : wfPB w.kv ws = true := by unfold wfPB nthB; rw [decide_eq_true c1, decide_eq_true c2, bA, bZ, h0, h1]; dsimp only; rw [g0, g1]; rfl
  rcases hr with ⟨hr, _⟩ | ⟨_, lo, hi, la', lb', e0, e1, hlo, hhi, sA', sZ', -, -, hr⟩
  · rw [wf] at hr; cases hr
  obtain rfl := sA.uniq sA'
  obtain rfl := sZ.uniq sZ'
  rw [h0] at e0
  rw [h1] at e1
  obtain rfl := tx_inj (hx3.le (by decide)) ((sm60 hlo).le (by decide)) (hx.symm.trans (Option.some.inj e0))
  obtain rfl := tx_inj (hy3.le (by decide)) ((sm60 hhi).le (by decide)) (hy.symm.trans (Option.some.inj e1))
  have ps := pts_sm okA' okZ' hlo hhi
  conv => whnf
  refine ⟨la, lb, x, y, rfl, ⟨okA'.l1, okA'.l8, okZ'.l1, okZ'.l8, okA'.bothS okZ'⟩, fun ⟨p, hp, c⟩ => absurd (okA'.both okZ' p hp) (by omega), fun _ => ⟨fun c => ?_, fun c => ⟨⟨okA', okZ', by rw [sA.len, sZ.len]; omega, hx3.le (by decide), hy3.le (by decide)⟩, ?_⟩⟩⟩
  · rcases hr with ⟨_, rfl⟩ | ⟨c2, _⟩
    · exact q
    · exfalso; omega
  · rcases hr with ⟨c2, _⟩ | ⟨_, rfl⟩
    · exfalso; omega
    · replace q : ∀ p, wGet w.ls p = none → Q (.ref p) { w with ls := (p, [D.str (tx (pts la lb x (y - x).toNat))]) :: w.ls } := q
      kby_none
      exact q _ (by assumption)
theorem ok_Desk_on_paper {P : Program} {w : World} {K : PySem.W.Frag} {mg : Str → Option Value} {base : Heap} {ec : Nat → Addr} {CD : Addr} (T : Tx K mg ec CD) {f : Addr} {fd : FuncData} (F : Fun K "on_paper" "Desk.on_paper" s_Desk_on_paper f fd) (hm : Meth K CD "on_paper" f) (hb : Binds K fd ["self", "some"] []) (d_Desk_named : Fm P w K mg base CD ec 2 "named" sp_Desk_named) (d_sum_paper : Fd P w K mg base (W0 ec) 5 "sum_paper" sp_sum_paper) (d_count_from : Fd P w K mg base (W0 ec) 3 "count_from" sp_count_from) :
    Fm P w K mg base CD ec 6 "on_paper" sp_Desk_on_paper := by
  have nd := sc_Desk_on_paper.nd
  refine fmz F sc_Desk_on_paper hm hb (by
    unfold sp_Desk_on_paper; intro ds w Q Q' E E' k k'
    repeat' (first | exact Fin.mo (fun d w' => k d w') (fun e w' => k' e w') | exact id | exact k _ _ | exact k' _ _ | refine Exists.imp fun _ => ?_ | refine And.imp ?_ ?_ | refine Or.imp ?_ ?_ | refine Z.impR ?_ | refine Z.allR fun _ => ?_ | refine Z.Stp.imp ?_)) (by
    intro ds w' Q E h; unfold sp_Desk_on_paper at h; obtain ⟨a, ws, r, rfl, -⟩ := h; rfl) (fun cdv A outer s H E hr =>
  (zb_cons (z_set 2 (z_meth d_Desk_named T.cD hr (z_var 0) (z_cons (z_var 1) (z_cons z_int z_nil))) nd)
  (zb_cons (z_own 3 (z_lst z_nil) nd)
  (zb_cons (z_forT (z_callP d_sum_paper hr (z_cons (z_var 2) (z_cons (z_callP d_count_from hr (z_cons (z_ix ix_seq l_ix (z_var 1) z_int) z_nil)) z_nil))) (g_tup (gs_cons 4 nd (gs_cons 5 nd (gs_cons 6 nd gs_nil))))
  (zb_one (z_appO 3 (z_tjoin z_str (z_cons (z_fz (z_lcT (own := [("number", 7)]) (ok := by show blkC ["self", "some", "line", "found", "count", "there", "total", "number"] (defScope s_Desk_on_paper) _ _ = true; decide +kernel) (z_op o_add l_add (z_op o_add l_add (z_tup (z_cons (z_var 4) z_nil)) (z_var 5)) (z_tup (z_cons (z_var 6) z_nil))) (c_ok (gzt := (gg_name 7)) (fun _ _ _ _ _ => (g_name 7 nd).pg) (fun _ _ _ _ _ => (z_strC T.str_ (z_cons (z_var 7) z_nil)))) nd)) z_nil)))))
  (zb_toK 3 (zb_one (z_ret (z_var 3)))))))) ?_
  intro ds w Q E h
  unfold sp_Desk_on_paper at h
  clear nd d_Desk_named d_sum_paper d_count_from hb hm F T fd f ec base mg K CD
  obtain ⟨a, ws, r, rfl, ⟨hD, hkv, hw⟩, hr, q⟩ := h
  obtain ⟨d, hob⟩ := id hD
  rcases hr with ⟨hr, rfl⟩ | ⟨s, x, a1, b1, m1, L, rfl, x0, hx, hs, hl, hL, rfl⟩
  · skip
    replace q : E 6 w := q
    by_cases hn : (decide ((2 : Int) = (ws.length : Int)) && hasB w.kv ws) = true
    rotate_left
    · have hn : (decide ((2 : Int) = (ws.length : Int)) && hasB w.kv ws) = false := by simpa using hn
      kby_none
      · exact q
      · exact Stp.mk fun s l v e1 e2 e3 => absurd (hn.symm.trans (nm_true e1 e2 e3)) (by decide)
    obtain ⟨s, t, v, rfl, hs⟩ := nm2 hn
    obtain ⟨a1, b1, m1, rfl, hl⟩ := hkv s v hs
    have ht := no2 hs hr
    have tl1 := hw.l t (List.mem_cons_of_mem _ List.mem_cons_self)
    kby_none
    · exact absurd (hn.symm.trans (by assumption)) (by decide)
    refine Stp.mk fun s' l' v' e1 e2 e3 => ?_
    cases e1; rw [hs] at e3; cases e3
    kby_none
    all_goals first | exact q | exact absurd (ht.symm.trans (by assumption)) (by decide)
  · replace q : ∀ p, wGet w.ls p = none → Q (.ref p) { w with ls := (p, (L.map rowS).map D.str) :: w.ls } := q
    obtain ⟨hP, h205⟩ := pap205 hl x0 hx hL
    have ll : L.length ≤ 2 * 1000 := hL.len 1000 hP.ok (Rw.lt (hP.ok _ (List.mem_of_getElem? hL.head)) (Nat.le_refl _))
    have hn := nm_true (kv := w.kv) (ws := [s, tx x]) (many := 2) rfl rfl hs
    have tl1 := tx_sm hx
    have nx := (cntB_tx hx).trans (decide_eq_true x0)
    obtain ⟨m1', sa, sb, sm, -, -, -⟩ := id hl
    kby_none
    · exact absurd (hn.symm.trans (by assumption)) (by decide)
    refine Stp.mk fun s' l' v' e1 e2 e3 => ?_
    cases e1; rw [hs] at e3; cases e3
    kby_none
    · exact absurd (nx.symm.trans (by assumption)) (by decide)
    refine Stp.mk fun x' hx' x0p hx2 hx3 => ?_
    obtain rfl := tx_inj ((sm60 hx).le (by decide)) (hx3.le (by decide)) hx'
    kby_none
    refine ⟨fun i δ w' => ∃ (x4 x5 x6 x7 : Sl), δ = [.val (.ref a), .val (.lst (List.map D.str [s, tx x])), .val (ln a1 b1 m1), .own ((L.take i).map fun r => D.str (rowS r)), x4, x5, x6, x7] ∧ w' = w, ⟨_, _, _, _, rfl, rfl⟩, ?_, ?_⟩
    · rintro i dd δ w' hd ⟨x4, x5, x6, x7, rfl, rfl⟩
      rw [List.getElem?_map] at hd
      obtain ⟨r, hr, rfl⟩ := Option.map_eq_some_iff.mp hd
      have ok := h205 r (List.mem_of_getElem? hr)
      have z0 := ok.sn.le (show 205 ≤ 1900 by decide)
      have z1 := ok.sa.le (show 205 ≤ 1900 by decide)
      have z2 := ok.sb.le (show 205 ≤ 1900 by decide)
      have z3 := ok.sm.le (show 205 ≤ 1900 by decide)
      have z4 := sumR_sm ok
      have l0 := tx_length z0
      have l1 := tx_length z1
      have l2 := tx_length z2
      have l3 := tx_length z3
      have l4 := tx_length z4
      have lt : ((L.take i).map fun r => D.str (rowS r)).length < 100000 := by rw [List.length_map, List.length_take]; omega
      kby_none
      · rename_i g; exact absurd g (by simp)
      · rename_i g; exact absurd g (by simp)
      · rename_i g; exact absurd g (by simp)
      · rename_i g; exact absurd g (by simp)
      refine un_comp ?_
      simp only [List.cons_append, List.nil_append]
      kby_none
      conv => whnf
      refine ⟨[tx r.1, tx r.2.1, tx r.2.2.1, tx r.2.2.2, tx (sumR r)], rfl, ?_, ?_⟩
      · have e : (" " : Str).length = 1 := rfl
        simp only [List.map_cons, List.map_nil, List.sum_cons, List.sum_nil, List.length_cons, List.length_nil, e]
        omega
      · refine ⟨lt, .val (.int r.1), .val (ln r.2.1 r.2.2.1 r.2.2.2), .val (.int (sumR r)), x7, ?_, rfl⟩
        rw [tk_snoc hr, List.map_append]; rfl
    · rintro δ w' ⟨x4, x5, x6, x7, rfl, rfl⟩
      rw [List.length_map, List.take_length]
      have q2 : ∀ p, wGet w'.ls p = none → Q (.ref p) { w' with ls := (p, L.map fun r => D.str (rowS r)) :: w'.ls } := fun p hp => by have := q p hp; rw [List.map_map] at this; exact this
      kby_none
      exact q2 _ (by assumption)
theorem ok_Desk_of_more {P : Program} {w : World} {K : PySem.W.Frag} {mg : Str → Option Value} {base : Heap} {ec : Nat → Addr} {CD : Addr} (T : Tx K mg ec CD) {f : Addr} {fd : FuncData} (F : Fun K "of_more" "Desk.of_more" s_Desk_of_more f fd) (hm : Meth K CD "of_more" f) (hb : Binds K fd ["self", "word", "some"] []) (d_Desk_on_between : Fm P w K mg base CD ec 7 "on_between" sp_Desk_on_between) (d_Desk_on_beneath : Fm P w K mg base CD ec 8 "on_beneath" sp_Desk_on_beneath) (d_Desk_on_within : Fm P w K mg base CD ec 4 "on_within" sp_Desk_on_within) (d_Desk_on_order : Fm P w K mg base CD ec 8 "on_order" sp_Desk_on_order) (d_Desk_on_points : Fm P w K mg base CD ec 8 "on_points" sp_Desk_on_points) (d_Desk_on_paper : Fm P w K mg base CD ec 6 "on_paper" sp_Desk_on_paper) :
    Fm P w K mg base CD ec 9 "of_more" sp_Desk_of_more := by
  have nd := sc_Desk_of_more.nd
  refine fmz F sc_Desk_of_more hm hb (by
    unfold sp_Desk_of_more; intro ds w Q Q' E E' k k'
    repeat' (first | exact FinO.mo (fun d w' => k d w') (fun e w' => k' e w') | exact id | exact k _ _ | exact k' _ _ | refine Exists.imp fun _ => ?_ | refine And.imp ?_ ?_ | refine Or.imp ?_ ?_ | refine Z.impR ?_ | refine Z.allR fun _ => ?_ | refine Z.Stp.imp ?_)) (by
    intro ds w' Q E h; unfold sp_Desk_of_more at h; obtain ⟨a, word, ws, r, rfl, -⟩ := h; rfl) (fun cdv A outer s H E hr =>
  (zb_cons (z_if (z_tcmp (o_eq hr) l_eq (z_var 1) z_str)
  (zb_one (z_ret (z_meth d_Desk_on_between T.cD hr (z_var 0) (z_cons (z_var 2) z_nil))))
  zb_nil)
  (zb_cons (z_if (z_tcmp (o_eq hr) l_eq (z_var 1) z_str)
  (zb_one (z_ret (z_meth d_Desk_on_beneath T.cD hr (z_var 0) (z_cons (z_var 2) z_nil))))
  zb_nil)
  (zb_cons (z_if (z_tcmp (o_eq hr) l_eq (z_var 1) z_str)
  (zb_one (z_ret (z_meth d_Desk_on_within T.cD hr (z_var 0) (z_cons (z_var 2) z_nil))))
  zb_nil)
  (zb_cons (z_if (z_tcmp (o_eq hr) l_eq (z_var 1) z_str)
  (zb_one (z_ret (z_meth d_Desk_on_order T.cD hr (z_var 0) (z_cons (z_var 2) z_nil))))
  zb_nil)
  (zb_cons (z_if (z_tcmp (o_eq hr) l_eq (z_var 1) z_str)
  (zb_one (z_ret (z_meth d_Desk_on_points T.cD hr (z_var 0) (z_cons (z_var 2) z_nil))))
  zb_nil)
  (zb_cons (z_if (z_tcmp (o_eq hr) l_eq (z_var 1) z_str)
  (zb_one (z_ret (z_meth d_Desk_on_paper T.cD hr (z_var 0) (z_cons (z_var 2) z_nil))))
  zb_nil)
  (zb_one (z_ret z_non))))))))) ?_
  intro ds w Q E h
  unfold sp_Desk_of_more at h
  clear nd d_Desk_on_between d_Desk_on_beneath d_Desk_on_within d_Desk_on_order d_Desk_on_points d_Desk_on_paper hb hm F T fd f ec base mg K CD
  obtain ⟨a, word, ws, r, rfl, ⟨hD, hkv, hw⟩, hr, q⟩ := h
  obtain ⟨d, hob⟩ := id hD
  unfold MoR at hr
  by_cases c0 : word = Str.ofString "between"
  · rw [if_pos c0] at hr
    obtain ⟨r, rfl, hr⟩ := hr
    replace q : Fin r w Q E := q
    kby_none
    all_goals first | exact hr | exact q | contradiction
  rw [if_neg c0] at hr
  by_cases c1 : word = Str.ofString "beneath"
  · rw [if_pos c1] at hr
    obtain ⟨r, rfl, hr⟩ := hr
    replace q : Fin r w Q E := q
    kby_none
    all_goals first | exact hr | exact q | contradiction
  rw [if_neg c1] at hr
  by_cases c2 : word = Str.ofString "within"
  · rw [if_pos c2] at hr
    obtain ⟨r, rfl, hr⟩ := hr
    replace q : Fin r w Q E := q
    kby_none
    all_goals first | exact hr | exact q | contradiction
  rw [if_neg c2] at hr
  by_cases c3 : word = Str.ofString "order"
  · rw [if_pos c3] at hr
    obtain ⟨r, rfl, hr⟩ := hr
    replace q : Fin r w Q E := q
    kby_none
    all_goals first | exact hr | exact q | contradiction
  rw [if_neg c3] at hr
  by_cases c4 : word = Str.ofString "points"
  · rw [if_pos c4] at hr
    obtain ⟨r, rfl, hr⟩ := hr
    replace q : Fin r w Q E := q
    kby_none
    all_goals first | exact hr | exact q | contradiction
  rw [if_neg c4] at hr
  by_cases c5 : word = Str.ofString "paper"
  · rw [if_pos c5] at hr
    obtain ⟨r, rfl, hr⟩ := hr
    replace q : Fin r w Q E := q
    kby_none
    all_goals first | exact hr | exact q | contradiction
  rw [if_neg c5] at hr
  subst hr
  replace q : Q .non w := q
  kby_none
  all_goals first | exact q | contradiction
theorem ok_Desk_ask {P : Program} {w : World} {K : PySem.W.Frag} {mg : Str → Option Value} {base : Heap} {ec : Nat → Addr} {CD : Addr} (T : Tx K mg ec CD) {f : Addr} {fd : FuncData} (F : Fun K "ask" "Desk.ask" s_Desk_ask f fd) (hm : Meth K CD "ask" f) (hb : Binds K fd ["self", "line"] []) (d_need : Fd P w K mg base (W0 ec) 1 "need" sp_need) (d_Desk_of_more : Fm P w K mg base CD ec 9 "of_more" sp_Desk_of_more) (d_Desk_on_line : Fm P w K mg base CD ec 3 "on_line" sp_Desk_on_line) (d_Desk_of_place : Fm P w K mg base CD ec 4 "of_place" sp_Desk_of_place) (d_Desk_of_count : Fm P w K mg base CD ec 8 "of_count" sp_Desk_of_count) :
    Fm P w K mg base CD ec 10 "ask" sp_Desk_ask := by
  have nd := sc_Desk_ask.nd
  refine fmz F sc_Desk_ask hm hb (by
    unfold sp_Desk_ask; intro ds w Q Q' E E' k k'
    repeat' (first | exact Fin.mo (fun d w' => k d w') (fun e w' => k' e w') | exact id | exact k _ _ | exact k' _ _ | refine Exists.imp fun _ => ?_ | refine And.imp ?_ ?_ | refine Or.imp ?_ ?_ | refine Z.impR ?_ | refine Z.allR fun _ => ?_ | refine Z.Stp.imp ?_)) (by
    intro ds w' Q E h; unfold sp_Desk_ask at h; obtain ⟨a, t, r, rfl, -⟩ := h; rfl) (fun cdv A outer s H E hr =>
  (zb_cons (z_drop (z_callP d_need hr (z_cons (z_cmp op_notIn_sign l_notInS1 z_str (z_var 1)) z_nil)))
  (zb_cons (z_set 2 (z_fz (z_tsplit (z_var 1) (z_cons z_str z_nil))) nd)
  (zb_cons (z_set 3 (z_ix ix_seq l_ix (z_var 2) z_int) nd)
  (zb_cons (z_if (z_tcmp (o_eq hr) l_eq (z_var 3) z_str)
  (zb_one (z_ret (z_meth d_Desk_on_line T.cD hr (z_var 0) (z_cons (z_fz (z_slL (z_var 2) (z_oS z_int) z_oN)) z_nil))))
  zb_nil)
  (zb_cons (z_if (z_tcmp op_in_seq l_in (z_var 3) (z_tup (z_cons z_str (z_cons z_str z_nil))))
  (zb_one (z_ret (z_meth d_Desk_of_place T.cD hr (z_var 0) (z_cons (z_var 3) (z_cons (z_fz (z_slL (z_var 2) (z_oS z_int) z_oN)) z_nil)))))
  zb_nil)
  (zb_cons (z_if (z_tcmp op_in_seq l_in (z_var 3) (z_tup (z_cons z_str (z_cons z_str (z_cons z_str (z_cons z_str z_nil))))))
  (zb_one (z_ret (z_meth d_Desk_of_count T.cD hr (z_var 0) (z_cons (z_var 3) (z_cons (z_fz (z_slL (z_var 2) (z_oS z_int) z_oN)) z_nil)))))
  zb_nil)
  (zb_cons (z_set 4 (z_meth d_Desk_of_more T.cD hr (z_var 0) (z_cons (z_var 3) (z_cons (z_fz (z_slL (z_var 2) (z_oS z_int) z_oN)) z_nil))) nd)
  (zb_cons (z_drop (z_callP d_need hr (z_cons (z_cmp op_notN l_notN (z_var 4) z_non) z_nil)))
  (zb_one (z_ret (z_var 4)))))))))))) ?_
  intro ds w Q E h
  unfold sp_Desk_ask at h
  clear nd d_need d_Desk_of_more d_Desk_on_line d_Desk_of_place d_Desk_of_count hb hm F T fd f ec base mg K CD
  obtain ⟨a, t, r, rfl, ⟨hD, hkv, hn, hl⟩, hr, q⟩ := h
  obtain ⟨d, hob⟩ := id hD
  unfold AskR at hr
  have l0 : ((" " : Str).length == 0) = false := rfl
  by_cases c : 10 ∈ TL.tl t
  · rw [if_pos c] at hr
    subst hr
    replace q : E 6 w := q
    kby_none
    all_goals first | exact q | (exfalso; exact absurd c (by assumption))
  rw [if_neg c] at hr
  obtain ⟨word, ws, e⟩ : ∃ word ws, Txt.split t (" " : Str) = word :: ws := by
    cases q : Txt.split t (" " : Str) with
    | nil => rw [q] at hr; exact hr.elim
    | cons word ws => exact ⟨word, ws, rfl⟩
  have sl := split_lens t (" " : Str) rfl hl
  rw [e] at hr sl
  obtain ⟨sl1, sl2⟩ := sl
  have hw : Ws ws := ⟨by rw [List.length_cons] at sl1; omega, fun x hx => Nat.le_trans (sl2 x (List.mem_cons_of_mem _ hx)) (by decide)⟩
  have ec : Z.cutD (List.map D.str (word :: ws)) (some 1) none = List.map D.str ws := drop1 (word :: ws) (by rw [List.length_cons]; omega)
  have hr : if word = Str.ofString "line" then LiR ws r
      else if word = Str.ofString "part" ∨ word = Str.ofString "rest" then PlR w.kv word ws r
      else if word = Str.ofString "sum" ∨ word = Str.ofString "squares" ∨ word = Str.ofString "placed" ∨ word = Str.ofString "rests" then CtR w.kv word ws r
      else ∃ r', MoR w.kv word ws r' ∧ ((r' = none ∧ r = .err 6) ∨ r' = some r) := hr
  have e2 : (eqF (.str (Str.ofString "part")) (.str word) = true ∨ eqF (.str (Str.ofString "rest")) (.str word) = true) ↔ (word = Str.ofString "part" ∨ word = Str.ofString "rest") := by simp only [eqF_str', decide_eq_true_eq]
  have n2 : (eqF (.str (Str.ofString "part")) (.str word) = false ∧ eqF (.str (Str.ofString "rest")) (.str word) = false) → ¬ (word = Str.ofString "part" ∨ word = Str.ofString "rest") := by
    simp only [eqF_str', decide_eq_false_iff_not, not_or]; exact id
  have e4 : (eqF (.str (Str.ofString "sum")) (.str word) = true ∨ eqF (.str (Str.ofString "squares")) (.str word) = true ∨ eqF (.str (Str.ofString "placed")) (.str word) = true ∨ eqF (.str (Str.ofString "rests")) (.str word) = true) ↔ (word = Str.ofString "sum" ∨ word = Str.ofString "squares" ∨ word = Str.ofString "placed" ∨ word = Str.ofString "rests") := by simp only [eqF_str', decide_eq_true_eq]
  have n4 : (eqF (.str (Str.ofString "sum")) (.str word) = false ∧ eqF (.str (Str.ofString "squares")) (.str word) = false ∧ eqF (.str (Str.ofString "placed")) (.str word) = false ∧ eqF (.str (Str.ofString "rests")) (.str word) = false) → ¬ (word = Str.ofString "sum" ∨ word = Str.ofString "squares" ∨ word = Str.ofString "placed" ∨ word = Str.ofString "rests") := by
    simp only [eqF_str', decide_eq_false_iff_not, not_or]; exact id
  kby_none
  rotate_left
  · rename_i g; exact absurd g c
  rw [e]
  have a0 : atI (List.map D.str (word :: ws)) 0 = some (.str word) := strs_at (ws := word :: ws) (k := 0) rfl
  by_cases c0 : word = Str.ofString "line"
  · rw [if_pos c0] at hr
    kby_none
    all_goals try contradiction
    conv => whnf
    exact ⟨a, ws, r, by rw [← ec], ⟨hD, hn, hw⟩, hr, q⟩
  rw [if_neg c0] at hr
  by_cases c1 : word = Str.ofString "part" ∨ word = Str.ofString "rest"
  · rw [if_pos c1] at hr
    kby_none
    all_goals first | contradiction | (exfalso; exact n2 (by assumption) c1) | skip
    conv => whnf
    exact ⟨a, word, ws, r, by rw [← ec], ⟨hD, hkv, hw⟩, hr, q⟩
  rw [if_neg c1] at hr
  by_cases c2 : word = Str.ofString "sum" ∨ word = Str.ofString "squares" ∨ word = Str.ofString "placed" ∨ word = Str.ofString "rests"
  · rw [if_pos c2] at hr
    kby_none
    all_goals first | contradiction | (exfalso; exact c1 (e2.mp (by assumption))) | (exfalso; exact n4 (by assumption) c2) | skip
    conv => whnf
    exact ⟨a, word, ws, r, by rw [← ec], ⟨hD, hkv, hw⟩, hr, q⟩
  rw [if_neg c2] at hr
  obtain ⟨r', hm, hr⟩ := hr
  kby_none
  all_goals first | contradiction | (exfalso; exact c1 (e2.mp (by assumption))) | (exfalso; exact c2 (e4.mp (by assumption))) | skip
  conv => whnf
  refine ⟨a, word, ws, r', by rw [← ec], ⟨hD, hkv, hw⟩, hm, ?_⟩
  rcases hr with ⟨rfl, rfl⟩ | rfl
  · replace q : E 6 w := q
    unfold FinO
    dsimp only
    kby_none
    all_goals first | exact q | (rename_i g; exact absurd g (by decide))
  · cases r with
    | rows l =>
      intro p hp
      have q := q p hp
      show zSeq _ _ _ _ _
      kby_none
      all_goals first | exact q | (rename_i g; exact absurd g (by decide))
    | err e => exact q
    | put s v =>
      intro p hp
      have q := q p hp
      show zSeq _ _ _ _ _
      kby_none
      all_goals first | exact q | (rename_i g; exact absurd g (by decide))
theorem ok__law_draw {P : Program} {w : World} {K : PySem.W.Frag} {mg : Str → Option Value} {base : Heap} {ec : Nat → Addr} {CD : Addr} (T : Tx K mg ec CD) {f : Addr} {fd : FuncData} (F : Fun K "_law_draw" "_law_draw" s__law_draw f fd) (hm : mg "_law_draw" = some (.ref f)) (hb : Binds K fd ["_law_script", "_law_k"] []) :
    Fd P w K mg base (W0 ec) 1 "_law_draw" sp__law_draw := by
  have nd := sc__law_draw.nd
  refine fnz F sc__law_draw hm hb (by
    unfold sp__law_draw; intro ds w Q Q' E E' k k'
    repeat' (first | exact id | exact k _ _ | exact k' _ _ | refine Exists.imp fun _ => ?_ | refine And.imp ?_ ?_ | refine Or.imp ?_ ?_ | refine Z.impR ?_ | refine Z.allR fun _ => ?_ | refine Z.Stp.imp ?_)) (by
    intro ds w' Q E h; unfold sp__law_draw at h; obtain ⟨ns, k, rfl, -⟩ := h; rfl) (fun cdv A outer s H E hr =>
  (zb_cons (z_set 2 (z_max T.max_ (z_cons z_int (z_cons (z_len T.len_ (z_cons (z_var 0) z_nil)) z_nil))) nd)
  (zb_cons (z_set 3 (z_ix ix_seq l_ix (z_fz (z_cat (z_fz (z_lstC T.list_ (z_cons (z_var 0) z_nil))) (z_fz (z_lst (z_cons z_int z_nil))))) (z_op op_mod l_mod (z_var 1) (z_var 2))) nd)
  (zb_cons (z_if (z_pw (z_or (z_tcmp op_ge l_ge (z_var 3) (z_op op_pow l_pow z_int z_int)) (z_or1 (z_tcmp op_le l_le (z_var 3) (z_un un_neg l_neg (z_op op_pow l_pow z_int z_int))))))
  (zb_cons (z_forR1 4 T.range_ (z_cons (z_min T.min_ (z_cons (z_op o_div l_div (z_var 1) (z_var 2)) (z_cons z_int z_nil))) z_nil)
  (zb_one (z_set 3 (z_op o_div l_div (z_var 3) z_int) nd)) nd)
  (zb_one (z_ret (z_op op_mod l_mod (z_var 3) z_int))))
  zb_nil)
  (zb_cons (z_set 5 (z_op op_mod l_mod (z_op o_mul l_mul (z_op o_add l_add (z_op o_add l_add (z_op op_mod l_mod (z_var 3) z_int) z_int) (z_op o_mul l_mul z_int (z_op o_div l_div (z_var 1) (z_var 2)))) z_int) z_int) nd)
  (zb_cons (z_set 5 (z_op op_mod l_mod (z_op o_mul l_mul (z_var 5) (z_var 5)) z_int) nd)
  (zb_one (z_ret (z_op op_mod l_mod (z_op o_mul l_mul (z_var 5) z_int) z_int))))))))) ?_
  intro ds w Q E h
  unfold sp__law_draw at h
  clear nd hb hm F T fd f ec base mg K CD
  obtain ⟨ns, k, rfl, ⟨hlen, k0, k1⟩, h⟩ := h
  have el : ((ns.map D.int).length : Int) = ns.length := by rw [List.length_map]
  have hl : (ns.map D.int).length ≤ 63 := by rw [List.length_map]; exact hlen
  have s1 : Sm 10 (max 1 ((ns.map D.int).length : Int)) := by unfold Sm; omega
  have sk : Sm 20 k := by unfold Sm; omega
  have hz : atI (List.map D.int ns ++ [D.int 0]) (k % max 1 ((ns.map D.int).length : Int)) = some (D.int (drwC ns k)) := by
    have := drwC_at (ns := ns) (k := k); rw [List.map_append] at this; rw [el]; exact this
  have dv : DivOk (max 1 ((ns.map D.int).length : Int)) := ⟨by omega, s1.le (by decide)⟩
  have sz := Sm.mod (i := drwC ns k) (Sm.num 2147483629) (by decide)
  have st : Sm 20 (k / max 1 ((ns.map D.int).length : Int)) := sk.div (by omega)
  have g1 : (drwC ns k ≥ 10 ^ 18 ∨ drwC ns k ≤ -10 ^ 18) → drw ns k = dvs (drwC ns k) (min (k / max 1 ((ns.map D.int).length : Int)) 60).toNat % 1000003 := fun g => by unfold drw; rw [if_pos g, el]
  have g2 : ¬ (drwC ns k ≥ 10 ^ 18 ∨ drwC ns k ≤ -10 ^ 18) → drw ns k = drwM (drwC ns k) k (max 1 ((ns.map D.int).length : Int)) := fun g => by unfold drw; rw [if_neg g, el]
  generalize drwC ns k = c at *
  kby_none
  all_goals first
    | (refine ⟨fun i δ w' => w = w' ∧ ∃ (x4 x5 : Sl), δ = [.val (.arr (ns.map D.int)), .val (.int k), .val (.int (max 1 ((ns.map D.int).length : Int))), .val (.int (dvs c i)), x4, x5], ⟨rfl, _, _, rfl⟩, fun i δ w' hi hI => ?_, fun δ w' hI => ?_⟩
       · obtain ⟨rfl, x4, x5, rfl⟩ := hI
         kby_none
       · obtain ⟨rfl, x4, x5, rfl⟩ := hI
         have g1' := g1 (by first | exact Or.inl (by assumption) | exact Or.inr (by assumption))
         kby_none
         rw [g1'] at h
         exact h)
    | (rw [g2 (fun g => g.elim (by assumption) (by assumption))] at h; exact h)
theorem ok__law_number {P : Program} {w : World} {K : PySem.W.Frag} {mg : Str → Option Value} {base : Heap} {ec : Nat → Addr} {CD : Addr} (T : Tx K mg ec CD) {f : Addr} {fd : FuncData} (F : Fun K "_law_number" "_law_number" s__law_number f fd) (hm : mg "_law_number" = some (.ref f)) (hb : Binds K fd ["_law_script", "_law_at", "_law_most"] []) (d__law_draw : Fd P w K mg base (W0 ec) 1 "_law_draw" sp__law_draw) :
    Fd P w K mg base (W0 ec) 2 "_law_number" sp__law_number := by
  have nd := sc__law_number.nd
  refine fnz F sc__law_number hm hb (by
    unfold sp__law_number; intro ds w Q Q' E E' k k'
    repeat' (first | exact id | exact k _ _ | exact k' _ _ | refine Exists.imp fun _ => ?_ | refine And.imp ?_ ?_ | refine Or.imp ?_ ?_ | refine Z.impR ?_ | refine Z.allR fun _ => ?_ | refine Z.Stp.imp ?_)) (by
    intro ds w' Q E h; unfold sp__law_number at h; obtain ⟨ns, k, g, rfl, -⟩ := h; rfl) (fun cdv A outer s H E hr =>
  (zb_cons (z_set 3 (z_op o_add l_add z_int (z_op op_mod l_mod (z_callP d__law_draw hr (z_cons (z_var 0) (z_cons (z_var 1) z_nil))) (z_var 2))) nd)
  (zb_one (z_ret (z_intC T.int_ (z_cons (z_tjoin z_str (z_cons (z_fz (z_lcR1 (own := [("_law_k", 4)]) (ok := by show blkC ["_law_script", "_law_at", "_law_most", "_law_figures", "_law_k"] (defScope s__law_number) _ _ = true; decide +kernel) T.range_ (z_cons (z_var 3) z_nil) (c_ok (gzt := (gg_name 4)) (fun _ _ _ _ _ => (g_name 4 nd).pg) (fun _ _ _ _ _ => (z_strC T.str_ (z_cons (z_op op_mod l_mod (z_callP d__law_draw hr (z_cons (z_var 0) (z_cons (z_op o_add l_add (z_op o_add l_add (z_var 1) z_int) (z_var 4)) z_nil))) z_int) z_nil)))) nd)) z_nil)) z_nil)))))) ?_
  intro ds w Q E h
  unfold sp__law_number at h
  clear nd d__law_draw hb hm F T fd f ec base mg K CD
  obtain ⟨ns, k, g, rfl, ⟨hlen, k0, k1, g0, g1⟩, h⟩ := h
  have h := h.out
  have m0 := Int.emod_nonneg (drw ns k) (show g ≠ 0 by omega)
  have m1 := Int.emod_lt_of_pos (drw ns k) (show 0 < g by omega)
  have sd : ∀ x : Int, Sm 1900 (x % 10) := fun x => Z.Sm.le (n := 63) (Z.Sm.near (by omega) (by omega)) (by decide)
  kby_none
  · rw [rngD_len]; omega
  refine ⟨fun i acc w' => w = w' ∧ ∃ is : List Int, acc = (is.map tx).map D.str ∧ is.length = i ∧ Stp (∀ x ∈ is, 0 ≤ x ∧ x < 10), ⟨rfl, [], rfl, rfl, Stp.mk fun x hx => nomatch hx⟩, fun i d acc w' hd hI => ?_, fun acc w' hI => ?_⟩
  · obtain ⟨rfl, is, rfl, hl, hp⟩ := hI
    obtain ⟨hi, rfl⟩ := rng_get hd
    have sdd := sd (drw ns (k + 1 + (0 + (i : Int))))
    kby_none
    exact ⟨is ++ [drw ns (k + 1 + (0 + (i : Int))) % 10], by rw [List.map_append, List.map_append]; rfl, by rw [List.length_append, hl]; rfl, Stp.mk fun x hx => (List.mem_append.mp hx).elim (hp.out x) fun e => by rw [List.mem_singleton.mp e]; omega⟩
  · obtain ⟨rfl, is, rfl, hl, hp⟩ := hI
    rw [rngD_len] at hl
    obtain ⟨v, v1, v2, v3⟩ := join_digitsN (is := is) (fun e => by rw [e] at hl; simp only [List.length_nil] at hl; omega) hp.out (by omega)
    have v4 := digs_sum hp.out
    have hs : ((is.map tx).map (·.length)).sum + (is.map tx).length * ("" : Str).length ≤ 16777216 := by
      have : ("" : Str).length = 0 := rfl
      rw [v4, this]; omega
    have v5 : v.natAbs < 10 ^ g.toNat := Nat.lt_of_lt_of_le v3.2 (Nat.pow_le_pow_right (by decide) (by omega))
    have v6 : v.natAbs < 10 ^ 60 := Nat.lt_of_lt_of_le v5 (Nat.pow_le_pow_right (by decide) (by omega))
    kby_none
    exact h _ v3.1 v5 ((sm60 v6).le (by decide))
theorem ok__law_line {P : Program} {w : World} {K : PySem.W.Frag} {mg : Str → Option Value} {base : Heap} {ec : Nat → Addr} {CD : Addr} (T : Tx K mg ec CD) {f : Addr} {fd : FuncData} (F : Fun K "_law_line" "_law_line" s__law_line f fd) (hm : mg "_law_line" = some (.ref f)) (hb : Binds K fd ["_law_script", "_law_at", "_law_most"] []) (d__law_number : Fd P w K mg base (W0 ec) 2 "_law_number" sp__law_number) (d__law_draw : Fd P w K mg base (W0 ec) 1 "_law_draw" sp__law_draw) :
    Fd P w K mg base (W0 ec) 3 "_law_line" sp__law_line := by
  have nd := sc__law_line.nd
  refine fnz F sc__law_line hm hb (by
    unfold sp__law_line; intro ds w Q Q' E E' k k'
    repeat' (first | exact id | exact k _ _ | exact k' _ _ | refine Exists.imp fun _ => ?_ | refine And.imp ?_ ?_ | refine Or.imp ?_ ?_ | refine Z.impR ?_ | refine Z.allR fun _ => ?_ | refine Z.Stp.imp ?_)) (by
    intro ds w' Q E h; unfold sp__law_line at h; obtain ⟨ns, k, g, rfl, -⟩ := h; rfl) (fun cdv A outer s H E hr =>
  (zb_cons (z_set 3 (z_tup (z_cons z_int (z_cons z_int (z_cons z_int (z_cons (z_var 2) z_nil))))) nd)
  (zb_cons (z_set 4 (z_callP d__law_number hr (z_cons (z_var 0) (z_cons (z_op o_add l_add (z_var 1) z_int) (z_cons (z_ix ix_seq l_ix (z_var 3) (z_op op_mod l_mod (z_callP d__law_draw hr (z_cons (z_var 0) (z_cons (z_var 1) z_nil))) z_int)) z_nil)))) nd)
  (zb_cons (z_set 5 (z_callP d__law_number hr (z_cons (z_var 0) (z_cons (z_op o_add l_add (z_var 1) z_int) (z_cons (z_ix ix_seq l_ix (z_var 3) (z_op op_mod l_mod (z_callP d__law_draw hr (z_cons (z_var 0) (z_cons (z_op o_add l_add (z_var 1) z_int) z_nil))) z_int)) z_nil)))) nd)
  (zb_cons (z_set 6 (z_max T.max_ (z_cons z_int (z_cons (z_callP d__law_number hr (z_cons (z_var 0) (z_cons (z_op o_add l_add (z_var 1) z_int) (z_cons (z_ix ix_seq l_ix (z_var 3) (z_op op_mod l_mod (z_callP d__law_draw hr (z_cons (z_var 0) (z_cons (z_op o_add l_add (z_var 1) z_int) z_nil))) z_int)) z_nil)))) z_nil))) nd)
  (zb_cons (z_if (z_tcmp (o_eq hr) l_eq (z_op op_mod l_mod (z_callP d__law_draw hr (z_cons (z_var 0) (z_cons (z_op o_add l_add (z_var 1) z_int) z_nil))) z_int) z_int)
  (zb_one (z_set 4 (z_un un_neg l_neg (z_var 4)) nd))
  zb_nil)
  (zb_cons (z_if (z_tcmp (o_eq hr) l_eq (z_op op_mod l_mod (z_callP d__law_draw hr (z_cons (z_var 0) (z_cons (z_op o_add l_add (z_var 1) z_int) z_nil))) z_int) z_int)
  (zb_one (z_set 5 (z_un un_neg l_neg (z_var 5)) nd))
  zb_nil)
  (zb_one (z_ret (z_tup (z_cons (z_var 4) (z_cons (z_var 5) (z_cons (z_var 6) z_nil))))))))))))) ?_
  intro ds w Q E h
  unfold sp__law_line at h
  clear nd d__law_number d__law_draw hb hm F T fd f ec base mg K CD
  obtain ⟨ns, k, g, rfl, ⟨hlen, k0, k1, g0, g1⟩, h⟩ := h
  have h := h.out
  have up : ∀ {r z : Int}, r.natAbs < 10 ^ z.toNat → z ≤ 60 → r.natAbs < 10 ^ 60 := fun h1 h2 => Nat.lt_of_lt_of_le h1 (Nat.pow_le_pow_right (by decide) (by omega))
  kby_none
  refine ixT4 (P := fun z => 1 ≤ z ∧ z ≤ 60) ⟨by omega, by omega⟩ ⟨by omega, by omega⟩ ⟨by omega, by omega⟩ ⟨by omega, by omega⟩ fun z1 hz => ?_
  obtain ⟨z10, z11⟩ := hz
  kby_none
  refine Stp.mk fun r1 r10 h1 s1 => ?_
  replace h1 := up h1 z11
  kby_none
  refine ixT4 (P := fun z => 1 ≤ z ∧ z ≤ 60) ⟨by omega, by omega⟩ ⟨by omega, by omega⟩ ⟨by omega, by omega⟩ ⟨by omega, by omega⟩ fun z2 hz => ?_
  obtain ⟨z20, z21⟩ := hz
  kby_none
  refine Stp.mk fun r2 r20 h2 s2 => ?_
  replace h2 := up h2 z21
  kby_none
  refine ixT4 (P := fun z => 1 ≤ z ∧ z ≤ 60) ⟨by omega, by omega⟩ ⟨by omega, by omega⟩ ⟨by omega, by omega⟩ ⟨by omega, by omega⟩ fun z3 hz => ?_
  obtain ⟨z30, z31⟩ := hz
  kby_none
  refine Stp.mk fun r3 r30 h3 s3 => ?_
  replace h3 := up h3 z31
  kby_none
  all_goals exact h _ _ _ (LnK.of (by omega) (by omega) (by omega) (by omega))
theorem ok__law_name {P : Program} {w : World} {K : PySem.W.Frag} {mg : Str → Option Value} {base : Heap} {ec : Nat → Addr} {CD : Addr} (T : Tx K mg ec CD) {f : Addr} {fd : FuncData} (F : Fun K "_law_name" "_law_name" s__law_name f fd) (hm : mg "_law_name" = some (.ref f)) (hb : Binds K fd ["_law_script", "_law_i"] []) (d__law_draw : Fd P w K mg base (W0 ec) 1 "_law_draw" sp__law_draw) :
    Fd P w K mg base (W0 ec) 2 "_law_name" sp__law_name := by
  have nd := sc__law_name.nd
  refine fnz F sc__law_name hm hb (by
    unfold sp__law_name; intro ds w Q Q' E E' k k'
    repeat' (first | exact id | exact k _ _ | exact k' _ _ | refine Exists.imp fun _ => ?_ | refine And.imp ?_ ?_ | refine Or.imp ?_ ?_ | refine Z.impR ?_ | refine Z.allR fun _ => ?_ | refine Z.Stp.imp ?_)) (by
    intro ds w' Q E h; unfold sp__law_name at h; obtain ⟨ns, i, rfl, -⟩ := h; rfl) (fun cdv A outer s H E hr =>
  (zb_cons (z_set 2 z_str nd)
  (zb_cons (z_set 3 (z_ix ix_seq l_ix (z_var 2) (z_op op_mod l_mod (z_callP d__law_draw hr (z_cons (z_var 0) (z_cons z_int z_nil))) z_int)) nd)
  (zb_cons (z_set 4 (z_op op_mod l_mod (z_callP d__law_draw hr (z_cons (z_var 0) (z_cons z_int z_nil))) z_int) nd)
  (zb_cons (z_set 5 (z_op op_mod l_mod (z_callP d__law_draw hr (z_cons (z_var 0) (z_cons z_int z_nil))) (z_op op_sub l_sub z_int (z_var 4))) nd)
  (zb_cons (z_set 6 (z_ix ix_seq l_ix (z_var 2) (z_op op_mod l_mod (z_op o_add l_add (z_var 1) (z_callP d__law_draw hr (z_cons (z_var 0) (z_cons z_int z_nil)))) z_int)) nd)
  (zb_cons (z_set 7 (z_op op_mod l_mod (z_callP d__law_draw hr (z_cons (z_var 0) (z_cons z_int z_nil))) z_int) nd)
  (zb_cons (z_if (z_pw (z_or (z_tcmp (o_eq hr) l_eq (z_var 7) z_int) (z_or1 (z_tcmp (o_eq hr) l_eq (z_var 7) z_int))))
  (zb_one (z_ret (z_var 6)))
  zb_nil)
  (zb_cons (z_if (z_pw (z_and (z_tcmp (o_eq hr) l_eq (z_var 7) z_int) (z_and1 (z_tcmp op_lt l_lt (z_var 1) z_int))))
  (zb_one (z_ret (z_ix ix_seq l_ix (z_tup (z_cons z_str (z_cons z_str (z_cons z_str (z_cons z_str (z_cons z_str (z_cons z_str (z_cons z_str (z_cons z_str z_nil))))))))) (z_var 1))))
  zb_nil)
  (zb_cons (z_if (z_pw (z_and (z_tcmp (o_eq hr) l_eq (z_var 7) z_int) (z_and1 (z_tcmp op_lt l_lt (z_var 1) z_int))))
  (zb_one (z_ret (z_ix ix_seq l_ix (z_tup (z_cons z_str (z_cons z_str (z_cons z_str (z_cons z_str (z_cons z_str (z_cons z_str (z_cons z_str (z_cons z_str z_nil))))))))) (z_var 1))))
  zb_nil)
  (zb_one (z_ret (z_op o_add l_add (z_op o_add l_add (z_op o_mul l_mul (z_var 3) (z_var 4)) (z_var 6)) (z_op o_mul l_mul (z_var 3) (z_var 5))))))))))))))) ?_
  intro ds w Q E h
  unfold sp__law_name at h
  clear nd d__law_draw hb hm F T fd f ec base mg K CD
  obtain ⟨ns, i, rfl, ⟨hlen, i0, i8⟩, h⟩ := h
  have a0 := ltr_at (Int.emod_nonneg (drw ns 0) (show (26 : Int) ≠ 0 by decide)) (Int.emod_lt_of_pos (drw ns 0) (show (0 : Int) < 26 by decide))
  have a1 := ltr_at (Int.emod_nonneg (i + drw ns 9) (show (26 : Int) ≠ 0 by decide)) (Int.emod_lt_of_pos (i + drw ns 9) (show (0 : Int) < 26 by decide))
  have p0 := Int.emod_nonneg (drw ns 1) (show (8 : Int) ≠ 0 by decide)
  have p1 := Int.emod_lt_of_pos (drw ns 1) (show (0 : Int) < 8 by decide)
  have t0 := Int.emod_nonneg (drw ns 2) (show (8 - drw ns 1 % 8 : Int) ≠ 0 by omega)
  have t1 := Int.emod_lt_of_pos (drw ns 2) (show (0 : Int) < 8 - drw ns 1 % 8 by omega)
  have ok1 := mulOk1 (97 + (drw ns 0 % 26).toNat) p0 (by omega)
  have ok2 := mulOk1 (97 + (drw ns 0 % 26).toNat) t0 (by omega)
  have l1 : (Txt.mul (ltr (drw ns 0 % 26)) (drw ns 1 % 8)).length ≤ 8 := by rw [TL.len_tl]; unfold ltr; rw [tl_mul1 _ p0, List.length_replicate]; omega
  have l2 : (Txt.mul (ltr (drw ns 0 % 26)) (drw ns 2 % (8 - drw ns 1 % 8))).length ≤ 8 := by rw [TL.len_tl]; unfold ltr; rw [tl_mul1 _ t0, List.length_replicate]; omega
  have l3 : (ltr ((i + drw ns 9) % 26)).length = 1 := rfl
  unfold ltr at l1 l2 l3
  have b3 : atI [D.str (Str.ofString "a"), D.str (Str.ofString "ab"), D.str (Str.ofString "ba"), D.str (Str.ofString "b"), D.str (Str.ofString "aba"), D.str (Str.ofString "bab"), D.str (Str.ofString "abc"), D.str (Str.ofString "cba")] i = some (.str (nm3s i)) := nm3_at i0 i8
  have b4 : atI [D.str (Str.ofString "line"), D.str (Str.ofString "part"), D.str (Str.ofString "rest"), D.str (Str.ofString "sum"), D.str (Str.ofString "order"), D.str (Str.ofString "points"), D.str (Str.ofString "paper"), D.str (Str.ofString "within")] i = some (.str (nm4s i)) := nm4_at i0 i8
  have e1 : (drw ns 8 % 8 = 1 ∨ drw ns 8 % 8 = 2) → Q (.str (ltr ((i + drw ns 9) % 26))) w := fun g => by unfold nmF at h; rw [if_pos g] at h; exact h
  have e3 : drw ns 8 % 8 = 3 → Q (.str (nm3s i)) w := fun g => by unfold nmF at h; rw [if_neg (by omega), if_pos ⟨g, i8⟩] at h; exact h
  have e4 : drw ns 8 % 8 = 4 → Q (.str (nm4s i)) w := fun g => by unfold nmF at h; rw [if_neg (by omega), if_neg (by omega), if_pos ⟨g, i8⟩] at h; exact h
  have e5 : drw ns 8 % 8 ≠ 1 → drw ns 8 % 8 ≠ 2 → drw ns 8 % 8 ≠ 3 → drw ns 8 % 8 ≠ 4 → Q (.str (nmR (drw ns 0 % 26) (drw ns 1 % 8) (drw ns 2 % (8 - drw ns 1 % 8)) ((i + drw ns 9) % 26))) w := fun g1 g2 g3 g4 => by unfold nmF at h; rw [if_neg (by omega), if_neg (by omega), if_neg (by omega)] at h; exact h
  kby_none
  · exact e1 (Or.inl (by assumption))
  · exact e1 (Or.inr (by assumption))
  · exact e3 (by assumption)
  · exact e4 (by assumption)
  all_goals first | exact e5 (by assumption) (by assumption) (by assumption) (by assumption) | (rw [TL.len_tl, TL.tl_append, List.length_append, ← TL.len_tl, ← TL.len_tl]; omega)
theorem ok__law_line_text {P : Program} {w : World} {K : PySem.W.Frag} {mg : Str → Option Value} {base : Heap} {ec : Nat → Addr} {CD : Addr} (T : Tx K mg ec CD) {f : Addr} {fd : FuncData} (F : Fun K "_law_line_text" "_law_line_text" s__law_line_text f fd) (hm : mg "_law_line_text" = some (.ref f)) (hb : Binds K fd ["_law_line_here"] []) :
    Fd P w K mg base (W0 ec) 1 "_law_line_text" sp__law_line_text := by
  have nd := sc__law_line_text.nd
  refine fnz F sc__law_line_text hm hb (by
    unfold sp__law_line_text; intro ds w Q Q' E E' k k'
    repeat' (first | exact id | exact k _ _ | exact k' _ _ | refine Exists.imp fun _ => ?_ | refine And.imp ?_ ?_ | refine Or.imp ?_ ?_ | refine Z.impR ?_ | refine Z.allR fun _ => ?_ | refine Z.Stp.imp ?_)) (by
    intro ds w' Q E h; unfold sp__law_line_text at h; obtain ⟨a, b, m, rfl, -⟩ := h; rfl) (fun cdv A outer s H E hr =>
  (zb_one (z_ret (z_tjoin z_str (z_cons (z_fz (z_lcT (own := [("_law_number_here", 1)]) (ok := by show blkC ["_law_line_here", "_law_number_here"] (defScope s__law_line_text) _ _ = true; decide +kernel) (z_var 0) (c_ok (gzt := (gg_name 1)) (fun _ _ _ _ _ => (g_name 1 nd).pg) (fun _ _ _ _ _ => (z_strC T.str_ (z_cons (z_var 1) z_nil)))) nd)) z_nil))))) ?_
  intro ds w Q E h
  unfold sp__law_line_text at h
  clear nd hb hm F T fd f ec base mg K CD
  obtain ⟨a, b, m, rfl, ⟨sa, sb, sm⟩, h⟩ := h
  have fit := shown_fits sa sb sm
  kby_none
  refine un_comp ?_
  kby_none
  conv => whnf
  refine ⟨[tx a, tx b, tx m], rfl, fit, ?_⟩
  exact h
theorem ok__law_row {P : Program} {w : World} {K : PySem.W.Frag} {mg : Str → Option Value} {base : Heap} {ec : Nat → Addr} {CD : Addr} (T : Tx K mg ec CD) {f : Addr} {fd : FuncData} (F : Fun K "_law_row" "_law_row" s__law_row f fd) (hm : mg "_law_row" = some (.ref f)) (hb : Binds K fd ["_law_numbers"] []) :
    Fd P w K mg base (W0 ec) 1 "_law_row" sp__law_row := by
  have nd := sc__law_row.nd
  refine fnz F sc__law_row hm hb (by
    unfold sp__law_row; intro ds w Q Q' E E' k k'
    repeat' (first | exact id | exact k _ _ | exact k' _ _ | refine Exists.imp fun _ => ?_ | refine And.imp ?_ ?_ | refine Or.imp ?_ ?_ | refine Z.impR ?_ | refine Z.allR fun _ => ?_ | refine Z.Stp.imp ?_)) (by
    intro ds w' Q E h; unfold sp__law_row at h; obtain ⟨l, rfl, -⟩ := h; rfl) (fun cdv A outer s H E hr =>
  (zb_one (z_ret (z_tjoin z_str (z_cons (z_fz (z_lcT (own := [("_law_number_here", 1)]) (ok := by show blkC ["_law_numbers", "_law_number_here"] (defScope s__law_row) _ _ = true; decide +kernel) (z_var 0) (c_ok (gzt := (gg_name 1)) (fun _ _ _ _ _ => (g_name 1 nd).pg) (fun _ _ _ _ _ => (z_strC T.str_ (z_cons (z_var 1) z_nil)))) nd)) z_nil))))) ?_
  intro ds w Q E h
  unfold sp__law_row at h
  clear nd hb hm F T fd f ec base mg K CD
  obtain ⟨l, rfl, ⟨hl, hi⟩, q⟩ := h
  obtain ⟨xs, rfl, hx⟩ := ints_of hi
  clear hi
  have q := q (by
    rw [jnD_ints]
    refine Nat.le_trans (jn_len6 _ fun t ht => ?_) (by rw [List.length_map] at hl ⊢; omega)
    obtain ⟨x, hx2, rfl⟩ := List.mem_map.mp ht
    exact Nat.le_trans (tx_length (hx x hx2)) (by decide))
  rw [jnD_ints] at q
  have fit : ((xs.map tx).map (·.length)).sum + (xs.map tx).length * (" " : Str).length ≤ 16777216 := by
    have h1 := txs_lens hx
    rw [show (" " : Str).length = 1 from rfl]
    rw [List.length_map] at hl ⊢; omega
  kby_none
  refine ⟨fun i acc w' => w = w' ∧ acc = ((xs.take i).map tx).map D.str, ⟨rfl, rfl⟩, fun i d acc w' hd hI => ?_, fun acc w' hI => ?_⟩
  · obtain ⟨rfl, rfl⟩ := hI
    obtain ⟨x, hx2, rfl⟩ := ints_ix' hd
    have sx := hx x (List.mem_of_getElem? hx2)
    kby_none
    rw [tk_snoc hx2, List.map_append, List.map_append]; rfl
  obtain ⟨rfl, rfl⟩ := hI
  rw [List.length_map, List.take_length]
  kby_none
  exact q
theorem ok__law_lines {P : Program} {w : World} {K : PySem.W.Frag} {mg : Str → Option Value} {base : Heap} {ec : Nat → Addr} {CD : Addr} (T : Tx K mg ec CD) {f : Addr} {fd : FuncData} (F : Fun K "_law_lines" "_law_lines" s__law_lines f fd) (hm : mg "_law_lines" = some (.ref f)) (hb : Binds K fd ["_law_script", "_law_name_here", "_law_line_here", "_law_at"] []) (d__law_number : Fd P w K mg base (W0 ec) 2 "_law_number" sp__law_number) (d_first_within : Fd P w K mg base (W0 ec) 3 "first_within" sp_first_within) (d__law_draw : Fd P w K mg base (W0 ec) 1 "_law_draw" sp__law_draw) (d__law_row : Fd P w K mg base (W0 ec) 1 "_law_row" sp__law_row) (d_sum_paper : Fd P w K mg base (W0 ec) 5 "sum_paper" sp_sum_paper) (d_sum_parts : Fd P w K mg base (W0 ec) 5 "sum_parts" sp_sum_parts) (d_sum_rests : Fd P w K mg base (W0 ec) 6 "sum_rests" sp_sum_rests) (d_sum_squares : Fd P w K mg base (W0 ec) 7 "sum_squares" sp_sum_squares) (d_sum_placed : Fd P w K mg base (W0 ec) 7 "sum_placed" sp_sum_placed) (d_sum_between : Fd P w K mg base (W0 ec) 6 "sum_between" sp_sum_between) (d_rests_beneath : Fd P w K mg base (W0 ec) 7 "rests_beneath" sp_rests_beneath) (d_in_order : Fd P w K mg base (W0 ec) 7 "in_order" sp_in_order) :
    Fd P w K mg base (W0 ec) 8 "_law_lines" sp__law_lines := by
  have nd := sc__law_lines.nd
  refine fnz F sc__law_lines hm hb (by
    unfold sp__law_lines; intro ds w Q Q' E E' k k'
    repeat' (first | exact id | exact k _ _ | exact k' _ _ | refine Exists.imp fun _ => ?_ | refine And.imp ?_ ?_ | refine Or.imp ?_ ?_ | refine Z.impR ?_ | refine Z.allR fun _ => ?_ | refine Z.Stp.imp ?_)) (by
    intro ds w' Q E h; unfold sp__law_lines at h; obtain ⟨ns, s, a, b, m, k, rfl, -⟩ := h; rfl) (fun cdv A outer s H E hr =>
  (zb_cons (z_set 4 (z_callP d__law_number hr (z_cons (z_var 0) (z_cons (z_var 3) (z_cons z_int z_nil)))) nd)
  (zb_cons (z_set 5 (z_op o_mul l_mul (z_callP d__law_number hr (z_cons (z_var 0) (z_cons (z_op o_add l_add (z_var 3) z_int) (z_cons z_int z_nil)))) (z_ix ix_seq l_ix (z_tup (z_cons z_int (z_cons (z_un un_neg l_neg z_int) z_nil))) (z_op op_mod l_mod (z_callP d__law_draw hr (z_cons (z_var 0) (z_cons (z_op o_add l_add (z_var 3) z_int) z_nil))) z_int))) nd)
  (zb_cons (z_set 6 (z_op o_add l_add (z_abs T.abs_ (z_cons (z_var 5) z_nil)) (z_callP d__law_draw hr (z_cons (z_var 0) (z_cons (z_op o_add l_add (z_var 3) z_int) z_nil)))) nd)
  (zb_cons (z_set 7 (z_callP d__law_number hr (z_cons (z_var 0) (z_cons (z_op o_add l_add (z_var 3) z_int) (z_cons z_int z_nil)))) nd)
  (zb_cons (z_set 8 (z_op op_mod l_mod (z_callP d__law_number hr (z_cons (z_var 0) (z_cons (z_op o_add l_add (z_var 3) z_int) (z_cons z_int z_nil)))) (z_ix ix_seq l_ix (z_var 2) z_int)) nd)
  (zb_cons (z_own 9 (z_lst (z_cons (z_tup (z_cons z_str (z_cons (z_tup (z_cons (z_var 5) z_nil)) (z_cons (z_fz (z_lst (z_cons (z_strC T.str_ (z_cons (z_op o_div l_div (z_op o_add l_add (z_op o_mul l_mul (z_ix ix_seq l_ix (z_var 2) z_int) (z_var 5)) (z_ix ix_seq l_ix (z_var 2) z_int)) (z_ix ix_seq l_ix (z_var 2) z_int)) z_nil)) z_nil))) z_nil)))) z_nil)) nd)
  (zb_cons (z_appO 9 (z_tup (z_cons z_str (z_cons (z_tup (z_cons (z_var 5) z_nil)) (z_cons (z_fz (z_lst (z_cons (z_strC T.str_ (z_cons (z_op op_mod l_mod (z_op o_add l_add (z_op o_mul l_mul (z_ix ix_seq l_ix (z_var 2) z_int) (z_var 5)) (z_ix ix_seq l_ix (z_var 2) z_int)) (z_ix ix_seq l_ix (z_var 2) z_int)) z_nil)) z_nil))) z_nil)))))
  (zb_cons (z_appO 9 (z_tup (z_cons z_str (z_cons (z_tup (z_cons (z_var 4) z_nil)) (z_cons (z_fz (z_lst (z_cons (z_strC T.str_ (z_cons (z_callP d_sum_parts hr (z_cons (z_var 2) (z_cons (z_var 4) z_nil))) z_nil)) z_nil))) z_nil)))))
  (zb_cons (z_appO 9 (z_tup (z_cons z_str (z_cons (z_tup (z_cons (z_var 4) z_nil)) (z_cons (z_fz (z_lst (z_cons (z_strC T.str_ (z_cons (z_callP d_sum_rests hr (z_cons (z_var 2) (z_cons (z_var 4) z_nil))) z_nil)) z_nil))) z_nil)))))
  (zb_cons (z_appO 9 (z_tup (z_cons z_str (z_cons (z_tup (z_cons (z_var 4) z_nil)) (z_cons (z_fz (z_lst (z_cons (z_strC T.str_ (z_cons (z_callP d_sum_squares hr (z_cons (z_var 2) (z_cons (z_var 4) z_nil))) z_nil)) z_nil))) z_nil)))))
  (zb_cons (z_appO 9 (z_tup (z_cons z_str (z_cons (z_tup (z_cons (z_var 4) z_nil)) (z_cons (z_fz (z_lst (z_cons (z_strC T.str_ (z_cons (z_callP d_sum_placed hr (z_cons (z_var 2) (z_cons (z_var 4) z_nil))) z_nil)) z_nil))) z_nil)))))
  (zb_cons (z_appO 9 (z_tup (z_cons z_str (z_cons (z_tup (z_cons (z_var 5) (z_cons (z_var 6) z_nil))) (z_cons (z_fz (z_lst (z_cons (z_strC T.str_ (z_cons (z_callP d_sum_between hr (z_cons (z_var 2) (z_cons (z_var 5) (z_cons (z_var 6) z_nil)))) z_nil)) z_nil))) z_nil)))))
  (zb_cons (z_appO 9 (z_tup (z_cons z_str (z_cons (z_tup (z_cons (z_var 4) (z_cons (z_var 7) z_nil))) (z_cons (z_fz (z_lst (z_cons (z_strC T.str_ (z_cons (z_callP d_rests_beneath hr (z_cons (z_var 2) (z_cons (z_var 4) (z_cons (z_var 7) z_nil)))) z_nil)) z_nil))) z_nil)))))
  (zb_cons (z_set 10 (z_callP d_first_within hr (z_cons (z_var 2) (z_cons (z_var 8) (z_cons (z_op op_sub l_sub (z_ix ix_seq l_ix (z_var 2) z_int) z_int) z_nil)))) nd)
  (zb_cons (z_appO 9 (z_tup (z_cons z_str (z_cons (z_tup (z_cons (z_var 8) (z_cons (z_op op_sub l_sub (z_ix ix_seq l_ix (z_var 2) z_int) z_int) z_nil))) (z_cons (z_fz (z_lcT (own := [("_law_one", 18)]) (ok := by show blkC ["_law_script", "_law_name_here", "_law_line_here", "_law_at", "_law_n", "_law_x", "_law_y", "_law_bound", "_law_low", "_law_found", "_law_place", "_law_rows", "_law_count", "_law_there", "_law_total", "_law_word", "_law_numbers", "_law_due", "_law_one"] (defScope s__law_lines) _ _ = true; decide +kernel) (z_tup (z_cons (z_var 10) z_nil)) (c_if (gzt := (gg_name 18)) (fun _ _ _ _ _ => (g_name 18 nd).pg) (fun _ _ _ _ _ => (z_tcmp op_notN l_notN (z_var 18) z_non)) (fun _ _ _ _ _ => (z_strC T.str_ (z_cons (z_var 18) z_nil)))) nd)) z_nil)))))
  (zb_cons (z_if (z_tcmp op_gt l_gt (z_var 4) z_int)
  (zb_one (z_appO 9 (z_tup (z_cons z_str (z_cons (z_tup (z_cons (z_var 4) (z_cons (z_op op_mod l_mod (z_var 7) (z_var 4)) z_nil))) (z_cons (z_fz (z_lst (z_cons (z_callP d__law_row hr (z_cons (z_callP d_in_order hr (z_cons (z_var 2) (z_cons (z_var 4) (z_cons (z_op op_mod l_mod (z_var 7) (z_var 4)) z_nil)))) z_nil)) z_nil))) z_nil))))))
  zb_nil)
  (zb_cons (s_lcT 11 (own := [("_law_count", 12), ("_law_there", 13), ("_law_total", 14)]) (hw := wiped_tup (by decide)) (ok := by show blkC ["_law_script", "_law_name_here", "_law_line_here", "_law_at", "_law_n", "_law_x", "_law_y", "_law_bound", "_law_low", "_law_found", "_law_place", "_law_rows", "_law_count", "_law_there", "_law_total", "_law_word", "_law_numbers", "_law_due", "_law_one"] (defScope s__law_lines) _ _ = true; decide +kernel) (z_callP d_sum_paper hr (z_cons (z_var 2) (z_cons (z_var 4) z_nil))) (c_ok (gzt := (gg_tup [12, 13, 14])) (fun _ _ _ _ _ => (g_tup (gs_cons 12 nd (gs_cons 13 nd (gs_cons 14 nd gs_nil)))).pg) (fun _ _ _ _ _ => (z_callP d__law_row hr (z_cons (z_op o_add l_add (z_op o_add l_add (z_tup (z_cons (z_var 12) z_nil)) (z_var 13)) (z_tup (z_cons (z_var 14) z_nil))) z_nil)))) nd).2
  (zb_cons (z_appO 9 (z_tup (z_cons z_str (z_cons (z_tup (z_cons (z_var 4) z_nil)) (z_cons (z_var 11) z_nil)))))
  (zb_frz 9 (zb_one (z_ret (z_fz (z_lcL (own := [("_law_word", 15), ("_law_numbers", 16), ("_law_due", 17)]) (hw := wiped_tup (by decide)) (ok := by show blkC ["_law_script", "_law_name_here", "_law_line_here", "_law_at", "_law_n", "_law_x", "_law_y", "_law_bound", "_law_low", "_law_found", "_law_place", "_law_rows", "_law_count", "_law_there", "_law_total", "_law_word", "_law_numbers", "_law_due", "_law_one"] (defScope s__law_lines) _ _ = true; decide +kernel) (z_var 9) (c_ok (gzt := (gg_tup [15, 16, 17])) (fun _ _ _ _ _ => (g_tup (gs_cons 15 nd (gs_cons 16 nd (gs_cons 17 nd gs_nil)))).pg) (fun _ _ _ _ _ => (z_tup (z_cons (z_op o_add l_add (z_op o_add l_add (z_op o_add l_add (z_op o_add l_add (z_var 15) z_str) (z_var 1)) z_str) (z_callP d__law_row hr (z_cons (z_var 16) z_nil))) (z_cons (z_var 17) z_nil))))) nd)))))))))))))))))))))))) ?_
  intro ds w Q E h
  unfold sp__law_lines at h
  clear nd d__law_number d_first_within d__law_draw d__law_row d_sum_paper d_sum_parts d_sum_rests d_sum_squares d_sum_placed d_sum_between d_rests_beneath d_in_order hb hm F T fd f ec base mg K CD
  obtain ⟨ns, s, a, b, m, k, rfl, ⟨hlen, nm, hl, k0, k1⟩, h⟩ := h
  obtain ⟨s1, hs1, hs2, hs3⟩ := Z.sgn_at (drw ns (k + 140))
  have yb := drw_b ns (k + 141)
  obtain ⟨m1, sa, sb, sm, -, -, -⟩ := id hl
  kby_none
  refine Stp.mk fun n n0 nb sn => ?_
  replace nb : n.natAbs < 10 ^ 60 := nb
  kby_none
  refine Stp.mk fun x1 x0 xb sx1 => ?_
  replace xb : x1.natAbs < 10 ^ 59 := xb
  have xb2 : (x1 * s1).natAbs < 10 ^ 59 := by
    rw [Int.natAbs_mul]
    rcases hs2 with rfl | rfl
    · rw [show (1 : Int).natAbs = 1 from rfl, Nat.mul_one]; exact xb
    · rw [show (-1 : Int).natAbs = 1 from rfl, Nat.mul_one]; exact xb
  kby_none
  have xn : (x1 * s1).natAbs < 10 ^ 60 := by omega
  generalize x1 * s1 = x at *
  have xy : x ≤ (x.natAbs : Int) + drw ns (k + 141) := by omega
  have yn : ((x.natAbs : Int) + drw ns (k + 141)).natAbs < 10 ^ 60 := by omega
  generalize (x.natAbs : Int) + drw ns (k + 141) = y at *
  have sx : Sm 205 x := (sm60 xn).le (by decide)
  have sy : Sm 205 y := (sm60 yn).le (by decide)
  refine Stp.mk fun bd bd0 bdb sbd => ?_
  replace bdb : bd.natAbs < 10 ^ 60 := bdb
  kby_none
  refine Stp.mk fun lw lw0 lwb slw => ?_
  have l0 := Int.emod_nonneg lw (show m ≠ 0 by omega)
  have l1 := Int.emod_lt_of_pos lw (show 0 < m by omega)
  generalize hlow : lw % m = low at l0 l1
  have lowb : low.natAbs < 10 ^ 60 := by have := hl.m60; omega
  have m1b : (m - 1).natAbs < 10 ^ 60 := by have := hl.m60; omega
  have slow : Sm 205 low := (sm60 lowb).le (by decide)
  have z1 : Sm 1900 (FS a b m n.toNat) := FSK_sm hl nb
  have z2 : Sm 1900 (RS a b m n.toNat) := RS_sm hl nb
  have z3 : Sm 1900 (QS a b m n.toNat) := QS_sm hl nb
  have z4 : Sm 1900 (JS a b m n.toNat) := JS_sm hl nb
  have z5 : Sm 1900 (CB a b m bd n.toNat) := CB_sm hl nb
  have gl : GoodL a b m n := ⟨m1, n0, sa.le (by decide), sb.le (by decide), sm.le (by decide), sn.le (by decide)⟩
  have z6 : Sm 1900 (FS a (a * x + b) m (y - x).toNat) := by
    have z := FS_sm (k := 411) m1 (show 0 ≤ y - x by omega) (sa.le (by decide)) (Sm.le ((sa.mul sx).add sb) (by decide)) (sm.le (by decide)) (Sm.le (sy.sub sx) (by decide))
    exact z.le (show 4 * 411 + 20 ≤ 1900 by decide)
  have sy5 : Sm 1500 y := sy.le (by decide)
  have ok205 : RwOk 205 (n, a, b, m) := ⟨m1, n0, sa, sb, sm, sn⟩
  obtain ⟨L, hL, -⟩ := pchn_ex m.toNat (n, a, b, m) ok205 (by show m ≤ _; omega)
  obtain ⟨hP, h205⟩ := pap205 hl n0 nb hL
  have ll : L.length ≤ 2 * 1000 := hL.len 1000 hP.ok (Rw.lt (hP.ok _ (List.mem_of_getElem? hL.head)) (Nat.le_refl _))
  kby_none
  · exact absurd (show 0 ≤ lw % m ∧ lw % m ≤ m - 1 ∧ m - 1 < m from ⟨by omega, by omega, by omega⟩) (by assumption)
  rw [hlow]
  refine Stp.mk fun d1 h1 => ?_
  kby_none
  refine ⟨fun i acc w' => w = w' ∧ acc = if i = 0 then [] else (rowD? d1).map D.str, ⟨rfl, rfl⟩, fun i dd acc w' hd hI => ?_, fun acc w' hI => ?_⟩
  · obtain ⟨rfl, rfl⟩ := hI
    obtain ⟨rfl, rfl⟩ : i = 0 ∧ dd = d1 := by
      cases i with
      | zero => exact ⟨rfl, (Option.some.inj hd).symm⟩
      | succ i => exact nomatch hd
    rcases h1 with ⟨f, rfl, hf⟩ | ⟨rfl, hn⟩
    · have fl := hf.lt (show 0 < m by omega)
      have sf : Sm 1900 f := (sm.of_le hf.x0 (by omega)).le (by decide)
      kby_none
      all_goals first | (rename_i g; exact absurd g (by decide)) | exact ⟨rfl, rfl⟩ | rfl
    · kby_none
      all_goals first | (rename_i g; exact absurd g (by decide)) | exact ⟨rfl, rfl⟩ | rfl
  obtain ⟨rfl, rfl⟩ := hI
  rw [show (if ([d1] : List D).length = 0 then [] else (rowD? d1).map D.str) = (rowD? d1).map D.str from rfl]
  have e1 := anN (word := "part") (x := x) (xs := []) (by decide) nm (al1 xn) (Nat.le_of_ble_eq_true rfl) (fun kv hk => (show (if ("part" : Str) = "part" then (a * x + b) / m else (a * x + b) % m) = (a * x + b) / m from if_pos rfl) ▸ aw_place (Or.inl rfl) hk hl xn) (sok1 _) (Nat.le_of_ble_eq_true rfl)
  have e2 := anN (word := "rest") (x := x) (xs := []) (by decide) nm (al1 xn) (Nat.le_of_ble_eq_true rfl) (fun kv hk => (show (if ("rest" : Str) = "part" then (a * x + b) / m else (a * x + b) % m) = (a * x + b) % m from if_neg (by decide)) ▸ aw_place (Or.inr rfl) hk hl xn) (sok1 _) (Nat.le_of_ble_eq_true rfl)
  have e3 := anN (word := "sum") (x := n) (xs := []) (by decide) nm (al1 nb) (Nat.le_of_ble_eq_true rfl) (fun kv hk => (show cntV "sum" a b m n = FS a b m n.toNat from rfl) ▸ aw_count (by decide) hk hl n0 nb) (sok1 _) (Nat.le_of_ble_eq_true rfl)
  have e4 := anN (word := "rests") (x := n) (xs := []) (by decide) nm (al1 nb) (Nat.le_of_ble_eq_true rfl) (fun kv hk => (show cntV "rests" a b m n = RS a b m n.toNat from rfl) ▸ aw_count (by decide) hk hl n0 nb) (sok1 _) (Nat.le_of_ble_eq_true rfl)
  have e5 := anN (word := "squares") (x := n) (xs := []) (by decide) nm (al1 nb) (Nat.le_of_ble_eq_true rfl) (fun kv hk => (show cntV "squares" a b m n = QS a b m n.toNat from rfl) ▸ aw_count (by decide) hk hl n0 nb) (sok1 _) (Nat.le_of_ble_eq_true rfl)
  have e6 := anN (word := "placed") (x := n) (xs := []) (by decide) nm (al1 nb) (Nat.le_of_ble_eq_true rfl) (fun kv hk => (show cntV "placed" a b m n = JS a b m n.toNat from rfl) ▸ aw_count (by decide) hk hl n0 nb) (sok1 _) (Nat.le_of_ble_eq_true rfl)
  have e7 := anN (word := "between") (x := x) (xs := [y]) (by decide) nm (al2 xn yn) (Nat.le_of_ble_eq_true rfl) (fun kv hk => aw_between hk hl xn yn xy) (sok1 _) (Nat.le_of_ble_eq_true rfl)
  have e8 := anN (word := "beneath") (x := n) (xs := [bd]) (by decide) nm (al2 nb bdb) (Nat.le_of_ble_eq_true rfl) (fun kv hk => aw_beneath hk hl n0 nb bdb) (sok1 _) (Nat.le_of_ble_eq_true rfl)
  have e9 := anN (word := "within") (x := low) (xs := [m - 1]) (by decide) nm (al2 lowb m1b) (Nat.le_of_ble_eq_true rfl) (fun kv hk => aw_within hk hl lowb m1b ⟨l0, by omega, by omega⟩ (fun d' g => Res.uniq h1 g)) (rowD?_ok d1) (rowD?_len d1)
  have e10 := anN (word := "paper") (x := n) (xs := []) (r := L.map rowS) (by decide) nm (al1 nb) (Nat.le_of_ble_eq_true rfl) (fun kv hk => aw_paper hk hl n0 nb hL) (sokRows L) (by rw [List.length_map]; omega)
  kby_none
  · exact absurd (show 0 ≤ bd % n ∧ bd % n < n from ⟨Int.emod_nonneg _ (by omega), Int.emod_lt_of_pos _ (by omega)⟩) (by assumption)
  · refine Stp.mk fun r1 p1 ho => ?_
    have q0 := Int.emod_nonneg bd (show n ≠ 0 by omega)
    have q1 := Int.emod_lt_of_pos bd (show 0 < n by omega)
    have r0 := Int.emod_nonneg (a * p1 + b) (show m ≠ 0 by omega)
    have r2 := Int.emod_lt_of_pos (a * p1 + b) (show 0 < m by omega)
    rw [ho.at'] at r0 r2
    have sr : Sm 1900 r1 := (sm.of_le r0 (by omega)).le (by decide)
    have sp : Sm 1900 p1 := (sn.of_le ho.p0 (by have := ho.pn; omega)).le (by decide)
    have e11 := anN (word := "order") (x := n) (xs := [bd % n]) (r := [jnD [D.int r1, D.int p1]]) (by decide) nm (al2 nb (show (bd % n).natAbs < 10 ^ 60 by omega)) (Nat.le_of_ble_eq_true rfl) (fun kv hk => jn2 r1 p1 ▸ aw_order hk hl n0 nb (show (bd % n).natAbs < 10 ^ 60 by omega) ⟨q0, q1⟩ (fun r' p' g => g.uniq ho)) (fun y hy => by rw [List.mem_singleton.mp hy]; exact sok_jnt [r1, p1]) (Nat.le_of_ble_eq_true rfl)
    kby_none
    · exact (show (0 : Int) ≤ 1 by decide)
    refine ⟨fun i acc w' => w = w' ∧ acc = ((L.take i).map rowS).map D.str, ⟨rfl, rfl⟩, fun i dd acc w' hd hI => ?_, fun acc w' hI => ?_⟩
    · obtain ⟨rfl, rfl⟩ := hI
      rw [List.getElem?_map] at hd
      obtain ⟨r, hr, rfl⟩ := Option.map_eq_some_iff.mp hd
      have ok := h205 r (List.mem_of_getElem? hr)
      have y0 := ok.sn.le (show 205 ≤ 1900 by decide)
      have y1 := ok.sa.le (show 205 ≤ 1900 by decide)
      have y2 := ok.sb.le (show 205 ≤ 1900 by decide)
      have y3 := ok.sm.le (show 205 ≤ 1900 by decide)
      have y4 := sumR_sm ok
      clear e1 e2 e3 e4 e5 e6 e7 e8 e9
      kby_none
      all_goals try (first | exact (show (0 : Int) ≤ 1 by decide) | (rename_i g; exact (List.cons_ne_nil _ _ g).elim))
      rw [tk_snoc hr, List.map_append, List.map_append]; rfl
    obtain ⟨rfl, rfl⟩ := hI
    rw [List.length_map, List.take_length]
    kby_none
    simp only [List.cons_append, List.nil_append]
    refine un_comp ?_
    have lts := nm.fr.2
    have lits := lit37
    kby_none
    all_goals try exact (show (0 : Int) ≤ 1 by decide)
    refine h _ ?_ ?_
    · simp
    exact Stp.mk ⟨⟨_, _, rfl, e1⟩, ⟨_, _, rfl, e2⟩, ⟨_, _, rfl, e3⟩, ⟨_, _, rfl, e4⟩, ⟨_, _, rfl, e5⟩, ⟨_, _, rfl, e6⟩, ⟨_, _, rfl, e7⟩, ⟨_, _, rfl, e8⟩, ⟨_, _, rfl, e9⟩, ⟨_, _, rfl, e11⟩, ⟨_, _, rfl, e10⟩, trivial⟩
  · skip
    refine ⟨fun i acc w' => w = w' ∧ acc = ((L.take i).map rowS).map D.str, ⟨rfl, rfl⟩, fun i dd acc w' hd hI => ?_, fun acc w' hI => ?_⟩
    · obtain ⟨rfl, rfl⟩ := hI
      rw [List.getElem?_map] at hd
      obtain ⟨r, hr, rfl⟩ := Option.map_eq_some_iff.mp hd
      have ok := h205 r (List.mem_of_getElem? hr)
      have y0 := ok.sn.le (show 205 ≤ 1900 by decide)
      have y1 := ok.sa.le (show 205 ≤ 1900 by decide)
      have y2 := ok.sb.le (show 205 ≤ 1900 by decide)
      have y3 := ok.sm.le (show 205 ≤ 1900 by decide)
      have y4 := sumR_sm ok
      clear e1 e2 e3 e4 e5 e6 e7 e8 e9
      kby_none
      all_goals try (first | exact (show (0 : Int) ≤ 1 by decide) | (rename_i g; exact (List.cons_ne_nil _ _ g).elim))
      rw [tk_snoc hr, List.map_append, List.map_append]; rfl
    obtain ⟨rfl, rfl⟩ := hI
    rw [List.length_map, List.take_length]
    kby_none
    simp only [List.cons_append, List.nil_append]
    refine un_comp ?_
    have lts := nm.fr.2
    have lits := lit37
    kby_none
    all_goals try exact (show (0 : Int) ≤ 1 by decide)
    refine h _ ?_ ?_
    · simp
    exact Stp.mk ⟨⟨_, _, rfl, e1⟩, ⟨_, _, rfl, e2⟩, ⟨_, _, rfl, e3⟩, ⟨_, _, rfl, e4⟩, ⟨_, _, rfl, e5⟩, ⟨_, _, rfl, e6⟩, ⟨_, _, rfl, e7⟩, ⟨_, _, rfl, e8⟩, ⟨_, _, rfl, e9⟩, ⟨_, _, rfl, e10⟩, trivial⟩
theorem ok__law_told_right {P : Program} {w : World} {K : PySem.W.Frag} {mg : Str → Option Value} {base : Heap} {ec : Nat → Addr} {CD : Addr} (T : Tx K mg ec CD) {f : Addr} {fd : FuncData} (F : Fun K "_law_told_right" "_law_told_right" s__law_told_right f fd) (hm : mg "_law_told_right" = some (.ref f)) (hb : Binds K fd ["_law_desk", "_law_lines_here"] []) (d_Desk_ask : Fm P w K mg base CD ec 10 "ask" sp_Desk_ask) :
    Fd P w K mg base (WK K CD ec) 11 "_law_told_right" sp__law_told_right := by
  have nd := sc__law_told_right.nd
  refine fnz F sc__law_told_right hm hb (by
    unfold sp__law_told_right; intro ds w Q Q' E E' k k'
    repeat' (first | exact id | exact k _ _ | exact k' _ _ | refine Exists.imp fun _ => ?_ | refine And.imp ?_ ?_ | refine Or.imp ?_ ?_ | refine Z.impR ?_ | refine Z.allR fun _ => ?_ | refine Z.Stp.imp ?_)) (by
    intro ds w' Q E h; unfold sp__law_told_right at h; obtain ⟨a, l, rfl, -⟩ := h; rfl) (fun cdv A outer s H E hr =>
  (zb_cons (z_set 2 (z_fz (z_lst z_nil)) nd)
  (zb_cons (z_set 3 (z_fz (z_lst z_nil)) nd)
  (zb_cons (z_forL (z_var 1) (g_tup (gs_cons 4 nd (gs_cons 5 nd gs_nil)))
  (zb_cons (z_set 6 (z_unK (z_meth d_Desk_ask T.cD hr (z_var 0) (z_cons (z_var 4) z_nil))) nd)
  (zb_cons (z_set 7 (z_meth d_Desk_ask T.cD hr (z_var 0) (z_cons (z_var 4) z_nil)) nd)
  (zb_cons (z_if (z_pw (z_or (z_tcmp (o_ne hr) l_ne (z_var 6) (z_var 5)) (z_or (z_tcmpK (o_ne hr) l_ne (z_var 7) (z_var 5)) (z_or1 (z_tcmp (o_ne hr) l_ne (z_var 2) (z_var 3))))))
  (zb_one (z_ret z_bl))
  zb_nil)
  (zb_cons (z_appK 7 z_str)
  (zb_cons (z_if (z_tcmp (o_ne hr) l_ne (z_unK (z_meth d_Desk_ask T.cD hr (z_var 0) (z_cons (z_var 4) z_nil))) (z_var 5))
  (zb_one (z_ret z_bl))
  zb_nil)
  (zb_cons (z_set 2 (z_var 6) nd)
  (zb_one (z_set 3 (z_var 5) nd)))))))))
  (zb_one (z_ret (z_cmp (o_eq hr) l_eq (z_var 2) (z_var 3)))))))) ?_
  intro ds w Q E h
  unfold sp__law_told_right at h
  clear nd d_Desk_ask hb hm F T fd f ec base mg K CD
  obtain ⟨a, l, rfl, ⟨hD, hkv, hn, hs⟩, q⟩ := h
  obtain ⟨s, p1, p2, p3, hk, hl⟩ := hs.out
  obtain ⟨d, hob⟩ := id hD
  have hA := hl.at'
  clear hl
  kby_none
  refine ⟨fun i δ w' => ∃ ls, w' = { w with ls := ls } ∧ ∃ (r : List Str) (x4 x5 x6 x7 : Sl), δ = [.val (.ref a), .val (.lst l), .val (.lst (r.map D.str)), .val (.lst (r.map D.str)), x4, x5, x6, x7] ∧ Stp (∀ x ∈ r, PyData.strOk x = true), ⟨w.ls, rfl, [], _, _, _, _, rfl, Stp.mk fun x hx => nomatch hx⟩, fun i dd δ w' hd hI => ?_, fun δ w' hI => ?_⟩
  rotate_left
  · obtain ⟨ls, rfl, r, x4, x5, x6, x7, rfl, hr⟩ := hI
    have k1 := okStrs hr.out
    have k2 := dpStrs r
    have k3 : deq (.lst (r.map D.str)) (.lst (r.map D.str)) = true := by rw [Z.deq_lst]; exact deqS r
    kby_none
    all_goals first | exact k1 | exact k2 | (rw [k3]; exact q ls)
  obtain ⟨ls, rfl, r0, x4, x5, x6, x7, rfl, hr0⟩ := hI
  obtain ⟨t, r, rfl, hq, hok, hlen⟩ := hA dd (List.mem_of_getElem? hd)
  have K := hq w.kv hk
  have k1 := okStrs hr0.out
  have k2 := dpStrs r0
  have k3 : deq (.lst (r0.map D.str)) (.lst (r0.map D.str)) = true := by rw [Z.deq_lst]; exact deqS r0
  have k4 := okStrs hok
  have k5 := dpStrs r
  have k6 : deq (.lst (r.map D.str)) (.lst (r.map D.str)) = true := by rw [Z.deq_lst]; exact deqS r
  clear hA hq
  kby_none
  conv => whnf
  refine ⟨_, _, .rows r, rfl, ?_⟩
  refine ask_go K hD hkv hn ?_
  kby_none
  conv => whnf
  refine ⟨_, _, .rows r, rfl, ?_⟩
  refine ask_go K hD hkv hn ?_
  kby_none
  · exact absurd ((deqS r).symm.trans (by assumption)) (by decide)
  conv => whnf
  refine ⟨r.map D.str, by rw [wGet_cons, if_pos rfl], ?_⟩
  conv => whnf
  refine ⟨by rw [wGet_cons, if_pos rfl], ?_⟩
  kby_none
  · exact absurd ((deqS r).symm.trans (by assumption)) (by decide)
  · exact absurd ((deqS r0).symm.trans (by assumption)) (by decide)
  · exact ⟨_, by rw [wGet_cons, if_pos rfl]⟩
  conv => whnf
  refine ⟨r.map D.str, by rw [wGet_cons, if_pos rfl], by rw [List.length_map]; omega, ?_⟩
  kby_none
  conv => whnf
  refine ⟨_, _, .rows r, rfl, ?_⟩
  refine ask_go K hD hkv hn ?_
  kby_none
  · exact absurd ((deqS r).symm.trans (by assumption)) (by decide)
  · exact Stp.mk hok
theorem ok_law {P : Program} {w : World} {K : PySem.W.Frag} {mg : Str → Option Value} {base : Heap} {ec : Nat → Addr} {CD : Addr} (T : Tx K mg ec CD) {f : Addr} {fd : FuncData} (F : Fun K "law" "law" s_law f fd) (hm : mg "law" = some (.ref f)) (hb : Binds K fd ["_law_script"] []) (d__law_name : Fd P w K mg base (W0 ec) 2 "_law_name" sp__law_name) (d__law_line : Fd P w K mg base (W0 ec) 3 "_law_line" sp__law_line) (d__law_number : Fd P w K mg base (W0 ec) 2 "_law_number" sp__law_number) (d_Desk_ask : Fm P w K mg base CD ec 10 "ask" sp_Desk_ask) (d__law_told_right : Fd P w K mg base (WK K CD ec) 11 "_law_told_right" sp__law_told_right) (d__law_lines : Fd P w K mg base (W0 ec) 8 "_law_lines" sp__law_lines) (d_points_between : Fd P w K mg base (W0 ec) 7 "points_between" sp_points_between) (d__law_line_text : Fd P w K mg base (W0 ec) 1 "_law_line_text" sp__law_line_text) (d_init : Di P w K mg base CD) :
    FnOk P w K mg base (L2.CX P w) 12 f fd ["_law_script"] (spz K (WK K CD ec) sp_law) := by
  have nd := sc_law.nd
  refine fnzOk F sc_law (by
    intro ds w' Q E h; obtain ⟨_, _, rfl, -⟩ := h; rfl) (fun cdv A outer s H E hr =>
  (zb_cons (z_set 1 (z_desk d_init hr T.mD) nd)
  (zb_cons (z_set 2 (z_callP d__law_name hr (z_cons (z_var 0) (z_cons z_int z_nil))) nd)
  (zb_cons (z_set 3 (z_callP d__law_name hr (z_cons (z_var 0) (z_cons z_int z_nil))) nd)
  (zb_cons (z_forR1 4 T.range_ (z_cons z_int z_nil)
  (zb_cons (z_set 5 (z_callP d__law_line hr (z_cons (z_var 0) (z_cons (z_op o_add l_add z_int (z_op o_mul l_mul z_int (z_var 4))) (z_cons z_int z_nil)))) nd)
  (zb_cons (z_set 6 (z_callP d__law_line hr (z_cons (z_var 0) (z_cons (z_op o_add l_add z_int (z_op o_mul l_mul z_int (z_var 4))) (z_cons z_int z_nil)))) nd)
  (zb_cons (z_if (z_tcmp (o_ne hr) l_ne (z_unK (z_meth d_Desk_ask T.cD hr (z_var 1) (z_cons (z_op o_add l_add (z_op o_add l_add (z_op o_add l_add z_str (z_var 2)) z_str) (z_callP d__law_line_text hr (z_cons (z_var 5) z_nil))) z_nil))) (z_fz (z_lst z_nil)))
  (zb_one (z_ret z_bl))
  zb_nil)
  (zb_cons (z_if (z_tcmp (o_ne hr) l_ne (z_unK (z_meth d_Desk_ask T.cD hr (z_var 1) (z_cons (z_op o_add l_add (z_op o_add l_add (z_op o_add l_add z_str (z_var 3)) z_str) (z_callP d__law_line_text hr (z_cons (z_var 6) z_nil))) z_nil))) (z_fz (z_lst z_nil)))
  (zb_one (z_ret z_bl))
  zb_nil)
  (zb_cons (z_if (z_not (z_tval (z_call d__law_told_right hr (z_cons (z_var 1) (z_cons (z_callP d__law_lines hr (z_cons (z_var 0) (z_cons (z_var 2) (z_cons (z_var 5) (z_cons (z_op o_add l_add z_int (z_op o_mul l_mul z_int (z_var 4))) z_nil))))) z_nil)))))
  (zb_one (z_ret z_bl))
  zb_nil)
  (zb_cons (z_if (z_tcmp (o_ne hr) l_ne (z_unK (z_meth d_Desk_ask T.cD hr (z_var 1) (z_cons (z_op o_add l_add (z_op o_add l_add (z_op o_add l_add z_str (z_var 2)) z_str) (z_callP d__law_line_text hr (z_cons (z_var 6) z_nil))) z_nil))) (z_fz (z_lst z_nil)))
  (zb_one (z_ret z_bl))
  zb_nil)
  (zb_cons (z_if (z_not (z_tval (z_call d__law_told_right hr (z_cons (z_var 1) (z_cons (z_callP d__law_lines hr (z_cons (z_var 0) (z_cons (z_var 2) (z_cons (z_var 6) (z_cons (z_op o_add l_add z_int (z_op o_mul l_mul z_int (z_var 4))) z_nil))))) z_nil)))))
  (zb_one (z_ret z_bl))
  zb_nil)
  (zb_cons (z_if (z_tcmp (o_ne hr) l_ne (z_unK (z_meth d_Desk_ask T.cD hr (z_var 1) (z_cons (z_op o_add l_add (z_op o_add l_add (z_op o_add l_add z_str (z_var 2)) z_str) (z_callP d__law_line_text hr (z_cons (z_var 5) z_nil))) z_nil))) (z_fz (z_lst z_nil)))
  (zb_one (z_ret z_bl))
  zb_nil)
  (zb_cons (z_set 7 (z_callP d__law_number hr (z_cons (z_var 0) (z_cons (z_op o_add l_add z_int (z_op o_mul l_mul z_int (z_var 4))) (z_cons z_int z_nil)))) nd)
  (zb_cons (z_set 8 (z_fz (z_lst (z_cons (z_strC T.str_ (z_cons (z_callP d_points_between hr (z_cons (z_tup (z_cons (z_var 5) z_nil)) (z_cons (z_tup (z_cons (z_var 6) z_nil)) (z_cons (z_un un_neg l_neg z_int) (z_cons (z_var 7) z_nil))))) z_nil)) z_nil))) nd)
  (zb_one (z_if (z_tcmp (o_ne hr) l_ne (z_unK (z_meth d_Desk_ask T.cD hr (z_var 1) (z_cons (z_op o_add l_add (z_op o_add l_add (z_op o_add l_add (z_op o_add l_add (z_op o_add l_add z_str (z_strC T.str_ (z_cons (z_var 7) z_nil))) z_str) (z_var 2)) z_str) (z_var 3)) z_nil))) (z_var 8))
  (zb_one (z_ret z_bl))
  zb_nil)))))))))))) nd)
  (zb_one (z_ret z_bl))))))) ?_
  intro ds w Q E h
  obtain ⟨rfl, ns, rfl, hlen, hbits, h⟩ := h
  clear nd d__law_name d__law_line d__law_number d_Desk_ask d__law_told_right d__law_lines d_points_between d__law_line_text d_init hb hm F T fd f ec base mg K CD
  have lits := lit_lens
  have nm0 : NmOk (nmF ns 0) := ⟨nmF_ok ns (by decide) (by decide)⟩
  have nm1 : NmOk (nmF ns 1) := ⟨nmF_ok ns (by decide) (by decide)⟩
  have ne : nmF ns 0 ≠ nmF ns 1 := fun e => absurd (nmF_inj ns (by decide) (by decide) (by decide) (by decide) e) (by decide)
  have ln0 := nm0.fr.2
  have ln1 := nm1.fr.2
  kby_none
  rename_i a d
  refine ⟨fun i δ w' => ∃ ls kv c, w' = ⟨ls, some (a, d), kv, c⟩ ∧ c ≤ 4 * i ∧ KvOk kv ∧ ∃ x4 x5 x6 x7 x8, δ = [.val (.arr (ns.map D.int)), .val (.ref a), .val (.str (nmF ns 0)), .val (.str (nmF ns 1)), x4, x5, x6, x7, x8], ⟨_, _, 0, rfl, by omega, kv0, _, _, _, _, _, rfl⟩, fun i δ w' hi hI => ?_, fun δ w' hI => ?_⟩
  rotate_left
  · obtain ⟨ls, kv, c, rfl, hc, hkv, x4, x5, x6, x7, x8, rfl⟩ := hI
    kby_none
    exact h _
  obtain ⟨ls, kv, c, rfl, hc, hkv, x4, x5, x6, x7, x8, rfl⟩ := hI
  have hi : i < 2 := hi
  have hD : HasD (some (a, d)) a := ⟨d, rfl⟩
  kby_none
  refine Stp.mk fun p1 p2 p3 hp => ?_
  kby_none
  refine Stp.mk fun q1 q2 q3 hq => ?_
  have t1 := hp.sa.le (show 205 ≤ 1900 by decide)
  have t2 := hp.sb.le (show 205 ≤ 1900 by decide)
  have t3 := hp.sm.le (show 205 ≤ 1900 by decide)
  have u1 := hq.sa.le (show 205 ≤ 1900 by decide)
  have u2 := hq.sb.le (show 205 ≤ 1900 by decide)
  have u3 := hq.sm.le (show 205 ≤ 1900 by decide)
  have lsh : (shown p1 p2 p3).length ≤ 1000 := shownL hp
  have lsh2 : (shown q1 q2 q3).length ≤ 1000 := shownL hq
  have k1 := hkv.put (s := nmF ns 0) hp
  have k2 := k1.put (s := nmF ns 1) hq
  have k3 := k2.put (s := nmF ns 0) hq
  have k4 := k3.put (s := nmF ns 0) hp
  kby_none
  conv => whnf
  refine ⟨_, _, .put (nmF ns 0) (ln p1 p2 p3), rfl, ?_⟩
  refine ask_go (Askd.of (ws := ["line", nmF ns 0, tx p1, tx p2, tx p3]) (by simp only [TL.tl_append, tl_jn, tl_jn1, List.append_assoc, sp_words, shown_jn] <;> rfl) (by simp) (all5 (fr_w _ (by decide)) nm0.fr (tx_fr hp.a60) (tx_fr hp.b60) (tx_fr hp.m60)) (by simp) (aw_line nm0.b hp)) hD hkv (show c < 100000 by omega) ?_
  kby_none
  conv => whnf
  refine ⟨_, _, .put (nmF ns 1) (ln q1 q2 q3), rfl, ?_⟩
  refine ask_go (Askd.of (ws := ["line", nmF ns 1, tx q1, tx q2, tx q3]) (by simp only [TL.tl_append, tl_jn, tl_jn1, List.append_assoc, sp_words, shown_jn] <;> rfl) (by simp) (all5 (fr_w _ (by decide)) nm1.fr (tx_fr hq.a60) (tx_fr hq.b60) (tx_fr hq.m60)) (by simp) (aw_line nm1.b hq)) hD k1 (show c + 1 < 100000 by omega) ?_
  kby_none
  · exact Stp.mk ⟨_, _, _, _, (put_ne ne).trans (put_self ..), Stp.out (by assumption)⟩
  conv => whnf
  refine ⟨_, _, .put (nmF ns 0) (ln q1 q2 q3), rfl, ?_⟩
  refine ask_go (Askd.of (ws := ["line", nmF ns 0, tx q1, tx q2, tx q3]) (by simp only [TL.tl_append, tl_jn, tl_jn1, List.append_assoc, sp_words, shown_jn] <;> rfl) (by simp) (all5 (fr_w _ (by decide)) nm0.fr (tx_fr hq.a60) (tx_fr hq.b60) (tx_fr hq.m60)) (by simp) (aw_line nm0.b hq)) hD k2 (show c + 1 + 1 < 100000 by omega) ?_
  kby_none
  · exact Stp.mk ⟨_, _, _, _, put_self .., Stp.out (by assumption)⟩
  conv => whnf
  refine ⟨_, _, .put (nmF ns 0) (ln p1 p2 p3), rfl, ?_⟩
  refine ask_go (Askd.of (ws := ["line", nmF ns 0, tx p1, tx p2, tx p3]) (by simp only [TL.tl_append, tl_jn, tl_jn1, List.append_assoc, sp_words, shown_jn] <;> rfl) (by simp) (all5 (fr_w _ (by decide)) nm0.fr (tx_fr hp.a60) (tx_fr hp.b60) (tx_fr hp.m60)) (by simp) (aw_line nm0.b hp)) hD k3 (show c + 1 + 1 + 1 < 100000 by omega) ?_
  kby_none
  refine Stp.mk fun y y0 yb sy => ?_
  have yb9 : y.natAbs < 10 ^ 59 := yb
  have yn : y.natAbs < 10 ^ 60 := by omega
  have sy3 : Sm 300 y := sy.le (by decide)
  have sm7 : Sm 300 (-7) := Sm.le (n := 63) (Sm.near (by omega) (by omega)) (by decide)
  have hm7 : (-7 : Int).natAbs < 10 ^ 60 := by decide
  have zp : Sm 1900 (pts [(p1, p2, p3)] [(q1, q2, q3)] (-7) (y - -7).toNat) := pts_sm (ls1 hp) (ls1 hq) hm7 yn
  have lty : (Str.ofString (toString y)).length ≤ 100 := tx_len60 yn
  have lt7 : (Str.ofString "points -7 ").length ≤ 20 ∧ (Str.ofString " ; ").length ≤ 20 := by decide +kernel
  kby_none
  conv => whnf
  refine ⟨[(p1, p2, p3)], [(q1, q2, q3)], -7, y, rfl, ⟨Nat.le_of_ble_eq_true rfl, Nat.le_of_ble_eq_true rfl, Nat.le_of_ble_eq_true rfl, Nat.le_of_ble_eq_true rfl, fun r hr => ?_⟩, fun ⟨r, hr, hlt⟩ => ?_, fun _ => ⟨fun hlt => absurd hlt (by omega), fun _ => ⟨⟨ls1 hp, ls1 hq, Nat.le_of_ble_eq_true rfl, sm7, sy3⟩, ?_⟩⟩⟩
  · simp only [List.cons_append, List.nil_append, List.mem_cons, List.not_mem_nil, or_false] at hr
    rcases hr with rfl | rfl
    · exact ⟨hp.sm.le (by decide), hp.sa.le (by decide)⟩
    · exact ⟨hq.sm.le (by decide), hq.sa.le (by decide)⟩
  · exfalso
    simp only [List.cons_append, List.nil_append, List.mem_cons, List.not_mem_nil, or_false] at hr
    have m1 := hp.m1
    have m2 := hq.m1
    rcases hr with rfl | rfl
    · have hlt : p3 < 1 := hlt
      omega
    · have hlt : q3 < 1 := hlt
      omega
  kby_none
  conv => whnf
  refine ⟨_, _, .rows [tx (pts [(p1, p2, p3)] [(q1, q2, q3)] (-7) (y - -7).toNat)], rfl, ?_⟩
  refine ask_go (Askd.of (ws := ("points" : Str) :: tx (-7) :: tx y :: ([nmF ns 0] ++ semi :: [nmF ns 1])) (pw37 ..) (by simp) (pf37 nm0 nm1 yn) (by simp) (aw_points hm7 yn (fun z hz => by rw [List.mem_singleton.mp hz]; exact no_semi nm0.b) (fun z hz => by rw [List.mem_singleton.mp hz]; exact no_semi nm1.b) ⟨Nat.le_of_ble_eq_true rfl, Nat.le_of_ble_eq_true rfl⟩ ⟨Nat.le_of_ble_eq_true rfl, Nat.le_of_ble_eq_true rfl⟩ (sees1 (put_self ..)) (sees1 ((put_ne ne.symm).trans ((put_ne ne.symm).trans (put_self ..)))) (lsk1 hp) (lsk1 hq) (by omega))) hD k4 (show c + 1 + 1 + 1 + 1 < 100000 by omega) ?_
  kby_none
  all_goals try (first | exact okL1 (tx_sok _) | exact okL1 (sok_app (sok_app (tx_sok _) sok_sp) (tx_sok _)) | exact absurd ((deqS [tx (pts [(p1, p2, p3)] [(q1, q2, q3)] (-7) (y - -7).toNat)]).symm.trans (by assumption)) (by decide))
  all_goals trace_state
theorem all_mk {l : PySem.W.OpenLaw} {w : World} {K : PySem.W.Frag} {h : Heap} {mg : Str → Option Value} {fa : Addr} (X : K.In h) (G : h.Ns mainGlobals mg) (hfa : mg "law" = some (.ref fa))
    {f0 f1 f2 f3 f4 f5 f6 f7 f8 f9 f10 f11 f12 f13 f14 f15 f16 f17 f18 f19 f20 f21 f22 f23 f24 f25 f26 f27 f28 f29 f30 f31 f32 f33 f34 f35 f36 f37 f38 f39 f40 f41 f42 f43 f44 f45 f46 f47 f48 f49 f50 f51 f52 f53 f54 f55 : Addr} {od0 an0 od1 an1 od2 an2 od3 an3 od4 an4 od5 an5 od6 an6 od7 an7 od8 an8 od9 an9 od10 an10 od11 an11 od12 an12 od13 an13 od14 an14 od15 an15 od16 an16 od17 an17 od18 an18 od19 an19 od20 an20 od21 an21 od22 an22 od23 an23 od24 an24 od25 an25 od26 an26 od27 an27 od28 an28 od29 an29 od30 an30 od31 an31 od32 an32 od33 an33 od34 an34 od35 an35 od36 an36 od37 an37 od38 an38 od39 an39 od40 an40 od41 an41 od42 an42 od43 an43 od44 an44 od45 an45 od46 an46 od47 an47 od48 an48 od49 an49 od50 an50 od51 an51 od52 an52 od53 an53 od54 an54 od55 an55 : Option Addr} {sl0 sl1 sl2 sl3 sl4 sl5 sl6 sl7 sl8 sl9 sl10 sl11 sl12 sl13 sl14 sl15 sl16 sl17 sl18 sl19 sl20 sl21 sl22 sl23 sl24 sl25 sl26 sl27 sl28 sl29 sl30 sl31 sl32 sl33 sl34 sl35 sl36 sl37 sl38 sl39 sl40 sl41 sl42 sl43 sl44 sl45 sl46 sl47 sl48 sl49 sl50 sl51 sl52 sl53 sl54 sl55 : Array (Option Value)} {oc0 kV0 dc0 pm0 cd0 ct0 oc1 kV1 dc1 pm1 cd1 ct1 oc2 kV2 dc2 pm2 cd2 ct2 oc3 kV3 dc3 pm3 cd3 ct3 oc4 kV4 dc4 pm4 cd4 ct4 oc5 kV5 dc5 pm5 cd5 ct5 oc6 kV6 dc6 pm6 cd6 ct6 oc7 kV7 dc7 pm7 cd7 ct7 oc8 kV8 dc8 pm8 cd8 ct8 oc9 kV9 dc9 pm9 cd9 ct9 oc10 kV10 dc10 pm10 cd10 ct10 oc11 kV11 dc11 pm11 cd11 ct11 oc12 kV12 dc12 pm12 cd12 ct12 oc13 kV13 dc13 pm13 cd13 ct13 oc14 kV14 dc14 pm14 cd14 ct14 oc15 kV15 dc15 pm15 cd15 ct15 oc16 kV16 dc16 pm16 cd16 ct16 oc17 kV17 dc17 pm17 cd17 ct17 oc18 kV18 dc18 pm18 cd18 ct18 oc19 kV19 dc19 pm19 cd19 ct19 oc20 kV20 dc20 pm20 cd20 ct20 oc21 kV21 dc21 pm21 cd21 ct21 oc22 kV22 dc22 pm22 cd22 ct22 oc23 kV23 dc23 pm23 cd23 ct23 oc24 kV24 dc24 pm24 cd24 ct24 oc25 kV25 dc25 pm25 cd25 ct25 oc26 kV26 dc26 pm26 cd26 ct26 oc27 kV27 dc27 pm27 cd27 ct27 oc28 kV28 dc28 pm28 cd28 ct28 oc29 kV29 dc29 pm29 cd29 ct29 oc30 kV30 dc30 pm30 cd30 ct30 oc31 kV31 dc31 pm31 cd31 ct31 oc32 kV32 dc32 pm32 cd32 ct32 oc33 kV33 dc33 pm33 cd33 ct33 oc34 kV34 dc34 pm34 cd34 ct34 oc35 kV35 dc35 pm35 cd35 ct35 oc36 kV36 dc36 pm36 cd36 ct36 oc37 kV37 dc37 pm37 cd37 ct37 oc38 kV38 dc38 pm38 cd38 ct38 oc39 kV39 dc39 pm39 cd39 ct39 oc40 kV40 dc40 pm40 cd40 ct40 oc41 kV41 dc41 pm41 cd41 ct41 oc42 kV42 dc42 pm42 cd42 ct42 oc43 kV43 dc43 pm43 cd43 ct43 oc44 kV44 dc44 pm44 cd44 ct44 oc45 kV45 dc45 pm45 cd45 ct45 oc46 kV46 dc46 pm46 cd46 ct46 oc47 kV47 dc47 pm47 cd47 ct47 oc48 kV48 dc48 pm48 cd48 ct48 oc49 kV49 dc49 pm49 cd49 ct49 oc50 kV50 dc50 pm50 cd50 ct50 oc51 kV51 dc51 pm51 cd51 ct51 oc52 kV52 dc52 pm52 cd52 ct52 oc53 kV53 dc53 pm53 cd53 ct53 oc54 kV54 dc54 pm54 cd54 ct54 oc55 kV55 dc55 pm55 cd55 ct55 : Value}
    {C0 C1 C2 C3 C4 C6 : Addr}
    {CD fI : Addr} {odI anI : Option Addr} {slI : Array (Option Value)} {ocI kVI dcI pmI cdI ctI : Value} (aD : PySem.W.nsIn K mainGlobals "Desk" = some (some (.ref CD))) (aI : PySem.W.findIn K (.ref CD) "__init__" = some (some (.ref fI))) (iI : PySem.W.isFn K (.ref fI) = true) (lI : K.lookup fI = some ⟨ocI, odI, .func (PySem.W.fnOf "__init__" "Desk.__init__" (defArgs s_init) (defBody s_init) (defScope s_init) .none kVI dcI pmI anI cdI ctI), slI⟩) (cI : PySem.W.codeIn K cdI "Desk.__init__" = true) (kI : PySem.W.keepIn K (.ref fI) = true) (pgD : PySem.W.plainGet K CD Str.empty = true) (hdD : PySem.W.hasDictIn K CD = true) (poD : PySem.W.plainOver K CD = true) (saD : PySem.W.findIn K (.ref CD) "__setattr__" = some (some (.builtin "object.__setattr__"))) (mkD : PySem.W.makesIn K CD = true) (kcD : PySem.W.keepIn K (.ref CD) = true) (nlD : PySem.W.findIn K (.ref CD) "lines" = some none)
    (a0 : PySem.W.nsIn K mainGlobals "need_line" = some (some (.ref f0))) (l0 : K.lookup f0 = some ⟨oc0, od0, .func (PySem.W.fnOf "need_line" "need_line" (defArgs s_need_line) (defBody s_need_line) (defScope s_need_line) .none kV0 dc0 pm0 an0 cd0 ct0), sl0⟩) (c0 : PySem.W.codeIn K cd0 "need_line" = true) (k0 : PySem.W.keepIn K (.ref f0) = true)
    (a1 : PySem.W.nsIn K mainGlobals "height_at" = some (some (.ref f1))) (l1 : K.lookup f1 = some ⟨oc1, od1, .func (PySem.W.fnOf "height_at" "height_at" (defArgs s_height_at) (defBody s_height_at) (defScope s_height_at) .none kV1 dc1 pm1 an1 cd1 ct1), sl1⟩) (c1 : PySem.W.codeIn K cd1 "height_at" = true) (k1 : PySem.W.keepIn K (.ref f1) = true)
    (a2 : PySem.W.nsIn K mainGlobals "part_at" = some (some (.ref f2))) (l2 : K.lookup f2 = some ⟨oc2, od2, .func (PySem.W.fnOf "part_at" "part_at" (defArgs s_part_at) (defBody s_part_at) (defScope s_part_at) .none kV2 dc2 pm2 an2 cd2 ct2), sl2⟩) (c2 : PySem.W.codeIn K cd2 "part_at" = true) (k2 : PySem.W.keepIn K (.ref f2) = true)
    (a3 : PySem.W.nsIn K mainGlobals "rest_at" = some (some (.ref f3))) (l3 : K.lookup f3 = some ⟨oc3, od3, .func (PySem.W.fnOf "rest_at" "rest_at" (defArgs s_rest_at) (defBody s_rest_at) (defScope s_rest_at) .none kV3 dc3 pm3 an3 cd3 ct3), sl3⟩) (c3 : PySem.W.codeIn K cd3 "rest_at" = true) (k3 : PySem.W.keepIn K (.ref f3) = true)
    (a4 : PySem.W.nsIn K mainGlobals "laid_off" = some (some (.ref f4))) (l4 : K.lookup f4 = some ⟨oc4, od4, .func (PySem.W.fnOf "laid_off" "laid_off" (defArgs s_laid_off) (defBody s_laid_off) (defScope s_laid_off) .none kV4 dc4 pm4 an4 cd4 ct4), sl4⟩) (c4 : PySem.W.codeIn K cd4 "laid_off" = true) (k4 : PySem.W.keepIn K (.ref f4) = true)
    (a5 : PySem.W.nsIn K mainGlobals "turned" = some (some (.ref f5))) (l5 : K.lookup f5 = some ⟨oc5, od5, .func (PySem.W.fnOf "turned" "turned" (defArgs s_turned) (defBody s_turned) (defScope s_turned) .none kV5 dc5 pm5 an5 cd5 ct5), sl5⟩) (c5 : PySem.W.codeIn K cd5 "turned" = true) (k5 : PySem.W.keepIn K (.ref f5) = true)
    (a6 : PySem.W.nsIn K mainGlobals "number_read" = some (some (.ref f6))) (l6 : K.lookup f6 = some ⟨oc6, od6, .func (PySem.W.fnOf "number_read" "number_read" (defArgs s_number_read) (defBody s_number_read) (defScope s_number_read) .none kV6 dc6 pm6 an6 cd6 ct6), sl6⟩) (c6 : PySem.W.codeIn K cd6 "number_read" = true) (k6 : PySem.W.keepIn K (.ref f6) = true)
    (a7 : PySem.W.nsIn K mainGlobals "read_line" = some (some (.ref f7))) (l7 : K.lookup f7 = some ⟨oc7, od7, .func (PySem.W.fnOf "read_line" "read_line" (defArgs s_read_line) (defBody s_read_line) (defScope s_read_line) .none kV7 dc7 pm7 an7 cd7 ct7), sl7⟩) (c7 : PySem.W.codeIn K cd7 "read_line" = true) (k7 : PySem.W.keepIn K (.ref f7) = true)
    (a8 : PySem.W.nsIn K mainGlobals "own_part" = some (some (.ref f8))) (l8 : K.lookup f8 = some ⟨oc8, od8, .func (PySem.W.fnOf "own_part" "own_part" (defArgs s_own_part) (defBody s_own_part) (defScope s_own_part) .none kV8 dc8 pm8 an8 cd8 ct8), sl8⟩) (c8 : PySem.W.codeIn K cd8 "own_part" = true) (k8 : PySem.W.keepIn K (.ref f8) = true)
    (a9 : PySem.W.nsIn K mainGlobals "sum_paper" = some (some (.ref f9))) (l9 : K.lookup f9 = some ⟨oc9, od9, .func (PySem.W.fnOf "sum_paper" "sum_paper" (defArgs s_sum_paper) (defBody s_sum_paper) (defScope s_sum_paper) .none kV9 dc9 pm9 an9 cd9 ct9), sl9⟩) (c9 : PySem.W.codeIn K cd9 "sum_paper" = true) (k9 : PySem.W.keepIn K (.ref f9) = true)
    (a10 : PySem.W.nsIn K mainGlobals "sum_parts" = some (some (.ref f10))) (l10 : K.lookup f10 = some ⟨oc10, od10, .func (PySem.W.fnOf "sum_parts" "sum_parts" (defArgs s_sum_parts) (defBody s_sum_parts) (defScope s_sum_parts) .none kV10 dc10 pm10 an10 cd10 ct10), sl10⟩) (c10 : PySem.W.codeIn K cd10 "sum_parts" = true) (k10 : PySem.W.keepIn K (.ref f10) = true)
    (a11 : PySem.W.nsIn K mainGlobals "sum_rests" = some (some (.ref f11))) (l11 : K.lookup f11 = some ⟨oc11, od11, .func (PySem.W.fnOf "sum_rests" "sum_rests" (defArgs s_sum_rests) (defBody s_sum_rests) (defScope s_sum_rests) .none kV11 dc11 pm11 an11 cd11 ct11), sl11⟩) (c11 : PySem.W.codeIn K cd11 "sum_rests" = true) (k11 : PySem.W.keepIn K (.ref f11) = true)
    (a12 : PySem.W.nsIn K mainGlobals "sum_between" = some (some (.ref f12))) (l12 : K.lookup f12 = some ⟨oc12, od12, .func (PySem.W.fnOf "sum_between" "sum_between" (defArgs s_sum_between) (defBody s_sum_between) (defScope s_sum_between) .none kV12 dc12 pm12 an12 cd12 ct12), sl12⟩) (c12 : PySem.W.codeIn K cd12 "sum_between" = true) (k12 : PySem.W.keepIn K (.ref f12) = true)
    (a13 : PySem.W.nsIn K mainGlobals "need_all" = some (some (.ref f13))) (l13 : K.lookup f13 = some ⟨oc13, od13, .func (PySem.W.fnOf "need_all" "need_all" (defArgs s_need_all) (defBody s_need_all) (defScope s_need_all) .none kV13 dc13 pm13 an13 cd13 ct13), sl13⟩) (c13 : PySem.W.codeIn K cd13 "need_all" = true) (k13 : PySem.W.keepIn K (.ref f13) = true)
    (a14 : PySem.W.nsIn K mainGlobals "turned_down" = some (some (.ref f14))) (l14 : K.lookup f14 = some ⟨oc14, od14, .func (PySem.W.fnOf "turned_down" "turned_down" (defArgs s_turned_down) (defBody s_turned_down) (defScope s_turned_down) .none kV14 dc14 pm14 an14 cd14 ct14), sl14⟩) (c14 : PySem.W.codeIn K cd14 "turned_down" = true) (k14 : PySem.W.keepIn K (.ref f14) = true)
    (a15 : PySem.W.nsIn K mainGlobals "lowest_at" = some (some (.ref f15))) (l15 : K.lookup f15 = some ⟨oc15, od15, .func (PySem.W.fnOf "lowest_at" "lowest_at" (defArgs s_lowest_at) (defBody s_lowest_at) (defScope s_lowest_at) .none kV15 dc15 pm15 an15 cd15 ct15), sl15⟩) (c15 : PySem.W.codeIn K cd15 "lowest_at" = true) (k15 : PySem.W.keepIn K (.ref f15) = true)
    (a16 : PySem.W.nsIn K mainGlobals "cuts_of" = some (some (.ref f16))) (l16 : K.lookup f16 = some ⟨oc16, od16, .func (PySem.W.fnOf "cuts_of" "cuts_of" (defArgs s_cuts_of) (defBody s_cuts_of) (defScope s_cuts_of) .none kV16 dc16 pm16 an16 cd16 ct16), sl16⟩) (c16 : PySem.W.codeIn K cd16 "cuts_of" = true) (k16 : PySem.W.keepIn K (.ref f16) = true)
    (a17 : PySem.W.nsIn K mainGlobals "points_between" = some (some (.ref f17))) (l17 : K.lookup f17 = some ⟨oc17, od17, .func (PySem.W.fnOf "points_between" "points_between" (defArgs s_points_between) (defBody s_points_between) (defScope s_points_between) .none kV17 dc17 pm17 an17 cd17 ct17), sl17⟩) (c17 : PySem.W.codeIn K cd17 "points_between" = true) (k17 : PySem.W.keepIn K (.ref f17) = true)
    (a18 : PySem.W.nsIn K mainGlobals "beneath_plain" = some (some (.ref f18))) (l18 : K.lookup f18 = some ⟨oc18, od18, .func (PySem.W.fnOf "beneath_plain" "beneath_plain" (defArgs s_beneath_plain) (defBody s_beneath_plain) (defScope s_beneath_plain) .none kV18 dc18 pm18 an18 cd18 ct18), sl18⟩) (c18 : PySem.W.codeIn K cd18 "beneath_plain" = true) (k18 : PySem.W.keepIn K (.ref f18) = true)
    (a19 : PySem.W.nsIn K mainGlobals "rests_beneath" = some (some (.ref f19))) (l19 : K.lookup f19 = some ⟨oc19, od19, .func (PySem.W.fnOf "rests_beneath" "rests_beneath" (defArgs s_rests_beneath) (defBody s_rests_beneath) (defScope s_rests_beneath) .none kV19 dc19 pm19 an19 cd19 ct19), sl19⟩) (c19 : PySem.W.codeIn K cd19 "rests_beneath" = true) (k19 : PySem.W.keepIn K (.ref f19) = true)
    (a20 : PySem.W.nsIn K mainGlobals "first_multiple" = some (some (.ref f20))) (l20 : K.lookup f20 = some ⟨oc20, od20, .func (PySem.W.fnOf "first_multiple" "first_multiple" (defArgs s_first_multiple) (defBody s_first_multiple) (defScope s_first_multiple) .none kV20 dc20 pm20 an20 cd20 ct20), sl20⟩) (c20 : PySem.W.codeIn K cd20 "first_multiple" = true) (k20 : PySem.W.keepIn K (.ref f20) = true)
    (a21 : PySem.W.nsIn K mainGlobals "first_plain" = some (some (.ref f21))) (l21 : K.lookup f21 = some ⟨oc21, od21, .func (PySem.W.fnOf "first_plain" "first_plain" (defArgs s_first_plain) (defBody s_first_plain) (defScope s_first_plain) .none kV21 dc21 pm21 an21 cd21 ct21), sl21⟩) (c21 : PySem.W.codeIn K cd21 "first_plain" = true) (k21 : PySem.W.keepIn K (.ref f21) = true)
    (a22 : PySem.W.nsIn K mainGlobals "first_within" = some (some (.ref f22))) (l22 : K.lookup f22 = some ⟨oc22, od22, .func (PySem.W.fnOf "first_within" "first_within" (defArgs s_first_within) (defBody s_first_within) (defScope s_first_within) .none kV22 dc22 pm22 an22 cd22 ct22), sl22⟩) (c22 : PySem.W.codeIn K cd22 "first_within" = true) (k22 : PySem.W.keepIn K (.ref f22) = true)
    (a23 : PySem.W.nsIn K mainGlobals "common_measure" = some (some (.ref f23))) (l23 : K.lookup f23 = some ⟨oc23, od23, .func (PySem.W.fnOf "common_measure" "common_measure" (defArgs s_common_measure) (defBody s_common_measure) (defScope s_common_measure) .none kV23 dc23 pm23 an23 cd23 ct23), sl23⟩) (c23 : PySem.W.codeIn K cd23 "common_measure" = true) (k23 : PySem.W.keepIn K (.ref f23) = true)
    (a24 : PySem.W.nsIn K mainGlobals "in_order" = some (some (.ref f24))) (l24 : K.lookup f24 = some ⟨oc24, od24, .func (PySem.W.fnOf "in_order" "in_order" (defArgs s_in_order) (defBody s_in_order) (defScope s_in_order) .none kV24 dc24 pm24 an24 cd24 ct24), sl24⟩) (c24 : PySem.W.codeIn K cd24 "in_order" = true) (k24 : PySem.W.keepIn K (.ref f24) = true)
    (a25 : PySem.W.nsIn K mainGlobals "levels_of" = some (some (.ref f25))) (l25 : K.lookup f25 = some ⟨oc25, od25, .func (PySem.W.fnOf "levels_of" "levels_of" (defArgs s_levels_of) (defBody s_levels_of) (defScope s_levels_of) .none kV25 dc25 pm25 an25 cd25 ct25), sl25⟩) (c25 : PySem.W.codeIn K cd25 "levels_of" = true) (k25 : PySem.W.keepIn K (.ref f25) = true)
    (a26 : PySem.W.nsIn K mainGlobals "sums_of_places" = some (some (.ref f26))) (l26 : K.lookup f26 = some ⟨oc26, od26, .func (PySem.W.fnOf "sums_of_places" "sums_of_places" (defArgs s_sums_of_places) (defBody s_sums_of_places) (defScope s_sums_of_places) .none kV26 dc26 pm26 an26 cd26 ct26), sl26⟩) (c26 : PySem.W.codeIn K cd26 "sums_of_places" = true) (k26 : PySem.W.keepIn K (.ref f26) = true)
    (a27 : PySem.W.nsIn K mainGlobals "level_sums" = some (some (.ref f27))) (l27 : K.lookup f27 = some ⟨oc27, od27, .func (PySem.W.fnOf "level_sums" "level_sums" (defArgs s_level_sums) (defBody s_level_sums) (defScope s_level_sums) .none kV27 dc27 pm27 an27 cd27 ct27), sl27⟩) (c27 : PySem.W.codeIn K cd27 "level_sums" = true) (k27 : PySem.W.keepIn K (.ref f27) = true)
    (a28 : PySem.W.nsIn K mainGlobals "three_sums" = some (some (.ref f28))) (l28 : K.lookup f28 = some ⟨oc28, od28, .func (PySem.W.fnOf "three_sums" "three_sums" (defArgs s_three_sums) (defBody s_three_sums) (defScope s_three_sums) .none kV28 dc28 pm28 an28 cd28 ct28), sl28⟩) (c28 : PySem.W.codeIn K cd28 "three_sums" = true) (k28 : PySem.W.keepIn K (.ref f28) = true)
    (a29 : PySem.W.nsIn K mainGlobals "sum_squares" = some (some (.ref f29))) (l29 : K.lookup f29 = some ⟨oc29, od29, .func (PySem.W.fnOf "sum_squares" "sum_squares" (defArgs s_sum_squares) (defBody s_sum_squares) (defScope s_sum_squares) .none kV29 dc29 pm29 an29 cd29 ct29), sl29⟩) (c29 : PySem.W.codeIn K cd29 "sum_squares" = true) (k29 : PySem.W.keepIn K (.ref f29) = true)
    (a30 : PySem.W.nsIn K mainGlobals "sum_placed" = some (some (.ref f30))) (l30 : K.lookup f30 = some ⟨oc30, od30, .func (PySem.W.fnOf "sum_placed" "sum_placed" (defArgs s_sum_placed) (defBody s_sum_placed) (defScope s_sum_placed) .none kV30 dc30 pm30 an30 cd30 ct30), sl30⟩) (c30 : PySem.W.codeIn K cd30 "sum_placed" = true) (k30 : PySem.W.keepIn K (.ref f30) = true)
    (a31 : PySem.W.nsIn K mainGlobals "need" = some (some (.ref f31))) (l31 : K.lookup f31 = some ⟨oc31, od31, .func (PySem.W.fnOf "need" "need" (defArgs s_need) (defBody s_need) (defScope s_need) .none kV31 dc31 pm31 an31 cd31 ct31), sl31⟩) (c31 : PySem.W.codeIn K cd31 "need" = true) (k31 : PySem.W.keepIn K (.ref f31) = true)
    (a32 : PySem.W.nsIn K mainGlobals "is_name" = some (some (.ref f32))) (l32 : K.lookup f32 = some ⟨oc32, od32, .func (PySem.W.fnOf "is_name" "is_name" (defArgs s_is_name) (defBody s_is_name) (defScope s_is_name) .none kV32 dc32 pm32 an32 cd32 ct32), sl32⟩) (c32 : PySem.W.codeIn K cd32 "is_name" = true) (k32 : PySem.W.keepIn K (.ref f32) = true)
    (a33 : PySem.W.nsIn K mainGlobals "number_from" = some (some (.ref f33))) (l33 : K.lookup f33 = some ⟨oc33, od33, .func (PySem.W.fnOf "number_from" "number_from" (defArgs s_number_from) (defBody s_number_from) (defScope s_number_from) .none kV33 dc33 pm33 an33 cd33 ct33), sl33⟩) (c33 : PySem.W.codeIn K cd33 "number_from" = true) (k33 : PySem.W.keepIn K (.ref f33) = true)
    (a34 : PySem.W.nsIn K mainGlobals "count_from" = some (some (.ref f34))) (l34 : K.lookup f34 = some ⟨oc34, od34, .func (PySem.W.fnOf "count_from" "count_from" (defArgs s_count_from) (defBody s_count_from) (defScope s_count_from) .none kV34 dc34 pm34 an34 cd34 ct34), sl34⟩) (c34 : PySem.W.codeIn K cd34 "count_from" = true) (k34 : PySem.W.keepIn K (.ref f34) = true)
    (a35 : PySem.W.findIn K (.ref CD) "named" = some (some (.ref f35))) (i35 : PySem.W.isFn K (.ref f35) = true) (l35 : K.lookup f35 = some ⟨oc35, od35, .func (PySem.W.fnOf "named" "Desk.named" (defArgs s_Desk_named) (defBody s_Desk_named) (defScope s_Desk_named) .none kV35 dc35 pm35 an35 cd35 ct35), sl35⟩) (c35 : PySem.W.codeIn K cd35 "Desk.named" = true) (k35 : PySem.W.keepIn K (.ref f35) = true)
    (a36 : PySem.W.findIn K (.ref CD) "on_line" = some (some (.ref f36))) (i36 : PySem.W.isFn K (.ref f36) = true) (l36 : K.lookup f36 = some ⟨oc36, od36, .func (PySem.W.fnOf "on_line" "Desk.on_line" (defArgs s_Desk_on_line) (defBody s_Desk_on_line) (defScope s_Desk_on_line) .none kV36 dc36 pm36 an36 cd36 ct36), sl36⟩) (c36 : PySem.W.codeIn K cd36 "Desk.on_line" = true) (k36 : PySem.W.keepIn K (.ref f36) = true)
    (a37 : PySem.W.findIn K (.ref CD) "of_place" = some (some (.ref f37))) (i37 : PySem.W.isFn K (.ref f37) = true) (l37 : K.lookup f37 = some ⟨oc37, od37, .func (PySem.W.fnOf "of_place" "Desk.of_place" (defArgs s_Desk_of_place) (defBody s_Desk_of_place) (defScope s_Desk_of_place) .none kV37 dc37 pm37 an37 cd37 ct37), sl37⟩) (c37 : PySem.W.codeIn K cd37 "Desk.of_place" = true) (k37 : PySem.W.keepIn K (.ref f37) = true)
    (a38 : PySem.W.findIn K (.ref CD) "of_count" = some (some (.ref f38))) (i38 : PySem.W.isFn K (.ref f38) = true) (l38 : K.lookup f38 = some ⟨oc38, od38, .func (PySem.W.fnOf "of_count" "Desk.of_count" (defArgs s_Desk_of_count) (defBody s_Desk_of_count) (defScope s_Desk_of_count) .none kV38 dc38 pm38 an38 cd38 ct38), sl38⟩) (c38 : PySem.W.codeIn K cd38 "Desk.of_count" = true) (k38 : PySem.W.keepIn K (.ref f38) = true)
    (a39 : PySem.W.findIn K (.ref CD) "on_between" = some (some (.ref f39))) (i39 : PySem.W.isFn K (.ref f39) = true) (l39 : K.lookup f39 = some ⟨oc39, od39, .func (PySem.W.fnOf "on_between" "Desk.on_between" (defArgs s_Desk_on_between) (defBody s_Desk_on_between) (defScope s_Desk_on_between) .none kV39 dc39 pm39 an39 cd39 ct39), sl39⟩) (c39 : PySem.W.codeIn K cd39 "Desk.on_between" = true) (k39 : PySem.W.keepIn K (.ref f39) = true)
    (a40 : PySem.W.findIn K (.ref CD) "on_beneath" = some (some (.ref f40))) (i40 : PySem.W.isFn K (.ref f40) = true) (l40 : K.lookup f40 = some ⟨oc40, od40, .func (PySem.W.fnOf "on_beneath" "Desk.on_beneath" (defArgs s_Desk_on_beneath) (defBody s_Desk_on_beneath) (defScope s_Desk_on_beneath) .none kV40 dc40 pm40 an40 cd40 ct40), sl40⟩) (c40 : PySem.W.codeIn K cd40 "Desk.on_beneath" = true) (k40 : PySem.W.keepIn K (.ref f40) = true)
    (a41 : PySem.W.findIn K (.ref CD) "on_within" = some (some (.ref f41))) (i41 : PySem.W.isFn K (.ref f41) = true) (l41 : K.lookup f41 = some ⟨oc41, od41, .func (PySem.W.fnOf "on_within" "Desk.on_within" (defArgs s_Desk_on_within) (defBody s_Desk_on_within) (defScope s_Desk_on_within) .none kV41 dc41 pm41 an41 cd41 ct41), sl41⟩) (c41 : PySem.W.codeIn K cd41 "Desk.on_within" = true) (k41 : PySem.W.keepIn K (.ref f41) = true)
    (a42 : PySem.W.findIn K (.ref CD) "on_order" = some (some (.ref f42))) (i42 : PySem.W.isFn K (.ref f42) = true) (l42 : K.lookup f42 = some ⟨oc42, od42, .func (PySem.W.fnOf "on_order" "Desk.on_order" (defArgs s_Desk_on_order) (defBody s_Desk_on_order) (defScope s_Desk_on_order) .none kV42 dc42 pm42 an42 cd42 ct42), sl42⟩) (c42 : PySem.W.codeIn K cd42 "Desk.on_order" = true) (k42 : PySem.W.keepIn K (.ref f42) = true)
    (a43 : PySem.W.findIn K (.ref CD) "on_points" = some (some (.ref f43))) (i43 : PySem.W.isFn K (.ref f43) = true) (l43 : K.lookup f43 = some ⟨oc43, od43, .func (PySem.W.fnOf "on_points" "Desk.on_points" (defArgs s_Desk_on_points) (defBody s_Desk_on_points) (defScope s_Desk_on_points) .none kV43 dc43 pm43 an43 cd43 ct43), sl43⟩) (c43 : PySem.W.codeIn K cd43 "Desk.on_points" = true) (k43 : PySem.W.keepIn K (.ref f43) = true)
    (a44 : PySem.W.findIn K (.ref CD) "on_paper" = some (some (.ref f44))) (i44 : PySem.W.isFn K (.ref f44) = true) (l44 : K.lookup f44 = some ⟨oc44, od44, .func (PySem.W.fnOf "on_paper" "Desk.on_paper" (defArgs s_Desk_on_paper) (defBody s_Desk_on_paper) (defScope s_Desk_on_paper) .none kV44 dc44 pm44 an44 cd44 ct44), sl44⟩) (c44 : PySem.W.codeIn K cd44 "Desk.on_paper" = true) (k44 : PySem.W.keepIn K (.ref f44) = true)
    (a45 : PySem.W.findIn K (.ref CD) "of_more" = some (some (.ref f45))) (i45 : PySem.W.isFn K (.ref f45) = true) (l45 : K.lookup f45 = some ⟨oc45, od45, .func (PySem.W.fnOf "of_more" "Desk.of_more" (defArgs s_Desk_of_more) (defBody s_Desk_of_more) (defScope s_Desk_of_more) .none kV45 dc45 pm45 an45 cd45 ct45), sl45⟩) (c45 : PySem.W.codeIn K cd45 "Desk.of_more" = true) (k45 : PySem.W.keepIn K (.ref f45) = true)
    (a46 : PySem.W.findIn K (.ref CD) "ask" = some (some (.ref f46))) (i46 : PySem.W.isFn K (.ref f46) = true) (l46 : K.lookup f46 = some ⟨oc46, od46, .func (PySem.W.fnOf "ask" "Desk.ask" (defArgs s_Desk_ask) (defBody s_Desk_ask) (defScope s_Desk_ask) .none kV46 dc46 pm46 an46 cd46 ct46), sl46⟩) (c46 : PySem.W.codeIn K cd46 "Desk.ask" = true) (k46 : PySem.W.keepIn K (.ref f46) = true)
    (a47 : PySem.W.nsIn K mainGlobals "_law_draw" = some (some (.ref f47))) (l47 : K.lookup f47 = some ⟨oc47, od47, .func (PySem.W.fnOf "_law_draw" "_law_draw" (defArgs s__law_draw) (defBody s__law_draw) (defScope s__law_draw) .none kV47 dc47 pm47 an47 cd47 ct47), sl47⟩) (c47 : PySem.W.codeIn K cd47 "_law_draw" = true) (k47 : PySem.W.keepIn K (.ref f47) = true)
    (a48 : PySem.W.nsIn K mainGlobals "_law_number" = some (some (.ref f48))) (l48 : K.lookup f48 = some ⟨oc48, od48, .func (PySem.W.fnOf "_law_number" "_law_number" (defArgs s__law_number) (defBody s__law_number) (defScope s__law_number) .none kV48 dc48 pm48 an48 cd48 ct48), sl48⟩) (c48 : PySem.W.codeIn K cd48 "_law_number" = true) (k48 : PySem.W.keepIn K (.ref f48) = true)
    (a49 : PySem.W.nsIn K mainGlobals "_law_line" = some (some (.ref f49))) (l49 : K.lookup f49 = some ⟨oc49, od49, .func (PySem.W.fnOf "_law_line" "_law_line" (defArgs s__law_line) (defBody s__law_line) (defScope s__law_line) .none kV49 dc49 pm49 an49 cd49 ct49), sl49⟩) (c49 : PySem.W.codeIn K cd49 "_law_line" = true) (k49 : PySem.W.keepIn K (.ref f49) = true)
    (a50 : PySem.W.nsIn K mainGlobals "_law_name" = some (some (.ref f50))) (l50 : K.lookup f50 = some ⟨oc50, od50, .func (PySem.W.fnOf "_law_name" "_law_name" (defArgs s__law_name) (defBody s__law_name) (defScope s__law_name) .none kV50 dc50 pm50 an50 cd50 ct50), sl50⟩) (c50 : PySem.W.codeIn K cd50 "_law_name" = true) (k50 : PySem.W.keepIn K (.ref f50) = true)
    (a51 : PySem.W.nsIn K mainGlobals "_law_line_text" = some (some (.ref f51))) (l51 : K.lookup f51 = some ⟨oc51, od51, .func (PySem.W.fnOf "_law_line_text" "_law_line_text" (defArgs s__law_line_text) (defBody s__law_line_text) (defScope s__law_line_text) .none kV51 dc51 pm51 an51 cd51 ct51), sl51⟩) (c51 : PySem.W.codeIn K cd51 "_law_line_text" = true) (k51 : PySem.W.keepIn K (.ref f51) = true)
    (a52 : PySem.W.nsIn K mainGlobals "_law_row" = some (some (.ref f52))) (l52 : K.lookup f52 = some ⟨oc52, od52, .func (PySem.W.fnOf "_law_row" "_law_row" (defArgs s__law_row) (defBody s__law_row) (defScope s__law_row) .none kV52 dc52 pm52 an52 cd52 ct52), sl52⟩) (c52 : PySem.W.codeIn K cd52 "_law_row" = true) (k52 : PySem.W.keepIn K (.ref f52) = true)
    (a53 : PySem.W.nsIn K mainGlobals "_law_lines" = some (some (.ref f53))) (l53 : K.lookup f53 = some ⟨oc53, od53, .func (PySem.W.fnOf "_law_lines" "_law_lines" (defArgs s__law_lines) (defBody s__law_lines) (defScope s__law_lines) .none kV53 dc53 pm53 an53 cd53 ct53), sl53⟩) (c53 : PySem.W.codeIn K cd53 "_law_lines" = true) (k53 : PySem.W.keepIn K (.ref f53) = true)
    (a54 : PySem.W.nsIn K mainGlobals "_law_told_right" = some (some (.ref f54))) (l54 : K.lookup f54 = some ⟨oc54, od54, .func (PySem.W.fnOf "_law_told_right" "_law_told_right" (defArgs s__law_told_right) (defBody s__law_told_right) (defScope s__law_told_right) .none kV54 dc54 pm54 an54 cd54 ct54), sl54⟩) (c54 : PySem.W.codeIn K cd54 "_law_told_right" = true) (k54 : PySem.W.keepIn K (.ref f54) = true)
    (a55 : PySem.W.nsIn K mainGlobals "law" = some (some (.ref f55))) (l55 : K.lookup f55 = some ⟨oc55, od55, .func (PySem.W.fnOf "law" "law" (defArgs s_law) (defBody s_law) (defScope s_law) .none kV55 dc55 pm55 an55 cd55 ct55), sl55⟩) (c55 : PySem.W.codeIn K cd55 "law" = true) (k55 : PySem.W.keepIn K (.ref f55) = true)
    (aE0 : PySem.W.nsIn K mainGlobals "NoLine" = some (some (.ref C0))) (xE0 : PySem.W.excIn K C0 [.type "ValueError", .type "Exception", .type "BaseException", .type "object"] "ValueError.__new__" = true) (kE0 : PySem.W.keepIn K (.ref C0) = true) (bE0 : PySem.W.subIn K (.ref C0) (.type "BaseException") = some true) (tE0 : PySem.W.typeIn K (.ref C0) = some (.type "type"))
    (aE1 : PySem.W.nsIn K mainGlobals "NoTurn" = some (some (.ref C1))) (xE1 : PySem.W.excIn K C1 [.type "ValueError", .type "Exception", .type "BaseException", .type "object"] "ValueError.__new__" = true) (kE1 : PySem.W.keepIn K (.ref C1) = true) (bE1 : PySem.W.subIn K (.ref C1) (.type "BaseException") = some true) (tE1 : PySem.W.typeIn K (.ref C1) = some (.type "type"))
    (aE2 : PySem.W.nsIn K mainGlobals "NoText" = some (some (.ref C2))) (xE2 : PySem.W.excIn K C2 [.type "ValueError", .type "Exception", .type "BaseException", .type "object"] "ValueError.__new__" = true) (kE2 : PySem.W.keepIn K (.ref C2) = true) (bE2 : PySem.W.subIn K (.ref C2) (.type "BaseException") = some true) (tE2 : PySem.W.typeIn K (.ref C2) = some (.type "type"))
    (aE3 : PySem.W.nsIn K mainGlobals "NoStretch" = some (some (.ref C3))) (xE3 : PySem.W.excIn K C3 [.type "ValueError", .type "Exception", .type "BaseException", .type "object"] "ValueError.__new__" = true) (kE3 : PySem.W.keepIn K (.ref C3) = true) (bE3 : PySem.W.subIn K (.ref C3) (.type "BaseException") = some true) (tE3 : PySem.W.typeIn K (.ref C3) = some (.type "type"))
    (aE4 : PySem.W.nsIn K mainGlobals "NoPlace" = some (some (.ref C4))) (xE4 : PySem.W.excIn K C4 [.type "ValueError", .type "Exception", .type "BaseException", .type "object"] "ValueError.__new__" = true) (kE4 : PySem.W.keepIn K (.ref C4) = true) (bE4 : PySem.W.subIn K (.ref C4) (.type "BaseException") = some true) (tE4 : PySem.W.typeIn K (.ref C4) = some (.type "type"))
    (aE6 : PySem.W.nsIn K mainGlobals "NoAsk" = some (some (.ref C6))) (xE6 : PySem.W.excIn K C6 [.type "ValueError", .type "Exception", .type "BaseException", .type "object"] "ValueError.__new__" = true) (kE6 : PySem.W.keepIn K (.ref C6) = true) (bE6 : PySem.W.subIn K (.ref C6) (.type "BaseException") = some true) (tE6 : PySem.W.typeIn K (.ref C6) = some (.type "type"))
    (z_abs : PySem.W.nsIn K mainGlobals "abs" = some none)
    (z_all : PySem.W.nsIn K mainGlobals "all" = some none)
    (z_int : PySem.W.nsIn K mainGlobals "int" = some none)
    (z_len : PySem.W.nsIn K mainGlobals "len" = some none)
    (z_list : PySem.W.nsIn K mainGlobals "list" = some none)
    (z_max : PySem.W.nsIn K mainGlobals "max" = some none)
    (z_min : PySem.W.nsIn K mainGlobals "min" = some none)
    (z_range : PySem.W.nsIn K mainGlobals "range" = some none)
    (z_set : PySem.W.nsIn K mainGlobals "set" = some none)
    (z_sorted : PySem.W.nsIn K mainGlobals "sorted" = some none)
    (z_str : PySem.W.nsIn K mainGlobals "str" = some none)
    (z_tuple : PySem.W.nsIn K mainGlobals "tuple" = some none)
    (z_zip : PySem.W.nsIn K mainGlobals "zip" = some none)
    {t_FIGURES_lines : Tok} (v_FIGURES_lines : PySem.W.nsIn K mainGlobals "FIGURES_lines" = some (some (.str "0123456789" t_FIGURES_lines)))
    {t_LETTERS : Tok} (v_LETTERS : PySem.W.nsIn K mainGlobals "LETTERS" = some (some (.str "abcdefghijklmnopqrstuvwxyz" t_LETTERS)))
    {t_FIGURES_whole : Tok} (v_FIGURES_whole : PySem.W.nsIn K mainGlobals "FIGURES_whole" = some (some (.str "0123456789" t_FIGURES_whole)))
    : ∃ fd : FuncData, (∀ (s : Shared) (v : Value), BindsTo s fd ⟨[v], []⟩ [("_law_script", v)]) ∧ ∀ base : Heap, K.In base → base.Ns mainGlobals mg → FnOk l.prog w K mg base (L2.CX l.prog w) 12 fa fd ["_law_script"] (spLawV K) := by
  have e := hfa.symm.trans (PySem.W.mg_of X G a55)
  cases e
  have T : Tx K mg (ecOf [(0, C0), (1, C1), (2, C2), (3, C3), (4, C4), (6, C6)]) CD := { cD := ⟨pgD, hdD, poD, saD⟩, nD := nlD, mD := PySem.W.mg_of X G aD, abs_ := PySem.W.mg_none_of X G z_abs, all_ := PySem.W.mg_none_of X G z_all, int_ := PySem.W.mg_none_of X G z_int, len_ := PySem.W.mg_none_of X G z_len, list_ := PySem.W.mg_none_of X G z_list, max_ := PySem.W.mg_none_of X G z_max, min_ := PySem.W.mg_none_of X G z_min, range_ := PySem.W.mg_none_of X G z_range, set_ := PySem.W.mg_none_of X G z_set, sorted_ := PySem.W.mg_none_of X G z_sorted, str_ := PySem.W.mg_none_of X G z_str, tuple_ := PySem.W.mg_none_of X G z_tuple, zip_ := PySem.W.mg_none_of X G z_zip, e0 := ⟨xE0, PySem.W.mg_of X G aE0, kE0, bE0, tE0⟩, e1 := ⟨xE1, PySem.W.mg_of X G aE1, kE1, bE1, tE1⟩, e2 := ⟨xE2, PySem.W.mg_of X G aE2, kE2, bE2, tE2⟩, e3 := ⟨xE3, PySem.W.mg_of X G aE3, kE3, bE3, tE3⟩, e4 := ⟨xE4, PySem.W.mg_of X G aE4, kE4, bE4, tE4⟩, e6 := ⟨xE6, PySem.W.mg_of X G aE6, kE6, bE6, tE6⟩, c_FIGURES_lines := ⟨_, PySem.W.mg_of X G v_FIGURES_lines⟩, c_LETTERS := ⟨_, PySem.W.mg_of X G v_LETTERS⟩, c_FIGURES_whole := ⟨_, PySem.W.mg_of X G v_FIGURES_whole⟩ }
  have FI := fun_mk (st := s_init) lI cI kI
  have F0 := fun_mk (st := s_need_line) l0 c0 k0
  have b0 := F0.binds (ps := ["line"]) fun _ _ _ _ _ _ us hl => match us, hl with | [_], _ => rfl
  have F1 := fun_mk (st := s_height_at) l1 c1 k1
  have b1 := F1.binds (ps := ["line", "place"]) fun _ _ _ _ _ _ us hl => match us, hl with | [_, _], _ => rfl
  have F2 := fun_mk (st := s_part_at) l2 c2 k2
  have b2 := F2.binds (ps := ["line", "place"]) fun _ _ _ _ _ _ us hl => match us, hl with | [_, _], _ => rfl
  have F3 := fun_mk (st := s_rest_at) l3 c3 k3
  have b3 := F3.binds (ps := ["line", "place"]) fun _ _ _ _ _ _ us hl => match us, hl with | [_, _], _ => rfl
  have F4 := fun_mk (st := s_laid_off) l4 c4 k4
  have b4 := F4.binds (ps := ["line"]) fun _ _ _ _ _ _ us hl => match us, hl with | [_], _ => rfl
  have F5 := fun_mk (st := s_turned) l5 c5 k5
  have b5 := F5.binds (ps := ["line", "n"]) fun _ _ _ _ _ _ us hl => match us, hl with | [_, _], _ => rfl
  have F6 := fun_mk (st := s_number_read) l6 c6 k6
  have b6 := F6.binds (ps := ["word"]) fun _ _ _ _ _ _ us hl => match us, hl with | [_], _ => rfl
  have F7 := fun_mk (st := s_read_line) l7 c7 k7
  have b7 := F7.binds (ps := ["text"]) fun _ _ _ _ _ _ us hl => match us, hl with | [_], _ => rfl
  have F8 := fun_mk (st := s_own_part) l8 c8 k8
  have b8 := F8.binds (ps := ["line", "n"]) fun _ _ _ _ _ _ us hl => match us, hl with | [_, _], _ => rfl
  have F9 := fun_mk (st := s_sum_paper) l9 c9 k9
  have b9 := F9.binds (ps := ["line", "n"]) fun _ _ _ _ _ _ us hl => match us, hl with | [_, _], _ => rfl
  have F10 := fun_mk (st := s_sum_parts) l10 c10 k10
  have b10 := F10.binds (ps := ["line", "n"]) fun _ _ _ _ _ _ us hl => match us, hl with | [_, _], _ => rfl
  have F11 := fun_mk (st := s_sum_rests) l11 c11 k11
  have b11 := F11.binds (ps := ["line", "n"]) fun _ _ _ _ _ _ us hl => match us, hl with | [_, _], _ => rfl
  have F12 := fun_mk (st := s_sum_between) l12 c12 k12
  have b12 := F12.binds (ps := ["line", "low", "high"]) fun _ _ _ _ _ _ us hl => match us, hl with | [_, _, _], _ => rfl
  have F13 := fun_mk (st := s_need_all) l13 c13 k13
  have b13 := F13.binds (ps := ["above", "beneath", "low", "high"]) fun _ _ _ _ _ _ us hl => match us, hl with | [_, _, _, _], _ => rfl
  have F14 := fun_mk (st := s_turned_down) l14 c14 k14
  have b14 := F14.binds (ps := ["lines"]) fun _ _ _ _ _ _ us hl => match us, hl with | [_], _ => rfl
  have F15 := fun_mk (st := s_lowest_at) l15 c15 k15
  have b15 := F15.binds (ps := ["lines", "place"]) fun _ _ _ _ _ _ us hl => match us, hl with | [_, _], _ => rfl
  have F16 := fun_mk (st := s_cuts_of) l16 c16 k16
  have b16 := F16.binds (ps := ["lines", "low", "high"]) fun _ _ _ _ _ _ us hl => match us, hl with | [_, _, _], _ => rfl
  have F17 := fun_mk (st := s_points_between) l17 c17 k17
  have b17 := F17.binds (ps := ["above", "beneath", "low", "high"]) fun _ _ _ _ _ _ us hl => match us, hl with | [_, _, _, _], _ => rfl
  have F18 := fun_mk (st := s_beneath_plain) l18 c18 k18
  have b18 := F18.binds (ps := ["line", "n", "bound"]) fun _ _ _ _ _ _ us hl => match us, hl with | [_, _, _], _ => rfl
  have F19 := fun_mk (st := s_rests_beneath) l19 c19 k19
  have b19 := F19.binds (ps := ["line", "n", "bound"]) fun _ _ _ _ _ _ us hl => match us, hl with | [_, _, _], _ => rfl
  have F20 := fun_mk (st := s_first_multiple) l20 c20 k20
  have b20 := F20.binds (ps := ["a", "m", "low", "high"]) fun _ _ _ _ _ _ us hl => match us, hl with | [_, _, _, _], _ => rfl
  have F21 := fun_mk (st := s_first_plain) l21 c21 k21
  have b21 := F21.binds (ps := ["line", "low", "high"]) fun _ _ _ _ _ _ us hl => match us, hl with | [_, _, _], _ => rfl
  have F22 := fun_mk (st := s_first_within) l22 c22 k22
  have b22 := F22.binds (ps := ["line", "low", "high"]) fun _ _ _ _ _ _ us hl => match us, hl with | [_, _, _], _ => rfl
  have F23 := fun_mk (st := s_common_measure) l23 c23 k23
  have b23 := F23.binds (ps := ["one", "other"]) fun _ _ _ _ _ _ us hl => match us, hl with | [_, _], _ => rfl
  have F24 := fun_mk (st := s_in_order) l24 c24 k24
  have b24 := F24.binds (ps := ["line", "n", "number"]) fun _ _ _ _ _ _ us hl => match us, hl with | [_, _, _], _ => rfl
  have F25 := fun_mk (st := s_levels_of) l25 c25 k25
  have b25 := F25.binds (ps := ["line", "n"]) fun _ _ _ _ _ _ us hl => match us, hl with | [_, _], _ => rfl
  have F26 := fun_mk (st := s_sums_of_places) l26 c26 k26
  have b26 := F26.binds (ps := ["n"]) fun _ _ _ _ _ _ us hl => match us, hl with | [_], _ => rfl
  have F27 := fun_mk (st := s_level_sums) l27 c27 k27
  have b27 := F27.binds (ps := ["level", "sums"]) fun _ _ _ _ _ _ us hl => match us, hl with | [_, _], _ => rfl
  have F28 := fun_mk (st := s_three_sums) l28 c28 k28
  have b28 := F28.binds (ps := ["line", "n"]) fun _ _ _ _ _ _ us hl => match us, hl with | [_, _], _ => rfl
  have F29 := fun_mk (st := s_sum_squares) l29 c29 k29
  have b29 := F29.binds (ps := ["line", "n"]) fun _ _ _ _ _ _ us hl => match us, hl with | [_, _], _ => rfl
  have F30 := fun_mk (st := s_sum_placed) l30 c30 k30
  have b30 := F30.binds (ps := ["line", "n"]) fun _ _ _ _ _ _ us hl => match us, hl with | [_, _], _ => rfl
  have F31 := fun_mk (st := s_need) l31 c31 k31
  have b31 := F31.binds (ps := ["truth"]) fun _ _ _ _ _ _ us hl => match us, hl with | [_], _ => rfl
  have F32 := fun_mk (st := s_is_name) l32 c32 k32
  have b32 := F32.binds (ps := ["text"]) fun _ _ _ _ _ _ us hl => match us, hl with | [_], _ => rfl
  have F33 := fun_mk (st := s_number_from) l33 c33 k33
  have b33 := F33.binds (ps := ["text"]) fun _ _ _ _ _ _ us hl => match us, hl with | [_], _ => rfl
  have F34 := fun_mk (st := s_count_from) l34 c34 k34
  have b34 := F34.binds (ps := ["text"]) fun _ _ _ _ _ _ us hl => match us, hl with | [_], _ => rfl
  have F35 := fun_mk (st := s_Desk_named) l35 c35 k35
  have b35 := F35.binds (ps := ["self", "some", "many"]) fun _ _ _ _ _ _ us hl => match us, hl with | [_, _, _], _ => rfl
  have F36 := fun_mk (st := s_Desk_on_line) l36 c36 k36
  have b36 := F36.binds (ps := ["self", "some"]) fun _ _ _ _ _ _ us hl => match us, hl with | [_, _], _ => rfl
  have F37 := fun_mk (st := s_Desk_of_place) l37 c37 k37
  have b37 := F37.binds (ps := ["self", "word", "some"]) fun _ _ _ _ _ _ us hl => match us, hl with | [_, _, _], _ => rfl
  have F38 := fun_mk (st := s_Desk_of_count) l38 c38 k38
  have b38 := F38.binds (ps := ["self", "word", "some"]) fun _ _ _ _ _ _ us hl => match us, hl with | [_, _, _], _ => rfl
  have F39 := fun_mk (st := s_Desk_on_between) l39 c39 k39
  have b39 := F39.binds (ps := ["self", "some"]) fun _ _ _ _ _ _ us hl => match us, hl with | [_, _], _ => rfl
  have F40 := fun_mk (st := s_Desk_on_beneath) l40 c40 k40
  have b40 := F40.binds (ps := ["self", "some"]) fun _ _ _ _ _ _ us hl => match us, hl with | [_, _], _ => rfl
  have F41 := fun_mk (st := s_Desk_on_within) l41 c41 k41
  have b41 := F41.binds (ps := ["self", "some"]) fun _ _ _ _ _ _ us hl => match us, hl with | [_, _], _ => rfl
  have F42 := fun_mk (st := s_Desk_on_order) l42 c42 k42
  have b42 := F42.binds (ps := ["self", "some"]) fun _ _ _ _ _ _ us hl => match us, hl with | [_, _], _ => rfl
  have F43 := fun_mk (st := s_Desk_on_points) l43 c43 k43
  have b43 := F43.binds (ps := ["self", "some"]) fun _ _ _ _ _ _ us hl => match us, hl with | [_, _], _ => rfl
  have F44 := fun_mk (st := s_Desk_on_paper) l44 c44 k44
  have b44 := F44.binds (ps := ["self", "some"]) fun _ _ _ _ _ _ us hl => match us, hl with | [_, _], _ => rfl
  have F45 := fun_mk (st := s_Desk_of_more) l45 c45 k45
  have b45 := F45.binds (ps := ["self", "word", "some"]) fun _ _ _ _ _ _ us hl => match us, hl with | [_, _, _], _ => rfl
  have F46 := fun_mk (st := s_Desk_ask) l46 c46 k46
  have b46 := F46.binds (ps := ["self", "line"]) fun _ _ _ _ _ _ us hl => match us, hl with | [_, _], _ => rfl
  have F47 := fun_mk (st := s__law_draw) l47 c47 k47
  have b47 := F47.binds (ps := ["_law_script", "_law_k"]) fun _ _ _ _ _ _ us hl => match us, hl with | [_, _], _ => rfl
  have F48 := fun_mk (st := s__law_number) l48 c48 k48
  have b48 := F48.binds (ps := ["_law_script", "_law_at", "_law_most"]) fun _ _ _ _ _ _ us hl => match us, hl with | [_, _, _], _ => rfl
  have F49 := fun_mk (st := s__law_line) l49 c49 k49
  have b49 := F49.binds (ps := ["_law_script", "_law_at", "_law_most"]) fun _ _ _ _ _ _ us hl => match us, hl with | [_, _, _], _ => rfl
  have F50 := fun_mk (st := s__law_name) l50 c50 k50
  have b50 := F50.binds (ps := ["_law_script", "_law_i"]) fun _ _ _ _ _ _ us hl => match us, hl with | [_, _], _ => rfl
  have F51 := fun_mk (st := s__law_line_text) l51 c51 k51
  have b51 := F51.binds (ps := ["_law_line_here"]) fun _ _ _ _ _ _ us hl => match us, hl with | [_], _ => rfl
  have F52 := fun_mk (st := s__law_row) l52 c52 k52
  have b52 := F52.binds (ps := ["_law_numbers"]) fun _ _ _ _ _ _ us hl => match us, hl with | [_], _ => rfl
  have F53 := fun_mk (st := s__law_lines) l53 c53 k53
  have b53 := F53.binds (ps := ["_law_script", "_law_name_here", "_law_line_here", "_law_at"]) fun _ _ _ _ _ _ us hl => match us, hl with | [_, _, _, _], _ => rfl
  have F54 := fun_mk (st := s__law_told_right) l54 c54 k54
  have b54 := F54.binds (ps := ["_law_desk", "_law_lines_here"]) fun _ _ _ _ _ _ us hl => match us, hl with | [_, _], _ => rfl
  have F55 := fun_mk (st := s_law) l55 c55 k55
  have b55 := F55.binds (ps := ["_law_script"]) fun _ _ _ _ _ _ us hl => match us, hl with | [_], _ => rfl
  have bI := FI.binds (ps := ["self"]) fun _ _ _ _ _ _ us hl => match us, hl with | [_], _ => rfl
  refine ⟨PySem.W.fnOf "law" "law" (defArgs s_law) (defBody s_law) (defScope s_law) .none kV55 dc55 pm55 an55 cd55 ct55, fun s v => .of_eq rfl, fun base _ _ => ?_⟩
  have d_init : Di l.prog w K mg base CD := ⟨fI, _, ["self"], ok_init FI ⟨pgD, hdD, poD, saD⟩ nlD, ⟨mkD, aI, iI, kcD⟩, bI⟩
  have d_need_line := ok_need_line (P := l.prog) (w := w) (base := base) T F0 (PySem.W.mg_of X G a0) b0
  have d_height_at := ok_height_at (P := l.prog) (w := w) (base := base) T F1 (PySem.W.mg_of X G a1) b1 d_need_line
  have d_part_at := ok_part_at (P := l.prog) (w := w) (base := base) T F2 (PySem.W.mg_of X G a2) b2 d_height_at
  have d_rest_at := ok_rest_at (P := l.prog) (w := w) (base := base) T F3 (PySem.W.mg_of X G a3) b3 d_height_at
  have d_laid_off := ok_laid_off (P := l.prog) (w := w) (base := base) T F4 (PySem.W.mg_of X G a4) b4 d_need_line
  have d_turned := ok_turned (P := l.prog) (w := w) (base := base) T F5 (PySem.W.mg_of X G a5) b5 d_need_line d_part_at d_rest_at
  have d_number_read := ok_number_read (P := l.prog) (w := w) (base := base) T F6 (PySem.W.mg_of X G a6) b6
  have d_read_line := ok_read_line (P := l.prog) (w := w) (base := base) T F7 (PySem.W.mg_of X G a7) b7 d_need_line d_number_read
  have d_own_part := ok_own_part (P := l.prog) (w := w) (base := base) T F8 (PySem.W.mg_of X G a8) b8 d_laid_off
  have d_sum_paper := ok_sum_paper (P := l.prog) (w := w) (base := base) T F9 (PySem.W.mg_of X G a9) b9 d_turned d_own_part d_laid_off
  have d_sum_parts := ok_sum_parts (P := l.prog) (w := w) (base := base) T F10 (PySem.W.mg_of X G a10) b10 d_laid_off d_turned
  have d_sum_rests := ok_sum_rests (P := l.prog) (w := w) (base := base) T F11 (PySem.W.mg_of X G a11) b11 d_need_line d_sum_parts
  have d_sum_between := ok_sum_between (P := l.prog) (w := w) (base := base) T F12 (PySem.W.mg_of X G a12) b12 d_need_line d_sum_parts
  have d_need_all := ok_need_all (P := l.prog) (w := w) (base := base) T F13 (PySem.W.mg_of X G a13) b13 d_part_at
  have d_turned_down := ok_turned_down (P := l.prog) (w := w) (base := base) T F14 (PySem.W.mg_of X G a14) b14
  have d_lowest_at := ok_lowest_at (P := l.prog) (w := w) (base := base) T F15 (PySem.W.mg_of X G a15) b15
  have d_lowest_at_L := ok_lowest_at_L (P := l.prog) (w := w) (base := base) T F15 (PySem.W.mg_of X G a15) b15
  have d_cuts_of := ok_cuts_of (P := l.prog) (w := w) (base := base) T F16 (PySem.W.mg_of X G a16) b16
  have d_points_between := ok_points_between (P := l.prog) (w := w) (base := base) T F17 (PySem.W.mg_of X G a17) b17 d_need_all d_turned_down d_cuts_of d_lowest_at d_lowest_at_L d_sum_between
  have d_beneath_plain := ok_beneath_plain (P := l.prog) (w := w) (base := base) T F18 (PySem.W.mg_of X G a18) b18 d_sum_parts
  have d_rests_beneath := ok_rests_beneath (P := l.prog) (w := w) (base := base) T F19 (PySem.W.mg_of X G a19) b19 d_beneath_plain d_laid_off
  have d_first_multiple := ok_first_multiple (P := l.prog) (w := w) (base := base) T F20 (PySem.W.mg_of X G a20) b20
  have d_first_plain := ok_first_plain (P := l.prog) (w := w) (base := base) T F21 (PySem.W.mg_of X G a21) b21 d_first_multiple
  have d_first_within := ok_first_within (P := l.prog) (w := w) (base := base) T F22 (PySem.W.mg_of X G a22) b22 d_first_plain d_laid_off
  have d_common_measure := ok_common_measure (P := l.prog) (w := w) (base := base) T F23 (PySem.W.mg_of X G a23) b23
  have d_in_order := ok_in_order (P := l.prog) (w := w) (base := base) T F24 (PySem.W.mg_of X G a24) b24 d_laid_off d_beneath_plain d_first_plain d_common_measure
  have d_levels_of := ok_levels_of (P := l.prog) (w := w) (base := base) T F25 (PySem.W.mg_of X G a25) b25 d_laid_off d_turned
  have d_sums_of_places := ok_sums_of_places (P := l.prog) (w := w) (base := base) T F26 (PySem.W.mg_of X G a26) b26
  have d_level_sums := ok_level_sums (P := l.prog) (w := w) (base := base) T F27 (PySem.W.mg_of X G a27) b27 d_sums_of_places
  have d_three_sums := ok_three_sums (P := l.prog) (w := w) (base := base) T F28 (PySem.W.mg_of X G a28) b28 d_levels_of d_level_sums
  have d_sum_squares := ok_sum_squares (P := l.prog) (w := w) (base := base) T F29 (PySem.W.mg_of X G a29) b29 d_three_sums
  have d_sum_placed := ok_sum_placed (P := l.prog) (w := w) (base := base) T F30 (PySem.W.mg_of X G a30) b30 d_three_sums
  have d_need := ok_need (P := l.prog) (w := w) (base := base) T F31 (PySem.W.mg_of X G a31) b31
  have d_is_name := ok_is_name (P := l.prog) (w := w) (base := base) T F32 (PySem.W.mg_of X G a32) b32
  have d_number_from := ok_number_from (P := l.prog) (w := w) (base := base) T F33 (PySem.W.mg_of X G a33) b33 d_need
  have d_count_from := ok_count_from (P := l.prog) (w := w) (base := base) T F34 (PySem.W.mg_of X G a34) b34 d_number_from d_need
  have d_Desk_named := ok_Desk_named (P := l.prog) (w := w) (base := base) T F35 ⟨a35, i35, k35⟩ b35 d_need
  have d_Desk_on_line := ok_Desk_on_line (P := l.prog) (w := w) (base := base) T F36 ⟨a36, i36, k36⟩ b36 d_need d_read_line d_number_from d_is_name
  have d_Desk_of_place := ok_Desk_of_place (P := l.prog) (w := w) (base := base) T F37 ⟨a37, i37, k37⟩ b37 d_Desk_named d_number_from d_rest_at d_part_at
  have d_Desk_of_count := ok_Desk_of_count (P := l.prog) (w := w) (base := base) T F38 ⟨a38, i38, k38⟩ b38 d_Desk_named d_count_from d_sum_rests d_sum_parts d_sum_squares d_sum_placed
  have d_Desk_on_between := ok_Desk_on_between (P := l.prog) (w := w) (base := base) T F39 ⟨a39, i39, k39⟩ b39 d_Desk_named d_number_from d_sum_between
  have d_Desk_on_beneath := ok_Desk_on_beneath (P := l.prog) (w := w) (base := base) T F40 ⟨a40, i40, k40⟩ b40 d_Desk_named d_count_from d_rests_beneath d_number_from
  have d_Desk_on_within := ok_Desk_on_within (P := l.prog) (w := w) (base := base) T F41 ⟨a41, i41, k41⟩ b41 d_Desk_named d_number_from d_first_within
  have d_Desk_on_order := ok_Desk_on_order (P := l.prog) (w := w) (base := base) T F42 ⟨a42, i42, k42⟩ b42 d_Desk_named d_count_from d_in_order d_number_from
  have d_Desk_on_points := ok_Desk_on_points (P := l.prog) (w := w) (base := base) T F43 ⟨a43, i43, k43⟩ b43 d_need d_number_from d_points_between
  have d_Desk_on_paper := ok_Desk_on_paper (P := l.prog) (w := w) (base := base) T F44 ⟨a44, i44, k44⟩ b44 d_Desk_named d_sum_paper d_count_from
  have d_Desk_of_more := ok_Desk_of_more (P := l.prog) (w := w) (base := base) T F45 ⟨a45, i45, k45⟩ b45 d_Desk_on_between d_Desk_on_beneath d_Desk_on_within d_Desk_on_order d_Desk_on_points d_Desk_on_paper
  have d_Desk_ask := ok_Desk_ask (P := l.prog) (w := w) (base := base) T F46 ⟨a46, i46, k46⟩ b46 d_need d_Desk_of_more d_Desk_on_line d_Desk_of_place d_Desk_of_count
  have d__law_draw := ok__law_draw (P := l.prog) (w := w) (base := base) T F47 (PySem.W.mg_of X G a47) b47
  have d__law_number := ok__law_number (P := l.prog) (w := w) (base := base) T F48 (PySem.W.mg_of X G a48) b48 d__law_draw
  have d__law_line := ok__law_line (P := l.prog) (w := w) (base := base) T F49 (PySem.W.mg_of X G a49) b49 d__law_number d__law_draw
  have d__law_name := ok__law_name (P := l.prog) (w := w) (base := base) T F50 (PySem.W.mg_of X G a50) b50 d__law_draw
  have d__law_line_text := ok__law_line_text (P := l.prog) (w := w) (base := base) T F51 (PySem.W.mg_of X G a51) b51
  have d__law_row := ok__law_row (P := l.prog) (w := w) (base := base) T F52 (PySem.W.mg_of X G a52) b52
  have d__law_lines := ok__law_lines (P := l.prog) (w := w) (base := base) T F53 (PySem.W.mg_of X G a53) b53 d__law_number d_first_within d__law_draw d__law_row d_sum_paper d_sum_parts d_sum_rests d_sum_squares d_sum_placed d_sum_between d_rests_beneath d_in_order
  have d__law_told_right := ok__law_told_right (P := l.prog) (w := w) (base := base) T F54 (PySem.W.mg_of X G a54) b54 d_Desk_ask
  have d_law := ok_law (P := l.prog) (w := w) (base := base) T F55 (PySem.W.mg_of X G a55) b55 d__law_name d__law_line d__law_number d_Desk_ask d__law_told_right d__law_lines d_points_between d__law_line_text d_init
  exact law_imp (Dk.mk [] none (fun _ => none) 0) d_law (fun G => ⟨fun _ _ z => (nomatch z), fun _ _ z => (nomatch z), fun _ _ z => (nomatch z)⟩)
theorem walk {l : PySem.W.OpenLaw} {q : Program} {loose : List Str} {XP : (Str → Option Value) → Heap → Prop} {YP : World → Heap → Prop} {d : DefRec} {K : Params → PySem.W.Frag} (hn : l.most = some 63) (hdf : d.params.defaults = [])
    (hY : ∀ (w : World) (h : Heap), YP w h → (K w.params).In h)
    (F : ∀ (w : World) (mg : Str → Option Value) (fa : Addr) (h : Heap), (K w.params).In h → h.Ns mainGlobals mg → mg d.name = some (.ref fa) →
      ∃ fd : FuncData, (∀ (s : Shared) (u : Value), BindsTo s fd ⟨[u], []⟩ [("_law_script", u)]) ∧ ∀ base : Heap, (K w.params).In base → base.Ns mainGlobals mg → FnOk l.prog w (K w.params) mg base (L2.CX l.prog w) 12 fa fd ["_law_script"] (spLawV (K w.params))) :
    PySem.W.WalkO q loose XP YP l.row.toRowW d [] (fun f vs => PySem.call f vs) :=
  L2.walk_ofB (n := 63) (k := 12) (x := "_law_script") (CX := fun w => L2.CX l.prog w) (sp := fun w => spLawV (K w.params)) hn (by decide) hdf ⟨rfl, by decide, by decide⟩ hY F (fun _ _ a ns hl hb _ hS => ⟨a, ns, rfl, hS, hl, hb, fun _ => rfl⟩) fun _ _ _ _ _ z => cx_none z
end Lw
open PySem PySem.W PyProof.Rows
set_option maxRecDepth 100000 in
set_option maxHeartbeats 0 in
theorem PySem.Challenge.cw_turnedline_k37_desk_great_lines_holds : PySem.Challenge.rw_turnedline_k37_desk_great_lines.Holds := by
  w_on; o_law; k_head; (case hw => w_witness2)
  k_fill
  refine Lw.walk (l := PySem.Challenge.rw_turnedline_k37_desk_great_lines) rfl rfl (fun w h Y => PySem.W.kIn_of Y) ?F
  case F =>
    intro w mg fa h KX G hmg
    refine' Lw.all_mk KX G hmg ?aD ?aI ?iI ?lI ?cI ?kI ?pgD ?hdD ?poD ?saD ?mkD ?kcD ?nlD ?a0 ?l0 ?c0 ?k0 ?a1 ?l1 ?c1 ?k1 ?a2 ?l2 ?c2 ?k2 ?a3 ?l3 ?c3 ?k3 ?a4 ?l4 ?c4 ?k4 ?a5 ?l5 ?c5 ?k5 ?a6 ?l6 ?c6 ?k6 ?a7 ?l7 ?c7 ?k7 ?a8 ?l8 ?c8 ?k8 ?a9 ?l9 ?c9 ?k9 ?a10 ?l10 ?c10 ?k10 ?a11 ?l11 ?c11 ?k11 ?a12 ?l12 ?c12 ?k12 ?a13 ?l13 ?c13 ?k13 ?a14 ?l14 ?c14 ?k14 ?a15 ?l15 ?c15 ?k15 ?a16 ?l16 ?c16 ?k16 ?a17 ?l17 ?c17 ?k17 ?a18 ?l18 ?c18 ?k18 ?a19 ?l19 ?c19 ?k19 ?a20 ?l20 ?c20 ?k20 ?a21 ?l21 ?c21 ?k21 ?a22 ?l22 ?c22 ?k22 ?a23 ?l23 ?c23 ?k23 ?a24 ?l24 ?c24 ?k24 ?a25 ?l25 ?c25 ?k25 ?a26 ?l26 ?c26 ?k26 ?a27 ?l27 ?c27 ?k27 ?a28 ?l28 ?c28 ?k28 ?a29 ?l29 ?c29 ?k29 ?a30 ?l30 ?c30 ?k30 ?a31 ?l31 ?c31 ?k31 ?a32 ?l32 ?c32 ?k32 ?a33 ?l33 ?c33 ?k33 ?a34 ?l34 ?c34 ?k34 ?a35 ?i35 ?l35 ?c35 ?k35 ?a36 ?i36 ?l36 ?c36 ?k36 ?a37 ?i37 ?l37 ?c37 ?k37 ?a38 ?i38 ?l38 ?c38 ?k38 ?a39 ?i39 ?l39 ?c39 ?k39 ?a40 ?i40 ?l40 ?c40 ?k40 ?a41 ?i41 ?l41 ?c41 ?k41 ?a42 ?i42 ?l42 ?c42 ?k42 ?a43 ?i43 ?l43 ?c43 ?k43 ?a44 ?i44 ?l44 ?c44 ?k44 ?a45 ?i45 ?l45 ?c45 ?k45 ?a46 ?i46 ?l46 ?c46 ?k46 ?a47 ?l47 ?c47 ?k47 ?a48 ?l48 ?c48 ?k48 ?a49 ?l49 ?c49 ?k49 ?a50 ?l50 ?c50 ?k50 ?a51 ?l51 ?c51 ?k51 ?a52 ?l52 ?c52 ?k52 ?a53 ?l53 ?c53 ?k53 ?a54 ?l54 ?c54 ?k54 ?a55 ?l55 ?c55 ?k55 ?aE0 ?xE0 ?kE0 ?bE0 ?tE0 ?aE1 ?xE1 ?kE1 ?bE1 ?tE1 ?aE2 ?xE2 ?kE2 ?bE2 ?tE2 ?aE3 ?xE3 ?kE3 ?bE3 ?tE3 ?aE4 ?xE4 ?kE4 ?bE4 ?tE4 ?aE6 ?xE6 ?kE6 ?bE6 ?tE6 ?z_abs ?z_all ?z_int ?z_len ?z_list ?z_max ?z_min ?z_range ?z_set ?z_sorted ?z_str ?z_tuple ?z_zip ?v_FIGURES_lines ?v_LETTERS ?v_FIGURES_whole
    (case aD => k_is)
    (case aI => k_is)
    (case iI => k_is)
    (case lI => k_is)
    (case cI => k_is)
    (case kI => k_is)
    (case pgD => k_is)
    (case hdD => k_is)
    (case poD => k_is)
    (case saD => k_is)
    (case mkD => k_is)
    (case kcD => k_is)
    (case nlD => k_is)
    (case a0 => k_is)
    (case l0 => k_is)
    (case c0 => k_is)
    (case k0 => k_is)
    (case a1 => k_is)
    (case l1 => k_is)
    (case c1 => k_is)
    (case k1 => k_is)
    (case a2 => k_is)
    (case l2 => k_is)
    (case c2 => k_is)
    (case k2 => k_is)
    (case a3 => k_is)
    (case l3 => k_is)
    (case c3 => k_is)
    (case k3 => k_is)
    (case a4 => k_is)
    (case l4 => k_is)
    (case c4 => k_is)
    (case k4 => k_is)
    (case a5 => k_is)
    (case l5 => k_is)
    (case c5 => k_is)
    (case k5 => k_is)
    (case a6 => k_is)
    (case l6 => k_is)
    (case c6 => k_is)
    (case k6 => k_is)
    (case a7 => k_is)
    (case l7 => k_is)
    (case c7 => k_is)
    (case k7 => k_is)
    (case a8 => k_is)
    (case l8 => k_is)
    (case c8 => k_is)
    (case k8 => k_is)
    (case a9 => k_is)
    (case l9 => k_is)
    (case c9 => k_is)
    (case k9 => k_is)
    (case a10 => k_is)
    (case l10 => k_is)
    (case c10 => k_is)
    (case k10 => k_is)
    (case a11 => k_is)
    (case l11 => k_is)
    (case c11 => k_is)
    (case k11 => k_is)
    (case a12 => k_is)
    (case l12 => k_is)
    (case c12 => k_is)
    (case k12 => k_is)
    (case a13 => k_is)
    (case l13 => k_is)
    (case c13 => k_is)
    (case k13 => k_is)
    (case a14 => k_is)
    (case l14 => k_is)
    (case c14 => k_is)
    (case k14 => k_is)
    (case a15 => k_is)
    (case l15 => k_is)
    (case c15 => k_is)
    (case k15 => k_is)
    (case a16 => k_is)
    (case l16 => k_is)
    (case c16 => k_is)
    (case k16 => k_is)
    (case a17 => k_is)
    (case l17 => k_is)
    (case c17 => k_is)
    (case k17 => k_is)
    (case a18 => k_is)
    (case l18 => k_is)
    (case c18 => k_is)
    (case k18 => k_is)
    (case a19 => k_is)
    (case l19 => k_is)
    (case c19 => k_is)
    (case k19 => k_is)
    (case a20 => k_is)
    (case l20 => k_is)
    (case c20 => k_is)
    (case k20 => k_is)
    (case a21 => k_is)
    (case l21 => k_is)
    (case c21 => k_is)
    (case k21 => k_is)
    (case a22 => k_is)
    (case l22 => k_is)
    (case c22 => k_is)
    (case k22 => k_is)
    (case a23 => k_is)
    (case l23 => k_is)
    (case c23 => k_is)
    (case k23 => k_is)
    (case a24 => k_is)
    (case l24 => k_is)
    (case c24 => k_is)
    (case k24 => k_is)
    (case a25 => k_is)
    (case l25 => k_is)
    (case c25 => k_is)
    (case k25 => k_is)
    (case a26 => k_is)
    (case l26 => k_is)
    (case c26 => k_is)
    (case k26 => k_is)
    (case a27 => k_is)
    (case l27 => k_is)
    (case c27 => k_is)
    (case k27 => k_is)
    (case a28 => k_is)
    (case l28 => k_is)
    (case c28 => k_is)
    (case k28 => k_is)
    (case a29 => k_is)
    (case l29 => k_is)
    (case c29 => k_is)
    (case k29 => k_is)
    (case a30 => k_is)
    (case l30 => k_is)
    (case c30 => k_is)
    (case k30 => k_is)
    (case a31 => k_is)
    (case l31 => k_is)
    (case c31 => k_is)
    (case k31 => k_is)
    (case a32 => k_is)
    (case l32 => k_is)
    (case c32 => k_is)
    (case k32 => k_is)
    (case a33 => k_is)
    (case l33 => k_is)
    (case c33 => k_is)
    (case k33 => k_is)
    (case a34 => k_is)
    (case l34 => k_is)
    (case c34 => k_is)
    (case k34 => k_is)
    (case a35 => k_is)
    (case i35 => k_is)
    (case l35 => k_is)
    (case c35 => k_is)
    (case k35 => k_is)
    (case a36 => k_is)
    (case i36 => k_is)
    (case l36 => k_is)
    (case c36 => k_is)
    (case k36 => k_is)
    (case a37 => k_is)
    (case i37 => k_is)
    (case l37 => k_is)
    (case c37 => k_is)
    (case k37 => k_is)
    (case a38 => k_is)
    (case i38 => k_is)
    (case l38 => k_is)
    (case c38 => k_is)
    (case k38 => k_is)
    (case a39 => k_is)
    (case i39 => k_is)
    (case l39 => k_is)
    (case c39 => k_is)
    (case k39 => k_is)
    (case a40 => k_is)
    (case i40 => k_is)
    (case l40 => k_is)
    (case c40 => k_is)
    (case k40 => k_is)
    (case a41 => k_is)
    (case i41 => k_is)
    (case l41 => k_is)
    (case c41 => k_is)
    (case k41 => k_is)
    (case a42 => k_is)
    (case i42 => k_is)
    (case l42 => k_is)
    (case c42 => k_is)
    (case k42 => k_is)
    (case a43 => k_is)
    (case i43 => k_is)
    (case l43 => k_is)
    (case c43 => k_is)
    (case k43 => k_is)
    (case a44 => k_is)
    (case i44 => k_is)
    (case l44 => k_is)
    (case c44 => k_is)
    (case k44 => k_is)
    (case a45 => k_is)
    (case i45 => k_is)
    (case l45 => k_is)
    (case c45 => k_is)
    (case k45 => k_is)
    (case a46 => k_is)
    (case i46 => k_is)
    (case l46 => k_is)
    (case c46 => k_is)
    (case k46 => k_is)
    (case a47 => k_is)
    (case l47 => k_is)
    (case c47 => k_is)
    (case k47 => k_is)
    (case a48 => k_is)
    (case l48 => k_is)
    (case c48 => k_is)
    (case k48 => k_is)
    (case a49 => k_is)
    (case l49 => k_is)
    (case c49 => k_is)
    (case k49 => k_is)
    (case a50 => k_is)
    (case l50 => k_is)
    (case c50 => k_is)
    (case k50 => k_is)
    (case a51 => k_is)
    (case l51 => k_is)
    (case c51 => k_is)
    (case k51 => k_is)
    (case a52 => k_is)
    (case l52 => k_is)
    (case c52 => k_is)
    (case k52 => k_is)
    (case a53 => k_is)
    (case l53 => k_is)
    (case c53 => k_is)
    (case k53 => k_is)
    (case a54 => k_is)
    (case l54 => k_is)
    (case c54 => k_is)
    (case k54 => k_is)
    (case a55 => k_is)
    (case l55 => k_is)
    (case c55 => k_is)
    (case k55 => k_is)
    (case aE0 => k_is)
    (case xE0 => k_exc)
    (case kE0 => k_is)
    (case bE0 => k_is)
    (case tE0 => k_is)
    (case aE1 => k_is)
    (case xE1 => k_exc)
    (case kE1 => k_is)
    (case bE1 => k_is)
    (case tE1 => k_is)
    (case aE2 => k_is)
    (case xE2 => k_exc)
    (case kE2 => k_is)
    (case bE2 => k_is)
    (case tE2 => k_is)
    (case aE3 => k_is)
    (case xE3 => k_exc)
    (case kE3 => k_is)
    (case bE3 => k_is)
    (case tE3 => k_is)
    (case aE4 => k_is)
    (case xE4 => k_exc)
    (case kE4 => k_is)
    (case bE4 => k_is)
    (case tE4 => k_is)
    (case aE6 => k_is)
    (case xE6 => k_exc)
    (case kE6 => k_is)
    (case bE6 => k_is)
    (case tE6 => k_is)
    (case z_abs => k_is)
    (case z_all => k_is)
    (case z_int => k_is)
    (case z_len => k_is)
    (case z_list => k_is)
    (case z_max => k_is)
    (case z_min => k_is)
    (case z_range => k_is)
    (case z_set => k_is)
    (case z_sorted => k_is)
    (case z_str => k_is)
    (case z_tuple => k_is)
    (case z_zip => k_is)
    (case v_FIGURES_lines => k_is)
    (case v_LETTERS => k_is)
    (case v_FIGURES_whole => k_is)
