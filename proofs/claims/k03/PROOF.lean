import PyProof.Rows.All
import HandS.ForMost
import HandS.ForExc
import HandS.IsInst
import HandS.Walk
import HandS.Zip
import HandS.DictComp
import HandS.Conv
import HandS.SortInts
import HandS.SortRule
import HandS.Gcd
import HandS.Defaults
import KE.SortData
import KE.GoesMore
import PyProof.DictUpdate
import HandS.Head0
import HandS.Head1
import HandS.Head2
import HandS.Head3
import HandS.HeadEnd
import HandS.HeadHook1
import HandS.HeadHook2
import PySem.Challenge.RW_reelwright_k03_main_moves_one_behind_ano
set_option Elab.async false
set_option linter.all false
section
set_option Elab.async false
set_option linter.all false
set_option maxRecDepth 100000
set_option maxHeartbeats 4000000
namespace Rw
open PySem L2

/-- what the keys of a dict are: ints and texts; tuples of such -/
inductive DK where
  | k | t
  deriving DecidableEq
inductive D where
  | non | bl (b : Bool) | int (i : Int) | str (x : Str) | tup (ds : List D) | lst (ds : List D) | scr (ns : List Int) | dct (t : DK) (kvs : List (D × D)) | ty (n : String) | loc (n : Nat)
inductive R (α : Type) where
  | ok (a : α) | ex (c : Str)
inductive Cell where
  | lst (ds : List D) | dct (t : DK) (kvs : List (D × D)) | obj (C : Str) (fs : List (Str × D)) | free
abbrev M (α : Type) := List Cell → Option (R α × List Cell)
def M.ret {α : Type} (a : α) : M α := fun S => some (.ok a, S)
def M.bind {α β : Type} (m : M α) (k : α → M β) : M β := fun S => match m S with
  | some (.ok a, S1) => k a S1
  | some (.ex c, S1) => some (.ex c, S1)
  | none => none
def M.fail {α : Type} : M α := fun _ => none
abbrev Sl := List (Option D)
inductive Out where
  | nx | rt (d : D) | bk | ct
abbrev MS := Sl → List Cell → Option (R Out × Sl × List Cell)

def kD : Key → D
  | .inl i => .int i
  | .inr x => .str x
mutual
inductive RepV (K : PySem.W.Frag) (F : Hp) (ρ : List Addr) : V → D → Prop
  | non : RepV K F ρ .non .non
  | bl (b : Bool) : RepV K F ρ (.bl b) (.bl b)
  | int (i : Int) : RepV K F ρ (.int i) (.int i)
  | str (x : Str) : RepV K F ρ (.str x) (.str x)
  | ty (n : String) : RepV K F ρ (.ty n) (.ty n)
  | tup {a : Addr} {xs : List V} {ds : List D} : F a = some (.tup xs) → RepA K F ρ xs ds → RepV K F ρ (.ref a) (.tup ds)
  | lst {a : Addr} {xs : List V} {ds : List D} : F a = some (.lst xs) → RepA K F ρ xs ds → RepV K F ρ (.ref a) (.lst ds)
  | scr {a : Addr} {ns : List Int} : SqL K F a (ns.map V.int) → RepV K F ρ (.ref a) (.scr ns)
  | dK {a : Addr} {ks : List (Key × V)} {kvs : List (D × D)} : F a = some (.dK ks) → kvs.map Prod.fst = ks.map (fun p => kD p.1) → RepA K F ρ (ks.map Prod.snd) (kvs.map Prod.snd) → RepV K F ρ (.ref a) (.dct .k kvs)
  | dT {a : Addr} {ks : List (List Key × V)} {kvs : List (D × D)} : F a = some (.dT ks) → kvs.map Prod.fst = ks.map (fun p => D.tup (p.1.map kD)) → RepA K F ρ (ks.map Prod.snd) (kvs.map Prod.snd) → RepV K F ρ (.ref a) (.dct .t kvs)
  | loc {n : Nat} {a : Addr} : ρ[n]? = some a → RepV K F ρ (.ref a) (.loc n)
inductive RepA (K : PySem.W.Frag) (F : Hp) (ρ : List Addr) : List V → List D → Prop
  | nil : RepA K F ρ [] []
  | cons {v : V} {vs : List V} {d : D} {ds : List D} : RepV K F ρ v d → RepA K F ρ vs ds → RepA K F ρ (v :: vs) (d :: ds)
end

section
variable {K : PySem.W.Frag} {F F' : Hp} {ρ ρ' : List Addr}
theorem scr_mono {a : Addr} {xs : List V} (hF : ∀ a u, F a = some u → F' a = some u) (h : SqL K F a xs) : SqL K F' a xs := by
  rcases h with (h | ⟨o, h⟩) | h
  · exact .inl (.inl (hF _ _ h))
  · exact .inl (.inr ⟨o, hF _ _ h⟩)
  · exact .inr h
theorem RepV.mono {v : V} {d : D} (hF : ∀ a u, F a = some u → F' a = some u) (hρ : ∀ (n : Nat) p, ρ[n]? = some p → ρ'[n]? = some p) (h : RepV K F ρ v d) : RepV K F' ρ' v d :=
  RepV.rec (motive_1 := fun v d _ => RepV K F' ρ' v d) (motive_2 := fun vs ds _ => RepA K F' ρ' vs ds) .non .bl .int .str .ty
    (fun h _ i => .tup (hF _ _ h) i) (fun h _ i => .lst (hF _ _ h) i) (fun h => .scr (scr_mono hF h)) (fun h e _ i => .dK (hF _ _ h) e i) (fun h e _ i => .dT (hF _ _ h) e i) (fun h => .loc (hρ _ _ h)) .nil (fun _ _ i j => .cons i j) h
theorem RepA.mono {vs : List V} {ds : List D} (hF : ∀ a u, F a = some u → F' a = some u) (hρ : ∀ (n : Nat) p, ρ[n]? = some p → ρ'[n]? = some p) : ∀ {ds : List D} {vs : List V}, RepA K F ρ vs ds → RepA K F' ρ' vs ds
  | _, _, .nil => .nil
  | _, _, .cons h t => .cons (h.mono hF hρ) (RepA.mono (vs := vs) (ds := ds) hF hρ t)
theorem RepA.length : ∀ {ds : List D} {vs : List V}, RepA K F ρ vs ds → vs.length = ds.length
  | _, _, .nil => rfl
  | _, _, .cons _ t => congrArg (· + 1) (RepA.length t)
theorem RepA.get : ∀ {ds : List D} {vs : List V} {i : Nat} {d : D}, RepA K F ρ vs ds → ds[i]? = some d → ∃ v, vs[i]? = some v ∧ RepV K F ρ v d
  | _, _, _, _, .nil, e => by simp at e
  | _, _, 0, _, .cons h _, e => by
    simp at e
    subst e
    exact ⟨_, rfl, h⟩
  | _, _, i + 1, d, .cons _ t, e => by
    obtain ⟨v, h1, h2⟩ := RepA.get (i := i) (d := d) t (by simpa using e)
    exact ⟨v, by simpa using h1, h2⟩
theorem RepA.getV : ∀ {ds : List D} {vs : List V} {i : Nat} {v : V}, RepA K F ρ vs ds → vs[i]? = some v → ∃ d, ds[i]? = some d ∧ RepV K F ρ v d
  | _, _, _, _, .nil, e => by simp at e
  | _, _, 0, _, .cons h _, e => by
    simp at e
    subst e
    exact ⟨_, rfl, h⟩
  | _, _, i + 1, v, .cons _ t, e => by
    obtain ⟨d, h1, h2⟩ := RepA.getV (i := i) (v := v) t (by simpa using e)
    exact ⟨d, by simpa using h1, h2⟩
theorem RepA.append : ∀ {ds es : List D} {vs us : List V}, RepA K F ρ vs ds → RepA K F ρ us es → RepA K F ρ (vs ++ us) (ds ++ es)
  | _, _, _, _, .nil, s => s
  | _, _, _, _, .cons h t, s => .cons h (RepA.append t s)
theorem RepA.take (n : Nat) : ∀ {ds : List D} {vs : List V}, RepA K F ρ vs ds → RepA K F ρ (vs.take n) (ds.take n) := by
  induction n with
  | zero => intro ds vs _; exact .nil
  | succ n ih =>
    intro ds vs h
    cases h with
    | nil => exact .nil
    | cons a b => exact .cons a (ih b)
theorem RepA.drop (n : Nat) : ∀ {ds : List D} {vs : List V}, RepA K F ρ vs ds → RepA K F ρ (vs.drop n) (ds.drop n) := by
  induction n with
  | zero => intro ds vs h; exact h
  | succ n ih =>
    intro ds vs h
    cases h with
    | nil => exact .nil
    | cons a b => exact ih b
theorem RepA.set {v : V} {d : D} (r : RepV K F ρ v d) : ∀ {ds : List D} {vs : List V} (i : Nat), RepA K F ρ vs ds → RepA K F ρ (vs.set i v) (ds.set i d)
  | _, _, _, .nil => .nil
  | _, _, 0, .cons _ t => .cons r t
  | _, _, i + 1, .cons h t => .cons h (RepA.set r i t)
end

structure G where
  B : Hp
  F : Hp
  ρ : List Addr
  L : List Addr
structure Le (w w' : G) : Prop where
  B : w'.B = w.B
  L : w'.L = w.L
  F : ∀ a u, w.F a = some u → w'.F a = some u
  new : ∀ a, w'.F a ≠ none → w.F a ≠ none ∨ w.B a = none
  ρ : ∀ (n : Nat) p, w.ρ[n]? = some p → w'.ρ[n]? = some p
  newρ : ∀ p, p ∈ w'.ρ → p ∈ w.ρ ∨ w.B p = none
theorem Le.refl (w : G) : Le w w := ⟨rfl, rfl, fun _ _ h => h, fun _ h => .inl h, fun _ _ h => h, fun _ h => .inl h⟩
theorem Le.trans {w w1 w2 : G} (a : Le w w1) (b : Le w1 w2) : Le w w2 :=
  ⟨b.B.trans a.B, b.L.trans a.L, fun p u h => b.F p u (a.F p u h), fun p h => by
    rcases b.new p h with h | h
    · exact a.new p h
    · rw [a.B] at h; exact .inr h, fun n p h => b.ρ n p (a.ρ n p h), fun p h => by
    rcases b.newρ p h with h | h
    · exact a.newρ p h
    · rw [a.B] at h; exact .inr h⟩
def isDc : HO → Bool
  | .dK _ => true
  | .dT _ => true
  | _ => false
abbrev RepW (K : PySem.W.Frag) (w : G) : V → D → Prop := RepV K w.F w.ρ
abbrev RepWA (K : PySem.W.Frag) (w : G) : List V → List D → Prop := RepA K w.F w.ρ
theorem RepV.le {K : PySem.W.Frag} {w w' : G} {v : V} {d : D} (h : RepW K w v d) (l : Le w w') : RepW K w' v d := RepV.mono l.F l.ρ h
theorem RepA.le {K : PySem.W.Frag} {w w' : G} {v : List V} {d : List D} (h : RepWA K w v d) (l : Le w w') : RepWA K w' v d := RepA.mono (vs := v) (ds := d) l.F l.ρ h
/-- a dict's object -/
inductive DctU (K : PySem.W.Frag) (w : G) : HO → DK → List (D × D) → Prop
  | dK {ks : List (Key × V)} {kvs : List (D × D)} : kvs.map Prod.fst = ks.map (fun p => kD p.1) → RepWA K w (ks.map Prod.snd) (kvs.map Prod.snd) → DctU K w (.dK ks) .k kvs
  | dT {ks : List (List Key × V)} {kvs : List (D × D)} : kvs.map Prod.fst = ks.map (fun p => D.tup (p.1.map kD)) → RepWA K w (ks.map Prod.snd) (kvs.map Prod.snd) → DctU K w (.dT ks) .t kvs
/-- what stands at the place p for a cell -/
inductive CellAt (K : PySem.W.Frag) (mg : Str → Option Value) (w : G) (H : Hp) (p : Addr) : Cell → Prop
  | lst {xs : List V} {ds : List D} : H p = some (.lst xs) → RepWA K w xs ds → CellAt K mg w H p (.lst ds)
  | dct {u : HO} {t : DK} {kvs : List (D × D)} : H p = some u → DctU K w u t kvs → CellAt K mg w H p (.dct t kvs)
  | obj {C : Str} {Ca dx : Addr} {vs : List (Str × V)} {fs : List (Str × D)} : H p = some (.ins Ca dx vs) → mg C = some (.ref Ca) → vs.map Prod.fst = fs.map Prod.fst → RepWA K w (vs.map Prod.snd) (fs.map Prod.snd) → CellAt K mg w H p (.obj C fs)
def CellOk (K : PySem.W.Frag) (mg : Str → Option Value) (w : G) (H : Hp) (n : Nat) (c : Cell) : Prop :=
  c = .free ∨ ∃ p, w.ρ[n]? = some p ∧ w.F p = none ∧ w.B p = none ∧ CellAt K mg w H p c
structure RpS (K : PySem.W.Frag) (mg : Str → Option Value) (w : G) (S : List Cell) (H : Hp) : Prop where
  bg : ∀ a u, w.B a = some u → H a = some u ∨ (a ∈ w.L ∧ isDc u = true ∧ ∃ o, H a = some (.frz o u))
  fr : ∀ a u, w.F a = some u → H a = some u ∨ (isDc u = true ∧ ∃ o, H a = some (.frz o u))
  cells : ∀ (n : Nat) c, S[n]? = some c → CellOk K mg w H n c
  len : w.ρ.length = S.length
  inj : ∀ (m n : Nat) p, w.ρ[m]? = some p → w.ρ[n]? = some p → m = n
  alive : ∀ (n : Nat) p, w.ρ[n]? = some p → H p ≠ none
  lk : ∀ a, a ∈ w.L → H a ≠ none
/-- slots -/
def SlR (K : PySem.W.Frag) (w : G) (σd : Sl) (σ : L2.St) : Prop := ∀ (i : Nat) d, σd[i]? = some (some d) → ∃ v, σ[i]? = some (some v) ∧ RepW K w v d
structure Rp (K : PySem.W.Frag) (mg : Str → Option Value) (w : G) (σd : Sl) (S : List Cell) (σ : L2.St) (H : Hp) : Prop where
  rs : RpS K mg w S H
  sl : SlR K w σd σ
  sz : σd.length = σ.length
theorem SlR.le {K : PySem.W.Frag} {w w' : G} {σd : Sl} {σ : L2.St} (h : SlR K w σd σ) (l : Le w w') : SlR K w' σd σ := fun i d e => let ⟨v, a, b⟩ := h i d e; ⟨v, a, b.le l⟩
theorem Rp.of {K : PySem.W.Frag} {mg : Str → Option Value} {w w' : G} {σd : Sl} {S S' : List Cell} {σ : L2.St} {H H' : Hp} (h : Rp K mg w σd S σ H) (l : Le w w') (r : RpS K mg w' S' H') : Rp K mg w' σd S' σ H' := ⟨r, h.sl.le l, h.sz⟩
theorem SlR.set {K : PySem.W.Frag} {w : G} {σd : Sl} {σ : L2.St} (h : SlR K w σd σ) (hz : σd.length = σ.length) {v : V} {d : D} (r : RepW K w v d) (i : Nat) : SlR K w (σd.set i (some d)) (σ.set i (some v)) := fun j e q => by
  by_cases hj : i = j
  · subst hj
    have hi : i < σd.length := by
      have := (List.getElem?_eq_some_iff.mp q).1
      rwa [List.length_set] at this
    rw [List.getElem?_set_self hi] at q
    cases q
    exact ⟨v, by rw [List.getElem?_set_self (by omega)], r⟩
  · rw [List.getElem?_set_ne hj] at q
    rw [List.getElem?_set_ne hj]
    exact h j e q
theorem Rp.set {K : PySem.W.Frag} {mg : Str → Option Value} {w : G} {σd : Sl} {S : List Cell} {σ : L2.St} {H : Hp} (h : Rp K mg w σd S σ H) {v : V} {d : D} (r : RepW K w v d) (i : Nat) : Rp K mg w (σd.set i (some d)) S (σ.set i (some v)) H :=
  ⟨h.rs, h.sl.set h.sz r i, by rw [List.length_set, List.length_set]; exact h.sz⟩

section
variable {K : PySem.W.Frag} {mg : Str → Option Value} {w w' : G} {S : List Cell} {H : Hp} {a p : Addr} {xs : List V} {o : HO}
theorem RpS.tup (r : RpS K mg w S H) (h : w.F a = some (.tup xs)) : H a = some (.tup xs) := by
  rcases r.fr a _ h with e | ⟨e, _⟩
  · exact e
  · cases e
theorem RpS.lst (r : RpS K mg w S H) (h : w.F a = some (.lst xs)) : H a = some (.lst xs) := by
  rcases r.fr a _ h with e | ⟨e, _⟩
  · exact e
  · cases e
theorem RpS.scr (r : RpS K mg w S H) (h : SqL K w.F a xs) : SqL K H a xs := by
  rcases h with (h | ⟨o, h⟩) | h
  · exact .inl (.inl (r.lst h))
  · rcases r.fr a _ h with e | ⟨e, _⟩
    · exact .inl (.inr ⟨o, e⟩)
    · cases e
  · exact .inr h
theorem RpS.dct (r : RpS K mg w S H) {u : HO} (h : w.F a = some u) (hu : isDc u = true) : Rd H a u := by
  rcases r.fr a _ h with e | ⟨_, e⟩
  · exact .inl e
  · exact .inr e
theorem RpS.freshF (r : RpS K mg w S H) (h : H p = none) : w.F p = none := by
  cases e : w.F p with
  | none => rfl
  | some u =>
    rcases r.fr p u e with q | ⟨_, _, q⟩ <;> rw [h] at q <;> cases q
theorem RpS.freshB (r : RpS K mg w S H) (h : H p = none) : w.B p = none := by
  cases e : w.B p with
  | none => rfl
  | some u =>
    rcases r.bg p u e with q | ⟨_, _, _, q⟩ <;> rw [h] at q <;> cases q
theorem CellAt.some {c : Cell} (h : CellAt K mg w H p c) : ∃ u, H p = some u := by cases h <;> exact ⟨_, by assumption⟩
theorem CellAt.le {c : Cell} {H' : Hp} (h : CellAt K mg w H p c) (l : Le w w') (e : H' p = H p) : CellAt K mg w' H' p c := by
  cases h with
  | lst h r => exact .lst (e.trans h) (r.le l)
  | dct h r =>
    refine .dct (e.trans h) ?_
    cases r with
    | dK q r => exact .dK q (r.le l)
    | dT q r => exact .dT q (r.le l)
  | obj h m q r => exact .obj (e.trans h) m q (r.le l)
/-- the world with one thing more that is frozen -/
abbrev G.frz (w : G) (p : Addr) (o : HO) : G := { w with F := upd w.F p o }
theorem Le.frz (hB : w.B p = none) (hF : w.F p = none) : Le w (w.frz p o) :=
  ⟨rfl, rfl, fun a u h => by
    show upd w.F p o a = some u
    rw [upd_ne (ne_of_none h hF)]; exact h, fun a h => by
    by_cases e : a = p
    · subst e; exact .inr hB
    · exact .inl (by
        have h' : upd w.F p o a ≠ none := h
        rw [upd_ne e] at h'; exact h'), fun _ _ h => h, fun _ h => .inl h⟩
theorem upd_some {a : Addr} (h : H a ≠ none) : upd H p o a ≠ none := by
  unfold upd
  split
  · exact fun e => by cases e
  · exact h
/-- a new object is laid and frozen -/
theorem RpS.frz (r : RpS K mg w S H) (h : H p = none) : RpS K mg (w.frz p o) S (upd H p o) where
  bg := fun a u e => by
    rcases r.bg a u e with q | ⟨q1, q2, o', q⟩
    · exact .inl (by rw [upd_ne (ne_of_none q h)]; exact q)
    · exact .inr ⟨q1, q2, o', by rw [upd_ne (ne_of_none q h)]; exact q⟩
  fr := fun a u e => by
    have e' : upd w.F p o a = some u := e
    by_cases q : a = p
    · subst q; rw [upd_same] at e' ⊢; exact .inl e'
    · rw [upd_ne q] at e' ⊢
      exact r.fr a u e'
  cells := fun n c e => by
    rcases r.cells n c e with q | ⟨b, h1, h2, h3, h4⟩
    · exact .inl q
    · obtain ⟨u, hu⟩ := h4.some
      have ne : b ≠ p := ne_of_none hu h
      exact .inr ⟨b, h1, by show upd w.F p o b = none; rw [upd_ne ne]; exact h2, h3, h4.le (Le.frz (r.freshB h) (r.freshF h)) (upd_ne ne)⟩
  len := r.len
  inj := r.inj
  alive := fun n q e => upd_some (r.alive n q e)
  lk := fun a h => upd_some (r.lk a h)
theorem RpS.leFrz (r : RpS K mg w S H) (h : H p = none) : Le w (w.frz p o) := Le.frz (r.freshB h) (r.freshF h)
end

abbrev Rep (β α : Type) := G → Hp → β → α → Prop
def repE (K : PySem.W.Frag) : Rep V D := fun w _ v d => RepW K w v d
def repT : Rep Bool Bool := fun _ _ a b => a = b
def repL (K : PySem.W.Frag) : Rep (List V) (List D) := fun w _ vs ds => RepWA K w vs ds
def repO : Rep (Option Int) (Option Int) := fun _ _ a b => a = b
/-- a new list that is not yet frozen and no cell -/
def repN (K : PySem.W.Frag) : Rep V (List D) := fun w H v ds => ∃ p xs, v = .ref p ∧ H p = some (.lst xs) ∧ w.F p = none ∧ w.B p = none ∧ p ∉ w.ρ ∧ RepWA K w xs ds
/-- a new dict likewise -/
def repND (K : PySem.W.Frag) : Rep V (DK × List (D × D)) := fun w H v kvs => ∃ p u, v = .ref p ∧ H p = some u ∧ w.F p = none ∧ w.B p = none ∧ p ∉ w.ρ ∧ DctU K w u kvs.1 kvs.2
abbrev EXT := Str → Hp → Prop
def EX0 : EXT := fun _ _ => False
def Post {α β : Type} (K : PySem.W.Frag) (mg : Str → Option Value) (EX : EXT) (rep : Rep β α) (w : G) (S' : List Cell) (Q : β → Hp → Prop) : R α → Prop
  | .ok a => ∀ v w' H', Le w w' → RpS K mg w' S' H' → rep w' H' v a → Q v H'
  | .ex c => ∀ w' H', Le w w' → RpS K mg w' S' H' → EX c H'
theorem Post.le {α β : Type} {K : PySem.W.Frag} {mg : Str → Option Value} {EX : EXT} {rep : Rep β α} {w w1 : G} {S' : List Cell} {Q : β → Hp → Prop} {r : R α} (p : Post K mg EX rep w S' Q r) (l : Le w w1) : Post K mg EX rep w1 S' Q r := by
  cases r with
  | ok a => exact fun v w' H' l' => p v w' H' (l.trans l')
  | ex c => exact fun w' H' l' => p w' H' (l.trans l')
def tO {α β : Type} (K : PySem.W.Frag) (mg : Str → Option Value) (EX : EXT) (rep : Rep β α) (f : Sl → M α) : L2.St → Hp → (β → Hp → Prop) → Prop := fun σ H Q =>
  ∃ w σd S r S', f σd S = some (r, S') ∧ Rp K mg w σd S σ H ∧ Post K mg EX rep w S' Q r
def PostS (K : PySem.W.Frag) (mg : Str → Option Value) (EX : EXT) (w : G) (σd' : Sl) (S' : List Cell) (E : Ends) : R Out → Prop
  | .ok .nx => ∀ w' σ' H', Le w w' → Rp K mg w' σd' S' σ' H' → E.nx σ' H'
  | .ok .bk => ∀ w' σ' H', Le w w' → Rp K mg w' σd' S' σ' H' → E.bk σ' H'
  | .ok .ct => ∀ w' σ' H', Le w w' → Rp K mg w' σd' S' σ' H' → E.ct σ' H'
  | .ok (.rt d) => ∀ v w' H', Le w w' → RpS K mg w' S' H' → RepW K w' v d → E.rt v H'
  | .ex c => ∀ w' H', Le w w' → RpS K mg w' S' H' → EX c H'
theorem PostS.le {K : PySem.W.Frag} {mg : Str → Option Value} {EX : EXT} {w w1 : G} {σd' : Sl} {S' : List Cell} {E : Ends} {r : R Out} (p : PostS K mg EX w σd' S' E r) (l : Le w w1) : PostS K mg EX w1 σd' S' E r := by
  cases r with
  | ok a =>
    cases a with
    | nx => exact fun w' σ' H' l' => p w' σ' H' (l.trans l')
    | bk => exact fun w' σ' H' l' => p w' σ' H' (l.trans l')
    | ct => exact fun w' σ' H' l' => p w' σ' H' (l.trans l')
    | rt d => exact fun v w' H' l' => p v w' H' (l.trans l')
  | ex c => exact fun w' H' l' => p w' H' (l.trans l')
def tSO (K : PySem.W.Frag) (mg : Str → Option Value) (EX : EXT) (f : MS) : TS := fun E σ H =>
  ∃ w σd S r σd' S', f σd S = some (r, σd', S') ∧ Rp K mg w σd S σ H ∧ PostS K mg EX w σd' S' E r

abbrev QE (X : Cx) (EX : EXT) (e : Expr) (f : Sl → M D) : Prop := PE X e (tO X.K X.mg EX (repE X.K) f)
abbrev QT (X : Cx) (EX : EXT) (e : Expr) (f : Sl → M Bool) : Prop := PT X e (tO X.K X.mg EX repT f)
abbrev QW (X : Cx) (EX : EXT) (e : Expr) (f : Sl → M Bool) : Prop := PW X e (tO X.K X.mg EX repT f)
abbrev QA (X : Cx) (EX : EXT) (es : List Expr) (f : Sl → M (List D)) : Prop := PA X es (tO X.K X.mg EX (repL X.K) f)
abbrev QN (X : Cx) (EX : EXT) (e : Expr) (f : Sl → M (List D)) : Prop := PE X e (tO X.K X.mg EX (repN X.K) f)
abbrev QND (X : Cx) (EX : EXT) (e : Expr) (f : Sl → M (DK × List (D × D))) : Prop := PE X e (tO X.K X.mg EX (repND X.K) f)
abbrev QO (X : Cx) (EX : EXT) (e : Option Expr) (f : Sl → M (Option Int)) : Prop := PO X e (tO X.K X.mg EX repO f)
abbrev QS (X : Cx) (EX : EXT) (s : Stmt) (f : MS) : Prop := PS X s (tSO X.K X.mg EX f)
abbrev QB (X : Cx) (EX : EXT) (s : List Stmt) (f : MS) : Prop := PSs X s (tSO X.K X.mg EX f)

section
variable {X : Cx}
theorem PE_imp {e : Expr} {t t' : TE} (h : PE X e t) (i : ∀ σ H Q, t' σ H Q → t σ H Q) : PE X e t' := ⟨fun pins s σ H Q I q => h.run pins s σ H Q I (i σ H Q q)⟩
theorem PT_imp {e : Expr} {t t' : TT} (h : PT X e t) (i : ∀ σ H Q, t' σ H Q → t σ H Q) : PT X e t' := ⟨fun pins s σ H Q I q => h.run pins s σ H Q I (i σ H Q q)⟩
theorem PW_imp {e : Expr} {t t' : TT} (h : PW X e t) (i : ∀ σ H Q, t' σ H Q → t σ H Q) : PW X e t' := ⟨fun wh pins s σ H Q I q => h.run wh pins s σ H Q I (i σ H Q q)⟩
theorem PA_imp {es : List Expr} {t t' : TA} (h : PA X es t) (i : ∀ σ H Q, t' σ H Q → t σ H Q) : PA X es t' := ⟨fun pos pins s σ H Q I q => h.run pos pins s σ H Q I (i σ H Q q)⟩
theorem PS_imp {s : Stmt} {t t' : TS} (h : PS X s t) (i : ∀ E σ H, t' E σ H → t E σ H) : PS X s t' := ⟨fun pins s σ H E I q => h.run pins s σ H E I (i E σ H q)⟩
theorem PSs_imp {s : List Stmt} {t t' : TS} (h : PSs X s t) (i : ∀ E σ H, t' E σ H → t E σ H) : PSs X s t' := ⟨fun pins s σ H E I q => h.run pins s σ H E I (i E σ H q)⟩
end

/-- one part ahead of the rest -/
theorem run_bind {α β α' β' : Type} {K : PySem.W.Frag} {mg : Str → Option Value} {EX : EXT} {rep1 : Rep β α} {rep2 : Rep β' α'} {f : Sl → M α} {k : α → M α'} {w : G} {σd : Sl} {S S' : List Cell} {r : R α'} {σ : L2.St} {H : Hp} {Q : β' → Hp → Prop} {Q1 : β → Hp → Prop}
    (e : ((f σd).bind k) S = some (r, S')) (rp : Rp K mg w σd S σ H) (po : Post K mg EX rep2 w S' Q r)
    (cont : ∀ w1 S1 v a H1, Le w w1 → k a S1 = some (r, S') → Rp K mg w1 σd S1 σ H1 → rep1 w1 H1 v a → Post K mg EX rep2 w1 S' Q r → Q1 v H1) : tO K mg EX rep1 f σ H Q1 := by
  unfold M.bind at e
  cases q : f σd S with
  | none => rw [q] at e; cases e
  | some x =>
    obtain ⟨x, S1⟩ := x
    cases x with
    | ok a =>
      rw [q] at e
      exact ⟨w, σd, S, .ok a, S1, q, rp, fun v w1 H1 l1 r1 ra => cont w1 S1 v a H1 l1 e (rp.of l1 r1) ra (po.le l1)⟩
    | ex c =>
      rw [q] at e
      have e' : (R.ex c, S1) = (r, S') := Option.some.inj e
      cases e'
      exact ⟨w, σd, S, .ex c, _, q, rp, po⟩
/-- .. for statements: a part that gives a value -/
theorem run_bindS {α β : Type} {K : PySem.W.Frag} {mg : Str → Option Value} {EX : EXT} {rep1 : Rep β α} {f : Sl → M α} {k : α → List Cell → Option (R Out × Sl × List Cell)} {w : G} {σd σd' : Sl} {S S' : List Cell} {r : R Out} {σ : L2.St} {H : Hp} {E : Ends} {Q1 : β → Hp → Prop}
    (e : (match f σd S with | some (.ok a, S1) => k a S1 | some (.ex c, S1) => some (.ex c, σd, S1) | none => none) = some (r, σd', S')) (rp : Rp K mg w σd S σ H) (po : PostS K mg EX w σd' S' E r)
    (cont : ∀ w1 S1 v a H1, Le w w1 → k a S1 = some (r, σd', S') → Rp K mg w1 σd S1 σ H1 → rep1 w1 H1 v a → PostS K mg EX w1 σd' S' E r → Q1 v H1) : tO K mg EX rep1 f σ H Q1 := by
  cases q : f σd S with
  | none => rw [q] at e; cases e
  | some x =>
    obtain ⟨x, S1⟩ := x
    cases x with
    | ok a =>
      rw [q] at e
      exact ⟨w, σd, S, .ok a, S1, q, rp, fun v w1 H1 l1 r1 ra => cont w1 S1 v a H1 l1 e (rp.of l1 r1) ra (po.le l1)⟩
    | ex c =>
      rw [q] at e
      have e' : (R.ex c, σd, S1) = (r, σd', S') := Option.some.inj e
      cases e'
      exact ⟨w, σd, S, .ex c, _, q, rp, po⟩
/-- a value at last -/
theorem post_ok {α β : Type} {K : PySem.W.Frag} {mg : Str → Option Value} {EX : EXT} {rep : Rep β α} {w : G} {σd : Sl} {S : List Cell} {σ : L2.St} {H : Hp} {Q : β → Hp → Prop} {v : β} {a : α} (po : Post K mg EX rep w S Q (.ok a)) (rp : Rp K mg w σd S σ H) (h : rep w H v a) : Q v H := po v w H (Le.refl w) rp.rs h
end Rw
end
section
set_option Elab.async false
set_option linter.all false
set_option maxRecDepth 100000
set_option maxHeartbeats 4000000
namespace Rw
open PySem L2

mutual
def D.beq : D → D → Bool
  | .non, .non => true
  | .bl a, .bl b => a == b
  | .int a, .int b => a == b
  | .str a, .str b => decide (a = b)
  | .tup a, .tup b => D.beqA a b
  | .lst a, .lst b => D.beqA a b
  | .scr a, .scr b => a == b
  | .dct t a, .dct u b => decide (t = u) && D.beqP a b
  | .ty a, .ty b => a == b
  | .loc a, .loc b => a == b
  | _, _ => false
def D.beqA : List D → List D → Bool
  | [], [] => true
  | a :: as, b :: bs => D.beq a b && D.beqA as bs
  | _, _ => false
def D.beqP : List (D × D) → List (D × D) → Bool
  | [], [] => true
  | (a, x) :: as, (b, y) :: bs => D.beq a b && D.beq x y && D.beqP as bs
  | _, _ => false
end
mutual
theorem D.beq_eq : ∀ {a b : D}, D.beq a b = true → a = b
  | .non, b, h => by cases b <;> simp_all [D.beq]
  | .bl a, b, h => by cases b <;> simp_all [D.beq]
  | .int a, b, h => by cases b <;> simp_all [D.beq]
  | .str a, b, h => by cases b <;> simp_all [D.beq]
  | .scr a, b, h => by cases b <;> simp_all [D.beq]
  | .ty a, b, h => by cases b <;> simp_all [D.beq]
  | .loc a, b, h => by cases b <;> simp_all [D.beq]
  | .tup a, b, h => by
    cases b with
    | tup b => rw [D.beqA_eq (a := a) (b := b) (by simpa [D.beq] using h)]
    | _ => simp [D.beq] at h
  | .lst a, b, h => by
    cases b with
    | lst b => rw [D.beqA_eq (a := a) (b := b) (by simpa [D.beq] using h)]
    | _ => simp [D.beq] at h
  | .dct t a, b, h => by
    cases b with
    | dct u b =>
      simp only [D.beq, Bool.and_eq_true, decide_eq_true_eq] at h
      rw [h.1, D.beqP_eq (a := a) (b := b) h.2]
    | _ => simp [D.beq] at h
theorem D.beqA_eq : ∀ {a b : List D}, D.beqA a b = true → a = b
  | [], b, h => by cases b <;> simp_all [D.beqA]
  | x :: a, b, h => by
    cases b with
    | nil => simp [D.beqA] at h
    | cons y b =>
      simp only [D.beqA, Bool.and_eq_true] at h
      rw [D.beq_eq h.1, D.beqA_eq h.2]
theorem D.beqP_eq : ∀ {a b : List (D × D)}, D.beqP a b = true → a = b
  | [], b, h => by cases b <;> simp_all [D.beqP]
  | (x, y) :: a, b, h => by
    cases b with
    | nil => simp [D.beqP] at h
    | cons z b =>
      obtain ⟨z1, z2⟩ := z
      simp only [D.beqP, Bool.and_eq_true] at h
      rw [D.beq_eq h.1.1, D.beq_eq h.1.2, D.beqP_eq h.2]
end
mutual
theorem D.beq_refl : ∀ a : D, D.beq a a = true
  | .non => by simp [D.beq]
  | .bl a => by simp [D.beq]
  | .int a => by simp [D.beq]
  | .str a => by simp [D.beq]
  | .scr a => by simp [D.beq]
  | .ty a => by simp [D.beq]
  | .loc a => by simp [D.beq]
  | .tup a => by rw [D.beq]; exact D.beqA_refl a
  | .lst a => by rw [D.beq]; exact D.beqA_refl a
  | .dct t a => by rw [D.beq, D.beqP_refl a]; simp
theorem D.beqA_refl : ∀ a : List D, D.beqA a a = true
  | [] => by simp [D.beqA]
  | x :: a => by rw [D.beqA, D.beq_refl x, D.beqA_refl a]; rfl
theorem D.beqP_refl : ∀ a : List (D × D), D.beqP a a = true
  | [] => by simp [D.beqP]
  | (x, y) :: a => by rw [D.beqP, D.beq_refl x, D.beq_refl y, D.beqP_refl a]; rfl
end
instance : DecidableEq D := fun a b => decidable_of_iff (D.beq a b = true) ⟨D.beq_eq, fun h => by rw [h]; exact D.beq_refl b⟩

mutual
def toPy : D → Option PyData
  | .non => some .none
  | .bl b => some (.bool b)
  | .int i => some (.int i)
  | .str x => some (.str x)
  | .tup ds => match toPyA ds with | some xs => some (.tuple xs) | none => none
  | .lst ds => match toPyA ds with | some xs => some (.list xs) | none => none
  | _ => none
def toPyA : List D → Option (List PyData)
  | [] => some []
  | d :: ds => match toPy d, toPyA ds with | some x, some xs => some (x :: xs) | _, _ => none
end
section
variable {K : PySem.W.Frag} {mg : Str → Option Value} {w : G} {S : List Cell} {H : Hp}
mutual
theorem dp_of (r : RpS K mg w S H) : ∀ (d : D) (v : V) (p : PyData), RepW K w v d → toPy d = some p → Dp K H v p
  | .non, v, p, h, e => by cases h; simp [toPy] at e; subst e; exact .non
  | .bl b, v, p, h, e => by cases h; simp [toPy] at e; subst e; exact .bl b
  | .int i, v, p, h, e => by cases h; simp [toPy] at e; subst e; exact .int i
  | .str x, v, p, h, e => by cases h; simp [toPy] at e; subst e; exact .str x
  | .tup ds, v, p, h, e => by
    cases h with
    | tup hf ha =>
      rw [toPy] at e
      cases q : toPyA ds with
      | none => rw [q] at e; cases e
      | some xs =>
        rw [q] at e
        cases e
        exact .tup (SqT.of (r.tup hf)) (dpA_of r ds _ xs ha q)
  | .lst ds, v, p, h, e => by
    cases h with
    | lst hf ha =>
      rw [toPy] at e
      cases q : toPyA ds with
      | none => rw [q] at e; cases e
      | some xs =>
        rw [q] at e
        cases e
        exact .lst (SqL.of (r.lst hf)) (dpA_of r ds _ xs ha q)
  | .scr _, _, _, _, e => by simp [toPy] at e
  | .dct _ _, _, _, _, e => by simp [toPy] at e
  | .ty _, _, _, _, e => by simp [toPy] at e
  | .loc _, _, _, _, e => by simp [toPy] at e
theorem dpA_of (r : RpS K mg w S H) : ∀ (ds : List D) (vs : List V) (ps : List PyData), RepWA K w vs ds → toPyA ds = some ps → DpAll K H vs ps
  | [], vs, ps, h, e => by cases h; simp [toPyA] at e; subst e; exact .nil
  | d :: ds, vs, ps, h, e => by
    cases h with
    | cons h1 h2 =>
      rw [toPyA] at e
      cases q1 : toPy d with
      | none => rw [q1] at e; cases e
      | some x =>
        cases q2 : toPyA ds with
        | none => rw [q1, q2] at e; cases e
        | some xs =>
          rw [q1, q2] at e
          cases e
          exact .cons (dp_of r d _ x h1 q1) (dpA_of r ds _ xs h2 q2)
end
end

abbrev Op2 := List Cell → D → D → Option D
abbrev Op1 := List Cell → D → Option D
def M.rd {α : Type} (g : List Cell → Option α) : M α := fun S => match g S with
  | some a => some (.ok a, S)
  | none => none
theorem rd_some {α : Type} {g : List Cell → Option α} {S S' : List Cell} {r : R α} (e : M.rd g S = some (r, S')) : ∃ a, g S = some a ∧ r = .ok a ∧ S' = S := by
  unfold M.rd at e
  cases q : g S with
  | none => rw [q] at e; cases e
  | some a => rw [q] at e; cases e; exact ⟨a, rfl, rfl, rfl⟩
/-- the reading of an operation by values -/
def rD2 (K : PySem.W.Frag) (mg : Str → Option Value) (op : Op2) : R2 := fun x y H Q => ∃ w S dx dy d, op S dx dy = some d ∧ RpS K mg w S H ∧ RepW K w x dx ∧ RepW K w y dy ∧
  ∀ v w' H', Le w w' → RpS K mg w' S H' → RepW K w' v d → Q v H'
def rD1 (K : PySem.W.Frag) (mg : Str → Option Value) (op : Op1) : V → Hp → VK → Prop := fun x H Q => ∃ w S dx d, op S dx = some d ∧ RpS K mg w S H ∧ RepW K w x dx ∧
  ∀ v w' H', Le w w' → RpS K mg w' S H' → RepW K w' v d → Q v H'

def mVar (i : Nat) : Sl → M D := fun σ S => match σ[i]? with
  | some (some d) => some (.ok d, S)
  | _ => none
def mC (d : D) : Sl → M D := fun _ S => some (.ok d, S)
section
variable {X : Cx} {EX : EXT}
theorem qv (i : Nat) {x : Str} {pos : Pos} (hN : X.N[i]? = some x := by rfl) (hv : Vis X.env.scope x := by first | exact Or.inl rfl | exact Or.inr (Or.inl rfl) | exact Or.inr (Or.inr rfl)) (hd : (x == ("__debug__" : Str)) = false := by decide)
    (hcd : (x == ("__classdict__" : Str)) = false := by decide) : QE X EX (.Name x pos) (mVar i) := by
  refine PE_imp (pe_var hN hv hd hcd) fun σ H Q ⟨w, σd, S, r, S', e, rp, po⟩ => ?_
  unfold mVar at e
  split at e
  · rename_i d hd
    cases e
    obtain ⟨v, hv, rv⟩ := rp.sl i d hd
    exact ⟨v, hv, post_ok po rp rv⟩
  · cases e
theorem qe_c {e : Expr} {v : V} {d : D} (h : PE X e (tC v)) (r : ∀ w : G, RepW X.K w v d) : QE X EX e (mC d) := by
  refine PE_imp h fun σ H Q ⟨w, σd, S, r', S', e, rp, po⟩ => ?_
  cases e
  exact post_ok po rp (r w)
theorem qe_int {i j pos} : QE X EX (.Constant (.int i) j pos) (mC (.int i)) := qe_c pe_int fun _ => .int i
theorem qe_bl {b j pos} : QE X EX (.Constant (.bool b) j pos) (mC (.bl b)) := qe_c pe_bl fun _ => .bl b
theorem qe_non {j pos} : QE X EX (.Constant .none j pos) (mC .non) := qe_c pe_non fun _ => .non
theorem qe_str {x j pos} : QE X EX (.Constant (.str x) j pos) (mC (.str x)) := qe_c pe_str fun _ => .str x
theorem qe_gint {x : Str} {i : Int} {pos : Pos} (hg : Gl X x) (hm : ∃ t, X.mg x = some (.int i t)) (hd : (x == ("__debug__" : Str)) = false := by decide) : QE X EX (.Name x pos) (mC (.int i)) := by
  obtain ⟨t, hm⟩ := hm
  exact qe_c (v := .int i) (pe_glob hg hm ⟨t, rfl⟩ hd) fun _ => .int i
theorem qe_gstr {x : Str} {i : Str} {pos : Pos} (hg : Gl X x) (hm : ∃ t, X.mg x = some (.str i t)) (hd : (x == ("__debug__" : Str)) = false := by decide) : QE X EX (.Name x pos) (mC (.str i)) := by
  obtain ⟨t, hm⟩ := hm
  exact qe_c (v := .str i) (pe_glob hg hm ⟨t, rfl⟩ hd) fun _ => .str i

def mOp (op : Op2) (fa fb : Sl → M D) : Sl → M D := fun σ => (fa σ).bind fun x => (fb σ).bind fun y => M.rd fun S => op S x y
def mUn (op : Op1) (fa : Sl → M D) : Sl → M D := fun σ => (fa σ).bind fun x => M.rd fun S => op S x
variable {a b c : Expr} {fa fb fc : Sl → M D} {pos : Pos}
theorem bin_red {op : Op2} {σ : L2.St} {H : Hp} {Q : VK} (h : tO X.K X.mg EX (repE X.K) (mOp op fa fb) σ H Q) : tOp (rD2 X.K X.mg op) (tO X.K X.mg EX (repE X.K) fa) (tO X.K X.mg EX (repE X.K) fb) σ H Q := by
  obtain ⟨w, σd, S, r, S', e, rp, po⟩ := h
  refine run_bind e rp po fun w1 S1 x dx H1 l1 e1 rp1 rx po1 => ?_
  refine run_bind e1 rp1 po1 fun w2 S2 y dy H2 l2 e2 rp2 ry po2 => ?_
  obtain ⟨d, ed, rfl, rfl⟩ := rd_some e2
  exact ⟨w2, _, dx, dy, d, ed, rp2.rs, RepV.le rx l2, ry, fun v w' H' l rs rv => po2 v w' H' l rs rv⟩
theorem qe_op {op : Operator} {f : Op2} (ho : OpR X (binaryOp op) (rD2 X.K X.mg f)) (ha : QE X EX a fa) (hb : QE X EX b fb) : QE X EX (.BinOp a op b pos) (mOp f fa fb) := PE_imp (pe_op ho ha hb) fun _ _ _ h => bin_red h
theorem qe_cmp {op : CmpOp} {f : Op2} (ho : OpR X (compareOp op) (rD2 X.K X.mg f)) (ha : QE X EX a fa) (hb : QE X EX b fb) (hm : behindInMarks op b = false := by first | exact nobehind _ (by decide) (by decide) | rfl) :
    QE X EX (.Compare a [op] [b] pos) (mOp f fa fb) := PE_imp (pe_cmpR ho ha hb hm) fun _ _ _ h => bin_red h
theorem qe_un {op : UnaryOp} {f : Op1} (ho : UnR X (unaryOp op) (rD1 X.K X.mg f)) (ha : QE X EX a fa) : QE X EX (.UnaryOp op a pos) (mUn f fa) := by
  refine PE_imp (pe_un ho ha) fun σ H Q ⟨w, σd, S, r, S', e, rp, po⟩ => ?_
  refine run_bind e rp po fun w1 S1 x dx H1 l1 e1 rp1 rx po1 => ?_
  obtain ⟨d, ed, rfl, rfl⟩ := rd_some e1
  exact ⟨w1, _, dx, d, ed, rp1.rs, rx, fun v w' H' l rs rv => po1 v w' H' l rs rv⟩
def asB : D → Option Bool
  | .bl b => some b
  | _ => none
theorem asB_some {d : D} {b : Bool} (h : asB d = some b) : d = .bl b := by
  cases d <;> simp [asB] at h
  rw [h]
def mChain (op op' : Op2) (fa fb fc : Sl → M D) : Sl → M D := fun σ => (fa σ).bind fun x => (fb σ).bind fun y => (M.rd fun S => op S x y).bind fun k => match k with
  | .bl true => (fc σ).bind fun z => M.rd fun S => op' S y z
  | .bl false => M.ret (.bl false)
  | _ => M.fail
theorem qe_chain {op op' : CmpOp} {f f' : Op2} (ho : OpR X (compareOp op) (rD2 X.K X.mg f)) (ho' : OpR X (compareOp op') (rD2 X.K X.mg f')) (ha : QE X EX a fa) (hb : QE X EX b fb) (hc : QE X EX c fc)
    (hm : lastMarks [op, op'] [b, c] = false := by with_unfolding_all rfl) : QE X EX (.Compare a [op, op'] [b, c] pos) (mChain f f' fa fb fc) := by
  refine PE_imp (pe_chain ho ho' ha hb hc hm) fun σ H Q ⟨w, σd, S, r, S', e, rp, po⟩ => ?_
  refine run_bind e rp po fun w1 S1 x dx H1 l1 e1 rp1 rx po1 => ?_
  refine run_bind e1 rp1 po1 fun w2 S2 y dy H2 l2 e2 rp2 ry po2 => ?_
  unfold M.bind at e2
  cases q : (M.rd fun S => f S dx dy) S2 with
  | none => rw [q] at e2; cases e2
  | some z =>
    obtain ⟨z, S3⟩ := z
    obtain ⟨d, ed, rfl, rfl⟩ := rd_some q
    rw [q] at e2
    refine ⟨w2, _, dx, dy, d, ed, rp2.rs, RepV.le rx l2, ry, fun v w' H' l rs rv => ?_⟩
    have rp3 := rp2.of l rs
    have po3 := po2.le l
    cases rv with
    | bl k =>
      refine ⟨k, rfl, ?_⟩
      cases k with
      | true =>
        rw [if_pos rfl]
        refine run_bind e2 rp3 po3 fun w4 S4 u du H4 l4 e4 rp4 ru po4 => ?_
        obtain ⟨d', ed', rfl, rfl⟩ := rd_some e4
        exact ⟨w4, _, dy, du, d', ed', rp4.rs, RepV.le ry (l.trans l4), ru, fun v w' H' l rs rv => po4 v w' H' l rs rv⟩
      | false =>
        rw [if_neg Bool.false_ne_true]
        cases e2
        exact post_ok po3 rp3 (.bl false)
    | _ => cases e2
def mB (f : Sl → M D) : Sl → M Bool := fun σ => (f σ).bind fun d => M.rd fun _ => asB d
def mNot (f : Sl → M Bool) : Sl → M Bool := fun σ => (f σ).bind fun b => M.ret (!b)
def mAnd (f g : Sl → M Bool) : Sl → M Bool := fun σ => (f σ).bind fun b => if b then g σ else M.ret false
def mOr (f g : Sl → M Bool) : Sl → M Bool := fun σ => (f σ).bind fun b => if b then M.ret true else g σ
def mOfB (f : Sl → M Bool) : Sl → M D := fun σ => (f σ).bind fun b => M.ret (.bl b)
def mIf (t : Sl → M Bool) (f g : Sl → M D) : Sl → M D := fun σ => (t σ).bind fun b => if b then f σ else g σ
variable {ta tb tc : Sl → M Bool} {rest : List Expr}
theorem qt_val (h : QE X EX a fa) (he : ∀ whole, isTrue a X.env whole = (do let v ← whole; standAt a.pos; holding [v] (truthy v)) := by intro _; rfl) : QT X EX a (mB fa) := by
  refine PT_imp (pt_val h he) fun σ H Q ⟨w, σd, S, r, S', e, rp, po⟩ => ?_
  refine run_bind e rp po fun w1 S1 x dx H1 l1 e1 rp1 rx po1 => ?_
  obtain ⟨b, eb, rfl, rfl⟩ := rd_some e1
  have := asB_some eb
  subst this
  cases rx
  exact ⟨b, rfl, post_ok (rep := repT) po1 rp1 rfl⟩
theorem qt_cmp {op : CmpOp} {f : Op2} (ho : OpR X (compareOp op) (rD2 X.K X.mg f)) (ha : QE X EX a fa) (hb : QE X EX b fb) (hm : behindInMarks op b = false := by first | exact nobehind _ (by decide) (by decide) | rfl) :
    QT X EX (.Compare a [op] [b] pos) (mB (mOp f fa fb)) := by
  refine PT_imp (pt_cmpR ho ha hb hm) fun σ H Q ⟨w, σd, S, r, S', e, rp, po⟩ => ?_
  have e' : (((mOp f fa fb) σd).bind fun d => M.rd fun _ => asB d) S = some (r, S') := e
  refine bin_red (run_bind e' rp po fun w1 S1 x dx H1 l1 e1 rp1 rx po1 => ?_)
  obtain ⟨b, eb, rfl, rfl⟩ := rd_some e1
  have := asB_some eb
  subst this
  cases rx
  exact ⟨b, rfl, post_ok (rep := repT) po1 rp1 rfl⟩
theorem qt_not (h : QT X EX a ta) : QT X EX (.UnaryOp .Not a pos) (mNot ta) := by
  refine PT_imp (pt_not h) fun σ H Q ⟨w, σd, S, r, S', e, rp, po⟩ => ?_
  refine run_bind e rp po fun w1 S1 x dx H1 l1 e1 rp1 rx po1 => ?_
  cases rx
  cases e1
  exact post_ok (rep := repT) po1 rp1 rfl
theorem and_red {σ : L2.St} {H : Hp} {Q : Bool → Hp → Prop} (h : tO X.K X.mg EX repT (mAnd ta tb) σ H Q) : tAnd (tO X.K X.mg EX repT ta) (tO X.K X.mg EX repT tb) σ H Q := by
  obtain ⟨w, σd, S, r, S', e, rp, po⟩ := h
  refine run_bind e rp po fun w1 S1 x dx H1 l1 e1 rp1 rx po1 => ?_
  cases rx
  cases x with
  | true => exact ⟨w1, σd, S1, r, S', e1, rp1, po1⟩
  | false =>
    cases e1
    exact post_ok (rep := repT) po1 rp1 rfl
theorem or_red {σ : L2.St} {H : Hp} {Q : Bool → Hp → Prop} (h : tO X.K X.mg EX repT (mOr ta tb) σ H Q) : tOr (tO X.K X.mg EX repT ta) (tO X.K X.mg EX repT tb) σ H Q := by
  obtain ⟨w, σd, S, r, S', e, rp, po⟩ := h
  refine run_bind e rp po fun w1 S1 x dx H1 l1 e1 rp1 rx po1 => ?_
  cases rx
  cases x with
  | false => exact ⟨w1, σd, S1, r, S', e1, rp1, po1⟩
  | true =>
    cases e1
    exact post_ok (rep := repT) po1 rp1 rfl
theorem qw_and (ha : QT X EX a ta) (hb : QW X EX (.BoolOp .And (b :: rest) pos) tb) : QW X EX (.BoolOp .And (a :: b :: rest) pos) (mAnd ta tb) := PW_imp (pw_and ha hb) fun _ _ _ h => and_red h
theorem qw_or (ha : QT X EX a ta) (hb : QW X EX (.BoolOp .Or (b :: rest) pos) tb) : QW X EX (.BoolOp .Or (a :: b :: rest) pos) (mOr ta tb) := PW_imp (pw_or ha hb) fun _ _ _ h => or_red h
theorem qw_and1 (ha : QT X EX a ta) : QW X EX (.BoolOp .And [a] pos) ta := pw_and1 ha
theorem qw_or1 (ha : QT X EX a ta) : QW X EX (.BoolOp .Or [a] pos) ta := pw_or1 ha
theorem qt_w (h : QW X EX a ta) : QT X EX a ta := PW.pt h
/-- .. as values -/
theorem qe_not (h : QE X EX a fa) : QE X EX (.UnaryOp .Not a pos) (mOfB (mNot (mB fa))) := by
  refine PE_imp (pe_not h) fun σ H Q ⟨w, σd, S, r, S', e, rp, po⟩ => ?_
  refine ⟨w, σd, S, ?_⟩
  unfold mOfB mNot mB M.bind at e
  cases q : fa σd S with
  | none => rw [q] at e; cases e
  | some z =>
    obtain ⟨z, S1⟩ := z
    rw [q] at e
    cases z with
    | ex c => cases e; exact ⟨_, _, rfl, rp, po⟩
    | ok d =>
      refine ⟨_, _, rfl, rp, fun v w' H' l rs rv => ?_⟩
      cases d <;> simp [M.rd, asB, M.ret] at e
      obtain ⟨rfl, rfl⟩ := e
      cases rv
      exact ⟨_, rfl, po _ w' H' l rs (.bl _)⟩
def mOne (f : Sl → M D) : Sl → M D := f
theorem qe_and1 (ha : QE X EX a fa) : QE X EX (.BoolOp .And [a] pos) fa := pe_one ha
theorem qe_or1 (ha : QE X EX a fa) : QE X EX (.BoolOp .Or [a] pos) fa := pe_one ha
def mAndV (f g : Sl → M D) : Sl → M D := fun σ => (f σ).bind fun d => match d with
  | .bl true => g σ
  | .bl false => M.ret (.bl false)
  | _ => M.fail
def mOrV (f g : Sl → M D) : Sl → M D := fun σ => (f σ).bind fun d => match d with
  | .bl false => g σ
  | .bl true => M.ret (.bl true)
  | _ => M.fail
theorem qe_and (ha : QE X EX a fa) (hb : QE X EX (.BoolOp .And (b :: rest) pos) fb) : QE X EX (.BoolOp .And (a :: b :: rest) pos) (mAndV fa fb) := by
  refine PE_imp (pe_and ha hb) fun σ H Q ⟨w, σd, S, r, S', e, rp, po⟩ => ?_
  refine run_bind e rp po fun w1 S1 x dx H1 l1 e1 rp1 rx po1 => ?_
  cases rx with
  | bl k =>
    refine ⟨k, rfl, ?_⟩
    cases k with
    | true => exact ⟨w1, σd, S1, r, S', e1, rp1, po1⟩
    | false => cases e1; exact post_ok po1 rp1 (.bl false)
  | _ => cases e1
theorem qe_or (ha : QE X EX a fa) (hb : QE X EX (.BoolOp .Or (b :: rest) pos) fb) : QE X EX (.BoolOp .Or (a :: b :: rest) pos) (mOrV fa fb) := by
  refine PE_imp (pe_or ha hb) fun σ H Q ⟨w, σd, S, r, S', e, rp, po⟩ => ?_
  refine run_bind e rp po fun w1 S1 x dx H1 l1 e1 rp1 rx po1 => ?_
  cases rx with
  | bl k =>
    refine ⟨k, rfl, ?_⟩
    cases k with
    | false => exact ⟨w1, σd, S1, r, S', e1, rp1, po1⟩
    | true => cases e1; exact post_ok po1 rp1 (.bl true)
  | _ => cases e1
theorem qe_if {t : Expr} (ht : QT X EX t ta) (ha : QE X EX a fa) (hb : QE X EX b fb) : QE X EX (.IfExp t a b pos) (mIf ta fa fb) := by
  refine PE_imp (pe_ifExp ht ha hb) fun σ H Q ⟨w, σd, S, r, S', e, rp, po⟩ => ?_
  refine run_bind e rp po fun w1 S1 x dx H1 l1 e1 rp1 rx po1 => ?_
  cases rx
  cases x with
  | true => exact ⟨w1, σd, S1, r, S', e1, rp1, po1⟩
  | false => exact ⟨w1, σd, S1, r, S', e1, rp1, po1⟩

def mNil : Sl → M (List D) := fun _ => M.ret []
def mCons (f : Sl → M D) (g : Sl → M (List D)) : Sl → M (List D) := fun σ => (f σ).bind fun d => (g σ).bind fun ds => M.ret (d :: ds)
theorem qa_nil : QA X EX [] mNil := by
  refine PA_imp pa_nil fun σ H Q ⟨w, σd, S, r, S', e, rp, po⟩ => ?_
  cases e
  exact post_ok (rep := repL X.K) po rp .nil
variable {es : List Expr} {fs : Sl → M (List D)}
theorem qa_cons (ha : QE X EX a fa) (hr : QA X EX es fs) (hs : starEach (a :: es) X.env = (false, eval a X.env) :: starEach es X.env := by rfl) : QA X EX (a :: es) (mCons fa fs) := by
  refine PA_imp (pa_cons ha hr hs) fun σ H Q ⟨w, σd, S, r, S', e, rp, po⟩ => ?_
  refine run_bind e rp po fun w1 S1 x dx H1 l1 e1 rp1 rx po1 => ?_
  refine run_bind e1 rp1 po1 fun w2 S2 xs ds H2 l2 e2 rp2 rxs po2 => ?_
  cases e2
  exact post_ok (rep := repL X.K) po2 rp2 (.cons (RepV.le rx l2) rxs)
def LINE : Nat := 1000000
theorem line_le {n : Nat} (h : n ≤ LINE) : n ≤ sizeLine := Nat.le_trans h (by decide)
theorem line_lt {n : Nat} (h : n ≤ LINE) : n < sizeLine := Nat.lt_of_le_of_lt h (by decide)
def mTup (f : Sl → M (List D)) : Sl → M D := fun σ => (f σ).bind fun ds => M.rd fun _ => if ds.length ≤ LINE then some (.tup ds) else none
def mLst (f : Sl → M (List D)) : Sl → M (List D) := fun σ => (f σ).bind fun ds => M.rd fun _ => if ds.length ≤ LINE then some ds else none
/-- a new tuple -/
theorem new_tup {w : G} {S : List Cell} {H : Hp} {vs : List V} {ds : List D} {p : Addr} (rs : RpS X.K X.mg w S H) (h : H p = none) (ra : RepWA X.K w vs ds) :
    Le w (w.frz p (.tup vs)) ∧ RpS X.K X.mg (w.frz p (.tup vs)) S (upd H p (.tup vs)) ∧ RepW X.K (w.frz p (.tup vs)) (.ref p) (.tup ds) := by
  have l := rs.leFrz (o := .tup vs) h
  exact ⟨l, rs.frz h, .tup (show upd w.F p _ p = _ from upd_same) (RepA.le ra l)⟩
theorem new_lst {w : G} {S : List Cell} {H : Hp} {vs : List V} {ds : List D} {p : Addr} (rs : RpS X.K X.mg w S H) (h : H p = none) (ra : RepWA X.K w vs ds) :
    Le w (w.frz p (.lst vs)) ∧ RpS X.K X.mg (w.frz p (.lst vs)) S (upd H p (.lst vs)) ∧ RepW X.K (w.frz p (.lst vs)) (.ref p) (.lst ds) := by
  have l := rs.leFrz (o := .lst vs) h
  exact ⟨l, rs.frz h, .lst (show upd w.F p _ p = _ from upd_same) (RepA.le ra l)⟩
/-- a new object that is neither frozen nor a cell -/
theorem RpS.new {K : PySem.W.Frag} {mg : Str → Option Value} {w : G} {S : List Cell} {H : Hp} {p : Addr} {o : HO} (r : RpS K mg w S H) (h : H p = none) : RpS K mg w S (upd H p o) where
  bg := fun a u e => by
    rcases r.bg a u e with q | ⟨q1, q2, o', q⟩
    · exact .inl (by rw [upd_ne (ne_of_none q h)]; exact q)
    · exact .inr ⟨q1, q2, o', by rw [upd_ne (ne_of_none q h)]; exact q⟩
  fr := fun a u e => by
    rcases r.fr a u e with q | ⟨q2, o', q⟩
    · exact .inl (by rw [upd_ne (ne_of_none q h)]; exact q)
    · exact .inr ⟨q2, o', by rw [upd_ne (ne_of_none q h)]; exact q⟩
  cells := fun n c e => by
    rcases r.cells n c e with q | ⟨b, h1, h2, h3, h4⟩
    · exact .inl q
    · obtain ⟨u, hu⟩ := h4.some
      exact .inr ⟨b, h1, h2, h3, h4.le (Le.refl w) (upd_ne (ne_of_none hu h))⟩
  len := r.len
  inj := r.inj
  alive := fun n q e => upd_some (r.alive n q e)
  lk := fun a h => upd_some (r.lk a h)
end
end Rw
end
section
set_option Elab.async false
set_option linter.all false
set_option maxRecDepth 100000
set_option maxHeartbeats 4000000
namespace Rw
open PySem L2

section
variable {X : Cx} {EX : EXT}
/-- an int operation -/
def iOp (c : Int → Int → Bool) (g : Int → Int → Int) : Op2 := fun _ x y => match x, y with
  | .int i, .int j => if c i j then some (.int (g i j)) else none
  | _, _ => none
def iCmp (g : Int → Int → Bool) : Op2 := fun _ x y => match x, y with
  | .int i, .int j => some (.bl (g i j))
  | _, _ => none
theorem iOp_some {c : Int → Int → Bool} {g : Int → Int → Int} {S : List Cell} {x y d : D} (h : iOp c g S x y = some d) : ∃ i j, x = .int i ∧ y = .int j ∧ c i j = true ∧ d = .int (g i j) := by
  unfold iOp at h
  split at h
  · split at h
    · rename_i i j hc
      exact ⟨i, j, rfl, rfl, hc, (Option.some.inj h).symm⟩
    · cases h
  · cases h
theorem iCmp_some {g : Int → Int → Bool} {S : List Cell} {x y d : D} (h : iCmp g S x y = some d) : ∃ i j, x = .int i ∧ y = .int j ∧ d = .bl (g i j) := by
  unfold iCmp at h
  split at h
  · rename_i i j
    exact ⟨i, j, rfl, rfl, (Option.some.inj h).symm⟩
  · cases h
theorem op_of {f : Value → Value → Sem Value} {r r' : R2} (h : OpR X f r) (i : ∀ x y H Q, r' x y H Q → r x y H Q) : OpR X f r' := fun pins s σ H x y v u Q I rx ry q => h pins s σ H x y v u Q I rx ry (i x y H Q q)
theorem oI {f : Value → Value → Sem Value} {C : Int → Int → Prop} {c : Int → Int → Bool} {g : Int → Int → Int} (h : OpR X f (rI C fun i j => .int (g i j))) (hc : ∀ i j, c i j = true → C i j) : OpR X f (rD2 X.K X.mg (iOp c g)) := by
  refine op_of h fun x y H Q ⟨w, S, dx, dy, d, e, rs, rx, ry, q⟩ => ?_
  obtain ⟨i, j, rfl, rfl, k, rfl⟩ := iOp_some e
  cases rx
  cases ry
  exact ⟨i, j, rfl, rfl, hc i j k, q _ w H (Le.refl w) rs (.int _)⟩
theorem oI0 {f : Value → Value → Sem Value} {g : Int → Int → Int} (h : OpR X f (rI0 fun i j => .int (g i j))) : OpR X f (rD2 X.K X.mg (iOp (fun _ _ => true) g)) := by
  refine op_of h fun x y H Q ⟨w, S, dx, dy, d, e, rs, rx, ry, q⟩ => ?_
  obtain ⟨i, j, rfl, rfl, k, rfl⟩ := iOp_some e
  cases rx
  cases ry
  exact ⟨i, j, rfl, rfl, q _ w H (Le.refl w) rs (.int _)⟩
theorem oC {f : Value → Value → Sem Value} {g : Int → Int → Bool} (h : OpR X f (rI0 fun i j => .bl (g i j))) : OpR X f (rD2 X.K X.mg (iCmp g)) := by
  refine op_of h fun x y H Q ⟨w, S, dx, dy, d, e, rs, rx, ry, q⟩ => ?_
  obtain ⟨i, j, rfl, rfl, rfl⟩ := iCmp_some e
  cases rx
  cases ry
  exact ⟨i, j, rfl, rfl, q _ w H (Le.refl w) rs (.bl _)⟩
def oAdd : Op2 := iOp (fun _ _ => true) fun i j => i + j
def oSub : Op2 := iOp (fun _ _ => true) fun i j => i - j
def mulOk (i j : Int) : Bool := decide (-(2 ^ 64) < i ∧ i < 2 ^ 64) || decide (-(2 ^ 64) < j ∧ j < 2 ^ 64)
def oMul : Op2 := iOp mulOk fun i j => i * j
def divOk (_ j : Int) : Bool := decide (0 < j ∧ j < 1073741824)
def oDiv : Op2 := iOp divOk fun i j => i / j
def oMod : Op2 := iOp (fun _ j => decide (0 < j)) fun i j => i % j
def oPow : Op2 := iOp (fun i j => decide (0 ≤ j ∧ j ≤ 1000 ∧ i.natAbs < 2 ^ 64)) fun i j => i ^ j.toNat
theorem mulOk_ok {i j : Int} (h : mulOk i j = true) : CMul i j := by
  unfold mulOk at h
  simp only [Bool.or_eq_true, decide_eq_true_eq] at h
  exact h
theorem divOk_ok {i j : Int} (h : divOk i j = true) : CDiv i j := by
  unfold divOk at h
  simp only [decide_eq_true_eq] at h
  exact h
theorem o_add : OpR X (binaryOp .Add) (rD2 X.K X.mg oAdd) := oI0 op_add
theorem o_sub : OpR X (binaryOp .Sub) (rD2 X.K X.mg oSub) := oI0 op_sub
theorem o_mul : OpR X (binaryOp .Mult) (rD2 X.K X.mg oMul) := oI op_mul fun _ _ => mulOk_ok
theorem o_div : OpR X (binaryOp .FloorDiv) (rD2 X.K X.mg oDiv) := oI op_fdiv fun _ _ => divOk_ok
theorem o_mod : OpR X (binaryOp .Mod) (rD2 X.K X.mg oMod) := oI op_mod fun _ _ h => of_decide_eq_true h
theorem o_pow : OpR X (binaryOp .Pow) (rD2 X.K X.mg oPow) := oI op_pow fun _ _ h => by
  have h := of_decide_eq_true h
  exact ⟨h.1, by omega, h.2.2⟩
theorem i_add : OpR X (inplaceOp .Add) (rD2 X.K X.mg oAdd) := oI0 iop_add
theorem i_sub : OpR X (inplaceOp .Sub) (rD2 X.K X.mg oSub) := oI0 iop_sub
theorem i_mul : OpR X (inplaceOp .Mult) (rD2 X.K X.mg oMul) := oI iop_mul fun _ _ => mulOk_ok
theorem i_div : OpR X (inplaceOp .FloorDiv) (rD2 X.K X.mg oDiv) := oI iop_fdiv fun _ _ => divOk_ok
def oLt : Op2 := iCmp fun i j => decide (i < j)
def oLe : Op2 := iCmp fun i j => decide (i ≤ j)
def oGt : Op2 := iCmp fun i j => decide (j < i)
def oGe : Op2 := iCmp fun i j => decide (j ≤ i)
theorem o_lt : OpR X (compareOp .Lt) (rD2 X.K X.mg oLt) := oC op_lt
theorem o_le : OpR X (compareOp .LtE) (rD2 X.K X.mg oLe) := oC op_le
theorem o_gt : OpR X (compareOp .Gt) (rD2 X.K X.mg oGt) := oC op_gt
theorem o_ge : OpR X (compareOp .GtE) (rD2 X.K X.mg oGe) := oC op_ge
def oNeg : Op1 := fun _ x => match x with | .int i => some (.int (-i)) | _ => none
theorem o_neg : UnR X (unaryOp .USub) (rD1 X.K X.mg oNeg) := fun pins s σ H x v Q I rx h => by
  obtain ⟨w, S, dx, d, e, rs, r, q⟩ := h
  cases r <;> simp [oNeg] at e
  subst e
  exact un_neg pins s σ H _ v Q I rx ⟨_, rfl, q _ w H (Le.refl w) rs (.int _)⟩
def oEq : Op2 := fun _ x y => match toPy x, toPy y with
  | some a, some b => if SeqAt.shaped a && SeqAt.shaped b then some (.bl (PyData.eqv a b)) else none
  | _, _ => none
def oNe : Op2 := fun _ x y => match toPy x, toPy y with
  | some a, some b => if SeqAt.shaped a && SeqAt.shaped b then some (.bl (!PyData.eqv a b)) else none
  | _, _ => none
theorem o_eq (hu : X.A.units + 64 < cLine) : OpR X (compareOp .Eq) (rD2 X.K X.mg oEq) := by
  refine op_of (op_eqD hu) fun x y H Q ⟨w, S, dx, dy, d, e, rs, rx, ry, q⟩ => ?_
  unfold oEq at e
  split at e
  · rename_i a b h1 h2
    split at e
    · rename_i hs
      cases e
      simp only [Bool.and_eq_true] at hs
      exact ⟨a, b, dp_of rs _ _ _ rx h1, dp_of rs _ _ _ ry h2, hs.1, hs.2, q _ w H (Le.refl w) rs (.bl _)⟩
    · cases e
  · cases e
theorem o_ne (hu : X.A.units + 64 < cLine) : OpR X (compareOp .NotEq) (rD2 X.K X.mg oNe) := by
  refine op_of (op_neD hu) fun x y H Q ⟨w, S, dx, dy, d, e, rs, rx, ry, q⟩ => ?_
  unfold oNe at e
  split at e
  · rename_i a b h1 h2
    split at e
    · rename_i hs
      cases e
      simp only [Bool.and_eq_true] at hs
      exact ⟨a, b, dp_of rs _ _ _ rx h1, dp_of rs _ _ _ ry h2, hs.1, hs.2, q _ w H (Le.refl w) rs (.bl _)⟩
    · cases e
  · cases e

theorem loc_at {K : PySem.W.Frag} {mg : Str → Option Value} {w : G} {S : List Cell} {H : Hp} {n : Nat} {c : Cell} {v : V} (rs : RpS K mg w S H) (rv : RepW K w v (.loc n)) (h : S[n]? = some c) (hc : c ≠ .free) :
    ∃ p, v = .ref p ∧ w.ρ[n]? = some p ∧ w.F p = none ∧ w.B p = none ∧ CellAt K mg w H p c := by
  cases rv with
  | loc h1 =>
    rcases rs.cells n c h with q | ⟨p, h2, h3, h4, h5⟩
    · exact absurd q hc
    · rw [h1] at h2
      cases h2
      exact ⟨_, rfl, h1, h3, h4, h5⟩

def keyD : D → Option Key
  | .int i => some (.inl i)
  | .str x => some (.inr x)
  | _ => none
theorem keyD_kD {d : D} {k : Key} (h : keyD d = some k) : d = kD k := by
  cases d <;> simp [keyD] at h <;> subst h <;> rfl
theorem kD_inj {a b : Key} (h : kD a = kD b) : a = b := by
  cases a <;> cases b <;> simp [kD] at h <;> rw [h]
def keysD : List D → Option (List Key)
  | [] => some []
  | d :: ds => match keyD d, keysD ds with | some k, some ks => some (k :: ks) | _, _ => none
theorem keysD_kD : ∀ {ds : List D} {ks : List Key}, keysD ds = some ks → ds = ks.map kD
  | [], ks, h => by simp [keysD] at h; rw [h]; rfl
  | d :: ds, ks, h => by
    rw [keysD] at h
    cases q1 : keyD d with
    | none => rw [q1] at h; cases h
    | some k =>
      cases q2 : keysD ds with
      | none => rw [q1, q2] at h; cases h
      | some l =>
        rw [q1, q2] at h
        cases h
        rw [keyD_kD q1, keysD_kD q2]
        rfl
theorem kDs_inj : ∀ {a b : List Key}, a.map kD = b.map kD → a = b
  | [], [], _ => rfl
  | [], _ :: _, h => by cases h
  | _ :: _, [], h => by cases h
  | x :: a, y :: b, h => by
    simp only [List.map_cons, List.cons.injEq] at h
    rw [kD_inj h.1, kDs_inj h.2]
/-- is it a key of such a dict -/
def isKey : DK → D → Bool
  | .k, d => (keyD d).isSome
  | .t, .tup ds => (keysD ds).isSome
  | _, _ => false
def dGet (kvs : List (D × D)) (k : D) : Option D := (kvs.find? fun p => decide (p.1 = k)).map (·.2)
def dPut (kvs : List (D × D)) (k d : D) : List (D × D) := if kvs.any (fun p => decide (p.1 = k)) then kvs.map (fun p => if p.1 = k then (p.1, d) else p) else kvs ++ [(k, d)]
theorem repA_kd {K : PySem.W.Frag} {w : G} {v : V} {k : Key} (h : RepW K w v (kD k)) : v = kV k := by
  cases k <;> cases h <;> rfl
theorem repA_kds {K : PySem.W.Frag} {w : G} : ∀ {ks : List Key} {vs : List V}, RepWA K w vs (ks.map kD) → vs = ks.map kV
  | [], vs, h => by cases h; rfl
  | k :: ks, vs, h => by
    cases h with
    | cons h1 h2 => rw [repA_kd h1, repA_kds h2]; rfl
/-- look-up in step with HandS' -/
theorem dGet_val {κ : Type} [DecidableEq κ] {K : PySem.W.Frag} {w : G} {enc : κ → D} (inj : ∀ a b, enc a = enc b → a = b) (k : κ) : ∀ {ks : List (κ × V)} {kvs : List (D × D)}, kvs.map Prod.fst = ks.map (fun p => enc p.1) → RepWA K w (ks.map Prod.snd) (kvs.map Prod.snd) →
    (dGet kvs (enc k) = none ∧ valV ks k = none) ∨ ∃ d v, dGet kvs (enc k) = some d ∧ valV ks k = some v ∧ RepW K w v d
  | [], [], _, _ => .inl ⟨rfl, rfl⟩
  | [], _ :: _, h, _ => by cases h
  | _ :: _, [], h, _ => by cases h
  | (a, v) :: ks, (b, d) :: kvs, h, r => by
    simp only [List.map_cons, List.cons.injEq] at h
    cases r with
    | cons r1 r2 =>
      by_cases e : a = k
      · refine .inr ⟨d, v, ?_, valV_pos e, r1⟩
        have e2 : b = enc k := by rw [h.1, e]
        simp [dGet, List.find?_cons, e2]
      · have e2 : ¬ b = enc k := fun q => e (inj _ _ (h.1.symm.trans q))
        have g1 : dGet ((b, d) :: kvs) (enc k) = dGet kvs (enc k) := by simp [dGet, List.find?_cons, e2]
        rw [g1, valV_neg e]
        exact dGet_val inj k h.2 r2
theorem dAny_val {κ : Type} [DecidableEq κ] {enc : κ → D} (inj : ∀ a b, enc a = enc b → a = b) (k : κ) : ∀ {ks : List (κ × V)} {kvs : List (D × D)}, kvs.map Prod.fst = ks.map (fun p => enc p.1) →
    kvs.any (fun p => decide (p.1 = enc k)) = ks.any fun p => decide (p.1 = k)
  | [], [], _ => rfl
  | [], _ :: _, h => by cases h
  | _ :: _, [], h => by cases h
  | (a, v) :: ks, (b, d) :: kvs, h => by
    simp only [List.map_cons, List.cons.injEq] at h
    rw [List.any_cons, List.any_cons, dAny_val inj k h.2]
    congr 1
    rw [Bool.eq_iff_iff]
    simp only [decide_eq_true_eq]
    rw [h.1]
    exact ⟨inj _ _, fun e => by rw [e]⟩
theorem dPut_put {κ : Type} [DecidableEq κ] {K : PySem.W.Frag} {w : G} {enc : κ → D} (inj : ∀ a b, enc a = enc b → a = b) (k : κ) {v : V} {d : D} (r : RepW K w v d) {ks : List (κ × V)} {kvs : List (D × D)} (h : kvs.map Prod.fst = ks.map (fun p => enc p.1))
    (ra : RepWA K w (ks.map Prod.snd) (kvs.map Prod.snd)) : (dPut kvs (enc k) d).map Prod.fst = (putK ks k v).map (fun p => enc p.1) ∧ RepWA K w ((putK ks k v).map Prod.snd) ((dPut kvs (enc k) d).map Prod.snd) := by
  unfold dPut putK
  rw [dAny_val inj k h]
  cases q : ks.any fun p => decide (p.1 = k) with
  | false =>
    simp only [Bool.false_eq_true, if_false, List.map_append]
    exact ⟨by rw [h]; rfl, RepA.append ra (.cons r .nil)⟩
  | true =>
    simp only [if_true]
    clear q
    induction ks generalizing kvs with
    | nil =>
      cases kvs with
      | nil => exact ⟨rfl, .nil⟩
      | cons _ _ => cases h
    | cons p ks ih =>
      cases kvs with
      | nil => cases h
      | cons c kvs =>
        obtain ⟨a, u⟩ := p
        obtain ⟨b, d'⟩ := c
        simp only [List.map_cons, List.cons.injEq] at h
        cases ra with
        | cons r1 r2 =>
          obtain ⟨i1, i2⟩ := ih h.2 r2
          by_cases e : a = k
          · have e2 : b = enc k := by rw [h.1, e]
            refine ⟨?_, ?_⟩
            · simp only [List.map_cons]
              rw [i1, if_pos e, if_pos e2, h.1]
            · simp only [List.map_cons]
              rw [if_pos e, if_pos e2]
              exact .cons r i2
          · have e2 : ¬ b = enc k := fun q => e (inj _ _ (h.1.symm.trans q))
            refine ⟨?_, ?_⟩
            · simp only [List.map_cons]
              rw [i1, if_neg e, if_neg e2, h.1]
            · simp only [List.map_cons]
              rw [if_neg e, if_neg e2]
              exact .cons r1 i2
abbrev kT (ks : List Key) : D := .tup (ks.map kD)
theorem kT_inj (a b : List Key) (h : kT a = kT b) : a = b := kDs_inj (D.tup.inj h)
/-- a dict to be read: frozen or a cell -/
def dctOf (S : List Cell) : D → Option (DK × List (D × D))
  | .dct t kvs => some (t, kvs)
  | .loc n => match S[n]? with
    | some (.dct t kvs) => some (t, kvs)
    | _ => none
  | _ => none
theorem dctOf_rd {K : PySem.W.Frag} {mg : Str → Option Value} {w : G} {S : List Cell} {H : Hp} {v : V} {d : D} {t : DK} {kvs : List (D × D)} (rs : RpS K mg w S H) (rv : RepW K w v d) (h : dctOf S d = some (t, kvs)) :
    ∃ p u, v = .ref p ∧ Rd H p u ∧ DctU K w u t kvs := by
  unfold dctOf at h
  split at h
  · cases h
    cases rv with
    | dK h1 h2 h3 => exact ⟨_, _, rfl, rs.dct h1 rfl, .dK h2 h3⟩
    | dT h1 h2 h3 => exact ⟨_, _, rfl, rs.dct h1 rfl, .dT h2 h3⟩
  · split at h
    · rename_i n _ _ _ e
      cases h
      obtain ⟨p, rfl, _, _, _, c⟩ := loc_at rs rv e (by intro z; cases z)
      cases c with
      | dct h1 h2 => exact ⟨p, _, rfl, .inl h1, h2⟩
    · cases h
  · cases h
/-- the look-up -/
theorem dget_of {K : PySem.W.Frag} {mg : Str → Option Value} {w : G} {S : List Cell} {H : Hp} {p : Addr} {u : HO} {t : DK} {kvs : List (D × D)} {y : V} {k : D} (rs : RpS K mg w S H) (hr : Rd H p u) (du : DctU K w u t kvs) (ry : RepW K w y k) (hk : isKey t k = true) :
    ∃ o, DGet H p y o ∧ ((dGet kvs k = none ∧ o = none) ∨ ∃ d v, dGet kvs k = some d ∧ o = some v ∧ RepW K w v d) := by
  cases du with
  | dK h1 h2 =>
    obtain ⟨kk, hkk⟩ := Option.isSome_iff_exists.mp (show (keyD k).isSome = true from hk)
    have ek := keyD_kD hkk
    subst ek
    have ey := repA_kd ry
    subst ey
    exact ⟨_, .inl ⟨_, kk, hr, rfl, rfl⟩, dGet_val (fun _ _ => kD_inj) kk h1 h2⟩
  | dT h1 h2 =>
    cases ry with
    | @tup b xs ds hb ha =>
      obtain ⟨kk, hkk⟩ := Option.isSome_iff_exists.mp (show (keysD ds).isSome = true from hk)
      have ek := keysD_kD hkk
      subst ek
      have ey := repA_kds ha
      subst ey
      exact ⟨_, .inr ⟨_, kk, b, hr, rfl, rs.tup hb, rfl⟩, dGet_val kT_inj kk h1 h2⟩
    | _ => cases hk

def ixO : Op2 := fun S x y => match x with
  | .tup ds => (match y with | .int i => atI ds i | _ => none)
  | .lst ds => (match y with | .int i => atI ds i | _ => none)
  | .scr ns => (match y with | .int i => (atI ns i).map D.int | _ => none)
  | .loc n => (match S[n]? with
    | some (.lst ds) => (match y with | .int i => atI ds i | _ => none)
    | some (.dct t kvs) => if isKey t y then dGet kvs y else none
    | _ => none)
  | .dct t kvs => if isKey t y then dGet kvs y else none
  | _ => none
def rIxD : R2 := fun x y H Q => ∃ a v, x = .ref a ∧ DGet H a y (some v) ∧ Q v H
theorem ix_dct (hu : X.A.units + 1 < cLine) : IxR X rIxD := by
  intro value slice pins s σ H x y v u Q I rx ry h hs
  obtain ⟨a, z, rfl, g, q⟩ := h
  obtain rfl : v = Value.ref a := rx
  exact PyProof.Rows.tail_any (dict_typeIs I g) PySem.F.slot_dict_getitem.lookup (d_getItem hu I g ry fun w' s3 I3 rw' => ⟨z, H, I3, rw', q⟩) hs
theorem atI_rep {K : PySem.W.Frag} {w : G} {vs : List V} {ds : List D} {i : Int} {d : D} (ra : RepWA K w vs ds) (h : atI ds i = some d) : ∃ v, atI vs i = some v ∧ RepW K w v d := by
  unfold atI at h ⊢
  rw [RepA.length ra]
  cases q : ixN ds.length i with
  | none => rw [q] at h; cases h
  | some j =>
    rw [q] at h
    exact RepA.get ra h
theorem atI_map {α β : Type} (f : α → β) (xs : List α) (i : Int) : atI (xs.map f) i = (atI xs i).map f := by
  unfold atI
  rw [List.length_map]
  cases ixN xs.length i with
  | none => rfl
  | some j => simp
theorem ix_ok (hu : X.A.units + 1 < cLine) : IxR X (rD2 X.K X.mg ixO) := by
  intro value slice pins s σ H x y v u Q I rx ry h hs
  obtain ⟨w, S, dx, dy, d, e, rs, rdx, rdy, q⟩ := h
  refine (ix_list (X := X) |>.or (ix_tup.or (ix_dct hu))) value slice pins s σ H x y v u Q I rx ry ?_ hs
  have fin : ∀ {z : V}, RepW X.K w z d → Q z H := fun rz => q _ w H (Le.refl w) rs rz
  unfold ixO at e
  split at e
  · split at e
    · cases rdx with
      | tup h1 h2 =>
        cases rdy
        obtain ⟨z, hz, rz⟩ := atI_rep h2 e
        exact .inr (.inl ⟨_, _, _, z, rfl, rfl, SqT.of (rs.tup h1), hz, fin rz⟩)
    · cases e
  · split at e
    · cases rdx with
      | lst h1 h2 =>
        cases rdy
        obtain ⟨z, hz, rz⟩ := atI_rep h2 e
        exact .inl ⟨_, _, _, z, rfl, rfl, SqL.of (rs.lst h1), hz, fin rz⟩
    · cases e
  · split at e
    · rename_i _ ns _ i
      cases rdx with
      | scr h1 =>
        cases rdy
        cases qi : atI ns i with
        | none => rw [qi] at e; cases e
        | some k =>
          rw [qi] at e
          cases e
          exact .inl ⟨_, _, _, .int k, rfl, rfl, rs.scr h1, by rw [atI_map, qi]; rfl, fin (.int k)⟩
    · cases e
  · split at e
    · rename_i n _ ds hc
      split at e
      · obtain ⟨p, rfl, _, _, _, c⟩ := loc_at rs rdx hc (by intro z; cases z)
        cases c with
        | lst h1 h2 =>
          cases rdy
          obtain ⟨z, hz, rz⟩ := atI_rep h2 e
          exact .inl ⟨_, _, _, z, rfl, rfl, SqL.of h1, hz, fin rz⟩
      · cases e
    · rename_i n _ t kvs hc
      split at e
      · rename_i hk
        obtain ⟨p, u', rfl, hr, du⟩ := dctOf_rd (t := t) (kvs := kvs) rs rdx (by simp only [dctOf, hc])
        obtain ⟨o, g, ho⟩ := dget_of rs hr du rdy hk
        rcases ho with ⟨h1, _⟩ | ⟨d', z, h1, rfl, rz⟩
        · rw [h1] at e; cases e
        · rw [h1] at e
          cases e
          exact .inr (.inr ⟨p, z, rfl, g, fin rz⟩)
      · cases e
    · cases e
  · rename_i t kvs
    split at e
    · rename_i hk
      obtain ⟨p, u', rfl, hr, du⟩ := dctOf_rd (S := S) (t := t) (kvs := kvs) rs rdx rfl
      obtain ⟨o, g, ho⟩ := dget_of rs hr du rdy hk
      rcases ho with ⟨h1, _⟩ | ⟨d', z, h1, rfl, rz⟩
      · rw [h1] at e; cases e
      · rw [h1] at e
        cases e
        exact .inr (.inr ⟨p, z, rfl, g, fin rz⟩)
    · cases e
  · cases e
variable {a b c : Expr} {fa fb fc : Sl → M D} {pos : Pos}
theorem qe_ix (hu : X.A.units + 1 < cLine) (ha : QE X EX a fa) (hb : QE X EX b fb) (hs : PlainIx b := by exact fun _ _ => rfl) : QE X EX (.Subscript a b pos) (mOp ixO fa fb) := PE_imp (pe_ix (ix_ok hu) ha hb hs) fun _ _ _ h => bin_red h
def inD : Op2 := fun S x y => match dctOf S y with
  | some (t, kvs) => if isKey t x then some (.bl (dGet kvs x).isSome) else none
  | none => none
def ninD : Op2 := fun S x y => match dctOf S y with
  | some (t, kvs) => if isKey t x then some (.bl (!(dGet kvs x).isSome)) else none
  | none => none
theorem o_inD (hu : X.A.units + 1 < cLine) : OpR X (compareOp .In) (rD2 X.K X.mg inD) := by
  intro pins s σ H x y v u Q I rx ry h
  obtain ⟨w, S, dx, dy, d, e, rs, rdx, rdy, q⟩ := h
  unfold inD at e
  split at e
  · rename_i t kvs hc
    split at e
    · rename_i hk
      obtain ⟨p, u', rfl, hr, du⟩ := dctOf_rd rs rdy hc
      obtain ⟨o, g, ho⟩ := dget_of rs hr du rdx hk
      have eo : o.isSome = (dGet kvs dx).isSome := by
        rcases ho with ⟨h1, rfl⟩ | ⟨_, _, h1, rfl, _⟩ <;> rw [h1] <;> rfl
      cases e
      cases (show u = Value.ref p from ry)
      exact d_in hu I g rx fun s3 I3 => ⟨.bl o.isSome, H, I3, rfl, by rw [eo]; exact q _ w H (Le.refl w) rs (.bl _)⟩
    · cases e
  · cases e
theorem o_ninD (hu : X.A.units + 1 < cLine) : OpR X (compareOp .NotIn) (rD2 X.K X.mg ninD) := by
  intro pins s σ H x y v u Q I rx ry h
  obtain ⟨w, S, dx, dy, d, e, rs, rdx, rdy, q⟩ := h
  unfold ninD at e
  split at e
  · rename_i t kvs hc
    split at e
    · rename_i hk
      obtain ⟨p, u', rfl, hr, du⟩ := dctOf_rd rs rdy hc
      obtain ⟨o, g, ho⟩ := dget_of rs hr du rdx hk
      have eo : o.isSome = (dGet kvs dx).isSome := by
        rcases ho with ⟨h1, rfl⟩ | ⟨_, _, h1, rfl, _⟩ <;> rw [h1] <;> rfl
      cases e
      cases (show u = Value.ref p from ry)
      exact d_notIn hu I g rx fun s3 I3 => ⟨.bl (!o.isSome), H, I3, rfl, by rw [eo]; exact q _ w H (Le.refl w) rs (.bl _)⟩
    · cases e
  · cases e
end
end Rw
end
section
set_option Elab.async false
set_option linter.all false
set_option maxRecDepth 100000
set_option maxHeartbeats 4000000
namespace Rw
open PySem L2

section
variable {X : Cx} {EX : EXT}
variable {K : PySem.W.Frag} {mg : Str → Option Value} {w w' : G} {S : List Cell} {H : Hp} {p : Addr} {o : HO}
/-- an object that nobody speaks of is frozen -/
theorem RpS.take (r : RpS K mg w S H) (h : H p = some o) (hF : w.F p = none) (hB : w.B p = none) (hρ : p ∉ w.ρ) : RpS K mg (w.frz p o) S H where
  bg := r.bg
  fr := fun a u e => by
    have e' : upd w.F p o a = some u := e
    by_cases q : a = p
    · subst q; rw [upd_same] at e'; cases e'; exact .inl h
    · rw [upd_ne q] at e'; exact r.fr a u e'
  cells := fun n c e => by
    rcases r.cells n c e with q | ⟨b, h1, h2, h3, h4⟩
    · exact .inl q
    · have ne : b ≠ p := fun z => hρ (z ▸ List.mem_of_getElem? h1)
      exact .inr ⟨b, h1, by show upd w.F p o b = none; rw [upd_ne ne]; exact h2, h3, h4.le (Le.frz hB hF) rfl⟩
  len := r.len
  inj := r.inj
  alive := r.alive
  lk := r.lk
/-- .. becomes a cell -/
abbrev G.cell (w : G) (p : Addr) : G := { w with ρ := w.ρ ++ [p] }
theorem Le.cell (hB : w.B p = none) : Le w (w.cell p) := ⟨rfl, rfl, fun _ _ h => h, fun _ h => .inl h, fun n q h => by
  show (w.ρ ++ [p])[n]? = some q
  rw [List.getElem?_append_left (List.getElem?_eq_some_iff.mp h).1]; exact h, fun q h => by
  rcases List.mem_append.mp h with h | h
  · exact .inl h
  · simp at h
    exact .inr (h ▸ hB)⟩
theorem RpS.cell {c : Cell} (r : RpS K mg w S H) (h : H p = some o) (hF : w.F p = none) (hB : w.B p = none) (hρ : p ∉ w.ρ) (hc : CellAt K mg (w.cell p) H p c) : RpS K mg (w.cell p) (S ++ [c]) H where
  bg := r.bg
  fr := r.fr
  cells := fun n c' e => by
    by_cases hn : n < S.length
    · rw [List.getElem?_append_left hn] at e
      rcases r.cells n c' e with q | ⟨b, h1, h2, h3, h4⟩
      · exact .inl q
      · exact .inr ⟨b, (Le.cell hB).ρ n b h1, h2, h3, h4.le (Le.cell hB) rfl⟩
    · rw [List.getElem?_append_right (by omega)] at e
      have hn0 : n - S.length = 0 := by
        have := (List.getElem?_eq_some_iff.mp e).1
        simp at this
        omega
      rw [hn0] at e
      cases e
      refine .inr ⟨p, ?_, hF, hB, hc⟩
      show (w.ρ ++ [p])[n]? = some p
      rw [List.getElem?_append_right (by rw [r.len]; omega), r.len, hn0]; rfl
  len := by
    show (w.ρ ++ [p]).length = (S ++ [c]).length
    rw [List.length_append, List.length_append, r.len]; rfl
  inj := fun m n q h1 h2 => by
    have h1' : (w.ρ ++ [p])[m]? = some q := h1
    have h2' : (w.ρ ++ [p])[n]? = some q := h2
    have key : ∀ m : Nat, (w.ρ ++ [p])[m]? = some q → (m < w.ρ.length ∧ w.ρ[m]? = some q) ∨ (m = w.ρ.length ∧ q = p) := fun m h => by
      by_cases hm : m < w.ρ.length
      · rw [List.getElem?_append_left hm] at h; exact .inl ⟨hm, h⟩
      · rw [List.getElem?_append_right (by omega)] at h
        have h2 := (List.getElem?_eq_some_iff.mp h).1
        have h3 := List.mem_of_getElem? h
        simp at h2 h3
        exact .inr ⟨by omega, h3⟩
    rcases key m h1' with ⟨a1, a2⟩ | ⟨a1, a2⟩ <;> rcases key n h2' with ⟨b1, b2⟩ | ⟨b1, b2⟩
    · exact r.inj m n q a2 b2
    · exact absurd (List.mem_of_getElem? a2) (b2 ▸ hρ)
    · exact absurd (List.mem_of_getElem? b2) (a2 ▸ hρ)
    · rw [a1, b1]
  alive := fun n q e => by
    have e' : (w.ρ ++ [p])[n]? = some q := e
    by_cases hn : n < w.ρ.length
    · rw [List.getElem?_append_left hn] at e'; exact r.alive n q e'
    · rw [List.getElem?_append_right (by omega)] at e'
      have : q = p := by
        have h2 := List.mem_of_getElem? e'
        simpa using h2
      rw [this, h]; exact fun z => by cases z
  lk := r.lk
theorem RpS.freshL (r : RpS K mg w S H) (h : H p = none) : p ∉ w.L := fun hm => r.lk p hm h
theorem RpS.freshρ (r : RpS K mg w S H) (h : H p = none) : p ∉ w.ρ := fun hm => by
  obtain ⟨n, hn, e⟩ := List.mem_iff_getElem.mp hm
  exact r.alive n p (by rw [List.getElem?_eq_getElem hn, e]) h

variable {e : Expr} {α : Type} {f : Sl → M (List D)}
def mFz (f : Sl → M (List D)) : Sl → M D := fun σ => (f σ).bind fun ds => M.ret (.lst ds)
def mLoc (f : Sl → M (List D)) : Sl → M D := fun σ => (f σ).bind fun ds => fun S => some (.ok (.loc S.length), S ++ [.lst ds])
theorem qe_fz (h : QN X EX e f) : QE X EX e (mFz f) := by
  refine PE_imp h fun σ H Q ⟨w, σd, S, r, S', e, rp, po⟩ => ?_
  refine run_bind e rp po fun w1 S1 x dx H1 l1 e1 rp1 rx po1 => ?_
  obtain ⟨p, xs, rfl, h1, h2, h3, h4, h5⟩ := rx
  cases e1
  have l2 : Le w1 (w1.frz p (.lst xs)) := Le.frz h3 h2
  exact po1 _ _ _ l2 (rp1.rs.take h1 h2 h3 h4) (.lst (show upd w1.F p _ p = _ from upd_same) (RepA.le h5 l2))
theorem qe_loc (h : QN X EX e f) : QE X EX e (mLoc f) := by
  refine PE_imp h fun σ H Q ⟨w, σd, S, r, S', e, rp, po⟩ => ?_
  refine run_bind e rp po fun w1 S1 x dx H1 l1 e1 rp1 rx po1 => ?_
  obtain ⟨p, xs, rfl, h1, h2, h3, h4, h5⟩ := rx
  cases e1
  refine po1 _ _ _ (Le.cell h3) (rp1.rs.cell h1 h2 h3 h4 (.lst h1 (RepA.le h5 (Le.cell h3)))) (.loc ?_)
  show (w1.ρ ++ [p])[S1.length]? = some p
  rw [← rp1.rs.len]
  simp
variable {fd : Sl → M (DK × List (D × D))}
def mFzD (f : Sl → M (DK × List (D × D))) : Sl → M D := fun σ => (f σ).bind fun ds => M.ret (.dct ds.1 ds.2)
def mLocD (f : Sl → M (DK × List (D × D))) : Sl → M D := fun σ => (f σ).bind fun ds => fun S => some (.ok (.loc S.length), S ++ [.dct ds.1 ds.2])
theorem DctU.le {u : HO} {t : DK} {kvs : List (D × D)} (h : DctU K w u t kvs) (l : Le w w') : DctU K w' u t kvs := by
  cases h with
  | dK h1 h2 => exact .dK h1 (RepA.le h2 l)
  | dT h1 h2 => exact .dT h1 (RepA.le h2 l)
theorem qe_fzD (h : QND X EX e fd) : QE X EX e (mFzD fd) := by
  refine PE_imp h fun σ H Q ⟨w, σd, S, r, S', e, rp, po⟩ => ?_
  refine run_bind e rp po fun w1 S1 x dx H1 l1 e1 rp1 rx po1 => ?_
  obtain ⟨p, u, rfl, h1, h2, h3, h4, h5⟩ := rx
  cases e1
  have l2 : Le w1 (w1.frz p u) := Le.frz h3 h2
  refine po1 _ _ _ l2 (rp1.rs.take h1 h2 h3 h4) ?_
  have h5' := h5.le l2
  obtain ⟨t, kvs⟩ := dx
  cases h5' with
  | dK a b => exact .dK (show upd w1.F p _ p = _ from upd_same) a b
  | dT a b => exact .dT (show upd w1.F p _ p = _ from upd_same) a b
theorem qe_locD (h : QND X EX e fd) : QE X EX e (mLocD fd) := by
  refine PE_imp h fun σ H Q ⟨w, σd, S, r, S', e, rp, po⟩ => ?_
  refine run_bind e rp po fun w1 S1 x dx H1 l1 e1 rp1 rx po1 => ?_
  obtain ⟨p, u, rfl, h1, h2, h3, h4, h5⟩ := rx
  cases e1
  refine po1 _ _ _ (Le.cell h3) (rp1.rs.cell h1 h2 h3 h4 (.dct h1 (h5.le (Le.cell h3)))) (.loc ?_)
  show (w1.ρ ++ [p])[S1.length]? = some p
  rw [← rp1.rs.len]
  simp
/-- a new list at p -/
theorem new_N {vs : List V} {ds : List D} (rs : RpS K mg w S H) (h : H p = none) (ra : RepWA K w vs ds) : RpS K mg w S (upd H p (.lst vs)) ∧ repN K w (upd H p (.lst vs)) (.ref p) ds :=
  ⟨rs.new h, p, vs, rfl, upd_same, rs.freshF h, rs.freshB h, rs.freshρ h, ra⟩

variable {es : List Expr} {fs : Sl → M (List D)} {pos : Pos}
theorem qe_tup {x1} (h : QA X EX es fs) : QE X EX (.Tuple es x1 pos) (mTup fs) := by
  refine PE_imp (pe_tup h) fun σ H Q ⟨w, σd, S, r, S', e, rp, po⟩ => ?_
  refine run_bind e rp po fun w1 S1 xs ds H1 l1 e1 rp1 rx po1 => ?_
  obtain ⟨d, ed, rfl, rfl⟩ := rd_some e1
  split at ed
  · rename_i hl
    cases ed
    refine ⟨by rw [RepA.length rx]; exact line_le hl, fun p hp => ?_⟩
    obtain ⟨l, rs, rr⟩ := new_tup (X := X) rp1.rs hp rx
    exact po1 _ _ _ l rs rr
  · cases ed
theorem qn_lst (h : QA X EX es fs) : QN X EX (.List es pos) (mLst fs) := by
  refine PE_imp (pe_lst h) fun σ H Q ⟨w, σd, S, r, S', e, rp, po⟩ => ?_
  refine run_bind e rp po fun w1 S1 xs ds H1 l1 e1 rp1 rx po1 => ?_
  obtain ⟨d, ed, rfl, rfl⟩ := rd_some e1
  split at ed
  · rename_i hl
    cases ed
    refine ⟨by rw [RepA.length rx]; exact line_le hl, fun p hp => ?_⟩
    obtain ⟨rs, rr⟩ := new_N rp1.rs hp rx
    exact po1 _ _ _ (Le.refl _) rs rr
  · cases ed
/-- {} -/
def mDNew (t : DK) : Sl → M (DK × List (D × D)) := fun _ => M.ret (t, [])
theorem qn_dk : QND X EX (.Dict [] [] pos) (mDNew .k) := by
  refine PE_imp pe_dnewK fun σ H Q ⟨w, σd, S, r, S', e, rp, po⟩ p hp => ?_
  cases e
  exact po _ _ _ (Le.refl _) (rp.rs.new hp) ⟨p, _, rfl, upd_same, rp.rs.freshF hp, rp.rs.freshB hp, rp.rs.freshρ hp, .dK rfl .nil⟩
theorem qn_dt : QND X EX (.Dict [] [] pos) (mDNew .t) := by
  refine PE_imp pe_dnewT fun σ H Q ⟨w, σd, S, r, S', e, rp, po⟩ p hp => ?_
  cases e
  exact po _ _ _ (Le.refl _) (rp.rs.new hp) ⟨p, _, rfl, upd_same, rp.rs.freshF hp, rp.rs.freshB hp, rp.rs.freshρ hp, .dT rfl .nil⟩

def lstOf (S : List Cell) : D → Option (List D)
  | .lst ds => some ds
  | .scr ns => some (ns.map D.int)
  | .loc n => match S[n]? with
    | some (.lst ds) => some ds
    | _ => none
  | _ => none
def seqOf (S : List Cell) : D → Option (List D)
  | .tup ds => some ds
  | d => lstOf S d
theorem repA_ints (F : Hp) (ρ : List Addr) : ∀ ns : List Int, RepA K F ρ (ns.map V.int) (ns.map D.int)
  | [] => .nil
  | n :: ns => .cons (.int n) (repA_ints F ρ ns)
theorem lstOf_rd {v : V} {d : D} {ds : List D} (rs : RpS K mg w S H) (rv : RepW K w v d) (h : lstOf S d = some ds) : ∃ p xs, v = .ref p ∧ SqL K H p xs ∧ RepWA K w xs ds := by
  unfold lstOf at h
  split at h
  · cases h
    cases rv with
    | lst h1 h2 => exact ⟨_, _, rfl, SqL.of (rs.lst h1), h2⟩
  · cases h
    cases rv with
    | scr h1 => exact ⟨_, _, rfl, rs.scr h1, repA_ints _ _ _⟩
  · split at h
    · rename_i hc
      cases h
      obtain ⟨p, rfl, _, _, _, c⟩ := loc_at rs rv hc (by intro z; cases z)
      cases c with
      | lst h1 h2 => exact ⟨p, _, rfl, SqL.of h1, h2⟩
    · cases h
  · cases h
theorem seqOf_rd {v : V} {d : D} {ds : List D} (rs : RpS K mg w S H) (rv : RepW K w v d) (h : seqOf S d = some ds) : ∃ p xs, v = .ref p ∧ (SqL K H p xs ∨ SqT K H p xs) ∧ RepWA K w xs ds := by
  unfold seqOf at h
  split at h
  · cases h
    cases rv with
    | tup h1 h2 => exact ⟨_, _, rfl, .inr (SqT.of (rs.tup h1)), h2⟩
  · obtain ⟨p, xs, e, q, r⟩ := lstOf_rd rs rv h
    exact ⟨p, xs, e, .inl q, r⟩

def cutL {α : Type} (xs : List α) (lo hi : Option Int) : List α := (xs.drop (HT.sIx xs.length 0 lo)).take (HT.sIx xs.length xs.length hi - HT.sIx xs.length 0 lo)
theorem cutL_rep {vs : List V} {ds : List D} (lo hi : Option Int) (h : RepWA K w vs ds) : RepWA K w (cutV vs lo hi) (cutL ds lo hi) := by
  unfold cutV cutL
  rw [RepA.length h]
  exact RepA.take _ (RepA.drop _ h)
variable {lo hi : Option Expr} {fl fh : Sl → M (Option Int)} {a b : Expr} {fa fb : Sl → M D}
def mNoPart : Sl → M (Option Int) := fun _ => M.ret none
def mPart (f : Sl → M D) : Sl → M (Option Int) := fun σ => (f σ).bind fun d => M.rd fun _ => match d with | .int i => some (some i) | _ => none
theorem qo_none : QO X EX none mNoPart := by
  refine ⟨fun pins s σ H Q I ⟨w, σd, S, r, S', e, rp, po⟩ => po_none.run pins s σ H Q I ?_⟩
  cases e
  exact post_ok (rep := repO) po rp rfl
theorem qo_some (h : QE X EX a fa) : QO X EX (some a) (mPart fa) := by
  refine ⟨fun pins s σ H Q I ⟨w, σd, S, r, S', e, rp, po⟩ => (po_some h).run pins s σ H Q I ?_⟩
  refine run_bind e rp po fun w1 S1 x dx H1 l1 e1 rp1 rx po1 => ?_
  obtain ⟨d, ed, rfl, rfl⟩ := rd_some e1
  split at ed
  · cases ed
    cases rx
    exact ⟨_, rfl, post_ok (rep := repO) po1 rp1 rfl⟩
  · cases ed
def mCut (f : Sl → M D) (fl fh : Sl → M (Option Int)) : Sl → M (List D) := fun σ => (f σ).bind fun d => (fl σ).bind fun l => (fh σ).bind fun h => M.rd fun S => (lstOf S d).map fun ds => cutL ds l h
/-- a slice of a list -/
theorem qn_cut {p2 : Pos} (he : QE X EX a fa) (hl : QO X EX lo fl) (hh : QO X EX hi fh) : QN X EX (.Subscript a (.Slice lo hi none p2) pos) (mCut fa fl fh) := by
  refine PE_imp (pe_slice sl_list he hl hh) fun σ H Q ⟨w, σd, S, r, S', e, rp, po⟩ => ?_
  refine run_bind e rp po fun w1 S1 x dx H1 l1 e1 rp1 rx po1 => ?_
  refine run_bind e1 rp1 po1 fun w2 S2 y dy H2 l2 e2 rp2 ry po2 => ?_
  refine run_bind e2 rp2 po2 fun w3 S3 z dz H3 l3 e3 rp3 rz po3 => ?_
  obtain ⟨d, ed, rfl, rfl⟩ := rd_some e3
  cases ry
  cases rz
  simp only [Option.map_eq_some_iff] at ed
  obtain ⟨ds, q, rfl⟩ := ed
  obtain ⟨p, xs, rfl, hs, ra⟩ := lstOf_rd rp3.rs (RepV.le rx (l2.trans l3)) q
  refine ⟨p, xs, rfl, hs, fun p hp => ?_⟩
  obtain ⟨rs, rr⟩ := new_N rp3.rs hp (cutL_rep y z ra)
  exact po3 _ _ _ (Le.refl _) rs rr

def mCat (fa fb : Sl → M D) : Sl → M (List D) := fun σ => (fa σ).bind fun x => (fb σ).bind fun y => M.rd fun S => match x, y with
  | .lst a, .lst b => if a.length + b.length ≤ LINE then some (a ++ b) else none
  | _, _ => none
def mRepeat (fa fb : Sl → M D) : Sl → M (List D) := fun σ => (fa σ).bind fun x => (fb σ).bind fun y => M.rd fun S => match x, y with
  | .lst a, .int k => if -1000000 ≤ k ∧ k ≤ 1000000 ∧ a.length * k.toNat ≤ LINE then some (List.replicate k.toNat a).flatten else none
  | _, _ => none
theorem qn_cat (ha : QE X EX a fa) (hb : QE X EX b fb) : QN X EX (.BinOp a .Add b pos) (mCat fa fb) := by
  refine PE_imp (pe_op op_cat ha hb) fun σ H Q ⟨w, σd, S, r, S', e, rp, po⟩ => ?_
  refine run_bind e rp po fun w1 S1 x dx H1 l1 e1 rp1 rx po1 => ?_
  refine run_bind e1 rp1 po1 fun w2 S2 y dy H2 l2 e2 rp2 ry po2 => ?_
  obtain ⟨d, ed, rfl, rfl⟩ := rd_some e2
  split at ed
  · split at ed
    · rename_i hl
      cases ed
      have rx := RepV.le rx l2
      cases rx with
      | lst h1 h2 =>
        cases ry with
        | lst h3 h4 =>
          refine ⟨_, _, _, _, rfl, rfl, rp2.rs.lst h1, rp2.rs.lst h3, by rw [RepA.length h2, RepA.length h4]; exact line_le hl, fun p hp => ?_⟩
          obtain ⟨rs, rr⟩ := new_N rp2.rs hp (RepA.append h2 h4)
          exact po2 _ _ _ (Le.refl _) rs rr
    · cases ed
  · cases ed
theorem repA_rep {vs : List V} {ds : List D} (h : RepWA K w vs ds) : ∀ n : Nat, RepWA K w (List.replicate n vs).flatten (List.replicate n ds).flatten
  | 0 => .nil
  | n + 1 => by
    rw [List.replicate_succ, List.replicate_succ, List.flatten_cons, List.flatten_cons]
    exact RepA.append h (repA_rep h n)
theorem qn_rep (ha : QE X EX a fa) (hb : QE X EX b fb) : QN X EX (.BinOp a .Mult b pos) (mRepeat fa fb) := by
  refine PE_imp (pe_op op_rep ha hb) fun σ H Q ⟨w, σd, S, r, S', e, rp, po⟩ => ?_
  refine run_bind e rp po fun w1 S1 x dx H1 l1 e1 rp1 rx po1 => ?_
  refine run_bind e1 rp1 po1 fun w2 S2 y dy H2 l2 e2 rp2 ry po2 => ?_
  obtain ⟨d, ed, rfl, rfl⟩ := rd_some e2
  split at ed
  · split at ed
    · rename_i hl
      cases ed
      have rx := RepV.le rx l2
      cases rx with
      | lst h1 h2 =>
        cases ry with
        | int k =>
          refine ⟨_, _, _, rfl, rfl, rp2.rs.lst h1, by omega, by omega, by rw [RepA.length h2]; exact line_le hl.2.2, fun p hp => ?_⟩
          obtain ⟨rs, rr⟩ := new_N rp2.rs hp (repA_rep h2 _)
          exact po2 _ _ _ (Le.refl _) rs rr
    · cases ed
  · cases ed

def rDC {α : Type} (K : PySem.W.Frag) (mg : Str → Option Value) (rep : Rep V α) (op : List Cell → List D → Option α) : List V → Hp → VK → Prop := fun vs H Q => ∃ w S ds a, op S ds = some a ∧ RpS K mg w S H ∧ RepWA K w vs ds ∧
  ∀ v w' H', Le w w' → RpS K mg w' S H' → rep w' H' v a → Q v H'
def mCB {α : Type} (op : List Cell → List D → Option α) (fs : Sl → M (List D)) : Sl → M α := fun σ => (fs σ).bind fun ds => M.rd fun S => op S ds
theorem cb_red {rep : Rep V α} {op : List Cell → List D → Option α} {σ : L2.St} {H : Hp} {Q : VK} (h : tO X.K X.mg EX rep (mCB op fs) σ H Q) : tCB (rDC X.K X.mg rep op) (tO X.K X.mg EX (repL X.K) fs) σ H Q := by
  obtain ⟨w, σd, S, r, S', e, rp, po⟩ := h
  refine run_bind e rp po fun w1 S1 xs ds H1 l1 e1 rp1 rx po1 => ?_
  obtain ⟨d, ed, rfl, rfl⟩ := rd_some e1
  exact ⟨w1, _, ds, d, ed, rp1.rs, rx, fun v w' H' l rs rv => po1 v w' H' l rs rv⟩
variable {x id T : String} {xs : Str} {px : Pos} {e1 : Expr}
theorem q_cb {rep : Rep V α} {op : List Cell → List D → Option α} (hc : CallR X (.builtin id) (rDC X.K X.mg rep op)) (hg : Gl X xs) (hm : X.mg xs = none) (hv : bootBuiltins xs = some (.builtin id)) (ha : QA X EX (e1 :: es) fs) (hn : xs ≠ "__name__" := by decide) (hdb : (xs == ("__debug__" : Str)) = false := by decide)
    (he : starEach (e1 :: es) X.env = (false, eval e1 X.env) :: starEach es X.env := by rfl) (hpl : (backTo pos (starEach es X.env)).any (·.1) = false := by rfl) : PE X (.Call (.Name xs px) (e1 :: es) [] pos) (tO X.K X.mg EX rep (mCB op fs)) :=
  PE_imp (pe_callB hc hg hm hv ha hn hdb he hpl) fun _ _ _ h => cb_red h
theorem q_ct {rep : Rep V α} {op : List Cell → List D → Option α} (hc : CallR X (.type T) (rDC X.K X.mg rep op)) (hg : Gl X xs) (hm : X.mg xs = none) (hv : bootBuiltins xs = some (.type T)) (ha : QA X EX (e1 :: es) fs) (hn : xs ≠ "__name__" := by decide) (hdb : (xs == ("__debug__" : Str)) = false := by decide)
    (he : starEach (e1 :: es) X.env = (false, eval e1 X.env) :: starEach es X.env := by rfl) (hpl : (backTo pos (starEach es X.env)).any (·.1) = false := by rfl) : PE X (.Call (.Name xs px) (e1 :: es) [] pos) (tO X.K X.mg EX rep (mCB op fs)) :=
  PE_imp (pe_callTy hc hg hm hv ha hn hdb he hpl) fun _ _ _ h => cb_red h
theorem q_cf {rep : Rep V α} {op : List Cell → List D → Option α} (hc : CallR X (.builtin id) (rDC X.K X.mg rep op)) (hg : Gl X xs) (hm : X.mg xs = some (.builtin id)) (ha : QA X EX (e1 :: es) fs) (hdb : (xs == ("__debug__" : Str)) = false := by decide)
    (he : starEach (e1 :: es) X.env = (false, eval e1 X.env) :: starEach es X.env := by rfl) (hpl : (backTo pos (starEach es X.env)).any (·.1) = false := by rfl) : PE X (.Call (.Name xs px) (e1 :: es) [] pos) (tO X.K X.mg EX rep (mCB op fs)) :=
  PE_imp (pe_callBfun hc hg hm ha hdb he hpl) fun _ _ _ h => cb_red h
theorem call_of {f : Value} {r r' : List V → Hp → VK → Prop} (h : CallR X f r) (i : ∀ vs H Q, r' vs H Q → r vs H Q) : CallR X f r' := fun pins s σ H xs us Q I rs q => h pins s σ H xs us Q I rs (i xs H Q q)
abbrev Op := List Cell → List D → Option D
abbrev OpN := List Cell → List D → Option (List D)
theorem rep1 {vs : List V} {d : D} (h : RepWA K w vs [d]) : ∃ v, vs = [v] ∧ RepW K w v d := by
  cases h with
  | cons a b => cases b; exact ⟨_, rfl, a⟩
theorem rep2 {vs : List V} {d e : D} (h : RepWA K w vs [d, e]) : ∃ v u, vs = [v, u] ∧ RepW K w v d ∧ RepW K w u e := by
  cases h with
  | cons a b =>
    obtain ⟨u, rfl, r⟩ := rep1 b
    exact ⟨_, u, rfl, a, r⟩
def oLen : Op := fun S ds => match ds with
  | [d] => (match seqOf S d with
    | some l => some (.int l.length)
    | none => (match d with
      | .str z => if z.length ≤ LINE then some (.int z.length) else none
      | _ => none))
  | _ => none
theorem c_len : CallR X (.builtin "len") (rDC X.K X.mg (repE X.K) oLen) := by
  refine call_of call_len fun vs H Q ⟨w, S, ds, a, e, rs, ra, q⟩ => ?_
  unfold oLen at e
  split at e
  · rename_i d
    obtain ⟨v, rfl, rv⟩ := rep1 ra
    split at e
    · rename_i l hl
      cases e
      obtain ⟨p, xs, rfl, hs, rx⟩ := seqOf_rd rs rv hl
      have hl := RepA.length rx
      refine ⟨_, xs.length, rfl, ?_, by rw [hl]; exact q _ w H (Le.refl w) rs (.int _)⟩
      rcases hs with hs | hs
      · exact Or.inl ⟨xs, hs, rfl⟩
      · exact Or.inr ⟨xs, hs, rfl⟩
    · split at e
      · split at e
        · rename_i hz
          cases e
          cases rv
          exact ⟨_, _, rfl, ⟨line_le hz, rfl⟩, q _ w H (Le.refl w) rs (.int _)⟩
        · cases e
      · cases e
  · cases e
def tyName (S : List Cell) : D → Option String
  | .non => some "NoneType" | .bl _ => some "bool" | .int _ => some "int" | .str _ => some "str"
  | .tup _ => some "tuple" | .lst _ => some "list"
  | _ => none
def oIsi : Op := fun S ds => match ds with
  | [d, .ty n] => (match tyName S d with
    | some t => if n ∈ ["int", "bool", "str", "tuple"] then some (.bl (t == n || (t == "bool" && n == "int"))) else none
    | none => none)
  | _ => none
theorem kit_all : ∀ t ∈ ["NoneType", "bool", "int", "str", "tuple", "list"], ∀ n ∈ ["int", "bool", "str", "tuple"], kitB t n = some (t == n || (t == "bool" && n == "int")) := by decide +kernel
theorem tyName_mem {d : D} {t : String} (h : tyName S d = some t) : t ∈ ["NoneType", "bool", "int", "str", "tuple", "list"] := by
  cases d <;> simp [tyName] at h <;> subst h <;> decide
theorem c_isi : CallR X (.builtin "isinstance") (rDC X.K X.mg (repE X.K) oIsi) := by
  refine call_of call_isi fun vs H Q ⟨w, S, ds, a, e, rs, ra, q⟩ => ?_
  unfold oIsi at e
  split at e
  · rename_i d n
    obtain ⟨v, u, rfl, rv, ru⟩ := rep2 ra
    split at e
    · rename_i t ht
      split at e
      · rename_i hn
        cases e
        cases ru
        have hk := kit_all t (tyName_mem ht) n hn
        refine ⟨v, .ty n, .type t, .type n, _, rfl, .ty n, ?_, kit_ty hk, q _ w H (Le.refl w) rs (.bl _)⟩
        cases rv with
        | non => cases ht; exact .base .non
        | bl b => cases ht; exact .base (.bl _)
        | int i => cases ht; exact .base (.int _)
        | str x => cases ht; exact .base (.str _)
        | tup h1 h2 => cases ht; exact .base (.tup (rs.tup h1))
        | lst h1 h2 => cases ht; exact .base (.lst (rs.lst h1))
        | _ => cases ht
      · cases e
    · cases e
  · cases e
theorem qe_ty {n : String} {x : Str} (hg : Gl X x) (hm : X.mg x = none) (hv : bootBuiltins x = some (.type n)) (hn : x ≠ "__name__" := by decide) (hd : (x == ("__debug__" : Str)) = false := by decide) : QE X EX (.Name x pos) (mC (.ty n)) :=
  qe_c (v := .ty n) (pe_bltn hg hm hv rfl hn hd) fun _ => .ty n
def oInt : Op := fun _ ds => match ds with | [.int i] => some (.int i) | _ => none
theorem c_int : CallR X (.type "int") (rDC X.K X.mg (repE X.K) oInt) := by
  refine call_of call_int1 fun vs H Q ⟨w, S, ds, a, e, rs, ra, q⟩ => ?_
  unfold oInt at e
  split at e
  · cases e
    obtain ⟨v, rfl, rv⟩ := rep1 ra
    cases rv
    exact .inl ⟨_, rfl, q _ w H (Le.refl w) rs (.int _)⟩
  · cases e
def oAbs : Op := fun _ ds => match ds with | [.int i] => some (.int (if i < 0 then -i else i)) | _ => none
theorem c_abs : CallR X (.builtin "abs") (rDC X.K X.mg (repE X.K) oAbs) := by
  refine call_of call_abs fun vs H Q ⟨w, S, ds, a, e, rs, ra, q⟩ => ?_
  unfold oAbs at e
  split at e
  · cases e
    obtain ⟨v, rfl, rv⟩ := rep1 ra
    cases rv
    exact ⟨_, rfl, q _ w H (Le.refl w) rs (.int _)⟩
  · cases e
def oGcd : Op := fun _ ds => match ds with | [.int i, .int j] => some (.int ((Nat.gcd i.natAbs j.natAbs : Nat) : Int)) | _ => none
theorem c_gcd : CallR X (.builtin "math.gcd") (rDC X.K X.mg (repE X.K) oGcd) := by
  refine call_of cr_gcd fun vs H Q ⟨w, S, ds, a, e, rs, ra, q⟩ => ?_
  unfold oGcd at e
  split at e
  · cases e
    obtain ⟨v, u, rfl, rv, ru⟩ := rep2 ra
    cases rv
    cases ru
    exact ⟨_, _, rfl, q _ w H (Le.refl w) rs (.int _)⟩
  · cases e
def oTuple : Op := fun S ds => match ds with | [d] => (seqOf S d).map D.tup | _ => none
theorem c_tuple : CallR X (.type "tuple") (rDC X.K X.mg (repE X.K) oTuple) := by
  refine call_of call_tuple_of fun vs H Q ⟨w, S, ds, a, e, rs, ra, q⟩ => ?_
  unfold oTuple at e
  split at e
  · rename_i d
    obtain ⟨v, rfl, rv⟩ := rep1 ra
    cases ql : lstOf S d with
    | some l =>
      have qs : seqOf S d = some l := by
        unfold seqOf
        split
        · simp [lstOf] at ql
        · exact ql
      rw [qs] at e
      cases e
      obtain ⟨p, xs, rfl, hs, rx⟩ := lstOf_rd rs rv ql
      refine ⟨p, xs, rfl, .inl ⟨hs, fun p hp => ?_⟩⟩
      obtain ⟨l, rs', rr⟩ := new_tup (X := X) rs hp rx
      exact q _ _ _ l rs' rr
    | none =>
      unfold seqOf at e
      split at e
      · cases e
        cases rv with
        | tup h1 h2 => exact ⟨_, _, rfl, .inr ⟨SqT.of (rs.tup h1), q _ w H (Le.refl w) rs (.tup h1 h2)⟩⟩
      · rw [ql] at e; cases e
  · cases e
def oList : OpN := fun S ds => match ds with | [d] => seqOf S d | _ => none
theorem c_list : CallR X (.type "list") (rDC X.K X.mg (repN X.K) oList) := by
  refine call_of call_list_of fun vs H Q ⟨w, S, ds, a, e, rs, ra, q⟩ => ?_
  unfold oList at e
  split at e
  · rename_i d
    obtain ⟨v, rfl, rv⟩ := rep1 ra
    obtain ⟨p, xs, rfl, hs, rx⟩ := seqOf_rd rs rv e
    refine ⟨p, xs, rfl, hs, fun p hp => ?_⟩
    obtain ⟨rs', rr⟩ := new_N rs hp rx
    exact q _ _ _ (Le.refl w) rs' rr
  · cases e
def intsD : List D → Option (List Int)
  | [] => some []
  | .int i :: ds => (intsD ds).map (i :: ·)
  | _ => none
theorem intsD_rep {vs : List V} : ∀ {ds : List D} {vs : List V} {ns : List Int}, RepWA K w vs ds → intsD ds = some ns → vs = ns.map V.int
  | [], vs, ns, h, e => by cases h; simp [intsD] at e; subst e; rfl
  | d :: ds, vs, ns, h, e => by
    cases h with
    | cons h1 h2 =>
      cases d <;> simp [intsD] at e
      obtain ⟨ms, q, rfl⟩ := e
      cases h1
      rw [intsD_rep (vs := vs) h2 q]; rfl
def blsD : List D → Option (List Bool)
  | [] => some []
  | .bl i :: ds => (blsD ds).map (i :: ·)
  | _ => none
theorem blsD_rep : ∀ {ds : List D} {vs : List V} {ns : List Bool}, RepWA K w vs ds → blsD ds = some ns → vs = ns.map V.bl
  | [], vs, ns, h, e => by cases h; simp [blsD] at e; subst e; rfl
  | d :: ds, vs, ns, h, e => by
    cases h with
    | cons h1 h2 =>
      cases d <;> simp [blsD] at e
      obtain ⟨ms, q, rfl⟩ := e
      cases h1
      rw [blsD_rep h2 q]; rfl
def oSum : Op := fun S ds => match ds with | [d] => ((lstOf S d).bind intsD).map fun ns => .int ns.sum | _ => none
theorem c_sum (hc : X.calm = true) : CallR X (.builtin "sum") (rDC X.K X.mg (repE X.K) oSum) := by
  refine call_of (cr_sum hc) fun vs H Q ⟨w, S, ds, a, e, rs, ra, q⟩ => ?_
  unfold oSum at e
  split at e
  · rename_i d
    obtain ⟨v, rfl, rv⟩ := rep1 ra
    simp only [Option.map_eq_some_iff, Option.bind_eq_some_iff] at e
    obtain ⟨ns, ⟨l, h1, h2⟩, rfl⟩ := e
    obtain ⟨p, xs, rfl, hs, rx⟩ := lstOf_rd rs rv h1
    rw [intsD_rep (vs := xs) rx h2] at hs
    exact ⟨p, ns, rfl, hs, q _ w H (Le.refl w) rs (.int _)⟩
  · cases e
def oAny : Op := fun S ds => match ds with | [d] => ((lstOf S d).bind blsD).map fun ns => .bl (ns.any fun b => b) | _ => none
def oAll : Op := fun S ds => match ds with | [d] => ((lstOf S d).bind blsD).map fun ns => .bl (ns.all fun b => b) | _ => none
theorem c_any (hc : X.calm = true) : CallR X (.builtin "any") (rDC X.K X.mg (repE X.K) oAny) := by
  refine call_of (cr_any hc) fun vs H Q ⟨w, S, ds, a, e, rs, ra, q⟩ => ?_
  unfold oAny at e
  split at e
  · rename_i d
    obtain ⟨v, rfl, rv⟩ := rep1 ra
    simp only [Option.map_eq_some_iff, Option.bind_eq_some_iff] at e
    obtain ⟨ns, ⟨l, h1, h2⟩, rfl⟩ := e
    obtain ⟨p, xs, rfl, hs, rx⟩ := lstOf_rd rs rv h1
    rw [blsD_rep rx h2] at hs
    exact ⟨p, ns, rfl, hs, q _ w H (Le.refl w) rs (.bl _)⟩
  · cases e
theorem c_all (hc : X.calm = true) : CallR X (.builtin "all") (rDC X.K X.mg (repE X.K) oAll) := by
  refine call_of (cr_all hc) fun vs H Q ⟨w, S, ds, a, e, rs, ra, q⟩ => ?_
  unfold oAll at e
  split at e
  · rename_i d
    obtain ⟨v, rfl, rv⟩ := rep1 ra
    simp only [Option.map_eq_some_iff, Option.bind_eq_some_iff] at e
    obtain ⟨ns, ⟨l, h1, h2⟩, rfl⟩ := e
    obtain ⟨p, xs, rfl, hs, rx⟩ := lstOf_rd rs rv h1
    rw [blsD_rep rx h2] at hs
    exact ⟨p, ns, rfl, hs, q _ w H (Le.refl w) rs (.bl _)⟩
  · cases e
def rgD (a b : Int) : List D := (List.range (b - a).toNat).map fun i => D.int (a + (i : Nat))
theorem rgD_rep (a b : Int) : RepWA K w (rgV a b) (rgD a b) := by
  unfold rgV rgD
  generalize List.range (b - a).toNat = l
  induction l with
  | nil => exact .nil
  | cons x l ih => exact .cons (.int _) ih
def mLstRg1 (fa : Sl → M D) : Sl → M (List D) := fun σ => (fa σ).bind fun x => M.rd fun _ => match x with
  | .int n => if -1000000 ≤ n ∧ n ≤ 1000000 then some (rgD 0 n) else none
  | _ => none
theorem qn_lrg1 {pl pr p3 : Pos} (hc : X.calm = true) (hg : Gl X "list") (hm : X.mg "list" = none) (hg2 : Gl X "range") (hm2 : X.mg "range" = none) (ha : QE X EX a fa) (na : starEach [a] X.env = (false, eval a X.env) :: starEach [] X.env := by rfl)
    (na2 : starEach [Expr.Call (.Name "range" pr) [a] [] p3] X.env = (false, eval (Expr.Call (.Name "range" pr) [a] [] p3) X.env) :: starEach [] X.env := by rfl) : QN X EX (.Call (.Name "list" pl) [.Call (.Name "range" pr) [a] [] p3] [] pos) (mLstRg1 fa) := by
  refine PE_imp (pe_listRg hc hg hm (prg_1 hg2 hm2 ha na) na2) fun σ H Q ⟨w, σd, S, r, S', e, rp, po⟩ => ?_
  refine run_bind e rp po fun w1 S1 x dx H1 l1 e1 rp1 rx po1 => ?_
  obtain ⟨d, ed, rfl, rfl⟩ := rd_some e1
  split at ed
  · split at ed
    · rename_i n hn
      cases ed
      cases rx
      refine ⟨n, rfl, ⟨by omega, by omega, by omega, by omega, ?_⟩, fun p hp => ?_⟩
      · omega
      · obtain ⟨rs, rr⟩ := new_N rp1.rs hp (rgD_rep 0 n)
        exact po1 _ _ _ (Le.refl _) rs rr
    · cases ed
  · cases ed
end
end Rw
end
section
set_option Elab.async false
set_option linter.all false
set_option maxRecDepth 100000
set_option maxHeartbeats 4000000
namespace Rw
open PySem L2

/-- a world that knows no less -/
structure XLe (w w' : G) : Prop where
  B : ∀ a u, w.B a = some u → w'.B a = some u
  F : ∀ a u, w.F a = some u → w'.F a = some u
  ρ : ∀ (n : Nat) p, w.ρ[n]? = some p → w'.ρ[n]? = some p
theorem Le.x {w w' : G} (l : Le w w') : XLe w w' := ⟨fun a u h => by rw [l.B]; exact h, l.F, l.ρ⟩
theorem XLe.refl (w : G) : XLe w w := (Le.refl w).x
theorem XLe.trans {w w1 w2 : G} (a : XLe w w1) (b : XLe w1 w2) : XLe w w2 := ⟨fun p u h => b.B p u (a.B p u h), fun p u h => b.F p u (a.F p u h), fun n p h => b.ρ n p (a.ρ n p h)⟩
theorem RepV.xle {K : PySem.W.Frag} {w w' : G} {v : V} {d : D} (h : RepW K w v d) (l : XLe w w') : RepW K w' v d := RepV.mono l.F l.ρ h
structure IterOk (K : PySem.W.Frag) (mg : Str → Option Value) (w : G) (J : It) (items : List D) : Prop where
  goes : ∀ (i : Nat) w' S H, i < items.length → XLe w w' → RpS K mg w' S H → J.go i H
  stops : ∀ w' S H, XLe w w' → RpS K mg w' S H → J.stop items.length H
  yields : ∀ (i : Nat) w' S H x H' d, items[i]? = some d → XLe w w' → RpS K mg w' S H → J.yld i H x H' → ∃ w'', Le w' w'' ∧ RpS K mg w'' S H' ∧ RepW K w'' x d
def repI (K : PySem.W.Frag) (mg : Str → Option Value) : Rep It (List D) := fun w _ J items => IterOk K mg w J items
abbrev QI (X : Cx) (EX : EXT) (tg e : Expr) (f : Sl → M (List D)) : Prop := PI X tg e (tO X.K X.mg EX (repI X.K X.mg) f)
theorem PI_imp {X : Cx} {tg e : Expr} {t t' : TI} (h : PI X tg e t) (i : ∀ σ H Q, t' σ H Q → t σ H Q) : PI X tg e t' := ⟨fun pins s σ H Q I q => h.run pins s σ H Q I (i σ H Q q)⟩
section
variable {K : PySem.W.Frag} {mg : Str → Option Value} {w w' : G} {S : List Cell} {H : Hp} {p a b : Addr} {xs ys : List V} {ds es : List D}
theorem IterOk.le {J : It} {items : List D} (h : IterOk K mg w J items) (l : XLe w w') : IterOk K mg w' J items :=
  ⟨fun i v S H hi l' r => h.goes i v S H hi (l.trans l') r, fun v S H l' r => h.stops v S H (l.trans l') r, fun i v S H x H' d e l' r y => h.yields i v S H x H' d e (l.trans l') r y⟩
theorem it_list (hr : ∀ w' S H, XLe w w' → RpS K mg w' S H → SqL K H a xs) (ra : RepWA K w xs ds) : IterOk K mg w (Itl K a) ds where
  goes := fun i w' S H hi l r => ⟨xs, xs[i]'(by rw [RepA.length ra]; exact hi), hr w' S H l r, by simp⟩
  stops := fun w' S H l r => ⟨xs, hr w' S H l r, by rw [RepA.length ra]; exact Nat.le_refl _⟩
  yields := fun i w' S H x H' d e l r y => by
    obtain ⟨rfl, y⟩ := y
    obtain ⟨v, h1, h2⟩ := RepA.get ra e
    have := y xs (hr w' S _ l r)
    rw [h1] at this
    cases this
    exact ⟨w', Le.refl _, r, RepV.xle h2 l⟩
theorem it_tup (h : w.F a = some (.tup xs)) (ra : RepWA K w xs ds) : IterOk K mg w (Itt K a) ds where
  goes := fun i w' S H hi l r => ⟨xs, xs[i]'(by rw [RepA.length ra]; exact hi), SqT.of (r.tup (l.F _ _ h)), by simp⟩
  stops := fun w' S H l r => ⟨xs, SqT.of (r.tup (l.F _ _ h)), by rw [RepA.length ra]; exact Nat.le_refl _⟩
  yields := fun i w' S H x H' d e l r y => by
    obtain ⟨rfl, y⟩ := y
    obtain ⟨v, h1, h2⟩ := RepA.get ra e
    have := y xs (SqT.of (r.tup (l.F _ _ h)))
    rw [h1] at this
    cases this
    exact ⟨w', Le.refl _, r, RepV.xle h2 l⟩
/-- a new pair -/
theorem new_pair {x y : V} {d e : D} {T : Addr} (r : RpS K mg w S H) (hT : H T = none) (rx : RepW K w x d) (ry : RepW K w y e) : ∃ w'', Le w w'' ∧ RpS K mg w'' S (upd H T (.tup [x, y])) ∧ RepW K w'' (.ref T) (.tup [d, e]) := by
  have l := r.leFrz (o := .tup [x, y]) hT
  exact ⟨w.frz T (.tup [x, y]), l, r.frz hT, .tup (show upd w.F T _ T = _ from upd_same) (.cons (RepV.le rx l) (.cons (RepV.le ry l) .nil))⟩
def zipD (ds es : List D) : List D := (ds.zip es).map fun p => .tup [p.1, p.2]
theorem zipD_get {i : Nat} {d : D} (h : (zipD ds es)[i]? = some d) : ∃ x y, ds[i]? = some x ∧ es[i]? = some y ∧ d = .tup [x, y] := by
  unfold zipD at h
  rw [List.getElem?_map] at h
  cases q : (ds.zip es)[i]? with
  | none => rw [q] at h; cases h
  | some p =>
    rw [q] at h
    cases h
    rw [List.getElem?_zip_eq_some] at q
    exact ⟨_, _, q.1, q.2, rfl⟩
theorem zipD_length : (zipD ds es).length = min ds.length es.length := by
  unfold zipD
  rw [List.length_map, List.length_zip]
theorem it_zip (ha : ∀ w' S H, XLe w w' → RpS K mg w' S H → SqL K H a xs) (ra : RepWA K w xs ds) (hb : ∀ w' S H, XLe w w' → RpS K mg w' S H → SqL K H b ys) (rb : RepWA K w ys es) : IterOk K mg w (Itz K a b) (zipD ds es) where
  goes := fun i w' S H hi l r => by
    rw [zipD_length] at hi
    exact ⟨xs, ys, xs[i]'(by rw [RepA.length ra]; omega), ys[i]'(by rw [RepA.length rb]; omega), ha w' S H l r, hb w' S H l r, by simp, by simp⟩
  stops := fun w' S H l r => ⟨xs, ys, ha w' S H l r, hb w' S H l r, by rw [zipD_length, RepA.length ra, RepA.length rb]; omega⟩
  yields := fun i w' S H x H' d e l r y => by
    obtain ⟨T, x1, y1, rfl, hT, rfl, f1, f2⟩ := y
    obtain ⟨d1, e1, h1, h2, rfl⟩ := zipD_get e
    obtain ⟨v1, g1, r1⟩ := RepA.get ra h1
    obtain ⟨v2, g2, r2⟩ := RepA.get rb h2
    have q1 := f1 xs (ha w' S H l r)
    have q2 := f2 ys (hb w' S H l r)
    rw [g1] at q1
    rw [g2] at q2
    cases q1
    cases q2
    exact new_pair r hT (RepV.xle r1 l) (RepV.xle r2 l)
theorem it_zipT (h1 : w.F a = some (.tup xs)) (ra : RepWA K w xs ds) (h2 : w.F b = some (.tup ys)) (rb : RepWA K w ys es) : IterOk K mg w (RZ.ItzT K a b) (zipD ds es) where
  goes := fun i w' S H hi l r => by
    rw [zipD_length] at hi
    exact ⟨xs, ys, xs[i]'(by rw [RepA.length ra]; omega), ys[i]'(by rw [RepA.length rb]; omega), SqT.of (r.tup (l.F _ _ h1)), SqT.of (r.tup (l.F _ _ h2)), by simp, by simp⟩
  stops := fun w' S H l r => ⟨xs, ys, SqT.of (r.tup (l.F _ _ h1)), SqT.of (r.tup (l.F _ _ h2)), by rw [zipD_length, RepA.length ra, RepA.length rb]; omega⟩
  yields := fun i w' S H x H' d e l r y => by
    obtain ⟨T, x1, y1, rfl, hT, rfl, f1, f2⟩ := y
    obtain ⟨d1, e1, g1, g2, rfl⟩ := zipD_get e
    obtain ⟨v1, k1, r1⟩ := RepA.get ra g1
    obtain ⟨v2, k2, r2⟩ := RepA.get rb g2
    have q1 := f1 xs (SqT.of (r.tup (l.F _ _ h1)))
    have q2 := f2 ys (SqT.of (r.tup (l.F _ _ h2)))
    rw [k1] at q1
    rw [k2] at q2
    cases q1
    cases q2
    exact new_pair r hT (RepV.xle r1 l) (RepV.xle r2 l)
def enumD : Nat → List D → List D
  | _, [] => []
  | n, d :: ds => .tup [.int (n : Int), d] :: enumD (n + 1) ds
theorem enumD_get : ∀ {ds : List D} {n i : Nat} {d : D}, (enumD n ds)[i]? = some d → ∃ x, ds[i]? = some x ∧ d = .tup [.int ((n + i : Nat) : Int), x]
  | [], _, _, _, h => by simp [enumD] at h
  | x :: ds, n, 0, d, h => by
    simp [enumD] at h
    exact ⟨x, rfl, by rw [← h]; simp⟩
  | x :: ds, n, i + 1, d, h => by
    obtain ⟨y, h1, h2⟩ := enumD_get (ds := ds) (n := n + 1) (i := i) (d := d) (by simpa [enumD] using h)
    exact ⟨y, by simpa using h1, by rw [h2]; congr 3; omega⟩
theorem enumD_length : ∀ (ds : List D) (n : Nat), (enumD n ds).length = ds.length
  | [], _ => rfl
  | _ :: ds, n => by rw [enumD, List.length_cons, enumD_length ds, List.length_cons]
theorem it_enum (ha : ∀ w' S H, XLe w w' → RpS K mg w' S H → SqL K H a xs) (ra : RepWA K w xs ds) : IterOk K mg w (Ite K a) (enumD 0 ds) where
  goes := fun i w' S H hi l r => by
    rw [enumD_length] at hi
    exact ⟨xs, xs[i]'(by rw [RepA.length ra]; exact hi), ha w' S H l r, by simp⟩
  stops := fun w' S H l r => ⟨xs, ha w' S H l r, by rw [enumD_length, RepA.length ra]; exact Nat.le_refl _⟩
  yields := fun i w' S H x H' d e l r y => by
    obtain ⟨T, x1, rfl, hT, rfl, f1⟩ := y
    obtain ⟨d1, g1, rfl⟩ := enumD_get e
    obtain ⟨v1, k1, r1⟩ := RepA.get ra g1
    have q1 := f1 xs (ha w' S H l r)
    rw [k1] at q1
    cases q1
    rw [Nat.zero_add]
    exact new_pair r hT (.int _) (RepV.xle r1 l)
theorem it_range {lo : Int} {n : Nat} : IterOk K mg w (Itr lo n) ((List.range n).map fun i => D.int (lo + (i : Nat))) where
  goes := fun i w' S H hi _ _ => by
    rw [List.length_map, List.length_range] at hi
    exact hi
  stops := fun w' S H _ _ => by rw [List.length_map, List.length_range]; exact Nat.le_refl _
  yields := fun i w' S H x H' d e l r y => by
    obtain ⟨rfl, rfl⟩ := y
    rw [List.getElem?_map] at e
    cases q : (List.range n)[i]? with
    | none => rw [q] at e; cases e
    | some k =>
      rw [q] at e
      cases e
      rw [List.getElem?_range (by have := (List.getElem?_eq_some_iff.mp q).1; rwa [List.length_range] at this)] at q
      cases q
      exact ⟨w', Le.refl _, r, .int _⟩
end

section
variable {X : Cx} {EX : EXT} {tg a b : Expr} {fa fb : Sl → M D} {pos p : Pos}
/-- a frozen list or tuple -/
def frzSeq : D → Option (List D)
  | .tup ds => some ds
  | .lst ds => some ds
  | .scr ns => some (ns.map D.int)
  | _ => none
def mIter (f : Sl → M D) : Sl → M (List D) := fun σ => (f σ).bind fun d => M.rd fun _ => frzSeq d
theorem SqL_keep {K : PySem.W.Frag} {mg : Str → Option Value} {w : G} {a : Addr} {xs : List V} (h : SqL K w.F a xs) : ∀ w' S H, XLe w w' → RpS K mg w' S H → SqL K H a xs := fun w' S H l r => r.scr (scr_mono l.F h)
theorem frzL_rd {K : PySem.W.Frag} {w : G} {v : V} {d : D} {ds : List D} (rv : RepW K w v d) (h : frzSeq d = some ds) : ∃ p xs, v = .ref p ∧ RepWA K w xs ds ∧ ((∃ us, d = .tup us ∧ w.F p = some (.tup xs)) ∨ ((∀ us, d ≠ .tup us) ∧ SqL K w.F p xs)) := by
  unfold frzSeq at h
  split at h
  · cases h
    cases rv with
    | tup h1 h2 => exact ⟨_, _, rfl, h2, .inl ⟨_, rfl, h1⟩⟩
  · cases h
    cases rv with
    | lst h1 h2 => exact ⟨_, _, rfl, h2, (.inr ⟨fun us z => (by cases z), .inl (.inl h1)⟩)⟩
  · cases h
    cases rv with
    | scr h1 => exact ⟨_, _, rfl, repA_ints _ _ _, .inr ⟨fun us z => (by cases z), h1⟩⟩
  · cases h
/-- .. with what the part gave -/
theorem run_bindQ {α β α' β' : Type} {K : PySem.W.Frag} {mg : Str → Option Value} {EX : EXT} {rep1 : Rep β α} {rep2 : Rep β' α'} {f : Sl → M α} {k : α → M α'} {w : G} {σd : Sl} {S S' : List Cell} {r : R α'} {σ : L2.St} {H : Hp} {Q : β' → Hp → Prop} {Q1 : β → Hp → Prop}
    (e : ((f σd).bind k) S = some (r, S')) (rp : Rp K mg w σd S σ H) (po : Post K mg EX rep2 w S' Q r)
    (cont : ∀ w1 S1 v a H1, f σd S = some (.ok a, S1) → Le w w1 → k a S1 = some (r, S') → Rp K mg w1 σd S1 σ H1 → rep1 w1 H1 v a → Post K mg EX rep2 w1 S' Q r → Q1 v H1) : tO K mg EX rep1 f σ H Q1 := by
  unfold M.bind at e
  cases q : f σd S with
  | none => rw [q] at e; cases e
  | some x =>
    obtain ⟨x, S1⟩ := x
    cases x with
    | ok a =>
      rw [q] at e
      exact ⟨w, σd, S, .ok a, S1, q, rp, fun v w1 H1 l1 r1 ra => cont w1 S1 v a H1 q l1 e (rp.of l1 r1) ra (po.le l1)⟩
    | ex c =>
      rw [q] at e
      have e' : (R.ex c, S1) = (r, S') := Option.some.inj e
      cases e'
      exact ⟨w, σd, S, .ex c, _, q, rp, po⟩
theorem qi_seq (ha : QE X EX a fa) : QI X EX tg a (mIter fa) := by
  refine ⟨fun pins s σ H Q I ⟨w, σd, S, r, S', e, rp, po⟩ => ?_⟩
  by_cases ht : ∃ us S1, fa σd S = some (.ok (.tup us), S1)
  · obtain ⟨us, S1, h1⟩ := ht
    refine (pi_tup (tg := tg) ha).run pins s σ H Q I ?_
    refine run_bindQ e rp po fun w1 S1 x dx H1 eq l1 e1 rp1 rx po1 => ?_
    rw [h1] at eq
    cases eq
    obtain ⟨d, ed, rfl, rfl⟩ := rd_some e1
    obtain ⟨p, xs, rfl, ra, h2⟩ := frzL_rd rx ed
    rcases h2 with ⟨_, _, h3⟩ | ⟨h3, _⟩
    · exact ⟨p, rfl, ⟨xs, SqT.of (rp1.rs.tup h3)⟩, po1 _ _ _ (Le.refl _) rp1.rs (it_tup h3 ra)⟩
    · exact absurd rfl (h3 _)
  · refine (pi_list (tg := tg) ha).run pins s σ H Q I ?_
    refine run_bindQ e rp po fun w1 S1 x dx H1 eq l1 e1 rp1 rx po1 => ?_
    obtain ⟨d, ed, rfl, rfl⟩ := rd_some e1
    obtain ⟨p, xs, rfl, ra, h2⟩ := frzL_rd rx ed
    rcases h2 with ⟨us, rfl, h3⟩ | ⟨_, h3⟩
    · exact absurd ⟨us, _, eq⟩ ht
    · exact ⟨p, rfl, ⟨xs, rp1.rs.scr h3⟩, po1 _ _ _ (Le.refl _) rp1.rs (it_list (SqL_keep h3) ra)⟩
def rg1D (n : Int) : List D := (List.range n.toNat).map fun i => D.int (0 + (i : Nat))
def rg2D (i j : Int) : List D := (List.range (j - i).toNat).map fun k => D.int (i + (k : Nat))
def mRg1 (f : Sl → M D) : Sl → M (List D) := fun σ => (f σ).bind fun d => M.rd fun _ => match d with
  | .int n => if -1000000 ≤ n ∧ n ≤ 1000000 then some (rg1D n) else none
  | _ => none
def mRg2 (f g : Sl → M D) : Sl → M (List D) := fun σ => (f σ).bind fun d => (g σ).bind fun e => M.rd fun _ => match d, e with
  | .int i, .int j => if -1000000 ≤ i ∧ i ≤ 1000000 ∧ -1000000 ≤ j ∧ j ≤ 1000000 then some (rg2D i j) else none
  | _, _ => none
theorem qi_rg1 (hg : Gl X "range") (hm : X.mg "range" = none) (ha : QE X EX a fa) (hs : starEach [a] X.env = [(false, eval a X.env)] := by rfl) : QI X EX tg (.Call (.Name "range" p) [a] [] pos) (mRg1 fa) := by
  refine PI_imp (pi_range1 hg hm (pa_cons ha pa_nil hs) hs) fun σ H Q ⟨w, σd, S, r, S', e, rp, po⟩ => ?_
  refine run_bind e rp po fun w1 S1 x dx H1 l1 e1 rp1 rx po1 => ?_
  obtain ⟨d, ed, rfl, rfl⟩ := rd_some e1
  split at ed
  · split at ed
    · cases ed
      cases rx
      exact ⟨_, rfl, by omega, by omega, po1 _ _ _ (Le.refl _) rp1.rs it_range⟩
    · cases ed
  · cases ed
theorem qi_rg2 (hg : Gl X "range") (hm : X.mg "range" = none) (ha : QE X EX a fa) (hb : QE X EX b fb) (hs : starEach [a, b] X.env = [(false, eval a X.env), (false, eval b X.env)] := by rfl) (hs2 : starEach [b] X.env = [(false, eval b X.env)] := by rfl) :
    QI X EX tg (.Call (.Name "range" p) [a, b] [] pos) (mRg2 fa fb) := by
  refine PI_imp (pi_range2 hg hm (pa_cons ha (pa_cons hb pa_nil hs2) (by rw [hs, hs2])) hs hs2) fun σ H Q ⟨w, σd, S, r, S', e, rp, po⟩ => ?_
  refine run_bind e rp po fun w1 S1 x dx H1 l1 e1 rp1 rx po1 => ?_
  refine run_bind e1 rp1 po1 fun w2 S2 y dy H2 l2 e2 rp2 ry po2 => ?_
  obtain ⟨d, ed, rfl, rfl⟩ := rd_some e2
  split at ed
  · split at ed
    · cases ed
      cases rx
      cases ry
      exact ⟨_, _, rfl, ⟨by omega, by omega, by omega, by omega⟩, po2 _ _ _ (Le.refl _) rp2.rs it_range⟩
    · cases ed
  · cases ed
def mZip (f g : Sl → M D) : Sl → M (List D) := fun σ => (f σ).bind fun d => (g σ).bind fun e => M.rd fun _ => match d, e with
  | .tup ds, .tup es => some (zipD ds es)
  | .lst ds, .lst es => some (zipD ds es)
  | _, _ => none
theorem qi_zip {elts : List Expr} {kk : Nat} {tpos : Pos} (hg : Gl X "zip") (hm : X.mg "zip" = none) (ha : QE X EX a fa) (hb : QE X EX b fb)
    (hs : starEach [a, b] X.env = (false, eval a X.env) :: starEach [b] X.env := by rfl) (hs2 : starEach [b] X.env = (false, eval b X.env) :: starEach [] X.env := by rfl) (hpl : (backTo pos (starEach [b] X.env)).any (·.1) = false := by rfl) :
    QI X EX (.Tuple elts kk tpos) (.Call (.Name "zip" p) [a, b] [] pos) (mZip fa fb) := by
  refine PI_imp (RZ.pi_zipA hg hm (pa_cons ha (pa_cons hb pa_nil hs2) hs) hs hpl) fun σ H Q ⟨w, σd, S, r, S', e, rp, po⟩ => ?_
  refine run_bind e rp po fun w1 S1 x dx H1 l1 e1 rp1 rx po1 => ?_
  refine run_bind e1 rp1 po1 fun w2 S2 y dy H2 l2 e2 rp2 ry po2 => ?_
  obtain ⟨d, ed, rfl, rfl⟩ := rd_some e2
  have rx := RepV.le rx l2
  split at ed
  · cases ed
    cases rx with
    | tup h1 h2 =>
      cases ry with
      | tup h3 h4 => exact ⟨_, _, _, _, rfl, .inr ⟨SqT.of (rp2.rs.tup h1), SqT.of (rp2.rs.tup h3), po2 _ _ _ (Le.refl _) rp2.rs (it_zipT h1 h2 h3 h4)⟩⟩
  · cases ed
    cases rx with
    | lst h1 h2 =>
      cases ry with
      | lst h3 h4 => exact ⟨_, _, _, _, rfl, .inl ⟨SqL.of (rp2.rs.lst h1), SqL.of (rp2.rs.lst h3), po2 _ _ _ (Le.refl _) rp2.rs (it_zip (SqL_keep (.inl (.inl h1))) h2 (SqL_keep (.inl (.inl h3))) h4)⟩⟩
  · cases ed
def mEnum (f : Sl → M D) : Sl → M (List D) := fun σ => (f σ).bind fun d => M.rd fun _ => match d with
  | .lst ds => some (enumD 0 ds)
  | _ => none
theorem qi_enumL {elts : List Expr} {kk : Nat} {tpos : Pos} (hg : Gl X "enumerate") (hm : X.mg "enumerate" = none) (ha : QE X EX a fa) (hs : starEach [a] X.env = [(false, eval a X.env)] := by rfl) :
    QI X EX (.Tuple elts kk tpos) (.Call (.Name "enumerate" p) [a] [] pos) (mEnum fa) := by
  refine PI_imp (pi_enum hg hm (pa_cons ha pa_nil hs) hs) fun σ H Q ⟨w, σd, S, r, S', e, rp, po⟩ => ?_
  refine run_bind e rp po fun w1 S1 x dx H1 l1 e1 rp1 rx po1 => ?_
  obtain ⟨d, ed, rfl, rfl⟩ := rd_some e1
  split at ed
  · cases ed
    cases rx with
    | lst h1 h2 => exact ⟨_, _, rfl, SqL.of (rp1.rs.lst h1), po1 _ _ _ (Le.refl _) rp1.rs (it_enum (SqL_keep (.inl (.inl h1))) h2)⟩
  · cases ed
end

inductive Pat where
  | nm (i : Nat) | tp (ps : List Pat)
mutual
def Pat.put : Pat → D → Sl → Option Sl
  | .nm i, d, σ => some (σ.set i (some d))
  | .tp ps, .tup ds, σ => Pat.puts ps ds σ
  | .tp _, _, _ => none
def Pat.puts : List Pat → List D → Sl → Option Sl
  | [], [], σ => some σ
  | p :: ps, d :: ds, σ => match p.put d σ with | some σ1 => Pat.puts ps ds σ1 | none => none
  | _, _, _ => none
end
mutual
def Pat.sl : Pat → List Nat
  | .nm i => [i]
  | .tp ps => Pat.sls ps
def Pat.sls : List Pat → List Nat
  | [] => []
  | p :: ps => p.sl ++ Pat.sls ps
end
mutual
def gPat (K : PySem.W.Frag) : Pat → TG
  | .nm i => gName i
  | .tp ps => gTup K ps.length (gPats K ps)
def gPats (K : PySem.W.Frag) : List Pat → TGs
  | [] => gNil
  | p :: ps => gCons (gPat K p) (gPats K ps)
end
theorem wipe_set (i : Nat) (x : Option V) (σ : L2.St) : ∀ vs : List Nat, wipe (σ.set i x) vs = if i ∈ vs then wipe σ vs else (wipe σ vs).set i x
  | [] => by simp [wipe]
  | v :: vs => by
    show (wipe (σ.set i x) vs).set v none = _
    rw [wipe_set i x σ vs]
    by_cases h : i ∈ vs
    · rw [if_pos h, if_pos (List.mem_cons_of_mem _ h)]; rfl
    · rw [if_neg h]
      by_cases hv : i = v
      · subst hv
        rw [if_pos List.mem_cons_self]
        show ((wipe σ vs).set i x).set i none = (wipe σ vs).set i none
        rw [List.set_set]
      · rw [if_neg (by simp [hv, h])]
        show ((wipe σ vs).set i x).set v none = ((wipe σ vs).set v none).set i x
        rw [List.set_comm _ _ hv]
section
variable {K : PySem.W.Frag} {mg : Str → Option Value} {w : G} {S : List Cell} {H : Hp}
mutual
theorem gPat_ok : ∀ (p : Pat) (d : D) (v : V) (σd σd' : Sl) (σ : L2.St) (Q : L2.St → Hp → Prop), RepW K w v d → p.put d σd = some σd' → Rp K mg w σd S σ H →
    (∀ σ', Rp K mg w σd' S σ' H → (∀ vs, (∀ i ∈ p.sl, i ∈ vs) → wipe σ' vs = wipe σ vs) → Q σ' H) → gPat K p v σ H Q
  | .nm i, d, v, σd, σd', σ, Q, rv, e, rp, q => by
    rw [Pat.put] at e
    cases e
    rw [gPat]
    exact q _ (rp.set rv i) fun vs hv => by rw [wipe_set, if_pos (hv i (by simp [Pat.sl]))]
  | .tp ps, d, v, σd, σd', σ, Q, rv, e, rp, q => by
    cases rv with
    | tup h1 h2 =>
      rw [Pat.put] at e
      rw [gPat]
      have hl : ∀ (ps : List Pat) (ds : List D) (σd σd' : Sl), Pat.puts ps ds σd = some σd' → ds.length = ps.length := by
        intro ps
        induction ps with
        | nil =>
          intro ds σd σd' e
          cases ds with
          | nil => rfl
          | cons _ _ => simp [Pat.puts] at e
        | cons p ps ih =>
          intro ds σd σd' e
          cases ds with
          | nil => simp [Pat.puts] at e
          | cons d ds =>
            rw [Pat.puts] at e
            split at e
            · rw [List.length_cons, List.length_cons, ih _ _ _ e]
            · cases e
      exact ⟨_, _, rfl, SqT.of (rp.rs.tup h1), by rw [RepA.length h2, hl _ _ _ _ e], gPats_ok ps _ _ σd σd' σ Q h2 e rp fun σ' r z => q σ' r fun vs hv => z vs (by rw [Pat.sl] at hv; exact hv)⟩
    | _ => simp [Pat.put] at e
theorem gPats_ok : ∀ (ps : List Pat) (ds : List D) (vs : List V) (σd σd' : Sl) (σ : L2.St) (Q : L2.St → Hp → Prop), RepWA K w vs ds → Pat.puts ps ds σd = some σd' → Rp K mg w σd S σ H →
    (∀ σ', Rp K mg w σd' S σ' H → (∀ vs, (∀ i ∈ Pat.sls ps, i ∈ vs) → wipe σ' vs = wipe σ vs) → Q σ' H) → gPats K ps vs σ H Q
  | [], ds, vs, σd, σd', σ, Q, rv, e, rp, q => by
    cases ds with
    | nil =>
      cases rv
      rw [Pat.puts] at e
      cases e
      rw [gPats]
      exact ⟨rfl, q σ rp fun _ _ => rfl⟩
    | cons _ _ => simp [Pat.puts] at e
  | p :: ps, ds, vs, σd, σd', σ, Q, rv, e, rp, q => by
    cases ds with
    | nil => simp [Pat.puts] at e
    | cons d ds =>
      cases rv with
      | cons r1 r2 =>
        rw [Pat.puts] at e
        split at e
        · rename_i σ1 e1
          rw [gPats]
          refine ⟨_, _, rfl, gPat_ok p d _ σd σ1 σ _ r1 e1 rp fun σ' rp' z => ?_⟩
          refine gPats_ok ps ds _ σ1 σd' σ' Q r2 e rp' fun σ2 rp2 z2 => q σ2 rp2 fun us hu => ?_
          rw [Pat.sls] at hu
          rw [z2 us fun i hi => hu i (List.mem_append_right _ hi), z us fun i hi => hu i (List.mem_append_left _ hi)]
        · cases e
end
end
abbrev QP (X : Cx) (tg : Expr) (p : Pat) : Prop := PG X tg (gPat X.K p)
abbrev QPs (X : Cx) (tg : List Expr) (ps : List Pat) : Prop := PGs X tg (gPats X.K ps)
section
variable {X : Cx} {pos : Pos}
theorem qp_nm (i : Nat) {x : Str} (hN : X.N.Nodup) (hi : X.N[i]? = some x := by rfl) (hx : Loc X.env.scope x := by first | exact Or.inl rfl | exact Or.inr rfl) (hf : X.fn x = true ∨ X.env.scope.names.lookup x = some .local := by first | exact .inl rfl | exact .inr rfl | assumption) : QP X (.Name x pos) (.nm i) := by
  have h := pg_name (pos := pos) hN hi hx hf
  show PG X _ (gPat X.K (.nm i))
  rw [gPat]
  exact h
theorem qps_nil : QPs X [] [] := by
  show PGs X _ (gPats X.K [])
  rw [gPats]
  exact pgs_nil
theorem qps_cons {e : Expr} {es : List Expr} {p : Pat} {ps : List Pat} (h1 : QP X e p) (h2 : QPs X es ps) (hs : (assignEach (e :: es) X.env).map (·.2) = assign e X.env :: (assignEach es X.env).map (·.2) := by rfl) : QPs X (e :: es) (p :: ps) := by
  show PGs X _ (gPats X.K (p :: ps))
  rw [gPats]
  exact pgs_cons h1 h2 hs
theorem qp_tp {es : List Expr} {k : Nat} {ps : List Pat} (hc : X.calm = true) (h : QPs X es ps) (hn : (assignEach es X.env).length = ps.length := by rfl) (hst : (assignEach es X.env).findIdx? (·.1) = none := by rfl) : QP X (.Tuple es k pos) (.tp ps) := by
  show PG X _ (gPat X.K (.tp ps))
  rw [gPat]
  exact pg_tup hc h hn hst
end
end Rw
end
section
set_option Elab.async false
set_option linter.all false
set_option maxRecDepth 100000
set_option maxHeartbeats 4000000
namespace Rw
open PySem L2

section
variable {K : PySem.W.Frag} {mg : Str → Option Value} {w w' : G} {S : List Cell} {H : Hp} {p : Addr} {o o' : HO}
/-- the world in which the object at p is not to be touched -/
abbrev G.hold (w : G) (p : Addr) (o : HO) : G := { w with B := upd w.B p o }
theorem RpS.hold (r : RpS K mg w S H) (h : H p = some o) (hρ : p ∉ w.ρ) : RpS K mg (w.hold p o) S H where
  bg := fun a u e => by
    have e' : upd w.B p o a = some u := e
    by_cases q : a = p
    · subst q; rw [upd_same] at e'; cases e'; exact .inl h
    · rw [upd_ne q] at e'; exact r.bg a u e'
  fr := r.fr
  cells := fun n c e => by
    rcases r.cells n c e with q | ⟨b, h1, h2, h3, h4⟩
    · exact .inl q
    · have ne : b ≠ p := fun z => hρ (z ▸ List.mem_of_getElem? h1)
      refine .inr ⟨b, h1, h2, by show upd w.B p o b = none; rw [upd_ne ne]; exact h3, ?_⟩
      cases h4 with
      | lst x y => exact .lst x y
      | dct x y =>
        refine .dct x ?_
        cases y with
        | dK a b => exact .dK a b
        | dT a b => exact .dT a b
      | obj x y z t => exact .obj x y z t
  len := r.len
  inj := r.inj
  alive := r.alive
  lk := r.lk
/-- .. and back -/
theorem RpS.unhold {w2 : G} (r : RpS K mg w2 S H) (hB : w2.B = upd w.B p o) (hp : w.B p = none) : RpS K mg { w2 with B := w.B } S H where
  bg := fun a u e => by
    have e' : w.B a = some u := e
    have ne : a ≠ p := fun z => by rw [z, hp] at e'; cases e'
    exact r.bg a u (by rw [hB, upd_ne ne]; exact e')
  fr := r.fr
  cells := fun n c e => by
    rcases r.cells n c e with q | ⟨b, h1, h2, h3, h4⟩
    · exact .inl q
    · refine .inr ⟨b, h1, h2, ?_, ?_⟩
      · show w.B b = none
        rw [hB] at h3
        by_cases q : b = p
        · rw [q]; exact hp
        · rwa [upd_ne q] at h3
      · cases h4 with
        | lst x y => exact .lst x y
        | dct x y =>
          refine .dct x ?_
          cases y with
          | dK a b => exact .dK a b
          | dT a b => exact .dT a b
        | obj x y z t => exact .obj x y z t
  len := r.len
  inj := r.inj
  alive := r.alive
  lk := r.lk
theorem Le.unhold {w2 : G} (l : Le (w.hold p o) w2) (hp : w.B p = none) (hF : w.F p = none) : Le w { w2 with B := w.B } where
  B := rfl
  L := l.L
  F := l.F
  new := fun a h => by
    rcases l.new a h with q | q
    · exact .inl q
    · have q' : upd w.B p o a = none := q
      by_cases e : a = p
      · rw [e, upd_same] at q'; cases q'
      · rw [upd_ne e] at q'; exact .inr q'
  ρ := l.ρ
  newρ := fun q h => by
    rcases l.newρ q h with z | z
    · exact .inl z
    · have z' : upd w.B p o q = none := z
      by_cases e : q = p
      · rw [e, upd_same] at z'; cases z'
      · rw [upd_ne e] at z'; exact .inr z'
theorem Le.heldF {w2 : G} (l : Le (w.hold p o) w2) (hF : w.F p = none) : w2.F p = none := by
  cases q : w2.F p with
  | none => rfl
  | some u =>
    rcases l.new p (by rw [q]; exact fun z => by cases z) with z | z
    · exact absurd hF z
    · have z' : upd w.B p o p = none := z
      rw [upd_same] at z'; cases z'
theorem Le.heldρ {w2 : G} (l : Le (w.hold p o) w2) (hρ : p ∉ w.ρ) : p ∉ w2.ρ := fun h => by
  rcases l.newρ p h with z | z
  · exact hρ z
  · have z' : upd w.B p o p = none := z
    rw [upd_same] at z'; cases z'
theorem Le.heldB {w2 : G} (l : Le (w.hold p o) w2) : w2.B = upd w.B p o := l.B
/-- the held object stands (it is no dict that is locked) -/
theorem RpS.held {w2 : G} (r : RpS K mg w2 S H) (hB : w2.B = upd w.B p o) (hd : p ∉ w2.L ∨ isDc o = false) : H p = some o := by
  rcases r.bg p o (by rw [hB, upd_same]) with q | ⟨q1, q2, _⟩
  · exact q
  · rcases hd with z | z
    · exact absurd q1 z
    · rw [q2] at z; cases z
/-- an object that nobody speaks of is changed -/
theorem RpS.touch (r : RpS K mg w S H) (h : H p ≠ none) (hF : w.F p = none) (hB : w.B p = none) (hρ : p ∉ w.ρ) : RpS K mg w S (upd H p o') where
  bg := fun a u e => by
    have ne : a ≠ p := fun z => by rw [z, hB] at e; cases e
    rw [upd_ne ne]; exact r.bg a u e
  fr := fun a u e => by
    have ne : a ≠ p := fun z => by rw [z, hF] at e; cases e
    rw [upd_ne ne]; exact r.fr a u e
  cells := fun n c e => by
    rcases r.cells n c e with q | ⟨b, h1, h2, h3, h4⟩
    · exact .inl q
    · exact .inr ⟨b, h1, h2, h3, h4.le (Le.refl w) (upd_ne fun z => hρ (z ▸ List.mem_of_getElem? h1))⟩
  len := r.len
  inj := r.inj
  alive := fun n q e => upd_some (r.alive n q e)
  lk := fun a h => upd_some (r.lk a h)
end

def loopLc (p : Pat) (t : Sl → M Bool) (e : Sl → M D) : List D → Sl → List Cell → Option (List D × List Cell)
  | [], _, S => some ([], S)
  | d :: ds, σ, S => match p.put d σ with
    | none => none
    | some σ1 => match t σ1 S with
      | some (.ok true, S1) => (match e σ1 S1 with
        | some (.ok x, S2) => (match loopLc p t e ds σ S2 with
          | some (xs, S3) => some (x :: xs, S3)
          | none => none)
        | _ => none)
      | some (.ok false, S1) => loopLc p t e ds σ S1
      | _ => none
def wipeD (σ : Sl) : List Nat → Sl
  | [] => σ
  | v :: vs => (wipeD σ vs).set v none
def mLc (vs : List Nat) (p : Pat) (t : Sl → M Bool) (e : Sl → M D) (fi : Sl → M (List D)) : Sl → M (List D) := fun σ => (fi σ).bind fun items => fun S =>
  if items.length ≤ LINE then (match loopLc p t e items (wipeD σ vs) S with
    | some (xs, S1) => some (.ok xs, S1)
    | none => none) else none
theorem wipeD_length (σ : Sl) : ∀ vs : List Nat, (wipeD σ vs).length = σ.length
  | [] => rfl
  | v :: vs => by unfold wipeD; rw [List.length_set, wipeD_length σ vs]
theorem slR_wipe {K : PySem.W.Frag} {w : G} {σd : Sl} {σ : L2.St} (h : SlR K w σd σ) (hz : σd.length = σ.length) : ∀ vs : List Nat, SlR K w (wipeD σd vs) (wipe σ vs)
  | [] => h
  | v :: vs => fun i d e => by
    have e' : ((wipeD σd vs).set v none)[i]? = some (some d) := e
    by_cases q : v = i
    · subst q
      by_cases hv : v < (wipeD σd vs).length
      · rw [List.getElem?_set_self hv] at e'; cases e'
      · rw [List.getElem?_eq_none (by rw [List.length_set]; omega)] at e'; cases e'
    · rw [List.getElem?_set_ne q] at e'
      obtain ⟨u, h1, h2⟩ := slR_wipe h hz vs i d e'
      exact ⟨u, by
        show ((wipe σ vs).set v none)[i]? = _
        rw [List.getElem?_set_ne q]; exact h1, h2⟩
theorem Rp.wipe {K : PySem.W.Frag} {mg : Str → Option Value} {w : G} {σd : Sl} {S : List Cell} {σ : L2.St} {H : Hp} (h : Rp K mg w σd S σ H) (vs : List Nat) : Rp K mg w (wipeD σd vs) S (wipe σ vs) H :=
  ⟨h.rs, slR_wipe h.sl h.sz vs, by rw [wipeD_length, wipe_length]; exact h.sz⟩
theorem wipe_none (i : Nat) (σ : L2.St) (vs : List Nat) (h : i ∈ vs) : (wipe σ vs).set i none = wipe σ vs := by
  induction vs with
  | nil => cases h
  | cons v vs ih =>
    show ((wipe σ vs).set v none).set i none = (wipe σ vs).set v none
    by_cases e : i = v
    · subst e; rw [List.set_set]
    · have hm : i ∈ vs := by
        rcases List.mem_cons.mp h with z | z
        · exact absurd z e
        · exact z
      rw [List.set_comm _ _ (fun z => e z.symm), ih hm]
theorem wipe_sub (σ : L2.St) (vs : List Nat) : ∀ us : List Nat, (∀ i ∈ us, i ∈ vs) → wipe (wipe σ vs) us = wipe σ vs
  | [], _ => rfl
  | u :: us, h => by
    show (wipe (wipe σ vs) us).set u none = _
    rw [wipe_sub σ vs us fun i hi => h i (List.mem_cons_of_mem _ hi)]
    exact wipe_none u σ vs (h u List.mem_cons_self)
theorem wipe_twice (σ : L2.St) (vs : List Nat) : wipe (wipe σ vs) vs = wipe σ vs := wipe_sub σ vs vs fun _ h => h
section
variable {K : PySem.W.Frag} {mg : Str → Option Value} {EX : EXT}
theorem lc_red {p : Pat} {t : Sl → M Bool} {e : Sl → M D} {fi : Sl → M (List D)} {vs : List Nat} (hv : ∀ i ∈ p.sl, i ∈ vs) {σ : L2.St} {H : Hp} {Q : VK} (h : tO K mg EX (repN K) (mLc vs p t e fi) σ H Q) :
    tLc (tO K mg EX (repI K mg) fi) (gPat K p) (tO K mg EX0 repT t) (tO K mg EX0 (repE K) e) vs σ H Q := by
  obtain ⟨w, σd, S, r, S', eq, rp, po⟩ := h
  refine run_bind eq rp po fun w1 S1 J items H1 l1 e1 rp1 it po1 => ?_
  have it : IterOk K mg w1 J items := it
  split at e1
  · rename_i hlen
    cases q : loopLc p t e items (wipeD σd vs) S1 with
    | none => rw [q] at e1; cases e1
    | some z =>
      obtain ⟨xs, Sf⟩ := z
      rw [q] at e1
      have e2 := Option.some.inj e1
      injection e2 with e3 e4
      subst e3
      subst e4
      intro Da hDa
      have hF0 := rp1.rs.freshF hDa
      have hB0 := rp1.rs.freshB hDa
      have hρ0 := rp1.rs.freshρ hDa
      refine ⟨fun i m H' => ∃ w' S' acc xs0 rest, m = items.length - i ∧ i ≤ items.length ∧ Le w1 w' ∧ w'.F Da = none ∧ w'.B Da = none ∧ Da ∉ w'.ρ ∧ H' Da = some (.lst acc) ∧ RpS K mg w' S' H' ∧ RepWA K w' acc xs0 ∧ acc.length ≤ i ∧
        loopLc p t e (items.drop i) (wipeD σd vs) S' = some (rest, Sf) ∧ xs0 ++ rest = xs, ⟨items.length, w1, S1, [], [], xs, by simp, Nat.zero_le _, Le.refl _, hF0, hB0, hρ0, upd_same, rp1.rs.new hDa, .nil, Nat.le_refl _, by simpa using q, rfl⟩, ?_⟩
      rintro i m H' ⟨w', S', acc, xs0, rest, rfl, hi, lw, hF, hB, hρ, hacc, rs, ra, hal, hrun, hsum⟩
      by_cases hlt : i < items.length
      · refine .inr ⟨it.goes i w' S' H' hlt lw.x rs, fun H'' => ∃ w'' S'' acc xs0 rest, Le w1 w'' ∧ w''.F Da = none ∧ w''.B Da = none ∧ Da ∉ w''.ρ ∧ H'' Da = some (.lst acc) ∧ RpS K mg w'' S'' H'' ∧ RepWA K w'' acc xs0 ∧ acc.length ≤ i + 1 ∧
          loopLc p t e (items.drop (i + 1)) (wipeD σd vs) S'' = some (rest, Sf) ∧ xs0 ++ rest = xs, ?_, ?_⟩
        · rintro H'' ⟨w'', S'', acc', xs0', rest', a1, a2, a3, a4, a5, a6, a7, a8, a9, a10⟩
          exact ⟨items.length - (i + 1), by omega, w'', S'', acc', xs0', rest', rfl, hlt, a1, a2, a3, a4, a5, a6, a7, a8, a9, a10⟩
        · intro x Hy hy
          -- hold the list while the turn goes on
          have rsh := rs.hold (o := .lst acc) hacc hρ
          have hd : items[i]? = some items[i] := List.getElem?_eq_getElem hlt
          have xl : XLe w1 (w'.hold Da (.lst acc)) := ⟨fun a u h => by
            show upd w'.B Da _ a = some u
            rw [upd_ne (fun z => by rw [z, hB0] at h; cases h), lw.B]; exact h, lw.F, lw.ρ⟩
          obtain ⟨wy, ly, ry, rx⟩ := it.yields i _ S' H' x Hy _ hd xl rsh hy
          have hdrop : items.drop i = items[i] :: items.drop (i + 1) := List.drop_eq_getElem_cons hlt
          rw [hdrop, loopLc] at hrun
          cases hp : p.put items[i] (wipeD σd vs) with
          | none => rw [hp] at hrun; cases hrun
          | some σ1 =>
            rw [hp] at hrun
            have lwy : Le w1 { wy with B := w'.B } := lw.trans (ly.unhold hB hF)
            have rpy : Rp K mg wy (wipeD σd vs) S' (wipe σ vs) Hy := by
              have h1 := (rp1.wipe vs).of lwy (ry.unhold ly.heldB hB)
              exact ⟨ry, h1.sl, h1.sz⟩
            refine gPat_ok p items[i] x (wipeD σd vs) σ1 (wipe σ vs) _ rx hp rpy fun σ2 rp2 hw => ⟨?_, ?_⟩
            · rw [hw vs hv, wipe_twice]
            -- the test
            · cases ht : t σ1 S' with
              | none => simp only [ht] at hrun; cases hrun
              | some z =>
                obtain ⟨rb, St⟩ := z
                simp only [ht] at hrun
                cases rb with
                | ex c => cases hrun
                | ok b =>
                  refine ⟨wy, σ1, S', .ok b, St, ht, rp2, fun b' wt Ht lt rt eb => ?_⟩
                  have eb : b' = b := eb
                  subst eb
                  have lyt := ly.trans lt
                  cases b' with
                  | true =>
                    dsimp only at hrun ⊢
                    rw [if_pos rfl]
                    cases he : e σ1 St with
                    | none => simp only [he] at hrun; cases hrun
                    | some z =>
                      obtain ⟨re, Se⟩ := z
                      simp only [he] at hrun
                      cases re with
                      | ex c => cases hrun
                      | ok d =>
                        refine ⟨wt, σ1, St, .ok d, Se, he, rp2.of lt rt, fun y we He le re rv => ?_⟩
                        have lye := lyt.trans le
                        cases hl : loopLc p t e (items.drop (i + 1)) (wipeD σd vs) Se with
                        | none => simp only [hl] at hrun; cases hrun
                        | some z =>
                          obtain ⟨ys, Sg⟩ := z
                          simp only [hl] at hrun
                          have h2 := Option.some.inj hrun
                          injection h2 with h3 h4
                          subst h3
                          subst h4
                          have hHe : He Da = some (.lst acc) := re.held lye.heldB (.inr rfl)
                          have hF2 := lye.heldF hF
                          have hρ2 := lye.heldρ hρ
                          have re2 := re.unhold lye.heldB hB
                          have l2 : Le w' { we with B := w'.B } := lye.unhold hB hF
                          refine ⟨acc, hHe, line_lt (by omega), { we with B := w'.B }, Se, acc ++ [y], xs0 ++ [d], ys, lw.trans l2, hF2, hB, hρ2, upd_same, re2.touch (by rw [hHe]; exact fun z => by cases z) hF2 hB hρ2, ?_, ?_, hl, by rw [List.append_assoc]; exact hsum⟩
                          · exact RepA.append (RepA.le ra l2) (.cons rv .nil)
                          · rw [List.length_append]
                            simp
                            omega
                  | false =>
                    dsimp only at hrun ⊢
                    rw [if_neg Bool.false_ne_true]
                    have hHt : Ht Da = some (.lst acc) := rt.held lyt.heldB (.inr rfl)
                    have l2 : Le w' { wt with B := w'.B } := lyt.unhold hB hF
                    exact ⟨{ wt with B := w'.B }, St, acc, xs0, rest, lw.trans l2, lyt.heldF hF, hB, lyt.heldρ hρ, hHt, rt.unhold lyt.heldB hB, RepA.le ra l2, by omega, hrun, hsum⟩
      · have ei : i = items.length := by omega
        subst ei
        refine .inl ⟨it.stops w' S' H' lw.x rs, ?_⟩
        rw [List.drop_length, loopLc] at hrun
        cases hrun
        rw [List.append_nil] at hsum
        subst hsum
        exact po1 _ w' H' lw rs ⟨Da, acc, rfl, hacc, hF, hB, hρ, ra⟩
  · cases e1
end
section
variable {X : Cx} {EX : EXT}
abbrev QTs (X : Cx) (ifs : List Expr) (f : Sl → M Bool) : Prop := PTs X ifs (tO X.K X.mg EX0 repT f)
def mYes : Sl → M Bool := fun _ => M.ret true
theorem qts_nil : QTs X [] mYes := by
  refine ⟨fun pins s σ H Q I ⟨w, σd, S, r, S', e, rp, po⟩ => pts_nil.run pins s σ H Q I ?_⟩
  cases e
  exact post_ok (rep := repT) po rp rfl
theorem qts_one {c : Expr} {f : Sl → M Bool} (h : QT X EX0 c f) : QTs X [c] f := pts_one h
/-- [elt for target in iter if ..] -/
theorem qn_lc {elt tg iter : Expr} {ifs : List Expr} {scope : Scope} (own : List (Str × Nat)) {pos : Pos} {p : Pat} {t : Sl → M Bool} {e : Sl → M D} {fi : Sl → M (List D)} (hc : X.calm = true) (hN : X.N.Nodup) (hi : QI X EX tg iter fi) (ok : blkC X.N X.env.scope scope own = true)
    (hg : ∀ (s : Shared) (H : Hp) (C : Addr) (cl : List (Str × Addr)) (fp : List Addr), QP (X.blk s H scope (compEnvC scope cl C X.env) fp) tg p) (ht : ∀ (s : Shared) (H : Hp) (C : Addr) (cl : List (Str × Addr)) (fp : List Addr), QTs (X.blk s H scope (compEnvC scope cl C X.env) fp) ifs t)
    (he : ∀ (s : Shared) (H : Hp) (C : Addr) (cl : List (Str × Addr)) (fp : List Addr), QE (X.blk s H scope (compEnvC scope cl C X.env) fp) EX0 elt e) (hv : ∀ i ∈ p.sl, i ∈ own.map (·.2) := by decide) (hs : ∀ x, foldedSetIterable iter X.env x = pure x := by intro _; rfl) :
    QN X EX (.ListComp elt [⟨tg, iter, ifs, 0⟩] scope pos) (mLc (own.map (·.2)) p t e fi) :=
  PE_imp (pe_lc hc hN hi (blkOk_by ok) hg ht he hs) fun _ _ _ h => lc_red hv h
end
end Rw
end
section
set_option Elab.async false
set_option linter.all false
set_option maxRecDepth 100000
set_option maxHeartbeats 4000000
namespace Rw
open PySem L2

def loopDc (p : Pat) (t : Sl → M Bool) (k e : Sl → M D) : List D → Sl → List (D × D) → List Cell → Option (List (D × D) × List Cell)
  | [], _, acc, S => some (acc, S)
  | d :: ds, σ, acc, S => match p.put d σ with
    | none => none
    | some σ1 => match t σ1 S with
      | some (.ok true, S1) => (match k σ1 S1 with
        | some (.ok x, S2) => (match e σ1 S2 with
          | some (.ok y, S3) => if (keyD x).isSome then loopDc p t k e ds σ (dPut acc x y) S3 else none
          | _ => none)
        | _ => none)
      | some (.ok false, S1) => loopDc p t k e ds σ acc S1
      | _ => none
def mDc (vs : List Nat) (p : Pat) (t : Sl → M Bool) (k e : Sl → M D) (fi : Sl → M (List D)) : Sl → M (DK × List (D × D)) := fun σ => (fi σ).bind fun items => fun S =>
  if items.length ≤ LINE then (match loopDc p t k e items (wipeD σ vs) [] S with
    | some (xs, S1) => some (.ok (.k, xs), S1)
    | none => none) else none
theorem putK_length {κ : Type} [DecidableEq κ] (ks : List (κ × V)) (k : κ) (v : V) : (putK ks k v).length ≤ ks.length + 1 := length_putK ks k v
section
variable {K : PySem.W.Frag} {mg : Str → Option Value} {EX : EXT}
theorem dc_red {p : Pat} {t : Sl → M Bool} {k e : Sl → M D} {fi : Sl → M (List D)} {vs : List Nat} (hv : ∀ i ∈ p.sl, i ∈ vs) {σ : L2.St} {H : Hp} {Q : VK} (h : tO K mg EX (repND K) (mDc vs p t k e fi) σ H Q) :
    tDc (tO K mg EX (repI K mg) fi) (gPat K p) (tO K mg EX0 repT t) (tO K mg EX0 (repE K) k) (tO K mg EX0 (repE K) e) vs σ H Q := by
  obtain ⟨w, σd, S, r, S', eq, rp, po⟩ := h
  refine run_bind eq rp po fun w1 S1 J items H1 l1 e1 rp1 it po1 => ?_
  have it : IterOk K mg w1 J items := it
  split at e1
  · rename_i hlen
    cases q : loopDc p t k e items (wipeD σd vs) [] S1 with
    | none => rw [q] at e1; cases e1
    | some z =>
      obtain ⟨xs, Sf⟩ := z
      rw [q] at e1
      have e2 := Option.some.inj e1
      injection e2 with e3 e4
      subst e3
      subst e4
      intro Da hDa
      have hF0 := rp1.rs.freshF hDa
      have hB0 := rp1.rs.freshB hDa
      have hρ0 := rp1.rs.freshρ hDa
      have hL0 := rp1.rs.freshL hDa
      refine ⟨fun i m H' => ∃ (w' : G) (S' : List Cell) (acc : List (Key × V)) (xs0 : List (D × D)), m = items.length - i ∧ i ≤ items.length ∧ Le w1 w' ∧ w'.F Da = none ∧ w'.B Da = none ∧ Da ∉ w'.ρ ∧ H' Da = some (.dK acc) ∧ RpS K mg w' S' H' ∧ (xs0.map Prod.fst = acc.map (fun p => kD p.1) ∧ RepWA K w' (acc.map Prod.snd) (xs0.map Prod.snd)) ∧ acc.length ≤ i ∧
        loopDc p t k e (items.drop i) (wipeD σd vs) xs0 S' = some (xs, Sf), ⟨items.length, w1, S1, [], [], by simp, Nat.zero_le _, Le.refl _, hF0, hB0, hρ0, upd_same, rp1.rs.new hDa, ⟨rfl, .nil⟩, Nat.le_refl _, by simpa using q⟩, ?_⟩
      rintro i m H' ⟨w', S', acc, xs0, rfl, hi, lw, hF, hB, hρ, hacc, rs, ra, hal, hrun⟩
      by_cases hlt : i < items.length
      · refine .inr ⟨it.goes i w' S' H' hlt lw.x rs, fun H'' => ∃ (w'' : G) (S'' : List Cell) (acc : List (Key × V)) (xs0 : List (D × D)), Le w1 w'' ∧ w''.F Da = none ∧ w''.B Da = none ∧ Da ∉ w''.ρ ∧ H'' Da = some (.dK acc) ∧ RpS K mg w'' S'' H'' ∧ (xs0.map Prod.fst = acc.map (fun p => kD p.1) ∧ RepWA K w'' (acc.map Prod.snd) (xs0.map Prod.snd)) ∧ acc.length ≤ i + 1 ∧
          loopDc p t k e (items.drop (i + 1)) (wipeD σd vs) xs0 S'' = some (xs, Sf), ?_, ?_⟩
        · rintro H'' ⟨w'', S'', acc', xs0', a1, a2, a3, a4, a5, a6, a7, a8, a9⟩
          exact ⟨items.length - (i + 1), by omega, w'', S'', acc', xs0', rfl, hlt, a1, a2, a3, a4, a5, a6, a7, a8, a9⟩
        · intro x Hy hy
          have rsh := rs.hold (o := .dK acc) hacc hρ
          have hL : Da ∉ (w'.hold Da (.dK acc)).L := by
            show Da ∉ w'.L
            rw [lw.L]; exact hL0
          have hd : items[i]? = some items[i] := List.getElem?_eq_getElem hlt
          have xl : XLe w1 (w'.hold Da (.dK acc)) := ⟨fun a u h => by
            show upd w'.B Da _ a = some u
            rw [upd_ne (fun z => by rw [z, hB0] at h; cases h), lw.B]; exact h, lw.F, lw.ρ⟩
          obtain ⟨wy, ly, ry, rx⟩ := it.yields i _ S' H' x Hy _ hd xl rsh hy
          have hdrop : items.drop i = items[i] :: items.drop (i + 1) := List.drop_eq_getElem_cons hlt
          rw [hdrop, loopDc] at hrun
          cases hp : p.put items[i] (wipeD σd vs) with
          | none => rw [hp] at hrun; cases hrun
          | some σ1 =>
            rw [hp] at hrun
            have lwy : Le w1 { wy with B := w'.B } := lw.trans (ly.unhold hB hF)
            have rpy : Rp K mg wy (wipeD σd vs) S' (wipe σ vs) Hy := by
              have h1 := (rp1.wipe vs).of lwy (ry.unhold ly.heldB hB)
              exact ⟨ry, h1.sl, h1.sz⟩
            refine gPat_ok p items[i] x (wipeD σd vs) σ1 (wipe σ vs) _ rx hp rpy fun σ2 rp2 hw => ⟨?_, ?_⟩
            · rw [hw vs hv, wipe_twice]
            · cases ht : t σ1 S' with
              | none => simp only [ht] at hrun; cases hrun
              | some z =>
                obtain ⟨rb, St⟩ := z
                simp only [ht] at hrun
                cases rb with
                | ex c => cases hrun
                | ok b =>
                  refine ⟨wy, σ1, S', .ok b, St, ht, rp2, fun b' wt Ht lt rt eb => ?_⟩
                  have eb : b' = b := eb
                  subst eb
                  have lyt := ly.trans lt
                  cases b' with
                  | true =>
                    dsimp only at hrun ⊢
                    rw [if_pos rfl]
                    cases hk : k σ1 St with
                    | none => simp only [hk] at hrun; cases hrun
                    | some z =>
                      obtain ⟨rk, Sk⟩ := z
                      simp only [hk] at hrun
                      cases rk with
                      | ex c => cases hrun
                      | ok dk =>
                        refine ⟨wt, σ1, St, .ok dk, Sk, hk, rp2.of lt rt, fun kv wk Hk lk rk rkv => ?_⟩
                        have lyk := lyt.trans lk
                        dsimp only at hrun
                        cases he : e σ1 Sk with
                        | none => simp only [he] at hrun; cases hrun
                        | some z =>
                          obtain ⟨re, Se⟩ := z
                          simp only [he] at hrun
                          cases re with
                          | ex c => cases hrun
                          | ok d =>
                            refine ⟨wk, σ1, Sk, .ok d, Se, he, (rp2.of lt rt).of lk rk, fun y we He le re rv => ?_⟩
                            have lye := lyk.trans le
                            dsimp only at hrun
                            split at hrun
                            · rename_i hkey
                              obtain ⟨kk, hkk⟩ := Option.isSome_iff_exists.mp hkey
                              have ek := keyD_kD hkk
                              subst ek
                              have hHe : He Da = some (.dK acc) := re.held lye.heldB (.inl (by rw [lye.L]; exact hL))
                              have hF2 := lye.heldF hF
                              have hρ2 := lye.heldρ hρ
                              have re2 := re.unhold lye.heldB hB
                              have l2 : Le w' { we with B := w'.B } := lye.unhold hB hF
                              have hpp := dPut_put (enc := kD) (fun _ _ => kD_inj) kk (w := { we with B := w'.B }) rv ra.1 (RepA.le ra.2 l2)
                              refine ⟨acc, kk, repA_kd rkv, hHe, line_lt (by omega), { we with B := w'.B }, Se, putK acc kk y, dPut xs0 (kD kk) d, lw.trans l2, hF2, hB, hρ2, upd_same, re2.touch (by rw [hHe]; exact fun z => by cases z) hF2 hB hρ2, hpp, ?_, hrun⟩
                              have := putK_length acc kk y
                              omega
                            · cases hrun
                  | false =>
                    dsimp only at hrun ⊢
                    rw [if_neg Bool.false_ne_true]
                    have hHt : Ht Da = some (.dK acc) := rt.held lyt.heldB (.inl (by rw [lyt.L]; exact hL))
                    have l2 : Le w' { wt with B := w'.B } := lyt.unhold hB hF
                    exact ⟨{ wt with B := w'.B }, St, acc, xs0, lw.trans l2, lyt.heldF hF, hB, lyt.heldρ hρ, hHt, rt.unhold lyt.heldB hB, ⟨ra.1, RepA.le ra.2 l2⟩, by omega, hrun⟩
      · have ei : i = items.length := by omega
        subst ei
        refine .inl ⟨it.stops w' S' H' lw.x rs, ?_⟩
        rw [List.drop_length, loopDc] at hrun
        cases hrun
        exact po1 _ w' H' lw rs ⟨Da, .dK acc, rfl, hacc, hF, hB, hρ, .dK ra.1 ra.2⟩
  · cases e1
end
section
variable {X : Cx} {EX : EXT}
theorem qn_dc {kx vx tg iter : Expr} {ifs : List Expr} {scope : Scope} (own : List (Str × Nat)) {pos : Pos} {p : Pat} {t : Sl → M Bool} {k e : Sl → M D} {fi : Sl → M (List D)} (hc : X.calm = true) (hN : X.N.Nodup) (hi : QI X EX tg iter fi) (ok : blkC X.N X.env.scope scope own = true)
    (hg : ∀ (s : Shared) (H : Hp) (C : Addr) (cl : List (Str × Addr)) (fp : List Addr), QP (X.blk s H scope (compEnvC scope cl C X.env) fp) tg p) (ht : ∀ (s : Shared) (H : Hp) (C : Addr) (cl : List (Str × Addr)) (fp : List Addr), QTs (X.blk s H scope (compEnvC scope cl C X.env) fp) ifs t)
    (hk : ∀ (s : Shared) (H : Hp) (C : Addr) (cl : List (Str × Addr)) (fp : List Addr), QE (X.blk s H scope (compEnvC scope cl C X.env) fp) EX0 kx k)
    (he : ∀ (s : Shared) (H : Hp) (C : Addr) (cl : List (Str × Addr)) (fp : List Addr), QE (X.blk s H scope (compEnvC scope cl C X.env) fp) EX0 vx e) (hv : ∀ i ∈ p.sl, i ∈ own.map (·.2) := by decide) (hs : ∀ x, foldedSetIterable iter X.env x = pure x := by intro _; rfl) :
    QND X EX (.DictComp kx vx [⟨tg, iter, ifs, 0⟩] scope pos) (mDc (own.map (·.2)) p t k e fi) :=
  PE_imp (pe_dc hc hN hi (blkOk_by ok) hg ht hk he hs) fun _ _ _ h => dc_red hv h
end
end Rw
end
section
set_option Elab.async false
set_option linter.all false
set_option maxRecDepth 100000
set_option maxHeartbeats 4000000
namespace Rw
open PySem L2

section
variable {K : PySem.W.Frag} {mg : Str → Option Value} {w w' : G} {S : List Cell} {H : Hp} {p : Addr} {o o' : HO}
theorem RpS.setCell {n : Nat} {c' : Cell} (r : RpS K mg w S H) (hn : w.ρ[n]? = some p) (hF : w.F p = none) (hB : w.B p = none) (hc : CellAt K mg w (upd H p o') p c') : RpS K mg w (S.set n c') (upd H p o') where
  bg := fun a u e => by
    have ne : a ≠ p := fun z => by rw [z, hB] at e; cases e
    rw [upd_ne ne]; exact r.bg a u e
  fr := fun a u e => by
    have ne : a ≠ p := fun z => by rw [z, hF] at e; cases e
    rw [upd_ne ne]; exact r.fr a u e
  cells := fun m c e => by
    by_cases hm : n = m
    · subst hm
      have hl : n < S.length := by
        have := (List.getElem?_eq_some_iff.mp e).1
        rwa [List.length_set] at this
      rw [List.getElem?_set_self hl] at e
      cases e
      exact .inr ⟨p, hn, hF, hB, hc⟩
    · rw [List.getElem?_set_ne hm] at e
      rcases r.cells m c e with q | ⟨b, h1, h2, h3, h4⟩
      · exact .inl q
      · exact .inr ⟨b, h1, h2, h3, h4.le (Le.refl w) (upd_ne fun z => hm (r.inj n m p hn (z ▸ h1)))⟩
  len := by rw [List.length_set]; exact r.len
  inj := r.inj
  alive := fun n q e => upd_some (r.alive n q e)
  lk := fun a h => upd_some (r.lk a h)
end

section
variable {X : Cx} {EX : EXT} {st : Stmt} {rest sts : List Stmt} {f g : MS} {e a b c : Expr} {fe fa fb fc : Sl → M D} {ft : Sl → M Bool} {pos : Pos}
def mSkip : MS := fun σ S => some (.ok .nx, σ, S)
def mSeq (f g : MS) : MS := fun σ S => match f σ S with
  | some (.ok .nx, σ1, S1) => g σ1 S1
  | r => r
theorem qb_nil : QB X EX [] mSkip := by
  refine PSs_imp pss_nil fun E σ H ⟨w, σd, S, r, σ', S', e, rp, po⟩ => ?_
  cases e
  exact po w σ H (Le.refl w) rp
theorem qb_cons (h1 : QS X EX st f) (h2 : QB X EX rest g) : QB X EX (st :: rest) (mSeq f g) := by
  refine PSs_imp (pss_cons h1 h2) fun E σ H ⟨w, σd, S, r, σf, Sf, e, rp, po⟩ => ?_
  show tSO X.K X.mg EX f { E with nx := tSO X.K X.mg EX g E } σ H
  unfold mSeq at e
  split at e
  · rename_i σ1 S1 q
    exact ⟨w, σd, S, _, σ1, S1, q, rp, fun w' σ' H' l rp' => ⟨w', σ1, S1, r, σf, Sf, e, rp', po.le l⟩⟩
  · rename_i q
    refine ⟨w, σd, S, r, σf, Sf, e, rp, ?_⟩
    cases r with
    | ok x =>
      cases x with
      | nx => exact absurd e (q _ _)
      | _ => exact po
    | ex c => exact po
theorem qb_one (h1 : QS X EX st f) : QB X EX [st] f := pss_one h1
theorem qs_pass : QS X EX (.Pass pos) mSkip := by
  refine PS_imp ps_pass fun E σ H ⟨w, σd, S, r, σ', S', e, rp, po⟩ => ?_
  cases e
  exact po w σ H (Le.refl w) rp
def mBreak : MS := fun σ S => some (.ok .bk, σ, S)
def mCont : MS := fun σ S => some (.ok .ct, σ, S)
theorem qs_break : QS X EX (.Break pos) mBreak := by
  refine PS_imp ps_break fun E σ H ⟨w, σd, S, r, σ', S', e, rp, po⟩ => ?_
  cases e
  exact po w σ H (Le.refl w) rp
theorem qs_cont : QS X EX (.Continue pos) mCont := by
  refine PS_imp ps_continue fun E σ H ⟨w, σd, S, r, σ', S', e, rp, po⟩ => ?_
  cases e
  exact po w σ H (Le.refl w) rp
/-- a value, then .. -/
def mThen {α : Type} (f : Sl → M α) (k : α → MS) : MS := fun σ S => match f σ S with
  | some (.ok a, S1) => k a σ S1
  | some (.ex c, S1) => some (.ex c, σ, S1)
  | none => none
theorem run_then {α β : Type} {K : PySem.W.Frag} {mg : Str → Option Value} {rep1 : Rep β α} {f : Sl → M α} {k : α → MS} {w : G} {σd σd' : Sl} {S S' : List Cell} {r : R Out} {σ : L2.St} {H : Hp} {E : Ends} {Q1 : β → Hp → Prop}
    (e : mThen f k σd S = some (r, σd', S')) (rp : Rp K mg w σd S σ H) (po : PostS K mg EX w σd' S' E r)
    (cont : ∀ w1 S1 v a H1, Le w w1 → k a σd S1 = some (r, σd', S') → Rp K mg w1 σd S1 σ H1 → rep1 w1 H1 v a → PostS K mg EX w1 σd' S' E r → Q1 v H1) : tO K mg EX rep1 f σ H Q1 :=
  run_bindS (k := fun a S1 => k a σd S1) e rp po cont
def mExpr (f : Sl → M D) : MS := mThen f fun _ σ S => some (.ok .nx, σ, S)
theorem qs_expr (he : QE X EX e fe) (hs : swapsWith e none pos.line X.env = pure false := by rfl) : QS X EX (.Expr e pos) (mExpr fe) := by
  refine PS_imp (ps_expr he hs) fun E σ H ⟨w, σd, S, r, σ', S', eq, rp, po⟩ => ?_
  refine run_then eq rp po fun w1 S1 v a H1 l1 e1 rp1 ra po1 => ?_
  cases e1
  exact po1 w1 σ H1 (Le.refl w1) rp1
def mRet (f : Sl → M D) : MS := mThen f fun d σ S => some (.ok (.rt d), σ, S)
theorem qs_ret (he : QE X EX e fe) : QS X EX (.Return (some e) pos) (mRet fe) := by
  refine PS_imp (ps_ret he) fun E σ H ⟨w, σd, S, r, σ', S', eq, rp, po⟩ => ?_
  refine run_then eq rp po fun w1 S1 v a H1 l1 e1 rp1 ra po1 => ?_
  cases e1
  exact po1 v w1 H1 (Le.refl w1) rp1.rs ra
def mRetN : MS := fun σ S => some (.ok (.rt .non), σ, S)
theorem qs_retN : QS X EX (.Return none pos) mRetN := by
  refine PS_imp ps_retN fun E σ H ⟨w, σd, S, r, σ', S', eq, rp, po⟩ => ?_
  cases eq
  exact po .non w H (Le.refl w) rp.rs .non
def mIfS (t : Sl → M Bool) (f g : MS) : MS := mThen t fun b => if b then f else g
theorem qs_if {A B : List Stmt} (ht : QT X EX c ft) (ha : QB X EX A f) (hb : QB X EX B g) : QS X EX (.If c A B pos) (mIfS ft f g) := by
  refine PS_imp (ps_if ht ha hb) fun E σ H ⟨w, σd, S, r, σ', S', eq, rp, po⟩ => ?_
  refine run_then eq rp po fun w1 S1 v a H1 l1 e1 rp1 ra po1 => ?_
  cases ra
  cases v with
  | true => exact ⟨w1, σd, S1, r, σ', S', e1, rp1, po1⟩
  | false => exact ⟨w1, σd, S1, r, σ', S', e1, rp1, po1⟩
def mFail : MS := fun _ _ => none
/-- what is never reached -/
theorem qs_no : QS X EX st mFail := PS_imp ps_never fun E σ H ⟨w, σd, S, r, σ', S', eq, rp, po⟩ => by cases eq
theorem qb_no : QB X EX sts mFail := PSs_imp pss_never fun E σ H ⟨w, σd, S, r, σ', S', eq, rp, po⟩ => by cases eq
def mSet (i : Nat) (f : Sl → M D) : MS := mThen f fun d σ S => some (.ok .nx, σ.set i (some d), S)
theorem qs_set (i : Nat) {x : Str} {pos' : Pos} (he : QE X EX e fe) (hN : X.N.Nodup) (hi : X.N[i]? = some x := by rfl) (hx : Loc X.env.scope x := by first | exact Or.inl rfl | exact Or.inr rfl) (hs : swapsWith e (some (.Name x pos')) pos.line X.env = pure false := by rfl)
    (hf : X.fn x = true ∨ X.env.scope.names.lookup x = some .local := by first | exact .inl rfl | exact .inr rfl | assumption) : QS X EX (.Assign [.Name x pos'] e pos) (mSet i fe) := by
  refine PS_imp (ps_set hN hi hx he hs hf) fun E σ H ⟨w, σd, S, r, σ', S', eq, rp, po⟩ => ?_
  refine run_then eq rp po fun w1 S1 v a H1 l1 e1 rp1 ra po1 => ?_
  cases e1
  exact po1 w1 _ H1 (Le.refl w1) (rp1.set ra i)
/-- name = [.. for ..] -/
theorem tLc_mono {wi : TI} {g : TG} {tt : TT} {te : TE} {vs : List Nat} {σ : L2.St} {H : Hp} {Q : VK} (h : tLc wi g tt te vs σ H Q) : tLc wi g tt te vs σ H Q := h
theorem qs_setLc (i : Nat) {y : Str} {py : Pos} {elt tg iter : Expr} {ifs : List Expr} {scope : Scope} (own : List (Str × Nat)) {pos spos : Pos} {p : Pat} {t : Sl → M Bool} {fe : Sl → M D} {fi : Sl → M (List D)} (hc : X.calm = true) (hN : X.N.Nodup) (hi : QI X EX tg iter fi) (ok : blkC X.N X.env.scope scope own = true)
    (hg : ∀ (s : Shared) (H : Hp) (C : Addr) (cl : List (Str × Addr)) (fp : List Addr), QP (X.blk s H scope (compEnvC scope cl C X.env) fp) tg p) (ht : ∀ (s : Shared) (H : Hp) (C : Addr) (cl : List (Str × Addr)) (fp : List Addr), QTs (X.blk s H scope (compEnvC scope cl C X.env) fp) ifs t)
    (he : ∀ (s : Shared) (H : Hp) (C : Addr) (cl : List (Str × Addr)) (fp : List Addr), QE (X.blk s H scope (compEnvC scope cl C X.env) fp) EX0 elt fe) (hy : X.N[i]? = some y := by rfl) (hyl : X.env.scope.names.lookup y = some .local := by rfl)
    (hsw : swapsWith (.ListComp elt [⟨tg, iter, ifs, 0⟩] scope pos) (some (.Name y py)) spos.line X.env = pure true := by exact sw_true rfl rfl rfl (by decide +kernel)) (hv : ∀ i ∈ p.sl, i ∈ own.map (·.2) := by decide) (hs : ∀ x, foldedSetIterable iter X.env x = pure x := by intro _; rfl) :
    QS X EX (.Assign [.Name y py] (.ListComp elt [⟨tg, iter, ifs, 0⟩] scope pos) spos) (mSet i (mFz (mLc (own.map (·.2)) p t fe fi))) := by
  refine PS_imp (ps_setLc (i := i) (g := gPat X.K p) (tt := tO X.K X.mg EX0 repT t) (te := tO X.K X.mg EX0 (repE X.K) fe) hc hN hy hyl hsw hi (blkOk_by ok) hg ht he hs) fun E σ H ⟨w, σd, S, r, σ', S', eq, rp, po⟩ => ?_
  show tLc _ _ _ _ _ σ H fun x H1 => gName i x σ H1 E.nx
  refine lc_red hv ?_
  have eq2 : mThen (mLc (own.map (·.2)) p t fe fi) (fun ds σ S => some (.ok .nx, σ.set i (some (.lst ds)), S)) σd S = some (r, σ', S') := by
    rw [← eq]
    unfold mSet mThen mFz M.bind
    cases mLc (own.map (·.2)) p t fe fi σd S with
    | none => rfl
    | some z =>
      obtain ⟨z, S1⟩ := z
      cases z <;> rfl
  refine run_then eq2 rp po fun w1 S1 v ds H1 l1 e1 rp1 ra po1 => ?_
  cases e1
  obtain ⟨q, xs, rfl, h1, h2, h3, h4, h5⟩ := ra
  have l2 : Le w1 (w1.frz q (.lst xs)) := Le.frz h3 h2
  exact po1 _ _ H1 l2 ((rp1.of l2 (rp1.rs.take h1 h2 h3 h4)).set (.lst (show upd w1.F q _ q = _ from upd_same) (RepA.le h5 l2)) i)
/-- pattern = e -/
def mPat (p : Pat) (f : Sl → M D) : MS := mThen f fun d σ S => match p.put d σ with
  | some σ1 => some (.ok .nx, σ1, S)
  | none => none
theorem qs_pat {tg : Expr} {p : Pat} (he : QE X EX e fe) (hg : QP X tg p) (hs : swapsWithSole [tg] e pos.line X.env = pure false := by rfl) (hw : swappedStores [tg] e X.env = pure none := by rfl)
    (h1 : (assignEach [tg] X.env).map (·.2) = [assign tg X.env] := by rfl) : QS X EX (.Assign [tg] e pos) (mPat p fe) := by
  refine PS_imp (ps_asg he hg hs hw h1) fun E σ H ⟨w, σd, S, r, σ', S', eq, rp, po⟩ => ?_
  refine run_then eq rp po fun w1 S1 v a H1 l1 e1 rp1 ra po1 => ?_
  split at e1
  · rename_i σ1 hp
    cases e1
    exact gPat_ok p a v σd _ σ _ ra hp rp1 fun σ2 rp2 _ => po1 w1 σ2 H1 (Le.refl w1) rp2
  · cases e1
/-- a, b, .. = a list -/
def mPatL (ps : List Pat) (f : Sl → M D) : MS := mThen f fun d σ S => match d with
  | .lst ds => (match Pat.puts ps ds σ with
    | some σ1 => some (.ok .nx, σ1, S)
    | none => none)
  | _ => none
theorem puts_length : ∀ {ps : List Pat} {ds : List D} {σ σ' : Sl}, Pat.puts ps ds σ = some σ' → ds.length = ps.length
  | [], [], _, _, _ => rfl
  | [], _ :: _, _, _, e => by simp [Pat.puts] at e
  | _ :: _, [], _, _, e => by simp [Pat.puts] at e
  | p :: ps, d :: ds, σ, σ', e => by
    rw [Pat.puts] at e
    split at e
    · rw [List.length_cons, List.length_cons, puts_length e]
    · cases e
theorem qs_patL {es : List Expr} {k : Nat} {ps : List Pat} {tpos : Pos} (hc : X.calm = true) (he : QE X EX e fe) (hg : QPs X es ps) (hn : (assignEach es X.env).length = ps.length := by rfl) (hst : (assignEach es X.env).findIdx? (·.1) = none := by rfl)
    (hs : swapsWithSole [Expr.Tuple es k tpos] e pos.line X.env = pure false := by rfl) (hw : swappedStores [Expr.Tuple es k tpos] e X.env = pure none := by rfl)
    (h1 : (assignEach [Expr.Tuple es k tpos] X.env).map (·.2) = [assign (Expr.Tuple es k tpos) X.env] := by rfl) : QS X EX (.Assign [.Tuple es k tpos] e pos) (mPatL ps fe) := by
  refine PS_imp (ps_asg he (pg_lst (n := ps.length) hc hg hn hst) hs hw h1) fun E σ H ⟨w, σd, S, r, σ', S', eq, rp, po⟩ => ?_
  refine run_then eq rp po fun w1 S1 v a H1 l1 e1 rp1 ra po1 => ?_
  split at e1
  · split at e1
    · rename_i σ1 hp
      cases e1
      cases ra with
      | lst h1 h2 => exact ⟨_, _, rfl, SqL.of (rp1.rs.lst h1), by rw [RepA.length h2, puts_length hp], gPats_ok ps _ _ σd _ σ _ h2 hp rp1 fun σ2 rp2 _ => po1 w1 σ2 H1 (Le.refl w1) rp2⟩
    · cases e1
  · cases e1
/-- a, b = x, y -/
def mPar (i j : Nat) (fa fb : Sl → M D) : MS := mThen (mCons fa (mCons fb mNil)) fun ds σ S => match ds with
  | [d, e] => some (.ok .nx, (σ.set i (some d)).set j (some e), S)
  | _ => none
theorem qs_par (i j : Nat) {x y : Str} {px py pt : Pos} {kt k2 : Nat} {pt2 : Pos} (ha : QE X EX a fa) (hb : QE X EX b fb) (hc : X.calm = true) (hN : X.N.Nodup) (hi : X.N[i]? = some x := by rfl) (hj : X.N[j]? = some y := by rfl) (hij : i ≠ j := by decide)
    (hx : X.env.scope.names.lookup x = some .local := by rfl) (hy : X.env.scope.names.lookup y = some .local := by rfl) (hs1 : starEach [a, b] X.env = (false, eval a X.env) :: starEach [b] X.env := by rfl) (hs2 : starEach [b] X.env = (false, eval b X.env) :: starEach [] X.env := by rfl)
    (hw : swappedStores [.Tuple [.Name x px, .Name y py] kt pt] (.Tuple [a, b] k2 pt2) X.env = pure (some [x, y]) := by rfl)
    (hs : swapsWithSole [.Tuple [.Name x px, .Name y py] kt pt] (.Tuple [a, b] k2 pt2) pos.line X.env = pure false := by rfl) :
    QS X EX (.Assign [.Tuple [.Name x px, .Name y py] kt pt] (.Tuple [a, b] k2 pt2) pos) (mPar i j fa fb) := by
  refine PS_imp (ps_par hc hN hi hj hij hx hy (qa_cons ha (qa_cons hb qa_nil hs2) hs1) hw hs) fun E σ H ⟨w, σd, S, r, σ', S', eq, rp, po⟩ => ?_
  refine run_then eq rp po fun w1 S1 v ds H1 l1 e1 rp1 ra po1 => ?_
  split at e1
  · cases e1
    obtain ⟨v1, v2, rfl, r1, r2⟩ := rep2 ra
    exact ⟨v1, v2, rfl, po1 w1 _ H1 (Le.refl w1) ((rp1.set r1 i).set r2 j)⟩
  · cases e1
/-- name op= e -/
def mAug (i : Nat) (op : Op2) (f : Sl → M D) : MS := fun σ S => match σ[i]? with
  | some (some x) => mThen f (fun y σ S => match op S x y with
    | some z => some (.ok .nx, σ.set i (some z), S)
    | none => none) σ S
  | _ => none
theorem qs_aug (i : Nat) {x : Str} {op : Operator} {o : Op2} {pos' : Pos} (ho : OpR X (inplaceOp op) (rD2 X.K X.mg o)) (he : QE X EX e fe) (hN : X.N.Nodup) (hi : X.N[i]? = some x := by rfl) (hx : Loc X.env.scope x := by first | exact Or.inl rfl | exact Or.inr rfl)
    (hf : X.fn x = true ∨ X.env.scope.names.lookup x = some .local := by first | exact .inl rfl | exact .inr rfl | assumption) : QS X EX (.AugAssign (.Name x pos') op e pos) (mAug i o fe) := by
  refine PS_imp (ps_aug (ti := rD2 X.K X.mg o) hN hi hx he (fun pins s σ H x y v u Q I rx ry h => ho pins s σ H x y v u Q I rx ry h) hf) fun E σ H ⟨w, σd, S, r, σ', S', eq, rp, po⟩ => ?_
  unfold mAug at eq
  split at eq
  · rename_i d hd
    obtain ⟨v, hv, rv⟩ := rp.sl i d hd
    refine ⟨v, hv, ?_⟩
    refine run_then eq rp po fun w1 S1 y dy H1 l1 e1 rp1 ry po1 => ?_
    split at e1
    · rename_i z hz
      cases e1
      exact ⟨w1, _, d, dy, z, hz, rp1.rs, RepV.le rv l1, ry, fun v' w' H' l rs rv' => po1 w' _ H' l ((rp1.of l rs).set rv' i)⟩
    · cases e1
  · cases eq
def putO (S : List Cell) (o i d : D) : Option (List Cell) := match o with
  | .loc n => (match S[n]? with
    | some (.lst ds) => (match i with
      | .int k => (ixN ds.length k).map fun j => S.set n (.lst (ds.set j d))
      | _ => none)
    | some (.dct t kvs) => if isKey t i && decide (kvs.length ≤ LINE) then some (S.set n (.dct t (dPut kvs i d))) else none
    | _ => none)
  | _ => none
def rPut (K : PySem.W.Frag) (mg : Str → Option Value) : TSet := fun o i v H Q => ∃ w S d_o di dv S', putO S d_o di dv = some S' ∧ RpS K mg w S H ∧ RepW K w o d_o ∧ RepW K w i di ∧ RepW K w v dv ∧ ∀ H', RpS K mg w S' H' → Q H'
theorem set_dct (hu : X.A.units + 1 < cLine) : PSet X (fun o i v H Q => ∃ a H', o = .ref a ∧ DPut H a i v H' ∧ Q H') := by
  intro pins s σ H o i v ov iv u Q I ro ri rv h
  obtain ⟨a, H', rfl, g, q⟩ := h
  obtain rfl : ov = Value.ref a := ro
  exact d_setItem hu I g ri rv fun s' I' => ⟨H', I', q⟩
theorem dput_of {K : PySem.W.Frag} {mg : Str → Option Value} {w : G} {S : List Cell} {H : Hp} {p : Addr} {u : HO} {t : DK} {kvs : List (D × D)} {y v : V} {k d : D} (rs : RpS K mg w S H) (hp : H p = some u) (du : DctU K w u t kvs) (ry : RepW K w y k) (hk : isKey t k = true) (hl : kvs.length ≤ LINE) (rv : RepW K w v d) :
    ∃ u', DPut H p y v (upd H p u') ∧ DctU K w u' t (dPut kvs k d) := by
  cases du with
  | dK h1 h2 =>
    obtain ⟨kk, hkk⟩ := Option.isSome_iff_exists.mp (show (keyD k).isSome = true from hk)
    have ek := keyD_kD hkk
    subst ek
    have ey := repA_kd ry
    subst ey
    have hl' : _ := congrArg List.length h1
    rw [List.length_map, List.length_map] at hl'
    obtain ⟨q1, q2⟩ := dPut_put (enc := kD) (fun _ _ => kD_inj) kk rv h1 h2
    exact ⟨_, .inl ⟨_, kk, hp, rfl, line_lt (by omega), rfl⟩, .dK q1 q2⟩
  | dT h1 h2 =>
    cases ry with
    | @tup b xs ds hb ha =>
      obtain ⟨kk, hkk⟩ := Option.isSome_iff_exists.mp (show (keysD ds).isSome = true from hk)
      have ek := keysD_kD hkk
      subst ek
      have ey := repA_kds ha
      subst ey
      have hl' : _ := congrArg List.length h1
      rw [List.length_map, List.length_map] at hl'
      obtain ⟨q1, q2⟩ := dPut_put (enc := kT) kT_inj kk rv h1 h2
      exact ⟨_, .inr ⟨_, kk, b, hp, rfl, rs.tup hb, line_lt (by omega), rfl⟩, .dT q1 q2⟩
    | _ => cases hk
theorem put_ok (hu : X.A.units + 1 < cLine) : PSet X (rPut X.K X.mg) := by
  intro pins s σ H o i v ov iv u Q I ro ri rv h
  obtain ⟨w, S, d_o, di, dv, S', e, rs, r1, r2, r3, q⟩ := h
  unfold putO at e
  split at e
  · split at e
    · rename_i n _ ds hc
      obtain ⟨p, rfl, h1, h2, h3, c⟩ := loc_at rs r1 hc (by intro z; cases z)
      cases c with
      | lst h4 h5 =>
        split at e
        · simp only [Option.map_eq_some_iff] at e
          obtain ⟨j, hj, rfl⟩ := e
          cases r2
          refine set_list pins s σ H (.ref p) (.int _) v ov iv u Q I ro ri rv ⟨p, _, _, j, rfl, rfl, h4, by rw [RepA.length h5]; exact hj, q _ ?_⟩
          exact rs.setCell h1 h2 h3 (.lst upd_same (RepA.set r3 j h5))
        · cases e
    · rename_i n _ t kvs hc
      obtain ⟨p, rfl, h1, h2, h3, c⟩ := loc_at rs r1 hc (by intro z; cases z)
      cases c with
      | dct h4 h5 =>
        split at e
        · rename_i hk
          simp only [Bool.and_eq_true, decide_eq_true_eq] at hk
          cases e
          obtain ⟨u', g, du⟩ := dput_of rs h4 h5 r2 hk.1 hk.2 r3
          exact set_dct hu pins s σ H (.ref p) i v ov iv u Q I ro ri rv ⟨p, _, rfl, g, q _ (rs.setCell h1 h2 h3 (.dct upd_same du))⟩
        · cases e
    · cases e
  · cases e
def mPut (fo fi fe : Sl → M D) : MS := mThen fe fun d => mThen fo fun o => mThen fi fun i => fun σ S => match putO S o i d with
  | some S1 => some (.ok .nx, σ, S1)
  | none => none
theorem qs_put {o i : Expr} {fo fi : Sl → M D} {pos' : Pos} (hu : X.A.units + 1 < cLine) (ho : QE X EX o fo) (hi : QE X EX i fi) (he : QE X EX e fe)
    (ha : ∀ v, assign (.Subscript o i pos') X.env v = (do
      let ov ← holding [v] (eval o X.env)
      let iv ← holding [v, ov] (eval i X.env)
      standAt pos'
      holding [v, ov, iv] (setItem ov iv v)
      release [v, ov, iv] []) := by intro _; rfl) (hs : swapsWithSole [Expr.Subscript o i pos'] e pos.line X.env = pure false := by rfl) (hw : swappedStores [Expr.Subscript o i pos'] e X.env = pure none := by rfl)
    (h1 : (assignEach [Expr.Subscript o i pos'] X.env).map (·.2) = [assign (Expr.Subscript o i pos') X.env] := by rfl) : QS X EX (.Assign [.Subscript o i pos'] e pos) (mPut fo fi fe) := by
  refine PS_imp (ps_asg he (pg_sub ho hi (put_ok hu) ha) hs hw h1) fun E σ H ⟨w, σd, S, r, σ', S', eq, rp, po⟩ => ?_
  refine run_then eq rp po fun w1 S1 v d H1 l1 e1 rp1 rd po1 => ?_
  show tO X.K X.mg EX (repE X.K) fo σ H1 _
  refine run_then e1 rp1 po1 fun w2 S2 ov od H2 l2 e2 rp2 ro po2 => ?_
  refine run_then e2 rp2 po2 fun w3 S3 iv di H3 l3 e3 rp3 ri po3 => ?_
  split at e3
  · rename_i S4 hp
    cases e3
    exact ⟨w3, S3, od, di, d, _, hp, rp3.rs, RepV.le ro l3, ri, RepV.le rd (l2.trans l3), fun H' rs => po3 w3 σ H' (Le.refl w3) (rp3.of (Le.refl w3) rs)⟩
  · cases e3
def mAugS (op : Op2) (fo fi fe : Sl → M D) : MS := mThen fo fun o => mThen fi fun i => fun σ S => match ixO S o i with
  | some x => mThen fe (fun y => fun σ S => match op S x y with
    | some z => (match putO S o i z with
      | some S1 => some (.ok .nx, σ, S1)
      | none => none)
    | none => none) σ S
  | none => none

abbrev OpM := List Cell → D → List D → Option (D × List Cell)
def rDM (K : PySem.W.Frag) (mg : Str → Option Value) (op : OpM) : V → List V → Hp → VK → Prop := fun x vs H Q => ∃ w S dx ds d S', op S dx ds = some (d, S') ∧ RpS K mg w S H ∧ RepW K w x dx ∧ RepWA K w vs ds ∧
  ∀ v w' H', Le w w' → RpS K mg w' S' H' → RepW K w' v d → Q v H'
def isLst (S : List Cell) (d : D) : Bool := (lstOf S d).isSome
def isDct (S : List Cell) (d : D) : Bool := match d with
  | .loc n => (match S[n]? with | some (.dct _ _) => true | _ => false)
  | _ => false
def mBM (ty : List Cell → D → Bool) (op : OpM) (fo : Sl → M D) (fs : Sl → M (List D)) : Sl → M D := fun σ => (fo σ).bind fun x => M.bind (β := D) (fun S => if ty S x then some (.ok (), S) else none : M Unit) fun _ => (fs σ).bind fun ds => fun S => match op S x ds with
  | some (d, S1) => some (.ok d, S1)
  | none => none
def TyTo (X : Cx) (T : String) (ty : List Cell → D → Bool) : Prop := ∀ w S H x d, RpS X.K X.mg w S H → RepW X.K w x d → ty S d = true → tyV X.K T x H
theorem ty_lst : TyTo X "list" isLst := fun w S H x d rs rv h => by
  obtain ⟨l, hl⟩ := Option.isSome_iff_exists.mp h
  obtain ⟨p, xs, rfl, hs, _⟩ := lstOf_rd rs rv hl
  exact .inl ⟨rfl, xs, hs⟩
theorem ty_dct : TyTo X "dict" isDct := fun w S H x d rs rv h => by
  unfold isDct at h
  split at h
  · split at h
    · rename_i hc
      obtain ⟨p, rfl, h1, h2, h3, c⟩ := loc_at rs rv hc (by intro z; cases z)
      cases c with
      | dct h4 h5 =>
        cases h5 with
        | dK _ _ => exact .inr (.inr (.inl ⟨rfl, .inl ⟨_, h4⟩⟩))
        | dT _ _ => exact .inr (.inr (.inl ⟨rfl, .inr ⟨_, h4⟩⟩))
    · cases h
  · cases h
theorem qe_bm {o : Expr} {fo : Sl → M D} {es : List Expr} {fs : Sl → M (List D)} {name : Str} {apos cpos : Pos} {T id : String} {ty : List Cell → D → Bool} {op : OpM} (pa : PlainAttrs T) (slot : Slot T name id) (hty : typeOf (.builtin id) = pure (.type "method_descriptor"))
    (hm : MtR X id (rDM X.K X.mg op)) (hT : TyTo X T ty) (ho : QE X EX o fo) (ha : QA X EX (e :: es) fs)
    (hbase : attributeBase o name X.env (eval o X.env) = eval o X.env := by rfl)
    (hfew : ((backTo cpos (starEach (e :: es) X.env)).all (fun x => !x.1) && (backToKw cpos (keywordEach [] X.env)).all (fun x => x.1.isSome)
      && decide ((e :: es).length + ([] : List Keyword).length + (if ([] : List Keyword).isEmpty then 0 else 1) < 30)) = true := by rfl)
    (hline : (apos.endLine == cpos.line) = true := by rfl) (hs : starEach (e :: es) X.env = (false, eval e X.env) :: starEach es X.env := by rfl) (hplain : (backTo cpos (starEach es X.env)).any (·.1) = false := by rfl) :
    QE X EX (.Call (.Attribute o name apos) (e :: es) [] cpos) (mBM ty op fo fs) := by
  refine PE_imp (pe_bm pa slot hty hm ho ha hbase hfew hline hs hplain) fun σ H Q ⟨w, σd, S, r, S', eq, rp, po⟩ => ?_
  refine run_bind eq rp po fun w1 S1 x dx H1 l1 e1 rp1 rx po1 => ?_
  by_cases ht : ty S1 dx = true
  · have e2 : ((fs σd).bind fun ds => fun S => match op S dx ds with | some (d, S1) => some (.ok d, S1) | none => none) S1 = some (r, S') := by
      have e1' := e1
      unfold M.bind at e1'
      simp only [ht, if_true] at e1'
      exact e1'
    refine ⟨hT w1 _ H1 x dx rp1.rs rx ht, ?_⟩
    refine run_bind e2 rp1 po1 fun w2 S3 vs ds H2 l2 e3 rp2 rvs po2 => ?_
    cases hop : op S3 dx ds with
    | none => rw [hop] at e3; cases e3
    | some z =>
      obtain ⟨d, S4⟩ := z
      rw [hop] at e3
      cases e3
      exact ⟨w2, S3, dx, ds, d, _, hop, rp2.rs, RepV.le rx l2, rvs, fun v w' H' l rs rv => po2 v w' H' l rs rv⟩
  · unfold M.bind at e1
    simp only [ht] at e1
    cases e1
def oAppend : OpM := fun S x ds => match x, ds with
  | .loc n, [d] => (match S[n]? with
    | some (.lst xs) => if xs.length ≤ LINE then some (.non, S.set n (.lst (xs ++ [d]))) else none
    | _ => none)
  | _, _ => none
theorem m_append : MtR X "list.append" (rDM X.K X.mg oAppend) := fun pins s σ H x xs v us Q I rx rs h => by
  obtain ⟨w, S, dx, ds, d, S', e, rS, r1, r2, q⟩ := h
  unfold oAppend at e
  split at e
  · split at e
    · rename_i hc
      split at e
      · rename_i hl
        cases e
        obtain ⟨p, rfl, h1, h2, h3, c⟩ := loc_at rS r1 hc (by intro z; cases z)
        obtain ⟨y, rfl, ry⟩ := rep1 r2
        cases c with
        | lst h4 h5 =>
          refine mt_append pins s σ H _ _ v us Q I rx rs ⟨p, _, y, rfl, rfl, h4, by rw [RepA.length h5]; exact line_lt hl, ?_⟩
          exact q .non w _ (Le.refl w) (rS.setCell h1 h2 h3 (.lst upd_same (RepA.append h5 (.cons ry .nil)))) .non
      · cases e
    · cases e
  · cases e
def oExtend : OpM := fun S x ds => match x, ds with
  | .loc n, [.lst es] => (match S[n]? with
    | some (.lst xs) => if xs.length + es.length ≤ LINE then some (.non, S.set n (.lst (xs ++ es))) else none
    | _ => none)
  | _, _ => none
theorem m_extend : MtR X "list.extend" (rDM X.K X.mg oExtend) := fun pins s σ H x xs v us Q I rx rs h => by
  obtain ⟨w, S, dx, ds, d, S', e, rS, r1, r2, q⟩ := h
  unfold oExtend at e
  split at e
  · split at e
    · rename_i hc
      split at e
      · rename_i hl
        cases e
        obtain ⟨p, rfl, h1, h2, h3, c⟩ := loc_at rS r1 hc (by intro z; cases z)
        obtain ⟨y, rfl, ry⟩ := rep1 r2
        cases c with
        | lst h4 h5 =>
          cases ry with
          | lst h6 h7 =>
            refine mt_extend pins s σ H _ _ v us Q I rx rs ⟨p, _, _, _, rfl, rfl, h4, rS.lst h6, by rw [RepA.length h5, RepA.length h7]; exact line_le hl, ?_⟩
            exact q .non w _ (Le.refl w) (rS.setCell h1 h2 h3 (.lst upd_same (RepA.append h5 h7))) .non
      · cases e
    · cases e
  · cases e

def loopF (p : Pat) (body : MS) : List D → MS
  | [], σ, S => some (.ok .nx, σ, S)
  | d :: ds, σ, S => match p.put d σ with
    | none => none
    | some σ1 => match body σ1 S with
      | some (.ok .nx, σ2, S2) => loopF p body ds σ2 S2
      | some (.ok .ct, σ2, S2) => loopF p body ds σ2 S2
      | some (.ok .bk, σ2, S2) => some (.ok .nx, σ2, S2)
      | r => r
def mFor (p : Pat) (fi : Sl → M (List D)) (body : MS) : MS := mThen fi fun items => loopF p body items
theorem qs_for {tg iter : Expr} {body : List Stmt} {p : Pat} {fi : Sl → M (List D)} {fb : MS} (hp : PassesOwn (model X.prog X.w) X.A X.env X.xe) (hc : X.calm = true) (hi : QI X EX tg iter fi) (hg : QP X tg p) (hb : QB X EX body fb)
    (hs : ∀ x, foldedSetIterable iter X.env x = pure x := by intro _; rfl) : QS X EX (.For tg iter body [] pos) (mFor p fi fb) := by
  refine PS_imp (ps_for hp hc hi hg hb hs) fun E σ H ⟨w, σd, S, r, σf, Sf, eq, rp, po⟩ => ?_
  refine run_then eq rp po fun w1 S1 J items H1 l1 e1 rp1 it po1 => ?_
  have it : IterOk X.K X.mg w1 J items := it
  refine ⟨fun i m σ H => ∃ w' σd' S', m = items.length - i ∧ i ≤ items.length ∧ Le w1 w' ∧ Rp X.K X.mg w' σd' S' σ H ∧ loopF p fb (items.drop i) σd' S' = some (r, σf, Sf), ⟨items.length, w1, σd, S1, by simp, Nat.zero_le _, Le.refl _, rp1, by simpa using e1⟩, ?_⟩
  rintro i m σ2 H2 ⟨w', σd', S', rfl, hi, lw, rp', hrun⟩
  by_cases hlt : i < items.length
  · refine .inr ⟨it.goes i w' S' H2 hlt lw.x rp'.rs, fun σ H => ∃ w' σd' S', Le w1 w' ∧ Rp X.K X.mg w' σd' S' σ H ∧ loopF p fb (items.drop (i + 1)) σd' S' = some (r, σf, Sf), ?_, ?_⟩
    · rintro σ' H' ⟨w2, σ2, S2, a1, a2, a3⟩
      exact ⟨items.length - (i + 1), by omega, w2, σ2, S2, rfl, hlt, a1, a2, a3⟩
    · intro x Hy hy
      have hd : items[i]? = some items[i] := List.getElem?_eq_getElem hlt
      obtain ⟨wy, ly, ry, rx⟩ := it.yields i _ S' H2 x Hy _ hd lw.x rp'.rs hy
      have hdrop : items.drop i = items[i] :: items.drop (i + 1) := List.drop_eq_getElem_cons hlt
      rw [hdrop, loopF] at hrun
      cases hpp : p.put items[i] σd' with
      | none => rw [hpp] at hrun; cases hrun
      | some σ1 =>
        rw [hpp] at hrun
        refine gPat_ok p items[i] x σd' σ1 σ2 _ rx hpp (rp'.of ly ry) fun σ3 rp3 _ => ?_
        dsimp only at hrun
        cases hb : fb σ1 S' with
        | none => rw [hb] at hrun; cases hrun
        | some z =>
          obtain ⟨rb, σb, Sb⟩ := z
          rw [hb] at hrun
          have lwy := lw.trans ly
          refine ⟨wy, σ1, S', rb, σb, Sb, hb, rp3, ?_⟩
          cases rb with
          | ok o =>
            cases o with
            | nx => exact fun w3 σ' H' l rp4 => ⟨w3, σb, Sb, lwy.trans l, rp4, hrun⟩
            | ct => exact fun w3 σ' H' l rp4 => ⟨w3, σb, Sb, lwy.trans l, rp4, hrun⟩
            | bk =>
              cases hrun
              exact fun w3 σ' H' l rp4 => po1 w3 σ' H' (lwy.trans l) rp4
            | rt d =>
              cases hrun
              exact fun v w3 H' l rs rv => po1 v w3 H' (lwy.trans l) rs rv
          | ex c =>
            cases hrun
            exact fun w3 H' l rs => po1 w3 H' (lwy.trans l) rs
  · have ei : i = items.length := by omega
    subst ei
    refine .inl ⟨it.stops w' S' H2 lw.x rp'.rs, ?_⟩
    rw [List.drop_length, loopF] at hrun
    cases hrun
    exact po1 w' σ2 H2 lw rp'
def FUEL : Nat := 2 ^ 64
def loopW (t : Sl → M Bool) (body : MS) : Nat → MS
  | 0 => fun _ _ => none
  | n + 1 => fun σ S => match t σ S with
    | some (.ok true, S1) => (match body σ S1 with
      | some (.ok .nx, σ2, S2) => loopW t body n σ2 S2
      | some (.ok .ct, σ2, S2) => loopW t body n σ2 S2
      | some (.ok .bk, σ2, S2) => some (.ok .nx, σ2, S2)
      | r => r)
    | some (.ok false, S1) => some (.ok .nx, σ, S1)
    | some (.ex c, S1) => some (.ex c, σ, S1)
    | none => none
def mWhile (t : Sl → M Bool) (body : MS) : MS := loopW t body FUEL
theorem qs_while {body : List Stmt} {fb : MS} (hp : PassesOwn (model X.prog X.w) X.A X.env X.xe) (ht : QT X EX c ft) (hb : QB X EX body fb) : QS X EX (.While c body [] pos) (mWhile ft fb) := by
  refine PS_imp (ps_while hp ht hb) fun E σ H ⟨w, σd, S, r, σf, Sf, eq, rp, po⟩ => ?_
  refine ⟨fun m σ H => ∃ w' σd' S', Le w w' ∧ Rp X.K X.mg w' σd' S' σ H ∧ loopW ft fb m σd' S' = some (r, σf, Sf), ⟨FUEL, w, σd, S, Le.refl w, rp, eq⟩, ?_⟩
  rintro m σ2 H2 ⟨w', σd', S', lw, rp', hrun⟩
  cases m with
  | zero => cases hrun
  | succ n =>
    unfold loopW at hrun
    cases hq : ft σd' S' with
    | none => rw [hq] at hrun; cases hrun
    | some z =>
      obtain ⟨rb, S1⟩ := z
      rw [hq] at hrun
      refine ⟨w', σd', S', rb, S1, hq, rp', ?_⟩
      cases rb with
      | ex c =>
        cases hrun
        exact fun w3 H' l rs => po w3 H' (lw.trans l) rs
      | ok b =>
        intro b' w1 H1 l1 rs1 eb
        have eb : b' = b := eb
        subst eb
        have rp1 := rp'.of l1 rs1
        cases b' with
        | false =>
          dsimp only
          rw [if_neg Bool.false_ne_true]
          cases hrun
          exact po w1 σ2 H1 (lw.trans l1) rp1
        | true =>
          dsimp only at hrun ⊢
          rw [if_pos rfl]
          refine ⟨fun σ H => ∃ w' σd' S', Le w w' ∧ Rp X.K X.mg w' σd' S' σ H ∧ loopW ft fb n σd' S' = some (r, σf, Sf), fun σ' H' h => ⟨n, Nat.lt_succ_self n, h⟩, ?_⟩
          cases hb : fb σd' S1 with
          | none => rw [hb] at hrun; cases hrun
          | some z =>
            obtain ⟨rb, σb, Sb⟩ := z
            rw [hb] at hrun
            refine ⟨w1, σd', S1, rb, σb, Sb, hb, rp1, ?_⟩
            have lw1 := lw.trans l1
            cases rb with
            | ok o =>
              cases o with
              | nx => exact fun w3 σ' H' l rp4 => ⟨w3, σb, Sb, lw1.trans l, rp4, hrun⟩
              | ct => exact fun w3 σ' H' l rp4 => ⟨w3, σb, Sb, lw1.trans l, rp4, hrun⟩
              | bk =>
                cases hrun
                exact fun w3 σ' H' l rp4 => po w3 σ' H' (lw1.trans l) rp4
              | rt d =>
                cases hrun
                exact fun v w3 H' l rs rv => po v w3 H' (lw1.trans l) rs rv
            | ex c =>
              cases hrun
              exact fun w3 H' l rs => po w3 H' (lw1.trans l) rs
end
end Rw
end
section
set_option Elab.async false
set_option linter.all false
set_option maxRecDepth 100000
set_option maxHeartbeats 4000000
namespace Rw
open PySem L2

mutual
def noLoc : D → Bool
  | .loc _ => false
  | .tup ds => noLocs ds
  | .lst ds => noLocs ds
  | .dct _ kvs => noLocP kvs
  | _ => true
def noLocs : List D → Bool
  | [] => true
  | d :: ds => noLoc d && noLocs ds
def noLocP : List (D × D) → Bool
  | [] => true
  | p :: ds => noLoc p.2 && noLocP ds
end
theorem noLocP_map : ∀ kvs : List (D × D), noLocP kvs = noLocs (kvs.map Prod.snd)
  | [] => rfl
  | p :: kvs => by rw [noLocP, List.map_cons, noLocs, noLocP_map kvs]
section
variable {K : PySem.W.Frag} {mg : Str → Option Value} {F F' : Hp} {ρ ρ' : List Addr}
theorem rep_noLoc {v : V} {d : D} (hF : ∀ a u, F a = some u → F' a = some u) (h : RepV K F ρ v d) : noLoc d = true → RepV K F' ρ' v d :=
  RepV.rec (motive_1 := fun v d _ => noLoc d = true → RepV K F' ρ' v d) (motive_2 := fun vs ds _ => noLocs ds = true → RepA K F' ρ' vs ds)
    (fun _ => .non) (fun b _ => .bl b) (fun i _ => .int i) (fun x _ => .str x) (fun n _ => .ty n) (fun h _ i z => .tup (hF _ _ h) (i (by rw [noLoc] at z; exact z))) (fun h _ i z => .lst (hF _ _ h) (i (by rw [noLoc] at z; exact z))) (fun h _ => .scr (scr_mono hF h))
    (fun h e _ i z => .dK (hF _ _ h) e (i (by rw [noLoc, noLocP_map] at z; exact z))) (fun h e _ i z => .dT (hF _ _ h) e (i (by rw [noLoc, noLocP_map] at z; exact z))) (fun h z => by simp [noLoc] at z)
    (fun _ => .nil) (fun _ _ i j z => by
      rw [noLocs, Bool.and_eq_true] at z
      exact .cons (i z.1) (j z.2)) h
theorem repA_noLoc (hF : ∀ a u, F a = some u → F' a = some u) : ∀ {ds : List D} {vs : List V}, RepA K F ρ vs ds → noLocs ds = true → RepA K F' ρ' vs ds
  | _, _, .nil, _ => .nil
  | _, _, .cons h t, z => by
    rw [noLocs, Bool.and_eq_true] at z
    exact .cons (rep_noLoc hF h z.1) (repA_noLoc hF t z.2)
end

def mapO {α β : Type} (f : α → Option β) : List α → Option (List β)
  | [] => some []
  | a :: as => match f a, mapO f as with
    | some b, some bs => some (b :: bs)
    | _, _ => none
/-- d with the places of the store read out -/
def frzC (S : List Cell) : Nat → D → Option D
  | 0, d => if noLoc d then some d else none
  | n + 1, d => if noLoc d then some d else match d with
    | .loc k => (match S[k]? with
      | some (.lst ds) => (mapO (frzC S n) ds).map D.lst
      | some (.dct t kvs) => (mapO (fun p : D × D => (frzC S n p.2).map fun x => (p.1, x)) kvs).map (D.dct t)
      | _ => none)
    | .tup ds => (mapO (frzC S n) ds).map D.tup
    | .lst ds => (mapO (frzC S n) ds).map D.lst
    | _ => none
/-- the frozen part with the lists and dicts of the store -/
def isFz : HO → Bool
  | .lst _ => true
  | .dK _ => true
  | .dT _ => true
  | _ => false
open Classical in
noncomputable def allFz (w : G) (S : List Cell) (H : Hp) : Hp := fun a => if w.F a ≠ none then w.F a else if (∃ (n : Nat) (c : Cell), S[n]? = some c ∧ c ≠ .free ∧ w.ρ[n]? = some a) ∧ (∃ u, H a = some u ∧ isFz u = true) then H a else none
section
variable {K : PySem.W.Frag} {mg : Str → Option Value} {w : G} {S : List Cell} {H : Hp}
theorem allFz_F (a : Addr) (u : HO) (h : w.F a = some u) : allFz w S H a = some u := by
  unfold allFz
  rw [if_pos (by rw [h]; exact fun z => by cases z)]
  exact h
theorem allFz_at {n : Nat} {c : Cell} {p : Addr} {u : HO} (hc : S[n]? = some c) (hn : c ≠ .free) (hp : w.ρ[n]? = some p) (hF : w.F p = none) (hu : H p = some u) (hz : isFz u = true) : allFz w S H p = some u := by
  unfold allFz
  rw [if_neg (by rw [hF]; exact fun z => z rfl), if_pos ⟨⟨n, c, hc, hn, hp⟩, u, hu, hz⟩]
  exact hu
theorem allFz_sub (r : RpS K mg w S H) (a : Addr) (u : HO) (h : allFz w S H a = some u) : H a = some u ∨ (isDc u = true ∧ ∃ o, H a = some (.frz o u)) := by
  unfold allFz at h
  split at h
  · exact r.fr a u h
  · split at h
    · exact .inl h
    · cases h
theorem allFz_new (r : RpS K mg w S H) (a : Addr) (h : allFz w S H a ≠ none) : w.F a ≠ none ∨ w.B a = none := by
  unfold allFz at h
  split at h
  · rename_i q; exact .inl q
  · split at h
    · rename_i q
      obtain ⟨⟨n, c, h1, h2, h3⟩, _⟩ := q
      rcases r.cells n c h1 with z | ⟨p, z1, z2, z3, _⟩
      · exact absurd z h2
      · rw [h3] at z1
        cases z1
        exact .inr z3
    · exact absurd rfl h
theorem mapO_rep {F : Hp} {ρ : List Addr} {f : D → Option D} {P : V → D → Prop} (h : ∀ d e v, f d = some e → P v d → RepV K F ρ v e) : ∀ {ds es : List D} {vs : List V}, mapO f ds = some es → List.length vs = ds.length → (∀ (i : Nat) v d, vs[i]? = some v → ds[i]? = some d → P v d) → RepA K F ρ vs es
  | [], es, vs, e, hl, _ => by
    simp [mapO] at e
    subst e
    cases vs with
    | nil => exact .nil
    | cons _ _ => cases hl
  | d :: ds, es, vs, e, hl, hp => by
    cases vs with
    | nil => cases hl
    | cons v vs =>
      rw [mapO] at e
      split at e
      · rename_i b bs h1 h2
        cases e
        exact .cons (h d b v h1 (hp 0 v d rfl rfl)) (mapO_rep h h2 (by simpa using hl) fun i v d a b => hp (i + 1) v d (by simpa using a) (by simpa using b))
      · cases e
theorem repA_at {F : Hp} {ρ : List Addr} {ds : List D} {vs : List V} (h : RepA K F ρ vs ds) (i : Nat) (v : V) (d : D) (a : vs[i]? = some v) (b : ds[i]? = some d) : RepV K F ρ v d := by
  obtain ⟨v', h1, h2⟩ := RepA.get h b
  rw [a] at h1
  cases h1
  exact h2
theorem mapO_fst {f : D → Option D} : ∀ {ds es : List (D × D)}, mapO (fun p : D × D => (f p.2).map fun x => (p.1, x)) ds = some es → es.map Prod.fst = ds.map Prod.fst ∧ mapO f (ds.map Prod.snd) = some (es.map Prod.snd)
  | [], es, e => by simp [mapO] at e; subst e; exact ⟨rfl, rfl⟩
  | d :: ds, es, e => by
    rw [mapO] at e
    split at e
    · rename_i b bs h1 h2
      cases e
      simp only [Option.map_eq_some_iff] at h1
      obtain ⟨x, h3, rfl⟩ := h1
      obtain ⟨i1, i2⟩ := mapO_fst h2
      refine ⟨by rw [List.map_cons, List.map_cons, i1], ?_⟩
      rw [List.map_cons, mapO, h3, i2]
      rfl
    · cases e
theorem frzC_rep (r : RpS K mg w S H) (ρ : List Addr) : ∀ (n : Nat) (d e : D) (v : V), frzC S n d = some e → RepW K w v d → RepV K (allFz w S H) ρ v e
  | 0, d, e, v, h, rv => by
    rw [frzC] at h
    split at h
    · rename_i z
      cases h
      exact rep_noLoc allFz_F rv z
    · cases h
  | n + 1, d, e, v, h, rv => by
    unfold frzC at h
    split at h
    · rename_i z
      cases h
      exact rep_noLoc allFz_F rv z
    · have ih := frzC_rep r ρ n
      split at h
      · split at h
        · rename_i hc
          simp only [Option.map_eq_some_iff] at h
          obtain ⟨es, h1, rfl⟩ := h
          obtain ⟨p, rfl, a1, a2, a3, c⟩ := loc_at r rv hc (by intro z; cases z)
          cases c with
          | lst h4 h5 =>
            exact .lst (allFz_at hc (by intro z; cases z) a1 a2 h4 rfl) (mapO_rep (P := fun v d => RepW K w v d) (fun d e v a b => ih d e v a b) h1 (RepA.length h5) (repA_at h5))
        · rename_i hc
          simp only [Option.map_eq_some_iff] at h
          obtain ⟨es, h1, rfl⟩ := h
          obtain ⟨p, rfl, a1, a2, a3, c⟩ := loc_at r rv hc (by intro z; cases z)
          obtain ⟨m1, m2⟩ := mapO_fst h1
          cases c with
          | dct h4 h5 =>
            cases h5 with
            | dK k1 k2 => exact .dK (allFz_at hc (by intro z; cases z) a1 a2 h4 rfl) (m1.trans k1) (mapO_rep (P := fun v d => RepW K w v d) (fun d e v a b => ih d e v a b) m2 (RepA.length k2) (repA_at k2))
            | dT k1 k2 => exact .dT (allFz_at hc (by intro z; cases z) a1 a2 h4 rfl) (m1.trans k1) (mapO_rep (P := fun v d => RepW K w v d) (fun d e v a b => ih d e v a b) m2 (RepA.length k2) (repA_at k2))
        · cases h
      · simp only [Option.map_eq_some_iff] at h
        obtain ⟨es, h1, rfl⟩ := h
        cases rv with
        | tup h4 h5 => exact .tup (allFz_F _ _ h4) (mapO_rep (P := fun v d => RepW K w v d) (fun d e v a b => ih d e v a b) h1 (RepA.length h5) (repA_at h5))
      · simp only [Option.map_eq_some_iff] at h
        obtain ⟨es, h1, rfl⟩ := h
        cases rv with
        | lst h4 h5 => exact .lst (allFz_F _ _ h4) (mapO_rep (P := fun v d => RepW K w v d) (fun d e v a b => ih d e v a b) h1 (RepA.length h5) (repA_at h5))
      · cases h
end

abbrev Fp := List D → Option (R D)
def EXof (mg : Str → Option Value) (E : XK) : EXT := fun c H => ∃ C, mg c = some (.ref C) ∧ E (.ref C) none H
def SubF (F H : Hp) : Prop := ∀ a u, F a = some u → H a = some u ∨ (isDc u = true ∧ ∃ o, H a = some (.frz o u))
def spP (K : PySem.W.Frag) (EW : XK → EXT) (n : Nat) (f : Fp) : Sp := fun vs H Q E => ∃ F ds r, f ds = some r ∧ vs.length = n ∧ SubF F H ∧ RepA K F [] vs ds ∧ match r with
  | .ok d => ∀ v F' H', (∀ a u, F a = some u → F' a = some u) → (∀ a, F' a ≠ none → F a ≠ none ∨ H a = none) → (∀ a u, H a = some u → H' a = some u) → SubF F' H' → RepV K F' [] v d → Q v H'
  | .ex c => ∀ H', (∀ a u, H a = some u → H' a = some u) → EW E c H'
/-- a body run at its arguments -/
def runP (n : Nat) (body : MS) : Fp := fun ds => match body (ds.map some ++ List.replicate (n - ds.length) none) [] with
  | some (.ok (.rt d), _, S) => (frzC S 4 d).map R.ok
  | some (.ok .nx, _, _) => some (.ok .non)
  | some (.ex c, _, _) => some (.ex c)
  | _ => none
/-- .. with so many arguments -/
def defP (np n : Nat) (body : MS) : Fp := fun ds => if ds.length = np then runP n body ds else none
theorem defP_len {np n : Nat} {body : MS} (ds : List D) (r : R D) (h : defP np n body ds = some r) : ds.length = np := by
  unfold defP at h
  split at h
  · assumption
  · cases h
theorem slR_start {K : PySem.W.Frag} {w : G} {N : List Str} {vs : List V} {ds : List D} (h : RepWA K w vs ds) : SlR K w (ds.map some ++ List.replicate (N.length - ds.length) none) (L2.start N vs) := fun i d e => by
  unfold L2.start
  by_cases hi : i < ds.length
  · rw [List.getElem?_append_left (by simpa using hi), List.getElem?_map] at e
    cases q : ds[i]? with
    | none => rw [q] at e; cases e
    | some x =>
      rw [q] at e
      cases e
      obtain ⟨v, h1, h2⟩ := RepA.get h q
      refine ⟨v, ?_, h2⟩
      rw [List.getElem?_append_left (by rw [List.length_map, RepA.length h]; exact hi), List.getElem?_map, h1]
      rfl
  · rw [List.getElem?_append_right (by simpa using hi)] at e
    rw [List.getElem?_replicate] at e
    split at e <;> cases e
theorem run_start {K : PySem.W.Frag} {mg : Str → Option Value} {EW : XK → EXT} {N : List Str} {fb : MS} {n : Nat} {vs : List V} {H : Hp} {Q : VK} {E : XK} (h : spP K EW n (runP N.length fb) vs H Q E) : tSO K mg (EW E) fb { nx := fun _ H' => Q .non H', rt := Q } (L2.start N vs) H := by
  obtain ⟨F, ds, r, e, hn, sub, ra, po⟩ := h
  have rs0 : RpS K mg ⟨H, F, [], []⟩ [] H := ⟨fun a u h => .inl h, sub, fun n c e => by simp at e, rfl, fun m n p h => by simp at h, fun n p h => by simp at h, fun a h => by cases h⟩
  have rp0 : Rp K mg ⟨H, F, [], []⟩ (ds.map some ++ List.replicate (N.length - ds.length) none) [] (L2.start N vs) H := ⟨rs0, slR_start ra, by
    unfold L2.start
    simp only [List.length_append, List.length_map, List.length_replicate]
    rw [RepA.length ra]⟩
  have same : ∀ {w' : G} {S' : List Cell} {H' : Hp}, Le ⟨H, F, [], []⟩ w' → RpS K mg w' S' H' → ∀ a u, H a = some u → H' a = some u := fun {w' S' H'} l rs a u h => by
    rcases rs.bg a u (by rw [l.B]; exact h) with q | ⟨q, _⟩
    · exact q
    · rw [l.L] at q; cases q
  unfold runP at e
  cases hb : fb (ds.map some ++ List.replicate (N.length - ds.length) none) [] with
  | none => rw [hb] at e; cases e
  | some z =>
    obtain ⟨rb, σf, Sf⟩ := z
    rw [hb] at e
    refine ⟨_, _, _, rb, σf, Sf, hb, rp0, ?_⟩
    cases rb with
    | ex c =>
      cases e
      exact fun w' H' l rs => po H' (same l rs)
    | ok o =>
      cases o with
      | nx =>
        cases e
        exact fun w' σ' H' l rp => po .non w'.F H' l.F (fun a h => by
          rcases l.new a h with q | q
          · exact .inl q
          · exact .inr q) (same l rp.rs) rp.rs.fr .non
      | bk => cases e
      | ct => cases e
      | rt d =>
        have e' : (frzC Sf 4 d).map R.ok = some r := e
        simp only [Option.map_eq_some_iff] at e'
        obtain ⟨d', hd, rfl⟩ := e'
        intro v w' H' l rs rv
        refine po v (allFz w' Sf H') H' (fun a u h => allFz_F a u (l.F a u h)) (fun a h => ?_) (same l rs) (allFz_sub rs) (frzC_rep rs [] 4 d d' v hd rv)
        rcases allFz_new rs a h with q | q
        · rcases l.new a q with z | z
          · exact .inl z
          · exact .inr z
        · rw [l.B] at q; exact .inr q
theorem defP_sp {K : PySem.W.Frag} {EW : XK → EXT} {np n : Nat} {fb : MS} {m : Nat} {vs : List V} {H : Hp} {Q : VK} {E : XK} (h : spP K EW m (defP np n fb) vs H Q E) : spP K EW m (runP n fb) vs H Q E := by
  obtain ⟨F, ds, r, e, hn, sub, ra, po⟩ := h
  unfold defP at e
  split at e
  · exact ⟨F, ds, r, e, hn, sub, ra, po⟩
  · cases e
section
open PyProof.Rows PySem.Spec
/-- a def of the text by its body: nothing leaves it by an exception -/
abbrev NX : XK → EXT := fun _ => EX0
theorem fun_ok0 {P : Program} {w : World} {K : PySem.W.Frag} {mg : Str → Option Value} {base : Heap} {x qual : Str} {params : Arguments} {body : List Stmt} {scope : Scope} {f : Addr} {fd : FuncData} {N ps : List Str} {k : Nat} {fb : MS} (F : FunD K x qual params body scope [] [] f fd) (S : FnScope N ps scope)
    (h : ∀ (cdv : Value) (A : Around) (outer : List Env) (s : Shared) (H : Hp) (E : XK), Room k (A.deeper (envOfC qual scope s.heap.objs.size f cdv)) → QB (cxOf CX0 P w K mg base N qual scope f cdv A outer s H E).nox EX0 body fb) :
    FnOk P w K mg base CX0 (k + 1) f fd ps (spP K NX ps.length (defP ps.length N.length fb)) := by
  refine F.ok S (fun vs H Q E h => ?_) (fun cdv A outer s H vs Q E hr hsp => ⟨_, PSs.nox (h cdv A outer s H E hr), run_start (defP_sp hsp)⟩)
  obtain ⟨_, _, _, _, hn, _⟩ := h
  exact hn
/-- .. that may raise -/
theorem fun_okX {P : Program} {w : World} {K : PySem.W.Frag} {mg : Str → Option Value} {base : Heap} {x qual : Str} {params : Arguments} {body : List Stmt} {scope : Scope} {f : Addr} {fd : FuncData} {N ps : List Str} {k : Nat} {fb : MS} (F : FunD K x qual params body scope [] [] f fd) (S : FnScope N ps scope)
    (h : ∀ (cdv : Value) (A : Around) (outer : List Env) (s : Shared) (H : Hp) (E : XK), Room k (A.deeper (envOfC qual scope s.heap.objs.size f cdv)) → QB (cxOf (L2.CX P w) P w K mg base N qual scope f cdv A outer s H E) (EXof mg E) body fb) :
    FnOk P w K mg base (L2.CX P w) (k + 1) f fd ps (spP K (EXof mg) ps.length (defP ps.length N.length fb)) := by
  refine F.ok S (fun vs H Q E h => ?_) (fun cdv A outer s H vs Q E hr hsp => ⟨_, h cdv A outer s H E hr, run_start (defP_sp hsp)⟩)
  obtain ⟨_, _, _, _, hn, _⟩ := h
  exact hn
end

def M.ofR {α : Type} (o : Option (R α)) : M α := fun S => o.map fun r => (r, S)
def mCall (f : Fp) (fs : Sl → M (List D)) : Sl → M D := fun σ => (fs σ).bind fun ds => if noLocs ds then M.ofR (f ds) else M.fail
section
variable {X : Cx} {EX : EXT} {CX : CXT} {EW : XK → EXT} {k : Nat} {fa : Addr} {fd : FuncData} {ps : List Str} {E : XK} {x : Str} {p pos : Pos} {e : Expr} {es : List Expr} {fs : Sl → M (List D)} {f : Fp}
theorem call_red {σ : L2.St} {H : Hp} {Q : VK} (hE : ∀ c H, EX c H → EW E c H) {n : Nat} (hn : ∀ ds r, f ds = some r → ds.length = n) (h : tO X.K X.mg EX (repE X.K) (mCall f fs) σ H Q) : tCall (spP X.K EW n f) [] E (tO X.K X.mg EX (repL X.K) fs) σ H Q := by
  obtain ⟨w, σd, S, r, S', eq, rp, po⟩ := h
  refine run_bind eq rp po fun w1 S1 vs ds H1 l1 e1 rp1 ra po1 => ?_
  split at e1
  · rename_i hz
    simp only [M.ofR, Option.map_eq_some_iff] at e1
    obtain ⟨r', hf, h2⟩ := e1
    cases h2
    rw [List.append_nil]
    refine ⟨w1.F, ds, r, hf, by rw [RepA.length ra]; exact hn ds r hf, rp1.rs.fr, repA_noLoc (fun _ _ h => h) ra hz, ?_⟩
    cases r with
    | ok d =>
      intro v F' H' h1 h2 h3 h4 h5
      have lw : Le w1 { w1 with F := F' } := ⟨rfl, rfl, h1, fun a z => by
        rcases h2 a z with q | q
        · exact .inl q
        · exact .inr (rp1.rs.freshB q), fun _ _ h => h, fun _ h => .inl h⟩
      refine po1 v _ H' lw ?_ (RepV.mono (fun _ _ h => h) (fun n p h => by simp at h) h5)
      refine ⟨fun a u q => ?_, h4, fun n c q => ?_, rp1.rs.len, rp1.rs.inj, fun n q z => ?_, fun a q z => ?_⟩
      · rcases rp1.rs.bg a u q with z | ⟨z1, z2, o, z⟩
        · exact .inl (h3 a u z)
        · exact .inr ⟨z1, z2, o, h3 a _ z⟩
      · rcases rp1.rs.cells n c q with z | ⟨b, z1, z2, z3, z4⟩
        · exact .inl z
        · obtain ⟨u, hu⟩ := z4.some
          refine .inr ⟨b, z1, ?_, z3, z4.le lw ?_⟩
          · cases q2 : F' b with
            | none => exact q2
            | some u2 =>
              rcases h2 b (by rw [q2]; exact fun z => by cases z) with q3 | q3
              · exact absurd z2 q3
              · rw [hu] at q3; cases q3
          · rw [h3 b u hu, hu]
      · intro zz
        cases q2 : H1 q with
        | none => exact rp1.rs.alive n q z q2
        | some u2 => rw [h3 q u2 q2] at zz; cases zz
      · cases q2 : H1 a with
        | none => exact rp1.rs.lk a q q2
        | some u2 => rw [h3 a u2 q2] at z; cases z
    | ex c =>
      intro H' h3
      refine hE c H' (po1 w1 H' (Le.refl w1) ?_)
      refine ⟨fun a u q => ?_, fun a u q => ?_, fun n c q => ?_, rp1.rs.len, rp1.rs.inj, fun n q z zz => ?_, fun a q z => ?_⟩
      · rcases rp1.rs.bg a u q with z | ⟨z1, z2, o, z⟩
        · exact .inl (h3 a u z)
        · exact .inr ⟨z1, z2, o, h3 a _ z⟩
      · rcases rp1.rs.fr a u q with z | ⟨z1, o, z⟩
        · exact .inl (h3 a u z)
        · exact .inr ⟨z1, o, h3 a _ z⟩
      · rcases rp1.rs.cells n c q with z | ⟨b, z1, z2, z3, z4⟩
        · exact .inl z
        · obtain ⟨u, hu⟩ := z4.some
          exact .inr ⟨b, z1, z2, z3, z4.le (Le.refl w1) (by rw [h3 b u hu, hu])⟩
      · cases q2 : H1 q with
        | none => exact rp1.rs.alive n q z q2
        | some u2 => rw [h3 q u2 q2] at zz; cases zz
      · cases q2 : H1 a with
        | none => exact rp1.rs.lk a q q2
        | some u2 => rw [h3 a u2 q2] at z; cases z
  · cases e1
theorem qe_call {np : Nat} (F : FnOk X.prog X.w X.K X.mg X.base CX k fa fd ps (spP X.K EW np f)) (hn : ∀ ds r, f ds = some r → ds.length = np) (hr : Room k X.A) (hm : X.mg x = some (.ref fa)) (hk : PySem.W.keepIn X.K (.ref fa) = true) (hb : Binds X.K fd ps []) (hx : Passes CX X E) (hE : ∀ c H, EX c H → EW E c H)
    (ha : QA X EX (e :: es) fs) (hg : Gl X x := by rfl) (hdb : (x == ("__debug__" : Str)) = false := by decide) (he : starEach (e :: es) X.env = (false, eval e X.env) :: starEach es X.env := by rfl) (hpl : (backTo pos (starEach es X.env)).any (·.1) = false := by rfl) :
    QE X EX (.Call (.Name x p) (e :: es) [] pos) (mCall f fs) := PE_imp (pe_call F hr hg hm hk hb .nil hx ha hdb he hpl) fun _ _ _ h => call_red hE hn h
end
end Rw
end
section
set_option Elab.async false
set_option linter.all false
set_option maxRecDepth 100000
set_option maxHeartbeats 4000000
namespace Rw
open PySem L2 PyProof.Rows

theorem meets_enumT (t : Addr) (items : Array Value) :
    Meets (Builtin.«enumerate.__new__» ⟨[.type "enumerate", .ref t], []⟩) (fun _ R s => s.heap.IsTuple t items ∧
      R (.ok (.ret (.ref (s.heap.push { cls := .type "tuple_iterator", data := .fields #[.ref t, .int 0 0] }).objs.size)))
        { s with heap := (s.heap.push { cls := .type "tuple_iterator", data := .fields #[.ref t, .int 0 0] }).push { cls := .type "enumerate", data := .fields #[.none, .bool false, .ref s.heap.objs.size, rawInt 0, .none, .none] } }) :=
  .of_wp fun prog w A R s h => by
    obtain ⟨hp, g, d, tk, os⟩ := s
    obtain ⟨h1, h⟩ := h
    have hsub := sub_enumerate
    have q1 : ∀ {A' : Around} {E : Value → Shared → Prop} {Q : Value → Shared → Prop}, Q (.ref hp.objs.size) ⟨hp.push { cls := .type "tuple_iterator", data := .fields #[.ref t, .int 0 0] }, g, d, tk, os⟩ → wpAny (model prog w) A' (pyIter (.ref t)) Q E ⟨hp, g, d, tk, os⟩ :=
      fun q => wpAny_pyIter_tuple h1 q
    wp_walk using q1
    refine wpAny_stack_any fun st => wpAny_pure ?_
    split
    · rename_i c _ _ _ _ _
      cases (c == Value.type "enumerate")
      · wp_walk using q1
        exact ⟨_, rfl, h⟩
      · wp_walk using q1
        exact ⟨_, rfl, h⟩
    · wp_walk using q1
      exact ⟨_, rfl, h⟩
theorem call_enumT {prog : Program} {w : World} {A : Around} {E : Value → Shared → Prop} {s : Shared} {t : Addr} {items : Array Value} {Q : Value → Shared → Prop} (hL : s.heap.IsTuple t items)
    (h : ∀ h', IsEnum h' (s.heap.objs.size + 1) s.heap.objs.size 0 .none → h'.IsTupleIter s.heap.objs.size t 0 →
      (∀ b o, s.heap.get? b = some o → h'.get? b = some o) → Q (.ref (s.heap.objs.size + 1)) { s with heap := h' }) :
    wpAny (model prog w) A (call (.type "enumerate") [.ref t]) Q E s := by
  refine callType_new F.called_enumerate (by decide) (F.typeCall_enumerate_1 _) (F.newCall_enumerate_1 _) (fun obj => F.args_object_init_2 obj _) F.entry_enumerate_new
    (meets_enumT t items) ⟨hL, ?_⟩
  have hz : (s.heap.push { cls := .type "tuple_iterator", data := .fields #[.ref t, .int 0 0] }).objs.size = s.heap.objs.size + 1 := Heap.size_push ..
  show _ ∧ _
  rw [hz]
  have he : IsEnum ((s.heap.push { cls := .type "tuple_iterator", data := .fields #[.ref t, .int 0 0] }).push
      { cls := .type "enumerate", data := .fields #[.none, .bool false, .ref s.heap.objs.size, rawInt 0, .none, .none] }) (s.heap.objs.size + 1) s.heap.objs.size 0 .none := by
    have := Heap.get?_push_size (s.heap.push { cls := .type "tuple_iterator", data := .fields #[.ref t, .int 0 0] })
      (o := { cls := .type "enumerate", data := .fields #[.none, .bool false, .ref s.heap.objs.size, rawInt 0, .none, .none] }) rfl
    rw [hz] at this; exact this
  exact ⟨⟨_, he, rfl⟩, h _ he ⟨_, Heap.get?_push_of_some _ (Heap.get?_push_size _ rfl), rfl, rfl⟩ fun b o x => Heap.get?_push_of_some _ (Heap.get?_push_of_some _ x)⟩
/-- the tuple at a as it stands at each turn, each item in a new pair -/
def ItetT (K : PySem.W.Frag) (a : Addr) : It :=
  ⟨fun i H => ∃ (xs : List V) (x : V), SqT K H a xs ∧ xs[i]? = some x, fun i H v H' => ∃ T x, v = .ref T ∧ H T = none ∧ H' = upd H T (.tup [.int (i : Nat), x]) ∧ ∀ xs, SqT K H a xs → xs[i]? = some x, fun i H => ∃ xs : List V, SqT K H a xs ∧ xs.length = i⟩
theorem tupIs {h : Heap} {a : Addr} {its : Array Value} (p : PyProof.Rows.IsTup h a its) : h.IsTuple a its := by
  obtain ⟨o, h1, h2, n, h3⟩ := p
  exact ⟨o, h1, h2, n, h3⟩
theorem turn_enumT {P : Program} {w : World} {K : PySem.W.Frag} {elts : List Expr} {kk : Nat} {tpos : Pos} (a e it : Addr) :
    Turn P w K (.Tuple elts kk tpos) (ItetT K a) [e, it] e (fun i h => (∃ old, IsEnum h e it ((i : Nat) : Int) old) ∧ h.IsTupleIter it a i ∧ e ≠ it ∧ a ≠ it ∧ a ≠ e) where
  mem := by simp
  obj := fun i h st b hb => by
    obtain ⟨⟨old, he⟩, ⟨o, ho, hc, hd⟩, _⟩ := st
    have e' : b = e ∨ b = it := by simpa using hb
    rcases e' with z | z
    · rw [z]; exact ⟨_, he, fun v q => nomatch q⟩
    · rw [z]; exact ⟨o, ho, fun v q => by rw [hd] at q; cases q⟩
  keep := fun i h h' st k => let ⟨⟨old, he⟩, hi, hne⟩ := st; ⟨⟨old, k e (by simp) _ he⟩, hi.at fun o q => k it (by simp) o q, hne⟩
  item := by
    intro X hP hw hK hc i pins s σ H E I hf st hg
    subst hP hw hK
    obtain ⟨⟨old, he⟩, hit, hne, hai, hae⟩ := st
    obtain ⟨xs, x, hq, hx⟩ := hg
    obtain ⟨its, rv, p, hz⟩ := I.tuple hq
    obtain ⟨u, hu, ru⟩ := rv.get hx
    have hel : e < s.heap.objs.size := Heap.lt_size he
    have hil : it < s.heap.objs.size := by obtain ⟨_, q, _⟩ := hit; exact Heap.lt_size q
    have hlen := rv.length
    have hi : i < its.toArray.size := by
      have := (List.getElem?_eq_some_iff.mp hu).1
      simpa using this
    have e1 : ((i + 1 : Nat) : Int) = (i : Int) + 1 := by omega
    refine wpAny_pyNext_enum_itemD (Draws.tuple (A := X.A.in1) (show X.A.in1.handled = none from I.ok.hd hc) it a hai its.toArray) he ⟨hit, tupIs p⟩ hi hne (by simp [hne, Ne.symm hae]) fun x' h' tk hP' ho hit' hT hsz hk => ?_
    have hxu : x' = u := by
      have : its[i]? = some x' := by simpa using hP'
      rw [hu] at this
      exact (Option.some.inj this).symm
    subst hxu
    refine ⟨_, rfl, wpAny_letOwnedTupleGo_enum (s := { s with heap := h', toks := tk + 1 }) ho fun h'' he' sb => ?_⟩
    have hT2 : h''.get? s.heap.objs.size = some { cls := .type "tuple", data := .seq #[.int i tk, x'] } := (sb.2 _ (Nat.ne_of_gt hel)).trans hT
    have new : ObjOk X.prog X.w (upd H s.heap.objs.size (.tup [.int (i : Nat), x])) h'' s.heap.objs.size (.tup [.int (i : Nat), x]) :=
      ⟨by show 2 ≤ sizeLine; decide, [.int i tk, x'], .cons ⟨_, rfl⟩ (.cons ru .nil), ⟨_, hT2, rfl, _, rfl⟩⟩
    have I1 : Inv X pins σ (upd H s.heap.objs.size (.tup [.int (i : Nat), x])) { s with heap := h'', toks := tk + 1 } :=
      I.turnedNew (ch := [e, it]) (fun b ob hb q => (sb.2 b (fun z => hb (by simp [z]))).trans (hk b ob (fun z => hb (by simp [z])) (fun z => hb (by simp [z])) q)) hf (Nat.le_refl _) new
    refine ⟨.ref s.heap.objs.size, _, I1, rfl, ⟨_, x, rfl, I.hok.fresh (Nat.le_refl _), rfl, fun ys hy => by rw [I.tuple_inj hy hq]; exact hx⟩, ⟨⟨x', ?_⟩, hit'.1.at fun o q => (sb.2 it (Ne.symm hne)).trans q, hne, hai, hae⟩, fun b hb => ?_⟩
    · rw [e1]; exact he'
    · have hb' : b < s.heap.objs.size := by
        have e' : b = e ∨ b = it := by simpa using hb
        rcases e' with z | z
        · rw [z]; exact hel
        · rw [z]; exact hil
      rw [upd_ne (Nat.ne_of_lt hb')]
      exact (hf b hb).1
  done := by
    intro X hP hw hK hc i pins s σ H E I hf st hg
    subst hP hw hK
    obtain ⟨⟨old, he⟩, hit, hne, hai, hae⟩ := st
    obtain ⟨xs, hq, hx⟩ := hg
    obtain ⟨its, rv, p, hz⟩ := I.tuple hq
    obtain ⟨f0, f1, f2, f3, f4, f5⟩ := hf it (by simp)
    have hl := rv.length
    have hsz : its.toArray.size = i := by simp; omega
    refine wpAny_pyNext_enum_endD (Draws.tuple (A := X.A.in1) (show X.A.in1.handled = none from I.ok.hd hc) it a hai its.toArray) he ⟨by rw [hsz]; exact hit, tupIs p⟩ fun h' eb => ⟨rfl, I.turned (t' := s.toks) (fun b o hb q => eb b o hb q) f0 f1 f3 f4 f5⟩
  self := fun A i s Q E st h => let ⟨⟨_, he⟩, _⟩ := st; wpAny_pyIter_enum he h
def iEnumT (K : PySem.W.Frag) (ta : TA) : TI := fun σ H R => ta σ H fun vs H1 => ∃ a xs, vs = [.ref a] ∧ SqT K H1 a xs ∧ R (ItetT K a) H1
theorem pi_enumT {X : Cx} {e : Expr} {ta : TA} {p pos tpos : Pos} {elts : List Expr} {kk : Nat} (hg : Gl X "enumerate") (hm : X.mg "enumerate" = none) (ha : PA X [e] ta) (hs : starEach [e] X.env = [(false, eval e X.env)] := by rfl) :
    PI X (.Tuple elts kk tpos) (.Call (.Name "enumerate" p) [e] [] pos) (iEnumT X.K ta) := by
  refine ⟨fun pins s σ H R I h => ?_⟩
  refine Call_ (ld_blt I hg hm boot_enumerate (PyProof.Rows.callWith_type1 (thn (ha.run pos pins s σ H _ I h) fun us s1 ⟨vs, H1, I1, r1, q1⟩ => ?_) hs rfl))
  obtain ⟨a, xs, ex, hq, q⟩ := q1
  subst ex
  cases r1 with
  | cons r rr =>
    cases rr
    cases r
    obtain ⟨its, rv, p', hz⟩ := I1.tuple hq
    have hal : a < s1.heap.objs.size := by obtain ⟨_, z, _⟩ := p'; exact Heap.lt_size z
    refine call_enumT (tupIs p') fun h' he hit hk => wpAny_pyIter_enum he ?_
    have I2 : Inv X pins σ H1 { s1 with heap := h' } := I1.kept (t' := s1.toks) hk
    refine ⟨s1.heap.objs.size + 1, [s1.heap.objs.size + 1, s1.heap.objs.size], _, _, H1, rfl, I2, turn_enumT a (s1.heap.objs.size + 1) s1.heap.objs.size, ⟨⟨.none, he⟩, hit, Nat.succ_ne_self _, Nat.ne_of_lt hal, Nat.ne_of_lt (Nat.lt_succ_of_lt hal)⟩, fun b hb => ?_, q⟩
    have e' : b = s1.heap.objs.size + 1 ∨ b = s1.heap.objs.size := by simpa using hb
    have hle : s1.heap.objs.size ≤ b := by
      rcases e' with z | z
      · rw [z]; exact Nat.le_add_right _ _
      · rw [z]; exact Nat.le_refl _
    exact I1.fpOk hle (I1.hok.fresh hle)
section
variable {K : PySem.W.Frag} {mg : Str → Option Value} {w w' : G} {S : List Cell} {H : Hp} {p a b : Addr} {xs ys : List V} {ds es : List D}
theorem it_enumT (h : w.F a = some (.tup xs)) (ra : RepWA K w xs ds) : IterOk K mg w (ItetT K a) (enumD 0 ds) where
  goes := fun i w' S H hi l r => by
    rw [enumD_length] at hi
    exact ⟨xs, xs[i]'(by rw [RepA.length ra]; exact hi), SqT.of (r.tup (l.F _ _ h)), by simp⟩
  stops := fun w' S H l r => ⟨xs, SqT.of (r.tup (l.F _ _ h)), by rw [enumD_length, RepA.length ra]⟩
  yields := fun i w' S H x H' d e l r y => by
    obtain ⟨T, x1, rfl, hT, rfl, f1⟩ := y
    obtain ⟨d1, g1, rfl⟩ := enumD_get e
    obtain ⟨v1, k1, r1⟩ := RepA.get ra g1
    have q1 := f1 xs (SqT.of (r.tup (l.F _ _ h)))
    rw [k1] at q1
    cases q1
    rw [Nat.zero_add]
    exact new_pair r hT (.int _) (RepV.xle r1 l)
end
section
variable {X : Cx} {EX : EXT} {tg a b : Expr} {fa fb : Sl → M D} {pos p : Pos}
def mEn (f : Sl → M D) : Sl → M (List D) := fun σ => (f σ).bind fun d => M.rd fun _ => (frzSeq d).map (enumD 0)
theorem qi_en {elts : List Expr} {kk : Nat} {tpos : Pos} (hg : Gl X "enumerate") (hm : X.mg "enumerate" = none) (ha : QE X EX a fa) (hs : starEach [a] X.env = [(false, eval a X.env)] := by rfl) :
    QI X EX (.Tuple elts kk tpos) (.Call (.Name "enumerate" p) [a] [] pos) (mEn fa) := by
  refine ⟨fun pins s σ H Q I ⟨w, σd, S, r, S', e, rp, po⟩ => ?_⟩
  by_cases ht : ∃ us S1, fa σd S = some (.ok (.tup us), S1)
  · obtain ⟨us, S1, h1⟩ := ht
    refine (pi_enumT hg hm (pa_cons ha pa_nil hs) hs).run pins s σ H Q I ?_
    refine run_bindQ e rp po fun w1 S1 x dx H1 eq l1 e1 rp1 rx po1 => ?_
    rw [h1] at eq
    cases eq
    obtain ⟨d, ed, rfl, rfl⟩ := rd_some e1
    simp only [Option.map_eq_some_iff] at ed
    obtain ⟨ds, ed, rfl⟩ := ed
    obtain ⟨p, xs, rfl, ra, h2⟩ := frzL_rd rx ed
    rcases h2 with ⟨_, _, h3⟩ | ⟨h3, _⟩
    · exact ⟨p, xs, rfl, SqT.of (rp1.rs.tup h3), po1 _ _ _ (Le.refl _) rp1.rs (it_enumT h3 ra)⟩
    · exact absurd rfl (h3 _)
  · refine (pi_enum hg hm (pa_cons ha pa_nil hs) hs).run pins s σ H Q I ?_
    refine run_bindQ e rp po fun w1 S1 x dx H1 eq l1 e1 rp1 rx po1 => ?_
    obtain ⟨d, ed, rfl, rfl⟩ := rd_some e1
    simp only [Option.map_eq_some_iff] at ed
    obtain ⟨ds, ed, rfl⟩ := ed
    obtain ⟨p, xs, rfl, ra, h2⟩ := frzL_rd rx ed
    rcases h2 with ⟨us, rfl, h3⟩ | ⟨_, h3⟩
    · exact absurd ⟨us, _, eq⟩ ht
    · exact ⟨p, xs, rfl, rp1.rs.scr h3, po1 _ _ _ (Le.refl _) rp1.rs (it_enum (SqL_keep h3) ra)⟩
end

def dMerge (kvs more : List (D × D)) : List (D × D) := more.foldl (fun acc p => dPut acc p.1 p.2) kvs
def oUpdate : OpM := fun S x ds => match x, ds with
  | .loc n, [.dct .k more] => (match S[n]? with
    | some (.dct .k kvs) => if kvs.length + more.length ≤ LINE then some (.non, S.set n (.dct .k (dMerge kvs more))) else none
    | _ => none)
  | _, _ => none
def vMerge (kvs more : List (Key × V)) : List (Key × V) := more.foldl (fun acc p => putK acc p.1 p.2) kvs
theorem vMerge_length : ∀ (more kvs : List (Key × V)), (vMerge kvs more).length ≤ kvs.length + more.length
  | [], kvs => Nat.le_refl _
  | p :: more, kvs => by
    have h1 := vMerge_length more (putK kvs p.1 p.2)
    have h2 := length_putK kvs p.1 p.2
    show (vMerge (putK kvs p.1 p.2) more).length ≤ _
    rw [List.length_cons]
    omega
theorem kv_merge : ∀ {more : List (Key × V)} {vm : List (Key × Value)} {kvs : List (Key × V)} {vk : List (Key × Value)}, KV more vm → KV kvs vk → KV (vMerge kvs more) (merged vk vm)
  | [], _, kvs, vk, .nil, h => h
  | p :: more, q :: vm, kvs, vk, .cons h1 h2, h => by
    have h3 := KV.put h q.1 h1.2
    have := kv_merge (more := more) (vm := vm) h2 h3
    unfold vMerge merged at this ⊢
    rw [List.foldl_cons, List.foldl_cons, h1.1]
    exact this
theorem dMerge_rep {K : PySem.W.Frag} {w : G} : ∀ {mk : List (Key × V)} {more : List (D × D)} {ks : List (Key × V)} {kvs : List (D × D)}, more.map Prod.fst = mk.map (fun p => kD p.1) → RepWA K w (mk.map Prod.snd) (more.map Prod.snd) → kvs.map Prod.fst = ks.map (fun p => kD p.1) → RepWA K w (ks.map Prod.snd) (kvs.map Prod.snd) →
    (dMerge kvs more).map Prod.fst = (vMerge ks mk).map (fun p => kD p.1) ∧ RepWA K w ((vMerge ks mk).map Prod.snd) ((dMerge kvs more).map Prod.snd)
  | [], [], ks, kvs, _, _, h3, h4 => ⟨h3, h4⟩
  | [], _ :: _, _, _, h, _, _, _ => by cases h
  | _ :: _, [], _, _, h, _, _, _ => by cases h
  | (k, v) :: mk, (a, d) :: more, ks, kvs, h1, h2, h3, h4 => by
    simp only [List.map_cons, List.cons.injEq] at h1
    cases h2 with
    | cons r1 r2 =>
      obtain ⟨i1, i2⟩ := dPut_put (enc := kD) (fun _ _ => kD_inj) k r1 h3 h4
      have := dMerge_rep h1.2 r2 i1 i2
      unfold dMerge vMerge at this ⊢
      rw [List.foldl_cons, List.foldl_cons]
      rw [show a = kD k from h1.1]
      exact this
theorem m_update {X : Cx} : MtR X "dict.update" (rDM X.K X.mg oUpdate) := fun pins s σ H x xs v us Q I rx rs h => by
  obtain ⟨w, S, dx, ds, d, S', e, rS, r1, r2, q⟩ := h
  unfold oUpdate at e
  split at e
  · split at e
    · rename_i hc
      split at e
      · rename_i hl
        cases e
        obtain ⟨p, rfl, h1, h2, h3, c⟩ := loc_at rS r1 hc (by intro z; cases z)
        obtain ⟨y, rfl, ry⟩ := rep1 r2
        cases c with
        | dct h4 h5 =>
          cases h5 with
          | @dK ks _ k1 k2 =>
            cases ry with
            | @dK o mk _ m0 m1 m2 =>
              have hpo : p ≠ o := fun z => by rw [z] at h2; rw [h2] at m0; cases m0
              obtain ⟨z1, hd1, vk, kv1, dd1⟩ := dk_of I.hok h4
              obtain ⟨z2, hd2, vm, kv2, dd2⟩ := dk_rd I.hok (rS.dct m0 rfl)
              cases (show v = Value.ref p from rx)
              obtain ⟨y', rfl, ry'⟩ := vals1 rs
              cases (show y' = Value.ref o from ry')
              have hl1 : _ := congrArg List.length k1
              have hl2 : _ := congrArg List.length m1
              rw [List.length_map, List.length_map] at hl1 hl2
              have hlen : vk.length + vm.length ≤ sizeLine := by
                rw [← kv1.length, ← kv2.length]
                exact line_le (by omega)
              refine call_meetsIn PySem.F.slot_dict_update dd1.typeIs PySem.F.entry_dict_update (PySem.F.args_dict_update_2 _ _) (meets_dict_update (mixKind X.prog X.w) p o hpo hd2)
                ⟨vk, vm, dd1, dd2, hlen, fun h' dd' _ hs => ?_⟩
              have he : ∃ q, h'.get? p = some q := let ⟨q, _, _, hq, _⟩ := dd'; ⟨q, hq⟩
              have hm := dMerge_rep m1 m2 k1 k2
              refine ⟨.non, upd H p (.dK (vMerge _ mk)), d_write I (by rw [h4]; exact True.intro) hs he (dk_new ?_ hd1 (kv_merge kv2 kv1) dd'), rfl, ?_⟩
              · have := vMerge_length mk ks
                exact line_le (by omega)
              · exact q .non w _ (Le.refl w) (rS.setCell h1 h2 h3 (.dct upd_same (.dK hm.1 hm.2))) .non
      · cases e
    · cases e
  · cases e

def encD (d : D) : PyData := (toPy d).getD .none
open Classical in
noncomputable def SrtP (ds : List D) : Bool := decide ((∀ d ∈ ds, (toPy d).isSome = true ∧ (encD d).depth ≤ 8) ∧ PySem.W.AllAlike (ds.map encD) ∧ PySem.W.Sortable (ds.map encD) ∧ ds.length ≤ LINE)
noncomputable def oSorted : OpN := fun S ds => match ds with
  | [d] => (lstOf S d).bind fun l => if SrtP l then some (l.mergeSort (PySem.W.dataLe false encD)) else none
  | _ => none
theorem rep_each {w : Value → V → Prop} : ∀ {xs : List V} {its : List Value} {ds : List D}, Vals xs its → xs.length = ds.length → PySem.W.EachIs (fun u (p : V × D) => RelV p.1 u ∧ p ∈ xs.zip ds) its (xs.zip ds)
  | [], _, ds, .nil, h => .nil
  | x :: xs, u :: us, [], .cons _ _, h => by cases h
  | x :: xs, u :: us, d :: ds, .cons r t, h => by
    rw [List.zip_cons_cons]
    exact .cons ⟨r, List.mem_cons_self⟩ ((rep_each (w := w) t (by simpa using h)).mono fun _ _ q => ⟨q.1, List.mem_cons_of_mem _ q.2⟩)
theorem each_out {R : Value → V × D → Prop} (hR : ∀ u p, R u p → RelV p.1 u) : ∀ {out : List Value} {bs : List (V × D)}, PySem.W.EachIs R out bs → Vals (bs.map Prod.fst) out
  | _, _, .nil => .nil
  | _, _, .cons h t => .cons (hR _ _ h) (each_out hR t)
theorem repA_of {K : PySem.W.Frag} {w : G} : ∀ {ps : List (V × D)}, (∀ p ∈ ps, RepW K w p.1 p.2) → RepWA K w (ps.map Prod.fst) (ps.map Prod.snd)
  | [], _ => .nil
  | p :: ps, h => .cons (h p List.mem_cons_self) (repA_of fun q hq => h q (List.mem_cons_of_mem _ hq))
theorem c_sorted {X : Cx} (hu : X.A.units + 64 < cLine) : CallR X (.builtin "sorted") (rDC X.K X.mg (repN X.K) oSorted) := by
  intro pins s σ H vs us Q I r h
  obtain ⟨w, S, ds, a, e, rS, ra, q⟩ := h
  unfold oSorted at e
  split at e
  · rename_i d
    simp only [Option.bind_eq_some_iff] at e
    obtain ⟨l, hl, e⟩ := e
    split at e
    · rename_i hp
      cases e
      unfold SrtP at hp
      simp only [decide_eq_true_eq] at hp
      obtain ⟨hp1, hp2, hp3, hp4⟩ := hp
      obtain ⟨v, rfl, rv⟩ := rep1 ra
      obtain ⟨p, xs, rfl, hs, rx⟩ := lstOf_rd rS rv hl
      obtain ⟨its, rI, hl', hz⟩ := I.list hs
      rw [Vals.ref1 r]
      have hlen := RepA.length rx
      have hmem : ∀ q ∈ xs.zip l, RepW X.K w q.1 q.2 := fun q hq => by
        obtain ⟨i, hi⟩ := List.mem_iff_getElem?.mp hq
        rw [List.getElem?_zip_eq_some] at hi
        exact repA_at rx i _ _ hi.1 hi.2
      have hsnd : (xs.zip l).map Prod.snd = l := by rw [List.map_snd_zip]; omega
      have henc : (xs.zip l).map (fun q => encD q.2) = l.map encD := by
        rw [show (fun q : V × D => encD q.2) = encD ∘ Prod.snd from rfl, ← List.map_map, hsnd]
      have ee := rep_each (w := fun _ _ => True) rI hlen
      have er : PySem.W.EachIs (fun u (q : V × D) => ∃ as, PySem.Reads s.heap u (encD q.2) as) its (xs.zip l) := ee.mono fun u z hz => by
        have hd : z.2 ∈ l := (List.of_mem_zip hz.2).2
        obtain ⟨pd, hpd⟩ := Option.isSome_iff_exists.mp (hp1 _ hd).1
        have : encD z.2 = pd := by unfold encD; rw [hpd]; rfl
        rw [this]
        exact Dp.reads I pd _ _ (dp_of rS _ _ _ (hmem z hz.2) hpd) hz.1
      have hde : ∀ b : V × D, b ∈ xs.zip l → X.A.units + 2 + (encD b.2).depth < cLine := fun b hb => by
        have := (hp1 _ (List.of_mem_zip hb).2).2
        omega
      refine PySem.W.sorted_data (enc := fun z : V × D => encD z.2) hl'.isList ee er (by rw [henc]; exact hp2) (by rw [henc]; exact hp3) (by rw [List.length_zip]; exact line_le (by omega)) hde fun out h1 h2 => ?_
      · obtain ⟨ep, he'⟩ := PyProof.Rows.sortedAll_at s.heap its out.toArray
        have hv := each_out (fun _ _ z => z.1) h2
        have hm : ((xs.zip l).mergeSort (PySem.W.dataLe false fun q : V × D => encD q.2)).map Prod.snd = l.mergeSort (PySem.W.dataLe false encD) := by
          rw [List.map_mergeSort (r := PySem.W.dataLe false fun q : V × D => encD q.2) (s := PySem.W.dataLe false encD) (f := Prod.snd) (fun a _ b _ => rfl), hsnd]
        have hrep : RepWA X.K w (((xs.zip l).mergeSort (PySem.W.dataLe false fun q : V × D => encD q.2)).map Prod.fst) (l.mergeSort (PySem.W.dataLe false encD)) := by
          rw [← hm]
          exact repA_of fun q hq => hmem q ((List.mergeSort_perm _ _).mem_iff.mp hq)
        have hlen2 : (((xs.zip l).mergeSort (PySem.W.dataLe false fun q : V × D => encD q.2)).map Prod.fst).length ≤ sizeLine := by
          rw [RepA.length hrep, List.length_mergeSort]
          exact line_le hp4
        have hfr := I.hok.fresh (Nat.le_succ s.heap.objs.size)
        obtain ⟨rs', rr⟩ := new_N rS hfr hrep
        exact ⟨.ref _, upd H (s.heap.objs.size + 1) (.lst _), I.laid (t' := s.toks) (fun _ _ => PyProof.Rows.sortedAll_old) (Nat.le_succ _) ⟨hlen2, out, ep, hv, he'⟩, rfl, q _ w _ (Le.refl w) rs' rr⟩
    · cases e
  · cases e
end Rw
end
section
set_option Elab.async false
set_option linter.all false
set_option maxRecDepth 100000
set_option maxHeartbeats 4000000
namespace Rw
open PySem L2
/-- the def x does what f says -/
structure CalP (CX : CXT) (EW : XK → EXT) (P : Program) (w : World) (K : PySem.W.Frag) (mg : Str → Option Value) (base : Heap) (k : Nat) (x : Str) (f : Fp) : Prop where
  ex : ∃ (fa : Addr) (fd : FuncData) (ps : List Str) (np : Nat), FnOk P w K mg base CX k fa fd ps (spP K EW np f) ∧ (∀ ds r, f ds = some r → ds.length = np) ∧ mg x = some (.ref fa) ∧ PySem.W.keepIn K (.ref fa) = true ∧ Binds K fd ps []
theorem CalP.of {CX : CXT} {EW : XK → EXT} {P : Program} {w : World} {K : PySem.W.Frag} {mg : Str → Option Value} {base : Heap} {k : Nat} {x : Str} {f : Fp} {fa : Addr} {fd : FuncData} {ps : List Str} {np : Nat}
    (F : FnOk P w K mg base CX k fa fd ps (spP K EW np f)) (hn : ∀ ds r, f ds = some r → ds.length = np) (hm : mg x = some (.ref fa)) (hk : PySem.W.keepIn K (.ref fa) = true) (hb : Binds K fd ps []) : CalP CX EW P w K mg base k x f := ⟨fa, fd, ps, np, F, hn, hm, hk, hb⟩
section
variable {X : Cx} {EX : EXT} {CX : CXT} {EW : XK → EXT} {k j : Nat} {E : XK} {x : Str} {p pos : Pos} {e : Expr} {es : List Expr} {fs : Sl → M (List D)} {f : Fp}
theorem qe_callC (c : CalP CX EW X.prog X.w X.K X.mg X.base k x f) (hr : Room j X.A) (hk : k ≤ j) (hx : Passes CX X E) (hE : ∀ c H, EX c H → EW E c H)
    (ha : QA X EX (e :: es) fs) (hg : Gl X x := by rfl) (hdb : (x == ("__debug__" : Str)) = false := by decide) (he : starEach (e :: es) X.env = (false, eval e X.env) :: starEach es X.env := by rfl) (hpl : (backTo pos (starEach es X.env)).any (·.1) = false := by rfl) :
    QE X EX (.Call (.Name x p) (e :: es) [] pos) (mCall f fs) := by
  obtain ⟨fa, fd, ps, np, F, hn, hm, hkp, hb⟩ := c.ex
  exact qe_call F hn (hr.mono hk) hm hkp hb hx hE ha hg hdb he hpl
end
section
variable {X : Cx} {EX : EXT} {a b c : Expr} {fa fb fc : Sl → M D} {pos : Pos}
theorem chain_red {f f' : Op2} {σ : L2.St} {H : Hp} {Q : VK} (h : tO X.K X.mg EX (repE X.K) (mChain f f' fa fb fc) σ H Q) :
    tChain (rD2 X.K X.mg f) (rD2 X.K X.mg f') (tO X.K X.mg EX (repE X.K) fa) (tO X.K X.mg EX (repE X.K) fb) (tO X.K X.mg EX (repE X.K) fc) σ H Q := by
  obtain ⟨w, σd, S, r, S', e, rp, po⟩ := h
  refine run_bind e rp po fun w1 S1 x dx H1 l1 e1 rp1 rx po1 => ?_
  refine run_bind e1 rp1 po1 fun w2 S2 y dy H2 l2 e2 rp2 ry po2 => ?_
  unfold M.bind at e2
  cases q : (M.rd fun S => f S dx dy) S2 with
  | none => rw [q] at e2; cases e2
  | some z =>
    obtain ⟨z, S3⟩ := z
    obtain ⟨d, ed, rfl, rfl⟩ := rd_some q
    rw [q] at e2
    refine ⟨w2, _, dx, dy, d, ed, rp2.rs, RepV.le rx l2, ry, fun v w' H' l rs rv => ?_⟩
    have rp3 := rp2.of l rs
    have po3 := po2.le l
    cases rv with
    | bl k =>
      refine ⟨k, rfl, ?_⟩
      cases k with
      | true =>
        rw [if_pos rfl]
        refine run_bind e2 rp3 po3 fun w4 S4 u du H4 l4 e4 rp4 ru po4 => ?_
        obtain ⟨d', ed', rfl, rfl⟩ := rd_some e4
        exact ⟨w4, _, dy, du, d', ed', rp4.rs, RepV.le ry (l.trans l4), ru, fun v w' H' l rs rv => po4 v w' H' l rs rv⟩
      | false =>
        rw [if_neg Bool.false_ne_true]
        cases e2
        exact post_ok po3 rp3 (.bl false)
    | _ => cases e2
theorem qt_chain {op op' : CmpOp} {f f' : Op2} (ho : OpR X (compareOp op) (rD2 X.K X.mg f)) (ho' : OpR X (compareOp op') (rD2 X.K X.mg f')) (ha : QE X EX a fa) (hb : QE X EX b fb) (hc : QE X EX c fc)
    (hm : lastMarks [op, op'] [b, c] = false := by with_unfolding_all rfl) : QT X EX (.Compare a [op, op'] [b, c] pos) (mB (mChain f f' fa fb fc)) := by
  refine PT_imp (pt_chain ho ho' ha hb hc hm) fun σ H Q ⟨w, σd, S, r, S', e, rp, po⟩ => ?_
  have e' : (((mChain f f' fa fb fc) σd).bind fun d => M.rd fun _ => asB d) S = some (r, S') := e
  refine chain_red (run_bind e' rp po fun w1 S1 x dx H1 l1 e1 rp1 rx po1 => ?_)
  obtain ⟨b, eb, rfl, rfl⟩ := rd_some e1
  have := asB_some eb
  subst this
  cases rx
  exact ⟨b, rfl, post_ok (rep := repT) po1 rp1 rfl⟩
end
open PyProof.Rows PySem.Spec
theorem def_ok0 {P : Program} {w : World} {K : PySem.W.Frag} {mg : Str → Option Value} {base : Heap} {x qual : Str} {params : Arguments} {body : List Stmt} {scope : Scope} {f : Addr} {fd : FuncData} {N ps : List Str} (k np n : Nat) {fb : MS} {g : Fp} (F : FunD K x qual params body scope [] [] f fd) (S : FnScope N ps scope)
    (hf : g = defP np n fb) (h1 : ps.length = np) (h2 : N.length = n) (hm : mg x = some (.ref f)) (hb : Binds K fd ps [])
    (h : ∀ (cdv : Value) (A : Around) (outer : List Env) (s : Shared) (H : Hp) (E : XK), Room k (A.deeper (envOfC qual scope s.heap.objs.size f cdv)) → QB (cxOf CX0 P w K mg base N qual scope f cdv A outer s H E).nox EX0 body fb) :
    CalP CX0 NX P w K mg base (k + 1) x g := by
  subst hf h1 h2
  exact CalP.of (fun_ok0 F S h) (fun ds r h => defP_len ds r h) hm F.kp hb
end Rw
end
section
set_option Elab.async false
set_option linter.all false
set_option maxRecDepth 100000
set_option maxHeartbeats 4000000
namespace Rw
open PySem L2 PyProof.Rows PySem.Spec
section
variable {X : Cx} {EX : EXT}
theorem ps_setDc {i : Nat} {y : Str} {py : Pos} {kx vx tg iter : Expr} {ifs : List Expr} {scope : Scope} {own : List (Str × Nat)} {pos spos : Pos} {wi : TI} {g : TG} {tt : TT} {tk tv : TE} (hc : X.calm = true) (hN : X.N.Nodup) (hy : X.N[i]? = some y) (hyl : X.env.scope.names.lookup y = some .local)
    (hsw : swapsWith (.DictComp kx vx [⟨tg, iter, ifs, 0⟩] scope pos) (some (.Name y py)) spos.line X.env = pure true) (hi : PI X tg iter wi) (ok : BlkOk X.N X.env.scope scope own)
    (hg : ∀ (s : Shared) (H : Hp) (C : Addr) (cl : List (Str × Addr)) (fp : List Addr), PG (X.blk s H scope (compEnvC scope cl C X.env) fp) tg g) (ht : ∀ (s : Shared) (H : Hp) (C : Addr) (cl : List (Str × Addr)) (fp : List Addr), PTs (X.blk s H scope (compEnvC scope cl C X.env) fp) ifs tt)
    (hk : ∀ (s : Shared) (H : Hp) (C : Addr) (cl : List (Str × Addr)) (fp : List Addr), PE (X.blk s H scope (compEnvC scope cl C X.env) fp) kx tk)
    (he : ∀ (s : Shared) (H : Hp) (C : Addr) (cl : List (Str × Addr)) (fp : List Addr), PE (X.blk s H scope (compEnvC scope cl C X.env) fp) vx tv) (hs : ∀ x, foldedSetIterable iter X.env x = pure x := by intro _; rfl) :
    PS X (.Assign [.Name y py] (.DictComp kx vx [⟨tg, iter, ifs, 0⟩] scope pos) spos) (tAsg (tDc wi g tt tk tv (own.map (·.2))) (gName i)) := by
  refine ⟨fun pins s σ H D I h => ?_⟩
  rw [exec_Assign_Name_used _ _ _ _ hsw]
  refine wpAny_bind (wpAny_standAt (wpAny_bind ?_))
  show wpAny _ X.A (do let _ ← comprehension (.DictComp kx vx [⟨tg, iter, ifs, 0⟩] scope pos) scope X.env (firstIterPos [⟨tg, iter, ifs, 0⟩] pos) newDict false (eval iter X.env) (some (assign (.Name y py) X.env))) _ _ s
  have h : tDc wi g tt tk tv (own.map (·.2)) σ H (fun x H1 => gName i x σ H1 D.nx) := h
  refine wpAny_bind (thn (dc_core (Qf := fun _ s' => SP X pins D .next s') hc hN I hi ok hg ht hk he hs h fun L C s' m H' I' q hn f => ?_) fun _ s' hq => wpAny_pure (wpAny_pure hq))
  show wpAny _ _ (assign (.Name y py) X.env (.ref L)) _ _ _
  refine wpAny_assign_Name (store_ok2 (v := V.ref L) I' hN hy (.inl hyl) rfl (fun s2 I2 ⟨a, sb, ha⟩ => ?_) (.inr hyl))
  obtain ⟨f0, f1, f2, f3, f4, f5⟩ := f
  have haC : C ≠ a := by
    rcases ha with z | z
    · rw [z]; exact f1
    · exact fun e => f4 y a z e.symm
  refine ⟨m, hn.sameBut sb haC, fun h3 sb3 => ?_⟩
  exact ⟨_, H', I2.turned (t' := s2.toks) (fun b o hb e => (sb3.2 b hb).trans e) f0 f1 f3 f4 f5, q⟩
theorem sw_trueD {kx vx : Expr} {gs : List Comprehension} {scope : Scope} {pos py : Pos} {y : Str} {l : Nat} {env : Env} (hk : env.scope.kind = .function) (hy : env.scope.names.lookup y = some .local) (hl : (py.line == pos.line) = true)
    (ha : (scope.names.any fun (n, k) => n == y && (k == .local || k == .cell)) = false) : swapsWith (.DictComp kx vx gs scope pos) (some (.Name y py)) l env = pure true := by
  have ky : env.kindOf y = some .local := hy
  have hb : env.blockKind = .function := by unfold Env.blockKind; rw [hk]; rfl
  unfold swapsWith
  simp only [hb, ky, ha, Expr.pos, hl]
  rfl
theorem setDc_gen {i : Nat} {p : Pat} {t : Sl → M Bool} {fk fe : Sl → M D} {fi : Sl → M (List D)} {vs : List Nat} (lo : Bool) (hv : ∀ i ∈ p.sl, i ∈ vs) {E : Ends} {σ : L2.St} {H : Hp} (h : tSO X.K X.mg EX (mSet i ((if lo then mLocD else mFzD) (mDc vs p t fk fe fi))) E σ H) :
    tDc (tO X.K X.mg EX (repI X.K X.mg) fi) (gPat X.K p) (tO X.K X.mg EX0 repT t) (tO X.K X.mg EX0 (repE X.K) fk) (tO X.K X.mg EX0 (repE X.K) fe) vs σ H (fun x H1 => gName i x σ H1 E.nx) := by
  obtain ⟨w, σd, S, r, σ', S', eq, rp, po⟩ := h
  refine dc_red hv ?_
  cases lo with
  | false =>
    have eq2 : mThen (mDc vs p t fk fe fi) (fun ds σ S => some (.ok .nx, σ.set i (some (.dct ds.1 ds.2)), S)) σd S = some (r, σ', S') := by
      rw [← eq]
      unfold mSet mThen
      simp only [Bool.false_eq_true, if_false]
      unfold mFzD M.bind
      cases mDc vs p t fk fe fi σd S with
      | none => rfl
      | some z =>
        obtain ⟨z, S1⟩ := z
        cases z <;> rfl
    refine run_then eq2 rp po fun w1 S1 v ds H1 l1 e1 rp1 ra po1 => ?_
    cases e1
    obtain ⟨q, u, rfl, h1, h2, h3, h4, h5⟩ := ra
    have l2 : Le w1 (w1.frz q u) := Le.frz h3 h2
    have h5' := h5.le l2
    have rr : RepW X.K (w1.frz q u) (.ref q) (.dct ds.1 ds.2) := by
      obtain ⟨t, kvs⟩ := ds
      cases h5' with
      | dK a b => exact .dK (show upd w1.F q _ q = _ from upd_same) a b
      | dT a b => exact .dT (show upd w1.F q _ q = _ from upd_same) a b
    exact po1 _ _ H1 l2 ((rp1.of l2 (rp1.rs.take h1 h2 h3 h4)).set rr i)
  | true =>
    have eq2 : mThen (mDc vs p t fk fe fi) (fun ds σ S => some (.ok .nx, σ.set i (some (.loc S.length)), S ++ [.dct ds.1 ds.2])) σd S = some (r, σ', S') := by
      rw [← eq]
      unfold mSet mThen
      simp only [if_true]
      unfold mLocD M.bind
      cases mDc vs p t fk fe fi σd S with
      | none => rfl
      | some z =>
        obtain ⟨z, S1⟩ := z
        cases z <;> rfl
    refine run_then eq2 rp po fun w1 S1 v ds H1 l1 e1 rp1 ra po1 => ?_
    cases e1
    obtain ⟨q, u, rfl, h1, h2, h3, h4, h5⟩ := ra
    have rr : RepW X.K (w1.cell q) (.ref q) (.loc S1.length) := by
      refine .loc ?_
      show (w1.ρ ++ [q])[S1.length]? = some q
      rw [← rp1.rs.len]
      simp
    exact po1 _ _ H1 (Le.cell h3) ((rp1.of (Le.cell h3) (rp1.rs.cell h1 h2 h3 h4 (.dct h1 (h5.le (Le.cell h3))))).set rr i)
theorem setLc_gen {i : Nat} {p : Pat} {t : Sl → M Bool} {fe : Sl → M D} {fi : Sl → M (List D)} {vs : List Nat} (hv : ∀ i ∈ p.sl, i ∈ vs) {E : Ends} {σ : L2.St} {H : Hp} (h : tSO X.K X.mg EX (mSet i (mLoc (mLc vs p t fe fi))) E σ H) :
    tLc (tO X.K X.mg EX (repI X.K X.mg) fi) (gPat X.K p) (tO X.K X.mg EX0 repT t) (tO X.K X.mg EX0 (repE X.K) fe) vs σ H (fun x H1 => gName i x σ H1 E.nx) := by
  obtain ⟨w, σd, S, r, σ', S', eq, rp, po⟩ := h
  refine lc_red hv ?_
  have eq2 : mThen (mLc vs p t fe fi) (fun ds σ S => some (.ok .nx, σ.set i (some (.loc S.length)), S ++ [.lst ds])) σd S = some (r, σ', S') := by
    rw [← eq]
    unfold mSet mThen mLoc M.bind
    cases mLc vs p t fe fi σd S with
    | none => rfl
    | some z =>
      obtain ⟨z, S1⟩ := z
      cases z <;> rfl
  refine run_then eq2 rp po fun w1 S1 v ds H1 l1 e1 rp1 ra po1 => ?_
  cases e1
  obtain ⟨q, u, rfl, h1, h2, h3, h4, h5⟩ := ra
  have rr : RepW X.K (w1.cell q) (.ref q) (.loc S1.length) := by
    refine .loc ?_
    show (w1.ρ ++ [q])[S1.length]? = some q
    rw [← rp1.rs.len]
    simp
  exact po1 _ _ H1 (Le.cell h3) ((rp1.of (Le.cell h3) (rp1.rs.cell h1 h2 h3 h4 (.lst h1 (RepA.le h5 (Le.cell h3))))).set rr i)
variable {y : Str} {py : Pos} {kx elt tg iter : Expr} {ifs : List Expr} {scope : Scope} {pos spos : Pos} {p : Pat} {t : Sl → M Bool} {fk fe : Sl → M D} {fi : Sl → M (List D)}
theorem qs_setDc (i : Nat) (own : List (Str × Nat)) (hc : X.calm = true) (hN : X.N.Nodup) (hi : QI X EX tg iter fi) (ok : blkC X.N X.env.scope scope own = true)
    (hg : ∀ (s : Shared) (H : Hp) (C : Addr) (cl : List (Str × Addr)) (fp : List Addr), QP (X.blk s H scope (compEnvC scope cl C X.env) fp) tg p) (ht : ∀ (s : Shared) (H : Hp) (C : Addr) (cl : List (Str × Addr)) (fp : List Addr), QTs (X.blk s H scope (compEnvC scope cl C X.env) fp) ifs t)
    (hk : ∀ (s : Shared) (H : Hp) (C : Addr) (cl : List (Str × Addr)) (fp : List Addr), QE (X.blk s H scope (compEnvC scope cl C X.env) fp) EX0 kx fk)
    (he : ∀ (s : Shared) (H : Hp) (C : Addr) (cl : List (Str × Addr)) (fp : List Addr), QE (X.blk s H scope (compEnvC scope cl C X.env) fp) EX0 elt fe) (hy : X.N[i]? = some y := by rfl) (hyl : X.env.scope.names.lookup y = some .local := by rfl)
    (hsw : swapsWith (.DictComp kx elt [⟨tg, iter, ifs, 0⟩] scope pos) (some (.Name y py)) spos.line X.env = pure true := by exact sw_trueD rfl rfl rfl (by decide +kernel)) (hv : ∀ i ∈ p.sl, i ∈ own.map (·.2) := by decide) (hs : ∀ x, foldedSetIterable iter X.env x = pure x := by intro _; rfl) :
    QS X EX (.Assign [.Name y py] (.DictComp kx elt [⟨tg, iter, ifs, 0⟩] scope pos) spos) (mSet i (mFzD (mDc (own.map (·.2)) p t fk fe fi))) :=
  PS_imp (ps_setDc (i := i) (g := gPat X.K p) hc hN hy hyl hsw hi (blkOk_by ok) hg ht hk he hs) fun E σ H h => setDc_gen false hv h
theorem qs_setDcL (i : Nat) (own : List (Str × Nat)) (hc : X.calm = true) (hN : X.N.Nodup) (hi : QI X EX tg iter fi) (ok : blkC X.N X.env.scope scope own = true)
    (hg : ∀ (s : Shared) (H : Hp) (C : Addr) (cl : List (Str × Addr)) (fp : List Addr), QP (X.blk s H scope (compEnvC scope cl C X.env) fp) tg p) (ht : ∀ (s : Shared) (H : Hp) (C : Addr) (cl : List (Str × Addr)) (fp : List Addr), QTs (X.blk s H scope (compEnvC scope cl C X.env) fp) ifs t)
    (hk : ∀ (s : Shared) (H : Hp) (C : Addr) (cl : List (Str × Addr)) (fp : List Addr), QE (X.blk s H scope (compEnvC scope cl C X.env) fp) EX0 kx fk)
    (he : ∀ (s : Shared) (H : Hp) (C : Addr) (cl : List (Str × Addr)) (fp : List Addr), QE (X.blk s H scope (compEnvC scope cl C X.env) fp) EX0 elt fe) (hy : X.N[i]? = some y := by rfl) (hyl : X.env.scope.names.lookup y = some .local := by rfl)
    (hsw : swapsWith (.DictComp kx elt [⟨tg, iter, ifs, 0⟩] scope pos) (some (.Name y py)) spos.line X.env = pure true := by exact sw_trueD rfl rfl rfl (by decide +kernel)) (hv : ∀ i ∈ p.sl, i ∈ own.map (·.2) := by decide) (hs : ∀ x, foldedSetIterable iter X.env x = pure x := by intro _; rfl) :
    QS X EX (.Assign [.Name y py] (.DictComp kx elt [⟨tg, iter, ifs, 0⟩] scope pos) spos) (mSet i (mLocD (mDc (own.map (·.2)) p t fk fe fi))) :=
  PS_imp (ps_setDc (i := i) (g := gPat X.K p) hc hN hy hyl hsw hi (blkOk_by ok) hg ht hk he hs) fun E σ H h => setDc_gen true hv h
theorem qs_setLcL (i : Nat) (own : List (Str × Nat)) (hc : X.calm = true) (hN : X.N.Nodup) (hi : QI X EX tg iter fi) (ok : blkC X.N X.env.scope scope own = true)
    (hg : ∀ (s : Shared) (H : Hp) (C : Addr) (cl : List (Str × Addr)) (fp : List Addr), QP (X.blk s H scope (compEnvC scope cl C X.env) fp) tg p) (ht : ∀ (s : Shared) (H : Hp) (C : Addr) (cl : List (Str × Addr)) (fp : List Addr), QTs (X.blk s H scope (compEnvC scope cl C X.env) fp) ifs t)
    (he : ∀ (s : Shared) (H : Hp) (C : Addr) (cl : List (Str × Addr)) (fp : List Addr), QE (X.blk s H scope (compEnvC scope cl C X.env) fp) EX0 elt fe) (hy : X.N[i]? = some y := by rfl) (hyl : X.env.scope.names.lookup y = some .local := by rfl)
    (hsw : swapsWith (.ListComp elt [⟨tg, iter, ifs, 0⟩] scope pos) (some (.Name y py)) spos.line X.env = pure true := by exact sw_true rfl rfl rfl (by decide +kernel)) (hv : ∀ i ∈ p.sl, i ∈ own.map (·.2) := by decide) (hs : ∀ x, foldedSetIterable iter X.env x = pure x := by intro _; rfl) :
    QS X EX (.Assign [.Name y py] (.ListComp elt [⟨tg, iter, ifs, 0⟩] scope pos) spos) (mSet i (mLoc (mLc (own.map (·.2)) p t fe fi))) :=
  PS_imp (ps_setLc (i := i) (g := gPat X.K p) hc hN hy hyl hsw hi (blkOk_by ok) hg ht he hs) fun E σ H h => setLc_gen hv h
end
end Rw
end
section
set_option Elab.async false
set_option linter.all false
set_option maxRecDepth 100000
set_option maxHeartbeats 4000000
namespace Rw
open PySem L2 PyProof.Rows PySem.Spec
abbrev AlB : Type := Bool × He.AlD
def bltB (K : PySem.W.Frag) (bs : List (Str × String)) : Bool := bs.all fun q => He.eqO (PySem.W.nsIn K mainGlobals q.1) (some (some (.builtin q.2)))
def obsB (n : Nat) (bs : List (Str × String)) (fa : List He.Fa) (fn : List He.DefD) (g : Addr → Option Obj) : AlB := (bltB (He.frG g (He.asD g n)) bs, He.obsD fa fn (He.frG g (He.asD g n)))
def SaysB (bs : List (Str × String)) (fa : List He.Fa) (fn : List He.DefD) (K : PySem.W.Frag) : Prop := bltB K bs = true ∧ He.SaysD fa fn K
def hookB (n : Nat) (bs : List (Str × String)) (fa : List He.Fa) (fn : List He.DefD) : PySem.W.Hook where
  α := AlB
  obs := fun s => obsB n bs fa fn s.heap.get?
  val := fun _ => (true, He.valD fn)
  says := fun _ h => ∃ K : PySem.W.Frag, K.In h ∧ SaysB bs fa fn K
  of := fun _ _ e => ⟨_, He.frG_in, congrArg Prod.fst e, congrArg Prod.snd e⟩
  keeps := fun _ _ _ ⟨K, hK, c⟩ k => ⟨K, PySem.W.Frag.In.keeps hK k, c⟩
theorem obsB_eq {n : Nat} {bs : List (Str × String)} {fa : List He.Fa} {fn : List He.DefD} {g : Addr → Option Obj} {s : Shared} (h : ∀ a, g a = s.heap.get? a) : obsB n bs fa fn g = (hookB n bs fa fn).obs s := by
  have e : g = s.heap.get? := funext h
  rw [e] <;> rfl
theorem blt_ok {K : PySem.W.Frag} {h : Heap} {mg : Str → Option Value} {bs : List (Str × String)} (X : K.In h) (G : h.Ns mainGlobals mg) (c : bltB K bs = true) (i : Nat) {x : Str} {v : String} (hi : bs[i]? = some (x, v) := by rfl) : mg x = some (.builtin v) :=
  PySem.W.mg_of X G (He.eqO_ok (List.all_eq_true.mp c _ (List.mem_of_getElem? hi)))
/-- the law's def promises true at every script -/
theorem law_sp {K : PySem.W.Frag} {f : Fp} {H : Hp} {a : Addr} {ns : List Int} (hS : SqL K H a (ns.map V.int)) (h : f [.scr ns] = some (.ok (.bl true))) : spP K NX 1 f [.ref a] H (fun v _ => v = .bl true) (fun _ _ _ => False) :=
  ⟨H, [.scr ns], .ok (.bl true), h, rfl, fun _ _ e => .inl e, .cons (.scr hS) .nil, fun v F' H' _ _ _ _ rv => by cases rv; rfl⟩
end Rw
end
section
set_option Elab.async false
set_option linter.all false
set_option maxRecDepth 100000
set_option maxHeartbeats 1000000
namespace Rw
def WP (r : Option (R Out × Sl × List Cell)) (Q : Out → Sl → List Cell → Prop) : Prop := ∃ o σ S, r = some (.ok o, σ, S) ∧ Q o σ S
theorem wp_of {r : Option (R Out × Sl × List Cell)} {o : Out} {σ : Sl} {S : List Cell} {Q : Out → Sl → List Cell → Prop} (h : r = some (.ok o, σ, S)) (q : Q o σ S) : WP r Q := ⟨o, σ, S, h, q⟩
theorem wp_mono {r : Option (R Out × Sl × List Cell)} {Q Q' : Out → Sl → List Cell → Prop} (h : WP r Q) (i : ∀ o σ S, Q o σ S → Q' o σ S) : WP r Q' := by
  obtain ⟨o, σ, S, e, q⟩ := h
  exact ⟨o, σ, S, e, i o σ S q⟩
variable {f g body : MS} {σ σ1 : Sl} {S S1 : List Cell} {Q : Out → Sl → List Cell → Prop}
/-- g behind f, where f goes on -/
theorem wp_seq (h : WP (f σ S) fun o σ1 S1 => o = .nx ∧ WP (g σ1 S1) Q) : WP (mSeq f g σ S) Q := by
  obtain ⟨o, σ1, S1, e, rfl, q⟩ := h
  unfold mSeq
  rw [e]
  exact q
theorem wp_seq1 (e : f σ S = some (.ok .nx, σ1, S1)) (h : WP (g σ1 S1) Q) : WP (mSeq f g σ S) Q := wp_seq ⟨_, _, _, e, rfl, h⟩
theorem wp_seqR {o : Out} (e : f σ S = some (.ok o, σ1, S1)) (ho : o ≠ .nx) (h : Q o σ1 S1) : WP (mSeq f g σ S) Q := by
  refine ⟨o, σ1, S1, ?_, h⟩
  unfold mSeq
  rw [e]
  cases o <;> first | exact absurd rfl ho | rfl
theorem wp_if {t : Sl → M Bool} {b : Bool} (e : t σ S = some (.ok b, S1)) (h : WP ((if b then f else g) σ S1) Q) : WP (mIfS t f g σ S) Q := by
  unfold mIfS mThen
  rw [e]
  exact h
/-- the test fails, nothing more -/
theorem wp_ifF {t : Sl → M Bool} (e : t σ S = some (.ok false, S1)) (h : Q .nx σ S1) : WP (mIfS t f mSkip σ S) Q := wp_if e ⟨_, _, _, rfl, h⟩
theorem wp_for {α : Type} (e : α → D) (l : List α) (I : List α → Sl → List Cell → Prop) {p : Pat} {fi : Sl → M (List D)} (hi : fi σ S = some (.ok (l.map e), S1)) (h0 : I [] σ S1)
    (step : ∀ done x rest σ S, l = done ++ x :: rest → I done σ S → ∃ σ1, p.put (e x) σ = some σ1 ∧ WP (body σ1 S) fun o σ2 S2 => (o = .nx ∨ o = .ct) ∧ I (done ++ [x]) σ2 S2)
    (fin : ∀ σ S, I l σ S → Q .nx σ S) : WP (mFor p fi body σ S) Q := by
  unfold mFor mThen
  rw [hi]
  show WP (loopF p body (l.map e) σ S1) Q
  have gen : ∀ (rest done : List α) (σ : Sl) (S : List Cell), l = done ++ rest → I done σ S → WP (loopF p body (rest.map e) σ S) Q := by
    intro rest
    induction rest with
    | nil =>
      intro done σ S hl hI
      rw [List.append_nil] at hl
      subst hl
      exact ⟨_, _, _, rfl, fin _ _ hI⟩
    | cons x rest ih =>
      intro done σ S hl hI
      obtain ⟨σ1, hp, o, σ2, S2, hb, ho, hI2⟩ := step done x rest σ S hl hI
      have := ih (done ++ [x]) σ2 S2 (by rw [hl, List.append_assoc]; rfl) hI2
      rw [List.map_cons, loopF, hp]
      dsimp only
      rw [hb]
      rcases ho with rfl | rfl <;> exact this
  exact gen l [] σ S1 rfl h0
theorem wp_while {t : Sl → M Bool} (I : Nat → Sl → List Cell → Prop) (k : Nat) (hk : k < FUEL) (h0 : I k σ S)
    (step : ∀ m σ S, I (m + 1) σ S → ∃ S1, t σ S = some (.ok true, S1) ∧ WP (body σ S1) fun o σ2 S2 => (o = .nx ∨ o = .ct) ∧ I m σ2 S2)
    (stop : ∀ σ S, I 0 σ S → ∃ S1, t σ S = some (.ok false, S1) ∧ Q .nx σ S1) : WP (mWhile t body σ S) Q := by
  unfold mWhile
  have gen : ∀ (m n : Nat) (σ : Sl) (S : List Cell), m < n → I m σ S → WP (loopW t body n σ S) Q := by
    intro m
    induction m with
    | zero =>
      intro n σ S hn hI
      obtain ⟨S1, e, q⟩ := stop σ S hI
      cases n with
      | zero => omega
      | succ n =>
        rw [loopW]
        dsimp only
        rw [e]
        exact ⟨_, _, _, rfl, q⟩
    | succ m ih =>
      intro n σ S hn hI
      obtain ⟨S1, e, o, σ2, S2, hb, ho, hI2⟩ := step m σ S hI
      cases n with
      | zero => omega
      | succ n =>
        have := ih n σ2 S2 (by omega) hI2
        rw [loopW]
        dsimp only
        rw [e]
        dsimp only
        rw [hb]
        rcases ho with rfl | rfl <;> exact this
  exact gen k FUEL σ S hk h0
theorem run_wp {np N : Nat} {ds : List D} {d : D} (hl : ds.length = np) (h : WP (body (ds.map some ++ List.replicate (N - ds.length) none) []) fun o σ S => ∃ e, o = .rt e ∧ frzC S 4 e = some d) : defP np N body ds = some (.ok d) := by
  obtain ⟨o, σ, S, e, d', rfl, hd⟩ := h
  unfold defP runP
  rw [if_pos hl, e]
  show (frzC S 4 d').map R.ok = _
  rw [hd]
  rfl
theorem frz_no {S : List Cell} {d : D} (h : noLoc d = true) : frzC S 4 d = some d := by
  unfold frzC
  rw [if_pos h]
theorem run_rt {np N : Nat} {ds : List D} {d : D} (hl : ds.length = np) (hd : noLoc d = true) (h : WP (body (ds.map some ++ List.replicate (N - ds.length) none) []) fun o σ S => o = .rt d) : defP np N body ds = some (.ok d) :=
  run_wp hl (wp_mono h fun o σ S q => ⟨d, q, frz_no hd⟩)
theorem run_nx {np N : Nat} {ds : List D} (hl : ds.length = np) (h : WP (body (ds.map some ++ List.replicate (N - ds.length) none) []) fun o σ S => o = .nx) : defP np N body ds = some (.ok .non) := by
  obtain ⟨o, σ, S, e, rfl⟩ := h
  unfold defP runP
  rw [if_pos hl, e]
theorem frz_lst {ds : List D} {S : List Cell} {k : Nat} (h : S[k]? = some (.lst ds)) (hd : noLocs ds = true) : frzC S 4 (.loc k) = some (.lst ds) := by
  have hm : ∀ (ds : List D) (m : Nat), noLocs ds = true → mapO (frzC S m) ds = some ds := by
    intro ds m
    induction ds with
    | nil => intro _; rfl
    | cons d ds ih =>
      intro h
      rw [noLocs, Bool.and_eq_true] at h
      have h1 : frzC S m d = some d := by
        cases m <;> (unfold frzC; rw [if_pos h.1])
      rw [mapO, h1, ih h.2]
  unfold frzC
  rw [if_neg (by simp [noLoc])]
  dsimp only
  rw [h]
  dsimp only
  rw [hm ds 3 hd]
  rfl
theorem loopLc_eq {α : Type} (e gv : α → D) {p : Pat} {t : Sl → M Bool} {ex : Sl → M D} : ∀ l : List α, (∀ x ∈ l, ∃ σ1, p.put (e x) σ = some σ1 ∧ t σ1 S = some (.ok true, S) ∧ ex σ1 S = some (.ok (gv x), S)) → loopLc p t ex (l.map e) σ S = some (l.map gv, S)
  | [], _ => rfl
  | x :: l, h => by
    obtain ⟨σ1, h1, h2, h3⟩ := h x List.mem_cons_self
    rw [List.map_cons, loopLc, h1]
    dsimp only
    rw [h2]
    dsimp only
    rw [h3]
    dsimp only
    rw [loopLc_eq e gv l fun y hy => h y (List.mem_cons_of_mem _ hy)]
    rfl
theorem lc_eq {α : Type} (e gv : α → D) (l : List α) {vs : List Nat} {p : Pat} {t : Sl → M Bool} {ex : Sl → M D} {fi : Sl → M (List D)} (hi : fi σ S = some (.ok (l.map e), S)) (hl : l.length ≤ LINE)
    (step : ∀ x ∈ l, ∃ σ1, p.put (e x) (wipeD σ vs) = some σ1 ∧ t σ1 S = some (.ok true, S) ∧ ex σ1 S = some (.ok (gv x), S)) : mLc vs p t ex fi σ S = some (.ok (l.map gv), S) := by
  unfold mLc M.bind
  rw [hi]
  dsimp only
  rw [List.length_map, if_pos hl, loopLc_eq e gv l step]
end Rw
end
section
set_option Elab.async false
set_option linter.all false
set_option maxRecDepth 100000
set_option maxHeartbeats 1000000
namespace Rw
open PySem
/-- ints, None, tuples and lists of such, at most k deep -/
def pln : Nat → D → Bool
  | _, .int _ => true
  | _, .non => true
  | k + 1, .tup ds => ds.all (pln k)
  | k + 1, .lst ds => ds.all (pln k)
  | _, _ => false
theorem pln_py : ∀ (k : Nat) (d : D), pln k d = true → ∃ p, toPy d = some p ∧ p.canLay0 = true ∧ p.depth ≤ k
  | k, .int i, _ => ⟨.int i, rfl, rfl, by simp [PyData.depth]⟩
  | k, .non, _ => ⟨.none, rfl, rfl, by simp [PyData.depth]⟩
  | 0, .bl _, h => by simp [pln] at h
  | 0, .str _, h => by simp [pln] at h
  | 0, .tup _, h => by simp [pln] at h
  | 0, .lst _, h => by simp [pln] at h
  | 0, .scr _, h => by simp [pln] at h
  | 0, .dct _ _, h => by simp [pln] at h
  | 0, .ty _, h => by simp [pln] at h
  | 0, .loc _, h => by simp [pln] at h
  | k + 1, .bl _, h => by simp [pln] at h
  | k + 1, .str _, h => by simp [pln] at h
  | k + 1, .scr _, h => by simp [pln] at h
  | k + 1, .dct _ _, h => by simp [pln] at h
  | k + 1, .ty _, h => by simp [pln] at h
  | k + 1, .loc _, h => by simp [pln] at h
  | k + 1, .tup ds, h => by
    have hs : ∀ ds : List D, ds.all (pln k) = true → ∃ ps, toPyA ds = some ps ∧ PyData.canLayAll0 ps = true ∧ PyData.depthAll ps ≤ k := by
      intro ds
      induction ds with
      | nil => intro _; exact ⟨[], rfl, rfl, by simp [PyData.depthAll]⟩
      | cons d ds ih =>
        intro h
        rw [List.all_cons, Bool.and_eq_true] at h
        obtain ⟨p, h1, h2, h3⟩ := pln_py k d h.1
        obtain ⟨ps, i1, i2, i3⟩ := ih h.2
        refine ⟨p :: ps, by rw [toPyA, h1, i1], by rw [PyData.canLayAll0, h2, i2]; rfl, ?_⟩
        rw [PyData.depthAll]
        omega
    rw [pln] at h
    obtain ⟨ps, i1, i2, i3⟩ := hs ds h
    exact ⟨.tuple ps, by rw [toPy, i1], by rw [PyData.canLay0]; exact i2, by rw [PyData.depth]; omega⟩
  | k + 1, .lst ds, h => by
    have hs : ∀ ds : List D, ds.all (pln k) = true → ∃ ps, toPyA ds = some ps ∧ PyData.canLayAll0 ps = true ∧ PyData.depthAll ps ≤ k := by
      intro ds
      induction ds with
      | nil => intro _; exact ⟨[], rfl, rfl, by simp [PyData.depthAll]⟩
      | cons d ds ih =>
        intro h
        rw [List.all_cons, Bool.and_eq_true] at h
        obtain ⟨p, h1, h2, h3⟩ := pln_py k d h.1
        obtain ⟨ps, i1, i2, i3⟩ := ih h.2
        refine ⟨p :: ps, by rw [toPyA, h1, i1], by rw [PyData.canLayAll0, h2, i2]; rfl, ?_⟩
        rw [PyData.depthAll]
        omega
    rw [pln] at h
    obtain ⟨ps, i1, i2, i3⟩ := hs ds h
    exact ⟨.list ps, by rw [toPy, i1], by rw [PyData.canLay0]; exact i2, by rw [PyData.depth]; omega⟩
theorem eqv_pln : ∀ (k : Nat) (d e : D) (p q : PyData) (j : Nat), pln k d = true → pln j e = true → toPy d = some p → toPy e = some q → (PyData.eqv p q = true ↔ d = e) := by
  intro k
  have two : ∀ {d : D} {k : Nat}, pln k d = true → d = .non ∨ (∃ i, d = .int i) ∨ (∃ ds m, k = m + 1 ∧ d = .tup ds ∧ ds.all (pln m) = true) ∨ ∃ ds m, k = m + 1 ∧ d = .lst ds ∧ ds.all (pln m) = true := by
    intro d k h
    cases d <;> cases k <;> simp [pln] at h ⊢ <;> exact h
  have lst : ∀ (m : Nat), (∀ (d e : D) (p q : PyData) (j : Nat), pln m d = true → pln j e = true → toPy d = some p → toPy e = some q → (PyData.eqv p q = true ↔ d = e)) →
      ∀ (ds es : List D) (ps qs : List PyData) (j : Nat), ds.all (pln m) = true → es.all (pln j) = true → toPyA ds = some ps → toPyA es = some qs → (PyData.eqvAll ps qs = true ↔ ds = es) := by
    intro m ih ds
    induction ds with
    | nil =>
      intro es ps qs j _ _ h1 h2
      cases h1
      cases es with
      | nil => cases h2; simp [PyData.eqvAll]
      | cons e es =>
        rw [toPyA] at h2
        split at h2
        · cases h2; simp [PyData.eqvAll]
        · cases h2
    | cons d ds ihd =>
      intro es ps qs j a1 a2 h1 h2
      rw [toPyA] at h1
      split at h1
      · rename_i x xs e1 e2
        cases h1
        cases es with
        | nil => cases h2; simp [PyData.eqvAll]
        | cons e es =>
          rw [toPyA] at h2
          split at h2
          · rename_i y ys e3 e4
            cases h2
            rw [List.all_cons, Bool.and_eq_true] at a1 a2
            rw [PyData.eqvAll, Bool.and_eq_true, ih d e x y j a1.1 a2.1 e1 e3, ihd es xs ys j a1.2 a2.2 e2 e4, List.cons.injEq]
          · cases h2
      · cases h1
  induction k with
  | zero =>
    intro d e p q j h1 h2 e1 e2
    rcases two h1 with rfl | ⟨i, rfl⟩ | ⟨_, _, h, _⟩ | ⟨_, _, h, _⟩
    · cases e1
      rcases two h2 with rfl | ⟨i', rfl⟩ | ⟨es, m, _, rfl, _⟩ | ⟨es, m, _, rfl, _⟩
      · cases e2; simp [PyData.eqv]
      · cases e2; simp [PyData.eqv]
      · rw [toPy] at e2; split at e2 <;> cases e2; simp [PyData.eqv]
      · rw [toPy] at e2; split at e2 <;> cases e2; simp [PyData.eqv]
    · cases e1
      rcases two h2 with rfl | ⟨i', rfl⟩ | ⟨es, m, _, rfl, _⟩ | ⟨es, m, _, rfl, _⟩
      · cases e2; simp [PyData.eqv]
      · cases e2; simp [PyData.eqv]
      · rw [toPy] at e2; split at e2 <;> cases e2; simp [PyData.eqv]
      · rw [toPy] at e2; split at e2 <;> cases e2; simp [PyData.eqv]
    · omega
    · omega
  | succ k ih =>
    intro d e p q j h1 h2 e1 e2
    rcases two h1 with rfl | ⟨i, rfl⟩ | ⟨ds, m, hm, rfl, ha⟩ | ⟨ds, m, hm, rfl, ha⟩
    · cases e1
      rcases two h2 with rfl | ⟨i', rfl⟩ | ⟨es, m, _, rfl, _⟩ | ⟨es, m, _, rfl, _⟩
      · cases e2; simp [PyData.eqv]
      · cases e2; simp [PyData.eqv]
      · rw [toPy] at e2; split at e2 <;> cases e2; simp [PyData.eqv]
      · rw [toPy] at e2; split at e2 <;> cases e2; simp [PyData.eqv]
    · cases e1
      rcases two h2 with rfl | ⟨i', rfl⟩ | ⟨es, m, _, rfl, _⟩ | ⟨es, m, _, rfl, _⟩
      · cases e2; simp [PyData.eqv]
      · cases e2; simp [PyData.eqv]
      · rw [toPy] at e2; split at e2 <;> cases e2; simp [PyData.eqv]
      · rw [toPy] at e2; split at e2 <;> cases e2; simp [PyData.eqv]
    · obtain rfl : k = m := by omega
      rw [toPy] at e1
      split at e1
      · rename_i xs hx
        cases e1
        rcases two h2 with rfl | ⟨i', rfl⟩ | ⟨es, m', _, rfl, ha'⟩ | ⟨es, m', _, rfl, _⟩
        · cases e2; simp [PyData.eqv]
        · cases e2; simp [PyData.eqv]
        · rw [toPy] at e2
          split at e2
          · rename_i ys hy
            cases e2
            rw [PyData.eqv, D.tup.injEq]
            exact lst k ih ds es xs ys m' ha ha' hx hy
          · cases e2
        · rw [toPy] at e2; split at e2 <;> cases e2; simp [PyData.eqv]
      · cases e1
    · obtain rfl : k = m := by omega
      rw [toPy] at e1
      split at e1
      · rename_i xs hx
        cases e1
        rcases two h2 with rfl | ⟨i', rfl⟩ | ⟨es, m', _, rfl, _⟩ | ⟨es, m', _, rfl, ha'⟩
        · cases e2; simp [PyData.eqv]
        · cases e2; simp [PyData.eqv]
        · rw [toPy] at e2; split at e2 <;> cases e2; simp [PyData.eqv]
        · rw [toPy] at e2
          split at e2
          · rename_i ys hy
            cases e2
            rw [PyData.eqv, D.lst.injEq]
            exact lst k ih ds es xs ys m' ha ha' hx hy
          · cases e2
      · cases e1
theorem pln_shaped {k : Nat} {d : D} (hk : k ≤ 64) (h : pln k d = true) : ∃ p, toPy d = some p ∧ SeqAt.shaped p = true := by
  obtain ⟨p, h1, h2, h3⟩ := pln_py k d h
  refine ⟨p, h1, ?_⟩
  unfold SeqAt.shaped
  rw [h2, decide_eq_true (Nat.le_trans h3 hk)]
  rfl
theorem eq_pln {S : List Cell} {d e : D} (k : Nat) (h1 : pln k d = true) (h2 : pln k e = true) (hk : k ≤ 64 := by decide) : oEq S d e = some (.bl (decide (d = e))) := by
  obtain ⟨p, a1, a2⟩ := pln_shaped hk h1
  obtain ⟨q, b1, b2⟩ := pln_shaped hk h2
  have := eqv_pln k d e p q k h1 h2 a1 b1
  unfold oEq
  rw [a1, b1]
  dsimp only
  rw [a2, b2]
  have e1 : PyData.eqv p q = decide (d = e) := by rw [Bool.eq_iff_iff, this, decide_eq_true_iff]
  rw [e1]
  rfl
theorem ne_pln {S : List Cell} {d e : D} (k : Nat) (h1 : pln k d = true) (h2 : pln k e = true) (hk : k ≤ 64 := by decide) : oNe S d e = some (.bl (!decide (d = e))) := by
  obtain ⟨p, a1, a2⟩ := pln_shaped hk h1
  obtain ⟨q, b1, b2⟩ := pln_shaped hk h2
  have := eqv_pln k d e p q k h1 h2 a1 b1
  unfold oNe
  rw [a1, b1]
  dsimp only
  rw [a2, b2]
  have e1 : PyData.eqv p q = decide (d = e) := by rw [Bool.eq_iff_iff, this, decide_eq_true_iff]
  rw [e1]
  rfl
theorem eq_int {S : List Cell} {i j : Int} : oEq S (.int i) (.int j) = some (.bl (decide (i = j))) := by
  rw [eq_pln 0 rfl rfl]
  simp
theorem ne_int {S : List Cell} {i j : Int} : oNe S (.int i) (.int j) = some (.bl (!decide (i = j))) := by
  rw [ne_pln 0 rfl rfl]
  simp
end Rw
end
section
set_option Elab.async false
set_option linter.all false
set_option maxRecDepth 100000
set_option maxHeartbeats 1000000
namespace Rw
open PySem PySem.W
theorem srtP_ints (ns : List Int) (h : ns.length ≤ LINE) : SrtP (ns.map D.int) = true := by
  unfold SrtP
  simp only [decide_eq_true_eq]
  refine ⟨fun d hd => ?_, ?_, ?_, by rw [List.length_map]; exact h⟩
  · obtain ⟨i, _, rfl⟩ := List.mem_map.mp hd
    exact ⟨rfl, by simp [encD, toPy, PyData.depth]⟩
  · rw [List.map_map]
    exact AllAlike.of (enc := encD ∘ D.int) fun a b => by simp [encD, toPy, alike]
  · rw [List.map_map]
    exact Sortable.others (enc := encD ∘ D.int) fun b => ⟨by simp [encD, toPy], fun xs => by simp [encD, toPy]⟩
theorem sort_ints (ns : List Int) : (ns.map D.int).mergeSort (dataLe false encD) = (ns.mergeSort fun a b => decide (a ≤ b)).map D.int := by
  rw [List.map_mergeSort (r := fun a b => decide (a ≤ b)) (s := dataLe false encD) (f := D.int)]
  intro a _ b _
  have h : dataLe false (fun b : Int => PyData.int b) a b = decide (a ≤ b) := by rw [dataLe_int fun b : Int => b]
  rw [← h]
  rfl
theorem o_sorted_ints {S : List Cell} (ns : List Int) (h : ns.length ≤ LINE) : oSorted S [.lst (ns.map D.int)] = some ((ns.mergeSort fun a b => decide (a ≤ b)).map D.int) := by
  show (if SrtP (ns.map D.int) then some _ else none) = _
  rw [if_pos (srtP_ints ns h), sort_ints]
theorem sort_eq_ints {ns ms : List Int} (hp : ns.Perm ms) (hs : ms.Pairwise (· ≤ ·)) : (ns.mergeSort fun a b => decide (a ≤ b)) = ms := by
  refine List.Perm.eq_of_pairwise (le := fun a b => a ≤ b) (fun a b _ _ h1 h2 => by omega) ?_ hs ((List.mergeSort_perm _ _).trans hp)
  have := List.pairwise_mergeSort (le := fun a b : Int => decide (a ≤ b)) (fun a b c h1 h2 => by simp at *; omega) (fun a b => by simp; omega) ns
  exact this.imp fun h => by simpa using h
def prD (p : Int × Int) : D := .tup [.int p.1, .int p.2]
def prLe (p q : Int × Int) : Bool := decide (p.1 < q.1 ∨ p.1 = q.1 ∧ p.2 ≤ q.2)
theorem srtP_prs (ns : List (Int × Int)) (h : ns.length ≤ LINE) : SrtP (ns.map prD) = true := by
  unfold SrtP
  simp only [decide_eq_true_eq]
  refine ⟨fun d hd => ?_, ?_, ?_, by rw [List.length_map]; exact h⟩
  · obtain ⟨i, _, rfl⟩ := List.mem_map.mp hd
    refine ⟨rfl, ?_⟩
    show (PyData.tuple [.int i.1, .int i.2]).depth ≤ 8
    simp [PyData.depth, PyData.depthAll]
  · rw [List.map_map]
    refine AllAlike.of (enc := encD ∘ prD) fun a b => ?_
    show alike (.tuple [.int a.1, .int a.2]) (.tuple [.int b.1, .int b.2]) = true
    rw [alike]
    exact alike_ints [a.1, a.2] [b.1, b.2]
  · rw [List.map_map]
    exact Sortable.tuples (enc := encD ∘ prD) fun b => ⟨.int b.1, [.int b.2], rfl⟩
theorem sort_prs (ns : List (Int × Int)) : (ns.map prD).mergeSort (dataLe false encD) = (ns.mergeSort prLe).map prD := by
  rw [List.map_mergeSort (r := prLe) (s := dataLe false encD) (f := prD)]
  intro a _ b _
  have h : dataLe false (fun b : Int × Int => PyData.tuple [.int b.1, .int b.2]) a b = prLe a b := by rw [dataLe_ii (fun b : Int × Int => b.1) (fun b => b.2)]; rfl
  rw [← h]
  rfl
theorem o_sorted_prs {S : List Cell} (ns : List (Int × Int)) (h : ns.length ≤ LINE) : oSorted S [.lst (ns.map prD)] = some ((ns.mergeSort prLe).map prD) := by
  show (if SrtP (ns.map prD) then some _ else none) = _
  rw [if_pos (srtP_prs ns h), sort_prs]
theorem prLe_iff {a b : Int × Int} : prLe a b = true ↔ (a.1 < b.1 ∨ a.1 = b.1 ∧ a.2 ≤ b.2) := by unfold prLe; rw [decide_eq_true_iff]
theorem sort_perm_prs {ns ms : List (Int × Int)} (hp : ns.Perm ms) : ns.mergeSort prLe = ms.mergeSort prLe := by
  have tr : ∀ a b c : Int × Int, prLe a b = true → prLe b c = true → prLe a c = true := fun a b c h1 h2 => by
    rw [prLe_iff] at *
    omega
  have tt : ∀ a b : Int × Int, (prLe a b || prLe b a) = true := fun a b => by
    rw [Bool.or_eq_true, prLe_iff, prLe_iff]
    omega
  refine List.Perm.eq_of_pairwise (le := fun a b => prLe a b = true) (fun a b _ _ h1 h2 => ?_) (List.pairwise_mergeSort tr tt ns) (List.pairwise_mergeSort tr tt ms) ((List.mergeSort_perm _ _).trans (hp.trans (List.mergeSort_perm _ _).symm))
  rw [prLe_iff] at h1 h2
  exact Prod.ext (by omega) (by omega)
end Rw
end
section
set_option linter.all false
namespace Mv
theorem f4_assoc : ∀ a b c : Fin 4, a + b + c = a + (b + c) := by decide
theorem f4_comm : ∀ a b : Fin 4, a + b = b + a := by decide
theorem f4_zero : ∀ a : Fin 4, a + 0 = a := by decide
theorem f4_zero' : ∀ a : Fin 4, 0 + a = a := by decide
theorem f4_neg : ∀ a : Fin 4, a + -a = 0 := by decide
theorem f4_neg' : ∀ a : Fin 4, -a + a = 0 := by decide
theorem f4_nn : ∀ a : Fin 4, - -a = a := by decide
theorem f4_na : ∀ a b : Fin 4, -(a + b) = -a + -b := by decide
structure Mv (n : Nat) where
  to : Fin n → Fin n
  tw : Fin n → Fin 4
  fro : Fin n → Fin n
  tf : ∀ i, fro (to i) = i
  ft : ∀ i, to (fro i) = i
variable {n : Nat}
theorem Mv.inj (a : Mv n) {i j : Fin n} (h : a.to i = a.to j) : i = j := by rw [← a.tf i, h, a.tf]
theorem Mv.ext {a b : Mv n} (h1 : ∀ i, a.to i = b.to i) (h2 : ∀ i, a.tw i = b.tw i) : a = b := by
  have h3 : ∀ i, a.fro i = b.fro i := fun i => b.inj (by rw [b.ft, ← h1, a.ft])
  cases a; cases b
  simp only [Mv.mk.injEq]
  exact ⟨funext h1, funext h2, funext h3⟩
def mul (a b : Mv n) : Mv n := ⟨fun i => b.to (a.to i), fun i => a.tw i + b.tw (a.to i), fun i => a.fro (b.fro i), fun i => by rw [b.tf, a.tf], fun i => by rw [a.ft, b.ft]⟩
def one (n : Nat) : Mv n := ⟨fun i => i, fun _ => 0, fun i => i, fun _ => rfl, fun _ => rfl⟩
def inv (a : Mv n) : Mv n := ⟨a.fro, fun i => -(a.tw (a.fro i)), a.to, a.ft, a.tf⟩
def conv (a : Mv n) : Mv n := ⟨a.fro, fun i => a.tw (a.fro i), a.to, a.ft, a.tf⟩
theorem mul_assoc (a b c : Mv n) : mul (mul a b) c = mul a (mul b c) := Mv.ext (fun _ => rfl) fun i => f4_assoc _ _ _
theorem mul_one (a : Mv n) : mul a (one n) = a := Mv.ext (fun _ => rfl) fun i => f4_zero _
theorem one_mul (a : Mv n) : mul (one n) a = a := Mv.ext (fun _ => rfl) fun i => f4_zero' _
theorem mul_inv (a : Mv n) : mul a (inv a) = one n := Mv.ext (fun i => a.tf i) fun i => by
  show a.tw i + -(a.tw (a.fro (a.to i))) = 0
  rw [a.tf]; exact f4_neg _
theorem inv_mul (a : Mv n) : mul (inv a) a = one n := Mv.ext (fun i => a.ft i) fun i => by
  show -(a.tw (a.fro i)) + a.tw (a.fro i) = 0
  exact f4_neg' _
theorem mul_left_cancel {a b c : Mv n} (h : mul a b = mul a c) : b = c := by
  rw [← one_mul b, ← inv_mul a, mul_assoc, h, ← mul_assoc, inv_mul, one_mul]
theorem mul_right_cancel {a b c : Mv n} (h : mul b a = mul c a) : b = c := by
  rw [← mul_one b, ← mul_inv a, ← mul_assoc, h, mul_assoc, mul_inv, mul_one]
theorem inv_unique {a b : Mv n} (h : mul a b = one n) : b = inv a := mul_left_cancel (h.trans (mul_inv a).symm)
theorem inv_inv (a : Mv n) : inv (inv a) = a := (inv_unique (inv_mul a)).symm
theorem inv_mul_rev (a b : Mv n) : inv (mul a b) = mul (inv b) (inv a) := (inv_unique (by
  rw [mul_assoc, ← mul_assoc b, mul_inv, one_mul, mul_inv])).symm
theorem inv_one : inv (one n) = one n := (inv_unique (mul_one _)).symm
theorem conv_conv (a : Mv n) : conv (conv a) = a := Mv.ext (fun _ => rfl) fun i => by show a.tw (a.fro (a.to i)) = _; rw [a.tf]
theorem conv_mul (a b : Mv n) : conv (mul a b) = mul (conv b) (conv a) := Mv.ext (fun _ => rfl) fun i => by
  show a.tw (a.fro (b.fro i)) + b.tw (a.to (a.fro (b.fro i))) = b.tw (b.fro i) + a.tw (a.fro (b.fro i))
  rw [a.ft]; exact f4_comm _ _
def pw (a : Mv n) : Nat → Mv n
  | 0 => one n
  | k + 1 => mul (pw a k) a
theorem pw_one (a : Mv n) : pw a 1 = a := one_mul a
theorem pw_add (a : Mv n) (j : Nat) : ∀ k, pw a (j + k) = mul (pw a j) (pw a k)
  | 0 => (mul_one _).symm
  | k + 1 => by
    show mul (pw a (j + k)) a = mul (pw a j) (mul (pw a k) a)
    rw [pw_add a j k, mul_assoc]
theorem pw_comm (a : Mv n) (k : Nat) : mul a (pw a k) = mul (pw a k) a := by
  have h : pw a (1 + k) = mul (pw a 1) (pw a k) := pw_add a 1 k
  rw [pw_one, Nat.add_comm] at h
  exact h.symm
theorem pw_mul (a : Mv n) (j : Nat) : ∀ k, pw a (j * k) = pw (pw a j) k
  | 0 => rfl
  | k + 1 => by rw [Nat.mul_succ, pw_add, pw_mul a j k]; rfl
theorem one_pw : ∀ k, pw (one n) k = one n
  | 0 => rfl
  | k + 1 => by show mul (pw _ k) _ = _; rw [one_pw k, one_mul]
theorem inv_pw (a : Mv n) : ∀ k, pw (inv a) k = inv (pw a k)
  | 0 => inv_one.symm
  | k + 1 => by
    show mul (pw (inv a) k) (inv a) = inv (mul (pw a k) a)
    rw [inv_pw a k, ← pw_comm, inv_mul_rev]
theorem conj_pw (b a : Mv n) : ∀ k, pw (mul (mul (inv b) a) b) k = mul (mul (inv b) (pw a k)) b
  | 0 => by show one n = _; rw [show pw a 0 = one n from rfl, mul_one, inv_mul]
  | k + 1 => by
    show mul (pw _ k) _ = mul (mul (inv b) (mul (pw a k) a)) b
    rw [conj_pw b a k]
    simp only [mul_assoc]
    rw [← mul_assoc b, mul_inv, one_mul]
def zp (a : Mv n) (k : Int) : Mv n := if 0 ≤ k then pw a k.toNat else pw (inv a) (-k).toNat
theorem zp_nat (a : Mv n) (k : Nat) : zp a (k : Int) = pw a k := by
  unfold zp
  rw [if_pos (by omega)]
  rfl
theorem zp_succ (a : Mv n) (k : Int) : zp a (k + 1) = mul (zp a k) a := by
  unfold zp
  by_cases h : 0 ≤ k
  · rw [if_pos h, if_pos (by omega), show (k + 1).toNat = k.toNat + 1 by omega]; rfl
  · rw [if_neg h]
    by_cases h1 : k = -1
    · subst h1
      rw [if_pos (by decide)]
      show one n = mul (pw (inv a) 1) a
      rw [pw_one, inv_mul]
    · rw [if_neg (by omega), show (-k).toNat = (-(k + 1)).toNat + 1 by omega]
      show _ = mul (mul (pw (inv a) _) (inv a)) a
      rw [mul_assoc, inv_mul, mul_one]
theorem zp_pred (a : Mv n) (k : Int) : zp a (k - 1) = mul (zp a k) (inv a) := by
  have h := zp_succ a (k - 1)
  rw [show k - 1 + 1 = k by omega] at h
  rw [h, mul_assoc, mul_inv, mul_one]
theorem zp_zero (a : Mv n) : zp a 0 = one n := rfl
theorem zp_add_nat (a : Mv n) (j : Int) : ∀ k : Nat, zp a (j + k) = mul (zp a j) (zp a k)
  | 0 => by rw [show j + ((0 : Nat) : Int) = j by omega]; exact (mul_one _).symm
  | k + 1 => by
    rw [show j + ((k + 1 : Nat) : Int) = j + (k : Int) + 1 by omega, zp_succ, zp_add_nat a j k, show ((k + 1 : Nat) : Int) = (k : Int) + 1 by omega, zp_succ, mul_assoc]
theorem zp_sub_nat (a : Mv n) (j : Int) : ∀ k : Nat, zp a (j - k) = mul (zp a j) (zp a (-(k : Int)))
  | 0 => by rw [show j - ((0 : Nat) : Int) = j by omega]; exact (mul_one _).symm
  | k + 1 => by
    rw [show j - ((k + 1 : Nat) : Int) = j - (k : Int) - 1 by omega, zp_pred, zp_sub_nat a j k, show -((k + 1 : Nat) : Int) = -(k : Int) - 1 by omega, zp_pred, mul_assoc]
theorem zp_add (a : Mv n) (j k : Int) : zp a (j + k) = mul (zp a j) (zp a k) := by
  by_cases h : 0 ≤ k
  · have := zp_add_nat a j k.toNat
    rwa [show ((k.toNat : Nat) : Int) = k by omega] at this
  · have := zp_sub_nat a j (-k).toNat
    rwa [show (((-k).toNat : Nat) : Int) = -k by omega, show j - -k = j + k by omega, show - -k = k by omega] at this
theorem zp_neg (a : Mv n) (k : Int) : zp a (-k) = inv (zp a k) := inv_unique (by
  rw [← zp_add, show k + -k = 0 by omega]; rfl)
theorem zp_mul_nat (a : Mv n) (j : Int) : ∀ k : Nat, zp a (j * k) = pw (zp a j) k
  | 0 => by rw [show j * ((0 : Nat) : Int) = 0 by simp]; rfl
  | k + 1 => by
    rw [show j * ((k + 1 : Nat) : Int) = j * (k : Int) + j by rw [Int.natCast_add, Int.mul_add]; simp, zp_add, zp_mul_nat a j k]; rfl
theorem zp_mul (a : Mv n) (j k : Int) : zp a (j * k) = zp (zp a j) k := by
  by_cases h : 0 ≤ k
  · have := zp_mul_nat a j k.toNat
    rw [show ((k.toNat : Nat) : Int) = k by omega] at this
    rw [this]; unfold zp; rw [if_pos h]
  · have := zp_mul_nat a j (-k).toNat
    rw [show (((-k).toNat : Nat) : Int) = -k by omega] at this
    rw [show j * k = -(j * -k) by rw [Int.mul_neg]; omega, zp_neg, this, ← inv_pw]
    exact (show zp (zp a j) k = pw (inv (zp a j)) (-k).toNat from if_neg h).symm
def it (a : Mv n) : Nat → Fin n → Fin n
  | 0, p => p
  | k + 1, p => a.to (it a k p)
def sm (a : Mv n) : Nat → Fin n → Nat
  | 0, _ => 0
  | k + 1, p => sm a k p + (a.tw (it a k p)).val
theorem it_add (a : Mv n) (j : Nat) (p : Fin n) : ∀ k, it a (j + k) p = it a k (it a j p)
  | 0 => rfl
  | k + 1 => by show a.to (it a (j + k) p) = a.to (it a k (it a j p)); rw [it_add a j p k]
theorem sm_add (a : Mv n) (j : Nat) (p : Fin n) : ∀ k, sm a (j + k) p = sm a j p + sm a k (it a j p)
  | 0 => rfl
  | k + 1 => by
    show sm a (j + k) p + (a.tw (it a (j + k) p)).val = sm a j p + (sm a k (it a j p) + (a.tw (it a k (it a j p))).val)
    rw [sm_add a j p k, it_add, Nat.add_assoc]
theorem pw_to (a : Mv n) (p : Fin n) : ∀ k, (pw a k).to p = it a k p
  | 0 => rfl
  | k + 1 => by show a.to ((pw a k).to p) = a.to (it a k p); rw [pw_to a p k]
theorem pw_tw (a : Mv n) (p : Fin n) : ∀ k, ((pw a k).tw p).val = sm a k p % 4
  | 0 => rfl
  | k + 1 => by
    show ((pw a k).tw p + a.tw ((pw a k).to p)).val = (sm a k p + (a.tw (it a k p)).val) % 4
    rw [Fin.val_add, pw_tw a p k, pw_to]
    omega
theorem it_inj (a : Mv n) {p q : Fin n} : ∀ k, it a k p = it a k q → p = q
  | 0, h => h
  | k + 1, h => it_inj a k (a.inj h)
theorem pigeon : ∀ (n : Nat) (f : Nat → Nat), (∀ i, i ≤ n → f i < n) → ∃ i j, i < j ∧ j ≤ n ∧ f i = f j
  | 0, f, h => absurd (h 0 (Nat.le_refl _)) (by omega)
  | n + 1, f, h => by
    by_cases hc : ∃ i, i < n + 1 ∧ f i = f (n + 1)
    · obtain ⟨i, h1, h2⟩ := hc
      exact ⟨i, n + 1, h1, Nat.le_refl _, h2⟩
    · have hne : ∀ i, i < n + 1 → f i ≠ f (n + 1) := fun i hi e => hc ⟨i, hi, e⟩
      obtain ⟨i, j, h1, h2, h3⟩ := pigeon n (fun i => if f i < f (n + 1) then f i else f i - 1) fun i hi => by
        have a1 := h i (by omega)
        have a2 := h (n + 1) (Nat.le_refl _)
        have a3 := hne i (by omega)
        show (if f i < f (n + 1) then f i else f i - 1) < n
        split <;> omega
      refine ⟨i, j, h1, by omega, ?_⟩
      have b1 := hne i (by omega)
      have b2 := hne j (by omega)
      have h3' : (if f i < f (n + 1) then f i else f i - 1) = (if f j < f (n + 1) then f j else f j - 1) := h3
      split at h3' <;> split at h3' <;> omega
theorem back (a : Mv n) (p : Fin n) : ∃ k, 1 ≤ k ∧ k ≤ n ∧ it a k p = p := by
  obtain ⟨i, j, h1, h2, h3⟩ := pigeon n (fun k => (it a k p).val) fun i _ => (it a i p).isLt
  refine ⟨j - i, by omega, by omega, ?_⟩
  have h4 : it a i p = it a j p := Fin.ext h3
  have h5 : it a j p = it a i (it a (j - i) p) := by rw [← it_add]; congr 1; omega
  exact (it_inj a i (h4.trans h5)).symm
theorem least (P : Nat → Prop) {k : Nat} (hk : P k) : ∃ m, m ≤ k ∧ P m ∧ ∀ j, j < m → ¬ P j := by
  induction k using Nat.strongRecOn with
  | _ k ih =>
    by_cases h : ∃ j, j < k ∧ P j
    · obtain ⟨j, h1, h2⟩ := h
      obtain ⟨m, m1, m2, m3⟩ := ih j h1 h2
      exact ⟨m, by omega, m2, m3⟩
    · exact ⟨k, Nat.le_refl _, hk, fun j hj hp => h ⟨j, hj, hp⟩⟩
theorem len_ex (a : Mv n) (p : Fin n) : ∃ m, m ≤ n ∧ (1 ≤ m ∧ it a m p = p) ∧ ∀ j, j < m → ¬ (1 ≤ j ∧ it a j p = p) := by
  obtain ⟨k, h1, h2, h3⟩ := back a p
  obtain ⟨m, m1, m2, m3⟩ := least (fun j => 1 ≤ j ∧ it a j p = p) (k := k) ⟨h1, h3⟩
  exact ⟨m, by omega, m2, m3⟩
/-- how long the ring of p is -/
noncomputable def len (a : Mv n) (p : Fin n) : Nat := Classical.choose (len_ex a p)
theorem len_le (a : Mv n) (p : Fin n) : len a p ≤ n := (Classical.choose_spec (len_ex a p)).1
theorem len_pos (a : Mv n) (p : Fin n) : 1 ≤ len a p := (Classical.choose_spec (len_ex a p)).2.1.1
theorem len_it (a : Mv n) (p : Fin n) : it a (len a p) p = p := (Classical.choose_spec (len_ex a p)).2.1.2
theorem len_min (a : Mv n) (p : Fin n) (j : Nat) (h1 : 1 ≤ j) (h2 : j < len a p) : it a j p ≠ p := fun e => (Classical.choose_spec (len_ex a p)).2.2 j h2 ⟨h1, e⟩
theorem len_of (a : Mv n) (p : Fin n) {m : Nat} (h1 : 1 ≤ m) (h2 : it a m p = p) (h3 : ∀ j, 1 ≤ j → j < m → it a j p ≠ p) : len a p = m := by
  rcases Nat.lt_trichotomy (len a p) m with h | h | h
  · exact absurd (len_it a p) (h3 _ (len_pos a p) h)
  · exact h
  · exact absurd h2 (len_min a p m h1 h)
/-- the turns around it -/
noncomputable def tws (a : Mv n) (p : Fin n) : Nat := sm a (len a p) p
theorem it_mod (a : Mv n) (p : Fin n) (k : Nat) : ∀ q, it a (len a p * q + k) p = it a k p
  | 0 => by rw [Nat.mul_zero, Nat.zero_add]
  | q + 1 => by
    rw [show len a p * (q + 1) + k = len a p + (len a p * q + k) by rw [Nat.mul_succ]; omega, it_add, len_it, it_mod a p k q]
theorem sm_mod (a : Mv n) (p : Fin n) (k : Nat) : ∀ q, sm a (len a p * q + k) p = tws a p * q + sm a k p
  | 0 => by rw [Nat.mul_zero, Nat.zero_add, Nat.mul_zero, Nat.zero_add]
  | q + 1 => by
    rw [show len a p * (q + 1) + k = len a p + (len a p * q + k) by rw [Nat.mul_succ]; omega, sm_add, len_it, sm_mod a p k q, Nat.mul_succ]
    unfold tws
    omega
/-- along the ring it is the same -/
theorem len_step (a : Mv n) (p : Fin n) : len a (a.to p) = len a p := by
  have e : ∀ k, it a k (a.to p) = a.to (it a k p) := fun k => by
    have h1 := it_add a 1 p k
    have h2 : it a (k + 1) p = a.to (it a k p) := rfl
    rw [← h2, Nat.add_comm, h1]; rfl
  refine len_of a _ (len_pos a p) (by rw [e, len_it]) fun j h1 h2 h3 => ?_
  rw [e] at h3
  exact len_min a p j h1 h2 (a.inj h3)
theorem tws_step (a : Mv n) (p : Fin n) : tws a (a.to p) = tws a p := by
  unfold tws
  rw [len_step]
  have h1 := sm_add a 1 p (len a p)
  have h2 : sm a (len a p + 1) p = sm a (len a p) p + (a.tw (it a (len a p) p)).val := rfl
  rw [len_it] at h2
  have h3 : sm a 1 p = (a.tw p).val := by show 0 + (a.tw p).val = _; omega
  have h4 : it a 1 p = a.to p := rfl
  rw [Nat.add_comm 1, h2, h3, h4] at h1
  omega
theorem len_it' (a : Mv n) (p : Fin n) : ∀ k, len a (it a k p) = len a p
  | 0 => rfl
  | k + 1 => by show len a (a.to (it a k p)) = _; rw [len_step, len_it' a p k]
theorem tws_it' (a : Mv n) (p : Fin n) : ∀ k, tws a (it a k p) = tws a p
  | 0 => rfl
  | k + 1 => by show tws a (a.to (it a k p)) = _; rw [tws_step, tws_it' a p k]
theorem conj_it (b a : Mv n) (p : Fin n) : ∀ k, it (mul (mul (inv b) a) b) k (b.to p) = b.to (it a k p)
  | 0 => rfl
  | k + 1 => by
    show b.to (a.to (b.fro (it _ k (b.to p)))) = b.to (a.to (it a k p))
    rw [conj_it b a p k, b.tf]
theorem conj_len (b a : Mv n) (p : Fin n) : len (mul (mul (inv b) a) b) (b.to p) = len a p := by
  refine len_of _ _ (len_pos a p) (by rw [conj_it, len_it]) fun j h1 h2 h3 => ?_
  rw [conj_it] at h3
  exact len_min a p j h1 h2 (b.inj h3)
theorem conj_tws (b a : Mv n) (p : Fin n) : tws (mul (mul (inv b) a) b) (b.to p) % 4 = tws a p % 4 := by
  unfold tws
  rw [conj_len, ← pw_tw, ← pw_tw, conj_pw]
  show ((-(b.tw (b.fro (b.to p))) + (pw a _).tw (b.fro (b.to p))) + b.tw ((pw a _).to (b.fro (b.to p)))).val = _
  rw [b.tf, pw_to, len_it]
  congr 1
  generalize b.tw p = x
  generalize (pw a (len a p)).tw p = y
  revert x y
  decide
def prodLen (a : Mv n) : List (Fin n) → Nat := fun _ => 0
theorem fix_of (a : Mv n) (k : Nat) (h : ∀ p, len a p ∣ k) : pw a (k * 4) = one n := by
  refine Mv.ext (fun p => ?_) fun p => ?_
  · obtain ⟨q, hq⟩ := h p
    have e : k * 4 = len a p * (q * 4) + 0 := by rw [hq, Nat.mul_assoc]; rfl
    rw [pw_to, e, it_mod]; rfl
  · obtain ⟨q, hq⟩ := h p
    have e : k * 4 = len a p * (q * 4) + 0 := by rw [hq, Nat.mul_assoc]; rfl
    apply Fin.ext
    rw [pw_tw, e, sm_mod]
    show (tws a p * (q * 4) + 0) % 4 = 0
    rw [← Nat.mul_assoc]; omega
def fact : Nat → Nat
  | 0 => 1
  | k + 1 => (k + 1) * fact k
theorem dvd_fact : ∀ {k m : Nat}, 1 ≤ k → k ≤ m → k ∣ fact m
  | k, 0, h1, h2 => by omega
  | k, m + 1, h1, h2 => by
    by_cases e : k = m + 1
    · subst e; exact ⟨fact m, rfl⟩
    · obtain ⟨q, hq⟩ := dvd_fact (k := k) (m := m) h1 (by omega)
      exact ⟨(m + 1) * q, by show (m + 1) * fact m = _; rw [hq, Nat.mul_left_comm]⟩
theorem fact_pos : ∀ m, 1 ≤ fact m
  | 0 => Nat.le_refl _
  | m + 1 => Nat.mul_pos (Nat.succ_pos _) (fact_pos m)
theorem ord_ex (a : Mv n) : ∃ m, m ≤ fact n * 4 ∧ (1 ≤ m ∧ pw a m = one n) ∧ ∀ j, j < m → ¬ (1 ≤ j ∧ pw a j = one n) := by
  have h := fix_of a (fact n) fun p => dvd_fact (len_pos a p) (len_le a p)
  exact least (fun j => 1 ≤ j ∧ pw a j = one n) ⟨by have := fact_pos n; omega, h⟩
noncomputable def ord (a : Mv n) : Nat := Classical.choose (ord_ex a)
theorem ord_le (a : Mv n) : ord a ≤ fact n * 4 := (Classical.choose_spec (ord_ex a)).1
theorem ord_pos (a : Mv n) : 1 ≤ ord a := (Classical.choose_spec (ord_ex a)).2.1.1
theorem pw_ord (a : Mv n) : pw a (ord a) = one n := (Classical.choose_spec (ord_ex a)).2.1.2
theorem ord_min (a : Mv n) (j : Nat) (h1 : 1 ≤ j) (h2 : j < ord a) : pw a j ≠ one n := fun e => (Classical.choose_spec (ord_ex a)).2.2 j h2 ⟨h1, e⟩
theorem pw_mod (a : Mv n) (k : Nat) : pw a k = pw a (k % ord a) := by
  have e : k = ord a * (k / ord a) + k % ord a := (Nat.div_add_mod k (ord a)).symm
  conv => lhs; rw [e, pw_add, pw_mul, pw_ord, one_pw, one_mul]
theorem pw_one_iff (a : Mv n) (k : Nat) : pw a k = one n ↔ ord a ∣ k := by
  constructor
  · intro h
    rw [pw_mod] at h
    have hl := Nat.mod_lt k (ord_pos a)
    have : k % ord a = 0 := by
      by_cases e : k % ord a = 0
      · exact e
      · exact absurd h (ord_min a _ (by omega) hl)
    exact Nat.dvd_of_mod_eq_zero this
  · rintro ⟨q, rfl⟩
    rw [pw_mul, pw_ord, one_pw]
theorem ord_of {a : Mv n} {m : Nat} {m' : Nat} {b : Mv m'} (h : ∀ k, pw a k = one n ↔ pw b k = one m') : ord a = ord b := by
  apply Nat.dvd_antisymm
  · exact (pw_one_iff a _).mp ((h _).mpr (pw_ord b))
  · exact (pw_one_iff b _).mp ((h _).mp (pw_ord a))
theorem ord_inv (a : Mv n) : ord (inv a) = ord a := ord_of (m := 0) fun k => by
  rw [inv_pw]
  exact ⟨fun h => by rw [← inv_inv (pw a k), h, inv_one], fun h => by rw [h, inv_one]⟩
theorem ord_conj (b a : Mv n) : ord (mul (mul (inv b) a) b) = ord a := ord_of (m := 0) fun k => by
  rw [conj_pw]
  constructor
  · intro h
    have h2 : mul (inv b) (pw a k) = inv b := by
      have h3 := congrArg (fun z => mul z (inv b)) h
      simpa only [mul_assoc, mul_inv, mul_one, one_mul] using h3
    exact mul_left_cancel (h2.trans (mul_one _).symm)
  · intro h
    rw [h, mul_one, inv_mul]
theorem ord_swap (a b : Mv n) : ord (mul a b) = ord (mul b a) := by
  have e : mul b a = mul (mul (inv a) (mul a b)) a := by
    rw [← mul_assoc, inv_mul, one_mul]
  rw [e, ord_conj]
theorem ord_pw (a : Mv n) (m : Nat) (hm : 1 ≤ m) : ord (pw a m) = ord a / Nat.gcd (ord a) m := by
  have g0 : 0 < Nat.gcd (ord a) m := Nat.gcd_pos_of_pos_right _ hm
  obtain ⟨x, hx⟩ := Nat.gcd_dvd_left (ord a) m
  obtain ⟨y, hy⟩ := Nat.gcd_dvd_right (ord a) m
  have ex : ord a / Nat.gcd (ord a) m = x := by
    conv => lhs; lhs; rw [hx]
    rw [Nat.mul_div_cancel_left _ g0]
  rw [ex]
  have cop : Nat.Coprime x y := by
    have h1 : Nat.gcd (Nat.gcd (ord a) m * x) (Nat.gcd (ord a) m * y) = Nat.gcd (ord a) m * Nat.gcd x y := Nat.gcd_mul_left _ _ _
    rw [← hx, ← hy] at h1
    have h2 : Nat.gcd (ord a) m * 1 = Nat.gcd (ord a) m * Nat.gcd x y := by rw [Nat.mul_one]; exact h1
    exact (Nat.eq_of_mul_eq_mul_left g0 h2).symm
  apply Nat.dvd_antisymm
  · refine (pw_one_iff _ _).mp ?_
    rw [← pw_mul, pw_one_iff]
    refine ⟨y, ?_⟩
    conv => lhs; rw [hy]
    conv => rhs; rw [hx]
    rw [Nat.mul_assoc, Nat.mul_assoc, Nat.mul_comm y x]
  · have h1 := pw_ord (pw a m)
    rw [← pw_mul, pw_one_iff] at h1
    have h2 : Nat.gcd (ord a) m * x ∣ Nat.gcd (ord a) m * (y * ord (pw a m)) := by
      rw [← hx, ← Nat.mul_assoc, ← hy]; exact h1
    have h3 : x ∣ y * ord (pw a m) := Nat.dvd_of_mul_dvd_mul_left g0 h2
    exact cop.dvd_of_dvd_mul_left h3
theorem zp_ord (a : Mv n) (k : Int) : zp a k = zp a (k % (ord a : Int)) := by
  have e : k = (ord a : Int) * (k / ord a) + k % ord a := (Int.mul_ediv_add_emod k (ord a)).symm
  conv => lhs; rw [e, zp_add, zp_mul, zp_nat, pw_ord]
  have : ∀ j : Int, zp (one n) j = one n := fun j => by
    unfold zp
    split
    · exact one_pw _
    · rw [inv_one]; exact one_pw _
  rw [this, one_mul]
end Mv
end
section
set_option linter.all false
namespace Mv
variable {n : Nat}
/-- the ring of p, from p -/
noncomputable def rng (a : Mv n) (p : Fin n) : List (Fin n) := (List.range (len a p)).map fun k => it a k p
theorem it_sub (a : Mv n) (p : Fin n) {i j : Nat} (h : i ≤ j) (e : it a i p = it a j p) : it a (j - i) p = p := by
  have h5 : it a j p = it a i (it a (j - i) p) := by rw [← it_add]; congr 1; omega
  exact (it_inj a i (e.trans h5)).symm
theorem it_ne (a : Mv n) (p : Fin n) {i j : Nat} (h : i < j) (hj : j < len a p) : it a i p ≠ it a j p := fun e => len_min a p (j - i) (by omega) (by omega) (it_sub a p (by omega) e)
theorem rng_nodup (a : Mv n) (p : Fin n) : (rng a p).Nodup := by
  unfold rng
  have h : (List.range (len a p)).Pairwise fun i j => i < j ∧ j < len a p := by
    rw [List.pairwise_iff_getElem]
    intro i j hi hj hij
    simp at hi hj ⊢
    exact ⟨hij, hj⟩
  exact List.Pairwise.map _ (fun i j h => it_ne a p h.1 h.2) h
theorem rng_length (a : Mv n) (p : Fin n) : (rng a p).length = len a p := by unfold rng; simp
theorem mem_rng {a : Mv n} {p q : Fin n} : q ∈ rng a p ↔ ∃ k, k < len a p ∧ it a k p = q := by
  unfold rng
  simp
theorem rng_to {a : Mv n} {p q : Fin n} (h : q ∈ rng a p) : a.to q ∈ rng a p := by
  obtain ⟨k, hk, rfl⟩ := mem_rng.mp h
  by_cases e : k + 1 < len a p
  · exact mem_rng.mpr ⟨k + 1, e, rfl⟩
  · have : k + 1 = len a p := by omega
    refine mem_rng.mpr ⟨0, by omega, ?_⟩
    show p = it a (k + 1) p
    rw [this, len_it]
theorem closed_it {a : Mv n} {l : List (Fin n)} (h : ∀ q ∈ l, a.to q ∈ l) {q : Fin n} (hq : q ∈ l) : ∀ k, it a k q ∈ l
  | 0 => hq
  | k + 1 => h _ (closed_it h hq k)
theorem rng_back {a : Mv n} {l : List (Fin n)} (h : ∀ q ∈ l, a.to q ∈ l) {p q : Fin n} (hr : q ∈ rng a p) (hq : q ∈ l) : p ∈ l := by
  obtain ⟨k, hk, rfl⟩ := mem_rng.mp hr
  have := closed_it h hq (len a p - k)
  rwa [← it_add, show k + (len a p - k) = len a p by omega, len_it] at this
theorem sum_sm (a : Mv n) (p : Fin n) : ∀ k, ((List.range k).map fun j => ((a.tw (it a j p)).val : Int)).sum = (sm a k p : Int)
  | 0 => rfl
  | k + 1 => by
    rw [List.range_succ, List.map_append, List.sum_append, sum_sm a p k]
    show (sm a k p : Int) + (((a.tw (it a k p)).val : Int) + 0) = ((sm a k p + (a.tw (it a k p)).val : Nat) : Int)
    omega
theorem sum_rng (a : Mv n) (p : Fin n) : ((rng a p).map fun q => ((a.tw q).val : Int)).sum = (tws a p : Int) := by
  unfold rng
  rw [List.map_map]
  exact sum_sm a p _
/-- what a ring is told by -/
noncomputable def tag (a : Mv n) (p : Fin n) : Int × Int := ((len a p : Int), ((tws a p % 4 : Nat) : Int))
theorem tag_rng {a : Mv n} {p q : Fin n} (h : q ∈ rng a p) : tag a q = tag a p := by
  obtain ⟨k, _, rfl⟩ := mem_rng.mp h
  unfold tag
  rw [len_it', tws_it']
/-- rings found so far: the places seen, one place of each ring -/
structure Seen (a : Mv n) (sn rs : List (Fin n)) : Prop where
  nd : sn.Nodup
  cl : ∀ q ∈ sn, a.to q ∈ sn
  ct : ∀ x : Int × Int, (sn.map (tag a)).count x = (rs.map (tag a)).count x * x.1.toNat
theorem seen_nil (a : Mv n) : Seen a [] [] := ⟨List.nodup_nil, fun q h => (by cases h), fun x => (by simp)⟩
theorem count_const {α : Type} [BEq α] [LawfulBEq α] (c x : α) (l : List α) (h : ∀ y ∈ l, y = c) : l.count x = if c == x then l.length else 0 := by
  induction l with
  | nil => simp
  | cons y l ih =>
    rw [List.count_cons, ih fun z hz => h z (List.mem_cons_of_mem _ hz), h y List.mem_cons_self]
    by_cases e : (c == x) = true
    · simp [e]
    · simp [e]
theorem Seen.add {a : Mv n} {sn rs : List (Fin n)} (s : Seen a sn rs) {p : Fin n} (hp : p ∉ sn) : Seen a (sn ++ rng a p) (rs ++ [p]) where
  nd := by
    rw [List.nodup_append]
    refine ⟨s.nd, rng_nodup a p, fun x hx y hy e => ?_⟩
    subst e
    exact hp (rng_back s.cl hy hx)
  cl := fun q hq => by
    rcases List.mem_append.mp hq with h | h
    · exact List.mem_append_left _ (s.cl q h)
    · exact List.mem_append_right _ (rng_to h)
  ct := fun x => by
    rw [List.map_append, List.count_append, s.ct, List.map_append, List.count_append, Nat.add_mul]
    congr 1
    rw [count_const (tag a p) x _ (fun y hy => by
      obtain ⟨q, hq, rfl⟩ := List.mem_map.mp hy
      exact tag_rng hq), List.length_map, rng_length]
    rw [List.map_cons, List.map_nil, List.count_cons, List.count_nil]
    by_cases e : tag a p = x
    · subst e
      simp [tag]
    · simp [e]
theorem count_nd2 {α : Type} [DecidableEq α] {a : α} : ∀ {l : List α}, l.Nodup → a ∈ l → l.count a = 1
  | [], _, h => by cases h
  | x :: l, nd, h => by
    rw [List.nodup_cons] at nd
    rw [List.count_cons]
    by_cases e : x = a
    · subst e
      rw [List.count_eq_zero.mpr nd.1]
      simp
    · have h2 : a ∈ l := by
        rcases List.mem_cons.mp h with z | z
        · exact absurd z.symm e
        · exact z
      rw [count_nd2 nd.2 h2]
      simp [e]
theorem all_perm {l : List (Fin n)} (nd : l.Nodup) (h : ∀ i, i ∈ l) : l.Perm (List.finRange n) := by
  rw [List.perm_iff_count]
  intro i
  rw [count_nd2 nd (h i), count_nd2 (List.nodup_finRange n) (List.mem_finRange i)]
theorem map_perm (f g : Fin n → Fin n) (h1 : ∀ i, g (f i) = i) (h2 : ∀ i, f (g i) = i) : ((List.finRange n).map f).Perm (List.finRange n) := by
  refine all_perm ?_ fun i => List.mem_map.mpr ⟨g i, List.mem_finRange _, h2 i⟩
  exact List.Pairwise.map f (R := fun a b => a ≠ b) (S := fun a b => a ≠ b) (fun a b hab h => hab (by rw [← h1 a, h, h1])) (List.nodup_finRange n)
/-- the rings of a move, and of what it is between another one and its undoing, have the same tags -/
theorem conj_tags (b a : Mv n) {sn rs sn' rs' : List (Fin n)} (s : Seen a sn rs) (h : ∀ i, i ∈ sn) (s' : Seen (mul (mul (inv b) a) b) sn' rs') (h' : ∀ i, i ∈ sn') : (rs'.map (tag (mul (mul (inv b) a) b))).Perm (rs.map (tag a)) := by
  have ht : ∀ p, tag (mul (mul (inv b) a) b) (b.to p) = tag a p := fun p => by
    unfold tag
    rw [conj_len, conj_tws]
  have e1 : (sn'.map (tag (mul (mul (inv b) a) b))).Perm (sn.map (tag a)) := by
    refine ((all_perm s'.nd h').map _).trans (List.Perm.trans ?_ ((all_perm s.nd h).map _).symm)
    have := ((map_perm b.to b.fro b.tf b.ft).map (tag (mul (mul (inv b) a) b))).symm
    rw [List.map_map] at this
    rw [show (List.finRange n).map (tag a) = (List.finRange n).map (tag (mul (mul (inv b) a) b) ∘ b.to) from List.map_congr_left fun p _ => (ht p).symm]
    exact this
  rw [List.perm_iff_count]
  intro x
  have h2 := List.perm_iff_count.mp e1 x
  rw [s'.ct, s.ct] at h2
  by_cases hx : 0 < x.1.toNat
  · exact Nat.eq_of_mul_eq_mul_right hx h2
  · have z : ∀ (c : Mv n) (l : List (Fin n)), (l.map (tag c)).count x = 0 := fun c l => by
      rw [List.count_eq_zero]
      intro hm
      obtain ⟨q, _, rfl⟩ := List.mem_map.mp hm
      have := len_pos c q
      unfold tag at hx
      simp at hx
      omega
    rw [z, z]
theorem fix_zp {b : Mv n} {p : Fin n} (h : b.to p = p) : ∀ q : Int, (zp b q).to p = p ∧ (((zp b q).tw p).val : Int) = (q * ((b.tw p).val : Int)) % 4 := by
  have nat : ∀ k : Nat, (pw b k).to p = p ∧ ((pw b k).tw p).val = (k * (b.tw p).val) % 4 := by
    intro k
    induction k with
    | zero => exact ⟨rfl, by rw [Nat.zero_mul]; rfl⟩
    | succ k ih =>
      refine ⟨by show b.to ((pw b k).to p) = p; rw [ih.1, h], ?_⟩
      show ((pw b k).tw p + b.tw ((pw b k).to p)).val = _
      rw [Fin.val_add, ih.1, ih.2, Nat.succ_mul]
      omega
  intro q
  by_cases hq : 0 ≤ q
  · have e : zp b q = pw b q.toNat := if_pos hq
    rw [e]
    refine ⟨(nat _).1, ?_⟩
    rw [(nat _).2]
    have : (q.toNat : Int) = q := by omega
    conv => rhs; rw [← this]
    rw [← Int.natCast_mul]
    omega
  · have e : zp b q = inv (pw b (-q).toNat) := by
      rw [← inv_pw]
      exact if_neg hq
    rw [e]
    have h1 := nat (-q).toNat
    have hf : (pw b (-q).toNat).fro p = p := (pw b (-q).toNat).inj (by rw [(pw b (-q).toNat).ft, h1.1])
    refine ⟨hf, ?_⟩
    show ((-((pw b (-q).toNat).tw ((pw b (-q).toNat).fro p)) : Fin 4).val : Int) = _
    rw [hf]
    have hn : ∀ x : Fin 4, ((-x : Fin 4).val : Int) = (-(x.val : Int)) % 4 := by decide
    rw [hn, h1.2]
    have e2 : q * ((b.tw p).val : Int) = -((((-q).toNat * (b.tw p).val : Nat) : Int)) := by
      rw [Int.natCast_mul, show (((-q).toNat : Nat) : Int) = -q by omega, Int.neg_mul, Int.neg_neg]
    rw [e2]
    omega
theorem zp_at (a : Mv n) (p : Fin n) (k : Int) : (zp a k).to p = it a (k % (len a p : Int)).toNat p ∧ (((zp a k).tw p).val : Int) = (k / (len a p : Int) * (tws a p : Int) + (sm a (k % (len a p : Int)).toNat p : Int)) % 4 := by
  have hl := len_pos a p
  have hm := Int.emod_nonneg k (show (len a p : Int) ≠ 0 by omega)
  have e : k = (len a p : Int) * (k / (len a p : Int)) + ((k % (len a p : Int)).toNat : Int) := by
    rw [show ((k % (len a p : Int)).toNat : Int) = k % (len a p : Int) by omega]
    exact (Int.mul_ediv_add_emod k _).symm
  have ez : zp a k = mul (zp (pw a (len a p)) (k / (len a p : Int))) (pw a (k % (len a p : Int)).toNat) := by
    conv => lhs; rw [e, zp_add, zp_mul, zp_nat, zp_nat]
  have hb : (pw a (len a p)).to p = p := by rw [pw_to, len_it]
  obtain ⟨f1, f2⟩ := fix_zp hb (k / (len a p : Int))
  have ht : ((pw a (len a p)).tw p).val = tws a p % 4 := pw_tw a p _
  rw [ez]
  constructor
  · show (pw a _).to ((zp _ _).to p) = _
    rw [f1, pw_to]
  · show (((zp (pw a (len a p)) (k / (len a p : Int))).tw p + (pw a (k % (len a p : Int)).toNat).tw ((zp (pw a (len a p)) (k / (len a p : Int))).to p) : Fin 4).val : Int) = _
    rw [f1, Fin.val_add, pw_tw]
    generalize (zp (pw a (len a p)) (k / (len a p : Int))).tw p = y at f2 ⊢
    rw [ht] at f2
    generalize k / (len a p : Int) = q at f2 ⊢
    have e3 : ∀ t : Nat, (q * ((t % 4 : Nat) : Int)) % 4 = (q * (t : Int)) % 4 := fun t => by
      rw [Int.mul_emod q (t : Int) 4, Int.mul_emod q ((t % 4 : Nat) : Int) 4]
      congr 2
      omega
    rw [e3] at f2
    omega
/-- how often one goes around until one is as one was -/
theorem gcd4 (t : Nat) : Nat.gcd 4 t = Nat.gcd 4 (t % 4) := by
  rw [Nat.gcd_rec 4 t, Nat.gcd_comm]
noncomputable def rnd (a : Mv n) (p : Fin n) : Nat := len a p * (4 / Nat.gcd 4 (tws a p))
theorem conj_rnd (b a : Mv n) (p : Fin n) : rnd (mul (mul (inv b) a) b) (b.to p) = rnd a p := by
  unfold rnd
  rw [conj_len, gcd4, conj_tws, ← gcd4]
end Mv
end
section
set_option Elab.async false
set_option linter.all false
set_option maxRecDepth 100000
set_option maxHeartbeats 4000000
namespace W3
open PySem L2 Rw PySem.Spec PyProof.Rows
def top (i : Nat) : Stmt := PySem.Challenge.pw_reelwright_k03_main_moves_one_behind_ano.main.body.getD i (.Pass ⟨0, 0, 0, 0⟩)
abbrev FnP (K : PySem.W.Frag) (x : Str) (st : Stmt) (f : Addr) (fd : FuncData) : Prop := FunD K x x (defArgs st) (defBody st) (defScope st) [] [] f fd
structure ModOk (mg : Str → Option Value) : Prop where
  b_abs : mg "abs" = none
  b_any : mg "any" = none
  b_bool : mg "bool" = none
  b_enumerate : mg "enumerate" = none
  b_int : mg "int" = none
  b_isinstance : mg "isinstance" = none
  b_len : mg "len" = none
  b_list : mg "list" = none
  b_range : mg "range" = none
  b_sorted : mg "sorted" = none
  b_sum : mg "sum" = none
  b_tuple : mg "tuple" = none
  b_zip : mg "zip" = none
  c_MOST_PLACES : ∃ t, mg "MOST_PLACES" = some (.int 8 t)
  c_QUARTERS : ∃ t, mg "QUARTERS" = some (.int 4 t)
  f_gcd : mg "gcd" = some (.builtin "math.gcd")
section
variable {P : Program} {w : World} {K : PySem.W.Frag} {mg : Str → Option Value} {base : Heap} {f : Addr} {fd : FuncData}
abbrev N_is_whole : List Str := ["value", "least", "most"]
abbrev P_is_whole : List Str := ["value", "least", "most"]
theorem sc_is_whole : FnScope N_is_whole P_is_whole (defScope (top 12)) := ⟨rfl, rfl, rfl, by decide +kernel, rfl, by decide +kernel, by decide +kernel⟩
noncomputable def b_is_whole : MS := (mRet (mAndV (mCB oIsi (mCons (mVar 0) (mCons (mC (.ty "int")) mNil))) (mAndV (mOfB (mNot (mB (mCB oIsi (mCons (mVar 0) (mCons (mC (.ty "bool")) mNil)))))) (mChain oLe oLe (mVar 1) (mVar 0) (mVar 2)))))
noncomputable def f_is_whole : Fp := defP 3 3 b_is_whole
theorem ok_is_whole (m : ModOk mg) (F : FnP K "is_whole" (top 12) f fd) (hg : mg "is_whole" = some (.ref f)) : CalP CX0 NX P w K mg base 1 "is_whole" f_is_whole := by
  refine def_ok0 0 3 3 (fb := b_is_whole) F sc_is_whole rfl rfl rfl hg (F.bindsN fun _ _ _ _ _ _ us hl => match us, hl with | [_, _, _], _ => rfl) fun cdv A outer s H E hr => ?_
  exact (qb_one (qs_ret (qe_and (q_cb c_isi rfl m.b_isinstance rfl (qa_cons (qv 0) (qa_cons (qe_ty rfl m.b_int rfl) qa_nil))) (qe_and (qe_not (q_cb c_isi rfl m.b_isinstance rfl (qa_cons (qv 0) (qa_cons (qe_ty rfl m.b_bool rfl) qa_nil)))) (qe_and1 (qe_chain o_le o_le (qv 1) (qv 0) (qv 2)))))))
abbrev N__are_pairs : List Str := ["value", "most", "other", "pair"]
abbrev P__are_pairs : List Str := ["value", "most", "other"]
theorem sc__are_pairs : FnScope N__are_pairs P__are_pairs (defScope (top 13)) := ⟨rfl, rfl, rfl, by decide +kernel, rfl, by decide +kernel, by decide +kernel⟩
noncomputable def b__are_pairs : MS := (mSeq (mIfS (mOr (mNot (mB (mCB oIsi (mCons (mVar 0) (mCons (mC (.ty "tuple")) mNil))))) (mNot (mB (mChain oLe oLe (mC (.int 1)) (mCB oLen (mCons (mVar 0) mNil)) (mC (.int 8)))))) (mRet (mC (.bl false))) mSkip)
  (mSeq (mFor (.nm 3) (mIter (mVar 0)) (mSeq (mIfS (mOr (mNot (mB (mCB oIsi (mCons (mVar 3) (mCons (mC (.ty "tuple")) mNil))))) (mOr (mB (mOp oNe (mCB oLen (mCons (mVar 3) mNil)) (mC (.int 2)))) (mNot (mB (mCall f_is_whole (mCons (mOp ixO (mVar 3) (mC (.int 0))) (mCons (mC (.int 0)) (mCons (mVar 1) mNil)))))))) (mRet (mC (.bl false))) mSkip)
  (mIfS (mNot (mB (mCall f_is_whole (mCons (mOp ixO (mVar 3) (mC (.int 1))) (mCons (mC (.int 0)) (mCons (mVar 2) mNil)))))) (mRet (mC (.bl false))) mSkip)))
  (mRet (mC (.bl true)))))
noncomputable def f__are_pairs : Fp := defP 3 4 b__are_pairs
theorem ok__are_pairs (m : ModOk mg) (F : FnP K "_are_pairs" (top 13) f fd) (hg : mg "_are_pairs" = some (.ref f)) (c_is_whole : CalP CX0 NX P w K mg base 1 "is_whole" f_is_whole) : CalP CX0 NX P w K mg base 2 "_are_pairs" f__are_pairs := by
  refine def_ok0 1 3 4 (fb := b__are_pairs) F sc__are_pairs rfl rfl rfl hg (F.bindsN fun _ _ _ _ _ _ us hl => match us, hl with | [_, _, _], _ => rfl) fun cdv A outer s H E hr => ?_
  exact (qb_cons (qs_if (qt_w (qw_or (qt_not (qt_val (q_cb c_isi rfl m.b_isinstance rfl (qa_cons (qv 0) (qa_cons (qe_ty rfl m.b_tuple rfl) qa_nil))))) (qw_or1 (qt_not (qt_chain o_le o_le qe_int (q_cb c_len rfl m.b_len rfl (qa_cons (qv 0) qa_nil)) (qe_gint rfl m.c_MOST_PLACES)))))) (qb_one (qs_ret qe_bl)) qb_nil)
  (qb_cons (qs_for PassesOwn.never rfl (qi_seq (qv 0)) (qp_nm 3 sc__are_pairs.nd) (qb_cons (qs_if (qt_w (qw_or (qt_not (qt_val (q_cb c_isi rfl m.b_isinstance rfl (qa_cons (qv 3) (qa_cons (qe_ty rfl m.b_tuple rfl) qa_nil))))) (qw_or (qt_cmp (o_ne hr.units) (q_cb c_len rfl m.b_len rfl (qa_cons (qv 3) qa_nil)) qe_int) (qw_or1 (qt_not (qt_val (qe_callC c_is_whole hr (by decide) pass0 (fun _ _ h => h) (qa_cons (qe_ix (hu_of hr) (qv 3) qe_int) (qa_cons qe_int (qa_cons (qv 1) qa_nil)))))))))) (qb_one (qs_ret qe_bl)) qb_nil)
  (qb_one (qs_if (qt_not (qt_val (qe_callC c_is_whole hr (by decide) pass0 (fun _ _ h => h) (qa_cons (qe_ix (hu_of hr) (qv 3) qe_int) (qa_cons qe_int (qa_cons (qv 2) qa_nil)))))) (qb_one (qs_ret qe_bl)) qb_nil))))
  (qb_one (qs_ret qe_bl))))
abbrev N__is_each_once : List Str := ["value", "pair"]
abbrev P__is_each_once : List Str := ["value"]
theorem sc__is_each_once : FnScope N__is_each_once P__is_each_once (defScope (top 14)) := ⟨rfl, rfl, rfl, by decide +kernel, rfl, by decide +kernel, by decide +kernel⟩
noncomputable def b__is_each_once : MS := (mSeq (mIfS (mNot (mB (mCall f__are_pairs (mCons (mVar 0) (mCons (mOp oSub (mC (.int 8)) (mC (.int 1))) (mCons (mOp oSub (mC (.int 4)) (mC (.int 1))) mNil)))))) (mRet (mC (.bl false))) mSkip)
  (mRet (mOp oEq (mFz (mCB oSorted (mCons (mFz (mLc [1] (.nm 1) mYes (mOp ixO (mVar 1) (mC (.int 0))) (mIter (mVar 0)))) mNil))) (mFz (mLstRg1 (mCB oLen (mCons (mVar 0) mNil)))))))
noncomputable def f__is_each_once : Fp := defP 1 2 b__is_each_once
theorem ok__is_each_once (m : ModOk mg) (F : FnP K "_is_each_once" (top 14) f fd) (hg : mg "_is_each_once" = some (.ref f)) (c__are_pairs : CalP CX0 NX P w K mg base 2 "_are_pairs" f__are_pairs) : CalP CX0 NX P w K mg base 3 "_is_each_once" f__is_each_once := by
  refine def_ok0 2 1 2 (fb := b__is_each_once) F sc__is_each_once rfl rfl rfl hg (F.bindsN fun _ _ _ _ _ _ us hl => match us, hl with | [_], _ => rfl) fun cdv A outer s H E hr => ?_
  exact (qb_cons (qs_if (qt_not (qt_val (qe_callC c__are_pairs hr (by decide) pass0 (fun _ _ h => h) (qa_cons (qv 0) (qa_cons (qe_op o_sub (qe_gint rfl m.c_MOST_PLACES) qe_int) (qa_cons (qe_op o_sub (qe_gint rfl m.c_QUARTERS) qe_int) qa_nil)))))) (qb_one (qs_ret qe_bl)) qb_nil)
  (qb_one (qs_ret (qe_cmp (o_eq hr.units) (qe_fz (q_cb (c_sorted hr.units) rfl m.b_sorted rfl (qa_cons (qe_fz (qn_lc [("pair", 1)] rfl sc__is_each_once.nd (qi_seq (qv 0)) (by first | rfl | decide +kernel) (fun _ _ _ _ _ => (qp_nm 1 sc__is_each_once.nd)) (fun _ _ _ _ _ => qts_nil) (fun _ _ _ _ _ => (qe_ix (hu_of hr) (qv 1) qe_int)))) qa_nil))) (qe_fz (qn_lrg1 rfl rfl m.b_list rfl m.b_range (q_cb c_len rfl m.b_len rfl (qa_cons (qv 0) qa_nil))))))))
abbrev N_is_state : List Str := ["value"]
abbrev P_is_state : List Str := ["value"]
theorem sc_is_state : FnScope N_is_state P_is_state (defScope (top 15)) := ⟨rfl, rfl, rfl, by decide +kernel, rfl, by decide +kernel, by decide +kernel⟩
noncomputable def b_is_state : MS := (mRet (mCall f__is_each_once (mCons (mVar 0) mNil)))
noncomputable def f_is_state : Fp := defP 1 1 b_is_state
theorem ok_is_state (m : ModOk mg) (F : FnP K "is_state" (top 15) f fd) (hg : mg "is_state" = some (.ref f)) (c__is_each_once : CalP CX0 NX P w K mg base 3 "_is_each_once" f__is_each_once) : CalP CX0 NX P w K mg base 4 "is_state" f_is_state := by
  refine def_ok0 3 1 1 (fb := b_is_state) F sc_is_state rfl rfl rfl hg (F.bindsN fun _ _ _ _ _ _ us hl => match us, hl with | [_], _ => rfl) fun cdv A outer s H E hr => ?_
  exact (qb_one (qs_ret (qe_callC c__is_each_once hr (by decide) pass0 (fun _ _ h => h) (qa_cons (qv 0) qa_nil))))
abbrev N_is_move : List Str := ["value"]
abbrev P_is_move : List Str := ["value"]
theorem sc_is_move : FnScope N_is_move P_is_move (defScope (top 16)) := ⟨rfl, rfl, rfl, by decide +kernel, rfl, by decide +kernel, by decide +kernel⟩
noncomputable def b_is_move : MS := (mRet (mCall f__is_each_once (mCons (mVar 0) mNil)))
noncomputable def f_is_move : Fp := defP 1 1 b_is_move
theorem ok_is_move (m : ModOk mg) (F : FnP K "is_move" (top 16) f fd) (hg : mg "is_move" = some (.ref f)) (c__is_each_once : CalP CX0 NX P w K mg base 3 "_is_each_once" f__is_each_once) : CalP CX0 NX P w K mg base 4 "is_move" f_is_move := by
  refine def_ok0 3 1 1 (fb := b_is_move) F sc_is_move rfl rfl rfl hg (F.bindsN fun _ _ _ _ _ _ us hl => match us, hl with | [_], _ => rfl) fun cdv A outer s H E hr => ?_
  exact (qb_one (qs_ret (qe_callC c__is_each_once hr (by decide) pass0 (fun _ _ h => h) (qa_cons (qv 0) qa_nil))))
abbrev N_check_state : List Str := ["state"]
abbrev P_check_state : List Str := ["state"]
theorem sc_check_state : FnScope N_check_state P_check_state (defScope (top 17)) := ⟨rfl, rfl, rfl, by decide +kernel, rfl, by decide +kernel, by decide +kernel⟩
noncomputable def b_check_state : MS := (mIfS (mNot (mB (mCall f_is_state (mCons (mVar 0) mNil)))) mFail mSkip)
noncomputable def f_check_state : Fp := defP 1 1 b_check_state
theorem ok_check_state (m : ModOk mg) (F : FnP K "check_state" (top 17) f fd) (hg : mg "check_state" = some (.ref f)) (c_is_state : CalP CX0 NX P w K mg base 4 "is_state" f_is_state) : CalP CX0 NX P w K mg base 5 "check_state" f_check_state := by
  refine def_ok0 4 1 1 (fb := b_check_state) F sc_check_state rfl rfl rfl hg (F.bindsN fun _ _ _ _ _ _ us hl => match us, hl with | [_], _ => rfl) fun cdv A outer s H E hr => ?_
  exact (qb_one (qs_if (qt_not (qt_val (qe_callC c_is_state hr (by decide) pass0 (fun _ _ h => h) (qa_cons (qv 0) qa_nil)))) qb_no qb_nil))
abbrev N_check_move : List Str := ["move"]
abbrev P_check_move : List Str := ["move"]
theorem sc_check_move : FnScope N_check_move P_check_move (defScope (top 18)) := ⟨rfl, rfl, rfl, by decide +kernel, rfl, by decide +kernel, by decide +kernel⟩
noncomputable def b_check_move : MS := (mIfS (mNot (mB (mCall f_is_move (mCons (mVar 0) mNil)))) mFail mSkip)
noncomputable def f_check_move : Fp := defP 1 1 b_check_move
theorem ok_check_move (m : ModOk mg) (F : FnP K "check_move" (top 18) f fd) (hg : mg "check_move" = some (.ref f)) (c_is_move : CalP CX0 NX P w K mg base 4 "is_move" f_is_move) : CalP CX0 NX P w K mg base 5 "check_move" f_check_move := by
  refine def_ok0 4 1 1 (fb := b_check_move) F sc_check_move rfl rfl rfl hg (F.bindsN fun _ _ _ _ _ _ us hl => match us, hl with | [_], _ => rfl) fun cdv A outer s H E hr => ?_
  exact (qb_one (qs_if (qt_not (qt_val (qe_callC c_is_move hr (by decide) pass0 (fun _ _ h => h) (qa_cons (qv 0) qa_nil)))) qb_no qb_nil))
abbrev N_check_same : List Str := ["one", "other"]
abbrev P_check_same : List Str := ["one", "other"]
theorem sc_check_same : FnScope N_check_same P_check_same (defScope (top 19)) := ⟨rfl, rfl, rfl, by decide +kernel, rfl, by decide +kernel, by decide +kernel⟩
noncomputable def b_check_same : MS := (mIfS (mB (mOp oNe (mCB oLen (mCons (mVar 0) mNil)) (mCB oLen (mCons (mVar 1) mNil)))) mFail mSkip)
noncomputable def f_check_same : Fp := defP 2 2 b_check_same
theorem ok_check_same (m : ModOk mg) (F : FnP K "check_same" (top 19) f fd) (hg : mg "check_same" = some (.ref f)) : CalP CX0 NX P w K mg base 1 "check_same" f_check_same := by
  refine def_ok0 0 2 2 (fb := b_check_same) F sc_check_same rfl rfl rfl hg (F.bindsN fun _ _ _ _ _ _ us hl => match us, hl with | [_, _], _ => rfl) fun cdv A outer s H E hr => ?_
  exact (qb_one (qs_if (qt_cmp (o_ne hr.units) (q_cb c_len rfl m.b_len rfl (qa_cons (qv 0) qa_nil)) (q_cb c_len rfl m.b_len rfl (qa_cons (qv 1) qa_nil))) qb_no qb_nil))
abbrev N_still_move : List Str := ["count", "place"]
abbrev P_still_move : List Str := ["count"]
theorem sc_still_move : FnScope N_still_move P_still_move (defScope (top 20)) := ⟨rfl, rfl, rfl, by decide +kernel, rfl, by decide +kernel, by decide +kernel⟩
noncomputable def b_still_move : MS := (mRet (mCB oTuple (mCons (mFz (mLc [1] (.nm 1) mYes (mTup (mCons (mVar 1) (mCons (mC (.int 0)) mNil))) (mRg1 (mVar 0)))) mNil)))
noncomputable def f_still_move : Fp := defP 1 2 b_still_move
theorem ok_still_move (m : ModOk mg) (F : FnP K "still_move" (top 20) f fd) (hg : mg "still_move" = some (.ref f)) : CalP CX0 NX P w K mg base 1 "still_move" f_still_move := by
  refine def_ok0 0 1 2 (fb := b_still_move) F sc_still_move rfl rfl rfl hg (F.bindsN fun _ _ _ _ _ _ us hl => match us, hl with | [_], _ => rfl) fun cdv A outer s H E hr => ?_
  exact (qb_one (qs_ret (q_ct c_tuple rfl m.b_tuple rfl (qa_cons (qe_fz (qn_lc [("place", 1)] rfl sc_still_move.nd (qi_rg1 rfl m.b_range (qv 0)) (by first | rfl | decide +kernel) (fun _ _ _ _ _ => (qp_nm 1 sc_still_move.nd)) (fun _ _ _ _ _ => qts_nil) (fun _ _ _ _ _ => (qe_tup (qa_cons (qv 1) (qa_cons qe_int qa_nil)))))) qa_nil))))
abbrev N__check_count : List Str := ["count"]
abbrev P__check_count : List Str := ["count"]
theorem sc__check_count : FnScope N__check_count P__check_count (defScope (top 21)) := ⟨rfl, rfl, rfl, by decide +kernel, rfl, by decide +kernel, by decide +kernel⟩
noncomputable def b__check_count : MS := (mIfS (mNot (mB (mCall f_is_whole (mCons (mVar 0) (mCons (mC (.int 1)) (mCons (mC (.int 8)) mNil)))))) mFail mSkip)
noncomputable def f__check_count : Fp := defP 1 1 b__check_count
theorem ok__check_count (m : ModOk mg) (F : FnP K "_check_count" (top 21) f fd) (hg : mg "_check_count" = some (.ref f)) (c_is_whole : CalP CX0 NX P w K mg base 1 "is_whole" f_is_whole) : CalP CX0 NX P w K mg base 2 "_check_count" f__check_count := by
  refine def_ok0 1 1 1 (fb := b__check_count) F sc__check_count rfl rfl rfl hg (F.bindsN fun _ _ _ _ _ _ us hl => match us, hl with | [_], _ => rfl) fun cdv A outer s H E hr => ?_
  exact (qb_one (qs_if (qt_not (qt_val (qe_callC c_is_whole hr (by decide) pass0 (fun _ _ h => h) (qa_cons (qv 0) (qa_cons qe_int (qa_cons (qe_gint rfl m.c_MOST_PLACES) qa_nil)))))) qb_no qb_nil))
abbrev N_first_state : List Str := ["count"]
abbrev P_first_state : List Str := ["count"]
theorem sc_first_state : FnScope N_first_state P_first_state (defScope (top 22)) := ⟨rfl, rfl, rfl, by decide +kernel, rfl, by decide +kernel, by decide +kernel⟩
noncomputable def b_first_state : MS := (mSeq (mExpr (mCall f__check_count (mCons (mVar 0) mNil)))
  (mRet (mCall f_still_move (mCons (mVar 0) mNil))))
noncomputable def f_first_state : Fp := defP 1 1 b_first_state
theorem ok_first_state (m : ModOk mg) (F : FnP K "first_state" (top 22) f fd) (hg : mg "first_state" = some (.ref f)) (c__check_count : CalP CX0 NX P w K mg base 2 "_check_count" f__check_count) (c_still_move : CalP CX0 NX P w K mg base 1 "still_move" f_still_move) : CalP CX0 NX P w K mg base 3 "first_state" f_first_state := by
  refine def_ok0 2 1 1 (fb := b_first_state) F sc_first_state rfl rfl rfl hg (F.bindsN fun _ _ _ _ _ _ us hl => match us, hl with | [_], _ => rfl) fun cdv A outer s H E hr => ?_
  exact (qb_cons (qs_expr (qe_callC c__check_count hr (by decide) pass0 (fun _ _ h => h) (qa_cons (qv 0) qa_nil)))
  (qb_one (qs_ret (qe_callC c_still_move hr (by decide) pass0 (fun _ _ h => h) (qa_cons (qv 0) qa_nil)))))
abbrev N_still : List Str := ["count"]
abbrev P_still : List Str := ["count"]
theorem sc_still : FnScope N_still P_still (defScope (top 23)) := ⟨rfl, rfl, rfl, by decide +kernel, rfl, by decide +kernel, by decide +kernel⟩
noncomputable def b_still : MS := (mSeq (mExpr (mCall f__check_count (mCons (mVar 0) mNil)))
  (mRet (mCall f_still_move (mCons (mVar 0) mNil))))
noncomputable def f_still : Fp := defP 1 1 b_still
theorem ok_still (m : ModOk mg) (F : FnP K "still" (top 23) f fd) (hg : mg "still" = some (.ref f)) (c__check_count : CalP CX0 NX P w K mg base 2 "_check_count" f__check_count) (c_still_move : CalP CX0 NX P w K mg base 1 "still_move" f_still_move) : CalP CX0 NX P w K mg base 3 "still" f_still := by
  refine def_ok0 2 1 1 (fb := b_still) F sc_still rfl rfl rfl hg (F.bindsN fun _ _ _ _ _ _ us hl => match us, hl with | [_], _ => rfl) fun cdv A outer s H E hr => ?_
  exact (qb_cons (qs_expr (qe_callC c__check_count hr (by decide) pass0 (fun _ _ h => h) (qa_cons (qv 0) qa_nil)))
  (qb_one (qs_ret (qe_callC c_still_move hr (by decide) pass0 (fun _ _ h => h) (qa_cons (qv 0) qa_nil)))))
abbrev N_apply : List Str := ["state", "move", "found", "dancer", "facing", "place", "turn"]
abbrev P_apply : List Str := ["state", "move"]
theorem sc_apply : FnScope N_apply P_apply (defScope (top 24)) := ⟨rfl, rfl, rfl, by decide +kernel, rfl, by decide +kernel, by decide +kernel⟩
noncomputable def b_apply : MS := (mSeq (mSet 2 (mLoc (mRepeat (mFz (mLst (mCons (mC .non) mNil))) (mCB oLen (mCons (mVar 0) mNil)))))
  (mSeq (mFor (.tp [(.tp [(.nm 3), (.nm 4)]), (.tp [(.nm 5), (.nm 6)])]) (mZip (mVar 0) (mVar 1)) (mPut (mVar 2) (mVar 5) (mTup (mCons (mVar 3) (mCons (mOp oMod (mOp oAdd (mVar 4) (mVar 6)) (mC (.int 4))) mNil)))))
  (mRet (mCB oTuple (mCons (mVar 2) mNil)))))
noncomputable def f_apply : Fp := defP 2 7 b_apply
theorem ok_apply (m : ModOk mg) (F : FnP K "apply" (top 24) f fd) (hg : mg "apply" = some (.ref f)) : CalP CX0 NX P w K mg base 1 "apply" f_apply := by
  refine def_ok0 0 2 7 (fb := b_apply) F sc_apply rfl rfl rfl hg (F.bindsN fun _ _ _ _ _ _ us hl => match us, hl with | [_, _], _ => rfl) fun cdv A outer s H E hr => ?_
  exact (qb_cons (qs_set 2 (qe_loc (qn_rep (qe_fz (qn_lst (qa_cons qe_non qa_nil))) (q_cb c_len rfl m.b_len rfl (qa_cons (qv 0) qa_nil)))) sc_apply.nd)
  (qb_cons (qs_for PassesOwn.never rfl (qi_zip rfl m.b_zip (qv 0) (qv 1)) (qp_tp rfl (qps_cons (qp_tp rfl (qps_cons (qp_nm 3 sc_apply.nd) (qps_cons (qp_nm 4 sc_apply.nd) qps_nil))) (qps_cons (qp_tp rfl (qps_cons (qp_nm 5 sc_apply.nd) (qps_cons (qp_nm 6 sc_apply.nd) qps_nil))) qps_nil))) (qb_one (qs_put (hu_of hr) (qv 2) (qv 5) (qe_tup (qa_cons (qv 3) (qa_cons (qe_op o_mod (qe_op o_add (qv 4) (qv 6)) (qe_gint rfl m.c_QUARTERS)) qa_nil))))))
  (qb_one (qs_ret (q_ct c_tuple rfl m.b_tuple rfl (qa_cons (qv 2) qa_nil))))))
abbrev N_moved : List Str := ["state", "move"]
abbrev P_moved : List Str := ["state", "move"]
theorem sc_moved : FnScope N_moved P_moved (defScope (top 25)) := ⟨rfl, rfl, rfl, by decide +kernel, rfl, by decide +kernel, by decide +kernel⟩
noncomputable def b_moved : MS := (mSeq (mExpr (mCall f_check_state (mCons (mVar 0) mNil)))
  (mSeq (mExpr (mCall f_check_move (mCons (mVar 1) mNil)))
  (mSeq (mExpr (mCall f_check_same (mCons (mVar 0) (mCons (mVar 1) mNil))))
  (mRet (mCall f_apply (mCons (mVar 0) (mCons (mVar 1) mNil)))))))
noncomputable def f_moved : Fp := defP 2 2 b_moved
theorem ok_moved (m : ModOk mg) (F : FnP K "moved" (top 25) f fd) (hg : mg "moved" = some (.ref f)) (c_check_state : CalP CX0 NX P w K mg base 5 "check_state" f_check_state) (c_check_move : CalP CX0 NX P w K mg base 5 "check_move" f_check_move) (c_check_same : CalP CX0 NX P w K mg base 1 "check_same" f_check_same) (c_apply : CalP CX0 NX P w K mg base 1 "apply" f_apply) : CalP CX0 NX P w K mg base 6 "moved" f_moved := by
  refine def_ok0 5 2 2 (fb := b_moved) F sc_moved rfl rfl rfl hg (F.bindsN fun _ _ _ _ _ _ us hl => match us, hl with | [_, _], _ => rfl) fun cdv A outer s H E hr => ?_
  exact (qb_cons (qs_expr (qe_callC c_check_state hr (by decide) pass0 (fun _ _ h => h) (qa_cons (qv 0) qa_nil)))
  (qb_cons (qs_expr (qe_callC c_check_move hr (by decide) pass0 (fun _ _ h => h) (qa_cons (qv 1) qa_nil)))
  (qb_cons (qs_expr (qe_callC c_check_same hr (by decide) pass0 (fun _ _ h => h) (qa_cons (qv 0) (qa_cons (qv 1) qa_nil))))
  (qb_one (qs_ret (qe_callC c_apply hr (by decide) pass0 (fun _ _ h => h) (qa_cons (qv 0) (qa_cons (qv 1) qa_nil))))))))
abbrev N_compose : List Str := ["move", "other", "found", "place", "turn", "there", "more"]
abbrev P_compose : List Str := ["move", "other"]
theorem sc_compose : FnScope N_compose P_compose (defScope (top 26)) := ⟨rfl, rfl, rfl, by decide +kernel, rfl, by decide +kernel, by decide +kernel⟩
noncomputable def b_compose : MS := (mSeq (mSet 2 (mLoc (mLst mNil)))
  (mSeq (mFor (.tp [(.nm 3), (.nm 4)]) (mIter (mVar 0)) (mSeq (mPat (.tp [(.nm 5), (.nm 6)]) (mOp ixO (mVar 1) (mVar 3)))
  (mExpr (mBM isLst oAppend (mVar 2) (mCons (mTup (mCons (mVar 5) (mCons (mOp oMod (mOp oAdd (mVar 4) (mVar 6)) (mC (.int 4))) mNil))) mNil)))))
  (mRet (mCB oTuple (mCons (mVar 2) mNil)))))
noncomputable def f_compose : Fp := defP 2 7 b_compose
theorem ok_compose (m : ModOk mg) (F : FnP K "compose" (top 26) f fd) (hg : mg "compose" = some (.ref f)) : CalP CX0 NX P w K mg base 1 "compose" f_compose := by
  refine def_ok0 0 2 7 (fb := b_compose) F sc_compose rfl rfl rfl hg (F.bindsN fun _ _ _ _ _ _ us hl => match us, hl with | [_, _], _ => rfl) fun cdv A outer s H E hr => ?_
  exact (qb_cons (qs_set 2 (qe_loc (qn_lst qa_nil)) sc_compose.nd)
  (qb_cons (qs_for PassesOwn.never rfl (qi_seq (qv 0)) (qp_tp rfl (qps_cons (qp_nm 3 sc_compose.nd) (qps_cons (qp_nm 4 sc_compose.nd) qps_nil))) (qb_cons (qs_pat (qe_ix (hu_of hr) (qv 1) (qv 3)) (qp_tp rfl (qps_cons (qp_nm 5 sc_compose.nd) (qps_cons (qp_nm 6 sc_compose.nd) qps_nil))))
  (qb_one (qs_expr (qe_bm PySem.F.plainAttrs_list PySem.F.slot_list_append PySem.F.type_list_append m_append ty_lst (qv 2) (qa_cons (qe_tup (qa_cons (qv 5) (qa_cons (qe_op o_mod (qe_op o_add (qv 4) (qv 6)) (qe_gint rfl m.c_QUARTERS)) qa_nil))) qa_nil))))))
  (qb_one (qs_ret (q_ct c_tuple rfl m.b_tuple rfl (qa_cons (qv 2) qa_nil))))))
abbrev N_both : List Str := ["move", "other"]
abbrev P_both : List Str := ["move", "other"]
theorem sc_both : FnScope N_both P_both (defScope (top 27)) := ⟨rfl, rfl, rfl, by decide +kernel, rfl, by decide +kernel, by decide +kernel⟩
noncomputable def b_both : MS := (mSeq (mExpr (mCall f_check_move (mCons (mVar 0) mNil)))
  (mSeq (mExpr (mCall f_check_move (mCons (mVar 1) mNil)))
  (mSeq (mExpr (mCall f_check_same (mCons (mVar 0) (mCons (mVar 1) mNil))))
  (mRet (mCall f_compose (mCons (mVar 0) (mCons (mVar 1) mNil)))))))
noncomputable def f_both : Fp := defP 2 2 b_both
theorem ok_both (m : ModOk mg) (F : FnP K "both" (top 27) f fd) (hg : mg "both" = some (.ref f)) (c_check_move : CalP CX0 NX P w K mg base 5 "check_move" f_check_move) (c_check_same : CalP CX0 NX P w K mg base 1 "check_same" f_check_same) (c_compose : CalP CX0 NX P w K mg base 1 "compose" f_compose) : CalP CX0 NX P w K mg base 6 "both" f_both := by
  refine def_ok0 5 2 2 (fb := b_both) F sc_both rfl rfl rfl hg (F.bindsN fun _ _ _ _ _ _ us hl => match us, hl with | [_, _], _ => rfl) fun cdv A outer s H E hr => ?_
  exact (qb_cons (qs_expr (qe_callC c_check_move hr (by decide) pass0 (fun _ _ h => h) (qa_cons (qv 0) qa_nil)))
  (qb_cons (qs_expr (qe_callC c_check_move hr (by decide) pass0 (fun _ _ h => h) (qa_cons (qv 1) qa_nil)))
  (qb_cons (qs_expr (qe_callC c_check_same hr (by decide) pass0 (fun _ _ h => h) (qa_cons (qv 0) (qa_cons (qv 1) qa_nil))))
  (qb_one (qs_ret (qe_callC c_compose hr (by decide) pass0 (fun _ _ h => h) (qa_cons (qv 0) (qa_cons (qv 1) qa_nil))))))))
abbrev N_inverse : List Str := ["move", "found", "start", "place", "turn"]
abbrev P_inverse : List Str := ["move"]
theorem sc_inverse : FnScope N_inverse P_inverse (defScope (top 28)) := ⟨rfl, rfl, rfl, by decide +kernel, rfl, by decide +kernel, by decide +kernel⟩
noncomputable def b_inverse : MS := (mSeq (mSet 1 (mLoc (mRepeat (mFz (mLst (mCons (mC .non) mNil))) (mCB oLen (mCons (mVar 0) mNil)))))
  (mSeq (mFor (.tp [(.nm 2), (.tp [(.nm 3), (.nm 4)])]) (mEn (mVar 0)) (mPut (mVar 1) (mVar 3) (mTup (mCons (mVar 2) (mCons (mOp oMod (mOp oSub (mC (.int 0)) (mVar 4)) (mC (.int 4))) mNil)))))
  (mRet (mCB oTuple (mCons (mVar 1) mNil)))))
noncomputable def f_inverse : Fp := defP 1 5 b_inverse
theorem ok_inverse (m : ModOk mg) (F : FnP K "inverse" (top 28) f fd) (hg : mg "inverse" = some (.ref f)) : CalP CX0 NX P w K mg base 1 "inverse" f_inverse := by
  refine def_ok0 0 1 5 (fb := b_inverse) F sc_inverse rfl rfl rfl hg (F.bindsN fun _ _ _ _ _ _ us hl => match us, hl with | [_], _ => rfl) fun cdv A outer s H E hr => ?_
  exact (qb_cons (qs_set 1 (qe_loc (qn_rep (qe_fz (qn_lst (qa_cons qe_non qa_nil))) (q_cb c_len rfl m.b_len rfl (qa_cons (qv 0) qa_nil)))) sc_inverse.nd)
  (qb_cons (qs_for PassesOwn.never rfl (qi_en rfl m.b_enumerate (qv 0)) (qp_tp rfl (qps_cons (qp_nm 2 sc_inverse.nd) (qps_cons (qp_tp rfl (qps_cons (qp_nm 3 sc_inverse.nd) (qps_cons (qp_nm 4 sc_inverse.nd) qps_nil))) qps_nil))) (qb_one (qs_put (hu_of hr) (qv 1) (qv 3) (qe_tup (qa_cons (qv 2) (qa_cons (qe_op o_mod (qe_op o_sub qe_int (qv 4)) (qe_gint rfl m.c_QUARTERS)) qa_nil))))))
  (qb_one (qs_ret (q_ct c_tuple rfl m.b_tuple rfl (qa_cons (qv 1) qa_nil))))))
abbrev N_undoing : List Str := ["move"]
abbrev P_undoing : List Str := ["move"]
theorem sc_undoing : FnScope N_undoing P_undoing (defScope (top 29)) := ⟨rfl, rfl, rfl, by decide +kernel, rfl, by decide +kernel, by decide +kernel⟩
noncomputable def b_undoing : MS := (mSeq (mExpr (mCall f_check_move (mCons (mVar 0) mNil)))
  (mRet (mCall f_inverse (mCons (mVar 0) mNil))))
noncomputable def f_undoing : Fp := defP 1 1 b_undoing
theorem ok_undoing (m : ModOk mg) (F : FnP K "undoing" (top 29) f fd) (hg : mg "undoing" = some (.ref f)) (c_check_move : CalP CX0 NX P w K mg base 5 "check_move" f_check_move) (c_inverse : CalP CX0 NX P w K mg base 1 "inverse" f_inverse) : CalP CX0 NX P w K mg base 6 "undoing" f_undoing := by
  refine def_ok0 5 1 1 (fb := b_undoing) F sc_undoing rfl rfl rfl hg (F.bindsN fun _ _ _ _ _ _ us hl => match us, hl with | [_], _ => rfl) fun cdv A outer s H E hr => ?_
  exact (qb_cons (qs_expr (qe_callC c_check_move hr (by decide) pass0 (fun _ _ h => h) (qa_cons (qv 0) qa_nil)))
  (qb_one (qs_ret (qe_callC c_inverse hr (by decide) pass0 (fun _ _ h => h) (qa_cons (qv 0) qa_nil)))))
abbrev N_between : List Str := ["state", "other", "places", "found", "dancer", "facing", "place", "there"]
abbrev P_between : List Str := ["state", "other"]
theorem sc_between : FnScope N_between P_between (defScope (top 30)) := ⟨rfl, rfl, rfl, by decide +kernel, rfl, by decide +kernel, by decide +kernel⟩
noncomputable def b_between : MS := (mSeq (mExpr (mCall f_check_state (mCons (mVar 0) mNil)))
  (mSeq (mExpr (mCall f_check_state (mCons (mVar 1) mNil)))
  (mSeq (mExpr (mCall f_check_same (mCons (mVar 0) (mCons (mVar 1) mNil))))
  (mSeq (mSet 2 (mFzD (mDc [6, 4, 5] (.tp [(.nm 6), (.tp [(.nm 4), (.nm 5)])]) mYes (mVar 4) (mTup (mCons (mVar 6) (mCons (mVar 5) mNil))) (mEn (mVar 1)))))
  (mSeq (mSet 3 (mLoc (mLst mNil)))
  (mSeq (mFor (.tp [(.nm 4), (.nm 5)]) (mIter (mVar 0)) (mSeq (mPat (.tp [(.nm 6), (.nm 7)]) (mOp ixO (mVar 2) (mVar 4)))
  (mExpr (mBM isLst oAppend (mVar 3) (mCons (mTup (mCons (mVar 6) (mCons (mOp oMod (mOp oSub (mVar 7) (mVar 5)) (mC (.int 4))) mNil))) mNil)))))
  (mRet (mCB oTuple (mCons (mVar 3) mNil)))))))))
noncomputable def f_between : Fp := defP 2 8 b_between
theorem ok_between (m : ModOk mg) (F : FnP K "between" (top 30) f fd) (hg : mg "between" = some (.ref f)) (c_check_state : CalP CX0 NX P w K mg base 5 "check_state" f_check_state) (c_check_same : CalP CX0 NX P w K mg base 1 "check_same" f_check_same) : CalP CX0 NX P w K mg base 6 "between" f_between := by
  refine def_ok0 5 2 8 (fb := b_between) F sc_between rfl rfl rfl hg (F.bindsN fun _ _ _ _ _ _ us hl => match us, hl with | [_, _], _ => rfl) fun cdv A outer s H E hr => ?_
  exact (qb_cons (qs_expr (qe_callC c_check_state hr (by decide) pass0 (fun _ _ h => h) (qa_cons (qv 0) qa_nil)))
  (qb_cons (qs_expr (qe_callC c_check_state hr (by decide) pass0 (fun _ _ h => h) (qa_cons (qv 1) qa_nil)))
  (qb_cons (qs_expr (qe_callC c_check_same hr (by decide) pass0 (fun _ _ h => h) (qa_cons (qv 0) (qa_cons (qv 1) qa_nil))))
  (qb_cons (qs_setDc 2 [("place", 6), ("dancer", 4), ("facing", 5)] rfl sc_between.nd (qi_en rfl m.b_enumerate (qv 1)) (by first | rfl | decide +kernel) (fun _ _ _ _ _ => (qp_tp rfl (qps_cons (qp_nm 6 sc_between.nd) (qps_cons (qp_tp rfl (qps_cons (qp_nm 4 sc_between.nd) (qps_cons (qp_nm 5 sc_between.nd) qps_nil))) qps_nil)))) (fun _ _ _ _ _ => qts_nil) (fun _ _ _ _ _ => (qv 4)) (fun _ _ _ _ _ => (qe_tup (qa_cons (qv 6) (qa_cons (qv 5) qa_nil)))))
  (qb_cons (qs_set 3 (qe_loc (qn_lst qa_nil)) sc_between.nd)
  (qb_cons (qs_for PassesOwn.never rfl (qi_seq (qv 0)) (qp_tp rfl (qps_cons (qp_nm 4 sc_between.nd) (qps_cons (qp_nm 5 sc_between.nd) qps_nil))) (qb_cons (qs_pat (qe_ix (hu_of hr) (qv 2) (qv 4)) (qp_tp rfl (qps_cons (qp_nm 6 sc_between.nd) (qps_cons (qp_nm 7 sc_between.nd) qps_nil))))
  (qb_one (qs_expr (qe_bm PySem.F.plainAttrs_list PySem.F.slot_list_append PySem.F.type_list_append m_append ty_lst (qv 3) (qa_cons (qe_tup (qa_cons (qv 6) (qa_cons (qe_op o_mod (qe_op o_sub (qv 7) (qv 5)) (qe_gint rfl m.c_QUARTERS)) qa_nil))) qa_nil))))))
  (qb_one (qs_ret (q_ct c_tuple rfl m.b_tuple rfl (qa_cons (qv 3) qa_nil))))))))))
abbrev N_power : List Str := ["move", "count", "found", "base"]
abbrev P_power : List Str := ["move", "count"]
theorem sc_power : FnScope N_power P_power (defScope (top 31)) := ⟨rfl, rfl, rfl, by decide +kernel, rfl, by decide +kernel, by decide +kernel⟩
noncomputable def b_power : MS := (mSeq (mSet 2 (mCall f_still_move (mCons (mCB oLen (mCons (mVar 0) mNil)) mNil)))
  (mSeq (mSet 3 (mVar 0))
  (mSeq (mWhile (mB (mOp oGt (mVar 1) (mC (.int 0)))) (mSeq (mIfS (mB (mOp oEq (mOp oMod (mVar 1) (mC (.int 2))) (mC (.int 1)))) (mSet 2 (mCall f_compose (mCons (mVar 2) (mCons (mVar 3) mNil)))) mSkip)
  (mSeq (mSet 3 (mCall f_compose (mCons (mVar 3) (mCons (mVar 3) mNil))))
  (mAug 1 oDiv (mC (.int 2))))))
  (mRet (mVar 2)))))
noncomputable def f_power : Fp := defP 2 4 b_power
theorem ok_power (m : ModOk mg) (F : FnP K "power" (top 31) f fd) (hg : mg "power" = some (.ref f)) (c_still_move : CalP CX0 NX P w K mg base 1 "still_move" f_still_move) (c_compose : CalP CX0 NX P w K mg base 1 "compose" f_compose) : CalP CX0 NX P w K mg base 2 "power" f_power := by
  refine def_ok0 1 2 4 (fb := b_power) F sc_power rfl rfl rfl hg (F.bindsN fun _ _ _ _ _ _ us hl => match us, hl with | [_, _], _ => rfl) fun cdv A outer s H E hr => ?_
  exact (qb_cons (qs_set 2 (qe_callC c_still_move hr (by decide) pass0 (fun _ _ h => h) (qa_cons (q_cb c_len rfl m.b_len rfl (qa_cons (qv 0) qa_nil)) qa_nil)) sc_power.nd)
  (qb_cons (qs_set 3 (qv 0) sc_power.nd)
  (qb_cons (qs_while PassesOwn.never (qt_cmp o_gt (qv 1) qe_int) (qb_cons (qs_if (qt_cmp (o_eq hr.units) (qe_op o_mod (qv 1) qe_int) qe_int) (qb_one (qs_set 2 (qe_callC c_compose hr (by decide) pass0 (fun _ _ h => h) (qa_cons (qv 2) (qa_cons (qv 3) qa_nil))) sc_power.nd)) qb_nil)
  (qb_cons (qs_set 3 (qe_callC c_compose hr (by decide) pass0 (fun _ _ h => h) (qa_cons (qv 3) (qa_cons (qv 3) qa_nil))) sc_power.nd)
  (qb_one (qs_aug 1 i_div qe_int sc_power.nd)))))
  (qb_one (qs_ret (qv 2))))))
abbrev N_times : List Str := ["move", "count"]
abbrev P_times : List Str := ["move", "count"]
theorem sc_times : FnScope N_times P_times (defScope (top 32)) := ⟨rfl, rfl, rfl, by decide +kernel, rfl, by decide +kernel, by decide +kernel⟩
noncomputable def b_times : MS := (mSeq (mExpr (mCall f_check_move (mCons (mVar 0) mNil)))
  (mSeq (mIfS (mOr (mNot (mB (mCB oIsi (mCons (mVar 1) (mCons (mC (.ty "int")) mNil))))) (mB (mCB oIsi (mCons (mVar 1) (mCons (mC (.ty "bool")) mNil))))) mFail mSkip)
  (mRet (mIf (mB (mOp oGe (mVar 1) (mC (.int 0)))) (mCall f_power (mCons (mVar 0) (mCons (mVar 1) mNil))) (mCall f_power (mCons (mCall f_inverse (mCons (mVar 0) mNil)) (mCons (mOp oSub (mC (.int 0)) (mVar 1)) mNil)))))))
noncomputable def f_times : Fp := defP 2 2 b_times
theorem ok_times (m : ModOk mg) (F : FnP K "times" (top 32) f fd) (hg : mg "times" = some (.ref f)) (c_check_move : CalP CX0 NX P w K mg base 5 "check_move" f_check_move) (c_power : CalP CX0 NX P w K mg base 2 "power" f_power) (c_inverse : CalP CX0 NX P w K mg base 1 "inverse" f_inverse) : CalP CX0 NX P w K mg base 6 "times" f_times := by
  refine def_ok0 5 2 2 (fb := b_times) F sc_times rfl rfl rfl hg (F.bindsN fun _ _ _ _ _ _ us hl => match us, hl with | [_, _], _ => rfl) fun cdv A outer s H E hr => ?_
  exact (qb_cons (qs_expr (qe_callC c_check_move hr (by decide) pass0 (fun _ _ h => h) (qa_cons (qv 0) qa_nil)))
  (qb_cons (qs_if (qt_w (qw_or (qt_not (qt_val (q_cb c_isi rfl m.b_isinstance rfl (qa_cons (qv 1) (qa_cons (qe_ty rfl m.b_int rfl) qa_nil))))) (qw_or1 (qt_val (q_cb c_isi rfl m.b_isinstance rfl (qa_cons (qv 1) (qa_cons (qe_ty rfl m.b_bool rfl) qa_nil))))))) qb_no qb_nil)
  (qb_one (qs_ret (qe_if (qt_cmp o_ge (qv 1) qe_int) (qe_callC c_power hr (by decide) pass0 (fun _ _ h => h) (qa_cons (qv 0) (qa_cons (qv 1) qa_nil))) (qe_callC c_power hr (by decide) pass0 (fun _ _ h => h) (qa_cons (qe_callC c_inverse hr (by decide) pass0 (fun _ _ h => h) (qa_cons (qv 0) qa_nil)) (qa_cons (qe_op o_sub qe_int (qv 1)) qa_nil))))))))
abbrev N_order : List Str := ["move", "rest", "count", "here"]
abbrev P_order : List Str := ["move"]
theorem sc_order : FnScope N_order P_order (defScope (top 33)) := ⟨rfl, rfl, rfl, by decide +kernel, rfl, by decide +kernel, by decide +kernel⟩
noncomputable def b_order : MS := (mSeq (mSet 1 (mCall f_still_move (mCons (mCB oLen (mCons (mVar 0) mNil)) mNil)))
  (mSeq (mPar 2 3 (mC (.int 1)) (mVar 0))
  (mSeq (mWhile (mB (mOp oNe (mVar 3) (mVar 1))) (mSeq (mSet 3 (mCall f_compose (mCons (mVar 3) (mCons (mVar 0) mNil))))
  (mAug 2 oAdd (mC (.int 1)))))
  (mRet (mVar 2)))))
noncomputable def f_order : Fp := defP 1 4 b_order
theorem ok_order (m : ModOk mg) (F : FnP K "order" (top 33) f fd) (hg : mg "order" = some (.ref f)) (c_still_move : CalP CX0 NX P w K mg base 1 "still_move" f_still_move) (c_compose : CalP CX0 NX P w K mg base 1 "compose" f_compose) : CalP CX0 NX P w K mg base 2 "order" f_order := by
  refine def_ok0 1 1 4 (fb := b_order) F sc_order rfl rfl rfl hg (F.bindsN fun _ _ _ _ _ _ us hl => match us, hl with | [_], _ => rfl) fun cdv A outer s H E hr => ?_
  exact (qb_cons (qs_set 1 (qe_callC c_still_move hr (by decide) pass0 (fun _ _ h => h) (qa_cons (q_cb c_len rfl m.b_len rfl (qa_cons (qv 0) qa_nil)) qa_nil)) sc_order.nd)
  (qb_cons (qs_par 2 3 qe_int (qv 0) rfl sc_order.nd)
  (qb_cons (qs_while PassesOwn.never (qt_cmp (o_ne hr.units) (qv 3) (qv 1)) (qb_cons (qs_set 3 (qe_callC c_compose hr (by decide) pass0 (fun _ _ h => h) (qa_cons (qv 3) (qa_cons (qv 0) qa_nil))) sc_order.nd)
  (qb_one (qs_aug 2 i_add qe_int sc_order.nd))))
  (qb_one (qs_ret (qv 2))))))
abbrev N_order_of : List Str := ["move"]
abbrev P_order_of : List Str := ["move"]
theorem sc_order_of : FnScope N_order_of P_order_of (defScope (top 34)) := ⟨rfl, rfl, rfl, by decide +kernel, rfl, by decide +kernel, by decide +kernel⟩
noncomputable def b_order_of : MS := (mSeq (mExpr (mCall f_check_move (mCons (mVar 0) mNil)))
  (mRet (mCall f_order (mCons (mVar 0) mNil))))
noncomputable def f_order_of : Fp := defP 1 1 b_order_of
theorem ok_order_of (m : ModOk mg) (F : FnP K "order_of" (top 34) f fd) (hg : mg "order_of" = some (.ref f)) (c_check_move : CalP CX0 NX P w K mg base 5 "check_move" f_check_move) (c_order : CalP CX0 NX P w K mg base 2 "order" f_order) : CalP CX0 NX P w K mg base 6 "order_of" f_order_of := by
  refine def_ok0 5 1 1 (fb := b_order_of) F sc_order_of rfl rfl rfl hg (F.bindsN fun _ _ _ _ _ _ us hl => match us, hl with | [_], _ => rfl) fun cdv A outer s H E hr => ?_
  exact (qb_cons (qs_expr (qe_callC c_check_move hr (by decide) pass0 (fun _ _ h => h) (qa_cons (qv 0) qa_nil)))
  (qb_one (qs_ret (qe_callC c_order hr (by decide) pass0 (fun _ _ h => h) (qa_cons (qv 0) qa_nil)))))
abbrev N_ring_from : List Str := ["move", "place", "found"]
abbrev P_ring_from : List Str := ["move", "place"]
theorem sc_ring_from : FnScope N_ring_from P_ring_from (defScope (top 36)) := ⟨rfl, rfl, rfl, by decide +kernel, rfl, by decide +kernel, by decide +kernel⟩
noncomputable def b_ring_from : MS := (mSeq (mSet 2 (mLoc (mLst (mCons (mVar 1) mNil))))
  (mSeq (mWhile (mB (mOp oNe (mOp ixO (mOp ixO (mVar 0) (mOp ixO (mVar 2) (mUn oNeg (mC (.int 1))))) (mC (.int 0))) (mVar 1))) (mExpr (mBM isLst oAppend (mVar 2) (mCons (mOp ixO (mOp ixO (mVar 0) (mOp ixO (mVar 2) (mUn oNeg (mC (.int 1))))) (mC (.int 0))) mNil))))
  (mRet (mVar 2))))
noncomputable def f_ring_from : Fp := defP 2 3 b_ring_from
theorem ok_ring_from (m : ModOk mg) (F : FnP K "ring_from" (top 36) f fd) (hg : mg "ring_from" = some (.ref f)) : CalP CX0 NX P w K mg base 1 "ring_from" f_ring_from := by
  refine def_ok0 0 2 3 (fb := b_ring_from) F sc_ring_from rfl rfl rfl hg (F.bindsN fun _ _ _ _ _ _ us hl => match us, hl with | [_, _], _ => rfl) fun cdv A outer s H E hr => ?_
  exact (qb_cons (qs_set 2 (qe_loc (qn_lst (qa_cons (qv 1) qa_nil))) sc_ring_from.nd)
  (qb_cons (qs_while PassesOwn.never (qt_cmp (o_ne hr.units) (qe_ix (hu_of hr) (qe_ix (hu_of hr) (qv 0) (qe_ix (hu_of hr) (qv 2) (qe_un o_neg qe_int))) qe_int) (qv 1)) (qb_one (qs_expr (qe_bm PySem.F.plainAttrs_list PySem.F.slot_list_append PySem.F.type_list_append m_append ty_lst (qv 2) (qa_cons (qe_ix (hu_of hr) (qe_ix (hu_of hr) (qv 0) (qe_ix (hu_of hr) (qv 2) (qe_un o_neg qe_int))) qe_int) qa_nil)))))
  (qb_one (qs_ret (qv 2)))))
abbrev N_all_rings : List Str := ["move", "seen", "found", "place", "ring", "one"]
abbrev P_all_rings : List Str := ["move"]
theorem sc_all_rings : FnScope N_all_rings P_all_rings (defScope (top 37)) := ⟨rfl, rfl, rfl, by decide +kernel, rfl, by decide +kernel, by decide +kernel⟩
noncomputable def b_all_rings : MS := (mSeq (mSet 1 (mLocD (mDNew .k)))
  (mSeq (mSet 2 (mLoc (mLst mNil)))
  (mSeq (mFor (.nm 3) (mRg1 (mCB oLen (mCons (mVar 0) mNil))) (mIfS (mB (mOp ninD (mVar 3) (mVar 1))) (mSeq (mSet 4 (mCall f_ring_from (mCons (mVar 0) (mCons (mVar 3) mNil))))
  (mSeq (mExpr (mBM isDct oUpdate (mVar 1) (mCons (mFzD (mDc [5] (.nm 5) mYes (mVar 5) (mC (.bl true)) (mIter (mVar 4)))) mNil)))
  (mExpr (mBM isLst oAppend (mVar 2) (mCons (mTup (mCons (mCB oTuple (mCons (mVar 4) mNil)) (mCons (mOp oMod (mCB oSum (mCons (mFz (mLc [5] (.nm 5) mYes (mOp ixO (mOp ixO (mVar 0) (mVar 5)) (mC (.int 1))) (mIter (mVar 4)))) mNil)) (mC (.int 4))) mNil))) mNil))))) mSkip))
  (mRet (mVar 2)))))
noncomputable def f_all_rings : Fp := defP 1 6 b_all_rings
theorem ok_all_rings (m : ModOk mg) (F : FnP K "all_rings" (top 37) f fd) (hg : mg "all_rings" = some (.ref f)) (c_ring_from : CalP CX0 NX P w K mg base 1 "ring_from" f_ring_from) : CalP CX0 NX P w K mg base 2 "all_rings" f_all_rings := by
  refine def_ok0 1 1 6 (fb := b_all_rings) F sc_all_rings rfl rfl rfl hg (F.bindsN fun _ _ _ _ _ _ us hl => match us, hl with | [_], _ => rfl) fun cdv A outer s H E hr => ?_
  exact (qb_cons (qs_set 1 (qe_locD qn_dk) sc_all_rings.nd)
  (qb_cons (qs_set 2 (qe_loc (qn_lst qa_nil)) sc_all_rings.nd)
  (qb_cons (qs_for PassesOwn.never rfl (qi_rg1 rfl m.b_range (q_cb c_len rfl m.b_len rfl (qa_cons (qv 0) qa_nil))) (qp_nm 3 sc_all_rings.nd) (qb_one (qs_if (qt_cmp (o_ninD (hu_of hr)) (qv 3) (qv 1)) (qb_cons (qs_set 4 (qe_callC c_ring_from hr (by decide) pass0 (fun _ _ h => h) (qa_cons (qv 0) (qa_cons (qv 3) qa_nil))) sc_all_rings.nd)
  (qb_cons (qs_expr (qe_bm PySem.F.plainAttrs_dict PySem.F.slot_dict_update PySem.F.type_dict_update m_update ty_dct (qv 1) (qa_cons (qe_fzD (qn_dc [("one", 5)] rfl sc_all_rings.nd (qi_seq (qv 4)) (by first | rfl | decide +kernel) (fun _ _ _ _ _ => (qp_nm 5 sc_all_rings.nd)) (fun _ _ _ _ _ => qts_nil) (fun _ _ _ _ _ => (qv 5)) (fun _ _ _ _ _ => qe_bl))) qa_nil)))
  (qb_one (qs_expr (qe_bm PySem.F.plainAttrs_list PySem.F.slot_list_append PySem.F.type_list_append m_append ty_lst (qv 2) (qa_cons (qe_tup (qa_cons (q_ct c_tuple rfl m.b_tuple rfl (qa_cons (qv 4) qa_nil)) (qa_cons (qe_op o_mod (q_cb (c_sum rfl) rfl m.b_sum rfl (qa_cons (qe_fz (qn_lc [("one", 5)] rfl sc_all_rings.nd (qi_seq (qv 4)) (by first | rfl | decide +kernel) (fun _ _ _ _ _ => (qp_nm 5 sc_all_rings.nd)) (fun _ _ _ _ _ => qts_nil) (fun _ _ _ _ _ => (qe_ix (hu_of hr) (qe_ix (hu_of hr) (qv 0) (qv 5)) qe_int)))) qa_nil)) (qe_gint rfl m.c_QUARTERS)) qa_nil))) qa_nil)))))) qb_nil)))
  (qb_one (qs_ret (qv 2))))))
abbrev N_rings_of : List Str := ["move"]
abbrev P_rings_of : List Str := ["move"]
theorem sc_rings_of : FnScope N_rings_of P_rings_of (defScope (top 38)) := ⟨rfl, rfl, rfl, by decide +kernel, rfl, by decide +kernel, by decide +kernel⟩
noncomputable def b_rings_of : MS := (mSeq (mExpr (mCall f_check_move (mCons (mVar 0) mNil)))
  (mRet (mCB oTuple (mCons (mCall f_all_rings (mCons (mVar 0) mNil)) mNil))))
noncomputable def f_rings_of : Fp := defP 1 1 b_rings_of
theorem ok_rings_of (m : ModOk mg) (F : FnP K "rings_of" (top 38) f fd) (hg : mg "rings_of" = some (.ref f)) (c_check_move : CalP CX0 NX P w K mg base 5 "check_move" f_check_move) (c_all_rings : CalP CX0 NX P w K mg base 2 "all_rings" f_all_rings) : CalP CX0 NX P w K mg base 6 "rings_of" f_rings_of := by
  refine def_ok0 5 1 1 (fb := b_rings_of) F sc_rings_of rfl rfl rfl hg (F.bindsN fun _ _ _ _ _ _ us hl => match us, hl with | [_], _ => rfl) fun cdv A outer s H E hr => ?_
  exact (qb_cons (qs_expr (qe_callC c_check_move hr (by decide) pass0 (fun _ _ h => h) (qa_cons (qv 0) qa_nil)))
  (qb_one (qs_ret (q_ct c_tuple rfl m.b_tuple rfl (qa_cons (qe_callC c_all_rings hr (by decide) pass0 (fun _ _ h => h) (qa_cons (qv 0) qa_nil)) qa_nil)))))
abbrev N__check_place : List Str := ["move", "place"]
abbrev P__check_place : List Str := ["move", "place"]
theorem sc__check_place : FnScope N__check_place P__check_place (defScope (top 39)) := ⟨rfl, rfl, rfl, by decide +kernel, rfl, by decide +kernel, by decide +kernel⟩
noncomputable def b__check_place : MS := (mSeq (mExpr (mCall f_check_move (mCons (mVar 0) mNil)))
  (mIfS (mNot (mB (mCall f_is_whole (mCons (mVar 1) (mCons (mC (.int 0)) (mCons (mOp oSub (mCB oLen (mCons (mVar 0) mNil)) (mC (.int 1))) mNil)))))) mFail mSkip))
noncomputable def f__check_place : Fp := defP 2 2 b__check_place
theorem ok__check_place (m : ModOk mg) (F : FnP K "_check_place" (top 39) f fd) (hg : mg "_check_place" = some (.ref f)) (c_check_move : CalP CX0 NX P w K mg base 5 "check_move" f_check_move) (c_is_whole : CalP CX0 NX P w K mg base 1 "is_whole" f_is_whole) : CalP CX0 NX P w K mg base 6 "_check_place" f__check_place := by
  refine def_ok0 5 2 2 (fb := b__check_place) F sc__check_place rfl rfl rfl hg (F.bindsN fun _ _ _ _ _ _ us hl => match us, hl with | [_, _], _ => rfl) fun cdv A outer s H E hr => ?_
  exact (qb_cons (qs_expr (qe_callC c_check_move hr (by decide) pass0 (fun _ _ h => h) (qa_cons (qv 0) qa_nil)))
  (qb_one (qs_if (qt_not (qt_val (qe_callC c_is_whole hr (by decide) pass0 (fun _ _ h => h) (qa_cons (qv 1) (qa_cons qe_int (qa_cons (qe_op o_sub (q_cb c_len rfl m.b_len rfl (qa_cons (qv 0) qa_nil)) qe_int) qa_nil)))))) qb_no qb_nil)))
abbrev N_own_round : List Str := ["move", "place", "ring", "twist", "one"]
abbrev P_own_round : List Str := ["move", "place"]
theorem sc_own_round : FnScope N_own_round P_own_round (defScope (top 40)) := ⟨rfl, rfl, rfl, by decide +kernel, rfl, by decide +kernel, by decide +kernel⟩
noncomputable def b_own_round : MS := (mSeq (mSet 2 (mCall f_ring_from (mCons (mVar 0) (mCons (mVar 1) mNil))))
  (mSeq (mSet 3 (mCB oSum (mCons (mFz (mLc [4] (.nm 4) mYes (mOp ixO (mOp ixO (mVar 0) (mVar 4)) (mC (.int 1))) (mIter (mVar 2)))) mNil)))
  (mRet (mOp oMul (mCB oLen (mCons (mVar 2) mNil)) (mOp oDiv (mC (.int 4)) (mCB oGcd (mCons (mC (.int 4)) (mCons (mVar 3) mNil))))))))
noncomputable def f_own_round : Fp := defP 2 5 b_own_round
theorem ok_own_round (m : ModOk mg) (F : FnP K "own_round" (top 40) f fd) (hg : mg "own_round" = some (.ref f)) (c_ring_from : CalP CX0 NX P w K mg base 1 "ring_from" f_ring_from) : CalP CX0 NX P w K mg base 2 "own_round" f_own_round := by
  refine def_ok0 1 2 5 (fb := b_own_round) F sc_own_round rfl rfl rfl hg (F.bindsN fun _ _ _ _ _ _ us hl => match us, hl with | [_, _], _ => rfl) fun cdv A outer s H E hr => ?_
  exact (qb_cons (qs_set 2 (qe_callC c_ring_from hr (by decide) pass0 (fun _ _ h => h) (qa_cons (qv 0) (qa_cons (qv 1) qa_nil))) sc_own_round.nd)
  (qb_cons (qs_set 3 (q_cb (c_sum rfl) rfl m.b_sum rfl (qa_cons (qe_fz (qn_lc [("one", 4)] rfl sc_own_round.nd (qi_seq (qv 2)) (by first | rfl | decide +kernel) (fun _ _ _ _ _ => (qp_nm 4 sc_own_round.nd)) (fun _ _ _ _ _ => qts_nil) (fun _ _ _ _ _ => (qe_ix (hu_of hr) (qe_ix (hu_of hr) (qv 0) (qv 4)) qe_int)))) qa_nil)) sc_own_round.nd)
  (qb_one (qs_ret (qe_op o_mul (q_cb c_len rfl m.b_len rfl (qa_cons (qv 2) qa_nil)) (qe_op o_div (qe_gint rfl m.c_QUARTERS) (q_cf c_gcd rfl m.f_gcd (qa_cons (qe_gint rfl m.c_QUARTERS) (qa_cons (qv 3) qa_nil)))))))))
abbrev N_rounds : List Str := ["move", "place"]
abbrev P_rounds : List Str := ["move"]
theorem sc_rounds : FnScope N_rounds P_rounds (defScope (top 41)) := ⟨rfl, rfl, rfl, by decide +kernel, rfl, by decide +kernel, by decide +kernel⟩
noncomputable def b_rounds : MS := (mSeq (mExpr (mCall f_check_move (mCons (mVar 0) mNil)))
  (mRet (mCB oTuple (mCons (mFz (mLc [1] (.nm 1) mYes (mCall f_own_round (mCons (mVar 0) (mCons (mVar 1) mNil))) (mRg1 (mCB oLen (mCons (mVar 0) mNil))))) mNil))))
noncomputable def f_rounds : Fp := defP 1 2 b_rounds
theorem ok_rounds (m : ModOk mg) (F : FnP K "rounds" (top 41) f fd) (hg : mg "rounds" = some (.ref f)) (c_check_move : CalP CX0 NX P w K mg base 5 "check_move" f_check_move) (c_own_round : CalP CX0 NX P w K mg base 2 "own_round" f_own_round) : CalP CX0 NX P w K mg base 6 "rounds" f_rounds := by
  refine def_ok0 5 1 2 (fb := b_rounds) F sc_rounds rfl rfl rfl hg (F.bindsN fun _ _ _ _ _ _ us hl => match us, hl with | [_], _ => rfl) fun cdv A outer s H E hr => ?_
  exact (qb_cons (qs_expr (qe_callC c_check_move hr (by decide) pass0 (fun _ _ h => h) (qa_cons (qv 0) qa_nil)))
  (qb_one (qs_ret (q_ct c_tuple rfl m.b_tuple rfl (qa_cons (qe_fz (qn_lc [("place", 1)] rfl sc_rounds.nd (qi_rg1 rfl m.b_range (q_cb c_len rfl m.b_len rfl (qa_cons (qv 0) qa_nil))) (by first | rfl | decide +kernel) (fun _ _ _ _ _ => (qp_nm 1 sc_rounds.nd)) (fun _ _ _ _ _ => qts_nil) (fun _ _ _ _ _ => (qe_callC c_own_round hr (by decide) pass0 (fun _ _ h => h) (qa_cons (qv 0) (qa_cons (qv 1) qa_nil)))))) qa_nil)))))
abbrev N_landed : List Str := ["move", "place", "count", "ring", "around", "left", "turns", "one"]
abbrev P_landed : List Str := ["move", "place", "count"]
theorem sc_landed : FnScope N_landed P_landed (defScope (top 42)) := ⟨rfl, rfl, rfl, by decide +kernel, rfl, by decide +kernel, by decide +kernel⟩
noncomputable def b_landed : MS := (mSeq (mSet 3 (mCall f_ring_from (mCons (mVar 0) (mCons (mVar 1) mNil))))
  (mSeq (mPar 4 5 (mOp oDiv (mVar 2) (mCB oLen (mCons (mVar 3) mNil))) (mOp oMod (mVar 2) (mCB oLen (mCons (mVar 3) mNil))))
  (mSeq (mSet 6 (mOp oAdd (mOp oMul (mVar 4) (mCB oSum (mCons (mFz (mLc [7] (.nm 7) mYes (mOp ixO (mOp ixO (mVar 0) (mVar 7)) (mC (.int 1))) (mIter (mVar 3)))) mNil))) (mCB oSum (mCons (mFz (mLc [7] (.nm 7) mYes (mOp ixO (mOp ixO (mVar 0) (mVar 7)) (mC (.int 1))) (mIter (mFz (mCut (mVar 3) mNoPart (mPart (mVar 5))))))) mNil))))
  (mRet (mTup (mCons (mOp ixO (mVar 3) (mVar 5)) (mCons (mOp oMod (mVar 6) (mC (.int 4))) mNil)))))))
noncomputable def f_landed : Fp := defP 3 8 b_landed
theorem ok_landed (m : ModOk mg) (F : FnP K "landed" (top 42) f fd) (hg : mg "landed" = some (.ref f)) (c_ring_from : CalP CX0 NX P w K mg base 1 "ring_from" f_ring_from) : CalP CX0 NX P w K mg base 2 "landed" f_landed := by
  refine def_ok0 1 3 8 (fb := b_landed) F sc_landed rfl rfl rfl hg (F.bindsN fun _ _ _ _ _ _ us hl => match us, hl with | [_, _, _], _ => rfl) fun cdv A outer s H E hr => ?_
  exact (qb_cons (qs_set 3 (qe_callC c_ring_from hr (by decide) pass0 (fun _ _ h => h) (qa_cons (qv 0) (qa_cons (qv 1) qa_nil))) sc_landed.nd)
  (qb_cons (qs_par 4 5 (qe_op o_div (qv 2) (q_cb c_len rfl m.b_len rfl (qa_cons (qv 3) qa_nil))) (qe_op o_mod (qv 2) (q_cb c_len rfl m.b_len rfl (qa_cons (qv 3) qa_nil))) rfl sc_landed.nd)
  (qb_cons (qs_set 6 (qe_op o_add (qe_op o_mul (qv 4) (q_cb (c_sum rfl) rfl m.b_sum rfl (qa_cons (qe_fz (qn_lc [("one", 7)] rfl sc_landed.nd (qi_seq (qv 3)) (by first | rfl | decide +kernel) (fun _ _ _ _ _ => (qp_nm 7 sc_landed.nd)) (fun _ _ _ _ _ => qts_nil) (fun _ _ _ _ _ => (qe_ix (hu_of hr) (qe_ix (hu_of hr) (qv 0) (qv 7)) qe_int)))) qa_nil))) (q_cb (c_sum rfl) rfl m.b_sum rfl (qa_cons (qe_fz (qn_lc [("one", 7)] rfl sc_landed.nd (qi_seq (qe_fz (qn_cut (qv 3) qo_none (qo_some (qv 5))))) (by first | rfl | decide +kernel) (fun _ _ _ _ _ => (qp_nm 7 sc_landed.nd)) (fun _ _ _ _ _ => qts_nil) (fun _ _ _ _ _ => (qe_ix (hu_of hr) (qe_ix (hu_of hr) (qv 0) (qv 7)) qe_int)))) qa_nil))) sc_landed.nd)
  (qb_one (qs_ret (qe_tup (qa_cons (qe_ix (hu_of hr) (qv 3) (qv 5)) (qa_cons (qe_op o_mod (qv 6) (qe_gint rfl m.c_QUARTERS)) qa_nil))))))))
abbrev N_after : List Str := ["move", "place", "count"]
abbrev P_after : List Str := ["move", "place", "count"]
theorem sc_after : FnScope N_after P_after (defScope (top 43)) := ⟨rfl, rfl, rfl, by decide +kernel, rfl, by decide +kernel, by decide +kernel⟩
noncomputable def b_after : MS := (mSeq (mExpr (mCall f__check_place (mCons (mVar 0) (mCons (mVar 1) mNil))))
  (mSeq (mIfS (mOr (mNot (mB (mCB oIsi (mCons (mVar 2) (mCons (mC (.ty "int")) mNil))))) (mB (mCB oIsi (mCons (mVar 2) (mCons (mC (.ty "bool")) mNil))))) mFail mSkip)
  (mRet (mCall f_landed (mCons (mVar 0) (mCons (mVar 1) (mCons (mVar 2) mNil)))))))
noncomputable def f_after : Fp := defP 3 3 b_after
theorem ok_after (m : ModOk mg) (F : FnP K "after" (top 43) f fd) (hg : mg "after" = some (.ref f)) (c__check_place : CalP CX0 NX P w K mg base 6 "_check_place" f__check_place) (c_landed : CalP CX0 NX P w K mg base 2 "landed" f_landed) : CalP CX0 NX P w K mg base 7 "after" f_after := by
  refine def_ok0 6 3 3 (fb := b_after) F sc_after rfl rfl rfl hg (F.bindsN fun _ _ _ _ _ _ us hl => match us, hl with | [_, _, _], _ => rfl) fun cdv A outer s H E hr => ?_
  exact (qb_cons (qs_expr (qe_callC c__check_place hr (by decide) pass0 (fun _ _ h => h) (qa_cons (qv 0) (qa_cons (qv 1) qa_nil))))
  (qb_cons (qs_if (qt_w (qw_or (qt_not (qt_val (q_cb c_isi rfl m.b_isinstance rfl (qa_cons (qv 2) (qa_cons (qe_ty rfl m.b_int rfl) qa_nil))))) (qw_or1 (qt_val (q_cb c_isi rfl m.b_isinstance rfl (qa_cons (qv 2) (qa_cons (qe_ty rfl m.b_bool rfl) qa_nil))))))) qb_no qb_nil)
  (qb_one (qs_ret (qe_callC c_landed hr (by decide) pass0 (fun _ _ h => h) (qa_cons (qv 0) (qa_cons (qv 1) (qa_cons (qv 2) qa_nil))))))))
abbrev N__law_draws : List Str := ["script", "many", "draws", "seed", "cell", "k", "number"]
abbrev P__law_draws : List Str := ["script", "many"]
theorem sc__law_draws : FnScope N__law_draws P__law_draws (defScope (top 45)) := ⟨rfl, rfl, rfl, by decide +kernel, rfl, by decide +kernel, by decide +kernel⟩
noncomputable def b__law_draws : MS := (mSeq (mSet 2 (mLoc (mLst mNil)))
  (mSeq (mSet 3 (mC (.int 7)))
  (mSeq (mFor (.nm 4) (mIter (mFz (mCut (mVar 0) mNoPart (mPart (mC (.int 63)))))) (mSeq (mSet 6 (mCB oAbs (mCons (mVar 4) mNil)))
  (mSeq (mSet 3 (mOp oMod (mCB oInt (mCons (mOp oAdd (mOp oAdd (mOp oMul (mVar 3) (mC (.int 48271))) (mVar 6)) (mC (.int 11))) mNil)) (mC (.int 2147483647))))
  (mIfS (mB (mOp oGe (mVar 6) (mOp oPow (mC (.int 10)) (mC (.int 18))))) (mFor (.nm 5) (mRg1 (mC (.int 60))) (mIfS (mB (mOp oGt (mVar 6) (mC (.int 0)))) (mSeq (mExpr (mBM isLst oAppend (mVar 2) (mCons (mOp oMod (mCB oInt (mCons (mVar 6) mNil)) (mC (.int 1009))) mNil)))
  (mSet 6 (mOp oDiv (mVar 6) (mC (.int 1009))))) mSkip)) (mExpr (mBM isLst oAppend (mVar 2) (mCons (mOp oMod (mOp oDiv (mCB oInt (mCons (mOp oAdd (mOp oMul (mVar 3) (mC (.int 16807))) (mC (.int 5))) mNil)) (mC (.int 3))) (mC (.int 65521))) mNil)))))))
  (mSeq (mFor (.nm 5) (mRg1 (mVar 1)) (mIfS (mB (mOp oLt (mCB oLen (mCons (mVar 2) mNil)) (mVar 1))) (mSeq (mSet 3 (mOp oMod (mCB oInt (mCons (mOp oAdd (mOp oAdd (mOp oMul (mVar 3) (mC (.int 69621))) (mVar 5)) (mC (.int 1))) mNil)) (mC (.int 2147483647))))
  (mExpr (mBM isLst oAppend (mVar 2) (mCons (mOp oMod (mOp oDiv (mCB oInt (mCons (mVar 3) mNil)) (mC (.int 7))) (mC (.int 65521))) mNil)))) mSkip))
  (mRet (mFz (mCut (mVar 2) mNoPart (mPart (mVar 1)))))))))
noncomputable def f__law_draws : Fp := defP 2 7 b__law_draws
theorem ok__law_draws (m : ModOk mg) (F : FnP K "_law_draws" (top 45) f fd) (hg : mg "_law_draws" = some (.ref f)) : CalP CX0 NX P w K mg base 1 "_law_draws" f__law_draws := by
  refine def_ok0 0 2 7 (fb := b__law_draws) F sc__law_draws rfl rfl rfl hg (F.bindsN fun _ _ _ _ _ _ us hl => match us, hl with | [_, _], _ => rfl) fun cdv A outer s H E hr => ?_
  exact (qb_cons (qs_set 2 (qe_loc (qn_lst qa_nil)) sc__law_draws.nd)
  (qb_cons (qs_set 3 qe_int sc__law_draws.nd)
  (qb_cons (qs_for PassesOwn.never rfl (qi_seq (qe_fz (qn_cut (qv 0) qo_none (qo_some qe_int)))) (qp_nm 4 sc__law_draws.nd) (qb_cons (qs_set 6 (q_cb c_abs rfl m.b_abs rfl (qa_cons (qv 4) qa_nil)) sc__law_draws.nd)
  (qb_cons (qs_set 3 (qe_op o_mod (q_ct c_int rfl m.b_int rfl (qa_cons (qe_op o_add (qe_op o_add (qe_op o_mul (qv 3) qe_int) (qv 6)) qe_int) qa_nil)) qe_int) sc__law_draws.nd)
  (qb_one (qs_if (qt_cmp o_ge (qv 6) (qe_op o_pow qe_int qe_int)) (qb_one (qs_for PassesOwn.never rfl (qi_rg1 rfl m.b_range qe_int) (qp_nm 5 sc__law_draws.nd) (qb_one (qs_if (qt_cmp o_gt (qv 6) qe_int) (qb_cons (qs_expr (qe_bm PySem.F.plainAttrs_list PySem.F.slot_list_append PySem.F.type_list_append m_append ty_lst (qv 2) (qa_cons (qe_op o_mod (q_ct c_int rfl m.b_int rfl (qa_cons (qv 6) qa_nil)) qe_int) qa_nil)))
  (qb_one (qs_set 6 (qe_op o_div (qv 6) qe_int) sc__law_draws.nd))) qb_nil)))) (qb_one (qs_expr (qe_bm PySem.F.plainAttrs_list PySem.F.slot_list_append PySem.F.type_list_append m_append ty_lst (qv 2) (qa_cons (qe_op o_mod (qe_op o_div (q_ct c_int rfl m.b_int rfl (qa_cons (qe_op o_add (qe_op o_mul (qv 3) qe_int) qe_int) qa_nil)) qe_int) qe_int) qa_nil)))))))))
  (qb_cons (qs_for PassesOwn.never rfl (qi_rg1 rfl m.b_range (qv 1)) (qp_nm 5 sc__law_draws.nd) (qb_one (qs_if (qt_cmp o_lt (q_cb c_len rfl m.b_len rfl (qa_cons (qv 2) qa_nil)) (qv 1)) (qb_cons (qs_set 3 (qe_op o_mod (q_ct c_int rfl m.b_int rfl (qa_cons (qe_op o_add (qe_op o_add (qe_op o_mul (qv 3) qe_int) (qv 5)) qe_int) qa_nil)) qe_int) sc__law_draws.nd)
  (qb_one (qs_expr (qe_bm PySem.F.plainAttrs_list PySem.F.slot_list_append PySem.F.type_list_append m_append ty_lst (qv 2) (qa_cons (qe_op o_mod (qe_op o_div (q_ct c_int rfl m.b_int rfl (qa_cons (qv 3) qa_nil)) qe_int) qe_int) qa_nil))))) qb_nil)))
  (qb_one (qs_ret (qe_fz (qn_cut (qv 2) qo_none (qo_some (qv 1))))))))))
abbrev N__law_move : List Str := ["draws", "count", "rest", "found", "k", "at"]
abbrev P__law_move : List Str := ["draws", "count"]
theorem sc__law_move : FnScope N__law_move P__law_move (defScope (top 46)) := ⟨rfl, rfl, rfl, by decide +kernel, rfl, by decide +kernel, by decide +kernel⟩
noncomputable def b__law_move : MS := (mSeq (mPar 2 3 (mFz (mLstRg1 (mVar 1))) (mLoc (mLst mNil)))
  (mSeq (mFor (.nm 4) (mRg1 (mVar 1)) (mSeq (mSet 5 (mOp oMod (mCB oInt (mCons (mOp ixO (mVar 0) (mVar 4)) mNil)) (mCB oLen (mCons (mVar 2) mNil))))
  (mSeq (mExpr (mBM isLst oAppend (mVar 3) (mCons (mTup (mCons (mOp ixO (mVar 2) (mVar 5)) (mCons (mIf (mB (mOp oGt (mOp oMod (mOp oDiv (mCB oInt (mCons (mOp ixO (mVar 0) (mVar 4)) mNil)) (mC (.int 50))) (mC (.int 3))) (mC (.int 0)))) (mOp oMod (mCB oInt (mCons (mOp ixO (mVar 0) (mOp oAdd (mVar 4) (mVar 1))) mNil)) (mC (.int 4))) (mC (.int 0))) mNil))) mNil)))
  (mSet 2 (mFz (mCat (mFz (mCut (mVar 2) mNoPart (mPart (mVar 5)))) (mFz (mCut (mVar 2) (mPart (mOp oAdd (mVar 5) (mC (.int 1)))) mNoPart))))))))
  (mRet (mCB oTuple (mCons (mVar 3) mNil)))))
noncomputable def f__law_move : Fp := defP 2 6 b__law_move
theorem ok__law_move (m : ModOk mg) (F : FnP K "_law_move" (top 46) f fd) (hg : mg "_law_move" = some (.ref f)) : CalP CX0 NX P w K mg base 1 "_law_move" f__law_move := by
  refine def_ok0 0 2 6 (fb := b__law_move) F sc__law_move rfl rfl rfl hg (F.bindsN fun _ _ _ _ _ _ us hl => match us, hl with | [_, _], _ => rfl) fun cdv A outer s H E hr => ?_
  exact (qb_cons (qs_par 2 3 (qe_fz (qn_lrg1 rfl rfl m.b_list rfl m.b_range (qv 1))) (qe_loc (qn_lst qa_nil)) rfl sc__law_move.nd)
  (qb_cons (qs_for PassesOwn.never rfl (qi_rg1 rfl m.b_range (qv 1)) (qp_nm 4 sc__law_move.nd) (qb_cons (qs_set 5 (qe_op o_mod (q_ct c_int rfl m.b_int rfl (qa_cons (qe_ix (hu_of hr) (qv 0) (qv 4)) qa_nil)) (q_cb c_len rfl m.b_len rfl (qa_cons (qv 2) qa_nil))) sc__law_move.nd)
  (qb_cons (qs_expr (qe_bm PySem.F.plainAttrs_list PySem.F.slot_list_append PySem.F.type_list_append m_append ty_lst (qv 3) (qa_cons (qe_tup (qa_cons (qe_ix (hu_of hr) (qv 2) (qv 5)) (qa_cons (qe_if (qt_cmp o_gt (qe_op o_mod (qe_op o_div (q_ct c_int rfl m.b_int rfl (qa_cons (qe_ix (hu_of hr) (qv 0) (qv 4)) qa_nil)) qe_int) qe_int) qe_int) (qe_op o_mod (q_ct c_int rfl m.b_int rfl (qa_cons (qe_ix (hu_of hr) (qv 0) (qe_op o_add (qv 4) (qv 1))) qa_nil)) qe_int) qe_int) qa_nil))) qa_nil)))
  (qb_one (qs_set 2 (qe_fz (qn_cat (qe_fz (qn_cut (qv 2) qo_none (qo_some (qv 5)))) (qe_fz (qn_cut (qv 2) (qo_some (qe_op o_add (qv 5) qe_int)) qo_none)))) sc__law_move.nd)))))
  (qb_one (qs_ret (q_ct c_tuple rfl m.b_tuple rfl (qa_cons (qv 3) qa_nil))))))
abbrev N__law_common : List Str := ["one", "other", "turn"]
abbrev P__law_common : List Str := ["one", "other"]
theorem sc__law_common : FnScope N__law_common P__law_common (defScope (top 47)) := ⟨rfl, rfl, rfl, by decide +kernel, rfl, by decide +kernel, by decide +kernel⟩
noncomputable def b__law_common : MS := (mSeq (mFor (.nm 2) (mRg1 (mC (.int 4000))) (mSeq (mIfS (mB (mOp oEq (mVar 1) (mC (.int 0)))) (mRet (mVar 0)) mSkip)
  (mPar 0 1 (mVar 1) (mOp oMod (mVar 0) (mVar 1)))))
  (mRet (mVar 0)))
noncomputable def f__law_common : Fp := defP 2 3 b__law_common
theorem ok__law_common (m : ModOk mg) (F : FnP K "_law_common" (top 47) f fd) (hg : mg "_law_common" = some (.ref f)) : CalP CX0 NX P w K mg base 1 "_law_common" f__law_common := by
  refine def_ok0 0 2 3 (fb := b__law_common) F sc__law_common rfl rfl rfl hg (F.bindsN fun _ _ _ _ _ _ us hl => match us, hl with | [_, _], _ => rfl) fun cdv A outer s H E hr => ?_
  exact (qb_cons (qs_for PassesOwn.never rfl (qi_rg1 rfl m.b_range qe_int) (qp_nm 2 sc__law_common.nd) (qb_cons (qs_if (qt_cmp (o_eq hr.units) (qv 1) qe_int) (qb_one (qs_ret (qv 0))) qb_nil)
  (qb_one (qs_par 0 1 (qv 1) (qe_op o_mod (qv 0) (qv 1)) rfl sc__law_common.nd))))
  (qb_one (qs_ret (qv 0))))
abbrev N_law : List Str := ["script", "draws", "turn", "count", "one", "two", "three", "nobody", "state", "order_v", "far", "more", "often", "led", "goes", "place", "first", "then", "k", "ring", "twist"]
abbrev P_law : List Str := ["script"]
theorem sc_law : FnScope N_law P_law (defScope (top 48)) := ⟨rfl, rfl, rfl, by decide +kernel, rfl, by decide +kernel, by decide +kernel⟩
noncomputable def b_law : MS := (mSeq (mSet 1 (mCall f__law_draws (mCons (mVar 0) (mCons (mC (.int 300)) mNil))))
  (mSeq (mFor (.nm 2) (mRg1 (mC (.int 5))) (mSeq (mSet 3 (mOp oAdd (mC (.int 1)) (mOp oMod (mCB oInt (mCons (mOp ixO (mVar 1) (mVar 2)) mNil)) (mC (.int 8)))))
  (mSeq (mPatL [(.nm 4), (.nm 5), (.nm 6)] (mFz (mLc [18] (.nm 18) mYes (mCall f__law_move (mCons (mFz (mCut (mVar 1) (mPart (mOp oAdd (mOp oAdd (mC (.int 10)) (mOp oMul (mC (.int 50)) (mVar 2))) (mOp oMul (mC (.int 16)) (mVar 18)))) mNoPart)) (mCons (mVar 3) mNil))) (mRg1 (mC (.int 3))))))
  (mSeq (mSet 7 (mCall f_still (mCons (mVar 3) mNil)))
  (mSeq (mIfS (mOr (mB (mOp oNe (mCall f_both (mCons (mCall f_both (mCons (mVar 4) (mCons (mVar 5) mNil))) (mCons (mVar 6) mNil))) (mCall f_both (mCons (mVar 4) (mCons (mCall f_both (mCons (mVar 5) (mCons (mVar 6) mNil))) mNil))))) (mOr (mB (mOp oNe (mCall f_both (mCons (mVar 4) (mCons (mCall f_undoing (mCons (mVar 4) mNil)) mNil))) (mVar 7))) (mB (mOp oNe (mCall f_both (mCons (mCall f_undoing (mCons (mVar 4) mNil)) (mCons (mVar 4) mNil))) (mVar 7))))) (mRet (mC (.bl false))) mSkip)
  (mSeq (mIfS (mB (mOp oNe (mCall f_undoing (mCons (mCall f_both (mCons (mVar 4) (mCons (mVar 5) mNil))) mNil)) (mCall f_both (mCons (mCall f_undoing (mCons (mVar 5) mNil)) (mCons (mCall f_undoing (mCons (mVar 4) mNil)) mNil))))) (mRet (mC (.bl false))) mSkip)
  (mSeq (mSet 8 (mCall f_moved (mCons (mCall f_first_state (mCons (mVar 3) mNil)) (mCons (mVar 6) mNil))))
  (mSeq (mIfS (mOr (mB (mOp oNe (mCall f_moved (mCons (mCall f_moved (mCons (mVar 8) (mCons (mVar 4) mNil))) (mCons (mVar 5) mNil))) (mCall f_moved (mCons (mVar 8) (mCons (mCall f_both (mCons (mVar 4) (mCons (mVar 5) mNil))) mNil))))) (mOr (mB (mOp oNe (mCall f_between (mCons (mVar 8) (mCons (mCall f_moved (mCons (mVar 8) (mCons (mVar 4) mNil))) mNil))) (mVar 4))) (mB (mOp oNe (mCall f_moved (mCons (mVar 8) (mCons (mCall f_between (mCons (mVar 8) (mCons (mCall f_first_state (mCons (mVar 3) mNil)) mNil))) mNil))) (mCall f_first_state (mCons (mVar 3) mNil)))))) (mRet (mC (.bl false))) mSkip)
  (mSeq (mSet 9 (mCall f_order_of (mCons (mVar 4) mNil)))
  (mSeq (mPar 10 11 (mOp oAdd (mOp oPow (mC (.int 10)) (mC (.int 20))) (mCB oInt (mCons (mOp ixO (mVar 1) (mOp oAdd (mC (.int 270)) (mVar 2))) mNil))) (mOp oSub (mOp oMod (mCB oInt (mCons (mOp ixO (mVar 1) (mOp oAdd (mC (.int 280)) (mVar 2))) mNil)) (mC (.int 40))) (mC (.int 20))))
  (mSeq (mIfS (mOr (mB (mOp oNe (mCall f_both (mCons (mCall f_times (mCons (mVar 4) (mCons (mVar 10) mNil))) (mCons (mCall f_times (mCons (mVar 4) (mCons (mVar 11) mNil))) mNil))) (mCall f_times (mCons (mVar 4) (mCons (mOp oAdd (mVar 10) (mVar 11)) mNil))))) (mB (mOp oNe (mCall f_times (mCons (mCall f_times (mCons (mVar 4) (mCons (mVar 11) mNil))) (mCons (mC (.int 7)) mNil))) (mCall f_times (mCons (mVar 4) (mCons (mOp oMul (mC (.int 7)) (mVar 11)) mNil)))))) (mRet (mC (.bl false))) mSkip)
  (mSeq (mIfS (mOr (mB (mOp oNe (mCall f_times (mCons (mVar 4) (mCons (mVar 9) mNil))) (mVar 7))) (mB (mOp oNe (mCall f_times (mCons (mVar 4) (mCons (mVar 10) mNil))) (mCall f_times (mCons (mVar 4) (mCons (mOp oMod (mVar 10) (mVar 9)) mNil)))))) (mRet (mC (.bl false))) mSkip)
  (mSeq (mIfS (mOr (mB (mOp oNe (mCall f_order_of (mCons (mCall f_undoing (mCons (mVar 4) mNil)) mNil)) (mVar 9))) (mB (mOp oNe (mCall f_times (mCons (mVar 4) (mCons (mUn oNeg (mC (.int 1))) mNil))) (mCall f_undoing (mCons (mVar 4) mNil))))) (mRet (mC (.bl false))) mSkip)
  (mSeq (mFor (.nm 12) (mIter (mTup (mCons (mC (.int 2)) (mCons (mC (.int 3)) (mCons (mC (.int 5)) (mCons (mC (.int 12)) mNil)))))) (mIfS (mB (mOp oNe (mCall f_order_of (mCons (mCall f_times (mCons (mVar 4) (mCons (mVar 12) mNil))) mNil)) (mOp oDiv (mVar 9) (mCall f__law_common (mCons (mVar 9) (mCons (mVar 12) mNil)))))) (mRet (mC (.bl false))) mSkip))
  (mSeq (mSet 13 (mCall f_both (mCons (mCall f_both (mCons (mCall f_undoing (mCons (mVar 5) mNil)) (mCons (mVar 4) mNil))) (mCons (mVar 5) mNil))))
  (mSeq (mIfS (mOr (mB (mOp oNe (mCall f_order_of (mCons (mVar 13) mNil)) (mVar 9))) (mB (mOp oNe (mCall f_order_of (mCons (mCall f_both (mCons (mVar 4) (mCons (mVar 5) mNil))) mNil)) (mCall f_order_of (mCons (mCall f_both (mCons (mVar 5) (mCons (mVar 4) mNil))) mNil))))) (mRet (mC (.bl false))) mSkip)
  (mSeq (mIfS (mB (mOp oNe (mFz (mCB oSorted (mCons (mFz (mLc [19, 20] (.tp [(.nm 19), (.nm 20)]) mYes (mTup (mCons (mCB oLen (mCons (mVar 19) mNil)) (mCons (mVar 20) mNil))) (mIter (mCall f_rings_of (mCons (mVar 13) mNil))))) mNil))) (mFz (mCB oSorted (mCons (mFz (mLc [19, 20] (.tp [(.nm 19), (.nm 20)]) mYes (mTup (mCons (mCB oLen (mCons (mVar 19) mNil)) (mCons (mVar 20) mNil))) (mIter (mCall f_rings_of (mCons (mVar 4) mNil))))) mNil))))) (mRet (mC (.bl false))) mSkip)
  (mSeq (mSet 14 (mFz (mLc [15] (.nm 15) mYes (mOp ixO (mCall f_after (mCons (mVar 5) (mCons (mVar 15) (mCons (mC (.int 1)) mNil)))) (mC (.int 0))) (mRg1 (mVar 3)))))
  (mSeq (mIfS (mB (mCB oAny (mCons (mFz (mLc [15] (.nm 15) mYes (mOp oNe (mOp ixO (mCall f_rounds (mCons (mVar 13) mNil)) (mOp ixO (mVar 14) (mVar 15))) (mOp ixO (mCall f_rounds (mCons (mVar 4) mNil)) (mVar 15))) (mRg1 (mVar 3)))) mNil))) (mRet (mC (.bl false))) mSkip)
  (mFor (.nm 15) (mRg1 (mVar 3)) (mSeq (mSet 16 (mCall f_after (mCons (mVar 4) (mCons (mVar 15) (mCons (mVar 10) mNil)))))
  (mSeq (mSet 17 (mCall f_after (mCons (mVar 4) (mCons (mOp ixO (mVar 16) (mC (.int 0))) (mCons (mVar 11) mNil)))))
  (mIfS (mB (mOp oNe (mCall f_after (mCons (mVar 4) (mCons (mVar 15) (mCons (mOp oAdd (mVar 10) (mVar 11)) mNil)))) (mTup (mCons (mOp ixO (mVar 17) (mC (.int 0))) (mCons (mOp oMod (mOp oAdd (mOp ixO (mVar 16) (mC (.int 1))) (mOp ixO (mVar 17) (mC (.int 1)))) (mC (.int 4))) mNil))))) (mRet (mC (.bl false))) mSkip)))))))))))))))))))))))
  (mRet (mC (.bl true)))))
noncomputable def f_law : Fp := defP 1 21 b_law
theorem fn_law (m : ModOk mg) (F : FnP K "law" (top 48) f fd) (hg : mg "law" = some (.ref f)) (c__law_draws : CalP CX0 NX P w K mg base 1 "_law_draws" f__law_draws) (c__law_move : CalP CX0 NX P w K mg base 1 "_law_move" f__law_move) (c_still : CalP CX0 NX P w K mg base 3 "still" f_still) (c_both : CalP CX0 NX P w K mg base 6 "both" f_both) (c_undoing : CalP CX0 NX P w K mg base 6 "undoing" f_undoing) (c_moved : CalP CX0 NX P w K mg base 6 "moved" f_moved) (c_first_state : CalP CX0 NX P w K mg base 3 "first_state" f_first_state) (c_between : CalP CX0 NX P w K mg base 6 "between" f_between) (c_order_of : CalP CX0 NX P w K mg base 6 "order_of" f_order_of) (c_times : CalP CX0 NX P w K mg base 6 "times" f_times) (c__law_common : CalP CX0 NX P w K mg base 1 "_law_common" f__law_common) (c_rings_of : CalP CX0 NX P w K mg base 6 "rings_of" f_rings_of) (c_after : CalP CX0 NX P w K mg base 7 "after" f_after) (c_rounds : CalP CX0 NX P w K mg base 6 "rounds" f_rounds) : FnOk P w K mg base CX0 8 f fd ["script"] (spP K NX 1 f_law) := by
  refine (fun_ok0 (k := 7) (fb := b_law) F sc_law fun cdv A outer s H E hr => ?_ : FnOk P w K mg base CX0 8 f fd P_law (spP K NX P_law.length (defP P_law.length N_law.length b_law)))
  exact (qb_cons (qs_set 1 (qe_callC c__law_draws hr (by decide) pass0 (fun _ _ h => h) (qa_cons (qv 0) (qa_cons qe_int qa_nil))) sc_law.nd)
  (qb_cons (qs_for PassesOwn.never rfl (qi_rg1 rfl m.b_range qe_int) (qp_nm 2 sc_law.nd) (qb_cons (qs_set 3 (qe_op o_add qe_int (qe_op o_mod (q_ct c_int rfl m.b_int rfl (qa_cons (qe_ix (hu_of hr) (qv 1) (qv 2)) qa_nil)) qe_int)) sc_law.nd)
  (qb_cons (qs_patL rfl (qe_fz (qn_lc [("k", 18)] rfl sc_law.nd (qi_rg1 rfl m.b_range qe_int) (by first | rfl | decide +kernel) (fun _ _ _ _ _ => (qp_nm 18 sc_law.nd)) (fun _ _ _ _ _ => qts_nil) (fun _ _ _ _ _ => (qe_callC c__law_move hr (by decide) pass0 (fun _ _ h => h) (qa_cons (qe_fz (qn_cut (qv 1) (qo_some (qe_op o_add (qe_op o_add qe_int (qe_op o_mul qe_int (qv 2))) (qe_op o_mul qe_int (qv 18)))) qo_none)) (qa_cons (qv 3) qa_nil)))))) (qps_cons (qp_nm 4 sc_law.nd) (qps_cons (qp_nm 5 sc_law.nd) (qps_cons (qp_nm 6 sc_law.nd) qps_nil))))
  (qb_cons (qs_set 7 (qe_callC c_still hr (by decide) pass0 (fun _ _ h => h) (qa_cons (qv 3) qa_nil)) sc_law.nd)
  (qb_cons (qs_if (qt_w (qw_or (qt_cmp (o_ne hr.units) (qe_callC c_both hr (by decide) pass0 (fun _ _ h => h) (qa_cons (qe_callC c_both hr (by decide) pass0 (fun _ _ h => h) (qa_cons (qv 4) (qa_cons (qv 5) qa_nil))) (qa_cons (qv 6) qa_nil))) (qe_callC c_both hr (by decide) pass0 (fun _ _ h => h) (qa_cons (qv 4) (qa_cons (qe_callC c_both hr (by decide) pass0 (fun _ _ h => h) (qa_cons (qv 5) (qa_cons (qv 6) qa_nil))) qa_nil)))) (qw_or (qt_cmp (o_ne hr.units) (qe_callC c_both hr (by decide) pass0 (fun _ _ h => h) (qa_cons (qv 4) (qa_cons (qe_callC c_undoing hr (by decide) pass0 (fun _ _ h => h) (qa_cons (qv 4) qa_nil)) qa_nil))) (qv 7)) (qw_or1 (qt_cmp (o_ne hr.units) (qe_callC c_both hr (by decide) pass0 (fun _ _ h => h) (qa_cons (qe_callC c_undoing hr (by decide) pass0 (fun _ _ h => h) (qa_cons (qv 4) qa_nil)) (qa_cons (qv 4) qa_nil))) (qv 7)))))) (qb_one (qs_ret qe_bl)) qb_nil)
  (qb_cons (qs_if (qt_cmp (o_ne hr.units) (qe_callC c_undoing hr (by decide) pass0 (fun _ _ h => h) (qa_cons (qe_callC c_both hr (by decide) pass0 (fun _ _ h => h) (qa_cons (qv 4) (qa_cons (qv 5) qa_nil))) qa_nil)) (qe_callC c_both hr (by decide) pass0 (fun _ _ h => h) (qa_cons (qe_callC c_undoing hr (by decide) pass0 (fun _ _ h => h) (qa_cons (qv 5) qa_nil)) (qa_cons (qe_callC c_undoing hr (by decide) pass0 (fun _ _ h => h) (qa_cons (qv 4) qa_nil)) qa_nil)))) (qb_one (qs_ret qe_bl)) qb_nil)
  (qb_cons (qs_set 8 (qe_callC c_moved hr (by decide) pass0 (fun _ _ h => h) (qa_cons (qe_callC c_first_state hr (by decide) pass0 (fun _ _ h => h) (qa_cons (qv 3) qa_nil)) (qa_cons (qv 6) qa_nil))) sc_law.nd)
  (qb_cons (qs_if (qt_w (qw_or (qt_cmp (o_ne hr.units) (qe_callC c_moved hr (by decide) pass0 (fun _ _ h => h) (qa_cons (qe_callC c_moved hr (by decide) pass0 (fun _ _ h => h) (qa_cons (qv 8) (qa_cons (qv 4) qa_nil))) (qa_cons (qv 5) qa_nil))) (qe_callC c_moved hr (by decide) pass0 (fun _ _ h => h) (qa_cons (qv 8) (qa_cons (qe_callC c_both hr (by decide) pass0 (fun _ _ h => h) (qa_cons (qv 4) (qa_cons (qv 5) qa_nil))) qa_nil)))) (qw_or (qt_cmp (o_ne hr.units) (qe_callC c_between hr (by decide) pass0 (fun _ _ h => h) (qa_cons (qv 8) (qa_cons (qe_callC c_moved hr (by decide) pass0 (fun _ _ h => h) (qa_cons (qv 8) (qa_cons (qv 4) qa_nil))) qa_nil))) (qv 4)) (qw_or1 (qt_cmp (o_ne hr.units) (qe_callC c_moved hr (by decide) pass0 (fun _ _ h => h) (qa_cons (qv 8) (qa_cons (qe_callC c_between hr (by decide) pass0 (fun _ _ h => h) (qa_cons (qv 8) (qa_cons (qe_callC c_first_state hr (by decide) pass0 (fun _ _ h => h) (qa_cons (qv 3) qa_nil)) qa_nil))) qa_nil))) (qe_callC c_first_state hr (by decide) pass0 (fun _ _ h => h) (qa_cons (qv 3) qa_nil))))))) (qb_one (qs_ret qe_bl)) qb_nil)
  (qb_cons (qs_set 9 (qe_callC c_order_of hr (by decide) pass0 (fun _ _ h => h) (qa_cons (qv 4) qa_nil)) sc_law.nd)
  (qb_cons (qs_par 10 11 (qe_op o_add (qe_op o_pow qe_int qe_int) (q_ct c_int rfl m.b_int rfl (qa_cons (qe_ix (hu_of hr) (qv 1) (qe_op o_add qe_int (qv 2))) qa_nil))) (qe_op o_sub (qe_op o_mod (q_ct c_int rfl m.b_int rfl (qa_cons (qe_ix (hu_of hr) (qv 1) (qe_op o_add qe_int (qv 2))) qa_nil)) qe_int) qe_int) rfl sc_law.nd)
  (qb_cons (qs_if (qt_w (qw_or (qt_cmp (o_ne hr.units) (qe_callC c_both hr (by decide) pass0 (fun _ _ h => h) (qa_cons (qe_callC c_times hr (by decide) pass0 (fun _ _ h => h) (qa_cons (qv 4) (qa_cons (qv 10) qa_nil))) (qa_cons (qe_callC c_times hr (by decide) pass0 (fun _ _ h => h) (qa_cons (qv 4) (qa_cons (qv 11) qa_nil))) qa_nil))) (qe_callC c_times hr (by decide) pass0 (fun _ _ h => h) (qa_cons (qv 4) (qa_cons (qe_op o_add (qv 10) (qv 11)) qa_nil)))) (qw_or1 (qt_cmp (o_ne hr.units) (qe_callC c_times hr (by decide) pass0 (fun _ _ h => h) (qa_cons (qe_callC c_times hr (by decide) pass0 (fun _ _ h => h) (qa_cons (qv 4) (qa_cons (qv 11) qa_nil))) (qa_cons qe_int qa_nil))) (qe_callC c_times hr (by decide) pass0 (fun _ _ h => h) (qa_cons (qv 4) (qa_cons (qe_op o_mul qe_int (qv 11)) qa_nil))))))) (qb_one (qs_ret qe_bl)) qb_nil)
  (qb_cons (qs_if (qt_w (qw_or (qt_cmp (o_ne hr.units) (qe_callC c_times hr (by decide) pass0 (fun _ _ h => h) (qa_cons (qv 4) (qa_cons (qv 9) qa_nil))) (qv 7)) (qw_or1 (qt_cmp (o_ne hr.units) (qe_callC c_times hr (by decide) pass0 (fun _ _ h => h) (qa_cons (qv 4) (qa_cons (qv 10) qa_nil))) (qe_callC c_times hr (by decide) pass0 (fun _ _ h => h) (qa_cons (qv 4) (qa_cons (qe_op o_mod (qv 10) (qv 9)) qa_nil))))))) (qb_one (qs_ret qe_bl)) qb_nil)
  (qb_cons (qs_if (qt_w (qw_or (qt_cmp (o_ne hr.units) (qe_callC c_order_of hr (by decide) pass0 (fun _ _ h => h) (qa_cons (qe_callC c_undoing hr (by decide) pass0 (fun _ _ h => h) (qa_cons (qv 4) qa_nil)) qa_nil)) (qv 9)) (qw_or1 (qt_cmp (o_ne hr.units) (qe_callC c_times hr (by decide) pass0 (fun _ _ h => h) (qa_cons (qv 4) (qa_cons (qe_un o_neg qe_int) qa_nil))) (qe_callC c_undoing hr (by decide) pass0 (fun _ _ h => h) (qa_cons (qv 4) qa_nil)))))) (qb_one (qs_ret qe_bl)) qb_nil)
  (qb_cons (qs_for PassesOwn.never rfl (qi_seq (qe_tup (qa_cons qe_int (qa_cons qe_int (qa_cons qe_int (qa_cons qe_int qa_nil)))))) (qp_nm 12 sc_law.nd) (qb_one (qs_if (qt_cmp (o_ne hr.units) (qe_callC c_order_of hr (by decide) pass0 (fun _ _ h => h) (qa_cons (qe_callC c_times hr (by decide) pass0 (fun _ _ h => h) (qa_cons (qv 4) (qa_cons (qv 12) qa_nil))) qa_nil)) (qe_op o_div (qv 9) (qe_callC c__law_common hr (by decide) pass0 (fun _ _ h => h) (qa_cons (qv 9) (qa_cons (qv 12) qa_nil))))) (qb_one (qs_ret qe_bl)) qb_nil)))
  (qb_cons (qs_set 13 (qe_callC c_both hr (by decide) pass0 (fun _ _ h => h) (qa_cons (qe_callC c_both hr (by decide) pass0 (fun _ _ h => h) (qa_cons (qe_callC c_undoing hr (by decide) pass0 (fun _ _ h => h) (qa_cons (qv 5) qa_nil)) (qa_cons (qv 4) qa_nil))) (qa_cons (qv 5) qa_nil))) sc_law.nd)
  (qb_cons (qs_if (qt_w (qw_or (qt_cmp (o_ne hr.units) (qe_callC c_order_of hr (by decide) pass0 (fun _ _ h => h) (qa_cons (qv 13) qa_nil)) (qv 9)) (qw_or1 (qt_cmp (o_ne hr.units) (qe_callC c_order_of hr (by decide) pass0 (fun _ _ h => h) (qa_cons (qe_callC c_both hr (by decide) pass0 (fun _ _ h => h) (qa_cons (qv 4) (qa_cons (qv 5) qa_nil))) qa_nil)) (qe_callC c_order_of hr (by decide) pass0 (fun _ _ h => h) (qa_cons (qe_callC c_both hr (by decide) pass0 (fun _ _ h => h) (qa_cons (qv 5) (qa_cons (qv 4) qa_nil))) qa_nil)))))) (qb_one (qs_ret qe_bl)) qb_nil)
  (qb_cons (qs_if (qt_cmp (o_ne hr.units) (qe_fz (q_cb (c_sorted hr.units) rfl m.b_sorted rfl (qa_cons (qe_fz (qn_lc [("ring", 19), ("twist", 20)] rfl sc_law.nd (qi_seq (qe_callC c_rings_of hr (by decide) pass0 (fun _ _ h => h) (qa_cons (qv 13) qa_nil))) (by first | rfl | decide +kernel) (fun _ _ _ _ _ => (qp_tp rfl (qps_cons (qp_nm 19 sc_law.nd) (qps_cons (qp_nm 20 sc_law.nd) qps_nil)))) (fun _ _ _ _ _ => qts_nil) (fun _ _ _ _ _ => (qe_tup (qa_cons (q_cb c_len rfl m.b_len rfl (qa_cons (qv 19) qa_nil)) (qa_cons (qv 20) qa_nil)))))) qa_nil))) (qe_fz (q_cb (c_sorted hr.units) rfl m.b_sorted rfl (qa_cons (qe_fz (qn_lc [("ring", 19), ("twist", 20)] rfl sc_law.nd (qi_seq (qe_callC c_rings_of hr (by decide) pass0 (fun _ _ h => h) (qa_cons (qv 4) qa_nil))) (by first | rfl | decide +kernel) (fun _ _ _ _ _ => (qp_tp rfl (qps_cons (qp_nm 19 sc_law.nd) (qps_cons (qp_nm 20 sc_law.nd) qps_nil)))) (fun _ _ _ _ _ => qts_nil) (fun _ _ _ _ _ => (qe_tup (qa_cons (q_cb c_len rfl m.b_len rfl (qa_cons (qv 19) qa_nil)) (qa_cons (qv 20) qa_nil)))))) qa_nil)))) (qb_one (qs_ret qe_bl)) qb_nil)
  (qb_cons (qs_set 14 (qe_fz (qn_lc [("place", 15)] rfl sc_law.nd (qi_rg1 rfl m.b_range (qv 3)) (by first | rfl | decide +kernel) (fun _ _ _ _ _ => (qp_nm 15 sc_law.nd)) (fun _ _ _ _ _ => qts_nil) (fun _ _ _ _ _ => (qe_ix (hu_of hr) (qe_callC c_after hr (by decide) pass0 (fun _ _ h => h) (qa_cons (qv 5) (qa_cons (qv 15) (qa_cons qe_int qa_nil)))) qe_int)))) sc_law.nd)
  (qb_cons (qs_if (qt_val (q_cb (c_any rfl) rfl m.b_any rfl (qa_cons (qe_fz (qn_lc [("place", 15)] rfl sc_law.nd (qi_rg1 rfl m.b_range (qv 3)) (by first | rfl | decide +kernel) (fun _ _ _ _ _ => (qp_nm 15 sc_law.nd)) (fun _ _ _ _ _ => qts_nil) (fun _ _ _ _ _ => (qe_cmp (o_ne hr.units) (qe_ix (hu_of hr) (qe_callC c_rounds hr (by decide) pass0 (fun _ _ h => h) (qa_cons (qv 13) qa_nil)) (qe_ix (hu_of hr) (qv 14) (qv 15))) (qe_ix (hu_of hr) (qe_callC c_rounds hr (by decide) pass0 (fun _ _ h => h) (qa_cons (qv 4) qa_nil)) (qv 15)))))) qa_nil))) (qb_one (qs_ret qe_bl)) qb_nil)
  (qb_one (qs_for PassesOwn.never rfl (qi_rg1 rfl m.b_range (qv 3)) (qp_nm 15 sc_law.nd) (qb_cons (qs_set 16 (qe_callC c_after hr (by decide) pass0 (fun _ _ h => h) (qa_cons (qv 4) (qa_cons (qv 15) (qa_cons (qv 10) qa_nil)))) sc_law.nd)
  (qb_cons (qs_set 17 (qe_callC c_after hr (by decide) pass0 (fun _ _ h => h) (qa_cons (qv 4) (qa_cons (qe_ix (hu_of hr) (qv 16) qe_int) (qa_cons (qv 11) qa_nil)))) sc_law.nd)
  (qb_one (qs_if (qt_cmp (o_ne hr.units) (qe_callC c_after hr (by decide) pass0 (fun _ _ h => h) (qa_cons (qv 4) (qa_cons (qv 15) (qa_cons (qe_op o_add (qv 10) (qv 11)) qa_nil)))) (qe_tup (qa_cons (qe_ix (hu_of hr) (qv 17) qe_int) (qa_cons (qe_op o_mod (qe_op o_add (qe_ix (hu_of hr) (qv 16) qe_int) (qe_ix (hu_of hr) (qv 17) qe_int)) qe_int) qa_nil)))) (qb_one (qs_ret qe_bl)) qb_nil)))))))))))))))))))))))))
  (qb_one (qs_ret qe_bl))))
end
end W3
end
section
set_option linter.all false
set_option maxRecDepth 100000
set_option maxHeartbeats 1000000
namespace W3
open Rw Mv
variable {n : Nat}
def el (m : Mv n) (i : Fin n) : D := .tup [.int ((m.to i).val : Int), .int ((m.tw i).val : Int)]
def els (m : Mv n) : List D := (List.finRange n).map (el m)
def enc (m : Mv n) : D := .tup (els m)
theorem els_length (m : Mv n) : (els m).length = n := by unfold els; rw [List.length_map, List.length_finRange]
theorem noLocs_map {α : Type} (f : α → D) (h : ∀ a, noLoc (f a) = true) : ∀ l : List α, noLocs (l.map f) = true
  | [] => rfl
  | a :: l => by rw [List.map_cons, noLocs, h a, noLocs_map f h l]; rfl
theorem noLoc_el (m : Mv n) (i : Fin n) : noLoc (el m i) = true := rfl
theorem noLoc_enc (m : Mv n) : noLoc (enc m) = true := by
  show noLocs (els m) = true
  exact noLocs_map _ (noLoc_el m) _
theorem pln_enc (m : Mv n) : pln 2 (enc m) = true := by
  show (els m).all (pln 1) = true
  rw [List.all_eq_true]
  intro d hd
  obtain ⟨i, _, rfl⟩ := List.mem_map.mp hd
  rfl
theorem enc_inj {a b : Mv n} (h : enc a = enc b) : a = b := by
  have h1 : els a = els b := D.tup.inj h
  have h2 : ∀ i ∈ List.finRange n, el a i = el b i := List.map_inj_left.mp h1
  have h3 : ∀ i, a.to i = b.to i ∧ a.tw i = b.tw i := fun i => by
    have := h2 i (List.mem_finRange i)
    simp only [el, D.tup.injEq, List.cons.injEq, D.int.injEq, and_true] at this
    exact ⟨Fin.ext (by omega), Fin.ext (by omega)⟩
  exact Mv.ext (fun i => (h3 i).1) fun i => (h3 i).2
theorem line8 {k : Nat} (h : k ≤ 1000) : k ≤ LINE := Nat.le_trans h (by decide)
theorem isi_int (S : List Cell) (v : Int) : oIsi S [.int v, .ty "int"] = some (.bl true) := rfl
theorem isi_nbool (S : List Cell) (v : Int) : oIsi S [.int v, .ty "bool"] = some (.bl false) := rfl
theorem isi_tup (S : List Cell) (v : List D) : oIsi S [.tup v, .ty "tuple"] = some (.bl true) := rfl
theorem len_tup (S : List Cell) (ds : List D) : oLen S [.tup ds] = some (.int (ds.length : Int)) := rfl
theorem len_lst (S : List Cell) (ds : List D) : oLen S [.lst ds] = some (.int (ds.length : Int)) := rfl
theorem len_enc (S : List Cell) (m : Mv n) : oLen S [enc m] = some (.int (n : Int)) := by
  show some (D.int ((els m).length : Int)) = _
  rw [els_length]
theorem isi_enc (S : List Cell) (m : Mv n) : oIsi S [enc m, .ty "tuple"] = some (.bl true) := rfl
theorem noLocs_ok : noLocs [] = true := rfl
theorem isWhole (v a b : Int) : f_is_whole [.int v, .int a, .int b] = some (.ok (.bl (decide (a ≤ v) && decide (v ≤ b)))) := by
  refine run_rt rfl rfl (wp_of (σ := [some (.int v), some (.int a), some (.int b)]) (S := []) (o := .rt _) ?_ rfl)
  unfold b_is_whole
  simp only [mSeq, mSet, mThen, mVar, mC, mOp, mUn, mChain, mB, mNot, mAnd, mOr, mOfB, mIf, mAndV, mOrV, mNil, mCons, mTup, mLst, mRet, mRetN, mIfS, mExpr, mSkip, mPat, mPar, mAug, mPut, mCB, mCall, mFz, mLoc, mBM, M.bind, M.ret, M.rd, M.ofR, List.getElem?_cons_zero, List.getElem?_cons_succ, List.set_cons_zero, List.set_cons_succ, asB, Pat.put, Pat.puts, Option.map_some, Option.bind_some, if_true, if_false, reduceIte, Bool.false_eq_true, Bool.true_eq_false, List.length_cons, List.length_nil, List.map_cons, List.map_nil, List.append_nil, List.nil_append, List.cons_append, List.replicate, Nat.reduceAdd, Nat.reduceSub, Nat.reduceLeDiff, decide_true, decide_false, Bool.not_true, Bool.not_false, Bool.and_true, Bool.true_and, Bool.and_false, Bool.false_and, Int.cast_ofNat_Int, Int.reduceEq, Int.reduceNe, Int.reduceLT, Int.reduceLE, Int.reduceAdd, Int.reduceMul, Int.reduceSub, Int.reduceMod, Int.reduceDiv, Int.reduceNeg, isi_int, isi_nbool, isi_tup, oLe, oLt, oGt, oGe, iCmp, oAdd, oSub, iOp, noLocs, noLoc, oMod, oDiv, divOk, eq_self, true_or, or_true, or_false, false_or, and_true, true_and, and_false, false_and]
  cases h : decide (a ≤ v) <;> simp only [mSeq, mSet, mThen, mVar, mC, mOp, mUn, mChain, mB, mNot, mAnd, mOr, mOfB, mIf, mAndV, mOrV, mNil, mCons, mTup, mLst, mRet, mRetN, mIfS, mExpr, mSkip, mPat, mPar, mAug, mPut, mCB, mCall, mFz, mLoc, mBM, M.bind, M.ret, M.rd, M.ofR, List.getElem?_cons_zero, List.getElem?_cons_succ, List.set_cons_zero, List.set_cons_succ, asB, Pat.put, Pat.puts, Option.map_some, Option.bind_some, if_true, if_false, reduceIte, Bool.false_eq_true, Bool.true_eq_false, List.length_cons, List.length_nil, List.map_cons, List.map_nil, List.append_nil, List.nil_append, List.cons_append, List.replicate, Nat.reduceAdd, Nat.reduceSub, Nat.reduceLeDiff, decide_true, decide_false, Bool.not_true, Bool.not_false, Bool.and_true, Bool.true_and, Bool.and_false, Bool.false_and, Int.cast_ofNat_Int, Int.reduceEq, Int.reduceNe, Int.reduceLT, Int.reduceLE, Int.reduceAdd, Int.reduceMul, Int.reduceSub, Int.reduceMod, Int.reduceDiv, Int.reduceNeg, isi_int, isi_nbool, isi_tup, oLe, oLt, oGt, oGe, iCmp, oAdd, oSub, iOp, noLocs, noLoc, oMod, oDiv, divOk, eq_self, true_or, or_true, or_false, false_or, and_true, true_and, and_false, false_and]
theorem checkCount (k : Int) (h1 : 1 ≤ k) (h2 : k ≤ 8) : f__check_count [.int k] = some (.ok .non) := by
  refine run_nx rfl (wp_of (σ := [some (.int k)]) (S := []) ?_ rfl)
  unfold b__check_count
  simp only [mSeq, mSet, mThen, mVar, mC, mOp, mUn, mChain, mB, mNot, mAnd, mOr, mOfB, mIf, mAndV, mOrV, mNil, mCons, mTup, mLst, mRet, mRetN, mIfS, mExpr, mSkip, mPat, mPar, mAug, mPut, mCB, mCall, mFz, mLoc, mBM, M.bind, M.ret, M.rd, M.ofR, List.getElem?_cons_zero, List.getElem?_cons_succ, List.set_cons_zero, List.set_cons_succ, asB, Pat.put, Pat.puts, Option.map_some, Option.bind_some, if_true, if_false, reduceIte, Bool.false_eq_true, Bool.true_eq_false, List.length_cons, List.length_nil, List.map_cons, List.map_nil, List.append_nil, List.nil_append, List.cons_append, List.replicate, Nat.reduceAdd, Nat.reduceSub, Nat.reduceLeDiff, decide_true, decide_false, Bool.not_true, Bool.not_false, Bool.and_true, Bool.true_and, Bool.and_false, Bool.false_and, Int.cast_ofNat_Int, Int.reduceEq, Int.reduceNe, Int.reduceLT, Int.reduceLE, Int.reduceAdd, Int.reduceMul, Int.reduceSub, Int.reduceMod, Int.reduceDiv, Int.reduceNeg, isi_int, isi_nbool, isi_tup, oLe, oLt, oGt, oGe, iCmp, oAdd, oSub, iOp, noLocs, noLoc, oMod, oDiv, divOk, eq_self, true_or, or_true, or_false, false_or, and_true, true_and, and_false, false_and, isWhole, h1, h2]
theorem ix_els (m : Mv n) (i : Fin n) (S : List Cell) : ixO S (enc m) (.int (i.val : Int)) = some (el m i) := by
  show L2.atI (els m) (i.val : Int) = _
  unfold L2.atI L2.ixN
  rw [els_length]
  have h := i.isLt
  rw [if_pos (by omega)]
  have e : (els m)[i.val]? = some (el m i) := by
    unfold els
    rw [List.getElem?_map]
    simp [h]
  simpa using e
theorem atI_pr (x y : D) : L2.atI [x, y] 0 = some x ∧ L2.atI [x, y] 1 = some y := ⟨rfl, rfl⟩
theorem ix0 (x y : D) (S : List Cell) : ixO S (.tup [x, y]) (.int 0) = some x := rfl
theorem ix1 (x y : D) (S : List Cell) : ixO S (.tup [x, y]) (.int 1) = some y := rfl
theorem arePairs (m : Mv n) (h1 : 1 ≤ n) (h8 : n ≤ 8) : f__are_pairs [enc m, .int 7, .int 3] = some (.ok (.bl true)) := by
  refine run_rt rfl rfl ?_
  unfold b__are_pairs
  show WP (mSeq _ _ [some (enc m), some (.int 7), some (.int 3), none] []) _
  have hl := els_length m
  have a1 : decide ((1 : Int) ≤ (n : Int)) = true := by simp; omega
  have a2 : decide ((n : Int) ≤ 8) = true := by simp; omega
  refine wp_seq (wp_ifF (S1 := []) ?_ ⟨rfl, ?_⟩)
  · simp only [mSeq, mSet, mThen, mVar, mC, mOp, mUn, mChain, mB, mNot, mAnd, mOr, mOfB, mIf, mAndV, mOrV, mNil, mCons, mTup, mLst, mRet, mRetN, mIfS, mExpr, mSkip, mPat, mPar, mAug, mPut, mCB, mCall, mFz, mLoc, mBM, M.bind, M.ret, M.rd, M.ofR, List.getElem?_cons_zero, List.getElem?_cons_succ, List.set_cons_zero, List.set_cons_succ, asB, Pat.put, Pat.puts, Option.map_some, Option.bind_some, if_true, if_false, reduceIte, Bool.false_eq_true, Bool.true_eq_false, List.length_cons, List.length_nil, List.map_cons, List.map_nil, List.append_nil, List.nil_append, List.cons_append, List.replicate, Nat.reduceAdd, Nat.reduceSub, Nat.reduceLeDiff, decide_true, decide_false, Bool.not_true, Bool.not_false, Bool.and_true, Bool.true_and, Bool.and_false, Bool.false_and, Int.cast_ofNat_Int, Int.reduceEq, Int.reduceNe, Int.reduceLT, Int.reduceLE, Int.reduceAdd, Int.reduceMul, Int.reduceSub, Int.reduceMod, Int.reduceDiv, Int.reduceNeg, isi_int, isi_nbool, isi_tup, oLe, oLt, oGt, oGe, iCmp, oAdd, oSub, iOp, noLocs, noLoc, oMod, oDiv, divOk, eq_self, true_or, or_true, or_false, false_or, and_true, true_and, and_false, false_and, isi_enc, len_enc, a1, a2]
  · refine wp_seq (wp_for (el m) (List.finRange n) (fun _ σ S => ∃ x, σ = [some (enc m), some (.int 7), some (.int 3), x] ∧ S = []) (S1 := []) rfl ⟨_, rfl, rfl⟩ ?_ ?_)
    · rintro done i rest _ _ _ ⟨x, rfl, rfl⟩
      have b1 := (m.to i).isLt
      have b2 := (m.tw i).isLt
      have c1 : decide (((m.to i).val : Int) ≤ 7) = true := by simp; omega
      have c2 : decide (((m.tw i).val : Int) ≤ 3) = true := by simp; omega
      have c3 : decide ((0 : Int) ≤ ((m.to i).val : Int)) = true := by simp
      have c4 : decide ((0 : Int) ≤ ((m.tw i).val : Int)) = true := by simp
      refine ⟨_, rfl, wp_of (o := .nx) (σ := [some (enc m), some (.int 7), some (.int 3), some (el m i)]) (S := []) ?_ ⟨.inl rfl, _, rfl, rfl⟩⟩
      simp only [mSeq, mSet, mThen, mVar, mC, mOp, mUn, mChain, mB, mNot, mAnd, mOr, mOfB, mIf, mAndV, mOrV, mNil, mCons, mTup, mLst, mRet, mRetN, mIfS, mExpr, mSkip, mPat, mPar, mAug, mPut, mCB, mCall, mFz, mLoc, mBM, M.bind, M.ret, M.rd, M.ofR, List.getElem?_cons_zero, List.getElem?_cons_succ, List.set_cons_zero, List.set_cons_succ, asB, Pat.put, Pat.puts, Option.map_some, Option.bind_some, if_true, if_false, reduceIte, Bool.false_eq_true, Bool.true_eq_false, List.length_cons, List.length_nil, List.map_cons, List.map_nil, List.append_nil, List.nil_append, List.cons_append, List.replicate, Nat.reduceAdd, Nat.reduceSub, Nat.reduceLeDiff, decide_true, decide_false, Bool.not_true, Bool.not_false, Bool.and_true, Bool.true_and, Bool.and_false, Bool.false_and, Int.cast_ofNat_Int, Int.reduceEq, Int.reduceNe, Int.reduceLT, Int.reduceLE, Int.reduceAdd, Int.reduceMul, Int.reduceSub, Int.reduceMod, Int.reduceDiv, Int.reduceNeg, isi_int, isi_nbool, isi_tup, oLe, oLt, oGt, oGe, iCmp, oAdd, oSub, iOp, noLocs, noLoc, oMod, oDiv, divOk, eq_self, true_or, or_true, or_false, false_or, and_true, true_and, and_false, false_and, el, isi_tup, len_tup, ne_int, ix0, ix1, isWhole, c1, c2, c3, c4]
    · rintro _ _ ⟨x, rfl, rfl⟩
      exact ⟨rfl, wp_of rfl rfl⟩
theorem count_nd {α : Type} [DecidableEq α] {a : α} : ∀ {l : List α}, l.Nodup → a ∈ l → l.count a = 1
  | [], _, h => by cases h
  | x :: l, nd, h => by
    rw [List.nodup_cons] at nd
    rw [List.count_cons]
    by_cases e : x = a
    · subst e
      rw [List.count_eq_zero.mpr nd.1]
      simp
    · have h2 : a ∈ l := by
        rcases List.mem_cons.mp h with z | z
        · exact absurd z.symm e
        · exact z
      rw [count_nd nd.2 h2]
      simp [e]
theorem fin_perm (f g : Fin n → Fin n) (h1 : ∀ i, g (f i) = i) (h2 : ∀ i, f (g i) = i) : ((List.finRange n).map f).Perm (List.finRange n) := by
  rw [List.perm_iff_count]
  intro a
  have e1 : List.count a (List.finRange n) = 1 := count_nd (List.nodup_finRange n) (List.mem_finRange a)
  have nd : ((List.finRange n).map f).Nodup := by
    refine List.Pairwise.map f (R := fun a b => a ≠ b) (S := fun a b => a ≠ b) (fun a b hab h => hab ?_) (List.nodup_finRange n)
    rw [← h1 a, h, h1]
  rw [e1]
  exact count_nd nd (List.mem_map.mpr ⟨g a, List.mem_finRange _, h2 a⟩)
theorem range_fin (n : Nat) : (List.finRange n).map (fun i => (i.val : Int)) = (List.range n).map fun i : Nat => (i : Int) := by
  apply List.ext_getElem
  · simp
  · intro i h1 h2
    simp
theorem rgD_fin (n : Nat) : rgD 0 (n : Int) = ((List.range n).map fun i : Nat => (i : Int)).map D.int := by
  unfold rgD
  rw [List.map_map, show ((n : Int) - 0).toNat = n by omega]
  apply List.map_congr_left
  intro i _
  show D.int _ = D.int _
  rw [Int.zero_add]
theorem range_up (n : Nat) : ((List.range n).map fun i : Nat => (i : Int)).Pairwise (· ≤ ·) :=
  List.Pairwise.map _ (R := fun a b : Nat => a < b) (fun a b h => by show (a : Int) ≤ (b : Int); omega) List.pairwise_lt_range
theorem pln_ints : ∀ ns : List Int, (ns.map D.int).all (pln 0) = true
  | [] => rfl
  | _ :: ns => by rw [List.map_cons, List.all_cons, pln_ints ns]; rfl
theorem isEachOnce (m : Mv n) (h1 : 1 ≤ n) (h8 : n ≤ 8) : f__is_each_once [enc m] = some (.ok (.bl true)) := by
  refine run_rt rfl rfl ?_
  unfold b__is_each_once
  show WP (mSeq _ _ [some (enc m), none] []) _
  refine wp_seq (wp_ifF (S1 := []) ?_ ⟨rfl, ?_⟩)
  · simp only [mSeq, mSet, mThen, mVar, mC, mOp, mUn, mChain, mB, mNot, mAnd, mOr, mOfB, mIf, mAndV, mOrV, mNil, mCons, mTup, mLst, mRet, mRetN, mIfS, mExpr, mSkip, mPat, mPar, mAug, mPut, mCB, mCall, mFz, mLoc, mBM, M.bind, M.ret, M.rd, M.ofR, List.getElem?_cons_zero, List.getElem?_cons_succ, List.set_cons_zero, List.set_cons_succ, asB, Pat.put, Pat.puts, Option.map_some, Option.bind_some, if_true, if_false, reduceIte, Bool.false_eq_true, Bool.true_eq_false, List.length_cons, List.length_nil, List.map_cons, List.map_nil, List.append_nil, List.nil_append, List.cons_append, List.replicate, Nat.reduceAdd, Nat.reduceSub, Nat.reduceLeDiff, decide_true, decide_false, Bool.not_true, Bool.not_false, Bool.and_true, Bool.true_and, Bool.and_false, Bool.false_and, Int.cast_ofNat_Int, Int.reduceEq, Int.reduceNe, Int.reduceLT, Int.reduceLE, Int.reduceAdd, Int.reduceMul, Int.reduceSub, Int.reduceMod, Int.reduceDiv, Int.reduceNeg, isi_int, isi_nbool, isi_tup, oLe, oLt, oGt, oGe, iCmp, oAdd, oSub, iOp, noLocs, noLoc, oMod, oDiv, divOk, eq_self, true_or, or_true, or_false, false_or, and_true, true_and, and_false, false_and, noLoc_enc, arePairs m h1 h8]
  · refine wp_of (o := .rt _) (σ := [some (enc m), none]) (S := []) ?_ rfl
    have e1 := lc_eq (σ := [some (enc m), none]) (S := []) (el m) (fun i => D.int ((m.to i).val : Int)) (List.finRange n) (vs := [1]) (p := .nm 1) (t := mYes) (ex := mOp ixO (mVar 1) (mC (.int 0))) (fi := mIter (mVar 0)) rfl (by rw [List.length_finRange]; exact line8 (by omega))
      fun i _ => ⟨[some (enc m), some (el m i)], rfl, rfl, rfl⟩
    have e2 : (List.finRange n).map (fun i => D.int ((m.to i).val : Int)) = ((List.finRange n).map fun i => ((m.to i).val : Int)).map D.int := by rw [List.map_map]; rfl
    rw [e2] at e1
    have e3 := o_sorted_ints (S := []) ((List.finRange n).map fun i => ((m.to i).val : Int)) (by rw [List.length_map, List.length_finRange]; exact line8 (by omega))
    have e4 : (((List.finRange n).map fun i => ((m.to i).val : Int)).mergeSort fun a b => decide (a ≤ b)) = (List.range n).map fun i : Nat => (i : Int) := by
      refine sort_eq_ints ?_ (range_up n)
      rw [← range_fin, show (fun i => ((m.to i).val : Int)) = (fun i : Fin n => (i.val : Int)) ∘ m.to from rfl, ← List.map_map]
      exact (fin_perm m.to m.fro m.tf m.ft).map _
    rw [e4] at e3
    have c1 : (-1000000 ≤ (n : Int)) ∧ ((n : Int) ≤ 1000000) := by omega
    simp only [mSeq, mSet, mThen, mVar, mC, mOp, mUn, mChain, mB, mNot, mAnd, mOr, mOfB, mIf, mAndV, mOrV, mNil, mCons, mTup, mLst, mRet, mRetN, mIfS, mExpr, mSkip, mPat, mPar, mAug, mPut, mCB, mCall, mFz, mLoc, mBM, M.bind, M.ret, M.rd, M.ofR, List.getElem?_cons_zero, List.getElem?_cons_succ, List.set_cons_zero, List.set_cons_succ, asB, Pat.put, Pat.puts, Option.map_some, Option.bind_some, if_true, if_false, reduceIte, Bool.false_eq_true, Bool.true_eq_false, List.length_cons, List.length_nil, List.map_cons, List.map_nil, List.append_nil, List.nil_append, List.cons_append, List.replicate, Nat.reduceAdd, Nat.reduceSub, Nat.reduceLeDiff, decide_true, decide_false, Bool.not_true, Bool.not_false, Bool.and_true, Bool.true_and, Bool.and_false, Bool.false_and, Int.cast_ofNat_Int, Int.reduceEq, Int.reduceNe, Int.reduceLT, Int.reduceLE, Int.reduceAdd, Int.reduceMul, Int.reduceSub, Int.reduceMod, Int.reduceDiv, Int.reduceNeg, isi_int, isi_nbool, isi_tup, oLe, oLt, oGt, oGe, iCmp, oAdd, oSub, iOp, noLocs, noLoc, oMod, oDiv, divOk, eq_self, true_or, or_true, or_false, false_or, and_true, true_and, and_false, false_and, e1, e3, mLstRg1, len_enc, if_pos c1, rgD_fin]
    rw [eq_pln 1 (show pln 1 (.lst _) = true from pln_ints _) (show pln 1 (.lst _) = true from pln_ints _)]
    simp
theorem isMove (m : Mv n) (h1 : 1 ≤ n) (h8 : n ≤ 8) : f_is_move [enc m] = some (.ok (.bl true)) := by
  refine run_rt rfl rfl (wp_of (o := .rt _) (σ := [some (enc m)]) (S := []) ?_ rfl)
  unfold b_is_move
  simp only [mSeq, mSet, mThen, mVar, mC, mOp, mUn, mChain, mB, mNot, mAnd, mOr, mOfB, mIf, mAndV, mOrV, mNil, mCons, mTup, mLst, mRet, mRetN, mIfS, mExpr, mSkip, mPat, mPar, mAug, mPut, mCB, mCall, mFz, mLoc, mBM, M.bind, M.ret, M.rd, M.ofR, List.getElem?_cons_zero, List.getElem?_cons_succ, List.set_cons_zero, List.set_cons_succ, asB, Pat.put, Pat.puts, Option.map_some, Option.bind_some, if_true, if_false, reduceIte, Bool.false_eq_true, Bool.true_eq_false, List.length_cons, List.length_nil, List.map_cons, List.map_nil, List.append_nil, List.nil_append, List.cons_append, List.replicate, Nat.reduceAdd, Nat.reduceSub, Nat.reduceLeDiff, decide_true, decide_false, Bool.not_true, Bool.not_false, Bool.and_true, Bool.true_and, Bool.and_false, Bool.false_and, Int.cast_ofNat_Int, Int.reduceEq, Int.reduceNe, Int.reduceLT, Int.reduceLE, Int.reduceAdd, Int.reduceMul, Int.reduceSub, Int.reduceMod, Int.reduceDiv, Int.reduceNeg, isi_int, isi_nbool, isi_tup, oLe, oLt, oGt, oGe, iCmp, oAdd, oSub, iOp, noLocs, noLoc, oMod, oDiv, divOk, eq_self, true_or, or_true, or_false, false_or, and_true, true_and, and_false, false_and, noLoc_enc, isEachOnce m h1 h8]
theorem isState (m : Mv n) (h1 : 1 ≤ n) (h8 : n ≤ 8) : f_is_state [enc m] = some (.ok (.bl true)) := by
  refine run_rt rfl rfl (wp_of (o := .rt _) (σ := [some (enc m)]) (S := []) ?_ rfl)
  unfold b_is_state
  simp only [mSeq, mSet, mThen, mVar, mC, mOp, mUn, mChain, mB, mNot, mAnd, mOr, mOfB, mIf, mAndV, mOrV, mNil, mCons, mTup, mLst, mRet, mRetN, mIfS, mExpr, mSkip, mPat, mPar, mAug, mPut, mCB, mCall, mFz, mLoc, mBM, M.bind, M.ret, M.rd, M.ofR, List.getElem?_cons_zero, List.getElem?_cons_succ, List.set_cons_zero, List.set_cons_succ, asB, Pat.put, Pat.puts, Option.map_some, Option.bind_some, if_true, if_false, reduceIte, Bool.false_eq_true, Bool.true_eq_false, List.length_cons, List.length_nil, List.map_cons, List.map_nil, List.append_nil, List.nil_append, List.cons_append, List.replicate, Nat.reduceAdd, Nat.reduceSub, Nat.reduceLeDiff, decide_true, decide_false, Bool.not_true, Bool.not_false, Bool.and_true, Bool.true_and, Bool.and_false, Bool.false_and, Int.cast_ofNat_Int, Int.reduceEq, Int.reduceNe, Int.reduceLT, Int.reduceLE, Int.reduceAdd, Int.reduceMul, Int.reduceSub, Int.reduceMod, Int.reduceDiv, Int.reduceNeg, isi_int, isi_nbool, isi_tup, oLe, oLt, oGt, oGe, iCmp, oAdd, oSub, iOp, noLocs, noLoc, oMod, oDiv, divOk, eq_self, true_or, or_true, or_false, false_or, and_true, true_and, and_false, false_and, noLoc_enc, isEachOnce m h1 h8]
theorem checkMove (m : Mv n) (h1 : 1 ≤ n) (h8 : n ≤ 8) : f_check_move [enc m] = some (.ok .non) := by
  refine run_nx rfl (wp_of (σ := [some (enc m)]) (S := []) ?_ rfl)
  unfold b_check_move
  simp only [mSeq, mSet, mThen, mVar, mC, mOp, mUn, mChain, mB, mNot, mAnd, mOr, mOfB, mIf, mAndV, mOrV, mNil, mCons, mTup, mLst, mRet, mRetN, mIfS, mExpr, mSkip, mPat, mPar, mAug, mPut, mCB, mCall, mFz, mLoc, mBM, M.bind, M.ret, M.rd, M.ofR, List.getElem?_cons_zero, List.getElem?_cons_succ, List.set_cons_zero, List.set_cons_succ, asB, Pat.put, Pat.puts, Option.map_some, Option.bind_some, if_true, if_false, reduceIte, Bool.false_eq_true, Bool.true_eq_false, List.length_cons, List.length_nil, List.map_cons, List.map_nil, List.append_nil, List.nil_append, List.cons_append, List.replicate, Nat.reduceAdd, Nat.reduceSub, Nat.reduceLeDiff, decide_true, decide_false, Bool.not_true, Bool.not_false, Bool.and_true, Bool.true_and, Bool.and_false, Bool.false_and, Int.cast_ofNat_Int, Int.reduceEq, Int.reduceNe, Int.reduceLT, Int.reduceLE, Int.reduceAdd, Int.reduceMul, Int.reduceSub, Int.reduceMod, Int.reduceDiv, Int.reduceNeg, isi_int, isi_nbool, isi_tup, oLe, oLt, oGt, oGe, iCmp, oAdd, oSub, iOp, noLocs, noLoc, oMod, oDiv, divOk, eq_self, true_or, or_true, or_false, false_or, and_true, true_and, and_false, false_and, noLoc_enc, isMove m h1 h8]
theorem checkState (m : Mv n) (h1 : 1 ≤ n) (h8 : n ≤ 8) : f_check_state [enc m] = some (.ok .non) := by
  refine run_nx rfl (wp_of (σ := [some (enc m)]) (S := []) ?_ rfl)
  unfold b_check_state
  simp only [mSeq, mSet, mThen, mVar, mC, mOp, mUn, mChain, mB, mNot, mAnd, mOr, mOfB, mIf, mAndV, mOrV, mNil, mCons, mTup, mLst, mRet, mRetN, mIfS, mExpr, mSkip, mPat, mPar, mAug, mPut, mCB, mCall, mFz, mLoc, mBM, M.bind, M.ret, M.rd, M.ofR, List.getElem?_cons_zero, List.getElem?_cons_succ, List.set_cons_zero, List.set_cons_succ, asB, Pat.put, Pat.puts, Option.map_some, Option.bind_some, if_true, if_false, reduceIte, Bool.false_eq_true, Bool.true_eq_false, List.length_cons, List.length_nil, List.map_cons, List.map_nil, List.append_nil, List.nil_append, List.cons_append, List.replicate, Nat.reduceAdd, Nat.reduceSub, Nat.reduceLeDiff, decide_true, decide_false, Bool.not_true, Bool.not_false, Bool.and_true, Bool.true_and, Bool.and_false, Bool.false_and, Int.cast_ofNat_Int, Int.reduceEq, Int.reduceNe, Int.reduceLT, Int.reduceLE, Int.reduceAdd, Int.reduceMul, Int.reduceSub, Int.reduceMod, Int.reduceDiv, Int.reduceNeg, isi_int, isi_nbool, isi_tup, oLe, oLt, oGt, oGe, iCmp, oAdd, oSub, iOp, noLocs, noLoc, oMod, oDiv, divOk, eq_self, true_or, or_true, or_false, false_or, and_true, true_and, and_false, false_and, noLoc_enc, isState m h1 h8]
theorem checkSame (a b : Mv n) : f_check_same [enc a, enc b] = some (.ok .non) := by
  refine run_nx rfl (wp_of (σ := [some (enc a), some (enc b)]) (S := []) ?_ rfl)
  unfold b_check_same
  simp only [mSeq, mSet, mThen, mVar, mC, mOp, mUn, mChain, mB, mNot, mAnd, mOr, mOfB, mIf, mAndV, mOrV, mNil, mCons, mTup, mLst, mRet, mRetN, mIfS, mExpr, mSkip, mPat, mPar, mAug, mPut, mCB, mCall, mFz, mLoc, mBM, M.bind, M.ret, M.rd, M.ofR, List.getElem?_cons_zero, List.getElem?_cons_succ, List.set_cons_zero, List.set_cons_succ, asB, Pat.put, Pat.puts, Option.map_some, Option.bind_some, if_true, if_false, reduceIte, Bool.false_eq_true, Bool.true_eq_false, List.length_cons, List.length_nil, List.map_cons, List.map_nil, List.append_nil, List.nil_append, List.cons_append, List.replicate, Nat.reduceAdd, Nat.reduceSub, Nat.reduceLeDiff, decide_true, decide_false, Bool.not_true, Bool.not_false, Bool.and_true, Bool.true_and, Bool.and_false, Bool.false_and, Int.cast_ofNat_Int, Int.reduceEq, Int.reduceNe, Int.reduceLT, Int.reduceLE, Int.reduceAdd, Int.reduceMul, Int.reduceSub, Int.reduceMod, Int.reduceDiv, Int.reduceNeg, isi_int, isi_nbool, isi_tup, oLe, oLt, oGt, oGe, iCmp, oAdd, oSub, iOp, noLocs, noLoc, oMod, oDiv, divOk, eq_self, true_or, or_true, or_false, false_or, and_true, true_and, and_false, false_and, noLoc_enc, len_enc, ne_int]
theorem stillMove (h8 : n ≤ 8) : f_still_move [.int (n : Int)] = some (.ok (enc (one n))) := by
  refine run_rt rfl (noLoc_enc _) (wp_of (o := .rt _) (σ := [some (.int (n : Int)), none]) (S := []) ?_ rfl)
  unfold b_still_move
  have c1 : (-1000000 ≤ (n : Int)) ∧ ((n : Int) ≤ 1000000) := by omega
  have e0 : rg1D (n : Int) = (List.finRange n).map fun i => D.int (i.val : Int) := by
    rw [show (fun i : Fin n => D.int (i.val : Int)) = D.int ∘ (fun i : Fin n => (i.val : Int)) from rfl, ← List.map_map, range_fin, ← rgD_fin]
    unfold rg1D rgD
    rw [show ((n : Int) - 0).toNat = (n : Int).toNat by omega]
  have e1 := lc_eq (σ := [some (.int (n : Int)), none]) (S := []) (fun i : Fin n => D.int (i.val : Int)) (el (one n)) (List.finRange n) (vs := [1]) (p := .nm 1) (t := mYes) (ex := mTup (mCons (mVar 1) (mCons (mC (.int 0)) mNil))) (fi := mRg1 (mVar 0))
    (by simp only [mSeq, mSet, mThen, mVar, mC, mOp, mUn, mChain, mB, mNot, mAnd, mOr, mOfB, mIf, mAndV, mOrV, mNil, mCons, mTup, mLst, mRet, mRetN, mIfS, mExpr, mSkip, mPat, mPar, mAug, mPut, mCB, mCall, mFz, mLoc, mBM, M.bind, M.ret, M.rd, M.ofR, List.getElem?_cons_zero, List.getElem?_cons_succ, List.set_cons_zero, List.set_cons_succ, asB, Pat.put, Pat.puts, Option.map_some, Option.bind_some, if_true, if_false, reduceIte, Bool.false_eq_true, Bool.true_eq_false, List.length_cons, List.length_nil, List.map_cons, List.map_nil, List.append_nil, List.nil_append, List.cons_append, List.replicate, Nat.reduceAdd, Nat.reduceSub, Nat.reduceLeDiff, decide_true, decide_false, Bool.not_true, Bool.not_false, Bool.and_true, Bool.true_and, Bool.and_false, Bool.false_and, Int.cast_ofNat_Int, Int.reduceEq, Int.reduceNe, Int.reduceLT, Int.reduceLE, Int.reduceAdd, Int.reduceMul, Int.reduceSub, Int.reduceMod, Int.reduceDiv, Int.reduceNeg, isi_int, isi_nbool, isi_tup, oLe, oLt, oGt, oGe, iCmp, oAdd, oSub, iOp, noLocs, noLoc, oMod, oDiv, divOk, eq_self, true_or, or_true, or_false, false_or, and_true, true_and, and_false, false_and, mRg1, if_pos c1, e0]) (by rw [List.length_finRange]; exact line8 (by omega)) fun i _ => ⟨[some (.int (n : Int)), some (.int (i.val : Int))], rfl, rfl, rfl⟩
  simp only [mSeq, mSet, mThen, mVar, mC, mOp, mUn, mChain, mB, mNot, mAnd, mOr, mOfB, mIf, mAndV, mOrV, mNil, mCons, mTup, mLst, mRet, mRetN, mIfS, mExpr, mSkip, mPat, mPar, mAug, mPut, mCB, mCall, mFz, mLoc, mBM, M.bind, M.ret, M.rd, M.ofR, List.getElem?_cons_zero, List.getElem?_cons_succ, List.set_cons_zero, List.set_cons_succ, asB, Pat.put, Pat.puts, Option.map_some, Option.bind_some, if_true, if_false, reduceIte, Bool.false_eq_true, Bool.true_eq_false, List.length_cons, List.length_nil, List.map_cons, List.map_nil, List.append_nil, List.nil_append, List.cons_append, List.replicate, Nat.reduceAdd, Nat.reduceSub, Nat.reduceLeDiff, decide_true, decide_false, Bool.not_true, Bool.not_false, Bool.and_true, Bool.true_and, Bool.and_false, Bool.false_and, Int.cast_ofNat_Int, Int.reduceEq, Int.reduceNe, Int.reduceLT, Int.reduceLE, Int.reduceAdd, Int.reduceMul, Int.reduceSub, Int.reduceMod, Int.reduceDiv, Int.reduceNeg, isi_int, isi_nbool, isi_tup, oLe, oLt, oGt, oGe, iCmp, oAdd, oSub, iOp, noLocs, noLoc, oMod, oDiv, divOk, eq_self, true_or, or_true, or_false, false_or, and_true, true_and, and_false, false_and, e1]
  rfl
theorem firstState (h1 : 1 ≤ n) (h8 : n ≤ 8) : f_first_state [.int (n : Int)] = some (.ok (enc (one n))) := by
  refine run_rt rfl (noLoc_enc _) (wp_of (o := .rt _) (σ := [some (.int (n : Int))]) (S := []) ?_ rfl)
  unfold b_first_state
  simp only [mSeq, mSet, mThen, mVar, mC, mOp, mUn, mChain, mB, mNot, mAnd, mOr, mOfB, mIf, mAndV, mOrV, mNil, mCons, mTup, mLst, mRet, mRetN, mIfS, mExpr, mSkip, mPat, mPar, mAug, mPut, mCB, mCall, mFz, mLoc, mBM, M.bind, M.ret, M.rd, M.ofR, List.getElem?_cons_zero, List.getElem?_cons_succ, List.set_cons_zero, List.set_cons_succ, asB, Pat.put, Pat.puts, Option.map_some, Option.bind_some, if_true, if_false, reduceIte, Bool.false_eq_true, Bool.true_eq_false, List.length_cons, List.length_nil, List.map_cons, List.map_nil, List.append_nil, List.nil_append, List.cons_append, List.replicate, Nat.reduceAdd, Nat.reduceSub, Nat.reduceLeDiff, decide_true, decide_false, Bool.not_true, Bool.not_false, Bool.and_true, Bool.true_and, Bool.and_false, Bool.false_and, Int.cast_ofNat_Int, Int.reduceEq, Int.reduceNe, Int.reduceLT, Int.reduceLE, Int.reduceAdd, Int.reduceMul, Int.reduceSub, Int.reduceMod, Int.reduceDiv, Int.reduceNeg, isi_int, isi_nbool, isi_tup, oLe, oLt, oGt, oGe, iCmp, oAdd, oSub, iOp, noLocs, noLoc, oMod, oDiv, divOk, eq_self, true_or, or_true, or_false, false_or, and_true, true_and, and_false, false_and, checkCount (n : Int) (by omega) (by omega), stillMove h8]
theorem still (h1 : 1 ≤ n) (h8 : n ≤ 8) : f_still [.int (n : Int)] = some (.ok (enc (one n))) := by
  refine run_rt rfl (noLoc_enc _) (wp_of (o := .rt _) (σ := [some (.int (n : Int))]) (S := []) ?_ rfl)
  unfold b_still
  simp only [mSeq, mSet, mThen, mVar, mC, mOp, mUn, mChain, mB, mNot, mAnd, mOr, mOfB, mIf, mAndV, mOrV, mNil, mCons, mTup, mLst, mRet, mRetN, mIfS, mExpr, mSkip, mPat, mPar, mAug, mPut, mCB, mCall, mFz, mLoc, mBM, M.bind, M.ret, M.rd, M.ofR, List.getElem?_cons_zero, List.getElem?_cons_succ, List.set_cons_zero, List.set_cons_succ, asB, Pat.put, Pat.puts, Option.map_some, Option.bind_some, if_true, if_false, reduceIte, Bool.false_eq_true, Bool.true_eq_false, List.length_cons, List.length_nil, List.map_cons, List.map_nil, List.append_nil, List.nil_append, List.cons_append, List.replicate, Nat.reduceAdd, Nat.reduceSub, Nat.reduceLeDiff, decide_true, decide_false, Bool.not_true, Bool.not_false, Bool.and_true, Bool.true_and, Bool.and_false, Bool.false_and, Int.cast_ofNat_Int, Int.reduceEq, Int.reduceNe, Int.reduceLT, Int.reduceLE, Int.reduceAdd, Int.reduceMul, Int.reduceSub, Int.reduceMod, Int.reduceDiv, Int.reduceNeg, isi_int, isi_nbool, isi_tup, oLe, oLt, oGt, oGe, iCmp, oAdd, oSub, iOp, noLocs, noLoc, oMod, oDiv, divOk, eq_self, true_or, or_true, or_false, false_or, and_true, true_and, and_false, false_and, checkCount (n : Int) (by omega) (by omega), stillMove h8]
end W3
end
section
set_option linter.all false
set_option maxRecDepth 100000
set_option maxHeartbeats 2000000
namespace W3
open Rw Mv
variable {n : Nat}
theorem twadd : ∀ x y : Fin 4, ((x.val : Int) + (y.val : Int)) % 4 = ((x + y : Fin 4).val : Int) := by decide
theorem twneg : ∀ x : Fin 4, ((0 : Int) - (x.val : Int)) % 4 = ((-x : Fin 4).val : Int) := by decide
theorem twsub : ∀ x y : Fin 4, ((x.val : Int) - (y.val : Int)) % 4 = ((x + -y : Fin 4).val : Int) := by decide
theorem isLst0 (ds : List D) : isLst [.lst ds] (.loc 0) = true := rfl
theorem append0 (ds : List D) (d : D) (h : ds.length ≤ LINE) : oAppend [.lst ds] (.loc 0) [d] = some (.non, [.lst (ds ++ [d])]) := by
  show (if ds.length ≤ LINE then some (D.non, [Cell.lst (ds ++ [d])]) else none) = _
  rw [if_pos h]
theorem done_le {l done rest : List (Fin n)} {x : Fin n} (h : List.finRange n = done ++ x :: rest) (h8 : n ≤ 8) : done.length ≤ 8 := by
  have := congrArg List.length h
  simp at this
  omega
theorem tuple0 (ds : List D) : oTuple [.lst ds] [.loc 0] = some (.tup ds) := rfl
theorem compose (a b : Mv n) (h8 : n ≤ 8) : f_compose [enc a, enc b] = some (.ok (enc (mul a b))) := by
  refine run_rt rfl (noLoc_enc _) ?_
  unfold b_compose
  show WP (mSeq _ _ [some (enc a), some (enc b), none, none, none, none, none] []) _
  refine wp_seq1 (σ1 := [some (enc a), some (enc b), some (.loc 0), none, none, none, none]) (S1 := [.lst []]) rfl ?_
  refine wp_seq (wp_for (el a) (List.finRange n) (fun done σ S => (∃ x3 x4 x5 x6, σ = [some (enc a), some (enc b), some (.loc 0), x3, x4, x5, x6]) ∧ S = [.lst (done.map (el (mul a b)))]) (S1 := [.lst []]) rfl ⟨⟨_, _, _, _, rfl⟩, rfl⟩ ?_ ?_)
  · rintro done i rest _ _ hl ⟨⟨x3, x4, x5, x6, rfl⟩, rfl⟩
    refine ⟨_, rfl, ?_⟩
    have hlen : (done.map (el (mul a b))).length ≤ LINE := by
      rw [List.length_map]
      exact line8 (by have := done_le (l := done) hl h8; omega)
    refine wp_of (o := .nx) (σ := [some (enc a), some (enc b), some (.loc 0), some (.int ((a.to i).val : Int)), some (.int ((a.tw i).val : Int)), some (.int ((b.to (a.to i)).val : Int)), some (.int ((b.tw (a.to i)).val : Int))])
      (S := [.lst (done.map (el (mul a b)) ++ [el (mul a b) i])]) ?_ ⟨.inl rfl, ⟨_, _, _, _, rfl⟩, by simp⟩
    have e : el b (a.to i) = .tup [.int ((b.to (a.to i)).val : Int), .int ((b.tw (a.to i)).val : Int)] := rfl
    have e2 : el (mul a b) i = .tup [.int ((b.to (a.to i)).val : Int), .int ((a.tw i + b.tw (a.to i) : Fin 4).val : Int)] := rfl
    simp only [mSeq, mSet, mThen, mVar, mC, mOp, mUn, mChain, mB, mNot, mAnd, mOr, mOfB, mIf, mAndV, mOrV, mNil, mCons, mTup, mLst, mRet, mRetN, mIfS, mExpr, mSkip, mPat, mPar, mAug, mPut, mCB, mCall, mFz, mLoc, mBM, M.bind, M.ret, M.rd, M.ofR, List.getElem?_cons_zero, List.getElem?_cons_succ, List.set_cons_zero, List.set_cons_succ, asB, Pat.put, Pat.puts, Option.map_some, Option.bind_some, if_true, if_false, reduceIte, Bool.false_eq_true, Bool.true_eq_false, List.length_cons, List.length_nil, List.map_cons, List.map_nil, List.append_nil, List.nil_append, List.cons_append, List.replicate, Nat.reduceAdd, Nat.reduceSub, Nat.reduceLeDiff, decide_true, decide_false, Bool.not_true, Bool.not_false, Bool.and_true, Bool.true_and, Bool.and_false, Bool.false_and, Int.cast_ofNat_Int, Int.reduceEq, Int.reduceNe, Int.reduceLT, Int.reduceLE, Int.reduceAdd, Int.reduceMul, Int.reduceSub, Int.reduceMod, Int.reduceDiv, Int.reduceNeg, isi_int, isi_nbool, isi_tup, oLe, oLt, oGt, oGe, iCmp, oAdd, oSub, iOp, noLocs, noLoc, oMod, oDiv, divOk, eq_self, true_or, or_true, or_false, false_or, and_true, true_and, and_false, false_and, ix_els, e, e2, twadd, isLst0, append0 _ _ hlen, line8]
  · rintro _ _ ⟨⟨x3, x4, x5, x6, rfl⟩, rfl⟩
    exact ⟨rfl, wp_of (o := .rt _) rfl rfl⟩
theorem both (a b : Mv n) (h1 : 1 ≤ n) (h8 : n ≤ 8) : f_both [enc a, enc b] = some (.ok (enc (mul a b))) := by
  refine run_rt rfl (noLoc_enc _) (wp_of (o := .rt _) (σ := [some (enc a), some (enc b)]) (S := []) ?_ rfl)
  unfold b_both
  simp only [mSeq, mSet, mThen, mVar, mC, mOp, mUn, mChain, mB, mNot, mAnd, mOr, mOfB, mIf, mAndV, mOrV, mNil, mCons, mTup, mLst, mRet, mRetN, mIfS, mExpr, mSkip, mPat, mPar, mAug, mPut, mCB, mCall, mFz, mLoc, mBM, M.bind, M.ret, M.rd, M.ofR, List.getElem?_cons_zero, List.getElem?_cons_succ, List.set_cons_zero, List.set_cons_succ, asB, Pat.put, Pat.puts, Option.map_some, Option.bind_some, if_true, if_false, reduceIte, Bool.false_eq_true, Bool.true_eq_false, List.length_cons, List.length_nil, List.map_cons, List.map_nil, List.append_nil, List.nil_append, List.cons_append, List.replicate, Nat.reduceAdd, Nat.reduceSub, Nat.reduceLeDiff, decide_true, decide_false, Bool.not_true, Bool.not_false, Bool.and_true, Bool.true_and, Bool.and_false, Bool.false_and, Int.cast_ofNat_Int, Int.reduceEq, Int.reduceNe, Int.reduceLT, Int.reduceLE, Int.reduceAdd, Int.reduceMul, Int.reduceSub, Int.reduceMod, Int.reduceDiv, Int.reduceNeg, isi_int, isi_nbool, isi_tup, oLe, oLt, oGt, oGe, iCmp, oAdd, oSub, iOp, noLocs, noLoc, oMod, oDiv, divOk, eq_self, true_or, or_true, or_false, false_or, and_true, true_and, and_false, false_and, noLoc_enc, checkMove _ h1 h8, checkSame, compose _ _ h8]
theorem map_set (f : Fin n → D) (k : Fin n) (d : D) : ((List.finRange n).map f).set k.val d = (List.finRange n).map fun j => if j = k then d else f j := by
  apply List.ext_getElem
  · simp
  · intro i h1 h2
    rw [List.getElem_set]
    simp only [List.getElem_map, List.getElem_finRange]
    by_cases e : k.val = i
    · have e2 : (⟨i, by simpa using h2⟩ : Fin n) = k := Fin.ext e.symm
      rw [if_pos e]
      simp [e2, ← e]
    · rw [if_neg e, if_neg]
      intro z
      exact e (by rw [← z]; simp)
theorem put_fin {ds : List D} (hn : ds.length = n) (k : Fin n) (d : D) : putO [.lst ds] (.loc 0) (.int (k.val : Int)) d = some [.lst (ds.set k.val d)] := by
  have h := k.isLt
  show (L2.ixN ds.length (k.val : Int)).map (fun j => [Cell.lst (ds.set j d)]) = _
  unfold L2.ixN
  rw [hn, if_pos (by omega), if_pos (by omega)]
  rfl
theorem flat_one (k : Nat) (d : D) : (List.replicate k [d]).flatten = List.replicate k d := by
  induction k with
  | zero => rfl
  | succ k ih => rw [List.replicate_succ, List.flatten_cons, ih]; rfl
theorem none_fin (n : Nat) : (List.finRange n).map (fun _ => D.non) = List.replicate n D.non := by
  apply List.ext_getElem
  · simp
  · intro i h1 h2
    simp
/-- places filled so far -/
def fill (g : Fin n → Fin n) (v : Fin n → D) (done : List (Fin n)) : List D := (List.finRange n).map fun j => if g j ∈ done then v j else .non
theorem fill_length (g : Fin n → Fin n) (v : Fin n → D) (done : List (Fin n)) : (fill g v done).length = n := by unfold fill; simp
theorem fill_nil (g : Fin n → Fin n) (v : Fin n → D) : fill g v [] = List.replicate n D.non := by
  unfold fill
  rw [← none_fin]
  apply List.map_congr_left
  intro j _
  simp
theorem fill_step (a : Mv n) (v : Fin n → D) (done : List (Fin n)) (i : Fin n) : (fill a.fro v done).set (a.to i).val (v (a.to i)) = fill a.fro v (done ++ [i]) := by
  unfold fill
  rw [map_set]
  apply List.map_congr_left
  intro j _
  by_cases e : j = a.to i
  · subst e
    simp [a.tf]
  · have e2 : a.fro j ≠ i := fun z => e (by rw [← z, a.ft])
    rw [if_neg e]
    simp [e2]
theorem fill_all (g : Fin n → Fin n) (v : Fin n → D) : fill g v (List.finRange n) = (List.finRange n).map v := by
  unfold fill
  apply List.map_congr_left
  intro j _
  rw [if_pos (List.mem_finRange _)]
theorem enum_fin (f : Fin n → D) : enumD 0 ((List.finRange n).map f) = (List.finRange n).map fun i => D.tup [.int (i.val : Int), f i] := by
  apply List.ext_getElem?
  intro i
  by_cases h : i < n
  · have h1 : i < (enumD 0 ((List.finRange n).map f)).length := by rw [enumD_length]; simpa using h
    obtain ⟨x, h2, h3⟩ := enumD_get (List.getElem?_eq_getElem h1)
    rw [List.getElem?_eq_getElem h1, h3]
    rw [List.getElem?_map] at h2 ⊢
    simp [h] at h2 ⊢
    exact h2.symm
  · rw [List.getElem?_eq_none (by rw [enumD_length]; simp; omega), List.getElem?_eq_none (by simp; omega)]
theorem rep_none (k : Nat) (h8 : k ≤ 8) (σ : Sl) (m : Mv k) (j : Nat) (hj : σ[j]? = some (some (enc m))) : mLoc (mRepeat (mFz (mLst (mCons (mC .non) mNil))) (mCB oLen (mCons (mVar j) mNil))) σ [] = some (.ok (.loc 0), [.lst (List.replicate k D.non)]) := by
  have c1 : -1000000 ≤ (k : Int) ∧ (k : Int) ≤ 1000000 ∧ 1 * k ≤ LINE := ⟨by omega, by omega, line8 (by omega)⟩
  simp only [mSeq, mSet, mThen, mVar, mC, mOp, mUn, mChain, mB, mNot, mAnd, mOr, mOfB, mIf, mAndV, mOrV, mNil, mCons, mTup, mLst, mRet, mRetN, mIfS, mExpr, mSkip, mPat, mPar, mAug, mPut, mCB, mCall, mFz, mLoc, mBM, M.bind, M.ret, M.rd, M.ofR, List.getElem?_cons_zero, List.getElem?_cons_succ, List.set_cons_zero, List.set_cons_succ, asB, Pat.put, Pat.puts, Option.map_some, Option.bind_some, if_true, if_false, reduceIte, Bool.false_eq_true, Bool.true_eq_false, List.length_cons, List.length_nil, List.map_cons, List.map_nil, List.append_nil, List.nil_append, List.cons_append, List.replicate, Nat.reduceAdd, Nat.reduceSub, Nat.reduceLeDiff, decide_true, decide_false, Bool.not_true, Bool.not_false, Bool.and_true, Bool.true_and, Bool.and_false, Bool.false_and, Int.cast_ofNat_Int, Int.reduceEq, Int.reduceNe, Int.reduceLT, Int.reduceLE, Int.reduceAdd, Int.reduceMul, Int.reduceSub, Int.reduceMod, Int.reduceDiv, Int.reduceNeg, isi_int, isi_nbool, isi_tup, oLe, oLt, oGt, oGe, iCmp, oAdd, oSub, iOp, noLocs, noLoc, oMod, oDiv, divOk, eq_self, true_or, or_true, or_false, false_or, and_true, true_and, and_false, false_and, hj, len_enc, mRepeat, flat_one, Int.toNat_natCast, if_pos c1, line8, show (1 : Nat) ≤ LINE from by decide, Nat.zero_add]
theorem inverse (a : Mv n) (h8 : n ≤ 8) : f_inverse [enc a] = some (.ok (enc (inv a))) := by
  refine run_rt rfl (noLoc_enc _) ?_
  unfold b_inverse
  show WP (mSeq _ _ [some (enc a), none, none, none, none] []) _
  refine wp_seq1 (σ1 := [some (enc a), some (.loc 0), none, none, none]) (S1 := [.lst (List.replicate n D.non)]) (by unfold mSet mThen; rw [rep_none n h8 _ a 0 rfl]; rfl) ?_
  refine wp_seq (wp_for (fun i => D.tup [.int (i.val : Int), el a i]) (List.finRange n) (fun done σ S => (∃ x2 x3 x4, σ = [some (enc a), some (.loc 0), x2, x3, x4]) ∧ S = [.lst (fill a.fro (el (inv a)) done)]) (S1 := [.lst (List.replicate n D.non)]) ?_ ⟨⟨_, _, _, rfl⟩, by rw [fill_nil]⟩ ?_ ?_)
  · have : frzSeq (enc a) = some (els a) := rfl
    simp only [mSeq, mSet, mThen, mVar, mC, mOp, mUn, mChain, mB, mNot, mAnd, mOr, mOfB, mIf, mAndV, mOrV, mNil, mCons, mTup, mLst, mRet, mRetN, mIfS, mExpr, mSkip, mPat, mPar, mAug, mPut, mCB, mCall, mFz, mLoc, mBM, M.bind, M.ret, M.rd, M.ofR, List.getElem?_cons_zero, List.getElem?_cons_succ, List.set_cons_zero, List.set_cons_succ, asB, Pat.put, Pat.puts, Option.map_some, Option.bind_some, if_true, if_false, reduceIte, Bool.false_eq_true, Bool.true_eq_false, List.length_cons, List.length_nil, List.map_cons, List.map_nil, List.append_nil, List.nil_append, List.cons_append, List.replicate, Nat.reduceAdd, Nat.reduceSub, Nat.reduceLeDiff, decide_true, decide_false, Bool.not_true, Bool.not_false, Bool.and_true, Bool.true_and, Bool.and_false, Bool.false_and, Int.cast_ofNat_Int, Int.reduceEq, Int.reduceNe, Int.reduceLT, Int.reduceLE, Int.reduceAdd, Int.reduceMul, Int.reduceSub, Int.reduceMod, Int.reduceDiv, Int.reduceNeg, isi_int, isi_nbool, isi_tup, oLe, oLt, oGt, oGe, iCmp, oAdd, oSub, iOp, noLocs, noLoc, oMod, oDiv, divOk, eq_self, true_or, or_true, or_false, false_or, and_true, true_and, and_false, false_and, mEn, this, els, enum_fin]
  · rintro done i rest _ _ hl ⟨⟨x2, x3, x4, rfl⟩, rfl⟩
    refine ⟨_, rfl, ?_⟩
    refine wp_of (o := .nx) (σ := [some (enc a), some (.loc 0), some (.int (i.val : Int)), some (.int ((a.to i).val : Int)), some (.int ((a.tw i).val : Int))])
      (S := [.lst (fill a.fro (el (inv a)) (done ++ [i]))]) ?_ ⟨.inl rfl, ⟨_, _, _, rfl⟩, rfl⟩
    have e2 : el (inv a) (a.to i) = .tup [.int (i.val : Int), .int ((-(a.tw i) : Fin 4).val : Int)] := by
      show D.tup [.int ((a.fro (a.to i)).val : Int), .int ((-(a.tw (a.fro (a.to i))) : Fin 4).val : Int)] = _
      rw [a.tf]
    rw [← fill_step, e2]
    simp only [mSeq, mSet, mThen, mVar, mC, mOp, mUn, mChain, mB, mNot, mAnd, mOr, mOfB, mIf, mAndV, mOrV, mNil, mCons, mTup, mLst, mRet, mRetN, mIfS, mExpr, mSkip, mPat, mPar, mAug, mPut, mCB, mCall, mFz, mLoc, mBM, M.bind, M.ret, M.rd, M.ofR, List.getElem?_cons_zero, List.getElem?_cons_succ, List.set_cons_zero, List.set_cons_succ, asB, Pat.put, Pat.puts, Option.map_some, Option.bind_some, if_true, if_false, reduceIte, Bool.false_eq_true, Bool.true_eq_false, List.length_cons, List.length_nil, List.map_cons, List.map_nil, List.append_nil, List.nil_append, List.cons_append, List.replicate, Nat.reduceAdd, Nat.reduceSub, Nat.reduceLeDiff, decide_true, decide_false, Bool.not_true, Bool.not_false, Bool.and_true, Bool.true_and, Bool.and_false, Bool.false_and, Int.cast_ofNat_Int, Int.reduceEq, Int.reduceNe, Int.reduceLT, Int.reduceLE, Int.reduceAdd, Int.reduceMul, Int.reduceSub, Int.reduceMod, Int.reduceDiv, Int.reduceNeg, isi_int, isi_nbool, isi_tup, oLe, oLt, oGt, oGe, iCmp, oAdd, oSub, iOp, noLocs, noLoc, oMod, oDiv, divOk, eq_self, true_or, or_true, or_false, false_or, and_true, true_and, and_false, false_and, twneg, put_fin (fill_length _ _ _), line8, show (2 : Nat) ≤ LINE from by decide]
  · rintro _ _ ⟨⟨x2, x3, x4, rfl⟩, rfl⟩
    refine ⟨rfl, wp_of (o := .rt (enc (inv a))) (σ := [some (enc a), some (.loc 0), x2, x3, x4]) (S := [.lst (fill a.fro (el (inv a)) (List.finRange n))]) ?_ rfl⟩
    simp only [mSeq, mSet, mThen, mVar, mC, mOp, mUn, mChain, mB, mNot, mAnd, mOr, mOfB, mIf, mAndV, mOrV, mNil, mCons, mTup, mLst, mRet, mRetN, mIfS, mExpr, mSkip, mPat, mPar, mAug, mPut, mCB, mCall, mFz, mLoc, mBM, M.bind, M.ret, M.rd, M.ofR, List.getElem?_cons_zero, List.getElem?_cons_succ, List.set_cons_zero, List.set_cons_succ, asB, Pat.put, Pat.puts, Option.map_some, Option.bind_some, if_true, if_false, reduceIte, Bool.false_eq_true, Bool.true_eq_false, List.length_cons, List.length_nil, List.map_cons, List.map_nil, List.append_nil, List.nil_append, List.cons_append, List.replicate, Nat.reduceAdd, Nat.reduceSub, Nat.reduceLeDiff, decide_true, decide_false, Bool.not_true, Bool.not_false, Bool.and_true, Bool.true_and, Bool.and_false, Bool.false_and, Int.cast_ofNat_Int, Int.reduceEq, Int.reduceNe, Int.reduceLT, Int.reduceLE, Int.reduceAdd, Int.reduceMul, Int.reduceSub, Int.reduceMod, Int.reduceDiv, Int.reduceNeg, isi_int, isi_nbool, isi_tup, oLe, oLt, oGt, oGe, iCmp, oAdd, oSub, iOp, noLocs, noLoc, oMod, oDiv, divOk, eq_self, true_or, or_true, or_false, false_or, and_true, true_and, and_false, false_and, tuple0, fill_all]
    rfl
theorem undoing (a : Mv n) (h1 : 1 ≤ n) (h8 : n ≤ 8) : f_undoing [enc a] = some (.ok (enc (inv a))) := by
  refine run_rt rfl (noLoc_enc _) (wp_of (o := .rt _) (σ := [some (enc a)]) (S := []) ?_ rfl)
  unfold b_undoing
  simp only [mSeq, mSet, mThen, mVar, mC, mOp, mUn, mChain, mB, mNot, mAnd, mOr, mOfB, mIf, mAndV, mOrV, mNil, mCons, mTup, mLst, mRet, mRetN, mIfS, mExpr, mSkip, mPat, mPar, mAug, mPut, mCB, mCall, mFz, mLoc, mBM, M.bind, M.ret, M.rd, M.ofR, List.getElem?_cons_zero, List.getElem?_cons_succ, List.set_cons_zero, List.set_cons_succ, asB, Pat.put, Pat.puts, Option.map_some, Option.bind_some, if_true, if_false, reduceIte, Bool.false_eq_true, Bool.true_eq_false, List.length_cons, List.length_nil, List.map_cons, List.map_nil, List.append_nil, List.nil_append, List.cons_append, List.replicate, Nat.reduceAdd, Nat.reduceSub, Nat.reduceLeDiff, decide_true, decide_false, Bool.not_true, Bool.not_false, Bool.and_true, Bool.true_and, Bool.and_false, Bool.false_and, Int.cast_ofNat_Int, Int.reduceEq, Int.reduceNe, Int.reduceLT, Int.reduceLE, Int.reduceAdd, Int.reduceMul, Int.reduceSub, Int.reduceMod, Int.reduceDiv, Int.reduceNeg, isi_int, isi_nbool, isi_tup, oLe, oLt, oGt, oGe, iCmp, oAdd, oSub, iOp, noLocs, noLoc, oMod, oDiv, divOk, eq_self, true_or, or_true, or_false, false_or, and_true, true_and, and_false, false_and, noLoc_enc, checkMove _ h1 h8, inverse _ h8]
theorem zip_fin (f g : Fin n → D) : zipD ((List.finRange n).map f) ((List.finRange n).map g) = (List.finRange n).map fun i => D.tup [f i, g i] := by
  unfold zipD
  rw [List.zip_map', List.map_map]
  rfl
theorem apply (s m : Mv n) (h8 : n ≤ 8) : f_apply [enc s, enc m] = some (.ok (enc (mul (conv m) s))) := by
  refine run_rt rfl (noLoc_enc _) ?_
  unfold b_apply
  show WP (mSeq _ _ [some (enc s), some (enc m), none, none, none, none, none] []) _
  refine wp_seq1 (σ1 := [some (enc s), some (enc m), some (.loc 0), none, none, none, none]) (S1 := [.lst (List.replicate n D.non)]) (by unfold mSet mThen; rw [rep_none n h8 _ s 0 rfl]; rfl) ?_
  refine wp_seq (wp_for (fun i => D.tup [el s i, el m i]) (List.finRange n) (fun done σ S => (∃ x3 x4 x5 x6, σ = [some (enc s), some (enc m), some (.loc 0), x3, x4, x5, x6]) ∧ S = [.lst (fill m.fro (el (mul (conv m) s)) done)]) (S1 := [.lst (List.replicate n D.non)]) ?_ ⟨⟨_, _, _, _, rfl⟩, by rw [fill_nil]⟩ ?_ ?_)
  · simp only [mSeq, mSet, mThen, mVar, mC, mOp, mUn, mChain, mB, mNot, mAnd, mOr, mOfB, mIf, mAndV, mOrV, mNil, mCons, mTup, mLst, mRet, mRetN, mIfS, mExpr, mSkip, mPat, mPar, mAug, mPut, mCB, mCall, mFz, mLoc, mBM, M.bind, M.ret, M.rd, M.ofR, List.getElem?_cons_zero, List.getElem?_cons_succ, List.set_cons_zero, List.set_cons_succ, asB, Pat.put, Pat.puts, Option.map_some, Option.bind_some, if_true, if_false, reduceIte, Bool.false_eq_true, Bool.true_eq_false, List.length_cons, List.length_nil, List.map_cons, List.map_nil, List.append_nil, List.nil_append, List.cons_append, List.replicate, Nat.reduceAdd, Nat.reduceSub, Nat.reduceLeDiff, decide_true, decide_false, Bool.not_true, Bool.not_false, Bool.and_true, Bool.true_and, Bool.and_false, Bool.false_and, Int.cast_ofNat_Int, Int.reduceEq, Int.reduceNe, Int.reduceLT, Int.reduceLE, Int.reduceAdd, Int.reduceMul, Int.reduceSub, Int.reduceMod, Int.reduceDiv, Int.reduceNeg, isi_int, isi_nbool, isi_tup, oLe, oLt, oGt, oGe, iCmp, oAdd, oSub, iOp, noLocs, noLoc, oMod, oDiv, divOk, eq_self, true_or, or_true, or_false, false_or, and_true, true_and, and_false, false_and, mZip, enc, els, zip_fin]
  · rintro done i rest _ _ hl ⟨⟨x3, x4, x5, x6, rfl⟩, rfl⟩
    refine ⟨_, rfl, ?_⟩
    refine wp_of (o := .nx) (σ := [some (enc s), some (enc m), some (.loc 0), some (.int ((s.to i).val : Int)), some (.int ((s.tw i).val : Int)), some (.int ((m.to i).val : Int)), some (.int ((m.tw i).val : Int))])
      (S := [.lst (fill m.fro (el (mul (conv m) s)) (done ++ [i]))]) ?_ ⟨.inl rfl, ⟨_, _, _, _, rfl⟩, rfl⟩
    have e2 : el (mul (conv m) s) (m.to i) = .tup [.int ((s.to i).val : Int), .int ((s.tw i + m.tw i : Fin 4).val : Int)] := by
      show D.tup [.int ((s.to (m.fro (m.to i))).val : Int), .int ((m.tw (m.fro (m.to i)) + s.tw (m.fro (m.to i)) : Fin 4).val : Int)] = _
      rw [m.tf, f4_comm]
    rw [← fill_step, e2]
    simp only [mSeq, mSet, mThen, mVar, mC, mOp, mUn, mChain, mB, mNot, mAnd, mOr, mOfB, mIf, mAndV, mOrV, mNil, mCons, mTup, mLst, mRet, mRetN, mIfS, mExpr, mSkip, mPat, mPar, mAug, mPut, mCB, mCall, mFz, mLoc, mBM, M.bind, M.ret, M.rd, M.ofR, List.getElem?_cons_zero, List.getElem?_cons_succ, List.set_cons_zero, List.set_cons_succ, asB, Pat.put, Pat.puts, Option.map_some, Option.bind_some, if_true, if_false, reduceIte, Bool.false_eq_true, Bool.true_eq_false, List.length_cons, List.length_nil, List.map_cons, List.map_nil, List.append_nil, List.nil_append, List.cons_append, List.replicate, Nat.reduceAdd, Nat.reduceSub, Nat.reduceLeDiff, decide_true, decide_false, Bool.not_true, Bool.not_false, Bool.and_true, Bool.true_and, Bool.and_false, Bool.false_and, Int.cast_ofNat_Int, Int.reduceEq, Int.reduceNe, Int.reduceLT, Int.reduceLE, Int.reduceAdd, Int.reduceMul, Int.reduceSub, Int.reduceMod, Int.reduceDiv, Int.reduceNeg, isi_int, isi_nbool, isi_tup, oLe, oLt, oGt, oGe, iCmp, oAdd, oSub, iOp, noLocs, noLoc, oMod, oDiv, divOk, eq_self, true_or, or_true, or_false, false_or, and_true, true_and, and_false, false_and, twadd, put_fin (fill_length _ _ _), line8, show (2 : Nat) ≤ LINE from by decide]
  · rintro _ _ ⟨⟨x3, x4, x5, x6, rfl⟩, rfl⟩
    refine ⟨rfl, wp_of (o := .rt (enc (mul (conv m) s))) (σ := [some (enc s), some (enc m), some (.loc 0), x3, x4, x5, x6]) (S := [.lst (fill m.fro (el (mul (conv m) s)) (List.finRange n))]) ?_ rfl⟩
    simp only [mSeq, mSet, mThen, mVar, mC, mOp, mUn, mChain, mB, mNot, mAnd, mOr, mOfB, mIf, mAndV, mOrV, mNil, mCons, mTup, mLst, mRet, mRetN, mIfS, mExpr, mSkip, mPat, mPar, mAug, mPut, mCB, mCall, mFz, mLoc, mBM, M.bind, M.ret, M.rd, M.ofR, List.getElem?_cons_zero, List.getElem?_cons_succ, List.set_cons_zero, List.set_cons_succ, asB, Pat.put, Pat.puts, Option.map_some, Option.bind_some, if_true, if_false, reduceIte, Bool.false_eq_true, Bool.true_eq_false, List.length_cons, List.length_nil, List.map_cons, List.map_nil, List.append_nil, List.nil_append, List.cons_append, List.replicate, Nat.reduceAdd, Nat.reduceSub, Nat.reduceLeDiff, decide_true, decide_false, Bool.not_true, Bool.not_false, Bool.and_true, Bool.true_and, Bool.and_false, Bool.false_and, Int.cast_ofNat_Int, Int.reduceEq, Int.reduceNe, Int.reduceLT, Int.reduceLE, Int.reduceAdd, Int.reduceMul, Int.reduceSub, Int.reduceMod, Int.reduceDiv, Int.reduceNeg, isi_int, isi_nbool, isi_tup, oLe, oLt, oGt, oGe, iCmp, oAdd, oSub, iOp, noLocs, noLoc, oMod, oDiv, divOk, eq_self, true_or, or_true, or_false, false_or, and_true, true_and, and_false, false_and, tuple0, fill_all]
    rfl
theorem moved (s m : Mv n) (h1 : 1 ≤ n) (h8 : n ≤ 8) : f_moved [enc s, enc m] = some (.ok (enc (mul (conv m) s))) := by
  refine run_rt rfl (noLoc_enc _) (wp_of (o := .rt _) (σ := [some (enc s), some (enc m)]) (S := []) ?_ rfl)
  unfold b_moved
  simp only [mSeq, mSet, mThen, mVar, mC, mOp, mUn, mChain, mB, mNot, mAnd, mOr, mOfB, mIf, mAndV, mOrV, mNil, mCons, mTup, mLst, mRet, mRetN, mIfS, mExpr, mSkip, mPat, mPar, mAug, mPut, mCB, mCall, mFz, mLoc, mBM, M.bind, M.ret, M.rd, M.ofR, List.getElem?_cons_zero, List.getElem?_cons_succ, List.set_cons_zero, List.set_cons_succ, asB, Pat.put, Pat.puts, Option.map_some, Option.bind_some, if_true, if_false, reduceIte, Bool.false_eq_true, Bool.true_eq_false, List.length_cons, List.length_nil, List.map_cons, List.map_nil, List.append_nil, List.nil_append, List.cons_append, List.replicate, Nat.reduceAdd, Nat.reduceSub, Nat.reduceLeDiff, decide_true, decide_false, Bool.not_true, Bool.not_false, Bool.and_true, Bool.true_and, Bool.and_false, Bool.false_and, Int.cast_ofNat_Int, Int.reduceEq, Int.reduceNe, Int.reduceLT, Int.reduceLE, Int.reduceAdd, Int.reduceMul, Int.reduceSub, Int.reduceMod, Int.reduceDiv, Int.reduceNeg, isi_int, isi_nbool, isi_tup, oLe, oLt, oGt, oGe, iCmp, oAdd, oSub, iOp, noLocs, noLoc, oMod, oDiv, divOk, eq_self, true_or, or_true, or_false, false_or, and_true, true_and, and_false, false_and, noLoc_enc, checkMove _ h1 h8, checkState _ h1 h8, checkSame, apply _ _ h8]
end W3
end
section
set_option linter.all false
set_option maxRecDepth 100000
set_option maxHeartbeats 2000000
namespace W3
open Rw Mv
variable {n : Nat}
theorem dPut_new (kvs : List (D × D)) (k d : D) (h : ∀ p ∈ kvs, p.1 ≠ k) : dPut kvs k d = kvs ++ [(k, d)] := by
  unfold dPut
  rw [if_neg]
  rw [List.any_eq_true]
  rintro ⟨p, hp, e⟩
  exact h p hp (of_decide_eq_true e)
theorem loopDc_eq {α : Type} {σ : Sl} {S : List Cell} (e kv vv : α → D) {p : Pat} {t : Sl → M Bool} {k ex : Sl → M D} : ∀ (l : List α) (acc : List (D × D)), (∀ x ∈ l, ∃ σ1, p.put (e x) σ = some σ1 ∧ t σ1 S = some (.ok true, S) ∧ k σ1 S = some (.ok (kv x), S) ∧ ex σ1 S = some (.ok (vv x), S) ∧ (keyD (kv x)).isSome = true) →
    (∀ p ∈ acc, ∀ x ∈ l, p.1 ≠ kv x) → l.Pairwise (fun x y => kv x ≠ kv y) → loopDc p t k ex (l.map e) σ acc S = some (acc ++ l.map fun x => (kv x, vv x), S)
  | [], acc, _, _, _ => by rw [List.map_nil, loopDc, List.map_nil, List.append_nil]
  | x :: l, acc, h, h2, h3 => by
    obtain ⟨σ1, a1, a2, a3, a4, a5⟩ := h x List.mem_cons_self
    rw [List.pairwise_cons] at h3
    rw [List.map_cons, loopDc, a1]
    dsimp only
    rw [a2]
    dsimp only
    rw [a3]
    dsimp only
    rw [a4]
    dsimp only
    rw [if_pos a5, dPut_new _ _ _ fun p hp => h2 p hp x List.mem_cons_self,
      loopDc_eq e kv vv l _ (fun y hy => h y (List.mem_cons_of_mem _ hy)) (fun p hp y hy => ?_) h3.2, List.map_cons, List.append_assoc]
    · rfl
    · rcases List.mem_append.mp hp with hp | hp
      · exact h2 p hp y (List.mem_cons_of_mem _ hy)
      · have : p = (kv x, vv x) := by simpa using hp
        rw [this]
        exact h3.1 y hy
theorem dc_eq {α : Type} {σ : Sl} {S : List Cell} (e kv vv : α → D) (l : List α) {vs : List Nat} {p : Pat} {t : Sl → M Bool} {k ex : Sl → M D} {fi : Sl → M (List D)} (hi : fi σ S = some (.ok (l.map e), S)) (hl : l.length ≤ LINE)
    (step : ∀ x ∈ l, ∃ σ1, p.put (e x) (wipeD σ vs) = some σ1 ∧ t σ1 S = some (.ok true, S) ∧ k σ1 S = some (.ok (kv x), S) ∧ ex σ1 S = some (.ok (vv x), S) ∧ (keyD (kv x)).isSome = true)
    (hd : l.Pairwise (fun x y => kv x ≠ kv y)) : mDc vs p t k ex fi σ S = some (.ok (.k, l.map fun x => (kv x, vv x)), S) := by
  unfold mDc M.bind
  rw [hi]
  dsimp only
  rw [List.length_map, if_pos hl, loopDc_eq e kv vv l [] step (fun p hp => by cases hp) hd]
  rfl
theorem dGet_map {α : Type} (kv vv : α → D) (x : α) : ∀ l : List α, x ∈ l → (∀ y ∈ l, kv y = kv x → y = x) → dGet (l.map fun y => (kv y, vv y)) (kv x) = some (vv x)
  | [], h, _ => by cases h
  | y :: l, h, hu => by
    unfold dGet
    rw [List.map_cons, List.find?_cons]
    by_cases e : kv y = kv x
    · have := hu y List.mem_cons_self e
      subst this
      simp
    · have h2 : x ∈ l := by
        rcases List.mem_cons.mp h with z | z
        · subst z; exact absurd rfl e
        · exact z
      have := dGet_map kv vv x l h2 fun z hz => hu z (List.mem_cons_of_mem _ hz)
      unfold dGet at this
      simp only [decide_eq_false e]
      exact this
def plc (o : Mv n) : List (D × D) := (List.finRange n).map fun i => (D.int ((o.to i).val : Int), D.tup [.int (i.val : Int), .int ((o.tw i).val : Int)])
theorem ix_plc (o : Mv n) (j : Fin n) (S : List Cell) : ixO S (.dct .k (plc o)) (.int (j.val : Int)) = some (.tup [.int ((o.fro j).val : Int), .int ((o.tw (o.fro j)).val : Int)]) := by
  show dGet (plc o) (.int (j.val : Int)) = _
  have h := dGet_map (fun i : Fin n => D.int ((o.to i).val : Int)) (fun i => D.tup [.int (i.val : Int), .int ((o.tw i).val : Int)]) (o.fro j) (List.finRange n) (List.mem_finRange _) fun y _ e => by
    have e2 : ((o.to y).val : Int) = ((o.to (o.fro j)).val : Int) := D.int.inj e
    exact o.inj (Fin.ext (by omega))
  rw [o.ft] at h
  exact h
theorem between (s o : Mv n) (h1 : 1 ≤ n) (h8 : n ≤ 8) : f_between [enc s, enc o] = some (.ok (enc (conv (mul o (inv s))))) := by
  refine run_rt rfl (noLoc_enc _) ?_
  unfold b_between
  show WP (mSeq _ _ [some (enc s), some (enc o), none, none, none, none, none, none] []) _
  refine wp_seq1 (σ1 := [some (enc s), some (enc o), none, none, none, none, none, none]) (S1 := []) (by simp only [mSeq, mSet, mThen, mVar, mC, mOp, mUn, mChain, mB, mNot, mAnd, mOr, mOfB, mIf, mAndV, mOrV, mNil, mCons, mTup, mLst, mRet, mRetN, mIfS, mExpr, mSkip, mPat, mPar, mAug, mPut, mCB, mCall, mFz, mLoc, mBM, M.bind, M.ret, M.rd, M.ofR, List.getElem?_cons_zero, List.getElem?_cons_succ, List.set_cons_zero, List.set_cons_succ, asB, Pat.put, Pat.puts, Option.map_some, Option.bind_some, if_true, if_false, reduceIte, Bool.false_eq_true, Bool.true_eq_false, List.length_cons, List.length_nil, List.map_cons, List.map_nil, List.append_nil, List.nil_append, List.cons_append, List.replicate, Nat.reduceAdd, Nat.reduceSub, Nat.reduceLeDiff, decide_true, decide_false, Bool.not_true, Bool.not_false, Bool.and_true, Bool.true_and, Bool.and_false, Bool.false_and, Int.cast_ofNat_Int, Int.reduceEq, Int.reduceNe, Int.reduceLT, Int.reduceLE, Int.reduceAdd, Int.reduceMul, Int.reduceSub, Int.reduceMod, Int.reduceDiv, Int.reduceNeg, isi_int, isi_nbool, isi_tup, oLe, oLt, oGt, oGe, iCmp, oAdd, oSub, iOp, noLocs, noLoc, oMod, oDiv, divOk, oMul, oNeg, gt_iff_lt, eq_self, true_or, or_true, or_false, false_or, and_true, true_and, and_false, false_and, noLoc_enc, checkState s h1 h8]) ?_
  refine wp_seq1 (σ1 := [some (enc s), some (enc o), none, none, none, none, none, none]) (S1 := []) (by simp only [mSeq, mSet, mThen, mVar, mC, mOp, mUn, mChain, mB, mNot, mAnd, mOr, mOfB, mIf, mAndV, mOrV, mNil, mCons, mTup, mLst, mRet, mRetN, mIfS, mExpr, mSkip, mPat, mPar, mAug, mPut, mCB, mCall, mFz, mLoc, mBM, M.bind, M.ret, M.rd, M.ofR, List.getElem?_cons_zero, List.getElem?_cons_succ, List.set_cons_zero, List.set_cons_succ, asB, Pat.put, Pat.puts, Option.map_some, Option.bind_some, if_true, if_false, reduceIte, Bool.false_eq_true, Bool.true_eq_false, List.length_cons, List.length_nil, List.map_cons, List.map_nil, List.append_nil, List.nil_append, List.cons_append, List.replicate, Nat.reduceAdd, Nat.reduceSub, Nat.reduceLeDiff, decide_true, decide_false, Bool.not_true, Bool.not_false, Bool.and_true, Bool.true_and, Bool.and_false, Bool.false_and, Int.cast_ofNat_Int, Int.reduceEq, Int.reduceNe, Int.reduceLT, Int.reduceLE, Int.reduceAdd, Int.reduceMul, Int.reduceSub, Int.reduceMod, Int.reduceDiv, Int.reduceNeg, isi_int, isi_nbool, isi_tup, oLe, oLt, oGt, oGe, iCmp, oAdd, oSub, iOp, noLocs, noLoc, oMod, oDiv, divOk, oMul, oNeg, gt_iff_lt, eq_self, true_or, or_true, or_false, false_or, and_true, true_and, and_false, false_and, noLoc_enc, checkState o h1 h8]) ?_
  refine wp_seq1 (σ1 := [some (enc s), some (enc o), none, none, none, none, none, none]) (S1 := []) (by simp only [mSeq, mSet, mThen, mVar, mC, mOp, mUn, mChain, mB, mNot, mAnd, mOr, mOfB, mIf, mAndV, mOrV, mNil, mCons, mTup, mLst, mRet, mRetN, mIfS, mExpr, mSkip, mPat, mPar, mAug, mPut, mCB, mCall, mFz, mLoc, mBM, M.bind, M.ret, M.rd, M.ofR, List.getElem?_cons_zero, List.getElem?_cons_succ, List.set_cons_zero, List.set_cons_succ, asB, Pat.put, Pat.puts, Option.map_some, Option.bind_some, if_true, if_false, reduceIte, Bool.false_eq_true, Bool.true_eq_false, List.length_cons, List.length_nil, List.map_cons, List.map_nil, List.append_nil, List.nil_append, List.cons_append, List.replicate, Nat.reduceAdd, Nat.reduceSub, Nat.reduceLeDiff, decide_true, decide_false, Bool.not_true, Bool.not_false, Bool.and_true, Bool.true_and, Bool.and_false, Bool.false_and, Int.cast_ofNat_Int, Int.reduceEq, Int.reduceNe, Int.reduceLT, Int.reduceLE, Int.reduceAdd, Int.reduceMul, Int.reduceSub, Int.reduceMod, Int.reduceDiv, Int.reduceNeg, isi_int, isi_nbool, isi_tup, oLe, oLt, oGt, oGe, iCmp, oAdd, oSub, iOp, noLocs, noLoc, oMod, oDiv, divOk, oMul, oNeg, gt_iff_lt, eq_self, true_or, or_true, or_false, false_or, and_true, true_and, and_false, false_and, noLoc_enc, checkSame]) ?_
  have ed := dc_eq (σ := [some (enc s), some (enc o), none, none, none, none, none, none]) (S := []) (fun i => D.tup [.int (i.val : Int), el o i]) (fun i => D.int ((o.to i).val : Int)) (fun i => D.tup [.int (i.val : Int), .int ((o.tw i).val : Int)]) (List.finRange n) (vs := [6, 4, 5]) (p := .tp [.nm 6, .tp [.nm 4, .nm 5]]) (t := mYes)
    (k := mVar 4) (ex := mTup (mCons (mVar 6) (mCons (mVar 5) mNil))) (fi := mEn (mVar 1)) (by
      have : frzSeq (enc o) = some (els o) := rfl
      simp only [mSeq, mSet, mThen, mVar, mC, mOp, mUn, mChain, mB, mNot, mAnd, mOr, mOfB, mIf, mAndV, mOrV, mNil, mCons, mTup, mLst, mRet, mRetN, mIfS, mExpr, mSkip, mPat, mPar, mAug, mPut, mCB, mCall, mFz, mLoc, mBM, M.bind, M.ret, M.rd, M.ofR, List.getElem?_cons_zero, List.getElem?_cons_succ, List.set_cons_zero, List.set_cons_succ, asB, Pat.put, Pat.puts, Option.map_some, Option.bind_some, if_true, if_false, reduceIte, Bool.false_eq_true, Bool.true_eq_false, List.length_cons, List.length_nil, List.map_cons, List.map_nil, List.append_nil, List.nil_append, List.cons_append, List.replicate, Nat.reduceAdd, Nat.reduceSub, Nat.reduceLeDiff, decide_true, decide_false, Bool.not_true, Bool.not_false, Bool.and_true, Bool.true_and, Bool.and_false, Bool.false_and, Int.cast_ofNat_Int, Int.reduceEq, Int.reduceNe, Int.reduceLT, Int.reduceLE, Int.reduceAdd, Int.reduceMul, Int.reduceSub, Int.reduceMod, Int.reduceDiv, Int.reduceNeg, isi_int, isi_nbool, isi_tup, oLe, oLt, oGt, oGe, iCmp, oAdd, oSub, iOp, noLocs, noLoc, oMod, oDiv, divOk, oMul, oNeg, gt_iff_lt, eq_self, true_or, or_true, or_false, false_or, and_true, true_and, and_false, false_and, mEn, this, els, enum_fin]) (by rw [List.length_finRange]; exact line8 (by omega))
      (fun i _ => ⟨[some (enc s), some (enc o), none, none, some (.int ((o.to i).val : Int)), some (.int ((o.tw i).val : Int)), some (.int (i.val : Int)), none], rfl, rfl, rfl, rfl, rfl⟩)
      ((List.nodup_finRange n).imp fun {a b} hab e => hab (by
        have e2 : ((o.to a).val : Int) = ((o.to b).val : Int) := D.int.inj e
        exact o.inj (Fin.ext (by omega))))
  refine wp_seq1 (σ1 := [some (enc s), some (enc o), some (.dct .k (plc o)), none, none, none, none, none]) (S1 := []) (by
    simp only [mSeq, mSet, mThen, mVar, mC, mOp, mUn, mChain, mB, mNot, mAnd, mOr, mOfB, mIf, mAndV, mOrV, mNil, mCons, mTup, mLst, mRet, mRetN, mIfS, mExpr, mSkip, mPat, mPar, mAug, mPut, mCB, mCall, mFz, mLoc, mBM, M.bind, M.ret, M.rd, M.ofR, List.getElem?_cons_zero, List.getElem?_cons_succ, List.set_cons_zero, List.set_cons_succ, asB, Pat.put, Pat.puts, Option.map_some, Option.bind_some, if_true, if_false, reduceIte, Bool.false_eq_true, Bool.true_eq_false, List.length_cons, List.length_nil, List.map_cons, List.map_nil, List.append_nil, List.nil_append, List.cons_append, List.replicate, Nat.reduceAdd, Nat.reduceSub, Nat.reduceLeDiff, decide_true, decide_false, Bool.not_true, Bool.not_false, Bool.and_true, Bool.true_and, Bool.and_false, Bool.false_and, Int.cast_ofNat_Int, Int.reduceEq, Int.reduceNe, Int.reduceLT, Int.reduceLE, Int.reduceAdd, Int.reduceMul, Int.reduceSub, Int.reduceMod, Int.reduceDiv, Int.reduceNeg, isi_int, isi_nbool, isi_tup, oLe, oLt, oGt, oGe, iCmp, oAdd, oSub, iOp, noLocs, noLoc, oMod, oDiv, divOk, oMul, oNeg, gt_iff_lt, eq_self, true_or, or_true, or_false, false_or, and_true, true_and, and_false, false_and, mFzD, ed]
    rfl) ?_
  refine wp_seq1 (σ1 := [some (enc s), some (enc o), some (.dct .k (plc o)), some (.loc 0), none, none, none, none]) (S1 := [.lst []]) rfl ?_
  refine wp_seq (wp_for (el s) (List.finRange n) (fun done σ S => (∃ x4 x5 x6 x7, σ = [some (enc s), some (enc o), some (.dct .k (plc o)), some (.loc 0), x4, x5, x6, x7]) ∧ S = [.lst (done.map (el (conv (mul o (inv s)))))]) (S1 := [.lst []]) rfl ⟨⟨_, _, _, _, rfl⟩, rfl⟩ ?_ ?_)
  · rintro done i rest _ _ hl ⟨⟨x4, x5, x6, x7, rfl⟩, rfl⟩
    refine ⟨_, rfl, ?_⟩
    have hlen : (done.map (el (conv (mul o (inv s))))).length ≤ LINE := by
      rw [List.length_map]
      exact line8 (by have := done_le (l := done) hl h8; omega)
    refine wp_of (o := .nx) (σ := [some (enc s), some (enc o), some (.dct .k (plc o)), some (.loc 0), some (.int ((s.to i).val : Int)), some (.int ((s.tw i).val : Int)), some (.int ((o.fro (s.to i)).val : Int)), some (.int ((o.tw (o.fro (s.to i))).val : Int))])
      (S := [.lst (done.map (el (conv (mul o (inv s)))) ++ [el (conv (mul o (inv s))) i])]) ?_ ⟨.inl rfl, ⟨_, _, _, _, rfl⟩, by simp⟩
    have e2 : el (conv (mul o (inv s))) i = .tup [.int ((o.fro (s.to i)).val : Int), .int ((o.tw (o.fro (s.to i)) + -(s.tw i) : Fin 4).val : Int)] := by
      show D.tup [.int ((o.fro (s.to i)).val : Int), .int ((o.tw (o.fro (s.to i)) + -(s.tw (s.fro (o.to (o.fro (s.to i))))) : Fin 4).val : Int)] = _
      rw [o.ft, s.tf]
    simp only [mSeq, mSet, mThen, mVar, mC, mOp, mUn, mChain, mB, mNot, mAnd, mOr, mOfB, mIf, mAndV, mOrV, mNil, mCons, mTup, mLst, mRet, mRetN, mIfS, mExpr, mSkip, mPat, mPar, mAug, mPut, mCB, mCall, mFz, mLoc, mBM, M.bind, M.ret, M.rd, M.ofR, List.getElem?_cons_zero, List.getElem?_cons_succ, List.set_cons_zero, List.set_cons_succ, asB, Pat.put, Pat.puts, Option.map_some, Option.bind_some, if_true, if_false, reduceIte, Bool.false_eq_true, Bool.true_eq_false, List.length_cons, List.length_nil, List.map_cons, List.map_nil, List.append_nil, List.nil_append, List.cons_append, List.replicate, Nat.reduceAdd, Nat.reduceSub, Nat.reduceLeDiff, decide_true, decide_false, Bool.not_true, Bool.not_false, Bool.and_true, Bool.true_and, Bool.and_false, Bool.false_and, Int.cast_ofNat_Int, Int.reduceEq, Int.reduceNe, Int.reduceLT, Int.reduceLE, Int.reduceAdd, Int.reduceMul, Int.reduceSub, Int.reduceMod, Int.reduceDiv, Int.reduceNeg, isi_int, isi_nbool, isi_tup, oLe, oLt, oGt, oGe, iCmp, oAdd, oSub, iOp, noLocs, noLoc, oMod, oDiv, divOk, oMul, oNeg, gt_iff_lt, eq_self, true_or, or_true, or_false, false_or, and_true, true_and, and_false, false_and, ix_plc, e2, twsub, isLst0, append0 _ _ hlen, line8, show (2 : Nat) ≤ LINE from by decide]
  · rintro _ _ ⟨⟨x3, x4, x5, x6, rfl⟩, rfl⟩
    exact ⟨rfl, wp_of (o := .rt _) rfl rfl⟩
def bits : Nat → Nat
  | 0 => 0
  | c + 1 => 1 + bits ((c + 1) / 2)
theorem bits_le : ∀ (j c : Nat), c < 2 ^ j → bits c ≤ j
  | 0, c, h => by
    have : c = 0 := by simpa using h
    subst this; simp [bits]
  | j + 1, 0, h => by simp [bits]
  | j + 1, c + 1, h => by
    have h2 : (c + 1) / 2 < 2 ^ j := by rw [Nat.pow_succ] at h; omega
    have := bits_le j _ h2
    rw [bits]
    omega
theorem bits_pos {c : Nat} (h : 1 ≤ c) : bits c = 1 + bits (c / 2) := by
  cases c with
  | zero => omega
  | succ c => rw [bits]
theorem halve (a : Mv n) (c : Nat) : pw a c = if c % 2 = 1 then mul a (pw (mul a a) (c / 2)) else pw (mul a a) (c / 2) := by
  have e : pw a 2 = mul a a := by show mul (mul (one n) a) a = _; rw [one_mul]
  have h := Nat.div_add_mod c 2
  split
  · rename_i hc
    rw [hc] at h
    conv => lhs; rw [← h, Nat.add_comm, pw_add, pw_mul, pw_one, e]
  · rename_i hc
    rw [show c % 2 = 0 by omega, Nat.add_zero] at h
    conv => lhs; rw [← h, pw_mul, e]
theorem power (a : Mv n) (c : Nat) (h8 : n ≤ 8) (hc : c < 2 ^ 100) : f_power [enc a, .int (c : Int)] = some (.ok (enc (pw a c))) := by
  refine run_rt rfl (noLoc_enc _) ?_
  unfold b_power
  show WP (mSeq _ _ [some (enc a), some (.int (c : Int)), none, none] []) _
  refine wp_seq1 (σ1 := [some (enc a), some (.int (c : Int)), some (enc (one n)), none]) (S1 := []) (by simp only [mSeq, mSet, mThen, mVar, mC, mOp, mUn, mChain, mB, mNot, mAnd, mOr, mOfB, mIf, mAndV, mOrV, mNil, mCons, mTup, mLst, mRet, mRetN, mIfS, mExpr, mSkip, mPat, mPar, mAug, mPut, mCB, mCall, mFz, mLoc, mBM, M.bind, M.ret, M.rd, M.ofR, List.getElem?_cons_zero, List.getElem?_cons_succ, List.set_cons_zero, List.set_cons_succ, asB, Pat.put, Pat.puts, Option.map_some, Option.bind_some, if_true, if_false, reduceIte, Bool.false_eq_true, Bool.true_eq_false, List.length_cons, List.length_nil, List.map_cons, List.map_nil, List.append_nil, List.nil_append, List.cons_append, List.replicate, Nat.reduceAdd, Nat.reduceSub, Nat.reduceLeDiff, decide_true, decide_false, Bool.not_true, Bool.not_false, Bool.and_true, Bool.true_and, Bool.and_false, Bool.false_and, Int.cast_ofNat_Int, Int.reduceEq, Int.reduceNe, Int.reduceLT, Int.reduceLE, Int.reduceAdd, Int.reduceMul, Int.reduceSub, Int.reduceMod, Int.reduceDiv, Int.reduceNeg, isi_int, isi_nbool, isi_tup, oLe, oLt, oGt, oGe, iCmp, oAdd, oSub, iOp, noLocs, noLoc, oMod, oDiv, divOk, oMul, oNeg, gt_iff_lt, eq_self, true_or, or_true, or_false, false_or, and_true, true_and, and_false, false_and, noLoc_enc, len_enc, stillMove h8]) ?_
  refine wp_seq1 (σ1 := [some (enc a), some (.int (c : Int)), some (enc (one n)), some (enc a)]) (S1 := []) rfl ?_
  refine wp_seq (wp_while (fun m σ S => ∃ (d : Nat) (f b : Mv n), σ = [some (enc a), some (.int (d : Int)), some (enc f), some (enc b)] ∧ S = [] ∧ bits d = m ∧ mul f (pw b d) = pw a c) (bits c)
    (Nat.lt_of_le_of_lt (bits_le 100 c hc) (by decide)) ⟨c, one n, a, rfl, rfl, rfl, one_mul _⟩ ?_ ?_)
  · rintro m _ _ ⟨d, f, b, rfl, rfl, hm, hp⟩
    have hd : 1 ≤ d := by
      cases d with
      | zero => simp [bits] at hm
      | succ d => omega
    have c0 : decide ((0 : Int) < (d : Int)) = true := by simp; omega
    rw [bits_pos hd] at hm
    refine ⟨[], by simp only [mSeq, mSet, mThen, mVar, mC, mOp, mUn, mChain, mB, mNot, mAnd, mOr, mOfB, mIf, mAndV, mOrV, mNil, mCons, mTup, mLst, mRet, mRetN, mIfS, mExpr, mSkip, mPat, mPar, mAug, mPut, mCB, mCall, mFz, mLoc, mBM, M.bind, M.ret, M.rd, M.ofR, List.getElem?_cons_zero, List.getElem?_cons_succ, List.set_cons_zero, List.set_cons_succ, asB, Pat.put, Pat.puts, Option.map_some, Option.bind_some, if_true, if_false, reduceIte, Bool.false_eq_true, Bool.true_eq_false, List.length_cons, List.length_nil, List.map_cons, List.map_nil, List.append_nil, List.nil_append, List.cons_append, List.replicate, Nat.reduceAdd, Nat.reduceSub, Nat.reduceLeDiff, decide_true, decide_false, Bool.not_true, Bool.not_false, Bool.and_true, Bool.true_and, Bool.and_false, Bool.false_and, Int.cast_ofNat_Int, Int.reduceEq, Int.reduceNe, Int.reduceLT, Int.reduceLE, Int.reduceAdd, Int.reduceMul, Int.reduceSub, Int.reduceMod, Int.reduceDiv, Int.reduceNeg, isi_int, isi_nbool, isi_tup, oLe, oLt, oGt, oGe, iCmp, oAdd, oSub, iOp, noLocs, noLoc, oMod, oDiv, divOk, oMul, oNeg, gt_iff_lt, eq_self, true_or, or_true, or_false, false_or, and_true, true_and, and_false, false_and, c0], ?_⟩
    refine wp_of (o := .nx) (σ := [some (enc a), some (.int ((d / 2 : Nat) : Int)), some (enc (if d % 2 = 1 then mul f b else f)), some (enc (mul b b))]) (S := []) ?_ ⟨.inl rfl, d / 2, _, _, rfl, rfl, by omega, ?_⟩
    · have c1 : decide (((d : Int) % 2) = 1) = decide (d % 2 = 1) := by
        rw [Bool.eq_iff_iff, decide_eq_true_iff, decide_eq_true_iff]; omega
      have c2 : (d : Int) / 2 = ((d / 2 : Nat) : Int) := by omega
      by_cases hx : d % 2 = 1
      · simp only [mSeq, mSet, mThen, mVar, mC, mOp, mUn, mChain, mB, mNot, mAnd, mOr, mOfB, mIf, mAndV, mOrV, mNil, mCons, mTup, mLst, mRet, mRetN, mIfS, mExpr, mSkip, mPat, mPar, mAug, mPut, mCB, mCall, mFz, mLoc, mBM, M.bind, M.ret, M.rd, M.ofR, List.getElem?_cons_zero, List.getElem?_cons_succ, List.set_cons_zero, List.set_cons_succ, asB, Pat.put, Pat.puts, Option.map_some, Option.bind_some, if_true, if_false, reduceIte, Bool.false_eq_true, Bool.true_eq_false, List.length_cons, List.length_nil, List.map_cons, List.map_nil, List.append_nil, List.nil_append, List.cons_append, List.replicate, Nat.reduceAdd, Nat.reduceSub, Nat.reduceLeDiff, decide_true, decide_false, Bool.not_true, Bool.not_false, Bool.and_true, Bool.true_and, Bool.and_false, Bool.false_and, Int.cast_ofNat_Int, Int.reduceEq, Int.reduceNe, Int.reduceLT, Int.reduceLE, Int.reduceAdd, Int.reduceMul, Int.reduceSub, Int.reduceMod, Int.reduceDiv, Int.reduceNeg, isi_int, isi_nbool, isi_tup, oLe, oLt, oGt, oGe, iCmp, oAdd, oSub, iOp, noLocs, noLoc, oMod, oDiv, divOk, oMul, oNeg, gt_iff_lt, eq_self, true_or, or_true, or_false, false_or, and_true, true_and, and_false, false_and, eq_int, c1, hx, noLoc_enc, compose _ _ h8, c2]
      · simp only [mSeq, mSet, mThen, mVar, mC, mOp, mUn, mChain, mB, mNot, mAnd, mOr, mOfB, mIf, mAndV, mOrV, mNil, mCons, mTup, mLst, mRet, mRetN, mIfS, mExpr, mSkip, mPat, mPar, mAug, mPut, mCB, mCall, mFz, mLoc, mBM, M.bind, M.ret, M.rd, M.ofR, List.getElem?_cons_zero, List.getElem?_cons_succ, List.set_cons_zero, List.set_cons_succ, asB, Pat.put, Pat.puts, Option.map_some, Option.bind_some, if_true, if_false, reduceIte, Bool.false_eq_true, Bool.true_eq_false, List.length_cons, List.length_nil, List.map_cons, List.map_nil, List.append_nil, List.nil_append, List.cons_append, List.replicate, Nat.reduceAdd, Nat.reduceSub, Nat.reduceLeDiff, decide_true, decide_false, Bool.not_true, Bool.not_false, Bool.and_true, Bool.true_and, Bool.and_false, Bool.false_and, Int.cast_ofNat_Int, Int.reduceEq, Int.reduceNe, Int.reduceLT, Int.reduceLE, Int.reduceAdd, Int.reduceMul, Int.reduceSub, Int.reduceMod, Int.reduceDiv, Int.reduceNeg, isi_int, isi_nbool, isi_tup, oLe, oLt, oGt, oGe, iCmp, oAdd, oSub, iOp, noLocs, noLoc, oMod, oDiv, divOk, oMul, oNeg, gt_iff_lt, eq_self, true_or, or_true, or_false, false_or, and_true, true_and, and_false, false_and, eq_int, c1, hx, noLoc_enc, compose _ _ h8, c2]
    · rw [← hp, halve b d]
      split
      · rw [mul_assoc]
      · rfl
  · rintro _ _ ⟨d, f, b, rfl, rfl, hm, hp⟩
    have hd : d = 0 := by
      cases d with
      | zero => rfl
      | succ d => simp [bits] at hm
    subst hd
    have hf : f = pw a c := by rw [← hp]; exact (mul_one f).symm
    subst hf
    exact ⟨[], rfl, rfl, wp_of (o := .rt _) rfl rfl⟩
theorem times (a : Mv n) (k : Int) (h1 : 1 ≤ n) (h8 : n ≤ 8) (hk : k.natAbs < 2 ^ 100) : f_times [enc a, .int k] = some (.ok (enc (zp a k))) := by
  refine run_rt rfl (noLoc_enc _) (wp_of (o := .rt _) (σ := [some (enc a), some (.int k)]) (S := []) ?_ rfl)
  unfold b_times
  by_cases h : 0 ≤ k
  · have e : (k.toNat : Int) = k := by omega
    have hp := power a k.toNat h8 (by omega)
    rw [e] at hp
    have ez : zp a k = pw a k.toNat := if_pos h
    have c0 : decide ((0 : Int) ≤ k) = true := decide_eq_true h
    simp only [mSeq, mSet, mThen, mVar, mC, mOp, mUn, mChain, mB, mNot, mAnd, mOr, mOfB, mIf, mAndV, mOrV, mNil, mCons, mTup, mLst, mRet, mRetN, mIfS, mExpr, mSkip, mPat, mPar, mAug, mPut, mCB, mCall, mFz, mLoc, mBM, M.bind, M.ret, M.rd, M.ofR, List.getElem?_cons_zero, List.getElem?_cons_succ, List.set_cons_zero, List.set_cons_succ, asB, Pat.put, Pat.puts, Option.map_some, Option.bind_some, if_true, if_false, reduceIte, Bool.false_eq_true, Bool.true_eq_false, List.length_cons, List.length_nil, List.map_cons, List.map_nil, List.append_nil, List.nil_append, List.cons_append, List.replicate, Nat.reduceAdd, Nat.reduceSub, Nat.reduceLeDiff, decide_true, decide_false, Bool.not_true, Bool.not_false, Bool.and_true, Bool.true_and, Bool.and_false, Bool.false_and, Int.cast_ofNat_Int, Int.reduceEq, Int.reduceNe, Int.reduceLT, Int.reduceLE, Int.reduceAdd, Int.reduceMul, Int.reduceSub, Int.reduceMod, Int.reduceDiv, Int.reduceNeg, isi_int, isi_nbool, isi_tup, oLe, oLt, oGt, oGe, iCmp, oAdd, oSub, iOp, noLocs, noLoc, oMod, oDiv, divOk, oMul, oNeg, gt_iff_lt, eq_self, true_or, or_true, or_false, false_or, and_true, true_and, and_false, false_and, noLoc_enc, checkMove _ h1 h8, isi_int, isi_nbool, c0, hp, ez]
  · have e : (((-k).toNat : Nat) : Int) = 0 - k := by omega
    have hp := power (inv a) (-k).toNat h8 (by omega)
    rw [e] at hp
    have ez : zp a k = pw (inv a) (-k).toNat := if_neg h
    have c0 : decide ((0 : Int) ≤ k) = false := decide_eq_false h
    simp only [mSeq, mSet, mThen, mVar, mC, mOp, mUn, mChain, mB, mNot, mAnd, mOr, mOfB, mIf, mAndV, mOrV, mNil, mCons, mTup, mLst, mRet, mRetN, mIfS, mExpr, mSkip, mPat, mPar, mAug, mPut, mCB, mCall, mFz, mLoc, mBM, M.bind, M.ret, M.rd, M.ofR, List.getElem?_cons_zero, List.getElem?_cons_succ, List.set_cons_zero, List.set_cons_succ, asB, Pat.put, Pat.puts, Option.map_some, Option.bind_some, if_true, if_false, reduceIte, Bool.false_eq_true, Bool.true_eq_false, List.length_cons, List.length_nil, List.map_cons, List.map_nil, List.append_nil, List.nil_append, List.cons_append, List.replicate, Nat.reduceAdd, Nat.reduceSub, Nat.reduceLeDiff, decide_true, decide_false, Bool.not_true, Bool.not_false, Bool.and_true, Bool.true_and, Bool.and_false, Bool.false_and, Int.cast_ofNat_Int, Int.reduceEq, Int.reduceNe, Int.reduceLT, Int.reduceLE, Int.reduceAdd, Int.reduceMul, Int.reduceSub, Int.reduceMod, Int.reduceDiv, Int.reduceNeg, isi_int, isi_nbool, isi_tup, oLe, oLt, oGt, oGe, iCmp, oAdd, oSub, iOp, noLocs, noLoc, oMod, oDiv, divOk, oMul, oNeg, gt_iff_lt, eq_self, true_or, or_true, or_false, false_or, and_true, true_and, and_false, false_and, noLoc_enc, checkMove _ h1 h8, isi_int, isi_nbool, c0, inverse _ h8, hp, ez]
theorem fact8 : ∀ n ≤ 8, fact n * 4 ≤ 161280 := by decide
theorem ne_enc (S : List Cell) (a b : Mv n) : oNe S (enc a) (enc b) = some (.bl (!decide (enc a = enc b))) := ne_pln 2 (pln_enc a) (pln_enc b)
theorem order (a : Mv n) (h8 : n ≤ 8) : f_order [enc a] = some (.ok (.int (ord a : Int))) := by
  refine run_rt rfl rfl ?_
  unfold b_order
  show WP (mSeq _ _ [some (enc a), none, none, none] []) _
  refine wp_seq1 (σ1 := [some (enc a), some (enc (one n)), none, none]) (S1 := []) (by simp only [mSeq, mSet, mThen, mVar, mC, mOp, mUn, mChain, mB, mNot, mAnd, mOr, mOfB, mIf, mAndV, mOrV, mNil, mCons, mTup, mLst, mRet, mRetN, mIfS, mExpr, mSkip, mPat, mPar, mAug, mPut, mCB, mCall, mFz, mLoc, mBM, M.bind, M.ret, M.rd, M.ofR, List.getElem?_cons_zero, List.getElem?_cons_succ, List.set_cons_zero, List.set_cons_succ, asB, Pat.put, Pat.puts, Option.map_some, Option.bind_some, if_true, if_false, reduceIte, Bool.false_eq_true, Bool.true_eq_false, List.length_cons, List.length_nil, List.map_cons, List.map_nil, List.append_nil, List.nil_append, List.cons_append, List.replicate, Nat.reduceAdd, Nat.reduceSub, Nat.reduceLeDiff, decide_true, decide_false, Bool.not_true, Bool.not_false, Bool.and_true, Bool.true_and, Bool.and_false, Bool.false_and, Int.cast_ofNat_Int, Int.reduceEq, Int.reduceNe, Int.reduceLT, Int.reduceLE, Int.reduceAdd, Int.reduceMul, Int.reduceSub, Int.reduceMod, Int.reduceDiv, Int.reduceNeg, isi_int, isi_nbool, isi_tup, oLe, oLt, oGt, oGe, iCmp, oAdd, oSub, iOp, noLocs, noLoc, oMod, oDiv, divOk, oMul, oNeg, gt_iff_lt, eq_self, true_or, or_true, or_false, false_or, and_true, true_and, and_false, false_and, noLoc_enc, len_enc, stillMove h8]) ?_
  refine wp_seq1 (σ1 := [some (enc a), some (enc (one n)), some (.int 1), some (enc a)]) (S1 := []) rfl ?_
  have hle := ord_le a
  have h8' := fact8 n h8
  have hpos := ord_pos a
  refine wp_seq (wp_while (fun m σ S => ∃ j : Nat, 1 ≤ j ∧ j + m = ord a ∧ σ = [some (enc a), some (enc (one n)), some (.int (j : Int)), some (enc (pw a j))] ∧ S = []) (ord a - 1) (Nat.lt_of_le_of_lt (show ord a - 1 ≤ 161280 by omega) (by decide))
    ⟨1, Nat.le_refl _, by omega, by rw [pw_one]; rfl, rfl⟩ ?_ ?_)
  · rintro m _ _ ⟨j, hj, hm, rfl, rfl⟩
    have hne : decide (enc (pw a j) = enc (one n)) = false := decide_eq_false fun e => ord_min a j hj (by omega) (enc_inj e)
    refine ⟨[], by simp only [mSeq, mSet, mThen, mVar, mC, mOp, mUn, mChain, mB, mNot, mAnd, mOr, mOfB, mIf, mAndV, mOrV, mNil, mCons, mTup, mLst, mRet, mRetN, mIfS, mExpr, mSkip, mPat, mPar, mAug, mPut, mCB, mCall, mFz, mLoc, mBM, M.bind, M.ret, M.rd, M.ofR, List.getElem?_cons_zero, List.getElem?_cons_succ, List.set_cons_zero, List.set_cons_succ, asB, Pat.put, Pat.puts, Option.map_some, Option.bind_some, if_true, if_false, reduceIte, Bool.false_eq_true, Bool.true_eq_false, List.length_cons, List.length_nil, List.map_cons, List.map_nil, List.append_nil, List.nil_append, List.cons_append, List.replicate, Nat.reduceAdd, Nat.reduceSub, Nat.reduceLeDiff, decide_true, decide_false, Bool.not_true, Bool.not_false, Bool.and_true, Bool.true_and, Bool.and_false, Bool.false_and, Int.cast_ofNat_Int, Int.reduceEq, Int.reduceNe, Int.reduceLT, Int.reduceLE, Int.reduceAdd, Int.reduceMul, Int.reduceSub, Int.reduceMod, Int.reduceDiv, Int.reduceNeg, isi_int, isi_nbool, isi_tup, oLe, oLt, oGt, oGe, iCmp, oAdd, oSub, iOp, noLocs, noLoc, oMod, oDiv, divOk, oMul, oNeg, gt_iff_lt, eq_self, true_or, or_true, or_false, false_or, and_true, true_and, and_false, false_and, ne_enc, hne], wp_of (o := .nx) (σ := [some (enc a), some (enc (one n)), some (.int ((j + 1 : Nat) : Int)), some (enc (pw a (j + 1)))]) (S := []) ?_ ⟨.inl rfl, j + 1, by omega, by omega, rfl, rfl⟩⟩
    have e1 : (j : Int) + 1 = ((j + 1 : Nat) : Int) := by omega
    have e2 : mul (pw a j) a = pw a (j + 1) := rfl
    simp only [mSeq, mSet, mThen, mVar, mC, mOp, mUn, mChain, mB, mNot, mAnd, mOr, mOfB, mIf, mAndV, mOrV, mNil, mCons, mTup, mLst, mRet, mRetN, mIfS, mExpr, mSkip, mPat, mPar, mAug, mPut, mCB, mCall, mFz, mLoc, mBM, M.bind, M.ret, M.rd, M.ofR, List.getElem?_cons_zero, List.getElem?_cons_succ, List.set_cons_zero, List.set_cons_succ, asB, Pat.put, Pat.puts, Option.map_some, Option.bind_some, if_true, if_false, reduceIte, Bool.false_eq_true, Bool.true_eq_false, List.length_cons, List.length_nil, List.map_cons, List.map_nil, List.append_nil, List.nil_append, List.cons_append, List.replicate, Nat.reduceAdd, Nat.reduceSub, Nat.reduceLeDiff, decide_true, decide_false, Bool.not_true, Bool.not_false, Bool.and_true, Bool.true_and, Bool.and_false, Bool.false_and, Int.cast_ofNat_Int, Int.reduceEq, Int.reduceNe, Int.reduceLT, Int.reduceLE, Int.reduceAdd, Int.reduceMul, Int.reduceSub, Int.reduceMod, Int.reduceDiv, Int.reduceNeg, isi_int, isi_nbool, isi_tup, oLe, oLt, oGt, oGe, iCmp, oAdd, oSub, iOp, noLocs, noLoc, oMod, oDiv, divOk, oMul, oNeg, gt_iff_lt, eq_self, true_or, or_true, or_false, false_or, and_true, true_and, and_false, false_and, noLoc_enc, compose _ _ h8, e1, e2]
  · rintro _ _ ⟨j, hj, hm, rfl, rfl⟩
    obtain rfl : j = ord a := by omega
    have he : decide (enc (pw a (ord a)) = enc (one n)) = true := decide_eq_true (by rw [pw_ord])
    exact ⟨[], by simp only [mSeq, mSet, mThen, mVar, mC, mOp, mUn, mChain, mB, mNot, mAnd, mOr, mOfB, mIf, mAndV, mOrV, mNil, mCons, mTup, mLst, mRet, mRetN, mIfS, mExpr, mSkip, mPat, mPar, mAug, mPut, mCB, mCall, mFz, mLoc, mBM, M.bind, M.ret, M.rd, M.ofR, List.getElem?_cons_zero, List.getElem?_cons_succ, List.set_cons_zero, List.set_cons_succ, asB, Pat.put, Pat.puts, Option.map_some, Option.bind_some, if_true, if_false, reduceIte, Bool.false_eq_true, Bool.true_eq_false, List.length_cons, List.length_nil, List.map_cons, List.map_nil, List.append_nil, List.nil_append, List.cons_append, List.replicate, Nat.reduceAdd, Nat.reduceSub, Nat.reduceLeDiff, decide_true, decide_false, Bool.not_true, Bool.not_false, Bool.and_true, Bool.true_and, Bool.and_false, Bool.false_and, Int.cast_ofNat_Int, Int.reduceEq, Int.reduceNe, Int.reduceLT, Int.reduceLE, Int.reduceAdd, Int.reduceMul, Int.reduceSub, Int.reduceMod, Int.reduceDiv, Int.reduceNeg, isi_int, isi_nbool, isi_tup, oLe, oLt, oGt, oGe, iCmp, oAdd, oSub, iOp, noLocs, noLoc, oMod, oDiv, divOk, oMul, oNeg, gt_iff_lt, eq_self, true_or, or_true, or_false, false_or, and_true, true_and, and_false, false_and, ne_enc, he], rfl, wp_of (o := .rt _) rfl rfl⟩
theorem orderOf (a : Mv n) (h1 : 1 ≤ n) (h8 : n ≤ 8) : f_order_of [enc a] = some (.ok (.int (ord a : Int))) := by
  refine run_rt rfl rfl (wp_of (o := .rt _) (σ := [some (enc a)]) (S := []) ?_ rfl)
  unfold b_order_of
  simp only [mSeq, mSet, mThen, mVar, mC, mOp, mUn, mChain, mB, mNot, mAnd, mOr, mOfB, mIf, mAndV, mOrV, mNil, mCons, mTup, mLst, mRet, mRetN, mIfS, mExpr, mSkip, mPat, mPar, mAug, mPut, mCB, mCall, mFz, mLoc, mBM, M.bind, M.ret, M.rd, M.ofR, List.getElem?_cons_zero, List.getElem?_cons_succ, List.set_cons_zero, List.set_cons_succ, asB, Pat.put, Pat.puts, Option.map_some, Option.bind_some, if_true, if_false, reduceIte, Bool.false_eq_true, Bool.true_eq_false, List.length_cons, List.length_nil, List.map_cons, List.map_nil, List.append_nil, List.nil_append, List.cons_append, List.replicate, Nat.reduceAdd, Nat.reduceSub, Nat.reduceLeDiff, decide_true, decide_false, Bool.not_true, Bool.not_false, Bool.and_true, Bool.true_and, Bool.and_false, Bool.false_and, Int.cast_ofNat_Int, Int.reduceEq, Int.reduceNe, Int.reduceLT, Int.reduceLE, Int.reduceAdd, Int.reduceMul, Int.reduceSub, Int.reduceMod, Int.reduceDiv, Int.reduceNeg, isi_int, isi_nbool, isi_tup, oLe, oLt, oGt, oGe, iCmp, oAdd, oSub, iOp, noLocs, noLoc, oMod, oDiv, divOk, oMul, oNeg, gt_iff_lt, eq_self, true_or, or_true, or_false, false_or, and_true, true_and, and_false, false_and, noLoc_enc, checkMove _ h1 h8, order _ h8]
end W3
end
section
set_option linter.all false
set_option maxRecDepth 100000
set_option maxHeartbeats 2000000
namespace W3
open Rw Mv
variable {n : Nat}
def iv (p : Fin n) : D := .int (p.val : Int)
theorem iv_inj {p q : Fin n} (h : iv p = iv q) : p = q := Fin.ext (by have := D.int.inj h; omega)
theorem ix_iv (m : Mv n) (i : Fin n) (S : List Cell) : ixO S (enc m) (iv i) = some (el m i) := ix_els m i S
theorem el_iv (m : Mv n) (i : Fin n) : el m i = .tup [iv (m.to i), .int ((m.tw i).val : Int)] := rfl
theorem noLocs_iv : ∀ l : List (Fin n), noLocs (l.map iv) = true := noLocs_map iv fun _ => rfl
theorem ix_last (ds : List D) (x : D) : ixO [.lst (ds ++ [x])] (.loc 0) (.int (-1)) = some x := by
  show L2.atI (ds ++ [x]) (-1) = _
  unfold L2.atI L2.ixN
  rw [if_neg (by decide), if_pos (by simp; omega)]
  show (ds ++ [x])[((-1 : Int) + ((ds ++ [x]).length : Int)).toNat]? = _
  have e : ((-1 : Int) + ((ds ++ [x]).length : Int)).toNat = ds.length := by simp; omega
  rw [e]
  simp
def upto (a : Mv n) (p : Fin n) (j : Nat) : List D := (List.range j).map fun k => iv (it a k p)
theorem upto_succ (a : Mv n) (p : Fin n) (j : Nat) : upto a p (j + 1) = upto a p j ++ [iv (it a j p)] := by
  unfold upto
  rw [List.range_succ, List.map_append]
  rfl
theorem upto_len (a : Mv n) (p : Fin n) : upto a p (len a p) = (rng a p).map iv := by
  unfold upto rng
  rw [List.map_map]
  rfl
theorem ringFrom (a : Mv n) (p : Fin n) (h8 : n ≤ 8) : f_ring_from [enc a, iv p] = some (.ok (.lst ((rng a p).map iv))) := by
  refine run_wp rfl ?_
  unfold b_ring_from
  show WP (mSeq _ _ [some (enc a), some (iv p), none] []) _
  refine wp_seq1 (σ1 := [some (enc a), some (iv p), some (.loc 0)]) (S1 := [.lst [iv p]]) rfl ?_
  have hpos := len_pos a p
  have hle := len_le a p
  refine wp_seq (wp_while (fun m σ S => ∃ j : Nat, j + 1 + m = len a p ∧ σ = [some (enc a), some (iv p), some (.loc 0)] ∧ S = [.lst (upto a p (j + 1))]) (len a p - 1) (Nat.lt_of_le_of_lt (show len a p - 1 ≤ 8 by omega) (by decide))
    ⟨0, by omega, rfl, rfl⟩ ?_ ?_)
  · rintro m _ _ ⟨j, hm, rfl, rfl⟩
    have e0 : ixO [.lst (upto a p (j + 1))] (.loc 0) (.int (-1)) = some (iv (it a j p)) := by rw [upto_succ]; exact ix_last _ _
    have hne : decide (((it a (j + 1) p).val : Int) = (p.val : Int)) = false := decide_eq_false fun e => len_min a p (j + 1) (by omega) (by omega) (Fin.ext (by omega))
    have e1 : a.to (it a j p) = it a (j + 1) p := rfl
    have hl : (upto a p (j + 1)).length ≤ LINE := by unfold upto; rw [List.length_map, List.length_range]; exact line8 (by omega)
    have e3 : ∀ S, ixO S (.tup [iv (it a (j + 1) p), .int ((a.tw (it a j p)).val : Int)]) (.int 0) = some (.int ((it a (j + 1) p).val : Int)) := fun _ => rfl
    have e4 : iv p = .int (p.val : Int) := rfl
    refine ⟨[.lst (upto a p (j + 1))], ?_, wp_of (o := .nx) (σ := [some (enc a), some (iv p), some (.loc 0)]) (S := [.lst (upto a p (j + 1) ++ [.int ((it a (j + 1) p).val : Int)])]) ?_ ⟨.inl rfl, j + 1, by omega, rfl, by rw [upto_succ a p (j + 1)]; rfl⟩⟩
    · simp only [mSeq, mSet, mThen, mVar, mC, mOp, mUn, mChain, mB, mNot, mAnd, mOr, mOfB, mIf, mAndV, mOrV, mNil, mCons, mTup, mLst, mRet, mRetN, mIfS, mExpr, mSkip, mPat, mPar, mAug, mPut, mCB, mCall, mFz, mLoc, mBM, M.bind, M.ret, M.rd, M.ofR, List.getElem?_cons_zero, List.getElem?_cons_succ, List.set_cons_zero, List.set_cons_succ, asB, Pat.put, Pat.puts, Option.map_some, Option.bind_some, if_true, if_false, reduceIte, Bool.false_eq_true, Bool.true_eq_false, List.length_cons, List.length_nil, List.map_cons, List.map_nil, List.append_nil, List.nil_append, List.cons_append, List.replicate, Nat.reduceAdd, Nat.reduceSub, Nat.reduceLeDiff, decide_true, decide_false, Bool.not_true, Bool.not_false, Bool.and_true, Bool.true_and, Bool.and_false, Bool.false_and, Int.cast_ofNat_Int, Int.reduceEq, Int.reduceNe, Int.reduceLT, Int.reduceLE, Int.reduceAdd, Int.reduceMul, Int.reduceSub, Int.reduceMod, Int.reduceDiv, Int.reduceNeg, isi_int, isi_nbool, isi_tup, oLe, oLt, oGt, oGe, iCmp, oAdd, oSub, iOp, noLocs, noLoc, oMod, oDiv, divOk, oMul, oNeg, gt_iff_lt, eq_self, true_or, or_true, or_false, false_or, and_true, true_and, and_false, false_and, e0, ix_iv, el_iv, e1, e3]
      rw [e4, ne_int, hne]
      rfl
    · simp only [mSeq, mSet, mThen, mVar, mC, mOp, mUn, mChain, mB, mNot, mAnd, mOr, mOfB, mIf, mAndV, mOrV, mNil, mCons, mTup, mLst, mRet, mRetN, mIfS, mExpr, mSkip, mPat, mPar, mAug, mPut, mCB, mCall, mFz, mLoc, mBM, M.bind, M.ret, M.rd, M.ofR, List.getElem?_cons_zero, List.getElem?_cons_succ, List.set_cons_zero, List.set_cons_succ, asB, Pat.put, Pat.puts, Option.map_some, Option.bind_some, if_true, if_false, reduceIte, Bool.false_eq_true, Bool.true_eq_false, List.length_cons, List.length_nil, List.map_cons, List.map_nil, List.append_nil, List.nil_append, List.cons_append, List.replicate, Nat.reduceAdd, Nat.reduceSub, Nat.reduceLeDiff, decide_true, decide_false, Bool.not_true, Bool.not_false, Bool.and_true, Bool.true_and, Bool.and_false, Bool.false_and, Int.cast_ofNat_Int, Int.reduceEq, Int.reduceNe, Int.reduceLT, Int.reduceLE, Int.reduceAdd, Int.reduceMul, Int.reduceSub, Int.reduceMod, Int.reduceDiv, Int.reduceNeg, isi_int, isi_nbool, isi_tup, oLe, oLt, oGt, oGe, iCmp, oAdd, oSub, iOp, noLocs, noLoc, oMod, oDiv, divOk, oMul, oNeg, gt_iff_lt, eq_self, true_or, or_true, or_false, false_or, and_true, true_and, and_false, false_and, e0, ix_iv, el_iv, e1, e3, isLst0, append0 _ _ hl]
  · rintro _ _ ⟨j, hm, rfl, rfl⟩
    have e0 : ixO [.lst (upto a p (j + 1))] (.loc 0) (.int (-1)) = some (iv (it a j p)) := by rw [upto_succ]; exact ix_last _ _
    have e1 : a.to (it a j p) = p := by
      have h1 : a.to (it a j p) = it a (j + 1) p := rfl
      rw [h1, show j + 1 = len a p by omega, len_it]
    have e3 : ∀ S, ixO S (.tup [iv p, .int ((a.tw (it a j p)).val : Int)]) (.int 0) = some (.int (p.val : Int)) := fun _ => rfl
    have e4 : iv p = .int (p.val : Int) := rfl
    refine ⟨[.lst (upto a p (j + 1))], ?_, rfl, wp_of (o := .rt (.loc 0)) rfl ⟨_, rfl, ?_⟩⟩
    · simp only [mSeq, mSet, mThen, mVar, mC, mOp, mUn, mChain, mB, mNot, mAnd, mOr, mOfB, mIf, mAndV, mOrV, mNil, mCons, mTup, mLst, mRet, mRetN, mIfS, mExpr, mSkip, mPat, mPar, mAug, mPut, mCB, mCall, mFz, mLoc, mBM, M.bind, M.ret, M.rd, M.ofR, List.getElem?_cons_zero, List.getElem?_cons_succ, List.set_cons_zero, List.set_cons_succ, asB, Pat.put, Pat.puts, Option.map_some, Option.bind_some, if_true, if_false, reduceIte, Bool.false_eq_true, Bool.true_eq_false, List.length_cons, List.length_nil, List.map_cons, List.map_nil, List.append_nil, List.nil_append, List.cons_append, List.replicate, Nat.reduceAdd, Nat.reduceSub, Nat.reduceLeDiff, decide_true, decide_false, Bool.not_true, Bool.not_false, Bool.and_true, Bool.true_and, Bool.and_false, Bool.false_and, Int.cast_ofNat_Int, Int.reduceEq, Int.reduceNe, Int.reduceLT, Int.reduceLE, Int.reduceAdd, Int.reduceMul, Int.reduceSub, Int.reduceMod, Int.reduceDiv, Int.reduceNeg, isi_int, isi_nbool, isi_tup, oLe, oLt, oGt, oGe, iCmp, oAdd, oSub, iOp, noLocs, noLoc, oMod, oDiv, divOk, oMul, oNeg, gt_iff_lt, eq_self, true_or, or_true, or_false, false_or, and_true, true_and, and_false, false_and, e0, ix_iv, el_iv, e1, e3]
      rw [e4, ne_int, decide_eq_true rfl]
      rfl
    · rw [show j + 1 = len a p by omega, upto_len]
      exact frz_lst rfl (noLocs_iv _)
theorem intsD_map {α : Type} (g : α → Int) : ∀ l : List α, intsD (l.map fun q => D.int (g q)) = some (l.map g)
  | [] => rfl
  | x :: l => by rw [List.map_cons, intsD, intsD_map g l]; rfl
theorem o_sum {α : Type} (S : List Cell) (g : α → Int) (l : List α) : oSum S [.lst (l.map fun q => D.int (g q))] = some (.int (l.map g).sum) := by
  show ((some (l.map fun q => D.int (g q))).bind intsD).map _ = _
  rw [Option.bind_some, intsD_map]
  rfl
def twi (a : Mv n) (q : Fin n) : Int := ((a.tw q).val : Int)
/-- the comprehension of a ring's turns -/
theorem lc_turns (a : Mv n) (l : List (Fin n)) (hl : l.length ≤ 8) (v j : Nat) (σ : Sl) (S : List Cell) {fi : Sl → M (List D)} (hi : fi σ S = some (.ok (l.map iv), S)) (hs : ∀ x : D, ((wipeD σ [v]).set v (some x))[0]? = some (some (enc a))) (hv : ∀ x : D, ((wipeD σ [v]).set v (some x))[v]? = some (some x)) :
    mLc [v] (.nm v) mYes (mOp ixO (mOp ixO (mVar 0) (mVar v)) (mC (.int 1))) fi σ S = some (.ok (l.map fun q => D.int (twi a q)), S) := by
  refine lc_eq iv (fun q => D.int (twi a q)) l hi (line8 (by omega)) fun q _ => ⟨_, rfl, rfl, ?_⟩
  simp only [mSeq, mSet, mThen, mVar, mC, mOp, mUn, mChain, mB, mNot, mAnd, mOr, mOfB, mIf, mAndV, mOrV, mNil, mCons, mTup, mLst, mRet, mRetN, mIfS, mExpr, mSkip, mPat, mPar, mAug, mPut, mCB, mCall, mFz, mLoc, mBM, M.bind, M.ret, M.rd, M.ofR, List.getElem?_cons_zero, List.getElem?_cons_succ, List.set_cons_zero, List.set_cons_succ, asB, Pat.put, Pat.puts, Option.map_some, Option.bind_some, if_true, if_false, reduceIte, Bool.false_eq_true, Bool.true_eq_false, List.length_cons, List.length_nil, List.map_cons, List.map_nil, List.append_nil, List.nil_append, List.cons_append, List.replicate, Nat.reduceAdd, Nat.reduceSub, Nat.reduceLeDiff, decide_true, decide_false, Bool.not_true, Bool.not_false, Bool.and_true, Bool.true_and, Bool.and_false, Bool.false_and, Int.cast_ofNat_Int, Int.reduceEq, Int.reduceNe, Int.reduceLT, Int.reduceLE, Int.reduceAdd, Int.reduceMul, Int.reduceSub, Int.reduceMod, Int.reduceDiv, Int.reduceNeg, isi_int, isi_nbool, isi_tup, oLe, oLt, oGt, oGe, iCmp, oAdd, oSub, iOp, noLocs, noLoc, oMod, oDiv, divOk, oMul, oNeg, gt_iff_lt, eq_self, true_or, or_true, or_false, false_or, and_true, true_and, and_false, false_and, hs, hv, ix_iv]
  rfl
theorem big64 : (1000 : Int) < 2 ^ 64 := by decide +kernel
theorem mulOk_small {i j : Int} (h : i.natAbs ≤ 1000 ∨ j.natAbs ≤ 1000) : mulOk i j = true := by
  unfold mulOk
  have hb := big64
  rw [Bool.or_eq_true, decide_eq_true_iff, decide_eq_true_iff]
  generalize (2 : Int) ^ 64 = N at hb ⊢
  omega
end W3
end
section
set_option linter.all false
set_option maxRecDepth 100000
set_option maxHeartbeats 2000000
namespace W3
open Rw Mv
variable {n : Nat}
theorem op_eq {op : Op2} {fa fb : Sl → M D} {σ : Sl} {S : List Cell} {x y d : D} (h1 : fa σ S = some (.ok x, S)) (h2 : fb σ S = some (.ok y, S)) (h : op S x y = some d) : mOp op fa fb σ S = some (.ok d, S) := by
  unfold mOp M.bind
  rw [h1]
  dsimp only
  rw [h2]
  dsimp only
  unfold M.rd
  dsimp only
  rw [h]
theorem mul_int (S : List Cell) {i j : Int} (h : mulOk i j = true) : oMul S (.int i) (.int j) = some (.int (i * j)) := by
  show (if mulOk i j = true then some (D.int (i * j)) else none) = _
  rw [if_pos h]
theorem div_int (S : List Cell) {i j : Int} (h : divOk i j = true) : oDiv S (.int i) (.int j) = some (.int (i / j)) := by
  show (if divOk i j = true then some (D.int (i / j)) else none) = _
  rw [if_pos h]
theorem o_gcd4 (t : Nat) (S : List Cell) : oGcd S [.int 4, .int (t : Int)] = some (.int ((Nat.gcd 4 t : Nat) : Int)) := by
  simp [oGcd]
theorem ownRound (a : Mv n) (p : Fin n) (h8 : n ≤ 8) : f_own_round [enc a, iv p] = some (.ok (.int (rnd a p : Int))) := by
  obtain ⟨g, hg0⟩ : ∃ g, g = Nat.gcd 4 (tws a p) := ⟨_, rfl⟩
  have hg : 1 ≤ g := by rw [hg0]; exact Nat.gcd_pos_of_pos_left _ (by decide)
  have hg4 : g ≤ 4 := by rw [hg0]; exact Nat.gcd_le_left _ (by decide)
  have eg : ∀ S, oGcd S [.int 4, .int (tws a p : Int)] = some (.int (g : Int)) := fun S => by rw [hg0]; exact o_gcd4 _ S
  have hle := len_le a p
  have c1 : divOk 4 (g : Int) = true := by
    unfold divOk
    exact decide_eq_true (by omega)
  have c2 : mulOk (len a p : Int) (4 / (g : Int)) = true := mulOk_small (.inl (by omega))
  have c3 : (len a p : Int) * (4 / (g : Int)) = (rnd a p : Int) := by
    unfold rnd
    rw [← hg0, Int.natCast_mul, Int.natCast_ediv, Int.cast_ofNat_Int]
  clear hg0
  refine run_rt rfl rfl ?_
  unfold b_own_round
  show WP (mSeq _ _ [some (enc a), some (iv p), none, none, none] []) _
  refine wp_seq1 (σ1 := [some (enc a), some (iv p), some (.lst ((rng a p).map iv)), none, none]) (S1 := []) (by
    have : noLoc (iv p) = true := rfl
    simp only [mSeq, mSet, mThen, mVar, mC, mOp, mUn, mChain, mB, mNot, mAnd, mOr, mOfB, mIf, mAndV, mOrV, mNil, mCons, mTup, mLst, mRet, mRetN, mIfS, mExpr, mSkip, mPat, mPar, mAug, mPut, mCB, mCall, mFz, mLoc, mBM, M.bind, M.ret, M.rd, M.ofR, List.getElem?_cons_zero, List.getElem?_cons_succ, List.set_cons_zero, List.set_cons_succ, asB, Pat.put, Pat.puts, Option.map_some, Option.bind_some, if_true, if_false, reduceIte, Bool.false_eq_true, Bool.true_eq_false, List.length_cons, List.length_nil, List.map_cons, List.map_nil, List.append_nil, List.nil_append, List.cons_append, List.replicate, Nat.reduceAdd, Nat.reduceSub, Nat.reduceLeDiff, decide_true, decide_false, Bool.not_true, Bool.not_false, Bool.and_true, Bool.true_and, Bool.and_false, Bool.false_and, Int.cast_ofNat_Int, Int.reduceEq, Int.reduceNe, Int.reduceLT, Int.reduceLE, Int.reduceAdd, Int.reduceMul, Int.reduceSub, Int.reduceMod, Int.reduceDiv, Int.reduceNeg, isi_int, isi_nbool, isi_tup, oLe, oLt, oGt, oGe, iCmp, oAdd, oSub, iOp, noLocs, noLoc, oMod, oDiv, divOk, oMul, oNeg, gt_iff_lt, eq_self, true_or, or_true, or_false, false_or, and_true, true_and, and_false, false_and, noLoc_enc, this, ringFrom a p h8]) ?_
  have hl := lc_turns a (rng a p) (by rw [rng_length]; omega) 4 0 [some (enc a), some (iv p), some (.lst ((rng a p).map iv)), none, none] [] (fi := mIter (mVar 2)) rfl (fun _ => rfl) fun _ => rfl
  refine wp_seq1 (σ1 := [some (enc a), some (iv p), some (.lst ((rng a p).map iv)), some (.int (tws a p : Int)), none]) (S1 := []) (by
    have e2 : ((rng a p).map (twi a)).sum = (tws a p : Int) := sum_rng a p
    simp only [mSeq, mSet, mThen, mVar, mC, mOp, mUn, mChain, mB, mNot, mAnd, mOr, mOfB, mIf, mAndV, mOrV, mNil, mCons, mTup, mLst, mRet, mRetN, mIfS, mExpr, mSkip, mPat, mPar, mAug, mPut, mCB, mCall, mFz, mLoc, mBM, M.bind, M.ret, M.rd, M.ofR, List.getElem?_cons_zero, List.getElem?_cons_succ, List.set_cons_zero, List.set_cons_succ, asB, Pat.put, Pat.puts, Option.map_some, Option.bind_some, if_true, if_false, reduceIte, Bool.false_eq_true, Bool.true_eq_false, List.length_cons, List.length_nil, List.map_cons, List.map_nil, List.append_nil, List.nil_append, List.cons_append, List.replicate, Nat.reduceAdd, Nat.reduceSub, Nat.reduceLeDiff, decide_true, decide_false, Bool.not_true, Bool.not_false, Bool.and_true, Bool.true_and, Bool.and_false, Bool.false_and, Int.cast_ofNat_Int, Int.reduceEq, Int.reduceNe, Int.reduceLT, Int.reduceLE, Int.reduceAdd, Int.reduceMul, Int.reduceSub, Int.reduceMod, Int.reduceDiv, Int.reduceNeg, isi_int, isi_nbool, isi_tup, oLe, oLt, oGt, oGe, iCmp, oAdd, oSub, iOp, noLocs, noLoc, oMod, oDiv, divOk, oMul, oNeg, gt_iff_lt, eq_self, true_or, or_true, or_false, false_or, and_true, true_and, and_false, false_and, hl, o_sum, e2]) ?_
  refine wp_of (o := .rt _) (σ := [some (enc a), some (iv p), some (.lst ((rng a p).map iv)), some (.int (tws a p : Int)), none]) (S := []) ?_ rfl
  have el0 : ∀ S, oLen S [.lst ((rng a p).map iv)] = some (.int (len a p : Int)) := fun S => by rw [len_lst, List.length_map, rng_length]
  have q1 : ∀ σ : Sl, σ[2]? = some (some (.lst ((rng a p).map iv))) → mCB oLen (mCons (mVar 2) mNil) σ [] = some (.ok (.int (len a p : Int)), []) := fun σ h => by simp only [mSeq, mSet, mThen, mVar, mC, mOp, mUn, mChain, mB, mNot, mAnd, mOr, mOfB, mIf, mAndV, mOrV, mNil, mCons, mTup, mLst, mRet, mRetN, mIfS, mExpr, mSkip, mPat, mPar, mAug, mPut, mCB, mCall, mFz, mLoc, mBM, M.bind, M.ret, M.rd, M.ofR, List.getElem?_cons_zero, List.getElem?_cons_succ, List.set_cons_zero, List.set_cons_succ, asB, Pat.put, Pat.puts, Option.map_some, Option.bind_some, if_true, if_false, reduceIte, Bool.false_eq_true, Bool.true_eq_false, List.length_cons, List.length_nil, List.map_cons, List.map_nil, List.append_nil, List.nil_append, List.cons_append, List.replicate, Nat.reduceAdd, Nat.reduceSub, Nat.reduceLeDiff, decide_true, decide_false, Bool.not_true, Bool.not_false, Bool.and_true, Bool.true_and, Bool.and_false, Bool.false_and, Int.cast_ofNat_Int, Int.reduceEq, Int.reduceNe, Int.reduceLT, Int.reduceLE, Int.reduceAdd, Int.reduceMul, Int.reduceSub, Int.reduceMod, Int.reduceDiv, Int.reduceNeg, isi_int, isi_nbool, isi_tup, oLe, oLt, oGt, oGe, iCmp, oAdd, oSub, iOp, noLocs, noLoc, oMod, oDiv, divOk, oMul, oNeg, gt_iff_lt, eq_self, true_or, or_true, or_false, false_or, and_true, true_and, and_false, false_and, h, el0]
  have q2 : ∀ σ : Sl, σ[3]? = some (some (.int (tws a p : Int))) → mCB oGcd (mCons (mC (.int 4)) (mCons (mVar 3) mNil)) σ [] = some (.ok (.int (g : Int)), []) := fun σ h => by simp only [mSeq, mSet, mThen, mVar, mC, mOp, mUn, mChain, mB, mNot, mAnd, mOr, mOfB, mIf, mAndV, mOrV, mNil, mCons, mTup, mLst, mRet, mRetN, mIfS, mExpr, mSkip, mPat, mPar, mAug, mPut, mCB, mCall, mFz, mLoc, mBM, M.bind, M.ret, M.rd, M.ofR, List.getElem?_cons_zero, List.getElem?_cons_succ, List.set_cons_zero, List.set_cons_succ, asB, Pat.put, Pat.puts, Option.map_some, Option.bind_some, if_true, if_false, reduceIte, Bool.false_eq_true, Bool.true_eq_false, List.length_cons, List.length_nil, List.map_cons, List.map_nil, List.append_nil, List.nil_append, List.cons_append, List.replicate, Nat.reduceAdd, Nat.reduceSub, Nat.reduceLeDiff, decide_true, decide_false, Bool.not_true, Bool.not_false, Bool.and_true, Bool.true_and, Bool.and_false, Bool.false_and, Int.cast_ofNat_Int, Int.reduceEq, Int.reduceNe, Int.reduceLT, Int.reduceLE, Int.reduceAdd, Int.reduceMul, Int.reduceSub, Int.reduceMod, Int.reduceDiv, Int.reduceNeg, isi_int, isi_nbool, isi_tup, oLe, oLt, oGt, oGe, iCmp, oAdd, oSub, iOp, noLocs, noLoc, oMod, oDiv, divOk, oMul, oNeg, gt_iff_lt, eq_self, true_or, or_true, or_false, false_or, and_true, true_and, and_false, false_and, h, eg]
  have q3 := op_eq (q1 [some (enc a), some (iv p), some (.lst ((rng a p).map iv)), some (.int (tws a p : Int)), none] rfl) (op_eq (rfl : mC (.int 4) _ _ = _) (q2 [some (enc a), some (iv p), some (.lst ((rng a p).map iv)), some (.int (tws a p : Int)), none] rfl) (div_int [] c1)) (mul_int [] c2)
  rw [c3] at q3
  unfold mRet mThen
  rw [q3]
theorem rg1_fin (n : Nat) : rg1D (n : Int) = (List.finRange n).map iv := by
  rw [show (iv : Fin n → D) = D.int ∘ (fun i : Fin n => (i.val : Int)) from rfl, ← List.map_map, range_fin, ← rgD_fin]
  unfold rg1D rgD
  rw [show ((n : Int) - 0).toNat = (n : Int).toNat by omega]
theorem mRg1_n (h8 : n ≤ 8) (f : Sl → M D) (σ : Sl) (S : List Cell) (h : f σ S = some (.ok (.int (n : Int)), S)) : mRg1 f σ S = some (.ok ((List.finRange n).map iv), S) := by
  have c1 : (-1000000 ≤ (n : Int)) ∧ ((n : Int) ≤ 1000000) := by omega
  simp only [mSeq, mSet, mThen, mVar, mC, mOp, mUn, mChain, mB, mNot, mAnd, mOr, mOfB, mIf, mAndV, mOrV, mNil, mCons, mTup, mLst, mRet, mRetN, mIfS, mExpr, mSkip, mPat, mPar, mAug, mPut, mCB, mCall, mFz, mLoc, mBM, M.bind, M.ret, M.rd, M.ofR, List.getElem?_cons_zero, List.getElem?_cons_succ, List.set_cons_zero, List.set_cons_succ, asB, Pat.put, Pat.puts, Option.map_some, Option.bind_some, if_true, if_false, reduceIte, Bool.false_eq_true, Bool.true_eq_false, List.length_cons, List.length_nil, List.map_cons, List.map_nil, List.append_nil, List.nil_append, List.cons_append, List.replicate, Nat.reduceAdd, Nat.reduceSub, Nat.reduceLeDiff, decide_true, decide_false, Bool.not_true, Bool.not_false, Bool.and_true, Bool.true_and, Bool.and_false, Bool.false_and, Int.cast_ofNat_Int, Int.reduceEq, Int.reduceNe, Int.reduceLT, Int.reduceLE, Int.reduceAdd, Int.reduceMul, Int.reduceSub, Int.reduceMod, Int.reduceDiv, Int.reduceNeg, isi_int, isi_nbool, isi_tup, oLe, oLt, oGt, oGe, iCmp, oAdd, oSub, iOp, noLocs, noLoc, oMod, oDiv, divOk, oMul, oNeg, gt_iff_lt, eq_self, true_or, or_true, or_false, false_or, and_true, true_and, and_false, false_and, mRg1, h, if_pos c1, rg1_fin]
theorem rounds (a : Mv n) (h1 : 1 ≤ n) (h8 : n ≤ 8) : f_rounds [enc a] = some (.ok (.tup ((List.finRange n).map fun p => D.int (rnd a p : Int)))) := by
  refine run_rt rfl (noLocs_map _ (fun _ => rfl) _) (wp_of (o := .rt _) (σ := [some (enc a), none]) (S := []) ?_ rfl)
  unfold b_rounds
  have e1 := lc_eq (σ := [some (enc a), none]) (S := []) iv (fun p : Fin n => D.int (rnd a p : Int)) (List.finRange n) (vs := [1]) (p := .nm 1) (t := mYes) (ex := mCall f_own_round (mCons (mVar 0) (mCons (mVar 1) mNil))) (fi := mRg1 (mCB oLen (mCons (mVar 0) mNil)))
    (mRg1_n h8 _ _ _ (by simp only [mSeq, mSet, mThen, mVar, mC, mOp, mUn, mChain, mB, mNot, mAnd, mOr, mOfB, mIf, mAndV, mOrV, mNil, mCons, mTup, mLst, mRet, mRetN, mIfS, mExpr, mSkip, mPat, mPar, mAug, mPut, mCB, mCall, mFz, mLoc, mBM, M.bind, M.ret, M.rd, M.ofR, List.getElem?_cons_zero, List.getElem?_cons_succ, List.set_cons_zero, List.set_cons_succ, asB, Pat.put, Pat.puts, Option.map_some, Option.bind_some, if_true, if_false, reduceIte, Bool.false_eq_true, Bool.true_eq_false, List.length_cons, List.length_nil, List.map_cons, List.map_nil, List.append_nil, List.nil_append, List.cons_append, List.replicate, Nat.reduceAdd, Nat.reduceSub, Nat.reduceLeDiff, decide_true, decide_false, Bool.not_true, Bool.not_false, Bool.and_true, Bool.true_and, Bool.and_false, Bool.false_and, Int.cast_ofNat_Int, Int.reduceEq, Int.reduceNe, Int.reduceLT, Int.reduceLE, Int.reduceAdd, Int.reduceMul, Int.reduceSub, Int.reduceMod, Int.reduceDiv, Int.reduceNeg, isi_int, isi_nbool, isi_tup, oLe, oLt, oGt, oGe, iCmp, oAdd, oSub, iOp, noLocs, noLoc, oMod, oDiv, divOk, oMul, oNeg, gt_iff_lt, eq_self, true_or, or_true, or_false, false_or, and_true, true_and, and_false, false_and, len_enc])) (by rw [List.length_finRange]; exact line8 (by omega)) fun p _ => ⟨[some (enc a), some (iv p)], rfl, rfl, by
      have : noLoc (iv p) = true := rfl
      simp only [mSeq, mSet, mThen, mVar, mC, mOp, mUn, mChain, mB, mNot, mAnd, mOr, mOfB, mIf, mAndV, mOrV, mNil, mCons, mTup, mLst, mRet, mRetN, mIfS, mExpr, mSkip, mPat, mPar, mAug, mPut, mCB, mCall, mFz, mLoc, mBM, M.bind, M.ret, M.rd, M.ofR, List.getElem?_cons_zero, List.getElem?_cons_succ, List.set_cons_zero, List.set_cons_succ, asB, Pat.put, Pat.puts, Option.map_some, Option.bind_some, if_true, if_false, reduceIte, Bool.false_eq_true, Bool.true_eq_false, List.length_cons, List.length_nil, List.map_cons, List.map_nil, List.append_nil, List.nil_append, List.cons_append, List.replicate, Nat.reduceAdd, Nat.reduceSub, Nat.reduceLeDiff, decide_true, decide_false, Bool.not_true, Bool.not_false, Bool.and_true, Bool.true_and, Bool.and_false, Bool.false_and, Int.cast_ofNat_Int, Int.reduceEq, Int.reduceNe, Int.reduceLT, Int.reduceLE, Int.reduceAdd, Int.reduceMul, Int.reduceSub, Int.reduceMod, Int.reduceDiv, Int.reduceNeg, isi_int, isi_nbool, isi_tup, oLe, oLt, oGt, oGe, iCmp, oAdd, oSub, iOp, noLocs, noLoc, oMod, oDiv, divOk, oMul, oNeg, gt_iff_lt, eq_self, true_or, or_true, or_false, false_or, and_true, true_and, and_false, false_and, noLoc_enc, this, ownRound a p h8]⟩
  simp only [mSeq, mSet, mThen, mVar, mC, mOp, mUn, mChain, mB, mNot, mAnd, mOr, mOfB, mIf, mAndV, mOrV, mNil, mCons, mTup, mLst, mRet, mRetN, mIfS, mExpr, mSkip, mPat, mPar, mAug, mPut, mCB, mCall, mFz, mLoc, mBM, M.bind, M.ret, M.rd, M.ofR, List.getElem?_cons_zero, List.getElem?_cons_succ, List.set_cons_zero, List.set_cons_succ, asB, Pat.put, Pat.puts, Option.map_some, Option.bind_some, if_true, if_false, reduceIte, Bool.false_eq_true, Bool.true_eq_false, List.length_cons, List.length_nil, List.map_cons, List.map_nil, List.append_nil, List.nil_append, List.cons_append, List.replicate, Nat.reduceAdd, Nat.reduceSub, Nat.reduceLeDiff, decide_true, decide_false, Bool.not_true, Bool.not_false, Bool.and_true, Bool.true_and, Bool.and_false, Bool.false_and, Int.cast_ofNat_Int, Int.reduceEq, Int.reduceNe, Int.reduceLT, Int.reduceLE, Int.reduceAdd, Int.reduceMul, Int.reduceSub, Int.reduceMod, Int.reduceDiv, Int.reduceNeg, isi_int, isi_nbool, isi_tup, oLe, oLt, oGt, oGe, iCmp, oAdd, oSub, iOp, noLocs, noLoc, oMod, oDiv, divOk, oMul, oNeg, gt_iff_lt, eq_self, true_or, or_true, or_false, false_or, and_true, true_and, and_false, false_and, noLoc_enc, checkMove a h1 h8, e1]
  rfl
theorem cut_pre (a : Mv n) (p : Fin n) (r : Nat) (hr : r ≤ len a p) : cutL ((rng a p).map iv) none (some (r : Int)) = ((List.range r).map fun k => it a k p).map iv := by
  unfold cutL
  have hl : ((rng a p).map iv).length = len a p := by rw [List.length_map, rng_length]
  rw [hl]
  have e1 : HT.sIx (len a p) 0 none = 0 := rfl
  have e2 : HT.sIx (len a p) (len a p) (some (r : Int)) = r := by
    unfold HT.sIx
    have h0 : ¬ ((r : Int) < 0) := by omega
    simp only [h0, if_false, Int.toNat_natCast]
    exact Nat.min_eq_left hr
  rw [e1, e2, List.drop_zero, Nat.sub_zero, ← List.map_take]
  congr 1
  unfold rng
  rw [← List.map_take, List.take_range, Nat.min_eq_left hr]
theorem ring_ix (a : Mv n) (p : Fin n) (r : Nat) (hr : r < len a p) (S : List Cell) : ixO S (.lst ((rng a p).map iv)) (.int (r : Int)) = some (iv (it a r p)) := by
  show L2.atI ((rng a p).map iv) (r : Int) = _
  unfold L2.atI L2.ixN
  rw [List.length_map, rng_length, if_pos (by omega), if_pos (by omega)]
  show ((rng a p).map iv)[((r : Int)).toNat]? = _
  rw [Int.toNat_natCast]
  unfold rng
  simp [hr]
theorem landed (a : Mv n) (p : Fin n) (k : Int) (h8 : n ≤ 8) : f_landed [enc a, iv p, .int k] = some (.ok (el (zp a k) p)) := by
  refine run_rt rfl rfl ?_
  unfold b_landed
  show WP (mSeq _ _ [some (enc a), some (iv p), some (.int k), none, none, none, none, none] []) _
  refine wp_seq1 (σ1 := [some (enc a), some (iv p), some (.int k), some (.lst ((rng a p).map iv)), none, none, none, none]) (S1 := []) (by
    have : noLoc (iv p) = true := rfl
    simp only [mSeq, mSet, mThen, mVar, mC, mOp, mUn, mChain, mB, mNot, mAnd, mOr, mOfB, mIf, mAndV, mOrV, mNil, mCons, mTup, mLst, mRet, mRetN, mIfS, mExpr, mSkip, mPat, mPar, mAug, mPut, mCB, mCall, mFz, mLoc, mBM, M.bind, M.ret, M.rd, M.ofR, List.getElem?_cons_zero, List.getElem?_cons_succ, List.set_cons_zero, List.set_cons_succ, asB, Pat.put, Pat.puts, Option.map_some, Option.bind_some, if_true, if_false, reduceIte, Bool.false_eq_true, Bool.true_eq_false, List.length_cons, List.length_nil, List.map_cons, List.map_nil, List.append_nil, List.nil_append, List.cons_append, List.replicate, Nat.reduceAdd, Nat.reduceSub, Nat.reduceLeDiff, decide_true, decide_false, Bool.not_true, Bool.not_false, Bool.and_true, Bool.true_and, Bool.and_false, Bool.false_and, Int.cast_ofNat_Int, Int.reduceEq, Int.reduceNe, Int.reduceLT, Int.reduceLE, Int.reduceAdd, Int.reduceMul, Int.reduceSub, Int.reduceMod, Int.reduceDiv, Int.reduceNeg, isi_int, isi_nbool, isi_tup, oLe, oLt, oGt, oGe, iCmp, oAdd, oSub, iOp, noLocs, noLoc, oMod, oDiv, divOk, oMul, oNeg, gt_iff_lt, eq_self, true_or, or_true, or_false, false_or, and_true, true_and, and_false, false_and, noLoc_enc, this, ringFrom a p h8]) ?_
  have hpos := len_pos a p
  have hle := len_le a p
  have hlz : (0 : Int) < (len a p : Int) := by omega
  have hm0 := Int.emod_nonneg k (show (len a p : Int) ≠ 0 by omega)
  have hm1 := Int.emod_lt_of_pos k hlz
  obtain ⟨r, hr⟩ : ∃ r : Nat, (r : Int) = k % (len a p : Int) := ⟨(k % (len a p : Int)).toNat, by omega⟩
  have hrl : r < len a p := by omega
  have el0 : ∀ S, oLen S [.lst ((rng a p).map iv)] = some (.int (len a p : Int)) := fun S => by rw [len_lst, List.length_map, rng_length]
  have c1 : decide ((0 : Int) < (len a p : Int) ∧ (len a p : Int) < 1073741824) = true := decide_eq_true (by omega)
  have c2 : decide ((0 : Int) < (len a p : Int)) = true := decide_eq_true hlz
  refine wp_seq1 (σ1 := [some (enc a), some (iv p), some (.int k), some (.lst ((rng a p).map iv)), some (.int (k / (len a p : Int))), some (.int (r : Int)), none, none]) (S1 := []) (by simp only [mSeq, mSet, mThen, mVar, mC, mOp, mUn, mChain, mB, mNot, mAnd, mOr, mOfB, mIf, mAndV, mOrV, mNil, mCons, mTup, mLst, mRet, mRetN, mIfS, mExpr, mSkip, mPat, mPar, mAug, mPut, mCB, mCall, mFz, mLoc, mBM, M.bind, M.ret, M.rd, M.ofR, List.getElem?_cons_zero, List.getElem?_cons_succ, List.set_cons_zero, List.set_cons_succ, asB, Pat.put, Pat.puts, Option.map_some, Option.bind_some, if_true, if_false, reduceIte, Bool.false_eq_true, Bool.true_eq_false, List.length_cons, List.length_nil, List.map_cons, List.map_nil, List.append_nil, List.nil_append, List.cons_append, List.replicate, Nat.reduceAdd, Nat.reduceSub, Nat.reduceLeDiff, decide_true, decide_false, Bool.not_true, Bool.not_false, Bool.and_true, Bool.true_and, Bool.and_false, Bool.false_and, Int.cast_ofNat_Int, Int.reduceEq, Int.reduceNe, Int.reduceLT, Int.reduceLE, Int.reduceAdd, Int.reduceMul, Int.reduceSub, Int.reduceMod, Int.reduceDiv, Int.reduceNeg, isi_int, isi_nbool, isi_tup, oLe, oLt, oGt, oGe, iCmp, oAdd, oSub, iOp, noLocs, noLoc, oMod, oDiv, divOk, oMul, oNeg, gt_iff_lt, eq_self, true_or, or_true, or_false, false_or, and_true, true_and, and_false, false_and, el0, c1, c2, hr]) ?_
  have hl1 := lc_turns a (rng a p) (by rw [rng_length]; omega) 7 0 [some (enc a), some (iv p), some (.int k), some (.lst ((rng a p).map iv)), some (.int (k / (len a p : Int))), some (.int (r : Int)), none, none] [] (fi := mIter (mVar 3)) rfl (fun _ => rfl) fun _ => rfl
  have hcut : ∀ S, lstOf S (.lst ((rng a p).map iv)) = some ((rng a p).map iv) := fun _ => rfl
  have hl2 := lc_turns a ((List.range r).map fun k => it a k p) (by simp; omega) 7 0 [some (enc a), some (iv p), some (.int k), some (.lst ((rng a p).map iv)), some (.int (k / (len a p : Int))), some (.int (r : Int)), none, none] [] (fi := mIter (mFz (mCut (mVar 3) mNoPart (mPart (mVar 5)))))
    (by simp only [mSeq, mSet, mThen, mVar, mC, mOp, mUn, mChain, mB, mNot, mAnd, mOr, mOfB, mIf, mAndV, mOrV, mNil, mCons, mTup, mLst, mRet, mRetN, mIfS, mExpr, mSkip, mPat, mPar, mAug, mPut, mCB, mCall, mFz, mLoc, mBM, M.bind, M.ret, M.rd, M.ofR, List.getElem?_cons_zero, List.getElem?_cons_succ, List.set_cons_zero, List.set_cons_succ, asB, Pat.put, Pat.puts, Option.map_some, Option.bind_some, if_true, if_false, reduceIte, Bool.false_eq_true, Bool.true_eq_false, List.length_cons, List.length_nil, List.map_cons, List.map_nil, List.append_nil, List.nil_append, List.cons_append, List.replicate, Nat.reduceAdd, Nat.reduceSub, Nat.reduceLeDiff, decide_true, decide_false, Bool.not_true, Bool.not_false, Bool.and_true, Bool.true_and, Bool.and_false, Bool.false_and, Int.cast_ofNat_Int, Int.reduceEq, Int.reduceNe, Int.reduceLT, Int.reduceLE, Int.reduceAdd, Int.reduceMul, Int.reduceSub, Int.reduceMod, Int.reduceDiv, Int.reduceNeg, isi_int, isi_nbool, isi_tup, oLe, oLt, oGt, oGe, iCmp, oAdd, oSub, iOp, noLocs, noLoc, oMod, oDiv, divOk, oMul, oNeg, gt_iff_lt, eq_self, true_or, or_true, or_false, false_or, and_true, true_and, and_false, false_and, mIter, mCut, mNoPart, mPart, hcut, cut_pre a p r (by omega), frzSeq]) (fun _ => rfl) fun _ => rfl
  have e2 : ((rng a p).map (twi a)).sum = (tws a p : Int) := sum_rng a p
  have e3 : (((List.range r).map fun k => it a k p).map (twi a)).sum = (sm a r p : Int) := by
    rw [List.map_map]; exact sum_sm a p r
  have htw : ∀ k, sm a k p ≤ 4 * k := by
    intro k
    induction k with
    | zero => exact Nat.le_refl _
    | succ k ih =>
      have := (a.tw (it a k p)).isLt
      show sm a k p + _ ≤ _
      omega
  have htws : tws a p ≤ 100 := by have := htw (len a p); unfold tws; omega
  have c3 : mulOk (k / (len a p : Int)) (tws a p : Int) = true := mulOk_small (.inr (by omega))
  refine wp_seq1 (σ1 := [some (enc a), some (iv p), some (.int k), some (.lst ((rng a p).map iv)), some (.int (k / (len a p : Int))), some (.int (r : Int)), some (.int (k / (len a p : Int) * (tws a p : Int) + (sm a r p : Int))), none]) (S1 := []) (by
    simp only [mSeq, mSet, mThen, mVar, mC, mOp, mUn, mChain, mB, mNot, mAnd, mOr, mOfB, mIf, mAndV, mOrV, mNil, mCons, mTup, mLst, mRet, mRetN, mIfS, mExpr, mSkip, mPat, mPar, mAug, mPut, mCB, mCall, mFz, mLoc, mBM, M.bind, M.ret, M.rd, M.ofR, List.getElem?_cons_zero, List.getElem?_cons_succ, List.set_cons_zero, List.set_cons_succ, asB, Pat.put, Pat.puts, Option.map_some, Option.bind_some, if_true, if_false, reduceIte, Bool.false_eq_true, Bool.true_eq_false, List.length_cons, List.length_nil, List.map_cons, List.map_nil, List.append_nil, List.nil_append, List.cons_append, List.replicate, Nat.reduceAdd, Nat.reduceSub, Nat.reduceLeDiff, decide_true, decide_false, Bool.not_true, Bool.not_false, Bool.and_true, Bool.true_and, Bool.and_false, Bool.false_and, Int.cast_ofNat_Int, Int.reduceEq, Int.reduceNe, Int.reduceLT, Int.reduceLE, Int.reduceAdd, Int.reduceMul, Int.reduceSub, Int.reduceMod, Int.reduceDiv, Int.reduceNeg, isi_int, isi_nbool, isi_tup, oLe, oLt, oGt, oGe, iCmp, oAdd, oSub, iOp, noLocs, noLoc, oMod, oDiv, divOk, oMul, oNeg, gt_iff_lt, eq_self, true_or, or_true, or_false, false_or, and_true, true_and, and_false, false_and, hl1, hl2, o_sum, e2, e3, c3]) ?_
  refine wp_of (o := .rt _) (σ := [some (enc a), some (iv p), some (.int k), some (.lst ((rng a p).map iv)), some (.int (k / (len a p : Int))), some (.int (r : Int)), some (.int (k / (len a p : Int) * (tws a p : Int) + (sm a r p : Int))), none]) (S := []) ?_ rfl
  obtain ⟨z1, z2⟩ := zp_at a p k
  have er : (k % (len a p : Int)).toNat = r := by omega
  rw [er] at z1 z2
  have e4 : el (zp a k) p = .tup [iv (it a r p), .int ((k / (len a p : Int) * (tws a p : Int) + (sm a r p : Int)) % 4)] := by
    rw [el_iv, z1, z2]
  rw [e4]
  simp only [mSeq, mSet, mThen, mVar, mC, mOp, mUn, mChain, mB, mNot, mAnd, mOr, mOfB, mIf, mAndV, mOrV, mNil, mCons, mTup, mLst, mRet, mRetN, mIfS, mExpr, mSkip, mPat, mPar, mAug, mPut, mCB, mCall, mFz, mLoc, mBM, M.bind, M.ret, M.rd, M.ofR, List.getElem?_cons_zero, List.getElem?_cons_succ, List.set_cons_zero, List.set_cons_succ, asB, Pat.put, Pat.puts, Option.map_some, Option.bind_some, if_true, if_false, reduceIte, Bool.false_eq_true, Bool.true_eq_false, List.length_cons, List.length_nil, List.map_cons, List.map_nil, List.append_nil, List.nil_append, List.cons_append, List.replicate, Nat.reduceAdd, Nat.reduceSub, Nat.reduceLeDiff, decide_true, decide_false, Bool.not_true, Bool.not_false, Bool.and_true, Bool.true_and, Bool.and_false, Bool.false_and, Int.cast_ofNat_Int, Int.reduceEq, Int.reduceNe, Int.reduceLT, Int.reduceLE, Int.reduceAdd, Int.reduceMul, Int.reduceSub, Int.reduceMod, Int.reduceDiv, Int.reduceNeg, isi_int, isi_nbool, isi_tup, oLe, oLt, oGt, oGe, iCmp, oAdd, oSub, iOp, noLocs, noLoc, oMod, oDiv, divOk, oMul, oNeg, gt_iff_lt, eq_self, true_or, or_true, or_false, false_or, and_true, true_and, and_false, false_and, ring_ix a p r hrl, line8, show (2 : Nat) ≤ LINE from by decide]
theorem checkPlace (a : Mv n) (p : Fin n) (h1 : 1 ≤ n) (h8 : n ≤ 8) : f__check_place [enc a, iv p] = some (.ok .non) := by
  refine run_nx rfl (wp_of (σ := [some (enc a), some (iv p)]) (S := []) ?_ rfl)
  unfold b__check_place
  have hp := p.isLt
  have e : iv p = .int (p.val : Int) := rfl
  have c1 : decide ((0 : Int) ≤ (p.val : Int)) = true := decide_eq_true (by omega)
  have c2 : decide ((p.val : Int) ≤ (n : Int) - 1) = true := decide_eq_true (by omega)
  rw [e]
  simp only [mSeq, mSet, mThen, mVar, mC, mOp, mUn, mChain, mB, mNot, mAnd, mOr, mOfB, mIf, mAndV, mOrV, mNil, mCons, mTup, mLst, mRet, mRetN, mIfS, mExpr, mSkip, mPat, mPar, mAug, mPut, mCB, mCall, mFz, mLoc, mBM, M.bind, M.ret, M.rd, M.ofR, List.getElem?_cons_zero, List.getElem?_cons_succ, List.set_cons_zero, List.set_cons_succ, asB, Pat.put, Pat.puts, Option.map_some, Option.bind_some, if_true, if_false, reduceIte, Bool.false_eq_true, Bool.true_eq_false, List.length_cons, List.length_nil, List.map_cons, List.map_nil, List.append_nil, List.nil_append, List.cons_append, List.replicate, Nat.reduceAdd, Nat.reduceSub, Nat.reduceLeDiff, decide_true, decide_false, Bool.not_true, Bool.not_false, Bool.and_true, Bool.true_and, Bool.and_false, Bool.false_and, Int.cast_ofNat_Int, Int.reduceEq, Int.reduceNe, Int.reduceLT, Int.reduceLE, Int.reduceAdd, Int.reduceMul, Int.reduceSub, Int.reduceMod, Int.reduceDiv, Int.reduceNeg, isi_int, isi_nbool, isi_tup, oLe, oLt, oGt, oGe, iCmp, oAdd, oSub, iOp, noLocs, noLoc, oMod, oDiv, divOk, oMul, oNeg, gt_iff_lt, eq_self, true_or, or_true, or_false, false_or, and_true, true_and, and_false, false_and, noLoc_enc, checkMove a h1 h8, len_enc, isWhole, c1, c2]
theorem after (a : Mv n) (p : Fin n) (k : Int) (h1 : 1 ≤ n) (h8 : n ≤ 8) : f_after [enc a, iv p, .int k] = some (.ok (el (zp a k) p)) := by
  refine run_rt rfl rfl (wp_of (o := .rt _) (σ := [some (enc a), some (iv p), some (.int k)]) (S := []) ?_ rfl)
  unfold b_after
  have : noLoc (iv p) = true := rfl
  simp only [mSeq, mSet, mThen, mVar, mC, mOp, mUn, mChain, mB, mNot, mAnd, mOr, mOfB, mIf, mAndV, mOrV, mNil, mCons, mTup, mLst, mRet, mRetN, mIfS, mExpr, mSkip, mPat, mPar, mAug, mPut, mCB, mCall, mFz, mLoc, mBM, M.bind, M.ret, M.rd, M.ofR, List.getElem?_cons_zero, List.getElem?_cons_succ, List.set_cons_zero, List.set_cons_succ, asB, Pat.put, Pat.puts, Option.map_some, Option.bind_some, if_true, if_false, reduceIte, Bool.false_eq_true, Bool.true_eq_false, List.length_cons, List.length_nil, List.map_cons, List.map_nil, List.append_nil, List.nil_append, List.cons_append, List.replicate, Nat.reduceAdd, Nat.reduceSub, Nat.reduceLeDiff, decide_true, decide_false, Bool.not_true, Bool.not_false, Bool.and_true, Bool.true_and, Bool.and_false, Bool.false_and, Int.cast_ofNat_Int, Int.reduceEq, Int.reduceNe, Int.reduceLT, Int.reduceLE, Int.reduceAdd, Int.reduceMul, Int.reduceSub, Int.reduceMod, Int.reduceDiv, Int.reduceNeg, isi_int, isi_nbool, isi_tup, oLe, oLt, oGt, oGe, iCmp, oAdd, oSub, iOp, noLocs, noLoc, oMod, oDiv, divOk, oMul, oNeg, gt_iff_lt, eq_self, true_or, or_true, or_false, false_or, and_true, true_and, and_false, false_and, noLoc_enc, this, checkPlace a p h1 h8, isi_int, isi_nbool, landed a p k h8]
end W3
end
section
set_option linter.all false
set_option maxRecDepth 100000
set_option maxHeartbeats 2000000
namespace W3
open Rw Mv
variable {n : Nat}
noncomputable def rD (a : Mv n) (p : Fin n) : D := .tup [.tup ((rng a p).map iv), .int ((tws a p % 4 : Nat) : Int)]
def sv (q : Fin n) : D × D := (iv q, .bl true)
theorem noLoc_rD (a : Mv n) (p : Fin n) : noLoc (rD a p) = true := by
  show (noLocs ((rng a p).map iv) && (true && true)) = true
  rw [noLocs_iv]
  rfl
theorem dGet_sv (p : Fin n) : ∀ sn : List (Fin n), (dGet (sn.map sv) (iv p)).isSome = decide (p ∈ sn)
  | [] => by simp [dGet]
  | q :: sn => by
    have ih := dGet_sv p sn
    unfold dGet at ih ⊢
    rw [List.map_cons, List.find?_cons]
    by_cases e : q = p
    · subst e
      simp [sv]
    · have e2 : decide ((sv q).1 = iv p) = false := decide_eq_false fun z => e (iv_inj z)
      simp only [e2]
      rw [ih]
      have : ¬ p = q := fun z => e z.symm
      simp [this]
theorem dMerge_new : ∀ (l sn : List (Fin n)), (sn ++ l).Nodup → dMerge (sn.map sv) (l.map sv) = (sn ++ l).map sv
  | [], sn, _ => by simp [dMerge]
  | x :: l, sn, nd => by
    have h1 : ∀ p ∈ sn.map sv, p.1 ≠ iv x := fun p hp e => by
      obtain ⟨q, hq, rfl⟩ := List.mem_map.mp hp
      have : q = x := iv_inj e
      subst this
      rw [List.nodup_append] at nd
      exact nd.2.2 q hq q List.mem_cons_self rfl
    have h2 := dMerge_new l (sn ++ [x]) (by rw [List.append_assoc]; exact nd)
    unfold dMerge at h2 ⊢
    rw [List.map_cons, List.foldl_cons, show (sv x).1 = iv x from rfl, show (sv x).2 = .bl true from rfl, dPut_new _ _ _ h1]
    rw [show sn.map sv ++ [(iv x, .bl true)] = (sn ++ [x]).map sv by rw [List.map_append]; rfl, h2, List.append_assoc]
    rfl
theorem nin0 (kvs : List (D × D)) (c : Cell) (p : Fin n) : ninD [.dct .k kvs, c] (iv p) (.loc 0) = some (.bl (!(dGet kvs (iv p)).isSome)) := rfl
theorem update0 (kvs more : List (D × D)) (c : Cell) (h : kvs.length + more.length ≤ LINE) : oUpdate [.dct .k kvs, c] (.loc 0) [.dct .k more] = some (.non, [.dct .k (dMerge kvs more), c]) := by
  show (if kvs.length + more.length ≤ LINE then some (D.non, [Cell.dct .k (dMerge kvs more), c]) else none) = _
  rw [if_pos h]
theorem isDct0 (kvs : List (D × D)) (c : Cell) : isDct [.dct .k kvs, c] (.loc 0) = true := rfl
theorem isLst1 (c : Cell) (ds : List D) : isLst [c, .lst ds] (.loc 1) = true := rfl
theorem append1 (c : Cell) (ds : List D) (d : D) (h : ds.length ≤ LINE) : oAppend [c, .lst ds] (.loc 1) [d] = some (.non, [c, .lst (ds ++ [d])]) := by
  show (if ds.length ≤ LINE then some (D.non, [c, Cell.lst (ds ++ [d])]) else none) = _
  rw [if_pos h]
theorem tupleL (S : List Cell) (ds : List D) : oTuple S [.lst ds] = some (.tup ds) := rfl
theorem allRings (a : Mv n) (h8 : n ≤ 8) : ∃ sn rs, Seen a sn rs ∧ (∀ i, i ∈ sn) ∧ rs.length ≤ 8 ∧ f_all_rings [enc a] = some (.ok (.lst (rs.map (rD a)))) := by
  have key : WP (b_all_rings [some (enc a), none, none, none, none, none] []) fun o σ S => ∃ sn rs, Seen a sn rs ∧ (∀ i, i ∈ sn) ∧ rs.length ≤ 8 ∧ o = .rt (.loc 1) ∧ S[1]? = some (.lst (rs.map (rD a))) := by
    unfold b_all_rings
    refine wp_seq1 (σ1 := [some (enc a), some (.loc 0), none, none, none, none]) (S1 := [.dct .k []]) rfl ?_
    refine wp_seq1 (σ1 := [some (enc a), some (.loc 0), some (.loc 1), none, none, none]) (S1 := [.dct .k [], .lst []]) rfl ?_
    refine wp_seq (wp_for iv (List.finRange n) (fun done σ S => ∃ sn rs x3 x4 x5, σ = [some (enc a), some (.loc 0), some (.loc 1), x3, x4, x5] ∧ S = [.dct .k (sn.map sv), .lst (rs.map (rD a))] ∧ Seen a sn rs ∧ (∀ q ∈ done, q ∈ sn) ∧ sn.length ≤ 8 * done.length ∧ rs.length ≤ done.length)
      (S1 := [.dct .k [], .lst []]) (mRg1_n h8 _ _ _ (by simp only [mSeq, mSet, mThen, mVar, mC, mOp, mUn, mChain, mB, mNot, mAnd, mOr, mOfB, mIf, mAndV, mOrV, mNil, mCons, mTup, mLst, mRet, mRetN, mIfS, mExpr, mSkip, mPat, mPar, mAug, mPut, mCB, mCall, mFz, mLoc, mBM, M.bind, M.ret, M.rd, M.ofR, List.getElem?_cons_zero, List.getElem?_cons_succ, List.set_cons_zero, List.set_cons_succ, asB, Pat.put, Pat.puts, Option.map_some, Option.bind_some, if_true, if_false, reduceIte, Bool.false_eq_true, Bool.true_eq_false, List.length_cons, List.length_nil, List.map_cons, List.map_nil, List.append_nil, List.nil_append, List.cons_append, List.replicate, Nat.reduceAdd, Nat.reduceSub, Nat.reduceLeDiff, decide_true, decide_false, Bool.not_true, Bool.not_false, Bool.and_true, Bool.true_and, Bool.and_false, Bool.false_and, Int.cast_ofNat_Int, Int.reduceEq, Int.reduceNe, Int.reduceLT, Int.reduceLE, Int.reduceAdd, Int.reduceMul, Int.reduceSub, Int.reduceMod, Int.reduceDiv, Int.reduceNeg, isi_int, isi_nbool, isi_tup, oLe, oLt, oGt, oGe, iCmp, oAdd, oSub, iOp, noLocs, noLoc, oMod, oDiv, divOk, oMul, oNeg, gt_iff_lt, eq_self, true_or, or_true, or_false, false_or, and_true, true_and, and_false, false_and, len_enc])) ⟨[], [], _, _, _, rfl, rfl, seen_nil a, fun q h => (by cases h), by simp, by simp⟩ ?_ ?_)
    · rintro done p rest _ _ hl ⟨sn, rs, x3, x4, x5, rfl, rfl, hs, hd, hn1, hn2⟩
      have hdl := done_le (l := done) hl h8
      refine ⟨_, rfl, ?_⟩
      show WP (mIfS _ _ _ [some (enc a), some (.loc 0), some (.loc 1), some (iv p), x4, x5] _) _
      by_cases hp : p ∈ sn
      · refine wp_ifF (S1 := [.dct .k (sn.map sv), .lst (rs.map (rD a))]) ?_ ⟨.inl rfl, sn, rs, _, _, _, rfl, rfl, hs, fun q hq => ?_, ?_, ?_⟩
        · simp only [mSeq, mSet, mThen, mVar, mC, mOp, mUn, mChain, mB, mNot, mAnd, mOr, mOfB, mIf, mAndV, mOrV, mNil, mCons, mTup, mLst, mRet, mRetN, mIfS, mExpr, mSkip, mPat, mPar, mAug, mPut, mCB, mCall, mFz, mLoc, mBM, M.bind, M.ret, M.rd, M.ofR, List.getElem?_cons_zero, List.getElem?_cons_succ, List.set_cons_zero, List.set_cons_succ, asB, Pat.put, Pat.puts, Option.map_some, Option.bind_some, if_true, if_false, reduceIte, Bool.false_eq_true, Bool.true_eq_false, List.length_cons, List.length_nil, List.map_cons, List.map_nil, List.append_nil, List.nil_append, List.cons_append, List.replicate, Nat.reduceAdd, Nat.reduceSub, Nat.reduceLeDiff, decide_true, decide_false, Bool.not_true, Bool.not_false, Bool.and_true, Bool.true_and, Bool.and_false, Bool.false_and, Int.cast_ofNat_Int, Int.reduceEq, Int.reduceNe, Int.reduceLT, Int.reduceLE, Int.reduceAdd, Int.reduceMul, Int.reduceSub, Int.reduceMod, Int.reduceDiv, Int.reduceNeg, isi_int, isi_nbool, isi_tup, oLe, oLt, oGt, oGe, iCmp, oAdd, oSub, iOp, noLocs, noLoc, oMod, oDiv, divOk, oMul, oNeg, gt_iff_lt, eq_self, true_or, or_true, or_false, false_or, and_true, true_and, and_false, false_and, nin0, dGet_sv, hp]
        · rcases List.mem_append.mp hq with z | z
          · exact hd q z
          · rw [List.mem_singleton.mp z]; exact hp
        · rw [List.length_append]; simp; omega
        · rw [List.length_append]; simp; omega
      · refine wp_if (b := true) (S1 := [.dct .k (sn.map sv), .lst (rs.map (rD a))]) (by simp only [mSeq, mSet, mThen, mVar, mC, mOp, mUn, mChain, mB, mNot, mAnd, mOr, mOfB, mIf, mAndV, mOrV, mNil, mCons, mTup, mLst, mRet, mRetN, mIfS, mExpr, mSkip, mPat, mPar, mAug, mPut, mCB, mCall, mFz, mLoc, mBM, M.bind, M.ret, M.rd, M.ofR, List.getElem?_cons_zero, List.getElem?_cons_succ, List.set_cons_zero, List.set_cons_succ, asB, Pat.put, Pat.puts, Option.map_some, Option.bind_some, if_true, if_false, reduceIte, Bool.false_eq_true, Bool.true_eq_false, List.length_cons, List.length_nil, List.map_cons, List.map_nil, List.append_nil, List.nil_append, List.cons_append, List.replicate, Nat.reduceAdd, Nat.reduceSub, Nat.reduceLeDiff, decide_true, decide_false, Bool.not_true, Bool.not_false, Bool.and_true, Bool.true_and, Bool.and_false, Bool.false_and, Int.cast_ofNat_Int, Int.reduceEq, Int.reduceNe, Int.reduceLT, Int.reduceLE, Int.reduceAdd, Int.reduceMul, Int.reduceSub, Int.reduceMod, Int.reduceDiv, Int.reduceNeg, isi_int, isi_nbool, isi_tup, oLe, oLt, oGt, oGe, iCmp, oAdd, oSub, iOp, noLocs, noLoc, oMod, oDiv, divOk, oMul, oNeg, gt_iff_lt, eq_self, true_or, or_true, or_false, false_or, and_true, true_and, and_false, false_and, nin0, dGet_sv, hp]) ?_
        rw [if_pos rfl]
        have hrl : (rng a p).length ≤ 8 := by rw [rng_length]; have := len_le a p; omega
        refine wp_seq1 (σ1 := [some (enc a), some (.loc 0), some (.loc 1), some (iv p), some (.lst ((rng a p).map iv)), x5]) (S1 := [.dct .k (sn.map sv), .lst (rs.map (rD a))]) (by
          have : noLoc (iv p) = true := rfl
          simp only [mSeq, mSet, mThen, mVar, mC, mOp, mUn, mChain, mB, mNot, mAnd, mOr, mOfB, mIf, mAndV, mOrV, mNil, mCons, mTup, mLst, mRet, mRetN, mIfS, mExpr, mSkip, mPat, mPar, mAug, mPut, mCB, mCall, mFz, mLoc, mBM, M.bind, M.ret, M.rd, M.ofR, List.getElem?_cons_zero, List.getElem?_cons_succ, List.set_cons_zero, List.set_cons_succ, asB, Pat.put, Pat.puts, Option.map_some, Option.bind_some, if_true, if_false, reduceIte, Bool.false_eq_true, Bool.true_eq_false, List.length_cons, List.length_nil, List.map_cons, List.map_nil, List.append_nil, List.nil_append, List.cons_append, List.replicate, Nat.reduceAdd, Nat.reduceSub, Nat.reduceLeDiff, decide_true, decide_false, Bool.not_true, Bool.not_false, Bool.and_true, Bool.true_and, Bool.and_false, Bool.false_and, Int.cast_ofNat_Int, Int.reduceEq, Int.reduceNe, Int.reduceLT, Int.reduceLE, Int.reduceAdd, Int.reduceMul, Int.reduceSub, Int.reduceMod, Int.reduceDiv, Int.reduceNeg, isi_int, isi_nbool, isi_tup, oLe, oLt, oGt, oGe, iCmp, oAdd, oSub, iOp, noLocs, noLoc, oMod, oDiv, divOk, oMul, oNeg, gt_iff_lt, eq_self, true_or, or_true, or_false, false_or, and_true, true_and, and_false, false_and, noLoc_enc, this, ringFrom a p h8]) ?_
        have ed := dc_eq (σ := [some (enc a), some (.loc 0), some (.loc 1), some (iv p), some (.lst ((rng a p).map iv)), x5]) (S := [.dct .k (sn.map sv), .lst (rs.map (rD a))]) iv iv (fun _ => D.bl true) (rng a p) (vs := [5]) (p := .nm 5) (t := mYes) (k := mVar 5) (ex := mC (.bl true)) (fi := mIter (mVar 4)) rfl (line8 (by omega))
          (fun q _ => ⟨_, rfl, rfl, rfl, rfl, rfl⟩) ((rng_nodup a p).imp fun {x y} h e => h (iv_inj e))
        have hs2 := hs.add hp
        have hlu : (sn.map sv).length + ((rng a p).map fun x => (iv x, D.bl true)).length ≤ LINE := by
          rw [List.length_map, List.length_map]
          exact line8 (by omega)
        have em : dMerge (sn.map sv) ((rng a p).map fun x => (iv x, D.bl true)) = (sn ++ rng a p).map sv := dMerge_new (rng a p) sn hs2.nd
        refine wp_seq1 (σ1 := [some (enc a), some (.loc 0), some (.loc 1), some (iv p), some (.lst ((rng a p).map iv)), x5]) (S1 := [.dct .k ((sn ++ rng a p).map sv), .lst (rs.map (rD a))]) (by
          simp only [mSeq, mSet, mThen, mVar, mC, mOp, mUn, mChain, mB, mNot, mAnd, mOr, mOfB, mIf, mAndV, mOrV, mNil, mCons, mTup, mLst, mRet, mRetN, mIfS, mExpr, mSkip, mPat, mPar, mAug, mPut, mCB, mCall, mFz, mLoc, mBM, M.bind, M.ret, M.rd, M.ofR, List.getElem?_cons_zero, List.getElem?_cons_succ, List.set_cons_zero, List.set_cons_succ, asB, Pat.put, Pat.puts, Option.map_some, Option.bind_some, if_true, if_false, reduceIte, Bool.false_eq_true, Bool.true_eq_false, List.length_cons, List.length_nil, List.map_cons, List.map_nil, List.append_nil, List.nil_append, List.cons_append, List.replicate, Nat.reduceAdd, Nat.reduceSub, Nat.reduceLeDiff, decide_true, decide_false, Bool.not_true, Bool.not_false, Bool.and_true, Bool.true_and, Bool.and_false, Bool.false_and, Int.cast_ofNat_Int, Int.reduceEq, Int.reduceNe, Int.reduceLT, Int.reduceLE, Int.reduceAdd, Int.reduceMul, Int.reduceSub, Int.reduceMod, Int.reduceDiv, Int.reduceNeg, isi_int, isi_nbool, isi_tup, oLe, oLt, oGt, oGe, iCmp, oAdd, oSub, iOp, noLocs, noLoc, oMod, oDiv, divOk, oMul, oNeg, gt_iff_lt, eq_self, true_or, or_true, or_false, false_or, and_true, true_and, and_false, false_and, mFzD, ed, isDct0, update0 _ _ _ hlu, em]) ?_
        have hlr : (rs.map (rD a)).length ≤ LINE := by rw [List.length_map]; exact line8 (by omega)
        have hl1 := lc_turns a (rng a p) hrl 5 0 [some (enc a), some (.loc 0), some (.loc 1), some (iv p), some (.lst ((rng a p).map iv)), x5] [.dct .k ((sn ++ rng a p).map sv), .lst (rs.map (rD a))] (fi := mIter (mVar 4)) rfl (fun _ => rfl) fun _ => rfl
        have e2 : ((rng a p).map (twi a)).sum = (tws a p : Int) := sum_rng a p
        have e3 : (tws a p : Int) % 4 = ((tws a p % 4 : Nat) : Int) := by omega
        refine wp_of (o := .nx) (σ := [some (enc a), some (.loc 0), some (.loc 1), some (iv p), some (.lst ((rng a p).map iv)), x5]) (S := [.dct .k ((sn ++ rng a p).map sv), .lst (rs.map (rD a) ++ [rD a p])]) ?_
          ⟨.inl rfl, sn ++ rng a p, rs ++ [p], _, _, _, rfl, by rw [List.map_append (f := rD a)]; rfl, hs2, fun q hq => ?_, ?_, ?_⟩
        · have e4 : rD a p = .tup [.tup ((rng a p).map iv), .int ((tws a p % 4 : Nat) : Int)] := rfl
          rw [e4]
          simp only [mSeq, mSet, mThen, mVar, mC, mOp, mUn, mChain, mB, mNot, mAnd, mOr, mOfB, mIf, mAndV, mOrV, mNil, mCons, mTup, mLst, mRet, mRetN, mIfS, mExpr, mSkip, mPat, mPar, mAug, mPut, mCB, mCall, mFz, mLoc, mBM, M.bind, M.ret, M.rd, M.ofR, List.getElem?_cons_zero, List.getElem?_cons_succ, List.set_cons_zero, List.set_cons_succ, asB, Pat.put, Pat.puts, Option.map_some, Option.bind_some, if_true, if_false, reduceIte, Bool.false_eq_true, Bool.true_eq_false, List.length_cons, List.length_nil, List.map_cons, List.map_nil, List.append_nil, List.nil_append, List.cons_append, List.replicate, Nat.reduceAdd, Nat.reduceSub, Nat.reduceLeDiff, decide_true, decide_false, Bool.not_true, Bool.not_false, Bool.and_true, Bool.true_and, Bool.and_false, Bool.false_and, Int.cast_ofNat_Int, Int.reduceEq, Int.reduceNe, Int.reduceLT, Int.reduceLE, Int.reduceAdd, Int.reduceMul, Int.reduceSub, Int.reduceMod, Int.reduceDiv, Int.reduceNeg, isi_int, isi_nbool, isi_tup, oLe, oLt, oGt, oGe, iCmp, oAdd, oSub, iOp, noLocs, noLoc, oMod, oDiv, divOk, oMul, oNeg, gt_iff_lt, eq_self, true_or, or_true, or_false, false_or, and_true, true_and, and_false, false_and, tupleL, hl1, o_sum, e2, e3, isLst1, append1 _ _ _ hlr, line8, show (2 : Nat) ≤ LINE from by decide]
        · rcases List.mem_append.mp hq with z | z
          · exact List.mem_append_left _ (hd q z)
          · rw [List.mem_singleton.mp z]
            exact List.mem_append_right _ (mem_rng.mpr ⟨0, len_pos a p, rfl⟩)
        · rw [List.length_append, List.length_append]; simp; omega
        · rw [List.length_append, List.length_append]; simp; omega
    · rintro _ _ ⟨sn, rs, x3, x4, x5, rfl, rfl, hs, hd, hn1, hn2⟩
      refine ⟨rfl, wp_of (o := .rt (.loc 1)) rfl ⟨sn, rs, hs, fun i => hd i (List.mem_finRange i), ?_, rfl, rfl⟩⟩
      rw [List.length_finRange] at hn2
      omega
  obtain ⟨o, σ, S, e, sn, rs, a1, a2, a3, rfl, a5⟩ := key
  exact ⟨sn, rs, a1, a2, a3, run_wp rfl ⟨_, σ, S, e, _, rfl, frz_lst a5 (noLocs_map _ (noLoc_rD a) rs)⟩⟩
theorem ringsOf (a : Mv n) (h1 : 1 ≤ n) (h8 : n ≤ 8) : ∃ sn rs, Seen a sn rs ∧ (∀ i, i ∈ sn) ∧ rs.length ≤ 8 ∧ f_rings_of [enc a] = some (.ok (.tup (rs.map (rD a)))) := by
  obtain ⟨sn, rs, a1, a2, a3, e⟩ := allRings a h8
  refine ⟨sn, rs, a1, a2, a3, run_rt rfl (noLocs_map _ (noLoc_rD a) rs) (wp_of (o := .rt _) (σ := [some (enc a)]) (S := []) ?_ rfl)⟩
  unfold b_rings_of
  simp only [mSeq, mSet, mThen, mVar, mC, mOp, mUn, mChain, mB, mNot, mAnd, mOr, mOfB, mIf, mAndV, mOrV, mNil, mCons, mTup, mLst, mRet, mRetN, mIfS, mExpr, mSkip, mPat, mPar, mAug, mPut, mCB, mCall, mFz, mLoc, mBM, M.bind, M.ret, M.rd, M.ofR, List.getElem?_cons_zero, List.getElem?_cons_succ, List.set_cons_zero, List.set_cons_succ, asB, Pat.put, Pat.puts, Option.map_some, Option.bind_some, if_true, if_false, reduceIte, Bool.false_eq_true, Bool.true_eq_false, List.length_cons, List.length_nil, List.map_cons, List.map_nil, List.append_nil, List.nil_append, List.cons_append, List.replicate, Nat.reduceAdd, Nat.reduceSub, Nat.reduceLeDiff, decide_true, decide_false, Bool.not_true, Bool.not_false, Bool.and_true, Bool.true_and, Bool.and_false, Bool.false_and, Int.cast_ofNat_Int, Int.reduceEq, Int.reduceNe, Int.reduceLT, Int.reduceLE, Int.reduceAdd, Int.reduceMul, Int.reduceSub, Int.reduceMod, Int.reduceDiv, Int.reduceNeg, isi_int, isi_nbool, isi_tup, oLe, oLt, oGt, oGe, iCmp, oAdd, oSub, iOp, noLocs, noLoc, oMod, oDiv, divOk, oMul, oNeg, gt_iff_lt, eq_self, true_or, or_true, or_false, false_or, and_true, true_and, and_false, false_and, noLoc_enc, checkMove a h1 h8, e, tupleL]
end W3
end
section
set_option linter.all false
set_option maxRecDepth 100000
set_option maxHeartbeats 2000000
namespace W3
open Rw Mv
/-- a loop that may hand back -/
theorem wp_forR {body : MS} {σ : Sl} {S S1 : List Cell} {Q : Out → Sl → List Cell → Prop} {α : Type} (e : α → D) (l : List α) (I : List α → Sl → List Cell → Prop) {p : Pat} {fi : Sl → M (List D)} (hi : fi σ S = some (.ok (l.map e), S1)) (h0 : I [] σ S1)
    (step : ∀ done x rest σ S, l = done ++ x :: rest → I done σ S → ∃ σ1, p.put (e x) σ = some σ1 ∧ WP (body σ1 S) fun o σ2 S2 => ((o = .nx ∨ o = .ct) ∧ I (done ++ [x]) σ2 S2) ∨ (∃ d, o = .rt d ∧ Q o σ2 S2))
    (fin : ∀ σ S, I l σ S → Q .nx σ S) : WP (mFor p fi body σ S) Q := by
  unfold mFor mThen
  rw [hi]
  show WP (loopF p body (l.map e) σ S1) Q
  have gen : ∀ (rest done : List α) (σ : Sl) (S : List Cell), l = done ++ rest → I done σ S → WP (loopF p body (rest.map e) σ S) Q := by
    intro rest
    induction rest with
    | nil =>
      intro done σ S hl hI
      rw [List.append_nil] at hl
      subst hl
      exact ⟨_, _, _, rfl, fin _ _ hI⟩
    | cons x rest ih =>
      intro done σ S hl hI
      obtain ⟨σ1, hp, o, σ2, S2, hb, hq⟩ := step done x rest σ S hl hI
      rw [List.map_cons, loopF, hp]
      dsimp only
      rw [hb]
      rcases hq with ⟨ho, hI2⟩ | ⟨d, rfl, q⟩
      · have := ih (done ++ [x]) σ2 S2 (by rw [hl, List.append_assoc]; rfl) hI2
        rcases ho with rfl | rfl <;> exact this
      · exact ⟨_, _, _, rfl, q⟩
  exact gen l [] σ S1 rfl h0
def nv (i : Nat) : D := .int (0 + (i : Int))
theorem int_i (S : List Cell) (i : Int) : oInt S [.int i] = some (.int i) := rfl
theorem abs_i (S : List Cell) (i : Int) : oAbs S [.int i] = some (.int (i.natAbs : Int)) := by
  show some (D.int (if i < 0 then -i else i)) = _
  congr 2
  split <;> omega
theorem big64b : (100000 : Int) < 2 ^ 64 := by decide +kernel
theorem mulOk_r {i j : Int} (h : j.natAbs ≤ 100000) : mulOk i j = true := by
  unfold mulOk
  have hb := big64b
  rw [Bool.or_eq_true, decide_eq_true_iff, decide_eq_true_iff]
  generalize (2 : Int) ^ 64 = N at hb ⊢
  omega
theorem pow18 (S : List Cell) : oPow S (.int 10) (.int 18) = some (.int 1000000000000000000) := by
  show oPow [] (.int 10) (.int 18) = _
  decide +kernel
theorem pow20 (S : List Cell) : oPow S (.int 10) (.int 20) = some (.int 100000000000000000000) := by
  show oPow [] (.int 10) (.int 20) = _
  decide +kernel
/-- draws so far -/
def Dr (ds : List Int) : Prop := ∀ d ∈ ds, 0 ≤ d ∧ d < 65521
theorem Dr.snoc {ds : List Int} (h : Dr ds) {d : Int} (h1 : 0 ≤ d) (h2 : d < 65521) : Dr (ds ++ [d]) := fun x hx => by
  rcases List.mem_append.mp hx with z | z
  · exact h x z
  · rw [List.mem_singleton.mp z]; exact ⟨h1, h2⟩
theorem append0i (ds : List Int) (d : Int) (h : ds.length ≤ 5000) : oAppend [.lst (ds.map D.int)] (.loc 0) [.int d] = some (.non, [.lst ((ds ++ [d]).map D.int)]) := by
  rw [append0 _ _ (by rw [List.length_map]; exact Nat.le_trans h (by decide)), List.map_append]
  rfl
theorem range_lt {k x : Nat} {done rest : List Nat} (h : List.range k = done ++ x :: rest) : x = done.length ∧ done.length < k := by
  have hl := congrArg List.length h
  simp at hl
  have h2 : (List.range k)[done.length]? = some x := by rw [h]; simp
  rw [List.getElem?_range (by omega)] at h2
  exact ⟨(Option.some.inj h2).symm, by omega⟩
theorem take63 {α : Type} (xs : List α) (k : Nat) : cutL xs none (some (k : Int)) = xs.take k := by
  unfold cutL
  rw [show HT.sIx xs.length 0 none = 0 from rfl, HT.sIx_nat, List.drop_zero, Nat.sub_zero]
  by_cases h : k ≤ xs.length
  · rw [Nat.min_eq_left h]
  · rw [Nat.min_eq_right (by omega), List.take_of_length_le (Nat.le_refl _), List.take_of_length_le (by omega)]
theorem dropk {α : Type} (xs : List α) (k : Nat) (h : k ≤ xs.length) : cutL xs (some (k : Int)) none = xs.drop k := by
  unfold cutL
  rw [show HT.sIx xs.length xs.length none = xs.length from rfl, HT.sIx_nat, Nat.min_eq_left h]
  exact List.take_of_length_le (by rw [List.length_drop]; omega)
theorem lawDraws (ns : List Int) : ∃ ds : List Int, ds.length = 300 ∧ Dr ds ∧ f__law_draws [.scr ns, .int 300] = some (.ok (.lst (ds.map D.int))) := by
  have key : WP (b__law_draws [some (.scr ns), some (.int 300), none, none, none, none, none] []) fun o σ S => ∃ ds : List Int, ds.length = 300 ∧ Dr ds ∧ o = .rt (.lst (ds.map D.int)) := by
    unfold b__law_draws
    refine wp_seq1 (σ1 := [some (.scr ns), some (.int 300), some (.loc 0), none, none, none, none]) (S1 := [.lst []]) rfl ?_
    refine wp_seq1 (σ1 := [some (.scr ns), some (.int 300), some (.loc 0), some (.int 7), none, none, none]) (S1 := [.lst []]) rfl ?_
    refine wp_seq (wp_for D.int (ns.take 63) (fun done σ S => ∃ (ds : List Int) (s : Int) (x4 x5 x6 : Option D), σ = [some (.scr ns), some (.int 300), some (.loc 0), some (.int s), x4, x5, x6] ∧ S = [.lst (ds.map D.int)] ∧ Dr ds ∧ ds.length ≤ 60 * done.length)
      (S1 := [.lst []]) ?_ ⟨[], 7, _, _, _, rfl, rfl, fun d h => (by cases h), by simp⟩ ?_ ?_)
    · have : ∀ S, lstOf S (.scr ns) = some (ns.map D.int) := fun _ => rfl
      have h63 : cutL (ns.map D.int) none (some 63) = (ns.take 63).map D.int := by
        rw [List.map_take]; exact take63 _ 63
      simp only [mSeq, mSet, mThen, mVar, mC, mOp, mUn, mChain, mB, mNot, mAnd, mOr, mOfB, mIf, mAndV, mOrV, mNil, mCons, mTup, mLst, mRet, mRetN, mIfS, mExpr, mSkip, mPat, mPar, mAug, mPut, mCB, mCall, mFz, mLoc, mBM, M.bind, M.ret, M.rd, M.ofR, List.getElem?_cons_zero, List.getElem?_cons_succ, List.set_cons_zero, List.set_cons_succ, asB, Pat.put, Pat.puts, Option.map_some, Option.bind_some, if_true, if_false, reduceIte, Bool.false_eq_true, Bool.true_eq_false, List.length_cons, List.length_nil, List.map_cons, List.map_nil, List.append_nil, List.nil_append, List.cons_append, List.replicate, Nat.reduceAdd, Nat.reduceSub, Nat.reduceLeDiff, decide_true, decide_false, Bool.not_true, Bool.not_false, Bool.and_true, Bool.true_and, Bool.and_false, Bool.false_and, Int.cast_ofNat_Int, Int.reduceEq, Int.reduceNe, Int.reduceLT, Int.reduceLE, Int.reduceAdd, Int.reduceMul, Int.reduceSub, Int.reduceMod, Int.reduceDiv, Int.reduceNeg, isi_int, isi_nbool, isi_tup, oLe, oLt, oGt, oGe, iCmp, oAdd, oSub, iOp, noLocs, noLoc, oMod, oDiv, divOk, oMul, oNeg, gt_iff_lt, eq_self, true_or, or_true, or_false, false_or, and_true, true_and, and_false, false_and, mIter, mCut, mNoPart, mPart, this, h63, frzSeq]
    · rintro done c rest _ _ hl ⟨ds, s, x4, x5, x6, rfl, rfl, hd, hn⟩
      have hdl : done.length ≤ 62 := by
        have := congrArg List.length hl
        simp at this
        omega
      refine ⟨_, rfl, ?_⟩
      refine wp_seq1 (σ1 := [some (.scr ns), some (.int 300), some (.loc 0), some (.int s), some (.int c), x5, some (.int (c.natAbs : Int))]) (S1 := [.lst (ds.map D.int)]) (by simp only [mSeq, mSet, mThen, mVar, mC, mOp, mUn, mChain, mB, mNot, mAnd, mOr, mOfB, mIf, mAndV, mOrV, mNil, mCons, mTup, mLst, mRet, mRetN, mIfS, mExpr, mSkip, mPat, mPar, mAug, mPut, mCB, mCall, mFz, mLoc, mBM, M.bind, M.ret, M.rd, M.ofR, List.getElem?_cons_zero, List.getElem?_cons_succ, List.set_cons_zero, List.set_cons_succ, asB, Pat.put, Pat.puts, Option.map_some, Option.bind_some, if_true, if_false, reduceIte, Bool.false_eq_true, Bool.true_eq_false, List.length_cons, List.length_nil, List.map_cons, List.map_nil, List.append_nil, List.nil_append, List.cons_append, List.replicate, Nat.reduceAdd, Nat.reduceSub, Nat.reduceLeDiff, decide_true, decide_false, Bool.not_true, Bool.not_false, Bool.and_true, Bool.true_and, Bool.and_false, Bool.false_and, Int.cast_ofNat_Int, Int.reduceEq, Int.reduceNe, Int.reduceLT, Int.reduceLE, Int.reduceAdd, Int.reduceMul, Int.reduceSub, Int.reduceMod, Int.reduceDiv, Int.reduceNeg, isi_int, isi_nbool, isi_tup, oLe, oLt, oGt, oGe, iCmp, oAdd, oSub, iOp, noLocs, noLoc, oMod, oDiv, divOk, oMul, oNeg, gt_iff_lt, eq_self, true_or, or_true, or_false, false_or, and_true, true_and, and_false, false_and, abs_i]) ?_
      have m1 : mulOk s 48271 = true := mulOk_r (by decide)
      have c1 : decide ((0 : Int) < 2147483647) = true := by decide
      refine wp_seq1 (σ1 := [some (.scr ns), some (.int 300), some (.loc 0), some (.int ((s * 48271 + (c.natAbs : Int) + 11) % 2147483647)), some (.int c), x5, some (.int (c.natAbs : Int))]) (S1 := [.lst (ds.map D.int)]) (by simp only [mSeq, mSet, mThen, mVar, mC, mOp, mUn, mChain, mB, mNot, mAnd, mOr, mOfB, mIf, mAndV, mOrV, mNil, mCons, mTup, mLst, mRet, mRetN, mIfS, mExpr, mSkip, mPat, mPar, mAug, mPut, mCB, mCall, mFz, mLoc, mBM, M.bind, M.ret, M.rd, M.ofR, List.getElem?_cons_zero, List.getElem?_cons_succ, List.set_cons_zero, List.set_cons_succ, asB, Pat.put, Pat.puts, Option.map_some, Option.bind_some, if_true, if_false, reduceIte, Bool.false_eq_true, Bool.true_eq_false, List.length_cons, List.length_nil, List.map_cons, List.map_nil, List.append_nil, List.nil_append, List.cons_append, List.replicate, Nat.reduceAdd, Nat.reduceSub, Nat.reduceLeDiff, decide_true, decide_false, Bool.not_true, Bool.not_false, Bool.and_true, Bool.true_and, Bool.and_false, Bool.false_and, Int.cast_ofNat_Int, Int.reduceEq, Int.reduceNe, Int.reduceLT, Int.reduceLE, Int.reduceAdd, Int.reduceMul, Int.reduceSub, Int.reduceMod, Int.reduceDiv, Int.reduceNeg, isi_int, isi_nbool, isi_tup, oLe, oLt, oGt, oGe, iCmp, oAdd, oSub, iOp, noLocs, noLoc, oMod, oDiv, divOk, oMul, oNeg, gt_iff_lt, eq_self, true_or, or_true, or_false, false_or, and_true, true_and, and_false, false_and, m1, int_i, c1]) ?_
      generalize (s * 48271 + (c.natAbs : Int) + 11) % 2147483647 = s2
      by_cases hb : (1000000000000000000 : Int) ≤ (c.natAbs : Int)
      · refine wp_if (b := true) (S1 := [.lst (ds.map D.int)]) (by simp only [mSeq, mSet, mThen, mVar, mC, mOp, mUn, mChain, mB, mNot, mAnd, mOr, mOfB, mIf, mAndV, mOrV, mNil, mCons, mTup, mLst, mRet, mRetN, mIfS, mExpr, mSkip, mPat, mPar, mAug, mPut, mCB, mCall, mFz, mLoc, mBM, M.bind, M.ret, M.rd, M.ofR, List.getElem?_cons_zero, List.getElem?_cons_succ, List.set_cons_zero, List.set_cons_succ, asB, Pat.put, Pat.puts, Option.map_some, Option.bind_some, if_true, if_false, reduceIte, Bool.false_eq_true, Bool.true_eq_false, List.length_cons, List.length_nil, List.map_cons, List.map_nil, List.append_nil, List.nil_append, List.cons_append, List.replicate, Nat.reduceAdd, Nat.reduceSub, Nat.reduceLeDiff, decide_true, decide_false, Bool.not_true, Bool.not_false, Bool.and_true, Bool.true_and, Bool.and_false, Bool.false_and, Int.cast_ofNat_Int, Int.reduceEq, Int.reduceNe, Int.reduceLT, Int.reduceLE, Int.reduceAdd, Int.reduceMul, Int.reduceSub, Int.reduceMod, Int.reduceDiv, Int.reduceNeg, isi_int, isi_nbool, isi_tup, oLe, oLt, oGt, oGe, iCmp, oAdd, oSub, iOp, noLocs, noLoc, oMod, oDiv, divOk, oMul, oNeg, gt_iff_lt, eq_self, true_or, or_true, or_false, false_or, and_true, true_and, and_false, false_and, pow18, decide_eq_true hb]) ?_
        rw [if_pos rfl]
        refine wp_for nv (List.range 60) (fun dn σ S => ∃ (es : List Int) (m : Nat) (y5 : Option D), σ = [some (.scr ns), some (.int 300), some (.loc 0), some (.int s2), some (.int c), y5, some (.int (m : Int))] ∧ S = [.lst (es.map D.int)] ∧ Dr es ∧ es.length ≤ ds.length + dn.length) (S1 := [.lst (ds.map D.int)]) rfl
          ⟨ds, c.natAbs, _, rfl, rfl, hd, by simp⟩ ?_ ?_
        · rintro dn k rst _ _ hk ⟨es, m, y5, rfl, rfl, hes, hen⟩
          have hkl := (range_lt hk).2
          refine ⟨_, rfl, ?_⟩
          by_cases hm : (0 : Int) < (m : Int)
          · refine wp_if (b := true) (S1 := [.lst (es.map D.int)]) (by simp only [mSeq, mSet, mThen, mVar, mC, mOp, mUn, mChain, mB, mNot, mAnd, mOr, mOfB, mIf, mAndV, mOrV, mNil, mCons, mTup, mLst, mRet, mRetN, mIfS, mExpr, mSkip, mPat, mPar, mAug, mPut, mCB, mCall, mFz, mLoc, mBM, M.bind, M.ret, M.rd, M.ofR, List.getElem?_cons_zero, List.getElem?_cons_succ, List.set_cons_zero, List.set_cons_succ, asB, Pat.put, Pat.puts, Option.map_some, Option.bind_some, if_true, if_false, reduceIte, Bool.false_eq_true, Bool.true_eq_false, List.length_cons, List.length_nil, List.map_cons, List.map_nil, List.append_nil, List.nil_append, List.cons_append, List.replicate, Nat.reduceAdd, Nat.reduceSub, Nat.reduceLeDiff, decide_true, decide_false, Bool.not_true, Bool.not_false, Bool.and_true, Bool.true_and, Bool.and_false, Bool.false_and, Int.cast_ofNat_Int, Int.reduceEq, Int.reduceNe, Int.reduceLT, Int.reduceLE, Int.reduceAdd, Int.reduceMul, Int.reduceSub, Int.reduceMod, Int.reduceDiv, Int.reduceNeg, isi_int, isi_nbool, isi_tup, oLe, oLt, oGt, oGe, iCmp, oAdd, oSub, iOp, noLocs, noLoc, oMod, oDiv, divOk, oMul, oNeg, gt_iff_lt, eq_self, true_or, or_true, or_false, false_or, and_true, true_and, and_false, false_and, decide_eq_true hm]) ?_
            rw [if_pos rfl]
            have c2 : decide ((0 : Int) < 1009) = true := by decide
            have c3 : decide ((0 : Int) < 1009 ∧ (1009 : Int) < 1073741824) = true := by decide
            have hel : es.length ≤ 5000 := by omega
            refine wp_seq1 (σ1 := [some (.scr ns), some (.int 300), some (.loc 0), some (.int s2), some (.int c), some (nv k), some (.int (m : Int))]) (S1 := [.lst ((es ++ [(m : Int) % 1009]).map D.int)]) (by simp only [mSeq, mSet, mThen, mVar, mC, mOp, mUn, mChain, mB, mNot, mAnd, mOr, mOfB, mIf, mAndV, mOrV, mNil, mCons, mTup, mLst, mRet, mRetN, mIfS, mExpr, mSkip, mPat, mPar, mAug, mPut, mCB, mCall, mFz, mLoc, mBM, M.bind, M.ret, M.rd, M.ofR, List.getElem?_cons_zero, List.getElem?_cons_succ, List.set_cons_zero, List.set_cons_succ, asB, Pat.put, Pat.puts, Option.map_some, Option.bind_some, if_true, if_false, reduceIte, Bool.false_eq_true, Bool.true_eq_false, List.length_cons, List.length_nil, List.map_cons, List.map_nil, List.append_nil, List.nil_append, List.cons_append, List.replicate, Nat.reduceAdd, Nat.reduceSub, Nat.reduceLeDiff, decide_true, decide_false, Bool.not_true, Bool.not_false, Bool.and_true, Bool.true_and, Bool.and_false, Bool.false_and, Int.cast_ofNat_Int, Int.reduceEq, Int.reduceNe, Int.reduceLT, Int.reduceLE, Int.reduceAdd, Int.reduceMul, Int.reduceSub, Int.reduceMod, Int.reduceDiv, Int.reduceNeg, isi_int, isi_nbool, isi_tup, oLe, oLt, oGt, oGe, iCmp, oAdd, oSub, iOp, noLocs, noLoc, oMod, oDiv, divOk, oMul, oNeg, gt_iff_lt, eq_self, true_or, or_true, or_false, false_or, and_true, true_and, and_false, false_and, int_i, c2, isLst0, append0i es _ hel]) ?_
            refine wp_of (o := .nx) (σ := [some (.scr ns), some (.int 300), some (.loc 0), some (.int s2), some (.int c), some (nv k), some (.int ((m / 1009 : Nat) : Int))]) (S := [.lst ((es ++ [(m : Int) % 1009]).map D.int)]) ?_ ⟨.inl rfl, _, _, _, rfl, rfl, hes.snoc (by omega) (by omega), ?_⟩
            · have : (m : Int) / 1009 = ((m / 1009 : Nat) : Int) := by omega
              simp only [mSeq, mSet, mThen, mVar, mC, mOp, mUn, mChain, mB, mNot, mAnd, mOr, mOfB, mIf, mAndV, mOrV, mNil, mCons, mTup, mLst, mRet, mRetN, mIfS, mExpr, mSkip, mPat, mPar, mAug, mPut, mCB, mCall, mFz, mLoc, mBM, M.bind, M.ret, M.rd, M.ofR, List.getElem?_cons_zero, List.getElem?_cons_succ, List.set_cons_zero, List.set_cons_succ, asB, Pat.put, Pat.puts, Option.map_some, Option.bind_some, if_true, if_false, reduceIte, Bool.false_eq_true, Bool.true_eq_false, List.length_cons, List.length_nil, List.map_cons, List.map_nil, List.append_nil, List.nil_append, List.cons_append, List.replicate, Nat.reduceAdd, Nat.reduceSub, Nat.reduceLeDiff, decide_true, decide_false, Bool.not_true, Bool.not_false, Bool.and_true, Bool.true_and, Bool.and_false, Bool.false_and, Int.cast_ofNat_Int, Int.reduceEq, Int.reduceNe, Int.reduceLT, Int.reduceLE, Int.reduceAdd, Int.reduceMul, Int.reduceSub, Int.reduceMod, Int.reduceDiv, Int.reduceNeg, isi_int, isi_nbool, isi_tup, oLe, oLt, oGt, oGe, iCmp, oAdd, oSub, iOp, noLocs, noLoc, oMod, oDiv, divOk, oMul, oNeg, gt_iff_lt, eq_self, true_or, or_true, or_false, false_or, and_true, true_and, and_false, false_and, c3, this]
            · simp; omega
          · refine wp_ifF (S1 := [.lst (es.map D.int)]) (by simp only [mSeq, mSet, mThen, mVar, mC, mOp, mUn, mChain, mB, mNot, mAnd, mOr, mOfB, mIf, mAndV, mOrV, mNil, mCons, mTup, mLst, mRet, mRetN, mIfS, mExpr, mSkip, mPat, mPar, mAug, mPut, mCB, mCall, mFz, mLoc, mBM, M.bind, M.ret, M.rd, M.ofR, List.getElem?_cons_zero, List.getElem?_cons_succ, List.set_cons_zero, List.set_cons_succ, asB, Pat.put, Pat.puts, Option.map_some, Option.bind_some, if_true, if_false, reduceIte, Bool.false_eq_true, Bool.true_eq_false, List.length_cons, List.length_nil, List.map_cons, List.map_nil, List.append_nil, List.nil_append, List.cons_append, List.replicate, Nat.reduceAdd, Nat.reduceSub, Nat.reduceLeDiff, decide_true, decide_false, Bool.not_true, Bool.not_false, Bool.and_true, Bool.true_and, Bool.and_false, Bool.false_and, Int.cast_ofNat_Int, Int.reduceEq, Int.reduceNe, Int.reduceLT, Int.reduceLE, Int.reduceAdd, Int.reduceMul, Int.reduceSub, Int.reduceMod, Int.reduceDiv, Int.reduceNeg, isi_int, isi_nbool, isi_tup, oLe, oLt, oGt, oGe, iCmp, oAdd, oSub, iOp, noLocs, noLoc, oMod, oDiv, divOk, oMul, oNeg, gt_iff_lt, eq_self, true_or, or_true, or_false, false_or, and_true, true_and, and_false, false_and, decide_eq_false hm]) ⟨.inl rfl, es, m, _, rfl, rfl, hes, ?_⟩
            simp; omega
        · rintro _ _ ⟨es, m, y5, rfl, rfl, hes, hen⟩
          refine ⟨.inl rfl, es, s2, _, _, _, rfl, rfl, hes, ?_⟩
          simp at hen ⊢
          omega
      · refine wp_if (b := false) (S1 := [.lst (ds.map D.int)]) (by simp only [mSeq, mSet, mThen, mVar, mC, mOp, mUn, mChain, mB, mNot, mAnd, mOr, mOfB, mIf, mAndV, mOrV, mNil, mCons, mTup, mLst, mRet, mRetN, mIfS, mExpr, mSkip, mPat, mPar, mAug, mPut, mCB, mCall, mFz, mLoc, mBM, M.bind, M.ret, M.rd, M.ofR, List.getElem?_cons_zero, List.getElem?_cons_succ, List.set_cons_zero, List.set_cons_succ, asB, Pat.put, Pat.puts, Option.map_some, Option.bind_some, if_true, if_false, reduceIte, Bool.false_eq_true, Bool.true_eq_false, List.length_cons, List.length_nil, List.map_cons, List.map_nil, List.append_nil, List.nil_append, List.cons_append, List.replicate, Nat.reduceAdd, Nat.reduceSub, Nat.reduceLeDiff, decide_true, decide_false, Bool.not_true, Bool.not_false, Bool.and_true, Bool.true_and, Bool.and_false, Bool.false_and, Int.cast_ofNat_Int, Int.reduceEq, Int.reduceNe, Int.reduceLT, Int.reduceLE, Int.reduceAdd, Int.reduceMul, Int.reduceSub, Int.reduceMod, Int.reduceDiv, Int.reduceNeg, isi_int, isi_nbool, isi_tup, oLe, oLt, oGt, oGe, iCmp, oAdd, oSub, iOp, noLocs, noLoc, oMod, oDiv, divOk, oMul, oNeg, gt_iff_lt, eq_self, true_or, or_true, or_false, false_or, and_true, true_and, and_false, false_and, pow18, decide_eq_false hb]) ?_
        rw [if_neg Bool.false_ne_true]
        have m2 : mulOk s2 16807 = true := mulOk_r (by decide)
        have c2 : decide ((0 : Int) < 3 ∧ (3 : Int) < 1073741824) = true := by decide
        have c3 : decide ((0 : Int) < 65521) = true := by decide
        refine wp_of (o := .nx) (σ := [some (.scr ns), some (.int 300), some (.loc 0), some (.int s2), some (.int c), x5, some (.int (c.natAbs : Int))]) (S := [.lst ((ds ++ [(s2 * 16807 + 5) / 3 % 65521]).map D.int)]) ?_ ⟨.inl rfl, _, _, _, _, _, rfl, rfl, hd.snoc (by omega) (by omega), ?_⟩
        · simp only [mSeq, mSet, mThen, mVar, mC, mOp, mUn, mChain, mB, mNot, mAnd, mOr, mOfB, mIf, mAndV, mOrV, mNil, mCons, mTup, mLst, mRet, mRetN, mIfS, mExpr, mSkip, mPat, mPar, mAug, mPut, mCB, mCall, mFz, mLoc, mBM, M.bind, M.ret, M.rd, M.ofR, List.getElem?_cons_zero, List.getElem?_cons_succ, List.set_cons_zero, List.set_cons_succ, asB, Pat.put, Pat.puts, Option.map_some, Option.bind_some, if_true, if_false, reduceIte, Bool.false_eq_true, Bool.true_eq_false, List.length_cons, List.length_nil, List.map_cons, List.map_nil, List.append_nil, List.nil_append, List.cons_append, List.replicate, Nat.reduceAdd, Nat.reduceSub, Nat.reduceLeDiff, decide_true, decide_false, Bool.not_true, Bool.not_false, Bool.and_true, Bool.true_and, Bool.and_false, Bool.false_and, Int.cast_ofNat_Int, Int.reduceEq, Int.reduceNe, Int.reduceLT, Int.reduceLE, Int.reduceAdd, Int.reduceMul, Int.reduceSub, Int.reduceMod, Int.reduceDiv, Int.reduceNeg, isi_int, isi_nbool, isi_tup, oLe, oLt, oGt, oGe, iCmp, oAdd, oSub, iOp, noLocs, noLoc, oMod, oDiv, divOk, oMul, oNeg, gt_iff_lt, eq_self, true_or, or_true, or_false, false_or, and_true, true_and, and_false, false_and, m2, int_i, c2, c3, isLst0, append0i ds _ (by omega)]
        · simp; omega
    · rintro _ _ ⟨ds, s, x4, x5, x6, rfl, rfl, hd, hn⟩
      refine ⟨rfl, ?_⟩
      have hn' : ds.length ≤ 3780 := by
        have : (ns.take 63).length ≤ 63 := by simp; omega
        omega
      refine wp_seq (wp_for nv (List.range 300) (fun dn σ S => ∃ (es : List Int) (s : Int) (y5 : Option D), σ = [some (.scr ns), some (.int 300), some (.loc 0), some (.int s), x4, y5, x6] ∧ S = [.lst (es.map D.int)] ∧ Dr es ∧ es.length ≤ ds.length + dn.length ∧ dn.length ≤ es.length) (S1 := [.lst (ds.map D.int)]) rfl
        ⟨ds, s, _, rfl, rfl, hd, by simp, by simp⟩ ?_ ?_)
      · rintro dn k rst _ _ hk ⟨es, s, y5, rfl, rfl, hes, hen, hen2⟩
        have hkl := (range_lt hk).2
        refine ⟨_, rfl, ?_⟩
        have hL : oLen [.lst (es.map D.int)] [.loc 0] = some (.int (es.length : Int)) := by
          show some (D.int ((es.map D.int).length : Int)) = _
          rw [List.length_map]
        by_cases hm : (es.length : Int) < 300
        · refine wp_if (b := true) (S1 := [.lst (es.map D.int)]) (by simp only [mSeq, mSet, mThen, mVar, mC, mOp, mUn, mChain, mB, mNot, mAnd, mOr, mOfB, mIf, mAndV, mOrV, mNil, mCons, mTup, mLst, mRet, mRetN, mIfS, mExpr, mSkip, mPat, mPar, mAug, mPut, mCB, mCall, mFz, mLoc, mBM, M.bind, M.ret, M.rd, M.ofR, List.getElem?_cons_zero, List.getElem?_cons_succ, List.set_cons_zero, List.set_cons_succ, asB, Pat.put, Pat.puts, Option.map_some, Option.bind_some, if_true, if_false, reduceIte, Bool.false_eq_true, Bool.true_eq_false, List.length_cons, List.length_nil, List.map_cons, List.map_nil, List.append_nil, List.nil_append, List.cons_append, List.replicate, Nat.reduceAdd, Nat.reduceSub, Nat.reduceLeDiff, decide_true, decide_false, Bool.not_true, Bool.not_false, Bool.and_true, Bool.true_and, Bool.and_false, Bool.false_and, Int.cast_ofNat_Int, Int.reduceEq, Int.reduceNe, Int.reduceLT, Int.reduceLE, Int.reduceAdd, Int.reduceMul, Int.reduceSub, Int.reduceMod, Int.reduceDiv, Int.reduceNeg, isi_int, isi_nbool, isi_tup, oLe, oLt, oGt, oGe, iCmp, oAdd, oSub, iOp, noLocs, noLoc, oMod, oDiv, divOk, oMul, oNeg, gt_iff_lt, eq_self, true_or, or_true, or_false, false_or, and_true, true_and, and_false, false_and, hL, decide_eq_true hm]) ?_
          rw [if_pos rfl]
          have m1 : mulOk s 69621 = true := mulOk_r (by decide)
          have c1 : decide ((0 : Int) < 2147483647) = true := by decide
          refine wp_seq1 (σ1 := [some (.scr ns), some (.int 300), some (.loc 0), some (.int ((s * 69621 + (0 + (k : Int)) + 1) % 2147483647)), x4, some (nv k), x6]) (S1 := [.lst (es.map D.int)]) (by simp only [mSeq, mSet, mThen, mVar, mC, mOp, mUn, mChain, mB, mNot, mAnd, mOr, mOfB, mIf, mAndV, mOrV, mNil, mCons, mTup, mLst, mRet, mRetN, mIfS, mExpr, mSkip, mPat, mPar, mAug, mPut, mCB, mCall, mFz, mLoc, mBM, M.bind, M.ret, M.rd, M.ofR, List.getElem?_cons_zero, List.getElem?_cons_succ, List.set_cons_zero, List.set_cons_succ, asB, Pat.put, Pat.puts, Option.map_some, Option.bind_some, if_true, if_false, reduceIte, Bool.false_eq_true, Bool.true_eq_false, List.length_cons, List.length_nil, List.map_cons, List.map_nil, List.append_nil, List.nil_append, List.cons_append, List.replicate, Nat.reduceAdd, Nat.reduceSub, Nat.reduceLeDiff, decide_true, decide_false, Bool.not_true, Bool.not_false, Bool.and_true, Bool.true_and, Bool.and_false, Bool.false_and, Int.cast_ofNat_Int, Int.reduceEq, Int.reduceNe, Int.reduceLT, Int.reduceLE, Int.reduceAdd, Int.reduceMul, Int.reduceSub, Int.reduceMod, Int.reduceDiv, Int.reduceNeg, isi_int, isi_nbool, isi_tup, oLe, oLt, oGt, oGe, iCmp, oAdd, oSub, iOp, noLocs, noLoc, oMod, oDiv, divOk, oMul, oNeg, gt_iff_lt, eq_self, true_or, or_true, or_false, false_or, and_true, true_and, and_false, false_and, nv, m1, int_i, c1]) ?_
          generalize (s * 69621 + (0 + (k : Int)) + 1) % 2147483647 = s2
          have c2 : decide ((0 : Int) < 7 ∧ (7 : Int) < 1073741824) = true := by decide
          have c3 : decide ((0 : Int) < 65521) = true := by decide
          refine wp_of (o := .nx) (σ := [some (.scr ns), some (.int 300), some (.loc 0), some (.int s2), x4, some (nv k), x6]) (S := [.lst ((es ++ [s2 / 7 % 65521]).map D.int)]) ?_ ⟨.inl rfl, _, _, _, rfl, rfl, hes.snoc (by omega) (by omega), ?_, ?_⟩
          · simp only [mSeq, mSet, mThen, mVar, mC, mOp, mUn, mChain, mB, mNot, mAnd, mOr, mOfB, mIf, mAndV, mOrV, mNil, mCons, mTup, mLst, mRet, mRetN, mIfS, mExpr, mSkip, mPat, mPar, mAug, mPut, mCB, mCall, mFz, mLoc, mBM, M.bind, M.ret, M.rd, M.ofR, List.getElem?_cons_zero, List.getElem?_cons_succ, List.set_cons_zero, List.set_cons_succ, asB, Pat.put, Pat.puts, Option.map_some, Option.bind_some, if_true, if_false, reduceIte, Bool.false_eq_true, Bool.true_eq_false, List.length_cons, List.length_nil, List.map_cons, List.map_nil, List.append_nil, List.nil_append, List.cons_append, List.replicate, Nat.reduceAdd, Nat.reduceSub, Nat.reduceLeDiff, decide_true, decide_false, Bool.not_true, Bool.not_false, Bool.and_true, Bool.true_and, Bool.and_false, Bool.false_and, Int.cast_ofNat_Int, Int.reduceEq, Int.reduceNe, Int.reduceLT, Int.reduceLE, Int.reduceAdd, Int.reduceMul, Int.reduceSub, Int.reduceMod, Int.reduceDiv, Int.reduceNeg, isi_int, isi_nbool, isi_tup, oLe, oLt, oGt, oGe, iCmp, oAdd, oSub, iOp, noLocs, noLoc, oMod, oDiv, divOk, oMul, oNeg, gt_iff_lt, eq_self, true_or, or_true, or_false, false_or, and_true, true_and, and_false, false_and, int_i, c2, c3, isLst0, append0i es _ (by omega)]
          · simp; omega
          · simp; omega
        · refine wp_ifF (S1 := [.lst (es.map D.int)]) (by simp only [mSeq, mSet, mThen, mVar, mC, mOp, mUn, mChain, mB, mNot, mAnd, mOr, mOfB, mIf, mAndV, mOrV, mNil, mCons, mTup, mLst, mRet, mRetN, mIfS, mExpr, mSkip, mPat, mPar, mAug, mPut, mCB, mCall, mFz, mLoc, mBM, M.bind, M.ret, M.rd, M.ofR, List.getElem?_cons_zero, List.getElem?_cons_succ, List.set_cons_zero, List.set_cons_succ, asB, Pat.put, Pat.puts, Option.map_some, Option.bind_some, if_true, if_false, reduceIte, Bool.false_eq_true, Bool.true_eq_false, List.length_cons, List.length_nil, List.map_cons, List.map_nil, List.append_nil, List.nil_append, List.cons_append, List.replicate, Nat.reduceAdd, Nat.reduceSub, Nat.reduceLeDiff, decide_true, decide_false, Bool.not_true, Bool.not_false, Bool.and_true, Bool.true_and, Bool.and_false, Bool.false_and, Int.cast_ofNat_Int, Int.reduceEq, Int.reduceNe, Int.reduceLT, Int.reduceLE, Int.reduceAdd, Int.reduceMul, Int.reduceSub, Int.reduceMod, Int.reduceDiv, Int.reduceNeg, isi_int, isi_nbool, isi_tup, oLe, oLt, oGt, oGe, iCmp, oAdd, oSub, iOp, noLocs, noLoc, oMod, oDiv, divOk, oMul, oNeg, gt_iff_lt, eq_self, true_or, or_true, or_false, false_or, and_true, true_and, and_false, false_and, hL, decide_eq_false hm]) ⟨.inl rfl, es, s, _, rfl, rfl, hes, ?_, ?_⟩
          · simp; omega
          · simp; omega
      · rintro _ _ ⟨es, s, y5, rfl, rfl, hes, hen, hen2⟩
        refine ⟨rfl, ?_⟩
        have hcut : cutL (es.map D.int) none (some 300) = (es.take 300).map D.int := by
          rw [List.map_take]; exact take63 _ 300
        have hlo : lstOf [.lst (es.map D.int)] (.loc 0) = some (es.map D.int) := rfl
        refine wp_of (o := .rt (.lst ((es.take 300).map D.int))) (σ := [some (.scr ns), some (.int 300), some (.loc 0), some (.int s), x4, y5, x6]) (S := [.lst (es.map D.int)]) ?_ ⟨es.take 300, ?_, fun d hd => hes d (List.mem_of_mem_take hd), rfl⟩
        · simp only [mSeq, mSet, mThen, mVar, mC, mOp, mUn, mChain, mB, mNot, mAnd, mOr, mOfB, mIf, mAndV, mOrV, mNil, mCons, mTup, mLst, mRet, mRetN, mIfS, mExpr, mSkip, mPat, mPar, mAug, mPut, mCB, mCall, mFz, mLoc, mBM, M.bind, M.ret, M.rd, M.ofR, List.getElem?_cons_zero, List.getElem?_cons_succ, List.set_cons_zero, List.set_cons_succ, asB, Pat.put, Pat.puts, Option.map_some, Option.bind_some, if_true, if_false, reduceIte, Bool.false_eq_true, Bool.true_eq_false, List.length_cons, List.length_nil, List.map_cons, List.map_nil, List.append_nil, List.nil_append, List.cons_append, List.replicate, Nat.reduceAdd, Nat.reduceSub, Nat.reduceLeDiff, decide_true, decide_false, Bool.not_true, Bool.not_false, Bool.and_true, Bool.true_and, Bool.and_false, Bool.false_and, Int.cast_ofNat_Int, Int.reduceEq, Int.reduceNe, Int.reduceLT, Int.reduceLE, Int.reduceAdd, Int.reduceMul, Int.reduceSub, Int.reduceMod, Int.reduceDiv, Int.reduceNeg, isi_int, isi_nbool, isi_tup, oLe, oLt, oGt, oGe, iCmp, oAdd, oSub, iOp, noLocs, noLoc, oMod, oDiv, divOk, oMul, oNeg, gt_iff_lt, eq_self, true_or, or_true, or_false, false_or, and_true, true_and, and_false, false_and, mCut, mNoPart, mPart, hlo, hcut]
        · simp at hen2
          simp
          omega
  obtain ⟨o, σ, S, e, ds, h1, h2, rfl⟩ := key
  exact ⟨ds, h1, h2, run_wp rfl ⟨_, σ, S, e, _, rfl, frz_no (noLocs_map D.int (fun _ => rfl) ds)⟩⟩
theorem lawCommon (a b : Nat) (ha : 1 ≤ a) (hb : b ≤ 12) : f__law_common [.int (a : Int), .int (b : Int)] = some (.ok (.int (Nat.gcd a b : Int))) := by
  refine run_rt rfl rfl ?_
  unfold b__law_common
  show WP (mSeq _ _ [some (.int (a : Int)), some (.int (b : Int)), none] []) _
  have main : WP (mFor (.nm 2) (mRg1 (mC (.int 4000))) (mSeq (mIfS (mB (mOp oEq (mVar 1) (mC (.int 0)))) (mRet (mVar 0)) mSkip) (mPar 0 1 (mVar 1) (mOp oMod (mVar 0) (mVar 1)))) [some (.int (a : Int)), some (.int (b : Int)), none] []) fun o σ S => o = .rt (.int (Nat.gcd a b : Int)) := by
    refine wp_forR nv (List.range 4000) (fun dn σ S => ∃ (x y : Nat) (z : Option D), σ = [some (.int (x : Int)), some (.int (y : Int)), z] ∧ S = [] ∧ Nat.gcd x y = Nat.gcd a b ∧ y + dn.length ≤ 12) (S1 := []) rfl ⟨a, b, _, rfl, rfl, rfl, by simp; omega⟩ ?_ ?_
    · rintro dn k rst _ _ hk ⟨x, y, z, rfl, rfl, hg, hy⟩
      refine ⟨_, rfl, ?_⟩
      by_cases h0 : y = 0
      · subst h0
        have hx : x = Nat.gcd a b := by rw [← hg]; exact (Nat.gcd_zero_right x).symm
        refine wp_seqR (o := .rt (.int (x : Int))) (σ1 := [some (.int (x : Int)), some (.int ((0 : Nat) : Int)), some (nv k)]) (S1 := []) ?_ (by intro h; cases h) (.inr ⟨_, rfl, by rw [hx]⟩)
        have c : decide (((0 : Nat) : Int) = 0) = true := by decide
        simp only [mSeq, mSet, mThen, mVar, mC, mOp, mUn, mChain, mB, mNot, mAnd, mOr, mOfB, mIf, mAndV, mOrV, mNil, mCons, mTup, mLst, mRet, mRetN, mIfS, mExpr, mSkip, mPat, mPar, mAug, mPut, mCB, mCall, mFz, mLoc, mBM, M.bind, M.ret, M.rd, M.ofR, List.getElem?_cons_zero, List.getElem?_cons_succ, List.set_cons_zero, List.set_cons_succ, asB, Pat.put, Pat.puts, Option.map_some, Option.bind_some, if_true, if_false, reduceIte, Bool.false_eq_true, Bool.true_eq_false, List.length_cons, List.length_nil, List.map_cons, List.map_nil, List.append_nil, List.nil_append, List.cons_append, List.replicate, Nat.reduceAdd, Nat.reduceSub, Nat.reduceLeDiff, decide_true, decide_false, Bool.not_true, Bool.not_false, Bool.and_true, Bool.true_and, Bool.and_false, Bool.false_and, Int.cast_ofNat_Int, Int.reduceEq, Int.reduceNe, Int.reduceLT, Int.reduceLE, Int.reduceAdd, Int.reduceMul, Int.reduceSub, Int.reduceMod, Int.reduceDiv, Int.reduceNeg, isi_int, isi_nbool, isi_tup, oLe, oLt, oGt, oGe, iCmp, oAdd, oSub, iOp, noLocs, noLoc, oMod, oDiv, divOk, oMul, oNeg, gt_iff_lt, eq_self, true_or, or_true, or_false, false_or, and_true, true_and, and_false, false_and, eq_int, c]
      · have c : decide ((y : Int) = 0) = false := decide_eq_false (by omega)
        have c1 : decide ((0 : Int) < (y : Int)) = true := decide_eq_true (by omega)
        refine wp_seq1 (σ1 := [some (.int (x : Int)), some (.int (y : Int)), some (nv k)]) (S1 := []) (by simp only [mSeq, mSet, mThen, mVar, mC, mOp, mUn, mChain, mB, mNot, mAnd, mOr, mOfB, mIf, mAndV, mOrV, mNil, mCons, mTup, mLst, mRet, mRetN, mIfS, mExpr, mSkip, mPat, mPar, mAug, mPut, mCB, mCall, mFz, mLoc, mBM, M.bind, M.ret, M.rd, M.ofR, List.getElem?_cons_zero, List.getElem?_cons_succ, List.set_cons_zero, List.set_cons_succ, asB, Pat.put, Pat.puts, Option.map_some, Option.bind_some, if_true, if_false, reduceIte, Bool.false_eq_true, Bool.true_eq_false, List.length_cons, List.length_nil, List.map_cons, List.map_nil, List.append_nil, List.nil_append, List.cons_append, List.replicate, Nat.reduceAdd, Nat.reduceSub, Nat.reduceLeDiff, decide_true, decide_false, Bool.not_true, Bool.not_false, Bool.and_true, Bool.true_and, Bool.and_false, Bool.false_and, Int.cast_ofNat_Int, Int.reduceEq, Int.reduceNe, Int.reduceLT, Int.reduceLE, Int.reduceAdd, Int.reduceMul, Int.reduceSub, Int.reduceMod, Int.reduceDiv, Int.reduceNeg, isi_int, isi_nbool, isi_tup, oLe, oLt, oGt, oGe, iCmp, oAdd, oSub, iOp, noLocs, noLoc, oMod, oDiv, divOk, oMul, oNeg, gt_iff_lt, eq_self, true_or, or_true, or_false, false_or, and_true, true_and, and_false, false_and, eq_int, c]) ?_
        have hlt : x % y < y := Nat.mod_lt _ (by omega)
        refine wp_of (o := .nx) (σ := [some (.int (y : Int)), some (.int ((x % y : Nat) : Int)), some (nv k)]) (S := []) ?_ (.inl ⟨.inl rfl, y, x % y, _, rfl, rfl, ?_, ?_⟩)
        · have e : (x : Int) % (y : Int) = ((x % y : Nat) : Int) := by omega
          simp only [mSeq, mSet, mThen, mVar, mC, mOp, mUn, mChain, mB, mNot, mAnd, mOr, mOfB, mIf, mAndV, mOrV, mNil, mCons, mTup, mLst, mRet, mRetN, mIfS, mExpr, mSkip, mPat, mPar, mAug, mPut, mCB, mCall, mFz, mLoc, mBM, M.bind, M.ret, M.rd, M.ofR, List.getElem?_cons_zero, List.getElem?_cons_succ, List.set_cons_zero, List.set_cons_succ, asB, Pat.put, Pat.puts, Option.map_some, Option.bind_some, if_true, if_false, reduceIte, Bool.false_eq_true, Bool.true_eq_false, List.length_cons, List.length_nil, List.map_cons, List.map_nil, List.append_nil, List.nil_append, List.cons_append, List.replicate, Nat.reduceAdd, Nat.reduceSub, Nat.reduceLeDiff, decide_true, decide_false, Bool.not_true, Bool.not_false, Bool.and_true, Bool.true_and, Bool.and_false, Bool.false_and, Int.cast_ofNat_Int, Int.reduceEq, Int.reduceNe, Int.reduceLT, Int.reduceLE, Int.reduceAdd, Int.reduceMul, Int.reduceSub, Int.reduceMod, Int.reduceDiv, Int.reduceNeg, isi_int, isi_nbool, isi_tup, oLe, oLt, oGt, oGe, iCmp, oAdd, oSub, iOp, noLocs, noLoc, oMod, oDiv, divOk, oMul, oNeg, gt_iff_lt, eq_self, true_or, or_true, or_false, false_or, and_true, true_and, and_false, false_and, c1, e]
        · rw [← hg, Nat.gcd_comm y, ← Nat.gcd_rec, Nat.gcd_comm]
        · simp; omega
    · rintro _ _ ⟨x, y, z, rfl, rfl, hg, hy⟩
      simp at hy
  obtain ⟨o, σ, S, e, rfl⟩ := main
  exact wp_seqR e (by intro h; cases h) rfl
end W3
end
section
set_option linter.all false
set_option maxRecDepth 100000
set_option maxHeartbeats 2000000
namespace W3
open Rw Mv
variable {n : Nat}
/-- place and turn as data -/
def pt (q : Fin n × Fin 4) : D := .tup [.int (q.1.val : Int), .int (q.2.val : Int)]
/-- a move by a list of its places and turns -/
theorem mv_of (l : List (Fin n × Fin 4)) (h : (l.map Prod.fst).Perm (List.finRange n)) : ∃ m : Mv n, l.map pt = els m := by
  have hl : l.length = n := by
    have := h.length_eq
    simpa using this
  have hi : ∀ j : Fin n, ∃ i : Fin n, (l[i.val]'(by rw [hl]; exact i.isLt)).1 = j := fun j => by
    have h1 : j ∈ l.map Prod.fst := h.mem_iff.mpr (List.mem_finRange j)
    obtain ⟨q, hq, rfl⟩ := List.mem_map.mp h1
    obtain ⟨i, hi, e⟩ := List.mem_iff_getElem.mp hq
    exact ⟨⟨i, by omega⟩, by rw [e]⟩
  have nd : (l.map Prod.fst).Nodup := h.nodup_iff.mpr (List.nodup_finRange n)
  have inj : ∀ i j : Fin n, (l[i.val]'(by rw [hl]; exact i.isLt)).1 = (l[j.val]'(by rw [hl]; exact j.isLt)).1 → i = j := fun i j e => by
    have hp := List.pairwise_iff_getElem.mp nd
    apply Fin.ext
    rcases Nat.lt_trichotomy i.val j.val with z | z | z
    · exact absurd (by rw [List.getElem_map, List.getElem_map]; exact e) (hp i.val j.val (by simp [hl]) (by simp [hl]) z)
    · exact z
    · exact absurd (by rw [List.getElem_map, List.getElem_map]; exact e.symm) (hp j.val i.val (by simp [hl]) (by simp [hl]) z)
  refine ⟨⟨fun i => (l[i.val]'(by rw [hl]; exact i.isLt)).1, fun i => (l[i.val]'(by rw [hl]; exact i.isLt)).2, fun j => Classical.choose (hi j), fun i => ?_, fun j => Classical.choose_spec (hi j)⟩, ?_⟩
  · exact inj _ _ (Classical.choose_spec (hi _))
  · unfold els
    apply List.ext_getElem
    · simp [hl]
    · intro i h1 h2
      simp
      rfl
theorem erase_cut (xs : List D) (k : Nat) (h : k < xs.length) : cutL xs none (some (k : Int)) ++ cutL xs (some ((k : Int) + 1)) none = xs.eraseIdx k := by
  rw [take63, show (k : Int) + 1 = ((k + 1 : Nat) : Int) by omega, dropk _ _ (by omega), List.eraseIdx_eq_take_drop_succ]
theorem erase_perm {α : Type} : ∀ (xs : List α) (k : Nat) (h : k < xs.length), xs.Perm (xs[k] :: xs.eraseIdx k)
  | x :: xs, 0, _ => List.Perm.refl _
  | x :: xs, k + 1, h => by
    have := erase_perm xs k (by simpa using h)
    simp only [List.getElem_cons_succ, List.eraseIdx_cons_succ]
    exact (this.cons x).trans (List.Perm.swap _ _ _)
  | [], k, h => by simp at h
theorem ds_ix (ds : List Int) (k : Nat) (h : k < ds.length) (S : List Cell) : ixO S (.lst (ds.map D.int)) (.int (k : Int)) = some (.int ds[k]) := by
  show L2.atI (ds.map D.int) (k : Int) = _
  unfold L2.atI L2.ixN
  rw [List.length_map, if_pos (by omega), if_pos (by omega)]
  show (ds.map D.int)[((k : Int)).toNat]? = _
  rw [Int.toNat_natCast]
  simp [h]
theorem rs_ix (rs : List (Fin n)) (k : Nat) (h : k < rs.length) (S : List Cell) : ixO S (.lst (rs.map iv)) (.int (k : Int)) = some (iv rs[k]) := by
  show L2.atI (rs.map iv) (k : Int) = _
  unfold L2.atI L2.ixN
  rw [List.length_map, if_pos (by omega), if_pos (by omega)]
  show (rs.map iv)[((k : Int)).toNat]? = _
  rw [Int.toNat_natCast]
  simp [h]
theorem lawMove (ds : List Int) (hd : Dr ds) (h8 : n ≤ 8) (hl : 2 * n ≤ ds.length) : ∃ m : Mv n, f__law_move [.lst (ds.map D.int), .int (n : Int)] = some (.ok (enc m)) := by
  have key : WP (b__law_move [some (.lst (ds.map D.int)), some (.int (n : Int)), none, none, none, none] []) fun o σ S => ∃ l : List (Fin n × Fin 4), (l.map Prod.fst).Perm (List.finRange n) ∧ o = .rt (.tup (l.map pt)) := by
    unfold b__law_move
    have c1 : (-1000000 ≤ (n : Int)) ∧ ((n : Int) ≤ 1000000) := by omega
    have e0 : rgD 0 (n : Int) = (List.finRange n).map iv := by
      rw [rgD_fin, ← range_fin, List.map_map]
      rfl
    refine wp_seq1 (σ1 := [some (.lst (ds.map D.int)), some (.int (n : Int)), some (.lst ((List.finRange n).map iv)), some (.loc 0), none, none]) (S1 := [.lst []]) (by
      simp only [mSeq, mSet, mThen, mVar, mC, mOp, mUn, mChain, mB, mNot, mAnd, mOr, mOfB, mIf, mAndV, mOrV, mNil, mCons, mTup, mLst, mRet, mRetN, mIfS, mExpr, mSkip, mPat, mPar, mAug, mPut, mCB, mCall, mFz, mLoc, mBM, M.bind, M.ret, M.rd, M.ofR, List.getElem?_cons_zero, List.getElem?_cons_succ, List.set_cons_zero, List.set_cons_succ, asB, Pat.put, Pat.puts, Option.map_some, Option.bind_some, if_true, if_false, reduceIte, Bool.false_eq_true, Bool.true_eq_false, List.length_cons, List.length_nil, List.map_cons, List.map_nil, List.append_nil, List.nil_append, List.cons_append, List.replicate, Nat.reduceAdd, Nat.reduceSub, Nat.reduceLeDiff, decide_true, decide_false, Bool.not_true, Bool.not_false, Bool.and_true, Bool.true_and, Bool.and_false, Bool.false_and, Int.cast_ofNat_Int, Int.reduceEq, Int.reduceNe, Int.reduceLT, Int.reduceLE, Int.reduceAdd, Int.reduceMul, Int.reduceSub, Int.reduceMod, Int.reduceDiv, Int.reduceNeg, isi_int, isi_nbool, isi_tup, oLe, oLt, oGt, oGe, iCmp, oAdd, oSub, iOp, noLocs, noLoc, oMod, oDiv, divOk, oMul, oNeg, gt_iff_lt, eq_self, true_or, or_true, or_false, false_or, and_true, true_and, and_false, false_and, mLstRg1, if_pos c1, e0, line8, Nat.zero_le]) ?_
    refine wp_seq (wp_for nv (List.range n) (fun dn σ S => ∃ (rs : List (Fin n)) (l : List (Fin n × Fin 4)) (x4 x5 : Option D), σ = [some (.lst (ds.map D.int)), some (.int (n : Int)), some (.lst (rs.map iv)), some (.loc 0), x4, x5] ∧ S = [.lst (l.map pt)] ∧ l.length = dn.length ∧ (l.map Prod.fst ++ rs).Perm (List.finRange n))
      (S1 := [.lst []]) (by
        simp only [mSeq, mSet, mThen, mVar, mC, mOp, mUn, mChain, mB, mNot, mAnd, mOr, mOfB, mIf, mAndV, mOrV, mNil, mCons, mTup, mLst, mRet, mRetN, mIfS, mExpr, mSkip, mPat, mPar, mAug, mPut, mCB, mCall, mFz, mLoc, mBM, M.bind, M.ret, M.rd, M.ofR, List.getElem?_cons_zero, List.getElem?_cons_succ, List.set_cons_zero, List.set_cons_succ, asB, Pat.put, Pat.puts, Option.map_some, Option.bind_some, if_true, if_false, reduceIte, Bool.false_eq_true, Bool.true_eq_false, List.length_cons, List.length_nil, List.map_cons, List.map_nil, List.append_nil, List.nil_append, List.cons_append, List.replicate, Nat.reduceAdd, Nat.reduceSub, Nat.reduceLeDiff, decide_true, decide_false, Bool.not_true, Bool.not_false, Bool.and_true, Bool.true_and, Bool.and_false, Bool.false_and, Int.cast_ofNat_Int, Int.reduceEq, Int.reduceNe, Int.reduceLT, Int.reduceLE, Int.reduceAdd, Int.reduceMul, Int.reduceSub, Int.reduceMod, Int.reduceDiv, Int.reduceNeg, isi_int, isi_nbool, isi_tup, oLe, oLt, oGt, oGe, iCmp, oAdd, oSub, iOp, noLocs, noLoc, oMod, oDiv, divOk, oMul, oNeg, gt_iff_lt, eq_self, true_or, or_true, or_false, false_or, and_true, true_and, and_false, false_and, mRg1, if_pos c1]
        rfl) ⟨List.finRange n, [], _, _, rfl, rfl, rfl, List.Perm.refl _⟩ ?_ ?_)
    · rintro dn k rst _ _ hk ⟨rs, l, x4, x5, rfl, rfl, hll, hp⟩
      obtain ⟨hk1, hk2⟩ := range_lt hk
      have hrl : rs.length = n - dn.length := by
        have := hp.length_eq
        simp at this
        omega
      have hrp : 0 < rs.length := by omega
      have hkd : k < ds.length := by omega
      have hkd2 : k + n < ds.length := by omega
      refine ⟨_, rfl, ?_⟩
      have hb1 := hd ds[k] (List.getElem_mem hkd)
      have hb2 := hd ds[k + n] (List.getElem_mem hkd2)
      obtain ⟨at_, hat⟩ : ∃ at_ : Nat, (at_ : Int) = ds[k] % (rs.length : Int) := ⟨(ds[k] % (rs.length : Int)).toNat, by
        have := Int.emod_nonneg ds[k] (show (rs.length : Int) ≠ 0 by omega)
        omega⟩
      have hatl : at_ < rs.length := by
        have := Int.emod_lt_of_pos ds[k] (show (0 : Int) < (rs.length : Int) by omega)
        omega
      have hL : ∀ S, oLen S [.lst (rs.map iv)] = some (.int (rs.length : Int)) := fun S => by rw [len_lst, List.length_map]
      have c2 : decide ((0 : Int) < (rs.length : Int)) = true := decide_eq_true (by omega)
      have ek : nv k = .int (k : Int) := by unfold nv; rw [Int.zero_add]
      rw [ek]
      refine wp_seq1 (σ1 := [some (.lst (ds.map D.int)), some (.int (n : Int)), some (.lst (rs.map iv)), some (.loc 0), some (.int (k : Int)), some (.int (at_ : Int))]) (S1 := [.lst (l.map pt)]) (by
        simp only [mSeq, mSet, mThen, mVar, mC, mOp, mUn, mChain, mB, mNot, mAnd, mOr, mOfB, mIf, mAndV, mOrV, mNil, mCons, mTup, mLst, mRet, mRetN, mIfS, mExpr, mSkip, mPat, mPar, mAug, mPut, mCB, mCall, mFz, mLoc, mBM, M.bind, M.ret, M.rd, M.ofR, List.getElem?_cons_zero, List.getElem?_cons_succ, List.set_cons_zero, List.set_cons_succ, asB, Pat.put, Pat.puts, Option.map_some, Option.bind_some, if_true, if_false, reduceIte, Bool.false_eq_true, Bool.true_eq_false, List.length_cons, List.length_nil, List.map_cons, List.map_nil, List.append_nil, List.nil_append, List.cons_append, List.replicate, Nat.reduceAdd, Nat.reduceSub, Nat.reduceLeDiff, decide_true, decide_false, Bool.not_true, Bool.not_false, Bool.and_true, Bool.true_and, Bool.and_false, Bool.false_and, Int.cast_ofNat_Int, Int.reduceEq, Int.reduceNe, Int.reduceLT, Int.reduceLE, Int.reduceAdd, Int.reduceMul, Int.reduceSub, Int.reduceMod, Int.reduceDiv, Int.reduceNeg, isi_int, isi_nbool, isi_tup, oLe, oLt, oGt, oGe, iCmp, oAdd, oSub, iOp, noLocs, noLoc, oMod, oDiv, divOk, oMul, oNeg, gt_iff_lt, eq_self, true_or, or_true, or_false, false_or, and_true, true_and, and_false, false_and, ds_ix ds k hkd, int_i, hL, c2, hat]) ?_
      -- the turn
      obtain ⟨t, ht⟩ : ∃ t : Fin 4, ((t.val : Nat) : Int) = if 0 < ds[k] / 50 % 3 then ds[k + n] % 4 else 0 := by
        split
        · exact ⟨⟨(ds[k + n] % 4).toNat, by omega⟩, by show (((ds[k + n] % 4).toNat : Nat) : Int) = _; omega⟩
        · exact ⟨0, rfl⟩
      have hle : (l.map pt).length ≤ LINE := by rw [List.length_map]; exact line8 (by omega)
      have ekn : (k : Int) + (n : Int) = ((k + n : Nat) : Int) := by omega
      have c3 : decide ((0 : Int) < 50 ∧ (50 : Int) < 1073741824) = true := by decide
      have c4 : decide ((0 : Int) < 3) = true := by decide
      have c5 : decide ((0 : Int) < 4) = true := by decide
      refine wp_seq1 (σ1 := [some (.lst (ds.map D.int)), some (.int (n : Int)), some (.lst (rs.map iv)), some (.loc 0), some (.int (k : Int)), some (.int (at_ : Int))]) (S1 := [.lst ((l ++ [(rs[at_], t)]).map pt)]) ?_ ?_
      · have e1 : pt (rs[at_], t) = .tup [iv rs[at_], .int (t.val : Int)] := rfl
        rw [List.map_append, List.map_cons, List.map_nil, e1, ht]
        by_cases hc : 0 < ds[k] / 50 % 3
        · simp only [mSeq, mSet, mThen, mVar, mC, mOp, mUn, mChain, mB, mNot, mAnd, mOr, mOfB, mIf, mAndV, mOrV, mNil, mCons, mTup, mLst, mRet, mRetN, mIfS, mExpr, mSkip, mPat, mPar, mAug, mPut, mCB, mCall, mFz, mLoc, mBM, M.bind, M.ret, M.rd, M.ofR, List.getElem?_cons_zero, List.getElem?_cons_succ, List.set_cons_zero, List.set_cons_succ, asB, Pat.put, Pat.puts, Option.map_some, Option.bind_some, if_true, if_false, reduceIte, Bool.false_eq_true, Bool.true_eq_false, List.length_cons, List.length_nil, List.map_cons, List.map_nil, List.append_nil, List.nil_append, List.cons_append, List.replicate, Nat.reduceAdd, Nat.reduceSub, Nat.reduceLeDiff, decide_true, decide_false, Bool.not_true, Bool.not_false, Bool.and_true, Bool.true_and, Bool.and_false, Bool.false_and, Int.cast_ofNat_Int, Int.reduceEq, Int.reduceNe, Int.reduceLT, Int.reduceLE, Int.reduceAdd, Int.reduceMul, Int.reduceSub, Int.reduceMod, Int.reduceDiv, Int.reduceNeg, isi_int, isi_nbool, isi_tup, oLe, oLt, oGt, oGe, iCmp, oAdd, oSub, iOp, noLocs, noLoc, oMod, oDiv, divOk, oMul, oNeg, gt_iff_lt, eq_self, true_or, or_true, or_false, false_or, and_true, true_and, and_false, false_and, rs_ix rs at_ hatl, ds_ix ds k hkd, int_i, c3, c4, c5, decide_eq_true hc, ekn, ds_ix ds (k + n) hkd2, if_pos hc, isLst0, append0 _ _ hle, line8, show (2 : Nat) ≤ LINE from by decide]
        · simp only [mSeq, mSet, mThen, mVar, mC, mOp, mUn, mChain, mB, mNot, mAnd, mOr, mOfB, mIf, mAndV, mOrV, mNil, mCons, mTup, mLst, mRet, mRetN, mIfS, mExpr, mSkip, mPat, mPar, mAug, mPut, mCB, mCall, mFz, mLoc, mBM, M.bind, M.ret, M.rd, M.ofR, List.getElem?_cons_zero, List.getElem?_cons_succ, List.set_cons_zero, List.set_cons_succ, asB, Pat.put, Pat.puts, Option.map_some, Option.bind_some, if_true, if_false, reduceIte, Bool.false_eq_true, Bool.true_eq_false, List.length_cons, List.length_nil, List.map_cons, List.map_nil, List.append_nil, List.nil_append, List.cons_append, List.replicate, Nat.reduceAdd, Nat.reduceSub, Nat.reduceLeDiff, decide_true, decide_false, Bool.not_true, Bool.not_false, Bool.and_true, Bool.true_and, Bool.and_false, Bool.false_and, Int.cast_ofNat_Int, Int.reduceEq, Int.reduceNe, Int.reduceLT, Int.reduceLE, Int.reduceAdd, Int.reduceMul, Int.reduceSub, Int.reduceMod, Int.reduceDiv, Int.reduceNeg, isi_int, isi_nbool, isi_tup, oLe, oLt, oGt, oGe, iCmp, oAdd, oSub, iOp, noLocs, noLoc, oMod, oDiv, divOk, oMul, oNeg, gt_iff_lt, eq_self, true_or, or_true, or_false, false_or, and_true, true_and, and_false, false_and, rs_ix rs at_ hatl, ds_ix ds k hkd, int_i, c3, c4, c5, decide_eq_false hc, if_neg hc, isLst0, append0 _ _ hle, line8, show (2 : Nat) ≤ LINE from by decide]
      · have hlo : ∀ S, lstOf S (.lst (rs.map iv)) = some (rs.map iv) := fun _ => rfl
        have hlen2 : (cutL (rs.map iv) none (some (at_ : Int))).length + (cutL (rs.map iv) (some ((at_ : Int) + 1)) none).length ≤ LINE := by
          rw [← List.length_append, erase_cut _ _ (by rw [List.length_map]; exact hatl)]
          have := List.length_eraseIdx_le (rs.map iv) at_
          rw [List.length_map] at this
          exact line8 (by omega)
        have hes : cutL (rs.map iv) none (some (at_ : Int)) ++ cutL (rs.map iv) (some ((at_ : Int) + 1)) none = (rs.eraseIdx at_).map iv := by
          rw [erase_cut _ _ (by rw [List.length_map]; exact hatl), List.eraseIdx_eq_take_drop_succ, List.eraseIdx_eq_take_drop_succ, List.map_append, List.map_take, List.map_drop]
        refine wp_of (o := .nx) (σ := [some (.lst (ds.map D.int)), some (.int (n : Int)), some (.lst ((rs.eraseIdx at_).map iv)), some (.loc 0), some (.int (k : Int)), some (.int (at_ : Int))]) (S := [.lst ((l ++ [(rs[at_], t)]).map pt)]) ?_
          ⟨.inl rfl, rs.eraseIdx at_, l ++ [(rs[at_], t)], _, _, rfl, rfl, by simp [hll], ?_⟩
        · simp only [mSeq, mSet, mThen, mVar, mC, mOp, mUn, mChain, mB, mNot, mAnd, mOr, mOfB, mIf, mAndV, mOrV, mNil, mCons, mTup, mLst, mRet, mRetN, mIfS, mExpr, mSkip, mPat, mPar, mAug, mPut, mCB, mCall, mFz, mLoc, mBM, M.bind, M.ret, M.rd, M.ofR, List.getElem?_cons_zero, List.getElem?_cons_succ, List.set_cons_zero, List.set_cons_succ, asB, Pat.put, Pat.puts, Option.map_some, Option.bind_some, if_true, if_false, reduceIte, Bool.false_eq_true, Bool.true_eq_false, List.length_cons, List.length_nil, List.map_cons, List.map_nil, List.append_nil, List.nil_append, List.cons_append, List.replicate, Nat.reduceAdd, Nat.reduceSub, Nat.reduceLeDiff, decide_true, decide_false, Bool.not_true, Bool.not_false, Bool.and_true, Bool.true_and, Bool.and_false, Bool.false_and, Int.cast_ofNat_Int, Int.reduceEq, Int.reduceNe, Int.reduceLT, Int.reduceLE, Int.reduceAdd, Int.reduceMul, Int.reduceSub, Int.reduceMod, Int.reduceDiv, Int.reduceNeg, isi_int, isi_nbool, isi_tup, oLe, oLt, oGt, oGe, iCmp, oAdd, oSub, iOp, noLocs, noLoc, oMod, oDiv, divOk, oMul, oNeg, gt_iff_lt, eq_self, true_or, or_true, or_false, false_or, and_true, true_and, and_false, false_and, mCat, mCut, mNoPart, mPart, hlo, if_pos hlen2, hes]
        · rw [List.map_append, List.append_assoc]
          exact ((erase_perm rs at_ hatl).symm.append_left _).trans hp
    · rintro _ _ ⟨rs, l, x4, x5, rfl, rfl, hll, hp⟩
      have hrs : rs = [] := by
        have := hp.length_eq
        simp at this hll
        exact List.length_eq_zero_iff.mp (by omega)
      subst hrs
      rw [List.append_nil] at hp
      exact ⟨rfl, wp_of (o := .rt _) rfl ⟨l, hp, rfl⟩⟩
  obtain ⟨o, σ, S, e, l, hp, rfl⟩ := key
  obtain ⟨m, hm⟩ := mv_of l hp
  refine ⟨m, run_wp rfl ⟨_, σ, S, e, _, rfl, ?_⟩⟩
  rw [hm]
  exact frz_no (noLoc_enc m)
end W3
end
section
set_option linter.all false
set_option maxRecDepth 100000
set_option maxHeartbeats 4000000
namespace W3
open Rw Mv
variable {n : Nat}
theorem zp_1 (a : Mv n) : zp a 1 = a := pw_one a
theorem fin_ix (f : Fin n → D) (i : Fin n) (S : List Cell) : ixO S (.lst ((List.finRange n).map f)) (iv i) = some (f i) := by
  show L2.atI ((List.finRange n).map f) (i.val : Int) = _
  unfold L2.atI L2.ixN
  have h := i.isLt
  rw [List.length_map, List.length_finRange, if_pos (by omega), if_pos (by omega)]
  have e : ((List.finRange n).map f)[i.val]? = some (f i) := by
    rw [List.getElem?_map]
    simp [h]
  simpa using e
theorem fin_ixT (f : Fin n → D) (i : Fin n) (S : List Cell) : ixO S (.tup ((List.finRange n).map f)) (iv i) = some (f i) := fin_ix f i S
theorem blsD_no {α : Type} : ∀ l : List α, blsD (l.map fun _ => D.bl false) = some (l.map fun _ => false)
  | [] => rfl
  | x :: l => by rw [List.map_cons, blsD, blsD_no l]; rfl
theorem any_no {α : Type} (S : List Cell) (l : List α) : oAny S [.lst (l.map fun _ => D.bl false)] = some (.bl false) := by
  show ((some (l.map fun _ => D.bl false)).bind blsD).map _ = _
  rw [Option.bind_some, blsD_no]
  simp
theorem ord_small (a : Mv n) (h8 : n ≤ 8) : ord a ≤ 161280 := Nat.le_trans (ord_le a) (fact8 n h8)
theorem pow100 : 200000000000000000000 < 2 ^ 100 := by decide +kernel
theorem small100 {k : Nat} (h : k ≤ 200000000000000000000) : k < 2 ^ 100 := Nat.lt_of_le_of_lt h pow100
theorem nv_int (i : Nat) : nv i = .int (i : Int) := by unfold nv; rw [Int.zero_add]
theorem pln_prs : ∀ l : List (Int × Int), (l.map prD).all (pln 1) = true
  | [] => rfl
  | p :: l => by rw [List.map_cons, List.all_cons, pln_prs l]; rfl
theorem common_ok (a : Mv n) (h8 : n ≤ 8) (o : Nat) (h1 : 1 ≤ o) (h2 : o ≤ 12) : ∃ g : Nat, 1 ≤ g ∧ g ≤ 12 ∧ f__law_common [.int (ord a : Int), .int (o : Int)] = some (.ok (.int (g : Int))) ∧ (ord (zp a (o : Int)) : Int) = (ord a : Int) / (g : Int) := by
  refine ⟨Nat.gcd (ord a) o, Nat.gcd_pos_of_pos_right _ h1, Nat.le_trans (Nat.gcd_le_right _ h1) h2, lawCommon _ _ (ord_pos a) h2, ?_⟩
  rw [zp_nat, ord_pw a o h1, Int.natCast_ediv]
theorem patL_fz {ps : List Pat} {f : Sl → M (List D)} {σ σ1 : Sl} {S : List Cell} {ds : List D} (h : f σ S = some (.ok ds, S)) (hp : Pat.puts ps ds σ = some σ1) : mPatL ps (mFz f) σ S = some (.ok .nx, σ1, S) := by
  have h2 : mFz f σ S = some (.ok (.lst ds), S) := by
    unfold mFz M.bind
    rw [h]
    rfl
  unfold mPatL mThen
  rw [h2]
  dsimp only
  rw [hp]
theorem set_fz {k : Nat} {f : Sl → M (List D)} {σ : Sl} {S : List Cell} {ds : List D} (h : f σ S = some (.ok ds, S)) : mSet k (mFz f) σ S = some (.ok .nx, σ.set k (some (.lst ds)), S) := by
  have h2 : mFz f σ S = some (.ok (.lst ds), S) := by
    unfold mFz M.bind
    rw [h]
    rfl
  unfold mSet mThen
  rw [h2]
theorem law_true (ns : List Int) (hns : ns.length ≤ 63) : f_law [.scr ns] = some (.ok (.bl true)) := by
  obtain ⟨ds, hdl, hdr, hd⟩ := lawDraws ns
  refine run_rt rfl rfl ?_
  unfold b_law
  show WP (mSeq _ _ [some (.scr ns), none, none, none, none, none, none, none, none, none, none, none, none, none, none, none, none, none, none, none, none] []) _
  refine wp_seq1 (σ1 := [some (.scr ns), some (.lst (ds.map D.int)), none, none, none, none, none, none, none, none, none, none, none, none, none, none, none, none, none, none, none]) (S1 := []) (by
    have : noLoc (.scr ns) = true := rfl
    simp only [mSeq, mSet, mThen, mVar, mC, mOp, mUn, mChain, mB, mNot, mAnd, mOr, mOfB, mIf, mAndV, mOrV, mNil, mCons, mTup, mLst, mRet, mRetN, mIfS, mExpr, mSkip, mPat, mPar, mAug, mPut, mCB, mCall, mFz, mLoc, mBM, M.bind, M.ret, M.rd, M.ofR, List.getElem?_cons_zero, List.getElem?_cons_succ, List.set_cons_zero, List.set_cons_succ, asB, Pat.put, Pat.puts, Option.map_some, Option.bind_some, if_true, if_false, reduceIte, Bool.false_eq_true, Bool.true_eq_false, List.length_cons, List.length_nil, List.map_cons, List.map_nil, List.append_nil, List.nil_append, List.cons_append, List.replicate, Nat.reduceAdd, Nat.reduceSub, Nat.reduceLeDiff, decide_true, decide_false, Bool.not_true, Bool.not_false, Bool.and_true, Bool.true_and, Bool.and_false, Bool.false_and, Int.cast_ofNat_Int, Int.reduceEq, Int.reduceNe, Int.reduceLT, Int.reduceLE, Int.reduceAdd, Int.reduceMul, Int.reduceSub, Int.reduceMod, Int.reduceDiv, Int.reduceNeg, isi_int, isi_nbool, isi_tup, oLe, oLt, oGt, oGe, iCmp, oAdd, oSub, iOp, noLocs, noLoc, oMod, oDiv, divOk, oMul, oNeg, gt_iff_lt, eq_self, true_or, or_true, or_false, false_or, and_true, true_and, and_false, false_and, this, hd]) ?_
  refine wp_seq (wp_for nv (List.range 5) (fun dn σ S => ∃ y2 y3 y4 y5 y6 y7 y8 y9 y10 y11 y12 y13 y14 y15 y16 y17 y18 y19 y20 : Option D, σ = [some (.scr ns), some (.lst (ds.map D.int)), y2, y3, y4, y5, y6, y7, y8, y9, y10, y11, y12, y13, y14, y15, y16, y17, y18, y19, y20] ∧ S = []) (S1 := []) rfl ⟨_, _, _, _, _, _, _, _, _, _, _, _, _, _, _, _, _, _, _, rfl, rfl⟩ ?_ ?_)
  · rintro dn i rst _ _ hk ⟨y2, y3, y4, y5, y6, y7, y8, y9, y10, y11, y12, y13, y14, y15, y16, y17, y18, y19, y20, rfl, rfl⟩
    obtain ⟨hi1, hi2⟩ := range_lt hk
    have hi : i < 5 := by omega
    refine ⟨_, rfl, ?_⟩
    rw [nv_int]
    show WP (mSeq _ _ [some (.scr ns), some (.lst (ds.map D.int)), some (.int (i : Int)), y3, y4, y5, y6, y7, y8, y9, y10, y11, y12, y13, y14, y15, y16, y17, y18, y19, y20] []) _
    have hid : i < ds.length := by omega
    obtain ⟨n, hn⟩ : ∃ n : Nat, (n : Int) = 1 + ds[i] % 8 := ⟨(1 + ds[i] % 8).toNat, by omega⟩
    have h1 : 1 ≤ n := by omega
    have h8 : n ≤ 8 := by omega
    have c8 : decide ((0 : Int) < 8) = true := by decide
    have c4 : decide ((0 : Int) < 4) = true := by decide
    refine wp_seq1 (σ1 := [some (.scr ns), some (.lst (ds.map D.int)), some (.int (i : Int)), some (.int (n : Int)), y4, y5, y6, y7, y8, y9, y10, y11, y12, y13, y14, y15, y16, y17, y18, y19, y20]) (S1 := []) (by simp only [mSeq, mSet, mThen, mVar, mC, mOp, mUn, mChain, mB, mNot, mAnd, mOr, mOfB, mIf, mAndV, mOrV, mNil, mCons, mTup, mLst, mRet, mRetN, mIfS, mExpr, mSkip, mPat, mPar, mAug, mPut, mCB, mCall, mFz, mLoc, mBM, M.bind, M.ret, M.rd, M.ofR, List.getElem?_cons_zero, List.getElem?_cons_succ, List.set_cons_zero, List.set_cons_succ, asB, Pat.put, Pat.puts, Option.map_some, Option.bind_some, if_true, if_false, reduceIte, Bool.false_eq_true, Bool.true_eq_false, List.length_cons, List.length_nil, List.map_cons, List.map_nil, List.append_nil, List.nil_append, List.cons_append, List.replicate, Nat.reduceAdd, Nat.reduceSub, Nat.reduceLeDiff, decide_true, decide_false, Bool.not_true, Bool.not_false, Bool.and_true, Bool.true_and, Bool.and_false, Bool.false_and, Int.cast_ofNat_Int, Int.reduceEq, Int.reduceNe, Int.reduceLT, Int.reduceLE, Int.reduceAdd, Int.reduceMul, Int.reduceSub, Int.reduceMod, Int.reduceDiv, Int.reduceNeg, isi_int, isi_nbool, isi_tup, oLe, oLt, oGt, oGe, iCmp, oAdd, oSub, iOp, noLocs, noLoc, oMod, oDiv, divOk, oMul, oNeg, gt_iff_lt, eq_self, true_or, or_true, or_false, false_or, and_true, true_and, and_false, false_and, ds_ix ds i hid, int_i, c8, hn]) ?_
    -- the moves
    have hmv : ∀ k : Nat, k < 3 → ∃ m : Mv n, f__law_move [.lst ((ds.drop (10 + 50 * i + 16 * k)).map D.int), .int (n : Int)] = some (.ok (enc m)) := fun k hk3 => lawMove _ (fun d hd0 => hdr d (List.mem_of_mem_drop hd0)) h8 (by rw [List.length_drop]; omega)
    obtain ⟨mv, hmv2⟩ : ∃ mv : Nat → Mv n, ∀ k : Nat, k < 3 → f__law_move [.lst ((ds.drop (10 + 50 * i + 16 * k)).map D.int), .int (n : Int)] = some (.ok (enc (mv k))) :=
      ⟨fun k => if h : k < 3 then Classical.choose (hmv k h) else one n, fun k hk3 => by
        dsimp only
        rw [dif_pos hk3]
        exact Classical.choose_spec (hmv k hk3)⟩
    have el3 := lc_eq (σ := [some (.scr ns), some (.lst (ds.map D.int)), some (.int (i : Int)), some (.int (n : Int)), y4, y5, y6, y7, y8, y9, y10, y11, y12, y13, y14, y15, y16, y17, y18, y19, y20]) (S := []) nv (fun k : Nat => enc (mv k)) (List.range 3) (vs := [18]) (p := .nm 18) (t := mYes) (ex := mCall f__law_move (mCons (mFz (mCut (mVar 1) (mPart (mOp oAdd (mOp oAdd (mC (.int 10)) (mOp oMul (mC (.int 50)) (mVar 2))) (mOp oMul (mC (.int 16)) (mVar 18)))) mNoPart)) (mCons (mVar 3) mNil))) (fi := mRg1 (mC (.int 3))) rfl (line8 (by decide)) fun k hk3 => ⟨_, rfl, rfl, by
      have hk4 : k < 3 := List.mem_range.mp hk3
      have m1 : mulOk 50 (i : Int) = true := mulOk_small (.inl (by decide))
      have m2 : mulOk 16 (k : Int) = true := mulOk_small (.inl (by decide))
      have hlo : ∀ S, lstOf S (.lst (ds.map D.int)) = some (ds.map D.int) := fun _ => rfl
      have e1 : (10 : Int) + 50 * (i : Int) + 16 * (k : Int) = ((10 + 50 * i + 16 * k : Nat) : Int) := by omega
      have e2 : cutL (ds.map D.int) (some ((10 + 50 * i + 16 * k : Nat) : Int)) none = (ds.drop (10 + 50 * i + 16 * k)).map D.int := by
        rw [dropk _ _ (by rw [List.length_map]; omega), List.map_drop]
      rw [nv_int]
      show mCall _ _ [some (.scr ns), some (.lst (ds.map D.int)), some (.int (i : Int)), some (.int (n : Int)), y4, y5, y6, y7, y8, y9, y10, y11, y12, y13, y14, y15, y16, y17, some (.int (k : Int)), y19, y20] [] = _
      have hnl : noLocs ((ds.drop (10 + 50 * i + 16 * k)).map D.int) = true := noLocs_map D.int (fun _ => rfl) _
      simp only [mSeq, mSet, mThen, mVar, mC, mOp, mUn, mChain, mB, mNot, mAnd, mOr, mOfB, mIf, mAndV, mOrV, mNil, mCons, mTup, mLst, mRet, mRetN, mIfS, mExpr, mSkip, mPat, mPar, mAug, mPut, mCB, mCall, mFz, mLoc, mBM, M.bind, M.ret, M.rd, M.ofR, List.getElem?_cons_zero, List.getElem?_cons_succ, List.set_cons_zero, List.set_cons_succ, asB, Pat.put, Pat.puts, Option.map_some, Option.bind_some, if_true, if_false, reduceIte, Bool.false_eq_true, Bool.true_eq_false, List.length_cons, List.length_nil, List.map_cons, List.map_nil, List.append_nil, List.nil_append, List.cons_append, List.replicate, Nat.reduceAdd, Nat.reduceSub, Nat.reduceLeDiff, decide_true, decide_false, Bool.not_true, Bool.not_false, Bool.and_true, Bool.true_and, Bool.and_false, Bool.false_and, Int.cast_ofNat_Int, Int.reduceEq, Int.reduceNe, Int.reduceLT, Int.reduceLE, Int.reduceAdd, Int.reduceMul, Int.reduceSub, Int.reduceMod, Int.reduceDiv, Int.reduceNeg, isi_int, isi_nbool, isi_tup, oLe, oLt, oGt, oGe, iCmp, oAdd, oSub, iOp, noLocs, noLoc, oMod, oDiv, divOk, oMul, oNeg, gt_iff_lt, eq_self, true_or, or_true, or_false, false_or, and_true, true_and, and_false, false_and, mCut, mNoPart, mPart, hlo, m1, m2, e1, e2, hnl, hmv2 k hk4]⟩
    have e03 : (List.range 3).map (fun k : Nat => enc (mv k)) = [enc (mv 0), enc (mv 1), enc (mv 2)] := rfl
    rw [e03] at el3
    generalize mv 0 = a at el3
    generalize mv 1 = b at el3
    generalize mv 2 = c at el3
    clear hmv hmv2 e03
    refine wp_seq1 (σ1 := [some (.scr ns), some (.lst (ds.map D.int)), some (.int (i : Int)), some (.int (n : Int)), some (enc a), some (enc b), some (enc c), y7, y8, y9, y10, y11, y12, y13, y14, y15, y16, y17, y18, y19, y20]) (S1 := []) (patL_fz el3 rfl) ?_
    clear el3 mv
    refine wp_seq1 (σ1 := [some (.scr ns), some (.lst (ds.map D.int)), some (.int (i : Int)), some (.int (n : Int)), some (enc a), some (enc b), some (enc c), some (enc (one n)), y8, y9, y10, y11, y12, y13, y14, y15, y16, y17, y18, y19, y20]) (S1 := []) (by simp only [mSeq, mSet, mThen, mVar, mC, mOp, mUn, mChain, mB, mNot, mAnd, mOr, mOfB, mIf, mAndV, mOrV, mNil, mCons, mTup, mLst, mRet, mRetN, mIfS, mExpr, mSkip, mPat, mPar, mAug, mPut, mCB, mCall, mFz, mLoc, mBM, M.bind, M.ret, M.rd, M.ofR, List.getElem?_cons_zero, List.getElem?_cons_succ, List.set_cons_zero, List.set_cons_succ, asB, Pat.put, Pat.puts, Option.map_some, Option.bind_some, if_true, if_false, reduceIte, Bool.false_eq_true, Bool.true_eq_false, List.length_cons, List.length_nil, List.map_cons, List.map_nil, List.append_nil, List.nil_append, List.cons_append, List.replicate, Nat.reduceAdd, Nat.reduceSub, Nat.reduceLeDiff, decide_true, decide_false, Bool.not_true, Bool.not_false, Bool.and_true, Bool.true_and, Bool.and_false, Bool.false_and, Int.cast_ofNat_Int, Int.reduceEq, Int.reduceNe, Int.reduceLT, Int.reduceLE, Int.reduceAdd, Int.reduceMul, Int.reduceSub, Int.reduceMod, Int.reduceDiv, Int.reduceNeg, isi_int, isi_nbool, isi_tup, oLe, oLt, oGt, oGe, iCmp, oAdd, oSub, iOp, noLocs, noLoc, oMod, oDiv, divOk, oMul, oNeg, gt_iff_lt, eq_self, true_or, or_true, or_false, false_or, and_true, true_and, and_false, false_and, still h1 h8]) ?_
    have hB := fun x y : Mv n => both x y h1 h8
    have hU := fun x : Mv n => undoing x h1 h8
    have hM := fun x y : Mv n => moved x y h1 h8
    have hW := fun x y : Mv n => between x y h1 h8
    have hO := fun x : Mv n => orderOf x h1 h8
    have hF := firstState h1 h8
    refine wp_seq (wp_ifF (S1 := []) (by simp only [mSeq, mSet, mThen, mVar, mC, mOp, mUn, mChain, mB, mNot, mAnd, mOr, mOfB, mIf, mAndV, mOrV, mNil, mCons, mTup, mLst, mRet, mRetN, mIfS, mExpr, mSkip, mPat, mPar, mAug, mPut, mCB, mCall, mFz, mLoc, mBM, M.bind, M.ret, M.rd, M.ofR, List.getElem?_cons_zero, List.getElem?_cons_succ, List.set_cons_zero, List.set_cons_succ, asB, Pat.put, Pat.puts, Option.map_some, Option.bind_some, if_true, if_false, reduceIte, Bool.false_eq_true, Bool.true_eq_false, List.length_cons, List.length_nil, List.map_cons, List.map_nil, List.append_nil, List.nil_append, List.cons_append, List.replicate, Nat.reduceAdd, Nat.reduceSub, Nat.reduceLeDiff, decide_true, decide_false, Bool.not_true, Bool.not_false, Bool.and_true, Bool.true_and, Bool.and_false, Bool.false_and, Int.cast_ofNat_Int, Int.reduceEq, Int.reduceNe, Int.reduceLT, Int.reduceLE, Int.reduceAdd, Int.reduceMul, Int.reduceSub, Int.reduceMod, Int.reduceDiv, Int.reduceNeg, isi_int, isi_nbool, isi_tup, oLe, oLt, oGt, oGe, iCmp, oAdd, oSub, iOp, noLocs, noLoc, oMod, oDiv, divOk, oMul, oNeg, gt_iff_lt, eq_self, true_or, or_true, or_false, false_or, and_true, true_and, and_false, false_and, noLoc_enc, hB, hU, hM, hW, hO, hF, ne_enc, ne_int, mul_assoc, mul_inv, inv_mul, mul_one, one_mul, inv_mul_rev, conv_mul, conv_conv]) ⟨rfl, ?_⟩)
    refine wp_seq (wp_ifF (S1 := []) (by simp only [mSeq, mSet, mThen, mVar, mC, mOp, mUn, mChain, mB, mNot, mAnd, mOr, mOfB, mIf, mAndV, mOrV, mNil, mCons, mTup, mLst, mRet, mRetN, mIfS, mExpr, mSkip, mPat, mPar, mAug, mPut, mCB, mCall, mFz, mLoc, mBM, M.bind, M.ret, M.rd, M.ofR, List.getElem?_cons_zero, List.getElem?_cons_succ, List.set_cons_zero, List.set_cons_succ, asB, Pat.put, Pat.puts, Option.map_some, Option.bind_some, if_true, if_false, reduceIte, Bool.false_eq_true, Bool.true_eq_false, List.length_cons, List.length_nil, List.map_cons, List.map_nil, List.append_nil, List.nil_append, List.cons_append, List.replicate, Nat.reduceAdd, Nat.reduceSub, Nat.reduceLeDiff, decide_true, decide_false, Bool.not_true, Bool.not_false, Bool.and_true, Bool.true_and, Bool.and_false, Bool.false_and, Int.cast_ofNat_Int, Int.reduceEq, Int.reduceNe, Int.reduceLT, Int.reduceLE, Int.reduceAdd, Int.reduceMul, Int.reduceSub, Int.reduceMod, Int.reduceDiv, Int.reduceNeg, isi_int, isi_nbool, isi_tup, oLe, oLt, oGt, oGe, iCmp, oAdd, oSub, iOp, noLocs, noLoc, oMod, oDiv, divOk, oMul, oNeg, gt_iff_lt, eq_self, true_or, or_true, or_false, false_or, and_true, true_and, and_false, false_and, noLoc_enc, hB, hU, hM, hW, hO, hF, ne_enc, ne_int, mul_assoc, mul_inv, inv_mul, mul_one, one_mul, inv_mul_rev, conv_mul, conv_conv]) ⟨rfl, ?_⟩)
    refine wp_seq1 (σ1 := [some (.scr ns), some (.lst (ds.map D.int)), some (.int (i : Int)), some (.int (n : Int)), some (enc a), some (enc b), some (enc c), some (enc (one n)), some (enc (mul (conv c) (one n))), y9, y10, y11, y12, y13, y14, y15, y16, y17, y18, y19, y20]) (S1 := []) (by simp only [mSeq, mSet, mThen, mVar, mC, mOp, mUn, mChain, mB, mNot, mAnd, mOr, mOfB, mIf, mAndV, mOrV, mNil, mCons, mTup, mLst, mRet, mRetN, mIfS, mExpr, mSkip, mPat, mPar, mAug, mPut, mCB, mCall, mFz, mLoc, mBM, M.bind, M.ret, M.rd, M.ofR, List.getElem?_cons_zero, List.getElem?_cons_succ, List.set_cons_zero, List.set_cons_succ, asB, Pat.put, Pat.puts, Option.map_some, Option.bind_some, if_true, if_false, reduceIte, Bool.false_eq_true, Bool.true_eq_false, List.length_cons, List.length_nil, List.map_cons, List.map_nil, List.append_nil, List.nil_append, List.cons_append, List.replicate, Nat.reduceAdd, Nat.reduceSub, Nat.reduceLeDiff, decide_true, decide_false, Bool.not_true, Bool.not_false, Bool.and_true, Bool.true_and, Bool.and_false, Bool.false_and, Int.cast_ofNat_Int, Int.reduceEq, Int.reduceNe, Int.reduceLT, Int.reduceLE, Int.reduceAdd, Int.reduceMul, Int.reduceSub, Int.reduceMod, Int.reduceDiv, Int.reduceNeg, isi_int, isi_nbool, isi_tup, oLe, oLt, oGt, oGe, iCmp, oAdd, oSub, iOp, noLocs, noLoc, oMod, oDiv, divOk, oMul, oNeg, gt_iff_lt, eq_self, true_or, or_true, or_false, false_or, and_true, true_and, and_false, false_and, noLoc_enc, hF, hM]) ?_
    generalize mul (conv c) (one n) = s
    refine wp_seq (wp_ifF (S1 := []) (by simp only [mSeq, mSet, mThen, mVar, mC, mOp, mUn, mChain, mB, mNot, mAnd, mOr, mOfB, mIf, mAndV, mOrV, mNil, mCons, mTup, mLst, mRet, mRetN, mIfS, mExpr, mSkip, mPat, mPar, mAug, mPut, mCB, mCall, mFz, mLoc, mBM, M.bind, M.ret, M.rd, M.ofR, List.getElem?_cons_zero, List.getElem?_cons_succ, List.set_cons_zero, List.set_cons_succ, asB, Pat.put, Pat.puts, Option.map_some, Option.bind_some, if_true, if_false, reduceIte, Bool.false_eq_true, Bool.true_eq_false, List.length_cons, List.length_nil, List.map_cons, List.map_nil, List.append_nil, List.nil_append, List.cons_append, List.replicate, Nat.reduceAdd, Nat.reduceSub, Nat.reduceLeDiff, decide_true, decide_false, Bool.not_true, Bool.not_false, Bool.and_true, Bool.true_and, Bool.and_false, Bool.false_and, Int.cast_ofNat_Int, Int.reduceEq, Int.reduceNe, Int.reduceLT, Int.reduceLE, Int.reduceAdd, Int.reduceMul, Int.reduceSub, Int.reduceMod, Int.reduceDiv, Int.reduceNeg, isi_int, isi_nbool, isi_tup, oLe, oLt, oGt, oGe, iCmp, oAdd, oSub, iOp, noLocs, noLoc, oMod, oDiv, divOk, oMul, oNeg, gt_iff_lt, eq_self, true_or, or_true, or_false, false_or, and_true, true_and, and_false, false_and, noLoc_enc, hB, hU, hM, hW, hO, hF, ne_enc, ne_int, mul_assoc, mul_inv, inv_mul, mul_one, one_mul, inv_mul_rev, conv_mul, conv_conv]) ⟨rfl, ?_⟩)
    refine wp_seq1 (σ1 := [some (.scr ns), some (.lst (ds.map D.int)), some (.int (i : Int)), some (.int (n : Int)), some (enc a), some (enc b), some (enc c), some (enc (one n)), some (enc s), some (.int (ord a : Int)), y10, y11, y12, y13, y14, y15, y16, y17, y18, y19, y20]) (S1 := []) (by simp only [mSeq, mSet, mThen, mVar, mC, mOp, mUn, mChain, mB, mNot, mAnd, mOr, mOfB, mIf, mAndV, mOrV, mNil, mCons, mTup, mLst, mRet, mRetN, mIfS, mExpr, mSkip, mPat, mPar, mAug, mPut, mCB, mCall, mFz, mLoc, mBM, M.bind, M.ret, M.rd, M.ofR, List.getElem?_cons_zero, List.getElem?_cons_succ, List.set_cons_zero, List.set_cons_succ, asB, Pat.put, Pat.puts, Option.map_some, Option.bind_some, if_true, if_false, reduceIte, Bool.false_eq_true, Bool.true_eq_false, List.length_cons, List.length_nil, List.map_cons, List.map_nil, List.append_nil, List.nil_append, List.cons_append, List.replicate, Nat.reduceAdd, Nat.reduceSub, Nat.reduceLeDiff, decide_true, decide_false, Bool.not_true, Bool.not_false, Bool.and_true, Bool.true_and, Bool.and_false, Bool.false_and, Int.cast_ofNat_Int, Int.reduceEq, Int.reduceNe, Int.reduceLT, Int.reduceLE, Int.reduceAdd, Int.reduceMul, Int.reduceSub, Int.reduceMod, Int.reduceDiv, Int.reduceNeg, isi_int, isi_nbool, isi_tup, oLe, oLt, oGt, oGe, iCmp, oAdd, oSub, iOp, noLocs, noLoc, oMod, oDiv, divOk, oMul, oNeg, gt_iff_lt, eq_self, true_or, or_true, or_false, false_or, and_true, true_and, and_false, false_and, noLoc_enc, hO]) ?_
    have hj1 : 270 + i < ds.length := by omega
    have hj2 : 280 + i < ds.length := by omega
    have b1 := hdr ds[270 + i] (List.getElem_mem hj1)
    obtain ⟨F, eF⟩ : ∃ F : Int, F = 100000000000000000000 + ds[270 + i] := ⟨_, rfl⟩
    obtain ⟨Y9, eM⟩ : ∃ Y9 : Int, Y9 = ds[280 + i] % 40 - 20 := ⟨_, rfl⟩
    have c40 : decide ((0 : Int) < 40) = true := by decide
    have e270 : (270 : Int) + (i : Int) = ((270 + i : Nat) : Int) := by omega
    have e280 : (280 : Int) + (i : Int) = ((280 + i : Nat) : Int) := by omega
    refine wp_seq1 (σ1 := [some (.scr ns), some (.lst (ds.map D.int)), some (.int (i : Int)), some (.int (n : Int)), some (enc a), some (enc b), some (enc c), some (enc (one n)), some (enc s), some (.int (ord a : Int)), some (.int F), some (.int Y9), y12, y13, y14, y15, y16, y17, y18, y19, y20]) (S1 := []) (by simp only [mSeq, mSet, mThen, mVar, mC, mOp, mUn, mChain, mB, mNot, mAnd, mOr, mOfB, mIf, mAndV, mOrV, mNil, mCons, mTup, mLst, mRet, mRetN, mIfS, mExpr, mSkip, mPat, mPar, mAug, mPut, mCB, mCall, mFz, mLoc, mBM, M.bind, M.ret, M.rd, M.ofR, List.getElem?_cons_zero, List.getElem?_cons_succ, List.set_cons_zero, List.set_cons_succ, asB, Pat.put, Pat.puts, Option.map_some, Option.bind_some, if_true, if_false, reduceIte, Bool.false_eq_true, Bool.true_eq_false, List.length_cons, List.length_nil, List.map_cons, List.map_nil, List.append_nil, List.nil_append, List.cons_append, List.replicate, Nat.reduceAdd, Nat.reduceSub, Nat.reduceLeDiff, decide_true, decide_false, Bool.not_true, Bool.not_false, Bool.and_true, Bool.true_and, Bool.and_false, Bool.false_and, Int.cast_ofNat_Int, Int.reduceEq, Int.reduceNe, Int.reduceLT, Int.reduceLE, Int.reduceAdd, Int.reduceMul, Int.reduceSub, Int.reduceMod, Int.reduceDiv, Int.reduceNeg, isi_int, isi_nbool, isi_tup, oLe, oLt, oGt, oGe, iCmp, oAdd, oSub, iOp, noLocs, noLoc, oMod, oDiv, divOk, oMul, oNeg, gt_iff_lt, eq_self, true_or, or_true, or_false, false_or, and_true, true_and, and_false, false_and, pow20, e270, e280, ds_ix ds _ hj1, ds_ix ds _ hj2, int_i, c40, eF, eM]) ?_
    have ordS := ord_small a h8
    have ordP := ord_pos a
    have t1 := fun x : Mv n => times x F h1 h8 (small100 (by omega))
    have t2 := fun x : Mv n => times x Y9 h1 h8 (small100 (by omega))
    have t3 := fun x : Mv n => times x (F + Y9) h1 h8 (small100 (by omega))
    have t4 := fun x : Mv n => times x 7 h1 h8 (small100 (by decide))
    have t5 := fun x : Mv n => times x (7 * Y9) h1 h8 (small100 (by omega))
    have t6 := fun x : Mv n => times x (ord a : Int) h1 h8 (small100 (by omega))
    have hFm0 := Int.emod_nonneg F (show (ord a : Int) ≠ 0 by omega)
    have hFm1 := Int.emod_lt_of_pos F (show (0 : Int) < (ord a : Int) by omega)
    have t7 := fun x : Mv n => times x (F % (ord a : Int)) h1 h8 (small100 (by omega))
    have t8 := fun x : Mv n => times x (-1) h1 h8 (small100 (by decide))
    have m7 : mulOk 7 Y9 = true := mulOk_small (.inl (by decide))
    have co : decide ((0 : Int) < (ord a : Int)) = true := decide_eq_true (by omega)
    have z1 : mul (zp a F) (zp a Y9) = zp a (F + Y9) := (zp_add a F Y9).symm
    have z2 : zp (zp a Y9) 7 = zp a (7 * Y9) := by rw [Int.mul_comm, zp_mul]
    have z3 : zp a (ord a : Int) = one n := by rw [zp_nat, pw_ord]
    have z4 : zp a (F % (ord a : Int)) = zp a F := (zp_ord a F).symm
    have z5 : zp a (-1) = inv a := by rw [zp_neg, zp_1]
    have z6 : (-(1 : Int)) = -1 := rfl
    have o1 := ord_inv a
    refine wp_seq (wp_ifF (S1 := []) (by simp only [mSeq, mSet, mThen, mVar, mC, mOp, mUn, mChain, mB, mNot, mAnd, mOr, mOfB, mIf, mAndV, mOrV, mNil, mCons, mTup, mLst, mRet, mRetN, mIfS, mExpr, mSkip, mPat, mPar, mAug, mPut, mCB, mCall, mFz, mLoc, mBM, M.bind, M.ret, M.rd, M.ofR, List.getElem?_cons_zero, List.getElem?_cons_succ, List.set_cons_zero, List.set_cons_succ, asB, Pat.put, Pat.puts, Option.map_some, Option.bind_some, if_true, if_false, reduceIte, Bool.false_eq_true, Bool.true_eq_false, List.length_cons, List.length_nil, List.map_cons, List.map_nil, List.append_nil, List.nil_append, List.cons_append, List.replicate, Nat.reduceAdd, Nat.reduceSub, Nat.reduceLeDiff, decide_true, decide_false, Bool.not_true, Bool.not_false, Bool.and_true, Bool.true_and, Bool.and_false, Bool.false_and, Int.cast_ofNat_Int, Int.reduceEq, Int.reduceNe, Int.reduceLT, Int.reduceLE, Int.reduceAdd, Int.reduceMul, Int.reduceSub, Int.reduceMod, Int.reduceDiv, Int.reduceNeg, isi_int, isi_nbool, isi_tup, oLe, oLt, oGt, oGe, iCmp, oAdd, oSub, iOp, noLocs, noLoc, oMod, oDiv, divOk, oMul, oNeg, gt_iff_lt, eq_self, true_or, or_true, or_false, false_or, and_true, true_and, and_false, false_and, noLoc_enc, hB, hU, hM, hW, hO, hF, ne_enc, ne_int, mul_assoc, mul_inv, inv_mul, mul_one, one_mul, inv_mul_rev, conv_mul, conv_conv, t1, t2, t3, t4, t5, m7, z1, z2]) ⟨rfl, ?_⟩)
    refine wp_seq (wp_ifF (S1 := []) (by simp only [mSeq, mSet, mThen, mVar, mC, mOp, mUn, mChain, mB, mNot, mAnd, mOr, mOfB, mIf, mAndV, mOrV, mNil, mCons, mTup, mLst, mRet, mRetN, mIfS, mExpr, mSkip, mPat, mPar, mAug, mPut, mCB, mCall, mFz, mLoc, mBM, M.bind, M.ret, M.rd, M.ofR, List.getElem?_cons_zero, List.getElem?_cons_succ, List.set_cons_zero, List.set_cons_succ, asB, Pat.put, Pat.puts, Option.map_some, Option.bind_some, if_true, if_false, reduceIte, Bool.false_eq_true, Bool.true_eq_false, List.length_cons, List.length_nil, List.map_cons, List.map_nil, List.append_nil, List.nil_append, List.cons_append, List.replicate, Nat.reduceAdd, Nat.reduceSub, Nat.reduceLeDiff, decide_true, decide_false, Bool.not_true, Bool.not_false, Bool.and_true, Bool.true_and, Bool.and_false, Bool.false_and, Int.cast_ofNat_Int, Int.reduceEq, Int.reduceNe, Int.reduceLT, Int.reduceLE, Int.reduceAdd, Int.reduceMul, Int.reduceSub, Int.reduceMod, Int.reduceDiv, Int.reduceNeg, isi_int, isi_nbool, isi_tup, oLe, oLt, oGt, oGe, iCmp, oAdd, oSub, iOp, noLocs, noLoc, oMod, oDiv, divOk, oMul, oNeg, gt_iff_lt, eq_self, true_or, or_true, or_false, false_or, and_true, true_and, and_false, false_and, noLoc_enc, hB, hU, hM, hW, hO, hF, ne_enc, ne_int, mul_assoc, mul_inv, inv_mul, mul_one, one_mul, inv_mul_rev, conv_mul, conv_conv, t1, t6, t7, co, z3, z4]) ⟨rfl, ?_⟩)
    refine wp_seq (wp_ifF (S1 := []) (by simp only [mSeq, mSet, mThen, mVar, mC, mOp, mUn, mChain, mB, mNot, mAnd, mOr, mOfB, mIf, mAndV, mOrV, mNil, mCons, mTup, mLst, mRet, mRetN, mIfS, mExpr, mSkip, mPat, mPar, mAug, mPut, mCB, mCall, mFz, mLoc, mBM, M.bind, M.ret, M.rd, M.ofR, List.getElem?_cons_zero, List.getElem?_cons_succ, List.set_cons_zero, List.set_cons_succ, asB, Pat.put, Pat.puts, Option.map_some, Option.bind_some, if_true, if_false, reduceIte, Bool.false_eq_true, Bool.true_eq_false, List.length_cons, List.length_nil, List.map_cons, List.map_nil, List.append_nil, List.nil_append, List.cons_append, List.replicate, Nat.reduceAdd, Nat.reduceSub, Nat.reduceLeDiff, decide_true, decide_false, Bool.not_true, Bool.not_false, Bool.and_true, Bool.true_and, Bool.and_false, Bool.false_and, Int.cast_ofNat_Int, Int.reduceEq, Int.reduceNe, Int.reduceLT, Int.reduceLE, Int.reduceAdd, Int.reduceMul, Int.reduceSub, Int.reduceMod, Int.reduceDiv, Int.reduceNeg, isi_int, isi_nbool, isi_tup, oLe, oLt, oGt, oGe, iCmp, oAdd, oSub, iOp, noLocs, noLoc, oMod, oDiv, divOk, oMul, oNeg, gt_iff_lt, eq_self, true_or, or_true, or_false, false_or, and_true, true_and, and_false, false_and, noLoc_enc, hB, hU, hM, hW, hO, hF, ne_enc, ne_int, mul_assoc, mul_inv, inv_mul, mul_one, one_mul, inv_mul_rev, conv_mul, conv_conv, t8, z5, o1]) ⟨rfl, ?_⟩)
    refine wp_seq (wp_for D.int [2, 3, 5, 12] (fun dn σ S => ∃ y12 : Option D, σ = [some (.scr ns), some (.lst (ds.map D.int)), some (.int (i : Int)), some (.int (n : Int)), some (enc a), some (enc b), some (enc c), some (enc (one n)), some (enc s), some (.int (ord a : Int)), some (.int F), some (.int Y9), y12, y13, y14, y15, y16, y17, y18, y19, y20] ∧ S = []) (S1 := []) rfl ⟨_, rfl, rfl⟩ ?_ ?_)
    · rintro dn2 q rst2 _ _ hk2 ⟨y12, rfl, rfl⟩
      have hq : q ∈ [(2 : Int), 3, 5, 12] := by rw [hk2]; simp
      obtain ⟨o, ho1, ho2, rfl⟩ : ∃ o : Nat, 1 ≤ o ∧ o ≤ 12 ∧ q = (o : Int) := by
        simp only [List.mem_cons, List.not_mem_nil, or_false] at hq
        rcases hq with rfl | rfl | rfl | rfl
        · exact ⟨2, by decide, by decide, rfl⟩
        · exact ⟨3, by decide, by decide, rfl⟩
        · exact ⟨5, by decide, by decide, rfl⟩
        · exact ⟨12, by decide, by decide, rfl⟩
      refine ⟨_, rfl, ?_⟩
      obtain ⟨g, hg1, hg2, hg3, hg4⟩ := common_ok a h8 o ho1 ho2
      have t9 := times a (o : Int) h1 h8 (small100 (by omega))
      have cg : decide ((0 : Int) < (g : Int) ∧ (g : Int) < 1073741824) = true := decide_eq_true (by omega)
      refine wp_ifF (S1 := []) ?_ ⟨.inl rfl, _, rfl, rfl⟩
      show mB _ [some (.scr ns), some (.lst (ds.map D.int)), some (.int (i : Int)), some (.int (n : Int)), some (enc a), some (enc b), some (enc c), some (enc (one n)), some (enc s), some (.int (ord a : Int)), some (.int F), some (.int Y9), some (.int (o : Int)), y13, y14, y15, y16, y17, y18, y19, y20] [] = _
      simp only [mSeq, mSet, mThen, mVar, mC, mOp, mUn, mChain, mB, mNot, mAnd, mOr, mOfB, mIf, mAndV, mOrV, mNil, mCons, mTup, mLst, mRet, mRetN, mIfS, mExpr, mSkip, mPat, mPar, mAug, mPut, mCB, mCall, mFz, mLoc, mBM, M.bind, M.ret, M.rd, M.ofR, List.getElem?_cons_zero, List.getElem?_cons_succ, List.set_cons_zero, List.set_cons_succ, asB, Pat.put, Pat.puts, Option.map_some, Option.bind_some, if_true, if_false, reduceIte, Bool.false_eq_true, Bool.true_eq_false, List.length_cons, List.length_nil, List.map_cons, List.map_nil, List.append_nil, List.nil_append, List.cons_append, List.replicate, Nat.reduceAdd, Nat.reduceSub, Nat.reduceLeDiff, decide_true, decide_false, Bool.not_true, Bool.not_false, Bool.and_true, Bool.true_and, Bool.and_false, Bool.false_and, Int.cast_ofNat_Int, Int.reduceEq, Int.reduceNe, Int.reduceLT, Int.reduceLE, Int.reduceAdd, Int.reduceMul, Int.reduceSub, Int.reduceMod, Int.reduceDiv, Int.reduceNeg, isi_int, isi_nbool, isi_tup, oLe, oLt, oGt, oGe, iCmp, oAdd, oSub, iOp, noLocs, noLoc, oMod, oDiv, divOk, oMul, oNeg, gt_iff_lt, eq_self, true_or, or_true, or_false, false_or, and_true, true_and, and_false, false_and, noLoc_enc, t9, hO, hg3, hg4, cg, ne_int]
    · rintro _ _ ⟨y12, rfl, rfl⟩
      refine ⟨rfl, ?_⟩
      have eL : mul (mul (inv b) a) b = mul (inv b) (mul a b) := mul_assoc _ _ _
      obtain ⟨led, hled⟩ : ∃ led, led = mul (mul (inv b) a) b := ⟨_, rfl⟩
      refine wp_seq1 (σ1 := [some (.scr ns), some (.lst (ds.map D.int)), some (.int (i : Int)), some (.int (n : Int)), some (enc a), some (enc b), some (enc c), some (enc (one n)), some (enc s), some (.int (ord a : Int)), some (.int F), some (.int Y9), y12, some (enc led), y14, y15, y16, y17, y18, y19, y20]) (S1 := []) (by simp only [mSeq, mSet, mThen, mVar, mC, mOp, mUn, mChain, mB, mNot, mAnd, mOr, mOfB, mIf, mAndV, mOrV, mNil, mCons, mTup, mLst, mRet, mRetN, mIfS, mExpr, mSkip, mPat, mPar, mAug, mPut, mCB, mCall, mFz, mLoc, mBM, M.bind, M.ret, M.rd, M.ofR, List.getElem?_cons_zero, List.getElem?_cons_succ, List.set_cons_zero, List.set_cons_succ, asB, Pat.put, Pat.puts, Option.map_some, Option.bind_some, if_true, if_false, reduceIte, Bool.false_eq_true, Bool.true_eq_false, List.length_cons, List.length_nil, List.map_cons, List.map_nil, List.append_nil, List.nil_append, List.cons_append, List.replicate, Nat.reduceAdd, Nat.reduceSub, Nat.reduceLeDiff, decide_true, decide_false, Bool.not_true, Bool.not_false, Bool.and_true, Bool.true_and, Bool.and_false, Bool.false_and, Int.cast_ofNat_Int, Int.reduceEq, Int.reduceNe, Int.reduceLT, Int.reduceLE, Int.reduceAdd, Int.reduceMul, Int.reduceSub, Int.reduceMod, Int.reduceDiv, Int.reduceNeg, isi_int, isi_nbool, isi_tup, oLe, oLt, oGt, oGe, iCmp, oAdd, oSub, iOp, noLocs, noLoc, oMod, oDiv, divOk, oMul, oNeg, gt_iff_lt, eq_self, true_or, or_true, or_false, false_or, and_true, true_and, and_false, false_and, noLoc_enc, hB, hU, hled]) ?_
      have o2 : ord led = ord a := by rw [hled]; exact ord_conj b a
      have o3 := ord_swap a b
      refine wp_seq (wp_ifF (S1 := []) (by simp only [mSeq, mSet, mThen, mVar, mC, mOp, mUn, mChain, mB, mNot, mAnd, mOr, mOfB, mIf, mAndV, mOrV, mNil, mCons, mTup, mLst, mRet, mRetN, mIfS, mExpr, mSkip, mPat, mPar, mAug, mPut, mCB, mCall, mFz, mLoc, mBM, M.bind, M.ret, M.rd, M.ofR, List.getElem?_cons_zero, List.getElem?_cons_succ, List.set_cons_zero, List.set_cons_succ, asB, Pat.put, Pat.puts, Option.map_some, Option.bind_some, if_true, if_false, reduceIte, Bool.false_eq_true, Bool.true_eq_false, List.length_cons, List.length_nil, List.map_cons, List.map_nil, List.append_nil, List.nil_append, List.cons_append, List.replicate, Nat.reduceAdd, Nat.reduceSub, Nat.reduceLeDiff, decide_true, decide_false, Bool.not_true, Bool.not_false, Bool.and_true, Bool.true_and, Bool.and_false, Bool.false_and, Int.cast_ofNat_Int, Int.reduceEq, Int.reduceNe, Int.reduceLT, Int.reduceLE, Int.reduceAdd, Int.reduceMul, Int.reduceSub, Int.reduceMod, Int.reduceDiv, Int.reduceNeg, isi_int, isi_nbool, isi_tup, oLe, oLt, oGt, oGe, iCmp, oAdd, oSub, iOp, noLocs, noLoc, oMod, oDiv, divOk, oMul, oNeg, gt_iff_lt, eq_self, true_or, or_true, or_false, false_or, and_true, true_and, and_false, false_and, noLoc_enc, hB, hO, ne_int, o2, o3]) ⟨rfl, ?_⟩)
      obtain ⟨sn1, rs1, s1, f1, l1, r1⟩ := ringsOf led h1 h8
      obtain ⟨sn2, rs2, s2, f2, l2, r2⟩ := ringsOf a h1 h8
      have hperm : (rs1.map (tag led)).Perm (rs2.map (tag a)) := by subst hled; exact conj_tags b a s2 f2 s1 f1
      have elr1 := lc_eq (σ := [some (.scr ns), some (.lst (ds.map D.int)), some (.int (i : Int)), some (.int (n : Int)), some (enc a), some (enc b), some (enc c), some (enc (one n)), some (enc s), some (.int (ord a : Int)), some (.int F), some (.int Y9), y12, some (enc led), y14, y15, y16, y17, y18, y19, y20]) (S := []) (rD led) (fun p => prD (tag led p)) rs1 (vs := [19, 20]) (p := .tp [.nm 19, .nm 20]) (t := mYes) (ex := mTup (mCons (mCB oLen (mCons (mVar 19) mNil)) (mCons (mVar 20) mNil))) (fi := mIter (mCall f_rings_of (mCons (mVar 13) mNil))) (by simp only [mSeq, mSet, mThen, mVar, mC, mOp, mUn, mChain, mB, mNot, mAnd, mOr, mOfB, mIf, mAndV, mOrV, mNil, mCons, mTup, mLst, mRet, mRetN, mIfS, mExpr, mSkip, mPat, mPar, mAug, mPut, mCB, mCall, mFz, mLoc, mBM, M.bind, M.ret, M.rd, M.ofR, List.getElem?_cons_zero, List.getElem?_cons_succ, List.set_cons_zero, List.set_cons_succ, asB, Pat.put, Pat.puts, Option.map_some, Option.bind_some, if_true, if_false, reduceIte, Bool.false_eq_true, Bool.true_eq_false, List.length_cons, List.length_nil, List.map_cons, List.map_nil, List.append_nil, List.nil_append, List.cons_append, List.replicate, Nat.reduceAdd, Nat.reduceSub, Nat.reduceLeDiff, decide_true, decide_false, Bool.not_true, Bool.not_false, Bool.and_true, Bool.true_and, Bool.and_false, Bool.false_and, Int.cast_ofNat_Int, Int.reduceEq, Int.reduceNe, Int.reduceLT, Int.reduceLE, Int.reduceAdd, Int.reduceMul, Int.reduceSub, Int.reduceMod, Int.reduceDiv, Int.reduceNeg, isi_int, isi_nbool, isi_tup, oLe, oLt, oGt, oGe, iCmp, oAdd, oSub, iOp, noLocs, noLoc, oMod, oDiv, divOk, oMul, oNeg, gt_iff_lt, eq_self, true_or, or_true, or_false, false_or, and_true, true_and, and_false, false_and, mIter, noLoc_enc, r1, frzSeq]) (line8 (by omega)) fun p _ => ⟨_, rfl, rfl, by
        show mTup _ [some (.scr ns), some (.lst (ds.map D.int)), some (.int (i : Int)), some (.int (n : Int)), some (enc a), some (enc b), some (enc c), some (enc (one n)), some (enc s), some (.int (ord a : Int)), some (.int F), some (.int Y9), y12, some (enc led), y14, y15, y16, y17, y18, some (.tup ((rng led p).map iv)), some (.int ((tws led p % 4 : Nat) : Int))] [] = _
        have e1 : prD (tag led p) = .tup [.int (len led p : Int), .int ((tws led p % 4 : Nat) : Int)] := rfl
        simp only [mSeq, mSet, mThen, mVar, mC, mOp, mUn, mChain, mB, mNot, mAnd, mOr, mOfB, mIf, mAndV, mOrV, mNil, mCons, mTup, mLst, mRet, mRetN, mIfS, mExpr, mSkip, mPat, mPar, mAug, mPut, mCB, mCall, mFz, mLoc, mBM, M.bind, M.ret, M.rd, M.ofR, List.getElem?_cons_zero, List.getElem?_cons_succ, List.set_cons_zero, List.set_cons_succ, asB, Pat.put, Pat.puts, Option.map_some, Option.bind_some, if_true, if_false, reduceIte, Bool.false_eq_true, Bool.true_eq_false, List.length_cons, List.length_nil, List.map_cons, List.map_nil, List.append_nil, List.nil_append, List.cons_append, List.replicate, Nat.reduceAdd, Nat.reduceSub, Nat.reduceLeDiff, decide_true, decide_false, Bool.not_true, Bool.not_false, Bool.and_true, Bool.true_and, Bool.and_false, Bool.false_and, Int.cast_ofNat_Int, Int.reduceEq, Int.reduceNe, Int.reduceLT, Int.reduceLE, Int.reduceAdd, Int.reduceMul, Int.reduceSub, Int.reduceMod, Int.reduceDiv, Int.reduceNeg, isi_int, isi_nbool, isi_tup, oLe, oLt, oGt, oGe, iCmp, oAdd, oSub, iOp, noLocs, noLoc, oMod, oDiv, divOk, oMul, oNeg, gt_iff_lt, eq_self, true_or, or_true, or_false, false_or, and_true, true_and, and_false, false_and, len_tup, e1, List.length_map, rng_length, line8, show (2 : Nat) ≤ LINE from by decide]⟩
      have em1 : rs1.map (fun p => prD (tag led p)) = (rs1.map (tag led)).map prD := by rw [List.map_map]; rfl
      rw [em1] at elr1
      have es1 := fun S => o_sorted_prs (S := S) (rs1.map (tag led)) (by rw [List.length_map]; exact line8 (by omega))
      have elr2 := lc_eq (σ := [some (.scr ns), some (.lst (ds.map D.int)), some (.int (i : Int)), some (.int (n : Int)), some (enc a), some (enc b), some (enc c), some (enc (one n)), some (enc s), some (.int (ord a : Int)), some (.int F), some (.int Y9), y12, some (enc led), y14, y15, y16, y17, y18, y19, y20]) (S := []) (rD a) (fun p => prD (tag a p)) rs2 (vs := [19, 20]) (p := .tp [.nm 19, .nm 20]) (t := mYes) (ex := mTup (mCons (mCB oLen (mCons (mVar 19) mNil)) (mCons (mVar 20) mNil))) (fi := mIter (mCall f_rings_of (mCons (mVar 4) mNil))) (by simp only [mSeq, mSet, mThen, mVar, mC, mOp, mUn, mChain, mB, mNot, mAnd, mOr, mOfB, mIf, mAndV, mOrV, mNil, mCons, mTup, mLst, mRet, mRetN, mIfS, mExpr, mSkip, mPat, mPar, mAug, mPut, mCB, mCall, mFz, mLoc, mBM, M.bind, M.ret, M.rd, M.ofR, List.getElem?_cons_zero, List.getElem?_cons_succ, List.set_cons_zero, List.set_cons_succ, asB, Pat.put, Pat.puts, Option.map_some, Option.bind_some, if_true, if_false, reduceIte, Bool.false_eq_true, Bool.true_eq_false, List.length_cons, List.length_nil, List.map_cons, List.map_nil, List.append_nil, List.nil_append, List.cons_append, List.replicate, Nat.reduceAdd, Nat.reduceSub, Nat.reduceLeDiff, decide_true, decide_false, Bool.not_true, Bool.not_false, Bool.and_true, Bool.true_and, Bool.and_false, Bool.false_and, Int.cast_ofNat_Int, Int.reduceEq, Int.reduceNe, Int.reduceLT, Int.reduceLE, Int.reduceAdd, Int.reduceMul, Int.reduceSub, Int.reduceMod, Int.reduceDiv, Int.reduceNeg, isi_int, isi_nbool, isi_tup, oLe, oLt, oGt, oGe, iCmp, oAdd, oSub, iOp, noLocs, noLoc, oMod, oDiv, divOk, oMul, oNeg, gt_iff_lt, eq_self, true_or, or_true, or_false, false_or, and_true, true_and, and_false, false_and, mIter, noLoc_enc, r2, frzSeq]) (line8 (by omega)) fun p _ => ⟨_, rfl, rfl, by
        show mTup _ [some (.scr ns), some (.lst (ds.map D.int)), some (.int (i : Int)), some (.int (n : Int)), some (enc a), some (enc b), some (enc c), some (enc (one n)), some (enc s), some (.int (ord a : Int)), some (.int F), some (.int Y9), y12, some (enc led), y14, y15, y16, y17, y18, some (.tup ((rng a p).map iv)), some (.int ((tws a p % 4 : Nat) : Int))] [] = _
        have e1 : prD (tag a p) = .tup [.int (len a p : Int), .int ((tws a p % 4 : Nat) : Int)] := rfl
        simp only [mSeq, mSet, mThen, mVar, mC, mOp, mUn, mChain, mB, mNot, mAnd, mOr, mOfB, mIf, mAndV, mOrV, mNil, mCons, mTup, mLst, mRet, mRetN, mIfS, mExpr, mSkip, mPat, mPar, mAug, mPut, mCB, mCall, mFz, mLoc, mBM, M.bind, M.ret, M.rd, M.ofR, List.getElem?_cons_zero, List.getElem?_cons_succ, List.set_cons_zero, List.set_cons_succ, asB, Pat.put, Pat.puts, Option.map_some, Option.bind_some, if_true, if_false, reduceIte, Bool.false_eq_true, Bool.true_eq_false, List.length_cons, List.length_nil, List.map_cons, List.map_nil, List.append_nil, List.nil_append, List.cons_append, List.replicate, Nat.reduceAdd, Nat.reduceSub, Nat.reduceLeDiff, decide_true, decide_false, Bool.not_true, Bool.not_false, Bool.and_true, Bool.true_and, Bool.and_false, Bool.false_and, Int.cast_ofNat_Int, Int.reduceEq, Int.reduceNe, Int.reduceLT, Int.reduceLE, Int.reduceAdd, Int.reduceMul, Int.reduceSub, Int.reduceMod, Int.reduceDiv, Int.reduceNeg, isi_int, isi_nbool, isi_tup, oLe, oLt, oGt, oGe, iCmp, oAdd, oSub, iOp, noLocs, noLoc, oMod, oDiv, divOk, oMul, oNeg, gt_iff_lt, eq_self, true_or, or_true, or_false, false_or, and_true, true_and, and_false, false_and, len_tup, e1, List.length_map, rng_length, line8, show (2 : Nat) ≤ LINE from by decide]⟩
      have em2 : rs2.map (fun p => prD (tag a p)) = (rs2.map (tag a)).map prD := by rw [List.map_map]; rfl
      rw [em2] at elr2
      have es2 := fun S => o_sorted_prs (S := S) (rs2.map (tag a)) (by rw [List.length_map]; exact line8 (by omega))
      have esE := sort_perm_prs hperm
      have hnp : oNe [] (.lst (((rs2.map (tag a)).mergeSort prLe).map prD)) (.lst (((rs2.map (tag a)).mergeSort prLe).map prD)) = some (.bl false) := by
        rw [ne_pln 2 (show pln 2 (.lst _) = true from pln_prs _) (show pln 2 (.lst _) = true from pln_prs _), decide_eq_true rfl]
        rfl
      refine wp_seq (wp_ifF (S1 := []) (by simp only [mSeq, mSet, mThen, mVar, mC, mOp, mUn, mChain, mB, mNot, mAnd, mOr, mOfB, mIf, mAndV, mOrV, mNil, mCons, mTup, mLst, mRet, mRetN, mIfS, mExpr, mSkip, mPat, mPar, mAug, mPut, mCB, mCall, mFz, mLoc, mBM, M.bind, M.ret, M.rd, M.ofR, List.getElem?_cons_zero, List.getElem?_cons_succ, List.set_cons_zero, List.set_cons_succ, asB, Pat.put, Pat.puts, Option.map_some, Option.bind_some, if_true, if_false, reduceIte, Bool.false_eq_true, Bool.true_eq_false, List.length_cons, List.length_nil, List.map_cons, List.map_nil, List.append_nil, List.nil_append, List.cons_append, List.replicate, Nat.reduceAdd, Nat.reduceSub, Nat.reduceLeDiff, decide_true, decide_false, Bool.not_true, Bool.not_false, Bool.and_true, Bool.true_and, Bool.and_false, Bool.false_and, Int.cast_ofNat_Int, Int.reduceEq, Int.reduceNe, Int.reduceLT, Int.reduceLE, Int.reduceAdd, Int.reduceMul, Int.reduceSub, Int.reduceMod, Int.reduceDiv, Int.reduceNeg, isi_int, isi_nbool, isi_tup, oLe, oLt, oGt, oGe, iCmp, oAdd, oSub, iOp, noLocs, noLoc, oMod, oDiv, divOk, oMul, oNeg, gt_iff_lt, eq_self, true_or, or_true, or_false, false_or, and_true, true_and, and_false, false_and, elr1, elr2, es1, es2, esE, hnp]) ⟨rfl, ?_⟩)
      have hA := fun (x : Mv n) (p : Fin n) (k : Int) => after x p k h1 h8
      have hiv : ∀ p : Fin n, noLoc (iv p) = true := fun _ => rfl
      have x0 : ∀ (p q : D) (S : List Cell), ixO S (.tup [p, q]) (.int 0) = some p := fun _ _ _ => rfl
      have x1 : ∀ (p q : D) (S : List Cell), ixO S (.tup [p, q]) (.int 1) = some q := fun _ _ _ => rfl
      have elg := lc_eq (σ := [some (.scr ns), some (.lst (ds.map D.int)), some (.int (i : Int)), some (.int (n : Int)), some (enc a), some (enc b), some (enc c), some (enc (one n)), some (enc s), some (.int (ord a : Int)), some (.int F), some (.int Y9), y12, some (enc led), y14, y15, y16, y17, y18, y19, y20]) (S := []) iv (fun p : Fin n => iv (b.to p)) (List.finRange n) (vs := [15]) (p := .nm 15) (t := mYes) (ex := mOp ixO (mCall f_after (mCons (mVar 5) (mCons (mVar 15) (mCons (mC (.int 1)) mNil)))) (mC (.int 0))) (fi := mRg1 (mVar 3)) (mRg1_n h8 _ _ _ rfl) (by rw [List.length_finRange]; exact line8 (by omega)) fun p _ => ⟨_, rfl, rfl, by
        show mOp _ _ _ [some (.scr ns), some (.lst (ds.map D.int)), some (.int (i : Int)), some (.int (n : Int)), some (enc a), some (enc b), some (enc c), some (enc (one n)), some (enc s), some (.int (ord a : Int)), some (.int F), some (.int Y9), y12, some (enc led), y14, some (iv p), y16, y17, y18, y19, y20] [] = _
        simp only [mSeq, mSet, mThen, mVar, mC, mOp, mUn, mChain, mB, mNot, mAnd, mOr, mOfB, mIf, mAndV, mOrV, mNil, mCons, mTup, mLst, mRet, mRetN, mIfS, mExpr, mSkip, mPat, mPar, mAug, mPut, mCB, mCall, mFz, mLoc, mBM, M.bind, M.ret, M.rd, M.ofR, List.getElem?_cons_zero, List.getElem?_cons_succ, List.set_cons_zero, List.set_cons_succ, asB, Pat.put, Pat.puts, Option.map_some, Option.bind_some, if_true, if_false, reduceIte, Bool.false_eq_true, Bool.true_eq_false, List.length_cons, List.length_nil, List.map_cons, List.map_nil, List.append_nil, List.nil_append, List.cons_append, List.replicate, Nat.reduceAdd, Nat.reduceSub, Nat.reduceLeDiff, decide_true, decide_false, Bool.not_true, Bool.not_false, Bool.and_true, Bool.true_and, Bool.and_false, Bool.false_and, Int.cast_ofNat_Int, Int.reduceEq, Int.reduceNe, Int.reduceLT, Int.reduceLE, Int.reduceAdd, Int.reduceMul, Int.reduceSub, Int.reduceMod, Int.reduceDiv, Int.reduceNeg, isi_int, isi_nbool, isi_tup, oLe, oLt, oGt, oGe, iCmp, oAdd, oSub, iOp, noLocs, noLoc, oMod, oDiv, divOk, oMul, oNeg, gt_iff_lt, eq_self, true_or, or_true, or_false, false_or, and_true, true_and, and_false, false_and, noLoc_enc, hiv, hA, el_iv, x0, zp_1]⟩
      refine wp_seq1 (σ1 := [some (.scr ns), some (.lst (ds.map D.int)), some (.int (i : Int)), some (.int (n : Int)), some (enc a), some (enc b), some (enc c), some (enc (one n)), some (enc s), some (.int (ord a : Int)), some (.int F), some (.int Y9), y12, some (enc led), some (.lst ((List.finRange n).map fun p : Fin n => iv (b.to p))), y15, y16, y17, y18, y19, y20]) (S1 := []) (set_fz elg) ?_
      have hRd := fun x : Mv n => rounds x h1 h8
      have rEq : ∀ p : Fin n, rnd led (b.to p) = rnd a p := fun p => by rw [hled]; exact conj_rnd b a p
      have ela := lc_eq (σ := [some (.scr ns), some (.lst (ds.map D.int)), some (.int (i : Int)), some (.int (n : Int)), some (enc a), some (enc b), some (enc c), some (enc (one n)), some (enc s), some (.int (ord a : Int)), some (.int F), some (.int Y9), y12, some (enc led), some (.lst ((List.finRange n).map fun p : Fin n => iv (b.to p))), y15, y16, y17, y18, y19, y20]) (S := []) iv (fun _ : Fin n => D.bl false) (List.finRange n) (vs := [15]) (p := .nm 15) (t := mYes) (ex := mOp oNe (mOp ixO (mCall f_rounds (mCons (mVar 13) mNil)) (mOp ixO (mVar 14) (mVar 15))) (mOp ixO (mCall f_rounds (mCons (mVar 4) mNil)) (mVar 15))) (fi := mRg1 (mVar 3)) (mRg1_n h8 _ _ _ rfl) (by rw [List.length_finRange]; exact line8 (by omega)) fun p _ => ⟨_, rfl, rfl, by
        show mOp _ _ _ [some (.scr ns), some (.lst (ds.map D.int)), some (.int (i : Int)), some (.int (n : Int)), some (enc a), some (enc b), some (enc c), some (enc (one n)), some (enc s), some (.int (ord a : Int)), some (.int F), some (.int Y9), y12, some (enc led), some (.lst ((List.finRange n).map fun p : Fin n => iv (b.to p))), some (iv p), y16, y17, y18, y19, y20] [] = _
        simp only [mSeq, mSet, mThen, mVar, mC, mOp, mUn, mChain, mB, mNot, mAnd, mOr, mOfB, mIf, mAndV, mOrV, mNil, mCons, mTup, mLst, mRet, mRetN, mIfS, mExpr, mSkip, mPat, mPar, mAug, mPut, mCB, mCall, mFz, mLoc, mBM, M.bind, M.ret, M.rd, M.ofR, List.getElem?_cons_zero, List.getElem?_cons_succ, List.set_cons_zero, List.set_cons_succ, asB, Pat.put, Pat.puts, Option.map_some, Option.bind_some, if_true, if_false, reduceIte, Bool.false_eq_true, Bool.true_eq_false, List.length_cons, List.length_nil, List.map_cons, List.map_nil, List.append_nil, List.nil_append, List.cons_append, List.replicate, Nat.reduceAdd, Nat.reduceSub, Nat.reduceLeDiff, decide_true, decide_false, Bool.not_true, Bool.not_false, Bool.and_true, Bool.true_and, Bool.and_false, Bool.false_and, Int.cast_ofNat_Int, Int.reduceEq, Int.reduceNe, Int.reduceLT, Int.reduceLE, Int.reduceAdd, Int.reduceMul, Int.reduceSub, Int.reduceMod, Int.reduceDiv, Int.reduceNeg, isi_int, isi_nbool, isi_tup, oLe, oLt, oGt, oGe, iCmp, oAdd, oSub, iOp, noLocs, noLoc, oMod, oDiv, divOk, oMul, oNeg, gt_iff_lt, eq_self, true_or, or_true, or_false, false_or, and_true, true_and, and_false, false_and, noLoc_enc, hRd, fin_ix, fin_ixT, rEq, ne_int]⟩
      refine wp_seq (wp_ifF (S1 := []) (by simp only [mSeq, mSet, mThen, mVar, mC, mOp, mUn, mChain, mB, mNot, mAnd, mOr, mOfB, mIf, mAndV, mOrV, mNil, mCons, mTup, mLst, mRet, mRetN, mIfS, mExpr, mSkip, mPat, mPar, mAug, mPut, mCB, mCall, mFz, mLoc, mBM, M.bind, M.ret, M.rd, M.ofR, List.getElem?_cons_zero, List.getElem?_cons_succ, List.set_cons_zero, List.set_cons_succ, asB, Pat.put, Pat.puts, Option.map_some, Option.bind_some, if_true, if_false, reduceIte, Bool.false_eq_true, Bool.true_eq_false, List.length_cons, List.length_nil, List.map_cons, List.map_nil, List.append_nil, List.nil_append, List.cons_append, List.replicate, Nat.reduceAdd, Nat.reduceSub, Nat.reduceLeDiff, decide_true, decide_false, Bool.not_true, Bool.not_false, Bool.and_true, Bool.true_and, Bool.and_false, Bool.false_and, Int.cast_ofNat_Int, Int.reduceEq, Int.reduceNe, Int.reduceLT, Int.reduceLE, Int.reduceAdd, Int.reduceMul, Int.reduceSub, Int.reduceMod, Int.reduceDiv, Int.reduceNeg, isi_int, isi_nbool, isi_tup, oLe, oLt, oGt, oGe, iCmp, oAdd, oSub, iOp, noLocs, noLoc, oMod, oDiv, divOk, oMul, oNeg, gt_iff_lt, eq_self, true_or, or_true, or_false, false_or, and_true, true_and, and_false, false_and, ela, any_no]) ⟨rfl, ?_⟩)
      refine wp_for iv (List.finRange n) (fun dn σ S => ∃ y15 y16 y17 : Option D, σ = [some (.scr ns), some (.lst (ds.map D.int)), some (.int (i : Int)), some (.int (n : Int)), some (enc a), some (enc b), some (enc c), some (enc (one n)), some (enc s), some (.int (ord a : Int)), some (.int F), some (.int Y9), y12, some (enc led), some (.lst ((List.finRange n).map fun p : Fin n => iv (b.to p))), y15, y16, y17, y18, y19, y20] ∧ S = []) (S1 := []) (mRg1_n h8 _ _ _ rfl) ⟨_, _, _, rfl, rfl⟩ ?_ ?_
      · rintro dn3 p rst3 _ _ hk3 ⟨y15, y16, y17, rfl, rfl⟩
        refine ⟨_, rfl, ?_⟩
        show WP (mSeq _ _ [some (.scr ns), some (.lst (ds.map D.int)), some (.int (i : Int)), some (.int (n : Int)), some (enc a), some (enc b), some (enc c), some (enc (one n)), some (enc s), some (.int (ord a : Int)), some (.int F), some (.int Y9), y12, some (enc led), some (.lst ((List.finRange n).map fun p : Fin n => iv (b.to p))), some (iv p), y16, y17, y18, y19, y20] []) _
        refine wp_seq1 (σ1 := [some (.scr ns), some (.lst (ds.map D.int)), some (.int (i : Int)), some (.int (n : Int)), some (enc a), some (enc b), some (enc c), some (enc (one n)), some (enc s), some (.int (ord a : Int)), some (.int F), some (.int Y9), y12, some (enc led), some (.lst ((List.finRange n).map fun p : Fin n => iv (b.to p))), some (iv p), some (el (zp a F) p), y17, y18, y19, y20]) (S1 := []) (by simp only [mSeq, mSet, mThen, mVar, mC, mOp, mUn, mChain, mB, mNot, mAnd, mOr, mOfB, mIf, mAndV, mOrV, mNil, mCons, mTup, mLst, mRet, mRetN, mIfS, mExpr, mSkip, mPat, mPar, mAug, mPut, mCB, mCall, mFz, mLoc, mBM, M.bind, M.ret, M.rd, M.ofR, List.getElem?_cons_zero, List.getElem?_cons_succ, List.set_cons_zero, List.set_cons_succ, asB, Pat.put, Pat.puts, Option.map_some, Option.bind_some, if_true, if_false, reduceIte, Bool.false_eq_true, Bool.true_eq_false, List.length_cons, List.length_nil, List.map_cons, List.map_nil, List.append_nil, List.nil_append, List.cons_append, List.replicate, Nat.reduceAdd, Nat.reduceSub, Nat.reduceLeDiff, decide_true, decide_false, Bool.not_true, Bool.not_false, Bool.and_true, Bool.true_and, Bool.and_false, Bool.false_and, Int.cast_ofNat_Int, Int.reduceEq, Int.reduceNe, Int.reduceLT, Int.reduceLE, Int.reduceAdd, Int.reduceMul, Int.reduceSub, Int.reduceMod, Int.reduceDiv, Int.reduceNeg, isi_int, isi_nbool, isi_tup, oLe, oLt, oGt, oGe, iCmp, oAdd, oSub, iOp, noLocs, noLoc, oMod, oDiv, divOk, oMul, oNeg, gt_iff_lt, eq_self, true_or, or_true, or_false, false_or, and_true, true_and, and_false, false_and, noLoc_enc, hiv, hA]) ?_
        have e16 : ∀ S, ixO S (el (zp a F) p) (.int 0) = some (iv ((zp a F).to p)) := fun _ => rfl
        have e17 : ∀ S, ixO S (el (zp a F) p) (.int 1) = some (.int (((zp a F).tw p).val : Int)) := fun _ => rfl
        refine wp_seq1 (σ1 := [some (.scr ns), some (.lst (ds.map D.int)), some (.int (i : Int)), some (.int (n : Int)), some (enc a), some (enc b), some (enc c), some (enc (one n)), some (enc s), some (.int (ord a : Int)), some (.int F), some (.int Y9), y12, some (enc led), some (.lst ((List.finRange n).map fun p : Fin n => iv (b.to p))), some (iv p), some (el (zp a F) p), some (el (zp a Y9) ((zp a F).to p)), y18, y19, y20]) (S1 := []) (by simp only [mSeq, mSet, mThen, mVar, mC, mOp, mUn, mChain, mB, mNot, mAnd, mOr, mOfB, mIf, mAndV, mOrV, mNil, mCons, mTup, mLst, mRet, mRetN, mIfS, mExpr, mSkip, mPat, mPar, mAug, mPut, mCB, mCall, mFz, mLoc, mBM, M.bind, M.ret, M.rd, M.ofR, List.getElem?_cons_zero, List.getElem?_cons_succ, List.set_cons_zero, List.set_cons_succ, asB, Pat.put, Pat.puts, Option.map_some, Option.bind_some, if_true, if_false, reduceIte, Bool.false_eq_true, Bool.true_eq_false, List.length_cons, List.length_nil, List.map_cons, List.map_nil, List.append_nil, List.nil_append, List.cons_append, List.replicate, Nat.reduceAdd, Nat.reduceSub, Nat.reduceLeDiff, decide_true, decide_false, Bool.not_true, Bool.not_false, Bool.and_true, Bool.true_and, Bool.and_false, Bool.false_and, Int.cast_ofNat_Int, Int.reduceEq, Int.reduceNe, Int.reduceLT, Int.reduceLE, Int.reduceAdd, Int.reduceMul, Int.reduceSub, Int.reduceMod, Int.reduceDiv, Int.reduceNeg, isi_int, isi_nbool, isi_tup, oLe, oLt, oGt, oGe, iCmp, oAdd, oSub, iOp, noLocs, noLoc, oMod, oDiv, divOk, oMul, oNeg, gt_iff_lt, eq_self, true_or, or_true, or_false, false_or, and_true, true_and, and_false, false_and, noLoc_enc, hiv, hA, e16]) ?_
        have e18 : ∀ S, ixO S (el (zp a Y9) ((zp a F).to p)) (.int 0) = some (iv ((zp a Y9).to ((zp a F).to p))) := fun _ => rfl
        have e19 : ∀ S, ixO S (el (zp a Y9) ((zp a F).to p)) (.int 1) = some (.int (((zp a Y9).tw ((zp a F).to p)).val : Int)) := fun _ => rfl
        have e20 : el (zp a (F + Y9)) p = .tup [iv ((zp a Y9).to ((zp a F).to p)), .int (((zp a F).tw p + (zp a Y9).tw ((zp a F).to p) : Fin 4).val : Int)] := by rw [zp_add]; rfl
        have hnl : ∀ x y : Int, oNe [] (.tup [.int x, .int y]) (.tup [.int x, .int y]) = some (.bl false) := fun x y => by
          rw [ne_pln 1 rfl rfl, decide_eq_true rfl]
          rfl
        have hnl2 := fun (p : Fin n) (y : Int) => hnl (p.val : Int) y
        have hnl3 : ∀ (p : Fin n) (y : Int), oNe [] (.tup [iv p, .int y]) (.tup [iv p, .int y]) = some (.bl false) := hnl2
        refine wp_ifF (S1 := []) (by simp only [mSeq, mSet, mThen, mVar, mC, mOp, mUn, mChain, mB, mNot, mAnd, mOr, mOfB, mIf, mAndV, mOrV, mNil, mCons, mTup, mLst, mRet, mRetN, mIfS, mExpr, mSkip, mPat, mPar, mAug, mPut, mCB, mCall, mFz, mLoc, mBM, M.bind, M.ret, M.rd, M.ofR, List.getElem?_cons_zero, List.getElem?_cons_succ, List.set_cons_zero, List.set_cons_succ, asB, Pat.put, Pat.puts, Option.map_some, Option.bind_some, if_true, if_false, reduceIte, Bool.false_eq_true, Bool.true_eq_false, List.length_cons, List.length_nil, List.map_cons, List.map_nil, List.append_nil, List.nil_append, List.cons_append, List.replicate, Nat.reduceAdd, Nat.reduceSub, Nat.reduceLeDiff, decide_true, decide_false, Bool.not_true, Bool.not_false, Bool.and_true, Bool.true_and, Bool.and_false, Bool.false_and, Int.cast_ofNat_Int, Int.reduceEq, Int.reduceNe, Int.reduceLT, Int.reduceLE, Int.reduceAdd, Int.reduceMul, Int.reduceSub, Int.reduceMod, Int.reduceDiv, Int.reduceNeg, isi_int, isi_nbool, isi_tup, oLe, oLt, oGt, oGe, iCmp, oAdd, oSub, iOp, noLocs, noLoc, oMod, oDiv, divOk, oMul, oNeg, gt_iff_lt, eq_self, true_or, or_true, or_false, false_or, and_true, true_and, and_false, false_and, noLoc_enc, hiv, hA, e17, e18, e19, e20, twadd, hnl3, line8, show (2 : Nat) ≤ LINE from by decide]) ⟨.inl rfl, _, _, _, rfl, rfl⟩
      · rintro _ _ ⟨y15, y16, y17, rfl, rfl⟩
        exact ⟨.inl rfl, _, _, _, _, _, _, _, _, _, _, _, _, _, _, _, _, _, _, _, rfl, rfl⟩
  · rintro _ _ ⟨y2, y3, y4, y5, y6, y7, y8, y9, y10, y11, y12, y13, y14, y15, y16, y17, y18, y19, y20, rfl, rfl⟩
    exact ⟨rfl, wp_of (o := .rt _) rfl rfl⟩
end W3
end
section
set_option Elab.async false
set_option linter.all false
set_option maxRecDepth 100000
set_option maxHeartbeats 0
namespace W3
open PySem PySem.Spec PyProof.Rows L2 Rw
def d_is_whole : He.DefD := ⟨("is_whole", none), "is_whole", "is_whole", defArgs (top 12), defBody (top 12), defScope (top 12), [], []⟩
def d__are_pairs : He.DefD := ⟨("_are_pairs", none), "_are_pairs", "_are_pairs", defArgs (top 13), defBody (top 13), defScope (top 13), [], []⟩
def d__is_each_once : He.DefD := ⟨("_is_each_once", none), "_is_each_once", "_is_each_once", defArgs (top 14), defBody (top 14), defScope (top 14), [], []⟩
def d_is_state : He.DefD := ⟨("is_state", none), "is_state", "is_state", defArgs (top 15), defBody (top 15), defScope (top 15), [], []⟩
def d_is_move : He.DefD := ⟨("is_move", none), "is_move", "is_move", defArgs (top 16), defBody (top 16), defScope (top 16), [], []⟩
def d_check_state : He.DefD := ⟨("check_state", none), "check_state", "check_state", defArgs (top 17), defBody (top 17), defScope (top 17), [], []⟩
def d_check_move : He.DefD := ⟨("check_move", none), "check_move", "check_move", defArgs (top 18), defBody (top 18), defScope (top 18), [], []⟩
def d_check_same : He.DefD := ⟨("check_same", none), "check_same", "check_same", defArgs (top 19), defBody (top 19), defScope (top 19), [], []⟩
def d_still_move : He.DefD := ⟨("still_move", none), "still_move", "still_move", defArgs (top 20), defBody (top 20), defScope (top 20), [], []⟩
def d__check_count : He.DefD := ⟨("_check_count", none), "_check_count", "_check_count", defArgs (top 21), defBody (top 21), defScope (top 21), [], []⟩
def d_first_state : He.DefD := ⟨("first_state", none), "first_state", "first_state", defArgs (top 22), defBody (top 22), defScope (top 22), [], []⟩
def d_still : He.DefD := ⟨("still", none), "still", "still", defArgs (top 23), defBody (top 23), defScope (top 23), [], []⟩
def d_apply : He.DefD := ⟨("apply", none), "apply", "apply", defArgs (top 24), defBody (top 24), defScope (top 24), [], []⟩
def d_moved : He.DefD := ⟨("moved", none), "moved", "moved", defArgs (top 25), defBody (top 25), defScope (top 25), [], []⟩
def d_compose : He.DefD := ⟨("compose", none), "compose", "compose", defArgs (top 26), defBody (top 26), defScope (top 26), [], []⟩
def d_both : He.DefD := ⟨("both", none), "both", "both", defArgs (top 27), defBody (top 27), defScope (top 27), [], []⟩
def d_inverse : He.DefD := ⟨("inverse", none), "inverse", "inverse", defArgs (top 28), defBody (top 28), defScope (top 28), [], []⟩
def d_undoing : He.DefD := ⟨("undoing", none), "undoing", "undoing", defArgs (top 29), defBody (top 29), defScope (top 29), [], []⟩
def d_between : He.DefD := ⟨("between", none), "between", "between", defArgs (top 30), defBody (top 30), defScope (top 30), [], []⟩
def d_power : He.DefD := ⟨("power", none), "power", "power", defArgs (top 31), defBody (top 31), defScope (top 31), [], []⟩
def d_times : He.DefD := ⟨("times", none), "times", "times", defArgs (top 32), defBody (top 32), defScope (top 32), [], []⟩
def d_order : He.DefD := ⟨("order", none), "order", "order", defArgs (top 33), defBody (top 33), defScope (top 33), [], []⟩
def d_order_of : He.DefD := ⟨("order_of", none), "order_of", "order_of", defArgs (top 34), defBody (top 34), defScope (top 34), [], []⟩
def d_ring_from : He.DefD := ⟨("ring_from", none), "ring_from", "ring_from", defArgs (top 36), defBody (top 36), defScope (top 36), [], []⟩
def d_all_rings : He.DefD := ⟨("all_rings", none), "all_rings", "all_rings", defArgs (top 37), defBody (top 37), defScope (top 37), [], []⟩
def d_rings_of : He.DefD := ⟨("rings_of", none), "rings_of", "rings_of", defArgs (top 38), defBody (top 38), defScope (top 38), [], []⟩
def d__check_place : He.DefD := ⟨("_check_place", none), "_check_place", "_check_place", defArgs (top 39), defBody (top 39), defScope (top 39), [], []⟩
def d_own_round : He.DefD := ⟨("own_round", none), "own_round", "own_round", defArgs (top 40), defBody (top 40), defScope (top 40), [], []⟩
def d_rounds : He.DefD := ⟨("rounds", none), "rounds", "rounds", defArgs (top 41), defBody (top 41), defScope (top 41), [], []⟩
def d_landed : He.DefD := ⟨("landed", none), "landed", "landed", defArgs (top 42), defBody (top 42), defScope (top 42), [], []⟩
def d_after : He.DefD := ⟨("after", none), "after", "after", defArgs (top 43), defBody (top 43), defScope (top 43), [], []⟩
def d__law_draws : He.DefD := ⟨("_law_draws", none), "_law_draws", "_law_draws", defArgs (top 45), defBody (top 45), defScope (top 45), [], []⟩
def d__law_move : He.DefD := ⟨("_law_move", none), "_law_move", "_law_move", defArgs (top 46), defBody (top 46), defScope (top 46), [], []⟩
def d__law_common : He.DefD := ⟨("_law_common", none), "_law_common", "_law_common", defArgs (top 47), defBody (top 47), defScope (top 47), [], []⟩
def d_law : He.DefD := ⟨("law", none), "law", "law", defArgs (top 48), defBody (top 48), defScope (top 48), [], []⟩
def fn_0 : List He.DefD := [d_is_whole, d__are_pairs, d__is_each_once, d_is_state, d_is_move, d_check_state, d_check_move, d_check_same, d_still_move, d__check_count, d_first_state, d_still, d_apply, d_moved, d_compose, d_both, d_inverse, d_undoing, d_between, d_power, d_times, d_order, d_order_of, d_ring_from, d_all_rings, d_rings_of, d__check_place, d_own_round, d_rounds, d_landed]
def fn_1 : List He.DefD := [d_after, d__law_draws, d__law_move, d__law_common, d_law]
def fn : List He.DefD := fn_0 ++ fn_1
def fa_0 : List He.Fa := [.glo "is_whole", .glo "_are_pairs", .glo "_is_each_once", .glo "is_state", .glo "is_move", .glo "check_state", .glo "check_move", .glo "check_same", .glo "still_move", .glo "_check_count", .glo "first_state", .glo "still", .glo "apply", .glo "moved", .glo "compose", .glo "both", .glo "inverse", .glo "undoing", .glo "between", .glo "power", .glo "times", .glo "order", .glo "order_of", .glo "ring_from", .glo "all_rings", .glo "rings_of", .glo "_check_place", .glo "own_round", .glo "rounds", .glo "landed"]
def fa_1 : List He.Fa := [.glo "after", .glo "_law_draws", .glo "_law_move", .glo "_law_common", .glo "law", .free "abs", .free "any", .free "bool", .free "enumerate", .free "int", .free "isinstance", .free "len", .free "list", .free "range", .free "sorted", .free "sum", .free "tuple", .free "zip", .int "MOST_PLACES" 8, .int "QUARTERS" 4]
def fa : List He.Fa := fa_0 ++ fa_1
def bs : List (Str × String) := [("gcd", "math.gcd")]
def loose_0 : List Str := ["ReelError", "BadCount", "BadState", "BadMove", "OtherSize", "BadTimes", "BadPlace", "MOST_PLACES", "QUARTERS", "is_whole", "_are_pairs", "_is_each_once", "is_state", "is_move", "check_state", "check_move", "check_same", "still_move", "_check_count", "first_state", "still", "apply", "moved", "compose", "both", "inverse", "undoing", "between", "power", "times"]
def loose_1 : List Str := ["order", "order_of", "ring_from", "all_rings", "rings_of", "_check_place", "own_round", "rounds", "landed", "after", "_law_draws", "_law_move", "_law_common"]
def loose : List Str := loose_0 ++ loose_1
abbrev R : PySem.W.OpenRow := PySem.W.OpenLaw.row PySem.Challenge.rw_reelwright_k03_main_moves_one_behind_ano
abbrev qv : Program := PySem.W.view R.prog [0, 48]
abbrev hk : PySem.W.Hook := Rw.hookB 4 bs fa fn
noncomputable def ob (s : PySem.W.SharedT) : AlB := Rw.obsB 4 bs fa fn (HandSHeadRun.getT s)
theorem ob_eq (s : PySem.W.SharedT) : ob s = hk.obs s.abs := Rw.obsB_eq (HandSHeadRun.getT_eq s)
theorem run (w : World) : HandSHeadRun.RunEqI R qv hk ob 20000 loose w := by
  unfold HandSHeadRun.RunEqI
  kernel_rfl
theorem facts {P : Program} {w : World} {K : PySem.W.Frag} {h : Heap} {mg : Str → Option Value} {f : Addr} (X : K.In h) (G : h.Ns mainGlobals mg) (hfa : mg ("law" : Str) = some (.ref f)) (c : SaysB bs fa fn K) :
    ∃ fd : FuncData, (∀ (s : Shared) (v : Value), BindsTo s fd ⟨[v], []⟩ [("script", v)]) ∧ ∀ base : Heap, K.In base → base.Ns mainGlobals mg → FnOk P w K mg base CX0 8 f fd ["script"] (spP K NX 1 f_law) := by
  obtain ⟨cb, c⟩ := c
  have m : ModOk mg := ⟨He.free_ok X G (c.fact 35 (f := .free "abs") rfl),
    He.free_ok X G (c.fact 36 (f := .free "any") rfl),
    He.free_ok X G (c.fact 37 (f := .free "bool") rfl),
    He.free_ok X G (c.fact 38 (f := .free "enumerate") rfl),
    He.free_ok X G (c.fact 39 (f := .free "int") rfl),
    He.free_ok X G (c.fact 40 (f := .free "isinstance") rfl),
    He.free_ok X G (c.fact 41 (f := .free "len") rfl),
    He.free_ok X G (c.fact 42 (f := .free "list") rfl),
    He.free_ok X G (c.fact 43 (f := .free "range") rfl),
    He.free_ok X G (c.fact 44 (f := .free "sorted") rfl),
    He.free_ok X G (c.fact 45 (f := .free "sum") rfl),
    He.free_ok X G (c.fact 46 (f := .free "tuple") rfl),
    He.free_ok X G (c.fact 47 (f := .free "zip") rfl),
    He.int_ok X G (c.fact 48 (f := .int "MOST_PLACES" 8) rfl),
    He.int_ok X G (c.fact 49 (f := .int "QUARTERS" 4) rfl),
    blt_ok X G cb 0⟩
  obtain ⟨fd_is_whole, F_is_whole⟩ := c.def_ 0 (d := d_is_whole) rfl
  obtain ⟨fd__are_pairs, F__are_pairs⟩ := c.def_ 1 (d := d__are_pairs) rfl
  obtain ⟨fd__is_each_once, F__is_each_once⟩ := c.def_ 2 (d := d__is_each_once) rfl
  obtain ⟨fd_is_state, F_is_state⟩ := c.def_ 3 (d := d_is_state) rfl
  obtain ⟨fd_is_move, F_is_move⟩ := c.def_ 4 (d := d_is_move) rfl
  obtain ⟨fd_check_state, F_check_state⟩ := c.def_ 5 (d := d_check_state) rfl
  obtain ⟨fd_check_move, F_check_move⟩ := c.def_ 6 (d := d_check_move) rfl
  obtain ⟨fd_check_same, F_check_same⟩ := c.def_ 7 (d := d_check_same) rfl
  obtain ⟨fd_still_move, F_still_move⟩ := c.def_ 8 (d := d_still_move) rfl
  obtain ⟨fd__check_count, F__check_count⟩ := c.def_ 9 (d := d__check_count) rfl
  obtain ⟨fd_first_state, F_first_state⟩ := c.def_ 10 (d := d_first_state) rfl
  obtain ⟨fd_still, F_still⟩ := c.def_ 11 (d := d_still) rfl
  obtain ⟨fd_apply, F_apply⟩ := c.def_ 12 (d := d_apply) rfl
  obtain ⟨fd_moved, F_moved⟩ := c.def_ 13 (d := d_moved) rfl
  obtain ⟨fd_compose, F_compose⟩ := c.def_ 14 (d := d_compose) rfl
  obtain ⟨fd_both, F_both⟩ := c.def_ 15 (d := d_both) rfl
  obtain ⟨fd_inverse, F_inverse⟩ := c.def_ 16 (d := d_inverse) rfl
  obtain ⟨fd_undoing, F_undoing⟩ := c.def_ 17 (d := d_undoing) rfl
  obtain ⟨fd_between, F_between⟩ := c.def_ 18 (d := d_between) rfl
  obtain ⟨fd_power, F_power⟩ := c.def_ 19 (d := d_power) rfl
  obtain ⟨fd_times, F_times⟩ := c.def_ 20 (d := d_times) rfl
  obtain ⟨fd_order, F_order⟩ := c.def_ 21 (d := d_order) rfl
  obtain ⟨fd_order_of, F_order_of⟩ := c.def_ 22 (d := d_order_of) rfl
  obtain ⟨fd_ring_from, F_ring_from⟩ := c.def_ 23 (d := d_ring_from) rfl
  obtain ⟨fd_all_rings, F_all_rings⟩ := c.def_ 24 (d := d_all_rings) rfl
  obtain ⟨fd_rings_of, F_rings_of⟩ := c.def_ 25 (d := d_rings_of) rfl
  obtain ⟨fd__check_place, F__check_place⟩ := c.def_ 26 (d := d__check_place) rfl
  obtain ⟨fd_own_round, F_own_round⟩ := c.def_ 27 (d := d_own_round) rfl
  obtain ⟨fd_rounds, F_rounds⟩ := c.def_ 28 (d := d_rounds) rfl
  obtain ⟨fd_landed, F_landed⟩ := c.def_ 29 (d := d_landed) rfl
  obtain ⟨fd_after, F_after⟩ := c.def_ 30 (d := d_after) rfl
  obtain ⟨fd__law_draws, F__law_draws⟩ := c.def_ 31 (d := d__law_draws) rfl
  obtain ⟨fd__law_move, F__law_move⟩ := c.def_ 32 (d := d__law_move) rfl
  obtain ⟨fd__law_common, F__law_common⟩ := c.def_ 33 (d := d__law_common) rfl
  obtain ⟨fd_law, F_law⟩ := c.def_ 34 (d := d_law) rfl
  have e := hfa.symm.trans (He.glo_ok X G (c.fact 34 (f := .glo "law") rfl))
  cases e
  have b := FunD.bindsA (ps := ["script"]) F_law fun _ _ _ _ _ _ us hl => match us, hl with | [_], _ => rfl
  refine ⟨fd_law, fun s v => b s [v] rfl, fun base _ _ => ?_⟩
  have c_is_whole : CalP CX0 NX P w K mg base 1 "is_whole" f_is_whole := ok_is_whole m F_is_whole (He.glo_ok X G (c.fact 0 (f := .glo "is_whole") rfl))
  have c__are_pairs : CalP CX0 NX P w K mg base 2 "_are_pairs" f__are_pairs := ok__are_pairs m F__are_pairs (He.glo_ok X G (c.fact 1 (f := .glo "_are_pairs") rfl)) c_is_whole
  have c__is_each_once : CalP CX0 NX P w K mg base 3 "_is_each_once" f__is_each_once := ok__is_each_once m F__is_each_once (He.glo_ok X G (c.fact 2 (f := .glo "_is_each_once") rfl)) c__are_pairs
  have c_is_state : CalP CX0 NX P w K mg base 4 "is_state" f_is_state := ok_is_state m F_is_state (He.glo_ok X G (c.fact 3 (f := .glo "is_state") rfl)) c__is_each_once
  have c_is_move : CalP CX0 NX P w K mg base 4 "is_move" f_is_move := ok_is_move m F_is_move (He.glo_ok X G (c.fact 4 (f := .glo "is_move") rfl)) c__is_each_once
  have c_check_state : CalP CX0 NX P w K mg base 5 "check_state" f_check_state := ok_check_state m F_check_state (He.glo_ok X G (c.fact 5 (f := .glo "check_state") rfl)) c_is_state
  have c_check_move : CalP CX0 NX P w K mg base 5 "check_move" f_check_move := ok_check_move m F_check_move (He.glo_ok X G (c.fact 6 (f := .glo "check_move") rfl)) c_is_move
  have c_check_same : CalP CX0 NX P w K mg base 1 "check_same" f_check_same := ok_check_same m F_check_same (He.glo_ok X G (c.fact 7 (f := .glo "check_same") rfl))
  have c_still_move : CalP CX0 NX P w K mg base 1 "still_move" f_still_move := ok_still_move m F_still_move (He.glo_ok X G (c.fact 8 (f := .glo "still_move") rfl))
  have c__check_count : CalP CX0 NX P w K mg base 2 "_check_count" f__check_count := ok__check_count m F__check_count (He.glo_ok X G (c.fact 9 (f := .glo "_check_count") rfl)) c_is_whole
  have c_first_state : CalP CX0 NX P w K mg base 3 "first_state" f_first_state := ok_first_state m F_first_state (He.glo_ok X G (c.fact 10 (f := .glo "first_state") rfl)) c__check_count c_still_move
  have c_still : CalP CX0 NX P w K mg base 3 "still" f_still := ok_still m F_still (He.glo_ok X G (c.fact 11 (f := .glo "still") rfl)) c__check_count c_still_move
  have c_apply : CalP CX0 NX P w K mg base 1 "apply" f_apply := ok_apply m F_apply (He.glo_ok X G (c.fact 12 (f := .glo "apply") rfl))
  have c_moved : CalP CX0 NX P w K mg base 6 "moved" f_moved := ok_moved m F_moved (He.glo_ok X G (c.fact 13 (f := .glo "moved") rfl)) c_check_state c_check_move c_check_same c_apply
  have c_compose : CalP CX0 NX P w K mg base 1 "compose" f_compose := ok_compose m F_compose (He.glo_ok X G (c.fact 14 (f := .glo "compose") rfl))
  have c_both : CalP CX0 NX P w K mg base 6 "both" f_both := ok_both m F_both (He.glo_ok X G (c.fact 15 (f := .glo "both") rfl)) c_check_move c_check_same c_compose
  have c_inverse : CalP CX0 NX P w K mg base 1 "inverse" f_inverse := ok_inverse m F_inverse (He.glo_ok X G (c.fact 16 (f := .glo "inverse") rfl))
  have c_undoing : CalP CX0 NX P w K mg base 6 "undoing" f_undoing := ok_undoing m F_undoing (He.glo_ok X G (c.fact 17 (f := .glo "undoing") rfl)) c_check_move c_inverse
  have c_between : CalP CX0 NX P w K mg base 6 "between" f_between := ok_between m F_between (He.glo_ok X G (c.fact 18 (f := .glo "between") rfl)) c_check_state c_check_same
  have c_power : CalP CX0 NX P w K mg base 2 "power" f_power := ok_power m F_power (He.glo_ok X G (c.fact 19 (f := .glo "power") rfl)) c_still_move c_compose
  have c_times : CalP CX0 NX P w K mg base 6 "times" f_times := ok_times m F_times (He.glo_ok X G (c.fact 20 (f := .glo "times") rfl)) c_check_move c_power c_inverse
  have c_order : CalP CX0 NX P w K mg base 2 "order" f_order := ok_order m F_order (He.glo_ok X G (c.fact 21 (f := .glo "order") rfl)) c_still_move c_compose
  have c_order_of : CalP CX0 NX P w K mg base 6 "order_of" f_order_of := ok_order_of m F_order_of (He.glo_ok X G (c.fact 22 (f := .glo "order_of") rfl)) c_check_move c_order
  have c_ring_from : CalP CX0 NX P w K mg base 1 "ring_from" f_ring_from := ok_ring_from m F_ring_from (He.glo_ok X G (c.fact 23 (f := .glo "ring_from") rfl))
  have c_all_rings : CalP CX0 NX P w K mg base 2 "all_rings" f_all_rings := ok_all_rings m F_all_rings (He.glo_ok X G (c.fact 24 (f := .glo "all_rings") rfl)) c_ring_from
  have c_rings_of : CalP CX0 NX P w K mg base 6 "rings_of" f_rings_of := ok_rings_of m F_rings_of (He.glo_ok X G (c.fact 25 (f := .glo "rings_of") rfl)) c_check_move c_all_rings
  have c__check_place : CalP CX0 NX P w K mg base 6 "_check_place" f__check_place := ok__check_place m F__check_place (He.glo_ok X G (c.fact 26 (f := .glo "_check_place") rfl)) c_check_move c_is_whole
  have c_own_round : CalP CX0 NX P w K mg base 2 "own_round" f_own_round := ok_own_round m F_own_round (He.glo_ok X G (c.fact 27 (f := .glo "own_round") rfl)) c_ring_from
  have c_rounds : CalP CX0 NX P w K mg base 6 "rounds" f_rounds := ok_rounds m F_rounds (He.glo_ok X G (c.fact 28 (f := .glo "rounds") rfl)) c_check_move c_own_round
  have c_landed : CalP CX0 NX P w K mg base 2 "landed" f_landed := ok_landed m F_landed (He.glo_ok X G (c.fact 29 (f := .glo "landed") rfl)) c_ring_from
  have c_after : CalP CX0 NX P w K mg base 7 "after" f_after := ok_after m F_after (He.glo_ok X G (c.fact 30 (f := .glo "after") rfl)) c__check_place c_landed
  have c__law_draws : CalP CX0 NX P w K mg base 1 "_law_draws" f__law_draws := ok__law_draws m F__law_draws (He.glo_ok X G (c.fact 31 (f := .glo "_law_draws") rfl))
  have c__law_move : CalP CX0 NX P w K mg base 1 "_law_move" f__law_move := ok__law_move m F__law_move (He.glo_ok X G (c.fact 32 (f := .glo "_law_move") rfl))
  have c__law_common : CalP CX0 NX P w K mg base 1 "_law_common" f__law_common := ok__law_common m F__law_common (He.glo_ok X G (c.fact 33 (f := .glo "_law_common") rfl))
  exact fn_law m F_law (He.glo_ok X G (c.fact 34 (f := .glo "law") rfl)) c__law_draws c__law_move c_still c_both c_undoing c_moved c_first_state c_between c_order_of c_times c__law_common c_rings_of c_after c_rounds
end W3
open PySem PySem.W PySem.Calls PyProof.Rows
theorem PySem.Challenge.cw_reelwright_k03_main_moves_one_behind_ano_holds : PySem.Challenge.rw_reelwright_k03_main_moves_one_behind_ano.Holds := by
  w_on; o_law
  refine HandSHeadRun.head_imp (r := OpenLaw.row PySem.Challenge.rw_reelwright_k03_main_moves_one_behind_ano) (q := W3.qv) (H := W3.hk) (ob := W3.ob) (M := 20000) (loose := W3.loose) (d := HandSHeadRun.topDef (OpenLaw.row PySem.Challenge.rw_reelwright_k03_main_moves_one_behind_ano).prog 48) (kwd := []) W3.ob_eq
    W3.run (by kernel_rfl) (by kernel_rfl) (by kernel_rfl) (by rfl) (by first | assumption | decide +kernel) (by decide +kernel) ⟨rfl, rfl, rfl, rfl, rfl, by decide +kernel⟩ ?hw ?hc
  case hw => w_witness2
  case hc =>
    refine L2.walk_ofE (l := PySem.Challenge.rw_reelwright_k03_main_moves_one_behind_ano) (n := 63) (k := 8) (x := "script") (CX := L2.CX0) rfl (by decide) (by kernel_rfl) ⟨rfl, by decide, by decide⟩ ?F (fun _ _ _ _ z => z)
    intro w mg fa h Y G hmg0
    obtain ⟨K, KX, c⟩ := Y
    have hmg : mg ("law" : PySem.Str) = some (.ref fa) := by
      have e : (HandSHeadRun.topDef (OpenLaw.row PySem.Challenge.rw_reelwright_k03_main_moves_one_behind_ano).prog 48).name = ("law" : PySem.Str) := by kernel_rfl
      rw [← e]
      exact hmg0
    obtain ⟨fd, hb, hF⟩ := W3.facts (P := (PySem.Challenge.rw_reelwright_k03_main_moves_one_behind_ano).prog) (w := w) KX G hmg c
    exact ⟨K, fd, Rw.spP K Rw.NX 1 W3.f_law, KX, hb, fun H a ns hl _ hS => Rw.law_sp hS (W3.law_true ns hl), hF⟩
end
