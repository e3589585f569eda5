import PyProof.Rows.All
import HandS.ForMost
import HandS.ForExc
import HandS.Flow
import HandS.Style
import HandS.Zip
import HandS.Rev
import HandS.Conv
import HandS.DictTup
import HandS.SetKeys
import HandS.SetFor
import HandS.TupSets
import HandS.TupAny
import HandS.IsInst
import HandS.FStr
import HandS.Codes
import HandS.Deep
import HandS.SortKw
import HandS.Strs
import HandS.Wide
import HandS.StrMore
import HandS.Small
import KE.SortData
import PySem.Challenge.RW_turndoors_k17_same_history_by_exchanges
section
set_option Elab.async false
set_option linter.all false
set_option maxRecDepth 100000
set_option autoImplicit false
/-! Pd: values as data. What a def computes, said over data (PyData) in place of addresses; lists and dicts of a def's own stand in its slots. -/
namespace Pd
open PySem PySem.Spec PyProof.Rows L2

abbrev D := PyData
/-- what a value stands for: data; a box (an address of three ints that a callee may change); the script; an object nobody looks into; a dict; the repr of data -/
inductive W where
  | d (x : D) | p (a : Addr) | sq (a : Addr) (ns : List Int) | f (a : Addr) | dk (kvs : List (Key × D)) | dt (kvs : List (List Key × D)) | rp (x : D)
/-- what a list or dict of the def's own holds -/
inductive Mu where
  | l (ds : List D) | k (kvs : List (Key × D)) | t (kvs : List (List Key × D)) | kl (kvs : List (Key × (Addr × List D))) | ll (xs : List (Addr × List D))
/-- the lists within -/
def Mu.subs : Mu → List Addr
  | .kl kvs => kvs.map (·.2.1)
  | .ll xs => xs.map (·.1)
  | _ => []
abbrev Mu.owns (a : Addr) (m : Mu) : List Addr := a :: m.subs
/-- a slot: nothing known; a value; a list or dict that only this slot has -/
inductive Sl where
  | un | sh (w : W) | mu (m : Mu)
abbrev Rh := List Sl

/-! ### data: lists are tracked ones; texts are of true signs, and not too long -/
structure SOk (x : Str) : Prop where
  ok : PyData.strOk x = true
  len : x.length ≤ sizeLine
mutual
inductive Dd (K : PySem.W.Frag) (G : Hp) : V → D → Prop
  | non : Dd K G .non .none
  | bl (b : Bool) : Dd K G (.bl b) (.bool b)
  | int (i : Int) : Dd K G (.int i) (.int i)
  | str (x : Str) : SOk x → Dd K G (.str x) (.str x)
  | lst {a : Addr} {xs : List V} {ds : List D} : G a = some (.lst xs) → DdAll K G xs ds → Dd K G (.ref a) (.list ds)
  | tup {a : Addr} {xs : List V} {ds : List D} : G a = some (.tup xs) → DdAll K G xs ds → Dd K G (.ref a) (.tuple ds)
inductive DdAll (K : PySem.W.Frag) (G : Hp) : List V → List D → Prop
  | nil : DdAll K G [] []
  | cons {v : V} {vs : List V} {d : D} {ds : List D} : Dd K G v d → DdAll K G vs ds → DdAll K G (v :: vs) (d :: ds)
end
section
variable {K : PySem.W.Frag} {G : Hp}
mutual
theorem ddDp : ∀ (d : D) (v : V), Dd K G v d → Dp K G v d
  | .none, _, h => by cases h; exact .non
  | .bool b, _, h => by cases h; exact .bl b
  | .int i, _, h => by cases h; exact .int i
  | .str x, _, h => by cases h; exact .str x
  | .list ds, _, h => by
    cases h with
    | lst hs ha => exact .lst (.inl (.inl hs)) (ddsDp ds _ ha)
  | .tuple ds, _, h => by
    cases h with
    | tup hs ha => exact .tup (.inl (.inl hs)) (ddsDp ds _ ha)
  | .dict _, _, h => by cases h
theorem ddsDp : ∀ (ds : List D) (vs : List V), DdAll K G vs ds → DpAll K G vs ds
  | [], _, h => by cases h; exact .nil
  | d :: ds, _, h => by
    cases h with
    | cons h1 h2 => exact .cons (ddDp d _ h1) (ddsDp ds _ h2)
end
end
section
variable {K : PySem.W.Frag} {G : Hp}
mutual
theorem ddLay : ∀ (d : D) (v : V), Dd K G v d → d.canLay0 = true
  | .none, _, h => by rw [PyData.canLay0]
  | .bool b, _, h => by rw [PyData.canLay0]
  | .int i, _, h => by rw [PyData.canLay0]
  | .str x, _, h => by
    cases h with
    | str _ q =>
      rw [PyData.canLay0]
      exact q.ok
  | .list ds, _, h => by
    cases h with
    | lst hs ha =>
      rw [PyData.canLay0]
      exact ddsLay ds _ ha
  | .tuple ds, _, h => by
    cases h with
    | tup hs ha =>
      rw [PyData.canLay0]
      exact ddsLay ds _ ha
  | .dict _, _, h => by cases h
theorem ddsLay : ∀ (ds : List D) (vs : List V), DdAll K G vs ds → PyData.canLayAll0 ds = true
  | [], _, h => by rw [PyData.canLayAll0]
  | d :: ds, _, h => by
    cases h with
    | cons h1 h2 =>
      rw [PyData.canLayAll0, ddLay d _ h1, ddsLay ds _ h2]
      rfl
end
end
/-- an object from outside: a box; the script -/
inductive Xk where
  | box | scr (ns : List Int)
abbrev Ext := Addr → Xk → Prop
def BoxAt (H : Hp) (a : Addr) : Prop := ∃ i j k : Int, H a = some (.lst [.int i, .int j, .int k])
abbrev KvD {κ : Type} (K : PySem.W.Frag) (G : Hp) : List (κ × V) → List (κ × D) → Prop := Paired fun p q => p.1 = q.1 ∧ Dd K G p.2 q.2
def Rw (K : PySem.W.Frag) (EX : Ext) (G : Hp) (v : V) : W → Prop
  | .d x => Dd K G v x
  | .p a => v = .ref a ∧ EX a .box
  | .sq a ns => v = .ref a ∧ EX a (.scr ns)
  | .f a => v = .ref a
  | .dk kvs => ∃ a vs, v = .ref a ∧ G a = some (.dK vs) ∧ KvD K G vs kvs
  | .dt kvs => ∃ a vs, v = .ref a ∧ G a = some (.dT vs) ∧ KvD K G vs kvs
  | .rp x => v = .str x.shown
abbrev RwAll (K : PySem.W.Frag) (EX : Ext) (G : Hp) : List V → List W → Prop := Paired (Rw K EX G)
def SubAt (K : PySem.W.Frag) (G H : Hp) (xs : List (Addr × List D)) : Prop := ∀ p ∈ xs, ∃ vs, H p.1 = some (.lst vs) ∧ DdAll K G vs p.2
def MuAt (K : PySem.W.Frag) (G H : Hp) (a : Addr) : Mu → Prop
  | .l ds => ∃ vs, H a = some (.lst vs) ∧ DdAll K G vs ds
  | .k kvs => ∃ vs, H a = some (.dK vs) ∧ KvD K G vs kvs
  | .t kvs => ∃ vs, H a = some (.dT vs) ∧ KvD K G vs kvs
  | .kl kvs => H a = some (.dK (kvs.map fun p => (p.1, V.ref p.2.1))) ∧ SubAt K G H (kvs.map (·.2)) ∧ (a :: kvs.map (·.2.1)).Nodup
  | .ll xs => H a = some (.lst (xs.map fun p => V.ref p.1)) ∧ SubAt K G H xs ∧ (a :: xs.map (·.1)).Nodup

/-! ### data stays -/
theorem seqT {K : PySem.W.Frag} {H H' : Hp} {a : Addr} {xs : List V} (e : Same H H') (h : SqT K H a xs) : SqT K H' a xs := by
  rcases h with (h | ⟨o, h⟩) | h
  · exact .inl (.inl (e _ _ h))
  · exact .inl (.inr ⟨o, e _ _ h⟩)
  · exact .inr h
section
variable {K : PySem.W.Frag} {G G' H H' : Hp} {EX EX' : Ext}
mutual
theorem dpMono (s : Same G G') : ∀ (d : D) (v : V), Dd K G v d → Dd K G' v d
  | .none, _, h => by cases h; exact .non
  | .bool b, _, h => by cases h; exact .bl b
  | .int i, _, h => by cases h; exact .int i
  | .str x, _, h => by cases h with | str _ q => exact .str x q
  | .list ds, _, h => by
    cases h with
    | lst hs ha => exact .lst (s _ _ hs) (dpsMono s ds _ ha)
  | .tuple ds, _, h => by
    cases h with
    | tup hs ha => exact .tup (s _ _ hs) (dpsMono s ds _ ha)
  | .dict _, _, h => by cases h
theorem dpsMono (s : Same G G') : ∀ (ds : List D) (vs : List V), DdAll K G vs ds → DdAll K G' vs ds
  | [], _, h => by cases h; exact .nil
  | d :: ds, _, h => by
    cases h with
    | cons h1 h2 => exact .cons (dpMono s d _ h1) (dpsMono s ds _ h2)
end
theorem dpLen : ∀ {vs : List V} {ds : List D}, DdAll K G vs ds → vs.length = ds.length
  | _, [], h => by cases h; rfl
  | _, d :: ds, h => by
    cases h with
    | cons h1 h2 => rw [List.length_cons, List.length_cons, dpLen h2]
theorem dpGet : ∀ {vs : List V} {ds : List D} {i : Nat} {d : D}, DdAll K G vs ds → ds[i]? = some d → ∃ v, vs[i]? = some v ∧ Dd K G v d
  | _, [], _, _, _, e => by simp at e
  | _, x :: ds, 0, d, h, e => by
    cases h with
    | cons h1 h2 =>
      simp at e
      subst e
      exact ⟨_, rfl, h1⟩
  | _, x :: ds, i + 1, d, h, e => by
    cases h with
    | cons h1 h2 =>
      obtain ⟨v, q1, q2⟩ := dpGet (i := i) (d := d) h2 (by simpa using e)
      exact ⟨v, by simpa using q1, q2⟩
theorem dpGetV : ∀ {vs : List V} {ds : List D} {i : Nat} {v : V}, DdAll K G vs ds → vs[i]? = some v → ∃ d, ds[i]? = some d ∧ Dd K G v d
  | _, [], _, _, h, e => by cases h; simp at e
  | _, x :: ds, 0, v, h, e => by
    cases h with
    | cons h1 h2 =>
      simp at e
      subst e
      exact ⟨_, rfl, h1⟩
  | _, x :: ds, i + 1, v, h, e => by
    cases h with
    | cons h1 h2 =>
      obtain ⟨d, q1, q2⟩ := dpGetV (i := i) (v := v) h2 (by simpa using e)
      exact ⟨d, by simpa using q1, q2⟩
theorem dpApp : ∀ {vs vs' : List V} {ds ds' : List D}, DdAll K G vs ds → DdAll K G vs' ds' → DdAll K G (vs ++ vs') (ds ++ ds')
  | _, _, [], _, h, h' => by cases h; exact h'
  | _, _, d :: ds, _, h, h' => by
    cases h with
    | cons h1 h2 => exact .cons h1 (dpApp h2 h')
theorem dpTake : ∀ {vs : List V} {ds : List D} (n : Nat), DdAll K G vs ds → DdAll K G (vs.take n) (ds.take n)
  | _, _, 0, _ => by simp; exact .nil
  | _, [], n + 1, h => by cases h; simp; exact .nil
  | _, d :: ds, n + 1, h => by
    cases h with
    | cons h1 h2 => exact .cons h1 (dpTake n h2)
theorem dpDrop : ∀ {vs : List V} {ds : List D} (n : Nat), DdAll K G vs ds → DdAll K G (vs.drop n) (ds.drop n)
  | _, _, 0, h => h
  | _, [], n + 1, h => by cases h; simp; exact .nil
  | _, d :: ds, n + 1, h => by
    cases h with
    | cons h1 h2 => exact dpDrop n h2
theorem dpSet {v : V} {d : D} (h : Dd K G v d) : ∀ {vs : List V} {ds : List D} (n : Nat), DdAll K G vs ds → DdAll K G (vs.set n v) (ds.set n d)
  | _, [], n, q => by cases q; exact .nil
  | _, x :: ds, 0, q => by
    cases q with
    | cons h1 h2 => exact .cons h h2
  | _, x :: ds, n + 1, q => by
    cases q with
    | cons h1 h2 => exact .cons h1 (dpSet h n h2)
theorem dpErase : ∀ {vs : List V} {ds : List D} (n : Nat), DdAll K G vs ds → DdAll K G (vs.eraseIdx n) (ds.eraseIdx n)
  | _, [], n, q => by cases q; exact .nil
  | _, x :: ds, 0, q => by
    cases q with
    | cons h1 h2 => exact h2
  | _, x :: ds, n + 1, q => by
    cases q with
    | cons h1 h2 => exact .cons h1 (dpErase n h2)
theorem dpRev {vs : List V} {ds : List D} (h : DdAll K G vs ds) : DdAll K G vs.reverse ds.reverse := by
  induction ds generalizing vs with
  | nil => cases h; exact .nil
  | cons d ds ih =>
    cases h with
    | cons h1 h2 =>
      rw [List.reverse_cons, List.reverse_cons]
      exact dpApp (ih h2) (.cons h1 .nil)
theorem dpOne {v : V} {d : D} (h : Dd K G v d) : DdAll K G [v] [d] := .cons h .nil
theorem kvMono {κ : Type} (s : Same G G') : ∀ {vs : List (κ × V)} {kvs : List (κ × D)}, KvD K G vs kvs → KvD K G' vs kvs
  | _, _, .nil => .nil
  | _, _, .cons h t => .cons ⟨h.1, dpMono s _ _ h.2⟩ (kvMono s t)
theorem rwMono {v : V} {r : W} (s : Same G G') (b : ∀ a k, EX a k → EX' a k) (h : Rw K EX G v r) : Rw K EX' G' v r := by
  cases r with
  | d x => exact dpMono s _ _ h
  | p a => exact ⟨h.1, b _ _ h.2⟩
  | sq a ns => exact ⟨h.1, b _ _ h.2⟩
  | f a => exact h
  | rp x => exact h
  | dk kvs => obtain ⟨a, vs, e, g, q⟩ := h; exact ⟨a, vs, e, s _ _ g, kvMono s q⟩
  | dt kvs => obtain ⟨a, vs, e, g, q⟩ := h; exact ⟨a, vs, e, s _ _ g, kvMono s q⟩
theorem rwAllMono (s : Same G G') (b : ∀ a k, EX a k → EX' a k) : ∀ {vs : List V} {ws : List W}, RwAll K EX G vs ws → RwAll K EX' G' vs ws
  | _, _, .nil => .nil
  | _, _, .cons h t => .cons (rwMono s b h) (rwAllMono s b t)
theorem subMono {xs : List (Addr × List D)} (s : Same G G') (e : ∀ p ∈ xs, H' p.1 = H p.1) (h : SubAt K G H xs) : SubAt K G' H' xs := fun p hp => by
  obtain ⟨vs, g, q⟩ := h p hp
  exact ⟨vs, (e p hp).trans g, dpsMono s _ _ q⟩
theorem muMono {a : Addr} {m : Mu} (s : Same G G') (e : ∀ b ∈ m.owns a, H' b = H b) (h : MuAt K G H a m) : MuAt K G' H' a m := by
  have e0 := e a List.mem_cons_self
  cases m with
  | l ds => obtain ⟨vs, g, q⟩ := h; exact ⟨vs, e0.trans g, dpsMono s _ _ q⟩
  | k kvs => obtain ⟨vs, g, q⟩ := h; exact ⟨vs, e0.trans g, kvMono s q⟩
  | t kvs => obtain ⟨vs, g, q⟩ := h; exact ⟨vs, e0.trans g, kvMono s q⟩
  | kl kvs =>
    obtain ⟨g, q, n⟩ := h
    refine ⟨e0.trans g, subMono s (fun p hp => e _ (List.mem_cons_of_mem _ ?_)) q, n⟩
    obtain ⟨x, hx, rfl⟩ := List.mem_map.mp hp
    exact List.mem_map.mpr ⟨x, hx, rfl⟩
  | ll xs =>
    obtain ⟨g, q, n⟩ := h
    exact ⟨e0.trans g, subMono s (fun p hp => e _ (List.mem_cons_of_mem _ (List.mem_map.mpr ⟨p, hp, rfl⟩))) q, n⟩
theorem muThere {a : Addr} {m : Mu} (h : MuAt K G H a m) : ∀ b ∈ m.owns a, ∃ o, H b = some o ∧ ∀ ob x, o ≠ .frz ob x := by
  intro b hb
  cases m with
  | l ds =>
    obtain ⟨vs, g, q⟩ := h
    rw [show b = a by simpa [Mu.owns, Mu.subs] using hb]
    exact ⟨_, g, fun _ _ z => by cases z⟩
  | k kvs =>
    obtain ⟨vs, g, q⟩ := h
    rw [show b = a by simpa [Mu.owns, Mu.subs] using hb]
    exact ⟨_, g, fun _ _ z => by cases z⟩
  | t kvs =>
    obtain ⟨vs, g, q⟩ := h
    rw [show b = a by simpa [Mu.owns, Mu.subs] using hb]
    exact ⟨_, g, fun _ _ z => by cases z⟩
  | kl kvs =>
    obtain ⟨g, q, n⟩ := h
    rcases List.mem_cons.mp hb with rfl | hb
    · exact ⟨_, g, fun _ _ z => by cases z⟩
    · obtain ⟨x, hx, rfl⟩ := List.mem_map.mp hb
      obtain ⟨vs, g', _⟩ := q _ (List.mem_map.mpr ⟨x, hx, rfl⟩)
      exact ⟨_, g', fun _ _ z => by cases z⟩
  | ll xs =>
    obtain ⟨g, q, n⟩ := h
    rcases List.mem_cons.mp hb with rfl | hb
    · exact ⟨_, g, fun _ _ z => by cases z⟩
    · obtain ⟨x, hx, rfl⟩ := List.mem_map.mp hb
      obtain ⟨vs, g', _⟩ := q _ hx
      exact ⟨_, g', fun _ _ z => by cases z⟩
theorem boxThere {a : Addr} (h : BoxAt H a) : ∃ o, H a = some o := by
  obtain ⟨i, j, k, e⟩ := h
  exact ⟨_, e⟩
end

/-! ### steps of the heap -/
/-- G: the part that stands still; EX: the objects from outside -/
def ScrAt (K : PySem.W.Frag) (H : Hp) (b : Addr) (ns : List Int) : Prop := (∃ o, H b = some (.frz o (.lst (ns.map V.int)))) ∨
    ∃ (o : Obj) (its : Array Value) (n : Nat), K.lookup b = some o ∧ o.cls = .type "list" ∧ o.dict = none ∧ o.data = .seq its n ∧ its.size ≤ sizeLine ∧ Vals (ns.map V.int) its.toList
theorem ScrAt.seq {K : PySem.W.Frag} {H : Hp} {b : Addr} {ns : List Int} (h : ScrAt K H b ns) : SqL K H b (ns.map V.int) := by
  rcases h with h | h
  · exact .inl (.inr h)
  · exact .inr h
structure Gd (K : PySem.W.Frag) (EX : Ext) (G H : Hp) : Prop where
  sub : Same G H
  bx : ∀ b, EX b .box → BoxAt H b
  sc : ∀ b ns, EX b (.scr ns) → ScrAt K H b ns
  ex : ∀ b, EX b .box → G b = none
structure Step (EX : Ext) (G H G' H' : Hp) : Prop where
  st : ∀ b o, H b = some o → EX b .box ∨ H' b = some o
  bx : ∀ b, EX b .box → BoxAt H' b
  gg : Same G G'
  sub : Same G' H'
  gn : ∀ b o, G' b = some o → G b = some o ∨ H b = none
  ex : ∀ b, EX b .box → G' b = none
structure SlAt (K : PySem.W.Frag) (EX : Ext) (G H : Hp) (so : Option (Option V)) (s : Sl) : Prop where
  sh : ∀ w, s = .sh w → ∃ v, so = some (some v) ∧ Rw K EX G v w
  mu : ∀ m, s = .mu m → ∃ a, so = some (some (.ref a)) ∧ (∀ b ∈ m.owns a, G b = none ∧ ¬ EX b .box) ∧ MuAt K G H a m
structure Rel (K : PySem.W.Frag) (EX : Ext) (G H : Hp) (σ : L2.St) (ρ : Rh) : Prop extends Gd K EX G H where
  sl : ∀ (i : Nat) (s : Sl), ρ[i]? = some s → SlAt K EX G H σ[i]? s
  df : ∀ (i j : Nat) (m m' : Mu) (a a' b : Addr), ρ[i]? = some (.mu m) → ρ[j]? = some (.mu m') → σ[i]? = some (some (.ref a)) → σ[j]? = some (some (.ref a')) → b ∈ m.owns a → b ∈ m'.owns a' → i = j
  len : σ.length = ρ.length
/-- what the slots own -/
def Own (σ : L2.St) (ρ : Rh) (b : Addr) : Prop := ∃ (i : Nat) (m : Mu) (a : Addr), ρ[i]? = some (.mu m) ∧ σ[i]? = some (some (.ref a)) ∧ b ∈ m.owns a

theorem slUn {K : PySem.W.Frag} {EX : Ext} {G H : Hp} {so : Option (Option V)} : SlAt K EX G H so .un := ⟨fun _ e => (by cases e), fun _ e => (by cases e)⟩
theorem slSh {K : PySem.W.Frag} {EX : Ext} {G H : Hp} {v : V} {w : W} (h : Rw K EX G v w) : SlAt K EX G H (some (some v)) (.sh w) :=
  ⟨fun _ e => (by cases e; exact ⟨v, rfl, h⟩), fun _ e => (by cases e)⟩
theorem slMu {K : PySem.W.Frag} {EX : Ext} {G H : Hp} {a : Addr} {m : Mu} (g : ∀ b ∈ m.owns a, G b = none ∧ ¬ EX b .box) (h : MuAt K G H a m) : SlAt K EX G H (some (some (.ref a))) (.mu m) :=
  ⟨fun _ e => (by cases e), fun _ e => (by cases e; exact ⟨a, rfl, g, h⟩)⟩

section
variable {K : PySem.W.Frag} {EX EX' : Ext} {G H G1 H1 G2 H2 : Hp} {σ : L2.St} {ρ : Rh}
theorem Gd.refl (R : Gd K EX G H) : Step EX G H G H := ⟨fun _ _ h => .inr h, fun b h => R.bx b h, Same.refl G, R.sub, fun _ _ h => .inl h, R.ex⟩
theorem Step.trans (a : Step EX G H G1 H1) (b : Step EX G1 H1 G2 H2) : Step EX G H G2 H2 where
  st := fun c o h => by
    rcases a.st c o h with q | q
    · exact .inl q
    · exact b.st c o q
  bx := b.bx
  gg := a.gg.trans b.gg
  sub := b.sub
  gn := fun c o h => by
    rcases b.gn c o h with q | q
    · exact a.gn c o q
    · right
      cases e : H c with
      | none => rfl
      | some u =>
        rcases a.st c u e with z | z
        · obtain ⟨o', z'⟩ := boxThere (a.bx c z)
          rw [q] at z'; cases z'
        · rw [q] at z; cases z
  ex := b.ex
theorem Step.fresh (a : Step EX G H G1 H1) {p : Addr} (h : H1 p = none) : H p = none := by
  cases e : H p with
  | none => rfl
  | some u =>
    rcases a.st p u e with z | z
    · obtain ⟨o', z'⟩ := boxThere (a.bx p z)
      rw [h] at z'; cases z'
    · rw [h] at z; cases z
theorem Gd.step (R : Gd K EX G H) (S : Step EX G H G1 H1) : Gd K EX G1 H1 where
  sub := S.sub
  bx := S.bx
  sc := fun b ns h => by
    rcases R.sc b ns h with ⟨o, q⟩ | q
    · refine .inl ⟨o, (S.st b _ q).resolve_left fun z => ?_⟩
      obtain ⟨i, j, k, e⟩ := R.bx b z
      rw [q] at e; cases e
    · exact .inr q
  ex := S.ex
/-- the owned, the boxes and the still parts are apart -/
theorem Rel.ownAt (R : Rel K EX G H σ ρ) {b : Addr} (o : Own σ ρ b) : G b = none ∧ ¬ EX b .box ∧ ∃ u, H b = some u ∧ ∀ ob x, u ≠ .frz ob x := by
  obtain ⟨i, m, a, e1, e2, e3⟩ := o
  obtain ⟨a', q1, q2, q4⟩ := (R.sl i _ e1).mu m rfl
  rw [e2] at q1
  cases q1
  exact ⟨(q2 b e3).1, (q2 b e3).2, muThere q4 b e3⟩
theorem SlAt.step {so : Option (Option V)} {s : Sl} (h : SlAt K EX G H so s) (S : Step EX G H G1 H1) : SlAt K EX G1 H1 so s := ⟨fun w z => by
    obtain ⟨v, q1, q2⟩ := h.sh w z
    exact ⟨v, q1, rwMono S.gg (fun _ _ h => h) q2⟩, fun m z => by
    obtain ⟨a, q1, q2, q4⟩ := h.mu m z
    refine ⟨a, q1, fun b hb => ⟨?_, (q2 b hb).2⟩, muMono S.gg (fun b hb => ?_) q4⟩
    · obtain ⟨u, hu, _⟩ := muThere q4 b hb
      cases e2 : G1 b with
      | none => rfl
      | some o =>
        rcases S.gn b o e2 with z | z
        · rw [(q2 b hb).1] at z; cases z
        · rw [hu] at z; cases z
    · obtain ⟨u, hu, _⟩ := muThere q4 b hb
      rcases S.st b u hu with z | z
      · exact absurd z (q2 b hb).2
      · exact z.trans hu.symm⟩
theorem Rel.step (R : Rel K EX G H σ ρ) (S : Step EX G H G1 H1) : Rel K EX G1 H1 σ ρ where
  toGd := R.toGd.step S
  sl := fun i s e => (R.sl i s e).step S
  df := R.df
  len := R.len
theorem Rel.var (R : Rel K EX G H σ ρ) {i : Nat} {w : W} (e : ρ[i]? = some (.sh w)) : ∃ v, σ[i]? = some (some v) ∧ Rw K EX G v w := (R.sl i _ e).sh w rfl
theorem Rel.own (R : Rel K EX G H σ ρ) {i : Nat} {m : Mu} (e : ρ[i]? = some (.mu m)) : ∃ a, σ[i]? = some (some (.ref a)) ∧ (∀ b ∈ m.owns a, G b = none ∧ ¬ EX b .box) ∧ MuAt K G H a m := (R.sl i _ e).mu m rfl
theorem Gd.free (R : Gd K EX G H) {p : Addr} (hp : H p = none) : G p = none := by
  cases e : G p with
  | none => rfl
  | some o => rw [R.sub p o e] at hp; cases hp
theorem Gd.notBox (R : Gd K EX G H) {p : Addr} (hp : H p = none) : ¬ EX p .box := fun h => by
  obtain ⟨o, z⟩ := boxThere (R.bx p h)
  rw [hp] at z; cases z
/-- a new object that stands still -/
theorem Gd.new (R : Gd K EX G H) {p : Addr} {o : HO} (hp : H p = none) : Step EX G H (upd G p o) (upd H p o) where
  st := fun b u h => .inr (by rw [upd_ne (ne_of_none h hp)]; exact h)
  bx := fun b h => by
    obtain ⟨i, j, k, e⟩ := R.bx b h
    exact ⟨i, j, k, by rw [upd_ne (ne_of_none e hp)]; exact e⟩
  gg := fun b u h => by
    rw [upd_ne (ne_of_none (R.sub b u h) hp)]
    exact h
  sub := fun b u h => by
    by_cases e : b = p
    · subst e; rw [upd_same] at h ⊢; exact h
    · rw [upd_ne e] at h ⊢; exact R.sub b u h
  gn := fun b u h => by
    by_cases e : b = p
    · subst e; exact .inr hp
    · rw [upd_ne e] at h; exact .inl h
  ex := fun b h => by
    have hb : b ≠ p := fun e => R.notBox hp (e ▸ h)
    rw [upd_ne hb]
    exact R.ex b h
/-- a new object outside -/
theorem Gd.newOut (R : Gd K EX G H) {p : Addr} {o : HO} (hp : H p = none) : Step EX G H G (upd H p o) where
  st := fun b u h => .inr (by rw [upd_ne (ne_of_none h hp)]; exact h)
  bx := fun b h => by
    obtain ⟨i, j, k, e⟩ := R.bx b h
    exact ⟨i, j, k, by rw [upd_ne (ne_of_none e hp)]; exact e⟩
  gg := Same.refl G
  sub := fun b u h => by
    have h' := R.sub b u h
    rw [upd_ne (ne_of_none h' hp)]
    exact h'
  gn := fun b u h => .inl h
  ex := R.ex
/-- a fresh object outside comes to stand still -/
theorem Gd.still (R : Gd K EX G H) {p : Addr} {o : HO} (ho : H p = some o) (hb : ¬ EX p .box) (hg : G p = none) : Gd K EX (upd G p o) H where
  sub := fun b u h => by
    by_cases e : b = p
    · subst e; rw [upd_same] at h; rw [← h]; exact ho
    · rw [upd_ne e] at h; exact R.sub b u h
  bx := R.bx
  sc := R.sc
  ex := fun b h => by
    have e : b ≠ p := fun e => hb (e ▸ h)
    rw [upd_ne e]
    exact R.ex b h
end
theorem same_upd_new {G : Hp} {p : Addr} {o : HO} (h : G p = none) : Same G (upd G p o) := fun b u e => by
  rw [upd_ne (ne_of_none e h)]
  exact e
end Pd
end

section
set_option Elab.async false
set_option linter.all false
set_option maxRecDepth 100000
set_option autoImplicit false
/-! Pd, expressions -/
namespace Pd
open PySem PySem.Spec PyProof.Rows L2

abbrev WE := Rh → (W → Prop) → Prop
abbrev WT := Rh → (Bool → Prop) → Prop
abbrev WA := Rh → (List W → Prop) → Prop
abbrev WD := Rh → (List D → Prop) → Prop

/-! ### lengths are bounded -/
structure Bd (K : PySem.W.Frag) (H : Hp) : Prop where
  l : ∀ a xs, SqL K H a xs → xs.length ≤ sizeLine
  t : ∀ a xs, SqT K H a xs → xs.length ≤ sizeLine
theorem bd_of {X : Cx} {pins : List (Addr × Obj)} {σ : L2.St} {H : Hp} {s : Shared} (I : Inv X pins σ H s) : Bd X.K H :=
  ⟨fun a xs h => let ⟨_, _, _, z⟩ := I.list h; z, fun a xs h => let ⟨_, _, _, z⟩ := I.tuple h; z⟩
def bdE (K : PySem.W.Frag) (t : TE) : TE := fun σ H Q => Bd K H → t σ H Q
theorem pe_bd {X : Cx} {e : Expr} {t : TE} (h : PE X e t) : PE X e (bdE X.K t) := ⟨fun pins s σ H Q I q => h.run pins s σ H Q I (q (bd_of I))⟩
def bdI (K : PySem.W.Frag) (t : TI) : TI := fun σ H R => Bd K H → t σ H R
theorem pi_bd {X : Cx} {tg e : Expr} {t : TI} (h : PI X tg e t) : PI X tg e (bdI X.K t) := ⟨fun pins s σ H R I q => h.run pins s σ H R I (q (bd_of I))⟩

/-! ### the judgements: a reading and what it says of data -/
def SoE (K : PySem.W.Frag) (t : TE) (w : WE) : Prop := ∀ (EX : Ext) (G H : Hp) (σ : L2.St) (ρ : Rh) (Φ : W → Prop), Rel K EX G H σ ρ → w ρ Φ →
  ∀ Q : VK, (∀ v G' H' r, Step EX G H G' H' → Rw K EX G' v r → Φ r → Q v H') → t σ H Q
structure ME (X : Cx) (e : Expr) (t : TE) (w : WE) : Prop where
  pe : PE X e t
  so : SoE X.K t w
def SoT (K : PySem.W.Frag) (t : TT) (w : WT) : Prop := ∀ (EX : Ext) (G H : Hp) (σ : L2.St) (ρ : Rh) (Φ : Bool → Prop), Rel K EX G H σ ρ → w ρ Φ →
  ∀ Q : Bool → Hp → Prop, (∀ b G' H', Step EX G H G' H' → Φ b → Q b H') → t σ H Q
structure MT (X : Cx) (e : Expr) (t : TT) (w : WT) : Prop where
  pt : PT X e t
  so : SoT X.K t w
/-- a test of and, or -/
structure MW (X : Cx) (e : Expr) (t : TT) (w : WT) : Prop where
  pw : PW X e t
  so : SoT X.K t w
def SoA (K : PySem.W.Frag) (t : TA) (w : WA) : Prop := ∀ (EX : Ext) (G H : Hp) (σ : L2.St) (ρ : Rh) (Φ : List W → Prop), Rel K EX G H σ ρ → w ρ Φ →
  ∀ Q : List V → Hp → Prop, (∀ vs G' H' rs, Step EX G H G' H' → RwAll K EX G' vs rs → Φ rs → Q vs H') → t σ H Q
structure MA (X : Cx) (es : List Expr) (t : TA) (w : WA) : Prop where
  pa : PA X es t
  so : SoA X.K t w
/-- a new list, that nobody else has -/
def SoL (K : PySem.W.Frag) (t : TE) (w : WD) : Prop := ∀ (EX : Ext) (G H : Hp) (σ : L2.St) (ρ : Rh) (Φ : List D → Prop), Rel K EX G H σ ρ → w ρ Φ →
  ∀ Q : VK, (∀ a vs G' H' ds, Step EX G H G' H' → H a = none → G' a = none → ¬ EX a .box → H' a = some (.lst vs) → DdAll K G' vs ds → Φ ds → Q (.ref a) H') → t σ H Q
structure ML (X : Cx) (e : Expr) (t : TE) (w : WD) : Prop where
  pe : PE X e t
  so : SoL X.K t w

section
variable {X : Cx} {e a b c : Expr} {es : List Expr} {t ta tb tc : TE} {tA : TA} {w wa wb wc : WE} {wA : WA} {pos : Pos}

/-! ### names, constants -/
def wVar (i : Nat) : WE := fun ρ Φ => match ρ[i]? with
  | some (.sh r) => Φ r
  | _ => False
theorem wVar_iff {i : Nat} {ρ : Rh} {Φ : W → Prop} (h : wVar i ρ Φ) : ∃ r, ρ[i]? = some (.sh r) ∧ Φ r := by
  unfold wVar at h
  split at h
  · exact ⟨_, by assumption, h⟩
  · exact h.elim
theorem so_var {K : PySem.W.Frag} (i : Nat) : SoE K (tVar i) (wVar i) := fun EX G H σ ρ Φ R h Q q => by
  obtain ⟨r, e, f⟩ := wVar_iff h
  obtain ⟨v, e1, rv⟩ := R.var e
  exact ⟨v, e1, q v G H r R.refl rv f⟩
theorem me_var (i : Nat) {x : Str} (hN : X.N[i]? = some x := by rfl) (hv : Vis X.env.scope x := by first | exact Or.inl rfl | exact Or.inr (Or.inl rfl) | exact Or.inr (Or.inr rfl)) (hd : (x == ("__debug__" : Str)) = false := by decide)
    (hcd : (x == ("__classdict__" : Str)) = false := by decide) : ME X (.Name x pos) (tVar i) (wVar i) := ⟨pv i hN hv hd hcd, so_var i⟩
def wC (r : W) : WE := fun _ Φ => Φ r
theorem so_c {K : PySem.W.Frag} {v : V} {r : W} (h : ∀ EX G, Rw K EX G v r) : SoE K (tC v) (wC r) := fun EX G H σ ρ Φ R f Q q => q v G H r R.refl (h EX G) f
theorem me_int {i : Int} {j : Nat} : ME X (.Constant (.int i) j pos) (tC (.int i)) (wC (.d (.int i))) := ⟨pe_int, so_c fun _ _ => .int i⟩
theorem me_bl {k : Bool} {j : Nat} : ME X (.Constant (.bool k) j pos) (tC (.bl k)) (wC (.d (.bool k))) := ⟨pe_bl, so_c fun _ _ => .bl k⟩
theorem me_non {j : Nat} : ME X (.Constant .none j pos) (tC .non) (wC (.d .none)) := ⟨pe_non, so_c fun _ _ => .non⟩
theorem me_str {x : Str} {j : Nat} (h1 : PyData.strOk x = true := by decide +kernel) (h2 : x.length ≤ sizeLine := by decide +kernel) : ME X (.Constant (.str x) j pos) (tC (.str x)) (wC (.d (.str x))) := ⟨pe_str, so_c fun _ _ => .str x ⟨h1, h2⟩⟩

/-! ### arguments, tuples, lists -/
def wNil : WA := fun _ Φ => Φ []
def wCons (w : WE) (u : WA) : WA := fun ρ Φ => w ρ fun r => u ρ fun rs => Φ (r :: rs)
theorem ma_nil : MA X [] tNil wNil := ⟨pa_nil, fun EX G H σ ρ Φ R f Q q => q [] G H [] R.refl .nil f⟩
theorem so_cons {K : PySem.W.Frag} (h : SoE K t w) (h2 : SoA K tA wA) : SoA K (tCons t tA) (wCons w wA) := fun EX G H σ ρ Φ R f Q q =>
  h EX G H σ ρ _ R f _ fun v G1 H1 r S1 rv f1 => h2 EX G1 H1 σ ρ _ (R.step S1) f1 _ fun vs G2 H2 rs S2 rvs f2 =>
    q (v :: vs) G2 H2 (r :: rs) (S1.trans S2) (.cons (rwMono S2.gg (fun _ _ h => h) rv) rvs) f2
theorem ma_cons (h : ME X e t w) (h2 : MA X es tA wA) (hs : starEach (e :: es) X.env = (false, eval e X.env) :: starEach es X.env := by rfl) : MA X (e :: es) (tCons t tA) (wCons w wA) := ⟨pa_cons h.pe h2.pa hs, so_cons h.so h2.so⟩
/-- the data of several values -/
def dats : List W → Option (List D)
  | [] => some []
  | .d x :: r => match dats r with
    | some ds => some (x :: ds)
    | none => none
  | _ :: _ => none
theorem dats_dd {K : PySem.W.Frag} {EX : Ext} {G : Hp} : ∀ {vs : List V} {rs : List W} {ds : List D}, RwAll K EX G vs rs → dats rs = some ds → DdAll K G vs ds
  | _, [], ds, .nil, e => by
    cases e
    exact .nil
  | _, r :: rs, ds, .cons h t, e => by
    cases r with
    | d x =>
      unfold dats at e
      split at e
      · cases e
        exact .cons h (dats_dd t (by assumption))
      · cases e
    | _ => cases e
/-- a written number of items -/
def datsW (rs : List W) (Φ : List D → Prop) : Prop := match dats rs with
  | some ds => ds.length ≤ 1000 ∧ Φ ds
  | none => False
theorem datsW_iff {rs : List W} {Φ : List D → Prop} (h : datsW rs Φ) : ∃ ds, dats rs = some ds ∧ ds.length ≤ 1000 ∧ Φ ds := by
  unfold datsW at h
  split at h
  · exact ⟨_, by assumption, h⟩
  · exact h.elim
theorem le_line {n : Nat} (h : n ≤ 1000) : n ≤ sizeLine := Nat.le_trans h (by rw [sizeLine_eq]; decide)
def wTup (wA : WA) : WE := fun ρ Φ => wA ρ fun rs => datsW rs fun ds => Φ (.d (.tuple ds))
theorem so_tup {K : PySem.W.Frag} (h : SoA K tA wA) : SoE K (tTup tA) (wTup wA) := fun EX G H σ ρ Φ R f Q q =>
  h EX G H σ ρ _ R f _ fun vs G1 H1 rs S1 rvs f1 => by
    obtain ⟨ds, e, hl, f2⟩ := datsW_iff f1
    have dd := dats_dd rvs e
    refine ⟨le_line (by rw [dpLen dd]; exact hl), fun p hp => ?_⟩
    have R1 := R.toGd.step S1
    have S2 := R1.new (p := p) (o := .tup vs) hp
    exact q (.ref p) _ _ (.d (.tuple ds)) (S1.trans S2) (Dd.tup upd_same (dpsMono S2.gg _ _ dd)) f2
theorem me_tup {k : Nat} (h : MA X es tA wA) : ME X (.Tuple es k pos) (tTup tA) (wTup wA) := ⟨pe_tup h.pa, so_tup h.so⟩
def wLst (wA : WA) : WD := fun ρ Φ => wA ρ fun rs => datsW rs Φ
theorem ml_lst (h : MA X es tA wA) : ML X (.List es pos) (tLst tA) (wLst wA) := ⟨pe_lst h.pa, fun EX G H σ ρ Φ R f Q q =>
  h.so EX G H σ ρ _ R f _ fun vs G1 H1 rs S1 rvs f1 => by
    obtain ⟨ds, e, hl, f2⟩ := datsW_iff f1
    have dd := dats_dd rvs e
    refine ⟨le_line (by rw [dpLen dd]; exact hl), fun p hp => ?_⟩
    have R1 := R.toGd.step S1
    have S2 := R1.newOut (p := p) (o := .lst vs) hp
    exact q p vs _ _ _ (S1.trans S2) (S1.fresh hp) (R1.free hp) (R1.notBox hp) upd_same dd f2⟩
/-- a new list that stands still from now on -/
def wFz (w : WD) : WE := fun ρ Φ => w ρ fun ds => Φ (.d (.list ds))
theorem so_fz {K : PySem.W.Frag} {w : WD} (h : SoL K t w) : SoE K t (wFz w) := fun EX G H σ ρ Φ R f Q q =>
  h EX G H σ ρ _ R f _ fun a vs G1 H1 ds S1 ha ga ba h1 dd f1 => by
    have R1 := R.toGd.step S1
    have R2 := R1.still h1 ba ga
    refine q (.ref a) (upd G1 a (.lst vs)) H1 (.d (.list ds)) ⟨S1.st, S1.bx, S1.gg.trans (same_upd_new ga), R2.sub, fun b o e => ?_, R2.ex⟩ (Dd.lst upd_same (dpsMono (same_upd_new ga) _ _ dd)) f1
    by_cases eb : b = a
    · subst eb; exact .inr ha
    · rw [upd_ne eb] at e; exact S1.gn b o e
theorem me_fz {w : WD} (h : ML X e t w) : ME X e t (wFz w) := ⟨h.pe, so_fz h.so⟩

/-! ### operations by values -/
abbrev F2 := W → W → (W → Prop) → Prop
def OpS (K : PySem.W.Frag) (r : R2) (f : F2) : Prop := ∀ (EX : Ext) (G H : Hp) (x y : V) (p q : W) (Φ : W → Prop), Gd K EX G H → Rw K EX G x p → Rw K EX G y q → f p q Φ →
  ∀ Q : VK, (∀ v G' H' c, Step EX G H G' H' → Rw K EX G' v c → Φ c → Q v H') → r x y H Q
def wOp (f : F2) (wa wb : WE) : WE := fun ρ Φ => wa ρ fun x => wb ρ fun y => f x y Φ
theorem so_op {K : PySem.W.Frag} {r : R2} {f : F2} (hf : OpS K r f) (ha : SoE K ta wa) (hb : SoE K tb wb) : SoE K (tOp r ta tb) (wOp f wa wb) := fun EX G H σ ρ Φ R f Q q =>
  ha EX G H σ ρ _ R f _ fun v G1 H1 x S1 rv f1 => hb EX G1 H1 σ ρ _ (R.step S1) f1 _ fun u G2 H2 y S2 ru f2 =>
    hf EX G2 H2 v u x y Φ ((R.step S1).step S2).toGd (rwMono S2.gg (fun _ _ h => h) rv) ru f2 Q fun z G3 H3 c S3 rc f3 => q z G3 H3 c ((S1.trans S2).trans S3) rc f3
/-- one rule a operator: its machine's rule, what it says -/
structure OpM (X : Cx) (f : Value → Value → Sem Value) (r : R2) (g : F2) : Prop where
  op : OpR X f r
  so : OpS X.K r g
theorem me_op {op : Operator} {r : R2} {f : F2} (h : OpM X (binaryOp op) r f) (ha : ME X a ta wa) (hb : ME X b tb wb) : ME X (.BinOp a op b pos) (tOp r ta tb) (wOp f wa wb) := ⟨pe_op h.op ha.pe hb.pe, so_op h.so ha.so hb.so⟩
theorem me_cmp {op : CmpOp} {r : R2} {f : F2} (h : OpM X (compareOp op) r f) (ha : ME X a ta wa) (hb : ME X b tb wb) (hm : behindInMarks op b = false := by first | exact nobehind _ (by decide) (by decide) | rfl) :
    ME X (.Compare a [op] [b] pos) (tOp r ta tb) (wOp f wa wb) := ⟨pe_cmpR h.op ha.pe hb.pe hm, so_op h.so ha.so hb.so⟩
/-- a value that is a bool, as a test -/
def wB (w : WE) : WT := fun ρ Φ => w ρ fun r => match r with
  | .d (.bool k) => Φ k
  | _ => False
theorem boolOf {r : W} {Φ : Bool → Prop} (h : match r with | .d (.bool k) => Φ k | _ => False) : ∃ k, r = .d (.bool k) ∧ Φ k := by
  split at h
  · exact ⟨_, rfl, h⟩
  · exact h.elim
theorem rwBool {K : PySem.W.Frag} {EX : Ext} {G : Hp} {v : V} {k : Bool} (h : Rw K EX G v (.d (.bool k))) : v = .bl k := by
  have h' : Dd K G v (.bool k) := h
  cases h'
  rfl
theorem so_B {K : PySem.W.Frag} (h : SoE K t w) : SoT K (fun σ H Q => t σ H fun x H1 => ∃ c, x = .bl c ∧ Q c H1) (wB w) := fun EX G H σ ρ Φ R f Q q =>
  h EX G H σ ρ _ R f _ fun v G1 H1 r S1 rv f1 => by
    obtain ⟨k, e, f2⟩ := boolOf f1
    subst e
    exact ⟨k, rwBool rv, q k G1 H1 S1 f2⟩
theorem mt_cmp {op : CmpOp} {r : R2} {f : F2} (h : OpM X (compareOp op) r f) (ha : ME X a ta wa) (hb : ME X b tb wb) (hm : behindInMarks op b = false := by first | exact nobehind _ (by decide) (by decide) | rfl) :
    MT X (.Compare a [op] [b] pos) (tTest (tOp r ta tb)) (wB (wOp f wa wb)) := ⟨pt_cmpR h.op ha.pe hb.pe hm, so_B (so_op h.so ha.so hb.so)⟩
theorem mt_val (h : ME X e t w) (he : ∀ whole, isTrue e X.env whole = (do let v ← whole; standAt e.pos; holding [v] (truthy v)) := by intro _; rfl) : MT X e (tB t) (wB w) := ⟨pt_val h.pe he, so_B h.so⟩
def wAnd (u v : WT) : WT := fun ρ Φ => u ρ fun k => if k = true then v ρ Φ else Φ false
def wOr (u v : WT) : WT := fun ρ Φ => u ρ fun k => if k = true then Φ true else v ρ Φ
def wNot (u : WT) : WT := fun ρ Φ => u ρ fun k => Φ (!k)
variable {tt tu : TT} {wt wu : WT} {rest : List Expr}
theorem so_and {K : PySem.W.Frag} (h : SoT K tt wt) (h2 : SoT K tu wu) : SoT K (tAnd tt tu) (wAnd wt wu) := fun EX G H σ ρ Φ R f Q q =>
  h EX G H σ ρ _ R f _ fun k G1 H1 S1 f1 => by
    cases k with
    | true =>
      simp only [if_true] at f1 ⊢
      exact h2 EX G1 H1 σ ρ _ (R.step S1) f1 _ fun j G2 H2 S2 f2 => q j G2 H2 (S1.trans S2) f2
    | false =>
      simp only [Bool.false_eq_true, if_false] at f1 ⊢
      exact q false G1 H1 S1 f1
theorem so_or {K : PySem.W.Frag} (h : SoT K tt wt) (h2 : SoT K tu wu) : SoT K (tOr tt tu) (wOr wt wu) := fun EX G H σ ρ Φ R f Q q =>
  h EX G H σ ρ _ R f _ fun k G1 H1 S1 f1 => by
    cases k with
    | true =>
      simp only [if_true] at f1 ⊢
      exact q true G1 H1 S1 f1
    | false =>
      simp only [Bool.false_eq_true, if_false] at f1 ⊢
      exact h2 EX G1 H1 σ ρ _ (R.step S1) f1 _ fun j G2 H2 S2 f2 => q j G2 H2 (S1.trans S2) f2
theorem mt_w (h : MW X e tt wt) : MT X e tt wt := ⟨h.pw.pt, h.so⟩
theorem mw_and1 (h : MT X a tt wt) : MW X (.BoolOp .And [a] pos) tt wt := ⟨pw_and1 h.pt, h.so⟩
theorem mw_or1 (h : MT X a tt wt) : MW X (.BoolOp .Or [a] pos) tt wt := ⟨pw_or1 h.pt, h.so⟩
theorem mw_and (h : MT X a tt wt) (h2 : MW X (.BoolOp .And (b :: rest) pos) tu wu) : MW X (.BoolOp .And (a :: b :: rest) pos) (tAnd tt tu) (wAnd wt wu) := ⟨pw_and h.pt h2.pw, so_and h.so h2.so⟩
theorem mw_or (h : MT X a tt wt) (h2 : MW X (.BoolOp .Or (b :: rest) pos) tu wu) : MW X (.BoolOp .Or (a :: b :: rest) pos) (tOr tt tu) (wOr wt wu) := ⟨pw_or h.pt h2.pw, so_or h.so h2.so⟩
theorem mt_not (h : MT X a tt wt) : MT X (.UnaryOp .Not a pos) (tNot tt) (wNot wt) := ⟨pt_not h.pt, fun EX G H σ ρ Φ R f Q q => h.so EX G H σ ρ _ R f _ fun k G1 H1 S1 f1 => q (!k) G1 H1 S1 f1⟩
/-- and, or, not as values; all but the last are bools -/
def wAndV (u v : WE) : WE := fun ρ Φ => wB u ρ fun k => if k = true then v ρ Φ else Φ (.d (.bool false))
def wOrV (u v : WE) : WE := fun ρ Φ => wB u ρ fun k => if k = true then Φ (.d (.bool true)) else v ρ Φ
def wNotV (u : WE) : WE := fun ρ Φ => wB u ρ fun k => Φ (.d (.bool (!k)))
theorem me_one {op : BoolOp} (h : ME X a t w) : ME X (.BoolOp op [a] pos) t w := ⟨pe_one h.pe, h.so⟩
theorem me_and (h : ME X a ta wa) (h2 : ME X (.BoolOp .And (b :: rest) pos) tb wb) : ME X (.BoolOp .And (a :: b :: rest) pos) (tAndV ta tb) (wAndV wa wb) := ⟨pe_and h.pe h2.pe, fun EX G H σ ρ Φ R f Q q =>
  so_B h.so EX G H σ ρ _ R f _ fun k G1 H1 S1 f1 => by
    cases k with
    | true =>
      simp only [if_true] at f1 ⊢
      exact h2.so EX G1 H1 σ ρ _ (R.step S1) f1 _ fun v G2 H2 r S2 rv f2 => q v G2 H2 r (S1.trans S2) rv f2
    | false =>
      simp only [Bool.false_eq_true, if_false] at f1 ⊢
      exact q _ G1 H1 (.d (.bool false)) S1 (Dd.bl false) f1⟩
theorem me_or (h : ME X a ta wa) (h2 : ME X (.BoolOp .Or (b :: rest) pos) tb wb) : ME X (.BoolOp .Or (a :: b :: rest) pos) (tOrV ta tb) (wOrV wa wb) := ⟨pe_or h.pe h2.pe, fun EX G H σ ρ Φ R f Q q =>
  so_B h.so EX G H σ ρ _ R f _ fun k G1 H1 S1 f1 => by
    cases k with
    | true =>
      simp only [if_true] at f1 ⊢
      exact q _ G1 H1 (.d (.bool true)) S1 (Dd.bl true) f1
    | false =>
      simp only [Bool.false_eq_true, if_false] at f1 ⊢
      exact h2.so EX G1 H1 σ ρ _ (R.step S1) f1 _ fun v G2 H2 r S2 rv f2 => q v G2 H2 r (S1.trans S2) rv f2⟩
theorem me_not (h : ME X a ta wa) : ME X (.UnaryOp .Not a pos) (tNotV ta) (wNotV wa) := ⟨pe_not h.pe, fun EX G H σ ρ Φ R f Q q =>
  so_B h.so EX G H σ ρ _ R f _ fun k G1 H1 S1 f1 => q _ G1 H1 (.d (.bool (!k))) S1 (Dd.bl (!k)) f1⟩
def wIf (u : WT) (v v' : WE) : WE := fun ρ Φ => u ρ fun k => if k = true then v ρ Φ else v' ρ Φ
theorem me_if (h : MT X c tt wt) (h1 : ME X a ta wa) (h2 : ME X b tb wb) : ME X (.IfExp c a b pos) (tIf tt ta tb) (wIf wt wa wb) := ⟨pe_ifExp h.pt h1.pe h2.pe, fun EX G H σ ρ Φ R f Q q =>
  h.so EX G H σ ρ _ R f _ fun k G1 H1 S1 f1 => by
    cases k with
    | true =>
      simp only [if_true] at f1 ⊢
      exact h1.so EX G1 H1 σ ρ _ (R.step S1) f1 _ fun v G2 H2 r S2 rv f2 => q v G2 H2 r (S1.trans S2) rv f2
    | false =>
      simp only [Bool.false_eq_true, if_false] at f1 ⊢
      exact h2.so EX G1 H1 σ ρ _ (R.step S1) f1 _ fun v G2 H2 r S2 rv f2 => q v G2 H2 r (S1.trans S2) rv f2⟩
end
end Pd
end

section
set_option Elab.async false
set_option linter.all false
set_option maxRecDepth 100000
set_option autoImplicit false
set_option maxHeartbeats 1000000
/-! Pd, operators -/
namespace Pd
open PySem PySem.Spec PyProof.Rows L2

theorem sok_app {x y : Str} (h : SOk x) (k : SOk y) (l : x.length + y.length ≤ sizeLine) : SOk (x ++ y) := by
  refine ⟨?_, ?_⟩
  · have h1 := h.ok
    have h2 := k.ok
    unfold PyData.strOk at h1 h2 ⊢
    show (x.cps ++ y.cps).all _ = true
    rw [Array.all_append, h1, h2]
    rfl
  · show (x.cps ++ y.cps).size ≤ _
    rw [Array.size_append]
    exact l
theorem sok_of_list {x : Str} (h : SOk x) {l : List Nat} (hl : l.length ≤ x.length) (hm : ∀ c ∈ l, c ∈ x.cps.toList) : SOk ⟨l.toArray⟩ := by
  refine ⟨?_, ?_⟩
  · have h1 := h.ok
    unfold PyData.strOk at h1 ⊢
    rw [← Array.all_toList, List.all_eq_true] at h1 ⊢
    intro c hc
    exact h1 c (hm c (by simpa using hc))
  · show l.toArray.size ≤ _
    rw [List.size_toArray]
    exact Nat.le_trans hl h.len
theorem sok_cut {x : Str} (h : SOk x) (lo hi : Option Int) : SOk (cutS x lo hi) := by
  refine sok_of_list h ?_ fun c hc => ?_
  · have := cutS_length x lo hi
    exact (by simpa [cutS, Str.length] using this)
  · exact List.mem_of_mem_drop (List.mem_of_mem_take hc)
theorem sok_one {x : Str} (h : SOk x) {c : Nat} (hc : c ∈ x.cps.toList) : SOk ⟨#[c]⟩ := by
  have hl : 1 ≤ x.length := by
    show 1 ≤ x.cps.size
    have : x.cps.toList ≠ [] := fun e => by rw [e] at hc; cases hc
    have := List.length_pos_iff.mpr this
    rw [Array.length_toList] at this
    exact this
  exact sok_of_list (l := [c]) h (by simpa using hl) (fun d hd => by
    have : d = c := by simpa using hd
    rw [this]; exact hc)

section
variable {K : PySem.W.Frag} {EX : Ext} {G H : Hp} {v : V}
theorem rwInt {i : Int} (h : Rw K EX G v (.d (.int i))) : v = .int i := by
  have h' : Dd K G v (.int i) := h
  cases h'
  rfl
theorem rwNon (h : Rw K EX G v (.d .none)) : v = .non := by
  have h' : Dd K G v .none := h
  cases h'
  rfl
theorem rwStr {x : Str} (h : Rw K EX G v (.d (.str x))) : v = .str x ∧ SOk x := by
  have h' : Dd K G v (.str x) := h
  cases h' with
  | str _ q => exact ⟨rfl, q⟩
theorem rwTup {ds : List D} (h : Rw K EX G v (.d (.tuple ds))) : ∃ a xs, v = .ref a ∧ G a = some (.tup xs) ∧ DdAll K G xs ds := by
  have h' : Dd K G v (.tuple ds) := h
  cases h' with
  | tup g q => exact ⟨_, _, rfl, g, q⟩
theorem rwLst {ds : List D} (h : Rw K EX G v (.d (.list ds))) : ∃ a xs, v = .ref a ∧ G a = some (.lst xs) ∧ DdAll K G xs ds := by
  have h' : Dd K G v (.list ds) := h
  cases h' with
  | lst g q => exact ⟨_, _, rfl, g, q⟩
theorem rwD {d : D} (h : Rw K EX G v (.d d)) : Dd K G v d := h
end

/-! ### ints -/
def oI (C : Int → Int → Prop) (g : Int → Int → Int) : F2 := fun p q Φ => match p, q with
  | .d (.int i), .d (.int j) => C i j ∧ Φ (.d (.int (g i j)))
  | _, _ => False
def oI0 (g : Int → Int → Int) : F2 := fun p q Φ => match p, q with
  | .d (.int i), .d (.int j) => Φ (.d (.int (g i j)))
  | _, _ => False
theorem os_I {K : PySem.W.Frag} {C : Int → Int → Prop} {g : Int → Int → Int} : OpS K (rI C fun i j => .int (g i j)) (oI C g) := fun EX G H x y p q Φ R hp hq f Q k => by
  unfold oI at f
  split at f
  · obtain ⟨hc, f⟩ := f
    exact ⟨_, _, rwInt hp, rwInt hq, hc, k _ G H (.d (.int _)) R.refl (Dd.int _) f⟩
  · exact f.elim
theorem os_I0 {K : PySem.W.Frag} {g : Int → Int → Int} : OpS K (rI0 fun i j => .int (g i j)) (oI0 g) := fun EX G H x y p q Φ R hp hq f Q k => by
  unfold oI0 at f
  split at f
  · exact ⟨_, _, rwInt hp, rwInt hq, k _ G H (.d (.int _)) R.refl (Dd.int _) f⟩
  · exact f.elim
/-! ### + -/
def oAdd : F2 := fun p q Φ => match p, q with
  | .d (.int i), .d (.int j) => Φ (.d (.int (i + j)))
  | .d (.str x), .d (.str y) => x.length + y.length ≤ sizeLine ∧ Φ (.d (.str (x ++ y)))
  | .d (.tuple x), .d (.tuple y) => x.length + y.length ≤ sizeLine ∧ Φ (.d (.tuple (x ++ y)))
  | .d (.list x), .d (.list y) => x.length + y.length ≤ sizeLine ∧ Φ (.d (.list (x ++ y)))
  | _, _ => False
def rAddM (K : PySem.W.Frag) : R2 := fun x y H Q => (rI0 (fun i j => .int (i + j)) x y H Q) ∨ (∃ i j, x = .str i ∧ y = .str j ∧ i.length + j.length ≤ sizeLine ∧ Q (.str (i ++ j)) H) ∨ (rCatA K x y H Q) ∨ rCat x y H Q
section
variable {X : Cx}
theorem om_add : OpM X (binaryOp .Add) (rAddM X.K) oAdd := by
  refine ⟨op_add.or (op_add_str.or (op_catA.or op_cat)), fun EX G H x y p q Φ R hp hq f Q k => ?_⟩
  unfold oAdd at f
  split at f
  · exact .inl ⟨_, _, rwInt hp, rwInt hq, k _ G H (.d (.int _)) R.refl (Dd.int _) f⟩
  · obtain ⟨e1, k1⟩ := rwStr hp
    obtain ⟨e2, k2⟩ := rwStr hq
    exact .inr (.inl ⟨_, _, e1, e2, f.1, k _ G H (.d (.str _)) R.refl (Dd.str _ (sok_app k1 k2 f.1)) f.2⟩)
  · obtain ⟨a, xs, e1, g1, d1⟩ := rwTup hp
    obtain ⟨b, ys, e2, g2, d2⟩ := rwTup hq
    refine .inr (.inr (.inl ⟨a, b, xs, ys, e1, e2, .inl (.inl (R.sub _ _ g1)), .inl (.inl (R.sub _ _ g2)), by rw [dpLen d1, dpLen d2]; exact f.1, fun h => ?_, fun h h' => ?_, fun h h' r hr => ?_⟩))
    · subst h
      cases d1
      exact k _ G H _ R.refl (by rw [← e2]; exact hq) f.2
    · subst h'
      cases d2
      rw [List.append_nil] at f
      exact k _ G H _ R.refl (by rw [← e1]; exact hp) f.2
    · have S := R.new (p := r) (o := .tup (xs ++ ys)) hr
      exact k _ _ _ (.d (.tuple _)) S (Dd.tup upd_same (dpApp (dpsMono S.gg _ _ d1) (dpsMono S.gg _ _ d2))) f.2
  · obtain ⟨a, xs, e1, g1, d1⟩ := rwLst hp
    obtain ⟨b, ys, e2, g2, d2⟩ := rwLst hq
    refine .inr (.inr (.inr ⟨a, b, xs, ys, e1, e2, R.sub _ _ g1, R.sub _ _ g2, by rw [dpLen d1, dpLen d2]; exact f.1, fun r hr => ?_⟩))
    have S := R.new (p := r) (o := .lst (xs ++ ys)) hr
    exact k _ _ _ (.d (.list _)) S (Dd.lst upd_same (dpApp (dpsMono S.gg _ _ d1) (dpsMono S.gg _ _ d2))) f.2
  · exact f.elim
theorem om_sub : OpM X (binaryOp .Sub) (rI0 fun i j => .int (i - j)) (oI0 fun i j => i - j) := ⟨op_sub, os_I0⟩
/-- times: ints; a list so many times -/
def oMul : F2 := fun p q Φ => match p, q with
  | .d (.int i), .d (.int j) => CMul i j ∧ Φ (.d (.int (i * j)))
  | .d (.list x), .d (.int j) => (-(2 ^ 63) ≤ j ∧ j < 2 ^ 63 ∧ x.length * j.toNat ≤ sizeLine) ∧ Φ (.d (.list (List.replicate j.toNat x).flatten))
  | _, _ => False
theorem dpRep {K : PySem.W.Frag} {G : Hp} {vs : List V} {ds : List D} (h : DdAll K G vs ds) : ∀ n : Nat, DdAll K G (List.replicate n vs).flatten (List.replicate n ds).flatten
  | 0 => .nil
  | n + 1 => by
    rw [List.replicate_succ, List.replicate_succ, List.flatten_cons, List.flatten_cons]
    exact dpApp h (dpRep h n)
theorem om_mul : OpM X (binaryOp .Mult) (fun x y H Q => rI CMul (fun i j => .int (i * j)) x y H Q ∨ rRep x y H Q) oMul := by
  refine ⟨op_mul.or op_rep, fun EX G H x y p q Φ R hp hq f Q k => ?_⟩
  unfold oMul at f
  split at f
  · exact .inl ⟨_, _, rwInt hp, rwInt hq, f.1, k _ G H (.d (.int _)) R.refl (Dd.int _) f.2⟩
  · rename_i xl j
    obtain ⟨a, xs, e1, g1, d1⟩ := rwLst hp
    refine .inr ⟨a, j, xs, e1, rwInt hq, R.sub _ _ g1, f.1.1, f.1.2.1, by rw [dpLen d1]; exact f.1.2.2, fun r hr => ?_⟩
    have S := R.new (p := r) (o := .lst (List.replicate j.toNat xs).flatten) hr
    exact k _ _ _ (.d (.list _)) S (Dd.lst upd_same (dpRep (dpsMono S.gg _ _ d1) _)) f.2
  · exact f.elim
theorem om_mod : OpM X (binaryOp .Mod) (rI (fun _ j => 0 < j) fun i j => .int (i % j)) (oI (fun _ j => 0 < j) fun i j => i % j) := ⟨op_mod, os_I⟩
theorem om_div : OpM X (binaryOp .FloorDiv) (rI CDiv fun i j => .int (i / j)) (oI CDiv fun i j => i / j) := ⟨op_fdiv, os_I⟩
theorem om_pow : OpM X (binaryOp .Pow) (rI CPow fun i j => .int (i ^ j.toNat)) (oI CPow fun i j => i ^ j.toNat) := ⟨op_pow, os_I⟩

/-! ### comparisons -/
def oLt (g : Int → Int → Bool) (k : List Nat → List Nat → Bool) : F2 := fun p q Φ => match p, q with
  | .d (.int i), .d (.int j) => Φ (.d (.bool (g i j)))
  | .d (.str x), .d (.str y) => Φ (.d (.bool (k x.cps.toList y.cps.toList)))
  | _, _ => False
def rLtM (g : Int → Int → Bool) (k : List Nat → List Nat → Bool) : R2 := fun x y H Q => rI0 (fun i j => .bl (g i j)) x y H Q ∨ ∃ i j, x = .str i ∧ y = .str j ∧ Q (.bl (k i.cps.toList j.cps.toList)) H
theorem os_lt {K : PySem.W.Frag} {g : Int → Int → Bool} {k : List Nat → List Nat → Bool} : OpS K (rLtM g k) (oLt g k) := fun EX G H x y p q Φ R hp hq f Q q0 => by
  unfold oLt at f
  split at f
  · exact .inl ⟨_, _, rwInt hp, rwInt hq, q0 _ G H (.d (.bool _)) R.refl (Dd.bl _) f⟩
  · exact .inr ⟨_, _, (rwStr hp).1, (rwStr hq).1, q0 _ G H (.d (.bool _)) R.refl (Dd.bl _) f⟩
  · exact f.elim
abbrev ltL (a b : List Nat) : Bool := decide (a < b)
abbrev gtL (a b : List Nat) : Bool := decide (b < a)
abbrev leL (a b : List Nat) : Bool := !decide (b < a)
theorem om_lt : OpM X (compareOp .Lt) (rLtM (fun i j => decide (i < j)) ltL) (oLt (fun i j => decide (i < j)) ltL) := ⟨op_lt.or op_lt_str, os_lt⟩
theorem om_gt : OpM X (compareOp .Gt) (rLtM (fun i j => decide (j < i)) gtL) (oLt (fun i j => decide (j < i)) gtL) := ⟨op_gt.or op_gt_str, os_lt⟩
theorem om_le : OpM X (compareOp .LtE) (rLtM (fun i j => decide (i ≤ j)) leL) (oLt (fun i j => decide (i ≤ j)) leL) := ⟨op_le.or op_le_str, os_lt⟩
theorem om_ge : OpM X (compareOp .GtE) (rI0 fun i j => .bl (decide (j ≤ i))) (fun p q Φ => match p, q with | .d (.int i), .d (.int j) => Φ (.d (.bool (decide (j ≤ i)))) | _, _ => False) :=
  ⟨op_ge, fun EX G H x y p q Φ R hp hq f Q k => by
    split at f
    · exact ⟨_, _, rwInt hp, rwInt hq, k _ G H (.d (.bool _)) R.refl (Dd.bl _) f⟩
    · exact f.elim⟩
/-- == of data -/
def oEq (neg : Bool) : F2 := fun p q Φ => match p, q with
  | .d x, .d y => min x.depth y.depth ≤ 64 ∧ Φ (.d (.bool (neg != PyData.eqv x y)))
  | _, _ => False
def rEqM (K : PySem.W.Frag) (neg : Bool) : R2 := fun x y H Q => ∃ d e, Dp K H x d ∧ Dp K H y e ∧ d.canLay0 = true ∧ e.canLay0 = true ∧ min d.depth e.depth ≤ 64 ∧ Q (.bl (neg != PyData.eqv d e)) H
theorem op_eqM (hu : X.A.units + 64 < cLine) : OpR X (compareOp .Eq) (rEqM X.K false) := by
  intro pins s σ H x y v u Q I rx ry h
  obtain ⟨d, e, hd, he, sd, se, m, q⟩ := h
  obtain ⟨as, r1⟩ := Dp.reads I d x v hd rx
  obtain ⟨bs, r2⟩ := Dp.reads I e y u he ry
  refine SeqAt.compareEq_reads r1 r2 sd se (by omega) ⟨.bl _, H, I, rfl, ?_⟩
  simpa using q
theorem op_neM (hu : X.A.units + 64 < cLine) : OpR X (compareOp .NotEq) (rEqM X.K true) := by
  intro pins s σ H x y v u Q I rx ry h
  obtain ⟨d, e, hd, he, sd, se, m, q⟩ := h
  obtain ⟨as, r1⟩ := Dp.reads I d x v hd rx
  obtain ⟨bs, r2⟩ := Dp.reads I e y u he ry
  refine SeqAt.compareNe_reads r1 r2 sd se (by omega) ⟨.bl _, H, I, rfl, ?_⟩
  simpa using q
theorem os_eq {K : PySem.W.Frag} {neg : Bool} : OpS K (rEqM K neg) (oEq neg) := fun EX G H x y p q Φ R hp hq f Q k => by
  unfold oEq at f
  split at f
  · exact ⟨_, _, ddDp _ _ (dpMono R.sub _ _ hp), ddDp _ _ (dpMono R.sub _ _ hq), ddLay _ _ hp, ddLay _ _ hq, f.1, k _ G H (.d (.bool _)) R.refl (Dd.bl _) f.2⟩
  · exact f.elim
theorem om_eq {k : Nat} (hr : Room k X.A) : OpM X (compareOp .Eq) (rEqM X.K false) (oEq false) := ⟨op_eqM hr.units, os_eq⟩
theorem om_ne {k : Nat} (hr : Room k X.A) : OpM X (compareOp .NotEq) (rEqM X.K true) (oEq true) := ⟨op_neM hr.units, os_eq⟩
/-- the key of a dict -/
def keyD : D → Option Key
  | .int i => some (.inl i)
  | .str x => some (.inr x)
  | _ => none
def keysD : List D → Option (List Key)
  | [] => some []
  | x :: r => match keyD x, keysD r with
    | some k, some ks => some (k :: ks)
    | _, _ => none
theorem keyD_v {K : PySem.W.Frag} {G : Hp} {v : V} {d : D} {k : Key} (h : Dd K G v d) (e : keyD d = some k) : v = kV k := by
  cases h <;> cases e <;> rfl
theorem keysD_v {K : PySem.W.Frag} {G : Hp} : ∀ {vs : List V} {ds : List D} {ks : List Key}, DdAll K G vs ds → keysD ds = some ks → vs = ks.map kV
  | _, [], ks, h, e => by
    cases h
    cases e
    rfl
  | _, d :: ds, ks, h, e => by
    cases h with
    | cons h1 h2 =>
      unfold keysD at e
      split at e
      · cases e
        rw [List.map_cons, keyD_v h1 (by assumption), keysD_v h2 (by assumption)]
      · cases e
section
variable {κ : Type} [DecidableEq κ]
def valD (kvs : List (κ × D)) (k : κ) : Option D := (kvs.find? fun kv => decide (kv.1 = k)).map (·.2)
def putD' (kvs : List (κ × D)) (k : κ) (v : D) : List (κ × D) := if (kvs.any fun kv => decide (kv.1 = k)) = true then kvs.map fun kv => if kv.1 = k then (kv.1, v) else kv else kvs ++ [(k, v)]
def dropD (kvs : List (κ × D)) (k : κ) : List (κ × D) := kvs.filter fun kv => decide (kv.1 ≠ k)
theorem kv_val {K : PySem.W.Frag} {G : Hp} (k : κ) : ∀ {vs : List (κ × V)} {kvs : List (κ × D)}, KvD K G vs kvs → (valV vs k = none ∧ valD kvs k = none) ∨ ∃ v d, valV vs k = some v ∧ valD kvs k = some d ∧ Dd K G v d
  | _, _, .nil => .inl ⟨rfl, rfl⟩
  | _, _, @Paired.cons _ _ _ p q vs kvs h t => by
    by_cases e : q.1 = k
    · refine .inr ⟨p.2, q.2, ?_, ?_, h.2⟩
      · simp [valV, h.1, e]
      · simp [valD, e]
    · have e' : ¬ p.1 = k := by rw [h.1]; exact e
      rcases kv_val k t with ⟨q1, q2⟩ | ⟨v, d, q1, q2, q3⟩
      · exact .inl ⟨by simpa [valV, e'] using q1, by simpa [valD, e] using q2⟩
      · exact .inr ⟨v, d, by simpa [valV, e'] using q1, by simpa [valD, e] using q2, q3⟩
theorem kv_len {K : PySem.W.Frag} {G : Hp} {vs : List (κ × V)} {kvs : List (κ × D)} (h : KvD K G vs kvs) : vs.length = kvs.length := Paired.length h
theorem kv_any {K : PySem.W.Frag} {G : Hp} (k : κ) : ∀ {vs : List (κ × V)} {kvs : List (κ × D)}, KvD K G vs kvs → (vs.any fun kv => decide (kv.1 = k)) = kvs.any fun kv => decide (kv.1 = k)
  | _, _, .nil => rfl
  | _, _, .cons h t => by rw [List.any_cons, List.any_cons, h.1, kv_any k t]
theorem kv_app {K : PySem.W.Frag} {G : Hp} {k : κ} {v : V} {d : D} (hd : Dd K G v d) : ∀ {vs : List (κ × V)} {kvs : List (κ × D)}, KvD K G vs kvs → KvD K G (vs ++ [(k, v)]) (kvs ++ [(k, d)])
  | _, _, .nil => .cons ⟨rfl, hd⟩ .nil
  | _, _, .cons h t => .cons h (kv_app hd t)
theorem kv_repl {K : PySem.W.Frag} {G : Hp} {k : κ} {v : V} {d : D} (hd : Dd K G v d) : ∀ {vs : List (κ × V)} {kvs : List (κ × D)}, KvD K G vs kvs →
    KvD K G (vs.map fun kv => if kv.1 = k then (kv.1, v) else kv) (kvs.map fun kv => if kv.1 = k then (kv.1, d) else kv)
  | _, _, .nil => .nil
  | _, _, @Paired.cons _ _ _ p q vs kvs h t => by
    refine .cons ?_ (kv_repl hd t)
    dsimp only
    by_cases e : q.1 = k
    · rw [if_pos (show p.1 = k by rw [h.1]; exact e), if_pos e]
      exact ⟨h.1, hd⟩
    · rw [if_neg (show ¬ p.1 = k by rw [h.1]; exact e), if_neg e]
      exact h
theorem kv_put {K : PySem.W.Frag} {G : Hp} {k : κ} {v : V} {d : D} {vs : List (κ × V)} {kvs : List (κ × D)} (h : KvD K G vs kvs) (hd : Dd K G v d) : KvD K G (putK vs k v) (putD' kvs k d) := by
  unfold putK putD'
  rw [kv_any k h]
  split
  · exact kv_repl hd h
  · exact kv_app hd h
theorem kv_drop {K : PySem.W.Frag} {G : Hp} (k : κ) : ∀ {vs : List (κ × V)} {kvs : List (κ × D)}, KvD K G vs kvs → KvD K G (dropK vs k) (dropD kvs k)
  | _, _, .nil => .nil
  | _, _, @Paired.cons _ _ _ p q vs kvs h t => by
    unfold dropK dropD
    rw [List.filter_cons, List.filter_cons, h.1]
    split
    · exact .cons h (kv_drop k t)
    · exact kv_drop k t
end
/-- in -/
def oIn (neg : Bool) : F2 := fun p q Φ => match p, q with
  | .d (.str x), .d (.str y) => Φ (.d (.bool (neg != (!(Builtin.Str.occurrences y x 0 y.length 1).isEmpty))))
  | .d x, .d (.list ys) => min (PyData.depthAll ys) x.depth ≤ 63 ∧ Φ (.d (.bool (neg != ys.any fun y => PyData.eqv y x)))
  | .d x, .d (.tuple ys) => min (PyData.depthAll ys) x.depth ≤ 63 ∧ Φ (.d (.bool (neg != ys.any fun y => PyData.eqv y x)))
  | .d x, .dk kvs => match keyD x with
    | some k => Φ (.d (.bool (neg != (valD kvs k).isSome)))
    | none => False
  | .d (.tuple x), .dt kvs => match keysD x with
    | some k => Φ (.d (.bool (neg != (valD kvs k).isSome)))
    | none => False
  | _, _ => False
def rInM (K : PySem.W.Frag) (neg : Bool) : R2 := fun x y H Q =>
  (∃ i j, x = .str i ∧ y = .str j ∧ Q (.bl (neg != (!(Builtin.Str.occurrences j i 0 j.length 1).isEmpty))) H) ∨
  (∃ d ds, Dp K H x d ∧ (Dp K H y (.list ds) ∨ Dp K H y (.tuple ds)) ∧ d.canLay0 = true ∧ PyData.canLayAll0 ds = true ∧ min (PyData.depthAll ds) d.depth ≤ 63 ∧ Q (.bl (neg != ds.any fun z => PyData.eqv z d)) H) ∨
  (∃ a o, y = .ref a ∧ DGet H a x o ∧ Q (.bl (neg != o.isSome)) H)
theorem op_inM (hu : X.A.units + 64 < cLine) : OpR X (compareOp .In) (rInM X.K false) := by
  intro pins s σ H x y v u Q I rx ry h
  rcases h with ⟨i, j, e1, e2, q⟩ | ⟨d, ds, hd, he, sd, se, m, q⟩ | ⟨a, o, e, g, q⟩
  · exact op_in_str pins s σ H x y v u Q I rx ry ⟨i, j, e1, e2, by simpa using q⟩
  · obtain ⟨as, r1⟩ := Dp.reads I d x v hd rx
    rcases he with he | he
    · obtain ⟨bs, r2⟩ := Dp.reads I (.list ds) y u he ry
      exact SeqAt.in_list_reads r2 r1 se sd (by omega) ⟨.bl _, H, I, rfl, by simpa using q⟩
    · obtain ⟨bs, r2⟩ := Dp.reads I (.tuple ds) y u he ry
      exact SeqAt.in_tuple_reads r2 r1 se sd (by omega) ⟨.bl _, H, I, rfl, by simpa using q⟩
  · subst e
    cases ry
    exact d_in (by omega) I g rx fun s' I' => ⟨.bl _, H, I', rfl, by simpa using q⟩
theorem op_notInM (hu : X.A.units + 64 < cLine) : OpR X (compareOp .NotIn) (rInM X.K true) := by
  intro pins s σ H x y v u Q I rx ry h
  rcases h with ⟨i, j, e1, e2, q⟩ | ⟨d, ds, hd, he, sd, se, m, q⟩ | ⟨a, o, e, g, q⟩
  · exact L2.op_notin_str pins s σ H x y v u Q I rx ry ⟨i, j, e1, e2, by simpa using q⟩
  · obtain ⟨as, r1⟩ := Dp.reads I d x v hd rx
    rcases he with he | he
    · obtain ⟨bs, r2⟩ := Dp.reads I (.list ds) y u he ry
      exact SeqAt.notIn_list_reads r2 r1 se sd (by omega) ⟨.bl _, H, I, rfl, by simpa using q⟩
    · obtain ⟨bs, r2⟩ := Dp.reads I (.tuple ds) y u he ry
      exact SeqAt.notIn_tuple_reads r2 r1 se sd (by omega) ⟨.bl _, H, I, rfl, by simpa using q⟩
  · subst e
    cases ry
    exact d_notIn (by omega) I g rx fun s' I' => ⟨.bl _, H, I', rfl, by simpa using q⟩
theorem os_in {K : PySem.W.Frag} {neg : Bool} : OpS K (rInM K neg) (oIn neg) := fun EX G H x y p q Φ R hp hq f Q k => by
  have lay : ∀ {v : V} {ds : List D}, Dd K G v (.list ds) → PyData.canLayAll0 ds = true := fun h => by
    cases h with
    | lst _ q => exact ddsLay _ _ q
  have layT : ∀ {v : V} {ds : List D}, Dd K G v (.tuple ds) → PyData.canLayAll0 ds = true := fun h => by
    cases h with
    | tup _ q => exact ddsLay _ _ q
  unfold oIn at f
  split at f
  · exact .inl ⟨_, _, (rwStr hp).1, (rwStr hq).1, k _ G H (.d (.bool _)) R.refl (Dd.bl _) f⟩
  · exact .inr (.inl ⟨_, _, ddDp _ _ (dpMono R.sub _ _ hp), .inl (ddDp _ _ (dpMono R.sub _ _ hq)), ddLay _ _ hp, lay hq, f.1, k _ G H (.d (.bool _)) R.refl (Dd.bl _) f.2⟩)
  · exact .inr (.inl ⟨_, _, ddDp _ _ (dpMono R.sub _ _ hp), .inr (ddDp _ _ (dpMono R.sub _ _ hq)), ddLay _ _ hp, layT hq, f.1, k _ G H (.d (.bool _)) R.refl (Dd.bl _) f.2⟩)
  · rename_i kvs
    split at f
    · rename_i key hk
      obtain ⟨a, vs, e, g, kv⟩ := hq
      have ev := keyD_v hp hk
      subst ev
      refine .inr (.inr ⟨a, valV vs key, e, DGet.k (R.sub _ _ g), ?_⟩)
      have hs : (valV vs key).isSome = (valD kvs key).isSome := by
        rcases kv_val key kv with ⟨q1, q2⟩ | ⟨_, _, q1, q2, _⟩ <;> rw [q1, q2] <;> rfl
      rw [hs]
      exact k _ G H (.d (.bool _)) R.refl (Dd.bl _) f
    · exact f.elim
  · rename_i kvs
    split at f
    · rename_i key hk
      obtain ⟨a, vs, e, g, kv⟩ := hq
      obtain ⟨b, xs, e1, g1, d1⟩ := rwTup hp
      subst e1
      have ev := keysD_v d1 hk
      subst ev
      refine .inr (.inr ⟨a, valV vs key, e, DGet.t (R.sub _ _ g) (R.sub _ _ g1), ?_⟩)
      have hs : (valV vs key).isSome = (valD kvs key).isSome := by
        rcases kv_val key kv with ⟨q1, q2⟩ | ⟨_, _, q1, q2, _⟩ <;> rw [q1, q2] <;> rfl
      rw [hs]
      exact k _ G H (.d (.bool _)) R.refl (Dd.bl _) f
    · exact f.elim
  · exact f.elim
theorem om_in {k : Nat} (hr : Room k X.A) : OpM X (compareOp .In) (rInM X.K false) (oIn false) := ⟨op_inM hr.units, os_in⟩
theorem om_notin {k : Nat} (hr : Room k X.A) : OpM X (compareOp .NotIn) (rInM X.K true) (oIn true) := ⟨op_notInM hr.units, os_in⟩
/-- is: of None, of bools -/
def oIs (neg : Bool) : F2 := fun p q Φ => match p, q with
  | .d (.bool x), .d (.bool y) => Φ (.d (.bool (neg != decide (x = y))))
  | .d .none, .d .none => Φ (.d (.bool (neg != true)))
  | .d _, .d .none => Φ (.d (.bool (neg != false)))
  | _, _ => False
def rIsM (neg : Bool) : R2 := fun x y H Q => (y = .non ∧ Q (.bl (neg != decide (x = .non))) H) ∨ ∃ a b : Bool, x = .bl a ∧ y = .bl b ∧ Q (.bl (neg != decide (a = b))) H
theorem op_isM : OpR X (compareOp .Is) (rIsM false) := by
  intro pins s σ H x y v u Q I rx ry h
  rcases h with ⟨e, q⟩ | ⟨a, b, e1, e2, q⟩
  · exact op_isN pins s σ H x y v u Q I rx ry ⟨e, by simpa using q⟩
  · exact op_isBl pins s σ H x y v u Q I rx ry ⟨a, b, e1, e2, by simpa using q⟩
theorem op_isNotM : OpR X (compareOp .IsNot) (rIsM true) := by
  intro pins s σ H x y v u Q I rx ry h
  rcases h with ⟨e, q⟩ | ⟨a, b, e1, e2, q⟩
  · exact op_notN pins s σ H x y v u Q I rx ry ⟨e, by simpa using q⟩
  · exact op_notBl pins s σ H x y v u Q I rx ry ⟨a, b, e1, e2, by simpa using q⟩
theorem os_is {K : PySem.W.Frag} {neg : Bool} : OpS K (rIsM neg) (oIs neg) := fun EX G H x y p q Φ R hp hq f Q k => by
  unfold oIs at f
  split at f
  · exact .inr ⟨_, _, rwBool hp, rwBool hq, k _ G H (.d (.bool _)) R.refl (Dd.bl _) f⟩
  · refine .inl ⟨rwNon hq, ?_⟩
    rw [rwNon hp]
    exact k _ G H (.d (.bool _)) R.refl (Dd.bl _) (by simpa using f)
  · rename_i hb d hd
    refine .inl ⟨rwNon hq, ?_⟩
    have hn : decide (x = V.non) = false := by
      refine decide_eq_false fun e => ?_
      have hp' : Dd K G x d := hp
      subst e
      cases hp'
      simp at hd
    rw [hn]
    exact k _ G H (.d (.bool _)) R.refl (Dd.bl _) f
  · exact f.elim
theorem om_is : OpM X (compareOp .Is) (rIsM false) (oIs false) := ⟨op_isM, os_is⟩
theorem om_isnot : OpM X (compareOp .IsNot) (rIsM true) (oIs true) := ⟨op_isNotM, os_is⟩
end
end Pd
end

section
set_option Elab.async false
set_option linter.all false
set_option maxRecDepth 100000
set_option autoImplicit false
set_option maxHeartbeats 1000000
/-! Pd, subscripts, slices, calls of built-ins -/
namespace Pd
open PySem PySem.Spec PyProof.Rows L2

/-! ### subscripts -/
theorem atI_dd {K : PySem.W.Frag} {G : Hp} {vs : List V} {ds : List D} {i : Int} {d : D} (h : DdAll K G vs ds) (e : atI ds i = some d) : ∃ v, atI vs i = some v ∧ Dd K G v d := by
  unfold atI at e ⊢
  rw [dpLen h]
  cases q : ixN ds.length i with
  | none => rw [q] at e; cases e
  | some j =>
    rw [q] at e
    obtain ⟨v, h1, h2⟩ := dpGet h (show ds[j]? = some d from e)
    exact ⟨v, h1, h2⟩
theorem atI_map {α β : Type} {f : α → β} {xs : List α} {i : Int} {x : α} (e : atI xs i = some x) : atI (xs.map f) i = some (f x) := by
  unfold atI at e ⊢
  rw [List.length_map]
  cases q : ixN xs.length i with
  | none => rw [q] at e; cases e
  | some j =>
    rw [q] at e
    show (xs.map f)[j]? = _
    rw [List.getElem?_map, show xs[j]? = some x from e]
    rfl
def oIx : F2 := fun p q Φ => match p, q with
  | .d (.list ds), .d (.int i) => (match atI ds i with
    | some d => Φ (.d d)
    | none => False)
  | .d (.tuple ds), .d (.int i) => (match atI ds i with
    | some d => Φ (.d d)
    | none => False)
  | .d (.str x), .d (.int i) => (match atI x.cps.toList i with
    | some c => Φ (.d (.str ⟨#[c]⟩))
    | none => False)
  | .sq _ ns, .d (.int i) => (match atI ns i with
    | some n => Φ (.d (.int n))
    | none => False)
  | .p _, .d (.int i) => (i = 0 ∨ i = 1 ∨ i = 2) ∧ ∀ n : Int, Φ (.d (.int n))
  | _, _ => False
theorem ScrAt.seqS {K : PySem.W.Frag} {H : Hp} {b : Addr} {ns : List Int} (h : ScrAt K H b ns) : SqL K H b (ns.map V.int) := h.seq
theorem os_ix {K : PySem.W.Frag} : OpS K (rIx K) oIx := fun EX G H x y p q Φ R hp hq f Q k => by
  unfold oIx at f
  split at f
  · split at f
    · rename_i d e
      obtain ⟨a, vs, e1, g, dd⟩ := rwLst hp
      obtain ⟨v, e2, dv⟩ := atI_dd dd e
      exact .inl ⟨a, vs, _, v, e1, rwInt hq, .inl (.inl (R.sub _ _ g)), e2, k v G H (.d d) R.refl dv f⟩
    · exact f.elim
  · split at f
    · rename_i d e
      obtain ⟨a, vs, e1, g, dd⟩ := rwTup hp
      obtain ⟨v, e2, dv⟩ := atI_dd dd e
      exact .inr (.inl ⟨a, vs, _, v, e1, rwInt hq, .inl (.inl (R.sub _ _ g)), e2, k v G H (.d d) R.refl dv f⟩)
    · exact f.elim
  · split at f
    · rename_i c e
      obtain ⟨e1, so⟩ := rwStr hp
      refine .inr (.inr ⟨_, _, c, e1, rwInt hq, so.len, e, k _ G H (.d (.str _)) R.refl (Dd.str _ (sok_one so ?_)) f⟩)
      obtain ⟨j, _, h2, _⟩ := atI_get e
      exact List.mem_of_getElem? h2
    · exact f.elim
  · split at f
    · rename_i n e
      obtain ⟨e1, ex⟩ := hp
      exact .inl ⟨_, _, _, .int n, e1, rwInt hq, (R.sc _ _ ex).seqS, atI_map e, k _ G H (.d (.int n)) R.refl (Dd.int n) f⟩
    · exact f.elim
  · rename_i a i
    obtain ⟨e1, ex⟩ := hp
    obtain ⟨n0, n1, n2, hb⟩ := R.bx _ ex
    obtain ⟨hi, f⟩ := f
    rcases hi with rfl | rfl | rfl
    · exact .inl ⟨a, _, _, .int n0, e1, rwInt hq, .inl (.inl hb), rfl, k _ G H (.d (.int n0)) R.refl (Dd.int n0) (f n0)⟩
    · exact .inl ⟨a, _, _, .int n1, e1, rwInt hq, .inl (.inl hb), rfl, k _ G H (.d (.int n1)) R.refl (Dd.int n1) (f n1)⟩
    · exact .inl ⟨a, _, _, .int n2, e1, rwInt hq, .inl (.inl hb), rfl, k _ G H (.d (.int n2)) R.refl (Dd.int n2) (f n2)⟩
  · exact f.elim
section
variable {X : Cx} {e a b o i : Expr} {es : List Expr} {t ta tb : TE} {tA : TA} {w wa wb : WE} {wA : WA} {pos : Pos}
theorem me_ix (ha : ME X a ta wa) (hb : ME X b tb wb) (hs : PlainIx b := by exact fun _ _ => rfl) : ME X (.Subscript a b pos) (tOp (rIx X.K) ta tb) (wOp oIx wa wb) := ⟨pe_ix ix_seq ha.pe hb.pe hs, so_op os_ix ha.so hb.so⟩
/-- d[k] of a dict -/
def oDGet : F2 := fun p q Φ => match p, q with
  | .dk kvs, .d x => (match keyD x with
    | some k => (match valD kvs k with
      | some d => Φ (.d d)
      | none => False)
    | none => False)
  | .dt kvs, .d (.tuple x) => (match keysD x with
    | some k => (match valD kvs k with
      | some d => Φ (.d d)
      | none => False)
    | none => False)
  | _, _ => False
theorem os_dget {K : PySem.W.Frag} : OpS K (fun x y H Q => ∃ a v, x = .ref a ∧ DGet H a y (some v) ∧ Q v H) oDGet := fun EX G H x y p q Φ R hp hq f Q k => by
  unfold oDGet at f
  split at f
  · split at f
    · rename_i kk hk
      split at f
      · rename_i d hd
        obtain ⟨a, vs, e, g, kv⟩ := hp
        have ev := keyD_v hq hk
        subst ev
        rcases kv_val kk kv with ⟨_, q2⟩ | ⟨v, d', q1, q2, dv⟩
        · rw [q2] at hd; cases hd
        · rw [q2] at hd
          cases hd
          refine ⟨a, v, e, ?_, k v G H (.d d) R.refl dv f⟩
          rw [← q1]
          exact DGet.k (R.sub _ _ g)
      · exact f.elim
    · exact f.elim
  · split at f
    · rename_i kk hk
      split at f
      · rename_i d hd
        obtain ⟨a, vs, e, g, kv⟩ := hp
        obtain ⟨b, xs, e1, g1, d1⟩ := rwTup hq
        subst e1
        have ev := keysD_v d1 hk
        subst ev
        rcases kv_val kk kv with ⟨_, q2⟩ | ⟨v, d', q1, q2, dv⟩
        · rw [q2] at hd; cases hd
        · rw [q2] at hd
          cases hd
          refine ⟨a, v, e, ?_, k v G H (.d d) R.refl dv f⟩
          rw [← q1]
          exact DGet.t (R.sub _ _ g) (R.sub _ _ g1)
      · exact f.elim
    · exact f.elim
  · exact f.elim
theorem me_dget {k : Nat} (hr : Room k X.A) (ho : ME X o ta wa) (hi : ME X i tb wb) (hs : NoSl i := by exact fun _ _ => rfl) : ME X (.Subscript o i pos) (tDGet ta tb) (wOp oDGet wa wb) :=
  ⟨pe_dget (by have := hr.units; omega) ho.pe hi.pe hs, so_op (r := fun x y H Q => ∃ a v, x = .ref a ∧ DGet H a y (some v) ∧ Q v H) os_dget ho.so hi.so⟩

/-! ### slices -/
abbrev WP := Rh → (Option Int → Prop) → Prop
def SoP (K : PySem.W.Frag) (t : TO) (w : WP) : Prop := ∀ (EX : Ext) (G H : Hp) (σ : L2.St) (ρ : Rh) (Φ : Option Int → Prop), Rel K EX G H σ ρ → w ρ Φ →
  ∀ Q : Option Int → Hp → Prop, (∀ b G' H', Step EX G H G' H' → Φ b → Q b H') → t σ H Q
structure MP (X : Cx) (e : Option Expr) (t : TO) (w : WP) : Prop where
  po : PO X e t
  so : SoP X.K t w
def wNoPart : WP := fun _ Φ => Φ none
def wPart (w : WE) : WP := fun ρ Φ => w ρ fun r => match r with
  | .d (.int i) => Φ (some i)
  | _ => False
theorem mp_none : MP X none tNoPart wNoPart := ⟨po_none, fun EX G H σ ρ Φ R f Q q => q none G H R.refl f⟩
theorem mp_some (h : ME X e t w) : MP X (some e) (tPart t) (wPart w) := ⟨po_some h.pe, fun EX G H σ ρ Φ R f Q q => h.so EX G H σ ρ _ R f _ fun v G1 H1 r S1 rv f1 => by
  split at f1
  · exact ⟨_, rwInt rv, q _ G1 H1 S1 f1⟩
  · exact f1.elim⟩
def cutD (xs : List D) (lo hi : Option Int) : List D := (xs.drop (HT.sIx xs.length 0 lo)).take (HT.sIx xs.length xs.length hi - HT.sIx xs.length 0 lo)
theorem dpCut {K : PySem.W.Frag} {G : Hp} {vs : List V} {ds : List D} (h : DdAll K G vs ds) (lo hi : Option Int) : DdAll K G (cutV vs lo hi) (cutD ds lo hi) := by
  unfold cutV cutD
  rw [dpLen h]
  exact dpTake _ (dpDrop _ h)
theorem cut_all {vs : List V} {lo hi : Option Int} (h : HT.sIx vs.length 0 lo = 0 ∧ HT.sIx vs.length vs.length hi = vs.length) : cutV vs lo hi = vs := by
  unfold cutV
  rw [h.1, h.2, List.drop_zero, Nat.sub_zero, List.take_length]
def oSl (p : W) (lo hi : Option Int) (Φ : W → Prop) : Prop := match p with
  | .d (.list ds) => Φ (.d (.list (cutD ds lo hi)))
  | .d (.tuple ds) => Φ (.d (.tuple (cutD ds lo hi)))
  | .d (.str x) => Φ (.d (.str (cutS x lo hi)))
  | _ => False
def rSlM (K : PySem.W.Frag) : V → Option Int → Option Int → Hp → VK → Prop := fun x lo hi H Q => rSlL K x lo hi H Q ∨ rSlA K x lo hi H Q ∨ rSlS x lo hi H Q
def wSl (w : WE) (u v : WP) : WE := fun ρ Φ => w ρ fun r => u ρ fun lo => v ρ fun hi => oSl r lo hi Φ
variable {lo hi : Option Expr} {tl th : TO} {ul uh : WP} {p2 : Pos}
theorem me_slice (h : ME X e t w) (hl : MP X lo tl ul) (hh : MP X hi th uh) : ME X (.Subscript e (.Slice lo hi none p2) pos) (tSl (rSlM X.K) t tl th) (wSl w ul uh) :=
  ⟨pe_slice (sl_list.or (sl_tupA.or sl_str)) h.pe hl.po hh.po, fun EX G H σ ρ Φ R f Q q =>
    h.so EX G H σ ρ _ R f _ fun v G1 H1 r S1 rv f1 => hl.so EX G1 H1 σ ρ _ (R.step S1) f1 _ fun l G2 H2 S2 f2 => hh.so EX G2 H2 σ ρ _ ((R.step S1).step S2) f2 _ fun u G3 H3 S3 f3 => by
      have R3 := (((R.step S1).step S2).step S3).toGd
      have rv3 := rwMono (EX' := EX) (S2.trans S3).gg (fun _ _ h => h) rv
      have S := (S1.trans S2).trans S3
      unfold oSl at f3
      split at f3
      · obtain ⟨a, vs, e1, g, dd⟩ := rwLst rv3
        refine .inl ⟨a, vs, e1, .inl (.inl (R3.sub _ _ g)), fun p hp => ?_⟩
        have S4 := R3.new (p := p) (o := .lst (cutV vs l u)) hp
        exact q _ _ _ (.d (.list _)) (S.trans S4) (Dd.lst upd_same (dpsMono S4.gg _ _ (dpCut dd l u))) f3
      · obtain ⟨a, vs, e1, g, dd⟩ := rwTup rv3
        refine .inr (.inl ⟨a, vs, e1, .inl (.inl (R3.sub _ _ g)), fun c => ?_, fun _ p hp => ?_⟩)
        · refine q _ _ _ (.d (.tuple _)) S (Dd.tup g ?_) f3
          have := dpCut dd l u
          rw [cut_all c] at this
          exact this
        · have S4 := R3.new (p := p) (o := .tup (cutV vs l u)) hp
          exact q _ _ _ (.d (.tuple _)) (S.trans S4) (Dd.tup upd_same (dpsMono S4.gg _ _ (dpCut dd l u))) f3
      · obtain ⟨e1, so⟩ := rwStr rv3
        exact .inr (.inr ⟨_, e1, so.len, q _ _ _ (.d (.str _)) S (Dd.str _ (sok_cut so l u)) f3⟩)
      · exact f3.elim⟩
/-- a list's slice, its own -/
theorem ml_slice (h : ME X e t w) (hl : MP X lo tl ul) (hh : MP X hi th uh) : ML X (.Subscript e (.Slice lo hi none p2) pos) (tSl (rSlL X.K) t tl th)
    (fun ρ Φ => w ρ fun r => ul ρ fun lo => uh ρ fun hi => match r with | .d (.list ds) => Φ (cutD ds lo hi) | _ => False) :=
  ⟨pe_slice sl_list h.pe hl.po hh.po, fun EX G H σ ρ Φ R f Q q =>
    h.so EX G H σ ρ _ R f _ fun v G1 H1 r S1 rv f1 => hl.so EX G1 H1 σ ρ _ (R.step S1) f1 _ fun l G2 H2 S2 f2 => hh.so EX G2 H2 σ ρ _ ((R.step S1).step S2) f2 _ fun u G3 H3 S3 f3 => by
      have R3 := (((R.step S1).step S2).step S3).toGd
      have rv3 := rwMono (EX' := EX) (S2.trans S3).gg (fun _ _ h => h) rv
      have S := (S1.trans S2).trans S3
      split at f3
      · obtain ⟨a, vs, e1, g, dd⟩ := rwLst rv3
        refine ⟨a, vs, e1, .inl (.inl (R3.sub _ _ g)), fun p hp => ?_⟩
        have S4 := R3.newOut (p := p) (o := .lst (cutV vs l u)) hp
        exact q p _ _ _ _ (S.trans S4) (S.fresh hp) (R3.free hp) (R3.notBox hp) upd_same (dpCut dd l u) f3
      · exact f3.elim⟩
/-- [::-1] of a list -/
def wRev (w : WE) : WD := fun ρ Φ => w ρ fun r => match r with
  | .d (.list ds) => Φ ds.reverse
  | _ => False
theorem ml_rev {k : Nat} {p1 p2 p3 : Pos} (h : ME X e t w) : ML X (.Subscript e (.Slice none none (some (.UnaryOp .USub (.Constant (.int 1) k p1) p2)) p3) pos) (tRevL X.K t) (wRev w) :=
  ⟨pe_revL h.pe, fun EX G H σ ρ Φ R f Q q => h.so EX G H σ ρ _ R f _ fun v G1 H1 r S1 rv f1 => by
    split at f1
    · obtain ⟨a, vs, e1, g, dd⟩ := rwLst rv
      have R1 := R.toGd.step S1
      refine ⟨a, vs, e1, .inl (.inl (R1.sub _ _ g)), fun p hp => ?_⟩
      have S4 := R1.newOut (p := p) (o := .lst vs.reverse) hp
      exact q p _ _ _ _ (S1.trans S4) (S1.fresh hp) (R1.free hp) (R1.notBox hp) upd_same (dpRev dd) f1
    · exact f1.elim⟩

/-! ### calls of built-ins -/
abbrev FA := List W → (W → Prop) → Prop
def CallS (K : PySem.W.Frag) (r : List V → Hp → VK → Prop) (f : FA) : Prop := ∀ (EX : Ext) (G H : Hp) (xs : List V) (ws : List W) (Φ : W → Prop), Gd K EX G H → RwAll K EX G xs ws → f ws Φ →
  ∀ Q : VK, (∀ v G' H' c, Step EX G H G' H' → Rw K EX G' v c → Φ c → Q v H') → r xs H Q
def CallLS (K : PySem.W.Frag) (r : List V → Hp → VK → Prop) (f : List W → (List D → Prop) → Prop) : Prop := ∀ (EX : Ext) (G H : Hp) (xs : List V) (ws : List W) (Φ : List D → Prop), Gd K EX G H → RwAll K EX G xs ws → f ws Φ →
  ∀ Q : VK, (∀ a vs G' H' ds, Step EX G H G' H' → H a = none → G' a = none → ¬ EX a .box → H' a = some (.lst vs) → DdAll K G' vs ds → Φ ds → Q (.ref a) H') → r xs H Q
def wCB (f : FA) (wA : WA) : WE := fun ρ Φ => wA ρ fun ws => f ws Φ
def wCL (f : List W → (List D → Prop) → Prop) (wA : WA) : WD := fun ρ Φ => wA ρ fun ws => f ws Φ
structure CallM (X : Cx) (v : Value) (r : List V → Hp → VK → Prop) (f : FA) : Prop where
  op : CallR X v r
  so : CallS X.K r f
structure CallLM (X : Cx) (v : Value) (r : List V → Hp → VK → Prop) (f : List W → (List D → Prop) → Prop) : Prop where
  op : CallR X v r
  so : CallLS X.K r f
variable {x : Str} {p : Pos} {id : String} {T : String} {r : List V → Hp → VK → Prop} {f : FA} {fl : List W → (List D → Prop) → Prop}
theorem so_cb {K : PySem.W.Frag} (hf : CallS K r f) (h : SoA K tA wA) : SoE K (tCB r tA) (wCB f wA) := fun EX G H σ ρ Φ R g Q q => h EX G H σ ρ _ R g _ fun vs G1 H1 rs S1 rv f1 =>
  hf EX G1 H1 vs rs Φ (R.toGd.step S1) rv f1 Q fun z G3 H3 c S3 rc f3 => q z G3 H3 c (S1.trans S3) rc f3
theorem so_cl {K : PySem.W.Frag} (hf : CallLS K r fl) (h : SoA K tA wA) : SoL K (tCB r tA) (wCL fl wA) := fun EX G H σ ρ Φ R g Q q => h EX G H σ ρ _ R g _ fun vs G1 H1 rs S1 rv f1 =>
  hf EX G1 H1 vs rs Φ (R.toGd.step S1) rv f1 Q fun z us G3 H3 c S3 hz gz bz h3 rc f3 => q z us G3 H3 c (S1.trans S3) (S1.fresh hz) gz bz h3 rc f3
theorem me_callB (hc : CallM X (.builtin id) r f) (hm : X.mg x = none) (hg : Gl X x := by rfl) (hv : bootBuiltins x = some (.builtin id) := by decide +kernel) (ha : MA X (e :: es) tA wA) (hs : starEach (e :: es) X.env = (false, eval e X.env) :: starEach es X.env := by rfl)
    (hpl : (backTo pos (starEach es X.env)).any (·.1) = false := by rfl) (hn : x ≠ Str.ofString "__name__" := by decide) (hdb : (x == ("__debug__" : Str)) = false := by decide) : ME X (.Call (.Name x p) (e :: es) [] pos) (tCB r tA) (wCB f wA) := ⟨pe_callB hc.op hg hm hv ha.pa (hn := hn) (hdb := hdb) (he := hs) (hpl := hpl), so_cb hc.so ha.so⟩
theorem ml_callB (hc : CallLM X (.builtin id) r fl) (hm : X.mg x = none) (hg : Gl X x := by rfl) (hv : bootBuiltins x = some (.builtin id) := by decide +kernel) (ha : MA X (e :: es) tA wA) (hs : starEach (e :: es) X.env = (false, eval e X.env) :: starEach es X.env := by rfl)
    (hpl : (backTo pos (starEach es X.env)).any (·.1) = false := by rfl) (hn : x ≠ Str.ofString "__name__" := by decide) (hdb : (x == ("__debug__" : Str)) = false := by decide) : ML X (.Call (.Name x p) (e :: es) [] pos) (tCB r tA) (wCL fl wA) := ⟨pe_callB hc.op hg hm hv ha.pa (hn := hn) (hdb := hdb) (he := hs) (hpl := hpl), so_cl hc.so ha.so⟩
theorem me_callT (hc : CallM X (.type T) r f) (hm : X.mg x = none) (hg : Gl X x := by rfl) (hv : bootBuiltins x = some (.type T) := by decide +kernel) (ha : MA X (e :: es) tA wA) (hs : starEach (e :: es) X.env = (false, eval e X.env) :: starEach es X.env := by rfl)
    (hpl : (backTo pos (starEach es X.env)).any (·.1) = false := by rfl) (hn : x ≠ Str.ofString "__name__" := by decide) (hdb : (x == ("__debug__" : Str)) = false := by decide) : ME X (.Call (.Name x p) (e :: es) [] pos) (tCB r tA) (wCB f wA) := ⟨pe_callTy hc.op hg hm hv ha.pa (hn := hn) (hdb := hdb) (he := hs) (hpl := hpl), so_cb hc.so ha.so⟩
theorem ml_callT (hc : CallLM X (.type T) r fl) (hm : X.mg x = none) (hg : Gl X x := by rfl) (hv : bootBuiltins x = some (.type T) := by decide +kernel) (ha : MA X (e :: es) tA wA) (hs : starEach (e :: es) X.env = (false, eval e X.env) :: starEach es X.env := by rfl)
    (hpl : (backTo pos (starEach es X.env)).any (·.1) = false := by rfl) (hn : x ≠ Str.ofString "__name__" := by decide) (hdb : (x == ("__debug__" : Str)) = false := by decide) : ML X (.Call (.Name x p) (e :: es) [] pos) (tCB r tA) (wCL fl wA) := ⟨pe_callTy hc.op hg hm hv ha.pa (hn := hn) (hdb := hdb) (he := hs) (hpl := hpl), so_cl hc.so ha.so⟩

theorem rw1 {K : PySem.W.Frag} {EX : Ext} {G : Hp} {xs : List V} {w : W} (h : RwAll K EX G xs [w]) : ∃ x, xs = [x] ∧ Rw K EX G x w := by
  cases h with
  | cons h t => cases t; exact ⟨_, rfl, h⟩
theorem rw2 {K : PySem.W.Frag} {EX : Ext} {G : Hp} {xs : List V} {w u : W} (h : RwAll K EX G xs [w, u]) : ∃ x y, xs = [x, y] ∧ Rw K EX G x w ∧ Rw K EX G y u := by
  cases h with
  | cons h t =>
    obtain ⟨y, e, q⟩ := rw1 t
    subst e
    exact ⟨_, y, rfl, h, q⟩
/-- len -/
def oLen : FA := fun ws Φ => match ws with
  | [.d (.list ds)] => Φ (.d (.int ds.length))
  | [.d (.tuple ds)] => Φ (.d (.int ds.length))
  | [.d (.str x)] => Φ (.d (.int x.length))
  | [.sq _ ns] => Φ (.d (.int ns.length))
  | [.dk kvs] => Φ (.d (.int kvs.length))
  | _ => False
def rLenM (K : PySem.W.Frag) : List V → Hp → VK → Prop := fun xs H Q => (∃ x n, xs = [x] ∧ LenV K x H n ∧ Q (.int n) H) ∨ ∃ a kvs, xs = [.ref a] ∧ H a = some (.dK kvs) ∧ Q (.int kvs.length) H
theorem cm_len : CallM X (.builtin "len") (rLenM X.K) oLen := by
  refine ⟨fun pins s σ H xs us Q I r h => ?_, fun EX G H xs ws Φ R hw f Q k => ?_⟩
  · rcases h with h | ⟨a, kvs, e, g, q⟩
    · exact call_len pins s σ H xs us Q I r h
    · subst e
      obtain ⟨u, e, ru⟩ := vals1 r
      subst e
      cases ru
      exact d_len I (.inl g) fun t s' I' => ⟨.int kvs.length, H, I', ⟨t, rfl⟩, q⟩
  · unfold oLen at f
    split at f
    · obtain ⟨x, rfl, rx⟩ := rw1 hw
      obtain ⟨a, vs, e1, g, dd⟩ := rwLst rx
      subst e1
      exact .inl ⟨_, _, rfl, .inl ⟨vs, .inl (.inl (R.sub _ _ g)), (dpLen dd).symm⟩, k _ G H (.d (.int _)) R.refl (Dd.int _) f⟩
    · obtain ⟨x, rfl, rx⟩ := rw1 hw
      obtain ⟨a, vs, e1, g, dd⟩ := rwTup rx
      subst e1
      exact .inl ⟨_, _, rfl, .inr ⟨vs, .inl (.inl (R.sub _ _ g)), (dpLen dd).symm⟩, k _ G H (.d (.int _)) R.refl (Dd.int _) f⟩
    · obtain ⟨x, rfl, rx⟩ := rw1 hw
      obtain ⟨e1, so⟩ := rwStr rx
      subst e1
      exact .inl ⟨_, _, rfl, ⟨so.len, rfl⟩, k _ G H (.d (.int _)) R.refl (Dd.int _) f⟩
    · rename_i ns
      obtain ⟨x, rfl, rx⟩ := rw1 hw
      obtain ⟨e1, ex⟩ := rx
      subst e1
      exact .inl ⟨_, _, rfl, .inl ⟨_, (R.sc _ _ ex).seqS, rfl⟩, k _ G H (.d (.int _)) R.refl (by rw [List.length_map]; exact Dd.int _) f⟩
    · obtain ⟨x, rfl, rx⟩ := rw1 hw
      obtain ⟨a, vs, e1, g, kv⟩ := rx
      subst e1
      exact .inr ⟨a, vs, rfl, R.sub _ _ g, by rw [kv_len kv]; exact k _ G H (.d (.int _)) R.refl (Dd.int _) f⟩
    · exact f.elim
/-- tuple(x) of a list or tuple -/
def oTuple : FA := fun ws Φ => match ws with
  | [.d (.list ds)] => Φ (.d (.tuple ds))
  | [.d (.tuple ds)] => Φ (.d (.tuple ds))
  | _ => False
theorem cm_tuple : CallM X (.type "tuple") (fun xs H Q => ∃ p ys, xs = [.ref p] ∧ ((SqL X.K H p ys ∧ ∀ l, H l = none → Q (.ref l) (upd H l (.tup ys))) ∨ (SqT X.K H p ys ∧ Q (.ref p) H))) oTuple := by
  refine ⟨call_tuple_of, fun EX G H xs ws Φ R hw f Q k => ?_⟩
  unfold oTuple at f
  split at f
  · obtain ⟨x, rfl, rx⟩ := rw1 hw
    obtain ⟨a, vs, e1, g, dd⟩ := rwLst rx
    subst e1
    refine ⟨a, vs, rfl, .inl ⟨.inl (.inl (R.sub _ _ g)), fun p hp => ?_⟩⟩
    have S := R.new (p := p) (o := .tup vs) hp
    exact k _ _ _ (.d (.tuple _)) S (Dd.tup upd_same (dpsMono S.gg _ _ dd)) f
  · obtain ⟨x, rfl, rx⟩ := rw1 hw
    obtain ⟨a, vs, e1, g, dd⟩ := rwTup rx
    subst e1
    exact ⟨a, vs, rfl, .inr ⟨.inl (.inl (R.sub _ _ g)), k _ _ _ (.d (.tuple _)) R.refl (Dd.tup g dd) f⟩⟩
  · exact f.elim
/-- list(x) -/
def oList : List W → (List D → Prop) → Prop := fun ws Φ => match ws with
  | [.d (.list ds)] => Φ ds
  | [.d (.tuple ds)] => Φ ds
  | _ => False
theorem cm_list : CallLM X (.type "list") (fun xs H Q => ∃ p ys, xs = [.ref p] ∧ (SqL X.K H p ys ∨ SqT X.K H p ys) ∧ ∀ l, H l = none → Q (.ref l) (upd H l (.lst ys))) oList := by
  refine ⟨call_list_of, fun EX G H xs ws Φ R hw f Q k => ?_⟩
  unfold oList at f
  split at f
  · obtain ⟨x, rfl, rx⟩ := rw1 hw
    obtain ⟨a, vs, e1, g, dd⟩ := rwLst rx
    subst e1
    refine ⟨a, vs, rfl, .inl (.inl (.inl (R.sub _ _ g))), fun p hp => ?_⟩
    have S := R.newOut (p := p) (o := .lst vs) hp
    exact k p vs _ _ _ S hp (R.free hp) (R.notBox hp) upd_same dd f
  · obtain ⟨x, rfl, rx⟩ := rw1 hw
    obtain ⟨a, vs, e1, g, dd⟩ := rwTup rx
    subst e1
    refine ⟨a, vs, rfl, .inr (.inl (.inl (R.sub _ _ g))), fun p hp => ?_⟩
    have S := R.newOut (p := p) (o := .lst vs) hp
    exact k p vs _ _ _ S hp (R.free hp) (R.notBox hp) upd_same dd f
  · exact f.elim
/-- int(x) of an int, of a bool -/
def oInt : FA := fun ws Φ => match ws with
  | [.d (.int i)] => Φ (.d (.int i))
  | [.d (.bool b)] => Φ (.d (.int (if b then 1 else 0)))
  | _ => False
theorem cm_int : CallM X (.type "int") (fun xs H Q => (∃ i, xs = [.int i] ∧ Q (.int i) H) ∨ ∃ k, xs = [.bl k] ∧ Q (.int (if k then 1 else 0)) H) oInt := by
  refine ⟨call_int1, fun EX G H xs ws Φ R hw f Q k => ?_⟩
  unfold oInt at f
  split at f
  · obtain ⟨x, rfl, rx⟩ := rw1 hw
    exact .inl ⟨_, by rw [rwInt rx], k _ _ _ (.d (.int _)) R.refl (Dd.int _) f⟩
  · obtain ⟨x, rfl, rx⟩ := rw1 hw
    exact .inr ⟨_, by rw [rwBool rx], k _ _ _ (.d (.int _)) R.refl (Dd.int _) f⟩
  · exact f.elim
/-- all, any of a list of bools -/
def boolsD : List D → Option (List Bool)
  | [] => some []
  | .bool b :: r => match boolsD r with
    | some bs => some (b :: bs)
    | none => none
  | _ :: _ => none
theorem boolsD_v {K : PySem.W.Frag} {G : Hp} : ∀ {vs : List V} {ds : List D} {bs : List Bool}, DdAll K G vs ds → boolsD ds = some bs → vs = bs.map V.bl
  | _, [], bs, h, e => by
    cases h
    cases e
    rfl
  | _, d :: ds, bs, h, e => by
    cases h with
    | cons h1 h2 =>
      cases d with
      | bool b =>
        unfold boolsD at e
        split at e
        · cases e
          cases h1
          rw [List.map_cons, boolsD_v h2 (by assumption)]
        · cases e
      | _ => cases e
def oAnyAll (g : List Bool → Bool) : FA := fun ws Φ => match ws with
  | [.d (.list ds)] => (match boolsD ds with
    | some bs => Φ (.d (.bool (g bs)))
    | none => False)
  | _ => False
theorem os_anyall {K : PySem.W.Frag} {g : List Bool → Bool} : CallS K (fun vs H Q => ∃ (a : Addr) (bs : List Bool), vs = [V.ref a] ∧ SqL K H a (bs.map V.bl) ∧ Q (.bl (g bs)) H) (oAnyAll g) := fun EX G H xs ws Φ R hw f Q k => by
  unfold oAnyAll at f
  split at f
  · split at f
    · rename_i bs hb
      obtain ⟨x, rfl, rx⟩ := rw1 hw
      obtain ⟨a, vs, e1, g', dd⟩ := rwLst rx
      subst e1
      have ev := boolsD_v dd hb
      subst ev
      exact ⟨a, bs, rfl, .inl (.inl (R.sub _ _ g')), k _ _ _ (.d (.bool _)) R.refl (Dd.bl _) f⟩
    · exact f.elim
  · exact f.elim
theorem cm_all (hc : X.calm = true := by rfl) : CallM X (.builtin "all") (rAll X.K) (oAnyAll fun bs => bs.all _root_.id) := ⟨cr_all hc, os_anyall⟩
theorem cm_any (hc : X.calm = true := by rfl) : CallM X (.builtin "any") (rAny X.K) (oAnyAll fun bs => bs.any _root_.id) := ⟨cr_any hc, os_anyall⟩
/-- max, min of two ints -/
def oMax2 : FA := fun ws Φ => match ws with
  | [.d (.int i), .d (.int j)] => Φ (.d (.int (if j > i then j else i)))
  | _ => False
def oMin2 : FA := fun ws Φ => match ws with
  | [.d (.int i), .d (.int j)] => Φ (.d (.int (if j < i then j else i)))
  | _ => False
theorem cm_max2 (hc : X.calm = true := by rfl) : CallM X (.builtin "max") (fun xs H Q => ∃ i j, xs = [.int i, .int j] ∧ Q (.int (if j > i then j else i)) H) oMax2 := by
  refine ⟨call_max2 hc, fun EX G H xs ws Φ R hw f Q k => ?_⟩
  unfold oMax2 at f
  split at f
  · obtain ⟨x, y, rfl, rx, ry⟩ := rw2 hw
    exact ⟨_, _, by rw [rwInt rx, rwInt ry], k _ _ _ (.d (.int _)) R.refl (Dd.int _) f⟩
  · exact f.elim
theorem cm_min2 (hc : X.calm = true := by rfl) : CallM X (.builtin "min") (fun xs H Q => ∃ i j, xs = [.int i, .int j] ∧ Q (.int (if j < i then j else i)) H) oMin2 := by
  refine ⟨call_min2 hc, fun EX G H xs ws Φ R hw f Q k => ?_⟩
  unfold oMin2 at f
  split at f
  · obtain ⟨x, y, rfl, rx, ry⟩ := rw2 hw
    exact ⟨_, _, by rw [rwInt rx, rwInt ry], k _ _ _ (.d (.int _)) R.refl (Dd.int _) f⟩
  · exact f.elim
end
end Pd
end

section
set_option Elab.async false
set_option linter.all false
set_option maxRecDepth 100000
set_option autoImplicit false
set_option maxHeartbeats 1000000
/-! Pd, what is walked; targets; comprehensions -/
namespace Pd
open PySem PySem.Spec PyProof.Rows L2

/-! ### walks -/
def Walk (K : PySem.W.Frag) (EX : Ext) (J : It) (G : Hp) (ds : List D) : Prop := ∀ (EX' : Ext) (Gc H : Hp), (∀ b k, EX b k → EX' b k) → Same G Gc → Gd K EX' Gc H → ∀ i : Nat, (ds.length ≤ i → J.stop i H) ∧
  ∀ d, ds[i]? = some d → J.go i H ∧ ∀ x H', J.yld i H x H' → ∃ G', Step EX' Gc H G' H' ∧ Dd K G' x d
def SoI (K : PySem.W.Frag) (wi : TI) (w : WD) : Prop := ∀ (EX : Ext) (G H : Hp) (σ : L2.St) (ρ : Rh) (Φ : List D → Prop), Rel K EX G H σ ρ → w ρ Φ →
  ∀ R : It → Hp → Prop, (∀ J G' H' ds, Step EX G H G' H' → Walk K EX J G' ds → ds.length ≤ sizeLine → Φ ds → R J H') → wi σ H R
structure MI (X : Cx) (tg e : Expr) (wi : TI) (w : WD) : Prop where
  pi : PI X tg e wi
  so : SoI X.K wi w
theorem walk_l {K : PySem.W.Frag} {EX : Ext} {G : Hp} {a : Addr} {vs : List V} {ds : List D} (g : ∀ EX' Gc H, (∀ b k, EX b k → EX' b k) → Same G Gc → Gd K EX' Gc H → SqL K H a vs) (dd : DdAll K G vs ds) : Walk K EX (Itl K a) G ds := fun EX' Gc H eb s R i => by
  refine ⟨fun h => ⟨vs, g EX' Gc H eb s R, by rw [dpLen dd]; exact h⟩, fun d e => ?_⟩
  obtain ⟨v, e1, dv⟩ := dpGet dd e
  refine ⟨⟨vs, v, g EX' Gc H eb s R, e1⟩, fun x H' y => ?_⟩
  obtain ⟨rfl, y⟩ := y
  have ex : x = v := Option.some.inj ((y vs (g EX' Gc _ eb s R)).symm.trans e1)
  subst ex
  exact ⟨Gc, R.refl, dpMono s _ _ dv⟩
theorem walk_t {K : PySem.W.Frag} {EX : Ext} {G : Hp} {a : Addr} {vs : List V} {ds : List D} (g : G a = some (.tup vs)) (dd : DdAll K G vs ds) : Walk K EX (Itt K a) G ds := fun EX' Gc H eb s R i => by
  have hs : SqT K H a vs := .inl (.inl (R.sub _ _ (s _ _ g)))
  refine ⟨fun h => ⟨vs, hs, by rw [dpLen dd]; exact h⟩, fun d e => ?_⟩
  obtain ⟨v, e1, dv⟩ := dpGet dd e
  refine ⟨⟨vs, v, hs, e1⟩, fun x H' y => ?_⟩
  obtain ⟨rfl, y⟩ := y
  have ex : x = v := Option.some.inj ((y vs hs).symm.trans e1)
  subst ex
  exact ⟨Gc, R.refl, dpMono s _ _ dv⟩
/-- the signs of a text -/
def signs (x : Str) : List D := x.cps.toList.map fun c => PyData.str ⟨#[c]⟩
theorem walk_s {K : PySem.W.Frag} {EX : Ext} {G : Hp} {x : Str} (so : SOk x) : Walk K EX (Its x) G (signs x) := fun EX' Gc H eb s R i => by
  refine ⟨fun h => by simpa [signs, Its] using h, fun d e => ?_⟩
  unfold signs at e
  rw [List.getElem?_map] at e
  cases q : x.cps.toList[i]? with
  | none => rw [q] at e; cases e
  | some c =>
    rw [q] at e
    cases e
    have hi : i < x.cps.size := by
      have := (List.getElem?_eq_some_iff.mp q).1
      simpa using this
    refine ⟨hi, fun v H' y => ?_⟩
    obtain ⟨rfl, c', e1, rfl⟩ := y
    have ec : c' = c := by
      have : x.cps.toList[i]? = some c' := by simpa using e1
      rw [q] at this
      exact (Option.some.inj this).symm
    subst ec
    exact ⟨Gc, R.refl, Dd.str _ (sok_one so (List.mem_of_getElem? q))⟩
/-- a list, a tuple, a text, the script -/
def iSeq (K : PySem.W.Frag) (tl : TE) : TI := fun σ H R => tl σ H fun x H1 => (∃ a, x = .ref a ∧ (∃ xs, SqL K H1 a xs) ∧ R (Itl K a) H1) ∨ (∃ a, x = .ref a ∧ (∃ xs, SqT K H1 a xs) ∧ R (Itt K a) H1) ∨ ∃ z, x = .str z ∧ R (Its z) H1
theorem pi_seq {X : Cx} {tg l : Expr} {tl : TE} (hl : PE X l tl) : PI X tg l (iSeq X.K tl) := by
  refine ⟨fun pins s σ H R I h => ?_⟩
  refine thn (hl.run pins s σ H _ I h) fun v s1 ⟨x, H1, I1, r1, q1⟩ => ?_
  rcases q1 with ⟨a, e, ⟨xs, hq⟩, q⟩ | ⟨a, e, ⟨xs, hq⟩, q⟩ | ⟨z, e, q⟩
  · subst e
    cases r1
    obtain ⟨its, rv, p, hz⟩ := I1.list hq
    refine wpAny_pyIter_list p.isList ?_
    refine ⟨s1.heap.objs.size, [s1.heap.objs.size], _, _, H1, rfl, I1.kept (t' := s1.toks) fun b o e => Heap.get?_push_of_some _ e, turn_list a _, ⟨_, Heap.get?_push_size _ rfl, rfl, rfl⟩, fun b hb => ?_, q⟩
    have e : b = s1.heap.objs.size := by simpa using hb
    subst e
    exact I1.fpOk (Nat.le_refl _) (I1.hok.fresh (Nat.le_refl _))
  · subst e
    cases r1
    obtain ⟨its, rv, p, hz⟩ := I1.tuple hq
    refine wpAny_pyIter_tuple (show s1.heap.IsTuple a its.toArray from p) ?_
    refine ⟨s1.heap.objs.size, [s1.heap.objs.size], _, _, H1, rfl, I1.kept (t' := s1.toks) fun b o e => Heap.get?_push_of_some _ e, turn_tuple a _, ⟨_, Heap.get?_push_size _ rfl, rfl, rfl⟩, fun b hb => ?_, q⟩
    have e : b = s1.heap.objs.size := by simpa using hb
    subst e
    exact I1.fpOk (Nat.le_refl _) (I1.hok.fresh (Nat.le_refl _))
  · subst e
    obtain ⟨t, rfl⟩ := r1
    cases ha : z.cps.all (· < 128)
    · exact wpAny_pyIter_wide ha (pi_one (tk := s1.toks) I1 _ (turn_str _ z t "str_iterator" (.inr rfl)) ⟨_, Heap.get?_push_size _ rfl, rfl, rfl⟩ q)
    · exact wpAny_pyIter_ascii ha (pi_one (tk := s1.toks) I1 _ (turn_str _ z t "str_ascii_iterator" (.inl rfl)) ⟨_, Heap.get?_push_size _ rfl, rfl, rfl⟩ q)
def seqD (r : W) (Φ : List D → Prop) : Prop := match r with
  | .d (.list ds) => Φ ds
  | .d (.tuple ds) => Φ ds
  | .d (.str x) => Φ (signs x)
  | .sq _ ns => Φ (ns.map PyData.int)
  | _ => False
def wSeq (w : WE) : WD := fun ρ Φ => w ρ fun r => seqD r Φ
theorem ints_dd {K : PySem.W.Frag} {G : Hp} : ∀ ns : List Int, DdAll K G (ns.map V.int) (ns.map PyData.int)
  | [] => .nil
  | n :: ns => .cons (.int n) (ints_dd ns)
section
variable {X : Cx} {tg e a b : Expr} {es : List Expr} {t : TE} {tA : TA} {w : WE} {wA : WA} {pos p : Pos}
theorem mi_seq (h : ME X e t w) : MI X tg e (iSeq X.K (fun σ H Q => t σ H fun v H1 => bdE X.K (fun _ H2 Q' => Q' v H2) σ H1 Q)) (wSeq w) := by
  have hp : PE X e (fun σ H Q => t σ H fun v H1 => bdE X.K (fun _ H2 Q' => Q' v H2) σ H1 Q) := ⟨fun pins s σ H Q I q => thn (h.pe.run pins s σ H _ I q) fun u s1 ⟨x, H1, I1, r1, q1⟩ => ⟨x, H1, I1, r1, q1 (bd_of I1)⟩⟩
  refine ⟨pi_seq hp, fun EX G H σ ρ Φ R f Q q => h.so EX G H σ ρ _ R f _ fun v G1 H1 r S1 rv f1 bd => ?_⟩
  have R1 := R.toGd.step S1
  unfold seqD at f1
  split at f1
  · obtain ⟨a, vs, e1, g, dd⟩ := rwLst rv
    have hs : SqL X.K H1 a vs := .inl (.inl (R1.sub _ _ g))
    refine .inl ⟨a, e1, ⟨vs, hs⟩, q _ G1 H1 _ S1 (walk_l (fun EX' Gc H' eb s R' => .inl (.inl (R'.sub _ _ (s _ _ g)))) dd) ?_ f1⟩
    rw [← dpLen dd]
    exact bd.l a vs hs
  · obtain ⟨a, vs, e1, g, dd⟩ := rwTup rv
    have hs : SqT X.K H1 a vs := .inl (.inl (R1.sub _ _ g))
    refine .inr (.inl ⟨a, e1, ⟨vs, hs⟩, q _ G1 H1 _ S1 (walk_t g dd) ?_ f1⟩)
    rw [← dpLen dd]
    exact bd.t a vs hs
  · obtain ⟨e1, so⟩ := rwStr rv
    refine .inr (.inr ⟨_, e1, q _ G1 H1 _ S1 (walk_s so) ?_ f1⟩)
    unfold signs
    rw [List.length_map]
    exact so.len
  · rename_i a ns
    obtain ⟨e1, ex⟩ := rv
    have hs := (R1.sc _ _ ex).seqS
    refine .inl ⟨a, e1, ⟨_, hs⟩, q _ G1 H1 _ S1 (walk_l (fun EX' Gc H' eb s R' => (R'.sc _ _ (eb _ _ ex)).seqS) (ints_dd ns)) ?_ f1⟩
    rw [List.length_map]
    have := bd.l a _ hs
    rw [List.length_map] at this
    exact this
  · exact f1.elim
/-- lo, lo + 1, .. -/
def intsFrom (lo : Int) (n : Nat) : List D := (List.range n).map fun (i : Nat) => PyData.int (lo + i)
theorem walk_r {K : PySem.W.Frag} {EX : Ext} {G : Hp} {lo : Int} {n : Nat} : Walk K EX (Itr lo n) G (intsFrom lo n) := fun EX' Gc H eb s R i => by
  refine ⟨fun h => by simpa [intsFrom, Itr] using h, fun d e => ?_⟩
  unfold intsFrom at e
  rw [List.getElem?_map] at e
  cases q : (List.range n)[i]? with
  | none => rw [q] at e; cases e
  | some j =>
    rw [q] at e
    cases e
    obtain ⟨h1, h2⟩ := List.getElem?_eq_some_iff.mp q
    rw [List.getElem_range] at h2
    subst h2
    refine ⟨(show i < n by simpa using h1), fun x H' y => ?_⟩
    obtain ⟨rfl, rfl⟩ := y
    exact ⟨Gc, R.refl, Dd.int _⟩
def wRange1 (wA : WA) : WD := fun ρ Φ => wA ρ fun ws => match ws with
  | [.d (.int j)] => (-(2 ^ 62) ≤ j ∧ j ≤ 1000000) ∧ Φ (intsFrom 0 j.toNat)
  | _ => False
def wRange2 (wA : WA) : WD := fun ρ Φ => wA ρ fun ws => match ws with
  | [.d (.int i), .d (.int j)] => (-(2 ^ 61) ≤ i ∧ i ≤ 2 ^ 61 ∧ -(2 ^ 61) ≤ j ∧ j ≤ i + 1000000) ∧ Φ (intsFrom i (j - i).toNat)
  | _ => False
theorem mil_le {n : Nat} (h : n ≤ 1000000) : n ≤ sizeLine := Nat.le_trans h (by rw [sizeLine_eq]; decide)
theorem mi_range1 (hm : X.mg "range" = none) (hg : Gl X "range" := by rfl) (ha : MA X [a] tA wA) (hs : starEach [a] X.env = [(false, eval a X.env)] := by rfl) : MI X tg (.Call (.Name "range" p) [a] [] pos) (iRng1 tA) (wRange1 wA) :=
  ⟨pi_range1 hg hm ha.pa hs, fun EX G H σ ρ Φ R f Q q => ha.so EX G H σ ρ _ R f _ fun vs G1 H1 rs S1 rv f1 => by
    split at f1
    · rename_i j
      obtain ⟨x, rfl, rx⟩ := rw1 rv
      refine ⟨j, by rw [rwInt rx], f1.1.1, by have := f1.1.2; omega, q _ G1 H1 _ S1 walk_r ?_ f1.2⟩
      unfold intsFrom
      rw [List.length_map, List.length_range]
      exact mil_le (by have := f1.1.2; omega)
    · exact f1.elim⟩
theorem mi_range2 (hm : X.mg "range" = none) (hg : Gl X "range" := by rfl) (ha : MA X [a, b] tA wA) (hs : starEach [a, b] X.env = [(false, eval a X.env), (false, eval b X.env)] := by rfl) (hs2 : starEach [b] X.env = [(false, eval b X.env)] := by rfl) :
    MI X tg (.Call (.Name "range" p) [a, b] [] pos) (iRng2 tA) (wRange2 wA) :=
  ⟨pi_range2 hg hm ha.pa hs hs2, fun EX G H σ ρ Φ R f Q q => ha.so EX G H σ ρ _ R f _ fun vs G1 H1 rs S1 rv f1 => by
    split at f1
    · rename_i i j
      obtain ⟨x, y, rfl, rx, ry⟩ := rw2 rv
      obtain ⟨⟨h1, h2, h3, h4⟩, f2⟩ := f1
      refine ⟨i, j, by rw [rwInt rx, rwInt ry], ⟨by omega, by omega, by omega, by omega⟩, q _ G1 H1 _ S1 walk_r ?_ f2⟩
      unfold intsFrom
      rw [List.length_map, List.length_range]
      exact mil_le (by omega)
    · exact f1.elim⟩
/-- zip of two lists, of two tuples -/
def pairD (d e : D) : D := .tuple [d, e]
def zipD : List D → List D → List D
  | x :: xs, y :: ys => pairD x y :: zipD xs ys
  | _, _ => []
theorem zipD_get : ∀ {xs ys : List D} {i : Nat} {d : D}, (zipD xs ys)[i]? = some d → ∃ x y, xs[i]? = some x ∧ ys[i]? = some y ∧ d = pairD x y
  | x :: xs, y :: ys, 0, d, e => by
    simp only [zipD, List.getElem?_cons_zero, Option.some.injEq] at e
    exact ⟨x, y, rfl, rfl, e.symm⟩
  | x :: xs, y :: ys, i + 1, d, e => by
    simp only [zipD, List.getElem?_cons_succ] at e
    obtain ⟨u, v, h1, h2, h3⟩ := zipD_get (i := i) e
    exact ⟨u, v, by simpa using h1, by simpa using h2, h3⟩
  | [], _, _, _, e => by simp [zipD] at e
  | _ :: _, [], _, _, e => by simp [zipD] at e
theorem zipD_len : ∀ xs ys : List D, (zipD xs ys).length = min xs.length ys.length
  | x :: xs, y :: ys => by simp only [zipD, List.length_cons, zipD_len xs ys]; omega
  | [], _ => by simp [zipD]
  | _ :: _, [] => by simp [zipD]
theorem walk_zl {K : PySem.W.Frag} {EX : Ext} {G : Hp} {a b : Addr} {vs us : List V} {ds es : List D} (g : G a = some (.lst vs)) (g' : G b = some (.lst us)) (dd : DdAll K G vs ds) (de : DdAll K G us es) : Walk K EX (Itz K a b) G (zipD ds es) := fun EX' Gc H eb s R i => by
  have ha : SqL K H a vs := .inl (.inl (R.sub _ _ (s _ _ g)))
  have hb : SqL K H b us := .inl (.inl (R.sub _ _ (s _ _ g')))
  refine ⟨fun h => ⟨vs, us, ha, hb, ?_⟩, fun d e => ?_⟩
  · rw [zipD_len] at h
    rw [dpLen dd, dpLen de]
    omega
  · obtain ⟨x, y, e1, e2, rfl⟩ := zipD_get e
    obtain ⟨v, q1, d1⟩ := dpGet dd e1
    obtain ⟨u, q2, d2⟩ := dpGet de e2
    refine ⟨⟨vs, us, v, u, ha, hb, q1, q2⟩, fun z H' y' => ?_⟩
    obtain ⟨T, x', y', rfl, nT, rfl, f1, f2⟩ := y'
    have ex : x' = v := Option.some.inj ((f1 _ ha).symm.trans q1)
    have ey : y' = u := Option.some.inj ((f2 _ hb).symm.trans q2)
    subst ex ey
    have S := R.new (p := T) (o := .tup [x', y']) nT
    exact ⟨_, S, Dd.tup upd_same (.cons (dpMono (s.trans S.gg) _ _ d1) (.cons (dpMono (s.trans S.gg) _ _ d2) .nil))⟩
theorem walk_zt {K : PySem.W.Frag} {EX : Ext} {G : Hp} {a b : Addr} {vs us : List V} {ds es : List D} (g : G a = some (.tup vs)) (g' : G b = some (.tup us)) (dd : DdAll K G vs ds) (de : DdAll K G us es) : Walk K EX (RZ.ItzT K a b) G (zipD ds es) := fun EX' Gc H eb s R i => by
  have ha : SqT K H a vs := .inl (.inl (R.sub _ _ (s _ _ g)))
  have hb : SqT K H b us := .inl (.inl (R.sub _ _ (s _ _ g')))
  refine ⟨fun h => ⟨vs, us, ha, hb, ?_⟩, fun d e => ?_⟩
  · rw [zipD_len] at h
    rw [dpLen dd, dpLen de]
    omega
  · obtain ⟨x, y, e1, e2, rfl⟩ := zipD_get e
    obtain ⟨v, q1, d1⟩ := dpGet dd e1
    obtain ⟨u, q2, d2⟩ := dpGet de e2
    refine ⟨⟨vs, us, v, u, ha, hb, q1, q2⟩, fun z H' y' => ?_⟩
    obtain ⟨T, x', y', rfl, nT, rfl, f1, f2⟩ := y'
    have ex : x' = v := Option.some.inj ((f1 _ ha).symm.trans q1)
    have ey : y' = u := Option.some.inj ((f2 _ hb).symm.trans q2)
    subst ex ey
    have S := R.new (p := T) (o := .tup [x', y']) nT
    exact ⟨_, S, Dd.tup upd_same (.cons (dpMono (s.trans S.gg) _ _ d1) (.cons (dpMono (s.trans S.gg) _ _ d2) .nil))⟩
def wZip (wA : WA) : WD := fun ρ Φ => wA ρ fun ws => match ws with
  | [.d (.list x), .d (.list y)] => Φ (zipD x y)
  | [.d (.tuple x), .d (.tuple y)] => Φ (zipD x y)
  | _ => False
/-- the lengths are bounded behind the arguments -/
def bdA (K : PySem.W.Frag) (t : TA) : TA := fun σ H Q => t σ H fun vs H1 => Bd K H1 → Q vs H1
theorem pa_bd {es : List Expr} {t : TA} (h : PA X es t) : PA X es (bdA X.K t) := ⟨fun pos pins s σ H Q I q => thn (h.run pos pins s σ H _ I q) fun us s1 ⟨vs, H1, I1, r1, q1⟩ => ⟨vs, H1, I1, r1, q1 (bd_of I1)⟩⟩
theorem mi_zip {elts : List Expr} {kk : Nat} {tpos : Pos} (hm : X.mg "zip" = none) (hg : Gl X "zip" := by rfl) (ha : MA X [a, b] tA wA)
    (hs : starEach [a, b] X.env = (false, eval a X.env) :: starEach [b] X.env := by rfl) (hpl : (backTo pos (starEach [b] X.env)).any (·.1) = false := by rfl) :
    MI X (.Tuple elts kk tpos) (.Call (.Name "zip" p) [a, b] [] pos) (RZ.iZipA X.K (bdA X.K tA)) (wZip wA) :=
  ⟨RZ.pi_zipA hg hm (pa_bd ha.pa) hs hpl, fun EX G H σ ρ Φ R f Q q => ha.so EX G H σ ρ _ R f _ fun vs G1 H1 rs S1 rv f1 bd => by
    have R1 := R.toGd.step S1
    split at f1
    · obtain ⟨x, y, rfl, rx, ry⟩ := rw2 rv
      obtain ⟨a, xs, rfl, g, dd⟩ := rwLst rx
      obtain ⟨b, ys, rfl, g', de⟩ := rwLst ry
      have ha : SqL X.K H1 a xs := .inl (.inl (R1.sub _ _ g))
      refine ⟨a, b, xs, ys, rfl, .inl ⟨ha, .inl (.inl (R1.sub _ _ g')), q _ G1 H1 _ S1 (walk_zl g g' dd de) ?_ f1⟩⟩
      rw [zipD_len, ← dpLen dd]
      exact Nat.le_trans (Nat.min_le_left _ _) (bd.l _ _ ha)
    · obtain ⟨x, y, rfl, rx, ry⟩ := rw2 rv
      obtain ⟨a, xs, rfl, g, dd⟩ := rwTup rx
      obtain ⟨b, ys, rfl, g', de⟩ := rwTup ry
      have ha : SqT X.K H1 a xs := .inl (.inl (R1.sub _ _ g))
      refine ⟨a, b, xs, ys, rfl, .inr ⟨ha, .inl (.inl (R1.sub _ _ g')), q _ G1 H1 _ S1 (walk_zt g g' dd de) ?_ f1⟩⟩
      rw [zipD_len, ← dpLen dd]
      exact Nat.le_trans (Nat.min_le_left _ _) (bd.t _ _ ha)
    · exact f1.elim⟩
/-- enumerate of a list -/
def enumD : Nat → List D → List D
  | _, [] => []
  | n, x :: xs => pairD (.int n) x :: enumD (n + 1) xs
theorem enumD_get : ∀ {xs : List D} {n i : Nat} {d : D}, (enumD n xs)[i]? = some d → ∃ x, xs[i]? = some x ∧ d = pairD (.int ((n + i : Nat) : Int)) x
  | x :: xs, n, 0, d, e => by
    simp only [enumD, List.getElem?_cons_zero, Option.some.injEq] at e
    exact ⟨x, rfl, by rw [Nat.add_zero]; exact e.symm⟩
  | x :: xs, n, i + 1, d, e => by
    simp only [enumD, List.getElem?_cons_succ] at e
    obtain ⟨u, h1, h2⟩ := enumD_get (i := i) e
    exact ⟨u, by simpa using h1, by rw [h2]; congr 2; omega⟩
  | [], _, _, _, e => by simp [enumD] at e
theorem enumD_len : ∀ (xs : List D) (n : Nat), (enumD n xs).length = xs.length
  | [], _ => rfl
  | x :: xs, n => by simp only [enumD, List.length_cons, enumD_len xs]
theorem walk_e {K : PySem.W.Frag} {EX : Ext} {G : Hp} {a : Addr} {vs : List V} {ds : List D} (g : G a = some (.lst vs)) (dd : DdAll K G vs ds) : Walk K EX (Ite K a) G (enumD 0 ds) := fun EX' Gc H eb s R i => by
  have ha : SqL K H a vs := .inl (.inl (R.sub _ _ (s _ _ g)))
  refine ⟨fun h => ⟨vs, ha, ?_⟩, fun d e => ?_⟩
  · rw [enumD_len] at h
    rw [dpLen dd]
    exact h
  · obtain ⟨x, e1, rfl⟩ := enumD_get e
    obtain ⟨v, q1, d1⟩ := dpGet dd e1
    refine ⟨⟨vs, v, ha, q1⟩, fun z H' y' => ?_⟩
    obtain ⟨T, x', rfl, nT, rfl, f1⟩ := y'
    have ex : x' = v := Option.some.inj ((f1 _ ha).symm.trans q1)
    subst ex
    have S := R.new (p := T) (o := .tup [.int (i : Nat), x']) nT
    exact ⟨_, S, Dd.tup upd_same (.cons (by rw [Nat.zero_add]; exact Dd.int _) (.cons (dpMono (s.trans S.gg) _ _ d1) .nil))⟩
def wEnum (wA : WA) : WD := fun ρ Φ => wA ρ fun ws => match ws with
  | [.d (.list x)] => Φ (enumD 0 x)
  | _ => False
theorem mi_enum {elts : List Expr} {kk : Nat} {tpos : Pos} (hm : X.mg "enumerate" = none) (hg : Gl X "enumerate" := by rfl) (ha : MA X [a] tA wA) (hs : starEach [a] X.env = [(false, eval a X.env)] := by rfl) :
    MI X (.Tuple elts kk tpos) (.Call (.Name "enumerate" p) [a] [] pos) (iEnum X.K (bdA X.K tA)) (wEnum wA) :=
  ⟨pi_enum hg hm (pa_bd ha.pa) hs, fun EX G H σ ρ Φ R f Q q => ha.so EX G H σ ρ _ R f _ fun vs G1 H1 rs S1 rv f1 bd => by
    have R1 := R.toGd.step S1
    split at f1
    · obtain ⟨x, rfl, rx⟩ := rw1 rv
      obtain ⟨a, xs, rfl, g, dd⟩ := rwLst rx
      have ha : SqL X.K H1 a xs := .inl (.inl (R1.sub _ _ g))
      refine ⟨a, xs, rfl, ha, q _ G1 H1 _ S1 (walk_e g dd) ?_ f1⟩
      rw [enumD_len, ← dpLen dd]
      exact bd.l _ _ ha
    · exact f1.elim⟩
end

/-! ### targets -/
abbrev WG := W → Rh → (Rh → Prop) → Prop
abbrev WGs := List D → Rh → (Rh → Prop) → Prop
structure Kept (sl : List Nat) (σ σ' : L2.St) (ρ ρ' : Rh) : Prop where
  own : ∀ b, Own σ' ρ' b → Own σ ρ b
  out : ∀ j, j ∉ sl → σ'[j]? = σ[j]?
  len : σ'.length = σ.length
theorem Kept.refl {sl : List Nat} {σ : L2.St} {ρ : Rh} : Kept sl σ σ ρ ρ := ⟨fun _ h => h, fun _ _ => rfl, rfl⟩
theorem Kept.trans {sl : List Nat} {σ σ1 σ2 : L2.St} {ρ ρ1 ρ2 : Rh} (a : Kept sl σ σ1 ρ ρ1) (b : Kept sl σ1 σ2 ρ1 ρ2) : Kept sl σ σ2 ρ ρ2 :=
  ⟨fun c h => a.own c (b.own c h), fun j h => (b.out j h).trans (a.out j h), b.len.trans a.len⟩
theorem Kept.mono {sl sl' : List Nat} {σ σ' : L2.St} {ρ ρ' : Rh} (a : Kept sl σ σ' ρ ρ') (h : ∀ j ∈ sl, j ∈ sl') : Kept sl' σ σ' ρ ρ' := ⟨a.own, fun j hj => a.out j fun z => hj (h j z), a.len⟩
def SoG (K : PySem.W.Frag) (g : TG) (w : WG) (sl : List Nat) : Prop := ∀ (EX : Ext) (G H : Hp) (σ : L2.St) (ρ : Rh) (v : V) (r : W) (Φ : Rh → Prop), Rel K EX G H σ ρ → Rw K EX G v r → w r ρ Φ →
  ∀ Q : L2.St → Hp → Prop, (∀ σ' ρ', Rel K EX G H σ' ρ' → Kept sl σ σ' ρ ρ' → Φ ρ' → Q σ' H) → g v σ H Q
structure MG (X : Cx) (tg : Expr) (g : TG) (w : WG) (sl : List Nat) : Prop where
  pg : PG X tg g
  so : SoG X.K g w sl
def SoGs (K : PySem.W.Frag) (g : TGs) (w : WGs) (sl : List Nat) : Prop := ∀ (EX : Ext) (G H : Hp) (σ : L2.St) (ρ : Rh) (vs : List V) (ds : List D) (Φ : Rh → Prop), Rel K EX G H σ ρ → DdAll K G vs ds → w ds ρ Φ →
  ∀ Q : L2.St → Hp → Prop, (∀ σ' ρ', Rel K EX G H σ' ρ' → Kept sl σ σ' ρ ρ' → Φ ρ' → Q σ' H) → g vs σ H Q
structure MGs (X : Cx) (ts : List Expr) (g : TGs) (w : WGs) (sl : List Nat) : Prop where
  pg : PGs X ts g
  so : SoGs X.K g w sl
/-- a slot is given a value -/
theorem Rel.set {K : PySem.W.Frag} {EX : Ext} {G H : Hp} {σ : L2.St} {ρ : Rh} (R : Rel K EX G H σ ρ) (i : Nat) {v : V} {r : W} (h : Rw K EX G v r) : Rel K EX G H (σ.set i (some v)) (ρ.set i (.sh r)) where
  toGd := R.toGd
  sl := fun j s e => by
    by_cases hj : j = i
    · subst hj
      have hl : j < ρ.length := by
        have := (List.getElem?_eq_some_iff.mp e).1
        simpa using this
      rw [List.getElem?_set_self hl] at e
      cases e
      rw [List.getElem?_set_self (by rw [R.len]; exact hl)]
      exact slSh h
    · rw [List.getElem?_set_ne (Ne.symm hj)] at e ⊢
      exact R.sl j s e
  df := fun j k m m' a1 a2 b e e' q1 q2 b1 b2 => by
    have hj : j ≠ i := fun z => by
      subst z
      have hl : j < ρ.length := by
        have := (List.getElem?_eq_some_iff.mp e).1
        simpa using this
      rw [List.getElem?_set_self hl] at e
      cases e
    have hk : k ≠ i := fun z => by
      subst z
      have hl : k < ρ.length := by
        have := (List.getElem?_eq_some_iff.mp e').1
        simpa using this
      rw [List.getElem?_set_self hl] at e'
      cases e'
    rw [List.getElem?_set_ne (Ne.symm hj)] at e q1
    rw [List.getElem?_set_ne (Ne.symm hk)] at e' q2
    exact R.df j k m m' a1 a2 b e e' q1 q2 b1 b2
  len := by rw [List.length_set, List.length_set, R.len]
theorem own_set {σ : L2.St} {ρ : Rh} {i : Nat} {v : Option V} {r : W} {b : Addr} (h : Own (σ.set i v) (ρ.set i (.sh r)) b) : Own σ ρ b := by
  obtain ⟨j, m, a, e1, e2, e3⟩ := h
  have hj : j ≠ i := fun z => by
    subst z
    have hl : j < ρ.length := by
      have := (List.getElem?_eq_some_iff.mp e1).1
      simpa using this
    rw [List.getElem?_set_self hl] at e1
    cases e1
  rw [List.getElem?_set_ne (Ne.symm hj)] at e1 e2
  exact ⟨j, m, a, e1, e2, e3⟩
theorem kept_set {σ : L2.St} {ρ : Rh} (i : Nat) {v : Option V} {r : W} : Kept [i] σ (σ.set i v) ρ (ρ.set i (.sh r)) :=
  ⟨fun _ h => own_set h, fun j hj => List.getElem?_set_ne (Ne.symm (by simpa using hj)), List.length_set⟩
def wgName (i : Nat) : WG := fun r ρ Φ => Φ (ρ.set i (.sh r))
section
variable {X : Cx} {pos : Pos}
theorem mg_name (i : Nat) {x : Str} (hN : X.N.Nodup) (hi : X.N[i]? = some x := by rfl) (hx : Loc X.env.scope x := by first | exact Or.inl rfl | exact Or.inr rfl) (hf : X.fn x = true ∨ X.env.scope.names.lookup x = some .local := by first | exact .inl rfl | exact .inr rfl) :
    MG X (.Name x pos) (gName i) (wgName i) [i] := ⟨pg_name hN hi hx hf, fun EX G H σ ρ v r Φ R rv f Q q => q _ _ (R.set i rv) (kept_set i) f⟩
def wgNil : WGs := fun ds ρ Φ => ds = [] ∧ Φ ρ
def wgCons (w : WG) (u : WGs) : WGs := fun ds ρ Φ => match ds with
  | d :: r => w (.d d) ρ fun ρ' => u r ρ' Φ
  | [] => False
theorem mgs_nil : MGs X [] gNil wgNil [] := ⟨pgs_nil, fun EX G H σ ρ vs ds Φ R dd f Q q => by
  obtain ⟨rfl, f⟩ := f
  cases dd
  exact ⟨rfl, q σ ρ R Kept.refl f⟩⟩
theorem mgs_cons {e : Expr} {es : List Expr} {g : TG} {gs : TGs} {w : WG} {u : WGs} {sl sl' : List Nat} (h : MG X e g w sl) (h2 : MGs X es gs u sl')
    (hs : (assignEach (e :: es) X.env).map (·.2) = assign e X.env :: (assignEach es X.env).map (·.2) := by rfl) : MGs X (e :: es) (gCons g gs) (wgCons w u) (sl ++ sl') := ⟨pgs_cons h.pg h2.pg hs, fun EX G H σ ρ vs ds Φ R dd f Q q => by
  cases ds with
  | nil => exact False.elim f
  | cons d r =>
    cases dd with
    | cons d1 d2 =>
      refine ⟨_, _, rfl, h.so EX G H σ ρ _ (.d d) _ R d1 f _ fun σ1 ρ1 R1 k1 f1 => h2.so EX G H σ1 ρ1 _ r _ R1 d2 f1 _ fun σ2 ρ2 R2 k2 f2 => ?_⟩
      exact q σ2 ρ2 R2 ((k1.mono fun j hj => List.mem_append_left _ hj).trans (k2.mono fun j hj => List.mem_append_right _ hj)) f2⟩
def wgTup (n : Nat) (u : WGs) : WG := fun r ρ Φ => match r with
  | .d (.tuple ds) => ds.length = n ∧ u ds ρ Φ
  | _ => False
theorem mg_tup {es : List Expr} {k n : Nat} {gs : TGs} {u : WGs} {sl : List Nat} (h : MGs X es gs u sl) (hc : X.calm = true := by rfl) (hn : (assignEach es X.env).length = n := by rfl) (hst : (assignEach es X.env).findIdx? (·.1) = none := by rfl) :
    MG X (.Tuple es k pos) (gTup X.K n gs) (wgTup n u) sl := ⟨pg_tup hc h.pg hn hst, fun EX G H σ ρ v r Φ R rv f Q q => by
  unfold wgTup at f
  split at f
  · obtain ⟨a, xs, e, g, dd⟩ := rwTup rv
    exact ⟨a, xs, e, .inl (.inl (R.sub _ _ g)), by rw [dpLen dd]; exact f.1, h.so EX G H σ ρ xs _ Φ R dd f.2 Q q⟩
  · exact f.elim⟩
end
end Pd
end

section
set_option Elab.async false
set_option linter.all false
set_option maxRecDepth 100000
set_option autoImplicit false
set_option maxHeartbeats 1000000
/-! Pd, comprehensions; statements -/
namespace Pd
open PySem PySem.Spec PyProof.Rows L2

/-! ### comprehensions -/
def wipeR (ρ : Rh) : List Nat → Rh
  | [] => ρ
  | v :: vs => (wipeR ρ vs).set v .un
theorem wipeR_length (ρ : Rh) : ∀ vs : List Nat, (wipeR ρ vs).length = ρ.length
  | [] => rfl
  | v :: vs => by unfold wipeR; rw [List.length_set, wipeR_length ρ vs]
theorem wipeR_in {ρ : Rh} {i : Nat} {s : Sl} : ∀ {vs : List Nat}, (wipeR ρ vs)[i]? = some s → s = .un ∨ (i ∉ vs ∧ ρ[i]? = some s)
  | [], h => .inr ⟨by simp, h⟩
  | v :: vs, h => by
    unfold wipeR at h
    by_cases e : i = v
    · subst e
      have hl : i < (wipeR ρ vs).length := by
        have := (List.getElem?_eq_some_iff.mp h).1
        simpa using this
      rw [List.getElem?_set_self hl] at h
      cases h
      exact .inl rfl
    · rw [List.getElem?_set_ne (Ne.symm e)] at h
      rcases wipeR_in h with q | ⟨q1, q2⟩
      · exact .inl q
      · exact .inr ⟨by simp [e, q1], q2⟩
theorem Rel.wipe {K : PySem.W.Frag} {EX : Ext} {G H : Hp} {σ : L2.St} {ρ : Rh} (R : Rel K EX G H σ ρ) (vs : List Nat) : Rel K EX G H (wipe σ vs) (wipeR ρ vs) where
  toGd := R.toGd
  sl := fun i s e => by
    rcases wipeR_in e with rfl | ⟨q1, q2⟩
    · exact slUn
    · rw [wipe_out q1]
      exact R.sl i s q2
  df := fun i j m m' a1 a2 b e e' q p b1 b2 => by
    rcases wipeR_in e with z | ⟨q1, q2⟩
    · cases z
    · rcases wipeR_in e' with z | ⟨q3, q4⟩
      · cases z
      · rw [wipe_out q1] at q
        rw [wipe_out q3] at p
        exact R.df i j m m' a1 a2 b q2 q4 q p b1 b2
  len := by rw [wipe_length, wipeR_length, R.len]
theorem wipe_same {σ σ' : L2.St} {sl vs : List Nat} (h : ∀ j, j ∉ sl → σ'[j]? = (wipe σ vs)[j]?) (hl : σ'.length = (wipe σ vs).length) (hs : ∀ j ∈ sl, j ∈ vs) : wipe σ' vs = wipe σ vs := by
  have key : ∀ (τ : L2.St) (us : List Nat) (j : Nat), j ∈ us → j < τ.length → (wipe τ us)[j]? = some none := by
    intro τ us
    induction us with
    | nil => intro j hj; cases hj
    | cons u us ih =>
      intro j hj hl
      unfold wipe
      by_cases e : j = u
      · subst e
        rw [List.getElem?_set_self (by rw [wipe_length]; exact hl)]
      · rw [List.getElem?_set_ne (Ne.symm e)]
        exact ih j ((List.mem_cons.mp hj).resolve_left e) hl
  refine List.ext_getElem? fun j => ?_
  by_cases hj : j ∈ vs
  · by_cases hb : j < σ.length
    · rw [key σ vs j hj hb, key σ' vs j hj (by rw [hl, wipe_length]; exact hb)]
    · rw [List.getElem?_eq_none (by rw [wipe_length, hl, wipe_length]; omega), List.getElem?_eq_none (by rw [wipe_length]; omega)]
  · rw [wipe_out hj]
    exact h j fun z => hj (hs j z)
def compW (wg : WG) (wt : WT) (we : WE) : List D → Rh → List D → (List D → Prop) → Prop
  | [], _, acc, Φ => Φ acc
  | d :: ds, ρ, acc, Φ => wg (.d d) ρ fun ρ' => wt ρ' fun k => if k = true then we ρ' fun r => (match r with
      | .d x => compW wg wt we ds ρ (acc ++ [x]) Φ
      | _ => False) else compW wg wt we ds ρ acc Φ
def wLc (wi : WD) (wg : WG) (wt : WT) (we : WE) (vs : List Nat) : WD := fun ρ Φ => wi ρ fun ds => compW wg wt we ds (wipeR ρ vs) [] Φ
theorem Step.cell {EX : Ext} {G H G1 H1 : Hp} {D : Addr} {o : HO} (S : Step EX G H G1 H1) (hD : H D = none) (hb : ¬ EX D .box) (hg : G1 D = none) : Step EX G H G1 (upd H1 D o) where
  st := fun b u h => by
    rcases S.st b u h with z | z
    · exact .inl z
    · refine .inr ?_
      rw [upd_ne (ne_of_none h hD)]
      exact z
  bx := fun b h => by
    have e : b ≠ D := fun e => hb (e ▸ h)
    obtain ⟨i, j, k, q⟩ := S.bx b h
    exact ⟨i, j, k, by rw [upd_ne e]; exact q⟩
  gg := S.gg
  sub := fun b u h => by
    have e : b ≠ D := fun e => by rw [e, hg] at h; cases h
    rw [upd_ne e]
    exact S.sub b u h
  gn := S.gn
  ex := S.ex
theorem so_lc {K : PySem.W.Frag} {wi : TI} {g : TG} {tt : TT} {te : TE} {vs sl : List Nat} {ui : WD} {ug : WG} {ut : WT} {ue : WE} (hi : SoI K wi ui) (hg : SoG K g ug sl) (ht : SoT K tt ut) (he : SoE K te ue) (hs : ∀ j ∈ sl, j ∈ vs) :
    SoL K (tLc wi g tt te vs) (wLc ui ug ut ue vs) := fun EX G H σ ρ Φ R f Q q => hi EX G H σ ρ _ R f _ fun J G1 H1 ds S1 Wk hz f1 => by
  intro D hD
  have R1 := R.toGd.step S1
  have nb := R1.notBox hD
  have gD := R1.free hD
  refine ⟨fun i m H' => m = ds.length - i ∧ i ≤ ds.length ∧ ∃ Gc acc us, Step EX G1 H1 Gc H' ∧ H' D = some (.lst us) ∧ DdAll K Gc us acc ∧ Gc D = none ∧ acc.length ≤ i ∧ compW ug ut ue (ds.drop i) (wipeR ρ vs) acc Φ,
    ⟨ds.length, rfl, Nat.zero_le _, G1, [], [], R1.newOut hD, upd_same, .nil, gD, Nat.le_refl _, by rw [List.drop_zero]; exact f1⟩, ?_⟩
  rintro i m H' ⟨rfl, hi', Gc, acc, us, S2, hH, da, gc, hl, cw⟩
  have R2 := R1.step S2
  obtain ⟨w1, w2⟩ := Wk EX Gc H' (fun _ _ h => h) S2.gg R2 i
  by_cases hlt : i < ds.length
  · have e : ds[i]? = some ds[i] := List.getElem?_eq_getElem hlt
    obtain ⟨go, w3⟩ := w2 _ e
    refine .inr ⟨go, fun H'' => i + 1 ≤ ds.length ∧ ∃ Gc acc us, Step EX G1 H1 Gc H'' ∧ H'' D = some (.lst us) ∧ DdAll K Gc us acc ∧ Gc D = none ∧ acc.length ≤ i + 1 ∧ compW ug ut ue (ds.drop (i + 1)) (wipeR ρ vs) acc Φ, fun H'' ⟨n1, n2⟩ => ⟨ds.length - (i + 1), by omega, rfl, n1, n2⟩, fun x H3 hy => ?_⟩
    obtain ⟨G3, S3, dx⟩ := w3 x H3 hy
    rw [List.drop_eq_getElem_cons hlt] at cw
    have Rr := ((R.step S1).step S2).step S3
    refine hg EX G3 H3 _ _ x (.d ds[i]) _ (Rr.wipe vs) dx cw _ fun σ' ρ' R' k' f2 => ⟨wipe_same (sl := sl) k'.out k'.len hs, ?_⟩
    have S123 := S2.trans S3
    have keep : ∀ {G4 H4 : Hp}, Step EX G3 H3 G4 H4 → H4 D = some (.lst us) ∧ G4 D = none := fun {G4 H4} S4 => by
      have h3 : H3 D = some (.lst us) := (S3.st D _ hH).resolve_left nb
      refine ⟨(S4.st D _ h3).resolve_left nb, ?_⟩
      cases z : G4 D with
      | none => rfl
      | some o =>
        rcases S4.gn D o z with y | y
        · rcases S3.gn D o y with y | y
          · rw [gc] at y; cases y
          · rw [hH] at y; cases y
        · rw [h3] at y; cases y
    refine ht EX G3 H3 σ' ρ' _ R' f2 _ fun b G4 H4 S4 f3 => ?_
    cases b with
    | false =>
      simp only [Bool.false_eq_true, if_false] at f3 ⊢
      obtain ⟨k1, k2⟩ := keep S4
      exact ⟨hlt, G4, acc, us, S123.trans S4, k1, dpsMono (S3.trans S4).gg _ _ da, k2, by omega, f3⟩
    | true =>
      simp only [if_true] at f3 ⊢
      refine he EX G4 H4 σ' ρ' _ (R'.step S4) f3 _ fun y G5 H5 r S5 ry f4 => ?_
      obtain ⟨k1, k2⟩ := keep (S4.trans S5)
      split at f4
      · rename_i z
        refine ⟨us, k1, by rw [dpLen da]; omega, hlt, G5, acc ++ [z], us ++ [y], ((S123.trans S4).trans S5).cell hD nb k2, upd_same, dpApp (dpsMono ((S3.trans S4).trans S5).gg _ _ da) (dpOne ry), k2, by rw [List.length_append]; simp; omega, f4⟩
      · exact f4.elim
  · have e : i = ds.length := by omega
    subst e
    rw [List.drop_length] at cw
    have S := S1.trans S2
    have hD0 : H D = none := S1.fresh hD
    exact .inl ⟨w1 (Nat.le_refl _), q D us Gc H' acc S hD0 gc nb hH da cw⟩
section
variable {X : Cx} {e tg iter elt a b c : Expr} {es : List Expr} {pos pos' spos : Pos}
/-- a clause's tests: none, one -/
structure MTs (X : Cx) (ifs : List Expr) (t : TT) (w : WT) : Prop where
  pt : PTs X ifs t
  so : SoT X.K t w
def wYes : WT := fun _ Φ => Φ true
theorem mts_nil : MTs X [] tYes wYes := ⟨pts_nil, fun EX G H σ ρ Φ R f Q q => q true G H R.refl f⟩
theorem mts_one {t : TT} {w : WT} (h : MT X c t w) : MTs X [c] t w := ⟨pts_one h.pt, h.so⟩
theorem ml_lc {ifs : List Expr} {scope : Scope} {wi : TI} {g : TG} {tt : TT} {te : TE} {ui : WD} {ug : WG} {ut : WT} {ue : WE} {sl : List Nat} (own : List (Str × Nat)) (hN : X.N.Nodup) (hi : MI X tg iter wi ui) (ok : BlkOk X.N X.env.scope scope own)
    (hg : ∀ (s : Shared) (H : Hp) (C : Addr) (cl : List (Str × Addr)) (fp : List Addr), MG (X.blk s H scope (compEnvC scope cl C X.env) fp) tg g ug sl)
    (ht : ∀ (s : Shared) (H : Hp) (C : Addr) (cl : List (Str × Addr)) (fp : List Addr), MTs (X.blk s H scope (compEnvC scope cl C X.env) fp) ifs tt ut)
    (he : ∀ (s : Shared) (H : Hp) (C : Addr) (cl : List (Str × Addr)) (fp : List Addr), ME (X.blk s H scope (compEnvC scope cl C X.env) fp) elt te ue)
    (hsl : ∀ j ∈ sl, j ∈ own.map (·.2) := by decide) (hc : X.calm = true := by rfl) (hs : ∀ x, foldedSetIterable iter X.env x = pure x := by intro _; rfl) :
    ML X (.ListComp elt [⟨tg, iter, ifs, 0⟩] scope pos) (tLc wi g tt te (own.map (·.2))) (wLc ui ug ut ue (own.map (·.2))) :=
  ⟨pe_lc hc hN hi.pi ok (fun s H C cl fp => (hg s H C cl fp).pg) (fun s H C cl fp => (ht s H C cl fp).pt) (fun s H C cl fp => (he s H C cl fp).pe) hs,
    so_lc hi.so (hg {} (fun _ => none) 0 [] []).so (ht {} (fun _ => none) 0 [] []).so (he {} (fun _ => none) 0 [] []).so hsl⟩
end
end Pd
end

section
set_option Elab.async false
set_option linter.all false
set_option maxRecDepth 100000
set_option autoImplicit false
set_option maxHeartbeats 1000000
/-! Pd, statements -/
namespace Pd
open PySem PySem.Spec PyProof.Rows L2

structure Ps where
  nx : Rh → Prop
  rt : W → Prop
  bk : Rh → Prop
  ct : Rh → Prop
abbrev WS := Rh → Ps → Prop
/-- from a statement's start to its end; O: what the slots owned -/
structure SStep (EX : Ext) (O : Addr → Prop) (G H : Hp) (EX' : Ext) (G' H' : Hp) : Prop where
  st : ∀ b o, H b = some o → EX b .box ∨ O b ∨ H' b = some o
  bb : ∀ b k, EX b k → EX' b k
  bn : ∀ b, EX' b .box → EX b .box ∨ H b = none ∨ O b
  gg : Same G G'
  gn : ∀ b o, G' b = some o → G b = some o ∨ H b = none ∨ O b
structure EndsOk (K : PySem.W.Frag) (EX : Ext) (O : Addr → Prop) (G H : Hp) (P : Ps) (D : Ends) : Prop where
  nx : ∀ EX' G' H' σ' ρ', SStep EX O G H EX' G' H' → Rel K EX' G' H' σ' ρ' → (∀ b, Own σ' ρ' b → O b ∨ H b = none) → P.nx ρ' → D.nx σ' H'
  bk : ∀ EX' G' H' σ' ρ', SStep EX O G H EX' G' H' → Rel K EX' G' H' σ' ρ' → (∀ b, Own σ' ρ' b → O b ∨ H b = none) → P.bk ρ' → D.bk σ' H'
  ct : ∀ EX' G' H' σ' ρ', SStep EX O G H EX' G' H' → Rel K EX' G' H' σ' ρ' → (∀ b, Own σ' ρ' b → O b ∨ H b = none) → P.ct ρ' → D.ct σ' H'
  rt : ∀ EX' G' H' v r, SStep EX O G H EX' G' H' → Gd K EX' G' H' → Rw K EX' G' v r → P.rt r → D.rt v H'
def SoS (K : PySem.W.Frag) (t : TS) (w : WS) : Prop := ∀ (EX : Ext) (G H : Hp) (σ : L2.St) (ρ : Rh) (P : Ps), Rel K EX G H σ ρ → w ρ P → ∀ D : Ends, EndsOk K EX (Own σ ρ) G H P D → t D σ H
structure MS (X : Cx) (st : Stmt) (t : TS) (w : WS) : Prop where
  ps : PS X st t
  so : SoS X.K t w
structure MSs (X : Cx) (st : List Stmt) (t : TS) (w : WS) : Prop where
  ps : PSs X st t
  so : SoS X.K t w

section
variable {K : PySem.W.Frag} {EX EX1 EX2 : Ext} {G H G1 H1 G2 H2 : Hp} {σ σ1 : L2.St} {ρ ρ1 : Rh} {O O1 : Addr → Prop} {P : Ps} {D : Ends}
theorem SStep.refl : SStep EX O G H EX G H := ⟨fun _ _ h => .inr (.inr h), fun _ _ h => h, fun _ h => .inl h, Same.refl G, fun _ _ h => .inl h⟩
theorem Step.s (S : Step EX G H G1 H1) : SStep EX O G H EX G1 H1 := ⟨fun b o h => (S.st b o h).imp _root_.id .inr, fun _ _ h => h, fun _ h => .inl h, S.gg, fun b o h => (S.gn b o h).imp _root_.id .inl⟩
theorem SStep.fresh (a : SStep EX O G H EX1 G1 H1) (bx : ∀ b, EX1 b .box → BoxAt H1 b) {p : Addr} (h : H1 p = none) : H p = none ∨ O p := by
  cases e : H p with
  | none => exact .inl rfl
  | some u =>
    rcases a.st p u e with z | z | z
    · obtain ⟨o', z'⟩ := boxThere (bx p (a.bb p _ z))
      rw [h] at z'; cases z'
    · exact .inr z
    · rw [h] at z; cases z
theorem SStep.trans (a : SStep EX O G H EX1 G1 H1) (R : Gd K EX1 G1 H1) (o : ∀ b, O1 b → O b ∨ H b = none) (b : SStep EX1 O1 G1 H1 EX2 G2 H2) : SStep EX O G H EX2 G2 H2 where
  st := fun c u h => by
    rcases a.st c u h with q | q | q
    · exact .inl q
    · exact .inr (.inl q)
    · rcases b.st c u q with z | z | z
      · rcases a.bn c z with y | y | y
        · exact .inl y
        · rw [h] at y; cases y
        · exact .inr (.inl y)
      · rcases o c z with y | y
        · exact .inr (.inl y)
        · rw [h] at y; cases y
      · exact .inr (.inr z)
  bb := fun c k h => b.bb c k (a.bb c k h)
  bn := fun c h => by
    rcases b.bn c h with q | q | q
    · exact a.bn c q
    · rcases a.fresh R.bx q with z | z
      · exact .inr (.inl z)
      · exact .inr (.inr z)
    · rcases o c q with y | y
      · exact .inr (.inr y)
      · exact .inr (.inl y)
  gg := a.gg.trans b.gg
  gn := fun c u h => by
    rcases b.gn c u h with q | q | q
    · exact a.gn c u q
    · rcases a.fresh R.bx q with z | z
      · exact .inr (.inl z)
      · exact .inr (.inr z)
    · rcases o c q with y | y
      · exact .inr (.inr y)
      · exact .inr (.inl y)
theorem own_trans (a : SStep EX O G H EX1 G1 H1) (R : Gd K EX1 G1 H1) (o : ∀ b, O1 b → O b ∨ H b = none) {O2 : Addr → Prop} (h : ∀ b, O2 b → O1 b ∨ H1 b = none) : ∀ b, O2 b → O b ∨ H b = none := fun b q => by
  rcases h b q with z | z
  · exact o b z
  · exact (a.fresh R.bx z).symm
theorem EndsOk.from (E : EndsOk K EX O G H P D) (S : SStep EX O G H EX1 G1 H1) (R : Gd K EX1 G1 H1) (o : ∀ b, O1 b → O b ∨ H b = none) : EndsOk K EX1 O1 G1 H1 P D where
  nx := fun EX' G' H' σ' ρ' S' R' o' h => E.nx EX' G' H' σ' ρ' (S.trans R o S') R' (own_trans S R o o') h
  bk := fun EX' G' H' σ' ρ' S' R' o' h => E.bk EX' G' H' σ' ρ' (S.trans R o S') R' (own_trans S R o o') h
  ct := fun EX' G' H' σ' ρ' S' R' o' h => E.ct EX' G' H' σ' ρ' (S.trans R o S') R' (own_trans S R o o') h
  rt := fun EX' G' H' v r S' R' rv h => E.rt EX' G' H' v r (S.trans R o S') R' rv h
/-- behind an expression -/
theorem EndsOk.step (E : EndsOk K EX O G H P D) (R : Gd K EX G H) (S : Step EX G H G1 H1) : EndsOk K EX O G1 H1 P D := E.from S.s (R.step S) fun _ h => .inl h
end

section
variable {X : Cx} {st : Stmt} {rest : List Stmt} {t u : TS} {w v : WS} {e : Expr} {te : TE} {we : WE} {pos : Pos}
def wSeq2 (w v : WS) : WS := fun ρ P => w ρ { P with nx := fun ρ' => v ρ' P }
def wNext : WS := fun ρ P => P.nx ρ
theorem so_seq {K : PySem.W.Frag} (h : SoS K t w) (h2 : SoS K u v) : SoS K (tSeq t u) (wSeq2 w v) := fun EX G H σ ρ P R f D E =>
  h EX G H σ ρ _ R f _ ⟨fun EX' G' H' σ' ρ' S R' o q => h2 EX' G' H' σ' ρ' P R' q D (E.from S R'.toGd o), E.bk, E.ct, E.rt⟩
theorem mss_cons (h : MS X st t w) (h2 : MSs X rest u v) : MSs X (st :: rest) (tSeq t u) (wSeq2 w v) := ⟨pss_cons h.ps h2.ps, so_seq h.so h2.so⟩
theorem mss_one (h : MS X st t w) : MSs X [st] t w := ⟨pss_one h.ps, h.so⟩
theorem so_next {K : PySem.W.Frag} : SoS K tNext wNext := fun EX G H σ ρ P R f D E => E.nx EX G H σ ρ .refl R (fun _ h => .inl h) f
theorem mss_nil : MSs X [] tNext wNext := ⟨pss_nil, so_next⟩
theorem ms_pass : MS X (.Pass pos) tNext wNext := ⟨ps_pass, so_next⟩
theorem ms_break : MS X (.Break pos) tBreak (fun ρ P => P.bk ρ) := ⟨ps_break, fun EX G H σ ρ P R f D E => E.bk EX G H σ ρ .refl R (fun _ h => .inl h) f⟩
theorem ms_continue : MS X (.Continue pos) tCont (fun ρ P => P.ct ρ) := ⟨ps_continue, fun EX G H σ ρ P R f D E => E.ct EX G H σ ρ .refl R (fun _ h => .inl h) f⟩
theorem ms_never : MS X st tNever (fun _ _ => False) := ⟨ps_never, fun _ _ _ _ _ _ _ f _ _ => f.elim⟩
def wRet (we : WE) : WS := fun ρ P => we ρ P.rt
theorem ms_ret (h : ME X e te we) : MS X (.Return (some e) pos) (tRet te) (wRet we) := ⟨ps_ret h.pe, fun EX G H σ ρ P R f D E => h.so EX G H σ ρ _ R f _ fun v G1 H1 r S rv f1 => E.rt EX G1 H1 v r S.s (R.toGd.step S) rv f1⟩
theorem ms_retN : MS X (.Return none pos) tRetN (fun _ P => P.rt (.d .none)) := ⟨ps_retN, fun EX G H σ ρ P R f D E => E.rt EX G H .non (.d .none) .refl R.toGd Dd.non f⟩
def wDrop (we : WE) : WS := fun ρ P => we ρ fun _ => P.nx ρ
theorem ms_expr (h : ME X e te we) (hs : swapsWith e none pos.line X.env = pure false := by rfl) : MS X (.Expr e pos) (tDrop te) (wDrop we) := ⟨ps_expr h.pe hs, fun EX G H σ ρ P R f D E => h.so EX G H σ ρ _ R f _ fun v G1 H1 r S rv f1 => E.nx EX G1 H1 σ ρ S.s (R.step S) (fun _ h => .inl h) f1⟩
def wIfS (c : WT) (w v : WS) : WS := fun ρ P => c ρ fun k => if k = true then w ρ P else v ρ P
theorem ms_if {c : Expr} {a b : List Stmt} {tc : TT} {wc : WT} (hc : MT X c tc wc) (ha : MSs X a t w) (hb : MSs X b u v) : MS X (.If c a b pos) (tIfS tc t u) (wIfS wc w v) := ⟨ps_if hc.pt ha.ps hb.ps, fun EX G H σ ρ P R f D E =>
  hc.so EX G H σ ρ _ R f _ fun k G1 H1 S f1 => by
    cases k with
    | true =>
      simp only [if_true] at f1 ⊢
      exact ha.so EX G1 H1 σ ρ P (R.step S) f1 D (E.step R.toGd S)
    | false =>
      simp only [Bool.false_eq_true, if_false] at f1 ⊢
      exact hb.so EX G1 H1 σ ρ P (R.step S) f1 D (E.step R.toGd S)⟩
/-- name = e -/
def wSet (i : Nat) (we : WE) : WS := fun ρ P => we ρ fun r => P.nx (ρ.set i (.sh r))
theorem so_set {K : PySem.W.Frag} {i : Nat} (h : SoE K te we) : SoS K (tAsg te (gName i)) (wSet i we) := fun EX G H σ ρ P R f D E => h EX G H σ ρ _ R f _ fun v G1 H1 r S rv f1 =>
  E.nx EX G1 H1 _ _ S.s ((R.step S).set i rv) (fun b q => .inl (own_set q)) f1
theorem ms_set (i : Nat) {x : Str} {pos' : Pos} (hN : X.N.Nodup) (he : ME X e te we) (hi : X.N[i]? = some x := by rfl) (hx : Loc X.env.scope x := by first | exact Or.inl rfl | exact Or.inr rfl) (hs : swapsWith e (some (.Name x pos')) pos.line X.env = pure false := by rfl)
    (hf : X.fn x = true ∨ X.env.scope.names.lookup x = some .local := by first | exact .inl rfl | exact .inr rfl) : MS X (.Assign [.Name x pos'] e pos) (tAsg te (gName i)) (wSet i we) := ⟨ps_set hN hi hx he.pe hs hf, so_set he.so⟩
/-- a slot is given a list or dict of its own -/
theorem Rel.setMu {K : PySem.W.Frag} {EX : Ext} {G H : Hp} {σ : L2.St} {ρ : Rh} (R : Rel K EX G H σ ρ) (i : Nat) {a : Addr} {m : Mu} (g : ∀ b ∈ m.owns a, G b = none ∧ ¬ EX b .box) (h : MuAt K G H a m) (no : ∀ b ∈ m.owns a, ¬ Own σ ρ b) : Rel K EX G H (σ.set i (some (.ref a))) (ρ.set i (.mu m)) where
  toGd := R.toGd
  sl := fun j s e => by
    by_cases hj : j = i
    · subst hj
      have hl : j < ρ.length := by
        have := (List.getElem?_eq_some_iff.mp e).1
        simpa using this
      rw [List.getElem?_set_self hl] at e
      cases e
      rw [List.getElem?_set_self (by rw [R.len]; exact hl)]
      exact slMu g h
    · rw [List.getElem?_set_ne (Ne.symm hj)] at e ⊢
      exact R.sl j s e
  df := fun j k m1 m2 a1 a2 b e e' q1 q2 b1 b2 => by
    have lt : ∀ {j : Nat} {s : Sl}, (ρ.set i (.mu m))[j]? = some s → j < ρ.length := fun e => by
      have := (List.getElem?_eq_some_iff.mp e).1
      simpa using this
    by_cases hj : j = i
    · by_cases hk : k = i
      · rw [hj, hk]
      · subst hj
        rw [List.getElem?_set_ne (Ne.symm hk)] at e' q2
        rw [List.getElem?_set_self (lt e)] at e
        rw [List.getElem?_set_self (by rw [R.len]; exact lt (j := j) (s := .mu m) (by rw [List.getElem?_set_self (by have := (List.getElem?_eq_some_iff.mp q1).1; rw [List.length_set, R.len] at this; exact this)]))] at q1
        cases e
        cases q1
        exact absurd ⟨k, m2, a2, e', q2, b2⟩ (no b b1)
    · by_cases hk : k = i
      · subst hk
        rw [List.getElem?_set_ne (Ne.symm hj)] at e q1
        have hl : k < ρ.length := lt e'
        rw [List.getElem?_set_self hl] at e'
        rw [List.getElem?_set_self (by rw [R.len]; exact hl)] at q2
        cases e'
        cases q2
        exact absurd ⟨j, m1, a1, e, q1, b1⟩ (no b b2)
      · rw [List.getElem?_set_ne (Ne.symm hj)] at e q1
        rw [List.getElem?_set_ne (Ne.symm hk)] at e' q2
        exact R.df j k m1 m2 a1 a2 b e e' q1 q2 b1 b2
  len := by rw [List.length_set, List.length_set, R.len]
theorem own_setMu {σ : L2.St} {ρ : Rh} {i : Nat} {a b : Addr} {m : Mu} (hl : σ.length = ρ.length) (h : Own (σ.set i (some (.ref a))) (ρ.set i (.mu m)) b) : b ∈ m.owns a ∨ Own σ ρ b := by
  obtain ⟨j, m', a', e1, e2, e3⟩ := h
  by_cases hj : j = i
  · subst hj
    have hl2 : j < σ.length := by
      have := (List.getElem?_eq_some_iff.mp e2).1
      simpa using this
    rw [List.getElem?_set_self hl2] at e2
    rw [List.getElem?_set_self (by rw [← hl]; exact hl2)] at e1
    cases e2
    cases e1
    exact .inl e3
  · rw [List.getElem?_set_ne (Ne.symm hj)] at e1 e2
    exact .inr ⟨j, m', a', e1, e2, e3⟩
theorem owns_l {a b : Addr} {ds : List D} (h : b ∈ (Mu.l ds).owns a) : b = a := by simpa [Mu.owns, Mu.subs] using h
theorem owns_k {a b : Addr} {ds : List (Key × D)} (h : b ∈ (Mu.k ds).owns a) : b = a := by simpa [Mu.owns, Mu.subs] using h
theorem owns_t {a b : Addr} {ds : List (List Key × D)} (h : b ∈ (Mu.t ds).owns a) : b = a := by simpa [Mu.owns, Mu.subs] using h
def wSetO (i : Nat) (we : WD) : WS := fun ρ P => we ρ fun ds => P.nx (ρ.set i (.mu (.l ds)))
theorem so_setO {K : PySem.W.Frag} {i : Nat} {wd : WD} (h : SoL K te wd) : SoS K (tAsg te (gName i)) (wSetO i wd) := fun EX G H σ ρ P R f D E => h EX G H σ ρ _ R f _ fun a vs G1 H1 ds S ha ga ba h1 dd f1 => by
  have R1 := R.step S
  refine E.nx EX G1 H1 _ _ S.s (R1.setMu i (m := .l ds) (fun b hb => by rw [owns_l hb]; exact ⟨ga, ba⟩) ⟨vs, h1, dd⟩ fun b hb o => ?_) (fun b q => ?_) f1
  · rw [owns_l hb] at o
    obtain ⟨_, _, u, hu, _⟩ := R.ownAt (b := a) o
    rw [ha] at hu; cases hu
  · rcases own_setMu R1.len q with z | z
    · rw [owns_l z]
      exact .inr ha
    · exact .inl z
theorem ms_setO (i : Nat) {x : Str} {pos' : Pos} {wd : WD} (hN : X.N.Nodup) (he : ML X e te wd) (hi : X.N[i]? = some x := by rfl) (hx : Loc X.env.scope x := by first | exact Or.inl rfl | exact Or.inr rfl) (hs : swapsWith e (some (.Name x pos')) pos.line X.env = pure false := by rfl)
    (hf : X.fn x = true ∨ X.env.scope.names.lookup x = some .local := by first | exact .inl rfl | exact .inr rfl) : MS X (.Assign [.Name x pos'] e pos) (tAsg te (gName i)) (wSetO i wd) := ⟨ps_set hN hi hx he.pe hs hf, so_setO he.so⟩
/-- target = e -/
def wAsg (we : WE) (wg : WG) : WS := fun ρ P => we ρ fun r => wg r ρ P.nx
theorem ms_asg {tg : Expr} {g : TG} {wg : WG} {sl : List Nat} (he : ME X e te we) (hg : MG X tg g wg sl) (hs : swapsWithSole [tg] e pos.line X.env = pure false := by rfl) (hw : swappedStores [tg] e X.env = pure none := by rfl)
    (h1 : (assignEach [tg] X.env).map (·.2) = [assign tg X.env] := by rfl) : MS X (.Assign [tg] e pos) (tAsg te g) (wAsg we wg) := ⟨ps_asg he.pe hg.pg hs hw h1, fun EX G H σ ρ P R f D E =>
  he.so EX G H σ ρ _ R f _ fun v G1 H1 r S rv f1 => hg.so EX G1 H1 σ ρ v r _ (R.step S) rv f1 _ fun σ' ρ' R' k f2 => E.nx EX G1 H1 σ' ρ' S.s R' (fun b q => .inl (k.own b q)) f2⟩
/-- name op= e, ints -/
def wAug (i : Nat) (we : WE) (f : Int → Int → Int) : WS := fun ρ P => wVar i ρ fun x => we ρ fun y => match x, y with
  | .d (.int a), .d (.int b) => P.nx (ρ.set i (.sh (.d (.int (f a b)))))
  | _, _ => False
theorem so_aug {K : PySem.W.Frag} {i : Nat} {f : Int → Int → Int} (h : SoE K te we) : SoS K (tAug i te (ipI f)) (wAug i we f) := fun EX G H σ ρ P R q D E => by
  obtain ⟨r, e, q1⟩ := wVar_iff q
  obtain ⟨v, e1, rv⟩ := R.var e
  refine ⟨v, e1, h EX G H σ ρ _ R q1 _ fun u G1 H1 y S ru f1 => ?_⟩
  split at f1
  · rename_i a b
    exact ⟨a, b, rwInt rv, rwInt ru, E.nx EX G1 H1 _ _ S.s ((R.step S).set i (r := .d (.int _)) (Dd.int _)) (fun c z => .inl (own_set z)) f1⟩
  · exact f1.elim
theorem ms_augAdd (i : Nat) {x : Str} {pos' : Pos} (hN : X.N.Nodup) (he : ME X e te we) (hi : X.N[i]? = some x := by rfl) (hx : Loc X.env.scope x := by first | exact Or.inl rfl | exact Or.inr rfl) (hf : X.fn x = true ∨ X.env.scope.names.lookup x = some .local := by first | exact .inl rfl | exact .inr rfl) :
    MS X (.AugAssign (.Name x pos') .Add e pos) (tAug i te (ipI fun i j => i + j)) (wAug i we fun i j => i + j) := ⟨ps_aug hN hi hx he.pe ip_add hf, so_aug he.so⟩
/-! ### for, while -/
def forW (wg : WG) (wb : WS) : List D → Rh → Ps → Prop
  | [], ρ, P => P.nx ρ
  | d :: ds, ρ, P => wg (.d d) ρ fun ρ' => wb ρ' ⟨fun ρ'' => forW wg wb ds ρ'' P, P.rt, P.nx, fun ρ'' => forW wg wb ds ρ'' P⟩
def wFor (wi : WD) (wg : WG) (wb : WS) : WS := fun ρ P => wi ρ fun ds => forW wg wb ds ρ P
theorem so_for {K : PySem.W.Frag} {wi : TI} {g : TG} {tb : TS} {ui : WD} {ug : WG} {ub : WS} {sl : List Nat} (hi : SoI K wi ui) (hg : SoG K g ug sl) (hb : SoS K tb ub) : SoS K (tFor wi g tb) (wFor ui ug ub) := fun EX G H σ ρ P R f D E => hi EX G H σ ρ _ R f _ fun J G1 H1 ds S1 Wk hz f1 => by
  have E1 := E.step R.toGd S1
  have R1 := R.step S1
  refine ⟨fun i m σ' H' => m = ds.length - i ∧ i ≤ ds.length ∧ ∃ EX' Gc ρ', SStep EX (Own σ ρ) G1 H1 EX' Gc H' ∧ Rel K EX' Gc H' σ' ρ' ∧ (∀ b, Own σ' ρ' b → Own σ ρ b ∨ H1 b = none) ∧ forW ug ub (ds.drop i) ρ' P,
    ⟨ds.length, rfl, Nat.zero_le _, EX, G1, ρ, .refl, R1, fun _ h => .inl h, by rw [List.drop_zero]; exact f1⟩, ?_⟩
  rintro i m σ' H' ⟨rfl, hi', EX', Gc, ρ', S2, R2, o2, fw⟩
  obtain ⟨w1, w2⟩ := Wk EX' Gc H' S2.bb S2.gg R2.toGd i
  by_cases hlt : i < ds.length
  · have e : ds[i]? = some ds[i] := List.getElem?_eq_getElem hlt
    obtain ⟨go, w3⟩ := w2 _ e
    rw [List.drop_eq_getElem_cons hlt] at fw
    refine .inr ⟨go, fun σ'' H'' => i + 1 ≤ ds.length ∧ ∃ EX' Gc ρ', SStep EX (Own σ ρ) G1 H1 EX' Gc H'' ∧ Rel K EX' Gc H'' σ'' ρ' ∧ (∀ b, Own σ'' ρ' b → Own σ ρ b ∨ H1 b = none) ∧ forW ug ub (ds.drop (i + 1)) ρ' P,
      fun σ'' H'' ⟨n1, n2⟩ => ⟨ds.length - (i + 1), by omega, rfl, n1, n2⟩, fun x H3 hy => ?_⟩
    obtain ⟨G3, S3, dx⟩ := w3 x H3 hy
    refine hg EX' G3 H3 σ' ρ' x (.d ds[i]) _ (R2.step S3) dx fw _ fun σ4 ρ4 R4 k4 f4 => ?_
    have S23 : SStep EX (Own σ ρ) G1 H1 EX' G3 H3 := S2.trans R2.toGd o2 (S3.s (O := Own σ' ρ'))
    have o4 : ∀ b, Own σ4 ρ4 b → Own σ ρ b ∨ H1 b = none := fun b z => o2 b (k4.own b z)
    have E3 : EndsOk K EX' (Own σ4 ρ4) G3 H3 P D := E1.from S23 R4.toGd o4
    refine hb EX' G3 H3 σ4 ρ4 _ R4 f4 _ ⟨fun EX5 G5 H5 σ5 ρ5 S5 R5 o5 f5 => ?_, fun EX5 G5 H5 σ5 ρ5 S5 R5 o5 f5 => E3.nx EX5 G5 H5 σ5 ρ5 S5 R5 o5 f5, fun EX5 G5 H5 σ5 ρ5 S5 R5 o5 f5 => ?_, E3.rt⟩
    · exact ⟨hlt, EX5, G5, ρ5, S23.trans R4.toGd o4 S5, R5, own_trans S23 R4.toGd o4 o5, f5⟩
    · exact ⟨hlt, EX5, G5, ρ5, S23.trans R4.toGd o4 S5, R5, own_trans S23 R4.toGd o4 o5, f5⟩
  · have e : i = ds.length := by omega
    subst e
    rw [List.drop_length] at fw
    exact .inl ⟨w1 (Nat.le_refl _), E1.nx EX' Gc H' σ' ρ' S2 R2 o2 fw⟩
end
end Pd
end

section
set_option Elab.async false
set_option linter.all false
set_option maxRecDepth 100000
set_option autoImplicit false
set_option maxHeartbeats 1000000
/-! Pd, own lists and dicts: lent, frozen, changed -/
namespace Pd
open PySem PySem.Spec PyProof.Rows L2

/-! ### lent -/
def muW : Mu → W
  | .l ds => .d (.list ds)
  | .k kvs => .dk kvs
  | .t kvs => .dt kvs
  | .kl kvs => .dk (kvs.map fun p => (p.1, PyData.list p.2.2))
  | .ll xs => .d (.list (xs.map fun p => PyData.list p.2))
section
open Classical
noncomputable def lentG (G H : Hp) (bs : List Addr) : Hp := fun b => if b ∈ bs then H b else G b
noncomputable def backG (G : Hp) (bs : List Addr) : Hp := fun b => if b ∈ bs then none else G b
theorem lentG_in {G H : Hp} {bs : List Addr} {b : Addr} (h : b ∈ bs) : lentG G H bs b = H b := if_pos h
theorem lentG_out {G H : Hp} {bs : List Addr} {b : Addr} (h : b ∉ bs) : lentG G H bs b = G b := if_neg h
theorem backG_in {G : Hp} {bs : List Addr} {b : Addr} (h : b ∈ bs) : backG G bs b = none := if_pos h
theorem backG_out {G : Hp} {bs : List Addr} {b : Addr} (h : b ∉ bs) : backG G bs b = G b := if_neg h
end
mutual
def noList : D → Bool
  | .none => true
  | .bool _ => true
  | .int _ => true
  | .str _ => true
  | .list _ => false
  | .tuple ds => noListA ds
  | .dict _ => false
def noListA : List D → Bool
  | [] => true
  | d :: ds => noList d && noListA ds
end
section
variable {K : PySem.W.Frag} {EX : Ext} {G H G1 H1 : Hp} {σ : L2.St} {ρ : Rh} {bs : List Addr}
mutual
theorem backD (h : ∀ b ∈ bs, ∀ o, G b = some o → ∀ xs, o ≠ .tup xs) : ∀ (d : D) (v : V), noList d = true → Dd K G v d → Dd K (backG G bs) v d
  | .none, _, _, q => by cases q; exact .non
  | .bool b, _, _, q => by cases q; exact .bl b
  | .int i, _, _, q => by cases q; exact .int i
  | .str x, _, _, q => by cases q with | str _ z => exact .str x z
  | .list ds, _, n, q => by simp [noList] at n
  | .tuple ds, _, n, q => by
    cases q with
    | @tup a xs _ hs ha =>
      have nb : a ∉ bs := fun z => h a z _ hs _ rfl
      exact .tup (by rw [backG_out nb]; exact hs) (backDs h ds _ (by simpa [noList] using n) ha)
  | .dict _, _, n, q => by simp [noList] at n
theorem backDs (h : ∀ b ∈ bs, ∀ o, G b = some o → ∀ xs, o ≠ .tup xs) : ∀ (ds : List D) (vs : List V), noListA ds = true → DdAll K G vs ds → DdAll K (backG G bs) vs ds
  | [], _, _, q => by cases q; exact .nil
  | d :: ds, _, n, q => by
    cases q with
    | cons h1 h2 =>
      rw [noListA, Bool.and_eq_true] at n
      exact .cons (backD h d _ n.1 h1) (backDs h ds _ n.2 h2)
end
theorem muNoTup {a : Addr} {m : Mu} (h : MuAt K G H a m) : ∀ b ∈ m.owns a, ∀ o, H b = some o → ∀ xs, o ≠ .tup xs := by
  intro b hb o ho xs e
  subst e
  cases m with
  | l ds =>
    obtain ⟨vs, g, q⟩ := h
    rw [owns_l hb, g] at ho
    cases ho
  | k kvs =>
    obtain ⟨vs, g, q⟩ := h
    rw [owns_k hb, g] at ho
    cases ho
  | t kvs =>
    obtain ⟨vs, g, q⟩ := h
    rw [owns_t hb, g] at ho
    cases ho
  | kl kvs =>
    obtain ⟨g, q, n⟩ := h
    rcases List.mem_cons.mp hb with rfl | hb
    · rw [g] at ho; cases ho
    · obtain ⟨x, hx, rfl⟩ := List.mem_map.mp hb
      obtain ⟨vs, g', _⟩ := q _ (List.mem_map.mpr ⟨x, hx, rfl⟩)
      rw [g'] at ho; cases ho
  | ll xs' =>
    obtain ⟨g, q, n⟩ := h
    rcases List.mem_cons.mp hb with rfl | hb
    · rw [g] at ho; cases ho
    · obtain ⟨x, hx, rfl⟩ := List.mem_map.mp hb
      obtain ⟨vs, g', _⟩ := q _ hx
      rw [g'] at ho; cases ho
theorem lent_same {a : Addr} {m : Mu} (hg : ∀ b ∈ m.owns a, G b = none ∧ ¬ EX b .box) : Same G (lentG G H (m.owns a)) := fun b o e => by
  have nb : b ∉ m.owns a := fun z => by rw [(hg b z).1] at e; cases e
  rw [lentG_out nb]
  exact e
theorem lent_rw {a : Addr} {m : Mu} (hg : ∀ b ∈ m.owns a, G b = none ∧ ¬ EX b .box) (h : MuAt K G H a m) : Rw K EX (lentG G H (m.owns a)) (.ref a) (muW m) := by
  have sm := lent_same (H := H) hg
  have g0 : lentG G H (m.owns a) a = H a := lentG_in List.mem_cons_self
  cases m with
  | l ds =>
    obtain ⟨vs, g, q⟩ := h
    exact Dd.lst (g0.trans g) (dpsMono sm _ _ q)
  | k kvs =>
    obtain ⟨vs, g, q⟩ := h
    exact ⟨a, vs, rfl, g0.trans g, kvMono sm q⟩
  | t kvs =>
    obtain ⟨vs, g, q⟩ := h
    exact ⟨a, vs, rfl, g0.trans g, kvMono sm q⟩
  | kl kvs =>
    obtain ⟨g, q, n⟩ := h
    refine ⟨a, _, rfl, g0.trans g, ?_⟩
    have key : ∀ l : List (Key × (Addr × List D)), (∀ x ∈ l, x ∈ kvs) → KvD K (lentG G H ((Mu.kl kvs).owns a)) (l.map fun p => (p.1, V.ref p.2.1)) (l.map fun p => (p.1, PyData.list p.2.2)) := by
      intro l
      induction l with
      | nil => intro _; exact .nil
      | cons x l ih =>
        intro hx
        refine .cons ⟨rfl, ?_⟩ (ih fun y hy => hx y (List.mem_cons_of_mem _ hy))
        have hx0 := hx x List.mem_cons_self
        obtain ⟨vs, g', dd⟩ := q _ (List.mem_map.mpr ⟨x, hx0, rfl⟩)
        exact Dd.lst ((lentG_in (List.mem_cons_of_mem _ (List.mem_map.mpr ⟨x, hx0, rfl⟩))).trans g') (dpsMono sm _ _ dd)
    exact key kvs fun _ h => h
  | ll xs =>
    obtain ⟨g, q, n⟩ := h
    refine Dd.lst (g0.trans g) ?_
    have key : ∀ l : List (Addr × List D), (∀ x ∈ l, x ∈ xs) → DdAll K (lentG G H ((Mu.ll xs).owns a)) (l.map fun p => V.ref p.1) (l.map fun p => PyData.list p.2) := by
      intro l
      induction l with
      | nil => intro _; exact .nil
      | cons x l ih =>
        intro hx
        refine .cons ?_ (ih fun y hy => hx y (List.mem_cons_of_mem _ hy))
        have hx0 := hx x List.mem_cons_self
        obtain ⟨vs, g', dd⟩ := q _ hx0
        exact Dd.lst ((lentG_in (List.mem_cons_of_mem _ (List.mem_map.mpr ⟨x, hx0, rfl⟩))).trans g') (dpsMono sm _ _ dd)
    exact key xs fun _ h => h
theorem Rel.lend (R : Rel K EX G H σ ρ) {i : Nat} {m : Mu} {a : Addr} (e : ρ[i]? = some (.mu m)) (es : σ[i]? = some (some (.ref a))) (hg : ∀ b ∈ m.owns a, G b = none ∧ ¬ EX b .box) (h : MuAt K G H a m) :
    Rel K EX (lentG G H (m.owns a)) H σ (ρ.set i (.sh (muW m))) := by
  have sm := lent_same (H := H) hg
  have hil : i < ρ.length := (List.getElem?_eq_some_iff.mp e).1
  refine ⟨⟨fun b o q => ?_, R.bx, R.sc, fun b hb => ?_⟩, fun j s q => ?_, fun j k m1 m2 a1 a2 b q1 q2 q3 q4 b1 b2 => ?_, by rw [List.length_set, R.len]⟩
  · by_cases hb : b ∈ m.owns a
    · rw [lentG_in hb] at q; exact q
    · rw [lentG_out hb] at q; exact R.sub b o q
  · have nb : b ∉ m.owns a := fun z => (hg b z).2 hb
    rw [lentG_out nb]
    exact R.ex b hb
  · by_cases hj : j = i
    · subst hj
      rw [List.getElem?_set_self hil] at q
      cases q
      rw [es]
      exact slSh (lent_rw hg h)
    · rw [List.getElem?_set_ne (Ne.symm hj)] at q
      have S0 := R.sl j s q
      refine ⟨fun w z => ?_, fun m' z => ?_⟩
      · obtain ⟨v, y1, y2⟩ := S0.sh w z
        exact ⟨v, y1, rwMono sm (fun _ _ h => h) y2⟩
      · obtain ⟨a', y1, y2, y4⟩ := S0.mu m' z
        subst z
        refine ⟨a', y1, fun b hb => ⟨?_, (y2 b hb).2⟩, muMono sm (fun _ _ => rfl) y4⟩
        have nb : b ∉ m.owns a := fun z => hj (R.df j i m' m a' a b q e y1 es hb z)
        rw [lentG_out nb]
        exact (y2 b hb).1
  · have ne : ∀ {j : Nat} {m : Mu}, (ρ.set i (.sh (muW m)))[j]? = some (.mu m1) → True := fun _ => trivial
    have nj : j ≠ i := fun z => by
      subst z
      rw [List.getElem?_set_self hil] at q1
      cases q1
    have nk : k ≠ i := fun z => by
      subst z
      rw [List.getElem?_set_self hil] at q2
      cases q2
    rw [List.getElem?_set_ne (Ne.symm nj)] at q1
    rw [List.getElem?_set_ne (Ne.symm nk)] at q2
    exact R.df j k m1 m2 a1 a2 b q1 q2 q3 q4 b1 b2
/-- given back -/
theorem Step.back {a : Addr} {m : Mu} (S : Step EX (lentG G H (m.owns a)) H G1 H1) (hg : ∀ b ∈ m.owns a, G b = none ∧ ¬ EX b .box) : Step EX G H (backG G1 (m.owns a)) H1 where
  st := S.st
  bx := S.bx
  gg := fun b o e => by
    have nb : b ∉ m.owns a := fun z => by rw [(hg b z).1] at e; cases e
    rw [backG_out nb]
    exact S.gg b o (by rw [lentG_out nb]; exact e)
  sub := fun b o e => by
    by_cases hb : b ∈ m.owns a
    · rw [backG_in hb] at e; cases e
    · rw [backG_out hb] at e; exact S.sub b o e
  gn := fun b o e => by
    by_cases hb : b ∈ m.owns a
    · rw [backG_in hb] at e; cases e
    · rw [backG_out hb] at e
      rcases S.gn b o e with z | z
      · rw [lentG_out hb] at z; exact .inl z
      · exact .inr z
  ex := fun b hb => by
    by_cases z : b ∈ m.owns a
    · exact backG_in z
    · rw [backG_out z]; exact S.ex b hb
theorem lent_noTup {a : Addr} {m : Mu} (S : Step EX (lentG G H (m.owns a)) H G1 H1) (h : MuAt K G H a m) : ∀ b ∈ m.owns a, ∀ o, G1 b = some o → ∀ xs, o ≠ .tup xs := fun b hb o ho xs e => by
  obtain ⟨u, hu, _⟩ := muThere h b hb
  have := S.gg b u (by rw [lentG_in hb]; exact hu)
  rw [ho] at this
  cases this
  exact muNoTup h b hb _ hu xs e
def wLend (i : Nat) (w : WE) : WE := fun ρ Φ => match ρ[i]? with
  | some (.mu m) => w (ρ.set i (.sh (muW m))) fun r => match r with
    | .d x => noList x = true ∧ Φ (.d x)
    | .rp x => Φ (.rp x)
    | _ => False
  | some (.sh _) => w ρ Φ
  | _ => False
def wLendT (i : Nat) (w : WT) : WT := fun ρ Φ => match ρ[i]? with
  | some (.mu m) => w (ρ.set i (.sh (muW m))) Φ
  | some (.sh _) => w ρ Φ
  | _ => False
def wLendL (i : Nat) (w : WD) : WD := fun ρ Φ => match ρ[i]? with
  | some (.mu m) => w (ρ.set i (.sh (muW m))) fun ds => noListA ds = true ∧ Φ ds
  | some (.sh _) => w ρ Φ
  | _ => False
theorem so_lend {t : TE} {w : WE} (i : Nat) (h : SoE K t w) : SoE K t (wLend i w) := fun EX G H σ ρ Φ R f Q q => by
  unfold wLend at f
  split at f
  · rename_i m e
    obtain ⟨a, es, hg, hm⟩ := R.own e
    refine h EX _ H σ _ _ (R.lend e es hg hm) f Q fun v G1 H1 r S rv f1 => ?_
    split at f1
    · rename_i x
      exact q v _ H1 (.d x) (S.back hg) (backD (lent_noTup S hm) _ _ f1.1 rv) f1.2
    · rename_i x
      exact q v _ H1 (.rp x) (S.back hg) rv f1
    · exact f1.elim
  · exact h EX G H σ ρ Φ R f Q q
  · exact f.elim
theorem so_lendT {t : TT} {w : WT} (i : Nat) (h : SoT K t w) : SoT K t (wLendT i w) := fun EX G H σ ρ Φ R f Q q => by
  unfold wLendT at f
  split at f
  · rename_i m e
    obtain ⟨a, es, hg, hm⟩ := R.own e
    exact h EX _ H σ _ _ (R.lend e es hg hm) f Q fun b G1 H1 S f1 => q b _ H1 (S.back hg) f1
  · exact h EX G H σ ρ Φ R f Q q
  · exact f.elim
theorem so_lendL {t : TE} {w : WD} (i : Nat) (h : SoL K t w) : SoL K t (wLendL i w) := fun EX G H σ ρ Φ R f Q q => by
  unfold wLendL at f
  split at f
  · rename_i m e
    obtain ⟨a, es, hg, hm⟩ := R.own e
    refine h EX _ H σ _ _ (R.lend e es hg hm) f Q fun p vs G1 H1 ds S hp gp bp h1 dd f1 => ?_
    refine q p vs _ H1 ds (S.back hg) hp ?_ bp h1 (backDs (lent_noTup S hm) _ _ f1.1 dd) f1.2
    by_cases z : p ∈ m.owns a
    · exact backG_in z
    · rw [backG_out z]; exact gp
  · exact h EX G H σ ρ Φ R f Q q
  · exact f.elim
/-! ### frozen -/
def wFrz (i : Nat) (w : WS) : WS := fun ρ P => match ρ[i]? with
  | some (.mu m) => w (ρ.set i (.sh (muW m))) P
  | some (.sh _) => w ρ P
  | _ => False
theorem so_frz {t : TS} {w : WS} (i : Nat) (h : SoS K t w) : SoS K t (wFrz i w) := fun EX G H σ ρ P R f D E => by
  unfold wFrz at f
  split at f
  · rename_i m e
    obtain ⟨a, es, hg, hm⟩ := R.own e
    have R1 := R.lend e es hg hm
    refine h EX _ H σ _ P R1 f D (E.from ⟨fun _ _ h => .inr (.inr h), fun _ _ h => h, fun _ h => .inl h, lent_same hg, fun b o q => ?_⟩ R1.toGd fun b q => ?_)
    · by_cases hb : b ∈ m.owns a
      · exact .inr (.inr ⟨i, m, a, e, es, hb⟩)
      · rw [lentG_out hb] at q; exact .inl q
    · obtain ⟨j, m', a', q1, q2, q3⟩ := q
      have nj : j ≠ i := fun z => by
        subst z
        rw [List.getElem?_set_self (List.getElem?_eq_some_iff.mp e).1] at q1
        cases q1
      rw [List.getElem?_set_ne (Ne.symm nj)] at q1
      exact .inl ⟨j, m', a', q1, q2, q3⟩
  · exact h EX G H σ ρ P R f D E
  · exact f.elim
end
section
variable {X : Cx} {e : Expr} {t : TE} {tt : TT} {w : WE} {wt : WT} {wd : WD} {ts : TS} {ws : WS} {st : Stmt} {sts : List Stmt}
theorem me_lend (i : Nat) (h : ME X e t w) : ME X e t (wLend i w) := ⟨h.pe, so_lend i h.so⟩
theorem mt_lend (i : Nat) (h : MT X e tt wt) : MT X e tt (wLendT i wt) := ⟨h.pt, so_lendT i h.so⟩
theorem ml_lend (i : Nat) (h : ML X e t wd) : ML X e t (wLendL i wd) := ⟨h.pe, so_lendL i h.so⟩
theorem ms_frz (i : Nat) (h : MS X st ts ws) : MS X st ts (wFrz i ws) := ⟨h.ps, so_frz i h.so⟩
theorem mss_frz (i : Nat) (h : MSs X sts ts ws) : MSs X sts ts (wFrz i ws) := ⟨h.ps, so_frz i h.so⟩
end

/-! ### changed -/
section
variable {K : PySem.W.Frag} {EX : Ext} {G H H' : Hp} {σ : L2.St} {ρ : Rh}
theorem Rel.mut (R : Rel K EX G H σ ρ) {i : Nat} {m m' : Mu} {a : Addr} (e : ρ[i]? = some (.mu m)) (es : σ[i]? = some (some (.ref a))) (hH : ∀ b o, b ∉ m.owns a → H b = some o → H' b = some o)
    (hn : ∀ b ∈ m'.owns a, b ∈ m.owns a ∨ H b = none) (h : MuAt K G H' a m') : Rel K EX G H' σ (ρ.set i (.mu m')) ∧ SStep EX (Own σ ρ) G H EX G H' ∧ ∀ b, Own σ (ρ.set i (.mu m')) b → Own σ ρ b ∨ H b = none := by
  obtain ⟨a0, es0, hg, hm⟩ := R.own e
  rw [es] at es0
  cases es0
  have hil : i < ρ.length := (List.getElem?_eq_some_iff.mp e).1
  have nbox : ∀ b, EX b .box → b ∉ m.owns a := fun b hb z => (hg b z).2 hb
  have nG : ∀ b o, G b = some o → b ∉ m.owns a := fun b o hb z => by rw [(hg b z).1] at hb; cases hb
  refine ⟨⟨⟨fun b o q => hH b o (nG b o q) (R.sub b o q), fun b hb => ?_, fun b ns hb => ?_, R.ex⟩, fun j s q => ?_, fun j k m1 m2 a1 a2 b q1 q2 q3 q4 b1 b2 => ?_, by rw [List.length_set, R.len]⟩, ⟨fun b o q => ?_, fun _ _ h => h, fun _ h => .inl h, Same.refl G, fun _ _ h => .inl h⟩, fun b q => ?_⟩
  · obtain ⟨x, y, z, q⟩ := R.bx b hb
    exact ⟨x, y, z, hH b _ (nbox b hb) q⟩
  · rcases R.sc b ns hb with ⟨o, q⟩ | q
    · refine .inl ⟨o, hH b _ (fun z => ?_) q⟩
      obtain ⟨u, hu, hf⟩ := muThere hm b z
      rw [q] at hu
      cases hu
      exact hf _ _ rfl
    · exact .inr q
  · by_cases hj : j = i
    · subst hj
      rw [List.getElem?_set_self hil] at q
      cases q
      rw [es]
      refine slMu (fun b hb => ?_) h
      rcases hn b hb with z | z
      · exact hg b z
      · exact ⟨R.toGd.free z, R.toGd.notBox z⟩
    · rw [List.getElem?_set_ne (Ne.symm hj)] at q
      have S0 := R.sl j s q
      refine ⟨S0.sh, fun m2 z => ?_⟩
      obtain ⟨a', y1, y2, y4⟩ := S0.mu m2 z
      subst z
      refine ⟨a', y1, y2, muMono (Same.refl G) (fun b hb => ?_) y4⟩
      have nb : b ∉ m.owns a := fun z => hj (R.df j i m2 m a' a b q e y1 es hb z)
      obtain ⟨u, hu, _⟩ := muThere y4 b hb
      rw [hu]
      exact hH b u nb hu
  · have other : ∀ {j : Nat} {m1 : Mu} {a1 b : Addr}, j ≠ i → ρ[j]? = some (.mu m1) → σ[j]? = some (some (.ref a1)) → b ∈ m1.owns a1 → b ∈ m'.owns a → False := fun {j m1 a1 b} hj q1 q3 b1 b2 => by
      rcases hn b b2 with z | z
      · exact hj (R.df j i m1 m a1 a b q1 e q3 es b1 z)
      · obtain ⟨_, _, u, hu, _⟩ := R.ownAt (b := b) ⟨j, m1, a1, q1, q3, b1⟩
        rw [z] at hu; cases hu
    by_cases hj : j = i
    · by_cases hk : k = i
      · rw [hj, hk]
      · subst hj
        rw [List.getElem?_set_self hil] at q1
        cases q1
        rw [es] at q3
        cases q3
        rw [List.getElem?_set_ne (Ne.symm hk)] at q2
        exact (other hk q2 q4 b2 b1).elim
    · by_cases hk : k = i
      · subst hk
        rw [List.getElem?_set_self hil] at q2
        cases q2
        rw [es] at q4
        cases q4
        rw [List.getElem?_set_ne (Ne.symm hj)] at q1
        exact (other hj q1 q3 b1 b2).elim
      · rw [List.getElem?_set_ne (Ne.symm hj)] at q1
        rw [List.getElem?_set_ne (Ne.symm hk)] at q2
        exact R.df j k m1 m2 a1 a2 b q1 q2 q3 q4 b1 b2
  · by_cases z : b ∈ m.owns a
    · exact .inr (.inl ⟨i, m, a, e, es, z⟩)
    · exact .inr (.inr (hH b o z q))
  · obtain ⟨j, m1, a1, q1, q2, q3⟩ := q
    by_cases hj : j = i
    · subst hj
      rw [List.getElem?_set_self hil] at q1
      cases q1
      rw [es] at q2
      cases q2
      rcases hn b q3 with z | z
      · exact .inl ⟨j, m, a, e, es, z⟩
      · exact .inr z
    · rw [List.getElem?_set_ne (Ne.symm hj)] at q1
      exact .inl ⟨j, m1, a1, q1, q2, q3⟩
/-- a box changes -/
theorem Rel.box (R : Rel K EX G H σ ρ) {a : Addr} {o : HO} (hb : EX a .box) (h : BoxAt (upd H a o) a) : Rel K EX G (upd H a o) σ ρ ∧ Step EX G H G (upd H a o) := by
  have S : Step EX G H G (upd H a o) := ⟨fun b u q => by
      by_cases z : b = a
      · exact .inl (z ▸ hb)
      · exact .inr (by rw [upd_ne z]; exact q), fun b q => by
      by_cases z : b = a
      · exact z ▸ h
      · obtain ⟨x, y, w, e⟩ := R.bx b q
        exact ⟨x, y, w, by rw [upd_ne z]; exact e⟩, Same.refl G, fun b u q => by
      have z : b ≠ a := fun z => by
        rw [z, R.ex a hb] at q
        cases q
      rw [upd_ne z]
      exact R.sub b u q, fun _ _ h => .inl h, R.ex⟩
  exact ⟨R.step S, S⟩
end
end Pd
end

section
set_option Elab.async false
set_option linter.all false
set_option maxRecDepth 100000
set_option autoImplicit false
set_option maxHeartbeats 1000000
/-! Pd, statements on own lists and dicts, boxes; loops; several names at once -/
namespace Pd
open PySem PySem.Spec PyProof.Rows L2
theorem mil_lt {n : Nat} (h : n ≤ 1000000) : n < sizeLine := Nat.lt_of_le_of_lt h (by rw [sizeLine_eq]; decide)
section
variable {K : PySem.W.Frag} {EX : Ext} {G H : Hp} {σ : L2.St} {ρ : Rh}
/-- one list changes -/
theorem Rel.mut1 (R : Rel K EX G H σ ρ) {i : Nat} {m m' : Mu} {a : Addr} {o : HO} (e : ρ[i]? = some (.mu m)) (es : σ[i]? = some (some (.ref a))) (hn : ∀ b ∈ m'.owns a, b ∈ m.owns a ∨ H b = none) (h : MuAt K G (upd H a o) a m') :
    Rel K EX G (upd H a o) σ (ρ.set i (.mu m')) ∧ SStep EX (Own σ ρ) G H EX G (upd H a o) ∧ ∀ b, Own σ (ρ.set i (.mu m')) b → Own σ ρ b ∨ H b = none :=
  R.mut e es (fun b u nb q => by
    have : b ≠ a := fun z => nb (by rw [z]; exact List.mem_cons_self)
    rw [upd_ne this]; exact q) hn h
theorem ownsl_in {a b : Addr} {ds ds' : List D} (hb : b ∈ (Mu.l ds').owns a) : b ∈ (Mu.l ds).owns a := by
  rw [owns_l hb]
  exact List.mem_cons_self
theorem ownsk_in {a b : Addr} {ds ds' : List (Key × D)} (hb : b ∈ (Mu.k ds').owns a) : b ∈ (Mu.k ds).owns a := by
  rw [owns_k hb]
  exact List.mem_cons_self
theorem ownst_in {a b : Addr} {ds ds' : List (List Key × D)} (hb : b ∈ (Mu.t ds').owns a) : b ∈ (Mu.t ds).owns a := by
  rw [owns_t hb]
  exact List.mem_cons_self
end
section
variable {X : Cx} {e k tg iter c : Expr} {te tk : TE} {we wk : WE} {pos apos cpos tpos np : Pos} {x : Str} {body : List Stmt}
/-- x.append(e) -/
def wApp (i : Nat) (we : WE) : WS := fun ρ P => match ρ[i]? with
  | some (.mu (.l ds)) => ds.length ≤ 1000000 ∧ we ρ fun r => (match r with
    | .d v => P.nx (ρ.set i (.mu (.l (ds ++ [v]))))
    | _ => False)
  | _ => False
theorem so_app {K : PySem.W.Frag} {i : Nat} (h : SoE K te we) : SoS K (tDrop (tBM K "list" rAppend (tVar i) (tCons te tNil))) (wApp i we) := fun EX G H σ ρ P R f D E => by
  unfold wApp at f
  split at f
  · rename_i ds e
    obtain ⟨a, es, hg, vs, hH, dd⟩ := R.own e
    refine ⟨.ref a, es, .inl ⟨rfl, vs, .inl (.inl hH)⟩, h EX G H σ ρ _ R f.2 _ fun v G1 H1 r S rv f1 => ?_⟩
    have R1 := R.step S
    split at f1
    · rename_i x
      obtain ⟨a', es', hg', vs', hH', dd'⟩ := R1.own e
      rw [es] at es'
      cases es'
      refine ⟨a, vs', v, rfl, rfl, hH', by rw [dpLen dd']; exact mil_lt f.1, ?_⟩
      obtain ⟨R2, S2, o2⟩ := R1.mut1 (m' := .l (ds ++ [x])) (o := .lst (vs' ++ [v])) e es (fun b hb => .inl (ownsl_in hb)) ⟨_, upd_same, dpApp dd' (dpOne rv)⟩
      exact (E.step R.toGd S).nx EX G1 _ σ _ S2 R2 o2 f1
    · exact f1.elim
  · exact f.elim
theorem ms_app (i : Nat) (he : ME X e te we) (hN : X.N[i]? = some x := by rfl) (hv : Vis X.env.scope x := by first | exact Or.inl rfl | exact Or.inr (Or.inl rfl) | exact Or.inr (Or.inr rfl)) (hd : (x == ("__debug__" : Str)) = false := by decide)
    (hcd : (x == ("__classdict__" : Str)) = false := by decide) (hs : swapsWith (.Call (.Attribute (.Name x np) "append" apos) [e] [] cpos) none pos.line X.env = pure false := by rfl)
    (hbase : attributeBase (.Name x np) "append" X.env (eval (.Name x np) X.env) = eval (.Name x np) X.env := by rfl)
    (hfew : ((backTo cpos (starEach [e] X.env)).all (fun x => !x.1) && (backToKw cpos (keywordEach [] X.env)).all (fun x => x.1.isSome) && decide (([e] : List Expr).length + ([] : List Keyword).length + (if ([] : List Keyword).isEmpty then 0 else 1) < 30)) = true := by rfl)
    (hline : (apos.endLine == cpos.line) = true := by rfl) (hst : starEach [e] X.env = (false, eval e X.env) :: starEach [] X.env := by rfl) (hplain : (backTo cpos (starEach [] X.env)).any (·.1) = false := by rfl) :
    MS X (.Expr (.Call (.Attribute (.Name x np) "append" apos) [e] [] cpos) pos) (tDrop (tBM X.K "list" rAppend (tVar i) (tCons te tNil))) (wApp i we) :=
  ⟨ps_expr (pe_bm PySem.F.plainAttrs_list PySem.F.slot_list_append PySem.F.type_list_append mt_append (pv i hN hv hd hcd) (pa_cons he.pe pa_nil hst) hbase hfew hline hst hplain) hs, so_app he.so⟩
/-- x[k] = e, an own list -/
def wSetI (i : Nat) (we wk : WE) : WS := fun ρ P => we ρ fun r => wk ρ fun q => match r, q with
  | .d v, .d (.int z) => (match ρ[i]? with
    | some (.mu (.l ds)) => (match ixN ds.length z with
      | some j => P.nx (ρ.set i (.mu (.l (ds.set j v))))
      | none => False)
    | _ => False)
  | _, _ => False
theorem so_setI {K : PySem.W.Frag} {i : Nat} (h : SoE K te we) (hk : SoE K tk wk) (hv : ∀ ρ Φ, wSetI i we wk ρ Φ → True) : SoS K (tAsg te (gSub (tVar i) tk rSetL)) (fun ρ P => (∃ ds, ρ[i]? = some (.mu (.l ds))) ∧ wSetI i we wk ρ P) := fun EX G H σ ρ P R f D E => by
  obtain ⟨⟨ds, e⟩, f⟩ := f
  obtain ⟨a, es, hg, vs, hH, dd⟩ := R.own e
  refine h EX G H σ ρ _ R f _ fun v G1 H1 r S rv f1 => ⟨.ref a, es, ?_⟩
  have R1 := R.step S
  refine hk EX G1 H1 σ ρ _ R1 f1 _ fun u G2 H2 q S2 ru f2 => ?_
  have R2 := R1.step S2
  split at f2
  · rename_i x z
    rw [e] at f2
    simp only at f2
    split at f2
    · rename_i j hj
      obtain ⟨a', es', hg', vs', hH', dd'⟩ := R2.own e
      rw [es] at es'
      cases es'
      refine ⟨a, vs', z, j, rfl, rwInt ru, hH', by rw [dpLen dd']; exact hj, ?_⟩
      obtain ⟨R3, S3, o3⟩ := R2.mut1 (m' := .l (ds.set j x)) (o := .lst (vs'.set j v)) e es (fun b hb => .inl (ownsl_in hb)) ⟨_, upd_same, dpSet (dpMono S2.gg _ _ rv) j dd'⟩
      exact (E.step R.toGd (S.trans S2)).nx EX G2 _ σ _ S3 R3 o3 f2
    · exact f2.elim
  · exact f2.elim
def wSetIx (i : Nat) (we wk : WE) : WS := fun ρ P => (∃ ds, ρ[i]? = some (.mu (.l ds))) ∧ wSetI i we wk ρ P
theorem ms_setI (i : Nat) (he : ME X e te we) (hk : ME X k tk wk) (hN : X.N[i]? = some x := by rfl) (hv : Vis X.env.scope x := by first | exact Or.inl rfl | exact Or.inr (Or.inl rfl) | exact Or.inr (Or.inr rfl)) (hd : (x == ("__debug__" : Str)) = false := by decide)
    (hcd : (x == ("__classdict__" : Str)) = false := by decide) (hs : swapsWithSole [.Subscript (.Name x np) k tpos] e pos.line X.env = pure false := by rfl) (hw : swappedStores [.Subscript (.Name x np) k tpos] e X.env = pure none := by rfl)
    (h1 : (assignEach [.Subscript (.Name x np) k tpos] X.env).map (·.2) = [assign (.Subscript (.Name x np) k tpos) X.env] := by rfl)
    (ha : ∀ v, assign (.Subscript (.Name x np) k tpos) X.env v = (do
      let ov ← holding [v] (eval (.Name x np) X.env)
      let iv ← holding [v, ov] (eval k X.env)
      standAt tpos
      holding [v, ov, iv] (setItem ov iv v)
      release [v, ov, iv] []) := by intro _; rfl) :
    MS X (.Assign [.Subscript (.Name x np) k tpos] e pos) (tAsg te (gSub (tVar i) tk rSetL)) (wSetIx i we wk) :=
  ⟨ps_asg he.pe (pg_sub (pv i hN hv hd hcd) hk.pe set_list ha) hs hw h1, so_setI he.so hk.so fun _ _ _ => trivial⟩
/-- box[k] = e -/
def wSetB (i : Nat) (we wk : WE) : WS := fun ρ P => we ρ fun r => wk ρ fun q => match r, q with
  | .d (.int _), .d (.int z) => (z = 0 ∨ z = 1 ∨ z = 2) ∧ (match ρ[i]? with
    | some (.sh (.p _)) => P.nx ρ
    | _ => False)
  | _, _ => False
def wSetBx (i : Nat) (we wk : WE) : WS := fun ρ P => (∃ a, ρ[i]? = some (.sh (.p a))) ∧ wSetB i we wk ρ P
theorem so_setB {K : PySem.W.Frag} {i : Nat} (h : SoE K te we) (hk : SoE K tk wk) : SoS K (tAsg te (gSub (tVar i) tk rSetL)) (wSetBx i we wk) := fun EX G H σ ρ P R f D E => by
  obtain ⟨⟨a, e⟩, f⟩ := f
  obtain ⟨va, es, ea, hbx⟩ := R.var e
  subst ea
  refine h EX G H σ ρ _ R f _ fun v G1 H1 r S rv f1 => ⟨.ref a, es, ?_⟩
  have R1 := R.step S
  refine hk EX G1 H1 σ ρ _ R1 f1 _ fun u G2 H2 q S2 ru f2 => ?_
  have R2 := R1.step S2
  split at f2
  · rename_i n z
    obtain ⟨hz, f2⟩ := f2
    rw [e] at f2
    simp only at f2
    obtain ⟨n0, n1, n2, hb⟩ := R2.bx _ hbx
    have ev := rwInt rv
    subst ev
    have fin : ∀ j : Nat, j < 3 → ixN 3 z = some j → rSetL (.ref a) u (.int n) H2 fun H3 => D.nx σ H3 := fun j hj3 hj => by
      refine ⟨a, _, z, j, rfl, rwInt ru, hb, hj, ?_⟩
      obtain ⟨R3, S3⟩ := R2.box (o := .lst (([.int n0, .int n1, .int n2] : List V).set j (.int n))) hbx (by
        rcases j with _ | _ | _ | j
        · exact ⟨n, n1, n2, upd_same⟩
        · exact ⟨n0, n, n2, upd_same⟩
        · exact ⟨n0, n1, n, upd_same⟩
        · omega)
      exact (E.step R.toGd (S.trans S2)).nx EX G2 _ σ _ S3.s R3 (fun b z => .inl z) f2
    rcases hz with rfl | rfl | rfl
    · exact fin 0 (by omega) rfl
    · exact fin 1 (by omega) rfl
    · exact fin 2 (by omega) rfl
  · exact f2.elim
theorem ms_setB (i : Nat) (he : ME X e te we) (hk : ME X k tk wk) (hN : X.N[i]? = some x := by rfl) (hv : Vis X.env.scope x := by first | exact Or.inl rfl | exact Or.inr (Or.inl rfl) | exact Or.inr (Or.inr rfl)) (hd : (x == ("__debug__" : Str)) = false := by decide)
    (hcd : (x == ("__classdict__" : Str)) = false := by decide) (hs : swapsWithSole [.Subscript (.Name x np) k tpos] e pos.line X.env = pure false := by rfl) (hw : swappedStores [.Subscript (.Name x np) k tpos] e X.env = pure none := by rfl)
    (h1 : (assignEach [.Subscript (.Name x np) k tpos] X.env).map (·.2) = [assign (.Subscript (.Name x np) k tpos) X.env] := by rfl)
    (ha : ∀ v, assign (.Subscript (.Name x np) k tpos) X.env v = (do
      let ov ← holding [v] (eval (.Name x np) X.env)
      let iv ← holding [v, ov] (eval k X.env)
      standAt tpos
      holding [v, ov, iv] (setItem ov iv v)
      release [v, ov, iv] []) := by intro _; rfl) :
    MS X (.Assign [.Subscript (.Name x np) k tpos] e pos) (tAsg te (gSub (tVar i) tk rSetL)) (wSetBx i we wk) :=
  ⟨ps_asg he.pe (pg_sub (pv i hN hv hd hcd) hk.pe set_list ha) hs hw h1, so_setB he.so hk.so⟩
/-! ### for, while -/
theorem ms_for {wi : TI} {g : TG} {tb : TS} {ui : WD} {ug : WG} {ub : WS} {sl : List Nat} (hi : MI X tg iter wi ui) (hg : MG X tg g ug sl) (hb : MSs X body tb ub) (hp : PassesOwn (model X.prog X.w) X.A X.env X.xe := by exact PassesOwn.never) (hc : X.calm = true := by rfl)
    (hs : ∀ x, foldedSetIterable iter X.env x = pure x := by intro _; rfl) : MS X (.For tg iter body [] pos) (tFor wi g tb) (wFor ui ug ub) := ⟨ps_for hp hc hi.pi hg.pg hb.ps hs, so_for hi.so hg.so hb.so⟩
def wWhile (wc : WT) (wb : WS) : WS := fun ρ P => ∃ I : Nat → Rh → Prop, (∃ n, I n ρ) ∧ ∀ n ρ', I n ρ' → wc ρ' fun k => if k = true then wb ρ' ⟨fun r => ∃ m, m < n ∧ I m r, P.rt, P.nx, fun r => ∃ m, m < n ∧ I m r⟩ else P.nx ρ'
theorem so_while {K : PySem.W.Frag} {tc : TT} {tb : TS} {uc : WT} {ub : WS} (hc : SoT K tc uc) (hb : SoS K tb ub) : SoS K (tWhile tc tb) (wWhile uc ub) := fun EX G H σ ρ P R f D E => by
  obtain ⟨I, ⟨n, h0⟩, step⟩ := f
  refine ⟨fun m σ' H' => ∃ EX' G' ρ', SStep EX (Own σ ρ) G H EX' G' H' ∧ Rel K EX' G' H' σ' ρ' ∧ (∀ b, Own σ' ρ' b → Own σ ρ b ∨ H b = none) ∧ I m ρ', ⟨n, EX, G, ρ, .refl, R, fun _ h => .inl h, h0⟩, ?_⟩
  rintro m σ' H' ⟨EX', G', ρ', S, R', o', im⟩
  refine hc EX' G' H' σ' ρ' _ R' (step m ρ' im) _ fun b G1 H1 S1 f1 => ?_
  have R1 := R'.step S1
  have SS : SStep EX (Own σ ρ) G H EX' G1 H1 := S.trans R'.toGd o' (S1.s (O := Own σ' ρ'))
  cases b with
  | true =>
    simp only [if_true] at f1 ⊢
    refine ⟨fun σ2 H2 => ∃ m', m' < m ∧ ∃ EX' G' ρ', SStep EX (Own σ ρ) G H EX' G' H2 ∧ Rel K EX' G' H2 σ2 ρ' ∧ (∀ b, Own σ2 ρ' b → Own σ ρ b ∨ H b = none) ∧ I m' ρ', fun σ2 H2 q => q, ?_⟩
    have E1 : EndsOk K EX' (Own σ' ρ') G1 H1 P D := E.from SS R1.toGd o'
    refine hb EX' G1 H1 σ' ρ' _ R1 f1 _ ⟨fun EX5 G5 H5 σ5 ρ5 S5 R5 o5 f5 => ?_, fun EX5 G5 H5 σ5 ρ5 S5 R5 o5 f5 => E1.nx EX5 G5 H5 σ5 ρ5 S5 R5 o5 f5, fun EX5 G5 H5 σ5 ρ5 S5 R5 o5 f5 => ?_, E1.rt⟩
    · obtain ⟨m', hm, hi⟩ := f5
      exact ⟨m', hm, EX5, G5, ρ5, SS.trans R1.toGd o' S5, R5, own_trans SS R1.toGd o' o5, hi⟩
    · obtain ⟨m', hm, hi⟩ := f5
      exact ⟨m', hm, EX5, G5, ρ5, SS.trans R1.toGd o' S5, R5, own_trans SS R1.toGd o' o5, hi⟩
  | false =>
    simp only [Bool.false_eq_true, if_false] at f1 ⊢
    exact E.nx EX' G1 H1 σ' ρ' SS R1 o' f1
theorem ms_while {tc : TT} {tb : TS} {uc : WT} {ub : WS} (hc : MT X c tc uc) (hb : MSs X body tb ub) (hp : PassesOwn (model X.prog X.w) X.A X.env X.xe := by exact PassesOwn.never) : MS X (.While c body [] pos) (tWhile tc tb) (wWhile uc ub) := ⟨ps_while hp hc.pt hb.ps, so_while hc.so hb.so⟩
end

/-! ### several names at once -/
abbrev WAo := Rh → (List Sl → Prop) → Prop
structure SlsAt (K : PySem.W.Frag) (EX : Ext) (G' H H' : Hp) (vs : List V) (ss : List Sl) : Prop where
  len : vs.length = ss.length
  at_ : ∀ (i : Nat) (s : Sl), ss[i]? = some s → SlAt K EX G' H' (vs[i]?.map some) s
  fr : ∀ (i : Nat) (m : Mu) (a b : Addr), ss[i]? = some (.mu m) → vs[i]? = some (.ref a) → b ∈ m.owns a → H b = none
  df : ∀ (i j : Nat) (m m' : Mu) (a a' b : Addr), ss[i]? = some (.mu m) → ss[j]? = some (.mu m') → vs[i]? = some (.ref a) → vs[j]? = some (.ref a') → b ∈ m.owns a → b ∈ m'.owns a' → i = j
def SoAo (K : PySem.W.Frag) (t : TA) (w : WAo) : Prop := ∀ (EX : Ext) (G H : Hp) (σ : L2.St) (ρ : Rh) (Φ : List Sl → Prop), Rel K EX G H σ ρ → w ρ Φ →
  ∀ Q : List V → Hp → Prop, (∀ vs G' H' ss, Step EX G H G' H' → SlsAt K EX G' H H' vs ss → Φ ss → Q vs H') → t σ H Q
structure MAo (X : Cx) (es : List Expr) (t : TA) (w : WAo) : Prop where
  pa : PA X es t
  so : SoAo X.K t w
/-- a value that only a slot will have -/
def SoN (K : PySem.W.Frag) (t : TE) (w : Rh → (Mu → Prop) → Prop) : Prop := ∀ (EX : Ext) (G H : Hp) (σ : L2.St) (ρ : Rh) (Φ : Mu → Prop), Rel K EX G H σ ρ → w ρ Φ →
  ∀ Q : VK, (∀ a G' H' m, Step EX G H G' H' → (∀ b ∈ m.owns a, H b = none ∧ G' b = none ∧ ¬ EX b .box) → MuAt K G' H' a m → Φ m → Q (.ref a) H') → t σ H Q
abbrev WN := Rh → (Mu → Prop) → Prop
structure MN (X : Cx) (e : Expr) (t : TE) (w : WN) : Prop where
  pe : PE X e t
  so : SoN X.K t w
section
variable {K : PySem.W.Frag} {EX : Ext} {G H G1 H1 G2 H2 : Hp} {σ : L2.St} {ρ : Rh}
theorem slsNil : SlsAt K EX G H H1 [] [] := ⟨rfl, fun _ _ e => by simp at e, fun _ _ _ _ e => by simp at e, fun _ _ _ _ _ _ _ e => by simp at e⟩
theorem SlsAt.cons {v : V} {s : Sl} {vs : List V} {ss : List Sl} (S1 : Step EX G H G1 H1) (S2 : Step EX G1 H1 G2 H2) (h : SlAt K EX G1 H1 (some (some v)) s) (fr : ∀ m a b, s = .mu m → v = .ref a → b ∈ m.owns a → H b = none)
    (h2 : SlsAt K EX G2 H1 H2 vs ss) : SlsAt K EX G2 H H2 (v :: vs) (s :: ss) where
  len := by rw [List.length_cons, List.length_cons, h2.len]
  at_ := fun i t e => by
    cases i with
    | zero =>
      simp only [List.getElem?_cons_zero, Option.some.injEq] at e
      subst e
      exact h.step S2
    | succ i =>
      simp only [List.getElem?_cons_succ] at e ⊢
      exact h2.at_ i t e
  fr := fun i m a b e e2 hb => by
    cases i with
    | zero =>
      simp only [List.getElem?_cons_zero, Option.some.injEq] at e e2
      exact fr m a b e e2 hb
    | succ i =>
      simp only [List.getElem?_cons_succ] at e e2
      exact S1.fresh (h2.fr i m a b e e2 hb)
  df := fun i j m m' a a' b e e' q q' b1 b2 => by
    have key : ∀ (j : Nat) (m m' : Mu) (a a' : Addr), s = .mu m → v = .ref a → ss[j]? = some (.mu m') → vs[j]? = some (.ref a') → b ∈ m.owns a → b ∈ m'.owns a' → False := fun j m m' a a' e1 e2 e3 e4 b1 b2 => by
      have z := h2.fr j m' a' b e3 e4 b2
      obtain ⟨a0, y1, _, y4⟩ := h.mu m e1
      rw [e2] at y1
      cases y1
      obtain ⟨u, hu, _⟩ := muThere y4 b b1
      rw [z] at hu; cases hu
    cases i with
    | zero =>
      cases j with
      | zero => rfl
      | succ j =>
        simp only [List.getElem?_cons_zero, Option.some.injEq, List.getElem?_cons_succ] at e e' q q'
        exact (key j m m' a a' e q e' q' b1 b2).elim
    | succ i =>
      cases j with
      | zero =>
        simp only [List.getElem?_cons_zero, Option.some.injEq, List.getElem?_cons_succ] at e e' q q'
        exact (key i m' m a' a e' q' e q b2 b1).elim
      | succ j =>
        simp only [List.getElem?_cons_succ] at e e' q q'
        rw [h2.df i j m m' a a' b e e' q q' b1 b2]
/-- a slot is given what is its -/
theorem Rel.put (R : Rel K EX G H σ ρ) (i : Nat) {v : V} {s : Sl} (h : SlAt K EX G H (some (some v)) s) (nu : s ≠ .un) (no : ∀ m a b, s = .mu m → v = .ref a → b ∈ m.owns a → ¬ Own σ ρ b) :
    Rel K EX G H (σ.set i (some v)) (ρ.set i s) ∧ ∀ b, Own (σ.set i (some v)) (ρ.set i s) b → (∃ m a, s = .mu m ∧ v = .ref a ∧ b ∈ m.owns a) ∨ Own σ ρ b := by
  cases s with
  | un => exact absurd rfl nu
  | sh w =>
    obtain ⟨v', e, rv⟩ := h.sh w rfl
    cases e
    exact ⟨R.set i rv, fun b q => .inr (own_set q)⟩
  | mu m =>
    obtain ⟨a, e, hg, hm⟩ := h.mu m rfl
    cases e
    exact ⟨R.setMu i hg hm fun b hb => no m a b rfl rfl hb, fun b q => (own_setMu R.len q).imp (fun z => ⟨m, a, rfl, rfl, z⟩) _root_.id⟩
end
section
variable {X : Cx} {e : Expr} {es : List Expr} {t : TE} {tA : TA} {w : WE} {wn : WN} {wd : WD} {wA : WAo}
def wNilO : WAo := fun _ Φ => Φ []
def wConsO (w : WE) (u : WAo) : WAo := fun ρ Φ => w ρ fun r => u ρ fun ss => Φ (.sh r :: ss)
def wConsN (w : WN) (u : WAo) : WAo := fun ρ Φ => w ρ fun m => u ρ fun ss => Φ (.mu m :: ss)
theorem mao_nil : MAo X [] tNil wNilO := ⟨pa_nil, fun EX G H σ ρ Φ R f Q q => q [] G H [] R.refl slsNil f⟩
theorem mao_cons (h : ME X e t w) (h2 : MAo X es tA wA) (hs : starEach (e :: es) X.env = (false, eval e X.env) :: starEach es X.env := by rfl) : MAo X (e :: es) (tCons t tA) (wConsO w wA) := ⟨pa_cons h.pe h2.pa hs, fun EX G H σ ρ Φ R f Q q =>
  h.so EX G H σ ρ _ R f _ fun v G1 H1 r S1 rv f1 => h2.so EX G1 H1 σ ρ _ (R.step S1) f1 _ fun vs G2 H2 ss S2 hs f2 =>
    q (v :: vs) G2 H2 (.sh r :: ss) (S1.trans S2) (.cons S1 S2 (slSh rv) (fun _ _ _ z => by cases z) hs) f2⟩
theorem mao_consN (h : MN X e t wn) (h2 : MAo X es tA wA) (hs : starEach (e :: es) X.env = (false, eval e X.env) :: starEach es X.env := by rfl) : MAo X (e :: es) (tCons t tA) (wConsN wn wA) := ⟨pa_cons h.pe h2.pa hs, fun EX G H σ ρ Φ R f Q q =>
  h.so EX G H σ ρ _ R f _ fun a G1 H1 m S1 hf hm f1 => h2.so EX G1 H1 σ ρ _ (R.step S1) f1 _ fun vs G2 H2 ss S2 hs f2 =>
    q (.ref a :: vs) G2 H2 (.mu m :: ss) (S1.trans S2) (.cons S1 S2 (slMu (fun b hb => (hf b hb).2) hm) (fun m' a' b z z' hb => by cases z; cases z'; exact (hf b hb).1) hs) f2⟩
def wL2N (wd : WD) : WN := fun ρ Φ => wd ρ fun ds => Φ (.l ds)
theorem mn_l (h : ML X e t wd) : MN X e t (wL2N wd) := ⟨h.pe, fun EX G H σ ρ Φ R f Q q => h.so EX G H σ ρ _ R f _ fun a vs G1 H1 ds S1 ha ga ba h1 dd f1 =>
  q a G1 H1 (.l ds) S1 (fun b hb => by rw [owns_l hb]; exact ⟨ha, ga, ba⟩) ⟨vs, h1, dd⟩ f1⟩
/-- {} -/
theorem mn_dK {pos : Pos} : MN X (.Dict [] [] pos) tDNewK (fun _ Φ => Φ (.k [])) := ⟨pe_dnewK, fun EX G H σ ρ Φ R f Q q p hp =>
  q p G _ (.k []) (R.toGd.newOut hp) (fun b hb => by rw [owns_k hb]; exact ⟨hp, R.toGd.free hp, R.toGd.notBox hp⟩) ⟨[], upd_same, .nil⟩ f⟩
theorem mn_dT {pos : Pos} : MN X (.Dict [] [] pos) tDNewT (fun _ Φ => Φ (.t [])) := ⟨pe_dnewT, fun EX G H σ ρ Φ R f Q q p hp =>
  q p G _ (.t []) (R.toGd.newOut hp) (fun b hb => by rw [owns_t hb]; exact ⟨hp, R.toGd.free hp, R.toGd.notBox hp⟩) ⟨[], upd_same, .nil⟩ f⟩
theorem mn_dKL {pos : Pos} : MN X (.Dict [] [] pos) tDNewK (fun _ Φ => Φ (.kl [])) := ⟨pe_dnewK, fun EX G H σ ρ Φ R f Q q p hp =>
  q p G _ (.kl []) (R.toGd.newOut hp) (fun b hb => by rw [show b = p by simpa [Mu.owns, Mu.subs] using hb]; exact ⟨hp, R.toGd.free hp, R.toGd.notBox hp⟩) ⟨upd_same, (fun _ h => by simp at h), by simp⟩ f⟩
/-- x = e, its own -/
def wSetN (i : Nat) (wn : WN) : WS := fun ρ P => wn ρ fun m => P.nx (ρ.set i (.mu m))
theorem ms_setN (i : Nat) {x : Str} {pos pos' : Pos} (hN : X.N.Nodup) (he : MN X e t wn) (hi : X.N[i]? = some x := by rfl) (hx : Loc X.env.scope x := by first | exact Or.inl rfl | exact Or.inr rfl) (hs : swapsWith e (some (.Name x pos')) pos.line X.env = pure false := by rfl)
    (hf : X.fn x = true ∨ X.env.scope.names.lookup x = some .local := by first | exact .inl rfl | exact .inr rfl) : MS X (.Assign [.Name x pos'] e pos) (tAsg t (gName i)) (wSetN i wn) := ⟨ps_set hN hi hx he.pe hs hf, fun EX G H σ ρ P R f D E =>
  he.so EX G H σ ρ _ R f _ fun a G1 H1 m S1 hf hm f1 => by
    have R1 := R.step S1
    refine E.nx EX G1 H1 _ _ S1.s (R1.setMu i (fun b hb => (hf b hb).2) hm fun b hb o => ?_) (fun b q => ?_) f1
    · obtain ⟨_, _, u, hu, _⟩ := R.ownAt (b := b) o
      rw [(hf b hb).1] at hu; cases hu
    · rcases own_setMu R1.len q with z | z
      · exact .inr (hf b z).1
      · exact .inl z⟩
def putR (ρ : Rh) : List Nat → List Sl → Rh
  | i :: is, s :: ss => putR (ρ.set i s) is ss
  | _, _ => ρ
def putS (σ : L2.St) : List Nat → List V → L2.St
  | i :: is, v :: vs => putS (σ.set i (some v)) is vs
  | _, _ => σ
theorem Rel.puts {K : PySem.W.Frag} {EX : Ext} {G H0 H : Hp} {O : Addr → Prop} : ∀ {is : List Nat} {vs : List V} {ss : List Sl} {σ : L2.St} {ρ : Rh}, Rel K EX G H σ ρ → SlsAt K EX G H0 H vs ss → (∀ s ∈ ss, s ≠ .un) → (∀ b, O b → H0 b ≠ none) →
    (∀ b, Own σ ρ b → O b ∨ H0 b = none) → (∀ b, Own σ ρ b → ∀ (j : Nat) (m : Mu) (a : Addr), ss[j]? = some (.mu m) → vs[j]? = some (.ref a) → b ∉ m.owns a) →
    Rel K EX G H (putS σ is vs) (putR ρ is ss) ∧ ∀ b, Own (putS σ is vs) (putR ρ is ss) b → O b ∨ H0 b = none
  | [], vs, ss, σ, ρ, R, _, _, _, h, _ => by
    simp only [putS, putR]
    exact ⟨R, h⟩
  | i :: is, [], ss, σ, ρ, R, A, _, _, h, _ => by
    cases ss with
    | nil =>
      simp only [putS, putR]
      exact ⟨R, h⟩
    | cons s ss => exact absurd A.len (by simp)
  | i :: is, v :: vs, [], σ, ρ, R, A, _, _, h, _ => absurd A.len (by simp)
  | i :: is, v :: vs, s :: ss, σ, ρ, R, A, hu, hO, h, hd => by
    obtain ⟨R1, o1⟩ := R.put i (A.at_ 0 s rfl) (hu s List.mem_cons_self) (fun m a b e1 e2 hb o => hd b o 0 m a (by rw [e1]; rfl) (by rw [e2]; rfl) hb)
    have A' : SlsAt K EX G H0 H vs ss := ⟨by have := A.len; simpa using this, fun j t e => A.at_ (j + 1) t e, fun j m a b e e2 => A.fr (j + 1) m a b e e2, fun j k m m' a a' b e e' q q' b1 b2 => by
      have := A.df (j + 1) (k + 1) m m' a a' b e e' q q' b1 b2
      omega⟩
    simp only [putS, putR]
    refine Rel.puts (is := is) (vs := vs) (ss := ss) (σ := σ.set i (some v)) (ρ := ρ.set i s) R1 A' (fun s hs => hu s (List.mem_cons_of_mem _ hs)) hO (fun b q => ?_) fun b q j m a e1 e2 hb => ?_
    · rcases o1 b q with ⟨m, a, e1, e2, hb⟩ | z
      · exact .inr (A.fr 0 m a b (by rw [e1]; rfl) (by rw [e2]; rfl) hb)
      · exact h b z
    · rcases o1 b q with ⟨m', a', e1', e2', hb'⟩ | z
      · have := A.df 0 (j + 1) m' m a' a b (by rw [e1']; rfl) e1 (by rw [e2']; rfl) e2 hb' hb
        omega
      · exact hd b z (j + 1) m a e1 e2 hb
/-- a, b = x, y; a, b, c = x, y, z -/
def noUn : List Sl → Bool
  | [] => true
  | .un :: _ => false
  | _ :: ss => noUn ss
theorem noUn_iff : ∀ {ss : List Sl}, noUn ss = true → ∀ s ∈ ss, s ≠ .un
  | .sh _ :: ss, h, s, hs => by
    rcases List.mem_cons.mp hs with rfl | q
    · intro z; cases z
    · exact noUn_iff (by simpa [noUn] using h) s q
  | .mu _ :: ss, h, s, hs => by
    rcases List.mem_cons.mp hs with rfl | q
    · intro z; cases z
    · exact noUn_iff (by simpa [noUn] using h) s q
def wPar (is : List Nat) (wA : WAo) : WS := fun ρ P => wA ρ fun ss => ss.length = is.length ∧ noUn ss = true ∧ P.nx (putR ρ is ss)
theorem so_parG {K : PySem.W.Frag} {wA : WAo} {tA : TA} {is : List Nat} (h : SoAo K tA wA) : SoS K (fun D σ H => tA σ H fun vs H1 => vs.length = is.length ∧ D.nx (putS σ is vs) H1) (wPar is wA) := fun EX G H σ ρ P R f D E =>
  h EX G H σ ρ _ R f _ fun vs G1 H1 ss S1 A f1 => by
    obtain ⟨hl, hu, f2⟩ := f1
    have R1 := R.step S1
    obtain ⟨R2, o2⟩ := Rel.puts (O := Own σ ρ) (is := is) R1 A (noUn_iff hu) (fun b o z => by
      obtain ⟨_, _, u, hu, _⟩ := R.ownAt (b := b) o
      rw [z] at hu; cases hu) (fun b o => .inl o) (fun b o j m a e1 e2 hb => by
      obtain ⟨_, _, u, hu, _⟩ := R.ownAt (b := b) o
      rw [A.fr j m a b e1 e2 hb] at hu; cases hu)
    exact ⟨A.len.trans hl, E.nx EX G1 H1 _ _ S1.s R2 o2 f2⟩
theorem ms_par2 {x y : Str} {a b : Expr} {px py pt pos : Pos} {kt k2 : Nat} {pt2 : Pos} (i j : Nat) (hN : X.N.Nodup) (ha : MAo X [a, b] tA wA) (hij : i ≠ j := by decide) (hi : X.N[i]? = some x := by rfl) (hj : X.N[j]? = some y := by rfl)
    (hx : X.env.scope.names.lookup x = some .local := by rfl) (hy : X.env.scope.names.lookup y = some .local := by rfl) (hc : X.calm = true := by rfl)
    (hw : swappedStores [.Tuple [.Name x px, .Name y py] kt pt] (.Tuple [a, b] k2 pt2) X.env = pure (some [x, y]) := by rfl)
    (hs : swapsWithSole [.Tuple [.Name x px, .Name y py] kt pt] (.Tuple [a, b] k2 pt2) pos.line X.env = pure false := by rfl) :
    MS X (.Assign [.Tuple [.Name x px, .Name y py] kt pt] (.Tuple [a, b] k2 pt2) pos) (tPar i j tA) (wPar [i, j] wA) := ⟨ps_par hc hN hi hj hij hx hy ha.pa hw hs, fun EX G H σ ρ P R f D E => by
  have key := so_parG (is := [i, j]) ha.so EX G H σ ρ P R f
  refine ha.so EX G H σ ρ _ R f _ fun vs G1 H1 ss S1 A f1 => ?_
  obtain ⟨hl, hu, f2⟩ := f1
  have R1 := R.step S1
  obtain ⟨R2, o2⟩ := Rel.puts (O := Own σ ρ) (is := [i, j]) R1 A (noUn_iff hu) (fun b o z => by
    obtain ⟨_, _, u, hu, _⟩ := R.ownAt (b := b) o
    rw [z] at hu; cases hu) (fun b o => .inl o) (fun b o j m a e1 e2 hb => by
    obtain ⟨_, _, u, hu, _⟩ := R.ownAt (b := b) o
    rw [A.fr j m a b e1 e2 hb] at hu; cases hu)
  have hl2 : vs.length = 2 := A.len.trans hl
  obtain ⟨u, v, rfl⟩ : ∃ u v, vs = [u, v] := by
    match vs, hl2 with
    | [u, v], _ => exact ⟨u, v, rfl⟩
  exact ⟨u, v, rfl, E.nx EX G1 H1 _ _ S1.s R2 o2 f2⟩⟩
theorem ms_par3 {x y z : Str} {a b c : Expr} {px py pz pt pos : Pos} {kt k2 : Nat} {pt2 : Pos} (i j l : Nat) (hN : X.N.Nodup) (ha : MAo X [a, b, c] tA wA) (hij : i ≠ j := by decide) (hil : i ≠ l := by decide) (hjl : j ≠ l := by decide) (hi : X.N[i]? = some x := by rfl) (hj : X.N[j]? = some y := by rfl) (hk : X.N[l]? = some z := by rfl)
    (hx : X.env.scope.names.lookup x = some .local := by rfl) (hy : X.env.scope.names.lookup y = some .local := by rfl) (hz : X.env.scope.names.lookup z = some .local := by rfl) (hc : X.calm = true := by rfl)
    (hw : swappedStores [.Tuple [.Name x px, .Name y py, .Name z pz] kt pt] (.Tuple [a, b, c] k2 pt2) X.env = pure (some [x, y, z]) := by rfl)
    (hs : swapsWithSole [.Tuple [.Name x px, .Name y py, .Name z pz] kt pt] (.Tuple [a, b, c] k2 pt2) pos.line X.env = pure false := by rfl) :
    MS X (.Assign [.Tuple [.Name x px, .Name y py, .Name z pz] kt pt] (.Tuple [a, b, c] k2 pt2) pos) (tPar3 i j l tA) (wPar [i, j, l] wA) := ⟨ps_par3 hc hN hi hj hk hij hil hjl hx hy hz ha.pa hw hs, fun EX G H σ ρ P R f D E => by
  refine ha.so EX G H σ ρ _ R f _ fun vs G1 H1 ss S1 A f1 => ?_
  obtain ⟨hl, hu, f2⟩ := f1
  have R1 := R.step S1
  obtain ⟨R2, o2⟩ := Rel.puts (O := Own σ ρ) (is := [i, j, l]) R1 A (noUn_iff hu) (fun b o z => by
    obtain ⟨_, _, u, hu, _⟩ := R.ownAt (b := b) o
    rw [z] at hu; cases hu) (fun b o => .inl o) (fun b o j m a e1 e2 hb => by
    obtain ⟨_, _, u, hu, _⟩ := R.ownAt (b := b) o
    rw [A.fr j m a b e1 e2 hb] at hu; cases hu)
  have hl2 : vs.length = 3 := A.len.trans hl
  obtain ⟨u, v, w, rfl⟩ : ∃ u v w, vs = [u, v, w] := by
    match vs, hl2 with
    | [u, v, w], _ => exact ⟨u, v, w, rfl⟩
  exact ⟨u, v, w, rfl, E.nx EX G1 H1 _ _ S1.s R2 o2 f2⟩⟩
end
end Pd
end

section
set_option Elab.async false
set_option linter.all false
set_option maxRecDepth 100000
set_option autoImplicit false
set_option maxHeartbeats 1000000
/-! Pd, defs: what a def promises of data (a call's guards stay empty, so repr may stand in it) -/
namespace Pd
open PySem PySem.Spec PyProof.Rows L2

abbrev FW := List W → (W → Prop) → Prop
/-- at the level of values: F over data; a def has no own slots at its start -/
def SpD (K : PySem.W.Frag) (n : Nat) (F : FW) (vs : List V) (H : Hp) (Q : VK) : Prop := vs.length = n ∧ ∃ (EX : Ext) (G : Hp) (ws : List W) (Φ : W → Prop), Gd K EX G H ∧ RwAll K EX G vs ws ∧ F ws Φ ∧
  ∀ EX' G' H' v r, SStep EX (fun _ => False) G H EX' G' H' → Gd K EX' G' H' → Rw K EX' G' v r → Φ r → Q v H'
structure FnG (P : Program) (w : World) (K : PySem.W.Frag) (mg : Str → Option Value) (base : Heap) (k : Nat) (f : Addr) (fd : FuncData) (ps : List Str) (F : FW) : Prop where
  run : ∀ (A : Around) (outer : List Env) (s : Shared) (H : Hp) (args : Args) (us : List Value) (vs : List V) (Q : VK), Room k A → A.guards = some [] → Env0 P w K mg base A outer s H → BindsTo s fd args (ps.zip us) → Vals vs us →
    SpD K ps.length F vs H Q → codeAny (model P w) A (.call (.ref f) args) (CR CX0 outer P w H s Q E0) s
theorem FnG.mono {P : Program} {w : World} {K : PySem.W.Frag} {mg : Str → Option Value} {base : Heap} {j k : Nat} {f : Addr} {fd : FuncData} {ps : List Str} {F : FW} (h : FnG P w K mg base j f fd ps F) (l : j ≤ k) : FnG P w K mg base k f fd ps F :=
  ⟨fun A outer s H args us vs Q hr hg => h.run A outer s H args us vs Q (hr.mono l) hg⟩
/-- a weaker promise -/
theorem FnG.imp {P : Program} {w : World} {K : PySem.W.Frag} {mg : Str → Option Value} {base : Heap} {k : Nat} {f : Addr} {fd : FuncData} {ps : List Str} {F F' : FW} (h : FnG P w K mg base k f fd ps F) (l : ∀ ws Φ, F' ws Φ → F ws Φ) : FnG P w K mg base k f fd ps F' :=
  ⟨fun A outer s H args us vs Q hr hg e b v ⟨q1, EX, G, ws, Φ, q2, q3, q4, q5⟩ => h.run A outer s H args us vs Q hr hg e b v ⟨q1, EX, G, ws, Φ, q2, q3, l _ _ q4, q5⟩⟩

def startR (N : List Str) (ws : List W) : Rh := ws.map Sl.sh ++ List.replicate (N.length - ws.length) .un
theorem startR_rel {K : PySem.W.Frag} {EX : Ext} {G H : Hp} {N : List Str} {vs : List V} {ws : List W} (R : Gd K EX G H) (h : RwAll K EX G vs ws) : Rel K EX G H (L2.start N vs) (startR N ws) ∧ ∀ b, ¬ Own (L2.start N vs) (startR N ws) b := by
  have hl : vs.length = ws.length := Paired.length h
  have nomu : ∀ (i : Nat) (m : Mu), (startR N ws)[i]? ≠ some (.mu m) := fun i m e => by
    unfold startR at e
    by_cases hi : i < ws.length
    · rw [List.getElem?_append_left (by simpa using hi), List.getElem?_map] at e
      cases q : ws[i]? with
      | none => rw [q] at e; cases e
      | some x => rw [q] at e; cases e
    · rw [List.getElem?_append_right (by simpa using hi), List.getElem?_replicate] at e
      split at e <;> cases e
  refine ⟨⟨R, fun i s e => ?_, fun i j m m' a a' b e => absurd e (nomu i m), ?_⟩, fun b ⟨i, m, a, e, _⟩ => nomu i m e⟩
  · unfold startR at e
    unfold L2.start
    by_cases hi : i < ws.length
    · rw [List.getElem?_append_left (by simpa using hi), List.getElem?_map] at e
      rw [List.getElem?_append_left (by simpa [hl] using hi), List.getElem?_map]
      have key : ∀ {vs : List V} {ws : List W} (_ : RwAll K EX G vs ws) (i : Nat) (s : Sl), (ws[i]?).map Sl.sh = some s → SlAt K EX G H ((vs[i]?).map some) s := by
        intro vs ws h
        induction h with
        | nil => intro i s e; simp at e
        | cons h t ih =>
          intro i s e
          cases i with
          | zero =>
            simp only [List.getElem?_cons_zero, Option.map_some, Option.some.injEq] at e ⊢
            subst e
            exact slSh h
          | succ i =>
            simp only [List.getElem?_cons_succ] at e ⊢
            exact ih i s e
      exact key h i s e
    · rw [List.getElem?_append_right (by simpa using hi), List.getElem?_replicate] at e
      split at e
      · cases e
        exact slUn
      · cases e
  · unfold startR L2.start
    rw [List.length_append, List.length_append, List.length_map, List.length_map, List.length_replicate, List.length_replicate, hl]
section
variable {P : Program} {w : World} {K : PySem.W.Frag} {mg : Str → Option Value} {base : Heap}
/-- a def by its body, over data -/
theorem fn_g {x qual : Str} {st : Stmt} {f : Addr} {fd : FuncData} {N ps : List Str} {k : Nat} {F : FW} (FN : Fun K x qual st f fd) (S : FnScope N ps (defScope st))
    (hbody : ∀ (cdv : Value) (A : Around) (outer : List Env) (s : Shared) (H : Hp), Room k (A.deeper (envOfC qual (defScope st) s.heap.objs.size f cdv)) → (A.deeper (envOfC qual (defScope st) s.heap.objs.size f cdv)).guards = some [] →
      ∃ (t : TS) (u : WS), MSs (cxOf CX0 P w K mg base N qual (defScope st) f cdv A outer s H E0).nox (defBody st) t u ∧ ∀ ws Φ, F ws Φ → u (startR N ws) ⟨fun _ => Φ (.d .none), Φ, fun _ => False, fun _ => False⟩) : FnG P w K mg base (k + 1) f fd ps F := by
  obtain ⟨oc, od, kV, doc, pm, an, cdv, ct, osl, rfl, lk, hcd⟩ := FN.ex
  constructor
  intro A outer s H args us vs Q hr hg e0 hb r ⟨hl, EX, G, ws, Φ, gd, rw0, hF, hQ⟩
  have kin : K.In s.heap := e0.mod.kin.keeps fun b o e => (e0.bs b o e).1
  have nolim : s.heap.NoLimit := e0.mod.nolimit.keeps fun b o e => (e0.bs b o e).1
  obtain ⟨t, u, hM, hW⟩ := hbody cdv A outer s H (hr.deeper _) hg
  obtain ⟨R0, noOwn⟩ := startR_rel (N := N) gd rw0
  have hq : t { nx := fun _ H' => Q .non H', rt := Q } (L2.start N vs) H := by
    refine hM.so EX G H _ _ _ R0 (hW ws Φ hF) _ ⟨fun EX' G' H' σ' ρ' S1 R1 o1 f1 => ?_, fun _ _ _ _ _ _ _ _ f1 => f1.elim, fun _ _ _ _ _ _ _ _ f1 => f1.elim, fun EX' G' H' v r' S1 R1 rv f1 => ?_⟩
    · exact hQ EX' G' H' .non (.d .none) ⟨fun b o q => (S1.st b o q).imp _root_.id fun z => .inr (z.resolve_left fun y => noOwn b y), S1.bb, fun b q => (S1.bn b q).imp _root_.id fun z => .inl (z.resolve_right fun y => noOwn b y), S1.gg, fun b o q => (S1.gn b o q).imp _root_.id fun z => .inl (z.resolve_right fun y => noOwn b y)⟩ R1.toGd Dd.non f1
    · exact hQ EX' G' H' v r' ⟨fun b o q => (S1.st b o q).imp _root_.id fun z => .inr (z.resolve_left fun y => noOwn b y), S1.bb, fun b q => (S1.bn b q).imp _root_.id fun z => .inl (z.resolve_right fun y => noOwn b y), S1.gg, fun b o q => (S1.gn b o q).imp _root_.id fun z => .inl (z.resolve_right fun y => noOwn b y)⟩ R1 rv f1
  have par : ∀ y ∈ ps.zip us, (defScope st).names.lookup y.1 = some .local ∨ ((defScope st).names.lookup y.1 = some .cell ∧ ((cellsFrom (s.heap.objs.size + 1) (defScope st).names []).lookup y.1).isSome = true) := by
    rintro ⟨n, v⟩ hy
    exact (S.par n (List.of_mem_zip hy).1).imp _root_.id fun q => ⟨q, PySem.W.cellsFrom_some _ _ _ (.inl q)⟩
  refine codeAny_call_function hr.depth (kin _ _ lk) rfl S.co S.gen rfl (PySem.W.codeRec_of kin hcd) (hb _ _ _ _ ?_)
  refine wpAny_newFunctionEnv_cells S.kind par fun env he s1 x1 => ?_
  subst he
  refine ⟨nolim.keeps x1.toInCall.keep, codeAny_func ?_⟩
  have I0 := inv_start (CX := CX0) (E := E0) (cd := cdv) (f := f) (qual := qual) (w := w) S hr.hd e0 hl r x1
  refine wpAny_mono (hM.ps.nox.run [] s1 _ H _ I0 hq) (fun fl s' hs => ?_) fun _ _ hs => hs
  cases fl with
  | next =>
    obtain ⟨σ', H', J, q⟩ := hs
    exact ⟨.non, H', J.os, J.bare, J.base, J.hok, rfl, q⟩
  | ret u =>
    obtain ⟨v, σ', H', J, rv, q⟩ := hs
    exact ⟨v, H', J.os, J.bare, J.base, J.hok, rv, q⟩
  | brk => obtain ⟨_, _, _, q⟩ := hs; exact q.elim
  | cont => obtain ⟨_, _, _, q⟩ := hs; exact q.elim
/-- a def that may be called by its name -/
structure Cl (P : Program) (w : World) (K : PySem.W.Frag) (mg : Str → Option Value) (base : Heap) (k : Nat) (x : Str) (n : Nat) (F : FW) : Prop where
  ex : ∃ (f : Addr) (fd : FuncData) (ps : List Str), ps.length = n ∧ FnG P w K mg base k f fd ps F ∧ mg x = some (.ref f) ∧ PySem.W.keepIn K (.ref f) = true ∧ Binds K fd ps []
theorem Cl.mono {j k n : Nat} {x : Str} {F : FW} (c : Cl P w K mg base j x n F) (l : j ≤ k) : Cl P w K mg base k x n F := by
  obtain ⟨f, fd, ps, h1, h2, h3⟩ := c.ex
  exact ⟨f, fd, ps, h1, h2.mono l, h3⟩
theorem Cl.imp {k n : Nat} {x : Str} {F F' : FW} (c : Cl P w K mg base k x n F) (l : ∀ ws Φ, F' ws Φ → F ws Φ) : Cl P w K mg base k x n F' := by
  obtain ⟨f, fd, ps, h1, h2, h3⟩ := c.ex
  exact ⟨f, fd, ps, h1, h2.imp l, h3⟩
/-- what the top has laid of a def -/
structure Df (K : PySem.W.Frag) (mg : Str → Option Value) (x : Str) (st : Stmt) (ps : List Str) : Prop where
  ex : ∃ (f : Addr) (fd : FuncData), Fun K x x st f fd ∧ mg x = some (.ref f) ∧ Binds K fd ps []
theorem Df.cl {x : Str} {st : Stmt} {N ps : List Str} {k : Nat} {F : FW} (d : Df K mg x st ps) (S : FnScope N ps (defScope st))
    (hbody : ∀ (f : Addr) (cdv : Value) (A : Around) (outer : List Env) (s : Shared) (H : Hp), Room k (A.deeper (envOfC x (defScope st) s.heap.objs.size f cdv)) → (A.deeper (envOfC x (defScope st) s.heap.objs.size f cdv)).guards = some [] →
      ∃ (t : TS) (u : WS), MSs (cxOf CX0 P w K mg base N x (defScope st) f cdv A outer s H E0).nox (defBody st) t u ∧ ∀ ws Φ, F ws Φ → u (startR N ws) ⟨fun _ => Φ (.d .none), Φ, fun _ => False, fun _ => False⟩) : Cl P w K mg base (k + 1) x ps.length F := by
  obtain ⟨f, fd, h1, h2, h3⟩ := d.ex
  exact ⟨f, fd, ps, rfl, fn_g h1 S (hbody f), h2, h1.kp, h3⟩
end
section
variable {X : Cx} {x : Str} {k n : Nat} {F : FW} {e : Expr} {es : List Expr} {tA : TA} {wA : WA} {p pos pos' : Pos}
def tCallD (K : PySem.W.Frag) (n : Nat) (F : FW) (t : TA) : TE := fun σ H Q => t σ H fun vs H1 => SpD K n F vs H1 Q
theorem pe_callD (c : Cl X.prog X.w X.K X.mg X.base k x n F) (hr : Room k X.A) (hgd : X.A.guards = some []) (hg : Gl X x) (ha : PA X (e :: es) tA) (hdb : (x == ("__debug__" : Str)) = false)
    (he : starEach (e :: es) X.env = (false, eval e X.env) :: starEach es X.env) (hpl : (backTo pos (starEach es X.env)).any (·.1) = false) : PE X (.Call (.Name x p) (e :: es) [] pos) (tCallD X.K n F tA) := by
  obtain ⟨f, fd, ps, hn, hF, hm, hk, hb⟩ := c.ex
  subst hn
  constructor
  intro pins s σ H Q I h
  refine wpAny_Call_Name_kw (ld_glob I hg hm ?_ hdb)
  refine PySem.W.callWith_K (h₀ := X.base) I.ok.mod.kin hk (thn (ha.run pos pins s σ H _ I h) fun us s1 ⟨vs, H1, I1, r, q⟩ => ⟨I1.kIn, wpAny_call ?_⟩) he hpl
  have hlen : (us ++ []).length = ps.length := by rw [List.append_nil, ← r.length]; exact q.1
  have hbb := hb s1 us I1.kIn hlen
  rw [List.append_nil] at hbb
  refine codeAny_mono (hF.run X.A X.stack s1 H1 ⟨us, []⟩ us vs Q hr hgd I1.env0 hbb r q) fun res s' hq => ?_
  match res, hq with
  | .ok (.ret u), hq => exact I1.after hq
/-- what a call says in an expression: data alone come back -/
def dOnly (Φ : W → Prop) : W → Prop
  | .d x => Φ (.d x)
  | .dk x => Φ (.dk x)
  | .dt x => Φ (.dt x)
  | _ => False
def wCallD (F : FW) (wA : WA) : WE := fun ρ Φ => wA ρ fun ws => F ws (dOnly Φ)
theorem spD_step {K : PySem.W.Frag} {EX EX' : Ext} {G H G' H' : Hp} (S : SStep EX (fun _ => False) G H EX' G' H') (R : Gd K EX' G' H') : Step EX G H G' H' where
  st := fun b o h => (S.st b o h).imp _root_.id fun z => z.resolve_left _root_.id
  bx := fun b h => R.bx b (S.bb b _ h)
  gg := S.gg
  sub := R.sub
  gn := fun b o h => (S.gn b o h).imp _root_.id fun z => z.resolve_right _root_.id
  ex := fun b h => R.ex b (S.bb b _ h)
theorem so_callD {K : PySem.W.Frag} (h : SoA K tA wA) (hl : ∀ ws Φ, F ws Φ → ws.length = n) : SoE K (tCallD K n F tA) (wCallD F wA) := fun EX G H σ ρ Φ R f Q q => h EX G H σ ρ _ R f _ fun vs G1 H1 ws S1 rv f1 => by
  refine ⟨(Paired.length rv).trans (hl _ _ f1), EX, G1, ws, _, R.toGd.step S1, rv, f1, fun EX' G' H' v r S2 R2 rr fr => ?_⟩
  have S12 := S1.trans (spD_step S2 R2)
  unfold dOnly at fr
  split at fr
  · exact q v G' H' (.d _) S12 rr fr
  · exact q v G' H' (.dk _) S12 rr fr
  · exact q v G' H' (.dt _) S12 rr fr
  · exact fr.elim
theorem me_callD (c : Cl X.prog X.w X.K X.mg X.base k x n F) (hr : Room k X.A) (hgd : X.A.guards = some []) (hl : ∀ ws Φ, F ws Φ → ws.length = n) (ha : MA X (e :: es) tA wA) (hg : Gl X x := by rfl) (hdb : (x == ("__debug__" : Str)) = false := by decide)
    (he : starEach (e :: es) X.env = (false, eval e X.env) :: starEach es X.env := by rfl) (hpl : (backTo pos (starEach es X.env)).any (·.1) = false := by rfl) : ME X (.Call (.Name x p) (e :: es) [] pos) (tCallD X.K n F tA) (wCallD F wA) :=
  ⟨pe_callD c hr hgd hg ha.pa hdb he hpl, so_callD ha.so hl⟩
/-- x = f(..), that gives a box -/
def wSetC (i : Nat) (F : FW) (wA : WA) : WS := fun ρ P => wA ρ fun ws => F ws fun r => match r with
  | .p a => P.nx (ρ.set i (.sh (.p a)))
  | _ => False
theorem ms_setC (i : Nat) {y : Str} {ps : Pos} (hN : X.N.Nodup) (c : Cl X.prog X.w X.K X.mg X.base k x n F) (hr : Room k X.A) (hgd : X.A.guards = some []) (hl : ∀ ws Φ, F ws Φ → ws.length = n) (ha : MA X (e :: es) tA wA) (hg : Gl X x := by rfl) (hdb : (x == ("__debug__" : Str)) = false := by decide)
    (he : starEach (e :: es) X.env = (false, eval e X.env) :: starEach es X.env := by rfl) (hpl : (backTo pos (starEach es X.env)).any (·.1) = false := by rfl)
    (hi : X.N[i]? = some y := by rfl) (hx : Loc X.env.scope y := by first | exact Or.inl rfl | exact Or.inr rfl) (hs : swapsWith (.Call (.Name x p) (e :: es) [] pos) (some (.Name y ps)) pos'.line X.env = pure false := by rfl)
    (hf : X.fn y = true ∨ X.env.scope.names.lookup y = some .local := by first | exact .inl rfl | exact .inr rfl) : MS X (.Assign [.Name y ps] (.Call (.Name x p) (e :: es) [] pos) pos') (tAsg (tCallD X.K n F tA) (gName i)) (wSetC i F wA) :=
  ⟨ps_set hN hi hx (pe_callD c hr hgd hg ha.pa hdb he hpl) hs hf, fun EX G H σ ρ P R f D E => ha.so EX G H σ ρ _ R f _ fun vs G1 H1 ws S1 rv f1 => by
    refine ⟨(Paired.length rv).trans (hl _ _ f1), EX, G1, ws, _, R.toGd.step S1, rv, f1, fun EX' G' H' v r S2 R2 rr fr => ?_⟩
    split at fr
    · rename_i a
      have R1 := R.step S1
      have S3 := spD_step S2 R2
      have R3 : Rel X.K EX' G' H' σ ρ := by
        have Ra := R1.step S3
        refine ⟨R2, fun j s e => ?_, Ra.df, Ra.len⟩
        have A := Ra.sl j s e
        refine ⟨fun w z => ?_, fun m z => ?_⟩
        · obtain ⟨v, y1, y2⟩ := A.sh w z
          exact ⟨v, y1, rwMono (Same.refl _) S2.bb y2⟩
        · obtain ⟨a', y1, y2, y4⟩ := A.mu m z
          refine ⟨a', y1, fun b hb => ⟨(y2 b hb).1, fun bx => ?_⟩, y4⟩
          rcases S2.bn b bx with z1 | z1 | z1
          · exact (y2 b hb).2 z1
          · obtain ⟨_, _, u, hu, _⟩ := R1.ownAt (b := b) ⟨j, m, a', by rw [e, z], y1, hb⟩
            rw [z1] at hu; cases hu
          · exact z1
      refine E.nx EX' G' H' _ _ ⟨fun b o q => ?_, S2.bb, fun b q => ?_, S1.gg.trans S2.gg, fun b o q => ?_⟩ (R3.set i rr) (fun b q => .inl (own_set q)) fr
      · rcases S1.st b o q with z | z
        · exact .inl z
        · exact ((S2.st b o z).imp _root_.id fun y => .inr (y.resolve_left _root_.id))
      · rcases S2.bn b q with z | z | z
        · exact .inl z
        · exact .inr (.inl (S1.fresh z))
        · exact z.elim
      · rcases S2.gn b o q with z | z | z
        · exact (S1.gn b o z).imp _root_.id .inl
        · exact .inr (.inl (S1.fresh z))
        · exact z.elim
    · exact fr.elim⟩
/-- return of a new list of three ints: a box -/
def wRetB (wd : WD) : WS := fun ρ P => wd ρ fun ds => match ds with
  | [.int _, .int _, .int _] => ∀ a, P.rt (.p a)
  | _ => False
theorem ms_retB {t : TE} {wd : WD} (h : ML X e t wd) : MS X (.Return (some e) pos) (tRet t) (wRetB wd) := ⟨ps_ret h.pe, fun EX G H σ ρ P R f D E => h.so EX G H σ ρ _ R f _ fun a vs G1 H1 ds S1 ha ga ba h1 dd f1 => by
  split at f1
  · rename_i i j k
    have R1 := R.toGd.step S1
    have hv : vs = [.int i, .int j, .int k] := by
      cases dd with
      | cons d1 t1 =>
        cases t1 with
        | cons d2 t2 =>
          cases t2 with
          | cons d3 t3 =>
            cases t3
            cases d1
            cases d2
            cases d3
            rfl
    subst hv
    refine E.rt (fun b q => EX b q ∨ (b = a ∧ q = .box)) G1 H1 (.ref a) (.p a) ⟨fun b o q => (S1.st b o q).imp _root_.id .inr, fun b q z => .inl z, fun b z => ?_, S1.gg, fun b o q => (S1.gn b o q).imp _root_.id .inl⟩ ⟨R1.sub, fun b z => ?_, fun b ns z => ?_, fun b z => ?_⟩ ⟨rfl, .inr ⟨rfl, rfl⟩⟩ (f1 a)
    · rcases z with z | ⟨rfl, _⟩
      · exact .inl z
      · exact .inr (.inl ha)
    · rcases z with z | ⟨rfl, _⟩
      · exact R1.bx b z
      · exact ⟨i, j, k, h1⟩
    · rcases z with z | ⟨_, z⟩
      · exact R1.sc b ns z
      · cases z
    · rcases z with z | ⟨rfl, _⟩
      · exact R1.ex b z
      · exact ga
  · exact f1.elim⟩
end
/-! ### the head of a law -/
def FLaw (m : Nat) : FW := fun ws Φ => ∃ a ns, ws = [.sq a ns] ∧ ns.length ≤ m ∧ Φ (.d (.bool true))
theorem scr_of {K : PySem.W.Frag} {H : Hp} {a : Addr} {ns : List Int} (hO : Only H) (h : SqL K H a (ns.map V.int)) : ScrAt K H a ns := by
  rcases h with (h | ⟨o, h⟩) | h
  · rcases hO a with z | ⟨o, xs, z⟩
    · rw [h] at z; cases z
    · rw [h] at z; cases z
  · exact .inl ⟨o, h⟩
  · exact .inr h
theorem law_sp {K : PySem.W.Frag} {H : Hp} {a : Addr} {ns : List Int} {m : Nat} (hl : ns.length ≤ m) (hO : Only H) (h : SqL K H a (ns.map V.int)) : SpD K 1 (FLaw m) [.ref a] H fun v _ => v = .bl true := by
  refine ⟨rfl, fun b k => b = a ∧ k = .scr ns, fun _ => none, [.sq a ns], fun r => r = .d (.bool true), ⟨fun b o z => (by cases z), fun b z => ?_, fun b ns' z => ?_, fun b z => rfl⟩, .cons ⟨rfl, rfl, rfl⟩ .nil, ⟨a, ns, rfl, hl, rfl⟩, fun EX' G' H' v r S R rr e => ?_⟩
  · cases z.2
  · obtain ⟨rfl, z⟩ := z
    cases z
    exact scr_of hO h
  · subst e
    exact rwBool rr
end Pd
end

section
set_option Elab.async false
set_option linter.all false
set_option maxRecDepth 100000
set_option autoImplicit false
set_option maxHeartbeats 1000000
/-! Pd, the head of a law -/
namespace Pd
open PySem PySem.Spec PyProof.Rows L2
/-- the heap at the call: nothing is tracked but the script, where the written part does not have it -/
noncomputable def headH (K : PySem.W.Frag) (a : Addr) (o : Obj) (ns : List Int) : Hp := open Classical in fun b => if b = a ∧ K.lookup a = none then some (.frz o (.lst (ns.map V.int))) else none
theorem headH_some {K : PySem.W.Frag} {a b : Addr} {o : Obj} {ns : List Int} {u : HO} (h : headH K a o ns b = some u) : b = a ∧ K.lookup a = none ∧ u = .frz o (.lst (ns.map V.int)) := by
  unfold headH at h
  split at h
  · rename_i q
    exact ⟨q.1, q.2, (Option.some.inj h).symm⟩
  · cases h
theorem headH_at {K : PySem.W.Frag} {a : Addr} {o : Obj} {ns : List Int} (h : K.lookup a = none) : headH K a o ns a = some (.frz o (.lst (ns.map V.int))) := if_pos ⟨rfl, h⟩
theorem head_call {P : Program} {w : World} {K : PySem.W.Frag} {mg mb : Str → Option Value} {k m : Nat} {fa a : Addr} {fd : FuncData} {x : Str} {s : Shared} {vs : List Value} {ns : List Int} (kin : K.In s.heap) (nsM : s.heap.Ns mainGlobals mg) (nsB : s.heap.Ns builtinsNs mb)
    (blt : ∀ x : Str, x ≠ "__name__" → mb x = bootBuiltins x) (nolim : s.heap.NoLimit) (nog : s.gens = #[]) (obj : s.heap.get? a = some { cls := .type "list", data := .seq vs.toArray }) (isI : IntsAre vs ns) (short : ns.length ≤ m) (short2 : m ≤ sizeLine) (room : Room k callerA)
    (FF : ∀ base : Heap, K.In base → base.Ns mainGlobals mg → FnG P w K mg base k fa fd [x] (FLaw m)) (bnd : ∀ (s : Shared) (u : Value), BindsTo s fd ⟨[u], []⟩ [(x, u)]) :
    codeAny (model P w) callerA (.call (.ref fa) ⟨[.ref a], []⟩) (fun r s' => r = .ok (.ret (.bool true)) ∧ OldK s.heap s'.heap ∧ s'.os = s.os ∧ AllBare s'.gens) s := by
  have rv := vals_ints isI
  have lv := isI.length
  have fits : ns.length ≤ sizeLine := Nat.le_trans short short2
  let o : Obj := { cls := .type "list", data := .seq vs.toArray }
  let H : Hp := headH K a o ns
  have only : Only H := fun b => by
    cases q : H b with
    | none => exact .inl rfl
    | some u =>
      obtain ⟨_, _, rfl⟩ := headH_some q
      exact .inr ⟨o, _, rfl⟩
  have seq : SqL K H a (ns.map V.int) := by
    cases q : K.lookup a with
    | none => exact .inl (.inr ⟨o, headH_at q⟩)
    | some o' =>
      have e := kin a o' q
      rw [obj] at e
      cases e
      exact .inr ⟨_, vs.toArray, _, q, rfl, rfl, rfl, by rw [List.size_toArray, lv]; exact fits, by simpa using rv⟩
  have hok : HOk P w H s.heap := fun b u z => by
    obtain ⟨rfl, _, rfl⟩ := headH_some z
    exact ⟨obj, by rw [List.length_map]; exact fits, vs, _, rv, obj⟩
  have free : ∀ {b : Addr} {ob : Obj}, s.heap.get? b = some ob → (∀ v n, ob.data ≠ .seq v n) → H b = none := fun {b ob} e nd => by
    cases q : H b with
    | none => rfl
    | some u =>
      obtain ⟨rfl, _, _⟩ := headH_some q
      rw [obj] at e
      cases e
      exact absurd rfl (nd _ _)
  have nsT : ∀ {b : Addr} {g : Str → Option Value}, s.heap.Ns b g → (hidT s.heap H).Ns b g := fun {b g} ⟨ob, es, ep, e, d, r⟩ => ⟨ob, es, ep, hidT_get e (free e fun v n z => by rw [d] at z; cases z), d, r⟩
  have kinT : K.In (hidT s.heap H) := fun b ob e => hidT_get (kin b ob e) (by
    cases q : H b with
    | none => rfl
    | some u =>
      obtain ⟨rfl, z, _⟩ := headH_some q
      rw [z] at e; cases e)
  have modT : Mod K mg (hidT s.heap H) := ⟨kinT, nsT nsM, ⟨mb, nsT nsB, blt⟩, by obtain ⟨mc, q1, q2⟩ := nolim; exact ⟨mc, nsT q1, q2⟩⟩
  have env : Env0 P w K mg (hidT s.heap H) callerA [] s H := ⟨rfl, modT, fun b ob e => of_hidT e, Nat.le_of_eq (hidT_size _ _), trivial, fun b hb => by exact absurd (show b ∈ ([] : List Addr) from hb) (by simp), hok, .of_eq nog⟩
  have go := (FF _ kinT (nsT nsM)).run callerA [] s H ⟨[.ref a], []⟩ [.ref a] [.ref a] _ room rfl env (bnd s (.ref a)) (.cons rfl .nil) (law_sp short only seq)
  refine codeAny_mono go fun r s' h => ?_
  match r, h with
  | .ok (.ret u), ⟨v, H', os, bare, un, hok', r', q⟩ =>
    have q' : v = .bl true := q
    subst q'
    have eu : u = Value.bool true := r'
    subst eu
    refine ⟨rfl, OldK.of_keep fun b ob e => ?_, os, bare⟩
    cases q : H b with
    | none => exact un.keep b ob e q (fun z => absurd (show b ∈ ([] : List Addr) from z) (by simp)) (by simp)
    | some u =>
      obtain ⟨rfl, z, rfl⟩ := headH_some q
      obtain ⟨e2, _⟩ := hok' _ _ (un.frzs _ _ _ q)
      rw [obj] at e
      cases e
      exact e2
/-- the head, by what the top has laid -/
theorem head_of {l : PySem.W.OpenLaw} {n k : Nat} {q : Program} {loose : List Str} {XP : (Str → Option Value) → Heap → Prop} {YP : World → Heap → Prop} {d : DefRec} {K : Params → PySem.W.Frag} {x : Str} (hn : l.most = some n) (hn2 : n ≤ sizeLine) (hdf : d.params.defaults = []) (room : Room k callerA)
    (hY : ∀ (w : World) (h : Heap), YP w h → (K w.params).In h)
    (FF : ∀ (w : World) (mg : Str → Option Value) (fa : Addr) (h : Heap), (K w.params).In h → h.Ns mainGlobals mg → mg d.name = some (.ref fa) →
      ∃ fd : FuncData, (∀ (s : Shared) (u : Value), BindsTo s fd ⟨[u], []⟩ [(x, u)]) ∧ ∀ base : Heap, (K w.params).In base → base.Ns mainGlobals mg → FnG l.prog w (K w.params) mg base k fa fd [x] (FLaw n)) :
    PySem.W.WalkO q loose XP YP l.row.toRowW d [] (fun f vs => PySem.call f vs) := by
  refine Att.attach_call hn hdf ?_
  intro w s₀ s₁ mg mb fa o pm cd doc a vs ns G Y ho hd hcd hmg hobj hints hlen hg
  obtain ⟨fd, hb, hF⟩ := FF w mg fa _ (hY w _ Y) G.T.g hmg
  exact head_call (hY w _ Y) G.T.g G.T.b G.T.builtins G.T.nolimit hg hobj hints hlen hn2 room hF hb
end Pd
end

section
set_option Elab.async false
set_option linter.all false
set_option maxRecDepth 100000
set_option autoImplicit false
set_option maxHeartbeats 1000000
/-! Pd, more built-ins -/
namespace Pd
open PySem PySem.Spec PyProof.Rows L2

/-! ### repr -/
/-- what may be shown -/
def reprOk (x : D) : Bool := x.showable && decide (x.depth ≤ 64) && decide (x.weight ≤ 1048576) && x.intsShort 13 && (match x with | .list _ => true | .tuple _ => true | _ => false)
def oRepr : FA := fun ws Φ => match ws with
  | [.d x] => reprOk x = true ∧ Φ (.rp x)
  | _ => False
def rReprD (K : PySem.W.Frag) : List V → Hp → VK → Prop := fun xs H Q => ∃ d a, xs = [.ref a] ∧ Dp K H (.ref a) d ∧ d.canLay0 = true ∧ reprOk d = true ∧ Q (.str d.shown) H
mutual
theorem noDictLay : ∀ d : D, d.canLay0 = true → d.hasDict = false
  | .none, _ => rfl
  | .bool _, _ => rfl
  | .int _, _ => rfl
  | .str _, _ => rfl
  | .list ds, h => by
    rw [PyData.canLay0] at h
    rw [PyData.hasDict]
    exact noDictLays ds h
  | .tuple ds, h => by
    rw [PyData.canLay0] at h
    rw [PyData.hasDict]
    exact noDictLays ds h
  | .dict _, h => by rw [PyData.canLay0] at h; cases h
theorem noDictLays : ∀ ds : List D, PyData.canLayAll0 ds = true → PyData.hasDictAll ds = false
  | [], _ => rfl
  | d :: ds, h => by
    rw [PyData.canLayAll0, Bool.and_eq_true] at h
    rw [PyData.hasDictAll, noDictLay d h.1, noDictLays ds h.2]
    rfl
end
section
variable {X : Cx} {k : Nat}
theorem cm_repr (hr : Room k X.A) (hg : X.A.guards = some []) : CallM X (.builtin "repr") (rReprD X.K) oRepr := by
  refine ⟨fun pins s σ H xs us Q I r h => ?_, fun EX G H xs ws Φ R hw f Q q => ?_⟩
  · obtain ⟨d, a, rfl, dp, hl, hk, q⟩ := h
    obtain ⟨u, rfl, ru⟩ := vals1 r
    obtain ⟨as, rd⟩ := Dp.reads I d _ u dp ru
    cases ru
    unfold reprOk at hk
    simp only [Bool.and_eq_true, decide_eq_true_eq] at hk
    obtain ⟨⟨⟨⟨k1, k2⟩, k3⟩, k4⟩, _⟩ := hk
    have hun := hr.un
    have hfit : d.shown.length ≤ sizeLine := PyData.shown_fits (B := 13) (by decide) (by decide) (PyData.leavesShort_of_canLay0 13 d hl k4) (Nat.le_trans k3 (by decide))
    exact PySem.repr_of_reads' rd k1 (PyData.noDict_hsm (noDictLay d hl)) hg (by omega) (fun _ _ e => e) (fun h' u tk hk => ⟨.str d.shown, H, I.kept hk, ⟨u, rfl⟩, q⟩) hfit
  · unfold oRepr at f
    split at f
    · rename_i d
      obtain ⟨x, rfl, rx⟩ := rw1 hw
      have rx' : Dd X.K G x d := rx
      obtain ⟨a, rfl⟩ : ∃ a, x = .ref a := by
        have h2 := f.1
        unfold reprOk at h2
        simp only [Bool.and_eq_true] at h2
        cases rx' with
        | lst => exact ⟨_, rfl⟩
        | tup => exact ⟨_, rfl⟩
        | _ => simp at h2
      refine ⟨d, a, rfl, ?_, ddLay d _ rx', f.1, q _ G H (.rp d) R.refl rfl f.2⟩
      exact ddDp d _ (dpMono R.sub d _ rx')
    · exact f.elim
/-- the texts of repr compared -/
def oEqRp (neg : Bool) : F2 := fun p q Φ => match p, q with
  | .rp x, .rp y => Φ (.d (.bool (neg != decide (x.shown = y.shown))))
  | _, _ => False
theorem os_eqRp {K : PySem.W.Frag} : OpS K rEq (oEqRp false) := fun EX G H x y p q Φ R hp hq f Q k => by
  unfold oEqRp at f
  split at f
  · rename_i d e
    have hx : x = .str d.shown := hp
    have hy : y = .str e.shown := hq
    subst hx hy
    refine ⟨rfl, ?_⟩
    have e2 : decide (V.str d.shown = V.str e.shown) = (false != decide (d.shown = e.shown)) := by
      rw [dec_str]
      rw [Bool.eq_iff_iff]
      simp
    rw [e2]
    exact k _ G H (.d (.bool _)) R.refl (Dd.bl _) f
  · exact f.elim
theorem os_neRp {K : PySem.W.Frag} : OpS K rNe (oEqRp true) := fun EX G H x y p q Φ R hp hq f Q k => by
  unfold oEqRp at f
  split at f
  · rename_i d e
    have hx : x = .str d.shown := hp
    have hy : y = .str e.shown := hq
    subst hx hy
    refine ⟨rfl, ?_⟩
    have e2 : (!decide (V.str d.shown = V.str e.shown)) = (true != decide (d.shown = e.shown)) := by
      rw [dec_str]
      rw [Bool.eq_iff_iff]
      simp
    rw [e2]
    exact k _ G H (.d (.bool _)) R.refl (Dd.bl _) f
  · exact f.elim
theorem om_eqRp : OpM X (compareOp .Eq) rEq (oEqRp false) := ⟨op_eq, os_eqRp⟩
theorem om_neRp : OpM X (compareOp .NotEq) rNe (oEqRp true) := ⟨op_ne, os_neRp⟩
end
/-! ### isinstance -/
def tyD : D → String
  | .none => "NoneType"
  | .bool _ => "bool"
  | .int _ => "int"
  | .str _ => "str"
  | .list _ => "list"
  | .tuple _ => "tuple"
  | .dict _ => "dict"
inductive Ty where
  | list | tuple | str | int | bool | dict
def Ty.nm : Ty → String
  | .list => "list"
  | .tuple => "tuple"
  | .str => "str"
  | .int => "int"
  | .bool => "bool"
  | .dict => "dict"
def isD : D → Ty → Bool
  | .bool _, .bool => true
  | .bool _, .int => true
  | .int _, .int => true
  | .str _, .str => true
  | .list _, .list => true
  | .tuple _, .tuple => true
  | .dict _, .dict => true
  | _, _ => false
theorem isD_kit (d : D) (t : Ty) : kitB (tyD d) t.nm = some (isD d t) := by
  cases d <;> cases t <;> simp only [tyD, Ty.nm, isD] <;> decide +kernel
theorem tyX_dd {K : PySem.W.Frag} {EX : Ext} {G H : Hp} {v : V} {d : D} (R : Gd K EX G H) (h : Dd K G v d) : TyX K H v (.type (tyD d)) := by
  cases h with
  | non => exact .base .non
  | bl b => exact .base (.bl b)
  | int i => exact .base (.int i)
  | str x _ => exact .base (.str x)
  | lst hs _ => exact .base (.lst (R.sub _ _ hs))
  | tup hs _ => exact .base (.tup (R.sub _ _ hs))
section
variable {X : Cx} {e : Expr} {te : TE} {we : WE} {p p1 p2 p3 pos tpos : Pos} {k : Nat}
def wIsi (we : WE) (ts : List Ty) : WE := fun ρ Φ => we ρ fun r => match r with
  | .d x => Φ (.d (.bool (ts.any (isD x))))
  | _ => False
theorem me_isi (t : Ty) {T : Str} (he : ME X e te we) (hm : X.mg "isinstance" = none) (hm1 : X.mg T = none) (hT : bootBuiltins T = some (.type t.nm) := by decide +kernel) (hg : Gl X "isinstance" := by rfl) (hg1 : Gl X T := by rfl)
    (hs : starEach (e :: [.Name T p1]) X.env = (false, eval e X.env) :: starEach [.Name T p1] X.env := by rfl) (hs2 : starEach [.Name T p1] X.env = (false, eval (.Name T p1) X.env) :: starEach [] X.env := by rfl)
    (hpl : (backTo pos (starEach [.Name T p1] X.env)).any (·.1) = false := by rfl) (hn : T ≠ Str.ofString "__name__" := by decide) (hdb : (T == ("__debug__" : Str)) = false := by decide) :
    ME X (.Call (.Name "isinstance" p) [e, .Name T p1] [] pos) (tCB (rIsi X.K) (tCons te (tCons (tC (.ty t.nm)) tNil))) (wIsi we [t]) :=
  ⟨pe_callB call_isi hg hm boot_isinstance (pa_cons he.pe (pa_cons (pe_bltn hg1 hm1 hT rfl hn hdb) pa_nil hs2) hs) (he := hs) (hpl := hpl), fun EX G H σ ρ Φ R f Q q => he.so EX G H σ ρ _ R f _ fun v G1 H1 r S rv f1 => by
    split at f1
    · rename_i x
      refine ⟨v, .ty t.nm, .type (tyD x), .type t.nm, isD x t, rfl, .ty _, tyX_dd (R.toGd.step S) rv, kit_ty (isD_kit x t), q _ G1 H1 (.d (.bool _)) S (Dd.bl _) ?_⟩
      simpa using f1
    · exact f1.elim⟩
theorem kit_any {K : PySem.W.Frag} (d : D) : ∀ ts : List Ty, PySem.W.kitAny K (.type (tyD d)) (ts.map fun t => Value.type t.nm) = some (ts.any (isD d))
  | [] => kitAny_nil
  | t :: ts => by
    refine kitAny_cons (b := isD d t) (kit_ty (isD_kit d t)) (fun h => ?_) fun h => ?_
    · rw [List.any_cons, h, Bool.false_or]
      exact kit_any d ts
    · rw [List.any_cons, h, Bool.true_or]
theorem cls_all : ∀ ts : List Ty, Paired ClsV (ts.map fun t => V.ty t.nm) (ts.map fun t => Value.type t.nm)
  | [] => .nil
  | t :: ts => .cons (.ty _) (cls_all ts)
theorem so_isiT {K : PySem.W.Frag} (ts : List Ty) (hts : ts.length ≤ 1000) {tA : TA} (hA : ∀ σ H Q, tA σ H Q ↔ Q (ts.map fun t => V.ty t.nm) H) (h : SoE K te we) : SoE K (tCB (rIsiT K) (tCons te (tCons (tTup tA) tNil))) (wIsi we ts) := fun EX G H σ ρ Φ R f Q q =>
  h EX G H σ ρ _ R f _ fun v G1 H1 r S rv f1 => by
    split at f1
    · rename_i x
      refine (hA _ _ _).mpr ⟨by rw [List.length_map]; exact le_line hts, fun tp hp => ?_⟩
      have R1 := R.toGd.step S
      have S2 := R1.newOut (o := .tup (ts.map fun t => V.ty t.nm)) hp
      refine ⟨v, tp, _, .type (tyD x), ts.map fun t => Value.type t.nm, ts.any (isD x), rfl, upd_same, ?_, tyX_dd (R1.step S2) rv, kit_any x ts, q _ G1 _ (.d (.bool _)) (S.trans S2) (Dd.bl _) f1⟩
      exact cls_all ts
    · exact f1.elim
theorem me_isi2 (t1 t2 : Ty) {T1 T2 : Str} {es : List Expr} (hes : es = [.Name T1 p1, .Name T2 p2] := by rfl) (he : ME X e te we) (hm : X.mg "isinstance" = none) (hm1 : X.mg T1 = none) (hm2 : X.mg T2 = none) (hT1 : bootBuiltins T1 = some (.type t1.nm) := by decide +kernel) (hT2 : bootBuiltins T2 = some (.type t2.nm) := by decide +kernel)
    (hg : Gl X "isinstance" := by rfl) (hg1 : Gl X T1 := by rfl) (hg2 : Gl X T2 := by rfl)
    (hs : starEach (e :: [.Tuple es k tpos]) X.env = (false, eval e X.env) :: starEach [.Tuple es k tpos] X.env := by rfl) (hs2 : starEach [.Tuple es k tpos] X.env = (false, eval (.Tuple es k tpos) X.env) :: starEach [] X.env := by rfl)
    (ht : starEach es X.env = (false, eval (.Name T1 p1) X.env) :: starEach [.Name T2 p2] X.env := by rfl) (ht2 : starEach [.Name T2 p2] X.env = (false, eval (.Name T2 p2) X.env) :: starEach [] X.env := by rfl)
    (hpl : (backTo pos (starEach [.Tuple es k tpos] X.env)).any (·.1) = false := by rfl) (hn1 : T1 ≠ Str.ofString "__name__" := by decide) (hdb1 : (T1 == ("__debug__" : Str)) = false := by decide) (hn2 : T2 ≠ Str.ofString "__name__" := by decide) (hdb2 : (T2 == ("__debug__" : Str)) = false := by decide) :
    ME X (.Call (.Name "isinstance" p) [e, .Tuple es k tpos] [] pos) (tCB (rIsiT X.K) (tCons te (tCons (tTup (tCons (tC (.ty t1.nm)) (tCons (tC (.ty t2.nm)) tNil))) tNil))) (wIsi we [t1, t2]) := by
  subst hes
  exact ⟨pe_callB call_isiT hg hm boot_isinstance (pa_cons he.pe (pa_cons (pe_tup (pa_cons (pe_bltn hg1 hm1 hT1 rfl hn1 hdb1) (pa_cons (pe_bltn hg2 hm2 hT2 rfl hn2 hdb2) pa_nil ht2) ht)) pa_nil hs2) hs) (he := hs) (hpl := hpl),
    so_isiT [t1, t2] (by simp) (fun _ _ _ => Iff.rfl) he.so⟩
theorem me_isi3 (t1 t2 t3 : Ty) {T1 T2 T3 : Str} {es : List Expr} (hes : es = [.Name T1 p1, .Name T2 p2, .Name T3 p3] := by rfl) (he : ME X e te we) (hm : X.mg "isinstance" = none) (hm1 : X.mg T1 = none) (hm2 : X.mg T2 = none) (hm3 : X.mg T3 = none) (hT1 : bootBuiltins T1 = some (.type t1.nm) := by decide +kernel) (hT2 : bootBuiltins T2 = some (.type t2.nm) := by decide +kernel) (hT3 : bootBuiltins T3 = some (.type t3.nm) := by decide +kernel)
    (hg : Gl X "isinstance" := by rfl) (hg1 : Gl X T1 := by rfl) (hg2 : Gl X T2 := by rfl) (hg3 : Gl X T3 := by rfl)
    (hs : starEach (e :: [.Tuple es k tpos]) X.env = (false, eval e X.env) :: starEach [.Tuple es k tpos] X.env := by rfl) (hs2 : starEach [.Tuple es k tpos] X.env = (false, eval (.Tuple es k tpos) X.env) :: starEach [] X.env := by rfl)
    (ht : starEach es X.env = (false, eval (.Name T1 p1) X.env) :: starEach [.Name T2 p2, .Name T3 p3] X.env := by rfl) (ht2 : starEach [.Name T2 p2, .Name T3 p3] X.env = (false, eval (.Name T2 p2) X.env) :: starEach [.Name T3 p3] X.env := by rfl) (ht3 : starEach [.Name T3 p3] X.env = (false, eval (.Name T3 p3) X.env) :: starEach [] X.env := by rfl)
    (hpl : (backTo pos (starEach [.Tuple es k tpos] X.env)).any (·.1) = false := by rfl) (hn1 : T1 ≠ Str.ofString "__name__" := by decide) (hdb1 : (T1 == ("__debug__" : Str)) = false := by decide) (hn2 : T2 ≠ Str.ofString "__name__" := by decide) (hdb2 : (T2 == ("__debug__" : Str)) = false := by decide)
    (hn3 : T3 ≠ Str.ofString "__name__" := by decide) (hdb3 : (T3 == ("__debug__" : Str)) = false := by decide) :
    ME X (.Call (.Name "isinstance" p) [e, .Tuple es k tpos] [] pos) (tCB (rIsiT X.K) (tCons te (tCons (tTup (tCons (tC (.ty t1.nm)) (tCons (tC (.ty t2.nm)) (tCons (tC (.ty t3.nm)) tNil)))) tNil))) (wIsi we [t1, t2, t3]) := by
  subst hes
  exact ⟨pe_callB call_isiT hg hm boot_isinstance (pa_cons he.pe (pa_cons (pe_tup (pa_cons (pe_bltn hg1 hm1 hT1 rfl hn1 hdb1) (pa_cons (pe_bltn hg2 hm2 hT2 rfl hn2 hdb2) (pa_cons (pe_bltn hg3 hm3 hT3 rfl hn3 hdb3) pa_nil ht3) ht2) ht)) pa_nil hs2) hs) (he := hs) (hpl := hpl),
    so_isiT [t1, t2, t3] (by simp) (fun _ _ _ => Iff.rfl) he.so⟩
end
/-! ### texts -/
def strsD : List D → Option (List Str)
  | [] => some []
  | .str x :: r => match strsD r with
    | some xs => some (x :: xs)
    | none => none
  | _ :: _ => none
theorem strsD_map : ∀ xs : List Str, strsD (xs.map PyData.str) = some xs
  | [] => rfl
  | x :: xs => by simp only [List.map_cons, strsD, strsD_map xs]
theorem strsD_eq : ∀ {ds : List D} {xs : List Str}, strsD ds = some xs → ds = xs.map PyData.str
  | [], xs, e => by
    cases e
    rfl
  | d :: ds, xs, e => by
    cases d with
    | str x =>
      unfold strsD at e
      split at e
      · rename_i xs' hx
        cases e
        rw [List.map_cons, strsD_eq hx]
      · cases e
    | _ => cases e
theorem strs_v {K : PySem.W.Frag} {G : Hp} : ∀ {xs : List Str} {vs : List V}, DdAll K G vs (xs.map PyData.str) → vs = xs.map V.str ∧ ∀ x ∈ xs, SOk x
  | [], _, h => by
    cases h
    exact ⟨rfl, fun _ h => by simp at h⟩
  | x :: xs, _, h => by
    cases h with
    | cons h1 h2 =>
      obtain ⟨e, q⟩ := strs_v h2
      subst e
      cases h1 with
      | str _ so =>
        refine ⟨rfl, fun y hy => ?_⟩
        rcases List.mem_cons.mp hy with rfl | z
        · exact so
        · exact q y z
theorem dd_strs {K : PySem.W.Frag} {G : Hp} : ∀ {xs : List Str}, (∀ x ∈ xs, SOk x) → DdAll K G (xs.map V.str) (xs.map PyData.str)
  | [], _ => .nil
  | x :: xs, h => .cons (.str x (h x List.mem_cons_self)) (dd_strs fun y hy => h y (List.mem_cons_of_mem _ hy))
/-- sep.join(..) of a list or tuple of texts, sep not long -/
theorem cps_join (y : Str) : ∀ xs : List Str, ∀ c ∈ (Str.join y xs).cps.toList, c ∈ y.cps.toList ∨ ∃ x ∈ xs, c ∈ x.cps.toList
  | [], c, h => by
    have : (Str.join y []).cps.toList = [] := rfl
    rw [this] at h
    cases h
  | [x], c, h => .inr ⟨x, List.mem_cons_self, h⟩
  | x :: z :: r, c, h => by
    have e : (Str.join y (x :: z :: r)).cps.toList = x.cps.toList ++ y.cps.toList ++ (Str.join y (z :: r)).cps.toList := by
      show ((x.cps ++ y.cps) ++ (Str.join y (z :: r)).cps).toList = _
      simp
    rw [e, List.mem_append, List.mem_append] at h
    rcases h with (h | h) | h
    · exact .inr ⟨x, List.mem_cons_self, h⟩
    · exact .inl h
    · rcases cps_join y (z :: r) c h with q | ⟨w, hw, q⟩
      · exact .inl q
      · exact .inr ⟨w, List.mem_cons_of_mem _ hw, q⟩
theorem len_join (y : Str) : ∀ xs : List Str, (Str.join y xs).length ≤ (xs.map (·.length)).sum + xs.length * y.length
  | [] => Nat.zero_le _
  | [x] => by
    show x.length ≤ _
    simp
  | x :: z :: r => by
    have e : (Str.join y (x :: z :: r)).length = x.length + y.length + (Str.join y (z :: r)).length := by
      show ((x.cps ++ y.cps) ++ (Str.join y (z :: r)).cps).size = _
      rw [Array.size_append, Array.size_append]
      rfl
    have ih := len_join y (z :: r)
    rw [e]
    simp only [List.map_cons, List.sum_cons, List.length_cons, Nat.add_mul] at ih ⊢
    omega
theorem sok_iff {x : Str} (h : ∀ c ∈ x.cps.toList, c < 0x110000) (l : x.length ≤ sizeLine) : SOk x := ⟨by
  unfold PyData.strOk
  rw [Array.all_eq_true_iff_forall_mem]
  intro c hc
  exact decide_eq_true (h c (Array.mem_toList_iff.mpr hc)), l⟩
theorem SOk.cp {x : Str} (h : SOk x) : ∀ c ∈ x.cps.toList, c < 0x110000 := fun c hc => by
  have h1 := h.ok
  unfold PyData.strOk at h1
  have := (Array.all_eq_true_iff_forall_mem.mp h1) c (Array.mem_toList_iff.mp hc)
  simpa using this
def strsOfW : W → Option (List Str)
  | .d (.list ds) => strsD ds
  | .d (.tuple ds) => strsD ds
  | _ => none
section
variable {X : Cx} {e : Expr} {te : TE} {we : WE} {p apos cpos : Pos} {k : Nat} {y : Str}
def rJoin (K : PySem.W.Frag) : V → List V → Hp → VK → Prop := fun x xs H Q => ∃ a p, ∃ ys : List Str, x = .str a ∧ xs = [.ref p] ∧ (SqL K H p (ys.map V.str) ∨ SqT K H p (ys.map V.str)) ∧ (ys.map (·.length)).sum + ys.length * a.length ≤ 16777216 ∧ Q (.str (Txt.join a ys)) H
def wJoin (y : Str) (we : WE) : WE := fun ρ Φ => we ρ fun r => match strsOfW r with
  | some xs => (xs.map (·.length)).sum + xs.length * y.length ≤ 16000000 ∧ Φ (.d (.str (Str.join y xs)))
  | none => False
theorem me_join (he : ME X e te we) (hy1 : PyData.strOk y = true := by decide +kernel) (hbase : attributeBase (.Constant (.str y) k p) "join" X.env (eval (.Constant (.str y) k p) X.env) = eval (.Constant (.str y) k p) X.env := by rfl)
    (hfew : ((backTo cpos (starEach [e] X.env)).all (fun x => !x.1) && (backToKw cpos (keywordEach [] X.env)).all (fun x => x.1.isSome) && decide (([e] : List Expr).length + ([] : List Keyword).length + (if ([] : List Keyword).isEmpty then 0 else 1) < 30)) = true := by rfl)
    (hline : (apos.endLine == cpos.line) = true := by rfl) (hst : starEach [e] X.env = (false, eval e X.env) :: starEach [] X.env := by rfl) (hplain : (backTo cpos (starEach [] X.env)).any (·.1) = false := by rfl) :
    ME X (.Call (.Attribute (.Constant (.str y) k p) "join" apos) [e] [] cpos) (tBM X.K "str" (rJoin X.K) (tC (.str y)) (tCons te tNil)) (wJoin y we) :=
  ⟨pe_bm PySem.F.plainAttrs_str PySem.F.slot_str_join PySem.F.type_str_join mt_join pe_str (pa_cons he.pe pa_nil hst) hbase hfew hline hst hplain, fun EX G H σ ρ Φ R f Q q => by
    refine ⟨rfl, he.so EX G H σ ρ _ R f _ fun v G1 H1 r S rv f1 => ?_⟩
    have R1 := R.toGd.step S
    have fin : ∀ (xs : List Str) (a : Addr), (SqL X.K H1 a (xs.map V.str) ∨ SqT X.K H1 a (xs.map V.str)) → (∀ x ∈ xs, SOk x) → ((xs.map (·.length)).sum + xs.length * y.length ≤ 16000000 ∧ Φ (.d (.str (Str.join y xs)))) → rJoin X.K (.str y) [.ref a] H1 Q := fun xs a hs so f2 => by
      refine ⟨y, a, xs, rfl, rfl, hs, by omega, ?_⟩
      rw [TL.join_eq]
      refine q _ G1 H1 (.d (.str _)) S (Dd.str _ (sok_iff (fun c hc => ?_) ?_)) f2.2
      · rcases cps_join y xs c hc with z | ⟨x, hx, z⟩
        · have := (Array.all_eq_true_iff_forall_mem.mp (show y.cps.all (· < 0x110000) = true from hy1)) c (Array.mem_toList_iff.mp z)
          simpa using this
        · exact (so x hx).cp c z
      · have := len_join y xs
        rw [sizeLine_eq]
        omega
    split at f1
    · rename_i xs hx
      unfold strsOfW at hx
      split at hx
      · obtain ⟨a, vs, rfl, g, dd⟩ := rwLst rv
        rw [strsD_eq hx] at dd
        obtain ⟨rfl, so⟩ := strs_v dd
        exact fin xs a (.inl (.inl (.inl (R1.sub _ _ g)))) so f1
      · obtain ⟨a, vs, rfl, g, dd⟩ := rwTup rv
        rw [strsD_eq hx] at dd
        obtain ⟨rfl, so⟩ := strs_v dd
        exact fin xs a (.inr (.inl (.inl (R1.sub _ _ g)))) so f1
      · cases hx
    · exact f1.elim⟩
/-! ### sorted -/
/-- sorted(texts), sorted(a dict with texts as keys) -/
def keysS : List (Key × D) → Option (List Str)
  | [] => some []
  | (.inr x, _) :: r => match keysS r with
    | some xs => some (x :: xs)
    | none => none
  | _ :: _ => none
theorem keysS_eq : ∀ {kvs : List (Key × D)} {xs : List Str}, keysS kvs = some xs → kvs.map (·.1) = xs.map Sum.inr
  | [], xs, e => by cases e; rfl
  | (.inr x, d) :: r, xs, e => by
    unfold keysS at e
    split at e
    · rename_i xs' hx
      cases e
      rw [List.map_cons, List.map_cons, keysS_eq hx]
    · cases e
  | (.inl x, d) :: r, xs, e => by cases e
def oSortS : List W → (List D → Prop) → Prop := fun ws Φ => match ws with
  | [.d (.list ds)] => (match strsD ds with
    | some xs => xs.length < 64 ∧ ∀ ys : List Str, ys.Perm xs → sortedS ys = true → Φ (ys.map PyData.str)
    | none => False)
  | [.dk kvs] => (match keysS kvs with
    | some xs => xs.length < 64 ∧ (∀ x ∈ xs, PyData.strOk x = true ∧ x.length ≤ 1000000) ∧ ∀ ys : List Str, ys.Perm xs → sortedS ys = true → Φ (ys.map PyData.str)
    | none => False)
  | _ => False
def rSortSD (K : PySem.W.Frag) : List V → Hp → VK → Prop := fun xs H Q => rSortedS K xs H Q ∨ ∃ (a : Addr) (kvs : List (Key × V)) (ks : List Str), xs = [.ref a] ∧ Rd H a (.dK kvs) ∧ kvs.map (·.1) = ks.map Sum.inr ∧ ks.length < 64 ∧
    ∀ ys p, ys.Perm ks → sortedS ys = true → H p = none → Q (.ref p) (upd H p (.lst (ys.map V.str)))
theorem kv_keys {K : PySem.W.Frag} {G : Hp} {κ : Type} : ∀ {vs : List (κ × V)} {kvs : List (κ × D)}, KvD K G vs kvs → vs.map (·.1) = kvs.map (·.1)
  | _, _, .nil => rfl
  | _, _, .cons h t => by rw [List.map_cons, List.map_cons, h.1, kv_keys t]
theorem cm_sortedS (hc : X.calm = true := by rfl) : CallLM X (.builtin "sorted") (rSortSD X.K) oSortS := by
  refine ⟨fun pins s σ H xs us Q I r h => ?_, fun EX G H xs ws Φ R hw f Q q => ?_⟩
  · rcases h with h | h
    · exact cr_sortedS pins s σ H xs us Q I r h
    · exact call_sortedD hc pins s σ H xs us Q I r h
  · unfold oSortS at f
    split at f
    · split at f
      · rename_i ys hy
        obtain ⟨x, rfl, rx⟩ := rw1 hw
        obtain ⟨a, vs, rfl, g, dd⟩ := rwLst rx
        rw [strsD_eq hy] at dd
        obtain ⟨rfl, so⟩ := strs_v dd
        refine .inl ⟨a, ys, rfl, .inl (.inl (R.sub _ _ g)), f.1, fun zs p hp hs hn => ?_⟩
        exact q p _ _ _ _ (R.newOut hn) hn (R.free hn) (R.notBox hn) upd_same (dd_strs fun x hx => so x (hp.mem_iff.mp hx)) (f.2 zs hp hs)
      · exact f.elim
    · split at f
      · rename_i ys hy
        obtain ⟨x, rfl, rx⟩ := rw1 hw
        obtain ⟨a, vs, rfl, g, kv⟩ := rx
        obtain ⟨f1, f2, f3⟩ := f
        refine .inr ⟨a, vs, ys, rfl, .inl (R.sub _ _ g), (kv_keys kv).trans (keysS_eq hy), f1, fun zs p hp hs hn => ?_⟩
        exact q p _ _ _ _ (R.newOut hn) hn (R.free hn) (R.notBox hn) upd_same (dd_strs fun x hx => ⟨(f2 x (hp.mem_iff.mp hx)).1, mil_le (f2 x (hp.mem_iff.mp hx)).2⟩) (f3 zs hp hs)
      · exact f.elim
    · exact f.elim
end
end Pd
end

section
set_option Elab.async false
set_option linter.all false
set_option maxRecDepth 100000
set_option autoImplicit false
set_option maxHeartbeats 1000000
/-! Pd, dicts of lists -/
namespace Pd
open PySem PySem.Spec PyProof.Rows L2
abbrev KL := List (Key × (Addr × List D))
def findK (kvs : KL) (k : Key) : Option (Addr × List D) := (kvs.find? fun kv => decide (kv.1 = k)).map (·.2)
def putE (kvs : KL) (k : Key) (p : Addr) : KL := match findK kvs k with
  | some _ => kvs
  | none => kvs ++ [(k, (p, []))]
def appE : KL → Key → D → KL
  | [], _, _ => []
  | (k', b, ds) :: r, k, x => if k' = k then (k', b, ds ++ [x]) :: r else (k', b, ds) :: appE r k x
theorem val_kl (k : Key) : ∀ kvs : KL, valV (kvs.map fun p => (p.1, V.ref p.2.1)) k = (findK kvs k).map fun p => V.ref p.1
  | [] => rfl
  | (k', b, ds) :: r => by
    have ih := val_kl k r
    unfold findK valV at ih ⊢
    rw [List.map_cons, List.find?_cons, List.find?_cons]
    by_cases h : k' = k
    · simp [h]
    · simp only [h, decide_false]
      exact ih
theorem put_kl {k : Key} {z : V} : ∀ {kvs : KL}, findK kvs k = none → putK (kvs.map fun p => (p.1, V.ref p.2.1)) k z = (kvs.map fun p => (p.1, V.ref p.2.1)) ++ [(k, z)] := by
  intro kvs h
  have na : ((kvs.map fun p => (p.1, V.ref p.2.1)).any fun kv => decide (kv.1 = k)) = false := by
    rw [List.any_eq_false]
    intro x hx
    obtain ⟨y, hy, rfl⟩ := List.mem_map.mp hx
    unfold findK at h
    rw [Option.map_eq_none_iff, List.find?_eq_none] at h
    exact h y hy
  unfold putK
  rw [na]
  simp
theorem appE_keys (k : Key) (x : D) : ∀ kvs : KL, ((appE kvs k x).map fun p => (p.1, V.ref p.2.1)) = kvs.map fun p => (p.1, V.ref p.2.1)
  | [] => rfl
  | (k', b, ds) :: r => by
    unfold appE
    split
    · rfl
    · rw [List.map_cons, List.map_cons, appE_keys k x r]
theorem appE_subs (k : Key) (x : D) : ∀ kvs : KL, ((appE kvs k x).map fun p => p.2.1) = kvs.map fun p => p.2.1
  | [] => rfl
  | (k', b, ds) :: r => by
    unfold appE
    split
    · rfl
    · rw [List.map_cons, List.map_cons, appE_subs k x r]
theorem appE_at {K : PySem.W.Frag} {G H : Hp} {k : Key} {x : D} {v : V} {b : Addr} {vs : List V} {ds0 : List D} (hv : Dd K G v x) (hb : H b = some (.lst vs)) : ∀ {kvs : KL}, findK kvs k = some (b, ds0) → (kvs.map (·.2.1)).Nodup → DdAll K G vs ds0 → SubAt K G H (kvs.map (·.2)) → SubAt K G (upd H b (.lst (vs ++ [v]))) ((appE kvs k x).map (·.2))
  | [], e, _, _, _ => by cases e
  | (k', b', ds) :: r, e, nd, dd, hs => by
    have hs0 : ∀ p ∈ r.map (·.2), ∃ vs, H p.1 = some (.lst vs) ∧ DdAll K G vs p.2 := fun p hp => hs p (by rw [List.map_cons]; exact List.mem_cons_of_mem _ hp)
    rw [List.map_cons, List.nodup_cons] at nd
    unfold appE
    by_cases h : k' = k
    · rw [if_pos h]
      unfold findK at e
      rw [List.find?_cons_of_pos (by simpa using h)] at e
      cases e
      intro p hp
      rw [List.map_cons] at hp
      rcases List.mem_cons.mp hp with rfl | hp
      · exact ⟨vs ++ [v], upd_same, dpApp dd (dpOne hv)⟩
      · obtain ⟨us, q1, q2⟩ := hs0 p hp
        refine ⟨us, ?_, q2⟩
        have : p.1 ≠ b := fun z => nd.1 (by
          obtain ⟨y, hy, rfl⟩ := List.mem_map.mp hp
          rw [← z]
          exact List.mem_map.mpr ⟨y, hy, rfl⟩)
        rw [upd_ne this]
        exact q1
    · rw [if_neg h]
      unfold findK at e
      rw [List.find?_cons_of_neg (by simpa using h)] at e
      have ih := appE_at (k := k) hv hb (kvs := r) e nd.2 dd hs0
      intro p hp
      rw [List.map_cons] at hp
      rcases List.mem_cons.mp hp with rfl | hp
      · obtain ⟨us, q1, q2⟩ := hs (b', ds) (by rw [List.map_cons]; exact List.mem_cons_self)
        refine ⟨us, ?_, q2⟩
        have : b' ≠ b := fun z => nd.1 (by
          rw [z]
          cases q : r.find? (fun kv => decide (kv.1 = k)) with
          | none => rw [q] at e; cases e
          | some y =>
            rw [q] at e
            have e' : y.2 = (b, ds0) := Option.some.inj e
            exact List.mem_map.mpr ⟨y, List.mem_of_find?_eq_some q, by rw [e']⟩)
        show upd H b _ b' = _
        rw [upd_ne this]
        exact q1
      · exact ih p hp
theorem findK_mem {kvs : KL} {k : Key} {p : Addr × List D} (h : findK kvs k = some p) : p ∈ kvs.map (·.2) := by
  unfold findK at h
  cases q : kvs.find? (fun kv => decide (kv.1 = k)) with
  | none => rw [q] at h; cases h
  | some y =>
    rw [q] at h
    have e : y.2 = p := Option.some.inj h
    exact List.mem_map.mpr ⟨y, List.mem_of_find?_eq_some q, e⟩
/-- x.setdefault(k, []).append(v) -/
def wSdApp (i : Nat) (wk wv : WE) : WS := fun ρ P => match ρ[i]? with
  | some (.mu (.kl kvs)) => kvs.length ≤ 1000000 ∧ wk ρ fun q => match q with
    | .d kd => (match keyD kd with
      | some k => ∀ p : Addr, (∀ b ds, findK (putE kvs k p) k = some (b, ds) → ds.length ≤ 1000000) ∧ wv (ρ.set i (.mu (.kl (putE kvs k p)))) fun r => (match r with
        | .d x => P.nx (ρ.set i (.mu (.kl (appE (putE kvs k p) k x))))
        | _ => False)
      | none => False)
    | _ => False
  | _ => False
theorem findK_app {kvs : KL} {k : Key} {p : Addr × List D} (h : findK kvs k = none) : findK (kvs ++ [(k, p)]) k = some p := by
  unfold findK at h ⊢
  rw [Option.map_eq_none_iff] at h
  rw [List.find?_append, h]
  simp
theorem so_sdApp {K : PySem.W.Frag} {i : Nat} {tk tv : TE} {wk wv : WE} (hk : SoE K tk wk) (hv : SoE K tv wv) : SoS K (tDrop (tBM K "list" rAppend (tDSetd (tVar i) tk (tLst tNil)) (tCons tv tNil))) (wSdApp i wk wv) := fun EX G H σ ρ P R f D E => by
  unfold wSdApp at f
  split at f
  · rename_i kvs e
    obtain ⟨a, es, hg, hm⟩ := R.own e
    refine ⟨.ref a, es, a, rfl, .inl ⟨_, .inl hm.1⟩, hk EX G H σ ρ _ R f.2 _ fun y G1 H1 q S1 rq f1 => ?_⟩
    have R1 := R.step S1
    split at f1
    · rename_i kd
      split at f1
      · rename_i k hkd
        have ey : y = kV k := keyD_v rq hkd
        subst ey
        refine ⟨Nat.zero_le _, fun p hp => ?_⟩
        have S2 := R1.toGd.newOut (o := .lst []) hp
        have R2 := R1.step S2
        obtain ⟨a2, es2, hg2, hm2⟩ := R2.own e
        rw [es] at es2
        cases es2
        obtain ⟨h2a, h2s, h2n⟩ := hm2
        obtain ⟨fb, f2⟩ := f1 p
        have S12 := S1.trans S2
        have hpa : p ≠ a := fun z => by
          obtain ⟨_, _, u, hu, _⟩ := R1.ownAt (b := p) ⟨i, .kl kvs, a, e, es, by rw [z]; exact List.mem_cons_self⟩
          rw [hp] at hu; cases hu
        have hpn : p ∉ kvs.map (·.2.1) := fun z => by
          obtain ⟨_, _, u, hu, _⟩ := R1.ownAt (b := p) ⟨i, .kl kvs, a, e, es, List.mem_cons_of_mem _ z⟩
          rw [hp] at hu; cases hu
        -- the end: the list at b gets the value
        have fin : ∀ (kvs' : KL) (b : Addr) (ds0 : List PyData) (H2 : Hp) (ρ2 : Rh), findK kvs' k = some (b, ds0) → ds0.length ≤ 1000000 → ρ2 = ρ.set i (.mu (.kl kvs')) → Rel K EX G1 H2 σ ρ2 → EndsOk K EX (Own σ ρ2) G1 H2 P D →
            (wv ρ2 fun r => match r with | .d x => P.nx (ρ.set i (.mu (.kl (appE kvs' k x)))) | _ => False) →
            (tyV K "list" (.ref b) H2 ∧ tv σ H2 fun z H4 => rAppend (.ref b) [z] H4 fun _ H5 => D.nx σ H5) := fun kvs' b ds0 H2 ρ2 hf hl eρ R3 E3 f3 => by
          have hil : i < ρ.length := (List.getElem?_eq_some_iff.mp e).1
          have e2 : ρ2[i]? = some (.mu (.kl kvs')) := by rw [eρ, List.getElem?_set_self hil]
          obtain ⟨a3, es3, hg3, hm3⟩ := R3.own e2
          rw [es] at es3
          cases es3
          obtain ⟨vs, hb, _⟩ := hm3.2.1 _ (findK_mem hf)
          refine ⟨.inl ⟨rfl, vs, .inl (.inl hb)⟩, hv EX G1 H2 σ ρ2 _ R3 f3 _ fun z G4 H4 r S4 rz f4 => ?_⟩
          have R4 := R3.step S4
          obtain ⟨a4, es4, hg4, hm4⟩ := R4.own e2
          rw [es] at es4
          cases es4
          obtain ⟨vs4, hb4, dd4⟩ := hm4.2.1 _ (findK_mem hf)
          split at f4
          · rename_i x
            have nd := (List.nodup_cons.mp hm4.2.2)
            have hbm : b ∈ kvs'.map (·.2.1) := by
              obtain ⟨y, hy, z⟩ := List.mem_map.mp (findK_mem hf)
              exact List.mem_map.mpr ⟨y, hy, by rw [z]⟩
            have hba : a ≠ b := fun z => nd.1 (z ▸ hbm)
            refine ⟨b, vs4, z, rfl, rfl, hb4, by rw [dpLen dd4]; exact mil_lt hl, ?_⟩
            obtain ⟨R5, S5, o5⟩ := R4.mut (m' := .kl (appE kvs' k x)) (H' := upd H4 b (.lst (vs4 ++ [z]))) e2 es (fun c o nc q => by
              have : c ≠ b := fun z => nc (by rw [z]; exact List.mem_cons_of_mem _ hbm)
              rw [upd_ne this]; exact q) (fun c hc => .inl (by
              rcases List.mem_cons.mp hc with rfl | hc
              · exact List.mem_cons_self
              · refine List.mem_cons_of_mem _ ?_
                have hc' : c ∈ (appE kvs' k x).map (·.2.1) := hc
                rw [appE_subs] at hc'
                exact hc')) ⟨by
              rw [upd_ne hba, appE_keys]
              exact hm4.1, appE_at rz hb4 hf nd.2 dd4 hm4.2.1, by
              have : (appE kvs' k x).map (·.2.1) = kvs'.map (·.2.1) := appE_subs k x kvs'
              rw [this]
              exact hm4.2.2⟩
            have eq : ρ2.set i (.mu (.kl (appE kvs' k x))) = ρ.set i (.mu (.kl (appE kvs' k x))) := by rw [eρ, List.set_set]
            rw [eq] at R5 o5
            exact (E3.step R3.toGd S4).nx EX G4 _ σ _ S5 R5 o5 f4
          · exact f4.elim
        have hlen : (kvs.map fun p => (p.1, V.ref p.2.1)).length < sizeLine := by
          rw [List.length_map]
          exact mil_lt f.1
        refine ⟨_, k, h2a, rfl, hlen, fun v hval => ?_, fun hval => ?_⟩
        · rw [val_kl] at hval
          cases q : findK kvs k with
          | none => rw [q] at hval; cases hval
          | some pr =>
            obtain ⟨b, ds0⟩ := pr
            rw [q] at hval
            have hv' : V.ref b = v := Option.some.inj hval
            subst hv'
            have ep : putE kvs k p = kvs := by unfold putE; rw [q]
            rw [ep] at f2 fb
            have eρ : ρ.set i (.mu (.kl kvs)) = ρ := by
              refine List.ext_getElem? fun j => ?_
              by_cases hj : j = i
              · subst hj
                rw [List.getElem?_set_self (List.getElem?_eq_some_iff.mp e).1, e]
              · rw [List.getElem?_set_ne (Ne.symm hj)]
            rw [eρ] at f2
            exact fin kvs b ds0 _ ρ q (fb b ds0 q) eρ.symm R2 (E.step R.toGd S12) f2
        · rw [val_kl] at hval
          have q : findK kvs k = none := by
            cases q : findK kvs k with
            | none => rfl
            | some pr => rw [q] at hval; cases hval
          have ep : putE kvs k p = kvs ++ [(k, (p, []))] := by unfold putE; rw [q]
          rw [ep] at f2 fb
          rw [put_kl q]
          obtain ⟨a1, es1, hg1, hm1⟩ := R1.own e
          rw [es] at es1
          cases es1
          obtain ⟨R3, S3, o3⟩ := R1.mut (m' := .kl (kvs ++ [(k, (p, []))])) (H' := upd (upd H1 p (.lst [])) a (.dK ((kvs.map fun p => (p.1, V.ref p.2.1)) ++ [(k, .ref p)]))) e es (fun c o nc q => by
            have n1 : c ≠ a := fun z => nc (by rw [z]; exact List.mem_cons_self)
            rw [upd_ne n1, upd_ne (ne_of_none q hp)]
            exact q) (fun c hc => by
            rcases List.mem_cons.mp hc with rfl | hc
            · exact .inl List.mem_cons_self
            · have hc' : c ∈ (kvs ++ [(k, (p, ([] : List PyData)))]).map (·.2.1) := hc
              rw [List.map_append, List.mem_append] at hc'
              rcases hc' with z | z
              · exact .inl (List.mem_cons_of_mem _ z)
              · rw [List.map_singleton, List.mem_singleton] at z
                exact .inr (by rw [z]; exact hp)) ⟨by
            rw [upd_same, List.map_append]
            rfl, fun x hx => by
            rw [List.map_append, List.mem_append] at hx
            rcases hx with hx | hx
            · obtain ⟨us, q1, q2⟩ := hm1.2.1 x hx
              have nx : x.1 ≠ a := fun z => (List.nodup_cons.mp hm1.2.2).1 (by
                obtain ⟨y, hy, rfl⟩ := List.mem_map.mp hx
                rw [← z]
                exact List.mem_map.mpr ⟨y, hy, rfl⟩)
              exact ⟨us, by rw [upd_ne nx, upd_ne (ne_of_none q1 hp)]; exact q1, q2⟩
            · rw [List.map_singleton, List.mem_singleton] at hx
              subst hx
              exact ⟨[], by rw [upd_ne hpa, upd_same], .nil⟩, by
            rw [List.map_append, List.map_singleton]
            show (a :: (kvs.map (·.2.1) ++ [p])).Nodup
            rw [List.nodup_cons]
            refine ⟨fun z => ?_, ?_⟩
            · rw [List.mem_append, List.mem_singleton] at z
              rcases z with z | z
              · exact (List.nodup_cons.mp hm1.2.2).1 z
              · exact hpa z.symm
            · rw [List.nodup_append]
              refine ⟨(List.nodup_cons.mp hm1.2.2).2, by simp, fun x hx y hy z => ?_⟩
              rw [List.mem_singleton] at hy
              subst hy
              subst z
              exact hpn hx⟩
          exact fin (kvs ++ [(k, (p, []))]) p [] _ _ (findK_app q) (by simp) rfl R3 ((E.step R.toGd S1).from S3 R3.toGd o3) f2
      · exact f1.elim
    · exact f1.elim
  · exact f.elim
section
variable {X : Cx} {ke ve : Expr} {tk tv : TE} {wk wv : WE} {pos a1 a2 c1 c2 np lp : Pos} {x : Str}
theorem ms_sdApp (i : Nat) (hk : ME X ke tk wk) (hv : ME X ve tv wv) (hN : X.N[i]? = some x := by rfl) (hvs : Vis X.env.scope x := by first | exact Or.inl rfl | exact Or.inr (Or.inl rfl) | exact Or.inr (Or.inr rfl)) (hd : (x == ("__debug__" : Str)) = false := by decide)
    (hcd : (x == ("__classdict__" : Str)) = false := by decide) (m : M2 X (.Name x np) "setdefault" a1 ke (.List [] lp) c1 := by exact ⟨rfl, rfl, rfl, rfl⟩)
    (hs : swapsWith (.Call (.Attribute (.Call (.Attribute (.Name x np) "setdefault" a1) [ke, .List [] lp] [] c1) "append" a2) [ve] [] c2) none pos.line X.env = pure false := by rfl)
    (hbase : attributeBase (.Call (.Attribute (.Name x np) "setdefault" a1) [ke, .List [] lp] [] c1) "append" X.env (eval (.Call (.Attribute (.Name x np) "setdefault" a1) [ke, .List [] lp] [] c1) X.env) = eval (.Call (.Attribute (.Name x np) "setdefault" a1) [ke, .List [] lp] [] c1) X.env := by rfl)
    (hfew : ((backTo c2 (starEach [ve] X.env)).all (fun x => !x.1) && (backToKw c2 (keywordEach [] X.env)).all (fun x => x.1.isSome) && decide (([ve] : List Expr).length + ([] : List Keyword).length + (if ([] : List Keyword).isEmpty then 0 else 1) < 30)) = true := by rfl)
    (hline : (a2.endLine == c2.line) = true := by rfl) (hst : starEach [ve] X.env = (false, eval ve X.env) :: starEach [] X.env := by rfl) (hplain : (backTo c2 (starEach [] X.env)).any (·.1) = false := by rfl) :
    MS X (.Expr (.Call (.Attribute (.Call (.Attribute (.Name x np) "setdefault" a1) [ke, .List [] lp] [] c1) "append" a2) [ve] [] c2) pos) (tDrop (tBM X.K "list" rAppend (tDSetd (tVar i) tk (tLst tNil)) (tCons tv tNil))) (wSdApp i wk wv) :=
  ⟨ps_expr (pe_bm PySem.F.plainAttrs_list PySem.F.slot_list_append PySem.F.type_list_append mt_append (pe_dsetd (pv i hN hvs hd hcd) hk.pe (pe_lst pa_nil) m) (pa_cons hv.pe pa_nil hst) hbase hfew hline hst hplain) hs, so_sdApp hk.so hv.so⟩
end
end Pd
end

section
set_option Elab.async false
set_option linter.all false
set_option maxRecDepth 100000
set_option autoImplicit false
set_option maxHeartbeats 1000000
/-! Pd, the rest: signs, tuples of names, comprehensions to names; how loops are shown -/
namespace Pd
open PySem PySem.Spec PyProof.Rows L2
section
variable {X : Cx} {e tg iter elt : Expr} {es : List Expr} {te : TE} {we : WE} {tA : TA} {pos pt pt2 py spos : Pos}
def wNeg (we : WE) : WE := fun ρ Φ => we ρ fun r => match r with
  | .d (.int i) => Φ (.d (.int (-i)))
  | _ => False
theorem me_neg (h : ME X e te we) : ME X (.UnaryOp .USub e pos) (tUn (rU fun i => .int (-i)) te) (wNeg we) := ⟨pe_un un_neg h.pe, fun EX G H σ ρ Φ R f Q q => h.so EX G H σ ρ _ R f _ fun v G1 H1 r S rv f1 => by
  split at f1
  · rename_i i
    exact ⟨i, rwInt rv, q _ G1 H1 (.d (.int _)) S (Dd.int _) f1⟩
  · exact f1.elim⟩
/-- the targets are names -/
def gNames : List Nat → TGs
  | [] => gNil
  | i :: is => gCons (gName i) (gNames is)
theorem gNames_put : ∀ {is : List Nat} {vs : List V} {σ : L2.St} {H : Hp} {Q : L2.St → Hp → Prop}, vs.length = is.length → Q (putS σ is vs) H → gNames is vs σ H Q
  | [], [], σ, H, Q, _, q => ⟨rfl, by simpa [putS] using q⟩
  | i :: is, v :: vs, σ, H, Q, hl, q => ⟨v, vs, rfl, gNames_put (is := is) (vs := vs) (σ := σ.set i (some v)) (by simpa using hl) (by simpa [putS] using q)⟩
  | [], _ :: _, _, _, _, hl, _ => by simp at hl
  | _ :: _, [], _, _, _, hl, _ => by simp at hl
theorem ms_parT {ts : List Expr} {kt k2 n : Nat} {is : List Nat} {wA : WAo} (ha : MAo X es tA wA) (hg : PGs X ts (gNames is)) (hlen : is.length = n := by rfl) (hc : X.calm = true := by rfl) (hn : (assignEach ts X.env).length = n := by rfl) (hst : (assignEach ts X.env).findIdx? (·.1) = none := by rfl)
    (hs : swapsWithSole [.Tuple ts kt pt] (.Tuple es k2 pt2) pos.line X.env = pure false := by rfl) (hw : swappedStores [.Tuple ts kt pt] (.Tuple es k2 pt2) X.env = pure none := by rfl)
    (h1 : (assignEach [.Tuple ts kt pt] X.env).map (·.2) = [assign (.Tuple ts kt pt) X.env] := by rfl) (hsm : n ≤ 1000 := by decide) :
    MS X (.Assign [.Tuple ts kt pt] (.Tuple es k2 pt2) pos) (tAsg (tTup tA) (gTup X.K n (gNames is))) (wPar is wA) := ⟨ps_asg (pe_tup ha.pa) (pg_tup hc hg hn hst) hs hw h1, fun EX G H σ ρ P R f D E => by
  refine ha.so EX G H σ ρ _ R f _ fun vs G1 H1 ss S1 A f1 => ?_
  obtain ⟨hl, hu, f2⟩ := f1
  have hl2 : vs.length = n := (A.len.trans hl).trans hlen
  refine ⟨by rw [hl2]; exact le_line hsm, fun p hp => ⟨p, vs, rfl, .inl (.inl upd_same), hl2, gNames_put (A.len.trans hl) ?_⟩⟩
  have R1 := R.step S1
  have S2 := R1.toGd.newOut (o := .tup vs) hp
  have A2 : SlsAt X.K EX G1 H (upd H1 p (.tup vs)) vs ss := ⟨A.len, fun i s e => (A.at_ i s e).step S2, A.fr, A.df⟩
  obtain ⟨R2, o2⟩ := Rel.puts (O := Own σ ρ) (is := is) (R1.step S2) A2 (noUn_iff hu) (fun b o z => by
    obtain ⟨_, _, u, hu, _⟩ := R.ownAt (b := b) o
    rw [z] at hu; cases hu) (fun b o => .inl o) (fun b o j m a e1 e2 hb => by
    obtain ⟨_, _, u, hu, _⟩ := R.ownAt (b := b) o
    rw [A.fr j m a b e1 e2 hb] at hu; cases hu)
  exact E.nx EX G1 _ _ _ (S1.trans S2).s R2 o2 f2⟩
/-! readings by what they say alone -/
def canE (K : PySem.W.Frag) (w : WE) : TE := fun σ H Q => ∃ (EX : Ext) (G : Hp) (ρ : Rh) (Φ : W → Prop), Rel K EX G H σ ρ ∧ w ρ Φ ∧ ∀ v G' H' r, Step EX G H G' H' → Rw K EX G' v r → Φ r → Q v H'
def canT (K : PySem.W.Frag) (w : WT) : TT := fun σ H Q => ∃ (EX : Ext) (G : Hp) (ρ : Rh) (Φ : Bool → Prop), Rel K EX G H σ ρ ∧ w ρ Φ ∧ ∀ b G' H', Step EX G H G' H' → Φ b → Q b H'
def canG (K : PySem.W.Frag) (w : WG) (sl : List Nat) : TG := fun v σ H Q => ∃ (EX : Ext) (G : Hp) (ρ : Rh) (r : W) (Φ : Rh → Prop), Rel K EX G H σ ρ ∧ Rw K EX G v r ∧ w r ρ Φ ∧ ∀ σ' ρ', Rel K EX G H σ' ρ' → Kept sl σ σ' ρ ρ' → Φ ρ' → Q σ' H
theorem me_can {Y : Cx} {e : Expr} {t : TE} {w : WE} (h : ME Y e t w) : ME Y e (canE Y.K w) w := ⟨⟨fun pins s σ H Q I ⟨EX, G, ρ, Φ, R, f, q⟩ => h.pe.run pins s σ H Q I (h.so EX G H σ ρ Φ R f Q q)⟩, fun EX G H σ ρ Φ R f Q q => ⟨EX, G, ρ, Φ, R, f, q⟩⟩
theorem mts_can {Y : Cx} {es : List Expr} {t : TT} {w : WT} (h : MTs Y es t w) : MTs Y es (canT Y.K w) w := ⟨⟨fun pins s σ H Q I ⟨EX, G, ρ, Φ, R, f, q⟩ => h.pt.run pins s σ H Q I (h.so EX G H σ ρ Φ R f Q q)⟩, fun EX G H σ ρ Φ R f Q q => ⟨EX, G, ρ, Φ, R, f, q⟩⟩
theorem mg_can {Y : Cx} {tg : Expr} {g : TG} {w : WG} {sl : List Nat} (h : MG Y tg g w sl) : MG Y tg (canG Y.K w sl) w sl := ⟨⟨fun pins s σ H v u Q I rv ⟨EX, G, ρ, r, Φ, R, rr, f, q⟩ => h.pg.run pins s σ H v u Q I rv (h.so EX G H σ ρ v r Φ R rr f Q q)⟩, fun EX G H σ ρ v r Φ R rr f Q q => ⟨EX, G, ρ, r, Φ, R, rr, f, q⟩⟩
theorem ml_lcX {ifs : List Expr} {scope : Scope} {wi : TI} {ui : WD} {ug : WG} {ut : WT} {ue : WE} {sl : List Nat} (own : List (Str × Nat)) (hN : X.N.Nodup) (hi : MI X tg iter wi ui) (ok : BlkOk X.N X.env.scope scope own)
    (hg : ∀ (s : Shared) (H : Hp) (C : Addr) (cl : List (Str × Addr)) (fp : List Addr), ∃ g, MG (X.blk s H scope (compEnvC scope cl C X.env) fp) tg g ug sl)
    (ht : ∀ (s : Shared) (H : Hp) (C : Addr) (cl : List (Str × Addr)) (fp : List Addr), ∃ tt, MTs (X.blk s H scope (compEnvC scope cl C X.env) fp) ifs tt ut)
    (he : ∀ (s : Shared) (H : Hp) (C : Addr) (cl : List (Str × Addr)) (fp : List Addr), ∃ te, ME (X.blk s H scope (compEnvC scope cl C X.env) fp) elt te ue)
    (hsl : ∀ j ∈ sl, j ∈ own.map (·.2) := by decide) (hc : X.calm = true := by rfl) (hs : ∀ x, foldedSetIterable iter X.env x = pure x := by intro _; rfl) :
    ML X (.ListComp elt [⟨tg, iter, ifs, 0⟩] scope pos) (tLc wi (canG X.K ug sl) (canT X.K ut) (canE X.K ue) (own.map (·.2))) (wLc ui ug ut ue (own.map (·.2))) :=
  ml_lc own hN hi ok (fun s H C cl fp => let ⟨_, h⟩ := hg s H C cl fp; mg_can h) (fun s H C cl fp => let ⟨_, h⟩ := ht s H C cl fp; mts_can h) (fun s H C cl fp => let ⟨_, h⟩ := he s H C cl fp; me_can h) hsl hc hs
/-- y = [..] -/
theorem ms_lcX {wf : WS} (i : Nat) {y : Str} {ifs : List Expr} {scope : Scope} {wi : TI} {ui : WD} {ug : WG} {ut : WT} {ue : WE} {sl : List Nat} (own : List (Str × Nat)) (hN : X.N.Nodup) (hi : MI X tg iter wi ui) (ok : BlkOk X.N X.env.scope scope own)
    (hg : ∀ (s : Shared) (H : Hp) (C : Addr) (cl : List (Str × Addr)) (fp : List Addr), ∃ g, MG (X.blk s H scope (compEnvC scope cl C X.env) fp) tg g ug sl)
    (ht : ∀ (s : Shared) (H : Hp) (C : Addr) (cl : List (Str × Addr)) (fp : List Addr), ∃ tt, MTs (X.blk s H scope (compEnvC scope cl C X.env) fp) ifs tt ut)
    (he : ∀ (s : Shared) (H : Hp) (C : Addr) (cl : List (Str × Addr)) (fp : List Addr), ∃ te, ME (X.blk s H scope (compEnvC scope cl C X.env) fp) elt te ue)
    (hf : SoS X.K (tAsg (tLc wi (canG X.K ug sl) (canT X.K ut) (canE X.K ue) (own.map (·.2))) (gName i)) wf)
    (hy : X.N[i]? = some y) (hyl : X.env.scope.names.lookup y = some .local) (hsw : swapsWith (.ListComp elt [⟨tg, iter, ifs, 0⟩] scope pos) (some (.Name y py)) spos.line X.env = pure true)
    (hc : X.calm = true) (hs : ∀ x, foldedSetIterable iter X.env x = pure x) :
    MS X (.Assign [.Name y py] (.ListComp elt [⟨tg, iter, ifs, 0⟩] scope pos) spos) (tAsg (tLc wi (canG X.K ug sl) (canT X.K ut) (canE X.K ue) (own.map (·.2))) (gName i)) wf :=
  ⟨ps_setLc hc hN hy hyl hsw hi.pi ok (fun s H C cl fp => let ⟨_, h⟩ := hg s H C cl fp; (mg_can h).pg) (fun s H C cl fp => let ⟨_, h⟩ := ht s H C cl fp; (mts_can h).pt) (fun s H C cl fp => let ⟨_, h⟩ := he s H C cl fp; (me_can h).pe) hs, hf⟩
theorem so_lcX {K : PySem.W.Frag} {wi : TI} {ui : WD} {ug : WG} {ut : WT} {ue : WE} {sl vs : List Nat} (hi : SoI K wi ui) (hsl : ∀ j ∈ sl, j ∈ vs) : SoL K (tLc wi (canG K ug sl) (canT K ut) (canE K ue) vs) (wLc ui ug ut ue vs) :=
  so_lc hi (fun EX G H σ ρ v r Φ R rr f Q q => ⟨EX, G, ρ, r, Φ, R, rr, f, q⟩) (fun EX G H σ ρ Φ R f Q q => ⟨EX, G, ρ, Φ, R, f, q⟩) (fun EX G H σ ρ Φ R f Q q => ⟨EX, G, ρ, Φ, R, f, q⟩) hsl
theorem ms_setLc (i : Nat) {y : Str} {ifs : List Expr} {scope : Scope} {wi : TI} {ui : WD} {ug : WG} {ut : WT} {ue : WE} {sl : List Nat} (own : List (Str × Nat)) (hN : X.N.Nodup) (hi : MI X tg iter wi ui) (ok : BlkOk X.N X.env.scope scope own)
    (hg : ∀ (s : Shared) (H : Hp) (C : Addr) (cl : List (Str × Addr)) (fp : List Addr), ∃ g, MG (X.blk s H scope (compEnvC scope cl C X.env) fp) tg g ug sl)
    (ht : ∀ (s : Shared) (H : Hp) (C : Addr) (cl : List (Str × Addr)) (fp : List Addr), ∃ tt, MTs (X.blk s H scope (compEnvC scope cl C X.env) fp) ifs tt ut)
    (he : ∀ (s : Shared) (H : Hp) (C : Addr) (cl : List (Str × Addr)) (fp : List Addr), ∃ te, ME (X.blk s H scope (compEnvC scope cl C X.env) fp) elt te ue)
    (hy : X.N[i]? = some y := by rfl) (hyl : X.env.scope.names.lookup y = some .local := by rfl) (hsw : swapsWith (.ListComp elt [⟨tg, iter, ifs, 0⟩] scope pos) (some (.Name y py)) spos.line X.env = pure true := by exact sw_true rfl rfl rfl (by decide +kernel))
    (hsl : ∀ j ∈ sl, j ∈ own.map (·.2) := by decide) (hc : X.calm = true := by rfl) (hs : ∀ x, foldedSetIterable iter X.env x = pure x := by intro _; rfl) :
    MS X (.Assign [.Name y py] (.ListComp elt [⟨tg, iter, ifs, 0⟩] scope pos) spos) (tAsg (tLc wi (canG X.K ug sl) (canT X.K ut) (canE X.K ue) (own.map (·.2))) (gName i)) (wSet i (wFz (wLc ui ug ut ue (own.map (·.2))))) :=
  ms_lcX i own hN hi ok hg ht he (so_set (so_fz (so_lcX hi.so hsl))) hy hyl hsw hc hs
theorem ms_setOLc (i : Nat) {y : Str} {ifs : List Expr} {scope : Scope} {wi : TI} {ui : WD} {ug : WG} {ut : WT} {ue : WE} {sl : List Nat} (own : List (Str × Nat)) (hN : X.N.Nodup) (hi : MI X tg iter wi ui) (ok : BlkOk X.N X.env.scope scope own)
    (hg : ∀ (s : Shared) (H : Hp) (C : Addr) (cl : List (Str × Addr)) (fp : List Addr), ∃ g, MG (X.blk s H scope (compEnvC scope cl C X.env) fp) tg g ug sl)
    (ht : ∀ (s : Shared) (H : Hp) (C : Addr) (cl : List (Str × Addr)) (fp : List Addr), ∃ tt, MTs (X.blk s H scope (compEnvC scope cl C X.env) fp) ifs tt ut)
    (he : ∀ (s : Shared) (H : Hp) (C : Addr) (cl : List (Str × Addr)) (fp : List Addr), ∃ te, ME (X.blk s H scope (compEnvC scope cl C X.env) fp) elt te ue)
    (hy : X.N[i]? = some y := by rfl) (hyl : X.env.scope.names.lookup y = some .local := by rfl) (hsw : swapsWith (.ListComp elt [⟨tg, iter, ifs, 0⟩] scope pos) (some (.Name y py)) spos.line X.env = pure true := by exact sw_true rfl rfl rfl (by decide +kernel))
    (hsl : ∀ j ∈ sl, j ∈ own.map (·.2) := by decide) (hc : X.calm = true := by rfl) (hs : ∀ x, foldedSetIterable iter X.env x = pure x := by intro _; rfl) :
    MS X (.Assign [.Name y py] (.ListComp elt [⟨tg, iter, ifs, 0⟩] scope pos) spos) (tAsg (tLc wi (canG X.K ug sl) (canT X.K ut) (canE X.K ue) (own.map (·.2))) (gName i)) (wSetO i (wLc ui ug ut ue (own.map (·.2)))) :=
  ms_lcX i own hN hi ok hg ht he (so_setO (so_lcX hi.so hsl)) hy hyl hsw hc hs
end
def wBrk : WS := fun ρ P => P.bk ρ
def wCnt : WS := fun ρ P => P.ct ρ
def oGe : F2 := fun p q Φ => match p, q with
  | .d (.int i), .d (.int j) => Φ (.d (.bool (decide (j ≤ i))))
  | _, _ => False
/-! ### loops, shown -/
theorem forW_inv {wg : WG} {wb : WS} {P : Ps} (I : Nat → Rh → Prop) : ∀ {ds : List D} {ρ : Rh} (n : Nat), I n ρ →
    (∀ i d ρ' (C : Rh → Prop), ds[i]? = some d → I (n + i) ρ' → (∀ ρ'', I (n + i + 1) ρ'' → C ρ'') → wg (.d d) ρ' fun ρ1 => wb ρ1 ⟨C, P.rt, P.nx, C⟩) → (∀ ρ', I (n + ds.length) ρ' → P.nx ρ') → forW wg wb ds ρ P
  | [], ρ, n, h0, _, he => he ρ h0
  | d :: ds, ρ, n, h0, hs, he => hs 0 d ρ (fun ρ'' => forW wg wb ds ρ'' P) rfl h0 fun ρ'' h => forW_inv I (n + 1) h (fun i d' ρ' C e hi hc => hs (i + 1) d' ρ' C (by simpa using e) (by rw [show n + (i + 1) = n + 1 + i by omega]; exact hi) (by rw [show n + (i + 1) + 1 = n + 1 + i + 1 by omega]; exact hc)) fun ρ' h => he ρ' (by rw [List.length_cons, show n + (ds.length + 1) = n + 1 + ds.length by omega]; exact h)
/-- by what is left -/
theorem forW_ind {wg : WG} {wb : WS} {P : Ps} (I : List D → Rh → Prop) {ds : List D} {ρ : Rh} (h0 : I ds ρ)
    (hs : ∀ d r ρ' (C : Rh → Prop), I (d :: r) ρ' → (∀ ρ'', I r ρ'' → C ρ'') → wg (.d d) ρ' fun ρ1 => wb ρ1 ⟨C, P.rt, P.nx, C⟩) (he : ∀ ρ', I [] ρ' → P.nx ρ') : forW wg wb ds ρ P := by
  induction ds generalizing ρ with
  | nil => exact he ρ h0
  | cons d ds ih => exact hs d ds ρ _ h0 fun ρ'' h => ih h
/-- a comprehension whose items are computed -/
theorem compW_map {wg : WG} {we : WE} {ρ : Rh} {Φ : List D → Prop} (f : D → D) : ∀ {ds acc : List D}, (∀ d ∈ ds, ∀ T : W → Prop, T (.d (f d)) → wg (.d d) ρ fun ρ' => we ρ' T) → Φ (acc ++ ds.map f) → compW wg wYes we ds ρ acc Φ
  | [], acc, _, h => by simpa [compW] using h
  | d :: ds, acc, hs, h => by
    unfold compW
    refine hs d List.mem_cons_self (fun r => _) ?_
    exact compW_map f (fun x hx => hs x (List.mem_cons_of_mem _ hx)) (by simpa using h)
/-- .. and picked by a test -/
theorem compW_fm {wg : WG} {wt : WT} {we : WE} {ρ : Rh} {Φ : List D → Prop} (p : D → Bool) (f : D → D) : ∀ {ds acc : List D},
    (∀ d ∈ ds, ∀ (T : W → Prop) (S : Prop), (p d = true → T (.d (f d))) → (p d = false → S) → wg (.d d) ρ fun ρ' => wt ρ' fun k => if k = true then we ρ' T else S) → Φ (acc ++ (ds.filter p).map f) → compW wg wt we ds ρ acc Φ
  | [], acc, _, h => by simpa [compW] using h
  | d :: ds, acc, hs, h => by
    unfold compW
    have hr : ∀ x ∈ ds, _ := fun x hx => hs x (List.mem_cons_of_mem _ hx)
    refine hs d List.mem_cons_self (fun r => _) _ (fun e => ?_) fun e => ?_
    · exact compW_fm p f hr (by rw [List.filter_cons_of_pos e] at h; simpa using h)
    · exact compW_fm p f hr (by rw [List.filter_cons_of_neg (by simp [e])] at h; simpa using h)
/-- by an invariant of the items so far -/
theorem compW_inv {wg : WG} {wt : WT} {we : WE} {ρ : Rh} {Φ : List D → Prop} (I : Nat → List D → Prop) : ∀ {ds acc : List D} (n : Nat), I n acc →
    (∀ i d acc' (C : List D → Prop), ds[i]? = some d → I (n + i) acc' → (∀ acc'', I (n + i + 1) acc'' → C acc'') → wg (.d d) ρ fun ρ' => wt ρ' fun k => if k = true then we ρ' fun r => (match r with
      | .d x => C (acc' ++ [x])
      | _ => False) else C acc') → (∀ acc', I (n + ds.length) acc' → Φ acc') → compW wg wt we ds ρ acc Φ
  | [], acc, n, h0, _, he => he acc h0
  | d :: ds, acc, n, h0, hs, he => hs 0 d acc (fun acc'' => compW wg wt we ds ρ acc'' Φ) rfl h0 fun acc'' h => compW_inv I (n + 1) h (fun i d' acc' C e hi hc => hs (i + 1) d' acc' C (by simpa using e) (by rw [show n + (i + 1) = n + 1 + i by omega]; exact hi) (by rw [show n + (i + 1) + 1 = n + 1 + i + 1 by omega]; exact hc)) fun acc' h => he acc' (by rw [List.length_cons, show n + (ds.length + 1) = n + 1 + ds.length by omega]; exact h)
end Pd
end

section
set_option Elab.async false
set_option linter.all false
set_option maxRecDepth 100000
set_option autoImplicit false
/-! Pd, what the readings say, piece by piece -/
namespace Pd
open PySem PySem.Spec PyProof.Rows L2
section
variable {Φ : W → Prop} {Ψ : List D → Prop} {i j : Int} {x y : Str} {ds es : List D} {a : Addr} {ns : List Int} {b : Bool} {d e : D} {C : Int → Int → Prop} {g : Int → Int → Int} {h : Int → Int → Bool} {k : List Nat → List Nat → Bool} {neg : Bool} {lo hi : Option Int} {ws : List W} {kvs : List (Key × D)}
theorem ev_addI : oAdd (.d (.int i)) (.d (.int j)) Φ = Φ (.d (.int (i + j))) := rfl
theorem ev_addS : oAdd (.d (.str x)) (.d (.str y)) Φ = (x.length + y.length ≤ sizeLine ∧ Φ (.d (.str (x ++ y)))) := rfl
theorem ev_addT : oAdd (.d (.tuple ds)) (.d (.tuple es)) Φ = (ds.length + es.length ≤ sizeLine ∧ Φ (.d (.tuple (ds ++ es)))) := rfl
theorem ev_addL : oAdd (.d (.list ds)) (.d (.list es)) Φ = (ds.length + es.length ≤ sizeLine ∧ Φ (.d (.list (ds ++ es)))) := rfl
theorem ev_mulI : oMul (.d (.int i)) (.d (.int j)) Φ = (CMul i j ∧ Φ (.d (.int (i * j)))) := rfl
theorem ev_I : oI C g (.d (.int i)) (.d (.int j)) Φ = (C i j ∧ Φ (.d (.int (g i j)))) := rfl
theorem ev_I0 : oI0 g (.d (.int i)) (.d (.int j)) Φ = Φ (.d (.int (g i j))) := rfl
theorem ev_ltI : oLt h k (.d (.int i)) (.d (.int j)) Φ = Φ (.d (.bool (h i j))) := rfl
theorem ev_ltS : oLt h k (.d (.str x)) (.d (.str y)) Φ = Φ (.d (.bool (k x.cps.toList y.cps.toList))) := rfl
theorem ev_ge : oGe (.d (.int i)) (.d (.int j)) Φ = Φ (.d (.bool (decide (j ≤ i)))) := rfl
theorem ev_eq : oEq neg (.d d) (.d e) Φ = (min d.depth e.depth ≤ 64 ∧ Φ (.d (.bool (neg != PyData.eqv d e)))) := rfl
theorem ev_eqI : oEq neg (.d (.int i)) (.d (.int j)) Φ = Φ (.d (.bool (neg != (i == j)))) := by
  rw [ev_eq]
  simp [PyData.depth, PyData.eqv]
theorem ev_eqS : oEq neg (.d (.str x)) (.d (.str y)) Φ = Φ (.d (.bool (neg != (x == y)))) := by
  rw [ev_eq]
  simp [PyData.depth, PyData.eqv]
theorem ev_eqB {c : Bool} : oEq neg (.d (.bool b)) (.d (.bool c)) Φ = Φ (.d (.bool (neg != (b == c)))) := by
  rw [ev_eq]
  simp [PyData.depth, PyData.eqv]
theorem ev_p0 : oIx (.p a) (.d (.int 0)) Φ = ∀ n : Int, Φ (.d (.int n)) := by
  simp [oIx]
theorem ev_p1 : oIx (.p a) (.d (.int 1)) Φ = ∀ n : Int, Φ (.d (.int n)) := by
  simp [oIx]
theorem ev_p2 : oIx (.p a) (.d (.int 2)) Φ = ∀ n : Int, Φ (.d (.int n)) := by
  simp [oIx]
theorem ev_lenL : oLen [.d (.list ds)] Φ = Φ (.d (.int ds.length)) := rfl
theorem ev_lenT : oLen [.d (.tuple ds)] Φ = Φ (.d (.int ds.length)) := rfl
theorem ev_lenS : oLen [.d (.str x)] Φ = Φ (.d (.int x.length)) := rfl
theorem ev_lenQ : oLen [.sq a ns] Φ = Φ (.d (.int ns.length)) := rfl
theorem ev_lenK : oLen [.dk kvs] Φ = Φ (.d (.int kvs.length)) := rfl
theorem ev_tupL : oTuple [.d (.list ds)] Φ = Φ (.d (.tuple ds)) := rfl
theorem ev_tupT : oTuple [.d (.tuple ds)] Φ = Φ (.d (.tuple ds)) := rfl
theorem ev_lisL : oList [.d (.list ds)] Ψ = Ψ ds := rfl
theorem ev_lisT : oList [.d (.tuple ds)] Ψ = Ψ ds := rfl
theorem ev_intI : oInt [.d (.int i)] Φ = Φ (.d (.int i)) := rfl
theorem ev_intB : oInt [.d (.bool b)] Φ = Φ (.d (.int (if b then 1 else 0))) := rfl
theorem ev_max2 : oMax2 [.d (.int i), .d (.int j)] Φ = Φ (.d (.int (if j > i then j else i))) := rfl
theorem ev_min2 : oMin2 [.d (.int i), .d (.int j)] Φ = Φ (.d (.int (if j < i then j else i))) := rfl
theorem ev_repr : oRepr [.d d] Φ = (reprOk d = true ∧ Φ (.rp d)) := rfl
theorem ev_eqRp : oEqRp neg (.rp d) (.rp e) Φ = Φ (.d (.bool (neg != decide (d.shown = e.shown)))) := rfl
theorem ev_slL : oSl (.d (.list ds)) lo hi Φ = Φ (.d (.list (cutD ds lo hi))) := rfl
theorem ev_slT : oSl (.d (.tuple ds)) lo hi Φ = Φ (.d (.tuple (cutD ds lo hi))) := rfl
theorem ev_slS : oSl (.d (.str x)) lo hi Φ = Φ (.d (.str (cutS x lo hi))) := rfl
theorem ev_seqL : seqD (.d (.list ds)) Ψ = Ψ ds := rfl
theorem ev_seqT : seqD (.d (.tuple ds)) Ψ = Ψ ds := rfl
theorem ev_seqS : seqD (.d (.str x)) Ψ = Ψ (signs x) := rfl
theorem ev_inL : oIn neg (.d d) (.d (.list ds)) Φ = (min (PyData.depthAll ds) d.depth ≤ 63 ∧ Φ (.d (.bool (neg != ds.any fun y => PyData.eqv y d)))) := by
  cases d <;> rfl
theorem ev_inT : oIn neg (.d d) (.d (.tuple ds)) Φ = (min (PyData.depthAll ds) d.depth ≤ 63 ∧ Φ (.d (.bool (neg != ds.any fun y => PyData.eqv y d)))) := by
  cases d <;> rfl
theorem ev_isB {c : Bool} : oIs neg (.d (.bool b)) (.d (.bool c)) Φ = Φ (.d (.bool (neg != decide (b = c)))) := rfl
theorem ev_dO : dOnly Φ (.d d) = Φ (.d d) := rfl
theorem ev_dat0 {Ψ : List D → Prop} : datsW [] Ψ = Ψ [] := by simp [datsW, dats]
theorem ev_dat1 : datsW [.d d] Ψ = Ψ [d] := by simp [datsW, dats]
theorem ev_dat2 : datsW [.d d, .d e] Ψ = Ψ [d, e] := by simp [datsW, dats]
theorem ev_dat3 {d3 : D} : datsW [.d d, .d e, .d d3] Ψ = Ψ [d, e, d3] := by simp [datsW, dats]
theorem ev_dat4 {d3 d4 : D} : datsW [.d d, .d e, .d d3, .d d4] Ψ = Ψ [d, e, d3, d4] := by simp [datsW, dats]
theorem ev_dat5 {d3 d4 d5 : D} : datsW [.d d, .d e, .d d3, .d d4, .d d5] Ψ = Ψ [d, e, d3, d4, d5] := by simp [datsW, dats]
theorem ev_dat8 {d3 d4 d5 d6 d7 d8 : D} : datsW [.d d, .d e, .d d3, .d d4, .d d5, .d d6, .d d7, .d d8] Ψ = Ψ [d, e, d3, d4, d5, d6, d7, d8] := by simp [datsW, dats]
theorem ev_dats {l : List D} (h : dats ws = some l) (hl : l.length ≤ 1000) (q : Ψ l) : datsW ws Ψ := by
  unfold datsW
  rw [h]
  exact ⟨hl, q⟩
end
theorem cmulL {i j : Int} (h1 : -(2 ^ 64) < i) (h2 : i < 2 ^ 64) : CMul i j := .inl ⟨h1, h2⟩
theorem cmulR {i j : Int} (h1 : -(2 ^ 64) < j) (h2 : j < 2 ^ 64) : CMul i j := .inr ⟨h1, h2⟩
theorem atI_some {α : Type} {xs : List α} {i : Int} (h0 : 0 ≤ i) (h1 : i < xs.length) : ∃ x, xs[i.toNat]? = some x ∧ atI xs i = some x := by
  obtain ⟨n, rfl⟩ := Int.eq_ofNat_of_zero_le h0
  have hn : n < xs.length := by omega
  exact ⟨xs[n], by simp [hn], atI_nat (List.getElem?_eq_getElem hn)⟩
theorem r_ixs {s : Addr} {ns : List Int} {i : Int} {Φ : W → Prop} (h0 : 0 ≤ i) (h1 : i < ns.length) (q : ∀ n : Int, Φ (.d (.int n))) : oIx (.sq s ns) (.d (.int i)) Φ := by
  obtain ⟨x, e, e2⟩ := atI_some h0 h1
  unfold oIx
  simp only [e2]
  exact q x
theorem r_ixl {ds : List PyData} {i : Int} {Φ : W → Prop} (h0 : 0 ≤ i) (h1 : i < ds.length) (q : ∀ d, ds[i.toNat]? = some d → Φ (.d d)) : oIx (.d (.list ds)) (.d (.int i)) Φ := by
  obtain ⟨x, e, e2⟩ := atI_some h0 h1
  unfold oIx
  simp only [e2]
  exact q x e
theorem r_ixt {ds : List PyData} {i : Int} {Φ : W → Prop} (h0 : 0 ≤ i) (h1 : i < ds.length) (q : ∀ d, ds[i.toNat]? = some d → Φ (.d d)) : oIx (.d (.tuple ds)) (.d (.int i)) Φ := by
  obtain ⟨x, e, e2⟩ := atI_some h0 h1
  unfold oIx
  simp only [e2]
  exact q x e
theorem r_ixc {x : Str} {i : Int} {Φ : W → Prop} (h0 : 0 ≤ i) (h1 : i < x.length) (q : ∀ c ∈ x.cps.toList, Φ (.d (.str ⟨#[c]⟩))) : oIx (.d (.str x)) (.d (.int i)) Φ := by
  obtain ⟨c, e, e2⟩ := atI_some (xs := x.cps.toList) h0 (by rw [Array.length_toList]; exact h1)
  unfold oIx
  simp only [e2]
  exact q c (List.mem_of_getElem? e)
/-- [a, b][int(c)] -/
theorem r_two {a b : PyData} {c : Bool} {Φ : W → Prop} (h : ∀ d, d = a ∨ d = b → Φ (.d d)) : oIx (.d (.list [a, b])) (.d (.int (if c then 1 else 0))) Φ := by
  cases c with
  | true => exact r_ixl (by decide) (by simp) fun d e => h d (.inr (by simpa using e.symm))
  | false => exact r_ixl (by decide) (by simp) fun d e => h d (.inl (by simpa using e.symm))
theorem r_twoP {a b : PyData} {c : Prop} [Decidable c] {Φ : W → Prop} (h : ∀ d, d = a ∨ d = b → Φ (.d d)) : oIx (.d (.list [a, b])) (.d (.int (if c then 1 else 0))) Φ := by
  by_cases hc : c
  · rw [if_pos hc]
    exact r_ixl (by decide) (by simp) fun d e => h d (.inr (by simpa using e.symm))
  · rw [if_neg hc]
    exact r_ixl (by decide) (by simp) fun d e => h d (.inl (by simpa using e.symm))
/-- the last one -/
theorem r_last {ds : List PyData} {Φ : W → Prop} (h1 : ds ≠ []) (q : ∀ d ∈ ds, ds.getLast? = some d → Φ (.d d)) : oIx (.d (.list ds)) (.d (.int (-1))) Φ := by
  have e : atI ds (-1) = some (ds.getLast h1) := by
    have := atI_last ds.dropLast (ds.getLast h1)
    rwa [List.dropLast_concat_getLast] at this
  unfold oIx
  simp only [e]
  exact q _ (List.getLast_mem h1) (List.getLast?_eq_getLast h1)
end Pd
end

section
set_option Elab.async false
set_option linter.all false
set_option maxRecDepth 100000
set_option autoImplicit false
set_option maxHeartbeats 1000000
/-! Pd, more on own lists: items, pop, del, extend, two items at once -/
namespace Pd
open PySem PySem.Spec PyProof.Rows L2
section
variable {X : Cx} {e k k1 k2 a b : Expr} {te tk tk1 tk2 : TE} {we wk wk1 wk2 : WE} {tA : TA} {wA : WA} {pos apos cpos tpos np np2 t1 t2 pt pt2 : Pos} {x y : Str}
/-- x[k] of an own list -/
def wIxO (i : Nat) (wk : WE) : WE := fun ρ Φ => wk ρ fun q => match q with
  | .d (.int z) => (match ρ[i]? with
    | some (.mu (.l ds)) => oIx (.d (.list ds)) (.d (.int z)) Φ
    | some (.sh r) => oIx r (.d (.int z)) Φ
    | _ => False)
  | _ => False
theorem so_ixO {K : PySem.W.Frag} {i : Nat} (hk : SoE K tk wk) (hi : ∀ ρ Φ, wIxO i wk ρ Φ → True) : SoE K (tOp (rIx K) (tVar i) tk) (fun ρ Φ => ((∃ ds, ρ[i]? = some (.mu (.l ds))) ∨ ∃ r, ρ[i]? = some (.sh r)) ∧ wIxO i wk ρ Φ) := fun EX G H σ ρ Φ R f Q q => by
  obtain ⟨hh, f⟩ := f
  rcases hh with ⟨ds, e⟩ | ⟨r, e⟩
  · obtain ⟨a, es, hg, vs, hH, dd⟩ := R.own e
    refine ⟨.ref a, es, hk EX G H σ ρ _ R f _ fun u G1 H1 r S ru f1 => ?_⟩
    have R1 := R.step S
    split at f1
    · rename_i z
      rw [e] at f1
      simp only at f1
      replace f1 : match atI ds z with | some d => Φ (.d d) | none => False := f1
      split at f1
      · rename_i d hd
        obtain ⟨a', es', hg', vs', hH', dd'⟩ := R1.own e
        rw [es] at es'
        cases es'
        obtain ⟨v, e2, dv⟩ := atI_dd dd' hd
        exact .inl ⟨a, vs', z, v, rfl, rwInt ru, .inl (.inl hH'), e2, q v G1 H1 (.d d) S dv f1⟩
      · exact f1.elim
    · exact f1.elim
  · obtain ⟨v, es, rv⟩ := R.var e
    refine ⟨v, es, hk EX G H σ ρ _ R f _ fun u G1 H1 r' S ru f1 => ?_⟩
    have R1 := R.step S
    split at f1
    · rename_i z
      rw [e] at f1
      simp only at f1
      exact os_ix EX G1 H1 v u r (.d (.int z)) Φ R1.toGd (rwMono S.gg (fun _ _ h => h) rv) ru f1 Q fun w G2 H2 c S2 rc fc => q w G2 H2 c (S.trans S2) rc fc
    · exact f1.elim
def wIxOx (i : Nat) (wk : WE) : WE := fun ρ Φ => ((∃ ds, ρ[i]? = some (.mu (.l ds))) ∨ ∃ r, ρ[i]? = some (.sh r)) ∧ wIxO i wk ρ Φ
theorem me_ixO (i : Nat) (hk : ME X k tk wk) (hN : X.N[i]? = some x := by rfl) (hv : Vis X.env.scope x := by first | exact Or.inl rfl | exact Or.inr (Or.inl rfl) | exact Or.inr (Or.inr rfl)) (hd : (x == ("__debug__" : Str)) = false := by decide)
    (hcd : (x == ("__classdict__" : Str)) = false := by decide) (hs : PlainIx k := by exact fun _ _ => rfl) : ME X (.Subscript (.Name x np) k pos) (tOp (rIx X.K) (tVar i) tk) (wIxOx i wk) := ⟨pe_ix ix_seq (pv i hN hv hd hcd) hk.pe hs, so_ixO hk.so fun _ _ _ => trivial⟩
/-- y = x.pop() -/
def wPopSet (i j : Nat) : WS := fun ρ P => match ρ[i]? with
  | some (.mu (.l ds)) => (match ds[ds.length - 1]? with
    | some d => P.nx ((ρ.set i (.mu (.l ds.dropLast))).set j (.sh (.d d)))
    | none => False)
  | _ => False
theorem dpDropLast {K : PySem.W.Frag} {G : Hp} {vs : List V} {ds : List D} (h : DdAll K G vs ds) : DdAll K G vs.dropLast ds.dropLast := by
  rw [List.dropLast_eq_take, List.dropLast_eq_take, dpLen h]
  exact dpTake _ h
theorem so_popSet {K : PySem.W.Frag} {i j : Nat} : SoS K (tAsg (tBM0 K "list" rPop (tVar i)) (gName j)) (wPopSet i j) := fun EX G H σ ρ P R f D E => by
  unfold wPopSet at f
  split at f
  · rename_i ds e
    obtain ⟨a, es, hg, vs, hH, dd⟩ := R.own e
    split at f
    · rename_i d hd
      obtain ⟨v, e1, dv⟩ := dpGet dd hd
      refine ⟨.ref a, es, .inl ⟨rfl, vs, .inl (.inl hH)⟩, a, vs, v, rfl, rfl, hH, by rw [dpLen dd]; exact e1, ?_⟩
      obtain ⟨R2, S2, o2⟩ := R.mut1 (m' := .l ds.dropLast) (o := .lst vs.dropLast) e es (fun b hb => .inl (ownsl_in hb)) ⟨_, upd_same, dpDropLast dd⟩
      exact E.nx EX G _ _ _ S2 (R2.set j (r := .d d) dv) (fun b q => o2 b (own_set q)) f
    · exact f.elim
  · exact f.elim
theorem ms_popSet (i j : Nat) {py : Pos} (hN : X.N.Nodup) (hi : X.N[i]? = some x := by rfl) (hv : Vis X.env.scope x := by first | exact Or.inl rfl | exact Or.inr (Or.inl rfl) | exact Or.inr (Or.inr rfl)) (hd : (x == ("__debug__" : Str)) = false := by decide)
    (hcd : (x == ("__classdict__" : Str)) = false := by decide) (hbase : attributeBase (.Name x np) "pop" X.env (eval (.Name x np) X.env) = eval (.Name x np) X.env := by rfl) (hline : (apos.endLine == cpos.line) = true := by rfl)
    (hj : X.N[j]? = some y := by rfl) (hx : Loc X.env.scope y := by first | exact Or.inl rfl | exact Or.inr rfl) (hs : swapsWith (.Call (.Attribute (.Name x np) "pop" apos) [] [] cpos) (some (.Name y py)) pos.line X.env = pure false := by rfl)
    (hf : X.fn y = true ∨ X.env.scope.names.lookup y = some .local := by first | exact .inl rfl | exact .inr rfl) :
    MS X (.Assign [.Name y py] (.Call (.Attribute (.Name x np) "pop" apos) [] [] cpos) pos) (tAsg (tBM0 X.K "list" rPop (tVar i)) (gName j)) (wPopSet i j) :=
  ⟨ps_set hN hj hx (pe_bm0 PySem.F.plainAttrs_list PySem.F.slot_list_pop PySem.F.type_list_pop mt_pop (pv i hi hv hd hcd) hbase hline) hs hf, so_popSet⟩
/-- x.pop(k), its item dropped or set to a name -/
def popAtW (ρ : Rh) (i : Nat) (z : Int) (Ψ : Rh → D → Prop) : Prop := match ρ[i]? with
  | some (.mu (.l ds)) => (-(2 ^ 63) ≤ z ∧ z < 2 ^ 63) ∧ (match seqIndex? z ds.length with
    | some k => (match ds[k]? with
      | some d => Ψ (ρ.set i (.mu (.l (ds.eraseIdx k)))) d
      | none => False)
    | none => False)
  | _ => False
def wPopAt (i : Nat) (wk : WE) : WS := fun ρ P => (∃ ds, ρ[i]? = some (.mu (.l ds))) ∧ wk ρ fun q => match q with
  | .d (.int z) => popAtW ρ i z fun ρ' _ => P.nx ρ'
  | _ => False
theorem so_popAt {K : PySem.W.Frag} {i : Nat} (hk : SoE K tk wk) : SoS K (tDrop (tBM K "list" rPopAt (tVar i) (tCons tk tNil))) (wPopAt i wk) := fun EX G H σ ρ P R f D E => by
  obtain ⟨⟨ds, e⟩, f⟩ := f
  obtain ⟨a, es, hg, vs, hH, dd⟩ := R.own e
  refine ⟨.ref a, es, .inl ⟨rfl, vs, .inl (.inl hH)⟩, hk EX G H σ ρ _ R f _ fun u G1 H1 r S ru f1 => ?_⟩
  have R1 := R.step S
  split at f1
  · rename_i z
    unfold popAtW at f1
    rw [e] at f1
    simp only at f1
    obtain ⟨⟨z1, z2⟩, f1⟩ := f1
    split at f1
    · rename_i n hn
      split at f1
      · rename_i d hd
        obtain ⟨a', es', hg', vs', hH', dd'⟩ := R1.own e
        rw [es] at es'
        cases es'
        obtain ⟨v, e1, dv⟩ := dpGet dd' hd
        refine ⟨a, vs', z, n, v, rfl, by rw [rwInt ru], hH', z1, z2, by rw [dpLen dd']; exact hn, e1, ?_⟩
        obtain ⟨R2, S2, o2⟩ := R1.mut1 (m' := .l (ds.eraseIdx n)) (o := .lst (vs'.eraseIdx n)) e es (fun b hb => .inl (ownsl_in hb)) ⟨_, upd_same, dpErase n dd'⟩
        exact (E.step R.toGd S).nx EX G1 _ σ _ S2 R2 o2 f1
      · exact f1.elim
    · exact f1.elim
  · exact f1.elim
theorem ms_popAt (i : Nat) (hk : ME X k tk wk) (hN : X.N[i]? = some x := by rfl) (hv : Vis X.env.scope x := by first | exact Or.inl rfl | exact Or.inr (Or.inl rfl) | exact Or.inr (Or.inr rfl)) (hd : (x == ("__debug__" : Str)) = false := by decide)
    (hcd : (x == ("__classdict__" : Str)) = false := by decide) (hs : swapsWith (.Call (.Attribute (.Name x np) "pop" apos) [k] [] cpos) none pos.line X.env = pure false := by rfl)
    (hbase : attributeBase (.Name x np) "pop" X.env (eval (.Name x np) X.env) = eval (.Name x np) X.env := by rfl)
    (hfew : ((backTo cpos (starEach [k] X.env)).all (fun x => !x.1) && (backToKw cpos (keywordEach [] X.env)).all (fun x => x.1.isSome) && decide (([k] : List Expr).length + ([] : List Keyword).length + (if ([] : List Keyword).isEmpty then 0 else 1) < 30)) = true := by rfl)
    (hline : (apos.endLine == cpos.line) = true := by rfl) (hst : starEach [k] X.env = (false, eval k X.env) :: starEach [] X.env := by rfl) (hplain : (backTo cpos (starEach [] X.env)).any (·.1) = false := by rfl) :
    MS X (.Expr (.Call (.Attribute (.Name x np) "pop" apos) [k] [] cpos) pos) (tDrop (tBM X.K "list" rPopAt (tVar i) (tCons tk tNil))) (wPopAt i wk) :=
  ⟨ps_expr (pe_bm PySem.F.plainAttrs_list PySem.F.slot_list_pop PySem.F.type_list_pop mt_popAt (pv i hN hv hd hcd) (pa_cons hk.pe pa_nil hst) hbase hfew hline hst hplain) hs, so_popAt hk.so⟩
def wPopAtSet (i j : Nat) (wk : WE) : WS := fun ρ P => (∃ ds, ρ[i]? = some (.mu (.l ds))) ∧ wk ρ fun q => match q with
  | .d (.int z) => popAtW ρ i z fun ρ' d => P.nx (ρ'.set j (.sh (.d d)))
  | _ => False
theorem so_popAtSet {K : PySem.W.Frag} {i j : Nat} (hk : SoE K tk wk) : SoS K (tAsg (tBM K "list" rPopAt (tVar i) (tCons tk tNil)) (gName j)) (wPopAtSet i j wk) := fun EX G H σ ρ P R f D E => by
  obtain ⟨⟨ds, e⟩, f⟩ := f
  obtain ⟨a, es, hg, vs, hH, dd⟩ := R.own e
  refine ⟨.ref a, es, .inl ⟨rfl, vs, .inl (.inl hH)⟩, hk EX G H σ ρ _ R f _ fun u G1 H1 r S ru f1 => ?_⟩
  have R1 := R.step S
  split at f1
  · rename_i z
    unfold popAtW at f1
    rw [e] at f1
    simp only at f1
    obtain ⟨⟨z1, z2⟩, f1⟩ := f1
    split at f1
    · rename_i n hn
      split at f1
      · rename_i d hd
        obtain ⟨a', es', hg', vs', hH', dd'⟩ := R1.own e
        rw [es] at es'
        cases es'
        obtain ⟨v, e1, dv⟩ := dpGet dd' hd
        refine ⟨a, vs', z, n, v, rfl, by rw [rwInt ru], hH', z1, z2, by rw [dpLen dd']; exact hn, e1, ?_⟩
        obtain ⟨R2, S2, o2⟩ := R1.mut1 (m' := .l (ds.eraseIdx n)) (o := .lst (vs'.eraseIdx n)) e es (fun b hb => .inl (ownsl_in hb)) ⟨_, upd_same, dpErase n dd'⟩
        exact (E.step R.toGd S).nx EX G1 _ _ _ S2 (R2.set j (r := .d d) dv) (fun b q => o2 b (own_set q)) f1
      · exact f1.elim
    · exact f1.elim
  · exact f1.elim
theorem ms_popAtSet (i j : Nat) {py : Pos} (hNd : X.N.Nodup) (hk : ME X k tk wk) (hN : X.N[i]? = some x := by rfl) (hv : Vis X.env.scope x := by first | exact Or.inl rfl | exact Or.inr (Or.inl rfl) | exact Or.inr (Or.inr rfl)) (hd : (x == ("__debug__" : Str)) = false := by decide)
    (hcd : (x == ("__classdict__" : Str)) = false := by decide) 
    (hbase : attributeBase (.Name x np) "pop" X.env (eval (.Name x np) X.env) = eval (.Name x np) X.env := by rfl)
    (hfew : ((backTo cpos (starEach [k] X.env)).all (fun x => !x.1) && (backToKw cpos (keywordEach [] X.env)).all (fun x => x.1.isSome) && decide (([k] : List Expr).length + ([] : List Keyword).length + (if ([] : List Keyword).isEmpty then 0 else 1) < 30)) = true := by rfl)
    (hline : (apos.endLine == cpos.line) = true := by rfl) (hst : starEach [k] X.env = (false, eval k X.env) :: starEach [] X.env := by rfl) (hplain : (backTo cpos (starEach [] X.env)).any (·.1) = false := by rfl)
    (hj : X.N[j]? = some y := by rfl) (hx : Loc X.env.scope y := by first | exact Or.inl rfl | exact Or.inr rfl) (hs : swapsWith (.Call (.Attribute (.Name x np) "pop" apos) [k] [] cpos) (some (.Name y py)) pos.line X.env = pure false := by rfl)
    (hf : X.fn y = true ∨ X.env.scope.names.lookup y = some .local := by first | exact .inl rfl | exact .inr rfl) :
    MS X (.Assign [.Name y py] (.Call (.Attribute (.Name x np) "pop" apos) [k] [] cpos) pos) (tAsg (tBM X.K "list" rPopAt (tVar i) (tCons tk tNil)) (gName j)) (wPopAtSet i j wk) :=
  ⟨ps_set hNd hj hx (pe_bm PySem.F.plainAttrs_list PySem.F.slot_list_pop PySem.F.type_list_pop mt_popAt (pv i hN hv hd hcd) (pa_cons hk.pe pa_nil hst) hbase hfew hline hst hplain) hs hf, so_popAtSet hk.so⟩
/-- x.extend(a new list) -/
def wExt (i : Nat) (wd : WD) : WS := fun ρ P => match ρ[i]? with
  | some (.mu (.l ds)) => wd ρ fun es => ds.length + es.length ≤ 1000000 ∧ P.nx (ρ.set i (.mu (.l (ds ++ es))))
  | _ => False
theorem so_ext {K : PySem.W.Frag} {i : Nat} {wd : WD} (h : SoL K te wd) : SoS K (tDrop (tBM K "list" rExtend (tVar i) (tCons te tNil))) (wExt i wd) := fun EX G H σ ρ P R f D E => by
  unfold wExt at f
  split at f
  · rename_i ds e
    obtain ⟨a, es, hg, vs, hH, dd⟩ := R.own e
    refine ⟨.ref a, es, .inl ⟨rfl, vs, .inl (.inl hH)⟩, h EX G H σ ρ _ R f _ fun b us G1 H1 es1 S hb gb bb h1 de f1 => ?_⟩
    have R1 := R.step S
    obtain ⟨a', es', hg', vs', hH', dd'⟩ := R1.own e
    rw [es] at es'
    cases es'
    refine ⟨a, b, vs', us, rfl, rfl, hH', h1, by rw [dpLen dd', dpLen de]; exact mil_le f1.1, ?_⟩
    obtain ⟨R2, S2, o2⟩ := R1.mut1 (m' := .l (ds ++ es1)) (o := .lst (vs' ++ us)) e es (fun b hb => .inl (ownsl_in hb)) ⟨_, upd_same, dpApp dd' de⟩
    exact (E.step R.toGd S).nx EX G1 _ σ _ S2 R2 o2 f1.2
  · exact f.elim
theorem ms_ext (i : Nat) {wd : WD} (he : ML X e te wd) (hN : X.N[i]? = some x := by rfl) (hv : Vis X.env.scope x := by first | exact Or.inl rfl | exact Or.inr (Or.inl rfl) | exact Or.inr (Or.inr rfl)) (hd : (x == ("__debug__" : Str)) = false := by decide)
    (hcd : (x == ("__classdict__" : Str)) = false := by decide) (hs : swapsWith (.Call (.Attribute (.Name x np) "extend" apos) [e] [] cpos) none pos.line X.env = pure false := by rfl)
    (hbase : attributeBase (.Name x np) "extend" X.env (eval (.Name x np) X.env) = eval (.Name x np) X.env := by rfl)
    (hfew : ((backTo cpos (starEach [e] X.env)).all (fun x => !x.1) && (backToKw cpos (keywordEach [] X.env)).all (fun x => x.1.isSome) && decide (([e] : List Expr).length + ([] : List Keyword).length + (if ([] : List Keyword).isEmpty then 0 else 1) < 30)) = true := by rfl)
    (hline : (apos.endLine == cpos.line) = true := by rfl) (hst : starEach [e] X.env = (false, eval e X.env) :: starEach [] X.env := by rfl) (hplain : (backTo cpos (starEach [] X.env)).any (·.1) = false := by rfl) :
    MS X (.Expr (.Call (.Attribute (.Name x np) "extend" apos) [e] [] cpos) pos) (tDrop (tBM X.K "list" rExtend (tVar i) (tCons te tNil))) (wExt i wd) :=
  ⟨ps_expr (pe_bm PySem.F.plainAttrs_list PySem.F.slot_list_extend PySem.F.type_list_extend mt_extend (pv i hN hv hd hcd) (pa_cons he.pe pa_nil hst) hbase hfew hline hst hplain) hs, so_ext he.so⟩
/-- x[k1], x[k2] = a, b of an own list -/
def wSet2 (i : Nat) (wA : WA) (wk1 wk2 : WE) : WS := fun ρ P => (∃ ds, ρ[i]? = some (.mu (.l ds))) ∧ wA ρ fun ws => match ws with
  | [.d u, .d v] => wk1 ρ fun q1 => (match q1 with
    | .d (.int z1) => (match ρ[i]? with
      | some (.mu (.l ds)) => (match ixN ds.length z1 with
        | some j1 => wk2 (ρ.set i (.mu (.l (ds.set j1 u)))) fun q2 => (match q2 with
          | .d (.int z2) => (match ixN ds.length z2 with
            | some j2 => P.nx (ρ.set i (.mu (.l ((ds.set j1 u).set j2 v))))
            | none => False)
          | _ => False)
        | none => False)
      | _ => False)
    | _ => False)
  | _ => False
theorem so_set2 {K : PySem.W.Frag} {i : Nat} (hA : SoA K tA wA) (h1 : SoE K tk1 wk1) (h2 : SoE K tk2 wk2) : SoS K (tAsg (tTup tA) (gTup K 2 (gCons (gSub (tVar i) tk1 rSetL) (gCons (gSub (tVar i) tk2 rSetL) gNil)))) (wSet2 i wA wk1 wk2) := fun EX G H σ ρ P R f D E => by
  obtain ⟨⟨ds, e⟩, f⟩ := f
  have hil : i < ρ.length := (List.getElem?_eq_some_iff.mp e).1
  obtain ⟨a, es, hg, vs, hH, dd⟩ := R.own e
  refine hA EX G H σ ρ _ R f _ fun ws G1 H1 rs S rw f1 => ?_
  split at f1
  · rename_i u v
    obtain ⟨x1, x2, rfl, r1, r2⟩ := rw2 rw
    have R1 := R.step S
    refine ⟨le_line (show 2 ≤ 1000 by decide), fun p hp => ⟨p, [x1, x2], rfl, .inl (.inl upd_same), rfl, x1, [x2], rfl, ?_⟩⟩
    have S2 := R1.toGd.newOut (o := .tup [x1, x2]) hp
    have R2 := R1.step S2
    refine ⟨.ref a, es, h1 EX G1 _ σ ρ _ R2 f1 _ fun q1 G3 H3 c1 S3 rq1 f3 => ?_⟩
    have R3 := R2.step S3
    split at f3
    · rename_i z1
      rw [e] at f3
      simp only at f3
      split at f3
      · rename_i j1 hj1
        obtain ⟨a', es', hg', vs', hH', dd'⟩ := R3.own e
        rw [es] at es'
        cases es'
        refine ⟨a, vs', z1, j1, rfl, rwInt rq1, hH', by rw [dpLen dd']; exact hj1, x2, [], rfl, .ref a, es, ?_⟩
        have dx1 : Dd K G3 x1 u := rwMono (EX := EX) (EX' := EX) (r := .d u) (S2.trans S3).gg (fun _ _ h => h) r1
        obtain ⟨R4, S4, o4⟩ := R3.mut1 (m' := .l (ds.set j1 u)) (o := .lst (vs'.set j1 x1)) e es (fun b hb => .inl (ownsl_in hb)) ⟨_, upd_same, dpSet dx1 j1 dd'⟩
        refine h2 EX G3 _ σ _ _ R4 f3 _ fun q2 G5 H5 c2 S5 rq2 f5 => ?_
        have R5 := R4.step S5
        split at f5
        · rename_i z2
          split at f5
          · rename_i j2 hj2
            have e4 : (ρ.set i (.mu (.l (ds.set j1 u))))[i]? = some (.mu (.l (ds.set j1 u))) := List.getElem?_set_self hil
            obtain ⟨a', es', hg', vs5, hH5, dd5⟩ := R5.own e4
            rw [es] at es'
            cases es'
            refine ⟨a, vs5, z2, j2, rfl, rwInt rq2, hH5, by rw [dpLen dd5, List.length_set]; exact hj2, rfl, ?_⟩
            have dx2 : Dd K G5 x2 v := rwMono (EX := EX) (EX' := EX) (r := .d v) ((S2.trans S3).gg.trans S5.gg) (fun _ _ h => h) r2
            obtain ⟨R6, S6, o6⟩ := R5.mut1 (m' := .l ((ds.set j1 u).set j2 v)) (o := .lst (vs5.set j2 x2)) e4 es (fun b hb => .inl (ownsl_in hb)) ⟨_, upd_same, dpSet dx2 j2 dd5⟩
            rw [List.set_set] at R6 o6
            have E3 := E.step R.toGd ((S.trans S2).trans S3)
            have E4 := E3.from S4 R4.toGd o4
            exact (E4.step R4.toGd S5).nx EX G5 _ σ _ S6 R6 o6 f5
          · exact f5.elim
        · exact f5.elim
      · exact f3.elim
    · exact f3.elim
  · exact f1.elim
theorem ms_set2 (i : Nat) {kt n2 : Nat} (hA : MA X [a, b] tA wA) (h1 : ME X k1 tk1 wk1) (h2 : ME X k2 tk2 wk2) (hN : X.N[i]? = some x := by rfl) (hv : Vis X.env.scope x := by first | exact Or.inl rfl | exact Or.inr (Or.inl rfl) | exact Or.inr (Or.inr rfl)) (hd : (x == ("__debug__" : Str)) = false := by decide)
    (hcd : (x == ("__classdict__" : Str)) = false := by decide) (hc : X.calm = true := by rfl)
    (ha1 : ∀ v, assign (.Subscript (.Name x np) k1 t1) X.env v = (do
      let ov ← holding [v] (eval (.Name x np) X.env)
      let iv ← holding [v, ov] (eval k1 X.env)
      standAt t1
      holding [v, ov, iv] (setItem ov iv v)
      release [v, ov, iv] []) := by intro _; rfl)
    (ha2 : ∀ v, assign (.Subscript (.Name x np2) k2 t2) X.env v = (do
      let ov ← holding [v] (eval (.Name x np2) X.env)
      let iv ← holding [v, ov] (eval k2 X.env)
      standAt t2
      holding [v, ov, iv] (setItem ov iv v)
      release [v, ov, iv] []) := by intro _; rfl)
    (e1 : (assignEach [.Subscript (.Name x np) k1 t1, .Subscript (.Name x np2) k2 t2] X.env).map (·.2) = assign (.Subscript (.Name x np) k1 t1) X.env :: (assignEach [.Subscript (.Name x np2) k2 t2] X.env).map (·.2) := by rfl)
    (e2 : (assignEach [.Subscript (.Name x np2) k2 t2] X.env).map (·.2) = assign (.Subscript (.Name x np2) k2 t2) X.env :: (assignEach [] X.env).map (·.2) := by rfl)
    (hn : (assignEach [.Subscript (.Name x np) k1 t1, .Subscript (.Name x np2) k2 t2] X.env).length = 2 := by rfl) (hst : (assignEach [.Subscript (.Name x np) k1 t1, .Subscript (.Name x np2) k2 t2] X.env).findIdx? (·.1) = none := by rfl)
    (hs : swapsWithSole [.Tuple [.Subscript (.Name x np) k1 t1, .Subscript (.Name x np2) k2 t2] kt pt] (.Tuple [a, b] n2 pt2) pos.line X.env = pure false := by rfl) (hw : swappedStores [.Tuple [.Subscript (.Name x np) k1 t1, .Subscript (.Name x np2) k2 t2] kt pt] (.Tuple [a, b] n2 pt2) X.env = pure none := by rfl)
    (h3 : (assignEach [.Tuple [.Subscript (.Name x np) k1 t1, .Subscript (.Name x np2) k2 t2] kt pt] X.env).map (·.2) = [assign (.Tuple [.Subscript (.Name x np) k1 t1, .Subscript (.Name x np2) k2 t2] kt pt) X.env] := by rfl) :
    MS X (.Assign [.Tuple [.Subscript (.Name x np) k1 t1, .Subscript (.Name x np2) k2 t2] kt pt] (.Tuple [a, b] n2 pt2) pos) (tAsg (tTup tA) (gTup X.K 2 (gCons (gSub (tVar i) tk1 rSetL) (gCons (gSub (tVar i) tk2 rSetL) gNil)))) (wSet2 i wA wk1 wk2) :=
  ⟨ps_asg (pe_tup hA.pa) (pg_tup hc (pgs_cons (pg_sub (pv i hN hv hd hcd) h1.pe set_list ha1) (pgs_cons (pg_sub (pv i hN hv hd hcd) h2.pe set_list ha2) pgs_nil e2) e1) hn hst) hs hw h3, so_set2 hA.so h1.so h2.so⟩
end
end Pd
end

section
set_option Elab.async false
set_option linter.all false
set_option maxRecDepth 100000
set_option autoImplicit false
/-! Pd, slices and indices of data, evaluated -/
namespace Pd
open PySem PySem.Spec PyProof.Rows L2
theorem sIx_pos {n d : Nat} {i : Int} (h : 0 ≤ i) : HT.sIx n d (some i) = min i.toNat n := by
  obtain ⟨k, rfl⟩ := Int.eq_ofNat_of_zero_le h
  exact HT.sIx_nat n d k
theorem take_min {α : Type} (xs : List α) (n : Nat) : xs.take (min n xs.length) = xs.take n := by
  rcases Nat.le_total n xs.length with h | h
  · rw [Nat.min_eq_left h]
  · rw [Nat.min_eq_right h, List.take_length, List.take_of_length_le h]
theorem drop_min {α : Type} (xs : List α) (n : Nat) : xs.drop (min n xs.length) = xs.drop n := by
  rcases Nat.le_total n xs.length with h | h
  · rw [Nat.min_eq_left h]
  · rw [Nat.min_eq_right h, List.drop_length, List.drop_of_length_le h]
theorem cutD_to {xs : List D} {i : Int} (h : 0 ≤ i) : cutD xs none (some i) = xs.take i.toNat := by
  unfold cutD
  rw [HT.sIx_none, sIx_pos h, List.drop_zero, Nat.sub_zero, take_min]
theorem cutD_from {xs : List D} {i : Int} (h : 0 ≤ i) : cutD xs (some i) none = xs.drop i.toNat := by
  unfold cutD
  rw [HT.sIx_none, sIx_pos h, ← List.length_drop, List.take_length, drop_min]
theorem cutD_mid {xs : List D} {i j : Int} (h : 0 ≤ i) (h' : 0 ≤ j) : cutD xs (some i) (some j) = (xs.take j.toNat).drop i.toNat := by
  unfold cutD
  rw [sIx_pos h, sIx_pos h', ← List.drop_take, take_min]
  rcases Nat.le_total i.toNat xs.length with z | z
  · rw [Nat.min_eq_left z]
  · rw [Nat.min_eq_right z, List.drop_of_length_le (by rw [List.length_take]; omega), List.drop_of_length_le (by rw [List.length_take]; omega)]
theorem cutD_all {xs : List D} : cutD xs none none = xs := by
  unfold cutD
  rw [HT.sIx_none, HT.sIx_none, List.drop_zero, Nat.sub_zero, List.take_length]
theorem cutD_neg {xs : List D} {k : Nat} (h : 0 < k) : cutD xs none (some (-(k : Int))) = xs.take (xs.length - k) := by
  unfold cutD
  rw [HT.sIx_none, List.drop_zero, Nat.sub_zero]
  show xs.take (if (-(k : Int)) < 0 then ((-(k : Int)) + (xs.length : Int)).toNat else _) = _
  rw [if_pos (by omega)]
  congr 1
  omega
theorem cutD_negd {xs : List D} {k : Nat} (h : 0 < k) : cutD xs (some (-(k : Int))) none = xs.drop (xs.length - k) := by
  unfold cutD
  rw [HT.sIx_none]
  have e : HT.sIx xs.length 0 (some (-(k : Int))) = xs.length - k := by
    show (if (-(k : Int)) < 0 then ((-(k : Int)) + (xs.length : Int)).toNat else _) = _
    rw [if_pos (by omega)]
    omega
  rw [e, ← List.length_drop, List.take_length]
theorem atI_pos {α : Type} {xs : List α} {i : Int} (h : 0 ≤ i) : atI xs i = xs[i.toNat]? := by
  unfold atI ixN
  rw [if_pos h]
  by_cases h1 : i < (xs.length : Int)
  · rw [if_pos h1]
    rfl
  · rw [if_neg h1]
    exact (List.getElem?_eq_none (by omega)).symm
theorem ev_ixL {ds : List D} {i : Int} {d : D} {Φ : W → Prop} (h : 0 ≤ i) (e : ds[i.toNat]? = some d) : oIx (.d (.list ds)) (.d (.int i)) Φ = Φ (.d d) := by
  unfold oIx
  simp only [atI_pos h, e]
theorem ev_ixT {ds : List D} {i : Int} {d : D} {Φ : W → Prop} (h : 0 ≤ i) (e : ds[i.toNat]? = some d) : oIx (.d (.tuple ds)) (.d (.int i)) Φ = Φ (.d d) := by
  unfold oIx
  simp only [atI_pos h, e]
theorem map_get {α β : Type} {f : α → β} {xs : List α} {i : Nat} {x : α} (h : xs[i]? = some x) : (xs.map f)[i]? = some (f x) := by
  rw [List.getElem?_map, h]
  rfl
theorem ev_i0 {d : D} {ds : List D} {Φ : W → Prop} : oIx (.d (.tuple (d :: ds))) (.d (.int 0)) Φ = Φ (.d d) := ev_ixT (by decide) rfl
theorem ev_i1 {d e : D} {ds : List D} {Φ : W → Prop} : oIx (.d (.tuple (d :: e :: ds))) (.d (.int 1)) Φ = Φ (.d e) := ev_ixT (by decide) rfl
theorem ev_i2 {d e f : D} {ds : List D} {Φ : W → Prop} : oIx (.d (.tuple (d :: e :: f :: ds))) (.d (.int 2)) Φ = Φ (.d f) := ev_ixT (by decide) rfl
theorem ev_l0 {d : D} {ds : List D} {Φ : W → Prop} : oIx (.d (.list (d :: ds))) (.d (.int 0)) Φ = Φ (.d d) := ev_ixL (by decide) rfl
theorem ev_l1 {d e : D} {ds : List D} {Φ : W → Prop} : oIx (.d (.list (d :: e :: ds))) (.d (.int 1)) Φ = Φ (.d e) := ev_ixL (by decide) rfl
theorem ev_l2 {d e f : D} {ds : List D} {Φ : W → Prop} : oIx (.d (.list (d :: e :: f :: ds))) (.d (.int 2)) Φ = Φ (.d f) := ev_ixL (by decide) rfl
end Pd
end

section
set_option Elab.async false
set_option linter.all false
set_option maxRecDepth 100000
set_option autoImplicit false
set_option maxHeartbeats 4000000
namespace Pd
open PySem PySem.Spec PyProof.Rows L2
def n_grouped : List Str := ["pairs", "found", "key", "value"]
def w_grouped : WS :=
    (wSeq2 (wSetN 1 (fun _ Φ => Φ (.kl [])))
    (wSeq2 (wFor (wSeq (wVar 0)) (wgTup 2 (wgCons (wgName 2) (wgCons (wgName 3) wgNil))) (wSdApp 1 (wVar 2) (wVar 3)))
    (wRet (wCB oTuple (wCons (wFz (wLc (wSeq (wFz (wLendL 1 (wCL oSortS (wCons (wVar 1) wNil))))) (wgName 2) wYes (wTup (wCons (wVar 2) (wCons (wLend 1 (wCB oTuple (wCons (wOp oDGet (wVar 1) (wVar 2)) wNil))) wNil))) [2])) wNil)))))
def n_projections : List Str := ["row", "walker", "door"]
def w_projections (F_grouped : FW) : WS :=
    (wRet (wTup (wCons (wCallD F_grouped (wCons (wVar 0) wNil)) (wCons (wCallD F_grouped (wCons (wFz (wLc (wSeq (wVar 0)) (wgTup 2 (wgCons (wgName 1) (wgCons (wgName 2) wgNil))) wYes (wTup (wCons (wVar 2) (wCons (wVar 1) wNil))) [1, 2])) wNil)) wNil))))
def n_same_history : List Str := ["one", "other"]
def w_same_history (F_projections : FW) : WS :=
    (wRet (wOp (oEq false) (wCallD F_projections (wCons (wVar 0) wNil)) (wCallD F_projections (wCons (wVar 1) wNil))))
def n_law_box : List Str := ["script", "k", "cell", "seed"]
def w_law_box : WS :=
    (wSeq2 (wSet 2 (wOp oAdd (wOp oMul (wC (.d (.int 6353))) (wVar 1)) (wC (.d (.int 37)))))
    (wSeq2 (wIfS (wB (wOp (oLt (fun i j => decide (i < j)) ltL) (wVar 1) (wCB oLen (wCons (wVar 0) wNil)))) (wSet 2 (wOp oIx (wVar 0) (wVar 1))) (wIfS (wB (wOp (oLt (fun i j => decide (j < i)) gtL) (wCB oLen (wCons (wVar 0) wNil)) (wC (.d (.int 0))))) (wSet 2 (wOp oAdd (wVar 2) (wOp oMul (wOp (oI (fun _ j => 0 < j) fun i j => i % j) (wOp oIx (wVar 0) (wOp (oI (fun _ j => 0 < j) fun i j => i % j) (wVar 1) (wCB oLen (wCons (wVar 0) wNil)))) (wC (.d (.int 2147483629)))) (wC (.d (.int 69481)))))) wNext))
    (wSeq2 (wSet 3 (wOp oAdd (wOp (oI (fun _ j => 0 < j) fun i j => i % j) (wOp oAdd (wOp oAdd (wOp oMul (wOp (oI (fun _ j => 0 < j) fun i j => i % j) (wVar 2) (wC (.d (.int 2147483629)))) (wC (.d (.int 48271)))) (wOp oMul (wC (.d (.int 40709))) (wVar 1))) (wC (.d (.int 5)))) (wC (.d (.int 2147483629)))) (wC (.d (.int 1)))))
    (wRetB (wLst (wCons (wOp oIx (wFz (wLst (wCons (wC (.d (.int 0))) (wCons (wVar 2) wNil)))) (wCB oInt (wCons (wOp oGe (wVar 2) (wOp (oI CPow fun i j => i ^ j.toNat) (wC (.d (.int 10))) (wC (.d (.int 18))))) wNil))) (wCons (wVar 3) (wCons (wC (.d (.int 0))) wNil))))))))
def n_law_take : List Str := ["box", "many", "digit", "one"]
def w_law_take : WS :=
    (wSeq2 (wIfS (wB (wOp (oLt (fun i j => decide (j < i)) gtL) (wOp oIx (wVar 0) (wC (.d (.int 0)))) (wC (.d (.int 0))))) (wSeq2 (wSet 2 (wOp (oI (fun _ j => 0 < j) fun i j => i % j) (wOp oIx (wVar 0) (wC (.d (.int 0)))) (wVar 1)))
    (wSeq2 (wSetBx 0 (wOp (oI CDiv fun i j => i / j) (wOp oIx (wVar 0) (wC (.d (.int 0)))) (wVar 1)) (wC (.d (.int 0))))
    (wRet (wVar 2)))) wNext)
    (wSeq2 (wSetBx 0 (wOp oAdd (wOp oIx (wVar 0) (wC (.d (.int 2)))) (wC (.d (.int 1)))) (wC (.d (.int 2))))
    (wSeq2 (wSet 3 (wOp (oI (fun _ j => 0 < j) fun i j => i % j) (wOp oMul (wOp oAdd (wOp oIx (wVar 0) (wC (.d (.int 1)))) (wOp oMul (wC (.d (.int 104723))) (wOp oIx (wVar 0) (wC (.d (.int 2)))))) (wC (.d (.int 69623)))) (wC (.d (.int 2147483647)))))
    (wSeq2 (wSetBx 0 (wOp oAdd (wOp (oI (fun _ j => 0 < j) fun i j => i % j) (wOp oAdd (wOp oMul (wVar 3) (wC (.d (.int 48271)))) (wC (.d (.int 30109)))) (wC (.d (.int 2147483629)))) (wC (.d (.int 1)))) (wC (.d (.int 1))))
    (wRet (wOp (oI (fun _ j => 0 < j) fun i j => i % j) (wOp (oI CDiv fun i j => i / j) (wOp oAdd (wOp oMul (wVar 3) (wC (.d (.int 2147483647)))) (wOp oIx (wVar 0) (wC (.d (.int 1))))) (wC (.d (.int 8191)))) (wVar 1)))))))
def n_law_names : List Str := ["box", "many", "letters", "found", "words", "stem", "at", "first", "step", "k", "letter", "spot", "word"]
def w_law_names (F_law_take : FW) : WS :=
    (wSeq2 (wPar [2, 3] (wConsO (wC (.d (.str "abcdefghijklmnopqrstuvwxyz"))) (wConsN (wL2N (wLst wNil)) wNilO)))
    (wSeq2 (wSet 4 (wFz (wLst (wCons (wC (.d (.str "door"))) (wCons (wC (.d (.str "faces"))) (wCons (wC (.d (.str "walker"))) (wCons (wC (.d (.str "pass"))) (wCons (wC (.d (.str "turn"))) (wCons (wC (.d (.str "put"))) (wCons (wC (.d (.str "remove"))) (wCons (wC (.d (.str "rooms"))) wNil)))))))))))
    (wSeq2 (wSet 5 (wJoin "" (wFz (wLc (wRange1 (wCons (wCallD F_law_take (wCons (wVar 0) (wCons (wC (.d (.int 5))) wNil))) wNil)) (wgName 9) wYes (wOp oIx (wVar 2) (wCallD F_law_take (wCons (wVar 0) (wCons (wC (.d (.int 26))) wNil)))) [9]))))
    (wSeq2 (wSet 5 (wOp oIx (wFz (wLst (wCons (wVar 5) (wCons (wC (.d (.str "floor"))) wNil)))) (wCB oInt (wCons (wOp (oEq false) (wCallD F_law_take (wCons (wVar 0) (wCons (wC (.d (.int 4))) wNil))) (wC (.d (.int 0)))) wNil))))
    (wSeq2 (wPar [6, 7, 8] (wConsO (wCallD F_law_take (wCons (wVar 0) (wCons (wOp oAdd (wCB oLen (wCons (wVar 5) wNil)) (wC (.d (.int 1)))) wNil))) (wConsO (wCallD F_law_take (wCons (wVar 0) (wCons (wC (.d (.int 26))) wNil))) (wConsO (wOp oIx (wFz (wLst (wCons (wC (.d (.int 1))) (wCons (wC (.d (.int 7))) (wCons (wC (.d (.int 11))) (wCons (wC (.d (.int 25))) wNil)))))) (wCallD F_law_take (wCons (wVar 0) (wCons (wC (.d (.int 4))) wNil)))) wNilO))))
    (wSeq2 (wFor (wRange1 (wCons (wVar 1) wNil)) (wgName 9) (wSeq2 (wSet 10 (wOp oIx (wVar 2) (wOp (oI (fun _ j => 0 < j) fun i j => i % j) (wOp oAdd (wVar 7) (wOp oMul (wVar 8) (wVar 9))) (wC (.d (.int 26))))))
    (wApp 3 (wOp oAdd (wOp oAdd (wSl (wVar 5) wNoPart (wPart (wVar 6))) (wVar 10)) (wSl (wVar 5) (wPart (wVar 6)) wNoPart)))))
    (wSeq2 (wPar [11, 12] (wConsO (wCallD F_law_take (wCons (wVar 0) (wCons (wVar 1) wNil))) (wConsO (wOp oIx (wVar 4) (wCallD F_law_take (wCons (wVar 0) (wCons (wC (.d (.int 8))) wNil)))) wNilO)))
    (wSeq2 (wIfS (wAnd (wB (wOp (oEq false) (wCallD F_law_take (wCons (wVar 0) (wCons (wC (.d (.int 4))) wNil))) (wC (.d (.int 0))))) (wLendT 3 (wB (wOp (oIn true) (wVar 12) (wVar 3))))) (wSetIx 3 (wVar 12) (wVar 11)) wNext)
    (wFrz 3 (wRet (wVar 3)))))))))))
def n_law_row : List Str := ["box", "walkers", "doors", "many", "names", "titles", "row", "k", "deed"]
def w_law_row (F_law_names : FW) (F_law_take : FW) : WS :=
    (wSeq2 (wPar [4, 5] (wConsO (wCallD F_law_names (wCons (wVar 0) (wCons (wVar 1) wNil))) (wConsO (wCallD F_law_names (wCons (wVar 0) (wCons (wVar 2) wNil))) wNilO)))
    (wSeq2 (wSetO 6 (wLst wNil))
    (wSeq2 (wFor (wRange1 (wCons (wCallD F_law_take (wCons (wVar 0) (wCons (wOp oAdd (wVar 3) (wC (.d (.int 1)))) wNil))) wNil)) (wgName 7) (wSeq2 (wSet 8 (wTup (wCons (wOp oIx (wVar 4) (wCallD F_law_take (wCons (wVar 0) (wCons (wVar 1) wNil)))) (wCons (wOp oIx (wVar 5) (wCallD F_law_take (wCons (wVar 0) (wCons (wVar 2) wNil)))) wNil))))
    (wApp 6 (wIf (wAnd (wLendT 6 (wB (wOp (oEq true) (wVar 6) (wFz (wLst wNil))))) (wB (wOp (oEq false) (wCallD F_law_take (wCons (wVar 0) (wCons (wC (.d (.int 6))) wNil))) (wC (.d (.int 0)))))) (wIxOx 6 (wNeg (wC (.d (.int 1))))) (wVar 8)))))
    (wFrz 6 (wRet (wVar 6))))))
def n_law_closure : List Str := ["row", "found", "left", "one", "at", "other"]
def w_law_closure : WS :=
    (wSeq2 (wPar [1, 2] (wConsN (wL2N (wLst (wCons (wVar 0) wNil))) (wConsN (wL2N (wLst (wCons (wVar 0) wNil))) wNilO)))
    (wSeq2 (wWhile (wLendT 2 (wB (wOp (oEq true) (wVar 2) (wFz (wLst wNil))))) (wSeq2 (wPopSet 2 3)
    (wFor (wRange1 (wCons (wOp (oI0 fun i j => i - j) (wCB oLen (wCons (wVar 3) wNil)) (wC (.d (.int 1)))) wNil)) (wgName 4) (wIfS (wAnd (wB (wOp (oEq true) (wOp oIx (wOp oIx (wVar 3) (wVar 4)) (wC (.d (.int 0)))) (wOp oIx (wOp oIx (wVar 3) (wOp oAdd (wVar 4) (wC (.d (.int 1))))) (wC (.d (.int 0)))))) (wB (wOp (oEq true) (wOp oIx (wOp oIx (wVar 3) (wVar 4)) (wC (.d (.int 1)))) (wOp oIx (wOp oIx (wVar 3) (wOp oAdd (wVar 4) (wC (.d (.int 1))))) (wC (.d (.int 1))))))) (wSeq2 (wSet 5 (wOp oAdd (wOp oAdd (wSl (wVar 3) wNoPart (wPart (wVar 4))) (wFz (wLst (wCons (wOp oIx (wVar 3) (wOp oAdd (wVar 4) (wC (.d (.int 1))))) (wCons (wOp oIx (wVar 3) (wVar 4)) wNil))))) (wSl (wVar 3) (wPart (wOp oAdd (wVar 4) (wC (.d (.int 2))))) wNoPart)))
    (wIfS (wLendT 1 (wB (wOp (oIn true) (wVar 5) (wVar 1)))) (wSeq2 (wApp 1 (wVar 5))
    (wApp 2 (wVar 5))) wNext)) wNext))))
    (wFrz 1 (wRet (wVar 1)))))
def n_law_alike : List Str := ["found", "due", "one", "other"]
def w_law_alike (F_law_alike : FW) : WS :=
    (wSeq2 (wIfS (wB (wIsi (wVar 1) [.tuple, .list])) (wSeq2 (wIfS (wOr (wB (wOp (oEq true) (wIsi (wVar 0) [.tuple]) (wIsi (wVar 1) [.tuple]))) (wB (wOp (oEq true) (wIsi (wVar 0) [.list]) (wIsi (wVar 1) [.list])))) (wRet (wC (.d (.bool false)))) wNext)
    (wRet (wAndV (wOp (oEq false) (wCB oLen (wCons (wVar 0) wNil)) (wCB oLen (wCons (wVar 1) wNil))) (wCB (oAnyAll fun bs => bs.all _root_.id) (wCons (wFz (wLc (wZip (wCons (wVar 0) (wCons (wVar 1) wNil))) (wgTup 2 (wgCons (wgName 2) (wgCons (wgName 3) wgNil))) wYes (wCallD F_law_alike (wCons (wVar 2) (wCons (wVar 3) wNil))) [2, 3])) wNil))))) wNext)
    (wSeq2 (wIfS (wOr (wB (wOp (oEq true) (wIsi (wVar 0) [.bool]) (wIsi (wVar 1) [.bool]))) (wB (wOp (oEq true) (wIsi (wVar 0) [.str]) (wIsi (wVar 1) [.str])))) (wRet (wC (.d (.bool false)))) wNext)
    (wRet (wAndV (wNotV (wIsi (wVar 0) [.tuple, .list, .dict])) (wOp (oEq false) (wVar 0) (wVar 1))))))
def n_law_crowded_row : List Str := ["box", "letters", "row", "k", "some", "side"]
def w_law_crowded_row (F_law_take : FW) : WS :=
    (wSeq2 (wPar [1, 2] (wConsO (wC (.d (.str "abcdefghijklmnopqrstuvwxyz"))) (wConsN (wL2N (wLst wNil)) wNilO)))
    (wSeq2 (wFor (wRange1 (wCons (wCallD F_law_take (wCons (wVar 0) (wCons (wC (.d (.int 61))) wNil))) wNil)) (wgName 3) (wSeq2 (wSet 4 (wFz (wLc (wRange1 (wCons (wC (.d (.int 4))) wNil)) (wgName 5) wYes (wOp oIx (wVar 1) (wCallD F_law_take (wCons (wVar 0) (wCons (wC (.d (.int 26))) wNil)))) [5])))
    (wApp 2 (wTup (wCons (wOp oAdd (wOp oIx (wVar 4) (wC (.d (.int 0)))) (wOp oIx (wVar 4) (wC (.d (.int 1))))) (wCons (wOp oAdd (wOp oIx (wVar 4) (wC (.d (.int 2)))) (wOp oIx (wVar 4) (wC (.d (.int 3))))) wNil))))))
    (wFrz 2 (wRet (wVar 2)))))
end Pd
end

section
set_option Elab.async false
set_option linter.all false
set_option maxRecDepth 100000
set_option autoImplicit false
set_option maxHeartbeats 4000000
namespace Pd
open PySem PySem.Spec PyProof.Rows L2
def F_law_take : FW := fun ws Φ => ∃ a m, ws = [.p a, .d (.int m)] ∧ 0 < m ∧ m < 1000000 ∧ ∀ r, 0 ≤ r → r < m → Φ (.d (.int r))
theorem l_law_take (ws : List W) (Φ : W → Prop) (h : F_law_take ws Φ) : ws.length = 2 := by
  obtain ⟨a, m, rfl, _⟩ := h
  rfl
theorem m_law_take (ws : List W) (Φ : W → Prop) (h : F_law_take ws Φ) : w_law_take (startR n_law_take ws) ⟨fun _ => Φ (.d .none), Φ, fun _ => False, fun _ => False⟩ := by
  obtain ⟨a, m, rfl, hm, hm2, q⟩ := h
  simp only [w_law_take, n_law_take, wSeq2, wNext, wRet, wDrop, wIfS, wSet, wSetO, wSetN, wSetC, wSetIx, wSetI, wSetBx, wSetB, wAug, wApp, wAsg, wPar, wNilO, wConsO, wConsN, wL2N, putR, noUn, wVar, wC, wNil, wCons, wTup, wLst, wFz, wOp, wB, wAnd, wOr, wNot, wAndV, wOrV, wNotV, wIf, wNeg, wCB, wCL, wCallD, wRetB, wIsi, wSl, wNoPart, wPart, wRev, wFrz, wLend, wLendT, wLendL, muW, wFor, wSeq, wRange1, wRange2, wLc, wipeR, wgName, wgTup, wgCons, wgNil, startR, wJoin, wZip, wEnum, wBrk, wCnt, wIxOx, wIxO, wPopSet, wPopAt, wPopAtSet, popAtW, wExt, wSet2, ev_addI, ev_addS, ev_addT, ev_addL, ev_mulI, ev_I, ev_I0, ev_ltI, ev_ltS, ev_ge, ev_eqI, ev_eqS, ev_eqB, ev_p0, ev_p1, ev_p2, ev_lenL, ev_lenT, ev_lenS, ev_lenQ, ev_lenK, ev_tupL, ev_tupT, ev_lisL, ev_lisT, ev_intI, ev_intB, ev_max2, ev_min2, ev_repr, ev_eqRp, ev_slL, ev_slT, ev_slS, ev_seqL, ev_seqT, ev_seqS, ev_inL, ev_inT, ev_isB, ev_dO, ev_dat0, ev_dat1, ev_dat2, ev_dat3, ev_dat4, ev_dat5, ev_dat8, List.getElem?_cons_zero, List.getElem?_cons_succ, List.set_cons_zero, List.set_cons_succ, List.map_cons, List.map_nil, List.cons_append, List.nil_append, List.append_nil, List.replicate, List.length_cons, List.length_nil, Nat.reduceAdd, Nat.reduceSub, Option.some.injEq, List.append_eq, Nat.zero_add, exists_eq', exists_eq_left', Sl.mu.injEq, Mu.l.injEq, Sl.sh.injEq, W.p.injEq, true_and, and_true, or_true, true_or, ite_true, ite_false, if_true, if_false, Bool.false_eq_true, decide_eq_true_eq]
  intro n
  split
  · intro n
    refine ⟨hm, fun n1 => ⟨⟨hm, by omega⟩, q _ (Int.emod_nonneg _ (by omega)) (Int.emod_lt_of_pos _ hm)⟩⟩
  · intro n n1 n2
    refine ⟨cmulL (by decide) (by decide), cmulR (by decide) (by decide), by decide, cmulR (by decide) (by decide), by decide, cmulR (by decide) (by decide), fun n3 => ⟨⟨by decide, by decide⟩, hm, q _ (Int.emod_nonneg _ (by omega)) (Int.emod_lt_of_pos _ hm)⟩⟩
def F_law_box : FW := fun ws Φ => ∃ s ns k, ws = [.sq s ns, .d (.int k)] ∧ 0 ≤ k ∧ k < 1000000 ∧ ∀ a, Φ (.p a)
theorem l_law_box (ws : List W) (Φ : W → Prop) (h : F_law_box ws Φ) : ws.length = 2 := by
  obtain ⟨a, ns, m, rfl, _⟩ := h
  rfl
theorem m_law_box (ws : List W) (Φ : W → Prop) (h : F_law_box ws Φ) : w_law_box (startR n_law_box ws) ⟨fun _ => Φ (.d .none), Φ, fun _ => False, fun _ => False⟩ := by
  obtain ⟨s, ns, k, rfl, h0, h1, q⟩ := h
  simp only [w_law_box, n_law_box, wSeq2, wNext, wRet, wDrop, wIfS, wSet, wSetO, wSetN, wSetC, wSetIx, wSetI, wSetBx, wSetB, wAug, wApp, wAsg, wPar, wNilO, wConsO, wConsN, wL2N, putR, noUn, wVar, wC, wNil, wCons, wTup, wLst, wFz, wOp, wB, wAnd, wOr, wNot, wAndV, wOrV, wNotV, wIf, wNeg, wCB, wCL, wCallD, wRetB, wIsi, wSl, wNoPart, wPart, wRev, wFrz, wLend, wLendT, wLendL, muW, wFor, wSeq, wRange1, wRange2, wLc, wipeR, wgName, wgTup, wgCons, wgNil, startR, wJoin, wZip, wEnum, wBrk, wCnt, wIxOx, wIxO, wPopSet, wPopAt, wPopAtSet, popAtW, wExt, wSet2, ev_addI, ev_addS, ev_addT, ev_addL, ev_mulI, ev_I, ev_I0, ev_ltI, ev_ltS, ev_ge, ev_eqI, ev_eqS, ev_eqB, ev_p0, ev_p1, ev_p2, ev_lenL, ev_lenT, ev_lenS, ev_lenQ, ev_lenK, ev_tupL, ev_tupT, ev_lisL, ev_lisT, ev_intI, ev_intB, ev_max2, ev_min2, ev_repr, ev_eqRp, ev_slL, ev_slT, ev_slS, ev_seqL, ev_seqT, ev_seqS, ev_inL, ev_inT, ev_isB, ev_dO, ev_dat0, ev_dat1, ev_dat2, ev_dat3, ev_dat4, ev_dat5, ev_dat8, List.getElem?_cons_zero, List.getElem?_cons_succ, List.set_cons_zero, List.set_cons_succ, List.map_cons, List.map_nil, List.cons_append, List.nil_append, List.append_nil, List.replicate, List.length_cons, List.length_nil, Nat.reduceAdd, Nat.reduceSub, Option.some.injEq, List.append_eq, Nat.zero_add, exists_eq', exists_eq_left', Sl.mu.injEq, Mu.l.injEq, Sl.sh.injEq, W.p.injEq, true_and, and_true, or_true, true_or, ite_true, ite_false, if_true, if_false, Bool.false_eq_true, decide_eq_true_eq]
  refine ⟨cmulL (by decide) (by decide), ?_⟩
  have p18 : CPow 10 18 := ⟨by decide, by decide, by decide⟩
  split
  · rename_i h
    refine r_ixs h0 h fun n => ?_
    simp only [wSeq2, wNext, wRet, wDrop, wIfS, wSet, wSetO, wSetN, wSetC, wSetIx, wSetI, wSetBx, wSetB, wAug, wApp, wAsg, wPar, wNilO, wConsO, wConsN, wL2N, putR, noUn, wVar, wC, wNil, wCons, wTup, wLst, wFz, wOp, wB, wAnd, wOr, wNot, wAndV, wOrV, wNotV, wIf, wNeg, wCB, wCL, wCallD, wRetB, wIsi, wSl, wNoPart, wPart, wRev, wFrz, wLend, wLendT, wLendL, muW, wFor, wSeq, wRange1, wRange2, wLc, wipeR, wgName, wgTup, wgCons, wgNil, startR, wJoin, wZip, wEnum, wBrk, wCnt, wIxOx, wIxO, wPopSet, wPopAt, wPopAtSet, popAtW, wExt, wSet2, ev_addI, ev_addS, ev_addT, ev_addL, ev_mulI, ev_I, ev_I0, ev_ltI, ev_ltS, ev_ge, ev_eqI, ev_eqS, ev_eqB, ev_p0, ev_p1, ev_p2, ev_lenL, ev_lenT, ev_lenS, ev_lenQ, ev_lenK, ev_tupL, ev_tupT, ev_lisL, ev_lisT, ev_intI, ev_intB, ev_max2, ev_min2, ev_repr, ev_eqRp, ev_slL, ev_slT, ev_slS, ev_seqL, ev_seqT, ev_seqS, ev_inL, ev_inT, ev_isB, ev_dO, ev_dat0, ev_dat1, ev_dat2, ev_dat3, ev_dat4, ev_dat5, ev_dat8, List.getElem?_cons_zero, List.getElem?_cons_succ, List.set_cons_zero, List.set_cons_succ, List.map_cons, List.map_nil, List.cons_append, List.nil_append, List.append_nil, List.replicate, List.length_cons, List.length_nil, Nat.reduceAdd, Nat.reduceSub, Option.some.injEq, List.append_eq, Nat.zero_add, exists_eq', exists_eq_left', Sl.mu.injEq, Mu.l.injEq, Sl.sh.injEq, W.p.injEq, true_and, and_true, or_true, true_or, ite_true, ite_false, if_true, if_false, Bool.false_eq_true, decide_eq_true_eq]
    refine ⟨by decide, cmulR (by decide) (by decide), cmulL (by decide) (by decide), by decide, p18, r_twoP fun d hd => ?_⟩
    rcases hd with rfl | rfl
    · simp only [wSeq2, wNext, wRet, wDrop, wIfS, wSet, wSetO, wSetN, wSetC, wSetIx, wSetI, wSetBx, wSetB, wAug, wApp, wAsg, wPar, wNilO, wConsO, wConsN, wL2N, putR, noUn, wVar, wC, wNil, wCons, wTup, wLst, wFz, wOp, wB, wAnd, wOr, wNot, wAndV, wOrV, wNotV, wIf, wNeg, wCB, wCL, wCallD, wRetB, wIsi, wSl, wNoPart, wPart, wRev, wFrz, wLend, wLendT, wLendL, muW, wFor, wSeq, wRange1, wRange2, wLc, wipeR, wgName, wgTup, wgCons, wgNil, startR, wJoin, wZip, wEnum, wBrk, wCnt, wIxOx, wIxO, wPopSet, wPopAt, wPopAtSet, popAtW, wExt, wSet2, ev_addI, ev_addS, ev_addT, ev_addL, ev_mulI, ev_I, ev_I0, ev_ltI, ev_ltS, ev_ge, ev_eqI, ev_eqS, ev_eqB, ev_p0, ev_p1, ev_p2, ev_lenL, ev_lenT, ev_lenS, ev_lenQ, ev_lenK, ev_tupL, ev_tupT, ev_lisL, ev_lisT, ev_intI, ev_intB, ev_max2, ev_min2, ev_repr, ev_eqRp, ev_slL, ev_slT, ev_slS, ev_seqL, ev_seqT, ev_seqS, ev_inL, ev_inT, ev_isB, ev_dO, ev_dat0, ev_dat1, ev_dat2, ev_dat3, ev_dat4, ev_dat5, ev_dat8, List.getElem?_cons_zero, List.getElem?_cons_succ, List.set_cons_zero, List.set_cons_succ, List.map_cons, List.map_nil, List.cons_append, List.nil_append, List.append_nil, List.replicate, List.length_cons, List.length_nil, Nat.reduceAdd, Nat.reduceSub, Option.some.injEq, List.append_eq, Nat.zero_add, exists_eq', exists_eq_left', Sl.mu.injEq, Mu.l.injEq, Sl.sh.injEq, W.p.injEq, true_and, and_true, or_true, true_or, ite_true, ite_false, if_true, if_false, Bool.false_eq_true, decide_eq_true_eq]
      exact q
    · simp only [wSeq2, wNext, wRet, wDrop, wIfS, wSet, wSetO, wSetN, wSetC, wSetIx, wSetI, wSetBx, wSetB, wAug, wApp, wAsg, wPar, wNilO, wConsO, wConsN, wL2N, putR, noUn, wVar, wC, wNil, wCons, wTup, wLst, wFz, wOp, wB, wAnd, wOr, wNot, wAndV, wOrV, wNotV, wIf, wNeg, wCB, wCL, wCallD, wRetB, wIsi, wSl, wNoPart, wPart, wRev, wFrz, wLend, wLendT, wLendL, muW, wFor, wSeq, wRange1, wRange2, wLc, wipeR, wgName, wgTup, wgCons, wgNil, startR, wJoin, wZip, wEnum, wBrk, wCnt, wIxOx, wIxO, wPopSet, wPopAt, wPopAtSet, popAtW, wExt, wSet2, ev_addI, ev_addS, ev_addT, ev_addL, ev_mulI, ev_I, ev_I0, ev_ltI, ev_ltS, ev_ge, ev_eqI, ev_eqS, ev_eqB, ev_p0, ev_p1, ev_p2, ev_lenL, ev_lenT, ev_lenS, ev_lenQ, ev_lenK, ev_tupL, ev_tupT, ev_lisL, ev_lisT, ev_intI, ev_intB, ev_max2, ev_min2, ev_repr, ev_eqRp, ev_slL, ev_slT, ev_slS, ev_seqL, ev_seqT, ev_seqS, ev_inL, ev_inT, ev_isB, ev_dO, ev_dat0, ev_dat1, ev_dat2, ev_dat3, ev_dat4, ev_dat5, ev_dat8, List.getElem?_cons_zero, List.getElem?_cons_succ, List.set_cons_zero, List.set_cons_succ, List.map_cons, List.map_nil, List.cons_append, List.nil_append, List.append_nil, List.replicate, List.length_cons, List.length_nil, Nat.reduceAdd, Nat.reduceSub, Option.some.injEq, List.append_eq, Nat.zero_add, exists_eq', exists_eq_left', Sl.mu.injEq, Mu.l.injEq, Sl.sh.injEq, W.p.injEq, true_and, and_true, or_true, true_or, ite_true, ite_false, if_true, if_false, Bool.false_eq_true, decide_eq_true_eq]
      exact q
  · split
    · rename_i h
      refine ⟨h, r_ixs (Int.emod_nonneg _ (by omega)) (Int.emod_lt_of_pos _ h) fun n => ?_⟩
      simp only [wSeq2, wNext, wRet, wDrop, wIfS, wSet, wSetO, wSetN, wSetC, wSetIx, wSetI, wSetBx, wSetB, wAug, wApp, wAsg, wPar, wNilO, wConsO, wConsN, wL2N, putR, noUn, wVar, wC, wNil, wCons, wTup, wLst, wFz, wOp, wB, wAnd, wOr, wNot, wAndV, wOrV, wNotV, wIf, wNeg, wCB, wCL, wCallD, wRetB, wIsi, wSl, wNoPart, wPart, wRev, wFrz, wLend, wLendT, wLendL, muW, wFor, wSeq, wRange1, wRange2, wLc, wipeR, wgName, wgTup, wgCons, wgNil, startR, wJoin, wZip, wEnum, wBrk, wCnt, wIxOx, wIxO, wPopSet, wPopAt, wPopAtSet, popAtW, wExt, wSet2, ev_addI, ev_addS, ev_addT, ev_addL, ev_mulI, ev_I, ev_I0, ev_ltI, ev_ltS, ev_ge, ev_eqI, ev_eqS, ev_eqB, ev_p0, ev_p1, ev_p2, ev_lenL, ev_lenT, ev_lenS, ev_lenQ, ev_lenK, ev_tupL, ev_tupT, ev_lisL, ev_lisT, ev_intI, ev_intB, ev_max2, ev_min2, ev_repr, ev_eqRp, ev_slL, ev_slT, ev_slS, ev_seqL, ev_seqT, ev_seqS, ev_inL, ev_inT, ev_isB, ev_dO, ev_dat0, ev_dat1, ev_dat2, ev_dat3, ev_dat4, ev_dat5, ev_dat8, List.getElem?_cons_zero, List.getElem?_cons_succ, List.set_cons_zero, List.set_cons_succ, List.map_cons, List.map_nil, List.cons_append, List.nil_append, List.append_nil, List.replicate, List.length_cons, List.length_nil, Nat.reduceAdd, Nat.reduceSub, Option.some.injEq, List.append_eq, Nat.zero_add, exists_eq', exists_eq_left', Sl.mu.injEq, Mu.l.injEq, Sl.sh.injEq, W.p.injEq, true_and, and_true, or_true, true_or, ite_true, ite_false, if_true, if_false, Bool.false_eq_true, decide_eq_true_eq]
      refine ⟨by decide, cmulR (by decide) (by decide), by decide, cmulR (by decide) (by decide), cmulL (by decide) (by decide), by decide, p18, r_twoP fun d hd => ?_⟩
      rcases hd with rfl | rfl
      · simp only [wSeq2, wNext, wRet, wDrop, wIfS, wSet, wSetO, wSetN, wSetC, wSetIx, wSetI, wSetBx, wSetB, wAug, wApp, wAsg, wPar, wNilO, wConsO, wConsN, wL2N, putR, noUn, wVar, wC, wNil, wCons, wTup, wLst, wFz, wOp, wB, wAnd, wOr, wNot, wAndV, wOrV, wNotV, wIf, wNeg, wCB, wCL, wCallD, wRetB, wIsi, wSl, wNoPart, wPart, wRev, wFrz, wLend, wLendT, wLendL, muW, wFor, wSeq, wRange1, wRange2, wLc, wipeR, wgName, wgTup, wgCons, wgNil, startR, wJoin, wZip, wEnum, wBrk, wCnt, wIxOx, wIxO, wPopSet, wPopAt, wPopAtSet, popAtW, wExt, wSet2, ev_addI, ev_addS, ev_addT, ev_addL, ev_mulI, ev_I, ev_I0, ev_ltI, ev_ltS, ev_ge, ev_eqI, ev_eqS, ev_eqB, ev_p0, ev_p1, ev_p2, ev_lenL, ev_lenT, ev_lenS, ev_lenQ, ev_lenK, ev_tupL, ev_tupT, ev_lisL, ev_lisT, ev_intI, ev_intB, ev_max2, ev_min2, ev_repr, ev_eqRp, ev_slL, ev_slT, ev_slS, ev_seqL, ev_seqT, ev_seqS, ev_inL, ev_inT, ev_isB, ev_dO, ev_dat0, ev_dat1, ev_dat2, ev_dat3, ev_dat4, ev_dat5, ev_dat8, List.getElem?_cons_zero, List.getElem?_cons_succ, List.set_cons_zero, List.set_cons_succ, List.map_cons, List.map_nil, List.cons_append, List.nil_append, List.append_nil, List.replicate, List.length_cons, List.length_nil, Nat.reduceAdd, Nat.reduceSub, Option.some.injEq, List.append_eq, Nat.zero_add, exists_eq', exists_eq_left', Sl.mu.injEq, Mu.l.injEq, Sl.sh.injEq, W.p.injEq, true_and, and_true, or_true, true_or, ite_true, ite_false, if_true, if_false, Bool.false_eq_true, decide_eq_true_eq]
        exact q
      · simp only [wSeq2, wNext, wRet, wDrop, wIfS, wSet, wSetO, wSetN, wSetC, wSetIx, wSetI, wSetBx, wSetB, wAug, wApp, wAsg, wPar, wNilO, wConsO, wConsN, wL2N, putR, noUn, wVar, wC, wNil, wCons, wTup, wLst, wFz, wOp, wB, wAnd, wOr, wNot, wAndV, wOrV, wNotV, wIf, wNeg, wCB, wCL, wCallD, wRetB, wIsi, wSl, wNoPart, wPart, wRev, wFrz, wLend, wLendT, wLendL, muW, wFor, wSeq, wRange1, wRange2, wLc, wipeR, wgName, wgTup, wgCons, wgNil, startR, wJoin, wZip, wEnum, wBrk, wCnt, wIxOx, wIxO, wPopSet, wPopAt, wPopAtSet, popAtW, wExt, wSet2, ev_addI, ev_addS, ev_addT, ev_addL, ev_mulI, ev_I, ev_I0, ev_ltI, ev_ltS, ev_ge, ev_eqI, ev_eqS, ev_eqB, ev_p0, ev_p1, ev_p2, ev_lenL, ev_lenT, ev_lenS, ev_lenQ, ev_lenK, ev_tupL, ev_tupT, ev_lisL, ev_lisT, ev_intI, ev_intB, ev_max2, ev_min2, ev_repr, ev_eqRp, ev_slL, ev_slT, ev_slS, ev_seqL, ev_seqT, ev_seqS, ev_inL, ev_inT, ev_isB, ev_dO, ev_dat0, ev_dat1, ev_dat2, ev_dat3, ev_dat4, ev_dat5, ev_dat8, List.getElem?_cons_zero, List.getElem?_cons_succ, List.set_cons_zero, List.set_cons_succ, List.map_cons, List.map_nil, List.cons_append, List.nil_append, List.append_nil, List.replicate, List.length_cons, List.length_nil, Nat.reduceAdd, Nat.reduceSub, Option.some.injEq, List.append_eq, Nat.zero_add, exists_eq', exists_eq_left', Sl.mu.injEq, Mu.l.injEq, Sl.sh.injEq, W.p.injEq, true_and, and_true, or_true, true_or, ite_true, ite_false, if_true, if_false, Bool.false_eq_true, decide_eq_true_eq]
        exact q
    · refine ⟨by decide, cmulR (by decide) (by decide), cmulL (by decide) (by decide), by decide, p18, r_twoP fun d hd => ?_⟩
      rcases hd with rfl | rfl
      · simp only [wSeq2, wNext, wRet, wDrop, wIfS, wSet, wSetO, wSetN, wSetC, wSetIx, wSetI, wSetBx, wSetB, wAug, wApp, wAsg, wPar, wNilO, wConsO, wConsN, wL2N, putR, noUn, wVar, wC, wNil, wCons, wTup, wLst, wFz, wOp, wB, wAnd, wOr, wNot, wAndV, wOrV, wNotV, wIf, wNeg, wCB, wCL, wCallD, wRetB, wIsi, wSl, wNoPart, wPart, wRev, wFrz, wLend, wLendT, wLendL, muW, wFor, wSeq, wRange1, wRange2, wLc, wipeR, wgName, wgTup, wgCons, wgNil, startR, wJoin, wZip, wEnum, wBrk, wCnt, wIxOx, wIxO, wPopSet, wPopAt, wPopAtSet, popAtW, wExt, wSet2, ev_addI, ev_addS, ev_addT, ev_addL, ev_mulI, ev_I, ev_I0, ev_ltI, ev_ltS, ev_ge, ev_eqI, ev_eqS, ev_eqB, ev_p0, ev_p1, ev_p2, ev_lenL, ev_lenT, ev_lenS, ev_lenQ, ev_lenK, ev_tupL, ev_tupT, ev_lisL, ev_lisT, ev_intI, ev_intB, ev_max2, ev_min2, ev_repr, ev_eqRp, ev_slL, ev_slT, ev_slS, ev_seqL, ev_seqT, ev_seqS, ev_inL, ev_inT, ev_isB, ev_dO, ev_dat0, ev_dat1, ev_dat2, ev_dat3, ev_dat4, ev_dat5, ev_dat8, List.getElem?_cons_zero, List.getElem?_cons_succ, List.set_cons_zero, List.set_cons_succ, List.map_cons, List.map_nil, List.cons_append, List.nil_append, List.append_nil, List.replicate, List.length_cons, List.length_nil, Nat.reduceAdd, Nat.reduceSub, Option.some.injEq, List.append_eq, Nat.zero_add, exists_eq', exists_eq_left', Sl.mu.injEq, Mu.l.injEq, Sl.sh.injEq, W.p.injEq, true_and, and_true, or_true, true_or, ite_true, ite_false, if_true, if_false, Bool.false_eq_true, decide_eq_true_eq]
        exact q
      · simp only [wSeq2, wNext, wRet, wDrop, wIfS, wSet, wSetO, wSetN, wSetC, wSetIx, wSetI, wSetBx, wSetB, wAug, wApp, wAsg, wPar, wNilO, wConsO, wConsN, wL2N, putR, noUn, wVar, wC, wNil, wCons, wTup, wLst, wFz, wOp, wB, wAnd, wOr, wNot, wAndV, wOrV, wNotV, wIf, wNeg, wCB, wCL, wCallD, wRetB, wIsi, wSl, wNoPart, wPart, wRev, wFrz, wLend, wLendT, wLendL, muW, wFor, wSeq, wRange1, wRange2, wLc, wipeR, wgName, wgTup, wgCons, wgNil, startR, wJoin, wZip, wEnum, wBrk, wCnt, wIxOx, wIxO, wPopSet, wPopAt, wPopAtSet, popAtW, wExt, wSet2, ev_addI, ev_addS, ev_addT, ev_addL, ev_mulI, ev_I, ev_I0, ev_ltI, ev_ltS, ev_ge, ev_eqI, ev_eqS, ev_eqB, ev_p0, ev_p1, ev_p2, ev_lenL, ev_lenT, ev_lenS, ev_lenQ, ev_lenK, ev_tupL, ev_tupT, ev_lisL, ev_lisT, ev_intI, ev_intB, ev_max2, ev_min2, ev_repr, ev_eqRp, ev_slL, ev_slT, ev_slS, ev_seqL, ev_seqT, ev_seqS, ev_inL, ev_inT, ev_isB, ev_dO, ev_dat0, ev_dat1, ev_dat2, ev_dat3, ev_dat4, ev_dat5, ev_dat8, List.getElem?_cons_zero, List.getElem?_cons_succ, List.set_cons_zero, List.set_cons_succ, List.map_cons, List.map_nil, List.cons_append, List.nil_append, List.append_nil, List.replicate, List.length_cons, List.length_nil, Nat.reduceAdd, Nat.reduceSub, Option.some.injEq, List.append_eq, Nat.zero_add, exists_eq', exists_eq_left', Sl.mu.injEq, Mu.l.injEq, Sl.sh.injEq, W.p.injEq, true_and, and_true, or_true, true_or, ite_true, ite_false, if_true, if_false, Bool.false_eq_true, decide_eq_true_eq]
        exact q
/-! ### names -/
structure NameOk (x : Str) : Prop where
  ok : SOk x
  len : x.length ≤ 16
theorem r_take {a : Addr} {m : Int} {Φ : W → Prop} (h0 : 0 < m) (h1 : m < 1000000) (q : ∀ r, 0 ≤ r → r < m → Φ (.d (.int r))) : F_law_take [.p a, .d (.int m)] Φ := ⟨a, m, rfl, h0, h1, q⟩
theorem intsFrom_get {lo : Int} {n i : Nat} {d : D} (h : (intsFrom lo n)[i]? = some d) : i < n ∧ d = .int (lo + i) := by
  unfold intsFrom at h
  rw [List.getElem?_map] at h
  cases q : (List.range n)[i]? with
  | none => rw [q] at h; cases h
  | some j =>
    rw [q] at h
    cases h
    obtain ⟨h1, h2⟩ := List.getElem?_eq_some_iff.mp q
    rw [List.getElem_range] at h2
    subst h2
    exact ⟨by simpa using h1, rfl⟩
theorem intsFrom_len {lo : Int} {n : Nat} : (intsFrom lo n).length = n := by
  unfold intsFrom
  rw [List.length_map, List.length_range]
theorem cut_len (x : Str) (lo hi : Option Int) : (cutS x lo hi).length ≤ x.length := by
  have e : (cutS x lo hi).length = (cutS x lo hi).cps.toList.length := by rw [Array.length_toList]; rfl
  have e2 : x.length = x.cps.toList.length := by rw [Array.length_toList]; rfl
  rw [e, e2]
  unfold cutS
  simp
  omega
theorem app_len (x y : Str) : (x ++ y).length = x.length + y.length := by
  show (x.cps ++ y.cps).size = _
  rw [Array.size_append]
  rfl
theorem small_line {n : Nat} (h : n ≤ 1000) : n ≤ sizeLine := le_line h
theorem nameApp {x y : Str} (hx : SOk x) (hy : SOk y) (h : x.length + y.length ≤ 16) : NameOk (x ++ y) := ⟨sok_app hx hy (small_line (by omega)), by rw [app_len]; exact h⟩
theorem sum_ones : ∀ ls : List Str, (∀ x ∈ ls, x.length = 1) → (ls.map (·.length)).sum = ls.length
  | [], _ => rfl
  | l :: ls, h => by
    rw [List.map_cons, List.sum_cons, sum_ones ls fun x hx => h x (List.mem_cons_of_mem _ hx), h l List.mem_cons_self, List.length_cons]
    omega
def letters : Str := "abcdefghijklmnopqrstuvwxyz"
theorem letters_len : letters.length = 26 := by decide +kernel
theorem letters_sok : SOk letters := ⟨by decide +kernel, by rw [letters_len]; exact small_line (by decide)⟩
theorem letter_ok {c : Nat} (h : c ∈ letters.cps.toList) : SOk ⟨#[c]⟩ := sok_one letters_sok h
theorem r_letter {i : Int} {Φ : W → Prop} (h0 : 0 ≤ i) (h1 : i < 26) (q : ∀ y : Str, SOk y → y.length = 1 → Φ (.d (.str y))) : oIx (.d (.str letters)) (.d (.int i)) Φ :=
  r_ixc h0 (by rw [letters_len]; exact h1) fun c hc => q _ (letter_ok hc) rfl
/-- the i-th letter -/
def sgn (z : Int) : Str := ⟨#[97 + z.toNat]⟩
theorem letters_at : ∀ n : Nat, n < 26 → letters.cps.toList[n]? = some (97 + n) := by decide +kernel
theorem r_sgn {i : Int} {Φ : W → Prop} (h0 : 0 ≤ i) (h1 : i < 26) (q : SOk (sgn i) → (sgn i).length = 1 → Φ (.d (.str (sgn i)))) : oIx (.d (.str letters)) (.d (.int i)) Φ := by
  obtain ⟨c, e, e2⟩ := atI_some (xs := letters.cps.toList) h0 (by rw [Array.length_toList]; show i < (letters.length : Int); rw [letters_len]; exact h1)
  have e3 := letters_at i.toNat (by omega)
  rw [e] at e3
  have ec : c = 97 + i.toNat := Option.some.inj e3
  unfold oIx
  simp only [e2]
  subst ec
  exact q (letter_ok (List.mem_of_getElem? e)) rfl
theorem cps_app (x y : Str) : (x ++ y).cps.toList = x.cps.toList ++ y.cps.toList := by
  show (x.cps ++ y.cps).toList = _
  rw [Array.toList_append]
theorem sgn_inj {A B : Str} {i j : Int} (h0 : 0 ≤ i) (h1 : 0 ≤ j) (h : A ++ sgn i ++ B = A ++ sgn j ++ B) : i = j := by
  have e := congrArg (fun x : Str => x.cps.toList) h
  simp only [cps_app] at e
  have e2 := List.append_cancel_left (List.append_cancel_right e)
  have e3 : [97 + i.toNat] = [97 + j.toNat] := e2
  have e4 := (List.cons.inj e3).1
  omega
def zzz : Str := "zzzzzz"
structure Names (xs : List Str) : Prop where
  ok : ∀ x ∈ xs, NameOk x
  nd : xs.Nodup
  nz : ∀ x ∈ xs, x ≠ zzz
def F_law_names : FW := fun ws Φ => ∃ a m, ws = [.p a, .d (.int m)] ∧ 0 < m ∧ m ≤ 26 ∧ ∀ xs : List Str, (xs.length : Int) = m → Names xs → Φ (.d (.list (xs.map PyData.str)))
theorem l_law_names (ws : List W) (Φ : W → Prop) (h : F_law_names ws Φ) : ws.length = 2 := by
  obtain ⟨a, m, rfl, _⟩ := h
  rfl
def wordsN : List PyData := [.str "door", .str "faces", .str "walker", .str "pass", .str "turn", .str "put", .str "remove", .str "rooms"]
theorem words_ok : ∀ d ∈ wordsN, ∃ w, d = .str w ∧ NameOk w ∧ w ≠ zzz := by
  intro d hd
  have key : ∀ w : Str, PyData.strOk w = true → w.length ≤ 16 → NameOk w := fun w h1 h2 => ⟨⟨h1, small_line (by omega)⟩, h2⟩
  simp only [wordsN, List.mem_cons, List.not_mem_nil, or_false] at hd
  rcases hd with rfl | rfl | rfl | rfl | rfl | rfl | rfl | rfl <;> exact ⟨_, rfl, key _ (by decide +kernel) (by decide +kernel), by decide +kernel⟩
theorem set_nodup {w : Str} : ∀ {xs : List Str}, w ∉ xs → xs.Nodup → ∀ j, (xs.set j w).Nodup
  | [], _, _, j => by simp
  | x :: xs, hw, nd, 0 => by
    rw [List.set_cons_zero, List.nodup_cons]
    exact ⟨fun z => hw (List.mem_cons_of_mem _ z), (List.nodup_cons.mp nd).2⟩
  | x :: xs, hw, nd, j + 1 => by
    rw [List.set_cons_succ, List.nodup_cons]
    rw [List.nodup_cons] at nd
    refine ⟨fun z => ?_, set_nodup (fun y => hw (List.mem_cons_of_mem _ y)) nd.2 j⟩
    rcases List.mem_or_eq_of_mem_set z with y | y
    · exact nd.1 y
    · exact hw (by rw [y]; exact List.mem_cons_self)
theorem any_str (name : Str) : ∀ ks : List Str, ((ks.map PyData.str).any fun y => PyData.eqv y (.str name)) = ks.any fun y => y == name
  | [] => rfl
  | k :: ks => by rw [List.map_cons, List.any_cons, List.any_cons, any_str name ks, PyData.eqv]
theorem m_law_names (ws : List W) (Φ : W → Prop) (h : F_law_names ws Φ) : w_law_names F_law_take (startR n_law_names ws) ⟨fun _ => Φ (.d .none), Φ, fun _ => False, fun _ => False⟩ := by
  obtain ⟨a, m, rfl, h0, h1, q⟩ := h
  simp only [w_law_names, n_law_names, wSeq2, wNext, wRet, wDrop, wIfS, wSet, wSetO, wSetN, wSetC, wSetIx, wSetI, wSetBx, wSetB, wAug, wApp, wAsg, wPar, wNilO, wConsO, wConsN, wL2N, putR, noUn, wVar, wC, wNil, wCons, wTup, wLst, wFz, wOp, wB, wAnd, wOr, wNot, wAndV, wOrV, wNotV, wIf, wNeg, wCB, wCL, wCallD, wRetB, wIsi, wSl, wNoPart, wPart, wRev, wFrz, wLend, wLendT, wLendL, muW, wFor, wSeq, wRange1, wRange2, wLc, wipeR, wgName, wgTup, wgCons, wgNil, startR, wJoin, wZip, wEnum, wBrk, wCnt, wIxOx, wIxO, wPopSet, wPopAt, wPopAtSet, popAtW, wExt, wSet2, ev_addI, ev_addS, ev_addT, ev_addL, ev_mulI, ev_I, ev_I0, ev_ltI, ev_ltS, ev_ge, ev_eqI, ev_eqS, ev_eqB, ev_p0, ev_p1, ev_p2, ev_lenL, ev_lenT, ev_lenS, ev_lenQ, ev_lenK, ev_tupL, ev_tupT, ev_lisL, ev_lisT, ev_intI, ev_intB, ev_max2, ev_min2, ev_repr, ev_eqRp, ev_slL, ev_slT, ev_slS, ev_seqL, ev_seqT, ev_seqS, ev_inL, ev_inT, ev_isB, ev_dO, ev_dat0, ev_dat1, ev_dat2, ev_dat3, ev_dat4, ev_dat5, ev_dat8, List.getElem?_cons_zero, List.getElem?_cons_succ, List.set_cons_zero, List.set_cons_succ, List.map_cons, List.map_nil, List.cons_append, List.nil_append, List.append_nil, List.replicate, List.length_cons, List.length_nil, Nat.reduceAdd, Nat.reduceSub, Option.some.injEq, List.append_eq, Nat.zero_add, exists_eq', exists_eq_left', Sl.mu.injEq, Mu.l.injEq, Sl.sh.injEq, W.p.injEq, true_and, and_true, or_true, true_or, ite_true, ite_false, if_true, if_false, Bool.false_eq_true, decide_eq_true_eq]
  refine r_take (by decide) (by decide) fun j hj0 hj => ?_
  simp only [wSeq2, wNext, wRet, wDrop, wIfS, wSet, wSetO, wSetN, wSetC, wSetIx, wSetI, wSetBx, wSetB, wAug, wApp, wAsg, wPar, wNilO, wConsO, wConsN, wL2N, putR, noUn, wVar, wC, wNil, wCons, wTup, wLst, wFz, wOp, wB, wAnd, wOr, wNot, wAndV, wOrV, wNotV, wIf, wNeg, wCB, wCL, wCallD, wRetB, wIsi, wSl, wNoPart, wPart, wRev, wFrz, wLend, wLendT, wLendL, muW, wFor, wSeq, wRange1, wRange2, wLc, wipeR, wgName, wgTup, wgCons, wgNil, startR, wJoin, wZip, wEnum, wBrk, wCnt, wIxOx, wIxO, wPopSet, wPopAt, wPopAtSet, popAtW, wExt, wSet2, ev_addI, ev_addS, ev_addT, ev_addL, ev_mulI, ev_I, ev_I0, ev_ltI, ev_ltS, ev_ge, ev_eqI, ev_eqS, ev_eqB, ev_p0, ev_p1, ev_p2, ev_lenL, ev_lenT, ev_lenS, ev_lenQ, ev_lenK, ev_tupL, ev_tupT, ev_lisL, ev_lisT, ev_intI, ev_intB, ev_max2, ev_min2, ev_repr, ev_eqRp, ev_slL, ev_slT, ev_slS, ev_seqL, ev_seqT, ev_seqS, ev_inL, ev_inT, ev_isB, ev_dO, ev_dat0, ev_dat1, ev_dat2, ev_dat3, ev_dat4, ev_dat5, ev_dat8, List.getElem?_cons_zero, List.getElem?_cons_succ, List.set_cons_zero, List.set_cons_succ, List.map_cons, List.map_nil, List.cons_append, List.nil_append, List.append_nil, List.replicate, List.length_cons, List.length_nil, Nat.reduceAdd, Nat.reduceSub, Option.some.injEq, List.append_eq, Nat.zero_add, exists_eq', exists_eq_left', Sl.mu.injEq, Mu.l.injEq, Sl.sh.injEq, W.p.injEq, true_and, and_true, or_true, true_or, ite_true, ite_false, if_true, if_false, Bool.false_eq_true, decide_eq_true_eq]
  refine ⟨⟨by omega, by omega⟩, ?_⟩
  refine compW_inv (fun n acc => ∃ xs : List Str, acc = xs.map PyData.str ∧ xs.length = n ∧ (∀ x ∈ xs, SOk x ∧ x.length = 1)) 0 ⟨[], rfl, rfl, by simp⟩ (fun i d acc C hd hI hC => ?_) fun acc hI => ?_
  · obtain ⟨xs, rfl, hl, hx⟩ := hI
    simp only [wSeq2, wNext, wRet, wDrop, wIfS, wSet, wSetO, wSetN, wSetC, wSetIx, wSetI, wSetBx, wSetB, wAug, wApp, wAsg, wPar, wNilO, wConsO, wConsN, wL2N, putR, noUn, wVar, wC, wNil, wCons, wTup, wLst, wFz, wOp, wB, wAnd, wOr, wNot, wAndV, wOrV, wNotV, wIf, wNeg, wCB, wCL, wCallD, wRetB, wIsi, wSl, wNoPart, wPart, wRev, wFrz, wLend, wLendT, wLendL, muW, wFor, wSeq, wRange1, wRange2, wLc, wipeR, wgName, wgTup, wgCons, wgNil, startR, wJoin, wZip, wEnum, wBrk, wCnt, wIxOx, wIxO, wPopSet, wPopAt, wPopAtSet, popAtW, wExt, wSet2, ev_addI, ev_addS, ev_addT, ev_addL, ev_mulI, ev_I, ev_I0, ev_ltI, ev_ltS, ev_ge, ev_eqI, ev_eqS, ev_eqB, ev_p0, ev_p1, ev_p2, ev_lenL, ev_lenT, ev_lenS, ev_lenQ, ev_lenK, ev_tupL, ev_tupT, ev_lisL, ev_lisT, ev_intI, ev_intB, ev_max2, ev_min2, ev_repr, ev_eqRp, ev_slL, ev_slT, ev_slS, ev_seqL, ev_seqT, ev_seqS, ev_inL, ev_inT, ev_isB, ev_dO, ev_dat0, ev_dat1, ev_dat2, ev_dat3, ev_dat4, ev_dat5, ev_dat8, List.getElem?_cons_zero, List.getElem?_cons_succ, List.set_cons_zero, List.set_cons_succ, List.map_cons, List.map_nil, List.cons_append, List.nil_append, List.append_nil, List.replicate, List.length_cons, List.length_nil, Nat.reduceAdd, Nat.reduceSub, Option.some.injEq, List.append_eq, Nat.zero_add, exists_eq', exists_eq_left', Sl.mu.injEq, Mu.l.injEq, Sl.sh.injEq, W.p.injEq, true_and, and_true, or_true, true_or, ite_true, ite_false, if_true, if_false, Bool.false_eq_true, decide_eq_true_eq]
    refine r_take (by decide) (by decide) fun r hr0 hr => ?_
    simp only [wSeq2, wNext, wRet, wDrop, wIfS, wSet, wSetO, wSetN, wSetC, wSetIx, wSetI, wSetBx, wSetB, wAug, wApp, wAsg, wPar, wNilO, wConsO, wConsN, wL2N, putR, noUn, wVar, wC, wNil, wCons, wTup, wLst, wFz, wOp, wB, wAnd, wOr, wNot, wAndV, wOrV, wNotV, wIf, wNeg, wCB, wCL, wCallD, wRetB, wIsi, wSl, wNoPart, wPart, wRev, wFrz, wLend, wLendT, wLendL, muW, wFor, wSeq, wRange1, wRange2, wLc, wipeR, wgName, wgTup, wgCons, wgNil, startR, wJoin, wZip, wEnum, wBrk, wCnt, wIxOx, wIxO, wPopSet, wPopAt, wPopAtSet, popAtW, wExt, wSet2, ev_addI, ev_addS, ev_addT, ev_addL, ev_mulI, ev_I, ev_I0, ev_ltI, ev_ltS, ev_ge, ev_eqI, ev_eqS, ev_eqB, ev_p0, ev_p1, ev_p2, ev_lenL, ev_lenT, ev_lenS, ev_lenQ, ev_lenK, ev_tupL, ev_tupT, ev_lisL, ev_lisT, ev_intI, ev_intB, ev_max2, ev_min2, ev_repr, ev_eqRp, ev_slL, ev_slT, ev_slS, ev_seqL, ev_seqT, ev_seqS, ev_inL, ev_inT, ev_isB, ev_dO, ev_dat0, ev_dat1, ev_dat2, ev_dat3, ev_dat4, ev_dat5, ev_dat8, List.getElem?_cons_zero, List.getElem?_cons_succ, List.set_cons_zero, List.set_cons_succ, List.map_cons, List.map_nil, List.cons_append, List.nil_append, List.append_nil, List.replicate, List.length_cons, List.length_nil, Nat.reduceAdd, Nat.reduceSub, Option.some.injEq, List.append_eq, Nat.zero_add, exists_eq', exists_eq_left', Sl.mu.injEq, Mu.l.injEq, Sl.sh.injEq, W.p.injEq, true_and, and_true, or_true, true_or, ite_true, ite_false, if_true, if_false, Bool.false_eq_true, decide_eq_true_eq]
    refine r_letter hr0 hr fun y hy hy1 => ?_
    refine hC _ ⟨xs ++ [y], by simp, by simp; omega, fun x hx' => ?_⟩
    rcases List.mem_append.mp hx' with z | z
    · exact hx x z
    · rw [List.mem_singleton.mp z]
      exact ⟨hy, hy1⟩
  obtain ⟨ls, rfl, hl, hx⟩ := hI
  rw [intsFrom_len] at hl
  have hsum := sum_ones ls fun x h => (hx x h).2
  have hnil : (Str.ofString "").length = 0 := by decide +kernel
  have hstem : SOk (Str.join "" ls) ∧ (Str.join "" ls).length ≤ 4 := by
    have hlen : (Str.join "" ls).length ≤ 4 := by
      have h1 := len_join "" ls
      rw [hsum, hnil] at h1
      omega
    refine ⟨sok_iff (fun c hc => ?_) (small_line (by omega)), hlen⟩
    rcases cps_join "" ls c hc with z | ⟨x, hx', z⟩
    · have e : (Str.ofString "").cps.toList = [] := by decide +kernel
      rw [e] at z
      cases z
    · exact (hx x hx').1.cp c z
  simp only [strsOfW, strsD_map]
  refine ⟨by rw [hsum, hnil]; omega, ?_⟩
  refine r_take (by decide) (by decide) fun z _ _ => ?_
  simp only [wSeq2, wNext, wRet, wDrop, wIfS, wSet, wSetO, wSetN, wSetC, wSetIx, wSetI, wSetBx, wSetB, wAug, wApp, wAsg, wPar, wNilO, wConsO, wConsN, wL2N, putR, noUn, wVar, wC, wNil, wCons, wTup, wLst, wFz, wOp, wB, wAnd, wOr, wNot, wAndV, wOrV, wNotV, wIf, wNeg, wCB, wCL, wCallD, wRetB, wIsi, wSl, wNoPart, wPart, wRev, wFrz, wLend, wLendT, wLendL, muW, wFor, wSeq, wRange1, wRange2, wLc, wipeR, wgName, wgTup, wgCons, wgNil, startR, wJoin, wZip, wEnum, wBrk, wCnt, wIxOx, wIxO, wPopSet, wPopAt, wPopAtSet, popAtW, wExt, wSet2, ev_addI, ev_addS, ev_addT, ev_addL, ev_mulI, ev_I, ev_I0, ev_ltI, ev_ltS, ev_ge, ev_eqI, ev_eqS, ev_eqB, ev_p0, ev_p1, ev_p2, ev_lenL, ev_lenT, ev_lenS, ev_lenQ, ev_lenK, ev_tupL, ev_tupT, ev_lisL, ev_lisT, ev_intI, ev_intB, ev_max2, ev_min2, ev_repr, ev_eqRp, ev_slL, ev_slT, ev_slS, ev_seqL, ev_seqT, ev_seqS, ev_inL, ev_inT, ev_isB, ev_dO, ev_dat0, ev_dat1, ev_dat2, ev_dat3, ev_dat4, ev_dat5, ev_dat8, List.getElem?_cons_zero, List.getElem?_cons_succ, List.set_cons_zero, List.set_cons_succ, List.map_cons, List.map_nil, List.cons_append, List.nil_append, List.append_nil, List.replicate, List.length_cons, List.length_nil, Nat.reduceAdd, Nat.reduceSub, Option.some.injEq, List.append_eq, Nat.zero_add, exists_eq', exists_eq_left', Sl.mu.injEq, Mu.l.injEq, Sl.sh.injEq, W.p.injEq, true_and, and_true, or_true, true_or, ite_true, ite_false, if_true, if_false, Bool.false_eq_true, decide_eq_true_eq]
  refine r_two fun d hd => ?_
  obtain ⟨stem, rfl, hs, hz⟩ : ∃ stem : Str, d = .str stem ∧ (SOk stem ∧ stem.length ≤ 5) ∧ (stem.length ≤ 4 ∨ 102 ∈ stem.cps.toList) := by
    rcases hd with rfl | rfl
    · exact ⟨_, rfl, ⟨hstem.1, by omega⟩, .inl hstem.2⟩
    · exact ⟨_, rfl, ⟨⟨by decide +kernel, small_line (by decide +kernel)⟩, by decide +kernel⟩, .inr (by decide +kernel)⟩
  clear hstem hd
  simp only [wSeq2, wNext, wRet, wDrop, wIfS, wSet, wSetO, wSetN, wSetC, wSetIx, wSetI, wSetBx, wSetB, wAug, wApp, wAsg, wPar, wNilO, wConsO, wConsN, wL2N, putR, noUn, wVar, wC, wNil, wCons, wTup, wLst, wFz, wOp, wB, wAnd, wOr, wNot, wAndV, wOrV, wNotV, wIf, wNeg, wCB, wCL, wCallD, wRetB, wIsi, wSl, wNoPart, wPart, wRev, wFrz, wLend, wLendT, wLendL, muW, wFor, wSeq, wRange1, wRange2, wLc, wipeR, wgName, wgTup, wgCons, wgNil, startR, wJoin, wZip, wEnum, wBrk, wCnt, wIxOx, wIxO, wPopSet, wPopAt, wPopAtSet, popAtW, wExt, wSet2, ev_addI, ev_addS, ev_addT, ev_addL, ev_mulI, ev_I, ev_I0, ev_ltI, ev_ltS, ev_ge, ev_eqI, ev_eqS, ev_eqB, ev_p0, ev_p1, ev_p2, ev_lenL, ev_lenT, ev_lenS, ev_lenQ, ev_lenK, ev_tupL, ev_tupT, ev_lisL, ev_lisT, ev_intI, ev_intB, ev_max2, ev_min2, ev_repr, ev_eqRp, ev_slL, ev_slT, ev_slS, ev_seqL, ev_seqT, ev_seqS, ev_inL, ev_inT, ev_isB, ev_dO, ev_dat0, ev_dat1, ev_dat2, ev_dat3, ev_dat4, ev_dat5, ev_dat8, List.getElem?_cons_zero, List.getElem?_cons_succ, List.set_cons_zero, List.set_cons_succ, List.map_cons, List.map_nil, List.cons_append, List.nil_append, List.append_nil, List.replicate, List.length_cons, List.length_nil, Nat.reduceAdd, Nat.reduceSub, Option.some.injEq, List.append_eq, Nat.zero_add, exists_eq', exists_eq_left', Sl.mu.injEq, Mu.l.injEq, Sl.sh.injEq, W.p.injEq, true_and, and_true, or_true, true_or, ite_true, ite_false, if_true, if_false, Bool.false_eq_true, decide_eq_true_eq]
  refine r_take (by omega) (by omega) fun at_ ha0 ha1 => ?_
  simp only [wSeq2, wNext, wRet, wDrop, wIfS, wSet, wSetO, wSetN, wSetC, wSetIx, wSetI, wSetBx, wSetB, wAug, wApp, wAsg, wPar, wNilO, wConsO, wConsN, wL2N, putR, noUn, wVar, wC, wNil, wCons, wTup, wLst, wFz, wOp, wB, wAnd, wOr, wNot, wAndV, wOrV, wNotV, wIf, wNeg, wCB, wCL, wCallD, wRetB, wIsi, wSl, wNoPart, wPart, wRev, wFrz, wLend, wLendT, wLendL, muW, wFor, wSeq, wRange1, wRange2, wLc, wipeR, wgName, wgTup, wgCons, wgNil, startR, wJoin, wZip, wEnum, wBrk, wCnt, wIxOx, wIxO, wPopSet, wPopAt, wPopAtSet, popAtW, wExt, wSet2, ev_addI, ev_addS, ev_addT, ev_addL, ev_mulI, ev_I, ev_I0, ev_ltI, ev_ltS, ev_ge, ev_eqI, ev_eqS, ev_eqB, ev_p0, ev_p1, ev_p2, ev_lenL, ev_lenT, ev_lenS, ev_lenQ, ev_lenK, ev_tupL, ev_tupT, ev_lisL, ev_lisT, ev_intI, ev_intB, ev_max2, ev_min2, ev_repr, ev_eqRp, ev_slL, ev_slT, ev_slS, ev_seqL, ev_seqT, ev_seqS, ev_inL, ev_inT, ev_isB, ev_dO, ev_dat0, ev_dat1, ev_dat2, ev_dat3, ev_dat4, ev_dat5, ev_dat8, List.getElem?_cons_zero, List.getElem?_cons_succ, List.set_cons_zero, List.set_cons_succ, List.map_cons, List.map_nil, List.cons_append, List.nil_append, List.append_nil, List.replicate, List.length_cons, List.length_nil, Nat.reduceAdd, Nat.reduceSub, Option.some.injEq, List.append_eq, Nat.zero_add, exists_eq', exists_eq_left', Sl.mu.injEq, Mu.l.injEq, Sl.sh.injEq, W.p.injEq, true_and, and_true, or_true, true_or, ite_true, ite_false, if_true, if_false, Bool.false_eq_true, decide_eq_true_eq]
  refine r_take (by decide) (by decide) fun first hf0 hf1 => ?_
  simp only [wSeq2, wNext, wRet, wDrop, wIfS, wSet, wSetO, wSetN, wSetC, wSetIx, wSetI, wSetBx, wSetB, wAug, wApp, wAsg, wPar, wNilO, wConsO, wConsN, wL2N, putR, noUn, wVar, wC, wNil, wCons, wTup, wLst, wFz, wOp, wB, wAnd, wOr, wNot, wAndV, wOrV, wNotV, wIf, wNeg, wCB, wCL, wCallD, wRetB, wIsi, wSl, wNoPart, wPart, wRev, wFrz, wLend, wLendT, wLendL, muW, wFor, wSeq, wRange1, wRange2, wLc, wipeR, wgName, wgTup, wgCons, wgNil, startR, wJoin, wZip, wEnum, wBrk, wCnt, wIxOx, wIxO, wPopSet, wPopAt, wPopAtSet, popAtW, wExt, wSet2, ev_addI, ev_addS, ev_addT, ev_addL, ev_mulI, ev_I, ev_I0, ev_ltI, ev_ltS, ev_ge, ev_eqI, ev_eqS, ev_eqB, ev_p0, ev_p1, ev_p2, ev_lenL, ev_lenT, ev_lenS, ev_lenQ, ev_lenK, ev_tupL, ev_tupT, ev_lisL, ev_lisT, ev_intI, ev_intB, ev_max2, ev_min2, ev_repr, ev_eqRp, ev_slL, ev_slT, ev_slS, ev_seqL, ev_seqT, ev_seqS, ev_inL, ev_inT, ev_isB, ev_dO, ev_dat0, ev_dat1, ev_dat2, ev_dat3, ev_dat4, ev_dat5, ev_dat8, List.getElem?_cons_zero, List.getElem?_cons_succ, List.set_cons_zero, List.set_cons_succ, List.map_cons, List.map_nil, List.cons_append, List.nil_append, List.append_nil, List.replicate, List.length_cons, List.length_nil, Nat.reduceAdd, Nat.reduceSub, Option.some.injEq, List.append_eq, Nat.zero_add, exists_eq', exists_eq_left', Sl.mu.injEq, Mu.l.injEq, Sl.sh.injEq, W.p.injEq, true_and, and_true, or_true, true_or, ite_true, ite_false, if_true, if_false, Bool.false_eq_true, decide_eq_true_eq]
  refine r_take (by decide) (by decide) fun y hy0 hy1 => ?_
  simp only [wSeq2, wNext, wRet, wDrop, wIfS, wSet, wSetO, wSetN, wSetC, wSetIx, wSetI, wSetBx, wSetB, wAug, wApp, wAsg, wPar, wNilO, wConsO, wConsN, wL2N, putR, noUn, wVar, wC, wNil, wCons, wTup, wLst, wFz, wOp, wB, wAnd, wOr, wNot, wAndV, wOrV, wNotV, wIf, wNeg, wCB, wCL, wCallD, wRetB, wIsi, wSl, wNoPart, wPart, wRev, wFrz, wLend, wLendT, wLendL, muW, wFor, wSeq, wRange1, wRange2, wLc, wipeR, wgName, wgTup, wgCons, wgNil, startR, wJoin, wZip, wEnum, wBrk, wCnt, wIxOx, wIxO, wPopSet, wPopAt, wPopAtSet, popAtW, wExt, wSet2, ev_addI, ev_addS, ev_addT, ev_addL, ev_mulI, ev_I, ev_I0, ev_ltI, ev_ltS, ev_ge, ev_eqI, ev_eqS, ev_eqB, ev_p0, ev_p1, ev_p2, ev_lenL, ev_lenT, ev_lenS, ev_lenQ, ev_lenK, ev_tupL, ev_tupT, ev_lisL, ev_lisT, ev_intI, ev_intB, ev_max2, ev_min2, ev_repr, ev_eqRp, ev_slL, ev_slT, ev_slS, ev_seqL, ev_seqT, ev_seqS, ev_inL, ev_inT, ev_isB, ev_dO, ev_dat0, ev_dat1, ev_dat2, ev_dat3, ev_dat4, ev_dat5, ev_dat8, List.getElem?_cons_zero, List.getElem?_cons_succ, List.set_cons_zero, List.set_cons_succ, List.map_cons, List.map_nil, List.cons_append, List.nil_append, List.append_nil, List.replicate, List.length_cons, List.length_nil, Nat.reduceAdd, Nat.reduceSub, Option.some.injEq, List.append_eq, Nat.zero_add, exists_eq', exists_eq_left', Sl.mu.injEq, Mu.l.injEq, Sl.sh.injEq, W.p.injEq, true_and, and_true, or_true, true_or, ite_true, ite_false, if_true, if_false, Bool.false_eq_true, decide_eq_true_eq]
  refine r_ixl hy0 hy1 fun d hd => ?_
  obtain ⟨step, rfl, hp⟩ : ∃ step : Int, d = .int step ∧ (step = 1 ∨ step = 7 ∨ step = 11 ∨ step = 25) := by
    have := List.mem_of_getElem? hd
    simp only [List.mem_cons, List.not_mem_nil, or_false] at this
    rcases this with rfl | rfl | rfl | rfl
    · exact ⟨_, rfl, .inl rfl⟩
    · exact ⟨_, rfl, .inr (.inl rfl)⟩
    · exact ⟨_, rfl, .inr (.inr (.inl rfl))⟩
    · exact ⟨_, rfl, .inr (.inr (.inr rfl))⟩
  refine ⟨⟨by omega, by omega⟩, ?_⟩
  let mk : Nat → Str := fun i => cutS stem none (some at_) ++ sgn ((first + step * (0 + (i : Int))) % 26) ++ cutS stem (some at_) none
  have c1 := cut_len stem none (some at_)
  have c2 := cut_len stem (some at_) none
  have k1 := sok_cut hs.1 none (some at_)
  have k2 := sok_cut hs.1 (some at_) none
  have c12 : (cutS stem none (some at_)).length + (cutS stem (some at_) none).length = stem.length ∧ ∀ c ∈ stem.cps.toList, c ∈ (cutS stem none (some at_)).cps.toList ∨ c ∈ (cutS stem (some at_) none).cps.toList := by
    obtain ⟨n, rfl⟩ := Int.eq_ofNat_of_zero_le ha0
    have hn : n ≤ stem.length := by omega
    have e1 : (cutS stem none (some (n : Int))).cps.toList = stem.cps.toList.take n := by
      unfold cutS
      rw [HT.sIx_none, HT.sIx_nat, Nat.min_eq_left hn]
      simp
    have e2 : (cutS stem (some (n : Int)) none).cps.toList = stem.cps.toList.drop n := by
      unfold cutS
      rw [HT.sIx_none, HT.sIx_nat, Nat.min_eq_left hn]
      show (List.take (stem.length - n) (stem.cps.toList.drop n)).toArray.toList = _
      have e3 : stem.length = stem.cps.toList.length := by rw [Array.length_toList]; rfl
      rw [e3, ← List.length_drop, List.take_length]
    have l1 : (cutS stem none (some (n : Int))).length = (cutS stem none (some (n : Int))).cps.toList.length := by rw [Array.length_toList]; rfl
    have l2 : (cutS stem (some (n : Int)) none).length = (cutS stem (some (n : Int)) none).cps.toList.length := by rw [Array.length_toList]; rfl
    have l3 : stem.length = stem.cps.toList.length := by rw [Array.length_toList]; rfl
    refine ⟨?_, fun c hc => ?_⟩
    · rw [l1, l2, e1, e2, List.length_take, List.length_drop, ← l3]
      omega
    · rw [e1, e2]
      have := (List.take_append_drop n stem.cps.toList).symm ▸ hc
      exact List.mem_append.mp this
  have hsgn : ∀ i : Nat, SOk (sgn ((first + step * (0 + (i : Int))) % 26)) ∧ (sgn ((first + step * (0 + (i : Int))) % 26)).length = 1 := fun i => by
    refine ⟨?_, rfl⟩
    have h0 : 0 ≤ (first + step * (0 + (i : Int))) % 26 := Int.emod_nonneg _ (by decide)
    have h1 : (first + step * (0 + (i : Int))) % 26 < 26 := Int.emod_lt_of_pos _ (by decide)
    exact letter_ok (List.mem_of_getElem? (letters_at _ (by omega)))
  have nm : ∀ i : Nat, NameOk (mk i) ∧ mk i ≠ zzz := fun i => by
    obtain ⟨s1, s2⟩ := hsgn i
    have n1 := nameApp k1 s1 (by omega)
    refine ⟨nameApp n1.ok k2 (by rw [app_len]; omega), fun e => ?_⟩
    have hlen : (mk i).length = stem.length + 1 := by
      show (_ ++ _ ++ _ : Str).length = _
      rw [app_len, app_len]
      omega
    rcases hz with z | z
    · rw [e] at hlen
      have : zzz.length = 6 := by decide +kernel
      omega
    · have hin : 102 ∈ (mk i).cps.toList := by
        show 102 ∈ (_ ++ _ ++ _ : Str).cps.toList
        rw [cps_app, cps_app]
        rcases c12.2 _ z with y | y
        · exact List.mem_append_left _ (List.mem_append_left _ y)
        · exact List.mem_append_right _ y
      rw [e] at hin
      exact absurd hin (by decide +kernel)
  have inj : ∀ i j : Nat, i < 26 → j < 26 → mk i = mk j → i = j := fun i j hi hj e => by
    have h := sgn_inj (Int.emod_nonneg _ (by decide)) (Int.emod_nonneg _ (by decide)) e
    rcases hp with rfl | rfl | rfl | rfl <;> omega
  have nms : ∀ n : Nat, n ≤ 26 → Names ((List.range n).map mk) := fun n hn => ⟨fun x hx => by
    obtain ⟨i, _, rfl⟩ := List.mem_map.mp hx
    exact (nm i).1, by
    rw [List.nodup_iff_pairwise_ne, List.pairwise_map]
    refine List.Pairwise.imp_of_mem (fun {i j} hi hj hne e => hne (inj i j ?_ ?_ e)) List.nodup_range
    · have := List.mem_range.mp hi; omega
    · have := List.mem_range.mp hj; omega, fun x hx => by
    obtain ⟨i, _, rfl⟩ := List.mem_map.mp hx
    exact (nm i).2⟩
  refine forW_inv (fun n ρ' => ∃ (s9 s10 : Sl), ρ' = [.sh (.p a), .sh (.d (.int m)), .sh (.d (.str letters)), .mu (.l (((List.range n).map mk).map PyData.str)), .sh (.d (.list wordsN)), .sh (.d (.str stem)), .sh (.d (.int at_)), .sh (.d (.int first)), .sh (.d (.int step)), s9, s10, .un, .un]) 0 ⟨.un, .un, rfl⟩ (fun i d ρ' C hd hI hC => ?_) fun ρ' hI => ?_
  · obtain ⟨s9, s10, rfl⟩ := hI
    obtain ⟨hi, rfl⟩ := intsFrom_get hd
    obtain ⟨s1, s2⟩ := hsgn i
    have n1 := nameApp k1 s1 (by omega)
    simp only [wSeq2, wNext, wRet, wDrop, wIfS, wSet, wSetO, wSetN, wSetC, wSetIx, wSetI, wSetBx, wSetB, wAug, wApp, wAsg, wPar, wNilO, wConsO, wConsN, wL2N, putR, noUn, wVar, wC, wNil, wCons, wTup, wLst, wFz, wOp, wB, wAnd, wOr, wNot, wAndV, wOrV, wNotV, wIf, wNeg, wCB, wCL, wCallD, wRetB, wIsi, wSl, wNoPart, wPart, wRev, wFrz, wLend, wLendT, wLendL, muW, wFor, wSeq, wRange1, wRange2, wLc, wipeR, wgName, wgTup, wgCons, wgNil, startR, wJoin, wZip, wEnum, wBrk, wCnt, wIxOx, wIxO, wPopSet, wPopAt, wPopAtSet, popAtW, wExt, wSet2, ev_addI, ev_addS, ev_addT, ev_addL, ev_mulI, ev_I, ev_I0, ev_ltI, ev_ltS, ev_ge, ev_eqI, ev_eqS, ev_eqB, ev_p0, ev_p1, ev_p2, ev_lenL, ev_lenT, ev_lenS, ev_lenQ, ev_lenK, ev_tupL, ev_tupT, ev_lisL, ev_lisT, ev_intI, ev_intB, ev_max2, ev_min2, ev_repr, ev_eqRp, ev_slL, ev_slT, ev_slS, ev_seqL, ev_seqT, ev_seqS, ev_inL, ev_inT, ev_isB, ev_dO, ev_dat0, ev_dat1, ev_dat2, ev_dat3, ev_dat4, ev_dat5, ev_dat8, List.getElem?_cons_zero, List.getElem?_cons_succ, List.set_cons_zero, List.set_cons_succ, List.map_cons, List.map_nil, List.cons_append, List.nil_append, List.append_nil, List.replicate, List.length_cons, List.length_nil, Nat.reduceAdd, Nat.reduceSub, Option.some.injEq, List.append_eq, Nat.zero_add, exists_eq', exists_eq_left', Sl.mu.injEq, Mu.l.injEq, Sl.sh.injEq, W.p.injEq, true_and, and_true, or_true, true_or, ite_true, ite_false, if_true, if_false, Bool.false_eq_true, decide_eq_true_eq]
    refine ⟨cmulL (by omega) (by omega), by decide, r_sgn (Int.emod_nonneg _ (by decide)) (Int.emod_lt_of_pos _ (by decide)) fun _ _ => ?_⟩
    simp only [wSeq2, wNext, wRet, wDrop, wIfS, wSet, wSetO, wSetN, wSetC, wSetIx, wSetI, wSetBx, wSetB, wAug, wApp, wAsg, wPar, wNilO, wConsO, wConsN, wL2N, putR, noUn, wVar, wC, wNil, wCons, wTup, wLst, wFz, wOp, wB, wAnd, wOr, wNot, wAndV, wOrV, wNotV, wIf, wNeg, wCB, wCL, wCallD, wRetB, wIsi, wSl, wNoPart, wPart, wRev, wFrz, wLend, wLendT, wLendL, muW, wFor, wSeq, wRange1, wRange2, wLc, wipeR, wgName, wgTup, wgCons, wgNil, startR, wJoin, wZip, wEnum, wBrk, wCnt, wIxOx, wIxO, wPopSet, wPopAt, wPopAtSet, popAtW, wExt, wSet2, ev_addI, ev_addS, ev_addT, ev_addL, ev_mulI, ev_I, ev_I0, ev_ltI, ev_ltS, ev_ge, ev_eqI, ev_eqS, ev_eqB, ev_p0, ev_p1, ev_p2, ev_lenL, ev_lenT, ev_lenS, ev_lenQ, ev_lenK, ev_tupL, ev_tupT, ev_lisL, ev_lisT, ev_intI, ev_intB, ev_max2, ev_min2, ev_repr, ev_eqRp, ev_slL, ev_slT, ev_slS, ev_seqL, ev_seqT, ev_seqS, ev_inL, ev_inT, ev_isB, ev_dO, ev_dat0, ev_dat1, ev_dat2, ev_dat3, ev_dat4, ev_dat5, ev_dat8, List.getElem?_cons_zero, List.getElem?_cons_succ, List.set_cons_zero, List.set_cons_succ, List.map_cons, List.map_nil, List.cons_append, List.nil_append, List.append_nil, List.replicate, List.length_cons, List.length_nil, Nat.reduceAdd, Nat.reduceSub, Option.some.injEq, List.append_eq, Nat.zero_add, exists_eq', exists_eq_left', Sl.mu.injEq, Mu.l.injEq, Sl.sh.injEq, W.p.injEq, true_and, and_true, or_true, true_or, ite_true, ite_false, if_true, if_false, Bool.false_eq_true, decide_eq_true_eq]
    refine ⟨?_, small_line (by omega), small_line (by rw [app_len]; omega), hC _ ⟨.sh (.d (.int (0 + i))), .sh (.d (.str (sgn ((first + step * (0 + (i : Int))) % 26)))), ?_⟩⟩
    · rw [List.length_map, List.length_map, List.length_range]
      omega
    · rw [Nat.zero_add, List.range_succ, List.map_append, List.map_append]
      rfl
  obtain ⟨s9, s10, rfl⟩ := hI
  rw [intsFrom_len, Nat.zero_add]
  have hnn := nms m.toNat (by omega)
  generalize hxs : (List.range m.toNat).map mk = xs at hnn
  have hl : xs.length = m.toNat := by rw [← hxs, List.length_map, List.length_range]
  simp only [wSeq2, wNext, wRet, wDrop, wIfS, wSet, wSetO, wSetN, wSetC, wSetIx, wSetI, wSetBx, wSetB, wAug, wApp, wAsg, wPar, wNilO, wConsO, wConsN, wL2N, putR, noUn, wVar, wC, wNil, wCons, wTup, wLst, wFz, wOp, wB, wAnd, wOr, wNot, wAndV, wOrV, wNotV, wIf, wNeg, wCB, wCL, wCallD, wRetB, wIsi, wSl, wNoPart, wPart, wRev, wFrz, wLend, wLendT, wLendL, muW, wFor, wSeq, wRange1, wRange2, wLc, wipeR, wgName, wgTup, wgCons, wgNil, startR, wJoin, wZip, wEnum, wBrk, wCnt, wIxOx, wIxO, wPopSet, wPopAt, wPopAtSet, popAtW, wExt, wSet2, ev_addI, ev_addS, ev_addT, ev_addL, ev_mulI, ev_I, ev_I0, ev_ltI, ev_ltS, ev_ge, ev_eqI, ev_eqS, ev_eqB, ev_p0, ev_p1, ev_p2, ev_lenL, ev_lenT, ev_lenS, ev_lenQ, ev_lenK, ev_tupL, ev_tupT, ev_lisL, ev_lisT, ev_intI, ev_intB, ev_max2, ev_min2, ev_repr, ev_eqRp, ev_slL, ev_slT, ev_slS, ev_seqL, ev_seqT, ev_seqS, ev_inL, ev_inT, ev_isB, ev_dO, ev_dat0, ev_dat1, ev_dat2, ev_dat3, ev_dat4, ev_dat5, ev_dat8, List.getElem?_cons_zero, List.getElem?_cons_succ, List.set_cons_zero, List.set_cons_succ, List.map_cons, List.map_nil, List.cons_append, List.nil_append, List.append_nil, List.replicate, List.length_cons, List.length_nil, Nat.reduceAdd, Nat.reduceSub, Option.some.injEq, List.append_eq, Nat.zero_add, exists_eq', exists_eq_left', Sl.mu.injEq, Mu.l.injEq, Sl.sh.injEq, W.p.injEq, true_and, and_true, or_true, true_or, ite_true, ite_false, if_true, if_false, Bool.false_eq_true, decide_eq_true_eq]
  refine r_take h0 (by omega) fun spot hp0 hp1 => ?_
  simp only [wSeq2, wNext, wRet, wDrop, wIfS, wSet, wSetO, wSetN, wSetC, wSetIx, wSetI, wSetBx, wSetB, wAug, wApp, wAsg, wPar, wNilO, wConsO, wConsN, wL2N, putR, noUn, wVar, wC, wNil, wCons, wTup, wLst, wFz, wOp, wB, wAnd, wOr, wNot, wAndV, wOrV, wNotV, wIf, wNeg, wCB, wCL, wCallD, wRetB, wIsi, wSl, wNoPart, wPart, wRev, wFrz, wLend, wLendT, wLendL, muW, wFor, wSeq, wRange1, wRange2, wLc, wipeR, wgName, wgTup, wgCons, wgNil, startR, wJoin, wZip, wEnum, wBrk, wCnt, wIxOx, wIxO, wPopSet, wPopAt, wPopAtSet, popAtW, wExt, wSet2, ev_addI, ev_addS, ev_addT, ev_addL, ev_mulI, ev_I, ev_I0, ev_ltI, ev_ltS, ev_ge, ev_eqI, ev_eqS, ev_eqB, ev_p0, ev_p1, ev_p2, ev_lenL, ev_lenT, ev_lenS, ev_lenQ, ev_lenK, ev_tupL, ev_tupT, ev_lisL, ev_lisT, ev_intI, ev_intB, ev_max2, ev_min2, ev_repr, ev_eqRp, ev_slL, ev_slT, ev_slS, ev_seqL, ev_seqT, ev_seqS, ev_inL, ev_inT, ev_isB, ev_dO, ev_dat0, ev_dat1, ev_dat2, ev_dat3, ev_dat4, ev_dat5, ev_dat8, List.getElem?_cons_zero, List.getElem?_cons_succ, List.set_cons_zero, List.set_cons_succ, List.map_cons, List.map_nil, List.cons_append, List.nil_append, List.append_nil, List.replicate, List.length_cons, List.length_nil, Nat.reduceAdd, Nat.reduceSub, Option.some.injEq, List.append_eq, Nat.zero_add, exists_eq', exists_eq_left', Sl.mu.injEq, Mu.l.injEq, Sl.sh.injEq, W.p.injEq, true_and, and_true, or_true, true_or, ite_true, ite_false, if_true, if_false, Bool.false_eq_true, decide_eq_true_eq]
  refine r_take (by decide) (by decide) fun y hy0 hy1 => ?_
  simp only [wSeq2, wNext, wRet, wDrop, wIfS, wSet, wSetO, wSetN, wSetC, wSetIx, wSetI, wSetBx, wSetB, wAug, wApp, wAsg, wPar, wNilO, wConsO, wConsN, wL2N, putR, noUn, wVar, wC, wNil, wCons, wTup, wLst, wFz, wOp, wB, wAnd, wOr, wNot, wAndV, wOrV, wNotV, wIf, wNeg, wCB, wCL, wCallD, wRetB, wIsi, wSl, wNoPart, wPart, wRev, wFrz, wLend, wLendT, wLendL, muW, wFor, wSeq, wRange1, wRange2, wLc, wipeR, wgName, wgTup, wgCons, wgNil, startR, wJoin, wZip, wEnum, wBrk, wCnt, wIxOx, wIxO, wPopSet, wPopAt, wPopAtSet, popAtW, wExt, wSet2, ev_addI, ev_addS, ev_addT, ev_addL, ev_mulI, ev_I, ev_I0, ev_ltI, ev_ltS, ev_ge, ev_eqI, ev_eqS, ev_eqB, ev_p0, ev_p1, ev_p2, ev_lenL, ev_lenT, ev_lenS, ev_lenQ, ev_lenK, ev_tupL, ev_tupT, ev_lisL, ev_lisT, ev_intI, ev_intB, ev_max2, ev_min2, ev_repr, ev_eqRp, ev_slL, ev_slT, ev_slS, ev_seqL, ev_seqT, ev_seqS, ev_inL, ev_inT, ev_isB, ev_dO, ev_dat0, ev_dat1, ev_dat2, ev_dat3, ev_dat4, ev_dat5, ev_dat8, List.getElem?_cons_zero, List.getElem?_cons_succ, List.set_cons_zero, List.set_cons_succ, List.map_cons, List.map_nil, List.cons_append, List.nil_append, List.append_nil, List.replicate, List.length_cons, List.length_nil, Nat.reduceAdd, Nat.reduceSub, Option.some.injEq, List.append_eq, Nat.zero_add, exists_eq', exists_eq_left', Sl.mu.injEq, Mu.l.injEq, Sl.sh.injEq, W.p.injEq, true_and, and_true, or_true, true_or, ite_true, ite_false, if_true, if_false, Bool.false_eq_true, decide_eq_true_eq]
  refine r_ixl hy0 hy1 fun d hd => ?_
  obtain ⟨word, rfl, hw, hwz⟩ := words_ok d (List.mem_of_getElem? hd)
  simp only [wSeq2, wNext, wRet, wDrop, wIfS, wSet, wSetO, wSetN, wSetC, wSetIx, wSetI, wSetBx, wSetB, wAug, wApp, wAsg, wPar, wNilO, wConsO, wConsN, wL2N, putR, noUn, wVar, wC, wNil, wCons, wTup, wLst, wFz, wOp, wB, wAnd, wOr, wNot, wAndV, wOrV, wNotV, wIf, wNeg, wCB, wCL, wCallD, wRetB, wIsi, wSl, wNoPart, wPart, wRev, wFrz, wLend, wLendT, wLendL, muW, wFor, wSeq, wRange1, wRange2, wLc, wipeR, wgName, wgTup, wgCons, wgNil, startR, wJoin, wZip, wEnum, wBrk, wCnt, wIxOx, wIxO, wPopSet, wPopAt, wPopAtSet, popAtW, wExt, wSet2, ev_addI, ev_addS, ev_addT, ev_addL, ev_mulI, ev_I, ev_I0, ev_ltI, ev_ltS, ev_ge, ev_eqI, ev_eqS, ev_eqB, ev_p0, ev_p1, ev_p2, ev_lenL, ev_lenT, ev_lenS, ev_lenQ, ev_lenK, ev_tupL, ev_tupT, ev_lisL, ev_lisT, ev_intI, ev_intB, ev_max2, ev_min2, ev_repr, ev_eqRp, ev_slL, ev_slT, ev_slS, ev_seqL, ev_seqT, ev_seqS, ev_inL, ev_inT, ev_isB, ev_dO, ev_dat0, ev_dat1, ev_dat2, ev_dat3, ev_dat4, ev_dat5, ev_dat8, List.getElem?_cons_zero, List.getElem?_cons_succ, List.set_cons_zero, List.set_cons_succ, List.map_cons, List.map_nil, List.cons_append, List.nil_append, List.append_nil, List.replicate, List.length_cons, List.length_nil, Nat.reduceAdd, Nat.reduceSub, Option.some.injEq, List.append_eq, Nat.zero_add, exists_eq', exists_eq_left', Sl.mu.injEq, Mu.l.injEq, Sl.sh.injEq, W.p.injEq, true_and, and_true, or_true, true_or, ite_true, ite_false, if_true, if_false, Bool.false_eq_true, decide_eq_true_eq]
  refine r_take (by decide) (by decide) fun u hu0 hu1 => ?_
  simp only [wSeq2, wNext, wRet, wDrop, wIfS, wSet, wSetO, wSetN, wSetC, wSetIx, wSetI, wSetBx, wSetB, wAug, wApp, wAsg, wPar, wNilO, wConsO, wConsN, wL2N, putR, noUn, wVar, wC, wNil, wCons, wTup, wLst, wFz, wOp, wB, wAnd, wOr, wNot, wAndV, wOrV, wNotV, wIf, wNeg, wCB, wCL, wCallD, wRetB, wIsi, wSl, wNoPart, wPart, wRev, wFrz, wLend, wLendT, wLendL, muW, wFor, wSeq, wRange1, wRange2, wLc, wipeR, wgName, wgTup, wgCons, wgNil, startR, wJoin, wZip, wEnum, wBrk, wCnt, wIxOx, wIxO, wPopSet, wPopAt, wPopAtSet, popAtW, wExt, wSet2, ev_addI, ev_addS, ev_addT, ev_addL, ev_mulI, ev_I, ev_I0, ev_ltI, ev_ltS, ev_ge, ev_eqI, ev_eqS, ev_eqB, ev_p0, ev_p1, ev_p2, ev_lenL, ev_lenT, ev_lenS, ev_lenQ, ev_lenK, ev_tupL, ev_tupT, ev_lisL, ev_lisT, ev_intI, ev_intB, ev_max2, ev_min2, ev_repr, ev_eqRp, ev_slL, ev_slT, ev_slS, ev_seqL, ev_seqT, ev_seqS, ev_inL, ev_inT, ev_isB, ev_dO, ev_dat0, ev_dat1, ev_dat2, ev_dat3, ev_dat4, ev_dat5, ev_dat8, List.getElem?_cons_zero, List.getElem?_cons_succ, List.set_cons_zero, List.set_cons_succ, List.map_cons, List.map_nil, List.cons_append, List.nil_append, List.append_nil, List.replicate, List.length_cons, List.length_nil, Nat.reduceAdd, Nat.reduceSub, Option.some.injEq, List.append_eq, Nat.zero_add, exists_eq', exists_eq_left', Sl.mu.injEq, Mu.l.injEq, Sl.sh.injEq, W.p.injEq, true_and, and_true, or_true, true_or, ite_true, ite_false, if_true, if_false, Bool.false_eq_true, decide_eq_true_eq]
  have hd0 : ∀ w : Str, (PyData.str w).depth = 0 := fun w => by simp [PyData.depth]
  split
  · refine ⟨by rw [hd0]; omega, ?_⟩
    rw [any_str]
    split
    · rename_i hc
      have hnot : word ∉ xs := fun z => by
        have : (xs.any fun y => y == word) = true := List.any_eq_true.mpr ⟨word, z, by simp⟩
        rw [this] at hc
        exact absurd hc (by decide)
      obtain ⟨j, hj⟩ : ∃ j, ixN xs.length spot = some j := ⟨spot.toNat, by unfold ixN; rw [if_pos hp0, if_pos (by omega)]⟩
      rw [List.length_map, hj]
      simp only
      rw [← List.map_set]
      refine q _ (by rw [List.length_set]; omega) ⟨fun x hx => ?_, set_nodup hnot hnn.nd j, fun x hx => ?_⟩
      · rcases List.mem_or_eq_of_mem_set hx with z | z
        · exact hnn.ok x z
        · exact z ▸ hw
      · rcases List.mem_or_eq_of_mem_set hx with z | z
        · exact hnn.nz x z
        · exact z ▸ hwz
    · exact q xs (by omega) hnn
  · exact q xs (by omega) hnn
/-! ### rows of deeds -/
abbrev Deed := Str × Str
def deedD (p : Deed) : D := .tuple [.str p.1, .str p.2]
structure RowOk (row : List Deed) : Prop where
  len : row.length ≤ 60
  ok : ∀ p ∈ row, NameOk p.1 ∧ NameOk p.2
def F_law_row : FW := fun ws Φ => ∃ a w d n, ws = [.p a, .d (.int w), .d (.int d), .d (.int n)] ∧ 0 < w ∧ w ≤ 26 ∧ 0 < d ∧ d ≤ 26 ∧ 0 ≤ n ∧ n ≤ 60 ∧ ∀ row : List Deed, (row.length : Int) ≤ n → RowOk row → Φ (.d (.list (row.map deedD)))
theorem l_law_row (ws : List W) (Φ : W → Prop) (h : F_law_row ws Φ) : ws.length = 4 := by
  obtain ⟨a, w, d, n, rfl, _⟩ := h
  rfl
theorem r_names {a : Addr} {m : Int} {Φ : W → Prop} (h0 : 0 < m) (h1 : m ≤ 26) (q : ∀ xs : List Str, (xs.length : Int) = m → Names xs → Φ (.d (.list (xs.map PyData.str)))) : F_law_names [.p a, .d (.int m)] Φ := ⟨a, m, rfl, h0, h1, q⟩
theorem r_ixstr {xs : List Str} {i : Int} {Φ : W → Prop} (h0 : 0 ≤ i) (h1 : i < xs.length) (q : ∀ x ∈ xs, Φ (.d (.str x))) : oIx (.d (.list (xs.map PyData.str))) (.d (.int i)) Φ :=
  r_ixl h0 (by rw [List.length_map]; exact h1) fun d hd => by
    rw [List.getElem?_map] at hd
    cases e : xs[i.toNat]? with
    | none => rw [e] at hd; cases hd
    | some x =>
      rw [e] at hd
      cases hd
      exact q x (List.mem_of_getElem? e)
theorem deeds_depth : ∀ row : List Deed, PyData.depthAll (row.map deedD) ≤ 1
  | [] => by simp [PyData.depthAll]
  | p :: r => by
    have := deeds_depth r
    simp only [List.map_cons, PyData.depthAll, deedD, PyData.depth]
    omega
theorem deeds_noList : ∀ row : List Deed, noListA (row.map deedD) = true
  | [] => rfl
  | p :: r => by
    rw [List.map_cons, noListA, deeds_noList r]
    rfl
theorem m_law_row (ws : List W) (Φ : W → Prop) (h : F_law_row ws Φ) : w_law_row F_law_names F_law_take (startR n_law_row ws) ⟨fun _ => Φ (.d .none), Φ, fun _ => False, fun _ => False⟩ := by
  obtain ⟨a, w, d, n, rfl, h1, h2, h3, h4, h5, h6, q⟩ := h
  simp only [w_law_row, n_law_row, wSeq2, wNext, wRet, wDrop, wIfS, wSet, wSetO, wSetN, wSetC, wSetIx, wSetI, wSetBx, wSetB, wAug, wApp, wAsg, wPar, wNilO, wConsO, wConsN, wL2N, putR, noUn, wVar, wC, wNil, wCons, wTup, wLst, wFz, wOp, wB, wAnd, wOr, wNot, wAndV, wOrV, wNotV, wIf, wNeg, wCB, wCL, wCallD, wRetB, wIsi, wSl, wNoPart, wPart, wRev, wFrz, wLend, wLendT, wLendL, muW, wFor, wSeq, wRange1, wRange2, wLc, wipeR, wgName, wgTup, wgCons, wgNil, startR, wJoin, wZip, wEnum, wBrk, wCnt, wIxOx, wIxO, wPopSet, wPopAt, wPopAtSet, popAtW, wExt, wSet2, ev_addI, ev_addS, ev_addT, ev_addL, ev_mulI, ev_I, ev_I0, ev_ltI, ev_ltS, ev_ge, ev_eqI, ev_eqS, ev_eqB, ev_p0, ev_p1, ev_p2, ev_lenL, ev_lenT, ev_lenS, ev_lenQ, ev_lenK, ev_tupL, ev_tupT, ev_lisL, ev_lisT, ev_intI, ev_intB, ev_max2, ev_min2, ev_repr, ev_eqRp, ev_slL, ev_slT, ev_slS, ev_seqL, ev_seqT, ev_seqS, ev_inL, ev_inT, ev_isB, ev_dO, ev_dat0, ev_dat1, ev_dat2, ev_dat3, ev_dat4, ev_dat5, ev_dat8, List.getElem?_cons_zero, List.getElem?_cons_succ, List.set_cons_zero, List.set_cons_succ, List.map_cons, List.map_nil, List.cons_append, List.nil_append, List.append_nil, List.replicate, List.length_cons, List.length_nil, Nat.reduceAdd, Nat.reduceSub, Option.some.injEq, List.append_eq, Nat.zero_add, exists_eq', exists_eq_left', Sl.mu.injEq, Mu.l.injEq, Sl.sh.injEq, W.p.injEq, true_and, and_true, or_true, true_or, ite_true, ite_false, if_true, if_false, Bool.false_eq_true, decide_eq_true_eq]
  refine r_names h1 h2 fun xs hx hxo => ?_
  simp only [wSeq2, wNext, wRet, wDrop, wIfS, wSet, wSetO, wSetN, wSetC, wSetIx, wSetI, wSetBx, wSetB, wAug, wApp, wAsg, wPar, wNilO, wConsO, wConsN, wL2N, putR, noUn, wVar, wC, wNil, wCons, wTup, wLst, wFz, wOp, wB, wAnd, wOr, wNot, wAndV, wOrV, wNotV, wIf, wNeg, wCB, wCL, wCallD, wRetB, wIsi, wSl, wNoPart, wPart, wRev, wFrz, wLend, wLendT, wLendL, muW, wFor, wSeq, wRange1, wRange2, wLc, wipeR, wgName, wgTup, wgCons, wgNil, startR, wJoin, wZip, wEnum, wBrk, wCnt, wIxOx, wIxO, wPopSet, wPopAt, wPopAtSet, popAtW, wExt, wSet2, ev_addI, ev_addS, ev_addT, ev_addL, ev_mulI, ev_I, ev_I0, ev_ltI, ev_ltS, ev_ge, ev_eqI, ev_eqS, ev_eqB, ev_p0, ev_p1, ev_p2, ev_lenL, ev_lenT, ev_lenS, ev_lenQ, ev_lenK, ev_tupL, ev_tupT, ev_lisL, ev_lisT, ev_intI, ev_intB, ev_max2, ev_min2, ev_repr, ev_eqRp, ev_slL, ev_slT, ev_slS, ev_seqL, ev_seqT, ev_seqS, ev_inL, ev_inT, ev_isB, ev_dO, ev_dat0, ev_dat1, ev_dat2, ev_dat3, ev_dat4, ev_dat5, ev_dat8, List.getElem?_cons_zero, List.getElem?_cons_succ, List.set_cons_zero, List.set_cons_succ, List.map_cons, List.map_nil, List.cons_append, List.nil_append, List.append_nil, List.replicate, List.length_cons, List.length_nil, Nat.reduceAdd, Nat.reduceSub, Option.some.injEq, List.append_eq, Nat.zero_add, exists_eq', exists_eq_left', Sl.mu.injEq, Mu.l.injEq, Sl.sh.injEq, W.p.injEq, true_and, and_true, or_true, true_or, ite_true, ite_false, if_true, if_false, Bool.false_eq_true, decide_eq_true_eq]
  refine r_names h3 h4 fun ys hy hyo => ?_
  simp only [wSeq2, wNext, wRet, wDrop, wIfS, wSet, wSetO, wSetN, wSetC, wSetIx, wSetI, wSetBx, wSetB, wAug, wApp, wAsg, wPar, wNilO, wConsO, wConsN, wL2N, putR, noUn, wVar, wC, wNil, wCons, wTup, wLst, wFz, wOp, wB, wAnd, wOr, wNot, wAndV, wOrV, wNotV, wIf, wNeg, wCB, wCL, wCallD, wRetB, wIsi, wSl, wNoPart, wPart, wRev, wFrz, wLend, wLendT, wLendL, muW, wFor, wSeq, wRange1, wRange2, wLc, wipeR, wgName, wgTup, wgCons, wgNil, startR, wJoin, wZip, wEnum, wBrk, wCnt, wIxOx, wIxO, wPopSet, wPopAt, wPopAtSet, popAtW, wExt, wSet2, ev_addI, ev_addS, ev_addT, ev_addL, ev_mulI, ev_I, ev_I0, ev_ltI, ev_ltS, ev_ge, ev_eqI, ev_eqS, ev_eqB, ev_p0, ev_p1, ev_p2, ev_lenL, ev_lenT, ev_lenS, ev_lenQ, ev_lenK, ev_tupL, ev_tupT, ev_lisL, ev_lisT, ev_intI, ev_intB, ev_max2, ev_min2, ev_repr, ev_eqRp, ev_slL, ev_slT, ev_slS, ev_seqL, ev_seqT, ev_seqS, ev_inL, ev_inT, ev_isB, ev_dO, ev_dat0, ev_dat1, ev_dat2, ev_dat3, ev_dat4, ev_dat5, ev_dat8, List.getElem?_cons_zero, List.getElem?_cons_succ, List.set_cons_zero, List.set_cons_succ, List.map_cons, List.map_nil, List.cons_append, List.nil_append, List.append_nil, List.replicate, List.length_cons, List.length_nil, Nat.reduceAdd, Nat.reduceSub, Option.some.injEq, List.append_eq, Nat.zero_add, exists_eq', exists_eq_left', Sl.mu.injEq, Mu.l.injEq, Sl.sh.injEq, W.p.injEq, true_and, and_true, or_true, true_or, ite_true, ite_false, if_true, if_false, Bool.false_eq_true, decide_eq_true_eq]
  refine r_take (by omega) (by omega) fun j hj0 hj1 => ?_
  simp only [wSeq2, wNext, wRet, wDrop, wIfS, wSet, wSetO, wSetN, wSetC, wSetIx, wSetI, wSetBx, wSetB, wAug, wApp, wAsg, wPar, wNilO, wConsO, wConsN, wL2N, putR, noUn, wVar, wC, wNil, wCons, wTup, wLst, wFz, wOp, wB, wAnd, wOr, wNot, wAndV, wOrV, wNotV, wIf, wNeg, wCB, wCL, wCallD, wRetB, wIsi, wSl, wNoPart, wPart, wRev, wFrz, wLend, wLendT, wLendL, muW, wFor, wSeq, wRange1, wRange2, wLc, wipeR, wgName, wgTup, wgCons, wgNil, startR, wJoin, wZip, wEnum, wBrk, wCnt, wIxOx, wIxO, wPopSet, wPopAt, wPopAtSet, popAtW, wExt, wSet2, ev_addI, ev_addS, ev_addT, ev_addL, ev_mulI, ev_I, ev_I0, ev_ltI, ev_ltS, ev_ge, ev_eqI, ev_eqS, ev_eqB, ev_p0, ev_p1, ev_p2, ev_lenL, ev_lenT, ev_lenS, ev_lenQ, ev_lenK, ev_tupL, ev_tupT, ev_lisL, ev_lisT, ev_intI, ev_intB, ev_max2, ev_min2, ev_repr, ev_eqRp, ev_slL, ev_slT, ev_slS, ev_seqL, ev_seqT, ev_seqS, ev_inL, ev_inT, ev_isB, ev_dO, ev_dat0, ev_dat1, ev_dat2, ev_dat3, ev_dat4, ev_dat5, ev_dat8, List.getElem?_cons_zero, List.getElem?_cons_succ, List.set_cons_zero, List.set_cons_succ, List.map_cons, List.map_nil, List.cons_append, List.nil_append, List.append_nil, List.replicate, List.length_cons, List.length_nil, Nat.reduceAdd, Nat.reduceSub, Option.some.injEq, List.append_eq, Nat.zero_add, exists_eq', exists_eq_left', Sl.mu.injEq, Mu.l.injEq, Sl.sh.injEq, W.p.injEq, true_and, and_true, or_true, true_or, ite_true, ite_false, if_true, if_false, Bool.false_eq_true, decide_eq_true_eq]
  refine ⟨⟨by omega, by omega⟩, ?_⟩
  refine forW_inv (fun m ρ' => ∃ (row : List Deed) (s7 s8 : Sl), row.length = m ∧ (∀ p ∈ row, NameOk p.1 ∧ NameOk p.2) ∧ ρ' = [.sh (.p a), .sh (.d (.int w)), .sh (.d (.int d)), .sh (.d (.int n)), .sh (.d (.list (xs.map PyData.str))), .sh (.d (.list (ys.map PyData.str))), .mu (.l (row.map deedD)), s7, s8]) 0 ⟨[], .un, .un, rfl, by simp, rfl⟩ (fun i e ρ' C he hI hC => ?_) fun ρ' hI => ?_
  · obtain ⟨row, s7, s8, hl, ho, rfl⟩ := hI
    obtain ⟨hi, rfl⟩ := intsFrom_get he
    simp only [wSeq2, wNext, wRet, wDrop, wIfS, wSet, wSetO, wSetN, wSetC, wSetIx, wSetI, wSetBx, wSetB, wAug, wApp, wAsg, wPar, wNilO, wConsO, wConsN, wL2N, putR, noUn, wVar, wC, wNil, wCons, wTup, wLst, wFz, wOp, wB, wAnd, wOr, wNot, wAndV, wOrV, wNotV, wIf, wNeg, wCB, wCL, wCallD, wRetB, wIsi, wSl, wNoPart, wPart, wRev, wFrz, wLend, wLendT, wLendL, muW, wFor, wSeq, wRange1, wRange2, wLc, wipeR, wgName, wgTup, wgCons, wgNil, startR, wJoin, wZip, wEnum, wBrk, wCnt, wIxOx, wIxO, wPopSet, wPopAt, wPopAtSet, popAtW, wExt, wSet2, ev_addI, ev_addS, ev_addT, ev_addL, ev_mulI, ev_I, ev_I0, ev_ltI, ev_ltS, ev_ge, ev_eqI, ev_eqS, ev_eqB, ev_p0, ev_p1, ev_p2, ev_lenL, ev_lenT, ev_lenS, ev_lenQ, ev_lenK, ev_tupL, ev_tupT, ev_lisL, ev_lisT, ev_intI, ev_intB, ev_max2, ev_min2, ev_repr, ev_eqRp, ev_slL, ev_slT, ev_slS, ev_seqL, ev_seqT, ev_seqS, ev_inL, ev_inT, ev_isB, ev_dO, ev_dat0, ev_dat1, ev_dat2, ev_dat3, ev_dat4, ev_dat5, ev_dat8, List.getElem?_cons_zero, List.getElem?_cons_succ, List.set_cons_zero, List.set_cons_succ, List.map_cons, List.map_nil, List.cons_append, List.nil_append, List.append_nil, List.replicate, List.length_cons, List.length_nil, Nat.reduceAdd, Nat.reduceSub, Option.some.injEq, List.append_eq, Nat.zero_add, exists_eq', exists_eq_left', Sl.mu.injEq, Mu.l.injEq, Sl.sh.injEq, W.p.injEq, true_and, and_true, or_true, true_or, ite_true, ite_false, if_true, if_false, Bool.false_eq_true, decide_eq_true_eq]
    refine r_take h1 (by omega) fun u hu0 hu1 => ?_
    simp only [wSeq2, wNext, wRet, wDrop, wIfS, wSet, wSetO, wSetN, wSetC, wSetIx, wSetI, wSetBx, wSetB, wAug, wApp, wAsg, wPar, wNilO, wConsO, wConsN, wL2N, putR, noUn, wVar, wC, wNil, wCons, wTup, wLst, wFz, wOp, wB, wAnd, wOr, wNot, wAndV, wOrV, wNotV, wIf, wNeg, wCB, wCL, wCallD, wRetB, wIsi, wSl, wNoPart, wPart, wRev, wFrz, wLend, wLendT, wLendL, muW, wFor, wSeq, wRange1, wRange2, wLc, wipeR, wgName, wgTup, wgCons, wgNil, startR, wJoin, wZip, wEnum, wBrk, wCnt, wIxOx, wIxO, wPopSet, wPopAt, wPopAtSet, popAtW, wExt, wSet2, ev_addI, ev_addS, ev_addT, ev_addL, ev_mulI, ev_I, ev_I0, ev_ltI, ev_ltS, ev_ge, ev_eqI, ev_eqS, ev_eqB, ev_p0, ev_p1, ev_p2, ev_lenL, ev_lenT, ev_lenS, ev_lenQ, ev_lenK, ev_tupL, ev_tupT, ev_lisL, ev_lisT, ev_intI, ev_intB, ev_max2, ev_min2, ev_repr, ev_eqRp, ev_slL, ev_slT, ev_slS, ev_seqL, ev_seqT, ev_seqS, ev_inL, ev_inT, ev_isB, ev_dO, ev_dat0, ev_dat1, ev_dat2, ev_dat3, ev_dat4, ev_dat5, ev_dat8, List.getElem?_cons_zero, List.getElem?_cons_succ, List.set_cons_zero, List.set_cons_succ, List.map_cons, List.map_nil, List.cons_append, List.nil_append, List.append_nil, List.replicate, List.length_cons, List.length_nil, Nat.reduceAdd, Nat.reduceSub, Option.some.injEq, List.append_eq, Nat.zero_add, exists_eq', exists_eq_left', Sl.mu.injEq, Mu.l.injEq, Sl.sh.injEq, W.p.injEq, true_and, and_true, or_true, true_or, ite_true, ite_false, if_true, if_false, Bool.false_eq_true, decide_eq_true_eq]
    refine r_ixstr hu0 (by omega) fun x hxm => ?_
    refine r_take h3 (by omega) fun v hv0 hv1 => ?_
    simp only [wSeq2, wNext, wRet, wDrop, wIfS, wSet, wSetO, wSetN, wSetC, wSetIx, wSetI, wSetBx, wSetB, wAug, wApp, wAsg, wPar, wNilO, wConsO, wConsN, wL2N, putR, noUn, wVar, wC, wNil, wCons, wTup, wLst, wFz, wOp, wB, wAnd, wOr, wNot, wAndV, wOrV, wNotV, wIf, wNeg, wCB, wCL, wCallD, wRetB, wIsi, wSl, wNoPart, wPart, wRev, wFrz, wLend, wLendT, wLendL, muW, wFor, wSeq, wRange1, wRange2, wLc, wipeR, wgName, wgTup, wgCons, wgNil, startR, wJoin, wZip, wEnum, wBrk, wCnt, wIxOx, wIxO, wPopSet, wPopAt, wPopAtSet, popAtW, wExt, wSet2, ev_addI, ev_addS, ev_addT, ev_addL, ev_mulI, ev_I, ev_I0, ev_ltI, ev_ltS, ev_ge, ev_eqI, ev_eqS, ev_eqB, ev_p0, ev_p1, ev_p2, ev_lenL, ev_lenT, ev_lenS, ev_lenQ, ev_lenK, ev_tupL, ev_tupT, ev_lisL, ev_lisT, ev_intI, ev_intB, ev_max2, ev_min2, ev_repr, ev_eqRp, ev_slL, ev_slT, ev_slS, ev_seqL, ev_seqT, ev_seqS, ev_inL, ev_inT, ev_isB, ev_dO, ev_dat0, ev_dat1, ev_dat2, ev_dat3, ev_dat4, ev_dat5, ev_dat8, List.getElem?_cons_zero, List.getElem?_cons_succ, List.set_cons_zero, List.set_cons_succ, List.map_cons, List.map_nil, List.cons_append, List.nil_append, List.append_nil, List.replicate, List.length_cons, List.length_nil, Nat.reduceAdd, Nat.reduceSub, Option.some.injEq, List.append_eq, Nat.zero_add, exists_eq', exists_eq_left', Sl.mu.injEq, Mu.l.injEq, Sl.sh.injEq, W.p.injEq, true_and, and_true, or_true, true_or, ite_true, ite_false, if_true, if_false, Bool.false_eq_true, decide_eq_true_eq]
    refine r_ixstr hv0 (by omega) fun y hym => ?_
    simp only [wSeq2, wNext, wRet, wDrop, wIfS, wSet, wSetO, wSetN, wSetC, wSetIx, wSetI, wSetBx, wSetB, wAug, wApp, wAsg, wPar, wNilO, wConsO, wConsN, wL2N, putR, noUn, wVar, wC, wNil, wCons, wTup, wLst, wFz, wOp, wB, wAnd, wOr, wNot, wAndV, wOrV, wNotV, wIf, wNeg, wCB, wCL, wCallD, wRetB, wIsi, wSl, wNoPart, wPart, wRev, wFrz, wLend, wLendT, wLendL, muW, wFor, wSeq, wRange1, wRange2, wLc, wipeR, wgName, wgTup, wgCons, wgNil, startR, wJoin, wZip, wEnum, wBrk, wCnt, wIxOx, wIxO, wPopSet, wPopAt, wPopAtSet, popAtW, wExt, wSet2, ev_addI, ev_addS, ev_addT, ev_addL, ev_mulI, ev_I, ev_I0, ev_ltI, ev_ltS, ev_ge, ev_eqI, ev_eqS, ev_eqB, ev_p0, ev_p1, ev_p2, ev_lenL, ev_lenT, ev_lenS, ev_lenQ, ev_lenK, ev_tupL, ev_tupT, ev_lisL, ev_lisT, ev_intI, ev_intB, ev_max2, ev_min2, ev_repr, ev_eqRp, ev_slL, ev_slT, ev_slS, ev_seqL, ev_seqT, ev_seqS, ev_inL, ev_inT, ev_isB, ev_dO, ev_dat0, ev_dat1, ev_dat2, ev_dat3, ev_dat4, ev_dat5, ev_dat8, List.getElem?_cons_zero, List.getElem?_cons_succ, List.set_cons_zero, List.set_cons_succ, List.map_cons, List.map_nil, List.cons_append, List.nil_append, List.append_nil, List.replicate, List.length_cons, List.length_nil, Nat.reduceAdd, Nat.reduceSub, Option.some.injEq, List.append_eq, Nat.zero_add, exists_eq', exists_eq_left', Sl.mu.injEq, Mu.l.injEq, Sl.sh.injEq, W.p.injEq, true_and, and_true, or_true, true_or, ite_true, ite_false, if_true, if_false, Bool.false_eq_true, decide_eq_true_eq]
    have hdeed : ∀ p : Deed, noList (deedD p) = true := fun p => rfl
    have go : ∀ p : Deed, NameOk p.1 ∧ NameOk p.2 → C [.sh (.p a), .sh (.d (.int w)), .sh (.d (.int d)), .sh (.d (.int n)), .sh (.d (.list (xs.map PyData.str))), .sh (.d (.list (ys.map PyData.str))), .mu (.l (row.map deedD ++ [deedD p])), .sh (.d (.int (0 + i))), .sh (.d (.tuple [.str x, .str y]))] := fun p hp => hC _ ⟨row ++ [p], _, _, by simp; omega, fun r hr => by
      rcases List.mem_append.mp hr with z | z
      · exact ho r z
      · rw [List.mem_singleton.mp z]
        exact hp, by rw [List.map_append]; rfl⟩
    have new := go (x, y) ⟨hxo.ok x hxm, hyo.ok y hym⟩
    rw [List.length_map]
    refine ⟨by omega, ?_⟩
    rw [ev_eq]
    refine ⟨by simp [PyData.depth, PyData.depthAll], ?_⟩
    simp only
    split
    · rename_i hne
      have hr : row.map deedD ≠ [] := fun e => by
        rw [e] at hne
        simp [PyData.eqv, PyData.eqvAll] at hne
      refine r_take (by decide) (by decide) fun z _ _ => ?_
      simp only [wSeq2, wNext, wRet, wDrop, wIfS, wSet, wSetO, wSetN, wSetC, wSetIx, wSetI, wSetBx, wSetB, wAug, wApp, wAsg, wPar, wNilO, wConsO, wConsN, wL2N, putR, noUn, wVar, wC, wNil, wCons, wTup, wLst, wFz, wOp, wB, wAnd, wOr, wNot, wAndV, wOrV, wNotV, wIf, wNeg, wCB, wCL, wCallD, wRetB, wIsi, wSl, wNoPart, wPart, wRev, wFrz, wLend, wLendT, wLendL, muW, wFor, wSeq, wRange1, wRange2, wLc, wipeR, wgName, wgTup, wgCons, wgNil, startR, wJoin, wZip, wEnum, wBrk, wCnt, wIxOx, wIxO, wPopSet, wPopAt, wPopAtSet, popAtW, wExt, wSet2, ev_addI, ev_addS, ev_addT, ev_addL, ev_mulI, ev_I, ev_I0, ev_ltI, ev_ltS, ev_ge, ev_eqI, ev_eqS, ev_eqB, ev_p0, ev_p1, ev_p2, ev_lenL, ev_lenT, ev_lenS, ev_lenQ, ev_lenK, ev_tupL, ev_tupT, ev_lisL, ev_lisT, ev_intI, ev_intB, ev_max2, ev_min2, ev_repr, ev_eqRp, ev_slL, ev_slT, ev_slS, ev_seqL, ev_seqT, ev_seqS, ev_inL, ev_inT, ev_isB, ev_dO, ev_dat0, ev_dat1, ev_dat2, ev_dat3, ev_dat4, ev_dat5, ev_dat8, List.getElem?_cons_zero, List.getElem?_cons_succ, List.set_cons_zero, List.set_cons_succ, List.map_cons, List.map_nil, List.cons_append, List.nil_append, List.append_nil, List.replicate, List.length_cons, List.length_nil, Nat.reduceAdd, Nat.reduceSub, Option.some.injEq, List.append_eq, Nat.zero_add, exists_eq', exists_eq_left', Sl.mu.injEq, Mu.l.injEq, Sl.sh.injEq, W.p.injEq, true_and, and_true, or_true, true_or, ite_true, ite_false, if_true, if_false, Bool.false_eq_true, decide_eq_true_eq]
      split
      · refine r_last hr fun e he _ => ?_
        obtain ⟨p, hp, rfl⟩ := List.mem_map.mp he
        exact go p (ho p hp)
      · exact new
    · exact new
  · obtain ⟨row, s7, s8, hl, ho, rfl⟩ := hI
    rw [intsFrom_len] at hl
    simp only [wSeq2, wNext, wRet, wDrop, wIfS, wSet, wSetO, wSetN, wSetC, wSetIx, wSetI, wSetBx, wSetB, wAug, wApp, wAsg, wPar, wNilO, wConsO, wConsN, wL2N, putR, noUn, wVar, wC, wNil, wCons, wTup, wLst, wFz, wOp, wB, wAnd, wOr, wNot, wAndV, wOrV, wNotV, wIf, wNeg, wCB, wCL, wCallD, wRetB, wIsi, wSl, wNoPart, wPart, wRev, wFrz, wLend, wLendT, wLendL, muW, wFor, wSeq, wRange1, wRange2, wLc, wipeR, wgName, wgTup, wgCons, wgNil, startR, wJoin, wZip, wEnum, wBrk, wCnt, wIxOx, wIxO, wPopSet, wPopAt, wPopAtSet, popAtW, wExt, wSet2, ev_addI, ev_addS, ev_addT, ev_addL, ev_mulI, ev_I, ev_I0, ev_ltI, ev_ltS, ev_ge, ev_eqI, ev_eqS, ev_eqB, ev_p0, ev_p1, ev_p2, ev_lenL, ev_lenT, ev_lenS, ev_lenQ, ev_lenK, ev_tupL, ev_tupT, ev_lisL, ev_lisT, ev_intI, ev_intB, ev_max2, ev_min2, ev_repr, ev_eqRp, ev_slL, ev_slT, ev_slS, ev_seqL, ev_seqT, ev_seqS, ev_inL, ev_inT, ev_isB, ev_dO, ev_dat0, ev_dat1, ev_dat2, ev_dat3, ev_dat4, ev_dat5, ev_dat8, List.getElem?_cons_zero, List.getElem?_cons_succ, List.set_cons_zero, List.set_cons_succ, List.map_cons, List.map_nil, List.cons_append, List.nil_append, List.append_nil, List.replicate, List.length_cons, List.length_nil, Nat.reduceAdd, Nat.reduceSub, Option.some.injEq, List.append_eq, Nat.zero_add, exists_eq', exists_eq_left', Sl.mu.injEq, Mu.l.injEq, Sl.sh.injEq, W.p.injEq, true_and, and_true, or_true, true_or, ite_true, ite_false, if_true, if_false, Bool.false_eq_true, decide_eq_true_eq]
    exact q row (by omega) ⟨by omega, ho⟩
def F_law_crowded_row : FW := fun ws Φ => ∃ a, ws = [.p a] ∧ ∀ row : List Deed, RowOk row → Φ (.d (.list (row.map deedD)))
theorem l_law_crowded_row (ws : List W) (Φ : W → Prop) (h : F_law_crowded_row ws Φ) : ws.length = 1 := by
  obtain ⟨a, rfl, _⟩ := h
  rfl
theorem four {P : Str → Prop} : ∀ {xs : List Str}, xs.length = 4 → (∀ x ∈ xs, P x) → ∃ a b c d, xs = [a, b, c, d] ∧ P a ∧ P b ∧ P c ∧ P d
  | [a, b, c, d], _, h => ⟨a, b, c, d, rfl, h a (by simp), h b (by simp), h c (by simp), h d (by simp)⟩
theorem m_law_crowded_row (ws : List W) (Φ : W → Prop) (h : F_law_crowded_row ws Φ) : w_law_crowded_row F_law_take (startR n_law_crowded_row ws) ⟨fun _ => Φ (.d .none), Φ, fun _ => False, fun _ => False⟩ := by
  obtain ⟨a, rfl, q⟩ := h
  simp only [w_law_crowded_row, n_law_crowded_row, wSeq2, wNext, wRet, wDrop, wIfS, wSet, wSetO, wSetN, wSetC, wSetIx, wSetI, wSetBx, wSetB, wAug, wApp, wAsg, wPar, wNilO, wConsO, wConsN, wL2N, putR, noUn, wVar, wC, wNil, wCons, wTup, wLst, wFz, wOp, wB, wAnd, wOr, wNot, wAndV, wOrV, wNotV, wIf, wNeg, wCB, wCL, wCallD, wRetB, wIsi, wSl, wNoPart, wPart, wRev, wFrz, wLend, wLendT, wLendL, muW, wFor, wSeq, wRange1, wRange2, wLc, wipeR, wgName, wgTup, wgCons, wgNil, startR, wJoin, wZip, wEnum, wBrk, wCnt, wIxOx, wIxO, wPopSet, wPopAt, wPopAtSet, popAtW, wExt, wSet2, ev_addI, ev_addS, ev_addT, ev_addL, ev_mulI, ev_I, ev_I0, ev_ltI, ev_ltS, ev_ge, ev_eqI, ev_eqS, ev_eqB, ev_p0, ev_p1, ev_p2, ev_lenL, ev_lenT, ev_lenS, ev_lenQ, ev_lenK, ev_tupL, ev_tupT, ev_lisL, ev_lisT, ev_intI, ev_intB, ev_max2, ev_min2, ev_repr, ev_eqRp, ev_slL, ev_slT, ev_slS, ev_seqL, ev_seqT, ev_seqS, ev_inL, ev_inT, ev_isB, ev_dO, ev_dat0, ev_dat1, ev_dat2, ev_dat3, ev_dat4, ev_dat5, ev_dat8, List.getElem?_cons_zero, List.getElem?_cons_succ, List.set_cons_zero, List.set_cons_succ, List.map_cons, List.map_nil, List.cons_append, List.nil_append, List.append_nil, List.replicate, List.length_cons, List.length_nil, Nat.reduceAdd, Nat.reduceSub, Option.some.injEq, List.append_eq, Nat.zero_add, exists_eq', exists_eq_left', Sl.mu.injEq, Mu.l.injEq, Sl.sh.injEq, W.p.injEq, true_and, and_true, or_true, true_or, ite_true, ite_false, if_true, if_false, Bool.false_eq_true, decide_eq_true_eq]
  refine r_take (by decide) (by decide) fun j hj0 hj1 => ?_
  simp only [wSeq2, wNext, wRet, wDrop, wIfS, wSet, wSetO, wSetN, wSetC, wSetIx, wSetI, wSetBx, wSetB, wAug, wApp, wAsg, wPar, wNilO, wConsO, wConsN, wL2N, putR, noUn, wVar, wC, wNil, wCons, wTup, wLst, wFz, wOp, wB, wAnd, wOr, wNot, wAndV, wOrV, wNotV, wIf, wNeg, wCB, wCL, wCallD, wRetB, wIsi, wSl, wNoPart, wPart, wRev, wFrz, wLend, wLendT, wLendL, muW, wFor, wSeq, wRange1, wRange2, wLc, wipeR, wgName, wgTup, wgCons, wgNil, startR, wJoin, wZip, wEnum, wBrk, wCnt, wIxOx, wIxO, wPopSet, wPopAt, wPopAtSet, popAtW, wExt, wSet2, ev_addI, ev_addS, ev_addT, ev_addL, ev_mulI, ev_I, ev_I0, ev_ltI, ev_ltS, ev_ge, ev_eqI, ev_eqS, ev_eqB, ev_p0, ev_p1, ev_p2, ev_lenL, ev_lenT, ev_lenS, ev_lenQ, ev_lenK, ev_tupL, ev_tupT, ev_lisL, ev_lisT, ev_intI, ev_intB, ev_max2, ev_min2, ev_repr, ev_eqRp, ev_slL, ev_slT, ev_slS, ev_seqL, ev_seqT, ev_seqS, ev_inL, ev_inT, ev_isB, ev_dO, ev_dat0, ev_dat1, ev_dat2, ev_dat3, ev_dat4, ev_dat5, ev_dat8, List.getElem?_cons_zero, List.getElem?_cons_succ, List.set_cons_zero, List.set_cons_succ, List.map_cons, List.map_nil, List.cons_append, List.nil_append, List.append_nil, List.replicate, List.length_cons, List.length_nil, Nat.reduceAdd, Nat.reduceSub, Option.some.injEq, List.append_eq, Nat.zero_add, exists_eq', exists_eq_left', Sl.mu.injEq, Mu.l.injEq, Sl.sh.injEq, W.p.injEq, true_and, and_true, or_true, true_or, ite_true, ite_false, if_true, if_false, Bool.false_eq_true, decide_eq_true_eq]
  refine ⟨⟨by omega, by omega⟩, ?_⟩
  refine forW_inv (fun m ρ' => ∃ (row : List Deed) (s3 s4 s5 : Sl), row.length = m ∧ (∀ p ∈ row, NameOk p.1 ∧ NameOk p.2) ∧ ρ' = [.sh (.p a), .sh (.d (.str letters)), .mu (.l (row.map deedD)), s3, s4, s5]) 0 ⟨[], .un, .un, .un, rfl, by simp, rfl⟩ (fun i e ρ' C he hI hC => ?_) fun ρ' hI => ?_
  · obtain ⟨row, s3, s4, s5, hl, ho, rfl⟩ := hI
    obtain ⟨hi, rfl⟩ := intsFrom_get he
    simp only [wSeq2, wNext, wRet, wDrop, wIfS, wSet, wSetO, wSetN, wSetC, wSetIx, wSetI, wSetBx, wSetB, wAug, wApp, wAsg, wPar, wNilO, wConsO, wConsN, wL2N, putR, noUn, wVar, wC, wNil, wCons, wTup, wLst, wFz, wOp, wB, wAnd, wOr, wNot, wAndV, wOrV, wNotV, wIf, wNeg, wCB, wCL, wCallD, wRetB, wIsi, wSl, wNoPart, wPart, wRev, wFrz, wLend, wLendT, wLendL, muW, wFor, wSeq, wRange1, wRange2, wLc, wipeR, wgName, wgTup, wgCons, wgNil, startR, wJoin, wZip, wEnum, wBrk, wCnt, wIxOx, wIxO, wPopSet, wPopAt, wPopAtSet, popAtW, wExt, wSet2, ev_addI, ev_addS, ev_addT, ev_addL, ev_mulI, ev_I, ev_I0, ev_ltI, ev_ltS, ev_ge, ev_eqI, ev_eqS, ev_eqB, ev_p0, ev_p1, ev_p2, ev_lenL, ev_lenT, ev_lenS, ev_lenQ, ev_lenK, ev_tupL, ev_tupT, ev_lisL, ev_lisT, ev_intI, ev_intB, ev_max2, ev_min2, ev_repr, ev_eqRp, ev_slL, ev_slT, ev_slS, ev_seqL, ev_seqT, ev_seqS, ev_inL, ev_inT, ev_isB, ev_dO, ev_dat0, ev_dat1, ev_dat2, ev_dat3, ev_dat4, ev_dat5, ev_dat8, List.getElem?_cons_zero, List.getElem?_cons_succ, List.set_cons_zero, List.set_cons_succ, List.map_cons, List.map_nil, List.cons_append, List.nil_append, List.append_nil, List.replicate, List.length_cons, List.length_nil, Nat.reduceAdd, Nat.reduceSub, Option.some.injEq, List.append_eq, Nat.zero_add, exists_eq', exists_eq_left', Sl.mu.injEq, Mu.l.injEq, Sl.sh.injEq, W.p.injEq, true_and, and_true, or_true, true_or, ite_true, ite_false, if_true, if_false, Bool.false_eq_true, decide_eq_true_eq]
    refine ⟨⟨by decide, by decide⟩, ?_⟩
    refine compW_inv (fun n acc => ∃ xs : List Str, acc = xs.map PyData.str ∧ xs.length = n ∧ (∀ x ∈ xs, SOk x ∧ x.length = 1)) 0 ⟨[], rfl, rfl, by simp⟩ (fun i d acc C hd hI hC => ?_) fun acc hI => ?_
    · obtain ⟨xs, rfl, hl, hx⟩ := hI
      simp only [wSeq2, wNext, wRet, wDrop, wIfS, wSet, wSetO, wSetN, wSetC, wSetIx, wSetI, wSetBx, wSetB, wAug, wApp, wAsg, wPar, wNilO, wConsO, wConsN, wL2N, putR, noUn, wVar, wC, wNil, wCons, wTup, wLst, wFz, wOp, wB, wAnd, wOr, wNot, wAndV, wOrV, wNotV, wIf, wNeg, wCB, wCL, wCallD, wRetB, wIsi, wSl, wNoPart, wPart, wRev, wFrz, wLend, wLendT, wLendL, muW, wFor, wSeq, wRange1, wRange2, wLc, wipeR, wgName, wgTup, wgCons, wgNil, startR, wJoin, wZip, wEnum, wBrk, wCnt, wIxOx, wIxO, wPopSet, wPopAt, wPopAtSet, popAtW, wExt, wSet2, ev_addI, ev_addS, ev_addT, ev_addL, ev_mulI, ev_I, ev_I0, ev_ltI, ev_ltS, ev_ge, ev_eqI, ev_eqS, ev_eqB, ev_p0, ev_p1, ev_p2, ev_lenL, ev_lenT, ev_lenS, ev_lenQ, ev_lenK, ev_tupL, ev_tupT, ev_lisL, ev_lisT, ev_intI, ev_intB, ev_max2, ev_min2, ev_repr, ev_eqRp, ev_slL, ev_slT, ev_slS, ev_seqL, ev_seqT, ev_seqS, ev_inL, ev_inT, ev_isB, ev_dO, ev_dat0, ev_dat1, ev_dat2, ev_dat3, ev_dat4, ev_dat5, ev_dat8, List.getElem?_cons_zero, List.getElem?_cons_succ, List.set_cons_zero, List.set_cons_succ, List.map_cons, List.map_nil, List.cons_append, List.nil_append, List.append_nil, List.replicate, List.length_cons, List.length_nil, Nat.reduceAdd, Nat.reduceSub, Option.some.injEq, List.append_eq, Nat.zero_add, exists_eq', exists_eq_left', Sl.mu.injEq, Mu.l.injEq, Sl.sh.injEq, W.p.injEq, true_and, and_true, or_true, true_or, ite_true, ite_false, if_true, if_false, Bool.false_eq_true, decide_eq_true_eq]
      refine r_take (by decide) (by decide) fun r hr0 hr => ?_
      simp only [wSeq2, wNext, wRet, wDrop, wIfS, wSet, wSetO, wSetN, wSetC, wSetIx, wSetI, wSetBx, wSetB, wAug, wApp, wAsg, wPar, wNilO, wConsO, wConsN, wL2N, putR, noUn, wVar, wC, wNil, wCons, wTup, wLst, wFz, wOp, wB, wAnd, wOr, wNot, wAndV, wOrV, wNotV, wIf, wNeg, wCB, wCL, wCallD, wRetB, wIsi, wSl, wNoPart, wPart, wRev, wFrz, wLend, wLendT, wLendL, muW, wFor, wSeq, wRange1, wRange2, wLc, wipeR, wgName, wgTup, wgCons, wgNil, startR, wJoin, wZip, wEnum, wBrk, wCnt, wIxOx, wIxO, wPopSet, wPopAt, wPopAtSet, popAtW, wExt, wSet2, ev_addI, ev_addS, ev_addT, ev_addL, ev_mulI, ev_I, ev_I0, ev_ltI, ev_ltS, ev_ge, ev_eqI, ev_eqS, ev_eqB, ev_p0, ev_p1, ev_p2, ev_lenL, ev_lenT, ev_lenS, ev_lenQ, ev_lenK, ev_tupL, ev_tupT, ev_lisL, ev_lisT, ev_intI, ev_intB, ev_max2, ev_min2, ev_repr, ev_eqRp, ev_slL, ev_slT, ev_slS, ev_seqL, ev_seqT, ev_seqS, ev_inL, ev_inT, ev_isB, ev_dO, ev_dat0, ev_dat1, ev_dat2, ev_dat3, ev_dat4, ev_dat5, ev_dat8, List.getElem?_cons_zero, List.getElem?_cons_succ, List.set_cons_zero, List.set_cons_succ, List.map_cons, List.map_nil, List.cons_append, List.nil_append, List.append_nil, List.replicate, List.length_cons, List.length_nil, Nat.reduceAdd, Nat.reduceSub, Option.some.injEq, List.append_eq, Nat.zero_add, exists_eq', exists_eq_left', Sl.mu.injEq, Mu.l.injEq, Sl.sh.injEq, W.p.injEq, true_and, and_true, or_true, true_or, ite_true, ite_false, if_true, if_false, Bool.false_eq_true, decide_eq_true_eq]
      refine r_letter hr0 hr fun y hy hy1 => ?_
      refine hC _ ⟨xs ++ [y], by simp, by simp; omega, fun x hx' => ?_⟩
      rcases List.mem_append.mp hx' with z | z
      · exact hx x z
      · rw [List.mem_singleton.mp z]
        exact ⟨hy, hy1⟩
    obtain ⟨ls, rfl, hl4, hx⟩ := hI
    rw [intsFrom_len] at hl4
    obtain ⟨x0, x1, x2, x3, rfl, k0, k1, k2, k3⟩ := four hl4 hx
    have n1 := nameApp k0.1 k1.1 (by omega)
    have n2 := nameApp k2.1 k3.1 (by omega)
    have e0 : ∀ Φ : W → Prop, oIx (.d (.list [.str x0, .str x1, .str x2, .str x3])) (.d (.int 0)) Φ = Φ (.d (.str x0)) := fun _ => rfl
    have e1 : ∀ Φ : W → Prop, oIx (.d (.list [.str x0, .str x1, .str x2, .str x3])) (.d (.int 1)) Φ = Φ (.d (.str x1)) := fun _ => rfl
    have e2 : ∀ Φ : W → Prop, oIx (.d (.list [.str x0, .str x1, .str x2, .str x3])) (.d (.int 2)) Φ = Φ (.d (.str x2)) := fun _ => rfl
    have e3 : ∀ Φ : W → Prop, oIx (.d (.list [.str x0, .str x1, .str x2, .str x3])) (.d (.int 3)) Φ = Φ (.d (.str x3)) := fun _ => rfl
    simp only [wSeq2, wNext, wRet, wDrop, wIfS, wSet, wSetO, wSetN, wSetC, wSetIx, wSetI, wSetBx, wSetB, wAug, wApp, wAsg, wPar, wNilO, wConsO, wConsN, wL2N, putR, noUn, wVar, wC, wNil, wCons, wTup, wLst, wFz, wOp, wB, wAnd, wOr, wNot, wAndV, wOrV, wNotV, wIf, wNeg, wCB, wCL, wCallD, wRetB, wIsi, wSl, wNoPart, wPart, wRev, wFrz, wLend, wLendT, wLendL, muW, wFor, wSeq, wRange1, wRange2, wLc, wipeR, wgName, wgTup, wgCons, wgNil, startR, wJoin, wZip, wEnum, wBrk, wCnt, wIxOx, wIxO, wPopSet, wPopAt, wPopAtSet, popAtW, wExt, wSet2, ev_addI, ev_addS, ev_addT, ev_addL, ev_mulI, ev_I, ev_I0, ev_ltI, ev_ltS, ev_ge, ev_eqI, ev_eqS, ev_eqB, ev_p0, ev_p1, ev_p2, ev_lenL, ev_lenT, ev_lenS, ev_lenQ, ev_lenK, ev_tupL, ev_tupT, ev_lisL, ev_lisT, ev_intI, ev_intB, ev_max2, ev_min2, ev_repr, ev_eqRp, ev_slL, ev_slT, ev_slS, ev_seqL, ev_seqT, ev_seqS, ev_inL, ev_inT, ev_isB, ev_dO, ev_dat0, ev_dat1, ev_dat2, ev_dat3, ev_dat4, ev_dat5, ev_dat8, List.getElem?_cons_zero, List.getElem?_cons_succ, List.set_cons_zero, List.set_cons_succ, List.map_cons, List.map_nil, List.cons_append, List.nil_append, List.append_nil, List.replicate, List.length_cons, List.length_nil, Nat.reduceAdd, Nat.reduceSub, Option.some.injEq, List.append_eq, Nat.zero_add, exists_eq', exists_eq_left', Sl.mu.injEq, Mu.l.injEq, Sl.sh.injEq, W.p.injEq, true_and, and_true, or_true, true_or, ite_true, ite_false, if_true, if_false, Bool.false_eq_true, decide_eq_true_eq, e0, e1, e2, e3]
    refine ⟨by rw [List.length_map]; omega, small_line (by omega), small_line (by omega), ?_⟩
    refine hC _ ⟨row ++ [(x0 ++ x1, x2 ++ x3)], _, _, _, by simp; omega, fun r hr => ?_, by rw [List.map_append]; rfl⟩
    rcases List.mem_append.mp hr with z | z
    · exact ho r z
    · rw [List.mem_singleton.mp z]
      exact ⟨n1, n2⟩
  · obtain ⟨row, s3, s4, s5, hl, ho, rfl⟩ := hI
    rw [intsFrom_len] at hl
    simp only [wSeq2, wNext, wRet, wDrop, wIfS, wSet, wSetO, wSetN, wSetC, wSetIx, wSetI, wSetBx, wSetB, wAug, wApp, wAsg, wPar, wNilO, wConsO, wConsN, wL2N, putR, noUn, wVar, wC, wNil, wCons, wTup, wLst, wFz, wOp, wB, wAnd, wOr, wNot, wAndV, wOrV, wNotV, wIf, wNeg, wCB, wCL, wCallD, wRetB, wIsi, wSl, wNoPart, wPart, wRev, wFrz, wLend, wLendT, wLendL, muW, wFor, wSeq, wRange1, wRange2, wLc, wipeR, wgName, wgTup, wgCons, wgNil, startR, wJoin, wZip, wEnum, wBrk, wCnt, wIxOx, wIxO, wPopSet, wPopAt, wPopAtSet, popAtW, wExt, wSet2, ev_addI, ev_addS, ev_addT, ev_addL, ev_mulI, ev_I, ev_I0, ev_ltI, ev_ltS, ev_ge, ev_eqI, ev_eqS, ev_eqB, ev_p0, ev_p1, ev_p2, ev_lenL, ev_lenT, ev_lenS, ev_lenQ, ev_lenK, ev_tupL, ev_tupT, ev_lisL, ev_lisT, ev_intI, ev_intB, ev_max2, ev_min2, ev_repr, ev_eqRp, ev_slL, ev_slT, ev_slS, ev_seqL, ev_seqT, ev_seqS, ev_inL, ev_inT, ev_isB, ev_dO, ev_dat0, ev_dat1, ev_dat2, ev_dat3, ev_dat4, ev_dat5, ev_dat8, List.getElem?_cons_zero, List.getElem?_cons_succ, List.set_cons_zero, List.set_cons_succ, List.map_cons, List.map_nil, List.cons_append, List.nil_append, List.append_nil, List.replicate, List.length_cons, List.length_nil, Nat.reduceAdd, Nat.reduceSub, Option.some.injEq, List.append_eq, Nat.zero_add, exists_eq', exists_eq_left', Sl.mu.injEq, Mu.l.injEq, Sl.sh.injEq, W.p.injEq, true_and, and_true, or_true, true_or, ite_true, ite_false, if_true, if_false, Bool.false_eq_true, decide_eq_true_eq]
    exact q row ⟨by omega, ho⟩
end Pd
end

section
set_option Elab.async false
set_option linter.all false
set_option maxRecDepth 100000
set_option autoImplicit false
set_option maxHeartbeats 4000000
namespace Pd
open PySem PySem.Spec PyProof.Rows L2
/-! ### order of texts -/
def leS (a b : Str) : Prop := ¬ (b.cps.toList < a.cps.toList)
theorem str_ext {a b : Str} (h : a.cps.toList = b.cps.toList) : a = b := by
  cases a with
  | mk x =>
    cases b with
    | mk y =>
      have : x = y := Array.ext' h
      rw [this]
theorem leS_trans {a b c : Str} (h1 : leS a b) (h2 : leS b c) : leS a c := by
  unfold leS at *
  rw [List.not_lt] at *
  exact List.le_trans h1 h2
theorem leS_anti {a b : Str} (h1 : leS a b) (h2 : leS b a) : a = b := by
  unfold leS at *
  rw [List.not_lt] at *
  exact str_ext (List.le_antisymm h1 h2)
theorem rising_pw : ∀ {l : List Str} {p : Str}, risingS p l = true → (∀ x ∈ l, leS p x) ∧ l.Pairwise leS
  | [], _, _ => ⟨by simp, .nil⟩
  | x :: r, p, h => by
    unfold risingS at h
    rw [Bool.and_eq_true, Bool.not_eq_true', ltCps_eq, decide_eq_false_iff_not] at h
    obtain ⟨h1, h2⟩ := h
    obtain ⟨q1, q2⟩ := rising_pw h2
    refine ⟨fun y hy => ?_, .cons q1 q2⟩
    rcases List.mem_cons.mp hy with rfl | hy
    · exact h1
    · exact leS_trans (b := x) h1 (q1 y hy)
theorem sorted_pw {l : List Str} (h : sortedS l = true) : l.Pairwise leS := by
  cases l with
  | nil => exact .nil
  | cons x r =>
    obtain ⟨q1, q2⟩ := rising_pw (l := r) (p := x) h
    exact .cons q1 q2
theorem sorted_uniq {k l : List Str} (nk : k.Nodup) (nl : l.Nodup) (pk : k.Pairwise leS) (pl : l.Pairwise leS) (h : ∀ x, x ∈ k ↔ x ∈ l) : k = l :=
  List.Perm.eq_of_pairwise (fun _ _ _ _ h1 h2 => leS_anti h1 h2) pk pl ((List.perm_ext_iff_of_nodup nk nl).mpr h)
/-! ### groups -/
structure KeysOf (ks : List Str) (row : List Deed) : Prop where
  nd : ks.Nodup
  pw : ks.Pairwise leS
  mem : ∀ k, k ∈ ks ↔ ∃ p ∈ row, p.1 = k
theorem KeysOf.eq {ks ls : List Str} {row : List Deed} (h : KeysOf ks row) (h2 : KeysOf ls row) : ks = ls := sorted_uniq h.nd h2.nd h.pw h2.pw fun x => (h.mem x).trans (h2.mem x).symm
def groupOf (row : List Deed) (k : Str) : List D := (row.filter fun p => decide (p.1 = k)).map fun p => PyData.str p.2
def groupD (row : List Deed) (k : Str) : D := .tuple [.str k, .tuple (groupOf row k)]
def groupsD (ks : List Str) (row : List Deed) : D := .tuple (ks.map (groupD row))
def isRow (r : D) (row : List Deed) : Prop := r = .list (row.map deedD) ∨ r = .tuple (row.map deedD)
def F_grouped : FW := fun ws Φ => ∃ r row, ws = [.d r] ∧ isRow r row ∧ RowOk row ∧ ∀ ks, KeysOf ks row → Φ (.d (groupsD ks row))
theorem l_grouped (ws : List W) (Φ : W → Prop) (h : F_grouped ws Φ) : ws.length = 1 := by
  obtain ⟨a, row, rfl, _⟩ := h
  rfl
theorem findK_appE (k k' : Key) (x : D) : ∀ kvs : KL, findK (appE kvs k x) k' = if k' = k then (findK kvs k).map fun p => (p.1, p.2 ++ [x]) else findK kvs k'
  | [] => by
    show none = _
    split <;> rfl
  | (k1, b, ds) :: r => by
    have ih := findK_appE k k' x r
    unfold appE
    by_cases h : k1 = k
    · rw [if_pos h]
      unfold findK
      by_cases h2 : k' = k
      · subst h2
        rw [if_pos rfl, List.find?_cons_of_pos (by simpa using h), List.find?_cons_of_pos (by simpa using h)]
        rfl
      · have h3 : ¬ k1 = k' := fun z => h2 (z.symm.trans h)
        rw [if_neg h2, List.find?_cons_of_neg (by simpa using h3), List.find?_cons_of_neg (by simpa using h3)]
    · rw [if_neg h]
      unfold findK at ih ⊢
      by_cases h2 : k1 = k'
      · have h3 : ¬ k' = k := fun z => h (h2.trans z)
        rw [if_neg h3, List.find?_cons_of_pos (by simpa using h2), List.find?_cons_of_pos (by simpa using h2)]
      · rw [List.find?_cons_of_neg (by simpa using h2), ih]
        split
        · rw [List.find?_cons_of_neg (by simpa using h)]
        · rw [List.find?_cons_of_neg (by simpa using h2)]
theorem appE_key (k : Key) (x : D) : ∀ kvs : KL, (appE kvs k x).map (·.1) = kvs.map (·.1)
  | [] => rfl
  | (k1, b, ds) :: r => by
    unfold appE
    split
    · rfl
    · rw [List.map_cons, List.map_cons, appE_key k x r]
theorem findK_none {kvs : KL} {k : Key} : findK kvs k = none ↔ k ∉ kvs.map (·.1) := by
  unfold findK
  rw [Option.map_eq_none_iff, List.find?_eq_none]
  constructor
  · intro h hk
    obtain ⟨y, hy, rfl⟩ := List.mem_map.mp hk
    exact h y hy (by simp)
  · intro h y hy hk
    exact h (List.mem_map.mpr ⟨y, hy, by simpa using hk⟩)
theorem findK_putE (k k' : Key) (p : Addr) (kvs : KL) : findK (putE kvs k p) k' = if k' = k then some ((findK kvs k).getD (p, [])) else findK kvs k' := by
  unfold putE
  cases q : findK kvs k with
  | some z =>
    simp only
    by_cases h : k' = k
    · rw [if_pos h, h, q]
      rfl
    · rw [if_neg h]
  | none =>
    simp only
    unfold findK at q ⊢
    rw [Option.map_eq_none_iff] at q
    by_cases h : k' = k
    · subst h
      rw [if_pos rfl, List.find?_append, q]
      simp
    · have h3 : ¬ k = k' := fun z => h z.symm
      rw [if_neg h, List.find?_append]
      simp [h3]
theorem putE_in {k : Key} {p : Addr} {kvs : KL} (h : k ∈ kvs.map (·.1)) : (putE kvs k p).map (·.1) = kvs.map (·.1) := by
  unfold putE
  cases q : findK kvs k with
  | some z => rfl
  | none => exact absurd h (findK_none.mp q)
theorem putE_out {k : Key} {p : Addr} {kvs : KL} (h : k ∉ kvs.map (·.1)) : (putE kvs k p).map (·.1) = kvs.map (·.1) ++ [k] := by
  unfold putE
  rw [findK_none.mpr h]
  simp
structure Grp (kvs : KL) (done : List Deed) : Prop where
  ks : ∃ ks : List Str, kvs.map (·.1) = ks.map Sum.inr ∧ ks.Nodup ∧ ks.length ≤ done.length ∧ ∀ k, k ∈ ks ↔ ∃ p ∈ done, p.1 = k
  at_ : ∀ k b ds, findK kvs (.inr k) = some (b, ds) → ds = groupOf done k
theorem groupOf_app (done : List Deed) (k : Str) (d : Deed) : groupOf (done ++ [d]) k = if d.1 = k then groupOf done k ++ [PyData.str d.2] else groupOf done k := by
  unfold groupOf
  rw [List.filter_append, List.map_append]
  by_cases h : d.1 = k
  · rw [if_pos h, List.filter_cons_of_pos (by simpa using h)]
    simp
  · rw [if_neg h, List.filter_cons_of_neg (by simpa using h)]
    simp
theorem groupOf_new {done : List Deed} {k : Str} (h : ¬ ∃ p ∈ done, p.1 = k) : groupOf done k = [] := by
  unfold groupOf
  rw [List.map_eq_nil_iff, List.filter_eq_nil_iff]
  intro p hp
  simp only [decide_eq_true_eq]
  exact fun e => h ⟨p, hp, e⟩
theorem Grp.step {kvs : KL} {done : List Deed} (h : Grp kvs done) (d : Deed) (p : Addr) : Grp (appE (putE kvs (.inr d.1) p) (.inr d.1) (.str d.2)) (done ++ [d]) := by
  obtain ⟨ks, e, nd, hl, hm⟩ := h.ks
  have hin : (Sum.inr d.1 : Key) ∈ kvs.map (·.1) ↔ d.1 ∈ ks := by
    rw [e]
    constructor
    · intro q
      obtain ⟨y, hy, z⟩ := List.mem_map.mp q
      cases z
      exact hy
    · intro q
      exact List.mem_map.mpr ⟨_, q, rfl⟩
  have mem' : ∀ k, (∃ q ∈ done ++ [d], q.1 = k) ↔ (∃ q ∈ done, q.1 = k) ∨ d.1 = k := fun k => by
    constructor
    · rintro ⟨q, hq, z⟩
      rcases List.mem_append.mp hq with w | w
      · exact .inl ⟨q, w, z⟩
      · rw [List.mem_singleton.mp w] at z
        exact .inr z
    · rintro (⟨q, hq, z⟩ | z)
      · exact ⟨q, List.mem_append_left _ hq, z⟩
      · exact ⟨d, by simp, z⟩
  refine ⟨?_, fun k b ds hf => ?_⟩
  · rw [appE_key]
    by_cases hk : d.1 ∈ ks
    · refine ⟨ks, by rw [putE_in (hin.mpr hk), e], nd, by rw [List.length_append]; omega, fun k => ?_⟩
      rw [mem', ← hm k]
      constructor
      · exact .inl
      · rintro (z | z)
        · exact z
        · exact z ▸ hk
    · refine ⟨ks ++ [d.1], by rw [putE_out (fun z => hk (hin.mp z)), e]; simp, ?_, by simp; omega, fun k => ?_⟩
      · rw [List.nodup_append]
        refine ⟨nd, by simp, fun x hx y hy z => ?_⟩
        rw [List.mem_singleton] at hy
        subst hy
        subst z
        exact hk hx
      · rw [mem', ← hm k, List.mem_append, List.mem_singleton]
        constructor
        · rintro (z | z)
          · exact .inl z
          · exact .inr z.symm
        · rintro (z | z)
          · exact .inl z
          · exact .inr z.symm
  · rw [findK_appE] at hf
    rw [groupOf_app]
    by_cases hk : k = d.1
    · subst hk
      rw [if_pos rfl, findK_putE, if_pos rfl] at hf
      rw [if_pos rfl]
      cases q : findK kvs (.inr d.1) with
      | none =>
        rw [q] at hf
        simp at hf
        obtain ⟨_, rfl⟩ := hf
        have : ¬ ∃ p ∈ done, p.1 = d.1 := fun z => findK_none.mp q (hin.mpr ((hm _).mpr z))
        rw [groupOf_new this]
        rfl
      | some z =>
        obtain ⟨b', ds'⟩ := z
        rw [q] at hf
        simp at hf
        obtain ⟨_, rfl⟩ := hf
        rw [h.at_ _ _ _ q]
    · have hk2 : ¬ (Sum.inr k : Key) = Sum.inr d.1 := fun z => hk (Sum.inr.inj z)
      rw [if_neg hk2, findK_putE, if_neg hk2] at hf
      rw [if_neg (fun z => hk z.symm)]
      exact h.at_ _ _ _ hf
theorem keysS_map : ∀ {kvs : KL} {ks : List Str}, kvs.map (·.1) = ks.map Sum.inr → keysS (kvs.map fun p => (p.1, PyData.list p.2.2)) = some ks
  | [], ks, e => by
    cases ks with
    | nil => rfl
    | cons k ks => cases e
  | (k1, b, ds) :: r, ks, e => by
    cases ks with
    | nil => cases e
    | cons k ks =>
      rw [List.map_cons, List.map_cons] at e
      obtain ⟨e1, e2⟩ := List.cons.inj e
      have e1' : k1 = Sum.inr k := e1
      subst e1'
      rw [List.map_cons]
      unfold keysS
      rw [keysS_map e2]
theorem valD_kl (k : Key) : ∀ kvs : KL, valD (kvs.map fun p => (p.1, PyData.list p.2.2)) k = (findK kvs k).map fun p => PyData.list p.2
  | [] => rfl
  | (k', b, ds) :: r => by
    have ih := valD_kl k r
    unfold findK valD at ih ⊢
    rw [List.map_cons, List.find?_cons, List.find?_cons]
    by_cases h : k' = k
    · simp [h]
    · simp only [h, decide_false]
      exact ih
theorem strs_noList (xs : List Str) : noListA (xs.map PyData.str) = true := by
  induction xs with
  | nil => rfl
  | cons x xs ih =>
    rw [List.map_cons, noListA, ih]
    rfl
theorem group_noList (row : List Deed) (k : Str) : noListA (groupOf row k) = true := by
  unfold groupOf
  have key : ∀ l : List Deed, noListA (l.map fun p => PyData.str p.2) = true := fun l => by
    induction l with
    | nil => rfl
    | cons x l ih =>
      rw [List.map_cons, noListA, ih]
      rfl
  exact key _
def grpF (row : List Deed) : D → D
  | .str k => groupD row k
  | _ => .none
theorem m_grouped (ws : List W) (Φ : W → Prop) (h : F_grouped ws Φ) : w_grouped (startR n_grouped ws) ⟨fun _ => Φ (.d .none), Φ, fun _ => False, fun _ => False⟩ := by
  obtain ⟨r, row, rfl, hr, ok, q⟩ := h
  have key : ∀ P : Ps, (∀ kvs s2 s3, Grp kvs row → P.nx [.sh (.d r), .mu (.kl kvs), s2, s3]) → forW (wgTup 2 (wgCons (wgName 2) (wgCons (wgName 3) wgNil))) (wSdApp 1 (wVar 2) (wVar 3)) (row.map deedD) [.sh (.d r), .mu (.kl []), .un, .un] P := by
    intro P hP
    refine forW_ind (fun ds ρ' => ∃ done todo kvs s2 s3, row = done ++ todo ∧ ds = todo.map deedD ∧ Grp kvs done ∧ ρ' = [.sh (.d r), .mu (.kl kvs), s2, s3]) ⟨[], row, [], .un, .un, rfl, rfl, ⟨⟨[], rfl, .nil, by simp, by simp⟩, fun k b ds hf => by cases hf⟩, rfl⟩ (fun d ds ρ' C hI hC => ?_) fun ρ' hI => ?_
    · obtain ⟨done, todo, kvs, s2, s3, hrow, hds, hg, rfl⟩ := hI
      cases todo with
      | nil => cases hds
      | cons t todo =>
        rw [List.map_cons] at hds
        obtain ⟨rfl, rfl⟩ := List.cons.inj hds
        have hle : done.length ≤ 60 := by
          have h1 := ok.len
          rw [hrow, List.length_append] at h1
          omega
        obtain ⟨ks, e, nd, hl, hm⟩ := hg.ks
        simp only [deedD, wSeq2, wNext, wRet, wDrop, wIfS, wSet, wSetO, wSetN, wSetC, wSetIx, wSetI, wSetBx, wSetB, wAug, wApp, wAsg, wPar, wNilO, wConsO, wConsN, wL2N, putR, noUn, wVar, wC, wNil, wCons, wTup, wLst, wFz, wOp, wB, wAnd, wOr, wNot, wAndV, wOrV, wNotV, wIf, wNeg, wCB, wCL, wCallD, wRetB, wIsi, wSl, wNoPart, wPart, wRev, wFrz, wLend, wLendT, wLendL, muW, wFor, wSeq, wRange1, wRange2, wLc, wipeR, wgName, wgTup, wgCons, wgNil, startR, wJoin, wZip, wEnum, wBrk, wCnt, wIxOx, wIxO, wPopSet, wPopAt, wPopAtSet, popAtW, wExt, wSet2, ev_addI, ev_addS, ev_addT, ev_addL, ev_mulI, ev_I, ev_I0, ev_ltI, ev_ltS, ev_ge, ev_eqI, ev_eqS, ev_eqB, ev_p0, ev_p1, ev_p2, ev_lenL, ev_lenT, ev_lenS, ev_lenQ, ev_lenK, ev_tupL, ev_tupT, ev_lisL, ev_lisT, ev_intI, ev_intB, ev_max2, ev_min2, ev_repr, ev_eqRp, ev_slL, ev_slT, ev_slS, ev_seqL, ev_seqT, ev_seqS, ev_inL, ev_inT, ev_isB, ev_dO, ev_dat0, ev_dat1, ev_dat2, ev_dat3, ev_dat4, ev_dat5, ev_dat8, List.getElem?_cons_zero, List.getElem?_cons_succ, List.set_cons_zero, List.set_cons_succ, List.map_cons, List.map_nil, List.cons_append, List.nil_append, List.append_nil, List.replicate, List.length_cons, List.length_nil, Nat.reduceAdd, Nat.reduceSub, Option.some.injEq, List.append_eq, Nat.zero_add, exists_eq', exists_eq_left', Sl.mu.injEq, Mu.l.injEq, Sl.sh.injEq, W.p.injEq, true_and, and_true, or_true, true_or, ite_true, ite_false, if_true, if_false, Bool.false_eq_true, decide_eq_true_eq, wSdApp, keyD]
        have hlen : kvs.length ≤ 1000000 := by
          have h1 := congrArg List.length e
          rw [List.length_map, List.length_map] at h1
          omega
        refine ⟨hlen, fun p => ⟨fun b ds hf => ?_, ?_⟩⟩
        · rw [findK_putE, if_pos rfl] at hf
          cases q2 : findK kvs (.inr t.1) with
          | none =>
            rw [q2] at hf
            simp at hf
            rw [hf.2]
            simp
          | some z =>
            obtain ⟨b', ds'⟩ := z
            rw [q2] at hf
            simp at hf
            obtain ⟨_, rfl⟩ := hf
            rw [hg.at_ _ _ _ q2]
            unfold groupOf
            rw [List.length_map]
            have := List.length_filter_le (fun p : Deed => decide (p.1 = t.1)) done
            omega
        · exact hC _ ⟨done ++ [t], todo, _, _, _, by rw [hrow]; simp, rfl, hg.step t p, rfl⟩
    · obtain ⟨done, todo, kvs, s2, s3, hrow, hds, hg, rfl⟩ := hI
      have : todo = [] := by simpa using hds.symm
      subst this
      rw [List.append_nil] at hrow
      subst hrow
      exact hP kvs s2 s3 hg
  have go : ∀ kvs s2 s3, Grp kvs row → wRet (wCB oTuple (wCons (wFz (wLc (wSeq (wFz (wLendL 1 (wCL oSortS (wCons (wVar 1) wNil))))) (wgName 2) wYes (wTup (wCons (wVar 2) (wCons (wLend 1 (wCB oTuple (wCons (wOp oDGet (wVar 1) (wVar 2)) wNil))) wNil))) [2])) wNil)) [.sh (.d r), .mu (.kl kvs), s2, s3] ⟨fun _ => Φ (.d .none), Φ, fun _ => False, fun _ => False⟩ := by
    intro kvs s2 s3 hg
    obtain ⟨ks, e, nd, hl, hm⟩ := hg.ks
    simp only [wSeq2, wNext, wRet, wDrop, wIfS, wSet, wSetO, wSetN, wSetC, wSetIx, wSetI, wSetBx, wSetB, wAug, wApp, wAsg, wPar, wNilO, wConsO, wConsN, wL2N, putR, noUn, wVar, wC, wNil, wCons, wTup, wLst, wFz, wOp, wB, wAnd, wOr, wNot, wAndV, wOrV, wNotV, wIf, wNeg, wCB, wCL, wCallD, wRetB, wIsi, wSl, wNoPart, wPart, wRev, wFrz, wLend, wLendT, wLendL, muW, wFor, wSeq, wRange1, wRange2, wLc, wipeR, wgName, wgTup, wgCons, wgNil, startR, wJoin, wZip, wEnum, wBrk, wCnt, wIxOx, wIxO, wPopSet, wPopAt, wPopAtSet, popAtW, wExt, wSet2, ev_addI, ev_addS, ev_addT, ev_addL, ev_mulI, ev_I, ev_I0, ev_ltI, ev_ltS, ev_ge, ev_eqI, ev_eqS, ev_eqB, ev_p0, ev_p1, ev_p2, ev_lenL, ev_lenT, ev_lenS, ev_lenQ, ev_lenK, ev_tupL, ev_tupT, ev_lisL, ev_lisT, ev_intI, ev_intB, ev_max2, ev_min2, ev_repr, ev_eqRp, ev_slL, ev_slT, ev_slS, ev_seqL, ev_seqT, ev_seqS, ev_inL, ev_inT, ev_isB, ev_dO, ev_dat0, ev_dat1, ev_dat2, ev_dat3, ev_dat4, ev_dat5, ev_dat8, List.getElem?_cons_zero, List.getElem?_cons_succ, List.set_cons_zero, List.set_cons_succ, List.map_cons, List.map_nil, List.cons_append, List.nil_append, List.append_nil, List.replicate, List.length_cons, List.length_nil, Nat.reduceAdd, Nat.reduceSub, Option.some.injEq, List.append_eq, Nat.zero_add, exists_eq', exists_eq_left', Sl.mu.injEq, Mu.l.injEq, Sl.sh.injEq, W.p.injEq, true_and, and_true, or_true, true_or, ite_true, ite_false, if_true, if_false, Bool.false_eq_true, decide_eq_true_eq, oSortS]
    rw [keysS_map e]
    simp only
    have hlen := ok.len
    refine ⟨by omega, fun x hx => ?_, fun ys hp hs => ⟨strs_noList ys, ?_⟩⟩
    · obtain ⟨p, hp, rfl⟩ := (hm x).mp hx
      exact ⟨(ok.ok p hp).1.ok.ok, by have := (ok.ok p hp).1.len; omega⟩
    · refine compW_map (grpF row) (fun d hd T hT => ?_) ?_
      · obtain ⟨k, hk, rfl⟩ := List.mem_map.mp hd
        simp only [wSeq2, wNext, wRet, wDrop, wIfS, wSet, wSetO, wSetN, wSetC, wSetIx, wSetI, wSetBx, wSetB, wAug, wApp, wAsg, wPar, wNilO, wConsO, wConsN, wL2N, putR, noUn, wVar, wC, wNil, wCons, wTup, wLst, wFz, wOp, wB, wAnd, wOr, wNot, wAndV, wOrV, wNotV, wIf, wNeg, wCB, wCL, wCallD, wRetB, wIsi, wSl, wNoPart, wPart, wRev, wFrz, wLend, wLendT, wLendL, muW, wFor, wSeq, wRange1, wRange2, wLc, wipeR, wgName, wgTup, wgCons, wgNil, startR, wJoin, wZip, wEnum, wBrk, wCnt, wIxOx, wIxO, wPopSet, wPopAt, wPopAtSet, popAtW, wExt, wSet2, ev_addI, ev_addS, ev_addT, ev_addL, ev_mulI, ev_I, ev_I0, ev_ltI, ev_ltS, ev_ge, ev_eqI, ev_eqS, ev_eqB, ev_p0, ev_p1, ev_p2, ev_lenL, ev_lenT, ev_lenS, ev_lenQ, ev_lenK, ev_tupL, ev_tupT, ev_lisL, ev_lisT, ev_intI, ev_intB, ev_max2, ev_min2, ev_repr, ev_eqRp, ev_slL, ev_slT, ev_slS, ev_seqL, ev_seqT, ev_seqS, ev_inL, ev_inT, ev_isB, ev_dO, ev_dat0, ev_dat1, ev_dat2, ev_dat3, ev_dat4, ev_dat5, ev_dat8, List.getElem?_cons_zero, List.getElem?_cons_succ, List.set_cons_zero, List.set_cons_succ, List.map_cons, List.map_nil, List.cons_append, List.nil_append, List.append_nil, List.replicate, List.length_cons, List.length_nil, Nat.reduceAdd, Nat.reduceSub, Option.some.injEq, List.append_eq, Nat.zero_add, exists_eq', exists_eq_left', Sl.mu.injEq, Mu.l.injEq, Sl.sh.injEq, W.p.injEq, true_and, and_true, or_true, true_or, ite_true, ite_false, if_true, if_false, Bool.false_eq_true, decide_eq_true_eq, oDGet, keyD, valD_kl]
        cases q2 : findK kvs (.inr k) with
        | none =>
          refine absurd ?_ (findK_none.mp q2)
          rw [e]
          exact List.mem_map.mpr ⟨k, hp.mem_iff.mp hk, rfl⟩
        | some z =>
          obtain ⟨b, ds⟩ := z
          rw [hg.at_ _ _ _ q2]
          simp only [Option.map_some, wSeq2, wNext, wRet, wDrop, wIfS, wSet, wSetO, wSetN, wSetC, wSetIx, wSetI, wSetBx, wSetB, wAug, wApp, wAsg, wPar, wNilO, wConsO, wConsN, wL2N, putR, noUn, wVar, wC, wNil, wCons, wTup, wLst, wFz, wOp, wB, wAnd, wOr, wNot, wAndV, wOrV, wNotV, wIf, wNeg, wCB, wCL, wCallD, wRetB, wIsi, wSl, wNoPart, wPart, wRev, wFrz, wLend, wLendT, wLendL, muW, wFor, wSeq, wRange1, wRange2, wLc, wipeR, wgName, wgTup, wgCons, wgNil, startR, wJoin, wZip, wEnum, wBrk, wCnt, wIxOx, wIxO, wPopSet, wPopAt, wPopAtSet, popAtW, wExt, wSet2, ev_addI, ev_addS, ev_addT, ev_addL, ev_mulI, ev_I, ev_I0, ev_ltI, ev_ltS, ev_ge, ev_eqI, ev_eqS, ev_eqB, ev_p0, ev_p1, ev_p2, ev_lenL, ev_lenT, ev_lenS, ev_lenQ, ev_lenK, ev_tupL, ev_tupT, ev_lisL, ev_lisT, ev_intI, ev_intB, ev_max2, ev_min2, ev_repr, ev_eqRp, ev_slL, ev_slT, ev_slS, ev_seqL, ev_seqT, ev_seqS, ev_inL, ev_inT, ev_isB, ev_dO, ev_dat0, ev_dat1, ev_dat2, ev_dat3, ev_dat4, ev_dat5, ev_dat8, List.getElem?_cons_zero, List.getElem?_cons_succ, List.set_cons_zero, List.set_cons_succ, List.map_cons, List.map_nil, List.cons_append, List.nil_append, List.append_nil, List.replicate, List.length_cons, List.length_nil, Nat.reduceAdd, Nat.reduceSub, Option.some.injEq, List.append_eq, Nat.zero_add, exists_eq', exists_eq_left', Sl.mu.injEq, Mu.l.injEq, Sl.sh.injEq, W.p.injEq, true_and, and_true, or_true, true_or, ite_true, ite_false, if_true, if_false, Bool.false_eq_true, decide_eq_true_eq]
          exact ⟨group_noList row k, hT⟩
      · simp only [List.nil_append, wSeq2, wNext, wRet, wDrop, wIfS, wSet, wSetO, wSetN, wSetC, wSetIx, wSetI, wSetBx, wSetB, wAug, wApp, wAsg, wPar, wNilO, wConsO, wConsN, wL2N, putR, noUn, wVar, wC, wNil, wCons, wTup, wLst, wFz, wOp, wB, wAnd, wOr, wNot, wAndV, wOrV, wNotV, wIf, wNeg, wCB, wCL, wCallD, wRetB, wIsi, wSl, wNoPart, wPart, wRev, wFrz, wLend, wLendT, wLendL, muW, wFor, wSeq, wRange1, wRange2, wLc, wipeR, wgName, wgTup, wgCons, wgNil, startR, wJoin, wZip, wEnum, wBrk, wCnt, wIxOx, wIxO, wPopSet, wPopAt, wPopAtSet, popAtW, wExt, wSet2, ev_addI, ev_addS, ev_addT, ev_addL, ev_mulI, ev_I, ev_I0, ev_ltI, ev_ltS, ev_ge, ev_eqI, ev_eqS, ev_eqB, ev_p0, ev_p1, ev_p2, ev_lenL, ev_lenT, ev_lenS, ev_lenQ, ev_lenK, ev_tupL, ev_tupT, ev_lisL, ev_lisT, ev_intI, ev_intB, ev_max2, ev_min2, ev_repr, ev_eqRp, ev_slL, ev_slT, ev_slS, ev_seqL, ev_seqT, ev_seqS, ev_inL, ev_inT, ev_isB, ev_dO, ev_dat0, ev_dat1, ev_dat2, ev_dat3, ev_dat4, ev_dat5, ev_dat8, List.getElem?_cons_zero, List.getElem?_cons_succ, List.set_cons_zero, List.set_cons_succ, List.map_cons, List.map_nil, List.cons_append, List.nil_append, List.append_nil, List.replicate, List.length_cons, List.length_nil, Nat.reduceAdd, Nat.reduceSub, Option.some.injEq, List.append_eq, Nat.zero_add, exists_eq', exists_eq_left', Sl.mu.injEq, Mu.l.injEq, Sl.sh.injEq, W.p.injEq, true_and, and_true, or_true, true_or, ite_true, ite_false, if_true, if_false, Bool.false_eq_true, decide_eq_true_eq]
        have : (ys.map PyData.str).map (grpF row) = ys.map (groupD row) := by
          rw [List.map_map]
          rfl
        rw [this]
        exact q ys ⟨hp.nodup_iff.mpr nd, sorted_pw hs, fun k => (hp.mem_iff).trans (hm k)⟩
  simp only [w_grouped, n_grouped, wSeq2, wNext, wRet, wDrop, wIfS, wSet, wSetO, wSetN, wSetC, wSetIx, wSetI, wSetBx, wSetB, wAug, wApp, wAsg, wPar, wNilO, wConsO, wConsN, wL2N, putR, noUn, wVar, wC, wNil, wCons, wTup, wLst, wFz, wOp, wB, wAnd, wOr, wNot, wAndV, wOrV, wNotV, wIf, wNeg, wCB, wCL, wCallD, wRetB, wIsi, wSl, wNoPart, wPart, wRev, wFrz, wLend, wLendT, wLendL, muW, wFor, wSeq, wRange1, wRange2, wLc, wipeR, wgName, wgTup, wgCons, wgNil, startR, wJoin, wZip, wEnum, wBrk, wCnt, wIxOx, wIxO, wPopSet, wPopAt, wPopAtSet, popAtW, wExt, wSet2, ev_addI, ev_addS, ev_addT, ev_addL, ev_mulI, ev_I, ev_I0, ev_ltI, ev_ltS, ev_ge, ev_eqI, ev_eqS, ev_eqB, ev_p0, ev_p1, ev_p2, ev_lenL, ev_lenT, ev_lenS, ev_lenQ, ev_lenK, ev_tupL, ev_tupT, ev_lisL, ev_lisT, ev_intI, ev_intB, ev_max2, ev_min2, ev_repr, ev_eqRp, ev_slL, ev_slT, ev_slS, ev_seqL, ev_seqT, ev_seqS, ev_inL, ev_inT, ev_isB, ev_dO, ev_dat0, ev_dat1, ev_dat2, ev_dat3, ev_dat4, ev_dat5, ev_dat8, List.getElem?_cons_zero, List.getElem?_cons_succ, List.set_cons_zero, List.set_cons_succ, List.map_cons, List.map_nil, List.cons_append, List.nil_append, List.append_nil, List.replicate, List.length_cons, List.length_nil, Nat.reduceAdd, Nat.reduceSub, Option.some.injEq, List.append_eq, Nat.zero_add, exists_eq', exists_eq_left', Sl.mu.injEq, Mu.l.injEq, Sl.sh.injEq, W.p.injEq, true_and, and_true, or_true, true_or, ite_true, ite_false, if_true, if_false, Bool.false_eq_true, decide_eq_true_eq]
  rcases hr with rfl | rfl
  · simp only [wSeq2, wNext, wRet, wDrop, wIfS, wSet, wSetO, wSetN, wSetC, wSetIx, wSetI, wSetBx, wSetB, wAug, wApp, wAsg, wPar, wNilO, wConsO, wConsN, wL2N, putR, noUn, wVar, wC, wNil, wCons, wTup, wLst, wFz, wOp, wB, wAnd, wOr, wNot, wAndV, wOrV, wNotV, wIf, wNeg, wCB, wCL, wCallD, wRetB, wIsi, wSl, wNoPart, wPart, wRev, wFrz, wLend, wLendT, wLendL, muW, wFor, wSeq, wRange1, wRange2, wLc, wipeR, wgName, wgTup, wgCons, wgNil, startR, wJoin, wZip, wEnum, wBrk, wCnt, wIxOx, wIxO, wPopSet, wPopAt, wPopAtSet, popAtW, wExt, wSet2, ev_addI, ev_addS, ev_addT, ev_addL, ev_mulI, ev_I, ev_I0, ev_ltI, ev_ltS, ev_ge, ev_eqI, ev_eqS, ev_eqB, ev_p0, ev_p1, ev_p2, ev_lenL, ev_lenT, ev_lenS, ev_lenQ, ev_lenK, ev_tupL, ev_tupT, ev_lisL, ev_lisT, ev_intI, ev_intB, ev_max2, ev_min2, ev_repr, ev_eqRp, ev_slL, ev_slT, ev_slS, ev_seqL, ev_seqT, ev_seqS, ev_inL, ev_inT, ev_isB, ev_dO, ev_dat0, ev_dat1, ev_dat2, ev_dat3, ev_dat4, ev_dat5, ev_dat8, List.getElem?_cons_zero, List.getElem?_cons_succ, List.set_cons_zero, List.set_cons_succ, List.map_cons, List.map_nil, List.cons_append, List.nil_append, List.append_nil, List.replicate, List.length_cons, List.length_nil, Nat.reduceAdd, Nat.reduceSub, Option.some.injEq, List.append_eq, Nat.zero_add, exists_eq', exists_eq_left', Sl.mu.injEq, Mu.l.injEq, Sl.sh.injEq, W.p.injEq, true_and, and_true, or_true, true_or, ite_true, ite_false, if_true, if_false, Bool.false_eq_true, decide_eq_true_eq]
    exact key _ go
  · simp only [wSeq2, wNext, wRet, wDrop, wIfS, wSet, wSetO, wSetN, wSetC, wSetIx, wSetI, wSetBx, wSetB, wAug, wApp, wAsg, wPar, wNilO, wConsO, wConsN, wL2N, putR, noUn, wVar, wC, wNil, wCons, wTup, wLst, wFz, wOp, wB, wAnd, wOr, wNot, wAndV, wOrV, wNotV, wIf, wNeg, wCB, wCL, wCallD, wRetB, wIsi, wSl, wNoPart, wPart, wRev, wFrz, wLend, wLendT, wLendL, muW, wFor, wSeq, wRange1, wRange2, wLc, wipeR, wgName, wgTup, wgCons, wgNil, startR, wJoin, wZip, wEnum, wBrk, wCnt, wIxOx, wIxO, wPopSet, wPopAt, wPopAtSet, popAtW, wExt, wSet2, ev_addI, ev_addS, ev_addT, ev_addL, ev_mulI, ev_I, ev_I0, ev_ltI, ev_ltS, ev_ge, ev_eqI, ev_eqS, ev_eqB, ev_p0, ev_p1, ev_p2, ev_lenL, ev_lenT, ev_lenS, ev_lenQ, ev_lenK, ev_tupL, ev_tupT, ev_lisL, ev_lisT, ev_intI, ev_intB, ev_max2, ev_min2, ev_repr, ev_eqRp, ev_slL, ev_slT, ev_slS, ev_seqL, ev_seqT, ev_seqS, ev_inL, ev_inT, ev_isB, ev_dO, ev_dat0, ev_dat1, ev_dat2, ev_dat3, ev_dat4, ev_dat5, ev_dat8, List.getElem?_cons_zero, List.getElem?_cons_succ, List.set_cons_zero, List.set_cons_succ, List.map_cons, List.map_nil, List.cons_append, List.nil_append, List.append_nil, List.replicate, List.length_cons, List.length_nil, Nat.reduceAdd, Nat.reduceSub, Option.some.injEq, List.append_eq, Nat.zero_add, exists_eq', exists_eq_left', Sl.mu.injEq, Mu.l.injEq, Sl.sh.injEq, W.p.injEq, true_and, and_true, or_true, true_or, ite_true, ite_false, if_true, if_false, Bool.false_eq_true, decide_eq_true_eq]
    exact key _ go
end Pd
end

section
set_option Elab.async false
set_option linter.all false
set_option maxRecDepth 100000
set_option autoImplicit false
set_option maxHeartbeats 4000000
namespace Pd
open PySem PySem.Spec PyProof.Rows L2
def swapR (row : List Deed) : List Deed := row.map fun p => (p.2, p.1)
theorem swap_ok {row : List Deed} (h : RowOk row) : RowOk (swapR row) := ⟨by unfold swapR; rw [List.length_map]; exact h.len, fun p hp => by
  obtain ⟨q, hq, rfl⟩ := List.mem_map.mp hp
  exact ⟨(h.ok q hq).2, (h.ok q hq).1⟩⟩
def projD (ks ls : List Str) (row : List Deed) : D := .tuple [groupsD ks row, groupsD ls (swapR row)]
def F_projections : FW := fun ws Φ => ∃ r row, ws = [.d r] ∧ isRow r row ∧ RowOk row ∧ ∀ ks ls, KeysOf ks row → KeysOf ls (swapR row) → Φ (.d (projD ks ls row))
theorem l_projections (ws : List W) (Φ : W → Prop) (h : F_projections ws Φ) : ws.length = 1 := by
  obtain ⟨a, row, rfl, _⟩ := h
  rfl
def swapF : D → D
  | .tuple [a, b] => .tuple [b, a]
  | d => d
theorem m_projections (ws : List W) (Φ : W → Prop) (h : F_projections ws Φ) : w_projections F_grouped (startR n_projections ws) ⟨fun _ => Φ (.d .none), Φ, fun _ => False, fun _ => False⟩ := by
  obtain ⟨r, row, rfl, hr, ok, q⟩ := h
  simp only [w_projections, n_projections, wSeq2, wNext, wRet, wDrop, wIfS, wSet, wSetO, wSetN, wSetC, wSetIx, wSetI, wSetBx, wSetB, wAug, wApp, wAsg, wPar, wNilO, wConsO, wConsN, wL2N, putR, noUn, wVar, wC, wNil, wCons, wTup, wLst, wFz, wOp, wB, wAnd, wOr, wNot, wAndV, wOrV, wNotV, wIf, wNeg, wCB, wCL, wCallD, wRetB, wIsi, wSl, wNoPart, wPart, wRev, wFrz, wLend, wLendT, wLendL, muW, wFor, wSeq, wRange1, wRange2, wLc, wipeR, wgName, wgTup, wgCons, wgNil, startR, wJoin, wZip, wEnum, wBrk, wCnt, wIxOx, wIxO, wPopSet, wPopAt, wPopAtSet, popAtW, wExt, wSet2, ev_addI, ev_addS, ev_addT, ev_addL, ev_mulI, ev_I, ev_I0, ev_ltI, ev_ltS, ev_ge, ev_eqI, ev_eqS, ev_eqB, ev_p0, ev_p1, ev_p2, ev_lenL, ev_lenT, ev_lenS, ev_lenQ, ev_lenK, ev_tupL, ev_tupT, ev_lisL, ev_lisT, ev_intI, ev_intB, ev_max2, ev_min2, ev_repr, ev_eqRp, ev_slL, ev_slT, ev_slS, ev_seqL, ev_seqT, ev_seqS, ev_inL, ev_inT, ev_isB, ev_dO, ev_dat0, ev_dat1, ev_dat2, ev_dat3, ev_dat4, ev_dat5, ev_dat8, List.getElem?_cons_zero, List.getElem?_cons_succ, List.set_cons_zero, List.set_cons_succ, List.map_cons, List.map_nil, List.cons_append, List.nil_append, List.append_nil, List.replicate, List.length_cons, List.length_nil, Nat.reduceAdd, Nat.reduceSub, Option.some.injEq, List.append_eq, Nat.zero_add, exists_eq', exists_eq_left', Sl.mu.injEq, Mu.l.injEq, Sl.sh.injEq, W.p.injEq, true_and, and_true, or_true, true_or, ite_true, ite_false, if_true, if_false, Bool.false_eq_true, decide_eq_true_eq]
  refine ⟨r, row, rfl, hr, ok, fun ks hks => ?_⟩
  simp only [wSeq2, wNext, wRet, wDrop, wIfS, wSet, wSetO, wSetN, wSetC, wSetIx, wSetI, wSetBx, wSetB, wAug, wApp, wAsg, wPar, wNilO, wConsO, wConsN, wL2N, putR, noUn, wVar, wC, wNil, wCons, wTup, wLst, wFz, wOp, wB, wAnd, wOr, wNot, wAndV, wOrV, wNotV, wIf, wNeg, wCB, wCL, wCallD, wRetB, wIsi, wSl, wNoPart, wPart, wRev, wFrz, wLend, wLendT, wLendL, muW, wFor, wSeq, wRange1, wRange2, wLc, wipeR, wgName, wgTup, wgCons, wgNil, startR, wJoin, wZip, wEnum, wBrk, wCnt, wIxOx, wIxO, wPopSet, wPopAt, wPopAtSet, popAtW, wExt, wSet2, ev_addI, ev_addS, ev_addT, ev_addL, ev_mulI, ev_I, ev_I0, ev_ltI, ev_ltS, ev_ge, ev_eqI, ev_eqS, ev_eqB, ev_p0, ev_p1, ev_p2, ev_lenL, ev_lenT, ev_lenS, ev_lenQ, ev_lenK, ev_tupL, ev_tupT, ev_lisL, ev_lisT, ev_intI, ev_intB, ev_max2, ev_min2, ev_repr, ev_eqRp, ev_slL, ev_slT, ev_slS, ev_seqL, ev_seqT, ev_seqS, ev_inL, ev_inT, ev_isB, ev_dO, ev_dat0, ev_dat1, ev_dat2, ev_dat3, ev_dat4, ev_dat5, ev_dat8, List.getElem?_cons_zero, List.getElem?_cons_succ, List.set_cons_zero, List.set_cons_succ, List.map_cons, List.map_nil, List.cons_append, List.nil_append, List.append_nil, List.replicate, List.length_cons, List.length_nil, Nat.reduceAdd, Nat.reduceSub, Option.some.injEq, List.append_eq, Nat.zero_add, exists_eq', exists_eq_left', Sl.mu.injEq, Mu.l.injEq, Sl.sh.injEq, W.p.injEq, true_and, and_true, or_true, true_or, ite_true, ite_false, if_true, if_false, Bool.false_eq_true, decide_eq_true_eq]
  have go : compW (wgTup 2 (wgCons (wgName 1) (wgCons (wgName 2) wgNil))) wYes (wTup (wCons (wVar 2) (wCons (wVar 1) wNil))) (row.map deedD) [.sh (.d r), .un, .un] [] fun ds =>
      F_grouped [.d (.list ds)] (dOnly fun r => datsW [.d (groupsD ks row), r] fun ds => Φ (.d (.tuple ds))) := by
    refine compW_map swapF (fun d hd T hT => ?_) ?_
    · obtain ⟨p, hp, rfl⟩ := List.mem_map.mp hd
      simp only [deedD, wSeq2, wNext, wRet, wDrop, wIfS, wSet, wSetO, wSetN, wSetC, wSetIx, wSetI, wSetBx, wSetB, wAug, wApp, wAsg, wPar, wNilO, wConsO, wConsN, wL2N, putR, noUn, wVar, wC, wNil, wCons, wTup, wLst, wFz, wOp, wB, wAnd, wOr, wNot, wAndV, wOrV, wNotV, wIf, wNeg, wCB, wCL, wCallD, wRetB, wIsi, wSl, wNoPart, wPart, wRev, wFrz, wLend, wLendT, wLendL, muW, wFor, wSeq, wRange1, wRange2, wLc, wipeR, wgName, wgTup, wgCons, wgNil, startR, wJoin, wZip, wEnum, wBrk, wCnt, wIxOx, wIxO, wPopSet, wPopAt, wPopAtSet, popAtW, wExt, wSet2, ev_addI, ev_addS, ev_addT, ev_addL, ev_mulI, ev_I, ev_I0, ev_ltI, ev_ltS, ev_ge, ev_eqI, ev_eqS, ev_eqB, ev_p0, ev_p1, ev_p2, ev_lenL, ev_lenT, ev_lenS, ev_lenQ, ev_lenK, ev_tupL, ev_tupT, ev_lisL, ev_lisT, ev_intI, ev_intB, ev_max2, ev_min2, ev_repr, ev_eqRp, ev_slL, ev_slT, ev_slS, ev_seqL, ev_seqT, ev_seqS, ev_inL, ev_inT, ev_isB, ev_dO, ev_dat0, ev_dat1, ev_dat2, ev_dat3, ev_dat4, ev_dat5, ev_dat8, List.getElem?_cons_zero, List.getElem?_cons_succ, List.set_cons_zero, List.set_cons_succ, List.map_cons, List.map_nil, List.cons_append, List.nil_append, List.append_nil, List.replicate, List.length_cons, List.length_nil, Nat.reduceAdd, Nat.reduceSub, Option.some.injEq, List.append_eq, Nat.zero_add, exists_eq', exists_eq_left', Sl.mu.injEq, Mu.l.injEq, Sl.sh.injEq, W.p.injEq, true_and, and_true, or_true, true_or, ite_true, ite_false, if_true, if_false, Bool.false_eq_true, decide_eq_true_eq]
      exact hT
    · have e : ([] : List D) ++ (row.map deedD).map swapF = (swapR row).map deedD := by
        unfold swapR
        rw [List.nil_append, List.map_map, List.map_map]
        rfl
      rw [e]
      refine ⟨_, swapR row, rfl, .inl rfl, swap_ok ok, fun ls hls => ?_⟩
      simp only [wSeq2, wNext, wRet, wDrop, wIfS, wSet, wSetO, wSetN, wSetC, wSetIx, wSetI, wSetBx, wSetB, wAug, wApp, wAsg, wPar, wNilO, wConsO, wConsN, wL2N, putR, noUn, wVar, wC, wNil, wCons, wTup, wLst, wFz, wOp, wB, wAnd, wOr, wNot, wAndV, wOrV, wNotV, wIf, wNeg, wCB, wCL, wCallD, wRetB, wIsi, wSl, wNoPart, wPart, wRev, wFrz, wLend, wLendT, wLendL, muW, wFor, wSeq, wRange1, wRange2, wLc, wipeR, wgName, wgTup, wgCons, wgNil, startR, wJoin, wZip, wEnum, wBrk, wCnt, wIxOx, wIxO, wPopSet, wPopAt, wPopAtSet, popAtW, wExt, wSet2, ev_addI, ev_addS, ev_addT, ev_addL, ev_mulI, ev_I, ev_I0, ev_ltI, ev_ltS, ev_ge, ev_eqI, ev_eqS, ev_eqB, ev_p0, ev_p1, ev_p2, ev_lenL, ev_lenT, ev_lenS, ev_lenQ, ev_lenK, ev_tupL, ev_tupT, ev_lisL, ev_lisT, ev_intI, ev_intB, ev_max2, ev_min2, ev_repr, ev_eqRp, ev_slL, ev_slT, ev_slS, ev_seqL, ev_seqT, ev_seqS, ev_inL, ev_inT, ev_isB, ev_dO, ev_dat0, ev_dat1, ev_dat2, ev_dat3, ev_dat4, ev_dat5, ev_dat8, List.getElem?_cons_zero, List.getElem?_cons_succ, List.set_cons_zero, List.set_cons_succ, List.map_cons, List.map_nil, List.cons_append, List.nil_append, List.append_nil, List.replicate, List.length_cons, List.length_nil, Nat.reduceAdd, Nat.reduceSub, Option.some.injEq, List.append_eq, Nat.zero_add, exists_eq', exists_eq_left', Sl.mu.injEq, Mu.l.injEq, Sl.sh.injEq, W.p.injEq, true_and, and_true, or_true, true_or, ite_true, ite_false, if_true, if_false, Bool.false_eq_true, decide_eq_true_eq]
      exact q ks ls hks hls
  rcases hr with rfl | rfl
  · simp only [wSeq2, wNext, wRet, wDrop, wIfS, wSet, wSetO, wSetN, wSetC, wSetIx, wSetI, wSetBx, wSetB, wAug, wApp, wAsg, wPar, wNilO, wConsO, wConsN, wL2N, putR, noUn, wVar, wC, wNil, wCons, wTup, wLst, wFz, wOp, wB, wAnd, wOr, wNot, wAndV, wOrV, wNotV, wIf, wNeg, wCB, wCL, wCallD, wRetB, wIsi, wSl, wNoPart, wPart, wRev, wFrz, wLend, wLendT, wLendL, muW, wFor, wSeq, wRange1, wRange2, wLc, wipeR, wgName, wgTup, wgCons, wgNil, startR, wJoin, wZip, wEnum, wBrk, wCnt, wIxOx, wIxO, wPopSet, wPopAt, wPopAtSet, popAtW, wExt, wSet2, ev_addI, ev_addS, ev_addT, ev_addL, ev_mulI, ev_I, ev_I0, ev_ltI, ev_ltS, ev_ge, ev_eqI, ev_eqS, ev_eqB, ev_p0, ev_p1, ev_p2, ev_lenL, ev_lenT, ev_lenS, ev_lenQ, ev_lenK, ev_tupL, ev_tupT, ev_lisL, ev_lisT, ev_intI, ev_intB, ev_max2, ev_min2, ev_repr, ev_eqRp, ev_slL, ev_slT, ev_slS, ev_seqL, ev_seqT, ev_seqS, ev_inL, ev_inT, ev_isB, ev_dO, ev_dat0, ev_dat1, ev_dat2, ev_dat3, ev_dat4, ev_dat5, ev_dat8, List.getElem?_cons_zero, List.getElem?_cons_succ, List.set_cons_zero, List.set_cons_succ, List.map_cons, List.map_nil, List.cons_append, List.nil_append, List.append_nil, List.replicate, List.length_cons, List.length_nil, Nat.reduceAdd, Nat.reduceSub, Option.some.injEq, List.append_eq, Nat.zero_add, exists_eq', exists_eq_left', Sl.mu.injEq, Mu.l.injEq, Sl.sh.injEq, W.p.injEq, true_and, and_true, or_true, true_or, ite_true, ite_false, if_true, if_false, Bool.false_eq_true, decide_eq_true_eq]
    exact go
  · simp only [wSeq2, wNext, wRet, wDrop, wIfS, wSet, wSetO, wSetN, wSetC, wSetIx, wSetI, wSetBx, wSetB, wAug, wApp, wAsg, wPar, wNilO, wConsO, wConsN, wL2N, putR, noUn, wVar, wC, wNil, wCons, wTup, wLst, wFz, wOp, wB, wAnd, wOr, wNot, wAndV, wOrV, wNotV, wIf, wNeg, wCB, wCL, wCallD, wRetB, wIsi, wSl, wNoPart, wPart, wRev, wFrz, wLend, wLendT, wLendL, muW, wFor, wSeq, wRange1, wRange2, wLc, wipeR, wgName, wgTup, wgCons, wgNil, startR, wJoin, wZip, wEnum, wBrk, wCnt, wIxOx, wIxO, wPopSet, wPopAt, wPopAtSet, popAtW, wExt, wSet2, ev_addI, ev_addS, ev_addT, ev_addL, ev_mulI, ev_I, ev_I0, ev_ltI, ev_ltS, ev_ge, ev_eqI, ev_eqS, ev_eqB, ev_p0, ev_p1, ev_p2, ev_lenL, ev_lenT, ev_lenS, ev_lenQ, ev_lenK, ev_tupL, ev_tupT, ev_lisL, ev_lisT, ev_intI, ev_intB, ev_max2, ev_min2, ev_repr, ev_eqRp, ev_slL, ev_slT, ev_slS, ev_seqL, ev_seqT, ev_seqS, ev_inL, ev_inT, ev_isB, ev_dO, ev_dat0, ev_dat1, ev_dat2, ev_dat3, ev_dat4, ev_dat5, ev_dat8, List.getElem?_cons_zero, List.getElem?_cons_succ, List.set_cons_zero, List.set_cons_succ, List.map_cons, List.map_nil, List.cons_append, List.nil_append, List.append_nil, List.replicate, List.length_cons, List.length_nil, Nat.reduceAdd, Nat.reduceSub, Option.some.injEq, List.append_eq, Nat.zero_add, exists_eq', exists_eq_left', Sl.mu.injEq, Mu.l.injEq, Sl.sh.injEq, W.p.injEq, true_and, and_true, or_true, true_or, ite_true, ite_false, if_true, if_false, Bool.false_eq_true, decide_eq_true_eq]
    exact go
end Pd
end

section
set_option Elab.async false
set_option linter.all false
set_option maxRecDepth 100000
set_option autoImplicit false
set_option maxHeartbeats 4000000
namespace Pd
open PySem PySem.Spec PyProof.Rows L2
/-! ### histories: rows up to exchanges of neighbours -/
def Indep (p q : Deed) : Prop := p.1 ≠ q.1 ∧ p.2 ≠ q.2
theorem Indep.symm {p q : Deed} (h : Indep p q) : Indep q p := ⟨h.1.symm, h.2.symm⟩
inductive Reach : List Deed → List Deed → Prop
  | refl (r : List Deed) : Reach r r
  | step {r a b : List Deed} {p q : Deed} : Reach r (a ++ p :: q :: b) → Indep p q → Reach r (a ++ q :: p :: b)
theorem Reach.trans {r s t : List Deed} (h : Reach r s) (h2 : Reach s t) : Reach r t := by
  induction h2 with
  | refl => exact h
  | step _ i ih => exact .step ih i
theorem Reach.cons {r s : List Deed} (p : Deed) (h : Reach r s) : Reach (p :: r) (p :: s) := by
  induction h with
  | refl => exact .refl _
  | @step a b p1 q1 _ i ih => exact Reach.step (a := p :: a) ih i
theorem Reach.symm {r s : List Deed} (h : Reach r s) : Reach s r := by
  induction h with
  | refl => exact .refl _
  | @step a b p1 q1 _ i ih => exact Reach.trans (Reach.step (a := a) (.refl _) i.symm) ih
theorem Reach.perm {r s : List Deed} (h : Reach r s) : s.Perm r := by
  induction h with
  | refl => exact List.Perm.refl _
  | @step a b p1 q1 _ i ih => exact (List.Perm.append_left a (List.Perm.swap p1 q1 b)).trans ih
theorem groupOf_append (a b : List Deed) (k : Str) : groupOf (a ++ b) k = groupOf a k ++ groupOf b k := by
  unfold groupOf
  rw [List.filter_append, List.map_append]
theorem groupOf_cons (p : Deed) (r : List Deed) (k : Str) : groupOf (p :: r) k = if p.1 = k then PyData.str p.2 :: groupOf r k else groupOf r k := by
  unfold groupOf
  by_cases h : p.1 = k
  · rw [if_pos h, List.filter_cons_of_pos (by simpa using h), List.map_cons]
  · rw [if_neg h, List.filter_cons_of_neg (by simpa using h)]
theorem swapR_append (a b : List Deed) : swapR (a ++ b) = swapR a ++ swapR b := by
  unfold swapR
  rw [List.map_append]
theorem swapR_swapR (a : List Deed) : swapR (swapR a) = a := by
  unfold swapR
  rw [List.map_map]
  exact List.map_id _
structure Hist (r s : List Deed) : Prop where
  w : ∀ k, groupOf r k = groupOf s k
  d : ∀ k, groupOf (swapR r) k = groupOf (swapR s) k
theorem Hist.symm {r s : List Deed} (h : Hist r s) : Hist s r := ⟨fun k => (h.w k).symm, fun k => (h.d k).symm⟩
theorem group_swap {a b : List Deed} {p q : Deed} (h : p.1 ≠ q.1) (k : Str) : groupOf (a ++ p :: q :: b) k = groupOf (a ++ q :: p :: b) k := by
  rw [groupOf_append, groupOf_append, groupOf_cons, groupOf_cons, groupOf_cons, groupOf_cons]
  by_cases h1 : p.1 = k
  · have h2 : ¬ q.1 = k := fun z => h (h1.trans z.symm)
    simp only [if_pos h1, if_neg h2]
  · simp only [if_neg h1]
theorem reach_hist {r s : List Deed} (h : Reach r s) : Hist r s := by
  induction h with
  | refl => exact ⟨fun _ => rfl, fun _ => rfl⟩
  | @step a b p q _ i ih =>
    refine ⟨fun k => (ih.w k).trans (group_swap i.1 k), fun k => (ih.d k).trans ?_⟩
    rw [swapR_append, swapR_append]
    exact group_swap (a := swapR a) (b := swapR b) (p := (p.2, p.1)) (q := (q.2, q.1)) i.2 k
theorem first_of {k v : Str} {t : List D} : ∀ {s : List Deed}, groupOf s k = PyData.str v :: t → ∃ a b, s = a ++ (k, v) :: b ∧ (∀ x ∈ a, x.1 ≠ k)
  | [], h => by
    unfold groupOf at h
    cases h
  | p :: s, h => by
    rw [groupOf_cons] at h
    by_cases hp : p.1 = k
    · rw [if_pos hp] at h
      obtain ⟨h1, _⟩ := List.cons.inj h
      have h2 : p.2 = v := PyData.str.inj h1
      refine ⟨[], s, ?_, by simp⟩
      rw [← hp, ← h2]
      rfl
    · rw [if_neg hp] at h
      obtain ⟨a, b, e, q⟩ := first_of h
      refine ⟨p :: a, b, by rw [e]; rfl, fun x hx => ?_⟩
      rcases List.mem_cons.mp hx with rfl | hx
      · exact hp
      · exact q x hx
theorem reach_front {p : Deed} : ∀ {a b : List Deed}, (∀ x ∈ a, Indep x p) → Reach (a ++ p :: b) (p :: (a ++ b))
  | [], b, _ => .refl _
  | x :: a, b, h => by
    have ih := (reach_front (a := a) (b := b) fun y hy => h y (List.mem_cons_of_mem _ hy)).cons x
    exact Reach.step (a := []) ih (h x List.mem_cons_self)
theorem groupOf_none {a : List Deed} {k : Str} (h : ∀ x ∈ a, x.1 ≠ k) : groupOf a k = [] := groupOf_new fun ⟨p, hp, e⟩ => h p hp e
theorem hist_reach : ∀ {r s : List Deed}, Hist r s → Reach r s
  | [], s, h => by
    cases s with
    | nil => exact .refl _
    | cons p s =>
      have := h.w p.1
      rw [groupOf_cons, if_pos rfl] at this
      unfold groupOf at this
      cases this
  | p :: r, s, h => by
    have h1 := h.w p.1
    rw [groupOf_cons, if_pos rfl] at h1
    have h2 := h.d p.2
    have e0 : swapR (p :: r) = (p.2, p.1) :: swapR r := rfl
    rw [e0, groupOf_cons, if_pos rfl] at h2
    obtain ⟨a, b, e1, q1⟩ := first_of h1.symm
    obtain ⟨c, d, e2, q2⟩ := first_of h2.symm
    have e3 : s = swapR c ++ p :: swapR d := by
      have := congrArg swapR e2
      rw [swapR_swapR, swapR_append] at this
      exact this
    have q3 : ∀ x ∈ swapR c, x.2 ≠ p.2 := fun x hx => by
      obtain ⟨y, hy, rfl⟩ := List.mem_map.mp hx
      exact q2 y hy
    have e4 : a = swapR c := by
      have e5 : a ++ p :: b = swapR c ++ p :: swapR d := e1.symm.trans e3
      rcases List.append_eq_append_iff.mp e5 with ⟨z, hz1, hz2⟩ | ⟨z, hz1, hz2⟩
      · cases z with
        | nil => rw [hz1, List.append_nil]
        | cons y z =>
          obtain ⟨rfl, _⟩ := List.cons.inj hz2
          exact absurd rfl (q3 p (by rw [hz1]; simp))
      · cases z with
        | nil => rw [hz1, List.append_nil]
        | cons y z =>
          obtain ⟨rfl, _⟩ := List.cons.inj hz2
          exact absurd rfl (q1 p (by rw [hz1]; simp))
    have ind : ∀ x ∈ a, Indep x p := fun x hx => ⟨q1 x hx, q3 x (e4 ▸ hx)⟩
    have e1' : s = a ++ p :: b := e1
    have cut : ∀ (a b r : List Deed) (p : Deed), (∀ x ∈ a, x.1 ≠ p.1) → (∀ k, groupOf (p :: r) k = groupOf (a ++ p :: b) k) → ∀ k, groupOf r k = groupOf (a ++ b) k := fun a b r p hn hh k => by
      have := hh k
      rw [groupOf_cons, groupOf_append, groupOf_cons] at this
      rw [groupOf_append]
      by_cases hk : p.1 = k
      · have hnone : groupOf a k = [] := groupOf_none fun x hx z => hn x hx (z.trans hk.symm)
        rw [if_pos hk, if_pos hk, hnone, List.nil_append] at this
        rw [hnone, List.nil_append]
        exact (List.cons.inj this).2
      · rw [if_neg hk, if_neg hk] at this
        exact this
    have hrest : Hist r (a ++ b) := by
      refine ⟨cut a b r p (fun x hx => (ind x hx).1) fun k => by rw [← e1']; exact h.w k, fun k => ?_⟩
      rw [swapR_append]
      refine cut (swapR a) (swapR b) (swapR r) (p.2, p.1) (fun x hx => ?_) (fun k => ?_) k
      · obtain ⟨y, hy, rfl⟩ := List.mem_map.mp hx
        exact (ind y hy).2
      · have := h.d k
        rw [e1', swapR_append] at this
        exact this
    have ih := hist_reach hrest
    rw [e1']
    exact (ih.cons p).trans (reach_front ind).symm
/-! ### comparing projections -/
mutual
def strD : D → Bool
  | .str _ => true
  | .tuple ds => strA ds
  | _ => false
def strA : List D → Bool
  | [] => true
  | d :: ds => strD d && strA ds
end
mutual
theorem eqv_strD : ∀ d e : D, strD d = true → strD e = true → PyData.eqv d e = true → d = e
  | .str x, e, _, he, h => by
    cases e with
    | str y =>
      rw [PyData.eqv] at h
      rw [eq_of_beq h]
    | _ => simp [PyData.eqv] at h
  | .tuple ds, e, hd, he, h => by
    cases e with
    | tuple es =>
      rw [PyData.eqv] at h
      rw [eqv_strA ds es (by simpa [strD] using hd) (by simpa [strD] using he) h]
    | _ => simp [PyData.eqv] at h
  | .none, _, hd, _, _ => by simp [strD] at hd
  | .bool _, _, hd, _, _ => by simp [strD] at hd
  | .int _, _, hd, _, _ => by simp [strD] at hd
  | .list _, _, hd, _, _ => by simp [strD] at hd
  | .dict _, _, hd, _, _ => by simp [strD] at hd
theorem eqv_strA : ∀ ds es : List D, strA ds = true → strA es = true → PyData.eqvAll ds es = true → ds = es
  | [], [], _, _, _ => rfl
  | [], _ :: _, _, _, h => by simp [PyData.eqvAll] at h
  | _ :: _, [], _, _, h => by simp [PyData.eqvAll] at h
  | d :: ds, e :: es, hd, he, h => by
    rw [strA, Bool.and_eq_true] at hd he
    rw [PyData.eqvAll, Bool.and_eq_true] at h
    rw [eqv_strD d e hd.1 he.1 h.1, eqv_strA ds es hd.2 he.2 h.2]
end
mutual
theorem eqv_strD_refl : ∀ d : D, strD d = true → PyData.eqv d d = true
  | .str x, _ => by rw [PyData.eqv]; simp
  | .tuple ds, h => by rw [PyData.eqv]; exact eqv_strA_refl ds (by simpa [strD] using h)
  | .none, hd => by simp [strD] at hd
  | .bool _, hd => by simp [strD] at hd
  | .int _, hd => by simp [strD] at hd
  | .list _, hd => by simp [strD] at hd
  | .dict _, hd => by simp [strD] at hd
theorem eqv_strA_refl : ∀ ds : List D, strA ds = true → PyData.eqvAll ds ds = true
  | [], _ => by rw [PyData.eqvAll]
  | d :: ds, h => by
    rw [strA, Bool.and_eq_true] at h
    rw [PyData.eqvAll, eqv_strD_refl d h.1, eqv_strA_refl ds h.2]
    rfl
end
theorem strA_strs (xs : List Deed) : strA (xs.map fun p => PyData.str p.2) = true := by
  induction xs with
  | nil => rfl
  | cons x xs ih =>
    rw [List.map_cons, strA, ih]
    rfl
theorem groups_strA (row : List Deed) : ∀ ks : List Str, strA (ks.map (groupD row)) = true
  | [] => rfl
  | k :: ks => by
    have h : strA (groupOf row k) = true := strA_strs _
    rw [List.map_cons, strA, groups_strA row ks]
    simp [groupD, strD, strA, h]
theorem proj_strD (ks ls : List Str) (row : List Deed) : strD (projD ks ls row) = true := by
  simp [projD, groupsD, strD, strA, groups_strA]
theorem groupsD_eq {r s : List Deed} {ks ls : List Str} (h1 : KeysOf ks r) (h2 : KeysOf ls s) : groupsD ks r = groupsD ls s ↔ ∀ k, groupOf r k = groupOf s k := by
  have empty : ∀ {r : List Deed} {ks : List Str} {k : Str}, KeysOf ks r → (k ∈ ks ↔ groupOf r k ≠ []) := fun {r ks k} h => by
    rw [h.mem k]
    constructor
    · rintro ⟨p, hp, e⟩ z
      unfold groupOf at z
      rw [List.map_eq_nil_iff, List.filter_eq_nil_iff] at z
      exact z p hp (by simpa using e)
    · intro z
      exact Decidable.byContradiction fun y => z (groupOf_new y)
  constructor
  · intro e k
    have e1 : ks.map (groupD r) = ls.map (groupD s) := PyData.tuple.inj e
    have key : ∀ (ks ls : List Str), ks.map (groupD r) = ls.map (groupD s) → ks = ls ∧ ∀ k ∈ ks, groupOf r k = groupOf s k := by
      intro ks
      induction ks with
      | nil =>
        intro ls e
        cases ls with
        | nil => exact ⟨rfl, by simp⟩
        | cons l ls => cases e
      | cons k ks ih =>
        intro ls e
        cases ls with
        | nil => cases e
        | cons l ls =>
          rw [List.map_cons, List.map_cons] at e
          obtain ⟨e1, e2⟩ := List.cons.inj e
          obtain ⟨q1, q2⟩ := ih ls e2
          have e3 := PyData.tuple.inj e1
          obtain ⟨e4, e5⟩ := List.cons.inj e3
          have ek : k = l := PyData.str.inj e4
          have eg : groupOf r k = groupOf s l := PyData.tuple.inj (List.cons.inj e5).1
          subst ek
          refine ⟨by rw [q1], fun y hy => ?_⟩
          rcases List.mem_cons.mp hy with rfl | hy
          · exact eg
          · exact q2 y hy
    obtain ⟨ek, hg⟩ := key ks ls e1
    by_cases hk : k ∈ ks
    · exact hg k hk
    · have a1 : groupOf r k = [] := Decidable.byContradiction fun z => hk ((empty h1).mpr z)
      have a2 : groupOf s k = [] := Decidable.byContradiction fun z => hk (ek ▸ (empty h2).mpr z)
      rw [a1, a2]
  · intro hg
    have ek : ks = ls := sorted_uniq h1.nd h2.nd h1.pw h2.pw fun k => by rw [empty h1, empty h2, hg k]
    subst ek
    unfold groupsD
    have : groupD r = groupD s := by
      funext k
      unfold groupD
      rw [hg k]
    rw [this]
theorem proj_eqv {r s : List Deed} {ks ls ks' ls' : List Str} (h1 : KeysOf ks r) (h2 : KeysOf ls (swapR r)) (h3 : KeysOf ks' s) (h4 : KeysOf ls' (swapR s)) : PyData.eqv (projD ks ls r) (projD ks' ls' s) = true ↔ Hist r s := by
  have e : PyData.eqv (projD ks ls r) (projD ks' ls' s) = true ↔ projD ks ls r = projD ks' ls' s := ⟨eqv_strD _ _ (proj_strD _ _ _) (proj_strD _ _ _), fun z => by rw [z]; exact eqv_strD_refl _ (proj_strD _ _ _)⟩
  rw [e]
  constructor
  · intro z
    have z1 := PyData.tuple.inj z
    obtain ⟨z2, z3⟩ := List.cons.inj z1
    exact ⟨(groupsD_eq h1 h3).mp z2, (groupsD_eq h2 h4).mp (List.cons.inj z3).1⟩
  · intro z
    unfold projD
    rw [(groupsD_eq h1 h3).mpr z.w, (groupsD_eq h2 h4).mpr z.d]
theorem proj_depth' (ks ls : List Str) (row : List Deed) : (projD ks ls row).depth ≤ 4 := by
  have g0 : ∀ (row : List Deed) (k : Str), PyData.depthAll (groupOf row k) = 0 := fun row k => by
    unfold groupOf
    induction row.filter (fun p => decide (p.1 = k)) with
    | nil => simp [PyData.depthAll]
    | cons x l ih => rw [List.map_cons, PyData.depthAll, ih]; simp [PyData.depth]
  have g1 : ∀ (row : List Deed) (ks : List Str), PyData.depthAll (ks.map (groupD row)) ≤ 2 := fun row ks => by
    induction ks with
    | nil => simp [PyData.depthAll]
    | cons k ks ih =>
      simp only [List.map_cons, PyData.depthAll, groupD, PyData.depth, g0]
      omega
  have h1 := g1 row ks
  have h2 := g1 (swapR row) ls
  unfold projD groupsD
  simp only [PyData.depth, PyData.depthAll]
  omega
def F_same_history : FW := fun ws Φ => ∃ x y r s, ws = [.d x, .d y] ∧ isRow x r ∧ isRow y s ∧ RowOk r ∧ RowOk s ∧ ∀ b : Bool, (b = true ↔ Hist r s) → Φ (.d (.bool b))
theorem l_same_history (ws : List W) (Φ : W → Prop) (h : F_same_history ws Φ) : ws.length = 2 := by
  obtain ⟨x, y, r, s, rfl, _⟩ := h
  rfl
theorem m_same_history (ws : List W) (Φ : W → Prop) (h : F_same_history ws Φ) : w_same_history F_projections (startR n_same_history ws) ⟨fun _ => Φ (.d .none), Φ, fun _ => False, fun _ => False⟩ := by
  obtain ⟨x, y, r, s, rfl, hx, hy, okr, oks, q⟩ := h
  simp only [w_same_history, n_same_history, wSeq2, wNext, wRet, wDrop, wIfS, wSet, wSetO, wSetN, wSetC, wSetIx, wSetI, wSetBx, wSetB, wAug, wApp, wAsg, wPar, wNilO, wConsO, wConsN, wL2N, putR, noUn, wVar, wC, wNil, wCons, wTup, wLst, wFz, wOp, wB, wAnd, wOr, wNot, wAndV, wOrV, wNotV, wIf, wNeg, wCB, wCL, wCallD, wRetB, wIsi, wSl, wNoPart, wPart, wRev, wFrz, wLend, wLendT, wLendL, muW, wFor, wSeq, wRange1, wRange2, wLc, wipeR, wgName, wgTup, wgCons, wgNil, startR, wJoin, wZip, wEnum, wBrk, wCnt, wIxOx, wIxO, wPopSet, wPopAt, wPopAtSet, popAtW, wExt, wSet2, ev_addI, ev_addS, ev_addT, ev_addL, ev_mulI, ev_I, ev_I0, ev_ltI, ev_ltS, ev_ge, ev_eqI, ev_eqS, ev_eqB, ev_p0, ev_p1, ev_p2, ev_lenL, ev_lenT, ev_lenS, ev_lenQ, ev_lenK, ev_tupL, ev_tupT, ev_lisL, ev_lisT, ev_intI, ev_intB, ev_max2, ev_min2, ev_repr, ev_eqRp, ev_slL, ev_slT, ev_slS, ev_seqL, ev_seqT, ev_seqS, ev_inL, ev_inT, ev_isB, ev_dO, ev_dat0, ev_dat1, ev_dat2, ev_dat3, ev_dat4, ev_dat5, ev_dat8, List.getElem?_cons_zero, List.getElem?_cons_succ, List.set_cons_zero, List.set_cons_succ, List.map_cons, List.map_nil, List.cons_append, List.nil_append, List.append_nil, List.replicate, List.length_cons, List.length_nil, Nat.reduceAdd, Nat.reduceSub, Option.some.injEq, List.append_eq, Nat.zero_add, exists_eq', exists_eq_left', Sl.mu.injEq, Mu.l.injEq, Sl.sh.injEq, W.p.injEq, true_and, and_true, or_true, true_or, ite_true, ite_false, if_true, if_false, Bool.false_eq_true, decide_eq_true_eq]
  refine ⟨x, r, rfl, hx, okr, fun ks ls k1 k2 => ?_⟩
  simp only [wSeq2, wNext, wRet, wDrop, wIfS, wSet, wSetO, wSetN, wSetC, wSetIx, wSetI, wSetBx, wSetB, wAug, wApp, wAsg, wPar, wNilO, wConsO, wConsN, wL2N, putR, noUn, wVar, wC, wNil, wCons, wTup, wLst, wFz, wOp, wB, wAnd, wOr, wNot, wAndV, wOrV, wNotV, wIf, wNeg, wCB, wCL, wCallD, wRetB, wIsi, wSl, wNoPart, wPart, wRev, wFrz, wLend, wLendT, wLendL, muW, wFor, wSeq, wRange1, wRange2, wLc, wipeR, wgName, wgTup, wgCons, wgNil, startR, wJoin, wZip, wEnum, wBrk, wCnt, wIxOx, wIxO, wPopSet, wPopAt, wPopAtSet, popAtW, wExt, wSet2, ev_addI, ev_addS, ev_addT, ev_addL, ev_mulI, ev_I, ev_I0, ev_ltI, ev_ltS, ev_ge, ev_eqI, ev_eqS, ev_eqB, ev_p0, ev_p1, ev_p2, ev_lenL, ev_lenT, ev_lenS, ev_lenQ, ev_lenK, ev_tupL, ev_tupT, ev_lisL, ev_lisT, ev_intI, ev_intB, ev_max2, ev_min2, ev_repr, ev_eqRp, ev_slL, ev_slT, ev_slS, ev_seqL, ev_seqT, ev_seqS, ev_inL, ev_inT, ev_isB, ev_dO, ev_dat0, ev_dat1, ev_dat2, ev_dat3, ev_dat4, ev_dat5, ev_dat8, List.getElem?_cons_zero, List.getElem?_cons_succ, List.set_cons_zero, List.set_cons_succ, List.map_cons, List.map_nil, List.cons_append, List.nil_append, List.append_nil, List.replicate, List.length_cons, List.length_nil, Nat.reduceAdd, Nat.reduceSub, Option.some.injEq, List.append_eq, Nat.zero_add, exists_eq', exists_eq_left', Sl.mu.injEq, Mu.l.injEq, Sl.sh.injEq, W.p.injEq, true_and, and_true, or_true, true_or, ite_true, ite_false, if_true, if_false, Bool.false_eq_true, decide_eq_true_eq]
  refine ⟨y, s, rfl, hy, oks, fun ks' ls' k3 k4 => ?_⟩
  simp only [wSeq2, wNext, wRet, wDrop, wIfS, wSet, wSetO, wSetN, wSetC, wSetIx, wSetI, wSetBx, wSetB, wAug, wApp, wAsg, wPar, wNilO, wConsO, wConsN, wL2N, putR, noUn, wVar, wC, wNil, wCons, wTup, wLst, wFz, wOp, wB, wAnd, wOr, wNot, wAndV, wOrV, wNotV, wIf, wNeg, wCB, wCL, wCallD, wRetB, wIsi, wSl, wNoPart, wPart, wRev, wFrz, wLend, wLendT, wLendL, muW, wFor, wSeq, wRange1, wRange2, wLc, wipeR, wgName, wgTup, wgCons, wgNil, startR, wJoin, wZip, wEnum, wBrk, wCnt, wIxOx, wIxO, wPopSet, wPopAt, wPopAtSet, popAtW, wExt, wSet2, ev_addI, ev_addS, ev_addT, ev_addL, ev_mulI, ev_I, ev_I0, ev_ltI, ev_ltS, ev_ge, ev_eqI, ev_eqS, ev_eqB, ev_p0, ev_p1, ev_p2, ev_lenL, ev_lenT, ev_lenS, ev_lenQ, ev_lenK, ev_tupL, ev_tupT, ev_lisL, ev_lisT, ev_intI, ev_intB, ev_max2, ev_min2, ev_repr, ev_eqRp, ev_slL, ev_slT, ev_slS, ev_seqL, ev_seqT, ev_seqS, ev_inL, ev_inT, ev_isB, ev_dO, ev_dat0, ev_dat1, ev_dat2, ev_dat3, ev_dat4, ev_dat5, ev_dat8, List.getElem?_cons_zero, List.getElem?_cons_succ, List.set_cons_zero, List.set_cons_succ, List.map_cons, List.map_nil, List.cons_append, List.nil_append, List.append_nil, List.replicate, List.length_cons, List.length_nil, Nat.reduceAdd, Nat.reduceSub, Option.some.injEq, List.append_eq, Nat.zero_add, exists_eq', exists_eq_left', Sl.mu.injEq, Mu.l.injEq, Sl.sh.injEq, W.p.injEq, true_and, and_true, or_true, true_or, ite_true, ite_false, if_true, if_false, Bool.false_eq_true, decide_eq_true_eq]
  rw [ev_eq]
  refine ⟨Nat.le_trans (Nat.min_le_left _ _) (Nat.le_trans (proj_depth' _ _ _) (by decide)), q _ ?_⟩
  rw [← proj_eqv k1 k2 k3 k4]
  simp
end Pd
end

section
set_option Elab.async false
set_option linter.all false
set_option maxRecDepth 100000
set_option autoImplicit false
set_option maxHeartbeats 4000000
namespace Pd
open PySem PySem.Spec PyProof.Rows L2
/-! ### all rows that come from a row by exchanges -/
abbrev rowD (r : List Deed) : D := .list (r.map deedD)
theorem pigeon {α : Type} [DecidableEq α] : ∀ {l m : List α}, l.Nodup → (∀ x ∈ l, x ∈ m) → l.length ≤ m.length
  | [], _, _, _ => Nat.zero_le _
  | x :: l, m, nd, h => by
    have hx := h x List.mem_cons_self
    obtain ⟨nx, nl⟩ := List.nodup_cons.mp nd
    have ih := pigeon (l := l) (m := m.erase x) nl fun y hy => (List.mem_erase_of_ne (fun e => nx (by rw [← e]; exact hy))).mpr (h y (List.mem_cons_of_mem _ hy))
    rw [List.length_erase_of_mem hx] at ih
    have := List.length_pos_of_mem hx
    rw [List.length_cons]
    omega
def allL (xs : List Deed) : Nat → List (List Deed)
  | 0 => [[]]
  | n + 1 => xs.flatMap fun x => (allL xs n).map (x :: ·)
theorem allL_len (xs : List Deed) : ∀ n, (allL xs n).length = xs.length ^ n
  | 0 => rfl
  | n + 1 => by
    have key : ∀ ys : List Deed, (ys.flatMap fun x => (allL xs n).map (x :: ·)).length = ys.length * xs.length ^ n := fun ys => by
      induction ys with
      | nil => simp
      | cons y ys ih => rw [List.flatMap_cons, List.length_append, List.length_map, allL_len xs n, ih, List.length_cons, Nat.succ_mul, Nat.add_comm]
    unfold allL
    rw [key, Nat.pow_succ, Nat.mul_comm]
theorem allL_mem (xs : List Deed) : ∀ r : List Deed, (∀ x ∈ r, x ∈ xs) → r ∈ allL xs r.length
  | [], _ => by simp [allL]
  | x :: r, h => by
    rw [List.length_cons]
    unfold allL
    exact List.mem_flatMap.mpr ⟨x, h x List.mem_cons_self, List.mem_map.mpr ⟨r, allL_mem xs r fun y hy => h y (List.mem_cons_of_mem _ hy), rfl⟩⟩
theorem reach_bound {row : List Deed} {found : List (List Deed)} (h6 : row.length ≤ 6) (nd : found.Nodup) (re : ∀ s ∈ found, Reach row s) : found.length ≤ 46656 := by
  have h := pigeon (m := allL row row.length) nd fun s hs => by
    have p := (re s hs).perm
    rw [← p.length_eq]
    exact allL_mem row s fun x hx => p.mem_iff.mp hx
  rw [allL_len] at h
  have : row.length ^ row.length ≤ 6 ^ 6 := Nat.le_trans (Nat.pow_le_pow_left h6 _) (Nat.pow_le_pow_right (by decide) h6)
  exact Nat.le_trans h this
theorem deedD_inj {p q : Deed} (h : deedD p = deedD q) : p = q := by
  have h' : (PyData.tuple [.str p.1, .str p.2]) = .tuple [.str q.1, .str q.2] := h
  simp only [PyData.tuple.injEq, List.cons.injEq, PyData.str.injEq, and_true] at h'
  exact Prod.ext h'.1 h'.2
theorem deeds_inj : ∀ {r s : List Deed}, r.map deedD = s.map deedD → r = s
  | [], [], _ => rfl
  | [], _ :: _, h => by cases h
  | _ :: _, [], h => by cases h
  | p :: r, q :: s, h => by
    rw [List.map_cons, List.map_cons] at h
    obtain ⟨h1, h2⟩ := List.cons.inj h
    rw [deedD_inj h1, deeds_inj h2]
theorem deeds_strA (row : List Deed) : strA (row.map deedD) = true := by
  induction row with
  | nil => rfl
  | cons p r ih =>
    rw [List.map_cons, strA, ih]
    rfl
theorem rowD_eqv (r s : List Deed) : PyData.eqv (rowD r) (rowD s) = decide (r = s) := by
  rw [PyData.eqv]
  by_cases h : r = s
  · rw [h]
    simp [eqv_strA_refl _ (deeds_strA s)]
  · rw [decide_eq_false h]
    cases e : PyData.eqvAll (r.map deedD) (s.map deedD) with
    | false => rfl
    | true => exact absurd (deeds_inj (eqv_strA _ _ (deeds_strA r) (deeds_strA s) e)) h
theorem rows_any (r : List Deed) (rs : List (List Deed)) : ((rs.map rowD).any fun y => PyData.eqv y (rowD r)) = decide (r ∈ rs) := by
  induction rs with
  | nil => simp
  | cons s rs ih =>
    rw [List.map_cons, List.any_cons, ih, rowD_eqv]
    by_cases h1 : s = r
    · simp [h1]
    · by_cases h2 : r ∈ rs
      · simp [h2]
      · simp [h1, h2, Ne.symm h1]
theorem rows_depth (rs : List (List Deed)) : PyData.depthAll (rs.map rowD) ≤ 2 := by
  induction rs with
  | nil => simp [PyData.depthAll]
  | cons r rs ih =>
    have := deeds_depth r
    simp only [List.map_cons, PyData.depthAll, PyData.depth]
    omega
structure Clo (row : List Deed) (found : List (List Deed)) : Prop where
  nd : found.Nodup
  re : ∀ s ∈ found, Reach row s
  self : row ∈ found
theorem clo_all {row : List Deed} {found : List (List Deed)} (h : Clo row found) (cl : ∀ s ∈ found, ∀ a b p q, s = a ++ p :: q :: b → Indep p q → a ++ q :: p :: b ∈ found) (s : List Deed) : s ∈ found ↔ Reach row s := by
  refine ⟨h.re s, fun r => ?_⟩
  induction r with
  | refl => exact h.self
  | @step a b p q _ i ih => exact cl _ ih a b p q rfl i
def F_law_closure : FW := fun ws Φ => ∃ row : List Deed, ws = [.d (rowD row)] ∧ row.length ≤ 6 ∧ ∀ rows : List (List Deed), (∀ s, s ∈ rows ↔ Reach row s) → rows.length ≤ 46656 → Φ (.d (.list (rows.map rowD)))
theorem l_law_closure (ws : List W) (Φ : W → Prop) (h : F_law_closure ws Φ) : ws.length = 1 := by
  obtain ⟨row, rfl, _⟩ := h
  rfl
theorem getLast_of {α : Type} {l : List α} (h : l ≠ []) : l[l.length - 1]? = some (l.getLast h) := by
  have := List.length_pos_iff.mpr h
  rw [List.getElem?_eq_getElem (by omega), List.getLast_eq_getElem]
theorem split_at {one : List Deed} {m : Nat} (h : m + 1 < one.length) : ∃ p q, one[m]? = some p ∧ one[m + 1]? = some q ∧ one = one.take m ++ p :: q :: one.drop (m + 2) ∧ (one.take m).length = m := by
  have h0 : m < one.length := by omega
  refine ⟨one[m], one[m + 1], List.getElem?_eq_getElem h0, List.getElem?_eq_getElem h, ?_, by rw [List.length_take]; omega⟩
  rw [← List.drop_eq_getElem_cons h, ← List.drop_eq_getElem_cons h0, List.take_append_drop]
theorem m_law_closure (ws : List W) (Φ : W → Prop) (h : F_law_closure ws Φ) : w_law_closure (startR n_law_closure ws) ⟨fun _ => Φ (.d .none), Φ, fun _ => False, fun _ => False⟩ := by
  obtain ⟨row, rfl, h6, q⟩ := h
  simp only [w_law_closure, n_law_closure, wSeq2, wNext, wRet, wDrop, wIfS, wSet, wSetO, wSetN, wSetC, wSetIx, wSetI, wSetBx, wSetB, wAug, wApp, wAsg, wPar, wNilO, wConsO, wConsN, wL2N, putR, noUn, wVar, wC, wNil, wCons, wTup, wLst, wFz, wOp, wB, wAnd, wOr, wNot, wAndV, wOrV, wNotV, wIf, wNeg, wCB, wCL, wCallD, wRetB, wIsi, wSl, wNoPart, wPart, wRev, wFrz, wLend, wLendT, wLendL, muW, wFor, wSeq, wRange1, wRange2, wLc, wipeR, wgName, wgTup, wgCons, wgNil, startR, wJoin, wZip, wEnum, wBrk, wCnt, wIxOx, wIxO, wPopSet, wPopAt, wPopAtSet, popAtW, wExt, wSet2, ev_addI, ev_addS, ev_addT, ev_addL, ev_mulI, ev_I, ev_I0, ev_ltI, ev_ltS, ev_ge, ev_eqI, ev_eqS, ev_eqB, ev_p0, ev_p1, ev_p2, ev_lenL, ev_lenT, ev_lenS, ev_lenQ, ev_lenK, ev_tupL, ev_tupT, ev_lisL, ev_lisT, ev_intI, ev_intB, ev_max2, ev_min2, ev_repr, ev_eqRp, ev_slL, ev_slT, ev_slS, ev_seqL, ev_seqT, ev_seqS, ev_inL, ev_inT, ev_isB, ev_dO, ev_dat0, ev_dat1, ev_dat2, ev_dat3, ev_dat4, ev_dat5, ev_dat8, List.getElem?_cons_zero, List.getElem?_cons_succ, List.set_cons_zero, List.set_cons_succ, List.map_cons, List.map_nil, List.cons_append, List.nil_append, List.append_nil, List.replicate, List.length_cons, List.length_nil, Nat.reduceAdd, Nat.reduceSub, Option.some.injEq, List.append_eq, Nat.zero_add, exists_eq', exists_eq_left', Sl.mu.injEq, Mu.l.injEq, Sl.sh.injEq, W.p.injEq, true_and, and_true, or_true, true_or, ite_true, ite_false, if_true, if_false, Bool.false_eq_true, decide_eq_true_eq]
  refine ⟨fun n ρ => ∃ (found left : List (List Deed)) (s3 s4 s5 : Sl), ρ = [.sh (.d (rowD row)), .mu (.l (found.map rowD)), .mu (.l (left.map rowD)), s3, s4, s5] ∧ n = 2 * (46656 - found.length) + left.length ∧ left.length ≤ found.length ∧ Clo row found ∧ (∀ s ∈ left, s ∈ found) ∧
    ∀ s ∈ found, s ∉ left → ∀ a b p q, s = a ++ p :: q :: b → Indep p q → a ++ q :: p :: b ∈ found, ⟨_, [row], [row], _, _, _, rfl, rfl, by simp, ⟨by simp, fun s hs => by rw [List.mem_singleton.mp hs]; exact .refl _, by simp⟩, fun _ h => h, fun s h1 h2 => absurd h1 h2⟩, fun n ρ' hI => ?_⟩
  obtain ⟨found, left, s3, s4, s5, rfl, rfl, lfl, clo, sub, cl⟩ := hI
  have fb := reach_bound h6 clo.nd clo.re
  simp only [wSeq2, wNext, wRet, wDrop, wIfS, wSet, wSetO, wSetN, wSetC, wSetIx, wSetI, wSetBx, wSetB, wAug, wApp, wAsg, wPar, wNilO, wConsO, wConsN, wL2N, putR, noUn, wVar, wC, wNil, wCons, wTup, wLst, wFz, wOp, wB, wAnd, wOr, wNot, wAndV, wOrV, wNotV, wIf, wNeg, wCB, wCL, wCallD, wRetB, wIsi, wSl, wNoPart, wPart, wRev, wFrz, wLend, wLendT, wLendL, muW, wFor, wSeq, wRange1, wRange2, wLc, wipeR, wgName, wgTup, wgCons, wgNil, startR, wJoin, wZip, wEnum, wBrk, wCnt, wIxOx, wIxO, wPopSet, wPopAt, wPopAtSet, popAtW, wExt, wSet2, ev_addI, ev_addS, ev_addT, ev_addL, ev_mulI, ev_I, ev_I0, ev_ltI, ev_ltS, ev_ge, ev_eqI, ev_eqS, ev_eqB, ev_p0, ev_p1, ev_p2, ev_lenL, ev_lenT, ev_lenS, ev_lenQ, ev_lenK, ev_tupL, ev_tupT, ev_lisL, ev_lisT, ev_intI, ev_intB, ev_max2, ev_min2, ev_repr, ev_eqRp, ev_slL, ev_slT, ev_slS, ev_seqL, ev_seqT, ev_seqS, ev_inL, ev_inT, ev_isB, ev_dO, ev_dat0, ev_dat1, ev_dat2, ev_dat3, ev_dat4, ev_dat5, ev_dat8, List.getElem?_cons_zero, List.getElem?_cons_succ, List.set_cons_zero, List.set_cons_succ, List.map_cons, List.map_nil, List.cons_append, List.nil_append, List.append_nil, List.replicate, List.length_cons, List.length_nil, Nat.reduceAdd, Nat.reduceSub, Option.some.injEq, List.append_eq, Nat.zero_add, exists_eq', exists_eq_left', Sl.mu.injEq, Mu.l.injEq, Sl.sh.injEq, W.p.injEq, true_and, and_true, or_true, true_or, ite_true, ite_false, if_true, if_false, Bool.false_eq_true, decide_eq_true_eq]
  rw [ev_eq]
  refine ⟨by have := rows_depth left; simp only [PyData.depth, PyData.depthAll]; omega, ?_⟩
  cases hl : left with
  | nil =>
    simp only [wSeq2, wNext, wRet, wDrop, wIfS, wSet, wSetO, wSetN, wSetC, wSetIx, wSetI, wSetBx, wSetB, wAug, wApp, wAsg, wPar, wNilO, wConsO, wConsN, wL2N, putR, noUn, wVar, wC, wNil, wCons, wTup, wLst, wFz, wOp, wB, wAnd, wOr, wNot, wAndV, wOrV, wNotV, wIf, wNeg, wCB, wCL, wCallD, wRetB, wIsi, wSl, wNoPart, wPart, wRev, wFrz, wLend, wLendT, wLendL, muW, wFor, wSeq, wRange1, wRange2, wLc, wipeR, wgName, wgTup, wgCons, wgNil, startR, wJoin, wZip, wEnum, wBrk, wCnt, wIxOx, wIxO, wPopSet, wPopAt, wPopAtSet, popAtW, wExt, wSet2, ev_addI, ev_addS, ev_addT, ev_addL, ev_mulI, ev_I, ev_I0, ev_ltI, ev_ltS, ev_ge, ev_eqI, ev_eqS, ev_eqB, ev_p0, ev_p1, ev_p2, ev_lenL, ev_lenT, ev_lenS, ev_lenQ, ev_lenK, ev_tupL, ev_tupT, ev_lisL, ev_lisT, ev_intI, ev_intB, ev_max2, ev_min2, ev_repr, ev_eqRp, ev_slL, ev_slT, ev_slS, ev_seqL, ev_seqT, ev_seqS, ev_inL, ev_inT, ev_isB, ev_dO, ev_dat0, ev_dat1, ev_dat2, ev_dat3, ev_dat4, ev_dat5, ev_dat8, List.getElem?_cons_zero, List.getElem?_cons_succ, List.set_cons_zero, List.set_cons_succ, List.map_cons, List.map_nil, List.cons_append, List.nil_append, List.append_nil, List.replicate, List.length_cons, List.length_nil, Nat.reduceAdd, Nat.reduceSub, Option.some.injEq, List.append_eq, Nat.zero_add, exists_eq', exists_eq_left', Sl.mu.injEq, Mu.l.injEq, Sl.sh.injEq, W.p.injEq, true_and, and_true, or_true, true_or, ite_true, ite_false, if_true, if_false, Bool.false_eq_true, decide_eq_true_eq, PyData.eqv, PyData.eqvAll, bne_self_eq_false]
    exact q found (clo_all clo fun s hs => cl s hs (by rw [hl]; simp)) fb
  | cons l0 lr =>
    rw [← hl]
    have hne : left ≠ [] := by rw [hl]; simp
    have hnm : left.map rowD ≠ [] := by simpa using hne
    have eb : (true != PyData.eqv (PyData.list (left.map rowD)) (.list [])) = true := by
      rw [hl]
      simp [PyData.eqv, PyData.eqvAll]
    rw [eb]
    simp only [wSeq2, wNext, wRet, wDrop, wIfS, wSet, wSetO, wSetN, wSetC, wSetIx, wSetI, wSetBx, wSetB, wAug, wApp, wAsg, wPar, wNilO, wConsO, wConsN, wL2N, putR, noUn, wVar, wC, wNil, wCons, wTup, wLst, wFz, wOp, wB, wAnd, wOr, wNot, wAndV, wOrV, wNotV, wIf, wNeg, wCB, wCL, wCallD, wRetB, wIsi, wSl, wNoPart, wPart, wRev, wFrz, wLend, wLendT, wLendL, muW, wFor, wSeq, wRange1, wRange2, wLc, wipeR, wgName, wgTup, wgCons, wgNil, startR, wJoin, wZip, wEnum, wBrk, wCnt, wIxOx, wIxO, wPopSet, wPopAt, wPopAtSet, popAtW, wExt, wSet2, ev_addI, ev_addS, ev_addT, ev_addL, ev_mulI, ev_I, ev_I0, ev_ltI, ev_ltS, ev_ge, ev_eqI, ev_eqS, ev_eqB, ev_p0, ev_p1, ev_p2, ev_lenL, ev_lenT, ev_lenS, ev_lenQ, ev_lenK, ev_tupL, ev_tupT, ev_lisL, ev_lisT, ev_intI, ev_intB, ev_max2, ev_min2, ev_repr, ev_eqRp, ev_slL, ev_slT, ev_slS, ev_seqL, ev_seqT, ev_seqS, ev_inL, ev_inT, ev_isB, ev_dO, ev_dat0, ev_dat1, ev_dat2, ev_dat3, ev_dat4, ev_dat5, ev_dat8, List.getElem?_cons_zero, List.getElem?_cons_succ, List.set_cons_zero, List.set_cons_succ, List.map_cons, List.map_nil, List.cons_append, List.nil_append, List.append_nil, List.replicate, List.length_cons, List.length_nil, Nat.reduceAdd, Nat.reduceSub, Option.some.injEq, List.append_eq, Nat.zero_add, exists_eq', exists_eq_left', Sl.mu.injEq, Mu.l.injEq, Sl.sh.injEq, W.p.injEq, true_and, and_true, or_true, true_or, ite_true, ite_false, if_true, if_false, Bool.false_eq_true, decide_eq_true_eq]
    rw [getLast_of hnm]
    simp only [wSeq2, wNext, wRet, wDrop, wIfS, wSet, wSetO, wSetN, wSetC, wSetIx, wSetI, wSetBx, wSetB, wAug, wApp, wAsg, wPar, wNilO, wConsO, wConsN, wL2N, putR, noUn, wVar, wC, wNil, wCons, wTup, wLst, wFz, wOp, wB, wAnd, wOr, wNot, wAndV, wOrV, wNotV, wIf, wNeg, wCB, wCL, wCallD, wRetB, wIsi, wSl, wNoPart, wPart, wRev, wFrz, wLend, wLendT, wLendL, muW, wFor, wSeq, wRange1, wRange2, wLc, wipeR, wgName, wgTup, wgCons, wgNil, startR, wJoin, wZip, wEnum, wBrk, wCnt, wIxOx, wIxO, wPopSet, wPopAt, wPopAtSet, popAtW, wExt, wSet2, ev_addI, ev_addS, ev_addT, ev_addL, ev_mulI, ev_I, ev_I0, ev_ltI, ev_ltS, ev_ge, ev_eqI, ev_eqS, ev_eqB, ev_p0, ev_p1, ev_p2, ev_lenL, ev_lenT, ev_lenS, ev_lenQ, ev_lenK, ev_tupL, ev_tupT, ev_lisL, ev_lisT, ev_intI, ev_intB, ev_max2, ev_min2, ev_repr, ev_eqRp, ev_slL, ev_slT, ev_slS, ev_seqL, ev_seqT, ev_seqS, ev_inL, ev_inT, ev_isB, ev_dO, ev_dat0, ev_dat1, ev_dat2, ev_dat3, ev_dat4, ev_dat5, ev_dat8, List.getElem?_cons_zero, List.getElem?_cons_succ, List.set_cons_zero, List.set_cons_succ, List.map_cons, List.map_nil, List.cons_append, List.nil_append, List.append_nil, List.replicate, List.length_cons, List.length_nil, Nat.reduceAdd, Nat.reduceSub, Option.some.injEq, List.append_eq, Nat.zero_add, exists_eq', exists_eq_left', Sl.mu.injEq, Mu.l.injEq, Sl.sh.injEq, W.p.injEq, true_and, and_true, or_true, true_or, ite_true, ite_false, if_true, if_false, Bool.false_eq_true, decide_eq_true_eq]
    have hlast : (left.map rowD).getLast hnm = rowD (left.getLast hne) := by rw [List.getLast_map]
    rw [hlast]
    obtain ⟨one, hone⟩ : ∃ one, one = left.getLast hne := ⟨_, rfl⟩
    rw [← hone, ← List.map_dropLast]
    have hsplit : left = left.dropLast ++ [one] := by rw [hone]; exact (List.dropLast_concat_getLast hne).symm
    obtain ⟨rest, hrest⟩ : ∃ rest, rest = left.dropLast := ⟨_, rfl⟩
    rw [← hrest] at hsplit ⊢
    have hll : left.length = rest.length + 1 := by rw [hsplit]; simp
    have honeF : one ∈ found := sub one (by rw [hsplit]; simp)
    have hol : one.length ≤ 6 := by
      have := (clo.re one honeF).perm.length_eq
      omega
    simp only [wSeq2, wNext, wRet, wDrop, wIfS, wSet, wSetO, wSetN, wSetC, wSetIx, wSetI, wSetBx, wSetB, wAug, wApp, wAsg, wPar, wNilO, wConsO, wConsN, wL2N, putR, noUn, wVar, wC, wNil, wCons, wTup, wLst, wFz, wOp, wB, wAnd, wOr, wNot, wAndV, wOrV, wNotV, wIf, wNeg, wCB, wCL, wCallD, wRetB, wIsi, wSl, wNoPart, wPart, wRev, wFrz, wLend, wLendT, wLendL, muW, wFor, wSeq, wRange1, wRange2, wLc, wipeR, wgName, wgTup, wgCons, wgNil, startR, wJoin, wZip, wEnum, wBrk, wCnt, wIxOx, wIxO, wPopSet, wPopAt, wPopAtSet, popAtW, wExt, wSet2, ev_addI, ev_addS, ev_addT, ev_addL, ev_mulI, ev_I, ev_I0, ev_ltI, ev_ltS, ev_ge, ev_eqI, ev_eqS, ev_eqB, ev_p0, ev_p1, ev_p2, ev_lenL, ev_lenT, ev_lenS, ev_lenQ, ev_lenK, ev_tupL, ev_tupT, ev_lisL, ev_lisT, ev_intI, ev_intB, ev_max2, ev_min2, ev_repr, ev_eqRp, ev_slL, ev_slT, ev_slS, ev_seqL, ev_seqT, ev_seqS, ev_inL, ev_inT, ev_isB, ev_dO, ev_dat0, ev_dat1, ev_dat2, ev_dat3, ev_dat4, ev_dat5, ev_dat8, List.getElem?_cons_zero, List.getElem?_cons_succ, List.set_cons_zero, List.set_cons_succ, List.map_cons, List.map_nil, List.cons_append, List.nil_append, List.append_nil, List.replicate, List.length_cons, List.length_nil, Nat.reduceAdd, Nat.reduceSub, Option.some.injEq, List.append_eq, Nat.zero_add, exists_eq', exists_eq_left', Sl.mu.injEq, Mu.l.injEq, Sl.sh.injEq, W.p.injEq, true_and, and_true, or_true, true_or, ite_true, ite_false, if_true, if_false, Bool.false_eq_true, decide_eq_true_eq, List.length_map]
    refine ⟨⟨by omega, by omega⟩, ?_⟩
    have fin : ∀ (found2 rest2 : List (List Deed)) (s4 s5 : Sl), 2 * (46656 - found2.length) + rest2.length < 2 * (46656 - found.length) + left.length → rest2.length ≤ found2.length → Clo row found2 → (∀ s ∈ rest2, s ∈ found2) → (∀ s ∈ found2, s ∉ rest2 → s ≠ one → ∀ a b p q, s = a ++ p :: q :: b → Indep p q → a ++ q :: p :: b ∈ found2) →
        (∀ a b p q, one = a ++ p :: q :: b → a.length < one.length - 1 → Indep p q → a ++ q :: p :: b ∈ found2) → ∃ m, m < 2 * (46656 - found.length) + left.length ∧ ∃ (found left : List (List Deed)) (s3 s4' s5' : Sl), [.sh (.d (rowD row)), .mu (.l (found2.map rowD)), .mu (.l (rest2.map rowD)), .sh (.d (rowD one)), s4, s5] = [.sh (.d (rowD row)), .mu (.l (found.map rowD)), .mu (.l (left.map rowD)), s3, s4', s5'] ∧ m = 2 * (46656 - found.length) + left.length ∧ left.length ≤ found.length ∧ Clo row found ∧ (∀ s ∈ left, s ∈ found) ∧
          ∀ s ∈ found, s ∉ left → ∀ a b p q, s = a ++ p :: q :: b → Indep p q → a ++ q :: p :: b ∈ found := fun found2 rest2 s4 s5 hm lf2 c2 sub2 cl2 dn2 =>
      ⟨_, hm, found2, rest2, _, _, _, rfl, rfl, lf2, c2, sub2, fun s hs hr a b p q e i => by
        by_cases ho : s = one
        · subst ho
          exact dn2 a b p q e (by rw [e]; simp) i
        · exact cl2 s hs hr ho a b p q e i⟩
    refine forW_inv (fun m ρ' => ∃ (found2 rest2 : List (List Deed)) (s4 s5 : Sl), ρ' = [.sh (.d (rowD row)), .mu (.l (found2.map rowD)), .mu (.l (rest2.map rowD)), .sh (.d (rowD one)), s4, s5] ∧ 2 * (46656 - found2.length) + rest2.length < 2 * (46656 - found.length) + left.length ∧ rest2.length ≤ found2.length ∧ Clo row found2 ∧ (∀ s ∈ rest2, s ∈ found2) ∧ one ∈ found2 ∧
      (∀ s ∈ found2, s ∉ rest2 → s ≠ one → ∀ a b p q, s = a ++ p :: q :: b → Indep p q → a ++ q :: p :: b ∈ found2) ∧ (∀ a b p q, one = a ++ p :: q :: b → a.length < m → Indep p q → a ++ q :: p :: b ∈ found2)) 0
      ⟨found, rest, _, _, rfl, by omega, by omega, clo, fun s hs => sub s (by rw [hsplit]; simp [hs]), honeF, fun s hs h1 h2 => cl s hs (by rw [hsplit]; simp [h1, h2]), fun _ _ _ _ _ h => absurd h (Nat.not_lt_zero _)⟩ (fun i d ρ' C hd hI hC => ?_) fun ρ' hI => ?_
    · obtain ⟨found2, rest2, s4, s5, rfl, hm, lf2, c2, sub2, one2, cl2, dn2⟩ := hI
      obtain ⟨hi, rfl⟩ := intsFrom_get hd
      have hi1 : i + 1 < one.length := by omega
      have fb2 := reach_bound h6 c2.nd c2.re
      obtain ⟨p, q', ep, eq, esp, etk⟩ := split_at hi1
      have ep' : (one.map deedD)[((0 : Int) + (i : Int)).toNat]? = some (deedD p) := map_get (by rw [show ((0 : Int) + (i : Int)).toNat = i by omega]; exact ep)
      have eq' : (one.map deedD)[((0 : Int) + (i : Int) + 1).toNat]? = some (deedD q') := map_get (by rw [show ((0 : Int) + (i : Int) + 1).toNat = i + 1 by omega]; exact eq)
      have x1 : ∀ Φ : W → Prop, oIx (.d (.list (one.map deedD))) (.d (.int (0 + (i : Int)))) Φ = Φ (.d (deedD p)) := fun Φ => ev_ixL (by omega) ep'
      have x2 : ∀ Φ : W → Prop, oIx (.d (.list (one.map deedD))) (.d (.int (0 + (i : Int) + 1))) Φ = Φ (.d (deedD q')) := fun Φ => ev_ixL (by omega) eq'
      have y1 : ∀ (p : Deed) (Φ : W → Prop), oIx (.d (deedD p)) (.d (.int 0)) Φ = Φ (.d (.str p.1)) := fun _ _ => rfl
      have y2 : ∀ (p : Deed) (Φ : W → Prop), oIx (.d (deedD p)) (.d (.int 1)) Φ = Φ (.d (.str p.2)) := fun _ _ => rfl
      simp only [wSeq2, wNext, wRet, wDrop, wIfS, wSet, wSetO, wSetN, wSetC, wSetIx, wSetI, wSetBx, wSetB, wAug, wApp, wAsg, wPar, wNilO, wConsO, wConsN, wL2N, putR, noUn, wVar, wC, wNil, wCons, wTup, wLst, wFz, wOp, wB, wAnd, wOr, wNot, wAndV, wOrV, wNotV, wIf, wNeg, wCB, wCL, wCallD, wRetB, wIsi, wSl, wNoPart, wPart, wRev, wFrz, wLend, wLendT, wLendL, muW, wFor, wSeq, wRange1, wRange2, wLc, wipeR, wgName, wgTup, wgCons, wgNil, startR, wJoin, wZip, wEnum, wBrk, wCnt, wIxOx, wIxO, wPopSet, wPopAt, wPopAtSet, popAtW, wExt, wSet2, ev_addI, ev_addS, ev_addT, ev_addL, ev_mulI, ev_I, ev_I0, ev_ltI, ev_ltS, ev_ge, ev_eqI, ev_eqS, ev_eqB, ev_p0, ev_p1, ev_p2, ev_lenL, ev_lenT, ev_lenS, ev_lenQ, ev_lenK, ev_tupL, ev_tupT, ev_lisL, ev_lisT, ev_intI, ev_intB, ev_max2, ev_min2, ev_repr, ev_eqRp, ev_slL, ev_slT, ev_slS, ev_seqL, ev_seqT, ev_seqS, ev_inL, ev_inT, ev_isB, ev_dO, ev_dat0, ev_dat1, ev_dat2, ev_dat3, ev_dat4, ev_dat5, ev_dat8, List.getElem?_cons_zero, List.getElem?_cons_succ, List.set_cons_zero, List.set_cons_succ, List.map_cons, List.map_nil, List.cons_append, List.nil_append, List.append_nil, List.replicate, List.length_cons, List.length_nil, Nat.reduceAdd, Nat.reduceSub, Option.some.injEq, List.append_eq, Nat.zero_add, exists_eq', exists_eq_left', Sl.mu.injEq, Mu.l.injEq, Sl.sh.injEq, W.p.injEq, true_and, and_true, or_true, true_or, ite_true, ite_false, if_true, if_false, Bool.false_eq_true, decide_eq_true_eq, x1, x2, y1, y2]
      have skip : ¬ Indep p q' → C [.sh (.d (rowD row)), .mu (.l (found2.map rowD)), .mu (.l (rest2.map rowD)), .sh (.d (rowD one)), .sh (.d (.int (0 + (i : Int)))), s5] := fun hn => hC _ ⟨found2, rest2, _, _, rfl, hm, lf2, c2, sub2, one2, cl2, fun a b p1 q1 e ha hi => by
        by_cases hai : a.length = i
        · have e2 : a ++ p1 :: q1 :: b = one.take i ++ p :: q' :: one.drop (i + 2) := e.symm.trans esp
          obtain ⟨e3, e4⟩ := List.append_inj e2 (by omega)
          simp only [List.cons.injEq] at e4
          obtain ⟨rfl, rfl, _⟩ := e4
          exact absurd hi hn
        · exact dn2 a b p1 q1 e (by omega) hi⟩
      by_cases h1 : p.1 = q'.1
      · have : (true != (p.1 == q'.1)) = false := by simp [h1]
        simp only [this, wSeq2, wNext, wRet, wDrop, wIfS, wSet, wSetO, wSetN, wSetC, wSetIx, wSetI, wSetBx, wSetB, wAug, wApp, wAsg, wPar, wNilO, wConsO, wConsN, wL2N, putR, noUn, wVar, wC, wNil, wCons, wTup, wLst, wFz, wOp, wB, wAnd, wOr, wNot, wAndV, wOrV, wNotV, wIf, wNeg, wCB, wCL, wCallD, wRetB, wIsi, wSl, wNoPart, wPart, wRev, wFrz, wLend, wLendT, wLendL, muW, wFor, wSeq, wRange1, wRange2, wLc, wipeR, wgName, wgTup, wgCons, wgNil, startR, wJoin, wZip, wEnum, wBrk, wCnt, wIxOx, wIxO, wPopSet, wPopAt, wPopAtSet, popAtW, wExt, wSet2, ev_addI, ev_addS, ev_addT, ev_addL, ev_mulI, ev_I, ev_I0, ev_ltI, ev_ltS, ev_ge, ev_eqI, ev_eqS, ev_eqB, ev_p0, ev_p1, ev_p2, ev_lenL, ev_lenT, ev_lenS, ev_lenQ, ev_lenK, ev_tupL, ev_tupT, ev_lisL, ev_lisT, ev_intI, ev_intB, ev_max2, ev_min2, ev_repr, ev_eqRp, ev_slL, ev_slT, ev_slS, ev_seqL, ev_seqT, ev_seqS, ev_inL, ev_inT, ev_isB, ev_dO, ev_dat0, ev_dat1, ev_dat2, ev_dat3, ev_dat4, ev_dat5, ev_dat8, List.getElem?_cons_zero, List.getElem?_cons_succ, List.set_cons_zero, List.set_cons_succ, List.map_cons, List.map_nil, List.cons_append, List.nil_append, List.append_nil, List.replicate, List.length_cons, List.length_nil, Nat.reduceAdd, Nat.reduceSub, Option.some.injEq, List.append_eq, Nat.zero_add, exists_eq', exists_eq_left', Sl.mu.injEq, Mu.l.injEq, Sl.sh.injEq, W.p.injEq, true_and, and_true, or_true, true_or, ite_true, ite_false, if_true, if_false, Bool.false_eq_true, decide_eq_true_eq]
        exact skip fun z => z.1 h1
      · have t1 : (true != (p.1 == q'.1)) = true := by simp [h1]
        by_cases h2 : p.2 = q'.2
        · have t2 : (true != (p.2 == q'.2)) = false := by simp [h2]
          simp only [t1, t2, wSeq2, wNext, wRet, wDrop, wIfS, wSet, wSetO, wSetN, wSetC, wSetIx, wSetI, wSetBx, wSetB, wAug, wApp, wAsg, wPar, wNilO, wConsO, wConsN, wL2N, putR, noUn, wVar, wC, wNil, wCons, wTup, wLst, wFz, wOp, wB, wAnd, wOr, wNot, wAndV, wOrV, wNotV, wIf, wNeg, wCB, wCL, wCallD, wRetB, wIsi, wSl, wNoPart, wPart, wRev, wFrz, wLend, wLendT, wLendL, muW, wFor, wSeq, wRange1, wRange2, wLc, wipeR, wgName, wgTup, wgCons, wgNil, startR, wJoin, wZip, wEnum, wBrk, wCnt, wIxOx, wIxO, wPopSet, wPopAt, wPopAtSet, popAtW, wExt, wSet2, ev_addI, ev_addS, ev_addT, ev_addL, ev_mulI, ev_I, ev_I0, ev_ltI, ev_ltS, ev_ge, ev_eqI, ev_eqS, ev_eqB, ev_p0, ev_p1, ev_p2, ev_lenL, ev_lenT, ev_lenS, ev_lenQ, ev_lenK, ev_tupL, ev_tupT, ev_lisL, ev_lisT, ev_intI, ev_intB, ev_max2, ev_min2, ev_repr, ev_eqRp, ev_slL, ev_slT, ev_slS, ev_seqL, ev_seqT, ev_seqS, ev_inL, ev_inT, ev_isB, ev_dO, ev_dat0, ev_dat1, ev_dat2, ev_dat3, ev_dat4, ev_dat5, ev_dat8, List.getElem?_cons_zero, List.getElem?_cons_succ, List.set_cons_zero, List.set_cons_succ, List.map_cons, List.map_nil, List.cons_append, List.nil_append, List.append_nil, List.replicate, List.length_cons, List.length_nil, Nat.reduceAdd, Nat.reduceSub, Option.some.injEq, List.append_eq, Nat.zero_add, exists_eq', exists_eq_left', Sl.mu.injEq, Mu.l.injEq, Sl.sh.injEq, W.p.injEq, true_and, and_true, or_true, true_or, ite_true, ite_false, if_true, if_false, Bool.false_eq_true, decide_eq_true_eq]
          exact skip fun z => z.2 h2
        · have t2 : (true != (p.2 == q'.2)) = true := by simp [h2]
          have ind : Indep p q' := ⟨h1, h2⟩
          simp only [t1, t2, wSeq2, wNext, wRet, wDrop, wIfS, wSet, wSetO, wSetN, wSetC, wSetIx, wSetI, wSetBx, wSetB, wAug, wApp, wAsg, wPar, wNilO, wConsO, wConsN, wL2N, putR, noUn, wVar, wC, wNil, wCons, wTup, wLst, wFz, wOp, wB, wAnd, wOr, wNot, wAndV, wOrV, wNotV, wIf, wNeg, wCB, wCL, wCallD, wRetB, wIsi, wSl, wNoPart, wPart, wRev, wFrz, wLend, wLendT, wLendL, muW, wFor, wSeq, wRange1, wRange2, wLc, wipeR, wgName, wgTup, wgCons, wgNil, startR, wJoin, wZip, wEnum, wBrk, wCnt, wIxOx, wIxO, wPopSet, wPopAt, wPopAtSet, popAtW, wExt, wSet2, ev_addI, ev_addS, ev_addT, ev_addL, ev_mulI, ev_I, ev_I0, ev_ltI, ev_ltS, ev_ge, ev_eqI, ev_eqS, ev_eqB, ev_p0, ev_p1, ev_p2, ev_lenL, ev_lenT, ev_lenS, ev_lenQ, ev_lenK, ev_tupL, ev_tupT, ev_lisL, ev_lisT, ev_intI, ev_intB, ev_max2, ev_min2, ev_repr, ev_eqRp, ev_slL, ev_slT, ev_slS, ev_seqL, ev_seqT, ev_seqS, ev_inL, ev_inT, ev_isB, ev_dO, ev_dat0, ev_dat1, ev_dat2, ev_dat3, ev_dat4, ev_dat5, ev_dat8, List.getElem?_cons_zero, List.getElem?_cons_succ, List.set_cons_zero, List.set_cons_succ, List.map_cons, List.map_nil, List.cons_append, List.nil_append, List.append_nil, List.replicate, List.length_cons, List.length_nil, Nat.reduceAdd, Nat.reduceSub, Option.some.injEq, List.append_eq, Nat.zero_add, exists_eq', exists_eq_left', Sl.mu.injEq, Mu.l.injEq, Sl.sh.injEq, W.p.injEq, true_and, and_true, or_true, true_or, ite_true, ite_false, if_true, if_false, Bool.false_eq_true, decide_eq_true_eq]
          rw [cutD_to (by omega), cutD_from (by omega)]
          have ek : (0 + (i : Int)).toNat = i := by omega
          have ek2 : (0 + (i : Int) + 2).toNat = i + 2 := by omega
          rw [ek, ek2]
          have eo : List.take i (one.map deedD) ++ [deedD q', deedD p] ++ List.drop (i + 2) (one.map deedD) = (one.take i ++ q' :: p :: one.drop (i + 2)).map deedD := by simp
          refine ⟨small_line (by simp; omega), small_line (by simp; omega), ?_⟩
          rw [eo]
          obtain ⟨oth, hoth⟩ : ∃ oth, oth = one.take i ++ q' :: p :: one.drop (i + 2) := ⟨_, rfl⟩
          rw [← hoth]
          have hro : Reach row oth := by
            rw [hoth]
            exact .step (esp ▸ c2.re one one2) ind
          have wid : ∀ (found3 : List (List Deed)), (∀ s ∈ found2, s ∈ found3) → oth ∈ found3 → ∀ a b p1 q1, one = a ++ p1 :: q1 :: b → a.length < 0 + i + 1 → Indep p1 q1 → a ++ q1 :: p1 :: b ∈ found3 := fun found3 hs ho a b p1 q1 e ha hi => by
            by_cases hai : a.length = i
            · have e2 : a ++ p1 :: q1 :: b = one.take i ++ p :: q' :: one.drop (i + 2) := e.symm.trans esp
              obtain ⟨e3, e4⟩ := List.append_inj e2 (by omega)
              simp only [List.cons.injEq] at e4
              obtain ⟨rfl, rfl, rfl⟩ := e4
              rw [e3, ← hoth]
              exact ho
            · exact hs _ (dn2 a b p1 q1 e (by omega) hi)
          rw [rows_any]
          refine ⟨by have := rows_depth found2; omega, ?_⟩
          by_cases hin : oth ∈ found2
          · have : (true != decide (oth ∈ found2)) = false := by simp [hin]
            simp only [this, wSeq2, wNext, wRet, wDrop, wIfS, wSet, wSetO, wSetN, wSetC, wSetIx, wSetI, wSetBx, wSetB, wAug, wApp, wAsg, wPar, wNilO, wConsO, wConsN, wL2N, putR, noUn, wVar, wC, wNil, wCons, wTup, wLst, wFz, wOp, wB, wAnd, wOr, wNot, wAndV, wOrV, wNotV, wIf, wNeg, wCB, wCL, wCallD, wRetB, wIsi, wSl, wNoPart, wPart, wRev, wFrz, wLend, wLendT, wLendL, muW, wFor, wSeq, wRange1, wRange2, wLc, wipeR, wgName, wgTup, wgCons, wgNil, startR, wJoin, wZip, wEnum, wBrk, wCnt, wIxOx, wIxO, wPopSet, wPopAt, wPopAtSet, popAtW, wExt, wSet2, ev_addI, ev_addS, ev_addT, ev_addL, ev_mulI, ev_I, ev_I0, ev_ltI, ev_ltS, ev_ge, ev_eqI, ev_eqS, ev_eqB, ev_p0, ev_p1, ev_p2, ev_lenL, ev_lenT, ev_lenS, ev_lenQ, ev_lenK, ev_tupL, ev_tupT, ev_lisL, ev_lisT, ev_intI, ev_intB, ev_max2, ev_min2, ev_repr, ev_eqRp, ev_slL, ev_slT, ev_slS, ev_seqL, ev_seqT, ev_seqS, ev_inL, ev_inT, ev_isB, ev_dO, ev_dat0, ev_dat1, ev_dat2, ev_dat3, ev_dat4, ev_dat5, ev_dat8, List.getElem?_cons_zero, List.getElem?_cons_succ, List.set_cons_zero, List.set_cons_succ, List.map_cons, List.map_nil, List.cons_append, List.nil_append, List.append_nil, List.replicate, List.length_cons, List.length_nil, Nat.reduceAdd, Nat.reduceSub, Option.some.injEq, List.append_eq, Nat.zero_add, exists_eq', exists_eq_left', Sl.mu.injEq, Mu.l.injEq, Sl.sh.injEq, W.p.injEq, true_and, and_true, or_true, true_or, ite_true, ite_false, if_true, if_false, Bool.false_eq_true, decide_eq_true_eq]
            exact hC _ ⟨found2, rest2, _, _, rfl, hm, lf2, c2, sub2, one2, cl2, wid found2 (fun _ h => h) hin⟩
          · have : (true != decide (oth ∈ found2)) = true := by simp [hin]
            have c3 : Clo row (found2 ++ [oth]) := ⟨List.nodup_append.mpr ⟨c2.nd, by simp, fun x hx y hy => by
                rw [List.mem_singleton.mp hy]
                exact fun z => hin (z ▸ hx)⟩, fun s hs => by
              rcases List.mem_append.mp hs with z | z
              · exact c2.re s z
              · rw [List.mem_singleton.mp z]; exact hro, List.mem_append_left _ c2.self⟩
            have fb3 := reach_bound h6 c3.nd c3.re
            rw [List.length_append, List.length_singleton] at fb3
            simp only [this, wSeq2, wNext, wRet, wDrop, wIfS, wSet, wSetO, wSetN, wSetC, wSetIx, wSetI, wSetBx, wSetB, wAug, wApp, wAsg, wPar, wNilO, wConsO, wConsN, wL2N, putR, noUn, wVar, wC, wNil, wCons, wTup, wLst, wFz, wOp, wB, wAnd, wOr, wNot, wAndV, wOrV, wNotV, wIf, wNeg, wCB, wCL, wCallD, wRetB, wIsi, wSl, wNoPart, wPart, wRev, wFrz, wLend, wLendT, wLendL, muW, wFor, wSeq, wRange1, wRange2, wLc, wipeR, wgName, wgTup, wgCons, wgNil, startR, wJoin, wZip, wEnum, wBrk, wCnt, wIxOx, wIxO, wPopSet, wPopAt, wPopAtSet, popAtW, wExt, wSet2, ev_addI, ev_addS, ev_addT, ev_addL, ev_mulI, ev_I, ev_I0, ev_ltI, ev_ltS, ev_ge, ev_eqI, ev_eqS, ev_eqB, ev_p0, ev_p1, ev_p2, ev_lenL, ev_lenT, ev_lenS, ev_lenQ, ev_lenK, ev_tupL, ev_tupT, ev_lisL, ev_lisT, ev_intI, ev_intB, ev_max2, ev_min2, ev_repr, ev_eqRp, ev_slL, ev_slT, ev_slS, ev_seqL, ev_seqT, ev_seqS, ev_inL, ev_inT, ev_isB, ev_dO, ev_dat0, ev_dat1, ev_dat2, ev_dat3, ev_dat4, ev_dat5, ev_dat8, List.getElem?_cons_zero, List.getElem?_cons_succ, List.set_cons_zero, List.set_cons_succ, List.map_cons, List.map_nil, List.cons_append, List.nil_append, List.append_nil, List.replicate, List.length_cons, List.length_nil, Nat.reduceAdd, Nat.reduceSub, Option.some.injEq, List.append_eq, Nat.zero_add, exists_eq', exists_eq_left', Sl.mu.injEq, Mu.l.injEq, Sl.sh.injEq, W.p.injEq, true_and, and_true, or_true, true_or, ite_true, ite_false, if_true, if_false, Bool.false_eq_true, decide_eq_true_eq, List.length_map]
            refine ⟨by omega, by omega, ?_⟩
            refine hC _ ⟨found2 ++ [oth], rest2 ++ [oth], _, _, by rw [List.map_append, List.map_append]; rfl, by simp; omega, by simp; omega, c3, fun s hs => ?_, List.mem_append_left _ one2, fun s hs hr ho a b p1 q1 e hi => ?_, wid _ (fun s hs => List.mem_append_left _ hs) (by simp)⟩
            · rcases List.mem_append.mp hs with z | z
              · exact List.mem_append_left _ (sub2 s z)
              · exact List.mem_append_right _ z
            · rcases List.mem_append.mp hs with z | z
              · exact List.mem_append_left _ (cl2 s z (fun y => hr (List.mem_append_left _ y)) ho a b p1 q1 e hi)
              · exact absurd (List.mem_append_right _ z) hr
    · obtain ⟨found2, rest2, s4, s5, rfl, hm, lf2, c2, sub2, one2, cl2, dn2⟩ := hI
      rw [intsFrom_len] at dn2
      exact fin found2 rest2 s4 s5 hm lf2 c2 sub2 cl2 fun a b p q e ha hi => dn2 a b p q e (by omega) hi
end Pd
end

section
set_option Elab.async false
set_option linter.all false
set_option maxRecDepth 100000
set_option autoImplicit false
set_option maxHeartbeats 4000000
namespace Pd
open PySem PySem.Spec PyProof.Rows L2
def n_law_other : List Str := ["box", "row", "form", "at", "to", "found"]
def w_law_other (F_law_take : FW) : WS :=
    (wSeq2 (wPar [2, 3, 4] (wConsO (wCallD F_law_take (wCons (wVar 0) (wCons (wC (.d (.int 6))) wNil))) (wConsO (wCallD F_law_take (wCons (wVar 0) (wCons (wCB oMax2 (wCons (wC (.d (.int 1))) (wCons (wCB oLen (wCons (wVar 1) wNil)) wNil))) wNil))) (wConsO (wCallD F_law_take (wCons (wVar 0) (wCons (wCB oMax2 (wCons (wC (.d (.int 1))) (wCons (wCB oLen (wCons (wVar 1) wNil)) wNil))) wNil))) wNilO))))
    (wSeq2 (wIfS (wB (wOp (oEq false) (wVar 1) (wFz (wLst wNil)))) (wRet (wOp oMul (wFz (wLst (wCons (wTup (wCons (wC (.d (.str "a"))) (wCons (wC (.d (.str "b"))) wNil))) wNil))) (wVar 2))) wNext)
    (wSeq2 (wSetO 5 (wCL oList (wCons (wVar 1) wNil)))
    (wSeq2 (wIfS (wB (wOp (oEq false) (wVar 2) (wC (.d (.int 0))))) (wSet2 5 (wCons (wOp oIx (wVar 1) (wVar 4)) (wCons (wOp oIx (wVar 1) (wVar 3)) wNil)) (wVar 3) (wVar 4)) (wIfS (wB (wOp (oEq false) (wVar 2) (wC (.d (.int 1))))) (wSetIx 5 (wOp oIx (wVar 1) (wVar 4)) (wVar 3)) (wIfS (wB (wOp (oEq false) (wVar 2) (wC (.d (.int 2))))) (wSetIx 5 (wTup (wCons (wOp oIx (wOp oIx (wVar 1) (wVar 4)) (wC (.d (.int 0)))) (wCons (wOp oIx (wOp oIx (wVar 1) (wVar 3)) (wC (.d (.int 1)))) wNil))) (wVar 3)) (wIfS (wB (wOp (oEq false) (wVar 2) (wC (.d (.int 3))))) (wSet 5 (wOp oAdd (wSl (wVar 1) wNoPart (wPart (wVar 3))) (wSl (wVar 1) (wPart (wOp oAdd (wVar 3) (wC (.d (.int 1))))) wNoPart))) (wIfS (wB (wOp (oEq false) (wVar 2) (wC (.d (.int 4))))) (wSet 5 (wOp oAdd (wOp oAdd (wSl (wVar 1) wNoPart (wPart (wVar 3))) (wSl (wVar 1) (wPart (wVar 3)) (wPart (wOp oAdd (wVar 3) (wC (.d (.int 1))))))) (wSl (wVar 1) (wPart (wVar 3)) wNoPart))) (wSetO 5 (wRev (wVar 1))))))))
    (wFrz 5 (wRet (wVar 5)))))))
def n_law_last_walker_right : List Str := ["box", "many", "names", "titles", "row", "at", "fresh", "one", "other", "first", "both", "name", "title"]
def w_law_last_walker_right (F_law_take : FW) (F_law_names : FW) (F_same_history : FW) : WS :=
    (wSeq2 (wSet 1 (wOp oAdd (wC (.d (.int 2))) (wCallD F_law_take (wCons (wVar 0) (wCons (wC (.d (.int 10))) wNil)))))
    (wSeq2 (wPar [2, 3] (wConsO (wCallD F_law_names (wCons (wVar 0) (wCons (wVar 1) wNil))) (wConsO (wCallD F_law_names (wCons (wVar 0) (wCons (wC (.d (.int 12))) wNil))) wNilO)))
    (wSeq2 (wSet 4 (wFz (wLc (wZip (wCons (wVar 2) (wCons (wVar 3) wNil))) (wgTup 2 (wgCons (wgName 11) (wgCons (wgName 12) wgNil))) wYes (wTup (wCons (wVar 11) (wCons (wVar 12) wNil))) [11, 12])))
    (wSeq2 (wPar [5, 6] (wConsO (wCallD F_law_take (wCons (wVar 0) (wCons (wVar 1) wNil))) (wConsO (wC (.d (.str "zzzzzz"))) wNilO)))
    (wSeq2 (wSet 7 (wOp oAdd (wOp oAdd (wSl (wVar 4) wNoPart (wPart (wVar 5))) (wSl (wVar 4) (wPart (wOp oAdd (wVar 5) (wC (.d (.int 1))))) wNoPart)) (wFz (wLst (wCons (wOp oIx (wVar 4) (wVar 5)) (wCons (wTup (wCons (wOp oIx (wVar 2) (wVar 5)) (wCons (wVar 6) wNil))) wNil))))))
    (wSeq2 (wSet 8 (wOp oAdd (wOp oAdd (wSl (wVar 4) wNoPart (wPart (wVar 5))) (wSl (wVar 4) (wPart (wOp oAdd (wVar 5) (wC (.d (.int 1))))) wNoPart)) (wFz (wLst (wCons (wTup (wCons (wOp oIx (wVar 2) (wVar 5)) (wCons (wVar 6) wNil))) (wCons (wOp oIx (wVar 4) (wVar 5)) wNil))))))
    (wSeq2 (wSet 9 (wOp oAdd (wFz (wLst (wCons (wOp oIx (wVar 4) (wVar 5)) (wCons (wTup (wCons (wOp oIx (wVar 2) (wVar 5)) (wCons (wVar 6) wNil))) wNil)))) (wSl (wVar 7) wNoPart (wPart (wNeg (wC (.d (.int 2))))))))
    (wSeq2 (wIfS (wOr (wB (wOp (oIs true) (wCallD F_same_history (wCons (wVar 7) (wCons (wVar 8) wNil))) (wC (.d (.bool false))))) (wB (wOp (oIs true) (wCallD F_same_history (wCons (wVar 7) (wCons (wVar 9) wNil))) (wC (.d (.bool true)))))) (wRet (wC (.d (.bool false)))) wNext)
    (wSeq2 (wSet 10 (wFz (wLst (wCons (wTup (wCons (wOp oIx (wVar 2) (wVar 5)) (wCons (wVar 6) wNil))) (wCons (wTup (wCons (wOp oIx (wVar 2) (wOp (oI0 fun i j => i - j) (wVar 5) (wC (.d (.int 1))))) (wCons (wVar 6) wNil))) wNil)))))
    (wRet (wOp (oIs false) (wCallD F_same_history (wCons (wOp oAdd (wVar 4) (wVar 10)) (wCons (wOp oAdd (wVar 4) (wFz (wRev (wVar 10)))) wNil))) (wC (.d (.bool false))))))))))))))
def n_law : List Str := ["script", "k", "box", "row", "same", "asked", "turn", "kept", "other", "one", "told", "due", "there"]
def w_law (F_law_box : FW) (F_law_last_walker_right : FW) (F_law_take : FW) (F_law_row : FW) (F_law_closure : FW) (F_law_other : FW) (F_same_history : FW) : WS :=
    (wSeq2 (wFor (wRange1 (wCons (wCB oMax2 (wCons (wC (.d (.int 2))) (wCons (wCB oMin2 (wCons (wC (.d (.int 5))) (wCons (wCB oLen (wCons (wVar 0) wNil)) wNil))) wNil))) wNil)) (wgName 1) (wSeq2 (wSetC 2 F_law_box (wCons (wVar 0) (wCons (wVar 1) wNil)))
    (wSeq2 (wIfS (wNot (wB (wCallD F_law_last_walker_right (wCons (wVar 2) wNil)))) (wRet (wC (.d (.bool false)))) wNext)
    (wSeq2 (wSet 3 (wCallD F_law_row (wCons (wVar 2) (wCons (wOp oAdd (wC (.d (.int 1))) (wCallD F_law_take (wCons (wVar 2) (wCons (wC (.d (.int 4))) wNil)))) (wCons (wOp oAdd (wC (.d (.int 1))) (wCallD F_law_take (wCons (wVar 2) (wCons (wC (.d (.int 4))) wNil)))) (wCons (wC (.d (.int 6))) wNil))))))
    (wSeq2 (wSet 4 (wCallD F_law_closure (wCons (wVar 3) wNil)))
    (wSeq2 (wSetO 5 (wLc (wRange1 (wCons (wC (.d (.int 3))) wNil)) (wgName 6) wYes (wOp oIx (wVar 4) (wCallD F_law_take (wCons (wVar 2) (wCons (wCB oLen (wCons (wVar 4) wNil)) wNil)))) [6]))
    (wSeq2 (wFor (wRange1 (wCons (wC (.d (.int 6))) wNil)) (wgName 6) (wApp 5 (wSl (wCallD F_law_other (wCons (wVar 2) (wCons (wIxOx 5 (wCallD F_law_take (wCons (wVar 2) (wCons (wLend 5 (wCB oLen (wCons (wVar 5) wNil))) wNil)))) wNil))) wNoPart (wPart (wC (.d (.int 7)))))))
    (wSeq2 (wSet 7 (wLend 5 (wCB oRepr (wCons (wTup (wCons (wVar 3) (wCons (wVar 5) wNil))) wNil))))
    (wSeq2 (wFrz 5 (wFor (wSeq (wOp oAdd (wVar 5) (wFz (wLst (wCons (wVar 3) wNil))))) (wgName 8) (wSeq2 (wSet 9 (wOp oIx (wFz (wLst (wCons (wVar 3) (wCons (wCB oTuple (wCons (wVar 3) wNil)) wNil)))) (wCallD F_law_take (wCons (wVar 2) (wCons (wC (.d (.int 2))) wNil)))))
    (wSeq2 (wSet 10 (wOp oIx (wFz (wLst (wCons (wVar 8) (wCons (wCB oTuple (wCons (wVar 8) wNil)) wNil)))) (wCallD F_law_take (wCons (wVar 2) (wCons (wC (.d (.int 2))) wNil)))))
    (wSeq2 (wSet 11 (wOp (oEq true) (wFz (wLc (wSeq (wVar 4)) (wgName 12) (wB (wOp (oEq false) (wVar 12) (wVar 8))) (wC (.d (.int 1))) [12])) (wFz (wLst wNil))))
    (wSeq2 (wIfS (wOr (wB (wOp (oEq true) (wFz (wLst (wCons (wCallD F_same_history (wCons (wVar 9) (wCons (wVar 10) wNil))) (wCons (wCallD F_same_history (wCons (wVar 10) (wCons (wVar 9) wNil))) wNil)))) (wFz (wLst (wCons (wVar 11) (wCons (wVar 11) wNil)))))) (wB (wOp (oIs true) (wCallD F_same_history (wCons (wVar 9) (wCons (wVar 9) wNil))) (wC (.d (.bool true)))))) (wRet (wC (.d (.bool false)))) wNext)
    (wIfS (wNot (wB (wIsi (wCallD F_same_history (wCons (wVar 10) (wCons (wVar 9) wNil))) [.bool]))) (wRet (wC (.d (.bool false)))) wNext)))))))
    (wIfS (wB (wOp (oEqRp true) (wLend 5 (wCB oRepr (wCons (wTup (wCons (wVar 3) (wCons (wVar 5) wNil))) wNil))) (wVar 7))) (wRet (wC (.d (.bool false)))) wNext))))))))))
    (wRet (wC (.d (.bool true)))))
end Pd
end

section
set_option Elab.async false
set_option linter.all false
set_option maxRecDepth 100000
set_option autoImplicit false
set_option maxHeartbeats 4000000
namespace Pd
open PySem PySem.Spec PyProof.Rows L2
theorem ixN_pos {n : Nat} {i : Int} (h0 : 0 ≤ i) (h1 : i < n) : ixN n i = some i.toNat := by
  unfold ixN
  rw [if_pos h0, if_pos h1]
theorem ev_d0 {p : Deed} {Φ : W → Prop} : oIx (.d (deedD p)) (.d (.int 0)) Φ = Φ (.d (.str p.1)) := rfl
theorem ev_d1 {p : Deed} {Φ : W → Prop} : oIx (.d (deedD p)) (.d (.int 1)) Φ = Φ (.d (.str p.2)) := rfl
theorem r_deed {row : List Deed} {i : Int} (h0 : 0 ≤ i) (h1 : i < row.length) : ∃ p, row[i.toNat]? = some p ∧ p ∈ row ∧ ∀ Φ : W → Prop, oIx (.d (rowD row)) (.d (.int i)) Φ = Φ (.d (deedD p)) := by
  have h : i.toNat < row.length := by omega
  have e : row[i.toNat]? = some row[i.toNat] := List.getElem?_eq_getElem h
  exact ⟨_, e, List.mem_of_getElem? e, fun Φ => ev_ixL h0 (map_get e)⟩
theorem RowOk.perm {r s : List Deed} (h : RowOk r) (p : s.Perm r) : RowOk s := ⟨by rw [p.length_eq]; exact h.len, fun x hx => h.ok x (p.mem_iff.mp hx)⟩
theorem RowOk.set {r : List Deed} (h : RowOk r) (j : Nat) {p : Deed} (hp : NameOk p.1 ∧ NameOk p.2) : RowOk (r.set j p) := ⟨by rw [List.length_set]; exact h.len, fun x hx => by
  rcases List.mem_or_eq_of_mem_set hx with z | z
  · exact h.ok x z
  · rw [z]; exact hp⟩
theorem RowOk.sub {r s : List Deed} (h : RowOk r) (l : s.length ≤ 60) (m : ∀ x ∈ s, x ∈ r) : RowOk s := ⟨l, fun x hx => h.ok x (m x hx)⟩
theorem empty_eqv (row : List Deed) : PyData.eqv (rowD row) (.list []) = decide (row = []) := rowD_eqv row []
def F_law_other : FW := fun ws Φ => ∃ a row, ws = [.p a, .d (rowD row)] ∧ RowOk row ∧ row.length ≤ 7 ∧ ∀ r, RowOk r → r.length ≤ 8 → Φ (.d (rowD r))
theorem l_law_other (ws : List W) (Φ : W → Prop) (h : F_law_other ws Φ) : ws.length = 2 := by
  obtain ⟨a, row, rfl, _⟩ := h
  rfl
theorem ab_ok : NameOk "a" ∧ NameOk "b" := ⟨⟨⟨by decide +kernel, small_line (by decide +kernel)⟩, by decide +kernel⟩, ⟨⟨by decide +kernel, small_line (by decide +kernel)⟩, by decide +kernel⟩⟩
theorem m_law_other (ws : List W) (Φ : W → Prop) (h : F_law_other ws Φ) : w_law_other F_law_take (startR n_law_other ws) ⟨fun _ => Φ (.d .none), Φ, fun _ => False, fun _ => False⟩ := by
  obtain ⟨a, row, rfl, ok, h7, q⟩ := h
  simp only [w_law_other, n_law_other, wSeq2, wNext, wRet, wDrop, wIfS, wSet, wSetO, wSetN, wSetC, wSetIx, wSetI, wSetBx, wSetB, wAug, wApp, wAsg, wPar, wNilO, wConsO, wConsN, wL2N, putR, noUn, wVar, wC, wNil, wCons, wTup, wLst, wFz, wOp, wB, wAnd, wOr, wNot, wAndV, wOrV, wNotV, wIf, wNeg, wCB, wCL, wCallD, wRetB, wIsi, wSl, wNoPart, wPart, wRev, wFrz, wLend, wLendT, wLendL, muW, wFor, wSeq, wRange1, wRange2, wLc, wipeR, wgName, wgTup, wgCons, wgNil, startR, wJoin, wZip, wEnum, wBrk, wCnt, wIxOx, wIxO, wPopSet, wPopAt, wPopAtSet, popAtW, wExt, wSet2, ev_addI, ev_addS, ev_addT, ev_addL, ev_mulI, ev_I, ev_I0, ev_ltI, ev_ltS, ev_ge, ev_eqI, ev_eqS, ev_eqB, ev_p0, ev_p1, ev_p2, ev_lenL, ev_lenT, ev_lenS, ev_lenQ, ev_lenK, ev_tupL, ev_tupT, ev_lisL, ev_lisT, ev_intI, ev_intB, ev_max2, ev_min2, ev_repr, ev_eqRp, ev_slL, ev_slT, ev_slS, ev_seqL, ev_seqT, ev_seqS, ev_inL, ev_inT, ev_isB, ev_dO, ev_dat0, ev_dat1, ev_dat2, ev_dat3, ev_dat4, ev_dat5, ev_dat8, List.getElem?_cons_zero, List.getElem?_cons_succ, List.set_cons_zero, List.set_cons_succ, List.map_cons, List.map_nil, List.cons_append, List.nil_append, List.append_nil, List.replicate, List.length_cons, List.length_nil, Nat.reduceAdd, Nat.reduceSub, Option.some.injEq, List.append_eq, Nat.zero_add, exists_eq', exists_eq_left', Sl.mu.injEq, Mu.l.injEq, Sl.sh.injEq, W.p.injEq, true_and, and_true, or_true, true_or, ite_true, ite_false, if_true, if_false, Bool.false_eq_true, decide_eq_true_eq]
  refine r_take (by decide) (by decide) fun form hf0 hf1 => ?_
  simp only [wSeq2, wNext, wRet, wDrop, wIfS, wSet, wSetO, wSetN, wSetC, wSetIx, wSetI, wSetBx, wSetB, wAug, wApp, wAsg, wPar, wNilO, wConsO, wConsN, wL2N, putR, noUn, wVar, wC, wNil, wCons, wTup, wLst, wFz, wOp, wB, wAnd, wOr, wNot, wAndV, wOrV, wNotV, wIf, wNeg, wCB, wCL, wCallD, wRetB, wIsi, wSl, wNoPart, wPart, wRev, wFrz, wLend, wLendT, wLendL, muW, wFor, wSeq, wRange1, wRange2, wLc, wipeR, wgName, wgTup, wgCons, wgNil, startR, wJoin, wZip, wEnum, wBrk, wCnt, wIxOx, wIxO, wPopSet, wPopAt, wPopAtSet, popAtW, wExt, wSet2, ev_addI, ev_addS, ev_addT, ev_addL, ev_mulI, ev_I, ev_I0, ev_ltI, ev_ltS, ev_ge, ev_eqI, ev_eqS, ev_eqB, ev_p0, ev_p1, ev_p2, ev_lenL, ev_lenT, ev_lenS, ev_lenQ, ev_lenK, ev_tupL, ev_tupT, ev_lisL, ev_lisT, ev_intI, ev_intB, ev_max2, ev_min2, ev_repr, ev_eqRp, ev_slL, ev_slT, ev_slS, ev_seqL, ev_seqT, ev_seqS, ev_inL, ev_inT, ev_isB, ev_dO, ev_dat0, ev_dat1, ev_dat2, ev_dat3, ev_dat4, ev_dat5, ev_dat8, List.getElem?_cons_zero, List.getElem?_cons_succ, List.set_cons_zero, List.set_cons_succ, List.map_cons, List.map_nil, List.cons_append, List.nil_append, List.append_nil, List.replicate, List.length_cons, List.length_nil, Nat.reduceAdd, Nat.reduceSub, Option.some.injEq, List.append_eq, Nat.zero_add, exists_eq', exists_eq_left', Sl.mu.injEq, Mu.l.injEq, Sl.sh.injEq, W.p.injEq, true_and, and_true, or_true, true_or, ite_true, ite_false, if_true, if_false, Bool.false_eq_true, decide_eq_true_eq, List.length_map]
  refine r_take (by split <;> omega) (by split <;> omega) fun at_ ha0 ha1 => ?_
  simp only [wSeq2, wNext, wRet, wDrop, wIfS, wSet, wSetO, wSetN, wSetC, wSetIx, wSetI, wSetBx, wSetB, wAug, wApp, wAsg, wPar, wNilO, wConsO, wConsN, wL2N, putR, noUn, wVar, wC, wNil, wCons, wTup, wLst, wFz, wOp, wB, wAnd, wOr, wNot, wAndV, wOrV, wNotV, wIf, wNeg, wCB, wCL, wCallD, wRetB, wIsi, wSl, wNoPart, wPart, wRev, wFrz, wLend, wLendT, wLendL, muW, wFor, wSeq, wRange1, wRange2, wLc, wipeR, wgName, wgTup, wgCons, wgNil, startR, wJoin, wZip, wEnum, wBrk, wCnt, wIxOx, wIxO, wPopSet, wPopAt, wPopAtSet, popAtW, wExt, wSet2, ev_addI, ev_addS, ev_addT, ev_addL, ev_mulI, ev_I, ev_I0, ev_ltI, ev_ltS, ev_ge, ev_eqI, ev_eqS, ev_eqB, ev_p0, ev_p1, ev_p2, ev_lenL, ev_lenT, ev_lenS, ev_lenQ, ev_lenK, ev_tupL, ev_tupT, ev_lisL, ev_lisT, ev_intI, ev_intB, ev_max2, ev_min2, ev_repr, ev_eqRp, ev_slL, ev_slT, ev_slS, ev_seqL, ev_seqT, ev_seqS, ev_inL, ev_inT, ev_isB, ev_dO, ev_dat0, ev_dat1, ev_dat2, ev_dat3, ev_dat4, ev_dat5, ev_dat8, List.getElem?_cons_zero, List.getElem?_cons_succ, List.set_cons_zero, List.set_cons_succ, List.map_cons, List.map_nil, List.cons_append, List.nil_append, List.append_nil, List.replicate, List.length_cons, List.length_nil, Nat.reduceAdd, Nat.reduceSub, Option.some.injEq, List.append_eq, Nat.zero_add, exists_eq', exists_eq_left', Sl.mu.injEq, Mu.l.injEq, Sl.sh.injEq, W.p.injEq, true_and, and_true, or_true, true_or, ite_true, ite_false, if_true, if_false, Bool.false_eq_true, decide_eq_true_eq, List.length_map]
  refine r_take (by split <;> omega) (by split <;> omega) fun to ht0 ht1 => ?_
  simp only [wSeq2, wNext, wRet, wDrop, wIfS, wSet, wSetO, wSetN, wSetC, wSetIx, wSetI, wSetBx, wSetB, wAug, wApp, wAsg, wPar, wNilO, wConsO, wConsN, wL2N, putR, noUn, wVar, wC, wNil, wCons, wTup, wLst, wFz, wOp, wB, wAnd, wOr, wNot, wAndV, wOrV, wNotV, wIf, wNeg, wCB, wCL, wCallD, wRetB, wIsi, wSl, wNoPart, wPart, wRev, wFrz, wLend, wLendT, wLendL, muW, wFor, wSeq, wRange1, wRange2, wLc, wipeR, wgName, wgTup, wgCons, wgNil, startR, wJoin, wZip, wEnum, wBrk, wCnt, wIxOx, wIxO, wPopSet, wPopAt, wPopAtSet, popAtW, wExt, wSet2, ev_addI, ev_addS, ev_addT, ev_addL, ev_mulI, ev_I, ev_I0, ev_ltI, ev_ltS, ev_ge, ev_eqI, ev_eqS, ev_eqB, ev_p0, ev_p1, ev_p2, ev_lenL, ev_lenT, ev_lenS, ev_lenQ, ev_lenK, ev_tupL, ev_tupT, ev_lisL, ev_lisT, ev_intI, ev_intB, ev_max2, ev_min2, ev_repr, ev_eqRp, ev_slL, ev_slT, ev_slS, ev_seqL, ev_seqT, ev_seqS, ev_inL, ev_inT, ev_isB, ev_dO, ev_dat0, ev_dat1, ev_dat2, ev_dat3, ev_dat4, ev_dat5, ev_dat8, List.getElem?_cons_zero, List.getElem?_cons_succ, List.set_cons_zero, List.set_cons_succ, List.map_cons, List.map_nil, List.cons_append, List.nil_append, List.append_nil, List.replicate, List.length_cons, List.length_nil, Nat.reduceAdd, Nat.reduceSub, Option.some.injEq, List.append_eq, Nat.zero_add, exists_eq', exists_eq_left', Sl.mu.injEq, Mu.l.injEq, Sl.sh.injEq, W.p.injEq, true_and, and_true, or_true, true_or, ite_true, ite_false, if_true, if_false, Bool.false_eq_true, decide_eq_true_eq]
  rw [ev_eq, empty_eqv]
  refine ⟨by simp [PyData.depth, PyData.depthAll], ?_⟩
  by_cases hr : row = []
  · subst hr
    simp only [wSeq2, wNext, wRet, wDrop, wIfS, wSet, wSetO, wSetN, wSetC, wSetIx, wSetI, wSetBx, wSetB, wAug, wApp, wAsg, wPar, wNilO, wConsO, wConsN, wL2N, putR, noUn, wVar, wC, wNil, wCons, wTup, wLst, wFz, wOp, wB, wAnd, wOr, wNot, wAndV, wOrV, wNotV, wIf, wNeg, wCB, wCL, wCallD, wRetB, wIsi, wSl, wNoPart, wPart, wRev, wFrz, wLend, wLendT, wLendL, muW, wFor, wSeq, wRange1, wRange2, wLc, wipeR, wgName, wgTup, wgCons, wgNil, startR, wJoin, wZip, wEnum, wBrk, wCnt, wIxOx, wIxO, wPopSet, wPopAt, wPopAtSet, popAtW, wExt, wSet2, ev_addI, ev_addS, ev_addT, ev_addL, ev_mulI, ev_I, ev_I0, ev_ltI, ev_ltS, ev_ge, ev_eqI, ev_eqS, ev_eqB, ev_p0, ev_p1, ev_p2, ev_lenL, ev_lenT, ev_lenS, ev_lenQ, ev_lenK, ev_tupL, ev_tupT, ev_lisL, ev_lisT, ev_intI, ev_intB, ev_max2, ev_min2, ev_repr, ev_eqRp, ev_slL, ev_slT, ev_slS, ev_seqL, ev_seqT, ev_seqS, ev_inL, ev_inT, ev_isB, ev_dO, ev_dat0, ev_dat1, ev_dat2, ev_dat3, ev_dat4, ev_dat5, ev_dat8, List.getElem?_cons_zero, List.getElem?_cons_succ, List.set_cons_zero, List.set_cons_succ, List.map_cons, List.map_nil, List.cons_append, List.nil_append, List.append_nil, List.replicate, List.length_cons, List.length_nil, Nat.reduceAdd, Nat.reduceSub, Option.some.injEq, List.append_eq, Nat.zero_add, exists_eq', exists_eq_left', Sl.mu.injEq, Mu.l.injEq, Sl.sh.injEq, W.p.injEq, true_and, and_true, or_true, true_or, ite_true, ite_false, if_true, if_false, Bool.false_eq_true, decide_eq_true_eq, decide_true, Bool.false_bne]
    unfold oMul
    simp only [List.length_singleton]
    refine ⟨⟨by omega, by omega, small_line (by omega)⟩, ?_⟩
    have e2 : (List.replicate form.toNat [PyData.tuple [.str "a", .str "b"]]).flatten = (List.replicate form.toNat (("a", "b") : Deed)).map deedD := by
      rw [List.map_replicate]
      have : ∀ (n : Nat) (x : D), (List.replicate n [x]).flatten = List.replicate n x := fun n x => by
        induction n with
        | zero => rfl
        | succ n ih => rw [List.replicate_succ, List.flatten_cons, ih]; rfl
      exact this _ _
    rw [e2]
    refine q _ ⟨by rw [List.length_replicate]; omega, fun p hp => ?_⟩ (by rw [List.length_replicate]; omega)
    rw [List.eq_of_mem_replicate hp]
    exact ab_ok
  · have hpos := List.length_pos_iff.mpr hr
    have ha : at_ < row.length := by split at ha1 <;> omega
    have ht : to < row.length := by split at ht1 <;> omega
    obtain ⟨pa, ea, ma, xa⟩ := r_deed ha0 ha
    obtain ⟨pt, et, mt, xt⟩ := r_deed ht0 ht
    have oka := ok.ok pa ma
    have okt := ok.ok pt mt
    have ia := ixN_pos ha0 (n := row.length) (by omega)
    have it := ixN_pos ht0 (n := row.length) (by omega)
    have ed : decide (row = []) = false := decide_eq_false hr
    simp only [ed, wSeq2, wNext, wRet, wDrop, wIfS, wSet, wSetO, wSetN, wSetC, wSetIx, wSetI, wSetBx, wSetB, wAug, wApp, wAsg, wPar, wNilO, wConsO, wConsN, wL2N, putR, noUn, wVar, wC, wNil, wCons, wTup, wLst, wFz, wOp, wB, wAnd, wOr, wNot, wAndV, wOrV, wNotV, wIf, wNeg, wCB, wCL, wCallD, wRetB, wIsi, wSl, wNoPart, wPart, wRev, wFrz, wLend, wLendT, wLendL, muW, wFor, wSeq, wRange1, wRange2, wLc, wipeR, wgName, wgTup, wgCons, wgNil, startR, wJoin, wZip, wEnum, wBrk, wCnt, wIxOx, wIxO, wPopSet, wPopAt, wPopAtSet, popAtW, wExt, wSet2, ev_addI, ev_addS, ev_addT, ev_addL, ev_mulI, ev_I, ev_I0, ev_ltI, ev_ltS, ev_ge, ev_eqI, ev_eqS, ev_eqB, ev_p0, ev_p1, ev_p2, ev_lenL, ev_lenT, ev_lenS, ev_lenQ, ev_lenK, ev_tupL, ev_tupT, ev_lisL, ev_lisT, ev_intI, ev_intB, ev_max2, ev_min2, ev_repr, ev_eqRp, ev_slL, ev_slT, ev_slS, ev_seqL, ev_seqT, ev_seqS, ev_inL, ev_inT, ev_isB, ev_dO, ev_dat0, ev_dat1, ev_dat2, ev_dat3, ev_dat4, ev_dat5, ev_dat8, List.getElem?_cons_zero, List.getElem?_cons_succ, List.set_cons_zero, List.set_cons_succ, List.map_cons, List.map_nil, List.cons_append, List.nil_append, List.append_nil, List.replicate, List.length_cons, List.length_nil, Nat.reduceAdd, Nat.reduceSub, Option.some.injEq, List.append_eq, Nat.zero_add, exists_eq', exists_eq_left', Sl.mu.injEq, Mu.l.injEq, Sl.sh.injEq, W.p.injEq, true_and, and_true, or_true, true_or, ite_true, ite_false, if_true, if_false, Bool.false_eq_true, decide_eq_true_eq, Bool.false_bne, xa, xt, ev_d0, ev_d1, List.length_map, ia, it]
    have tk : ∀ i : Int, 0 ≤ i → i < row.length → (row.take i.toNat).length + (row.drop (i + 1).toNat).length + 1 = row.length := fun i h0 h1 => by
      rw [List.length_take, List.length_drop]
      omega
    have hl := ok.len
    split
    · rw [← List.map_set, ← List.map_set]
      exact q _ ((ok.set _ okt).set _ oka) (by simp; omega)
    · split
      · rw [← List.map_set]
        exact q _ (ok.set _ okt) (by simp; omega)
      · split
        · have e : PyData.tuple [.str pt.1, .str pa.2] = deedD (pt.1, pa.2) := rfl
          rw [e, ← List.map_set]
          exact q _ (ok.set _ ⟨okt.1, oka.2⟩) (by simp; omega)
        · split
          · rw [cutD_to ha0, cutD_from (by omega), ← List.map_take, ← List.map_drop, ← List.map_append, List.length_map, List.length_map]
            have z := tk at_ ha0 ha
            refine ⟨small_line (by omega), q _ (ok.sub (by rw [List.length_append]; omega) fun x hx => ?_) (by rw [List.length_append]; omega)⟩
            rcases List.mem_append.mp hx with z | z
            · exact List.mem_of_mem_take z
            · exact List.mem_of_mem_drop z
          · split
            · rw [cutD_to ha0, cutD_from (by omega), cutD_mid (by omega) (by omega), ← List.map_take, ← List.map_take, ← List.map_drop, ← List.map_drop, ← List.map_append, ← List.map_append, List.length_map, List.length_map, List.length_map, List.length_map]
              have z1 : (row.take at_.toNat).length ≤ row.length - 1 := by rw [List.length_take]; omega
              have z2 : ((row.take (at_ + 1).toNat).drop at_.toNat).length ≤ 1 := by rw [List.length_drop, List.length_take]; omega
              have z3 : (row.drop at_.toNat).length + at_.toNat = row.length := by rw [List.length_drop]; omega
              have z4 : (row.take at_.toNat).length = at_.toNat := by rw [List.length_take]; omega
              refine ⟨small_line (by omega), small_line (by rw [List.length_append]; omega), q _ (ok.sub (by rw [List.length_append, List.length_append]; omega) fun x hx => ?_) (by rw [List.length_append, List.length_append]; omega)⟩
              rcases List.mem_append.mp hx with z | z
              · rcases List.mem_append.mp z with z | z
                · exact List.mem_of_mem_take z
                · exact List.mem_of_mem_take (List.mem_of_mem_drop z)
              · exact List.mem_of_mem_drop z
            · rw [← List.map_reverse]
              exact q _ (ok.perm (List.reverse_perm row)) (by simp; omega)
end Pd
end

section
set_option Elab.async false
set_option linter.all false
set_option maxRecDepth 100000
set_option autoImplicit false
set_option maxHeartbeats 4000000
namespace Pd
open PySem PySem.Spec PyProof.Rows L2
def F_law_last_walker_right : FW := fun ws Φ => ∃ a, ws = [.p a] ∧ Φ (.d (.bool true))
theorem l_law_last_walker_right (ws : List W) (Φ : W → Prop) (h : F_law_last_walker_right ws Φ) : ws.length = 1 := by
  obtain ⟨a, rfl, _⟩ := h
  rfl
theorem zip_deeds : ∀ (xs ys : List Str), (zipD (xs.map PyData.str) (ys.map PyData.str)) = (xs.zip ys).map deedD
  | [], _ => rfl
  | _ :: _, [] => rfl
  | x :: xs, y :: ys => by
    rw [List.map_cons, List.map_cons, zipD, zip_deeds xs ys]
    rfl
theorem zzz_ok : NameOk zzz := ⟨⟨by decide +kernel, small_line (by decide +kernel)⟩, by decide +kernel⟩
theorem str_inj {a b : Str} (h : PyData.str a = .str b) : a = b := PyData.str.inj h
/-- two deeds of one walker at the end, exchanged -/
theorem not_hist {A : List Deed} {x y z : Str} (h : y ≠ z) : ¬ Hist (A ++ [(x, y), (x, z)]) (A ++ [(x, z), (x, y)]) := fun h' => by
  have := h'.w x
  rw [groupOf_append, groupOf_append] at this
  have := List.append_cancel_left this
  simp [groupOf] at this
  exact h this.1
theorem not_hist2 {A : List Deed} {x x' z : Str} (h : x ≠ x') : ¬ Hist (A ++ [(x, z), (x', z)]) (A ++ [(x', z), (x, z)]) := fun h' => by
  have := h'.d z
  rw [swapR_append, swapR_append, groupOf_append, groupOf_append] at this
  have := List.append_cancel_left this
  simp [groupOf, swapR] at this
  exact h this.1
theorem group_comm {A B : List Deed} (h : ∀ a ∈ A, ∀ b ∈ B, a.1 ≠ b.1) (k : Str) : groupOf (A ++ B) k = groupOf (B ++ A) k := by
  rw [groupOf_append, groupOf_append]
  by_cases hk : ∃ a ∈ A, a.1 = k
  · obtain ⟨a, ha, e⟩ := hk
    rw [groupOf_none (a := B) fun b hb z => h a ha b hb (e.trans z.symm), List.append_nil, List.nil_append]
  · rw [groupOf_none (a := A) fun a ha z => hk ⟨a, ha, z⟩, List.append_nil, List.nil_append]
theorem hist_comm {A B : List Deed} (h : ∀ a ∈ A, ∀ b ∈ B, Indep a b) : Hist (A ++ B) (B ++ A) := ⟨group_comm fun a ha b hb => (h a ha b hb).1, fun k => by
  rw [swapR_append, swapR_append]
  refine group_comm (fun a ha b hb => ?_) k
  obtain ⟨a', ha', rfl⟩ := List.mem_map.mp ha
  obtain ⟨b', hb', rfl⟩ := List.mem_map.mp hb
  exact (h a' ha' b' hb').2⟩
theorem nodup_at {α : Type} {xs : List α} {i j : Nat} {x : α} (nd : xs.Nodup) (h1 : xs[i]? = some x) (h2 : xs[j]? = some x) : i = j := by
  exact (List.getElem?_inj (List.getElem?_eq_some_iff.mp h1).1 nd).mp (h1.trans h2.symm)
theorem r_same {x y : D} {r s : List Deed} {Φ : W → Prop} (hx : isRow x r) (hy : isRow y s) (okr : RowOk r) (oks : RowOk s) (q : ∀ b : Bool, (b = true ↔ Hist r s) → Φ (.d (.bool b))) : F_same_history [.d x, .d y] Φ := ⟨x, y, r, s, rfl, hx, hy, okr, oks, q⟩
theorem m_law_last_walker_right (ws : List W) (Φ : W → Prop) (h : F_law_last_walker_right ws Φ) : w_law_last_walker_right F_law_take F_law_names F_same_history (startR n_law_last_walker_right ws) ⟨fun _ => Φ (.d .none), Φ, fun _ => False, fun _ => False⟩ := by
  obtain ⟨a, rfl, q⟩ := h
  simp only [w_law_last_walker_right, n_law_last_walker_right, wSeq2, wNext, wRet, wDrop, wIfS, wSet, wSetO, wSetN, wSetC, wSetIx, wSetI, wSetBx, wSetB, wAug, wApp, wAsg, wPar, wNilO, wConsO, wConsN, wL2N, putR, noUn, wVar, wC, wNil, wCons, wTup, wLst, wFz, wOp, wB, wAnd, wOr, wNot, wAndV, wOrV, wNotV, wIf, wNeg, wCB, wCL, wCallD, wRetB, wIsi, wSl, wNoPart, wPart, wRev, wFrz, wLend, wLendT, wLendL, muW, wFor, wSeq, wRange1, wRange2, wLc, wipeR, wgName, wgTup, wgCons, wgNil, startR, wJoin, wZip, wEnum, wBrk, wCnt, wIxOx, wIxO, wPopSet, wPopAt, wPopAtSet, popAtW, wExt, wSet2, ev_addI, ev_addS, ev_addT, ev_addL, ev_mulI, ev_I, ev_I0, ev_ltI, ev_ltS, ev_ge, ev_eqI, ev_eqS, ev_eqB, ev_p0, ev_p1, ev_p2, ev_lenL, ev_lenT, ev_lenS, ev_lenQ, ev_lenK, ev_tupL, ev_tupT, ev_lisL, ev_lisT, ev_intI, ev_intB, ev_max2, ev_min2, ev_repr, ev_eqRp, ev_slL, ev_slT, ev_slS, ev_seqL, ev_seqT, ev_seqS, ev_inL, ev_inT, ev_isB, ev_dO, ev_dat0, ev_dat1, ev_dat2, ev_dat3, ev_dat4, ev_dat5, ev_dat8, List.getElem?_cons_zero, List.getElem?_cons_succ, List.set_cons_zero, List.set_cons_succ, List.map_cons, List.map_nil, List.cons_append, List.nil_append, List.append_nil, List.replicate, List.length_cons, List.length_nil, Nat.reduceAdd, Nat.reduceSub, Option.some.injEq, List.append_eq, Nat.zero_add, exists_eq', exists_eq_left', Sl.mu.injEq, Mu.l.injEq, Sl.sh.injEq, W.p.injEq, true_and, and_true, or_true, true_or, ite_true, ite_false, if_true, if_false, Bool.false_eq_true, decide_eq_true_eq]
  refine r_take (by decide) (by decide) fun m hm0 hm1 => ?_
  try simp only [wSeq2, wNext, wRet, wDrop, wIfS, wSet, wSetO, wSetN, wSetC, wSetIx, wSetI, wSetBx, wSetB, wAug, wApp, wAsg, wPar, wNilO, wConsO, wConsN, wL2N, putR, noUn, wVar, wC, wNil, wCons, wTup, wLst, wFz, wOp, wB, wAnd, wOr, wNot, wAndV, wOrV, wNotV, wIf, wNeg, wCB, wCL, wCallD, wRetB, wIsi, wSl, wNoPart, wPart, wRev, wFrz, wLend, wLendT, wLendL, muW, wFor, wSeq, wRange1, wRange2, wLc, wipeR, wgName, wgTup, wgCons, wgNil, startR, wJoin, wZip, wEnum, wBrk, wCnt, wIxOx, wIxO, wPopSet, wPopAt, wPopAtSet, popAtW, wExt, wSet2, ev_addI, ev_addS, ev_addT, ev_addL, ev_mulI, ev_I, ev_I0, ev_ltI, ev_ltS, ev_ge, ev_eqI, ev_eqS, ev_eqB, ev_p0, ev_p1, ev_p2, ev_lenL, ev_lenT, ev_lenS, ev_lenQ, ev_lenK, ev_tupL, ev_tupT, ev_lisL, ev_lisT, ev_intI, ev_intB, ev_max2, ev_min2, ev_repr, ev_eqRp, ev_slL, ev_slT, ev_slS, ev_seqL, ev_seqT, ev_seqS, ev_inL, ev_inT, ev_isB, ev_dO, ev_dat0, ev_dat1, ev_dat2, ev_dat3, ev_dat4, ev_dat5, ev_dat8, List.getElem?_cons_zero, List.getElem?_cons_succ, List.set_cons_zero, List.set_cons_succ, List.map_cons, List.map_nil, List.cons_append, List.nil_append, List.append_nil, List.replicate, List.length_cons, List.length_nil, Nat.reduceAdd, Nat.reduceSub, Option.some.injEq, List.append_eq, Nat.zero_add, exists_eq', exists_eq_left', Sl.mu.injEq, Mu.l.injEq, Sl.sh.injEq, W.p.injEq, true_and, and_true, or_true, true_or, ite_true, ite_false, if_true, if_false, Bool.false_eq_true, decide_eq_true_eq]
  refine r_names (by omega) (by omega) fun xs hxl hx => ?_
  try simp only [wSeq2, wNext, wRet, wDrop, wIfS, wSet, wSetO, wSetN, wSetC, wSetIx, wSetI, wSetBx, wSetB, wAug, wApp, wAsg, wPar, wNilO, wConsO, wConsN, wL2N, putR, noUn, wVar, wC, wNil, wCons, wTup, wLst, wFz, wOp, wB, wAnd, wOr, wNot, wAndV, wOrV, wNotV, wIf, wNeg, wCB, wCL, wCallD, wRetB, wIsi, wSl, wNoPart, wPart, wRev, wFrz, wLend, wLendT, wLendL, muW, wFor, wSeq, wRange1, wRange2, wLc, wipeR, wgName, wgTup, wgCons, wgNil, startR, wJoin, wZip, wEnum, wBrk, wCnt, wIxOx, wIxO, wPopSet, wPopAt, wPopAtSet, popAtW, wExt, wSet2, ev_addI, ev_addS, ev_addT, ev_addL, ev_mulI, ev_I, ev_I0, ev_ltI, ev_ltS, ev_ge, ev_eqI, ev_eqS, ev_eqB, ev_p0, ev_p1, ev_p2, ev_lenL, ev_lenT, ev_lenS, ev_lenQ, ev_lenK, ev_tupL, ev_tupT, ev_lisL, ev_lisT, ev_intI, ev_intB, ev_max2, ev_min2, ev_repr, ev_eqRp, ev_slL, ev_slT, ev_slS, ev_seqL, ev_seqT, ev_seqS, ev_inL, ev_inT, ev_isB, ev_dO, ev_dat0, ev_dat1, ev_dat2, ev_dat3, ev_dat4, ev_dat5, ev_dat8, List.getElem?_cons_zero, List.getElem?_cons_succ, List.set_cons_zero, List.set_cons_succ, List.map_cons, List.map_nil, List.cons_append, List.nil_append, List.append_nil, List.replicate, List.length_cons, List.length_nil, Nat.reduceAdd, Nat.reduceSub, Option.some.injEq, List.append_eq, Nat.zero_add, exists_eq', exists_eq_left', Sl.mu.injEq, Mu.l.injEq, Sl.sh.injEq, W.p.injEq, true_and, and_true, or_true, true_or, ite_true, ite_false, if_true, if_false, Bool.false_eq_true, decide_eq_true_eq]
  refine r_names (by decide) (by decide) fun ys hyl hy => ?_
  try simp only [wSeq2, wNext, wRet, wDrop, wIfS, wSet, wSetO, wSetN, wSetC, wSetIx, wSetI, wSetBx, wSetB, wAug, wApp, wAsg, wPar, wNilO, wConsO, wConsN, wL2N, putR, noUn, wVar, wC, wNil, wCons, wTup, wLst, wFz, wOp, wB, wAnd, wOr, wNot, wAndV, wOrV, wNotV, wIf, wNeg, wCB, wCL, wCallD, wRetB, wIsi, wSl, wNoPart, wPart, wRev, wFrz, wLend, wLendT, wLendL, muW, wFor, wSeq, wRange1, wRange2, wLc, wipeR, wgName, wgTup, wgCons, wgNil, startR, wJoin, wZip, wEnum, wBrk, wCnt, wIxOx, wIxO, wPopSet, wPopAt, wPopAtSet, popAtW, wExt, wSet2, ev_addI, ev_addS, ev_addT, ev_addL, ev_mulI, ev_I, ev_I0, ev_ltI, ev_ltS, ev_ge, ev_eqI, ev_eqS, ev_eqB, ev_p0, ev_p1, ev_p2, ev_lenL, ev_lenT, ev_lenS, ev_lenQ, ev_lenK, ev_tupL, ev_tupT, ev_lisL, ev_lisT, ev_intI, ev_intB, ev_max2, ev_min2, ev_repr, ev_eqRp, ev_slL, ev_slT, ev_slS, ev_seqL, ev_seqT, ev_seqS, ev_inL, ev_inT, ev_isB, ev_dO, ev_dat0, ev_dat1, ev_dat2, ev_dat3, ev_dat4, ev_dat5, ev_dat8, List.getElem?_cons_zero, List.getElem?_cons_succ, List.set_cons_zero, List.set_cons_succ, List.map_cons, List.map_nil, List.cons_append, List.nil_append, List.append_nil, List.replicate, List.length_cons, List.length_nil, Nat.reduceAdd, Nat.reduceSub, Option.some.injEq, List.append_eq, Nat.zero_add, exists_eq', exists_eq_left', Sl.mu.injEq, Mu.l.injEq, Sl.sh.injEq, W.p.injEq, true_and, and_true, or_true, true_or, ite_true, ite_false, if_true, if_false, Bool.false_eq_true, decide_eq_true_eq]
  refine compW_map (fun d => d) (fun d hd T hT => ?_) ?_
  · rw [zip_deeds] at hd
    obtain ⟨p, hp, rfl⟩ := List.mem_map.mp hd
    simp only [wSeq2, wNext, wRet, wDrop, wIfS, wSet, wSetO, wSetN, wSetC, wSetIx, wSetI, wSetBx, wSetB, wAug, wApp, wAsg, wPar, wNilO, wConsO, wConsN, wL2N, putR, noUn, wVar, wC, wNil, wCons, wTup, wLst, wFz, wOp, wB, wAnd, wOr, wNot, wAndV, wOrV, wNotV, wIf, wNeg, wCB, wCL, wCallD, wRetB, wIsi, wSl, wNoPart, wPart, wRev, wFrz, wLend, wLendT, wLendL, muW, wFor, wSeq, wRange1, wRange2, wLc, wipeR, wgName, wgTup, wgCons, wgNil, startR, wJoin, wZip, wEnum, wBrk, wCnt, wIxOx, wIxO, wPopSet, wPopAt, wPopAtSet, popAtW, wExt, wSet2, ev_addI, ev_addS, ev_addT, ev_addL, ev_mulI, ev_I, ev_I0, ev_ltI, ev_ltS, ev_ge, ev_eqI, ev_eqS, ev_eqB, ev_p0, ev_p1, ev_p2, ev_lenL, ev_lenT, ev_lenS, ev_lenQ, ev_lenK, ev_tupL, ev_tupT, ev_lisL, ev_lisT, ev_intI, ev_intB, ev_max2, ev_min2, ev_repr, ev_eqRp, ev_slL, ev_slT, ev_slS, ev_seqL, ev_seqT, ev_seqS, ev_inL, ev_inT, ev_isB, ev_dO, ev_dat0, ev_dat1, ev_dat2, ev_dat3, ev_dat4, ev_dat5, ev_dat8, List.getElem?_cons_zero, List.getElem?_cons_succ, List.set_cons_zero, List.set_cons_succ, List.map_cons, List.map_nil, List.cons_append, List.nil_append, List.append_nil, List.replicate, List.length_cons, List.length_nil, Nat.reduceAdd, Nat.reduceSub, Option.some.injEq, List.append_eq, Nat.zero_add, exists_eq', exists_eq_left', Sl.mu.injEq, Mu.l.injEq, Sl.sh.injEq, W.p.injEq, true_and, and_true, or_true, true_or, ite_true, ite_false, if_true, if_false, Bool.false_eq_true, decide_eq_true_eq, deedD]
    exact hT
  rw [List.nil_append, List.map_id', zip_deeds]
  obtain ⟨row, hrow⟩ : ∃ row, row = xs.zip ys := ⟨_, rfl⟩
  have hrl : row.length = xs.length := by rw [hrow, List.length_zip]; omega
  have okr : RowOk row := ⟨by omega, fun p hp => by
    rw [hrow] at hp
    exact ⟨hx.ok _ (List.of_mem_zip hp).1, hy.ok _ (List.of_mem_zip hp).2⟩⟩
  have rget : ∀ (i : Nat) (p : Deed), row[i]? = some p → xs[i]? = some p.1 ∧ ys[i]? = some p.2 := fun i p e => by
    rw [hrow, List.getElem?_zip_eq_some] at e
    exact e
  rw [← hrow]
  try simp only [wSeq2, wNext, wRet, wDrop, wIfS, wSet, wSetO, wSetN, wSetC, wSetIx, wSetI, wSetBx, wSetB, wAug, wApp, wAsg, wPar, wNilO, wConsO, wConsN, wL2N, putR, noUn, wVar, wC, wNil, wCons, wTup, wLst, wFz, wOp, wB, wAnd, wOr, wNot, wAndV, wOrV, wNotV, wIf, wNeg, wCB, wCL, wCallD, wRetB, wIsi, wSl, wNoPart, wPart, wRev, wFrz, wLend, wLendT, wLendL, muW, wFor, wSeq, wRange1, wRange2, wLc, wipeR, wgName, wgTup, wgCons, wgNil, startR, wJoin, wZip, wEnum, wBrk, wCnt, wIxOx, wIxO, wPopSet, wPopAt, wPopAtSet, popAtW, wExt, wSet2, ev_addI, ev_addS, ev_addT, ev_addL, ev_mulI, ev_I, ev_I0, ev_ltI, ev_ltS, ev_ge, ev_eqI, ev_eqS, ev_eqB, ev_p0, ev_p1, ev_p2, ev_lenL, ev_lenT, ev_lenS, ev_lenQ, ev_lenK, ev_tupL, ev_tupT, ev_lisL, ev_lisT, ev_intI, ev_intB, ev_max2, ev_min2, ev_repr, ev_eqRp, ev_slL, ev_slT, ev_slS, ev_seqL, ev_seqT, ev_seqS, ev_inL, ev_inT, ev_isB, ev_dO, ev_dat0, ev_dat1, ev_dat2, ev_dat3, ev_dat4, ev_dat5, ev_dat8, List.getElem?_cons_zero, List.getElem?_cons_succ, List.set_cons_zero, List.set_cons_succ, List.map_cons, List.map_nil, List.cons_append, List.nil_append, List.append_nil, List.replicate, List.length_cons, List.length_nil, Nat.reduceAdd, Nat.reduceSub, Option.some.injEq, List.append_eq, Nat.zero_add, exists_eq', exists_eq_left', Sl.mu.injEq, Mu.l.injEq, Sl.sh.injEq, W.p.injEq, true_and, and_true, or_true, true_or, ite_true, ite_false, if_true, if_false, Bool.false_eq_true, decide_eq_true_eq]
  refine r_take (by omega) (by omega) fun at_ ha0 ha1 => ?_
  try simp only [wSeq2, wNext, wRet, wDrop, wIfS, wSet, wSetO, wSetN, wSetC, wSetIx, wSetI, wSetBx, wSetB, wAug, wApp, wAsg, wPar, wNilO, wConsO, wConsN, wL2N, putR, noUn, wVar, wC, wNil, wCons, wTup, wLst, wFz, wOp, wB, wAnd, wOr, wNot, wAndV, wOrV, wNotV, wIf, wNeg, wCB, wCL, wCallD, wRetB, wIsi, wSl, wNoPart, wPart, wRev, wFrz, wLend, wLendT, wLendL, muW, wFor, wSeq, wRange1, wRange2, wLc, wipeR, wgName, wgTup, wgCons, wgNil, startR, wJoin, wZip, wEnum, wBrk, wCnt, wIxOx, wIxO, wPopSet, wPopAt, wPopAtSet, popAtW, wExt, wSet2, ev_addI, ev_addS, ev_addT, ev_addL, ev_mulI, ev_I, ev_I0, ev_ltI, ev_ltS, ev_ge, ev_eqI, ev_eqS, ev_eqB, ev_p0, ev_p1, ev_p2, ev_lenL, ev_lenT, ev_lenS, ev_lenQ, ev_lenK, ev_tupL, ev_tupT, ev_lisL, ev_lisT, ev_intI, ev_intB, ev_max2, ev_min2, ev_repr, ev_eqRp, ev_slL, ev_slT, ev_slS, ev_seqL, ev_seqT, ev_seqS, ev_inL, ev_inT, ev_isB, ev_dO, ev_dat0, ev_dat1, ev_dat2, ev_dat3, ev_dat4, ev_dat5, ev_dat8, List.getElem?_cons_zero, List.getElem?_cons_succ, List.set_cons_zero, List.set_cons_succ, List.map_cons, List.map_nil, List.cons_append, List.nil_append, List.append_nil, List.replicate, List.length_cons, List.length_nil, Nat.reduceAdd, Nat.reduceSub, Option.some.injEq, List.append_eq, Nat.zero_add, exists_eq', exists_eq_left', Sl.mu.injEq, Mu.l.injEq, Sl.sh.injEq, W.p.injEq, true_and, and_true, or_true, true_or, ite_true, ite_false, if_true, if_false, Bool.false_eq_true, decide_eq_true_eq]
  obtain ⟨p, ep, mp, xp⟩ := r_deed (row := row) ha0 (by omega)
  obtain ⟨ex, ey⟩ := rget _ p ep
  have nx : ∀ Φ : W → Prop, oIx (.d (.list (xs.map PyData.str))) (.d (.int at_)) Φ = Φ (.d (.str p.1)) := fun Φ => ev_ixL ha0 (map_get ex)
  simp only [xp, nx, wSeq2, wNext, wRet, wDrop, wIfS, wSet, wSetO, wSetN, wSetC, wSetIx, wSetI, wSetBx, wSetB, wAug, wApp, wAsg, wPar, wNilO, wConsO, wConsN, wL2N, putR, noUn, wVar, wC, wNil, wCons, wTup, wLst, wFz, wOp, wB, wAnd, wOr, wNot, wAndV, wOrV, wNotV, wIf, wNeg, wCB, wCL, wCallD, wRetB, wIsi, wSl, wNoPart, wPart, wRev, wFrz, wLend, wLendT, wLendL, muW, wFor, wSeq, wRange1, wRange2, wLc, wipeR, wgName, wgTup, wgCons, wgNil, startR, wJoin, wZip, wEnum, wBrk, wCnt, wIxOx, wIxO, wPopSet, wPopAt, wPopAtSet, popAtW, wExt, wSet2, ev_addI, ev_addS, ev_addT, ev_addL, ev_mulI, ev_I, ev_I0, ev_ltI, ev_ltS, ev_ge, ev_eqI, ev_eqS, ev_eqB, ev_p0, ev_p1, ev_p2, ev_lenL, ev_lenT, ev_lenS, ev_lenQ, ev_lenK, ev_tupL, ev_tupT, ev_lisL, ev_lisT, ev_intI, ev_intB, ev_max2, ev_min2, ev_repr, ev_eqRp, ev_slL, ev_slT, ev_slS, ev_seqL, ev_seqT, ev_seqS, ev_inL, ev_inT, ev_isB, ev_dO, ev_dat0, ev_dat1, ev_dat2, ev_dat3, ev_dat4, ev_dat5, ev_dat8, List.getElem?_cons_zero, List.getElem?_cons_succ, List.set_cons_zero, List.set_cons_succ, List.map_cons, List.map_nil, List.cons_append, List.nil_append, List.append_nil, List.replicate, List.length_cons, List.length_nil, Nat.reduceAdd, Nat.reduceSub, Option.some.injEq, List.append_eq, Nat.zero_add, exists_eq', exists_eq_left', Sl.mu.injEq, Mu.l.injEq, Sl.sh.injEq, W.p.injEq, true_and, and_true, or_true, true_or, ite_true, ite_false, if_true, if_false, Bool.false_eq_true, decide_eq_true_eq]
  rw [cutD_to ha0, cutD_from (by omega), ← List.map_take, ← List.map_drop]
  obtain ⟨A, hA⟩ : ∃ A, A = row.take at_.toNat ++ row.drop (at_ + 1).toNat := ⟨_, rfl⟩
  have hAl : A.length + 1 = row.length := by
    rw [hA, List.length_append, List.length_take, List.length_drop]
    omega
  have hAr : ∀ b ∈ A, ∃ j : Nat, row[j]? = some b ∧ j ≠ at_.toNat := fun b hb => by
    rw [hA] at hb
    rcases List.mem_append.mp hb with z | z
    · obtain ⟨j, hj⟩ := List.getElem?_of_mem z
      rw [List.getElem?_take] at hj
      split at hj
      · exact ⟨j, hj, by omega⟩
      · cases hj
    · obtain ⟨j, hj⟩ := List.getElem?_of_mem z
      rw [List.getElem?_drop] at hj
      exact ⟨_, hj, by omega⟩
  have hz : zzz = ("zzzzzz" : Str) := rfl
  rw [← hz]
  have okA : ∀ b ∈ A, NameOk b.1 ∧ NameOk b.2 := fun b hb => by
    obtain ⟨j, hj, _⟩ := hAr b hb
    exact okr.ok b (List.mem_of_getElem? hj)
  have hpn := okr.ok p mp
  have hAi : ∀ b ∈ A, Indep b p ∧ Indep b (p.1, zzz) := fun b hb => by
    obtain ⟨j, hj, hne⟩ := hAr b hb
    obtain ⟨e1, e2⟩ := rget _ b hj
    have n1 : b.1 ≠ p.1 := fun z => hne (nodup_at hx.nd e1 (z ▸ ex))
    have n2 : b.2 ≠ p.2 := fun z => hne (nodup_at hy.nd e2 (z ▸ ey))
    exact ⟨⟨n1, n2⟩, n1, hy.nz _ (List.mem_of_getElem? e2)⟩
  have hpz : p.2 ≠ zzz := hy.nz _ (List.mem_of_getElem? ey)
  have eZ : PyData.tuple [.str p.1, .str zzz] = deedD (p.1, zzz) := rfl
  have eO : (row.take at_.toNat).map deedD ++ (row.drop (at_ + 1).toNat).map deedD = A.map deedD := by rw [hA, List.map_append]
  rw [eZ, eO]
  have e1 : ∀ r s : Deed, A.map deedD ++ [deedD r, deedD s] = (A ++ [r, s]).map deedD := fun r s => by rw [List.map_append]; rfl
  have ok2 : ∀ r s : Deed, (NameOk r.1 ∧ NameOk r.2) → (NameOk s.1 ∧ NameOk s.2) → RowOk (A ++ [r, s]) := fun r s h1 h2 => ⟨by rw [List.length_append]; simp; omega, fun b hb => by
    rcases List.mem_append.mp hb with z | z
    · exact okA b z
    · simp at z
      rcases z with rfl | rfl
      · exact h1
      · exact h2⟩
  have zn : NameOk p.1 ∧ NameOk zzz := ⟨hpn.1, zzz_ok⟩
  have l1 : (row.take at_.toNat).length + (row.drop (at_ + 1).toNat).length ≤ 60 := by rw [← List.length_append, ← hA]; have := okr.len; omega
  simp only [List.length_map]
  have cut2 : cutD (A.map deedD ++ [deedD p, deedD (p.1, zzz)]) none (some (-2)) = A.map deedD := by
    rw [show (-2 : Int) = -((2 : Nat) : Int) from rfl, cutD_neg (by decide)]
    simp
  have sl := okr.len
  refine ⟨small_line (by omega), small_line (by simp; omega), small_line (by omega), small_line (by simp; omega), ?_⟩
  rw [cut2]
  refine ⟨small_line (by simp; omega), ?_⟩
  have e2 : deedD p :: deedD (p.1, zzz) :: A.map deedD = ([p, (p.1, zzz)] ++ A).map deedD := by rw [List.map_append]; rfl
  rw [e1, e1, e2]
  refine r_same (.inl rfl) (.inl rfl) (ok2 _ _ hpn zn) (ok2 _ _ zn hpn) fun b hb => ?_
  have b0 : b = false := by
    cases b with
    | false => rfl
    | true => exact absurd (hb.mp rfl) (not_hist hpz)
  subst b0
  simp only [wSeq2, wNext, wRet, wDrop, wIfS, wSet, wSetO, wSetN, wSetC, wSetIx, wSetI, wSetBx, wSetB, wAug, wApp, wAsg, wPar, wNilO, wConsO, wConsN, wL2N, putR, noUn, wVar, wC, wNil, wCons, wTup, wLst, wFz, wOp, wB, wAnd, wOr, wNot, wAndV, wOrV, wNotV, wIf, wNeg, wCB, wCL, wCallD, wRetB, wIsi, wSl, wNoPart, wPart, wRev, wFrz, wLend, wLendT, wLendL, muW, wFor, wSeq, wRange1, wRange2, wLc, wipeR, wgName, wgTup, wgCons, wgNil, startR, wJoin, wZip, wEnum, wBrk, wCnt, wIxOx, wIxO, wPopSet, wPopAt, wPopAtSet, popAtW, wExt, wSet2, ev_addI, ev_addS, ev_addT, ev_addL, ev_mulI, ev_I, ev_I0, ev_ltI, ev_ltS, ev_ge, ev_eqI, ev_eqS, ev_eqB, ev_p0, ev_p1, ev_p2, ev_lenL, ev_lenT, ev_lenS, ev_lenQ, ev_lenK, ev_tupL, ev_tupT, ev_lisL, ev_lisT, ev_intI, ev_intB, ev_max2, ev_min2, ev_repr, ev_eqRp, ev_slL, ev_slT, ev_slS, ev_seqL, ev_seqT, ev_seqS, ev_inL, ev_inT, ev_isB, ev_dO, ev_dat0, ev_dat1, ev_dat2, ev_dat3, ev_dat4, ev_dat5, ev_dat8, List.getElem?_cons_zero, List.getElem?_cons_succ, List.set_cons_zero, List.set_cons_succ, List.map_cons, List.map_nil, List.cons_append, List.nil_append, List.append_nil, List.replicate, List.length_cons, List.length_nil, Nat.reduceAdd, Nat.reduceSub, Option.some.injEq, List.append_eq, Nat.zero_add, exists_eq', exists_eq_left', Sl.mu.injEq, Mu.l.injEq, Sl.sh.injEq, W.p.injEq, true_and, and_true, or_true, true_or, ite_true, ite_false, if_true, if_false, Bool.false_eq_true, decide_eq_true_eq, decide_true, Bool.bne_true, Bool.not_true]
  refine r_same (.inl rfl) (.inl rfl) (ok2 _ _ hpn zn) ((ok2 _ _ hpn zn).perm List.perm_append_comm) fun b hb => ?_
  have b1 : b = true := hb.mpr (hist_comm fun x hx y hy => by
    simp at hy
    rcases hy with rfl | rfl
    · exact (hAi x hx).1
    · exact (hAi x hx).2)
  subst b1
  simp only [wSeq2, wNext, wRet, wDrop, wIfS, wSet, wSetO, wSetN, wSetC, wSetIx, wSetI, wSetBx, wSetB, wAug, wApp, wAsg, wPar, wNilO, wConsO, wConsN, wL2N, putR, noUn, wVar, wC, wNil, wCons, wTup, wLst, wFz, wOp, wB, wAnd, wOr, wNot, wAndV, wOrV, wNotV, wIf, wNeg, wCB, wCL, wCallD, wRetB, wIsi, wSl, wNoPart, wPart, wRev, wFrz, wLend, wLendT, wLendL, muW, wFor, wSeq, wRange1, wRange2, wLc, wipeR, wgName, wgTup, wgCons, wgNil, startR, wJoin, wZip, wEnum, wBrk, wCnt, wIxOx, wIxO, wPopSet, wPopAt, wPopAtSet, popAtW, wExt, wSet2, ev_addI, ev_addS, ev_addT, ev_addL, ev_mulI, ev_I, ev_I0, ev_ltI, ev_ltS, ev_ge, ev_eqI, ev_eqS, ev_eqB, ev_p0, ev_p1, ev_p2, ev_lenL, ev_lenT, ev_lenS, ev_lenQ, ev_lenK, ev_tupL, ev_tupT, ev_lisL, ev_lisT, ev_intI, ev_intB, ev_max2, ev_min2, ev_repr, ev_eqRp, ev_slL, ev_slT, ev_slS, ev_seqL, ev_seqT, ev_seqS, ev_inL, ev_inT, ev_isB, ev_dO, ev_dat0, ev_dat1, ev_dat2, ev_dat3, ev_dat4, ev_dat5, ev_dat8, List.getElem?_cons_zero, List.getElem?_cons_succ, List.set_cons_zero, List.set_cons_succ, List.map_cons, List.map_nil, List.cons_append, List.nil_append, List.append_nil, List.replicate, List.length_cons, List.length_nil, Nat.reduceAdd, Nat.reduceSub, Option.some.injEq, List.append_eq, Nat.zero_add, exists_eq', exists_eq_left', Sl.mu.injEq, Mu.l.injEq, Sl.sh.injEq, W.p.injEq, true_and, and_true, or_true, true_or, ite_true, ite_false, if_true, if_false, Bool.false_eq_true, decide_eq_true_eq, decide_true, Bool.bne_true, Bool.not_true]
  have last : ∃ x', x' ∈ xs ∧ p.1 ≠ x' ∧ ∀ Φ : W → Prop, oIx (.d (.list (xs.map PyData.str))) (.d (.int (at_ - 1))) Φ = Φ (.d (.str x')) := by
    by_cases h0 : at_ = 0
    · have hne : xs ≠ [] := by intro z; rw [z] at hxl; simp at hxl; omega
      refine ⟨xs.getLast hne, List.getLast_mem hne, fun z => ?_, fun Φ => ?_⟩
      · have := nodup_at hx.nd ex (z ▸ getLast_of hne)
        omega
      · rw [h0]
        have e : atI (xs.map PyData.str) (-1) = some (.str (xs.getLast hne)) := by
          have := atI_last (xs.dropLast.map PyData.str) (.str (xs.getLast hne))
          have e2 : xs.dropLast.map PyData.str ++ [PyData.str (xs.getLast hne)] = xs.map PyData.str := by
            rw [show [PyData.str (xs.getLast hne)] = [xs.getLast hne].map PyData.str from rfl, ← List.map_append, List.dropLast_concat_getLast hne]
          rwa [e2] at this
        show oIx (.d (.list (xs.map PyData.str))) (.d (.int (0 - 1))) Φ = _
        unfold oIx
        simp only [show (0 - 1 : Int) = -1 from rfl, e]
    · have h1 : (at_ - 1).toNat < xs.length := by omega
      refine ⟨xs[(at_ - 1).toNat], List.getElem_mem h1, fun z => ?_, fun Φ => ev_ixL (by omega) (map_get (List.getElem?_eq_getElem h1))⟩
      have := nodup_at hx.nd ex (by rw [z]; exact List.getElem?_eq_getElem h1)
      omega
  obtain ⟨x', mx', nx', xx'⟩ := last
  simp only [xx', wSeq2, wNext, wRet, wDrop, wIfS, wSet, wSetO, wSetN, wSetC, wSetIx, wSetI, wSetBx, wSetB, wAug, wApp, wAsg, wPar, wNilO, wConsO, wConsN, wL2N, putR, noUn, wVar, wC, wNil, wCons, wTup, wLst, wFz, wOp, wB, wAnd, wOr, wNot, wAndV, wOrV, wNotV, wIf, wNeg, wCB, wCL, wCallD, wRetB, wIsi, wSl, wNoPart, wPart, wRev, wFrz, wLend, wLendT, wLendL, muW, wFor, wSeq, wRange1, wRange2, wLc, wipeR, wgName, wgTup, wgCons, wgNil, startR, wJoin, wZip, wEnum, wBrk, wCnt, wIxOx, wIxO, wPopSet, wPopAt, wPopAtSet, popAtW, wExt, wSet2, ev_addI, ev_addS, ev_addT, ev_addL, ev_mulI, ev_I, ev_I0, ev_ltI, ev_ltS, ev_ge, ev_eqI, ev_eqS, ev_eqB, ev_p0, ev_p1, ev_p2, ev_lenL, ev_lenT, ev_lenS, ev_lenQ, ev_lenK, ev_tupL, ev_tupT, ev_lisL, ev_lisT, ev_intI, ev_intB, ev_max2, ev_min2, ev_repr, ev_eqRp, ev_slL, ev_slT, ev_slS, ev_seqL, ev_seqT, ev_seqS, ev_inL, ev_inT, ev_isB, ev_dO, ev_dat0, ev_dat1, ev_dat2, ev_dat3, ev_dat4, ev_dat5, ev_dat8, List.getElem?_cons_zero, List.getElem?_cons_succ, List.set_cons_zero, List.set_cons_succ, List.map_cons, List.map_nil, List.cons_append, List.nil_append, List.append_nil, List.replicate, List.length_cons, List.length_nil, Nat.reduceAdd, Nat.reduceSub, Option.some.injEq, List.append_eq, Nat.zero_add, exists_eq', exists_eq_left', Sl.mu.injEq, Mu.l.injEq, Sl.sh.injEq, W.p.injEq, true_and, and_true, or_true, true_or, ite_true, ite_false, if_true, if_false, Bool.false_eq_true, decide_eq_true_eq]
  have e3 : ∀ x : Str, PyData.tuple [.str x, .str zzz] = deedD (x, zzz) := fun _ => rfl
  simp only [e3, List.reverse_cons, List.reverse_nil, List.nil_append, List.cons_append, List.length_map, List.length_cons, List.length_nil]
  have e4 : ∀ r s : Deed, row.map deedD ++ [deedD r, deedD s] = (row ++ [r, s]).map deedD := fun r s => by rw [List.map_append]; rfl
  refine ⟨small_line (by omega), small_line (by omega), ?_⟩
  rw [e4, e4]
  have ok3 : ∀ r s : Deed, (NameOk r.1 ∧ NameOk r.2) → (NameOk s.1 ∧ NameOk s.2) → RowOk (row ++ [r, s]) := fun r s h1 h2 => ⟨by rw [List.length_append]; simp; omega, fun b hb => by
    rcases List.mem_append.mp hb with z | z
    · exact okr.ok b z
    · simp at z
      rcases z with rfl | rfl
      · exact h1
      · exact h2⟩
  have zn' : NameOk x' ∧ NameOk zzz := ⟨hx.ok x' mx', zzz_ok⟩
  refine r_same (.inl rfl) (.inl rfl) (ok3 _ _ zn zn') (ok3 _ _ zn' zn) fun b hb => ?_
  have b2 : b = false := by
    cases b with
    | false => rfl
    | true => exact absurd (hb.mp rfl) (not_hist2 nx')
  subst b2
  simp only [wSeq2, wNext, wRet, wDrop, wIfS, wSet, wSetO, wSetN, wSetC, wSetIx, wSetI, wSetBx, wSetB, wAug, wApp, wAsg, wPar, wNilO, wConsO, wConsN, wL2N, putR, noUn, wVar, wC, wNil, wCons, wTup, wLst, wFz, wOp, wB, wAnd, wOr, wNot, wAndV, wOrV, wNotV, wIf, wNeg, wCB, wCL, wCallD, wRetB, wIsi, wSl, wNoPart, wPart, wRev, wFrz, wLend, wLendT, wLendL, muW, wFor, wSeq, wRange1, wRange2, wLc, wipeR, wgName, wgTup, wgCons, wgNil, startR, wJoin, wZip, wEnum, wBrk, wCnt, wIxOx, wIxO, wPopSet, wPopAt, wPopAtSet, popAtW, wExt, wSet2, ev_addI, ev_addS, ev_addT, ev_addL, ev_mulI, ev_I, ev_I0, ev_ltI, ev_ltS, ev_ge, ev_eqI, ev_eqS, ev_eqB, ev_p0, ev_p1, ev_p2, ev_lenL, ev_lenT, ev_lenS, ev_lenQ, ev_lenK, ev_tupL, ev_tupT, ev_lisL, ev_lisT, ev_intI, ev_intB, ev_max2, ev_min2, ev_repr, ev_eqRp, ev_slL, ev_slT, ev_slS, ev_seqL, ev_seqT, ev_seqS, ev_inL, ev_inT, ev_isB, ev_dO, ev_dat0, ev_dat1, ev_dat2, ev_dat3, ev_dat4, ev_dat5, ev_dat8, List.getElem?_cons_zero, List.getElem?_cons_succ, List.set_cons_zero, List.set_cons_succ, List.map_cons, List.map_nil, List.cons_append, List.nil_append, List.append_nil, List.replicate, List.length_cons, List.length_nil, Nat.reduceAdd, Nat.reduceSub, Option.some.injEq, List.append_eq, Nat.zero_add, exists_eq', exists_eq_left', Sl.mu.injEq, Mu.l.injEq, Sl.sh.injEq, W.p.injEq, true_and, and_true, or_true, true_or, ite_true, ite_false, if_true, if_false, Bool.false_eq_true, decide_eq_true_eq, decide_true]
  exact q
end Pd
end

section
set_option Elab.async false
set_option linter.all false
set_option maxRecDepth 100000
set_option autoImplicit false
set_option maxHeartbeats 4000000
namespace Pd
open PySem PySem.Spec PyProof.Rows L2
theorem deeds_show : ∀ row : List Deed, PyData.showableAll (row.map deedD) = true
  | [] => by simp [PyData.showableAll]
  | p :: r => by simp [PyData.showableAll, PyData.showable, deedD, deeds_show r]
theorem deeds_ints : ∀ row : List Deed, PyData.intsShortAll 13 (row.map deedD) = true
  | [] => by simp [PyData.intsShortAll]
  | p :: r => by simp [PyData.intsShortAll, PyData.intsShort, deedD, deeds_ints r]
theorem deeds_weight : ∀ row : List Deed, (∀ p ∈ row, NameOk p.1 ∧ NameOk p.2) → PyData.weightAll (row.map deedD) ≤ 40 * row.length
  | [], _ => by simp [PyData.weightAll]
  | p :: r, h => by
    have ih := deeds_weight r fun q hq => h q (List.mem_cons_of_mem _ hq)
    obtain ⟨h1, h2⟩ := h p List.mem_cons_self
    have e1 := h1.len
    have e2 := h2.len
    have e1' : p.1.cps.size ≤ 16 := e1
    have e2' : p.2.cps.size ≤ 16 := e2
    simp only [List.map_cons, PyData.weightAll, deedD, PyData.weight, List.length_cons]
    omega
theorem rows_show (rs : List (List Deed)) : PyData.showableAll (rs.map rowD) = true := by
  induction rs with
  | nil => simp [PyData.showableAll]
  | cons r rs ih => simp [PyData.showableAll, PyData.showable, deeds_show, ih]
theorem rows_ints (rs : List (List Deed)) : PyData.intsShortAll 13 (rs.map rowD) = true := by
  induction rs with
  | nil => simp [PyData.intsShortAll]
  | cons r rs ih => simp [PyData.intsShortAll, PyData.intsShort, deeds_ints, ih]
theorem rows_weight : ∀ (rs : List (List Deed)), (∀ r ∈ rs, RowOk r) → PyData.weightAll (rs.map rowD) ≤ 2500 * rs.length
  | [], _ => by simp [PyData.weightAll]
  | r :: rs, h => by
    have ih := rows_weight rs fun x hx => h x (List.mem_cons_of_mem _ hx)
    have okr := h r List.mem_cons_self
    have w := deeds_weight r okr.ok
    have l := okr.len
    simp only [List.map_cons, PyData.weightAll, PyData.weight, List.length_cons]
    omega
theorem asked_repr {row : List Deed} {rs : List (List Deed)} (h : RowOk row) (hs : ∀ r ∈ rs, RowOk r) (hl : rs.length ≤ 20) : reprOk (.tuple [rowD row, .list (rs.map rowD)]) = true := by
  have d1 := deeds_depth row
  have d2 := rows_depth rs
  have w := deeds_weight row h.ok
  have w2 := rows_weight rs hs
  have l := h.len
  unfold reprOk
  simp only [PyData.depth, PyData.weight, PyData.depthAll, PyData.weightAll, PyData.showable, PyData.showableAll, deeds_show, rows_show, PyData.intsShort, PyData.intsShortAll, deeds_ints, rows_ints, Bool.and_true, Bool.true_and, Bool.and_eq_true, decide_eq_true_eq]
  exact ⟨decide_eq_true (by omega), decide_eq_true (by omega)⟩
theorem r_box {s : Addr} {ns : List Int} {k : Int} {Φ : W → Prop} (h0 : 0 ≤ k) (h1 : k < 1000000) (q : ∀ a, Φ (.p a)) : F_law_box [.sq s ns, .d (.int k)] Φ := ⟨s, ns, k, rfl, h0, h1, q⟩
theorem r_mapix {β : Type} {f : β → D} {xs : List β} {i : Int} {Φ : W → Prop} (h0 : 0 ≤ i) (h1 : i < xs.length) (q : ∀ x ∈ xs, Φ (.d (f x))) : oIx (.d (.list (xs.map f))) (.d (.int i)) Φ := by
  have h : i.toNat < xs.length := by omega
  rw [ev_ixL h0 (map_get (List.getElem?_eq_getElem h))]
  exact q _ (List.getElem_mem h)
theorem one_filter (L : List (List Deed)) (r : List Deed) : ((L.map rowD).filter fun d => PyData.eqv d (rowD r)).map (fun _ => PyData.int 1) = [] ↔ r ∉ L := by
  rw [List.map_eq_nil_iff, List.filter_eq_nil_iff]
  constructor
  · intro h m
    exact h (rowD r) (List.mem_map.mpr ⟨r, m, rfl⟩) (by rw [rowD_eqv]; simp)
  · intro h d hd
    obtain ⟨s, hs, rfl⟩ := List.mem_map.mp hd
    rw [rowD_eqv]
    intro z
    exact h (by have := of_decide_eq_true z; exact this ▸ hs)
theorem list_nil_eqv (L : List D) : PyData.eqv (.list L) (.list []) = decide (L = []) := by
  cases L with
  | nil => simp [PyData.eqv, PyData.eqvAll]
  | cons x L => simp [PyData.eqv, PyData.eqvAll]
theorem m_law (ws : List W) (Φ : W → Prop) (h : FLaw 63 ws Φ) : w_law F_law_box F_law_last_walker_right F_law_take F_law_row F_law_closure F_law_other F_same_history (startR n_law ws) ⟨fun _ => Φ (.d .none), Φ, fun _ => False, fun _ => False⟩ := by
  obtain ⟨s, ns, rfl, hns, q⟩ := h
  simp only [w_law, n_law, wSeq2, wNext, wRet, wDrop, wIfS, wSet, wSetO, wSetN, wSetC, wSetIx, wSetI, wSetBx, wSetB, wAug, wApp, wAsg, wPar, wNilO, wConsO, wConsN, wL2N, putR, noUn, wVar, wC, wNil, wCons, wTup, wLst, wFz, wOp, wB, wAnd, wOr, wNot, wAndV, wOrV, wNotV, wIf, wNeg, wCB, wCL, wCallD, wRetB, wIsi, wSl, wNoPart, wPart, wRev, wFrz, wLend, wLendT, wLendL, muW, wFor, wSeq, wRange1, wRange2, wLc, wipeR, wgName, wgTup, wgCons, wgNil, startR, wJoin, wZip, wEnum, wBrk, wCnt, wIxOx, wIxO, wPopSet, wPopAt, wPopAtSet, popAtW, wExt, wSet2, ev_addI, ev_addS, ev_addT, ev_addL, ev_mulI, ev_I, ev_I0, ev_ltI, ev_ltS, ev_ge, ev_eqI, ev_eqS, ev_eqB, ev_p0, ev_p1, ev_p2, ev_lenL, ev_lenT, ev_lenS, ev_lenQ, ev_lenK, ev_tupL, ev_tupT, ev_lisL, ev_lisT, ev_intI, ev_intB, ev_max2, ev_min2, ev_repr, ev_eqRp, ev_slL, ev_slT, ev_slS, ev_seqL, ev_seqT, ev_seqS, ev_inL, ev_inT, ev_isB, ev_dO, ev_dat0, ev_dat1, ev_dat2, ev_dat3, ev_dat4, ev_dat5, ev_dat8, List.getElem?_cons_zero, List.getElem?_cons_succ, List.set_cons_zero, List.set_cons_succ, List.map_cons, List.map_nil, List.cons_append, List.nil_append, List.append_nil, List.replicate, List.length_cons, List.length_nil, Nat.reduceAdd, Nat.reduceSub, Option.some.injEq, List.append_eq, Nat.zero_add, exists_eq', exists_eq_left', Sl.mu.injEq, Mu.l.injEq, Sl.sh.injEq, W.p.injEq, true_and, and_true, or_true, true_or, ite_true, ite_false, if_true, if_false, Bool.false_eq_true, decide_eq_true_eq]
  refine ⟨⟨by split <;> split <;> omega, by split <;> split <;> omega⟩, ?_⟩
  refine forW_inv (fun m ρ' => ∃ s1 s2 s3 s4 s5 s6 s7 s8 s9 s10 s11 s12, ρ' = [.sh (.sq s ns), s1, s2, s3, s4, s5, s6, s7, s8, s9, s10, s11, s12]) 0 ⟨_, _, _, _, _, _, _, _, _, _, _, _, rfl⟩ (fun i e ρ' C he hI hC => ?_) fun ρ' hI => ?_
  · obtain ⟨s1, s2, s3, s4, s5, s6, s7, s8, s9, s10, s11, s12, rfl⟩ := hI
    obtain ⟨hi, rfl⟩ := intsFrom_get he
    have hi6 : i < 6 := by
      split at hi <;> split at hi <;> omega
    try simp only [wSeq2, wNext, wRet, wDrop, wIfS, wSet, wSetO, wSetN, wSetC, wSetIx, wSetI, wSetBx, wSetB, wAug, wApp, wAsg, wPar, wNilO, wConsO, wConsN, wL2N, putR, noUn, wVar, wC, wNil, wCons, wTup, wLst, wFz, wOp, wB, wAnd, wOr, wNot, wAndV, wOrV, wNotV, wIf, wNeg, wCB, wCL, wCallD, wRetB, wIsi, wSl, wNoPart, wPart, wRev, wFrz, wLend, wLendT, wLendL, muW, wFor, wSeq, wRange1, wRange2, wLc, wipeR, wgName, wgTup, wgCons, wgNil, startR, wJoin, wZip, wEnum, wBrk, wCnt, wIxOx, wIxO, wPopSet, wPopAt, wPopAtSet, popAtW, wExt, wSet2, ev_addI, ev_addS, ev_addT, ev_addL, ev_mulI, ev_I, ev_I0, ev_ltI, ev_ltS, ev_ge, ev_eqI, ev_eqS, ev_eqB, ev_p0, ev_p1, ev_p2, ev_lenL, ev_lenT, ev_lenS, ev_lenQ, ev_lenK, ev_tupL, ev_tupT, ev_lisL, ev_lisT, ev_intI, ev_intB, ev_max2, ev_min2, ev_repr, ev_eqRp, ev_slL, ev_slT, ev_slS, ev_seqL, ev_seqT, ev_seqS, ev_inL, ev_inT, ev_isB, ev_dO, ev_dat0, ev_dat1, ev_dat2, ev_dat3, ev_dat4, ev_dat5, ev_dat8, List.getElem?_cons_zero, List.getElem?_cons_succ, List.set_cons_zero, List.set_cons_succ, List.map_cons, List.map_nil, List.cons_append, List.nil_append, List.append_nil, List.replicate, List.length_cons, List.length_nil, Nat.reduceAdd, Nat.reduceSub, Option.some.injEq, List.append_eq, Nat.zero_add, exists_eq', exists_eq_left', Sl.mu.injEq, Mu.l.injEq, Sl.sh.injEq, W.p.injEq, true_and, and_true, or_true, true_or, ite_true, ite_false, if_true, if_false, Bool.false_eq_true, decide_eq_true_eq]
    refine r_box (by omega) (by omega) fun a => ?_
    try simp only [wSeq2, wNext, wRet, wDrop, wIfS, wSet, wSetO, wSetN, wSetC, wSetIx, wSetI, wSetBx, wSetB, wAug, wApp, wAsg, wPar, wNilO, wConsO, wConsN, wL2N, putR, noUn, wVar, wC, wNil, wCons, wTup, wLst, wFz, wOp, wB, wAnd, wOr, wNot, wAndV, wOrV, wNotV, wIf, wNeg, wCB, wCL, wCallD, wRetB, wIsi, wSl, wNoPart, wPart, wRev, wFrz, wLend, wLendT, wLendL, muW, wFor, wSeq, wRange1, wRange2, wLc, wipeR, wgName, wgTup, wgCons, wgNil, startR, wJoin, wZip, wEnum, wBrk, wCnt, wIxOx, wIxO, wPopSet, wPopAt, wPopAtSet, popAtW, wExt, wSet2, ev_addI, ev_addS, ev_addT, ev_addL, ev_mulI, ev_I, ev_I0, ev_ltI, ev_ltS, ev_ge, ev_eqI, ev_eqS, ev_eqB, ev_p0, ev_p1, ev_p2, ev_lenL, ev_lenT, ev_lenS, ev_lenQ, ev_lenK, ev_tupL, ev_tupT, ev_lisL, ev_lisT, ev_intI, ev_intB, ev_max2, ev_min2, ev_repr, ev_eqRp, ev_slL, ev_slT, ev_slS, ev_seqL, ev_seqT, ev_seqS, ev_inL, ev_inT, ev_isB, ev_dO, ev_dat0, ev_dat1, ev_dat2, ev_dat3, ev_dat4, ev_dat5, ev_dat8, List.getElem?_cons_zero, List.getElem?_cons_succ, List.set_cons_zero, List.set_cons_succ, List.map_cons, List.map_nil, List.cons_append, List.nil_append, List.append_nil, List.replicate, List.length_cons, List.length_nil, Nat.reduceAdd, Nat.reduceSub, Option.some.injEq, List.append_eq, Nat.zero_add, exists_eq', exists_eq_left', Sl.mu.injEq, Mu.l.injEq, Sl.sh.injEq, W.p.injEq, true_and, and_true, or_true, true_or, ite_true, ite_false, if_true, if_false, Bool.false_eq_true, decide_eq_true_eq]
    refine ⟨a, rfl, ?_⟩
    simp only [wSeq2, wNext, wRet, wDrop, wIfS, wSet, wSetO, wSetN, wSetC, wSetIx, wSetI, wSetBx, wSetB, wAug, wApp, wAsg, wPar, wNilO, wConsO, wConsN, wL2N, putR, noUn, wVar, wC, wNil, wCons, wTup, wLst, wFz, wOp, wB, wAnd, wOr, wNot, wAndV, wOrV, wNotV, wIf, wNeg, wCB, wCL, wCallD, wRetB, wIsi, wSl, wNoPart, wPart, wRev, wFrz, wLend, wLendT, wLendL, muW, wFor, wSeq, wRange1, wRange2, wLc, wipeR, wgName, wgTup, wgCons, wgNil, startR, wJoin, wZip, wEnum, wBrk, wCnt, wIxOx, wIxO, wPopSet, wPopAt, wPopAtSet, popAtW, wExt, wSet2, ev_addI, ev_addS, ev_addT, ev_addL, ev_mulI, ev_I, ev_I0, ev_ltI, ev_ltS, ev_ge, ev_eqI, ev_eqS, ev_eqB, ev_p0, ev_p1, ev_p2, ev_lenL, ev_lenT, ev_lenS, ev_lenQ, ev_lenK, ev_tupL, ev_tupT, ev_lisL, ev_lisT, ev_intI, ev_intB, ev_max2, ev_min2, ev_repr, ev_eqRp, ev_slL, ev_slT, ev_slS, ev_seqL, ev_seqT, ev_seqS, ev_inL, ev_inT, ev_isB, ev_dO, ev_dat0, ev_dat1, ev_dat2, ev_dat3, ev_dat4, ev_dat5, ev_dat8, List.getElem?_cons_zero, List.getElem?_cons_succ, List.set_cons_zero, List.set_cons_succ, List.map_cons, List.map_nil, List.cons_append, List.nil_append, List.append_nil, List.replicate, List.length_cons, List.length_nil, Nat.reduceAdd, Nat.reduceSub, Option.some.injEq, List.append_eq, Nat.zero_add, exists_eq', exists_eq_left', Sl.mu.injEq, Mu.l.injEq, Sl.sh.injEq, W.p.injEq, true_and, and_true, or_true, true_or, ite_true, ite_false, if_true, if_false, Bool.false_eq_true, decide_eq_true_eq, Bool.not_true]
    refine r_take (by decide) (by decide) fun u hu0 hu1 => ?_
    try simp only [wSeq2, wNext, wRet, wDrop, wIfS, wSet, wSetO, wSetN, wSetC, wSetIx, wSetI, wSetBx, wSetB, wAug, wApp, wAsg, wPar, wNilO, wConsO, wConsN, wL2N, putR, noUn, wVar, wC, wNil, wCons, wTup, wLst, wFz, wOp, wB, wAnd, wOr, wNot, wAndV, wOrV, wNotV, wIf, wNeg, wCB, wCL, wCallD, wRetB, wIsi, wSl, wNoPart, wPart, wRev, wFrz, wLend, wLendT, wLendL, muW, wFor, wSeq, wRange1, wRange2, wLc, wipeR, wgName, wgTup, wgCons, wgNil, startR, wJoin, wZip, wEnum, wBrk, wCnt, wIxOx, wIxO, wPopSet, wPopAt, wPopAtSet, popAtW, wExt, wSet2, ev_addI, ev_addS, ev_addT, ev_addL, ev_mulI, ev_I, ev_I0, ev_ltI, ev_ltS, ev_ge, ev_eqI, ev_eqS, ev_eqB, ev_p0, ev_p1, ev_p2, ev_lenL, ev_lenT, ev_lenS, ev_lenQ, ev_lenK, ev_tupL, ev_tupT, ev_lisL, ev_lisT, ev_intI, ev_intB, ev_max2, ev_min2, ev_repr, ev_eqRp, ev_slL, ev_slT, ev_slS, ev_seqL, ev_seqT, ev_seqS, ev_inL, ev_inT, ev_isB, ev_dO, ev_dat0, ev_dat1, ev_dat2, ev_dat3, ev_dat4, ev_dat5, ev_dat8, List.getElem?_cons_zero, List.getElem?_cons_succ, List.set_cons_zero, List.set_cons_succ, List.map_cons, List.map_nil, List.cons_append, List.nil_append, List.append_nil, List.replicate, List.length_cons, List.length_nil, Nat.reduceAdd, Nat.reduceSub, Option.some.injEq, List.append_eq, Nat.zero_add, exists_eq', exists_eq_left', Sl.mu.injEq, Mu.l.injEq, Sl.sh.injEq, W.p.injEq, true_and, and_true, or_true, true_or, ite_true, ite_false, if_true, if_false, Bool.false_eq_true, decide_eq_true_eq]
    refine r_take (by decide) (by decide) fun v hv0 hv1 => ?_
    try simp only [wSeq2, wNext, wRet, wDrop, wIfS, wSet, wSetO, wSetN, wSetC, wSetIx, wSetI, wSetBx, wSetB, wAug, wApp, wAsg, wPar, wNilO, wConsO, wConsN, wL2N, putR, noUn, wVar, wC, wNil, wCons, wTup, wLst, wFz, wOp, wB, wAnd, wOr, wNot, wAndV, wOrV, wNotV, wIf, wNeg, wCB, wCL, wCallD, wRetB, wIsi, wSl, wNoPart, wPart, wRev, wFrz, wLend, wLendT, wLendL, muW, wFor, wSeq, wRange1, wRange2, wLc, wipeR, wgName, wgTup, wgCons, wgNil, startR, wJoin, wZip, wEnum, wBrk, wCnt, wIxOx, wIxO, wPopSet, wPopAt, wPopAtSet, popAtW, wExt, wSet2, ev_addI, ev_addS, ev_addT, ev_addL, ev_mulI, ev_I, ev_I0, ev_ltI, ev_ltS, ev_ge, ev_eqI, ev_eqS, ev_eqB, ev_p0, ev_p1, ev_p2, ev_lenL, ev_lenT, ev_lenS, ev_lenQ, ev_lenK, ev_tupL, ev_tupT, ev_lisL, ev_lisT, ev_intI, ev_intB, ev_max2, ev_min2, ev_repr, ev_eqRp, ev_slL, ev_slT, ev_slS, ev_seqL, ev_seqT, ev_seqS, ev_inL, ev_inT, ev_isB, ev_dO, ev_dat0, ev_dat1, ev_dat2, ev_dat3, ev_dat4, ev_dat5, ev_dat8, List.getElem?_cons_zero, List.getElem?_cons_succ, List.set_cons_zero, List.set_cons_succ, List.map_cons, List.map_nil, List.cons_append, List.nil_append, List.append_nil, List.replicate, List.length_cons, List.length_nil, Nat.reduceAdd, Nat.reduceSub, Option.some.injEq, List.append_eq, Nat.zero_add, exists_eq', exists_eq_left', Sl.mu.injEq, Mu.l.injEq, Sl.sh.injEq, W.p.injEq, true_and, and_true, or_true, true_or, ite_true, ite_false, if_true, if_false, Bool.false_eq_true, decide_eq_true_eq]
    refine ⟨a, 1 + u, 1 + v, 6, rfl, by omega, by omega, by omega, by omega, by decide, by decide, fun row hrl ok => ?_⟩
    have h6 : row.length ≤ 6 := by omega
    try simp only [wSeq2, wNext, wRet, wDrop, wIfS, wSet, wSetO, wSetN, wSetC, wSetIx, wSetI, wSetBx, wSetB, wAug, wApp, wAsg, wPar, wNilO, wConsO, wConsN, wL2N, putR, noUn, wVar, wC, wNil, wCons, wTup, wLst, wFz, wOp, wB, wAnd, wOr, wNot, wAndV, wOrV, wNotV, wIf, wNeg, wCB, wCL, wCallD, wRetB, wIsi, wSl, wNoPart, wPart, wRev, wFrz, wLend, wLendT, wLendL, muW, wFor, wSeq, wRange1, wRange2, wLc, wipeR, wgName, wgTup, wgCons, wgNil, startR, wJoin, wZip, wEnum, wBrk, wCnt, wIxOx, wIxO, wPopSet, wPopAt, wPopAtSet, popAtW, wExt, wSet2, ev_addI, ev_addS, ev_addT, ev_addL, ev_mulI, ev_I, ev_I0, ev_ltI, ev_ltS, ev_ge, ev_eqI, ev_eqS, ev_eqB, ev_p0, ev_p1, ev_p2, ev_lenL, ev_lenT, ev_lenS, ev_lenQ, ev_lenK, ev_tupL, ev_tupT, ev_lisL, ev_lisT, ev_intI, ev_intB, ev_max2, ev_min2, ev_repr, ev_eqRp, ev_slL, ev_slT, ev_slS, ev_seqL, ev_seqT, ev_seqS, ev_inL, ev_inT, ev_isB, ev_dO, ev_dat0, ev_dat1, ev_dat2, ev_dat3, ev_dat4, ev_dat5, ev_dat8, List.getElem?_cons_zero, List.getElem?_cons_succ, List.set_cons_zero, List.set_cons_succ, List.map_cons, List.map_nil, List.cons_append, List.nil_append, List.append_nil, List.replicate, List.length_cons, List.length_nil, Nat.reduceAdd, Nat.reduceSub, Option.some.injEq, List.append_eq, Nat.zero_add, exists_eq', exists_eq_left', Sl.mu.injEq, Mu.l.injEq, Sl.sh.injEq, W.p.injEq, true_and, and_true, or_true, true_or, ite_true, ite_false, if_true, if_false, Bool.false_eq_true, decide_eq_true_eq]
    refine ⟨row, rfl, h6, fun same hsame hbd => ?_⟩
    have hself : row ∈ same := (hsame row).mpr (.refl _)
    have hpos := List.length_pos_of_mem hself
    have okS : ∀ r ∈ same, RowOk r ∧ r.length ≤ 7 := fun r hr => by
      have p := ((hsame r).mp hr).perm
      exact ⟨ok.perm p, by rw [p.length_eq]; omega⟩
    try simp only [wSeq2, wNext, wRet, wDrop, wIfS, wSet, wSetO, wSetN, wSetC, wSetIx, wSetI, wSetBx, wSetB, wAug, wApp, wAsg, wPar, wNilO, wConsO, wConsN, wL2N, putR, noUn, wVar, wC, wNil, wCons, wTup, wLst, wFz, wOp, wB, wAnd, wOr, wNot, wAndV, wOrV, wNotV, wIf, wNeg, wCB, wCL, wCallD, wRetB, wIsi, wSl, wNoPart, wPart, wRev, wFrz, wLend, wLendT, wLendL, muW, wFor, wSeq, wRange1, wRange2, wLc, wipeR, wgName, wgTup, wgCons, wgNil, startR, wJoin, wZip, wEnum, wBrk, wCnt, wIxOx, wIxO, wPopSet, wPopAt, wPopAtSet, popAtW, wExt, wSet2, ev_addI, ev_addS, ev_addT, ev_addL, ev_mulI, ev_I, ev_I0, ev_ltI, ev_ltS, ev_ge, ev_eqI, ev_eqS, ev_eqB, ev_p0, ev_p1, ev_p2, ev_lenL, ev_lenT, ev_lenS, ev_lenQ, ev_lenK, ev_tupL, ev_tupT, ev_lisL, ev_lisT, ev_intI, ev_intB, ev_max2, ev_min2, ev_repr, ev_eqRp, ev_slL, ev_slT, ev_slS, ev_seqL, ev_seqT, ev_seqS, ev_inL, ev_inT, ev_isB, ev_dO, ev_dat0, ev_dat1, ev_dat2, ev_dat3, ev_dat4, ev_dat5, ev_dat8, List.getElem?_cons_zero, List.getElem?_cons_succ, List.set_cons_zero, List.set_cons_succ, List.map_cons, List.map_nil, List.cons_append, List.nil_append, List.append_nil, List.replicate, List.length_cons, List.length_nil, Nat.reduceAdd, Nat.reduceSub, Option.some.injEq, List.append_eq, Nat.zero_add, exists_eq', exists_eq_left', Sl.mu.injEq, Mu.l.injEq, Sl.sh.injEq, W.p.injEq, true_and, and_true, or_true, true_or, ite_true, ite_false, if_true, if_false, Bool.false_eq_true, decide_eq_true_eq]
    refine ⟨⟨by decide, by decide⟩, ?_⟩
    refine compW_inv (fun n acc => ∃ rs : List (List Deed), acc = rs.map rowD ∧ rs.length = n ∧ ∀ r ∈ rs, RowOk r ∧ r.length ≤ 7) 0 ⟨[], rfl, rfl, by simp⟩ (fun i d acc C hd hI hC => ?_) fun acc hI => ?_
    · obtain ⟨rs, rfl, hl, hr⟩ := hI
      simp only [wSeq2, wNext, wRet, wDrop, wIfS, wSet, wSetO, wSetN, wSetC, wSetIx, wSetI, wSetBx, wSetB, wAug, wApp, wAsg, wPar, wNilO, wConsO, wConsN, wL2N, putR, noUn, wVar, wC, wNil, wCons, wTup, wLst, wFz, wOp, wB, wAnd, wOr, wNot, wAndV, wOrV, wNotV, wIf, wNeg, wCB, wCL, wCallD, wRetB, wIsi, wSl, wNoPart, wPart, wRev, wFrz, wLend, wLendT, wLendL, muW, wFor, wSeq, wRange1, wRange2, wLc, wipeR, wgName, wgTup, wgCons, wgNil, startR, wJoin, wZip, wEnum, wBrk, wCnt, wIxOx, wIxO, wPopSet, wPopAt, wPopAtSet, popAtW, wExt, wSet2, ev_addI, ev_addS, ev_addT, ev_addL, ev_mulI, ev_I, ev_I0, ev_ltI, ev_ltS, ev_ge, ev_eqI, ev_eqS, ev_eqB, ev_p0, ev_p1, ev_p2, ev_lenL, ev_lenT, ev_lenS, ev_lenQ, ev_lenK, ev_tupL, ev_tupT, ev_lisL, ev_lisT, ev_intI, ev_intB, ev_max2, ev_min2, ev_repr, ev_eqRp, ev_slL, ev_slT, ev_slS, ev_seqL, ev_seqT, ev_seqS, ev_inL, ev_inT, ev_isB, ev_dO, ev_dat0, ev_dat1, ev_dat2, ev_dat3, ev_dat4, ev_dat5, ev_dat8, List.getElem?_cons_zero, List.getElem?_cons_succ, List.set_cons_zero, List.set_cons_succ, List.map_cons, List.map_nil, List.cons_append, List.nil_append, List.append_nil, List.replicate, List.length_cons, List.length_nil, Nat.reduceAdd, Nat.reduceSub, Option.some.injEq, List.append_eq, Nat.zero_add, exists_eq', exists_eq_left', Sl.mu.injEq, Mu.l.injEq, Sl.sh.injEq, W.p.injEq, true_and, and_true, or_true, true_or, ite_true, ite_false, if_true, if_false, Bool.false_eq_true, decide_eq_true_eq, List.length_map]
      refine r_take (by omega) (by omega) fun z hz0 hz1 => ?_
      try simp only [wSeq2, wNext, wRet, wDrop, wIfS, wSet, wSetO, wSetN, wSetC, wSetIx, wSetI, wSetBx, wSetB, wAug, wApp, wAsg, wPar, wNilO, wConsO, wConsN, wL2N, putR, noUn, wVar, wC, wNil, wCons, wTup, wLst, wFz, wOp, wB, wAnd, wOr, wNot, wAndV, wOrV, wNotV, wIf, wNeg, wCB, wCL, wCallD, wRetB, wIsi, wSl, wNoPart, wPart, wRev, wFrz, wLend, wLendT, wLendL, muW, wFor, wSeq, wRange1, wRange2, wLc, wipeR, wgName, wgTup, wgCons, wgNil, startR, wJoin, wZip, wEnum, wBrk, wCnt, wIxOx, wIxO, wPopSet, wPopAt, wPopAtSet, popAtW, wExt, wSet2, ev_addI, ev_addS, ev_addT, ev_addL, ev_mulI, ev_I, ev_I0, ev_ltI, ev_ltS, ev_ge, ev_eqI, ev_eqS, ev_eqB, ev_p0, ev_p1, ev_p2, ev_lenL, ev_lenT, ev_lenS, ev_lenQ, ev_lenK, ev_tupL, ev_tupT, ev_lisL, ev_lisT, ev_intI, ev_intB, ev_max2, ev_min2, ev_repr, ev_eqRp, ev_slL, ev_slT, ev_slS, ev_seqL, ev_seqT, ev_seqS, ev_inL, ev_inT, ev_isB, ev_dO, ev_dat0, ev_dat1, ev_dat2, ev_dat3, ev_dat4, ev_dat5, ev_dat8, List.getElem?_cons_zero, List.getElem?_cons_succ, List.set_cons_zero, List.set_cons_succ, List.map_cons, List.map_nil, List.cons_append, List.nil_append, List.append_nil, List.replicate, List.length_cons, List.length_nil, Nat.reduceAdd, Nat.reduceSub, Option.some.injEq, List.append_eq, Nat.zero_add, exists_eq', exists_eq_left', Sl.mu.injEq, Mu.l.injEq, Sl.sh.injEq, W.p.injEq, true_and, and_true, or_true, true_or, ite_true, ite_false, if_true, if_false, Bool.false_eq_true, decide_eq_true_eq]
      refine r_mapix hz0 hz1 fun r hrm => ?_
      refine hC _ ⟨rs ++ [r], by simp, by simp; omega, fun x hx => ?_⟩
      rcases List.mem_append.mp hx with z | z
      · exact hr x z
      · rw [List.mem_singleton.mp z]
        exact okS r hrm
    obtain ⟨rs0, rfl, hl0, hr0⟩ := hI
    rw [intsFrom_len] at hl0
    try simp only [wSeq2, wNext, wRet, wDrop, wIfS, wSet, wSetO, wSetN, wSetC, wSetIx, wSetI, wSetBx, wSetB, wAug, wApp, wAsg, wPar, wNilO, wConsO, wConsN, wL2N, putR, noUn, wVar, wC, wNil, wCons, wTup, wLst, wFz, wOp, wB, wAnd, wOr, wNot, wAndV, wOrV, wNotV, wIf, wNeg, wCB, wCL, wCallD, wRetB, wIsi, wSl, wNoPart, wPart, wRev, wFrz, wLend, wLendT, wLendL, muW, wFor, wSeq, wRange1, wRange2, wLc, wipeR, wgName, wgTup, wgCons, wgNil, startR, wJoin, wZip, wEnum, wBrk, wCnt, wIxOx, wIxO, wPopSet, wPopAt, wPopAtSet, popAtW, wExt, wSet2, ev_addI, ev_addS, ev_addT, ev_addL, ev_mulI, ev_I, ev_I0, ev_ltI, ev_ltS, ev_ge, ev_eqI, ev_eqS, ev_eqB, ev_p0, ev_p1, ev_p2, ev_lenL, ev_lenT, ev_lenS, ev_lenQ, ev_lenK, ev_tupL, ev_tupT, ev_lisL, ev_lisT, ev_intI, ev_intB, ev_max2, ev_min2, ev_repr, ev_eqRp, ev_slL, ev_slT, ev_slS, ev_seqL, ev_seqT, ev_seqS, ev_inL, ev_inT, ev_isB, ev_dO, ev_dat0, ev_dat1, ev_dat2, ev_dat3, ev_dat4, ev_dat5, ev_dat8, List.getElem?_cons_zero, List.getElem?_cons_succ, List.set_cons_zero, List.set_cons_succ, List.map_cons, List.map_nil, List.cons_append, List.nil_append, List.append_nil, List.replicate, List.length_cons, List.length_nil, Nat.reduceAdd, Nat.reduceSub, Option.some.injEq, List.append_eq, Nat.zero_add, exists_eq', exists_eq_left', Sl.mu.injEq, Mu.l.injEq, Sl.sh.injEq, W.p.injEq, true_and, and_true, or_true, true_or, ite_true, ite_false, if_true, if_false, Bool.false_eq_true, decide_eq_true_eq]
    refine ⟨⟨by decide, by decide⟩, ?_⟩
    refine forW_inv (fun m ρ' => ∃ (rs : List (List Deed)) (s6 : Sl), rs.length = 3 + m ∧ (∀ r ∈ rs, RowOk r ∧ r.length ≤ 7) ∧ ρ' = [.sh (.sq s ns), .sh (.d (.int (0 + i))), .sh (.p a), .sh (.d (rowD row)), .sh (.d (.list (same.map rowD))), .mu (.l (rs.map rowD)), s6, s7, s8, s9, s10, s11, s12]) 0 ⟨rs0, s6, by rw [hl0]; rfl, hr0, rfl⟩ (fun j e ρ' C' he hI hC' => ?_) fun ρ' hI => ?_
    · obtain ⟨rs, s6, hl, hr, rfl⟩ := hI
      obtain ⟨hj, rfl⟩ := intsFrom_get he
      simp only [wSeq2, wNext, wRet, wDrop, wIfS, wSet, wSetO, wSetN, wSetC, wSetIx, wSetI, wSetBx, wSetB, wAug, wApp, wAsg, wPar, wNilO, wConsO, wConsN, wL2N, putR, noUn, wVar, wC, wNil, wCons, wTup, wLst, wFz, wOp, wB, wAnd, wOr, wNot, wAndV, wOrV, wNotV, wIf, wNeg, wCB, wCL, wCallD, wRetB, wIsi, wSl, wNoPart, wPart, wRev, wFrz, wLend, wLendT, wLendL, muW, wFor, wSeq, wRange1, wRange2, wLc, wipeR, wgName, wgTup, wgCons, wgNil, startR, wJoin, wZip, wEnum, wBrk, wCnt, wIxOx, wIxO, wPopSet, wPopAt, wPopAtSet, popAtW, wExt, wSet2, ev_addI, ev_addS, ev_addT, ev_addL, ev_mulI, ev_I, ev_I0, ev_ltI, ev_ltS, ev_ge, ev_eqI, ev_eqS, ev_eqB, ev_p0, ev_p1, ev_p2, ev_lenL, ev_lenT, ev_lenS, ev_lenQ, ev_lenK, ev_tupL, ev_tupT, ev_lisL, ev_lisT, ev_intI, ev_intB, ev_max2, ev_min2, ev_repr, ev_eqRp, ev_slL, ev_slT, ev_slS, ev_seqL, ev_seqT, ev_seqS, ev_inL, ev_inT, ev_isB, ev_dO, ev_dat0, ev_dat1, ev_dat2, ev_dat3, ev_dat4, ev_dat5, ev_dat8, List.getElem?_cons_zero, List.getElem?_cons_succ, List.set_cons_zero, List.set_cons_succ, List.map_cons, List.map_nil, List.cons_append, List.nil_append, List.append_nil, List.replicate, List.length_cons, List.length_nil, Nat.reduceAdd, Nat.reduceSub, Option.some.injEq, List.append_eq, Nat.zero_add, exists_eq', exists_eq_left', Sl.mu.injEq, Mu.l.injEq, Sl.sh.injEq, W.p.injEq, true_and, and_true, or_true, true_or, ite_true, ite_false, if_true, if_false, Bool.false_eq_true, decide_eq_true_eq, List.length_map]
      refine ⟨by omega, rfl, ?_⟩
      refine r_take (by omega) (by omega) fun z hz0 hz1 => ?_
      try simp only [wSeq2, wNext, wRet, wDrop, wIfS, wSet, wSetO, wSetN, wSetC, wSetIx, wSetI, wSetBx, wSetB, wAug, wApp, wAsg, wPar, wNilO, wConsO, wConsN, wL2N, putR, noUn, wVar, wC, wNil, wCons, wTup, wLst, wFz, wOp, wB, wAnd, wOr, wNot, wAndV, wOrV, wNotV, wIf, wNeg, wCB, wCL, wCallD, wRetB, wIsi, wSl, wNoPart, wPart, wRev, wFrz, wLend, wLendT, wLendL, muW, wFor, wSeq, wRange1, wRange2, wLc, wipeR, wgName, wgTup, wgCons, wgNil, startR, wJoin, wZip, wEnum, wBrk, wCnt, wIxOx, wIxO, wPopSet, wPopAt, wPopAtSet, popAtW, wExt, wSet2, ev_addI, ev_addS, ev_addT, ev_addL, ev_mulI, ev_I, ev_I0, ev_ltI, ev_ltS, ev_ge, ev_eqI, ev_eqS, ev_eqB, ev_p0, ev_p1, ev_p2, ev_lenL, ev_lenT, ev_lenS, ev_lenQ, ev_lenK, ev_tupL, ev_tupT, ev_lisL, ev_lisT, ev_intI, ev_intB, ev_max2, ev_min2, ev_repr, ev_eqRp, ev_slL, ev_slT, ev_slS, ev_seqL, ev_seqT, ev_seqS, ev_inL, ev_inT, ev_isB, ev_dO, ev_dat0, ev_dat1, ev_dat2, ev_dat3, ev_dat4, ev_dat5, ev_dat8, List.getElem?_cons_zero, List.getElem?_cons_succ, List.set_cons_zero, List.set_cons_succ, List.map_cons, List.map_nil, List.cons_append, List.nil_append, List.append_nil, List.replicate, List.length_cons, List.length_nil, Nat.reduceAdd, Nat.reduceSub, Option.some.injEq, List.append_eq, Nat.zero_add, exists_eq', exists_eq_left', Sl.mu.injEq, Mu.l.injEq, Sl.sh.injEq, W.p.injEq, true_and, and_true, or_true, true_or, ite_true, ite_false, if_true, if_false, Bool.false_eq_true, decide_eq_true_eq]
      refine r_mapix hz0 hz1 fun r0 mz => ?_
      refine ⟨a, _, rfl, (hr _ mz).1, (hr _ mz).2, fun r okr hr8 => ?_⟩
      try simp only [wSeq2, wNext, wRet, wDrop, wIfS, wSet, wSetO, wSetN, wSetC, wSetIx, wSetI, wSetBx, wSetB, wAug, wApp, wAsg, wPar, wNilO, wConsO, wConsN, wL2N, putR, noUn, wVar, wC, wNil, wCons, wTup, wLst, wFz, wOp, wB, wAnd, wOr, wNot, wAndV, wOrV, wNotV, wIf, wNeg, wCB, wCL, wCallD, wRetB, wIsi, wSl, wNoPart, wPart, wRev, wFrz, wLend, wLendT, wLendL, muW, wFor, wSeq, wRange1, wRange2, wLc, wipeR, wgName, wgTup, wgCons, wgNil, startR, wJoin, wZip, wEnum, wBrk, wCnt, wIxOx, wIxO, wPopSet, wPopAt, wPopAtSet, popAtW, wExt, wSet2, ev_addI, ev_addS, ev_addT, ev_addL, ev_mulI, ev_I, ev_I0, ev_ltI, ev_ltS, ev_ge, ev_eqI, ev_eqS, ev_eqB, ev_p0, ev_p1, ev_p2, ev_lenL, ev_lenT, ev_lenS, ev_lenQ, ev_lenK, ev_tupL, ev_tupT, ev_lisL, ev_lisT, ev_intI, ev_intB, ev_max2, ev_min2, ev_repr, ev_eqRp, ev_slL, ev_slT, ev_slS, ev_seqL, ev_seqT, ev_seqS, ev_inL, ev_inT, ev_isB, ev_dO, ev_dat0, ev_dat1, ev_dat2, ev_dat3, ev_dat4, ev_dat5, ev_dat8, List.getElem?_cons_zero, List.getElem?_cons_succ, List.set_cons_zero, List.set_cons_succ, List.map_cons, List.map_nil, List.cons_append, List.nil_append, List.append_nil, List.replicate, List.length_cons, List.length_nil, Nat.reduceAdd, Nat.reduceSub, Option.some.injEq, List.append_eq, Nat.zero_add, exists_eq', exists_eq_left', Sl.mu.injEq, Mu.l.injEq, Sl.sh.injEq, W.p.injEq, true_and, and_true, or_true, true_or, ite_true, ite_false, if_true, if_false, Bool.false_eq_true, decide_eq_true_eq]
      rw [cutD_to (by decide), ← List.map_take]
      refine hC' _ ⟨rs ++ [r.take 7], _, by simp; omega, fun x hx => ?_, by rw [List.map_append]; rfl⟩
      rcases List.mem_append.mp hx with z | z
      · exact hr x z
      · rw [List.mem_singleton.mp z]
        exact ⟨okr.sub (by rw [List.length_take]; omega) fun y hy => List.mem_of_mem_take hy, by rw [List.length_take]; omega⟩
    obtain ⟨rs, s6', hl, hr, rfl⟩ := hI
    rw [intsFrom_len] at hl
    have hl9 : rs.length = 9 := hl
    have hrp := asked_repr ok (fun r h => (hr r h).1) (by omega)
    try simp only [wSeq2, wNext, wRet, wDrop, wIfS, wSet, wSetO, wSetN, wSetC, wSetIx, wSetI, wSetBx, wSetB, wAug, wApp, wAsg, wPar, wNilO, wConsO, wConsN, wL2N, putR, noUn, wVar, wC, wNil, wCons, wTup, wLst, wFz, wOp, wB, wAnd, wOr, wNot, wAndV, wOrV, wNotV, wIf, wNeg, wCB, wCL, wCallD, wRetB, wIsi, wSl, wNoPart, wPart, wRev, wFrz, wLend, wLendT, wLendL, muW, wFor, wSeq, wRange1, wRange2, wLc, wipeR, wgName, wgTup, wgCons, wgNil, startR, wJoin, wZip, wEnum, wBrk, wCnt, wIxOx, wIxO, wPopSet, wPopAt, wPopAtSet, popAtW, wExt, wSet2, ev_addI, ev_addS, ev_addT, ev_addL, ev_mulI, ev_I, ev_I0, ev_ltI, ev_ltS, ev_ge, ev_eqI, ev_eqS, ev_eqB, ev_p0, ev_p1, ev_p2, ev_lenL, ev_lenT, ev_lenS, ev_lenQ, ev_lenK, ev_tupL, ev_tupT, ev_lisL, ev_lisT, ev_intI, ev_intB, ev_max2, ev_min2, ev_repr, ev_eqRp, ev_slL, ev_slT, ev_slS, ev_seqL, ev_seqT, ev_seqS, ev_inL, ev_inT, ev_isB, ev_dO, ev_dat0, ev_dat1, ev_dat2, ev_dat3, ev_dat4, ev_dat5, ev_dat8, List.getElem?_cons_zero, List.getElem?_cons_succ, List.set_cons_zero, List.set_cons_succ, List.map_cons, List.map_nil, List.cons_append, List.nil_append, List.append_nil, List.replicate, List.length_cons, List.length_nil, Nat.reduceAdd, Nat.reduceSub, Option.some.injEq, List.append_eq, Nat.zero_add, exists_eq', exists_eq_left', Sl.mu.injEq, Mu.l.injEq, Sl.sh.injEq, W.p.injEq, true_and, and_true, or_true, true_or, ite_true, ite_false, if_true, if_false, Bool.false_eq_true, decide_eq_true_eq]
    refine ⟨hrp, ?_⟩
    simp only [wSeq2, wNext, wRet, wDrop, wIfS, wSet, wSetO, wSetN, wSetC, wSetIx, wSetI, wSetBx, wSetB, wAug, wApp, wAsg, wPar, wNilO, wConsO, wConsN, wL2N, putR, noUn, wVar, wC, wNil, wCons, wTup, wLst, wFz, wOp, wB, wAnd, wOr, wNot, wAndV, wOrV, wNotV, wIf, wNeg, wCB, wCL, wCallD, wRetB, wIsi, wSl, wNoPart, wPart, wRev, wFrz, wLend, wLendT, wLendL, muW, wFor, wSeq, wRange1, wRange2, wLc, wipeR, wgName, wgTup, wgCons, wgNil, startR, wJoin, wZip, wEnum, wBrk, wCnt, wIxOx, wIxO, wPopSet, wPopAt, wPopAtSet, popAtW, wExt, wSet2, ev_addI, ev_addS, ev_addT, ev_addL, ev_mulI, ev_I, ev_I0, ev_ltI, ev_ltS, ev_ge, ev_eqI, ev_eqS, ev_eqB, ev_p0, ev_p1, ev_p2, ev_lenL, ev_lenT, ev_lenS, ev_lenQ, ev_lenK, ev_tupL, ev_tupT, ev_lisL, ev_lisT, ev_intI, ev_intB, ev_max2, ev_min2, ev_repr, ev_eqRp, ev_slL, ev_slT, ev_slS, ev_seqL, ev_seqT, ev_seqS, ev_inL, ev_inT, ev_isB, ev_dO, ev_dat0, ev_dat1, ev_dat2, ev_dat3, ev_dat4, ev_dat5, ev_dat8, List.getElem?_cons_zero, List.getElem?_cons_succ, List.set_cons_zero, List.set_cons_succ, List.map_cons, List.map_nil, List.cons_append, List.nil_append, List.append_nil, List.replicate, List.length_cons, List.length_nil, Nat.reduceAdd, Nat.reduceSub, Option.some.injEq, List.append_eq, Nat.zero_add, exists_eq', exists_eq_left', Sl.mu.injEq, Mu.l.injEq, Sl.sh.injEq, W.p.injEq, true_and, and_true, or_true, true_or, ite_true, ite_false, if_true, if_false, Bool.false_eq_true, decide_eq_true_eq, List.length_map]
    refine ⟨small_line (by omega), ?_⟩
    have hall : ∀ d ∈ (rs.map rowD ++ [rowD row]), ∃ r, d = rowD r ∧ RowOk r := by
      intro d hd
      rcases List.mem_append.mp hd with z | z
      · obtain ⟨r, hrm, rfl⟩ := List.mem_map.mp z
        exact ⟨r, rfl, (hr r hrm).1⟩
      · rw [List.mem_singleton.mp z]
        exact ⟨row, rfl, ok⟩
    refine forW_ind (fun ds ρ' => (∀ d ∈ ds, ∃ r, d = rowD r ∧ RowOk r) ∧ ∃ x8 x9 x10 x11, ρ' = [.sh (.sq s ns), .sh (.d (.int (0 + i))), .sh (.p a), .sh (.d (rowD row)), .sh (.d (.list (same.map rowD))), .sh (.d (.list (rs.map rowD))), s6', .sh (.rp (.tuple [rowD row, .list (rs.map rowD)])), x8, x9, x10, x11, s12]) ⟨hall, _, _, _, _, rfl⟩ (fun d ds ρ' C' hI hC' => ?_) fun ρ' hI => ?_
    · obtain ⟨hd, x8, x9, x10, x11, rfl⟩ := hI
      obtain ⟨r, rfl, okr⟩ := hd d List.mem_cons_self
      have hds : ∀ d ∈ ds, ∃ r, d = rowD r ∧ RowOk r := fun d h => hd d (List.mem_cons_of_mem _ h)
      try simp only [wSeq2, wNext, wRet, wDrop, wIfS, wSet, wSetO, wSetN, wSetC, wSetIx, wSetI, wSetBx, wSetB, wAug, wApp, wAsg, wPar, wNilO, wConsO, wConsN, wL2N, putR, noUn, wVar, wC, wNil, wCons, wTup, wLst, wFz, wOp, wB, wAnd, wOr, wNot, wAndV, wOrV, wNotV, wIf, wNeg, wCB, wCL, wCallD, wRetB, wIsi, wSl, wNoPart, wPart, wRev, wFrz, wLend, wLendT, wLendL, muW, wFor, wSeq, wRange1, wRange2, wLc, wipeR, wgName, wgTup, wgCons, wgNil, startR, wJoin, wZip, wEnum, wBrk, wCnt, wIxOx, wIxO, wPopSet, wPopAt, wPopAtSet, popAtW, wExt, wSet2, ev_addI, ev_addS, ev_addT, ev_addL, ev_mulI, ev_I, ev_I0, ev_ltI, ev_ltS, ev_ge, ev_eqI, ev_eqS, ev_eqB, ev_p0, ev_p1, ev_p2, ev_lenL, ev_lenT, ev_lenS, ev_lenQ, ev_lenK, ev_tupL, ev_tupT, ev_lisL, ev_lisT, ev_intI, ev_intB, ev_max2, ev_min2, ev_repr, ev_eqRp, ev_slL, ev_slT, ev_slS, ev_seqL, ev_seqT, ev_seqS, ev_inL, ev_inT, ev_isB, ev_dO, ev_dat0, ev_dat1, ev_dat2, ev_dat3, ev_dat4, ev_dat5, ev_dat8, List.getElem?_cons_zero, List.getElem?_cons_succ, List.set_cons_zero, List.set_cons_succ, List.map_cons, List.map_nil, List.cons_append, List.nil_append, List.append_nil, List.replicate, List.length_cons, List.length_nil, Nat.reduceAdd, Nat.reduceSub, Option.some.injEq, List.append_eq, Nat.zero_add, exists_eq', exists_eq_left', Sl.mu.injEq, Mu.l.injEq, Sl.sh.injEq, W.p.injEq, true_and, and_true, or_true, true_or, ite_true, ite_false, if_true, if_false, Bool.false_eq_true, decide_eq_true_eq]
      refine r_take (by decide) (by decide) fun z hz0 hz1 => ?_
      have pick : ∀ (z : Int) (r : List Deed) (Ψ : W → Prop), 0 ≤ z → z < 2 → (∀ x, isRow x r → Ψ (.d x)) → oIx (.d (.list [rowD r, .tuple (r.map deedD)])) (.d (.int z)) Ψ := fun z r Ψ h0 h1 hx => by
        have : z = 0 ∨ z = 1 := by omega
        rcases this with rfl | rfl
        · exact hx _ (.inl rfl)
        · exact hx _ (.inr rfl)
      try simp only [wSeq2, wNext, wRet, wDrop, wIfS, wSet, wSetO, wSetN, wSetC, wSetIx, wSetI, wSetBx, wSetB, wAug, wApp, wAsg, wPar, wNilO, wConsO, wConsN, wL2N, putR, noUn, wVar, wC, wNil, wCons, wTup, wLst, wFz, wOp, wB, wAnd, wOr, wNot, wAndV, wOrV, wNotV, wIf, wNeg, wCB, wCL, wCallD, wRetB, wIsi, wSl, wNoPart, wPart, wRev, wFrz, wLend, wLendT, wLendL, muW, wFor, wSeq, wRange1, wRange2, wLc, wipeR, wgName, wgTup, wgCons, wgNil, startR, wJoin, wZip, wEnum, wBrk, wCnt, wIxOx, wIxO, wPopSet, wPopAt, wPopAtSet, popAtW, wExt, wSet2, ev_addI, ev_addS, ev_addT, ev_addL, ev_mulI, ev_I, ev_I0, ev_ltI, ev_ltS, ev_ge, ev_eqI, ev_eqS, ev_eqB, ev_p0, ev_p1, ev_p2, ev_lenL, ev_lenT, ev_lenS, ev_lenQ, ev_lenK, ev_tupL, ev_tupT, ev_lisL, ev_lisT, ev_intI, ev_intB, ev_max2, ev_min2, ev_repr, ev_eqRp, ev_slL, ev_slT, ev_slS, ev_seqL, ev_seqT, ev_seqS, ev_inL, ev_inT, ev_isB, ev_dO, ev_dat0, ev_dat1, ev_dat2, ev_dat3, ev_dat4, ev_dat5, ev_dat8, List.getElem?_cons_zero, List.getElem?_cons_succ, List.set_cons_zero, List.set_cons_succ, List.map_cons, List.map_nil, List.cons_append, List.nil_append, List.append_nil, List.replicate, List.length_cons, List.length_nil, Nat.reduceAdd, Nat.reduceSub, Option.some.injEq, List.append_eq, Nat.zero_add, exists_eq', exists_eq_left', Sl.mu.injEq, Mu.l.injEq, Sl.sh.injEq, W.p.injEq, true_and, and_true, or_true, true_or, ite_true, ite_false, if_true, if_false, Bool.false_eq_true, decide_eq_true_eq]
      refine pick z row _ hz0 hz1 fun x hx => ?_
      try simp only [wSeq2, wNext, wRet, wDrop, wIfS, wSet, wSetO, wSetN, wSetC, wSetIx, wSetI, wSetBx, wSetB, wAug, wApp, wAsg, wPar, wNilO, wConsO, wConsN, wL2N, putR, noUn, wVar, wC, wNil, wCons, wTup, wLst, wFz, wOp, wB, wAnd, wOr, wNot, wAndV, wOrV, wNotV, wIf, wNeg, wCB, wCL, wCallD, wRetB, wIsi, wSl, wNoPart, wPart, wRev, wFrz, wLend, wLendT, wLendL, muW, wFor, wSeq, wRange1, wRange2, wLc, wipeR, wgName, wgTup, wgCons, wgNil, startR, wJoin, wZip, wEnum, wBrk, wCnt, wIxOx, wIxO, wPopSet, wPopAt, wPopAtSet, popAtW, wExt, wSet2, ev_addI, ev_addS, ev_addT, ev_addL, ev_mulI, ev_I, ev_I0, ev_ltI, ev_ltS, ev_ge, ev_eqI, ev_eqS, ev_eqB, ev_p0, ev_p1, ev_p2, ev_lenL, ev_lenT, ev_lenS, ev_lenQ, ev_lenK, ev_tupL, ev_tupT, ev_lisL, ev_lisT, ev_intI, ev_intB, ev_max2, ev_min2, ev_repr, ev_eqRp, ev_slL, ev_slT, ev_slS, ev_seqL, ev_seqT, ev_seqS, ev_inL, ev_inT, ev_isB, ev_dO, ev_dat0, ev_dat1, ev_dat2, ev_dat3, ev_dat4, ev_dat5, ev_dat8, List.getElem?_cons_zero, List.getElem?_cons_succ, List.set_cons_zero, List.set_cons_succ, List.map_cons, List.map_nil, List.cons_append, List.nil_append, List.append_nil, List.replicate, List.length_cons, List.length_nil, Nat.reduceAdd, Nat.reduceSub, Option.some.injEq, List.append_eq, Nat.zero_add, exists_eq', exists_eq_left', Sl.mu.injEq, Mu.l.injEq, Sl.sh.injEq, W.p.injEq, true_and, and_true, or_true, true_or, ite_true, ite_false, if_true, if_false, Bool.false_eq_true, decide_eq_true_eq]
      refine r_take (by decide) (by decide) fun z' hz0' hz1' => ?_
      try simp only [wSeq2, wNext, wRet, wDrop, wIfS, wSet, wSetO, wSetN, wSetC, wSetIx, wSetI, wSetBx, wSetB, wAug, wApp, wAsg, wPar, wNilO, wConsO, wConsN, wL2N, putR, noUn, wVar, wC, wNil, wCons, wTup, wLst, wFz, wOp, wB, wAnd, wOr, wNot, wAndV, wOrV, wNotV, wIf, wNeg, wCB, wCL, wCallD, wRetB, wIsi, wSl, wNoPart, wPart, wRev, wFrz, wLend, wLendT, wLendL, muW, wFor, wSeq, wRange1, wRange2, wLc, wipeR, wgName, wgTup, wgCons, wgNil, startR, wJoin, wZip, wEnum, wBrk, wCnt, wIxOx, wIxO, wPopSet, wPopAt, wPopAtSet, popAtW, wExt, wSet2, ev_addI, ev_addS, ev_addT, ev_addL, ev_mulI, ev_I, ev_I0, ev_ltI, ev_ltS, ev_ge, ev_eqI, ev_eqS, ev_eqB, ev_p0, ev_p1, ev_p2, ev_lenL, ev_lenT, ev_lenS, ev_lenQ, ev_lenK, ev_tupL, ev_tupT, ev_lisL, ev_lisT, ev_intI, ev_intB, ev_max2, ev_min2, ev_repr, ev_eqRp, ev_slL, ev_slT, ev_slS, ev_seqL, ev_seqT, ev_seqS, ev_inL, ev_inT, ev_isB, ev_dO, ev_dat0, ev_dat1, ev_dat2, ev_dat3, ev_dat4, ev_dat5, ev_dat8, List.getElem?_cons_zero, List.getElem?_cons_succ, List.set_cons_zero, List.set_cons_succ, List.map_cons, List.map_nil, List.cons_append, List.nil_append, List.append_nil, List.replicate, List.length_cons, List.length_nil, Nat.reduceAdd, Nat.reduceSub, Option.some.injEq, List.append_eq, Nat.zero_add, exists_eq', exists_eq_left', Sl.mu.injEq, Mu.l.injEq, Sl.sh.injEq, W.p.injEq, true_and, and_true, or_true, true_or, ite_true, ite_false, if_true, if_false, Bool.false_eq_true, decide_eq_true_eq]
      refine pick z' r _ hz0' hz1' fun y hy => ?_
      try simp only [wSeq2, wNext, wRet, wDrop, wIfS, wSet, wSetO, wSetN, wSetC, wSetIx, wSetI, wSetBx, wSetB, wAug, wApp, wAsg, wPar, wNilO, wConsO, wConsN, wL2N, putR, noUn, wVar, wC, wNil, wCons, wTup, wLst, wFz, wOp, wB, wAnd, wOr, wNot, wAndV, wOrV, wNotV, wIf, wNeg, wCB, wCL, wCallD, wRetB, wIsi, wSl, wNoPart, wPart, wRev, wFrz, wLend, wLendT, wLendL, muW, wFor, wSeq, wRange1, wRange2, wLc, wipeR, wgName, wgTup, wgCons, wgNil, startR, wJoin, wZip, wEnum, wBrk, wCnt, wIxOx, wIxO, wPopSet, wPopAt, wPopAtSet, popAtW, wExt, wSet2, ev_addI, ev_addS, ev_addT, ev_addL, ev_mulI, ev_I, ev_I0, ev_ltI, ev_ltS, ev_ge, ev_eqI, ev_eqS, ev_eqB, ev_p0, ev_p1, ev_p2, ev_lenL, ev_lenT, ev_lenS, ev_lenQ, ev_lenK, ev_tupL, ev_tupT, ev_lisL, ev_lisT, ev_intI, ev_intB, ev_max2, ev_min2, ev_repr, ev_eqRp, ev_slL, ev_slT, ev_slS, ev_seqL, ev_seqT, ev_seqS, ev_inL, ev_inT, ev_isB, ev_dO, ev_dat0, ev_dat1, ev_dat2, ev_dat3, ev_dat4, ev_dat5, ev_dat8, List.getElem?_cons_zero, List.getElem?_cons_succ, List.set_cons_zero, List.set_cons_succ, List.map_cons, List.map_nil, List.cons_append, List.nil_append, List.append_nil, List.replicate, List.length_cons, List.length_nil, Nat.reduceAdd, Nat.reduceSub, Option.some.injEq, List.append_eq, Nat.zero_add, exists_eq', exists_eq_left', Sl.mu.injEq, Mu.l.injEq, Sl.sh.injEq, W.p.injEq, true_and, and_true, or_true, true_or, ite_true, ite_false, if_true, if_false, Bool.false_eq_true, decide_eq_true_eq]
      refine compW_fm (fun d => PyData.eqv d (rowD r)) (fun _ => .int 1) (fun d hd T S hT hS => ?_) ?_
      · obtain ⟨t, ht, rfl⟩ := List.mem_map.mp hd
        have dt := deeds_depth t
        try simp only [wSeq2, wNext, wRet, wDrop, wIfS, wSet, wSetO, wSetN, wSetC, wSetIx, wSetI, wSetBx, wSetB, wAug, wApp, wAsg, wPar, wNilO, wConsO, wConsN, wL2N, putR, noUn, wVar, wC, wNil, wCons, wTup, wLst, wFz, wOp, wB, wAnd, wOr, wNot, wAndV, wOrV, wNotV, wIf, wNeg, wCB, wCL, wCallD, wRetB, wIsi, wSl, wNoPart, wPart, wRev, wFrz, wLend, wLendT, wLendL, muW, wFor, wSeq, wRange1, wRange2, wLc, wipeR, wgName, wgTup, wgCons, wgNil, startR, wJoin, wZip, wEnum, wBrk, wCnt, wIxOx, wIxO, wPopSet, wPopAt, wPopAtSet, popAtW, wExt, wSet2, ev_addI, ev_addS, ev_addT, ev_addL, ev_mulI, ev_I, ev_I0, ev_ltI, ev_ltS, ev_ge, ev_eqI, ev_eqS, ev_eqB, ev_p0, ev_p1, ev_p2, ev_lenL, ev_lenT, ev_lenS, ev_lenQ, ev_lenK, ev_tupL, ev_tupT, ev_lisL, ev_lisT, ev_intI, ev_intB, ev_max2, ev_min2, ev_repr, ev_eqRp, ev_slL, ev_slT, ev_slS, ev_seqL, ev_seqT, ev_seqS, ev_inL, ev_inT, ev_isB, ev_dO, ev_dat0, ev_dat1, ev_dat2, ev_dat3, ev_dat4, ev_dat5, ev_dat8, List.getElem?_cons_zero, List.getElem?_cons_succ, List.set_cons_zero, List.set_cons_succ, List.map_cons, List.map_nil, List.cons_append, List.nil_append, List.append_nil, List.replicate, List.length_cons, List.length_nil, Nat.reduceAdd, Nat.reduceSub, Option.some.injEq, List.append_eq, Nat.zero_add, exists_eq', exists_eq_left', Sl.mu.injEq, Mu.l.injEq, Sl.sh.injEq, W.p.injEq, true_and, and_true, or_true, true_or, ite_true, ite_false, if_true, if_false, Bool.false_eq_true, decide_eq_true_eq]
        rw [ev_eq]
        refine ⟨by simp only [PyData.depth]; omega, ?_⟩
        simp only [wSeq2, wNext, wRet, wDrop, wIfS, wSet, wSetO, wSetN, wSetC, wSetIx, wSetI, wSetBx, wSetB, wAug, wApp, wAsg, wPar, wNilO, wConsO, wConsN, wL2N, putR, noUn, wVar, wC, wNil, wCons, wTup, wLst, wFz, wOp, wB, wAnd, wOr, wNot, wAndV, wOrV, wNotV, wIf, wNeg, wCB, wCL, wCallD, wRetB, wIsi, wSl, wNoPart, wPart, wRev, wFrz, wLend, wLendT, wLendL, muW, wFor, wSeq, wRange1, wRange2, wLc, wipeR, wgName, wgTup, wgCons, wgNil, startR, wJoin, wZip, wEnum, wBrk, wCnt, wIxOx, wIxO, wPopSet, wPopAt, wPopAtSet, popAtW, wExt, wSet2, ev_addI, ev_addS, ev_addT, ev_addL, ev_mulI, ev_I, ev_I0, ev_ltI, ev_ltS, ev_ge, ev_eqI, ev_eqS, ev_eqB, ev_p0, ev_p1, ev_p2, ev_lenL, ev_lenT, ev_lenS, ev_lenQ, ev_lenK, ev_tupL, ev_tupT, ev_lisL, ev_lisT, ev_intI, ev_intB, ev_max2, ev_min2, ev_repr, ev_eqRp, ev_slL, ev_slT, ev_slS, ev_seqL, ev_seqT, ev_seqS, ev_inL, ev_inT, ev_isB, ev_dO, ev_dat0, ev_dat1, ev_dat2, ev_dat3, ev_dat4, ev_dat5, ev_dat8, List.getElem?_cons_zero, List.getElem?_cons_succ, List.set_cons_zero, List.set_cons_succ, List.map_cons, List.map_nil, List.cons_append, List.nil_append, List.append_nil, List.replicate, List.length_cons, List.length_nil, Nat.reduceAdd, Nat.reduceSub, Option.some.injEq, List.append_eq, Nat.zero_add, exists_eq', exists_eq_left', Sl.mu.injEq, Mu.l.injEq, Sl.sh.injEq, W.p.injEq, true_and, and_true, or_true, true_or, ite_true, ite_false, if_true, if_false, Bool.false_eq_true, decide_eq_true_eq, Bool.false_bne]
        split
        · rename_i h
          exact hT h
        · rename_i h
          exact hS (by simpa using h)
      rw [List.nil_append]
      rw [ev_eq, list_nil_eqv]
      refine ⟨by simp [PyData.depth, PyData.depthAll], ?_⟩
      obtain ⟨due, hdue⟩ : ∃ due : Bool, due = (true != decide ((((same.map rowD).filter fun d => PyData.eqv d (rowD r)).map fun _ => PyData.int 1) = [])) := ⟨_, rfl⟩
      have due_iff : due = true ↔ Hist row r := by
        rw [hdue]
        have e1 : (true != decide ((((same.map rowD).filter fun d => PyData.eqv d (rowD r)).map fun _ => PyData.int 1) = [])) = true ↔ r ∈ same := by
          have := one_filter same r
          simp only [Bool.true_bne, Bool.not_eq_true', decide_eq_false_iff_not]
          rw [this]
          exact Classical.not_not
        rw [e1, hsame]
        exact ⟨reach_hist, hist_reach⟩
      rw [← hdue]
      try simp only [wSeq2, wNext, wRet, wDrop, wIfS, wSet, wSetO, wSetN, wSetC, wSetIx, wSetI, wSetBx, wSetB, wAug, wApp, wAsg, wPar, wNilO, wConsO, wConsN, wL2N, putR, noUn, wVar, wC, wNil, wCons, wTup, wLst, wFz, wOp, wB, wAnd, wOr, wNot, wAndV, wOrV, wNotV, wIf, wNeg, wCB, wCL, wCallD, wRetB, wIsi, wSl, wNoPart, wPart, wRev, wFrz, wLend, wLendT, wLendL, muW, wFor, wSeq, wRange1, wRange2, wLc, wipeR, wgName, wgTup, wgCons, wgNil, startR, wJoin, wZip, wEnum, wBrk, wCnt, wIxOx, wIxO, wPopSet, wPopAt, wPopAtSet, popAtW, wExt, wSet2, ev_addI, ev_addS, ev_addT, ev_addL, ev_mulI, ev_I, ev_I0, ev_ltI, ev_ltS, ev_ge, ev_eqI, ev_eqS, ev_eqB, ev_p0, ev_p1, ev_p2, ev_lenL, ev_lenT, ev_lenS, ev_lenQ, ev_lenK, ev_tupL, ev_tupT, ev_lisL, ev_lisT, ev_intI, ev_intB, ev_max2, ev_min2, ev_repr, ev_eqRp, ev_slL, ev_slT, ev_slS, ev_seqL, ev_seqT, ev_seqS, ev_inL, ev_inT, ev_isB, ev_dO, ev_dat0, ev_dat1, ev_dat2, ev_dat3, ev_dat4, ev_dat5, ev_dat8, List.getElem?_cons_zero, List.getElem?_cons_succ, List.set_cons_zero, List.set_cons_succ, List.map_cons, List.map_nil, List.cons_append, List.nil_append, List.append_nil, List.replicate, List.length_cons, List.length_nil, Nat.reduceAdd, Nat.reduceSub, Option.some.injEq, List.append_eq, Nat.zero_add, exists_eq', exists_eq_left', Sl.mu.injEq, Mu.l.injEq, Sl.sh.injEq, W.p.injEq, true_and, and_true, or_true, true_or, ite_true, ite_false, if_true, if_false, Bool.false_eq_true, decide_eq_true_eq]
      refine r_same hx hy ok okr fun b1 hb1 => ?_
      try simp only [wSeq2, wNext, wRet, wDrop, wIfS, wSet, wSetO, wSetN, wSetC, wSetIx, wSetI, wSetBx, wSetB, wAug, wApp, wAsg, wPar, wNilO, wConsO, wConsN, wL2N, putR, noUn, wVar, wC, wNil, wCons, wTup, wLst, wFz, wOp, wB, wAnd, wOr, wNot, wAndV, wOrV, wNotV, wIf, wNeg, wCB, wCL, wCallD, wRetB, wIsi, wSl, wNoPart, wPart, wRev, wFrz, wLend, wLendT, wLendL, muW, wFor, wSeq, wRange1, wRange2, wLc, wipeR, wgName, wgTup, wgCons, wgNil, startR, wJoin, wZip, wEnum, wBrk, wCnt, wIxOx, wIxO, wPopSet, wPopAt, wPopAtSet, popAtW, wExt, wSet2, ev_addI, ev_addS, ev_addT, ev_addL, ev_mulI, ev_I, ev_I0, ev_ltI, ev_ltS, ev_ge, ev_eqI, ev_eqS, ev_eqB, ev_p0, ev_p1, ev_p2, ev_lenL, ev_lenT, ev_lenS, ev_lenQ, ev_lenK, ev_tupL, ev_tupT, ev_lisL, ev_lisT, ev_intI, ev_intB, ev_max2, ev_min2, ev_repr, ev_eqRp, ev_slL, ev_slT, ev_slS, ev_seqL, ev_seqT, ev_seqS, ev_inL, ev_inT, ev_isB, ev_dO, ev_dat0, ev_dat1, ev_dat2, ev_dat3, ev_dat4, ev_dat5, ev_dat8, List.getElem?_cons_zero, List.getElem?_cons_succ, List.set_cons_zero, List.set_cons_succ, List.map_cons, List.map_nil, List.cons_append, List.nil_append, List.append_nil, List.replicate, List.length_cons, List.length_nil, Nat.reduceAdd, Nat.reduceSub, Option.some.injEq, List.append_eq, Nat.zero_add, exists_eq', exists_eq_left', Sl.mu.injEq, Mu.l.injEq, Sl.sh.injEq, W.p.injEq, true_and, and_true, or_true, true_or, ite_true, ite_false, if_true, if_false, Bool.false_eq_true, decide_eq_true_eq]
      refine r_same hy hx okr ok fun b2 hb2 => ?_
      have e1 : b1 = due := by
        exact Bool.eq_iff_iff.mpr (hb1.trans due_iff.symm)
      have e2 : b2 = due := by
        have : b2 = true ↔ Hist row r := hb2.trans ⟨Hist.symm, Hist.symm⟩
        exact Bool.eq_iff_iff.mpr (this.trans due_iff.symm)
      subst e1
      rw [e2]
      try simp only [wSeq2, wNext, wRet, wDrop, wIfS, wSet, wSetO, wSetN, wSetC, wSetIx, wSetI, wSetBx, wSetB, wAug, wApp, wAsg, wPar, wNilO, wConsO, wConsN, wL2N, putR, noUn, wVar, wC, wNil, wCons, wTup, wLst, wFz, wOp, wB, wAnd, wOr, wNot, wAndV, wOrV, wNotV, wIf, wNeg, wCB, wCL, wCallD, wRetB, wIsi, wSl, wNoPart, wPart, wRev, wFrz, wLend, wLendT, wLendL, muW, wFor, wSeq, wRange1, wRange2, wLc, wipeR, wgName, wgTup, wgCons, wgNil, startR, wJoin, wZip, wEnum, wBrk, wCnt, wIxOx, wIxO, wPopSet, wPopAt, wPopAtSet, popAtW, wExt, wSet2, ev_addI, ev_addS, ev_addT, ev_addL, ev_mulI, ev_I, ev_I0, ev_ltI, ev_ltS, ev_ge, ev_eqI, ev_eqS, ev_eqB, ev_p0, ev_p1, ev_p2, ev_lenL, ev_lenT, ev_lenS, ev_lenQ, ev_lenK, ev_tupL, ev_tupT, ev_lisL, ev_lisT, ev_intI, ev_intB, ev_max2, ev_min2, ev_repr, ev_eqRp, ev_slL, ev_slT, ev_slS, ev_seqL, ev_seqT, ev_seqS, ev_inL, ev_inT, ev_isB, ev_dO, ev_dat0, ev_dat1, ev_dat2, ev_dat3, ev_dat4, ev_dat5, ev_dat8, List.getElem?_cons_zero, List.getElem?_cons_succ, List.set_cons_zero, List.set_cons_succ, List.map_cons, List.map_nil, List.cons_append, List.nil_append, List.append_nil, List.replicate, List.length_cons, List.length_nil, Nat.reduceAdd, Nat.reduceSub, Option.some.injEq, List.append_eq, Nat.zero_add, exists_eq', exists_eq_left', Sl.mu.injEq, Mu.l.injEq, Sl.sh.injEq, W.p.injEq, true_and, and_true, or_true, true_or, ite_true, ite_false, if_true, if_false, Bool.false_eq_true, decide_eq_true_eq]
      rw [ev_eq]
      refine ⟨by simp [PyData.depth, PyData.depthAll], ?_⟩
      have e3 : PyData.eqv (PyData.list [.bool b1, .bool b1]) (.list [.bool b1, .bool b1]) = true := by
        simp [PyData.eqv, PyData.eqvAll]
      simp only [e3, wSeq2, wNext, wRet, wDrop, wIfS, wSet, wSetO, wSetN, wSetC, wSetIx, wSetI, wSetBx, wSetB, wAug, wApp, wAsg, wPar, wNilO, wConsO, wConsN, wL2N, putR, noUn, wVar, wC, wNil, wCons, wTup, wLst, wFz, wOp, wB, wAnd, wOr, wNot, wAndV, wOrV, wNotV, wIf, wNeg, wCB, wCL, wCallD, wRetB, wIsi, wSl, wNoPart, wPart, wRev, wFrz, wLend, wLendT, wLendL, muW, wFor, wSeq, wRange1, wRange2, wLc, wipeR, wgName, wgTup, wgCons, wgNil, startR, wJoin, wZip, wEnum, wBrk, wCnt, wIxOx, wIxO, wPopSet, wPopAt, wPopAtSet, popAtW, wExt, wSet2, ev_addI, ev_addS, ev_addT, ev_addL, ev_mulI, ev_I, ev_I0, ev_ltI, ev_ltS, ev_ge, ev_eqI, ev_eqS, ev_eqB, ev_p0, ev_p1, ev_p2, ev_lenL, ev_lenT, ev_lenS, ev_lenQ, ev_lenK, ev_tupL, ev_tupT, ev_lisL, ev_lisT, ev_intI, ev_intB, ev_max2, ev_min2, ev_repr, ev_eqRp, ev_slL, ev_slT, ev_slS, ev_seqL, ev_seqT, ev_seqS, ev_inL, ev_inT, ev_isB, ev_dO, ev_dat0, ev_dat1, ev_dat2, ev_dat3, ev_dat4, ev_dat5, ev_dat8, List.getElem?_cons_zero, List.getElem?_cons_succ, List.set_cons_zero, List.set_cons_succ, List.map_cons, List.map_nil, List.cons_append, List.nil_append, List.append_nil, List.replicate, List.length_cons, List.length_nil, Nat.reduceAdd, Nat.reduceSub, Option.some.injEq, List.append_eq, Nat.zero_add, exists_eq', exists_eq_left', Sl.mu.injEq, Mu.l.injEq, Sl.sh.injEq, W.p.injEq, true_and, and_true, or_true, true_or, ite_true, ite_false, if_true, if_false, Bool.false_eq_true, decide_eq_true_eq, Bool.bne_true, Bool.not_true]
      refine r_same hx hx ok ok fun b3 hb3 => ?_
      have e4 : b3 = true := hb3.mpr ⟨fun _ => rfl, fun _ => rfl⟩
      subst e4
      simp only [wSeq2, wNext, wRet, wDrop, wIfS, wSet, wSetO, wSetN, wSetC, wSetIx, wSetI, wSetBx, wSetB, wAug, wApp, wAsg, wPar, wNilO, wConsO, wConsN, wL2N, putR, noUn, wVar, wC, wNil, wCons, wTup, wLst, wFz, wOp, wB, wAnd, wOr, wNot, wAndV, wOrV, wNotV, wIf, wNeg, wCB, wCL, wCallD, wRetB, wIsi, wSl, wNoPart, wPart, wRev, wFrz, wLend, wLendT, wLendL, muW, wFor, wSeq, wRange1, wRange2, wLc, wipeR, wgName, wgTup, wgCons, wgNil, startR, wJoin, wZip, wEnum, wBrk, wCnt, wIxOx, wIxO, wPopSet, wPopAt, wPopAtSet, popAtW, wExt, wSet2, ev_addI, ev_addS, ev_addT, ev_addL, ev_mulI, ev_I, ev_I0, ev_ltI, ev_ltS, ev_ge, ev_eqI, ev_eqS, ev_eqB, ev_p0, ev_p1, ev_p2, ev_lenL, ev_lenT, ev_lenS, ev_lenQ, ev_lenK, ev_tupL, ev_tupT, ev_lisL, ev_lisT, ev_intI, ev_intB, ev_max2, ev_min2, ev_repr, ev_eqRp, ev_slL, ev_slT, ev_slS, ev_seqL, ev_seqT, ev_seqS, ev_inL, ev_inT, ev_isB, ev_dO, ev_dat0, ev_dat1, ev_dat2, ev_dat3, ev_dat4, ev_dat5, ev_dat8, List.getElem?_cons_zero, List.getElem?_cons_succ, List.set_cons_zero, List.set_cons_succ, List.map_cons, List.map_nil, List.cons_append, List.nil_append, List.append_nil, List.replicate, List.length_cons, List.length_nil, Nat.reduceAdd, Nat.reduceSub, Option.some.injEq, List.append_eq, Nat.zero_add, exists_eq', exists_eq_left', Sl.mu.injEq, Mu.l.injEq, Sl.sh.injEq, W.p.injEq, true_and, and_true, or_true, true_or, ite_true, ite_false, if_true, if_false, Bool.false_eq_true, decide_eq_true_eq, decide_true, Bool.bne_true, Bool.not_true]
      refine r_same hy hx okr ok fun b4 _ => ?_
      try simp only [wSeq2, wNext, wRet, wDrop, wIfS, wSet, wSetO, wSetN, wSetC, wSetIx, wSetI, wSetBx, wSetB, wAug, wApp, wAsg, wPar, wNilO, wConsO, wConsN, wL2N, putR, noUn, wVar, wC, wNil, wCons, wTup, wLst, wFz, wOp, wB, wAnd, wOr, wNot, wAndV, wOrV, wNotV, wIf, wNeg, wCB, wCL, wCallD, wRetB, wIsi, wSl, wNoPart, wPart, wRev, wFrz, wLend, wLendT, wLendL, muW, wFor, wSeq, wRange1, wRange2, wLc, wipeR, wgName, wgTup, wgCons, wgNil, startR, wJoin, wZip, wEnum, wBrk, wCnt, wIxOx, wIxO, wPopSet, wPopAt, wPopAtSet, popAtW, wExt, wSet2, ev_addI, ev_addS, ev_addT, ev_addL, ev_mulI, ev_I, ev_I0, ev_ltI, ev_ltS, ev_ge, ev_eqI, ev_eqS, ev_eqB, ev_p0, ev_p1, ev_p2, ev_lenL, ev_lenT, ev_lenS, ev_lenQ, ev_lenK, ev_tupL, ev_tupT, ev_lisL, ev_lisT, ev_intI, ev_intB, ev_max2, ev_min2, ev_repr, ev_eqRp, ev_slL, ev_slT, ev_slS, ev_seqL, ev_seqT, ev_seqS, ev_inL, ev_inT, ev_isB, ev_dO, ev_dat0, ev_dat1, ev_dat2, ev_dat3, ev_dat4, ev_dat5, ev_dat8, List.getElem?_cons_zero, List.getElem?_cons_succ, List.set_cons_zero, List.set_cons_succ, List.map_cons, List.map_nil, List.cons_append, List.nil_append, List.append_nil, List.replicate, List.length_cons, List.length_nil, Nat.reduceAdd, Nat.reduceSub, Option.some.injEq, List.append_eq, Nat.zero_add, exists_eq', exists_eq_left', Sl.mu.injEq, Mu.l.injEq, Sl.sh.injEq, W.p.injEq, true_and, and_true, or_true, true_or, ite_true, ite_false, if_true, if_false, Bool.false_eq_true, decide_eq_true_eq]
      exact hC' _ ⟨hds, _, _, _, _, rfl⟩
    · obtain ⟨_, x8, x9, x10, x11, rfl⟩ := hI
      try simp only [wSeq2, wNext, wRet, wDrop, wIfS, wSet, wSetO, wSetN, wSetC, wSetIx, wSetI, wSetBx, wSetB, wAug, wApp, wAsg, wPar, wNilO, wConsO, wConsN, wL2N, putR, noUn, wVar, wC, wNil, wCons, wTup, wLst, wFz, wOp, wB, wAnd, wOr, wNot, wAndV, wOrV, wNotV, wIf, wNeg, wCB, wCL, wCallD, wRetB, wIsi, wSl, wNoPart, wPart, wRev, wFrz, wLend, wLendT, wLendL, muW, wFor, wSeq, wRange1, wRange2, wLc, wipeR, wgName, wgTup, wgCons, wgNil, startR, wJoin, wZip, wEnum, wBrk, wCnt, wIxOx, wIxO, wPopSet, wPopAt, wPopAtSet, popAtW, wExt, wSet2, ev_addI, ev_addS, ev_addT, ev_addL, ev_mulI, ev_I, ev_I0, ev_ltI, ev_ltS, ev_ge, ev_eqI, ev_eqS, ev_eqB, ev_p0, ev_p1, ev_p2, ev_lenL, ev_lenT, ev_lenS, ev_lenQ, ev_lenK, ev_tupL, ev_tupT, ev_lisL, ev_lisT, ev_intI, ev_intB, ev_max2, ev_min2, ev_repr, ev_eqRp, ev_slL, ev_slT, ev_slS, ev_seqL, ev_seqT, ev_seqS, ev_inL, ev_inT, ev_isB, ev_dO, ev_dat0, ev_dat1, ev_dat2, ev_dat3, ev_dat4, ev_dat5, ev_dat8, List.getElem?_cons_zero, List.getElem?_cons_succ, List.set_cons_zero, List.set_cons_succ, List.map_cons, List.map_nil, List.cons_append, List.nil_append, List.append_nil, List.replicate, List.length_cons, List.length_nil, Nat.reduceAdd, Nat.reduceSub, Option.some.injEq, List.append_eq, Nat.zero_add, exists_eq', exists_eq_left', Sl.mu.injEq, Mu.l.injEq, Sl.sh.injEq, W.p.injEq, true_and, and_true, or_true, true_or, ite_true, ite_false, if_true, if_false, Bool.false_eq_true, decide_eq_true_eq]
      refine ⟨hrp, ?_⟩
      simp only [wSeq2, wNext, wRet, wDrop, wIfS, wSet, wSetO, wSetN, wSetC, wSetIx, wSetI, wSetBx, wSetB, wAug, wApp, wAsg, wPar, wNilO, wConsO, wConsN, wL2N, putR, noUn, wVar, wC, wNil, wCons, wTup, wLst, wFz, wOp, wB, wAnd, wOr, wNot, wAndV, wOrV, wNotV, wIf, wNeg, wCB, wCL, wCallD, wRetB, wIsi, wSl, wNoPart, wPart, wRev, wFrz, wLend, wLendT, wLendL, muW, wFor, wSeq, wRange1, wRange2, wLc, wipeR, wgName, wgTup, wgCons, wgNil, startR, wJoin, wZip, wEnum, wBrk, wCnt, wIxOx, wIxO, wPopSet, wPopAt, wPopAtSet, popAtW, wExt, wSet2, ev_addI, ev_addS, ev_addT, ev_addL, ev_mulI, ev_I, ev_I0, ev_ltI, ev_ltS, ev_ge, ev_eqI, ev_eqS, ev_eqB, ev_p0, ev_p1, ev_p2, ev_lenL, ev_lenT, ev_lenS, ev_lenQ, ev_lenK, ev_tupL, ev_tupT, ev_lisL, ev_lisT, ev_intI, ev_intB, ev_max2, ev_min2, ev_repr, ev_eqRp, ev_slL, ev_slT, ev_slS, ev_seqL, ev_seqT, ev_seqS, ev_inL, ev_inT, ev_isB, ev_dO, ev_dat0, ev_dat1, ev_dat2, ev_dat3, ev_dat4, ev_dat5, ev_dat8, List.getElem?_cons_zero, List.getElem?_cons_succ, List.set_cons_zero, List.set_cons_succ, List.map_cons, List.map_nil, List.cons_append, List.nil_append, List.append_nil, List.replicate, List.length_cons, List.length_nil, Nat.reduceAdd, Nat.reduceSub, Option.some.injEq, List.append_eq, Nat.zero_add, exists_eq', exists_eq_left', Sl.mu.injEq, Mu.l.injEq, Sl.sh.injEq, W.p.injEq, true_and, and_true, or_true, true_or, ite_true, ite_false, if_true, if_false, Bool.false_eq_true, decide_eq_true_eq, decide_true, bne_self_eq_false]
      exact hC _ ⟨_, _, _, _, _, _, _, _, _, _, _, _, rfl⟩
  · obtain ⟨s1, s2, s3, s4, s5, s6, s7, s8, s9, s10, s11, s12, rfl⟩ := hI
    try simp only [wSeq2, wNext, wRet, wDrop, wIfS, wSet, wSetO, wSetN, wSetC, wSetIx, wSetI, wSetBx, wSetB, wAug, wApp, wAsg, wPar, wNilO, wConsO, wConsN, wL2N, putR, noUn, wVar, wC, wNil, wCons, wTup, wLst, wFz, wOp, wB, wAnd, wOr, wNot, wAndV, wOrV, wNotV, wIf, wNeg, wCB, wCL, wCallD, wRetB, wIsi, wSl, wNoPart, wPart, wRev, wFrz, wLend, wLendT, wLendL, muW, wFor, wSeq, wRange1, wRange2, wLc, wipeR, wgName, wgTup, wgCons, wgNil, startR, wJoin, wZip, wEnum, wBrk, wCnt, wIxOx, wIxO, wPopSet, wPopAt, wPopAtSet, popAtW, wExt, wSet2, ev_addI, ev_addS, ev_addT, ev_addL, ev_mulI, ev_I, ev_I0, ev_ltI, ev_ltS, ev_ge, ev_eqI, ev_eqS, ev_eqB, ev_p0, ev_p1, ev_p2, ev_lenL, ev_lenT, ev_lenS, ev_lenQ, ev_lenK, ev_tupL, ev_tupT, ev_lisL, ev_lisT, ev_intI, ev_intB, ev_max2, ev_min2, ev_repr, ev_eqRp, ev_slL, ev_slT, ev_slS, ev_seqL, ev_seqT, ev_seqS, ev_inL, ev_inT, ev_isB, ev_dO, ev_dat0, ev_dat1, ev_dat2, ev_dat3, ev_dat4, ev_dat5, ev_dat8, List.getElem?_cons_zero, List.getElem?_cons_succ, List.set_cons_zero, List.set_cons_succ, List.map_cons, List.map_nil, List.cons_append, List.nil_append, List.append_nil, List.replicate, List.length_cons, List.length_nil, Nat.reduceAdd, Nat.reduceSub, Option.some.injEq, List.append_eq, Nat.zero_add, exists_eq', exists_eq_left', Sl.mu.injEq, Mu.l.injEq, Sl.sh.injEq, W.p.injEq, true_and, and_true, or_true, true_or, ite_true, ite_false, if_true, if_false, Bool.false_eq_true, decide_eq_true_eq]
    exact q
end Pd
end

section
set_option Elab.async false
set_option linter.all false
set_option maxRecDepth 100000
set_option autoImplicit false
set_option maxHeartbeats 4000000
namespace Pd
open PySem PySem.Spec PyProof.Rows L2
def topS (i : Nat) : Stmt := PySem.Challenge.pw_turndoors_k17_same_history_by_exchanges.main.body.getD i (.Pass ⟨0, 0, 0, 0⟩)
section
variable {P : Program} {w : World} {K : PySem.W.Frag} {mg : Str → Option Value} {base : Heap}
abbrev s_grouped : Stmt := topS 1
theorem sc_grouped : FnScope n_grouped ["pairs"] (defScope s_grouped) := ⟨rfl, rfl, rfl, by decide +kernel, rfl, by decide +kernel, by decide +kernel⟩
theorem cl_grouped {F0 : FW} {k : Nat} (d : Df K mg "grouped" s_grouped ["pairs"]) (z_sorted : mg "sorted" = none) (z_tuple : mg "tuple" = none)
    (m : ∀ ws Φ, F0 ws Φ → w_grouped (startR n_grouped ws) ⟨fun _ => Φ (.d .none), Φ, fun _ => False, fun _ => False⟩) : Cl P w K mg base (k + 1) "grouped" 1 F0 :=
  d.cl sc_grouped fun f cdv A outer s H hr hg => ⟨_, _, (mss_cons (ms_setN 1 sc_grouped.nd mn_dKL)
      (mss_cons (ms_for (mi_seq (me_var 0)) (mg_tup (mgs_cons (mg_name 2 sc_grouped.nd) (mgs_cons (mg_name 3 sc_grouped.nd) mgs_nil))) (mss_one (ms_sdApp 1 (me_var 2) (me_var 3))))
      (mss_one (ms_ret (me_callT cm_tuple z_tuple (ha := (ma_cons (me_fz (ml_lcX [("key", 2)] sc_grouped.nd (mi_seq (me_fz (ml_lend 1 (ml_callB (cm_sortedS) z_sorted (ha := (ma_cons (me_var 1) ma_nil)))))) (blkOk_by (own := [("key", 2)]) (N := n_grouped) (sc := defScope s_grouped) (by decide +kernel)) (fun _ _ _ _ _ => ⟨_, (mg_name 2 sc_grouped.nd)⟩) (fun _ _ _ _ _ => ⟨_, mts_nil⟩) (fun _ _ _ _ _ => ⟨_, (me_tup (ma_cons (me_var 2) (ma_cons (me_lend 1 (me_callT cm_tuple z_tuple (ha := (ma_cons (me_dget hr (me_var 1) (me_var 2)) ma_nil)))) ma_nil)))⟩))) ma_nil))))))), m⟩
abbrev s_projections : Stmt := topS 2
theorem sc_projections : FnScope n_projections ["row"] (defScope s_projections) := ⟨rfl, rfl, rfl, by decide +kernel, rfl, by decide +kernel, by decide +kernel⟩
theorem cl_projections {F_grouped : FW} {F0 : FW} {k : Nat} (d : Df K mg "projections" s_projections ["row"]) (c_grouped : Cl P w K mg base k "grouped" 1 F_grouped) (l_grouped : ∀ ws Φ, F_grouped ws Φ → ws.length = 1)
    (m : ∀ ws Φ, F0 ws Φ → w_projections F_grouped (startR n_projections ws) ⟨fun _ => Φ (.d .none), Φ, fun _ => False, fun _ => False⟩) : Cl P w K mg base (k + 1) "projections" 1 F0 :=
  d.cl sc_projections fun f cdv A outer s H hr hg => ⟨_, _, (mss_one (ms_ret (me_tup (ma_cons (me_callD (k := k) c_grouped hr hg l_grouped (ma_cons (me_var 0) ma_nil)) (ma_cons (me_callD (k := k) c_grouped hr hg l_grouped (ma_cons (me_fz (ml_lcX [("walker", 1), ("door", 2)] sc_projections.nd (mi_seq (me_var 0)) (blkOk_by (own := [("walker", 1), ("door", 2)]) (N := n_projections) (sc := defScope s_projections) (by decide +kernel)) (fun _ _ _ _ _ => ⟨_, (mg_tup (mgs_cons (mg_name 1 sc_projections.nd) (mgs_cons (mg_name 2 sc_projections.nd) mgs_nil)))⟩) (fun _ _ _ _ _ => ⟨_, mts_nil⟩) (fun _ _ _ _ _ => ⟨_, (me_tup (ma_cons (me_var 2) (ma_cons (me_var 1) ma_nil)))⟩))) ma_nil)) ma_nil))))), m⟩
abbrev s_same_history : Stmt := topS 3
theorem sc_same_history : FnScope n_same_history ["one", "other"] (defScope s_same_history) := ⟨rfl, rfl, rfl, by decide +kernel, rfl, by decide +kernel, by decide +kernel⟩
theorem cl_same_history {F_projections : FW} {F0 : FW} {k : Nat} (d : Df K mg "same_history" s_same_history ["one", "other"]) (c_projections : Cl P w K mg base k "projections" 1 F_projections) (l_projections : ∀ ws Φ, F_projections ws Φ → ws.length = 1)
    (m : ∀ ws Φ, F0 ws Φ → w_same_history F_projections (startR n_same_history ws) ⟨fun _ => Φ (.d .none), Φ, fun _ => False, fun _ => False⟩) : Cl P w K mg base (k + 1) "same_history" 2 F0 :=
  d.cl sc_same_history fun f cdv A outer s H hr hg => ⟨_, _, (mss_one (ms_ret (me_cmp (om_eq hr) (me_callD (k := k) c_projections hr hg l_projections (ma_cons (me_var 0) ma_nil)) (me_callD (k := k) c_projections hr hg l_projections (ma_cons (me_var 1) ma_nil))))), m⟩
abbrev s_law_box : Stmt := topS 5
theorem sc_law_box : FnScope n_law_box ["script", "k"] (defScope s_law_box) := ⟨rfl, rfl, rfl, by decide +kernel, rfl, by decide +kernel, by decide +kernel⟩
theorem cl_law_box {F0 : FW} {k : Nat} (d : Df K mg "_law_box" s_law_box ["script", "k"]) (z_len : mg "len" = none) (z_int : mg "int" = none)
    (m : ∀ ws Φ, F0 ws Φ → w_law_box (startR n_law_box ws) ⟨fun _ => Φ (.d .none), Φ, fun _ => False, fun _ => False⟩) : Cl P w K mg base (k + 1) "_law_box" 2 F0 :=
  d.cl sc_law_box fun f cdv A outer s H hr hg => ⟨_, _, (mss_cons (ms_set 2 sc_law_box.nd (me_op om_add (me_op om_mul me_int (me_var 1)) me_int))
      (mss_cons (ms_if (mt_cmp om_lt (me_var 1) (me_callB cm_len z_len (ha := (ma_cons (me_var 0) ma_nil)))) (mss_one (ms_set 2 sc_law_box.nd (me_ix (me_var 0) (me_var 1)))) (mss_one (ms_if (mt_cmp om_gt (me_callB cm_len z_len (ha := (ma_cons (me_var 0) ma_nil))) me_int) (mss_one (ms_set 2 sc_law_box.nd (me_op om_add (me_var 2) (me_op om_mul (me_op om_mod (me_ix (me_var 0) (me_op om_mod (me_var 1) (me_callB cm_len z_len (ha := (ma_cons (me_var 0) ma_nil))))) me_int) me_int)))) mss_nil)))
      (mss_cons (ms_set 3 sc_law_box.nd (me_op om_add (me_op om_mod (me_op om_add (me_op om_add (me_op om_mul (me_op om_mod (me_var 2) me_int) me_int) (me_op om_mul me_int (me_var 1))) me_int) me_int) me_int))
      (mss_one (ms_retB (ml_lst (ma_cons (me_ix (me_fz (ml_lst (ma_cons me_int (ma_cons (me_var 2) ma_nil)))) (me_callT cm_int z_int (ha := (ma_cons (me_cmp om_ge (me_var 2) (me_op om_pow me_int me_int)) ma_nil)))) (ma_cons (me_var 3) (ma_cons me_int ma_nil))))))))), m⟩
abbrev s_law_take : Stmt := topS 6
theorem sc_law_take : FnScope n_law_take ["box", "many"] (defScope s_law_take) := ⟨rfl, rfl, rfl, by decide +kernel, rfl, by decide +kernel, by decide +kernel⟩
theorem cl_law_take {F0 : FW} {k : Nat} (d : Df K mg "_law_take" s_law_take ["box", "many"])
    (m : ∀ ws Φ, F0 ws Φ → w_law_take (startR n_law_take ws) ⟨fun _ => Φ (.d .none), Φ, fun _ => False, fun _ => False⟩) : Cl P w K mg base (k + 1) "_law_take" 2 F0 :=
  d.cl sc_law_take fun f cdv A outer s H hr hg => ⟨_, _, (mss_cons (ms_if (mt_cmp om_gt (me_ix (me_var 0) me_int) me_int) (mss_cons (ms_set 2 sc_law_take.nd (me_op om_mod (me_ix (me_var 0) me_int) (me_var 1)))
      (mss_cons (ms_setB 0 (me_op om_div (me_ix (me_var 0) me_int) (me_var 1)) me_int)
      (mss_one (ms_ret (me_var 2))))) mss_nil)
      (mss_cons (ms_setB 0 (me_op om_add (me_ix (me_var 0) me_int) me_int) me_int)
      (mss_cons (ms_set 3 sc_law_take.nd (me_op om_mod (me_op om_mul (me_op om_add (me_ix (me_var 0) me_int) (me_op om_mul me_int (me_ix (me_var 0) me_int))) me_int) me_int))
      (mss_cons (ms_setB 0 (me_op om_add (me_op om_mod (me_op om_add (me_op om_mul (me_var 3) me_int) me_int) me_int) me_int) me_int)
      (mss_one (ms_ret (me_op om_mod (me_op om_div (me_op om_add (me_op om_mul (me_var 3) me_int) (me_ix (me_var 0) me_int)) me_int) (me_var 1)))))))), m⟩
abbrev s_law_names : Stmt := topS 7
theorem sc_law_names : FnScope n_law_names ["box", "many"] (defScope s_law_names) := ⟨rfl, rfl, rfl, by decide +kernel, rfl, by decide +kernel, by decide +kernel⟩
theorem cl_law_names {F_law_take : FW} {F0 : FW} {k : Nat} (d : Df K mg "_law_names" s_law_names ["box", "many"]) (z_range : mg "range" = none) (z_int : mg "int" = none) (z_len : mg "len" = none) (c_law_take : Cl P w K mg base k "_law_take" 2 F_law_take) (l_law_take : ∀ ws Φ, F_law_take ws Φ → ws.length = 2)
    (m : ∀ ws Φ, F0 ws Φ → w_law_names F_law_take (startR n_law_names ws) ⟨fun _ => Φ (.d .none), Φ, fun _ => False, fun _ => False⟩) : Cl P w K mg base (k + 1) "_law_names" 2 F0 :=
  d.cl sc_law_names fun f cdv A outer s H hr hg => ⟨_, _, (mss_cons (ms_parT (is := [2, 3]) (mao_cons me_str (mao_consN (mn_l (ml_lst ma_nil)) mao_nil)) (pgs_cons (mg_name 2 sc_law_names.nd).pg (pgs_cons (mg_name 3 sc_law_names.nd).pg pgs_nil)))
      (mss_cons (ms_set 4 sc_law_names.nd (me_fz (ml_lst (ma_cons me_str (ma_cons me_str (ma_cons me_str (ma_cons me_str (ma_cons me_str (ma_cons me_str (ma_cons me_str (ma_cons me_str ma_nil)))))))))))
      (mss_cons (ms_set 5 sc_law_names.nd (me_join (me_fz (ml_lcX [("k", 9)] sc_law_names.nd (mi_range1 z_range (ha := (ma_cons (me_callD (k := k) c_law_take hr hg l_law_take (ma_cons (me_var 0) (ma_cons me_int ma_nil))) ma_nil))) (blkOk_by (own := [("k", 9)]) (N := n_law_names) (sc := defScope s_law_names) (by decide +kernel)) (fun _ _ _ _ _ => ⟨_, (mg_name 9 sc_law_names.nd)⟩) (fun _ _ _ _ _ => ⟨_, mts_nil⟩) (fun _ _ _ _ _ => ⟨_, (me_ix (me_var 2) (me_callD (k := k) c_law_take hr hg l_law_take (ma_cons (me_var 0) (ma_cons me_int ma_nil))))⟩)))))
      (mss_cons (ms_set 5 sc_law_names.nd (me_ix (me_fz (ml_lst (ma_cons (me_var 5) (ma_cons me_str ma_nil)))) (me_callT cm_int z_int (ha := (ma_cons (me_cmp (om_eq hr) (me_callD (k := k) c_law_take hr hg l_law_take (ma_cons (me_var 0) (ma_cons me_int ma_nil))) me_int) ma_nil)))))
      (mss_cons (ms_par3 6 7 8 sc_law_names.nd (mao_cons (me_callD (k := k) c_law_take hr hg l_law_take (ma_cons (me_var 0) (ma_cons (me_op om_add (me_callB cm_len z_len (ha := (ma_cons (me_var 5) ma_nil))) me_int) ma_nil))) (mao_cons (me_callD (k := k) c_law_take hr hg l_law_take (ma_cons (me_var 0) (ma_cons me_int ma_nil))) (mao_cons (me_ix (me_fz (ml_lst (ma_cons me_int (ma_cons me_int (ma_cons me_int (ma_cons me_int ma_nil)))))) (me_callD (k := k) c_law_take hr hg l_law_take (ma_cons (me_var 0) (ma_cons me_int ma_nil)))) mao_nil))))
      (mss_cons (ms_for (mi_range1 z_range (ha := (ma_cons (me_var 1) ma_nil))) (mg_name 9 sc_law_names.nd) (mss_cons (ms_set 10 sc_law_names.nd (me_ix (me_var 2) (me_op om_mod (me_op om_add (me_var 7) (me_op om_mul (me_var 8) (me_var 9))) me_int)))
      (mss_one (ms_app 3 (me_op om_add (me_op om_add (me_slice (me_var 5) mp_none (mp_some (me_var 6))) (me_var 10)) (me_slice (me_var 5) (mp_some (me_var 6)) mp_none))))))
      (mss_cons (ms_par2 11 12 sc_law_names.nd (mao_cons (me_callD (k := k) c_law_take hr hg l_law_take (ma_cons (me_var 0) (ma_cons (me_var 1) ma_nil))) (mao_cons (me_ix (me_var 4) (me_callD (k := k) c_law_take hr hg l_law_take (ma_cons (me_var 0) (ma_cons me_int ma_nil)))) mao_nil)))
      (mss_cons (ms_if (mt_w (mw_and (mt_cmp (om_eq hr) (me_callD (k := k) c_law_take hr hg l_law_take (ma_cons (me_var 0) (ma_cons me_int ma_nil))) me_int) (mw_and1 (mt_lend 3 (mt_cmp (om_notin hr) (me_var 12) (me_var 3)))))) (mss_one (ms_setI 3 (me_var 12) (me_var 11))) mss_nil)
      (mss_one (ms_frz 3 (ms_ret (me_var 3)))))))))))), m⟩
abbrev s_law_row : Stmt := topS 8
theorem sc_law_row : FnScope n_law_row ["box", "walkers", "doors", "many"] (defScope s_law_row) := ⟨rfl, rfl, rfl, by decide +kernel, rfl, by decide +kernel, by decide +kernel⟩
theorem cl_law_row {F_law_names : FW} {F_law_take : FW} {F0 : FW} {k : Nat} (d : Df K mg "_law_row" s_law_row ["box", "walkers", "doors", "many"]) (z_range : mg "range" = none) (c_law_names : Cl P w K mg base k "_law_names" 2 F_law_names) (l_law_names : ∀ ws Φ, F_law_names ws Φ → ws.length = 2) (c_law_take : Cl P w K mg base k "_law_take" 2 F_law_take) (l_law_take : ∀ ws Φ, F_law_take ws Φ → ws.length = 2)
    (m : ∀ ws Φ, F0 ws Φ → w_law_row F_law_names F_law_take (startR n_law_row ws) ⟨fun _ => Φ (.d .none), Φ, fun _ => False, fun _ => False⟩) : Cl P w K mg base (k + 1) "_law_row" 4 F0 :=
  d.cl sc_law_row fun f cdv A outer s H hr hg => ⟨_, _, (mss_cons (ms_par2 4 5 sc_law_row.nd (mao_cons (me_callD (k := k) c_law_names hr hg l_law_names (ma_cons (me_var 0) (ma_cons (me_var 1) ma_nil))) (mao_cons (me_callD (k := k) c_law_names hr hg l_law_names (ma_cons (me_var 0) (ma_cons (me_var 2) ma_nil))) mao_nil)))
      (mss_cons (ms_setO 6 sc_law_row.nd (ml_lst ma_nil))
      (mss_cons (ms_for (mi_range1 z_range (ha := (ma_cons (me_callD (k := k) c_law_take hr hg l_law_take (ma_cons (me_var 0) (ma_cons (me_op om_add (me_var 3) me_int) ma_nil))) ma_nil))) (mg_name 7 sc_law_row.nd) (mss_cons (ms_set 8 sc_law_row.nd (me_tup (ma_cons (me_ix (me_var 4) (me_callD (k := k) c_law_take hr hg l_law_take (ma_cons (me_var 0) (ma_cons (me_var 1) ma_nil)))) (ma_cons (me_ix (me_var 5) (me_callD (k := k) c_law_take hr hg l_law_take (ma_cons (me_var 0) (ma_cons (me_var 2) ma_nil)))) ma_nil))))
      (mss_one (ms_app 6 (me_if (mt_w (mw_and (mt_lend 6 (mt_cmp (om_ne hr) (me_var 6) (me_fz (ml_lst ma_nil)))) (mw_and1 (mt_cmp (om_eq hr) (me_callD (k := k) c_law_take hr hg l_law_take (ma_cons (me_var 0) (ma_cons me_int ma_nil))) me_int)))) (me_ixO 6 (me_neg me_int)) (me_var 8))))))
      (mss_one (ms_frz 6 (ms_ret (me_var 6))))))), m⟩
abbrev s_law_closure : Stmt := topS 9
theorem sc_law_closure : FnScope n_law_closure ["row"] (defScope s_law_closure) := ⟨rfl, rfl, rfl, by decide +kernel, rfl, by decide +kernel, by decide +kernel⟩
theorem cl_law_closure {F0 : FW} {k : Nat} (d : Df K mg "_law_closure" s_law_closure ["row"]) (z_len : mg "len" = none) (z_range : mg "range" = none)
    (m : ∀ ws Φ, F0 ws Φ → w_law_closure (startR n_law_closure ws) ⟨fun _ => Φ (.d .none), Φ, fun _ => False, fun _ => False⟩) : Cl P w K mg base (k + 1) "_law_closure" 1 F0 :=
  d.cl sc_law_closure fun f cdv A outer s H hr hg => ⟨_, _, (mss_cons (ms_par2 1 2 sc_law_closure.nd (mao_consN (mn_l (ml_lst (ma_cons (me_var 0) ma_nil))) (mao_consN (mn_l (ml_lst (ma_cons (me_var 0) ma_nil))) mao_nil)))
      (mss_cons (ms_while (mt_lend 2 (mt_cmp (om_ne hr) (me_var 2) (me_fz (ml_lst ma_nil)))) (mss_cons (ms_popSet 2 3 sc_law_closure.nd)
      (mss_one (ms_for (mi_range1 z_range (ha := (ma_cons (me_op om_sub (me_callB cm_len z_len (ha := (ma_cons (me_var 3) ma_nil))) me_int) ma_nil))) (mg_name 4 sc_law_closure.nd) (mss_one (ms_if (mt_w (mw_and (mt_cmp (om_ne hr) (me_ix (me_ix (me_var 3) (me_var 4)) me_int) (me_ix (me_ix (me_var 3) (me_op om_add (me_var 4) me_int)) me_int)) (mw_and1 (mt_cmp (om_ne hr) (me_ix (me_ix (me_var 3) (me_var 4)) me_int) (me_ix (me_ix (me_var 3) (me_op om_add (me_var 4) me_int)) me_int))))) (mss_cons (ms_set 5 sc_law_closure.nd (me_op om_add (me_op om_add (me_slice (me_var 3) mp_none (mp_some (me_var 4))) (me_fz (ml_lst (ma_cons (me_ix (me_var 3) (me_op om_add (me_var 4) me_int)) (ma_cons (me_ix (me_var 3) (me_var 4)) ma_nil))))) (me_slice (me_var 3) (mp_some (me_op om_add (me_var 4) me_int)) mp_none)))
      (mss_one (ms_if (mt_lend 1 (mt_cmp (om_notin hr) (me_var 5) (me_var 1))) (mss_cons (ms_app 1 (me_var 5))
      (mss_one (ms_app 2 (me_var 5)))) mss_nil))) mss_nil))))))
      (mss_one (ms_frz 1 (ms_ret (me_var 1)))))), m⟩
abbrev s_law_other : Stmt := topS 10
theorem sc_law_other : FnScope n_law_other ["box", "row"] (defScope s_law_other) := ⟨rfl, rfl, rfl, by decide +kernel, rfl, by decide +kernel, by decide +kernel⟩
theorem cl_law_other {F_law_take : FW} {F0 : FW} {k : Nat} (d : Df K mg "_law_other" s_law_other ["box", "row"]) (z_len : mg "len" = none) (z_max : mg "max" = none) (z_list : mg "list" = none) (c_law_take : Cl P w K mg base k "_law_take" 2 F_law_take) (l_law_take : ∀ ws Φ, F_law_take ws Φ → ws.length = 2)
    (m : ∀ ws Φ, F0 ws Φ → w_law_other F_law_take (startR n_law_other ws) ⟨fun _ => Φ (.d .none), Φ, fun _ => False, fun _ => False⟩) : Cl P w K mg base (k + 1) "_law_other" 2 F0 :=
  d.cl sc_law_other fun f cdv A outer s H hr hg => ⟨_, _, (mss_cons (ms_par3 2 3 4 sc_law_other.nd (mao_cons (me_callD (k := k) c_law_take hr hg l_law_take (ma_cons (me_var 0) (ma_cons me_int ma_nil))) (mao_cons (me_callD (k := k) c_law_take hr hg l_law_take (ma_cons (me_var 0) (ma_cons (me_callB (cm_max2) z_max (ha := (ma_cons me_int (ma_cons (me_callB cm_len z_len (ha := (ma_cons (me_var 1) ma_nil))) ma_nil)))) ma_nil))) (mao_cons (me_callD (k := k) c_law_take hr hg l_law_take (ma_cons (me_var 0) (ma_cons (me_callB (cm_max2) z_max (ha := (ma_cons me_int (ma_cons (me_callB cm_len z_len (ha := (ma_cons (me_var 1) ma_nil))) ma_nil)))) ma_nil))) mao_nil))))
      (mss_cons (ms_if (mt_cmp (om_eq hr) (me_var 1) (me_fz (ml_lst ma_nil))) (mss_one (ms_ret (me_op om_mul (me_fz (ml_lst (ma_cons (me_tup (ma_cons me_str (ma_cons me_str ma_nil))) ma_nil))) (me_var 2)))) mss_nil)
      (mss_cons (ms_setO 5 sc_law_other.nd (ml_callT (cm_list) z_list (ha := (ma_cons (me_var 1) ma_nil))))
      (mss_cons (ms_if (mt_cmp (om_eq hr) (me_var 2) me_int) (mss_one (ms_set2 5 (ma_cons (me_ix (me_var 1) (me_var 4)) (ma_cons (me_ix (me_var 1) (me_var 3)) ma_nil)) (me_var 3) (me_var 4))) (mss_one (ms_if (mt_cmp (om_eq hr) (me_var 2) me_int) (mss_one (ms_setI 5 (me_ix (me_var 1) (me_var 4)) (me_var 3))) (mss_one (ms_if (mt_cmp (om_eq hr) (me_var 2) me_int) (mss_one (ms_setI 5 (me_tup (ma_cons (me_ix (me_ix (me_var 1) (me_var 4)) me_int) (ma_cons (me_ix (me_ix (me_var 1) (me_var 3)) me_int) ma_nil))) (me_var 3))) (mss_one (ms_if (mt_cmp (om_eq hr) (me_var 2) me_int) (mss_one (ms_set 5 sc_law_other.nd (me_op om_add (me_slice (me_var 1) mp_none (mp_some (me_var 3))) (me_slice (me_var 1) (mp_some (me_op om_add (me_var 3) me_int)) mp_none)))) (mss_one (ms_if (mt_cmp (om_eq hr) (me_var 2) me_int) (mss_one (ms_set 5 sc_law_other.nd (me_op om_add (me_op om_add (me_slice (me_var 1) mp_none (mp_some (me_var 3))) (me_slice (me_var 1) (mp_some (me_var 3)) (mp_some (me_op om_add (me_var 3) me_int)))) (me_slice (me_var 1) (mp_some (me_var 3)) mp_none)))) (mss_one (ms_setO 5 sc_law_other.nd (ml_rev (me_var 1)))))))))))))
      (mss_one (ms_frz 5 (ms_ret (me_var 5)))))))), m⟩
abbrev s_law_last_walker_right : Stmt := topS 11
theorem sc_law_last_walker_right : FnScope n_law_last_walker_right ["box"] (defScope s_law_last_walker_right) := ⟨rfl, rfl, rfl, by decide +kernel, rfl, by decide +kernel, by decide +kernel⟩
theorem cl_law_last_walker_right {F_law_take : FW} {F_law_names : FW} {F_same_history : FW} {F0 : FW} {k : Nat} (d : Df K mg "_law_last_walker_right" s_law_last_walker_right ["box"]) (z_zip : mg "zip" = none) (c_law_take : Cl P w K mg base k "_law_take" 2 F_law_take) (l_law_take : ∀ ws Φ, F_law_take ws Φ → ws.length = 2) (c_law_names : Cl P w K mg base k "_law_names" 2 F_law_names) (l_law_names : ∀ ws Φ, F_law_names ws Φ → ws.length = 2) (c_same_history : Cl P w K mg base k "same_history" 2 F_same_history) (l_same_history : ∀ ws Φ, F_same_history ws Φ → ws.length = 2)
    (m : ∀ ws Φ, F0 ws Φ → w_law_last_walker_right F_law_take F_law_names F_same_history (startR n_law_last_walker_right ws) ⟨fun _ => Φ (.d .none), Φ, fun _ => False, fun _ => False⟩) : Cl P w K mg base (k + 1) "_law_last_walker_right" 1 F0 :=
  d.cl sc_law_last_walker_right fun f cdv A outer s H hr hg => ⟨_, _, (mss_cons (ms_set 1 sc_law_last_walker_right.nd (me_op om_add me_int (me_callD (k := k) c_law_take hr hg l_law_take (ma_cons (me_var 0) (ma_cons me_int ma_nil)))))
      (mss_cons (ms_par2 2 3 sc_law_last_walker_right.nd (mao_cons (me_callD (k := k) c_law_names hr hg l_law_names (ma_cons (me_var 0) (ma_cons (me_var 1) ma_nil))) (mao_cons (me_callD (k := k) c_law_names hr hg l_law_names (ma_cons (me_var 0) (ma_cons me_int ma_nil))) mao_nil)))
      (mss_cons (ms_setLc 4 [("name", 11), ("title", 12)] sc_law_last_walker_right.nd (mi_zip z_zip (ha := (ma_cons (me_var 2) (ma_cons (me_var 3) ma_nil)))) (blkOk_by (own := [("name", 11), ("title", 12)]) (N := n_law_last_walker_right) (sc := defScope s_law_last_walker_right) (by decide +kernel)) (fun _ _ _ _ _ => ⟨_, (mg_tup (mgs_cons (mg_name 11 sc_law_last_walker_right.nd) (mgs_cons (mg_name 12 sc_law_last_walker_right.nd) mgs_nil)))⟩) (fun _ _ _ _ _ => ⟨_, mts_nil⟩) (fun _ _ _ _ _ => ⟨_, (me_tup (ma_cons (me_var 11) (ma_cons (me_var 12) ma_nil)))⟩))
      (mss_cons (ms_par2 5 6 sc_law_last_walker_right.nd (mao_cons (me_callD (k := k) c_law_take hr hg l_law_take (ma_cons (me_var 0) (ma_cons (me_var 1) ma_nil))) (mao_cons me_str mao_nil)))
      (mss_cons (ms_set 7 sc_law_last_walker_right.nd (me_op om_add (me_op om_add (me_slice (me_var 4) mp_none (mp_some (me_var 5))) (me_slice (me_var 4) (mp_some (me_op om_add (me_var 5) me_int)) mp_none)) (me_fz (ml_lst (ma_cons (me_ix (me_var 4) (me_var 5)) (ma_cons (me_tup (ma_cons (me_ix (me_var 2) (me_var 5)) (ma_cons (me_var 6) ma_nil))) ma_nil))))))
      (mss_cons (ms_set 8 sc_law_last_walker_right.nd (me_op om_add (me_op om_add (me_slice (me_var 4) mp_none (mp_some (me_var 5))) (me_slice (me_var 4) (mp_some (me_op om_add (me_var 5) me_int)) mp_none)) (me_fz (ml_lst (ma_cons (me_tup (ma_cons (me_ix (me_var 2) (me_var 5)) (ma_cons (me_var 6) ma_nil))) (ma_cons (me_ix (me_var 4) (me_var 5)) ma_nil))))))
      (mss_cons (ms_set 9 sc_law_last_walker_right.nd (me_op om_add (me_fz (ml_lst (ma_cons (me_ix (me_var 4) (me_var 5)) (ma_cons (me_tup (ma_cons (me_ix (me_var 2) (me_var 5)) (ma_cons (me_var 6) ma_nil))) ma_nil)))) (me_slice (me_var 7) mp_none (mp_some (me_neg me_int)))))
      (mss_cons (ms_if (mt_w (mw_or (mt_cmp om_isnot (me_callD (k := k) c_same_history hr hg l_same_history (ma_cons (me_var 7) (ma_cons (me_var 8) ma_nil))) me_bl) (mw_or1 (mt_cmp om_isnot (me_callD (k := k) c_same_history hr hg l_same_history (ma_cons (me_var 7) (ma_cons (me_var 9) ma_nil))) me_bl)))) (mss_one (ms_ret me_bl)) mss_nil)
      (mss_cons (ms_set 10 sc_law_last_walker_right.nd (me_fz (ml_lst (ma_cons (me_tup (ma_cons (me_ix (me_var 2) (me_var 5)) (ma_cons (me_var 6) ma_nil))) (ma_cons (me_tup (ma_cons (me_ix (me_var 2) (me_op om_sub (me_var 5) me_int)) (ma_cons (me_var 6) ma_nil))) ma_nil)))))
      (mss_one (ms_ret (me_cmp om_is (me_callD (k := k) c_same_history hr hg l_same_history (ma_cons (me_op om_add (me_var 4) (me_var 10)) (ma_cons (me_op om_add (me_var 4) (me_fz (ml_rev (me_var 10)))) ma_nil))) me_bl)))))))))))), m⟩
abbrev s_law : Stmt := topS 12
theorem sc_law : FnScope n_law ["script"] (defScope s_law) := ⟨rfl, rfl, rfl, by decide +kernel, rfl, by decide +kernel, by decide +kernel⟩
theorem fn_law {F_law_box : FW} {F_law_last_walker_right : FW} {F_law_take : FW} {F_law_row : FW} {F_law_closure : FW} {F_law_other : FW} {F_same_history : FW} {F0 : FW} {k : Nat} {f : Addr} {fd : FuncData} (d : Fun K "law" "law" s_law f fd) (z_len : mg "len" = none) (z_min : mg "min" = none) (z_max : mg "max" = none) (z_range : mg "range" = none) (z_repr : mg "repr" = none) (z_tuple : mg "tuple" = none) (z_isinstance : mg "isinstance" = none) (z_bool : mg "bool" = none) (c_law_box : Cl P w K mg base k "_law_box" 2 F_law_box) (l_law_box : ∀ ws Φ, F_law_box ws Φ → ws.length = 2) (c_law_last_walker_right : Cl P w K mg base k "_law_last_walker_right" 1 F_law_last_walker_right) (l_law_last_walker_right : ∀ ws Φ, F_law_last_walker_right ws Φ → ws.length = 1) (c_law_take : Cl P w K mg base k "_law_take" 2 F_law_take) (l_law_take : ∀ ws Φ, F_law_take ws Φ → ws.length = 2) (c_law_row : Cl P w K mg base k "_law_row" 4 F_law_row) (l_law_row : ∀ ws Φ, F_law_row ws Φ → ws.length = 4) (c_law_closure : Cl P w K mg base k "_law_closure" 1 F_law_closure) (l_law_closure : ∀ ws Φ, F_law_closure ws Φ → ws.length = 1) (c_law_other : Cl P w K mg base k "_law_other" 2 F_law_other) (l_law_other : ∀ ws Φ, F_law_other ws Φ → ws.length = 2) (c_same_history : Cl P w K mg base k "same_history" 2 F_same_history) (l_same_history : ∀ ws Φ, F_same_history ws Φ → ws.length = 2)
    (m : ∀ ws Φ, F0 ws Φ → w_law F_law_box F_law_last_walker_right F_law_take F_law_row F_law_closure F_law_other F_same_history (startR n_law ws) ⟨fun _ => Φ (.d .none), Φ, fun _ => False, fun _ => False⟩) : FnG P w K mg base (k + 1) f fd ["script"] F0 :=
  fn_g d sc_law fun cdv A outer s H hr hg => ⟨_, _, (mss_cons (ms_for (mi_range1 z_range (ha := (ma_cons (me_callB (cm_max2) z_max (ha := (ma_cons me_int (ma_cons (me_callB (cm_min2) z_min (ha := (ma_cons me_int (ma_cons (me_callB cm_len z_len (ha := (ma_cons (me_var 0) ma_nil))) ma_nil)))) ma_nil)))) ma_nil))) (mg_name 1 sc_law.nd) (mss_cons (ms_setC 2 sc_law.nd (k := k) c_law_box hr hg l_law_box (ma_cons (me_var 0) (ma_cons (me_var 1) ma_nil)))
      (mss_cons (ms_if (mt_not (mt_val (me_callD (k := k) c_law_last_walker_right hr hg l_law_last_walker_right (ma_cons (me_var 2) ma_nil)))) (mss_one (ms_ret me_bl)) mss_nil)
      (mss_cons (ms_set 3 sc_law.nd (me_callD (k := k) c_law_row hr hg l_law_row (ma_cons (me_var 2) (ma_cons (me_op om_add me_int (me_callD (k := k) c_law_take hr hg l_law_take (ma_cons (me_var 2) (ma_cons me_int ma_nil)))) (ma_cons (me_op om_add me_int (me_callD (k := k) c_law_take hr hg l_law_take (ma_cons (me_var 2) (ma_cons me_int ma_nil)))) (ma_cons me_int ma_nil))))))
      (mss_cons (ms_set 4 sc_law.nd (me_callD (k := k) c_law_closure hr hg l_law_closure (ma_cons (me_var 3) ma_nil)))
      (mss_cons (ms_setOLc 5 [("turn", 6)] sc_law.nd (mi_range1 z_range (ha := (ma_cons me_int ma_nil))) (blkOk_by (own := [("turn", 6)]) (N := n_law) (sc := defScope s_law) (by decide +kernel)) (fun _ _ _ _ _ => ⟨_, (mg_name 6 sc_law.nd)⟩) (fun _ _ _ _ _ => ⟨_, mts_nil⟩) (fun _ _ _ _ _ => ⟨_, (me_ix (me_var 4) (me_callD (k := k) c_law_take hr hg l_law_take (ma_cons (me_var 2) (ma_cons (me_callB cm_len z_len (ha := (ma_cons (me_var 4) ma_nil))) ma_nil))))⟩))
      (mss_cons (ms_for (mi_range1 z_range (ha := (ma_cons me_int ma_nil))) (mg_name 6 sc_law.nd) (mss_one (ms_app 5 (me_slice (me_callD (k := k) c_law_other hr hg l_law_other (ma_cons (me_var 2) (ma_cons (me_ixO 5 (me_callD (k := k) c_law_take hr hg l_law_take (ma_cons (me_var 2) (ma_cons (me_lend 5 (me_callB cm_len z_len (ha := (ma_cons (me_var 5) ma_nil)))) ma_nil)))) ma_nil))) mp_none (mp_some me_int)))))
      (mss_cons (ms_set 7 sc_law.nd (me_lend 5 (me_callB (cm_repr hr hg) z_repr (ha := (ma_cons (me_tup (ma_cons (me_var 3) (ma_cons (me_var 5) ma_nil))) ma_nil)))))
      (mss_cons (ms_frz 5 (ms_for (mi_seq (me_op om_add (me_var 5) (me_fz (ml_lst (ma_cons (me_var 3) ma_nil))))) (mg_name 8 sc_law.nd) (mss_cons (ms_set 9 sc_law.nd (me_ix (me_fz (ml_lst (ma_cons (me_var 3) (ma_cons (me_callT cm_tuple z_tuple (ha := (ma_cons (me_var 3) ma_nil))) ma_nil)))) (me_callD (k := k) c_law_take hr hg l_law_take (ma_cons (me_var 2) (ma_cons me_int ma_nil)))))
      (mss_cons (ms_set 10 sc_law.nd (me_ix (me_fz (ml_lst (ma_cons (me_var 8) (ma_cons (me_callT cm_tuple z_tuple (ha := (ma_cons (me_var 8) ma_nil))) ma_nil)))) (me_callD (k := k) c_law_take hr hg l_law_take (ma_cons (me_var 2) (ma_cons me_int ma_nil)))))
      (mss_cons (ms_set 11 sc_law.nd (me_cmp (om_ne hr) (me_fz (ml_lcX [("there", 12)] sc_law.nd (mi_seq (me_var 4)) (blkOk_by (own := [("there", 12)]) (N := n_law) (sc := defScope s_law) (by decide +kernel)) (fun _ _ _ _ _ => ⟨_, (mg_name 12 sc_law.nd)⟩) (fun _ _ _ _ _ => ⟨_, (mts_one (mt_cmp (om_eq hr) (me_var 12) (me_var 8)))⟩) (fun _ _ _ _ _ => ⟨_, me_int⟩))) (me_fz (ml_lst ma_nil))))
      (mss_cons (ms_if (mt_w (mw_or (mt_cmp (om_ne hr) (me_fz (ml_lst (ma_cons (me_callD (k := k) c_same_history hr hg l_same_history (ma_cons (me_var 9) (ma_cons (me_var 10) ma_nil))) (ma_cons (me_callD (k := k) c_same_history hr hg l_same_history (ma_cons (me_var 10) (ma_cons (me_var 9) ma_nil))) ma_nil)))) (me_fz (ml_lst (ma_cons (me_var 11) (ma_cons (me_var 11) ma_nil))))) (mw_or1 (mt_cmp om_isnot (me_callD (k := k) c_same_history hr hg l_same_history (ma_cons (me_var 9) (ma_cons (me_var 9) ma_nil))) me_bl)))) (mss_one (ms_ret me_bl)) mss_nil)
      (mss_one (ms_if (mt_not (mt_val (me_isi .bool (he := (me_callD (k := k) c_same_history hr hg l_same_history (ma_cons (me_var 10) (ma_cons (me_var 9) ma_nil)))) (hm := z_isinstance) (hm1 := z_bool)))) (mss_one (ms_ret me_bl)) mss_nil))))))))
      (mss_one (ms_if (mt_cmp om_neRp (me_lend 5 (me_callB (cm_repr hr hg) z_repr (ha := (ma_cons (me_tup (ma_cons (me_var 3) (ma_cons (me_var 5) ma_nil))) ma_nil)))) (me_var 7)) (mss_one (ms_ret me_bl)) mss_nil)))))))))))
      (mss_one (ms_ret me_bl))), m⟩
end
end Pd
end

section
set_option Elab.async false
set_option linter.all false
set_option maxRecDepth 100000
set_option autoImplicit false
set_option maxHeartbeats 4000000
namespace Pd
open PySem PySem.Spec PyProof.Rows L2
theorem all_k17 {P : Program} {w : World} {K : PySem.W.Frag} {mg : Str → Option Value} {base : Heap} {fa : Addr} {fd : FuncData}
    (d_grouped : Df K mg "grouped" s_grouped ["pairs"])
    (d_projections : Df K mg "projections" s_projections ["row"])
    (d_same_history : Df K mg "same_history" s_same_history ["one", "other"])
    (d_law_box : Df K mg "_law_box" s_law_box ["script", "k"])
    (d_law_take : Df K mg "_law_take" s_law_take ["box", "many"])
    (d_law_names : Df K mg "_law_names" s_law_names ["box", "many"])
    (d_law_row : Df K mg "_law_row" s_law_row ["box", "walkers", "doors", "many"])
    (d_law_closure : Df K mg "_law_closure" s_law_closure ["row"])
    (d_law_other : Df K mg "_law_other" s_law_other ["box", "row"])
    (d_law_last_walker_right : Df K mg "_law_last_walker_right" s_law_last_walker_right ["box"])
    (d_law : Fun K "law" "law" s_law fa fd)
    (z_sorted : mg "sorted" = none)
    (z_tuple : mg "tuple" = none)
    (z_len : mg "len" = none)
    (z_int : mg "int" = none)
    (z_range : mg "range" = none)
    (z_max : mg "max" = none)
    (z_list : mg "list" = none)
    (z_zip : mg "zip" = none)
    (z_min : mg "min" = none)
    (z_repr : mg "repr" = none)
    (z_isinstance : mg "isinstance" = none)
    (z_bool : mg "bool" = none)
    : FnG P w K mg base 5 fa fd ["script"] (FLaw 63) := by
  have c_grouped : Cl P w K mg base 1 "grouped" 1 (F_grouped) := cl_grouped (k := 0) d_grouped z_sorted z_tuple  (m_grouped)
  have c_projections : Cl P w K mg base 2 "projections" 1 (F_projections) := cl_projections (k := 1) d_projections  (c_grouped.mono (by decide)) (l_grouped) (m_projections)
  have c_same_history : Cl P w K mg base 3 "same_history" 2 (F_same_history) := cl_same_history (k := 2) d_same_history  (c_projections.mono (by decide)) (l_projections) (m_same_history)
  have c_law_box : Cl P w K mg base 1 "_law_box" 2 (F_law_box) := cl_law_box (k := 0) d_law_box z_len z_int  (m_law_box)
  have c_law_take : Cl P w K mg base 1 "_law_take" 2 (F_law_take) := cl_law_take (k := 0) d_law_take   (m_law_take)
  have c_law_names : Cl P w K mg base 2 "_law_names" 2 (F_law_names) := cl_law_names (k := 1) d_law_names z_range z_int z_len (c_law_take.mono (by decide)) (l_law_take) (m_law_names)
  have c_law_row : Cl P w K mg base 3 "_law_row" 4 (F_law_row) := cl_law_row (k := 2) d_law_row z_range (c_law_names.mono (by decide)) (l_law_names) (c_law_take.mono (by decide)) (l_law_take) (m_law_row)
  have c_law_closure : Cl P w K mg base 1 "_law_closure" 1 (F_law_closure) := cl_law_closure (k := 0) d_law_closure z_len z_range  (m_law_closure)
  have c_law_other : Cl P w K mg base 2 "_law_other" 2 (F_law_other) := cl_law_other (k := 1) d_law_other z_len z_max z_list (c_law_take.mono (by decide)) (l_law_take) (m_law_other)
  have c_law_last_walker_right : Cl P w K mg base 4 "_law_last_walker_right" 1 (F_law_last_walker_right) := cl_law_last_walker_right (k := 3) d_law_last_walker_right z_zip (c_law_take.mono (by decide)) (l_law_take) (c_law_names.mono (by decide)) (l_law_names) (c_same_history.mono (by decide)) (l_same_history) (m_law_last_walker_right)
  exact fn_law (k := 4) d_law z_len z_min z_max z_range z_repr z_tuple z_isinstance z_bool (c_law_box.mono (by decide)) (l_law_box) (c_law_last_walker_right.mono (by decide)) (l_law_last_walker_right) (c_law_take.mono (by decide)) (l_law_take) (c_law_row.mono (by decide)) (l_law_row) (c_law_closure.mono (by decide)) (l_law_closure) (c_law_other.mono (by decide)) (l_law_other) (c_same_history.mono (by decide)) (l_same_history) (m_law)
theorem mk_k17 {l : PySem.W.OpenLaw} {w : World} {K : PySem.W.Frag} {h : Heap} {mg : Str → Option Value} {fa : Addr} (X : K.In h) (G : h.Ns mainGlobals mg) (hfa : mg "law" = some (.ref fa))
    {f0 : Addr} {od0 an0 : Option Addr} {sl0 : Array (Option Value)} {oc0 kV0 dc0 pm0 cd0 ct0 : Value}
    (a0 : PySem.W.nsIn K mainGlobals "grouped" = some (some (.ref f0))) (l0 : K.lookup f0 = some ⟨oc0, od0, .func (PySem.W.fnOf "grouped" "grouped" (defArgs s_grouped) (defBody s_grouped) (defScope s_grouped) .none kV0 dc0 pm0 an0 cd0 ct0), sl0⟩) (c0 : PySem.W.codeIn K cd0 "grouped" = true) (k0 : PySem.W.keepIn K (.ref f0) = true)
    {f1 : Addr} {od1 an1 : Option Addr} {sl1 : Array (Option Value)} {oc1 kV1 dc1 pm1 cd1 ct1 : Value}
    (a1 : PySem.W.nsIn K mainGlobals "projections" = some (some (.ref f1))) (l1 : K.lookup f1 = some ⟨oc1, od1, .func (PySem.W.fnOf "projections" "projections" (defArgs s_projections) (defBody s_projections) (defScope s_projections) .none kV1 dc1 pm1 an1 cd1 ct1), sl1⟩) (c1 : PySem.W.codeIn K cd1 "projections" = true) (k1 : PySem.W.keepIn K (.ref f1) = true)
    {f2 : Addr} {od2 an2 : Option Addr} {sl2 : Array (Option Value)} {oc2 kV2 dc2 pm2 cd2 ct2 : Value}
    (a2 : PySem.W.nsIn K mainGlobals "same_history" = some (some (.ref f2))) (l2 : K.lookup f2 = some ⟨oc2, od2, .func (PySem.W.fnOf "same_history" "same_history" (defArgs s_same_history) (defBody s_same_history) (defScope s_same_history) .none kV2 dc2 pm2 an2 cd2 ct2), sl2⟩) (c2 : PySem.W.codeIn K cd2 "same_history" = true) (k2 : PySem.W.keepIn K (.ref f2) = true)
    {f3 : Addr} {od3 an3 : Option Addr} {sl3 : Array (Option Value)} {oc3 kV3 dc3 pm3 cd3 ct3 : Value}
    (a3 : PySem.W.nsIn K mainGlobals "_law_box" = some (some (.ref f3))) (l3 : K.lookup f3 = some ⟨oc3, od3, .func (PySem.W.fnOf "_law_box" "_law_box" (defArgs s_law_box) (defBody s_law_box) (defScope s_law_box) .none kV3 dc3 pm3 an3 cd3 ct3), sl3⟩) (c3 : PySem.W.codeIn K cd3 "_law_box" = true) (k3 : PySem.W.keepIn K (.ref f3) = true)
    {f4 : Addr} {od4 an4 : Option Addr} {sl4 : Array (Option Value)} {oc4 kV4 dc4 pm4 cd4 ct4 : Value}
    (a4 : PySem.W.nsIn K mainGlobals "_law_take" = some (some (.ref f4))) (l4 : K.lookup f4 = some ⟨oc4, od4, .func (PySem.W.fnOf "_law_take" "_law_take" (defArgs s_law_take) (defBody s_law_take) (defScope s_law_take) .none kV4 dc4 pm4 an4 cd4 ct4), sl4⟩) (c4 : PySem.W.codeIn K cd4 "_law_take" = true) (k4 : PySem.W.keepIn K (.ref f4) = true)
    {f5 : Addr} {od5 an5 : Option Addr} {sl5 : Array (Option Value)} {oc5 kV5 dc5 pm5 cd5 ct5 : Value}
    (a5 : PySem.W.nsIn K mainGlobals "_law_names" = some (some (.ref f5))) (l5 : K.lookup f5 = some ⟨oc5, od5, .func (PySem.W.fnOf "_law_names" "_law_names" (defArgs s_law_names) (defBody s_law_names) (defScope s_law_names) .none kV5 dc5 pm5 an5 cd5 ct5), sl5⟩) (c5 : PySem.W.codeIn K cd5 "_law_names" = true) (k5 : PySem.W.keepIn K (.ref f5) = true)
    {f6 : Addr} {od6 an6 : Option Addr} {sl6 : Array (Option Value)} {oc6 kV6 dc6 pm6 cd6 ct6 : Value}
    (a6 : PySem.W.nsIn K mainGlobals "_law_row" = some (some (.ref f6))) (l6 : K.lookup f6 = some ⟨oc6, od6, .func (PySem.W.fnOf "_law_row" "_law_row" (defArgs s_law_row) (defBody s_law_row) (defScope s_law_row) .none kV6 dc6 pm6 an6 cd6 ct6), sl6⟩) (c6 : PySem.W.codeIn K cd6 "_law_row" = true) (k6 : PySem.W.keepIn K (.ref f6) = true)
    {f7 : Addr} {od7 an7 : Option Addr} {sl7 : Array (Option Value)} {oc7 kV7 dc7 pm7 cd7 ct7 : Value}
    (a7 : PySem.W.nsIn K mainGlobals "_law_closure" = some (some (.ref f7))) (l7 : K.lookup f7 = some ⟨oc7, od7, .func (PySem.W.fnOf "_law_closure" "_law_closure" (defArgs s_law_closure) (defBody s_law_closure) (defScope s_law_closure) .none kV7 dc7 pm7 an7 cd7 ct7), sl7⟩) (c7 : PySem.W.codeIn K cd7 "_law_closure" = true) (k7 : PySem.W.keepIn K (.ref f7) = true)
    {f8 : Addr} {od8 an8 : Option Addr} {sl8 : Array (Option Value)} {oc8 kV8 dc8 pm8 cd8 ct8 : Value}
    (a8 : PySem.W.nsIn K mainGlobals "_law_other" = some (some (.ref f8))) (l8 : K.lookup f8 = some ⟨oc8, od8, .func (PySem.W.fnOf "_law_other" "_law_other" (defArgs s_law_other) (defBody s_law_other) (defScope s_law_other) .none kV8 dc8 pm8 an8 cd8 ct8), sl8⟩) (c8 : PySem.W.codeIn K cd8 "_law_other" = true) (k8 : PySem.W.keepIn K (.ref f8) = true)
    {f9 : Addr} {od9 an9 : Option Addr} {sl9 : Array (Option Value)} {oc9 kV9 dc9 pm9 cd9 ct9 : Value}
    (a9 : PySem.W.nsIn K mainGlobals "_law_last_walker_right" = some (some (.ref f9))) (l9 : K.lookup f9 = some ⟨oc9, od9, .func (PySem.W.fnOf "_law_last_walker_right" "_law_last_walker_right" (defArgs s_law_last_walker_right) (defBody s_law_last_walker_right) (defScope s_law_last_walker_right) .none kV9 dc9 pm9 an9 cd9 ct9), sl9⟩) (c9 : PySem.W.codeIn K cd9 "_law_last_walker_right" = true) (k9 : PySem.W.keepIn K (.ref f9) = true)
    {f10 : Addr} {od10 an10 : Option Addr} {sl10 : Array (Option Value)} {oc10 kV10 dc10 pm10 cd10 ct10 : Value}
    (a10 : PySem.W.nsIn K mainGlobals "law" = some (some (.ref f10))) (l10 : K.lookup f10 = some ⟨oc10, od10, .func (PySem.W.fnOf "law" "law" (defArgs s_law) (defBody s_law) (defScope s_law) .none kV10 dc10 pm10 an10 cd10 ct10), sl10⟩) (c10 : PySem.W.codeIn K cd10 "law" = true) (k10 : PySem.W.keepIn K (.ref f10) = true)
    (b0 : PySem.W.nsIn K mainGlobals "sorted" = some none)
    (b1 : PySem.W.nsIn K mainGlobals "tuple" = some none)
    (b2 : PySem.W.nsIn K mainGlobals "len" = some none)
    (b3 : PySem.W.nsIn K mainGlobals "int" = some none)
    (b4 : PySem.W.nsIn K mainGlobals "range" = some none)
    (b5 : PySem.W.nsIn K mainGlobals "max" = some none)
    (b6 : PySem.W.nsIn K mainGlobals "list" = some none)
    (b7 : PySem.W.nsIn K mainGlobals "zip" = some none)
    (b8 : PySem.W.nsIn K mainGlobals "min" = some none)
    (b9 : PySem.W.nsIn K mainGlobals "repr" = some none)
    (b10 : PySem.W.nsIn K mainGlobals "isinstance" = some none)
    (b11 : PySem.W.nsIn K mainGlobals "bool" = some none)
    : ∃ fd : FuncData, (∀ (s : Shared) (v : Value), BindsTo s fd ⟨[v], []⟩ [("script", v)]) ∧ ∀ base : Heap, K.In base → base.Ns mainGlobals mg → FnG l.prog w K mg base 5 fa fd ["script"] (FLaw 63) := by
  have e := hfa.symm.trans (PySem.W.mg_of X G a10)
  cases e
  have F0 := fun_mk (st := s_grouped) l0 c0 k0
  have D0 : Df K mg "grouped" s_grouped ["pairs"] := ⟨_, _, F0, PySem.W.mg_of X G a0, F0.binds (ps := ["pairs"]) fun _ _ _ _ _ _ us hl => match us, hl with | [_], _ => rfl⟩
  have F1 := fun_mk (st := s_projections) l1 c1 k1
  have D1 : Df K mg "projections" s_projections ["row"] := ⟨_, _, F1, PySem.W.mg_of X G a1, F1.binds (ps := ["row"]) fun _ _ _ _ _ _ us hl => match us, hl with | [_], _ => rfl⟩
  have F2 := fun_mk (st := s_same_history) l2 c2 k2
  have D2 : Df K mg "same_history" s_same_history ["one", "other"] := ⟨_, _, F2, PySem.W.mg_of X G a2, F2.binds (ps := ["one", "other"]) fun _ _ _ _ _ _ us hl => match us, hl with | [_, _], _ => rfl⟩
  have F3 := fun_mk (st := s_law_box) l3 c3 k3
  have D3 : Df K mg "_law_box" s_law_box ["script", "k"] := ⟨_, _, F3, PySem.W.mg_of X G a3, F3.binds (ps := ["script", "k"]) fun _ _ _ _ _ _ us hl => match us, hl with | [_, _], _ => rfl⟩
  have F4 := fun_mk (st := s_law_take) l4 c4 k4
  have D4 : Df K mg "_law_take" s_law_take ["box", "many"] := ⟨_, _, F4, PySem.W.mg_of X G a4, F4.binds (ps := ["box", "many"]) fun _ _ _ _ _ _ us hl => match us, hl with | [_, _], _ => rfl⟩
  have F5 := fun_mk (st := s_law_names) l5 c5 k5
  have D5 : Df K mg "_law_names" s_law_names ["box", "many"] := ⟨_, _, F5, PySem.W.mg_of X G a5, F5.binds (ps := ["box", "many"]) fun _ _ _ _ _ _ us hl => match us, hl with | [_, _], _ => rfl⟩
  have F6 := fun_mk (st := s_law_row) l6 c6 k6
  have D6 : Df K mg "_law_row" s_law_row ["box", "walkers", "doors", "many"] := ⟨_, _, F6, PySem.W.mg_of X G a6, F6.binds (ps := ["box", "walkers", "doors", "many"]) fun _ _ _ _ _ _ us hl => match us, hl with | [_, _, _, _], _ => rfl⟩
  have F7 := fun_mk (st := s_law_closure) l7 c7 k7
  have D7 : Df K mg "_law_closure" s_law_closure ["row"] := ⟨_, _, F7, PySem.W.mg_of X G a7, F7.binds (ps := ["row"]) fun _ _ _ _ _ _ us hl => match us, hl with | [_], _ => rfl⟩
  have F8 := fun_mk (st := s_law_other) l8 c8 k8
  have D8 : Df K mg "_law_other" s_law_other ["box", "row"] := ⟨_, _, F8, PySem.W.mg_of X G a8, F8.binds (ps := ["box", "row"]) fun _ _ _ _ _ _ us hl => match us, hl with | [_, _], _ => rfl⟩
  have F9 := fun_mk (st := s_law_last_walker_right) l9 c9 k9
  have D9 : Df K mg "_law_last_walker_right" s_law_last_walker_right ["box"] := ⟨_, _, F9, PySem.W.mg_of X G a9, F9.binds (ps := ["box"]) fun _ _ _ _ _ _ us hl => match us, hl with | [_], _ => rfl⟩
  have F10 := fun_mk (st := s_law) l10 c10 k10
  exact ⟨PySem.W.fnOf "law" "law" (defArgs s_law) (defBody s_law) (defScope s_law) .none kV10 dc10 pm10 an10 cd10 ct10, fun s v => .of_eq rfl, fun base _ _ => all_k17 D0 D1 D2 D3 D4 D5 D6 D7 D8 D9 F10 (PySem.W.mg_none_of X G b0) (PySem.W.mg_none_of X G b1) (PySem.W.mg_none_of X G b2) (PySem.W.mg_none_of X G b3) (PySem.W.mg_none_of X G b4) (PySem.W.mg_none_of X G b5) (PySem.W.mg_none_of X G b6) (PySem.W.mg_none_of X G b7) (PySem.W.mg_none_of X G b8) (PySem.W.mg_none_of X G b9) (PySem.W.mg_none_of X G b10) (PySem.W.mg_none_of X G b11)⟩
end Pd
open PySem PySem.W PyProof.Rows
set_option maxHeartbeats 0 in
theorem PySem.Challenge.cw_turndoors_k17_same_history_by_exchanges_holds : PySem.Challenge.rw_turndoors_k17_same_history_by_exchanges.Holds := by
  w_on; o_law; k_head; (case hw => w_witness2)
  k_fill
  refine Pd.head_of (l := PySem.Challenge.rw_turndoors_k17_same_history_by_exchanges) (n := 63) (k := 5) (x := "script") rfl (by decide) rfl ⟨rfl, by decide, by decide⟩ (fun w h Y => PySem.W.kIn_of Y) ?F
  case F =>
    intro w mg fa h KX G hmg
    refine' Pd.mk_k17 KX G hmg ?a0 ?l0 ?c0 ?k0 ?a1 ?l1 ?c1 ?k1 ?a2 ?l2 ?c2 ?k2 ?a3 ?l3 ?c3 ?k3 ?a4 ?l4 ?c4 ?k4 ?a5 ?l5 ?c5 ?k5 ?a6 ?l6 ?c6 ?k6 ?a7 ?l7 ?c7 ?k7 ?a8 ?l8 ?c8 ?k8 ?a9 ?l9 ?c9 ?k9 ?a10 ?l10 ?c10 ?k10 ?b0 ?b1 ?b2 ?b3 ?b4 ?b5 ?b6 ?b7 ?b8 ?b9 ?b10 ?b11
    (case a0 => k_is); (case l0 => k_is); (case c0 => k_is); (case k0 => k_is); (case a1 => k_is); (case l1 => k_is); (case c1 => k_is); (case k1 => k_is); (case a2 => k_is); (case l2 => k_is); (case c2 => k_is); (case k2 => k_is); (case a3 => k_is); (case l3 => k_is); (case c3 => k_is); (case k3 => k_is); (case a4 => k_is); (case l4 => k_is); (case c4 => k_is); (case k4 => k_is); (case a5 => k_is); (case l5 => k_is); (case c5 => k_is); (case k5 => k_is); (case a6 => k_is); (case l6 => k_is); (case c6 => k_is); (case k6 => k_is); (case a7 => k_is); (case l7 => k_is); (case c7 => k_is); (case k7 => k_is); (case a8 => k_is); (case l8 => k_is); (case c8 => k_is); (case k8 => k_is); (case a9 => k_is); (case l9 => k_is); (case c9 => k_is); (case k9 => k_is); (case a10 => k_is); (case l10 => k_is); (case c10 => k_is); (case k10 => k_is); (case b0 => k_is); (case b1 => k_is); (case b2 => k_is); (case b3 => k_is); (case b4 => k_is); (case b5 => k_is); (case b6 => k_is); (case b7 => k_is); (case b8 => k_is); (case b9 => k_is); (case b10 => k_is); (case b11 => k_is)
end
